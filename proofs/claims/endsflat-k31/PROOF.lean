import PyProof.Rows.All
import Wide.All
import OpenK.AllK
import Wide.FinOn
import HandS.ForMost
import HandS.ExcIs
import HandS.Exc
import HandS.TryOnly
import HandS.ExcOwn
import HandS.ExcInit
import HandS.ExcField
import HandS.HotCalls
import HandS.IsInst
import HandS.Conv
import HandS.Flow
import HandS.TupAny
import HandS.Style
import HandS.SetFor
import HandS.WordsExc
import KE.KExcIs
import HandS.Zip
import HandS.SetBool
import HandS.Strs
import HandS.Deep
import KE.GoesEnum
import KE.GoesMore
import KE.DataMinMax
import PySem.Challenge.RW_endsflat_k31_exchange_ends
set_option Elab.async false
set_option linter.all false
set_option maxRecDepth 100000
set_option maxHeartbeats 4000000

namespace EL
open PySem PySem.Spec PyProof.Rows L2
abbrev St := L2.St

/-! ### unions of rules -/
section
variable {X : Cx}
theorem piOr {tg it : Expr} {w1 w2 : TI} (h1 : PI X tg it w1) (h2 : PI X tg it w2) : PI X tg it (fun σ H R => w1 σ H R ∨ w2 σ H R) :=
  ⟨fun pins s σ H R I h => h.elim (h1.run pins s σ H R I) (h2.run pins s σ H R I)⟩
def iU (K : PySem.W.Frag) (tl : TE) : TI := fun σ H R => iList K tl σ H R ∨ iTup K tl σ H R
theorem pi_U {tg l : Expr} {tl : TE} (hl : PE X l tl) : PI X tg l (iU X.K tl) := piOr (pi_list hl) (pi_tup hl)
def rAddI : R2 := rI0 fun i j => .int (i + j)
def rAddS : R2 := fun x y H Q => ∃ i j, x = .str i ∧ y = .str j ∧ i.length + j.length ≤ sizeLine ∧ Q (.str (i ++ j)) H
def rAddU (K : PySem.W.Frag) : R2 := fun x y H Q => rAddI x y H Q ∨ rCat x y H Q ∨ rCatA K x y H Q ∨ rAddS x y H Q
theorem op_addU : OpR X (binaryOp .Add) (rAddU X.K) := OpR.or op_add (OpR.or op_cat (OpR.or op_catA op_add_str))
def rMulI : R2 := rI CMul fun i j => .int (i * j)
def rMulU : R2 := fun x y H Q => rMulI x y H Q ∨ rRep x y H Q
theorem op_mulU : OpR X (binaryOp .Mult) rMulU := OpR.or op_mul op_rep
def rModP : R2 := rI (fun _ j => 0 < j) fun i j => .int (i % j)
theorem op_modP : OpR X (binaryOp .Mod) rModP := op_mod
def rDivP : R2 := rI CDiv fun i j => .int (i / j)
theorem op_fdivP : OpR X (binaryOp .FloorDiv) rDivP := op_fdiv
def rEqU (K : PySem.W.Frag) : R2 := fun x y H Q => rEq x y H Q ∨ rEqD K x y H Q
def rNeU (K : PySem.W.Frag) : R2 := fun x y H Q => rNe x y H Q ∨ rNeD K x y H Q
theorem op_eqU {k : Nat} (hr : Room k X.A) : OpR X (compareOp .Eq) (rEqU X.K) := OpR.or op_eq (op_eqD hr.units)
theorem op_neU {k : Nat} (hr : Room k X.A) : OpR X (compareOp .NotEq) (rNeU X.K) := OpR.or op_ne (op_neD hr.units)
def rIsiU (K : PySem.W.Frag) : List V → Hp → VK → Prop := fun xs H Q => rIsi K xs H Q ∨ rIsiT K xs H Q
theorem call_isiU : CallR X (.builtin "isinstance") (rIsiU X.K) := CallR.or call_isi call_isiT
end

/-! ### the counter of the draws: a list of one int, which is not told -/
def cellO (a : Addr) : HO := .ext fun h => ∃ (i : Int) (t : Tok) (n : Nat), h.get? a = some { cls := .type "list", data := .seq #[.int i t] n }
section
variable {X : Cx} {pins : List (Addr × Obj)} {σ : St} {H : Hp} {s : Shared} {a : Addr}
theorem cell_close {i : Int} (I : Inv X pins σ H s) (h : H a = some (.lst [.int i])) : Inv X pins σ (upd H a (cellO a)) s := by
  obtain ⟨its, n, r, ho, hz⟩ := I.lst h
  cases r with
  | cons r1 r2 =>
    cases r2
    obtain ⟨t, rfl⟩ := r1
    refine I.write (x := a) (e := a) (t' := s.toks) (h' := s.heap) (by rw [h]; trivial) (.inl rfl) (fun b u _ q => q) ⟨_, ho⟩ ?_
    exact ⟨⟨i, t, n, ho⟩, ⟨_, ho⟩, fun h1 h2 q k => by
      obtain ⟨i', t', n', e⟩ := q
      exact ⟨i', t', n', k _ e⟩⟩
theorem cell_open (I : Inv X pins σ H s) (h : H a = some (cellO a)) : ∃ i : Int, Inv X pins σ (upd H a (.lst [.int i])) s := by
  obtain ⟨⟨i, t, n, e⟩, _, _⟩ := I.hok a _ h
  refine ⟨i, I.write (x := a) (e := a) (t' := s.toks) (h' := s.heap) (by rw [h]; trivial) (.inl rfl) (fun b u _ q => q) ⟨_, e⟩ ?_⟩
  exact ⟨by show 1 ≤ sizeLine; rw [sizeLine_eq]; omega, [.int i t], n, .cons ⟨t, rfl⟩ .nil, e⟩
theorem upd_id {o : HO} (h : H a = some o) : upd H a o = H := by
  funext b
  by_cases hb : b = a
  · rw [hb, upd_same, h]
  · rw [upd_ne hb]
theorem cell_back {i : Int} {o : HO} (h : H a = some (cellO a)) (I : Inv X pins σ (upd H a (.lst [.int i])) s) : Inv X pins σ H s := by
  have J := cell_close (a := a) I upd_same
  rw [upd_upd, upd_id h] at J
  exact J
end
section
variable {X : Cx}
def rIxC : R2 := fun x y H Q => ∃ a, x = .ref a ∧ y = .int 0 ∧ H a = some (cellO a) ∧ ∀ n, Q (.int n) H
theorem ix_cell : IxR X rIxC := by
  intro value slice pins s σ H x y v u Q I rx ry h hs
  obtain ⟨a, rfl, rfl, ha, q⟩ := h
  obtain ⟨i, J⟩ := cell_open I ha
  refine thn (ix_list value slice pins s σ _ _ _ v u (fun w H' => H' = upd H a (.lst [.int i]) ∧ w = .int i) J rx ry ⟨a, [.int i], 0, .int i, rfl, rfl, SqL.of upd_same, rfl, rfl, rfl⟩ hs) fun w s1 hh => ?_
  obtain ⟨z, H', J', r', rfl, rfl⟩ := hh
  exact ⟨_, H, cell_back (o := cellO a) ha J', r', q i⟩
def rIxU (K : PySem.W.Frag) : R2 := fun x y H Q => rIxL K x y H Q ∨ rIxT K x y H Q ∨ rIxC x y H Q ∨ rIxS x y H Q
theorem ix_U : IxR X (rIxU X.K) := ix_list.or (ix_tup.or (ix_cell.or ix_str))
def rSetC : V → V → V → Hp → (Hp → Prop) → Prop := fun o i v H Q => ∃ a n, o = .ref a ∧ i = .int 0 ∧ v = .int n ∧ H a = some (cellO a) ∧ Q H
theorem set_cell : PSet X rSetC := by
  intro pins s σ H o i v ov iv u Q I ro ri rv h
  obtain ⟨a, n, rfl, rfl, rfl, ha, q⟩ := h
  obtain ⟨j, J⟩ := cell_open I ha
  refine thn (set_list pins s σ _ _ _ _ ov iv u (fun H' => H' = upd H a (.lst [.int n])) J ro ri rv ⟨a, [.int j], 0, 0, rfl, rfl, upd_same, rfl, upd_upd⟩) fun w s1 hh => ?_
  obtain ⟨H', J', rfl⟩ := hh
  exact ⟨H, cell_back (o := cellO a) ha J', q⟩
def rSetU : V → V → V → Hp → (Hp → Prop) → Prop := fun o i v H Q => rSetL o i v H Q ∨ rSetC o i v H Q
theorem set_U : PSet X rSetU := by
  intro pins s σ H o i v ov iv u Q I ro ri rv h
  rcases h with h | h
  · exact set_list pins s σ H o i v ov iv u Q I ro ri rv h
  · exact set_cell pins s σ H o i v ov iv u Q I ro ri rv h
/-- [0]: the counter is laid -/
def tCell : TE := fun _ H Q => ∀ p, H p = none → Q (.ref p) (upd H p (cellO p))
theorem pe_cell {i : Int} {k : Nat} {p1 p2 : Pos} : PE X (.List [.Constant (.int i) k p1] p2) tCell := by
  refine ⟨fun pins s σ H Q I h => ?_⟩
  have ha : PE X (.List [.Constant (.int i) k p1] p2) _ := pe_lst (pa_cons pe_int pa_nil)
  refine thn (ha.run pins s σ H (fun v H' => ∃ p, v = .ref p ∧ H p = none ∧ H' = upd H p (.lst [.int i])) I ?_) fun w s1 hh => ?_
  · exact ⟨by show 1 ≤ sizeLine; rw [sizeLine_eq]; omega, fun p hp => ⟨p, rfl, hp, rfl⟩⟩
  · obtain ⟨v, H', J, r, p, rfl, hp, rfl⟩ := hh
    have J' := cell_close (a := p) J upd_same
    rw [upd_upd] at J'
    exact ⟨_, _, J', r, h p hp⟩
end

/-! ### the rules with the written part named -/
section
variable {X : Cx} {a b c e o : Expr} {es : List Expr} {ta tb te to : TE} {t : TA} {pos apos : Pos}
theorem pi_UK (K : PySem.W.Frag) {tg l : Expr} {tl : TE} (hl : PE X l tl) (h : X.K = K := by rfl) : PI X tg l (iU K tl) := h ▸ pi_U hl
theorem op_addUK (K : PySem.W.Frag) (h : X.K = K := by rfl) : OpR X (binaryOp .Add) (rAddU K) := h ▸ op_addU
theorem op_eqUK (K : PySem.W.Frag) {k : Nat} (hr : Room k X.A) (h : X.K = K := by rfl) : OpR X (compareOp .Eq) (rEqU K) := h ▸ op_eqU hr
theorem op_neUK (K : PySem.W.Frag) {k : Nat} (hr : Room k X.A) (h : X.K = K := by rfl) : OpR X (compareOp .NotEq) (rNeU K) := h ▸ op_neU hr
theorem op_inK (K : PySem.W.Frag) (h : X.K = K := by rfl) : OpR X (compareOp .In) (rIn K false) := h ▸ op_in_seq
theorem op_notInK (K : PySem.W.Frag) (h : X.K = K := by rfl) : OpR X (compareOp .NotIn) (rIn K true) := h ▸ op_notIn_seq
theorem ix_UK (K : PySem.W.Frag) (h : X.K = K := by rfl) : IxR X (rIxU K) := h ▸ ix_U
theorem sl_listK (K : PySem.W.Frag) (h : X.K = K := by rfl) : SlR X (rSlL K) := h ▸ sl_list
def rLen (K : PySem.W.Frag) : List V → Hp → VK → Prop := fun xs H Q => ∃ x n, xs = [x] ∧ LenV K x H n ∧ Q (.int n) H
theorem call_lenK (K : PySem.W.Frag) (h : X.K = K := by rfl) : CallR X (.builtin "len") (rLen K) := h ▸ call_len
theorem cr_sumK (K : PySem.W.Frag) (hc : X.calm = true) (h : X.K = K := by rfl) : CallR X (.builtin "sum") (rSum K) := h ▸ cr_sum hc
theorem cr_maxK (K : PySem.W.Frag) (hc : X.calm = true) (h : X.K = K := by rfl) : CallR X (.builtin "max") (rMax K) := h ▸ cr_max hc
theorem cr_minK (K : PySem.W.Frag) (hc : X.calm = true) (h : X.K = K := by rfl) : CallR X (.builtin "min") (rMin K) := h ▸ cr_min hc
theorem cr_allK (K : PySem.W.Frag) (hc : X.calm = true) (h : X.K = K := by rfl) : CallR X (.builtin "all") (rAll K) := h ▸ cr_all hc
theorem cr_anyK (K : PySem.W.Frag) (hc : X.calm = true) (h : X.K = K := by rfl) : CallR X (.builtin "any") (rAny K) := h ▸ cr_any hc
def rListOf (K : PySem.W.Frag) : List V → Hp → VK → Prop := fun xs H Q => ∃ p ys, xs = [.ref p] ∧ (SqL K H p ys ∨ SqT K H p ys) ∧ ∀ l, H l = none → Q (.ref l) (upd H l (.lst ys))
theorem call_list_ofK (K : PySem.W.Frag) (h : X.K = K := by rfl) : CallR X (.type "list") (rListOf K) := h ▸ call_list_of
def rInt1 : List V → Hp → VK → Prop := fun xs H Q => (∃ i, xs = [.int i] ∧ Q (.int i) H) ∨ ∃ k, xs = [.bl k] ∧ Q (.int (if k then 1 else 0)) H
theorem call_int1D : CallR X (.type "int") rInt1 := call_int1
def rMin2 : List V → Hp → VK → Prop := fun xs H Q => ∃ i j, xs = [.int i, .int j] ∧ Q (.int (if j < i then j else i)) H
theorem call_min2D (hc : X.calm = true) : CallR X (.builtin "min") rMin2 := call_min2 hc
def rMax2 : List V → Hp → VK → Prop := fun xs H Q => ∃ i j, xs = [.int i, .int j] ∧ Q (.int (if j > i then j else i)) H
theorem call_max2D (hc : X.calm = true) : CallR X (.builtin "max") rMax2 := call_max2 hc
def rAbs : List V → Hp → VK → Prop := fun xs H Q => ∃ i, xs = [.int i] ∧ Q (.int (if i < 0 then -i else i)) H
theorem call_absD : CallR X (.builtin "abs") rAbs := call_abs
def rIsN : R2 := fun x y H Q => y = .non ∧ Q (.bl (decide (x = .non))) H
theorem op_isND : OpR X (compareOp .Is) rIsN := op_isN
def rNotN : R2 := fun x y H Q => y = .non ∧ Q (.bl (!decide (x = .non))) H
theorem op_notND : OpR X (compareOp .IsNot) rNotN := op_notN
def rTupleOf (K : PySem.W.Frag) : List V → Hp → VK → Prop := fun xs H Q => ∃ p ys, xs = [.ref p] ∧ ((SqL K H p ys ∧ ∀ l, H l = none → Q (.ref l) (upd H l (.tup ys))) ∨ (SqT K H p ys ∧ Q (.ref p) H))
theorem call_tuple_ofK (K : PySem.W.Frag) (h : X.K = K := by rfl) : CallR X (.type "tuple") (rTupleOf K) := h ▸ call_tuple_of
theorem call_isiUK (K : PySem.W.Frag) (h : X.K = K := by rfl) : CallR X (.builtin "isinstance") (rIsiU K) := h ▸ call_isiU
def tTruth (K : PySem.W.Frag) (ta : TE) : TT := fun σ H Q => ta σ H fun x H1 => ∃ k, TruV K x H1 k ∧ Q k H1
theorem pt_truthK (K : PySem.W.Frag) (ha : PE X a ta) (he : ∀ whole, isTrue a X.env whole = (do let v ← whole; standAt a.pos; holding [v] (truthy v)) := by intro _; rfl) (h : X.K = K := by rfl) : PT X a (tTruth K ta) := h ▸ pt_truth ha he
theorem pg_tupK (K : PySem.W.Frag) (n : Nat) {k : Nat} {t : TGs} (hc : X.calm = true) (hg : PGs X es t)
    (hn : (assignEach es X.env).length = n := by rfl) (hst : (assignEach es X.env).findIdx? (·.1) = none := by rfl) (h : X.K = K := by rfl) : PG X (.Tuple es k pos) (gTup K n t) := h ▸ pg_tup hc hg hn hst
theorem pe_fldK (K : PySem.W.Frag) {f : Str} (he : PE X e ta) (hb : attributeBase e f X.env (eval e X.env) = eval e X.env) (h : X.K = K := by rfl) : PE X (.Attribute e f pos) (tFld K ta f) := h ▸ pe_fld he hb
theorem pe_revLK (K : PySem.W.Frag) {k : Nat} {p1 p2 p3 : Pos} (he : PE X e te) (h : X.K = K := by rfl) : PE X (.Subscript e (.Slice none none (some (.UnaryOp .USub (.Constant (.int 1) k p1) p2)) p3) pos) (tRevL K te) := h ▸ pe_revL he
section
variable {T id : String} {name : Str} {r : V → List V → Hp → VK → Prop}
theorem pe_bm0K (K : PySem.W.Frag) {cpos : Pos} (pa : PlainAttrs T) (slot : Slot T name id) (hty : typeOf (.builtin id) = pure (.type "method_descriptor")) (hm : MtR X id r) (ho : PE X o to)
    (hb : attributeBase o name X.env (eval o X.env) = eval o X.env := by rfl) (hl : (apos.endLine == cpos.line) = true := by rfl) (h : X.K = K := by rfl) : PE X (.Call (.Attribute o name apos) [] [] cpos) (tBM0 K T r to) := h ▸ pe_bm0 pa slot hty hm ho hb hl
theorem pe_bmK (K : PySem.W.Frag) {cpos : Pos} (pa : PlainAttrs T) (slot : Slot T name id) (hty : typeOf (.builtin id) = pure (.type "method_descriptor")) (hm : MtR X id r) (ho : PE X o to) (ha : PA X (e :: es) t)
    (hb : attributeBase o name X.env (eval o X.env) = eval o X.env := by rfl)
    (hf : ((backTo cpos (starEach (e :: es) X.env)).all (fun x => !x.1) && (backToKw cpos (keywordEach [] X.env)).all (fun x => x.1.isSome) && decide ((e :: es).length + ([] : List Keyword).length + (if ([] : List Keyword).isEmpty then 0 else 1) < 30)) = true := by rfl)
    (hl : (apos.endLine == cpos.line) = true := by rfl) (hs : starEach (e :: es) X.env = (false, eval e X.env) :: starEach es X.env := by rfl) (hp : (backTo cpos (starEach es X.env)).any (·.1) = false := by rfl) (h : X.K = K := by rfl) :
    PE X (.Call (.Attribute o name apos) (e :: es) [] cpos) (tBM K T r to t) := h ▸ pe_bm pa slot hty hm ho ha hb hf hl hs hp
theorem mt_lcountK (K : PySem.W.Frag) (h : X.K = K := by rfl) : MtR X "list.count" (rCntI K) := h ▸ mt_lcount
theorem mt_indexK (K : PySem.W.Frag) (h : X.K = K := by rfl) : MtR X "list.index" (rIndex K) := h ▸ mt_index
end
end
/-- two statements with a word between: the ways of the first are joined -/
def tCut (t u : TS) : TS := fun D σ H => ∃ M : St → Hp → Prop, t { D with nx := M } σ H ∧ ∀ σ' H', M σ' H' → u D σ' H'
theorem pss_cut {X : Cx} {st : Stmt} {rest : List Stmt} {t u : TS} (h1 : PS X st t) (h2 : PSs X rest u) : PSs X (st :: rest) (tCut t u) := by
  refine ⟨fun pins s σ H D I h => ?_⟩
  obtain ⟨M, h, k⟩ := h
  refine wpAny_execs_cons (thn (h1.run pins s σ H { D with nx := M } I h) fun f s1 z => ?_)
  cases f with
  | next => exact let ⟨σ1, H1, I1, z1⟩ := z; h2.run pins s1 σ1 H1 D I1 (k _ _ z1)
  | ret v => exact z
  | brk => exact z
  | cont => exact z
/-! ### calls -/
section
variable {X : Cx} {CX : CXT} {k : Nat} {f C : Addr} {fd : FuncData} {ps ks : List Str} {sp : Sp} {E : XK} {x m : Str} {p pos apos kpos : Pos} {e o : Expr} {es : List Expr} {kws : List Keyword} {te ta : TE} {t tk : TA} {g : List Value → List Value → List Value} {gV : List V → List V → List V}
/-- f(k = v, ..) -/
theorem pe_callK0 (F : FnOk X.prog X.w X.K X.mg X.base CX k f fd ps sp) (hr : Room k X.A) (hg : Gl X x) (hm : X.mg x = some (.ref f)) (hk : PySem.W.keepIn X.K (.ref f) = true)
    (hb : KBinds X.K fd ps ks g gV) (hx : Passes CX X E) (hkw : PK X kws tk)
    (hall : (backToKw pos (keywordEach kws X.env)).all (·.1.isSome) = true := by rfl) (hks : (backToKw pos (keywordEach kws X.env)).filterMap (·.1) = ks := by rfl)
    (hdb : (x == ("__debug__" : Str)) = false := by decide)
    (hpl : ((backTo pos (starEach [] X.env)).any (·.1) || (backToKw pos (keywordEach kws X.env)).any (·.1.isNone)) = false := by rfl) :
    PE X (.Call (.Name x p) [] kws pos) (tCallK sp gV E tNil tk) := by
  refine ⟨fun pins s σ H Q I h => wpAny_Call_Name_kw (ld_glob I hg hm ?_ hdb)⟩
  refine PySem.W.callWith_KW0 (h₀ := X.base) I.ok.mod.kin hk hall ?_ hpl
  refine thn (hkw.run pos pins s σ H _ I h) fun ws s2 ⟨zs, H2, I2, rz, q2⟩ => ⟨I2.kIn, ?_⟩
  rw [hks]
  exact run_fnk (us := []) F hr hb hx I2 .nil rz q2
theorem passLF : Passes (L2.CX X.prog X.w) X (fun _ _ _ => False) := passL
end

/-! ### exceptions of the program's own classes -/
/-- X(), a class without an __init__ of its own -/
structure XOwn (K : PySem.W.Frag) (C : Addr) : Prop where
  ex : PySem.W.excIn K C [.type "ValueError", .type "Exception", .type "BaseException", .type "object"] "ValueError.__new__" = true
  kp : PySem.W.keepIn K (.ref C) = true
  sb : PySem.W.subIn K (.ref C) (.type "BaseException") = some true
  ty : PySem.W.typeIn K (.ref C) = some (.type "type")
theorem pmk_own0 {X : Cx} {x : Str} {C : Addr} {p pos : Pos} (q : XOwn X.K C) (gC : X.mg x = some (.ref C)) (hg : Gl X x := by rfl)
    (hdb : (x == ("__debug__" : Str)) = false := by decide) : PMk X (.Call (.Name x p) [] [] pos) (fun _ H Q => Q (.ref C) none H) := by
  intro pins s σ H Q I h
  refine wpAny_Call_Name_kw (ld_glob I hg gC ?_ hdb)
  refine PySem.W.callWith_K0 I.kIn q.kp ?_
  obtain ⟨bm, N, nm, qn, bs, hdct, sn, sub, ab, col, dd, k0, k1, k2, k3, k5, mN, hC, hN, hni, T⟩ := exc_obj I.kIn q.ex
  refine wpAny_call_exc_subT PySem.F.excBase_ValueError T hC hN hni (fun h' e hm => ?_) (by show 0 ≤ sizeLine; omega)
  exact mk_of I hm (raises_own q.sb q.ty) h (I.hok.gone hm.new)
/-- the exception at a stands in the context -/
structure XPin (X : Cx) (a : Addr) (cls : Value) (d : Option Addr) : Prop where
  ex : ∃ (oe : Obj) (vs : Array Value), (a, oe) ∈ X.pn ∧ Zc cls d oe ∧ oe.data = .fields vs
theorem xpin_suite {X : Cx} {a : Addr} {oe : Obj} {cls : Value} {d : Option Addr} {pn : List (Addr × Obj)} (hz : Zc cls d oe) (hf : ∃ vs, oe.data = .fields vs) : XPin (X.suite a ((a, oe) :: pn)) a cls d := by
  obtain ⟨vs, hv⟩ := hf
  exact ⟨oe, vs, List.mem_cons_self, hz, hv⟩
/-- what the class says, that isinstance and the fields are read rightly -/
structure XCls (K : PySem.W.Frag) (D : Addr) : Prop where
  hc : (PySem.W.clsIn K D).isSome = true
  hg : PySem.W.findIn K (.ref D) "__getattribute__" = some (some (.builtin "BaseException.__getattribute__"))
  hk : PySem.W.findIn K (.ref D) "__getattr__" = some none
  hs : PySem.W.subIn K (.ref D) (.type "BaseException") = some true
  hd : PySem.W.hasDictIn K D = true
  ha : PySem.W.findIn K (.ref D) "__class__" = some (some (.builtin "object.__class__"))
  hn : PySem.W.specialIn K (.builtin "object.__class__") "__get__" = some (some (.builtin "getset_descriptor.__get__"))
  ht : PySem.W.takesIn K (.builtin "object.__class__") = some true
  hm : PySem.W.mroIn K D (.type "object") = some true
/-- the exception's own dict, as H tells it -/
def XDict (H : Hp) (d : Option Addr) (fs : List (Str × V)) : Prop := (d = none ∧ fs = []) ∨ ∃ dd, d = some dd ∧ H dd = some (.xd fs)
section
variable {X : Cx} {a : Addr} {cls : Value} {d : Option Addr} {pins : List (Addr × Obj)} {σ : St} {H : Hp} {s : Shared}
theorem XPin.inst {D : Addr} {fs : List (Str × V)} (p : XPin X a cls d) (I : Inv X pins σ H s) (hc : cls = .ref D) (hd : XDict H d fs) : ∃ (ox : Obj) (od : Option Obj), PySem.W.InstAt s.heap a ox D od ∧
    (∀ dd, d = some dd → ∃ o, od = some o ∧ ∃ mA : Str → Option Value, (∀ name : Str, PySem.W.lookIn name o = some (mA name)) ∧ ∀ f : Str, RelO (fs.lookup f) (mA f)) := by
  obtain ⟨⟨oc, odd, dat, sl⟩, vs, hp, ⟨h1, h2⟩, hv⟩ := p.ex
  dsimp only at h1 h2 hv
  subst hc
  subst hv
  obtain ⟨hget, _⟩ := I.pin _ (List.mem_append_left _ hp)
  rcases hd with ⟨rfl, _⟩ | ⟨dd, rfl, hd⟩
  · subst h1 h2
    exact ⟨_, none, ⟨hget, rfl, rfl, trivial⟩, fun dd z => nomatch z⟩
  · have hx : ObjOk X.prog X.w H s.heap dd (.xd fs) := I.hok dd _ hd
    obtain ⟨mA, hns, hr⟩ := hx
    obtain ⟨od, ho, hl⟩ := lookIn_ns hns
    subst h1 h2
    exact ⟨_, some od, ⟨hget, rfl, rfl, ho⟩, fun dd' z => ⟨od, rfl, mA, hl, hr⟩⟩
/-- isinstance(e, C), isinstance(e, (C, ..)) -/
def rIsX (K : PySem.W.Frag) (a : Addr) (cls : Value) (d : Option Addr) : List V → Hp → VK → Prop := fun xs H Q => ∃ (D : Addr) (fs : List (Str × V)) (c : V) (b : Bool), xs = [.ref a, c] ∧ cls = .ref D ∧ XCls K D ∧ XDict H d fs ∧
  ((∃ u, ClsV c u ∧ PySem.W.kitOne K (.ref D) u = some b) ∨ ∃ tp cs us, c = .ref tp ∧ H tp = some (.tup cs) ∧ Paired ClsV cs us ∧ PySem.W.kitAny K (.ref D) us = some b) ∧ Q (.bl b) H
theorem call_isX (p : XPin X a cls d) : CallR X (.builtin "isinstance") (rIsX X.K a cls d) := by
  intro pins s σ H xs us Q I r h
  obtain ⟨D, fs, c, b, rfl, hc, C, hd, hh, q⟩ := h
  obtain ⟨ox, od, J, _⟩ := p.inst I hc hd
  obtain ⟨u1, u2, rfl, r1, r2⟩ := vals2 r
  cases (show u1 = Value.ref a from r1)
  have Z := PySem.W.kitx_exc (x := a) (ox := ox) (od := od) C.hc C.hg C.hk C.hs C.ha C.hn C.ht C.hm
  rcases hh with ⟨u, k, e⟩ | ⟨tp, cs, ws, rfl, hT, k, e⟩
  · have e2 := k.eq r2
    subst e2
    exact PySem.W.kia_one Z I.kIn J e (fun z => nomatch z) fun tk => ⟨.bl b, H, I.tok tk, rfl, q⟩
  · cases (show u2 = Value.ref tp from r2)
    obtain ⟨_, its, rv, o, h1, h2, n, h3⟩ := (show ObjOk X.prog X.w H s.heap tp (.tup cs) from I.hok tp _ hT)
    have e3 := ClsV.all k rv
    subst e3
    obtain ⟨oc, od2, dt, sl⟩ := o
    simp only at h2 h3
    subst h2 h3
    exact PySem.W.kia_tup Z I.kIn J h1 e (fun z => nomatch z) fun tk => ⟨.bl b, H, I.tok tk, rfl, q⟩
/-- e.f -/
def tXF (K : PySem.W.Frag) (a : Addr) (cls : Value) (d : Option Addr) (f : Str) (te : TE) : TE := fun σ H Q => te σ H fun x H1 => ∃ (D dd : Addr) (fs : List (Str × V)) (v : V), x = .ref a ∧ cls = .ref D ∧ XCls K D ∧ d = some dd ∧ H1 dd = some (.xd fs) ∧
  PySem.W.findIn K (.ref D) f = some none ∧ fs.lookup f = some v ∧ Q v H1
theorem pe_xF {e : Expr} {te : TE} {pos : Pos} {f : Str} (p : XPin X a cls d) (he : PE X e te) (hb : attributeBase e f X.env (eval e X.env) = eval e X.env := by rfl) : PE X (.Attribute e f pos) (tXF X.K a cls d f te) := by
  refine ⟨fun pins s σ H Q I h => ?_⟩
  refine attr_of hb (thn (he.run pins s σ H _ I h) fun u s1 hh => ?_)
  obtain ⟨x, H1, I1, rx, D, dd, fs, v, ex, hc, C, rfl, ea, hno, l, q⟩ := hh
  subst ex
  obtain rfl : u = Value.ref a := rx
  obtain ⟨ox, od, J, hq⟩ := p.inst I1 hc (.inr ⟨dd, rfl, ea⟩)
  obtain ⟨o, rfl, mA, hl, hr⟩ := hq dd rfl
  obtain ⟨u, hu, ru⟩ := RelO.some_of (v := v) (o := mA f) (by rw [← l]; exact hr f)
  exact HandSPX.exc_get I1.kIn J C.hg C.hk C.hs (PySem.W.findObj_own C.hd hno rfl (by rw [hl, hu])) (handed_of ru) ⟨v, H1, I1.tok _, ru, q⟩
end
theorem call_isXK {X : Cx} (K : PySem.W.Frag) {a : Addr} {cls : Value} {d : Option Addr} (p : XPin X a cls d) (h : X.K = K := by rfl) : CallR X (.builtin "isinstance") (rIsX K a cls d) := h ▸ call_isX p
theorem pe_xFK {X : Cx} (K : PySem.W.Frag) {a : Addr} {cls : Value} {d : Option Addr} {e : Expr} {te : TE} {pos : Pos} {f : Str} (p : XPin X a cls d) (he : PE X e te) (hb : attributeBase e f X.env (eval e X.env) = eval e X.env := by rfl) (h : X.K = K := by rfl) : PE X (.Attribute e f pos) (tXF K a cls d f te) := h ▸ pe_xF p he hb
/-! a def that is called in a suite with the exception that is handled there -/
abbrev SpX := Addr → Value → Option Addr → Sp
structure FnE (P : Program) (w : World) (K : PySem.W.Frag) (mg : Str → Option Value) (base : Heap) (k : Nat) (f : Addr) (fd : FuncData) (ps : List Str) (sp : SpX) : Prop where
  len : ∀ a cls d vs H Q E, sp a cls d vs H Q E → vs.length = ps.length
  run : ∀ (A : Around) (outer : List Env) (s : Shared) (H : Hp) (args : Args) (us : List Value) (vs : List V) (Q : VK) (a : Addr) (oe : Obj) (cls : Value) (d : Option Addr), L2H.RoomH k A → Zc cls d oe → (∃ v, oe.data = .fields v) → L2H.PinOk outer H s (a, oe) →
    Env0 P w K mg base A outer s H → BindsTo s fd args (ps.zip us) → Vals vs us → sp a cls d vs H Q (fun _ _ _ => False) → codeAny (model P w) A (.call (.ref f) args) (CR (L2.CX P w) outer P w H s Q (fun _ _ _ => False)) s
abbrev cxE (P : Program) (w : World) (K : PySem.W.Frag) (mg : Str → Option Value) (base : Heap) (N : List Str) (qual : Str) (scope : Scope) (f : Addr) (cd : Value) (A : Around) (outer : List Env) (s : Shared) (H : Hp) (p : Addr × Obj) : Cx :=
  L2H.cxH (L2.CX P w) P w K mg base N qual scope f cd A outer s H (fun _ _ _ => False) p
theorem Fun.okE {P : Program} {w : World} {K : PySem.W.Frag} {mg : Str → Option Value} {base : Heap} {x qual : Str} {st : Stmt} {f : Addr} {fd : FuncData} {N ps : List Str} {k : Nat} {sp : SpX} (F : Fun K x qual st f fd) (S : FnScope N ps (defScope st))
    (len : ∀ a cls d vs H Q E, sp a cls d vs H Q E → vs.length = ps.length)
    (hbody : ∀ (cdv : Value) (A : Around) (outer : List Env) (s : Shared) (H : Hp) (vs : List V) (Q : VK) (a : Addr) (oe : Obj) (cls : Value) (d : Option Addr), Zc cls d oe → (∃ v, oe.data = .fields v) → L2H.RoomH k (A.deeper (envOfC qual (defScope st) s.heap.objs.size f cdv)) →
      sp a cls d vs H Q (fun _ _ _ => False) → ∃ t, PSs (cxE P w K mg base N qual (defScope st) f cdv A outer s H (a, oe)).nox (defBody st) t ∧ t { nx := fun _ H' => Q .non H', rt := Q } (start N vs) H) : FnE P w K mg base (k + 1) f fd ps sp := by
  obtain ⟨oc, od, kV, doc, pm, an, cdv, ct, osl, rfl, lk, hcd⟩ := F.ex
  refine ⟨len, fun A outer s H args us vs Q a oe cls d hr hz hf hpin e0 hb r hsp => ?_⟩
  have hl := len _ _ _ _ _ _ _ hsp
  have KX : K.In s.heap := e0.mod.kin.keeps fun b o e => (e0.bs b o e).1
  have lim : s.heap.NoLimit := e0.mod.nolimit.keeps fun b o e => (e0.bs b o e).1
  have hk : ∀ y ∈ ps.zip us, (defScope st).names.lookup y.1 = some .local ∨ ((defScope st).names.lookup y.1 = some .cell ∧ ((cellsFrom (s.heap.objs.size + 1) (defScope st).names []).lookup y.1).isSome = true) := fun ⟨n, v⟩ hy =>
    (S.par n (List.of_mem_zip hy).1).elim .inl fun z => .inr ⟨z, PySem.W.cellsFrom_some _ _ _ (.inl z)⟩
  refine codeAny_call_function hr.depth (KX _ _ lk) rfl S.co S.gen rfl (PySem.W.codeRec_of KX hcd) (hb _ _ _ _ (wpAny_newFunctionEnv_cells S.kind hk fun env he s1 x => ?_))
  subst he
  refine ⟨lim.keeps x.toInCall.keep, codeAny_func ?_⟩
  obtain ⟨t, ht, hq⟩ := hbody cdv A outer s H vs Q a oe cls d hz hf (hr.deeper _) hsp
  have I := (L2H.inv_startH (CX := L2.CX P w) (E := fun _ _ _ => False) (qual := qual) (f := f) (cd := cdv) S hpin e0 hl r x)
  refine wpAny_mono (ht.nox.run [] s1 (start N vs) H _ I hq) (fun fl s' hs => ?_) fun e s' hs => hs
  cases fl with
  | ret u => exact let ⟨v, σ', H', J, rv, z⟩ := hs; ⟨v, H', J.os, J.bare, J.base, J.hok, rv, z⟩
  | next => exact let ⟨σ', H', J, z⟩ := hs; ⟨V.non, H', J.os, J.bare, J.base, J.hok, rfl, z⟩
  | brk => exact let ⟨_, _, _, z⟩ := hs; False.elim z
  | cont => exact let ⟨_, _, _, z⟩ := hs; False.elim z
theorem xpin_def {P : Program} {w : World} {K : PySem.W.Frag} {mg : Str → Option Value} {base : Heap} {N : List Str} {qual : Str} {scope : Scope} {f : Addr} {cd : Value} {A : Around} {outer : List Env} {s : Shared} {H : Hp} {a : Addr} {oe : Obj} {cls : Value} {d : Option Addr} (hz : Zc cls d oe) (hf : ∃ vs, oe.data = .fields vs) :
    XPin (cxE P w K mg base N qual scope f cd A outer s H (a, oe)).nox a cls d := by
  obtain ⟨vs, hv⟩ := hf
  exact ⟨oe, vs, List.mem_cons_self, hz, hv⟩
section
variable {X : Cx} {k : Nat} {f a : Addr} {fd : FuncData} {ps : List Str} {sp : SpX} {x : Str} {p pos : Pos} {e : Expr} {es : List Expr} {t : TA} {cls : Value} {d : Option Addr}
def tCallE (sp : SpX) (a : Addr) (cls : Value) (d : Option Addr) (t : TA) : TE := fun σ H Q => t σ H fun vs H1 => sp a cls d vs H1 Q (fun _ _ _ => False)
theorem pe_callE (F : FnE X.prog X.w X.K X.mg X.base k f fd ps sp) (hr : L2H.RoomH k X.A) (xp : XPin X a cls d) (hg : Gl X x) (hm : X.mg x = some (.ref f)) (hk : PySem.W.keepIn X.K (.ref f) = true) (hb : Binds X.K fd ps [])
    (ha : PA X (e :: es) t) (hdb : (x == ("__debug__" : Str)) = false := by decide) (he : starEach (e :: es) X.env = (false, eval e X.env) :: starEach es X.env := by rfl) (hpl : (backTo pos (starEach es X.env)).any (·.1) = false := by rfl) :
    PE X (.Call (.Name x p) (e :: es) [] pos) (tCallE sp a cls d t) := by
  refine ⟨fun pins s σ H Q I h => wpAny_Call_Name_kw (ld_glob I hg hm ?_ hdb)⟩
  refine PySem.W.callWith_K (h₀ := X.base) I.ok.mod.kin hk (thn (ha.run pos pins s σ H _ I h) fun us s1 ⟨vs, H1, I1, r, hs⟩ => ⟨I1.kIn, ?_⟩) he hpl
  obtain ⟨oe, v, hp, hz, hv⟩ := xp.ex
  have hl : us.length = ps.length := by rw [← r.length]; exact F.len _ _ _ _ _ _ _ hs
  have b := hb s1 us I1.kIn (by rw [List.append_nil]; exact hl)
  rw [List.append_nil] at b
  have P1 := I1.pin (a, oe) (List.mem_append_left _ hp)
  have hpin : L2H.PinOk X.stack H1 s1 (a, oe) := ⟨P1.1, P1.2.1, fun hm => (List.mem_cons.mp (I1.stkSub a hm)).elim P1.2.2.1 P1.2.2.2.1, P1.2.2.2.2⟩
  refine wpAny_call (codeAny_mono (F.run X.A X.stack s1 H1 ⟨us, []⟩ us vs Q a oe cls d hr hz ⟨v, hv⟩ hpin I1.env0 b r hs) fun r s' hq => ?_)
  cases r with
  | error er => exact (passLF (X := X)) pins σ H1 s1 er s' I1 hq
  | ok fl =>
    cases fl with
    | ret u => exact I1.after hq
    | next => exact False.elim hq
    | brk => exact False.elim hq
    | cont => exact False.elim hq
end
end EL

namespace EL
open PySem PySem.Spec PyProof.Rows L2

/-! ### heaps that grow -/
theorem _root_.L2.Same.upd {H H' : Hp} {p : Addr} {o : HO} (h : Same H H') (n : H p = none) : Same H (L2.upd H' p o) := fun b u e => by
  rw [upd_ne (ne_of_none e n)]
  exact h b u e
theorem _root_.L2.Same.new {H : Hp} {p : Addr} {o : HO} (n : H p = none) : Same H (L2.upd H p o) := Same.upd (Same.refl H) n
theorem _root_.L2.Same.rd {H H' : Hp} {a : Addr} {u : HO} (e : Same H H') (h : Rd H a u) : Rd H' a u := h.elim (fun z => .inl (e _ _ z)) fun ⟨o, z⟩ => .inr ⟨o, e _ _ z⟩
theorem _root_.L2.Same.seqT {K : PySem.W.Frag} {H H' : Hp} {a : Addr} {xs : List V} (e : Same H H') (h : SqT K H a xs) : SqT K H' a xs := h.elim (fun z => .inl (e.rd z)) .inr
mutual
theorem dpSame {K : PySem.W.Frag} {H H' : Hp} (e : Same H H') : ∀ {d : PyData} {v : V}, Dp K H v d → Dp K H' v d
  | .none, _, h => by cases h; exact .non
  | .bool b, _, h => by cases h; exact .bl b
  | .int i, _, h => by cases h; exact .int i
  | .str x, _, h => by cases h; exact .str x
  | .list ds, _, h => by
    cases h with
    | lst hs ha => exact .lst (e.seq hs) (dpAllSame e ha)
  | .tuple ds, _, h => by
    cases h with
    | tup hs ha => exact .tup (e.seqT hs) (dpAllSame e ha)
  | .dict _, _, h => by cases h
theorem dpAllSame {K : PySem.W.Frag} {H H' : Hp} (e : Same H H') : ∀ {ds : List PyData} {vs : List V}, DpAll K H vs ds → DpAll K H' vs ds
  | [], _, h => by cases h; exact .nil
  | d :: ds, _, h => by
    cases h with
    | cons h1 h2 => exact .cons (dpSame e h1) (dpAllSame e h2)
end
theorem _root_.L2.Same.dp {K : PySem.W.Frag} {H H' : Hp} (e : Same H H') {d : PyData} {v : V} (h : Dp K H v d) : Dp K H' v d := dpSame e h
theorem _root_.L2.Same.dpAll {K : PySem.W.Frag} {H H' : Hp} (e : Same H H') {d : List PyData} {v : List V} (h : DpAll K H v d) : DpAll K H' v d := dpAllSame e h
theorem dpInts {K : PySem.W.Frag} {H : Hp} : ∀ xs : List Int, DpAll K H (xs.map V.int) (xs.map PyData.int)
  | [] => .nil
  | x :: xs => .cons (.int x) (dpInts xs)

theorem strans {H H1 H2 : Hp} (b : Same H1 H2) (a : Same H H1) : Same H H2 := a.trans b
theorem same_at {H H' : Hp} {a : Addr} {o : HO} (s : Same H H') (e : H a = some o) : H' a = some o := s _ _ e
/-! ### what a call gives -/
inductive Out where
  | ret (v : V)
  | err (C : Addr) (f : Str) (v : V)
  | err0 (C : Addr)
  | tup (xs : List V)
  | lst (R : Hp → List V → Prop)
def Gives (H : Hp) (Q : VK) (E : XK) : Out → Prop
  | .ret v => ∀ H', Same H H' → Q v H'
  | .err C f v => ∀ H' d, Same H H' → H' d = some (.xd [(f, v)]) → E (.ref C) (some d) H'
  | .err0 C => ∀ H', Same H H' → E (.ref C) none H'
  | .tup xs => ∀ H' p, Same H H' → H' p = some (.tup xs) → Q (.ref p) H'
  | .lst R => ∀ H' p vs, Same H H' → H p = none → H' p = some (.lst vs) → R H' vs → Q (.ref p) H'
theorem Gives.mono {H H' : Hp} {Q : VK} {E : XK} {o : Out} (h : Gives H Q E o) (s : Same H H') : Gives H' Q E o := by
  cases o with
  | ret v => exact fun H2 s2 => h H2 (s.trans s2)
  | err C f v => exact fun H2 d s2 e => h H2 d (s.trans s2) e
  | err0 C => exact fun H2 s2 => h H2 (s.trans s2)
  | tup xs => exact fun H2 p s2 e => h H2 p (s.trans s2) e
  | lst R => exact fun H2 p vs s2 n e r => h H2 p vs (s.trans s2) (s.free n) e r

theorem gret {H : Hp} {Q : VK} {E : XK} {o : Out} {v : V} (e : o = .ret v) (k : ∀ H', Same H H' → Q v H') : Gives H Q E o := by
  subst e
  exact k
theorem gerr {H : Hp} {Q : VK} {E : XK} {o : Out} {C : Addr} {f : Str} {v : V} (e : o = .err C f v) (k : ∀ H' d, Same H H' → H' d = some (.xd [(f, v)]) → E (.ref C) (some d) H') : Gives H Q E o := by
  subst e
  exact k
theorem gerr0 {H : Hp} {Q : VK} {E : XK} {o : Out} {C : Addr} (e : o = .err0 C) (k : ∀ H', Same H H' → E (.ref C) none H') : Gives H Q E o := by
  subst e
  exact k
/-! ### the readings, step by step -/
def Tru (K : PySem.W.Frag) (x : V) (H : Hp) (R : Bool → Prop) : Prop := ∃ k, TruV K x H k ∧ R k
def IsBl (x : V) (R : Bool → Prop) : Prop := ∃ k, x = .bl k ∧ R k
def Br (b : Bool) (A B : Prop) : Prop := if b = true then A else B
def NewO (o : HO) (n : Nat) (H : Hp) (Q : VK) : Prop := n ≤ sizeLine ∧ ∀ p, H p = none → Q (.ref p) (upd H p o)
def Par2 (vs : List V) (R : V → V → Prop) : Prop := ∃ v w, vs = [v, w] ∧ R v w
section
variable {D : Ends} {σ : St} {H : Hp} {Q : VK} {K : PySem.W.Frag} {ta tb tc te : TE} {t u : TS} {c c' : TT} {r : R2} {g : TG}
theorem tSeq_i (h : t { D with nx := u D } σ H) : tSeq t u D σ H := h
theorem tNext_i (h : D.nx σ H) : tNext D σ H := h
theorem tBreak_i (h : D.bk σ H) : tBreak D σ H := h
theorem tCont_i (h : D.ct σ H) : tCont D σ H := h
theorem tAsg_i (h : te σ H (fun x H1 => g x σ H1 D.nx)) : tAsg te g D σ H := h
theorem tDrop_i (h : te σ H fun _ H1 => D.nx σ H1) : tDrop te D σ H := h
theorem tRet_i (h : te σ H D.rt) : tRet te D σ H := h
theorem tRetN_i (h : D.rt .non H) : tRetN D σ H := h
theorem tIfS_i (h : c σ H fun b H1 => Br b (t D σ H1) (u D σ H1)) : tIfS c t u D σ H := h
theorem gName_i {i : Nat} {v : V} {R : St → Hp → Prop} (h : R (σ.set i (some v)) H) : gName i v σ H R := h
theorem tVar_i {i : Nat} {v : V} (e : σ[i]? = some (some v)) (h : Q v H) : tVar i σ H Q := ⟨v, e, h⟩
theorem tC_i {v : V} (h : Q v H) : tC v σ H Q := h
theorem tOp_i (h : ta σ H fun x H1 => tb σ H1 fun y H2 => r x y H2 Q) : tOp r ta tb σ H Q := h
theorem tUn_i {r : V → Hp → VK → Prop} (h : ta σ H fun x H1 => r x H1 Q) : tUn r ta σ H Q := h
theorem tNil_i {R : List V → Hp → Prop} (h : R [] H) : tNil σ H R := h
theorem tCons_i {tr : TA} {R : List V → Hp → Prop} (h : ta σ H fun x H1 => tr σ H1 fun xs H2 => R (x :: xs) H2) : tCons ta tr σ H R := h
theorem tTest_i {R : Bool → Hp → Prop} (h : te σ H fun x H' => IsBl x fun k => R k H') : tTest te σ H R := h
theorem tTruth_i {R : Bool → Hp → Prop} (h : te σ H fun x H1 => Tru K x H1 fun k => R k H1) : tTruth K te σ H R := h
theorem tAnd_i {R : Bool → Hp → Prop} (h : c σ H fun b H1 => Br b (c' σ H1 R) (R false H1)) : tAnd c c' σ H R := h
theorem tOr_i {R : Bool → Hp → Prop} (h : c σ H fun b H1 => Br b (R true H1) (c' σ H1 R)) : tOr c c' σ H R := h
theorem tNot_i {R : Bool → Hp → Prop} (h : c σ H fun b H1 => R (!b) H1) : tNot c σ H R := h
theorem tAndV_i (h : ta σ H fun x H1 => IsBl x fun b => Br b (tb σ H1 Q) (Q (.bl false) H1)) : tAndV ta tb σ H Q := h
theorem tOrV_i (h : ta σ H fun x H1 => IsBl x fun b => Br b (Q (.bl true) H1) (tb σ H1 Q)) : tOrV ta tb σ H Q := h
theorem tNotV_i (h : ta σ H fun x H1 => IsBl x fun b => Q (.bl (!b)) H1) : tNotV ta σ H Q := h
theorem tIf_i (h : c σ H fun b H1 => Br b (ta σ H1 Q) (tb σ H1 Q)) : tIf c ta tb σ H Q := h
theorem tCB_i {r : List V → Hp → VK → Prop} {ts : TA} (h : ts σ H fun vs H1 => r vs H1 Q) : tCB r ts σ H Q := h
theorem tCallS_i {sp : Sp} {E : St → XK} {ts : TA} (h : ts σ H fun vs H1 => sp vs H1 Q (E σ)) : tCallS sp E ts σ H Q := h
theorem tCall_i {sp : Sp} {dvs : List V} {E : XK} {ts : TA} (h : ts σ H fun vs H1 => sp (vs ++ dvs) H1 Q E) : tCall sp dvs E ts σ H Q := h
theorem tCallK_i {sp : Sp} {gV : List V → List V → List V} {E : XK} {ts tk : TA} (h : ts σ H fun vs H1 => tk σ H1 fun zs H2 => sp (gV vs zs) H2 Q E) : tCallK sp gV E ts tk σ H Q := h
theorem tChain_i {r' : R2} (h : ta σ H fun x H1 => tb σ H1 fun y H2 => r x y H2 fun z H3 => IsBl z fun k => Br k (tc σ H3 fun w H4 => r' y w H4 Q) (Q (.bl false) H3)) : tChain r r' ta tb tc σ H Q := h
theorem tTup_i {ts : TA} (h : ts σ H fun xs H1 => NewO (.tup xs) xs.length H1 Q) : tTup ts σ H Q := h
theorem tLst_i {ts : TA} (h : ts σ H fun xs H1 => NewO (.lst xs) xs.length H1 Q) : tLst ts σ H Q := h
theorem tPar_i {i j : Nat} {ts : TA} (h : ts σ H fun vs H1 => Par2 vs fun v w => D.nx ((σ.set i (some v)).set j (some w)) H1) : tPar i j ts D σ H := h
theorem Par2_i {v w : V} {R : V → V → Prop} (h : R v w) : Par2 [v, w] R := ⟨v, w, rfl, h⟩
theorem IsBl_i {b : Bool} {R : Bool → Prop} (h : R b) : IsBl (.bl b) R := ⟨b, rfl, h⟩
theorem new_i {n : Nat} {o : HO} (hn : n ≤ sizeLine) (h : ∀ p H', H p = none → Same H H' → H' p = some o → Q (.ref p) H') : NewO o n H Q :=
  ⟨hn, fun p hp => h p _ hp (Same.new hp) upd_same⟩
theorem Br_t {A B : Prop} (h : A) : Br true A B := iteT h
theorem Br_f {A B : Prop} (h : B) : Br false A B := iteF h
theorem Br_nt {A B : Prop} (h : B) : Br (!true) A B := iteF h
theorem Br_nf {A B : Prop} (h : A) : Br (!false) A B := iteT h
theorem Br_b {b : Bool} {A B : Prop} (h1 : b = true → A) (h2 : b = false → B) : Br b A B := by
  cases b
  · exact iteF (h2 rfl)
  · exact iteT (h1 rfl)
theorem Br_n {b : Bool} {A B : Prop} (h : Br b B A) : Br (!b) A B := by
  cases b
  · exact iteT (show A from h)
  · exact iteF (show B from h)
theorem Br_d {p : Prop} [Decidable p] {A B : Prop} (h1 : p → A) (h2 : ¬ p → B) : Br (decide p) A B :=
  Br_b (fun h => h1 (of_decide_eq_true h)) fun h => h2 (of_decide_eq_false h)
theorem Br_dt {p : Prop} [Decidable p] {A B : Prop} (hp : p) (h : A) : Br (decide p) A B := Br_d (fun _ => h) fun z => absurd hp z
theorem Br_df {p : Prop} [Decidable p] {A B : Prop} (hp : ¬ p) (h : B) : Br (decide p) A B := Br_d (fun z => absurd z hp) fun _ => h
/-! values -/
theorem rI0_i {f : Int → Int → V} {i j : Int} (h : Q (f i j) H) : rI0 f (.int i) (.int j) H Q := ⟨i, j, rfl, rfl, h⟩
theorem rI_i {C : Int → Int → Prop} {f : Int → Int → V} {i j : Int} (hc : C i j) (h : Q (f i j) H) : rI C f (.int i) (.int j) H Q := ⟨i, j, rfl, rfl, hc, h⟩
theorem rU_i {f : Int → V} {i : Int} (h : Q (f i) H) : rU f (.int i) H Q := ⟨i, rfl, h⟩
theorem rAddU_i {i j : Int} (h : Q (.int (i + j)) H) : rAddU K (.int i) (.int j) H Q := .inl ⟨i, j, rfl, rfl, h⟩
theorem rMulU_i {i j : Int} (hc : CMul i j) (h : Q (.int (i * j)) H) : rMulU (.int i) (.int j) H Q := .inl ⟨i, j, rfl, rfl, hc, h⟩
theorem rModP_i {i j : Int} (hc : 0 < j) (h : Q (.int (i % j)) H) : rModP (.int i) (.int j) H Q := ⟨i, j, rfl, rfl, hc, h⟩
theorem rDivP_i {i j : Int} (hc : CDiv i j) (h : Q (.int (i / j)) H) : rDivP (.int i) (.int j) H Q := ⟨i, j, rfl, rfl, hc, h⟩
theorem int_eq {i j : Int} : decide (V.int i = V.int j) = decide (i = j) := by rw [dec_int, Bool.beq_eq_decide_eq]
theorem str_eq {i j : Str} : decide (V.str i = V.str j) = decide (i = j) := by rw [dec_str, Bool.beq_eq_decide_eq]
theorem rEqU_i {i j : Int} (h : Q (.bl (decide (i = j))) H) : rEqU K (.int i) (.int j) H Q := .inl ⟨rfl, by rw [int_eq]; exact h⟩
theorem rNeU_i {i j : Int} (h : Q (.bl (!decide (i = j))) H) : rNeU K (.int i) (.int j) H Q := .inl ⟨rfl, by rw [int_eq]; exact h⟩
theorem rEqU_s {i j : Str} (h : Q (.bl (decide (i = j))) H) : rEqU K (.str i) (.str j) H Q := .inl ⟨rfl, by rw [str_eq]; exact h⟩
theorem rNeU_s {i j : Str} (h : Q (.bl (!decide (i = j))) H) : rNeU K (.str i) (.str j) H Q := .inl ⟨rfl, by rw [str_eq]; exact h⟩
theorem rIxU_l {p : Addr} {xs : List V} {i : Int} {v : V} (hs : SqL K H p xs) (ha : atI xs i = some v) (h : Q v H) : rIxU K (.ref p) (.int i) H Q := .inl ⟨p, xs, i, v, rfl, rfl, hs, ha, h⟩
theorem rIxU_t {p : Addr} {xs : List V} {i : Int} {v : V} (hs : SqT K H p xs) (ha : atI xs i = some v) (h : Q v H) : rIxU K (.ref p) (.int i) H Q := .inr (.inl ⟨p, xs, i, v, rfl, rfl, hs, ha, h⟩)
theorem isN_i {x : V} {R : VK} (h : R (.bl (decide (x = .non))) H) : V.non = V.non ∧ R (.bl (decide (x = .non))) H := ⟨rfl, h⟩
theorem call_int_i {i : Int} (h : Q (.int i) H) : (∃ j, [V.int i] = [V.int j] ∧ Q (.int j) H) ∨ ∃ k, [V.int i] = [V.bl k] ∧ Q (.int (if k then 1 else 0)) H := .inl ⟨i, rfl, h⟩
theorem rLen_l {p : Addr} {xs : List V} (hs : SqL K H p xs) (h : Q (.int xs.length) H) : rLen K [.ref p] H Q := ⟨_, _, rfl, .inl ⟨xs, hs, rfl⟩, h⟩
theorem rLen_t {p : Addr} {xs : List V} (hs : SqT K H p xs) (h : Q (.int xs.length) H) : rLen K [.ref p] H Q := ⟨_, _, rfl, .inr ⟨xs, hs, rfl⟩, h⟩
theorem and_pure {p : Prop} {q : Prop} (h1 : p) (h2 : q) : p ∧ q := ⟨h1, h2⟩
/-! new objects by values -/
theorem rSlL_i {a : Addr} {xs : List V} {lo hi : Option Int} (hS : SqL K H a xs) (h : ∀ p H', H p = none → Same H H' → H' p = some (.lst (cutV xs lo hi)) → Q (.ref p) H') : rSlL K (.ref a) lo hi H Q :=
  ⟨a, xs, rfl, hS, fun p hp => h p _ hp (Same.new hp) upd_same⟩
theorem rListOf_l {a : Addr} {xs : List V} (hS : SqL K H a xs) (h : ∀ p H', H p = none → Same H H' → H' p = some (.lst xs) → Q (.ref p) H') : rListOf K [.ref a] H Q :=
  ⟨a, xs, rfl, .inl hS, fun p hp => h p _ hp (Same.new hp) upd_same⟩
theorem rListOf_t {a : Addr} {xs : List V} (hS : SqT K H a xs) (h : ∀ p H', H p = none → Same H H' → H' p = some (.lst xs) → Q (.ref p) H') : rListOf K [.ref a] H Q :=
  ⟨a, xs, rfl, .inr hS, fun p hp => h p _ hp (Same.new hp) upd_same⟩
theorem rTupleOf_l {a : Addr} {xs : List V} (hS : SqL K H a xs) (h : ∀ p H', H p = none → Same H H' → H' p = some (.tup xs) → Q (.ref p) H') : rTupleOf K [.ref a] H Q :=
  ⟨a, xs, rfl, .inl ⟨hS, fun p hp => h p _ hp (Same.new hp) upd_same⟩⟩
theorem rAddU_l {a b : Addr} {xs ys : List V} (ha : H a = some (.lst xs)) (hb : H b = some (.lst ys)) (hn : xs.length + ys.length ≤ sizeLine) (h : ∀ p H', H p = none → Same H H' → H' p = some (.lst (xs ++ ys)) → Q (.ref p) H') : rAddU K (.ref a) (.ref b) H Q :=
  .inr (.inl ⟨a, b, xs, ys, rfl, rfl, ha, hb, hn, fun p hp => h p _ hp (Same.new hp) upd_same⟩)
theorem eqD_i {x y : V} {d e : PyData} (hx : Dp K H x d) (hy : Dp K H y e) (sd : SeqAt.shaped d = true) (se : SeqAt.shaped e = true) (h : Q (.bl (PyData.eqv d e)) H) : rEqU K x y H Q := .inr ⟨d, e, hx, hy, sd, se, h⟩
theorem neD_i {x y : V} {d e : PyData} (hx : Dp K H x d) (hy : Dp K H y e) (sd : SeqAt.shaped d = true) (se : SeqAt.shaped e = true) (h : Q (.bl (!PyData.eqv d e)) H) : rNeU K x y H Q := .inr ⟨d, e, hx, hy, sd, se, h⟩
/-! an append -/
theorem del_upd {H : Hp} {D : Addr} {o : HO} : del (upd H D o) D = del H D := by
  funext b
  by_cases hb : b = D
  · rw [hb, del_same, del_same]
  · rw [del_ne hb, upd_ne hb, del_ne hb]
def Chg (o : Addr) (H H' : Hp) : Prop := ∀ b u, b ≠ o → H b = some u → H' b = some u
theorem append_i {l : Addr} {xs : List V} {y : V} (hl : H l = some (.lst xs)) (hn : xs.length < sizeLine) (h : ∀ H', Chg l H H' → H' l = some (.lst (xs ++ [y])) → ((∀ H0, Same H0 H → H0 l = none → Same H0 H') ∧ del H' l = del H l) → Q .non H') : rAppend (.ref l) [y] H Q :=
  ⟨l, xs, y, rfl, rfl, hl, hn, h _ (fun b u hb e => by rw [upd_ne hb]; exact e) upd_same ⟨fun H0 s0 n => Same.upd s0 n, del_upd⟩⟩
theorem append_ints {l : Addr} {xs : List Int} {y : Int} (hl : H l = some (.lst (xs.map V.int))) (hn : xs.length < 1000000) (h : ∀ H', Chg l H H' → H' l = some (.lst ((xs ++ [y]).map V.int)) → (∀ H0, Same H0 H → H0 l = none → Same H0 H') → Q .non H') : rAppend (.ref l) [.int y] H Q :=
  append_i hl (by rw [List.length_map]; exact Nat.lt_trans hn (by decide)) fun H' c e s => h H' c (by rw [List.map_append]; exact e) s.1
def Dg (xs : List Int) : Prop := ∀ x ∈ xs, 0 ≤ x ∧ x < 1000
theorem dg_nil : Dg [] := fun _ h => nomatch h
theorem dg_app {xs : List Int} {y : Int} (h : Dg xs) (hy : 0 ≤ y ∧ y < 1000) : Dg (xs ++ [y]) := fun x hx => (List.mem_append.mp hx).elim (h x) fun z => by
  rw [List.mem_singleton.mp z]
  exact hy
theorem dg_mod {z : Int} : 0 ≤ z % 1000 ∧ z % 1000 < 1000 := by omega
theorem dg_take {xs : List Int} {n : Nat} (h : Dg xs) : Dg (xs.take n) := fun x hx => h x (List.mem_of_mem_take hx)
theorem cut_take {xs : List Int} {c : Int} (h0 : 0 ≤ c) (h1 : c ≤ xs.length) : cutV (xs.map V.int) none (some c) = (xs.take c.toNat).map V.int := by
  unfold cutV
  obtain ⟨n, rfl⟩ : ∃ n : Nat, c = (n : Int) := ⟨c.toNat, by omega⟩
  rw [HT.sIx_none, HT.sIx_nat, List.drop_zero, Nat.sub_zero, List.length_map, Nat.min_eq_left (by omega), Int.toNat_natCast, List.map_take]
/-- the drawn numbers and the counter -/
def Draw (K : PySem.W.Frag) (H : Hp) (c a : Addr) : Prop := (∃ xs : List Int, SqL K H c (xs.map V.int) ∧ 0 < xs.length) ∧ H a = some (cellO a)
theorem _root_.L2.Same.draw {K : PySem.W.Frag} {H H' : Hp} {c a : Addr} (s : Same H H') (h : Draw K H c a) : Draw K H' c a := by
  obtain ⟨⟨xs, h1, h2⟩, h3⟩ := h
  exact ⟨⟨xs, s.seq h1, h2⟩, s _ _ h3⟩
theorem tBM_i {T : String} {r : V → List V → Hp → VK → Prop} {to : TE} {ts : TA} (h : to σ H fun x H1 => tyV K T x H1 ∧ ts σ H1 fun xs H2 => r x xs H2 Q) : tBM K T r to ts σ H Q := h
theorem tyL {a : Addr} {xs : List V} {A : Prop} (hS : SqL K H a xs) (h : A) : tyV K "list" (.ref a) H ∧ A := ⟨.inl ⟨rfl, xs, hS⟩, h⟩
theorem tSl_i {r : V → Option Int → Option Int → Hp → VK → Prop} {tl th : TO} (h : te σ H fun x H1 => tl σ H1 fun l H2 => th σ H2 fun u H3 => r x l u H3 Q) : tSl r te tl th σ H Q := h
theorem tNoPart_i {R : Option Int → Hp → Prop} (h : R none H) : tNoPart σ H R := h
def PartI (x : V) (R : Option Int → Prop) : Prop := ∃ i, x = .int i ∧ R (some i)
theorem PartI_i {i : Int} {R : Option Int → Prop} (h : R (some i)) : PartI (.int i) R := ⟨i, rfl, h⟩
theorem tPart_i {R : Option Int → Hp → Prop} (h : te σ H fun x H1 => PartI x fun o => R o H1) : tPart te σ H R := h
theorem rInt1_i {i : Int} (h : Q (.int i) H) : rInt1 [.int i] H Q := .inl ⟨i, rfl, h⟩
theorem rInt1_b {k : Bool} (h : Q (.int (if k then 1 else 0)) H) : rInt1 [.bl k] H Q := .inr ⟨k, rfl, h⟩
theorem rMin2_i {i j : Int} (h : Q (.int (if j < i then j else i)) H) : rMin2 [.int i, .int j] H Q := ⟨i, j, rfl, h⟩
theorem rMax2_i {i j : Int} (h : Q (.int (if j > i then j else i)) H) : rMax2 [.int i, .int j] H Q := ⟨i, j, rfl, h⟩
theorem rAbs_i {i : Int} (h : Q (.int (if i < 0 then -i else i)) H) : rAbs [.int i] H Q := ⟨i, rfl, h⟩
theorem Tru_b {b : Bool} {R : Bool → Prop} (h : R b) : Tru K (.bl b) H R := ⟨b, rfl, h⟩
theorem Tru_i {i : Int} {R : Bool → Prop} (h : R (i != 0)) : Tru K (.int i) H R := ⟨_, rfl, h⟩
theorem Tru_n {R : Bool → Prop} (h : R false) : Tru K .non H R := ⟨_, rfl, h⟩
theorem rIsN_i {x : V} (h : Q (.bl (decide (x = .non))) H) : rIsN x .non H Q := ⟨rfl, h⟩
theorem rNotN_i {x : V} (h : Q (.bl (!decide (x = .non))) H) : rNotN x .non H Q := ⟨rfl, h⟩
theorem rSum_i {a : Addr} (ns : List Int) (hS : SqL K H a (ns.map V.int)) (h : Q (.int ns.sum) H) : rSum K [.ref a] H Q := ⟨a, ns, rfl, hS, h⟩
theorem rAll_i {a : Addr} (bs : List Bool) (hS : SqL K H a (bs.map V.bl)) (h : Q (.bl (bs.all id)) H) : rAll K [.ref a] H Q := ⟨a, bs, rfl, hS, h⟩
/-! raising -/
def spI1 (f : Str) (K : PySem.W.Frag) : Sp := fun vs H Q _ => ∃ (a C : Addr) (v : V), vs = [.ref a, v] ∧ OexC K C ∧ PySem.W.findIn K (.ref C) f = some none ∧ H a = some (exo a C none) ∧
  ∀ dx, H dx = none → dx ≠ a → Q .non (upd (upd H dx (exd dx [(f, v)])) a (exo a C (some dx)))
theorem spI1_len {f : Str} {vs : List V} {E : XK} (h : spI1 f K vs H Q E) : vs.length = 2 := by
  obtain ⟨a, C, v, rfl, _⟩ := h
  rfl
theorem spI1_body {f : Str} {N : List Str} {vs : List V} {E : XK} (h : spI1 f K vs H Q E) : tOst K f (tVar 0) (tVar 1) { nx := fun _ H' => Q .non H', rt := Q } (start N vs) H := by
  obtain ⟨a, C, v, rfl, T, hn, ha, k⟩ := h
  exact ⟨v, rfl, .ref a, rfl, a, C, rfl, T, hn, .inl ⟨ha, k⟩⟩
def MkO1 (C : Addr) (sp : Sp) (vs : List V) (H1 : Hp) (R : XK) : Prop := vs.length ≤ 1000 ∧ ∀ a, H1 a = none → sp (.ref a :: (vs ++ [])) (upd H1 a (exo a C none))
  (fun v H2 => v = .non ∧ ∃ (d : Addr) (fs : List (Str × V)), H2 a = some (exo a C (some d)) ∧ H2 d = some (exd d fs) ∧ H1 d = none ∧ R (.ref C) (some d) (upd (del H2 a) d (.xd fs))) (fun _ _ _ => False)
theorem tMkO_i {C : Addr} {sp : Sp} {ts : TA} {R : XK} (h : ts σ H fun vs H1 => MkO1 C sp vs H1 R) : tMkO C sp [] ts σ H R := h
theorem mkO1 {C : Addr} {f : Str} {v : V} {R : XK} (T : OexC K C) (hn : PySem.W.findIn K (.ref C) f = some none) (k : ∀ H' d, Same H H' → H' d = some (.xd [(f, v)]) → R (.ref C) (some d) H') : MkO1 C (spI1 f K) [v] H R := by
  refine ⟨by show 1 ≤ 1000; omega, fun a ha => ⟨a, C, v, rfl, T, hn, upd_same, fun dx hd hne => ⟨rfl, dx, [(f, v)], upd_same, ?_, ?_, k _ dx ?_ upd_same⟩⟩⟩
  · rw [upd_ne hne, upd_same]
  · rw [upd_ne hne] at hd
    exact hd
  · rw [upd_ne hne] at hd
    intro b u e
    have hb : b ≠ a := ne_of_none e ha
    rw [upd_ne (ne_of_none e hd), del_ne hb, upd_ne hb, upd_ne (ne_of_none e hd), upd_ne hb]
    exact e
/-! while -/
theorem while_w (W : Nat → St → Hp → Prop) (m : Nat) (h0 : W m σ H)
    (hs : ∀ m σ H, W m σ H → c σ H fun b H1 => Br b (∃ N : St → Hp → Prop, (∀ σ' H', N σ' H' → ∃ m', m' < m ∧ W m' σ' H') ∧ t { D with nx := N, ct := N, bk := D.nx } σ H1) (D.nx σ H1)) : tWhile c t D σ H := ⟨W, ⟨m, h0⟩, hs⟩
theorem turn_w {W : Nat → St → Hp → Prop} {m : Nat} (h : t { D with nx := fun σ' H' => ∃ m', m' < m ∧ W m' σ' H', ct := fun σ' H' => ∃ m', m' < m ∧ W m' σ' H', bk := D.nx } σ H) :
    ∃ N : St → Hp → Prop, (∀ σ' H', N σ' H' → ∃ m', m' < m ∧ W m' σ' H') ∧ t { D with nx := N, ct := N, bk := D.nx } σ H := ⟨_, fun _ _ z => z, h⟩
end
end EL

namespace EL
open PySem PySem.Spec PyProof.Rows L2

/-! ### sources: what an iterator gives while the heap says ok -/
structure Src (J : It) (n : Nat) (ok : Hp → Prop) (itm : Nat → V → Hp → Hp → Prop) : Prop where
  go : ∀ i H, ok H → i < n → J.go i H
  stop : ∀ i H, ok H → n ≤ i → J.stop i H
  yld : ∀ i H x H', ok H → i < n → J.yld i H x H' → itm i x H H'
def itmL (xs : List V) : Nat → V → Hp → Hp → Prop := fun i x H H' => H' = H ∧ xs[i]? = some x
def itmR (lo : Int) : Nat → V → Hp → Hp → Prop := fun i x H H' => H' = H ∧ x = .int (lo + (i : Nat))
def itmE (xs : List V) : Nat → V → Hp → Hp → Prop := fun i x H H' => ∃ p y, x = .ref p ∧ H p = none ∧ Same H H' ∧ H' p = some (.tup [.int (i : Nat), y]) ∧ xs[i]? = some y
def itmZ (xs ys : List V) : Nat → V → Hp → Hp → Prop := fun i x H H' => ∃ p y z, x = .ref p ∧ H p = none ∧ Same H H' ∧ H' p = some (.tup [y, z]) ∧ xs[i]? = some y ∧ ys[i]? = some z
section
variable {K : PySem.W.Frag} {a b : Addr} {xs ys : List V}
theorem srcL : Src (Itl K a) xs.length (fun H => SqL K H a xs) (itmL xs) where
  go := fun i H h hi => ⟨xs, xs[i], h, by simp [hi]⟩
  stop := fun i H h hi => ⟨xs, h, hi⟩
  yld := fun i H x H' h _ ⟨e, y⟩ => ⟨e, y xs h⟩
theorem srcT : Src (Itt K a) xs.length (fun H => SqT K H a xs) (itmL xs) where
  go := fun i H h hi => ⟨xs, xs[i], h, by simp [hi]⟩
  stop := fun i H h hi => ⟨xs, h, hi⟩
  yld := fun i H x H' h _ ⟨e, y⟩ => ⟨e, y xs h⟩
theorem srcR {lo : Int} {n : Nat} : Src (Itr lo n) n (fun _ => True) (itmR lo) where
  go := fun i H h hi => hi
  stop := fun i H h hi => hi
  yld := fun i H x H' h _ y => y
theorem srcE : Src (Ite K a) xs.length (fun H => SqL K H a xs) (itmE xs) where
  go := fun i H h hi => ⟨xs, xs[i], h, by simp [hi]⟩
  stop := fun i H h hi => ⟨xs, h, hi⟩
  yld := fun i H x H' h _ ⟨p, y, e1, e2, e3, e4⟩ => ⟨p, y, e1, e2, e3 ▸ Same.new e2, e3 ▸ upd_same, e4 xs h⟩
theorem srcZ : Src (Itz K a b) (min xs.length ys.length) (fun H => SqL K H a xs ∧ SqL K H b ys) (itmZ xs ys) where
  go := fun i H h hi => ⟨xs, ys, xs[i]'(by omega), ys[i]'(by omega), h.1, h.2, by simp, by simp⟩
  stop := fun i H h hi => ⟨xs, ys, h.1, h.2, by omega⟩
  yld := fun i H x H' h _ ⟨p, y, z, e1, e2, e3, e4, e5⟩ => ⟨p, y, z, e1, e2, e3 ▸ Same.new e2, e3 ▸ upd_same, e4 xs h.1, e5 ys h.2⟩
theorem srcZT : Src (RZ.ItzT K a b) (min xs.length ys.length) (fun H => SqT K H a xs ∧ SqT K H b ys) (itmZ xs ys) where
  go := fun i H h hi => ⟨xs, ys, xs[i]'(by omega), ys[i]'(by omega), h.1, h.2, by simp, by simp⟩
  stop := fun i H h hi => ⟨xs, ys, h.1, h.2, by omega⟩
  yld := fun i H x H' h _ ⟨p, y, z, e1, e2, e3, e4, e5⟩ => ⟨p, y, z, e1, e2, e3 ▸ Same.new e2, e3 ▸ upd_same, e4 xs h.1, e5 ys h.2⟩
end
/-! how a source begins: R is what is wanted of the iterator and of the heap -/
section
variable {σ : St} {H : Hp} {K : PySem.W.Frag} {te : TE} {ts : TA} {R : It → Hp → Prop}
def WL (K : PySem.W.Frag) (R : It → Hp → Prop) (x : V) (H : Hp) : Prop := ∃ a, x = .ref a ∧ (∃ xs, SqL K H a xs) ∧ R (Itl K a) H
def WT (K : PySem.W.Frag) (R : It → Hp → Prop) (x : V) (H : Hp) : Prop := ∃ a, x = .ref a ∧ (∃ xs, SqT K H a xs) ∧ R (Itt K a) H
def W1 (R : It → Hp → Prop) (vs : List V) (H : Hp) : Prop := ∃ j : Int, vs = [.int j] ∧ -(2 ^ 62) ≤ j ∧ j < 2 ^ 62 ∧ R (Itr 0 j.toNat) H
def W2 (R : It → Hp → Prop) (vs : List V) (H : Hp) : Prop := ∃ i j : Int, vs = [.int i, .int j] ∧ (-(2 ^ 62) ≤ i ∧ i < 2 ^ 62 ∧ -(2 ^ 62) ≤ j ∧ j < 2 ^ 62) ∧ R (Itr i (j - i).toNat) H
def WE (K : PySem.W.Frag) (R : It → Hp → Prop) (vs : List V) (H : Hp) : Prop := ∃ a xs, vs = [.ref a] ∧ SqL K H a xs ∧ R (Ite K a) H
def WZ (K : PySem.W.Frag) (R : It → Hp → Prop) (vs : List V) (H : Hp) : Prop := ∃ a b xs ys, vs = [.ref a, .ref b] ∧ SqL K H a xs ∧ SqL K H b ys ∧ R (Itz K a b) H
theorem wL (h : te σ H (WL K R)) : iU K te σ H R := .inl h
theorem wT (h : te σ H (WT K R)) : iU K te σ H R := .inr h
theorem w1 (h : ts σ H (W1 R)) : iRng1 ts σ H R := h
theorem w2 (h : ts σ H (W2 R)) : iRng2 ts σ H R := h
theorem wE (h : ts σ H (WE K R)) : iEnum K ts σ H R := h
theorem wZ (h : ts σ H (WZ K R)) : iZip K ts σ H R := h
theorem WL_i {a : Addr} (xs : List V) (hS : SqL K H a xs) (h : R (Itl K a) H) : WL K R (.ref a) H := ⟨a, rfl, ⟨xs, hS⟩, h⟩
theorem WT_i {a : Addr} (xs : List V) (hS : SqT K H a xs) (h : R (Itt K a) H) : WT K R (.ref a) H := ⟨a, rfl, ⟨xs, hS⟩, h⟩
theorem W1_i {j : Int} (h1 : -(2 ^ 62) ≤ j ∧ j < 2 ^ 62) (h : R (Itr 0 j.toNat) H) : W1 R [.int j] H := ⟨j, rfl, h1.1, h1.2, h⟩
theorem W2_i {i j : Int} (h1 : -(2 ^ 62) ≤ i ∧ i < 2 ^ 62 ∧ -(2 ^ 62) ≤ j ∧ j < 2 ^ 62) (h : R (Itr i (j - i).toNat) H) : W2 R [.int i, .int j] H := ⟨i, j, rfl, h1, h⟩
theorem WE_i {a : Addr} (xs : List V) (hS : SqL K H a xs) (h : R (Ite K a) H) : WE K R [.ref a] H := ⟨a, xs, rfl, hS, h⟩
theorem WZ_i {a b : Addr} (xs ys : List V) (hS : SqL K H a xs) (hT : SqL K H b ys) (h : R (Itz K a b) H) : WZ K R [.ref a, .ref b] H := ⟨a, b, xs, ys, rfl, hS, hT, h⟩
end

/-! ### for -/
def ForB (g : TG) (tb : TS) (D : Ends) (σ : St) (J : It) (H : Hp) : Prop := ∃ W : Nat → Nat → St → Hp → Prop, (∃ m, W 0 m σ H) ∧ ∀ i m σ H, W i m σ H →
  (J.stop i H ∧ D.nx σ H) ∨ (J.go i H ∧ ∃ N : St → Hp → Prop, (∀ σ' H', N σ' H' → ∃ m', m' < m ∧ W (i + 1) m' σ' H') ∧ ∀ x H', J.yld i H x H' → g x σ H' fun σ2 H2 => tb { D with nx := N, ct := N, bk := D.nx } σ2 H2)
section
variable {σ : St} {H : Hp} {wi : TI} {g : TG} {tb : TS} {D : Ends} {J : It} {n : Nat} {ok : Hp → Prop} {itm : Nat → V → Hp → Hp → Prop}
theorem tFor_i (h : wi σ H (ForB g tb D σ)) : tFor wi g tb D σ H := h
theorem forS (S : Src J n ok itm) (Pv : Nat → St → Hp → Prop) (h0 : Pv 0 σ H) (hok : ∀ i σ H, i ≤ n → Pv i σ H → ok H)
    (hs : ∀ i σ H x H', i < n → Pv i σ H → itm i x H H' → g x σ H' fun σ2 H2 => tb { D with nx := Pv (i + 1), ct := Pv (i + 1), bk := D.nx } σ2 H2) (hd : ∀ σ H, Pv n σ H → D.nx σ H) : ForB g tb D σ J H := by
  refine ⟨fun i m σ H => m = n - i ∧ i ≤ n ∧ Pv i σ H, ⟨n, by simp, Nat.zero_le _, h0⟩, ?_⟩
  rintro i m σ H ⟨rfl, hi, p⟩
  have q := hok i σ H hi p
  by_cases hlt : i < n
  · exact .inr ⟨S.go i H q hlt, Pv (i + 1), fun σ' H' p' => ⟨n - (i + 1), by omega, rfl, hlt, p'⟩, fun x H' y => hs i σ H x H' hlt p (S.yld i H x H' q hlt y)⟩
  · have e : i = n := by omega
    subst e
    exact .inl ⟨S.stop i H q (Nat.le_refl _), hd σ H p⟩
/-- turn by turn -/
def AndR (A B : Prop) : Prop := A ∧ B
def runS (ok : Hp → Prop) (g : TG) (tb : TS) (D : Ends) : List V → St → Hp → Prop
  | [], σ, H => D.nx σ H
  | x :: r, σ, H => g x σ H fun σ2 H2 => tb { D with nx := fun σ' H' => AndR (ok H') (runS ok g tb D r σ' H'), ct := fun σ' H' => AndR (ok H') (runS ok g tb D r σ' H'), bk := D.nx } σ2 H2
theorem forRun {xs : List V} (S : Src J xs.length ok (itmL xs)) (hS : ok H) (h : runS ok g tb D xs σ H) : ForB g tb D σ J H := by
  refine forS S (fun i σ H => ok H ∧ runS ok g tb D (xs.drop i) σ H) ⟨hS, by rw [List.drop_zero]; exact h⟩ (fun i σ H _ z => z.1) (fun i σ H x H' hi z hx => ?_) (fun σ H z => ?_)
  · obtain ⟨rfl, hx⟩ := hx
    have z2 := z.2
    obtain ⟨hi, e⟩ := List.getElem?_eq_some_iff.mp hx
    rw [List.drop_eq_getElem_cons hi, e] at z2
    exact z2
  · have z2 := z.2
    rw [List.drop_length] at z2
    exact z2
theorem runS_cons {x : V} {r : List V} (h : g x σ H fun σ2 H2 => tb { D with nx := fun σ' H' => AndR (ok H') (runS ok g tb D r σ' H'), ct := fun σ' H' => AndR (ok H') (runS ok g tb D r σ' H'), bk := D.nx } σ2 H2) : runS ok g tb D (x :: r) σ H := h
theorem run_next {A B : Prop} (h1 : A) (h2 : B) : AndR A B := ⟨h1, h2⟩
theorem runS_nil (h : D.nx σ H) : runS ok g tb D [] σ H := h
end

theorem tCell_i {σ : St} {H : Hp} {Q : VK} (h : ∀ p H', H p = none → Same H H' → H' p = some (cellO p) → Q (.ref p) H') : tCell σ H Q := fun p hp => h p _ hp (Same.new hp) upd_same
theorem cut_i {t u : TS} {D : Ends} {σ : St} {H : Hp} (M : St → Hp → Prop) (h : t { D with nx := M } σ H) (k : ∀ σ' H', M σ' H' → u D σ' H') : tCut t u D σ H := ⟨M, h, k⟩
theorem cut_s {t u : TS} {D : Ends} {σ : St} {H : Hp} (h : t { D with nx := u D } σ H) : tCut t u D σ H := ⟨u D, h, fun _ _ z => z⟩
/-! ### targets -/
section
variable {σ : St} {H : Hp} {K : PySem.W.Frag} {R : St → Hp → Prop} {t : TG} {u : TGs}
theorem gTup_i {n : Nat} {a : Addr} {xs : List V} (hS : SqT K H a xs) (hl : xs.length = n) (h : u xs σ H R) : gTup K n u (.ref a) σ H R := ⟨a, xs, rfl, hS, hl, h⟩
theorem gCons_i {v : V} {r : List V} (h : t v σ H fun σ' H' => u r σ' H' R) : gCons t u (v :: r) σ H R := ⟨v, r, rfl, h⟩
theorem gNil_i (h : R σ H) : gNil [] σ H R := ⟨rfl, h⟩
def SubE (s : TSet) (o i v : V) (H : Hp) (R : Hp → Prop) : Prop := s o i v H R
theorem gSub_i {to ti : TE} {s : TSet} {v : V} (h : to σ H fun o H1 => ti σ H1 fun i H2 => SubE s o i v H2 fun H3 => R σ H3) : gSub to ti s v σ H R := h
theorem setL_i {p : Addr} {xs : List V} {k : Int} {j : Nat} {v : V} {R : Hp → Prop} (hp : H p = some (.lst xs)) (hj : ixN xs.length k = some j)
    (h : ∀ H', Chg p H H' → H' p = some (.lst (xs.set j v)) → (∀ H0, Same H0 H → H0 p = none → Same H0 H') → R H') : SubE rSetU (.ref p) (.int k) v H R :=
  .inl ⟨p, xs, k, j, rfl, rfl, hp, hj, h _ (fun b u hb e => by rw [upd_ne hb]; exact e) upd_same fun H0 s0 n => Same.upd s0 n⟩
theorem setC_i {p : Addr} {n : Int} {R : Hp → Prop} (hp : H p = some (cellO p)) (h : R H) : SubE rSetU (.ref p) (.int 0) (.int n) H R := .inr ⟨p, n, rfl, rfl, rfl, hp, h⟩
theorem rIxU_c {K : PySem.W.Frag} {p : Addr} {Q : VK} (hp : H p = some (cellO p)) (h : ∀ n, Q (.int n) H) : rIxU K (.ref p) (.int 0) H Q := .inr (.inr (.inl ⟨p, rfl, rfl, hp, h⟩))
end

/-! ### comprehensions: the new list at D aside -/
theorem del_id {H : Hp} {D : Addr} (h : H D = none) : del H D = H := by
  funext b
  by_cases hb : b = D
  · rw [hb, del_same, h]
  · rw [del_ne hb]
theorem _root_.L2.Same.del {H H' : Hp} {D : Addr} (h : Same H H') : Same (L2.del H D) (L2.del H' D) := fun b o e => by
  by_cases hb : b = D
  · rw [hb, del_same] at e
    cases e
  · rw [del_ne hb] at e
    rw [del_ne hb]
    exact h b o e
theorem _root_.L2.Same.undel {H : Hp} {D : Addr} : Same (L2.del H D) H := fun b o e => by
  by_cases hb : b = D
  · rw [hb, del_same] at e
    cases e
  · rw [del_ne hb] at e
    exact e
theorem _root_.L2.Same.todel {H H' : Hp} {D : Addr} (h : Same H H') (n : H D = none) : Same H (L2.del H' D) := by
  have q := h.del (D := D)
  rw [del_id n] at q
  exact q
theorem del_at {H : Hp} {D p : Addr} {o : HO} (h : H p = some o) (ne : p ≠ D) : del H D p = some o := by rw [del_ne ne]; exact h
theorem del_new {H H' : Hp} {D p : Addr} {o o' : HO} (h : H' p = some o) (np : H p = none) (hD : H D = some o') : del H' D p = some o := del_at h fun e => by
  rw [e, hD] at np
  cases np
def LcB (g : TG) (tt : TT) (te : TE) (vs : List Nat) (σ : St) (Q : VK) (J : It) (H1 : Hp) : Prop := ∀ D, H1 D = none → ∃ W : Nat → Nat → Hp → Prop, (∃ m, W 0 m (upd H1 D (.lst []))) ∧ ∀ i m H, W i m H →
  (J.stop i H ∧ Q (.ref D) H) ∨ (J.go i H ∧ ∃ Nx : Hp → Prop, (∀ H', Nx H' → ∃ m', m' < m ∧ W (i + 1) m' H') ∧ ∀ x H', J.yld i H x H' → g x (wipe σ vs) H' fun σ2 H2 => wipe σ2 vs = wipe σ vs ∧ tt σ2 H2 fun b H3 =>
    if b = true then te σ2 H3 fun y H4 => ∃ acc, H4 D = some (.lst acc) ∧ acc.length < sizeLine ∧ Nx (upd H4 D (.lst (acc ++ [y]))) else Nx H3)
/-- what a turn of the comprehension must reach -/
def LcP (H0 : Hp) (D : Addr) (J : Nat → Hp → List V → Prop) (i : Nat) (H : Hp) : Prop := ∃ acc, Same H0 H ∧ H D = some (.lst acc) ∧ J i (del H D) acc
def LcY (D : Addr) (N : Hp → Prop) (y : V) (H4 : Hp) : Prop := ∃ acc, H4 D = some (.lst acc) ∧ acc.length < sizeLine ∧ N (upd H4 D (.lst (acc ++ [y])))
section
variable {σ : St} {H : Hp} {wi : TI} {g : TG} {tt : TT} {te : TE} {J : It} {n : Nat} {ok : Hp → Prop} {itm : Nat → V → Hp → Hp → Prop} {vs : List Nat} {Q : VK}
theorem tLc_i (h : wi σ H (LcB g tt te vs σ Q)) : tLc wi g tt te vs σ H Q := h
/-- C: what is known of the i items so far, the new list's entries and the heap without the new list -/
theorem lcS (S : Src J n ok itm) (C : Nat → Hp → List V → Prop) (hok : ∀ H', Same H H' → ok H') (h0 : C 0 H [])
    (hs : ∀ D i acc H1 x H2, i < n → H D = none → Same H H1 → H1 D = some (.lst acc) → C i (del H1 D) acc → itm i x H1 H2 → g x (wipe σ vs) H2 fun σ2 H2 => wipe σ2 vs = wipe σ vs ∧ tt σ2 H2 fun b H3 =>
      Br b (te σ2 H3 (LcY D (LcP H D C (i + 1)))) (LcP H D C (i + 1) H3))
    (hd : ∀ D acc H1, H D = none → Same H H1 → H1 D = some (.lst acc) → C n (del H1 D) acc → Q (.ref D) H1) : LcB g tt te vs σ Q J H := by
  intro D hD
  refine ⟨fun i m H' => m = n - i ∧ i ≤ n ∧ LcP H D C i H', ⟨n, by simp, Nat.zero_le _, [], Same.new hD, upd_same, by rw [del_upd, del_id hD]; exact h0⟩, ?_⟩
  rintro i m H1 ⟨rfl, hi, p⟩
  obtain ⟨acc, s1, e1, j1⟩ := id p
  have q := hok _ s1
  by_cases hlt : i < n
  · exact .inr ⟨S.go i H1 q hlt, LcP H D C (i + 1), fun H' p' => ⟨n - (i + 1), by omega, rfl, hlt, p'⟩, fun x H' y => hs D i acc H1 x H' hlt hD s1 e1 j1 (S.yld i H1 x H' q hlt y)⟩
  · have e : i = n := by omega
    subst e
    exact .inl ⟨S.stop i H1 q (Nat.le_refl _), hd D acc H1 hD s1 e1 j1⟩
theorem wipe_i {σ2 : St} {A : Prop} (h1 : wipe σ2 vs = wipe σ vs) (h2 : A) : wipe σ2 vs = wipe σ vs ∧ A := ⟨h1, h2⟩
theorem tYes_i {R : Bool → Hp → Prop} (h : R true H) : tYes σ H R := h
theorem lcY {D : Addr} {H0 : Hp} {C : Nat → Hp → List V → Prop} {i : Nat} {acc : List V} {y : V} (nD : H0 D = none) (s : Same H0 H) (e : H D = some (.lst acc)) (hl : acc.length < sizeLine) (j : C i (del H D) (acc ++ [y])) : LcY D (LcP H0 D C i) y H :=
  ⟨acc, e, hl, acc ++ [y], Same.upd s nD, upd_same, by rw [del_upd]; exact j⟩
theorem lcN {D : Addr} {H0 : Hp} {C : Nat → Hp → List V → Prop} {i : Nat} {acc : List V} (s : Same H0 H) (e : H D = some (.lst acc)) (j : C i (del H D) acc) : LcP H0 D C i H := ⟨acc, s, e, j⟩
end
/-! two clauses -/
def LcB2 (g : TG) (tt : TT) (wi1 : TI) (g1 : TG) (tt1 : TT) (te : TE) (vs vs1 : List Nat) (σ : St) (Q : VK) (J : It) (H1 : Hp) : Prop := ∀ D, H1 D = none → ∃ W : Nat → Nat → Hp → Prop, (∃ m, W 0 m (upd H1 D (.lst []))) ∧ ∀ i m H, W i m H →
  (J.stop i H ∧ Q (.ref D) H) ∨ (J.go i H ∧ ∃ Nx : Hp → Prop, (∀ H', Nx H' → ∃ m', m' < m ∧ W (i + 1) m' H') ∧ ∀ x H', J.yld i H x H' → g x (wipe σ vs) H' fun σ2 H2 => wipe σ2 vs = wipe σ vs ∧ tt σ2 H2 fun b H3 =>
    if b = true then wi1 σ2 H3 fun J1 H4 => ∃ W1 : Nat → Nat → Hp → Prop, (∃ m, W1 0 m H4) ∧ ∀ j k H, W1 j k H →
      (J1.stop j H ∧ Nx H) ∨ (J1.go j H ∧ ∃ Nx1 : Hp → Prop, (∀ H', Nx1 H' → ∃ k', k' < k ∧ W1 (j + 1) k' H') ∧ ∀ x H', J1.yld j H x H' → g1 x (wipe σ2 vs1) H' fun σ3 H5 => wipe σ3 vs1 = wipe σ2 vs1 ∧ tt1 σ3 H5 fun b H6 =>
        if b = true then te σ3 H6 fun y H7 => ∃ acc, H7 D = some (.lst acc) ∧ acc.length < sizeLine ∧ Nx1 (upd H7 D (.lst (acc ++ [y]))) else Nx1 H6)
    else Nx H3)
def LcIn (D : Addr) (N : Hp → Prop) (g1 : TG) (tt1 : TT) (te : TE) (vs1 : List Nat) (σ2 : St) (J1 : It) (H4 : Hp) : Prop := ∃ W1 : Nat → Nat → Hp → Prop, (∃ m, W1 0 m H4) ∧ ∀ j k H, W1 j k H →
      (J1.stop j H ∧ N H) ∨ (J1.go j H ∧ ∃ Nx1 : Hp → Prop, (∀ H', Nx1 H' → ∃ k', k' < k ∧ W1 (j + 1) k' H') ∧ ∀ x H', J1.yld j H x H' → g1 x (wipe σ2 vs1) H' fun σ3 H5 => wipe σ3 vs1 = wipe σ2 vs1 ∧ tt1 σ3 H5 fun b H6 =>
        if b = true then te σ3 H6 fun y H7 => ∃ acc, H7 D = some (.lst acc) ∧ acc.length < sizeLine ∧ Nx1 (upd H7 D (.lst (acc ++ [y]))) else Nx1 H6)
section
variable {σ : St} {H : Hp} {wi wi1 : TI} {g g1 : TG} {tt tt1 : TT} {te : TE} {J J1 : It} {n : Nat} {ok : Hp → Prop} {itm : Nat → V → Hp → Hp → Prop} {vs vs1 : List Nat} {Q : VK}
theorem tLc2_i (h : wi σ H (LcB2 g tt wi1 g1 tt1 te vs vs1 σ Q)) : tLc2 wi g tt wi1 g1 tt1 te vs vs1 σ H Q := h
theorem lc2S (S : Src J n ok itm) (C : Nat → Hp → List V → Prop) (hok : ∀ H', Same H H' → ok H') (h0 : C 0 H [])
    (hs : ∀ D i acc H1 x H2, i < n → H D = none → Same H H1 → H1 D = some (.lst acc) → C i (del H1 D) acc → itm i x H1 H2 → g x (wipe σ vs) H2 fun σ2 H2 => wipe σ2 vs = wipe σ vs ∧ tt σ2 H2 fun b H3 =>
      Br b (wi1 σ2 H3 (LcIn D (LcP H D C (i + 1)) g1 tt1 te vs1 σ2)) (LcP H D C (i + 1) H3))
    (hd : ∀ D acc H1, H D = none → Same H H1 → H1 D = some (.lst acc) → C n (del H1 D) acc → Q (.ref D) H1) : LcB2 g tt wi1 g1 tt1 te vs vs1 σ Q J H := by
  intro D hD
  refine ⟨fun i m H' => m = n - i ∧ i ≤ n ∧ LcP H D C i H', ⟨n, by simp, Nat.zero_le _, [], Same.new hD, upd_same, by rw [del_upd, del_id hD]; exact h0⟩, ?_⟩
  rintro i m H1 ⟨rfl, hi, p⟩
  obtain ⟨acc, s1, e1, j1⟩ := id p
  have q := hok _ s1
  by_cases hlt : i < n
  · exact .inr ⟨S.go i H1 q hlt, LcP H D C (i + 1), fun H' p' => ⟨n - (i + 1), by omega, rfl, hlt, p'⟩, fun x H' y => hs D i acc H1 x H' hlt hD s1 e1 j1 (S.yld i H1 x H' q hlt y)⟩
  · have e : i = n := by omega
    subst e
    exact .inl ⟨S.stop i H1 q (Nat.le_refl _), hd D acc H1 hD s1 e1 j1⟩
theorem lcIn (S : Src J1 n ok itm) {H0 : Hp} {D : Addr} {N : Hp → Prop} (C : Nat → Hp → List V → Prop) (hok : ∀ H', Same H0 H' → ok H') (h0 : LcP H0 D C 0 H)
    (hs : ∀ i acc H1 x H2, i < n → Same H0 H1 → H1 D = some (.lst acc) → C i (del H1 D) acc → itm i x H1 H2 → g1 x (wipe σ vs1) H2 fun σ2 H2 => wipe σ2 vs1 = wipe σ vs1 ∧ tt1 σ2 H2 fun b H3 =>
      Br b (te σ2 H3 (LcY D (LcP H0 D C (i + 1)))) (LcP H0 D C (i + 1) H3))
    (hd : ∀ H1, LcP H0 D C n H1 → N H1) : LcIn D N g1 tt1 te vs1 σ J1 H := by
  refine ⟨fun i m H' => m = n - i ∧ i ≤ n ∧ LcP H0 D C i H', ⟨n, by simp, Nat.zero_le _, h0⟩, ?_⟩
  rintro i m H1 ⟨rfl, hi, p⟩
  obtain ⟨acc, s1, e1, j1⟩ := id p
  have q := hok _ s1
  by_cases hlt : i < n
  · exact .inr ⟨S.go i H1 q hlt, LcP H0 D C (i + 1), fun H' p' => ⟨n - (i + 1), by omega, rfl, hlt, p'⟩, fun x H' y => hs i acc H1 x H' hlt s1 e1 j1 (S.yld i H1 x H' q hlt y)⟩
  · have e : i = n := by omega
    subst e
    exact .inl ⟨S.stop i H1 q (Nat.le_refl _), hd H1 p⟩
end
end EL

namespace EL
open PySem PySem.Spec PyProof.Rows L2
/-! ### data -/
def Sh (n : Nat) (d : PyData) : Prop := d.canLay0 = true ∧ d.depth ≤ n
def ShA (n : Nat) (ds : List PyData) : Prop := PyData.canLayAll0 ds = true ∧ PyData.depthAll ds ≤ n
theorem sh_int {n : Nat} {i : Int} : Sh n (.int i) := ⟨rfl, by simp [PyData.depth]⟩
theorem sh_str {n : Nat} {x : Str} (h : (PyData.str x).canLay0 = true) : Sh n (.str x) := ⟨h, by simp [PyData.depth]⟩
theorem sh_bool {n : Nat} {b : Bool} : Sh n (.bool b) := ⟨rfl, by simp [PyData.depth]⟩
theorem sh_none {n : Nat} : Sh n .none := ⟨rfl, by simp [PyData.depth]⟩
theorem shA_nil {n : Nat} : ShA n [] := ⟨rfl, by simp [PyData.depthAll]⟩
theorem shA_cons {n : Nat} {d : PyData} {ds : List PyData} (h : Sh n d) (h2 : ShA n ds) : ShA n (d :: ds) :=
  ⟨by rw [PyData.canLayAll0, h.1, h2.1]; rfl, by rw [PyData.depthAll]; exact Nat.max_le.mpr ⟨h.2, h2.2⟩⟩
theorem shA_all {n : Nat} : ∀ {ds : List PyData}, (∀ d ∈ ds, Sh n d) → ShA n ds
  | [], _ => shA_nil
  | d :: ds, h => shA_cons (h d (List.mem_cons_self ..)) (shA_all fun x hx => h x (List.mem_cons_of_mem _ hx))
theorem sh_lst {n : Nat} {ds : List PyData} (h : ShA n ds) : Sh (n + 1) (.list ds) := ⟨h.1, by rw [PyData.depth]; exact Nat.succ_le_succ h.2⟩
theorem sh_tup {n : Nat} {ds : List PyData} (h : ShA n ds) : Sh (n + 1) (.tuple ds) := ⟨h.1, by rw [PyData.depth]; exact Nat.succ_le_succ h.2⟩
theorem Sh.shaped {n : Nat} {d : PyData} (h : Sh n d) (hn : n ≤ 64 := by decide) : SeqAt.shaped d = true := Bool.and_eq_true_iff.mpr ⟨h.1, decide_eq_true (Nat.le_trans h.2 hn)⟩
theorem shA_ints {n : Nat} (xs : List Int) : ShA n (xs.map PyData.int) := shA_all fun d hd => by
  obtain ⟨x, _, rfl⟩ := List.mem_map.mp hd
  exact sh_int
theorem eqv_self {n : Nat} {d : PyData} (h : Sh n d) : PyData.eqv d d = true := SeqAt.eqv_refl d h.1
theorem eqvAll_ints : ∀ xs ys : List Int, PyData.eqvAll (xs.map PyData.int) (ys.map PyData.int) = decide (xs = ys)
  | [], [] => rfl
  | [], _ :: _ => by simp [PyData.eqvAll]
  | _ :: _, [] => by simp [PyData.eqvAll]
  | x :: xs, y :: ys => by
    rw [List.map_cons, List.map_cons, PyData.eqvAll, eqvAll_ints xs ys]
    show (x == y && decide (xs = ys)) = _
    by_cases h : x = y
    · subst h
      simp
    · simp [h]
theorem DpAll.app {K : PySem.W.Frag} {H : Hp} : ∀ {vs ws : List V} {ds es : List PyData}, DpAll K H vs ds → DpAll K H ws es → DpAll K H (vs ++ ws) (ds ++ es)
  | [], _, _, _, .nil, h => h
  | _ :: _, _, _, _, .cons a b, h => .cons a (DpAll.app b h)
theorem DpAll.one {K : PySem.W.Frag} {H : Hp} {v : V} {d : PyData} (h : Dp K H v d) : DpAll K H [v] [d] := .cons h .nil
theorem DpAll.len {K : PySem.W.Frag} {H : Hp} : ∀ {vs : List V} {ds : List PyData}, DpAll K H vs ds → vs.length = ds.length
  | [], _, .nil => rfl
  | _ :: _, _, .cons _ b => congrArg Nat.succ (DpAll.len b)
theorem DpAll.get {K : PySem.W.Frag} {H : Hp} : ∀ {vs : List V} {ds : List PyData} {i : Nat} {v : V}, DpAll K H vs ds → vs[i]? = some v → ∃ d, ds[i]? = some d ∧ Dp K H v d
  | _, _, _, _, .nil, e => by simp at e
  | _, _, 0, _, .cons r _, e => by simp at e; subst e; exact ⟨_, rfl, r⟩
  | _, _, i + 1, v, .cons _ t, e => by
    obtain ⟨u, h1, h2⟩ := DpAll.get (i := i) (v := v) t (by simpa using e)
    exact ⟨u, by simpa using h1, h2⟩
theorem DpAll.ints {K : PySem.W.Frag} {H : Hp} : ∀ {xs : List Int} {vs : List V}, DpAll K H vs (xs.map PyData.int) → vs = xs.map V.int
  | [], _, h => by cases h; rfl
  | x :: xs, _, h => by
    cases h with
    | cons a b =>
      cases a
      rw [DpAll.ints b]
      rfl
/-! ### isinstance -/
section
variable {K : PySem.W.Frag} {H : Hp} {Q : VK}
theorem isi_ty {x : V} {a b : String} {k : Bool} (ty : TyX K H x (.type a)) (e : kitB a b = some k) (h : Q (.bl k) H) : rIsiU K [x, .ty b] H Q := .inl ⟨x, .ty b, .type a, .type b, k, rfl, .ty b, ty, kit_ty e, h⟩
theorem isi_int_int {i : Int} (h : Q (.bl true) H) : rIsiU K [.int i, .ty "int"] H Q := isi_ty (.base (.int i)) (by decide +kernel) h
theorem isi_int_bool {i : Int} (h : Q (.bl false) H) : rIsiU K [.int i, .ty "bool"] H Q := isi_ty (.base (.int i)) (by decide +kernel) h
theorem isi_bool_bool {b : Bool} (h : Q (.bl true) H) : rIsiU K [.bl b, .ty "bool"] H Q := isi_ty (.base (.bl b)) (by decide +kernel) h
theorem isi_bool_int {b : Bool} (h : Q (.bl true) H) : rIsiU K [.bl b, .ty "int"] H Q := isi_ty (.base (.bl b)) (by decide +kernel) h
theorem isi_non_int (h : Q (.bl false) H) : rIsiU K [.non, .ty "int"] H Q := isi_ty (.base .non) (by decide +kernel) h
theorem isi_lst_lst {a : Addr} {xs : List V} (e : H a = some (.lst xs)) (h : Q (.bl true) H) : rIsiU K [.ref a, .ty "list"] H Q := isi_ty (.base (.lst e)) (by decide +kernel) h
theorem isi_tup_tup {a : Addr} {xs : List V} (e : H a = some (.tup xs)) (h : Q (.bl true) H) : rIsiU K [.ref a, .ty "tuple"] H Q := isi_ty (.base (.tup e)) (by decide +kernel) h
end
/-! ### a handled exception -/
section
variable {K : PySem.W.Frag} {H : Hp} {Q : VK} {σ : St}
theorem was_i {c cls : Value} {i : Nat} {ts : Addr → Value → Option Addr → TS} {Wout : WX} {D : Ends} {d : Option Addr} (em : PySem.W.exmOne K cls c = some true)
    (h : ∀ a, H a = none → ts a cls d { nx := fun σ' H' => D.nx (σ'.set i none) H', rt := D.rt, bk := fun σ' H' => D.bk (σ'.set i none) H', ct := fun σ' H' => D.ct (σ'.set i none) H' } (σ.set i (some (.ref a))) H) : L2.WE (wAs K c i ts Wout D) σ cls d H :=
  ⟨true, em, fun _ => h, fun z => Bool.noConfusion z⟩
theorem isX_c {a D C : Addr} {d : Option Addr} {b : Bool} (X : XCls K D) (fs : List (Str × V)) (hd : XDict H d fs) (e : PySem.W.kitOne K (.ref D) (.ref C) = some b) (h : Q (.bl b) H) : rIsX K a (.ref D) d [.ref a, .ref C] H Q :=
  ⟨D, fs, .ref C, b, rfl, rfl, X, hd, .inl ⟨_, .own C, e⟩, h⟩
theorem isX_t {a D : Addr} {d : Option Addr} {b : Bool} {n : String} (X : XCls K D) (fs : List (Str × V)) (hd : XDict H d fs) (e : PySem.W.kitOne K (.ref D) (.type n) = some b) (h : Q (.bl b) H) : rIsX K a (.ref D) d [.ref a, .ty n] H Q :=
  ⟨D, fs, .ty n, b, rfl, rfl, X, hd, .inl ⟨_, .ty n, e⟩, h⟩
def XFv (K : PySem.W.Frag) (a : Addr) (cls : Value) (d : Option Addr) (f : Str) (x : V) (H1 : Hp) (Q : VK) : Prop := ∃ (D dd : Addr) (fs : List (Str × V)) (v : V), x = .ref a ∧ cls = .ref D ∧ XCls K D ∧ d = some dd ∧ H1 dd = some (.xd fs) ∧
  PySem.W.findIn K (.ref D) f = some none ∧ fs.lookup f = some v ∧ Q v H1
theorem tXF_i {a : Addr} {cls : Value} {d : Option Addr} {f : Str} {te : TE} (h : te σ H fun x H1 => XFv K a cls d f x H1 Q) : tXF K a cls d f te σ H Q := h
theorem xf1 {a D dd : Addr} {f : Str} {v : V} (X : XCls K D) (hd : H dd = some (.xd [(f, v)])) (hn : PySem.W.findIn K (.ref D) f = some none) (h : Q v H) : XFv K a (.ref D) (some dd) f (.ref a) H Q :=
  ⟨D, dd, [(f, v)], v, rfl, rfl, X, rfl, hd, hn, by simp [List.lookup], h⟩
end
section
variable {H : Hp} {Q : VK} {σ : St} {te : TE}
def Rg1v (x : V) (H : Hp) (Q : VK) : Prop := ∃ n, x = .int n ∧ RgOk 0 n ∧ ∀ q, H q = none → Q (.ref q) (upd H q (.lst (rgV 0 n)))
theorem tLstRg1_i (h : te σ H fun x H1 => Rg1v x H1 Q) : tLstRg (tRg1 te) σ H Q := h
end
theorem rg1_i {H : Hp} {Q : VK} {n : Int} (hn : 0 ≤ n ∧ n ≤ 1000000) (h : ∀ q H', H q = none → Same H H' → H' q = some (.lst (rgV 0 n)) → Q (.ref q) H') : Rg1v (.int n) H Q :=
  ⟨n, rfl, .of_le (by omega) (by omega) (by omega) hn.1, fun q hq => h q _ hq (Same.new hq) upd_same⟩
/-! ### truth, choice by if -/
theorem gtup {H : Hp} {Q : VK} {E : XK} {o : Out} {xs : List V} (e : o = .tup xs) (k : ∀ H' p, Same H H' → H' p = some (.tup xs) → Q (.ref p) H') : Gives H Q E o := by
  subst e
  exact k
theorem glst {H : Hp} {Q : VK} {E : XK} {o : Out} {R : Hp → List V → Prop} (e : o = .lst R) (k : ∀ H' p vs, Same H H' → H p = none → H' p = some (.lst vs) → R H' vs → Q (.ref p) H') : Gives H Q E o := by
  subst e
  exact k
theorem at_int {xs : List Int} {i : Int} {n : Nat} {z : Int} (e : i = (n : Int)) (h : xs[n]? = some z) : atI (xs.map V.int) i = some (.int z) := at_of e (by rw [List.getElem?_map, h]; rfl)
theorem map_take_succ {α β : Type} {xs : List α} {f : α → β} {i : Nat} {x : α} (h : xs[i]? = some x) : (xs.take (i + 1)).map f = (xs.take i).map f ++ [f x] := by
  rw [List.take_add_one, h, List.map_append]
  rfl
theorem isi_tupS {K : PySem.W.Frag} {H : Hp} {Q : VK} {a : Addr} {xs : List V} (hS : SqT K H a xs) (h : Q (.bl true) H) : rIsiU K [.ref a, .ty "tuple"] H Q := by
  rcases hS with (e | ⟨o, e⟩) | ⟨o, its, n, hk, hc, _⟩
  · exact isi_tup_tup e h
  · exact isi_ty (.fTuple e) (by decide +kernel) h
  · exact isi_ty (.kTuple hk hc) (by decide +kernel) h
theorem isi_lstS {K : PySem.W.Frag} {H : Hp} {Q : VK} {a : Addr} {xs : List V} (hS : SqL K H a xs) (h : Q (.bl true) H) : rIsiU K [.ref a, .ty "list"] H Q := by
  rcases hS with (e | ⟨o, e⟩) | ⟨o, its, n, hk, hc, _⟩
  · exact isi_lst_lst e h
  · exact isi_ty (.base (.frz e)) (by decide +kernel) h
  · exact isi_ty (.kList hk hc) (by decide +kernel) h
def spLaw (K : PySem.W.Frag) : Sp := fun vs H Q _ => ∃ (a : Addr) (ns : List Int), vs = [.ref a] ∧ SqL K H a (ns.map V.int) ∧ ns.length ≤ 63 ∧ ∀ H', Q (.bl true) H'
theorem noX {P : Program} (w : World) (H : Hp) (s : Shared) (e : Value) (s' : Shared) (h : L2.CX P w [] H s (fun _ _ _ => False) e s') : False := by
  obtain ⟨_, _, _, _, _, _, _, _, _, _, _, _, z⟩ := h
  exact z
end EL

namespace EL
open PySem PySem.Spec PyProof.Rows L2
/-! ### {e for t in it if ..}, e a whole number -/
/-- the object that a new set is -/
abbrev set0 (w : World) : Obj :=
  { cls := .type "set", dict := none,
    data := .set #[] 0 (.fresh 0 0 (!w.params.followText "set-order")) }
abbrev noneS : Int → Bool := fun _ => false
/-- one more number is put in -/
def putS (S : Int → Bool) (k : Int) : Int → Bool := fun j => S j || decide (j = k)
/-- what a turn leaves where the test lets the item through -/
def ScY (w : World) (D : Addr) (N : Hp → Prop) (y : V) (H4 : Hp) : Prop :=
  rSAdd w (.ref D) [y] H4 fun _ H5 => N H5
def ScT (w : World) (g : TG) (tt : TT) (te : TE) (vs : List Nat) (σ : St) (D : Addr) (N : Hp → Prop) (x : V) (H : Hp) : Prop :=
  g x (wipe σ vs) H fun σ2 H2 => wipe σ2 vs = wipe σ vs ∧
    tt σ2 H2 fun b H3 => if b = true then te σ2 H3 (ScY w D N) else N H3
def ScB (w : World) (g : TG) (tt : TT) (te : TE) (vs : List Nat) (σ : St) (Q : VK) (J : It) (H1 : Hp) : Prop :=
  ∀ D, H1 D = none → ∃ W : Nat → Nat → Hp → Prop,
    (∃ m, W 0 m (upd H1 D (SetO w D noneS 0))) ∧
    ∀ i m H, W i m H → (J.stop i H ∧ Q (.ref D) H) ∨
      (J.go i H ∧ ∃ N : Hp → Prop, (∀ H', N H' → ∃ m', m' < m ∧ W (i + 1) m' H') ∧
        ∀ x H', J.yld i H x H' → ScT w g tt te vs σ D N x H')
def tScI (w : World) (wi : TI) (g : TG) (tt : TT) (te : TE) (vs : List Nat) : TE :=
  fun σ H Q => wi σ H (ScB w g tt te vs σ Q)
section
variable {X : Cx} {elt tg iter : Expr} {ifs : List Expr} {scope : Scope} {own : List (Str × Nat)}
variable {pos pos' : Pos} {wi : TI} {g : TG} {tt : TT} {te : TE}
variable {pins : List (Addr × Obj)} {s : Shared} {σ : St} {H : Hp} {Q : VK}
theorem scI_core {use : Option (Value → Sem Unit)} {Qf : Value → Shared → Prop}
    (calm : X.calm = true) (nd : X.N.Nodup) (I : Inv X pins σ H s) (pi : PI X tg iter wi) (ok : BlkOk X.N X.env.scope scope own)
    (tgt : ∀ (s : Shared) (H : Hp) (C : Addr) (cl : List (Str × Addr)) (fp : List Addr),
      PG (X.blk s H scope (compEnvC scope cl C X.env) fp) tg g)
    (tst : ∀ (s : Shared) (H : Hp) (C : Addr) (cl : List (Str × Addr)) (fp : List Addr),
      PTs (X.blk s H scope (compEnvC scope cl C X.env) fp) ifs tt)
    (val : ∀ (s : Shared) (H : Hp) (C : Addr) (cl : List (Str × Addr)) (fp : List Addr),
      PE (X.blk s H scope (compEnvC scope cl C X.env) fp) elt te)
    (fold : ∀ x, foldedSetIterable iter X.env x = pure x)
    (h : tScI X.w wi g tt te (own.map (·.2)) σ H Q)
    (after : ∀ D C s' m H', Inv X pins σ H' s' → Q (.ref D) H' → s'.heap.Ns C m → FpOk X pins H' C →
      compPost (model X.prog X.w) X.A X.xe use Qf (.ref D) C (.ok .next) s') :
    wpAny (model X.prog X.w) X.A
      (comprehension (.SetComp elt [⟨tg, iter, ifs, 0⟩] scope pos) scope X.env pos' (newSet (.type "set")) false (eval iter X.env) use)
      Qf X.xe s := by
  have frees : ∀ y ∈ scope.names, y.2 = .free → ∃ c, X.env.cells.lookup y.1 = some c := by
    intro y hy e
    exact I.ok.has _ ((ok.free y hy e).elim .inl .inr)
  refine wpAny_comprehension_free (use := use) rfl fold (closure_ok frees) ok.kind
    (fun y hy e => by rw [ok.uniq y hy, e]) (thn (pi.run pins s σ H _ I h) fun v s1 k => thn k fun it0 s2 k2 => ?_)
  obtain ⟨it, fp, tn, J, H2, rfl, I2, T, at0, free2, body⟩ := k2
  refine PpSet.newSet_ok (newEnv_comp ?_)
  obtain ⟨D, eD⟩ : ∃ D, D = s2.heap.objs.size := ⟨_, rfl⟩
  rw [← eD]
  have nD : H2 D = none := I2.hok.fresh (Nat.le_of_eq eD.symm)
  obtain ⟨W, ⟨m0, w0⟩, turn⟩ := body D nD
  obtain ⟨s3, e3⟩ : ∃ s3 : Shared, s3 = { s2 with heap := s2.heap.push (set0 X.w) } := ⟨_, rfl⟩
  have hp3 : s3.heap = s2.heap.push (set0 X.w) := by rw [e3]
  have keep3 : ∀ b o, s2.heap.get? b = some o → s3.heap.get? b = some o := fun b o e => by
    rw [hp3]
    exact Heap.get?_push_of_some _ e
  obtain ⟨H3, eH3⟩ : ∃ H3, H3 = upd H2 D (SetO X.w D noneS 0) := ⟨_, rfl⟩
  rw [← eH3] at w0
  have I3 : Inv X pins σ H3 s3 := by
    rw [e3, eH3]
    refine I2.laid (t' := s2.toks) (fun b o e => Heap.get?_push_of_some _ e) (Nat.le_of_eq eD.symm) ?_
    rw [eD]
    exact setO_new (setR_fresh X.w)
  have below : ∀ b ∈ fp, b < s2.heap.objs.size := fun b hb => (T.obj _ _ at0 b hb).elim fun o z => Heap.lt_size z.1
  have free3 : ∀ b ∈ fp, FpOk X pins H3 b ∧ b < s3.heap.objs.size := by
    intro b hb
    have lt := below b hb
    refine ⟨⟨?_, (free2 b hb).2⟩, ?_⟩
    · rw [eH3, upd_ne (by rw [eD]; exact Nat.ne_of_lt lt)]
      exact (free2 b hb).1
    · rw [hp3, Heap.size_push]
      exact Nat.lt_succ_of_lt lt
  have at3 : tn 0 s3.heap := T.keep _ _ _ at0 fun b _ o e => keep3 b o e
  have I4 := block_start I3 ok nd free3
  have pg := tgt s3 H3 s3.heap.objs.size (cellsFrom (s3.heap.objs.size + 1) scope.names (cloFrom X.env.cells scope.names [])) fp
  have pt := tst s3 H3 s3.heap.objs.size (cellsFrom (s3.heap.objs.size + 1) scope.names (cloFrom X.env.cells scope.names [])) fp
  have pe := val s3 H3 s3.heap.objs.size (cellsFrom (s3.heap.objs.size + 1) scope.names (cloFrom X.env.cells scope.names [])) fp
  rw [← e3]
  show codeAny _ _ (.compStart _ 0 (.ref it) (.ref D) (compEnvC scope (cellsFrom (s3.heap.objs.size + 1) scope.names (cloFrom X.env.cells scope.names [])) s3.heap.objs.size X.env))
    (compPost (model X.prog X.w) X.A X.xe use Qf (.ref D) s3.heap.objs.size)
    { s3 with heap := pushCells (s3.heap.push { cls := .type "dict", data := .dict #[] }) scope.names }
  have nfp : ∀ b ∈ fp, H3 b = none := fun b hb => (free3 b hb).1.1
  generalize hce : compEnvC scope (cellsFrom (s3.heap.objs.size + 1) scope.names (cloFrom X.env.cells scope.names [])) s3.heap.objs.size X.env = ce at I4 pg pt pe ⊢
  have locC : ce.locals = s3.heap.objs.size := by
    rw [← hce]
    rfl
  generalize hs4 : ({ s3 with heap := pushCells (s3.heap.push { cls := .type "dict", data := .dict #[] }) scope.names } : Shared) = s4 at I4 ⊢
  have at4 : tn 0 s4.heap := T.keep _ _ _ at3 fun b _ o e => by
    rw [← hs4]
    exact pushCells_keeps _ _ _ _ (Heap.get?_push_of_some _ e)
  have frees' : ∀ {σ' : St} {H' : Hp} {s' : Shared}, Inv (X.blk s3 H3 scope ce fp) [] σ' H' s' → (∀ b ∈ fp, H' b = none) →
      ∀ b ∈ fp, FpOk (X.blk s3 H3 scope ce fp) [] H' b := by
    intro σ' H' s' I' n b hb
    exact ⟨n b hb, (I'.ok.exf b hb).1, I'.ok.exfs b hb, .inl hb, fun x c e => (I'.ok.exf b hb).2 x c e, fun p z => by cases z⟩
  refine PpSet.codeAny_compStart_set ?_ (T.self X.A 0 _ _ _ at4 ?_)
  all_goals
    refine PpSet.compLoopS_any (fun n s' => ∃ i H', Inv (X.blk s3 H3 scope ce fp) [] (wipe σ (own.map (·.2))) H' s' ∧
      tn i s'.heap ∧ (∀ b ∈ fp, H' b = none) ∧ W i n H') ?_ m0 ⟨0, H3, I4, at4, nfp, w0⟩
    rintro n s5 ⟨i, H5, I5, at5, n5, w5⟩
    rcases turn i n H5 w5 with ⟨stop, fin⟩ | ⟨go, N, hN, step⟩
    · refine thnF (T.done (X.blk s3 H3 scope ce fp) rfl rfl rfl calm i [] s5 _ H5 (fun _ _ => False) I5 (frees' I5 n5) at5 stop) fun r s6 hr => ?_
      obtain ⟨rfl, I6⟩ := hr
      have I7 : Inv X pins σ H5 s6 := I3.call' (ch := fp) I6.os I6.base I6.hok I6.bare fun b hb => by
        obtain ⟨_, _, z1, z2, z3, z4⟩ := (free3 b hb).1
        exact ⟨z2, (free3 b hb).1.2.1, z3, z4⟩
      have nC : H5 s3.heap.objs.size = none := locC ▸ (show H5 ce.locals = none from I6.free)
      obtain ⟨m, hm, _⟩ := I6.loc
      have hm' : s6.heap.Ns ce.locals m := hm
      rw [locC] at hm'
      exact after D s3.heap.objs.size s6 m H5 I7 fin hm' (I3.fpOk (Nat.le_refl _) nC)
    · refine thnF (T.item (X.blk s3 H3 scope ce fp) rfl rfl rfl calm i [] s5 _ H5 (fun _ _ => False) I5 (frees' I5 n5) at5 go) fun r s6 hr => ?_
      obtain ⟨u, rfl, h6⟩ := hr
      refine thnF h6 fun _ s7 z7 => ?_
      obtain ⟨x, H7, I7, r7, y7, at7, n7⟩ := z7
      refine thnF (pg.run _ s7 _ H7 x u _ (I7.pinned (frees' I7 n7) (T.obj _ _ at7)) r7 (step x H7 y7)) fun _ s8 z8 => ?_
      obtain ⟨σ8, H8, I8, wi8, q8⟩ := z8
      refine thnF (pt.run _ s8 σ8 H8 _ I8 q8) fun b s9 z9 => ?_
      obtain ⟨H9, I9, q9⟩ := z9
      have over : ∀ {s' : Shared} {H' : Hp}, Inv (X.blk s3 H3 scope ce fp) ([] ++ pinsAt fp s7.heap) σ8 H' s' → N H' →
          ∃ m, m < n ∧ ∃ i H', Inv (X.blk s3 H3 scope ce fp) [] (wipe σ (own.map (·.2))) H' s' ∧ tn i s'.heap ∧ (∀ b ∈ fp, H' b = none) ∧ W i m H' := by
        intro s' H' I' nx
        obtain ⟨m', lt, w'⟩ := hN H' nx
        have same : ∀ b ∈ fp, ∀ o, s7.heap.get? b = some o → s'.heap.get? b = some o ∧ H' b = none := by
          intro b hb o e
          have z := I'.pin (b, o) (List.mem_append_right _ (List.mem_append_right _ (mem_pinsAt hb e)))
          exact ⟨z.1, z.2.1⟩
        have len : (wipe σ (own.map (·.2))).length = σ8.length := by rw [← wi8, wipe_length]
        refine ⟨m', lt, i + 1, H', (I'.unpinned (pins := [])).weak len (fun j v e => ?_), ?_, ?_, w'⟩
        · rw [← wi8] at e
          exact (wipe_some e).1
        · exact T.keep _ _ _ at7 fun b hb o e => (same b hb o e).1
        · intro b hb
          obtain ⟨o, e, _⟩ := T.obj _ _ at7 b hb
          exact (same b hb o e).2
      cases b with
      | false => exact over I9 (by simpa using q9)
      | true =>
        refine thnF (pe.run _ s9 σ8 H9 _ I9 (by simpa using q9)) fun z s10 z10 => ?_
        obtain ⟨yv, H10, I10, r10, q10⟩ := z10
        refine thnF (mt_sadd (X := X.blk s3 H3 scope ce fp) _ s10 _ H10 (.ref D) [yv] (.ref D) [z] _ I10 rfl (.cons r10 .nil) q10) fun _ s11 z11 => ?_
        obtain ⟨_, H11, I11, _, q11⟩ := z11
        exact over I11 q11
/-- as a value -/
theorem pe_scI (calm : X.calm = true) (nd : X.N.Nodup) (pi : PI X tg iter wi) (ok : BlkOk X.N X.env.scope scope own)
    (tgt : ∀ (s : Shared) (H : Hp) (C : Addr) (cl : List (Str × Addr)) (fp : List Addr),
      PG (X.blk s H scope (compEnvC scope cl C X.env) fp) tg g)
    (tst : ∀ (s : Shared) (H : Hp) (C : Addr) (cl : List (Str × Addr)) (fp : List Addr),
      PTs (X.blk s H scope (compEnvC scope cl C X.env) fp) ifs tt)
    (val : ∀ (s : Shared) (H : Hp) (C : Addr) (cl : List (Str × Addr)) (fp : List Addr),
      PE (X.blk s H scope (compEnvC scope cl C X.env) fp) elt te)
    (fold : ∀ x, foldedSetIterable iter X.env x = pure x := by intro _; rfl) :
    PE X (.SetComp elt [⟨tg, iter, ifs, 0⟩] scope pos) (tScI X.w wi g tt te (own.map (·.2))) := by
  constructor
  intro pins s σ H Q I h
  rw [PpSet.eval_SetComp]
  refine scI_core calm nd I pi ok tgt tst val fold h fun D C s' m H' I' q ns f => ⟨m, ns, fun h'' sb => ?_⟩
  obtain ⟨z0, z1, z2, z3, z4, z5⟩ := f
  exact ⟨.ref D, H', I'.turned (t' := s'.toks) (fun b o hb e => (sb.2 b hb).trans e) z0 z1 z3 z4 z5, rfl, q⟩
end

section
variable {X : Cx} {elt tg iter : Expr} {ifs : List Expr} {scope : Scope} {own : List (Str × Nat)}
variable {pos spos py : Pos} {wi : TI} {g : TG} {tt : TT} {te : TE} {i : Nat} {y : Str}
/-- name = {..} on one line, the name a local -/
theorem ps_setScI (calm : X.calm = true) (nd : X.N.Nodup) (at_ : X.N[i]? = some y) (isl : X.env.scope.names.lookup y = some .local)
    (sw : swapsWith (.SetComp elt [⟨tg, iter, ifs, 0⟩] scope pos) (some (.Name y py)) spos.line X.env = pure true)
    (pi : PI X tg iter wi) (ok : BlkOk X.N X.env.scope scope own)
    (tgt : ∀ (s : Shared) (H : Hp) (C : Addr) (cl : List (Str × Addr)) (fp : List Addr),
      PG (X.blk s H scope (compEnvC scope cl C X.env) fp) tg g)
    (tst : ∀ (s : Shared) (H : Hp) (C : Addr) (cl : List (Str × Addr)) (fp : List Addr),
      PTs (X.blk s H scope (compEnvC scope cl C X.env) fp) ifs tt)
    (val : ∀ (s : Shared) (H : Hp) (C : Addr) (cl : List (Str × Addr)) (fp : List Addr),
      PE (X.blk s H scope (compEnvC scope cl C X.env) fp) elt te)
    (fold : ∀ x, foldedSetIterable iter X.env x = pure x := by intro _; rfl) :
    PS X (.Assign [.Name y py] (.SetComp elt [⟨tg, iter, ifs, 0⟩] scope pos) spos) (tAsg (tScI X.w wi g tt te (own.map (·.2))) (gName i)) := by
  constructor
  intro pins s σ H D I h
  rw [exec_Assign_Name_used _ _ _ _ sw]
  refine wpAny_bind (wpAny_standAt (wpAny_bind ?_))
  show wpAny _ X.A (do
    let _ ← comprehension (.SetComp elt [⟨tg, iter, ifs, 0⟩] scope pos) scope X.env (firstIterPos [⟨tg, iter, ifs, 0⟩] pos) (newSet (.type "set")) false (eval iter X.env) (some (assign (.Name y py) X.env))) _ _ s
  have h' : tScI X.w wi g tt te (own.map (·.2)) σ H (fun x H1 => gName i x σ H1 D.nx) := h
  refine wpAny_bind (thn (scI_core (Qf := fun _ s' => SP X pins D .next s') calm nd I pi ok tgt tst val fold h'
    fun L C s' m H' I' q ns f => ?_) fun _ s' hq => wpAny_pure (wpAny_pure hq))
  show wpAny _ _ (assign (.Name y py) X.env (.ref L)) _ _ _
  obtain ⟨z0, z1, z2, z3, z4, z5⟩ := f
  refine wpAny_assign_Name (store_ok2 (v := V.ref L) I' nd at_ (.inl isl) rfl (fun s2 I2 st => ?_) (.inr isl))
  obtain ⟨a, sb, ha⟩ := st
  have hne : C ≠ a := ha.elim (fun z => by rw [z]; exact z1) fun z e => z4 y a z e.symm
  refine ⟨m, ns.sameBut sb hne, fun h3 sb3 => ⟨_, H', ?_, q⟩⟩
  exact I2.turned (t' := s2.toks) (fun b o hb e => (sb3.2 b hb).trans e) z0 z1 z3 z4 z5
theorem sw_setTrue {gs : List Comprehension} {l : Nat} {env : Env} (hk : env.scope.kind = .function) (hy : env.scope.names.lookup y = some .local)
    (hl : (py.line == pos.line) = true) (ha : (scope.names.any fun (n, k) => n == y && (k == .local || k == .cell)) = false) :
    swapsWith (.SetComp elt gs scope pos) (some (.Name y py)) l env = pure true := by
  have k1 : env.kindOf y = some .local := hy
  have k2 : env.blockKind = .function := by
    unfold Env.blockKind
    rw [hk] <;> rfl
  unfold swapsWith
  simp only [k2, k1, ha, Expr.pos, hl]
  rfl
end
theorem roomH_suite {X : Cx} {k j : Nat} {a : Addr} {pn : List (Addr × Obj)} (r : Room k X.A) (h : j ≤ k) : L2H.RoomH j (X.suite a pn).A := by
  have q := (L2H.roomH_of r).mono h
  exact ⟨q.dp, q.un⟩
/-! ### in, not in: lists, tuples, sets of whole numbers, deep lists -/
def rInSet (w : World) (neg : Bool) : R2 := fun x y H Q =>
  ∃ k a S n, x = V.int k ∧ y = V.ref a ∧ H a = some (SetO w a S n) ∧ Q (.bl (if neg = true then !S k else S k)) H
def rInDeep (K : PySem.W.Frag) (neg : Bool) : R2 := fun x y H Q =>
  ∃ d ds, Dp K H x d ∧ Dp K H y (.list ds) ∧ SeqAt.shaped d = true ∧ SeqAt.shaped (.list ds) = true ∧
    Q (.bl (if neg = true then !(ds.any fun z => PyData.eqv z d) else ds.any fun z => PyData.eqv z d)) H
def rInU (K : PySem.W.Frag) (w : World) (neg : Bool) : R2 := fun x y H Q =>
  rIn K neg x y H Q ∨ rInSet w neg x y H Q ∨ rInDeep K neg x y H Q
section
variable {X : Cx}
theorem op_inU (K : PySem.W.Frag) (w : World) {k : Nat} (hr : Room k X.A) (hK : X.K = K := by rfl) (hw : X.w = w := by rfl) :
    OpR X (compareOp .In) (rInU K w false) := by
  subst hK hw
  intro pins s σ H x y v u Q I rx ry h
  rcases h with h | ⟨k, a, S, n, e1, e2, e3, q⟩ | ⟨d, ds, e1, e2, e3, e4, q⟩
  · exact op_in_seq pins s σ H x y v u Q I rx ry h
  · exact or_sin pins s σ H x y v u Q I rx ry ⟨k, a, S, n, e1, e2, e3, q⟩
  · exact op_inD (by have := hr.un; omega) pins s σ H x y v u Q I rx ry ⟨d, ds, e1, e2, e3, e4, q⟩
theorem op_notInU (K : PySem.W.Frag) (w : World) {k : Nat} (hr : Room k X.A) (hK : X.K = K := by rfl) (hw : X.w = w := by rfl) :
    OpR X (compareOp .NotIn) (rInU K w true) := by
  subst hK hw
  intro pins s σ H x y v u Q I rx ry h
  rcases h with h | ⟨k, a, S, n, e1, e2, e3, q⟩ | ⟨d, ds, e1, e2, e3, e4, q⟩
  · exact op_notIn_seq pins s σ H x y v u Q I rx ry h
  · exact or_snotin pins s σ H x y v u Q I rx ry ⟨k, a, S, n, e1, e2, e3, q⟩
  · exact op_notInD (by have := hr.un; omega) pins s σ H x y v u Q I rx ry ⟨d, ds, e1, e2, e3, e4, q⟩
end
section
variable {K : PySem.W.Frag} {w : World} {H : Hp} {Q : VK} {a : Addr} {i : Int} {L : List Int}
theorem inV_ints : inV (.int i) (L.map V.int) = decide (i ∈ L) := by
  induction L with
  | nil => rfl
  | cons x r ih =>
    have e : inV (.int i) ((x :: r).map V.int) = (eqV (.int x) (.int i) || inV (.int i) (r.map V.int)) := rfl
    rw [e, ih]
    have e2 : eqV (.int x) (.int i) = decide (i = x) := by
      by_cases c : i = x
      · subst c
        simp [eqV]
      · rw [decide_eq_false c]
        simp [eqV]
        omega
    rw [e2, Bool.eq_iff_iff]
    simp
theorem flat_ints : (L.map V.int).all flatV = true := by
  induction L with
  | nil => rfl
  | cons x r ih => rw [List.map_cons, List.all_cons, ih]; rfl
theorem inI_l (hS : SqL K H a (L.map V.int)) (h : Q (.bl (decide (i ∈ L))) H) : rInU K w false (.int i) (.ref a) H Q :=
  .inl ⟨a, _, rfl, .inl hS, rfl, flat_ints, by rw [inV_ints]; exact h⟩
theorem notInI_l (hS : SqL K H a (L.map V.int)) (h : Q (.bl (decide (i ∉ L))) H) : rInU K w true (.int i) (.ref a) H Q :=
  .inl ⟨a, _, rfl, .inl hS, rfl, flat_ints, by rw [inV_ints, ← decide_not]; exact h⟩
theorem inI_s {S : Int → Bool} {n : Nat} (e : H a = some (SetO w a S n)) (h : Q (.bl (S i)) H) : rInU K w false (.int i) (.ref a) H Q :=
  .inr (.inl ⟨i, a, S, n, rfl, rfl, e, h⟩)
end
/-! ### the comprehension read -/
/-- what a turn must reach: C of the items so far, the heap without the set, its members and their number -/
def ScP (w : World) (H0 : Hp) (D : Addr) (C : Nat → Hp → (Int → Bool) → Nat → Prop) (i : Nat) (H : Hp) : Prop :=
  ∃ S c, Same H0 H ∧ H D = some (SetO w D S c) ∧ C i (del H D) S c
section
variable {w : World} {σ : St} {H : Hp} {wi : TI} {g : TG} {tt : TT} {te : TE} {J : It} {n : Nat} {ok : Hp → Prop}
variable {itm : Nat → V → Hp → Hp → Prop} {vs : List Nat} {Q : VK}
theorem tScI_i (h : wi σ H (ScB w g tt te vs σ Q)) : tScI w wi g tt te vs σ H Q := h
theorem scS (S : Src J n ok itm) (C : Nat → Hp → (Int → Bool) → Nat → Prop) (hok : ∀ H', Same H H' → ok H') (h0 : C 0 H noneS 0)
    (hs : ∀ D i M c H1 x H2, i < n → H D = none → Same H H1 → H1 D = some (SetO w D M c) → C i (del H1 D) M c → itm i x H1 H2 →
      g x (wipe σ vs) H2 fun σ2 H2 => wipe σ2 vs = wipe σ vs ∧ tt σ2 H2 fun b H3 =>
        Br b (te σ2 H3 (ScY w D (ScP w H D C (i + 1)))) (ScP w H D C (i + 1) H3))
    (hd : ∀ D M c H1, H D = none → Same H H1 → H1 D = some (SetO w D M c) → C n (del H1 D) M c → Q (.ref D) H1) :
    ScB w g tt te vs σ Q J H := by
  intro D hD
  refine ⟨fun i m H' => m = n - i ∧ i ≤ n ∧ ScP w H D C i H', ⟨n, by simp, Nat.zero_le _, noneS, 0, Same.new hD, upd_same, ?_⟩, ?_⟩
  · rw [del_upd, del_id hD]
    exact h0
  rintro i m H1 ⟨rfl, hi, p⟩
  obtain ⟨M, c, s1, e1, j1⟩ := id p
  have q := hok _ s1
  by_cases hlt : i < n
  · refine .inr ⟨S.go i H1 q hlt, ScP w H D C (i + 1), fun H' p' => ⟨n - (i + 1), by omega, rfl, hlt, p'⟩, fun x H' y => ?_⟩
    exact hs D i M c H1 x H' hlt hD s1 e1 j1 (S.yld i H1 x H' q hlt y)
  · have e : i = n := by omega
    subst e
    exact .inl ⟨S.stop i H1 q (Nat.le_refl _), hd D M c H1 hD s1 e1 j1⟩
theorem scY {D : Addr} {H0 : Hp} {C : Nat → Hp → (Int → Bool) → Nat → Prop} {i c : Nat} {M : Int → Bool} {k : Int} (nD : H0 D = none)
    (s : Same H0 H) (e : H D = some (SetO w D M c)) (hl : c + 1 < scanBound) (j : C i (del H D) (putS M k) (if M k = true then c else c + 1)) :
    ScY w D (ScP w H0 D C i) (.int k) H := by
  refine ⟨D, k, M, c, rfl, rfl, e, hl, _, _, Same.upd s nD, upd_same, ?_⟩
  rw [del_upd]
  exact j
theorem scN {D : Addr} {H0 : Hp} {C : Nat → Hp → (Int → Bool) → Nat → Prop} {i c : Nat} {M : Int → Bool} (s : Same H0 H)
    (e : H D = some (SetO w D M c)) (j : C i (del H D) M c) : ScP w H0 D C i H := ⟨M, c, s, e, j⟩
end

theorem tCallE_i {sp : SpX} {a : Addr} {cls : Value} {d : Option Addr} {t : TA} {σ : St} {H : Hp} {Q : VK}
    (h : t σ H fun vs H1 => sp a cls d vs H1 Q (fun _ _ _ => False)) : tCallE sp a cls d t σ H Q := h
theorem bl_eq {i j : Bool} : decide (V.bl i = V.bl j) = decide (i = j) := by cases i <;> cases j <;> rfl
theorem rEqU_b {K : PySem.W.Frag} {H : Hp} {Q : VK} {i j : Bool} (h : Q (.bl (decide (i = j))) H) : rEqU K (.bl i) (.bl j) H Q :=
  .inl ⟨rfl, by rw [bl_eq]; exact h⟩
theorem rNeU_b {K : PySem.W.Frag} {H : Hp} {Q : VK} {i j : Bool} (h : Q (.bl (!decide (i = j))) H) : rNeU K (.bl i) (.bl j) H Q :=
  .inl ⟨rfl, by rw [bl_eq]; exact h⟩
/-! every member of a list that was written out -/
theorem all_cons {P : V → Prop} {v : V} {vs : List V} (h : P v) (h2 : ∀ u, u ∈ vs → P u) : ∀ u, u ∈ v :: vs → P u :=
  fun u hu => (List.mem_cons.mp hu).elim (fun z => by rw [z]; exact h) (h2 u)
theorem all_nil {P : V → Prop} : ∀ u, u ∈ ([] : List V) → P u := fun u hu => nomatch hu
end EL

namespace PySem
open Sem (wp)
/-! ### enumerate(t), t a tuple -/
/-- the enumerate object that begins to go through what the iterator at it draws -/
abbrev enum0 (it : Addr) : Obj := { cls := .type "enumerate", data := .fields #[.none, .bool false, .ref it, rawInt 0, .none, .none] }
theorem meets_enum1 {v : Value} {o : Obj} {H : Heap → Prop} (B : Begins v o H) :
    Meets (Builtin.«enumerate.__new__» ⟨[.type "enumerate", v], []⟩) (fun _ R s => H s.heap ∧
      R (.ok (.ret (.ref (s.heap.push o).objs.size))) { s with heap := (s.heap.push o).push (enum0 s.heap.objs.size) }) :=
  .of_wp fun prog w A R s h => by
    obtain ⟨hp, g, d, tk, os⟩ := s
    obtain ⟨h1, h⟩ := h
    have sub := sub_enumerate
    have go : ∀ {A' : Around} {E : Value → Shared → Prop} {Q : Value → Shared → Prop}, Q (.ref hp.objs.size) ⟨hp.push o, g, d, tk, os⟩ →
        wpAny (model prog w) A' (pyIter v) Q E ⟨hp, g, d, tk, os⟩ := fun q => B.iter prog w _ _ ⟨hp, g, d, tk, os⟩ _ h1 q
    wp_walk using go
    refine wpAny_stack_any fun st => wpAny_pure ?_
    split
    · rename_i c _ _ _ _ _
      cases (c == Value.type "enumerate") <;>
      · wp_walk using go
        exact ⟨_, rfl, h⟩
    · wp_walk using go
      exact ⟨_, rfl, h⟩
section
variable {prog : Program} {w : World} {A : Around} {E : Value → Shared → Prop} {s : Shared}
theorem call_enum1 {v : Value} {o : Obj} {H : Heap → Prop} {Q : Value → Shared → Prop} (B : Begins v o H) (h1 : H s.heap)
    (h : ∀ h', IsEnum h' (s.heap.objs.size + 1) s.heap.objs.size 0 .none → h'.get? s.heap.objs.size = some o →
      (∀ b u, s.heap.get? b = some u → h'.get? b = some u) → Q (.ref (s.heap.objs.size + 1)) { s with heap := h' }) :
    wpAny (model prog w) A (call (.type "enumerate") [v]) Q E s := by
  refine callType_new F.called_enumerate (by decide) (F.typeCall_enumerate_1 _) (F.newCall_enumerate_1 _)
    (fun obj => F.args_object_init_2 obj _) F.entry_enumerate_new (meets_enum1 B) ⟨h1, ?_⟩
  have sz : (s.heap.push o).objs.size = s.heap.objs.size + 1 := Heap.size_push ..
  have he : IsEnum ((s.heap.push o).push (enum0 s.heap.objs.size)) (s.heap.objs.size + 1) s.heap.objs.size 0 .none := by
    have q := Heap.get?_push_size (s.heap.push o) (o := enum0 s.heap.objs.size) rfl
    rw [sz] at q
    exact q
  show _ ∧ _
  rw [sz]
  refine ⟨⟨_, he, rfl⟩, h _ he (Heap.get?_push_of_some _ (Heap.get?_push_size _ B.free)) fun b u x => ?_⟩
  exact Heap.get?_push_of_some _ (Heap.get?_push_of_some _ x)
end
/-- an iterator at its tuple's end -/
theorem draws_end {prog : Program} {w : World} {A : Around} {i : Nat} (hh : A.handled = none) (it t : Addr) (hne : t ≠ it) (items : Array Value) (hi : items.size ≤ i) :
    Draws prog w A it [it, t] i (fun _ _ => False) (fun j h => j = i ∧ h.IsTupleIter it t i ∧ h.IsTuple t items) where
  live := fun _ _ st => by
    obtain ⟨_, ⟨o, ho, _⟩, _⟩ := st
    exact ⟨o, ho⟩
  frame := fun _ _ _ st hk => ⟨st.1, st.2.1.at fun o e => hk it (by simp) o e, st.2.2.at fun o e => hk t (by simp) o e⟩
  item := fun j s Q E hj st _ => absurd st.1 (Nat.ne_of_lt hj)
  done := fun s Q E st hE => wpAny_nextOf_tuple_end hh st.2.1 st.2.2 (by simp; omega) hE
end PySem
namespace EL
open PySem PySem.Spec PyProof.Rows L2
/-- the tuple at a, each item in a new pair -/
def IteT (K : PySem.W.Frag) (a : Addr) : It :=
  ⟨fun i H => ∃ (xs : List V) (x : V), SqT K H a xs ∧ xs[i]? = some x,
   fun i H v H' => ∃ T x, v = .ref T ∧ H T = none ∧ H' = upd H T (.tup [.int (i : Nat), x]) ∧ ∀ xs, SqT K H a xs → xs[i]? = some x,
   fun i H => ∃ xs : List V, SqT K H a xs ∧ xs.length ≤ i⟩
theorem turn_enumT {P : Program} {w : World} {K : PySem.W.Frag} {elts : List Expr} {kk : Nat} {tpos : Pos} (a e it : Addr) :
    Turn P w K (.Tuple elts kk tpos) (IteT K a) [e, it] e
      (fun i h => (∃ old, IsEnum h e it ((i : Nat) : Int) old) ∧ h.IsTupleIter it a i ∧ e ≠ it ∧ a ≠ it ∧ e ≠ a) where
  mem := by simp
  obj := fun i h st b hb => by
    obtain ⟨⟨old, he⟩, ⟨o, ho, _, hd⟩, _⟩ := st
    rcases (show b = e ∨ b = it by simpa using hb) with rfl | rfl
    · exact ⟨_, he, fun v q => nomatch q⟩
    · refine ⟨o, ho, fun v q => ?_⟩
      rw [hd] at q
      cases q
  keep := fun i h h' st k => by
    obtain ⟨⟨old, he⟩, hi, hne⟩ := st
    exact ⟨⟨old, k e (by simp) _ he⟩, hi.at fun o q => k it (by simp) o q, hne⟩
  item := by
    intro X hP hw hK hc i pins s σ H E I hf st hg
    subst hP hw hK
    obtain ⟨⟨old, he⟩, hit, hne, hai, hea⟩ := st
    obtain ⟨xs, x, hq, hx⟩ := hg
    obtain ⟨its, rv, p, hz⟩ := I.tuple hq
    have p' : s.heap.IsTuple a its.toArray := p
    obtain ⟨u, hu, ru⟩ := rv.get hx
    have hel : e < s.heap.objs.size := Heap.lt_size he
    have hil : it < s.heap.objs.size := by
      obtain ⟨_, q, _⟩ := hit
      exact Heap.lt_size q
    have hlt : i < its.toArray.size := by
      obtain ⟨z, _⟩ := List.getElem?_eq_some_iff.mp hu
      simpa using z
    refine wpAny_pyNext_enum_itemD (Draws.tuple (A := X.A.in1) (show X.A.in1.handled = none from I.ok.hd hc) it a hai its.toArray) he ⟨hit, p'⟩ hlt hne (by simp; exact ⟨hne, hea⟩) fun y h' tk hy ho st' hT hsz hk => ?_
    have hyu : y = u := by
      have q : its.toArray[i]? = some y := hy
      rw [List.getElem?_toArray, hu] at q
      exact (Option.some.inj q).symm
    subst hyu
    refine ⟨_, rfl, wpAny_letOwnedTupleGo_enum (s := { s with heap := h', toks := tk + 1 }) ho fun h'' he' sb => ?_⟩
    have hT2 : h''.get? s.heap.objs.size = some { cls := .type "tuple", data := .seq #[.int i tk, y] } := (sb.2 _ (Nat.ne_of_gt hel)).trans hT
    have new : ObjOk X.prog X.w (upd H s.heap.objs.size (.tup [.int (i : Nat), x])) h'' s.heap.objs.size (.tup [.int (i : Nat), x]) :=
      ⟨by show 2 ≤ sizeLine; decide, [.int i tk, y], .cons ⟨_, rfl⟩ (.cons ru .nil), ⟨_, hT2, rfl, _, rfl⟩⟩
    have I1 : Inv X pins σ (upd H s.heap.objs.size (.tup [.int (i : Nat), x])) { s with heap := h'', toks := tk + 1 } := by
      refine I.turnedNew (ch := [e, it]) (fun b ob hb q => ?_) hf (Nat.le_refl _) new
      have b1 : b ≠ e := fun z => hb (by simp [z])
      have b2 : b ≠ it := fun z => hb (by simp [z])
      exact (sb.2 b b1).trans (hk b ob b1 b2 q)
    refine ⟨.ref s.heap.objs.size, _, I1, rfl, ⟨_, x, rfl, I.hok.fresh (Nat.le_refl _), rfl, fun ys hy => ?_⟩, ⟨⟨y, ?_⟩, ?_, hne, hai, hea⟩, fun b hb => ?_⟩
    · rw [I.tuple_inj hy hq]
      exact hx
    · have e1 : ((i + 1 : Nat) : Int) = (i : Int) + 1 := by omega
      rw [e1]
      exact he'
    · exact st'.1.at fun o q => (sb.2 it (Ne.symm hne)).trans q
    · have hb' : b < s.heap.objs.size := by
        rcases (show b = e ∨ b = it by simpa using hb) with rfl | rfl
        · exact hel
        · exact hil
      rw [upd_ne (Nat.ne_of_lt hb')]
      exact (hf b hb).1
  done := by
    intro X hP hw hK hc i pins s σ H E I hf st hg
    subst hP hw hK
    obtain ⟨⟨old, he⟩, hit, hne, hai, hea⟩ := st
    obtain ⟨xs, hq, hx⟩ := hg
    obtain ⟨its, rv, p, hz⟩ := I.tuple hq
    have p' : s.heap.IsTuple a its.toArray := p
    obtain ⟨f0, f1, f2, f3, f4, f5⟩ := hf it (by simp)
    have hl := rv.length
    refine wpAny_pyNext_enum_endD (draws_end (A := X.A.in1) (i := i) (show X.A.in1.handled = none from I.ok.hd hc) it a hai its.toArray (by simp; omega)) he ⟨rfl, hit, p'⟩ fun h' eb => ?_
    exact ⟨rfl, I.turned (t' := s.toks) (fun b o hb q => eb b o hb q) f0 f1 f3 f4 f5⟩
  self := fun A i s Q E st h => let ⟨⟨_, he⟩, _⟩ := st; wpAny_pyIter_enum he h
def iEnumT (K : PySem.W.Frag) (ta : TA) : TI := fun σ H R => ta σ H fun vs H1 => ∃ a xs, vs = [.ref a] ∧ SqT K H1 a xs ∧ R (IteT K a) H1
theorem pi_enumT {X : Cx} {e : Expr} {ta : TA} {p pos tpos : Pos} {elts : List Expr} {kk : Nat} (hg : Gl X "enumerate") (hm : X.mg "enumerate" = none) (ha : PA X [e] ta)
    (hs : starEach [e] X.env = [(false, eval e X.env)] := by rfl) :
    PI X (.Tuple elts kk tpos) (.Call (.Name "enumerate" p) [e] [] pos) (iEnumT X.K ta) := by
  constructor
  intro pins s σ H R I h
  refine Call_ (ld_blt I hg hm boot_enumerate (PyProof.Rows.callWith_type1 (thn (ha.run pos pins s σ H _ I h) fun us s1 z => ?_) hs rfl))
  obtain ⟨vs, H1, I1, r1, a, xs, rfl, hq, q⟩ := z
  cases r1 with
  | cons r rr =>
    cases rr
    cases r
    obtain ⟨its, rv, p', hz⟩ := I1.tuple hq
    have pt : s1.heap.IsTuple a its.toArray := p'
    have hal : a < s1.heap.objs.size := by
      obtain ⟨o, z, _⟩ := pt
      exact Heap.lt_size z
    refine call_enum1 (begins_tuple a its.toArray) pt fun h' he hit hk => wpAny_pyIter_enum he ?_
    have I2 : Inv X pins σ H1 { s1 with heap := h' } := I1.kept (t' := s1.toks) hk
    refine ⟨s1.heap.objs.size + 1, [s1.heap.objs.size + 1, s1.heap.objs.size], _, _, H1, rfl, I2, turn_enumT a (s1.heap.objs.size + 1) s1.heap.objs.size,
      ⟨⟨.none, he⟩, ⟨_, hit, rfl, rfl⟩, Nat.succ_ne_self _, Nat.ne_of_lt hal, (Nat.ne_of_lt (Nat.lt_succ_of_lt hal)).symm⟩, fun b hb => ?_, q⟩
    have hle : s1.heap.objs.size ≤ b := by
      rcases (show b = s1.heap.objs.size + 1 ∨ b = s1.heap.objs.size by simpa using hb) with z | z <;> rw [z]
      · exact Nat.le_succ _
      · exact Nat.le_refl _
    exact I1.fpOk hle (I1.hok.fresh hle)
/-! enumerate of a list or of a tuple -/
def iEnumU (K : PySem.W.Frag) (ta : TA) : TI := fun σ H R => iEnum K ta σ H R ∨ iEnumT K ta σ H R
theorem pi_enumU {X : Cx} (K : PySem.W.Frag) {e : Expr} {ta : TA} {p pos tpos : Pos} {elts : List Expr} {kk : Nat} (hg : Gl X "enumerate") (hm : X.mg "enumerate" = none) (ha : PA X [e] ta)
    (hs : starEach [e] X.env = [(false, eval e X.env)] := by rfl) (h : X.K = K := by rfl) :
    PI X (.Tuple elts kk tpos) (.Call (.Name "enumerate" p) [e] [] pos) (iEnumU K ta) := h ▸ piOr (pi_enum hg hm ha hs) (pi_enumT hg hm ha hs)
section
variable {K : PySem.W.Frag} {a : Addr} {xs : List V} {σ : St} {H : Hp} {ts : TA} {R : It → Hp → Prop}
theorem srcET : Src (IteT K a) xs.length (fun H => SqT K H a xs) (itmE xs) where
  go := fun i H h hi => ⟨xs, xs[i], h, by simp [hi]⟩
  stop := fun i H h hi => ⟨xs, h, hi⟩
  yld := fun i H x H' h _ z => by
    obtain ⟨p, y, e1, e2, e3, e4⟩ := z
    exact ⟨p, y, e1, e2, e3 ▸ Same.new e2, e3 ▸ upd_same, e4 xs h⟩
def WET (K : PySem.W.Frag) (R : It → Hp → Prop) (vs : List V) (H : Hp) : Prop := ∃ a xs, vs = [.ref a] ∧ SqT K H a xs ∧ R (IteT K a) H
theorem wEl (h : ts σ H (WE K R)) : iEnumU K ts σ H R := .inl h
theorem wEt (h : ts σ H (WET K R)) : iEnumU K ts σ H R := .inr h
theorem WET_i (xs : List V) (hS : SqT K H a xs) (h : R (IteT K a) H) : WET K R [.ref a] H := ⟨a, xs, rfl, hS, h⟩
end
/-! len of a set of whole numbers -/
def rLenI (w : World) : List V → Hp → VK → Prop := fun xs H Q => ∃ a S n, xs = [V.ref a] ∧ H a = some (SetO w a S n) ∧ Q (.int (n : Nat)) H
theorem call_lenI {X : Cx} (w : World) (hw : X.w = w := by rfl) : CallR X (.builtin "len") (rLenI w) := by
  subst hw
  intro pins s σ H xs us Q I r h
  obtain ⟨a, S, n, rfl, ha, q⟩ := h
  cases r with
  | cons r rr =>
    cases rr
    cases r
    obtain ⟨o, es, ep, t, ho, hex, hd, g, nd, hm, hb, hf, hn, _⟩ := setO_get I ha
    refine call_len_set ho hex hd hf (by unfold scanBound at hb; omega) ⟨.int (n : Nat), H, I.tok _, ⟨_, by rw [hn]⟩, q⟩
theorem rLenI_i {w : World} {a : Addr} {S : Int → Bool} {n : Nat} {H : Hp} {Q : VK} (e : H a = some (SetO w a S n)) (h : Q (.int (n : Nat)) H) : rLenI w [.ref a] H Q := ⟨a, S, n, rfl, e, h⟩
end EL

/-! ### the plain words: what a def's text asks, without a heap -/
namespace Px
open PySem L2 EL
abbrev LIM : Nat := sizeLine
/-- an error of the program's own: the number of its class, its fields -/
structure PErr where
  cls : Nat
  fs : List (Str × V)
def wLet {α : Type} (v : α) (k : α → Prop) : Prop := k v
def wJoin {α : Type} (f : (α → Prop) → Prop) (k : α → Prop) : Prop := f k
def wFor {α S : Type} : List α → S → (α → S → (S → Prop) → (S → Prop) → Prop) → (S → Prop) → Prop
  | [], s, _, k => k s
  | x :: xs, s, f, k => f x s (fun s' => wFor xs s' f k) k
def wWhile {S : Type} (s : S) (f : S → (S → Prop) → (S → Prop) → Prop) (k : S → Prop) : Prop :=
  ∃ W : Nat → S → Prop, (∃ m, W m s) ∧ ∀ m s, W m s → f s (fun s' => ∃ m', m' < m ∧ W m' s') k
def wComp {α β : Type} : List α → (α → (Option β → Prop) → Prop) → (List β → Prop) → Prop
  | [], _, k => k []
  | x :: xs, f, k => f x fun o => wComp xs f fun ys => k (o.toList ++ ys)
def wCompA {α β : Type} : List α → (α → (Option β → Prop) → Prop) → List β → (List β → Prop) → Prop
  | [], _, acc, k => k acc
  | x :: xs, f, acc, k => f x fun o => acc.length + o.toList.length ≤ LIM ∧ wCompA xs f (acc ++ o.toList) k
def wComp2 {α β : Type} : List α → (α → List β → (List β → Prop) → Prop) → List β → (List β → Prop) → Prop
  | [], _, acc, k => k acc
  | x :: xs, f, acc, k => f x acc fun acc' => wComp2 xs f acc' k
/-- xs[i] -/
def ixG {α : Type} [Inhabited α] (xs : List α) (i : Int) : α := (atI xs i).getD default
def inB {α : Type} (xs : List α) (i : Int) : Prop := -(xs.length : Int) ≤ i ∧ i < xs.length
def setG {α : Type} (xs : List α) (i : Int) (y : α) : List α := match ixN xs.length i with | some j => xs.set j y | none => xs
def cutG {α : Type} (xs : List α) (lo hi : Option Int) : List α := (xs.drop (HT.sIx xs.length 0 lo)).take (HT.sIx xs.length xs.length hi - HT.sIx xs.length 0 lo)
def rangeL (lo hi : Int) : List Int := (List.range (hi - lo).toNat).map fun (i : Nat) => lo + (i : Int)
def enumL {α : Type} (xs : List α) : List (Int × α) := (xs.zipIdx).map fun (x, i) => ((i : Int), x)
def minI (i j : Int) : Int := if j < i then j else i
def maxI (i j : Int) : Int := if j > i then j else i
def absI (i : Int) : Int := if i < 0 then -i else i
def b2i (b : Bool) : Int := if b then 1 else 0
def repG {α : Type} (xs : List α) (k : Int) : List α := (List.replicate k.toNat xs).flatten
def rgOk (lo hi : Int) : Prop := -(2 ^ 62) ≤ lo ∧ lo < 2 ^ 62 ∧ -(2 ^ 62) ≤ hi ∧ hi < 2 ^ 62
theorem rangeL_len {lo hi : Int} : (rangeL lo hi).length = (hi - lo).toNat := by unfold rangeL; rw [List.length_map, List.length_range]
theorem rangeL_get {lo hi : Int} {i : Nat} (h : i < (hi - lo).toNat) : (rangeL lo hi)[i]? = some (lo + (i : Int)) := by
  unfold rangeL
  rw [List.getElem?_map, List.getElem?_range h]
  rfl
theorem enumL_len {α : Type} {xs : List α} : (enumL xs).length = xs.length := by unfold enumL; rw [List.length_map, List.length_zipIdx]
theorem enumL_get {α : Type} {xs : List α} {i : Nat} {x : α} (h : xs[i]? = some x) : (enumL xs)[i]? = some ((i : Int), x) := by
  unfold enumL
  rw [List.getElem?_map, List.getElem?_zipIdx, h]
  simp
theorem zip_get {α β : Type} {xs : List α} {ys : List β} {i : Nat} {x : α} {y : β} (h : xs[i]? = some x) (h2 : ys[i]? = some y) : (xs.zip ys)[i]? = some (x, y) := by
  rw [List.getElem?_zip_eq_some]
  exact ⟨h, h2⟩
end Px
/-! ### Python's kinds over the heap -/
namespace EL
open PySem PySem.Spec PyProof.Rows L2 Px
structure PTy (τ : Type) where
  rep : Hp → V → τ → Prop
  mono : ∀ {H H' : Hp} {v : V} {d : τ}, Same H H' → rep H v d → rep H' v d
/-- kinds without a heap -/
def pI {τ : Type} (f : τ → V) : PTy τ := ⟨fun _ v d => v = f d, fun _ h => h⟩
abbrev pInt : PTy Int := pI V.int
abbrev pBl : PTy Bool := pI V.bl
abbrev pStr : PTy Str := pI V.str
abbrev pNon : PTy Unit := pI fun _ => V.non
abbrev pImm : PTy V := pI fun v => v
def optV (o : Option Int) : V := match o with | some i => .int i | none => .non
abbrev pOptI : PTy (Option Int) := pI optV
inductive AllR {α : Type} (p : PTy α) (H : Hp) : List V → List α → Prop
  | nil : AllR p H [] []
  | cons {v : V} {d : α} {vs : List V} {ds : List α} : p.rep H v d → AllR p H vs ds → AllR p H (v :: vs) (d :: ds)
section
variable {α β : Type} {p : PTy α} {H H' : Hp} {vs ws : List V} {ds es : List α} {v : V} {d : α} {i : Nat}
theorem AllR.len (h : AllR p H vs ds) : vs.length = ds.length := by
  induction h with
  | nil => rfl
  | cons _ _ ih => simp [ih]
theorem AllR.mono (s : Same H H') (h : AllR p H vs ds) : AllR p H' vs ds := by
  induction h with
  | nil => exact .nil
  | cons h _ ih => exact .cons (p.mono s h) ih
theorem AllR.app (h : AllR p H vs ds) (h2 : AllR p H ws es) : AllR p H (vs ++ ws) (ds ++ es) := by
  induction h with
  | nil => exact h2
  | cons h _ ih => exact .cons h ih
theorem AllR.one (h : p.rep H v d) : AllR p H [v] [d] := .cons h .nil
theorem AllR.get (h : AllR p H vs ds) : ∀ {i : Nat} {d : α}, ds[i]? = some d → ∃ v, vs[i]? = some v ∧ p.rep H v d := by
  induction h with
  | nil => intro i d e; simp at e
  | cons h _ ih =>
    intro i d e
    cases i with
    | zero => simp at e; subst e; exact ⟨_, rfl, h⟩
    | succ i => simpa using ih (by simpa using e)
theorem AllR.getV (h : AllR p H vs ds) : ∀ {i : Nat} {v : V}, vs[i]? = some v → ∃ d, ds[i]? = some d ∧ p.rep H v d := by
  induction h with
  | nil => intro i d e; simp at e
  | cons h _ ih =>
    intro i d e
    cases i with
    | zero => simp at e; subst e; exact ⟨_, rfl, h⟩
    | succ i => simpa using ih (by simpa using e)
theorem AllR.set (h : AllR p H vs ds) (h2 : p.rep H v d) : ∀ j, AllR p H (vs.set j v) (ds.set j d) := by
  induction h with
  | nil => intro j; exact .nil
  | cons h t ih =>
    intro j
    cases j with
    | zero => exact .cons h2 t
    | succ j => exact .cons h (ih j)
theorem AllR.take (h : AllR p H vs ds) : ∀ n, AllR p H (vs.take n) (ds.take n) := by
  induction h with
  | nil => intro n; simp; exact .nil
  | cons h t ih =>
    intro n
    cases n with
    | zero => exact .nil
    | succ n => exact .cons h (ih n)
theorem AllR.drop (h : AllR p H vs ds) : ∀ n, AllR p H (vs.drop n) (ds.drop n) := by
  induction h with
  | nil => intro n; simp; exact .nil
  | cons h t ih =>
    intro n
    cases n with
    | zero => exact .cons h t
    | succ n => exact ih n
theorem AllR.cut (h : AllR p H vs ds) (lo hi : Option Int) : AllR p H (cutV vs lo hi) (cutG ds lo hi) := by
  unfold cutV cutG
  rw [h.len]
  exact (h.drop _).take _
theorem AllR.rev (h : AllR p H vs ds) : AllR p H vs.reverse ds.reverse := by
  induction h with
  | nil => exact .nil
  | cons h _ ih => rw [List.reverse_cons, List.reverse_cons]; exact ih.app (.one h)
theorem AllR.imm {f : α → V} (h : AllR (pI f) H vs ds) : vs = ds.map f := by
  induction h with
  | nil => rfl
  | cons h _ ih => rw [ih, (show _ = f _ from h)]; rfl
theorem AllR.ofImm {f : α → V} : ∀ ds : List α, AllR (pI f) H (ds.map f) ds
  | [] => .nil
  | _ :: ds => .cons rfl (AllR.ofImm ds)
theorem AllR.flat {xs : List V} {n : Nat} (h : AllR p H vs ds) : AllR p H (List.replicate n vs).flatten (List.replicate n ds).flatten := by
  induction n with
  | zero => exact .nil
  | succ n ih => rw [List.replicate_succ, List.replicate_succ, List.flatten_cons, List.flatten_cons]; exact h.app ih
end
def SqA (K : PySem.W.Frag) (H : Hp) (a : Addr) (xs : List V) : Prop := SqL K H a xs ∨ SqT K H a xs
theorem SqA.same {K : PySem.W.Frag} {H H' : Hp} {a : Addr} {xs : List V} (s : Same H H') (h : SqA K H a xs) : SqA K H' a xs := h.elim (fun z => .inl (s.seq z)) fun z => .inr (s.seqT z)
section
variable (K : PySem.W.Frag) {α : Type}
/-- a list that the program has made -/
def pList (p : PTy α) : PTy (List α) := ⟨fun H v ds => ∃ a vs, v = .ref a ∧ H a = some (.lst vs) ∧ AllR p H vs ds ∧ ds.length ≤ LIM, fun s ⟨a, vs, e, h, r, l⟩ => ⟨a, vs, e, s _ _ h, r.mono s, l⟩⟩
/-- a list that is read alone -/
def pFro (p : PTy α) : PTy (List α) := ⟨fun H v ds => ∃ a vs, v = .ref a ∧ SqL K H a vs ∧ AllR p H vs ds ∧ ds.length ≤ LIM, fun s ⟨a, vs, e, h, r, l⟩ => ⟨a, vs, e, s.seq h, r.mono s, l⟩⟩
/-- a tuple of alike members -/
def pVt (p : PTy α) : PTy (List α) := ⟨fun H v ds => ∃ a vs, v = .ref a ∧ SqT K H a vs ∧ AllR p H vs ds ∧ ds.length ≤ LIM, fun s ⟨a, vs, e, h, r, l⟩ => ⟨a, vs, e, s.seqT h, r.mono s, l⟩⟩
/-- a list or a tuple -/
def pSeq (p : PTy α) : PTy (List α) := ⟨fun H v ds => ∃ a vs, v = .ref a ∧ SqA K H a vs ∧ AllR p H vs ds ∧ ds.length ≤ LIM, fun s ⟨a, vs, e, h, r, l⟩ => ⟨a, vs, e, h.same s, r.mono s, l⟩⟩
/-- the drawn numbers; the counter -/
def pDraw : PTy Unit := ⟨fun H v _ => ∃ a, v = .ref a ∧ ∃ xs : List Int, SqL K H a (xs.map V.int) ∧ 0 < xs.length, fun s ⟨a, e, xs, h, l⟩ => ⟨a, e, xs, s.seq h, l⟩⟩
def pCell : PTy Unit := ⟨fun H v _ => ∃ a, v = .ref a ∧ H a = some (cellO a), fun s ⟨a, e, h⟩ => ⟨a, e, s _ _ h⟩⟩
/-- what can be compared deep, by its data -/
def pDyn : PTy PyData := ⟨fun H v d => Dp K H v d, fun s h => s.dp h⟩
end
/-! tuples -/
structure PRow (τ : Type) where
  rep : Hp → List V → τ → Prop
  mono : ∀ {H H' : Hp} {v : List V} {d : τ}, Same H H' → rep H v d → rep H' v d
def rOne {α : Type} (p : PTy α) : PRow α := ⟨fun H vs d => ∃ v, vs = [v] ∧ p.rep H v d, fun s ⟨v, e, h⟩ => ⟨v, e, p.mono s h⟩⟩
def rCons {α β : Type} (p : PTy α) (r : PRow β) : PRow (α × β) := ⟨fun H vs d => ∃ v ws, vs = v :: ws ∧ p.rep H v d.1 ∧ r.rep H ws d.2, fun s ⟨v, w, e, h, h2⟩ => ⟨v, w, e, p.mono s h, r.mono s h2⟩⟩
def rNil : PRow Unit := ⟨fun _ vs _ => vs = [], fun _ h => h⟩
def pTup (K : PySem.W.Frag) {τ : Type} (r : PRow τ) : PTy τ := ⟨fun H v d => ∃ a vs, v = .ref a ∧ SqT K H a vs ∧ r.rep H vs d, fun s ⟨a, vs, e, h, q⟩ => ⟨a, vs, e, s.seqT h, r.mono s q⟩⟩
/-- None or a value -/
def pOpt {α : Type} (p : PTy α) : PTy (Option α) := ⟨fun H v o => match o with | none => v = .non | some d => p.rep H v d ∧ v ≠ .non, fun {H H' v o} s h => by
  cases o with
  | none => exact h
  | some d => exact ⟨p.mono s h.1, h.2⟩⟩
/-! what stands beside the own lists -/
def dels (H : Hp) : List Addr → Hp
  | [] => H
  | p :: ps => del (dels H ps) p
section
variable {H H' : Hp} {ps : List Addr} {q : Addr} {o : HO}
theorem dels_in (h : q ∈ ps) : dels H ps q = none := by
  induction ps with
  | nil => cases h
  | cons p r ih =>
    show del (dels H r) p q = none
    by_cases e : q = p
    · rw [e, del_same]
    · rw [del_ne e]
      exact ih ((List.mem_cons.mp h).resolve_left e)
theorem dels_out (h : q ∉ ps) : dels H ps q = H q := by
  induction ps with
  | nil => rfl
  | cons p r ih =>
    show del (dels H r) p q = H q
    rw [del_ne (fun e => h (by rw [e]; exact List.mem_cons_self ..)), ih (fun z => h (List.mem_cons_of_mem _ z))]
theorem dels_ext (h : ∀ b, b ∉ ps → H' b = H b) : dels H' ps = dels H ps := by
  funext b
  by_cases e : b ∈ ps
  · rw [dels_in e, dels_in e]
  · rw [dels_out e, dels_out e, h b e]
theorem Sd (ps : List Addr) (s : Same H H') : Same (dels H ps) (dels H' ps) := fun b u e => by
  by_cases c : b ∈ ps
  · rw [dels_in c] at e
    cases e
  · rw [dels_out c] at e ⊢
    exact s b u e
theorem Sn (ps : List Addr) (s : Same H H') (n : H q = none) : Same (dels H ps) (dels H' (q :: ps)) := fun b u e => by
  by_cases c : b ∈ ps
  · rw [dels_in c] at e
    cases e
  · rw [dels_out c] at e
    have hb : b ≠ q := ne_of_none e n
    rw [dels_out (fun z => (List.mem_cons.mp z).elim hb c)]
    exact s b u e
theorem Su : Same (dels H ps) H := fun b u e => by
  by_cases c : b ∈ ps
  · rw [dels_in c] at e
    cases e
  · rw [dels_out c] at e
    exact e
theorem Ss {qs : List Addr} (h : ∀ x, x ∈ qs → x ∈ ps) : Same (dels H ps) (dels H qs) := fun b u e => by
  by_cases c : b ∈ ps
  · rw [dels_in c] at e
    cases e
  · rw [dels_out c] at e
    rw [dels_out fun z => c (h b z)]
    exact e
theorem dels_at (h : H q = some o) (n : q ∉ ps) : dels H ps q = some o := by rw [dels_out n]; exact h
/-- one own list has changed -/
def Off (q : Addr) (H H' : Hp) : Prop := ∀ b, b ≠ q → H' b = H b
theorem So (h : q ∈ ps) (f : Off q H H') : Same (dels H ps) (dels H' ps) := by
  rw [dels_ext fun b hb => f b fun e => hb (by rw [e]; exact h)]
  exact Same.refl _
theorem Off.at (f : Off q H H') {b : Addr} (e : H b = some o) (n : b ≠ q) : H' b = some o := by rw [f b n]; exact e
theorem off_upd {o : HO} : Off q H (upd H q o) := fun b hb => upd_ne hb
theorem nin0 : q ∉ ([] : List Addr) := by simp
theorem nin1 {p : Addr} (h : q ≠ p) (h2 : q ∉ ps) : q ∉ p :: ps := fun z => (List.mem_cons.mp z).elim h h2
theorem ne_nn {a b : Addr} (n : H a = none) (e : H b = some o) : a ≠ b := fun z => by rw [z, e] at n; cases n
end
section
variable {H H' H0 : Hp} {ps : List Addr} {q : Addr} {o : HO}
theorem dom_up (s : Same H H') (h : ∀ x ∈ ps, H x ≠ none) : ∀ x ∈ ps, H' x ≠ none := fun x hx e => by
  cases e2 : H x with
  | none => exact h x hx e2
  | some u => rw [s x u e2] at e; cases e
theorem dom_new (e : H q = some o) (h : ∀ x ∈ ps, H x ≠ none) : ∀ x ∈ q :: ps, H x ≠ none := fun x hx => by
  rcases List.mem_cons.mp hx with z | z
  · rw [z, e]; exact fun z => nomatch z
  · exact h x z
theorem dom_off (f : Off q H H') (e : H' q = some o) (h : ∀ x ∈ ps, H x ≠ none) : ∀ x ∈ ps, H' x ≠ none := fun x hx => by
  by_cases c : x = q
  · rw [c, e]; exact fun z => nomatch z
  · rw [f x c]; exact h x hx
theorem dom_ss {qs : List Addr} (s : ∀ x, x ∈ qs → x ∈ ps) (h : ∀ x ∈ ps, H x ≠ none) : ∀ x ∈ qs, H x ≠ none := fun x hx => h x (s x hx)
theorem nin_of (n : H q = none) (h : ∀ x ∈ ps, H x ≠ none) : q ∉ ps := fun z => h q z n
theorem st_off (s : Same H0 H) (f : Off q H H') (n : H0 q = none) : Same H0 H' := fun b u e => by
  rw [f b (ne_of_none e n)]
  exact s b u e
theorem ss_refl : ∀ x : Addr, x ∈ ps → x ∈ ps := fun _ h => h
theorem ss_skip {qs : List Addr} (s : ∀ x, x ∈ qs → x ∈ ps) : ∀ x, x ∈ qs → x ∈ q :: ps := fun x h => List.mem_cons_of_mem _ (s x h)
theorem ss_keep {qs : List Addr} (s : ∀ x, x ∈ qs → x ∈ ps) : ∀ x, x ∈ q :: qs → x ∈ q :: ps := fun x h => (List.mem_cons.mp h).elim (fun z => by rw [z]; exact List.mem_cons_self ..) fun z => List.mem_cons_of_mem _ (s x z)
theorem nin_ss {qs : List Addr} (n : q ∉ ps) (s : ∀ x, x ∈ qs → x ∈ ps) : q ∉ qs := fun h => n (s q h)
end
/-! what comes back -/
section
variable {α τ : Type} {ps : List Addr} {H H' H0 : Hp} {Q : VK} {E : XK} {cl : Nat → Addr}
def RetI (f : τ → V) (H : Hp) (Q : VK) (r : τ) : Prop := ∀ H', Same H H' → Q (f r) H'
def RetK (ps : List Addr) (p : PTy τ) (H : Hp) (Q : VK) (r : τ) : Prop := ∀ H' v, Same H H' → p.rep (dels H' ps) v r → Q v H'
def RetO (ps : List Addr) (p : PTy α) (H : Hp) (Q : VK) (r : List α) : Prop := ∀ H' a vs, Same H H' → H a = none → H' a = some (.lst vs) → AllR p (dels H' (a :: ps)) vs r → r.length ≤ LIM → Q (.ref a) H'
def ErrK (ps : List Addr) (cl : Nat → Addr) (H : Hp) (E : XK) (er : PErr) : Prop := ∀ H' d, Same H H' → XDict (dels H' ps) d er.fs → E (.ref (cl er.cls)) d H'
theorem XDict.same {H H' : Hp} {d : Option Addr} {fs : List (Str × V)} (s : Same H H') (h : XDict H d fs) : XDict H' d fs := h.elim .inl fun ⟨dd, e, h⟩ => .inr ⟨dd, e, s _ _ h⟩
theorem errUp {ps' : List Addr} {er : PErr} (s : Same H0 H) (hs : ∀ x, x ∈ ps → x ∈ ps') (h : ErrK ps cl H0 E er) : ErrK ps' cl H E er := fun H' d s2 x => h H' d (s.trans s2) (x.same (Ss hs))
theorem raiseK {c : Nat} {f : Str} {v : V} (h : ErrK ps cl H0 E ⟨c, [(f, v)]⟩) (s : Same H0 H) (hp : ∀ x ∈ ps, H x ≠ none) : ∀ H' d, Same H H' → H d = none → H' d = some (.xd [(f, v)]) → E (.ref (cl c)) (some d) H' :=
  fun H' d s2 n e => h H' _ (s.trans s2) (.inr ⟨d, rfl, dels_at e (nin_of n hp)⟩)
theorem raise0 {c : Nat} (h : ErrK ps cl H0 E ⟨c, []⟩) (s : Same H0 H) : E (.ref (cl c)) none H := h H none s (.inl ⟨rfl, rfl⟩)
theorem mkO1n {K : PySem.W.Frag} {C : Addr} {f : Str} {v : V} {R : XK} (T : OexC K C) (hn : PySem.W.findIn K (.ref C) f = some none) (k : ∀ H' d, Same H H' → H d = none → H' d = some (.xd [(f, v)]) → R (.ref C) (some d) H') : MkO1 C (spI1 f K) [v] H R := by
  refine ⟨by show 1 ≤ 1000; omega, fun a ha => ⟨a, C, v, rfl, T, hn, upd_same, fun dx hd hne => ⟨rfl, dx, [(f, v)], upd_same, ?_, ?_, k _ dx ?_ ?_ upd_same⟩⟩⟩
  · rw [upd_ne hne, upd_same]
  · rw [upd_ne hne] at hd
    exact hd
  · rw [upd_ne hne] at hd
    intro b u e
    have hb : b ≠ a := ne_of_none e ha
    rw [upd_ne (ne_of_none e hd), del_ne hb, upd_ne hb, upd_ne (ne_of_none e hd), upd_ne hb]
    exact e
  · rw [upd_ne hne] at hd
    exact hd
theorem oFrzG {ps' : List Addr} {p : PTy α} {a : Addr} {vs : List V} {xs : List α} (e : H a = some (.lst vs)) (n : a ∉ ps') (hs : ∀ x, x ∈ ps' → x ∈ ps) (r : AllR p (dels H ps) vs xs) (l : xs.length ≤ LIM) : (pList p).rep (dels H ps') (.ref a) xs := ⟨a, vs, rfl, dels_at e n, r.mono (Ss hs), l⟩
theorem ne_nin {q q' : Addr} {l : List Addr} (n : q' ∉ l) (m : q ∈ l) : q ≠ q' := fun e => n (by rw [← e]; exact m)
theorem oFrz {p : PTy α} {a : Addr} {vs : List V} {xs : List α} (e : H a = some (.lst vs)) (n : a ∉ ps) (r : AllR p (dels H (a :: ps)) vs xs) (l : xs.length ≤ LIM) : (pList p).rep (dels H ps) (.ref a) xs := ⟨a, vs, rfl, dels_at e n, r.mono (Ss fun _ h => List.mem_cons_of_mem _ h), l⟩
end
/-! ### steps of the reading, by kinds -/
/-- a list or a tuple that stands in H, its members in W -/
def Sq {α : Type} (K : PySem.W.Frag) (p : PTy α) (H W : Hp) (v : V) (xs : List α) : Prop := ∃ a vs, v = .ref a ∧ SqA K H a vs ∧ AllR p W vs xs ∧ xs.length ≤ LIM
def Sl {α : Type} (K : PySem.W.Frag) (p : PTy α) (H W : Hp) (v : V) (xs : List α) : Prop := ∃ a vs, v = .ref a ∧ SqL K H a vs ∧ AllR p W vs xs ∧ xs.length ≤ LIM
def St' {α : Type} (K : PySem.W.Frag) (p : PTy α) (H W : Hp) (v : V) (xs : List α) : Prop := ∃ a vs, v = .ref a ∧ SqT K H a vs ∧ AllR p W vs xs ∧ xs.length ≤ LIM
section
variable {K : PySem.W.Frag} {α : Type} {p : PTy α} {H W W' : Hp} {v : V} {xs : List α} {a : Addr} {vs : List V} {Q : VK}
theorem Sl.sq (h : Sl K p H W v xs) : Sq K p H W v xs := let ⟨a, vs, e, h, r, l⟩ := h; ⟨a, vs, e, .inl h, r, l⟩
theorem St'.sq (h : St' K p H W v xs) : Sq K p H W v xs := let ⟨a, vs, e, h, r, l⟩ := h; ⟨a, vs, e, .inr h, r, l⟩
theorem slL (s : Same W H) (h : (pList p).rep W v xs) : Sl K p H W v xs := let ⟨a, vs, e, h, r, l⟩ := h; ⟨a, vs, e, SqL.of (s _ _ h), r, l⟩
theorem slF (s : Same W H) (h : (pFro K p).rep W v xs) : Sl K p H W v xs := let ⟨a, vs, e, h, r, l⟩ := h; ⟨a, vs, e, s.seq h, r, l⟩
theorem slO (e : H a = some (.lst vs)) (r : AllR p W vs xs) (l : xs.length ≤ LIM) : Sl K p H W (.ref a) xs := ⟨a, vs, rfl, SqL.of e, r, l⟩
theorem stV (s : Same W H) (h : (pVt K p).rep W v xs) : St' K p H W v xs := let ⟨a, vs, e, h, r, l⟩ := h; ⟨a, vs, e, s.seqT h, r, l⟩
theorem sqL (s : Same W H) (h : (pList p).rep W v xs) : Sq K p H W v xs := (slL s h).sq
theorem sqF (s : Same W H) (h : (pFro K p).rep W v xs) : Sq K p H W v xs := (slF s h).sq
theorem sqO (e : H a = some (.lst vs)) (r : AllR p W vs xs) (l : xs.length ≤ LIM) : Sq K p H W (.ref a) xs := (slO e r l).sq
theorem sqV (s : Same W H) (h : (pVt K p).rep W v xs) : Sq K p H W v xs := (stV s h).sq
theorem sqQ (s : Same W H) (h : (pSeq K p).rep W v xs) : Sq K p H W v xs := let ⟨a, vs, e, h, r, l⟩ := h; ⟨a, vs, e, h.same s, r, l⟩
theorem Sq.up (s : Same W W') (h : Sq K p H W v xs) : Sq K p H W' v xs := let ⟨a, vs, e, h, r, l⟩ := h; ⟨a, vs, e, h, r.mono s, l⟩
/-- a kind seen as another -/
theorem lFro (h : (pList p).rep H v xs) : (pFro K p).rep H v xs := let ⟨a, vs, e, h, r, l⟩ := h; ⟨a, vs, e, SqL.of h, r, l⟩
theorem lSeq (h : (pList p).rep H v xs) : (pSeq K p).rep H v xs := let ⟨a, vs, e, h, r, l⟩ := h; ⟨a, vs, e, .inl (SqL.of h), r, l⟩
theorem fSeq (h : (pFro K p).rep H v xs) : (pSeq K p).rep H v xs := let ⟨a, vs, e, h, r, l⟩ := h; ⟨a, vs, e, .inl h, r, l⟩
theorem vSeq (h : (pVt K p).rep H v xs) : (pSeq K p).rep H v xs := let ⟨a, vs, e, h, r, l⟩ := h; ⟨a, vs, e, .inr h, r, l⟩
theorem oList (e : H a = some (.lst vs)) (r : AllR p H vs xs) (l : xs.length ≤ LIM) : (pList p).rep H (.ref a) xs := ⟨a, vs, rfl, e, r, l⟩
theorem pList_len (h : (pList p).rep H v xs) : xs.length ≤ LIM := let ⟨_, _, _, _, _, l⟩ := h; l
theorem pFro_len (h : (pFro K p).rep H v xs) : xs.length ≤ LIM := let ⟨_, _, _, _, _, l⟩ := h; l
theorem pVt_len (h : (pVt K p).rep H v xs) : xs.length ≤ LIM := let ⟨_, _, _, _, _, l⟩ := h; l
theorem pSeq_len (h : (pSeq K p).rep H v xs) : xs.length ≤ LIM := let ⟨_, _, _, _, _, l⟩ := h; l
/-! index, length, slices -/
theorem inB_at {i : Int} (h : inB xs i) [Inhabited α] : ∃ j, ixN xs.length i = some j ∧ xs[j]? = some (ixG xs i) := by
  unfold inB at h
  obtain ⟨j, hj, hlt⟩ : ∃ j, ixN xs.length i = some j ∧ j < xs.length := by
    unfold ixN
    by_cases c : 0 ≤ i
    · rw [if_pos c, if_pos h.2]
      exact ⟨_, rfl, by omega⟩
    · rw [if_neg c, if_pos h.1]
      exact ⟨_, rfl, by omega⟩
  refine ⟨j, hj, ?_⟩
  unfold ixG atI
  rw [hj]
  show xs[j]? = some ((xs[j]?).getD default)
  rw [List.getElem?_eq_getElem hlt]
  rfl
theorem at_rep {i : Int} [Inhabited α] (hr : AllR p W vs xs) (hi : inB xs i) : ∃ u, atI vs i = some u ∧ p.rep W u (ixG xs i) := by
  obtain ⟨j, hj, e⟩ := inB_at hi
  obtain ⟨u, hu, ru⟩ := hr.get e
  refine ⟨u, ?_, ru⟩
  unfold atI
  rw [hr.len, hj]
  exact hu
theorem rIxU_a {i : Int} {u : V} (hs : SqA K H a vs) (ha : atI vs i = some u) (h : Q u H) : rIxU K (.ref a) (.int i) H Q := hs.elim (fun z => rIxU_l z ha h) fun z => rIxU_t z ha h
theorem ixS {i : Int} [Inhabited α] (hq : Sq K p H W v xs) (hi : inB xs i) (h : ∀ u, p.rep W u (ixG xs i) → Q u H) : rIxU K v (.int i) H Q := by
  obtain ⟨a, vs, rfl, hs, hr, _⟩ := hq
  obtain ⟨u, hu, ru⟩ := at_rep hr hi
  exact rIxU_a hs hu (h u ru)
theorem ixI {f : α → V} {i : Int} [Inhabited α] (hq : Sq K (pI f) H W v xs) (hi : inB xs i) (h : Q (f (ixG xs i)) H) : rIxU K v (.int i) H Q :=
  ixS hq hi fun u hu => by rw [show u = f (ixG xs i) from hu]; exact h
theorem rLen_a (hs : SqA K H a vs) (h : Q (.int vs.length) H) : EL.rLen K [.ref a] H Q := hs.elim (fun z => rLen_l z h) fun z => rLen_t z h
theorem lenS (hq : Sq K p H W v xs) (h : Q (.int (xs.length : Int)) H) : EL.rLen K [v] H Q := by
  obtain ⟨a, vs, rfl, hs, hr, _⟩ := hq
  rw [← hr.len] at h
  exact rLen_a hs h
theorem cut_len (xs : List α) (lo hi : Option Int) : (cutG xs lo hi).length ≤ xs.length := by
  unfold cutG
  rw [List.length_take, List.length_drop]
  omega
theorem sliceS {lo hi : Option Int} (hq : Sl K p H W v xs) (h : ∀ q H', H q = none → Same H H' → ∀ us, H' q = some (.lst us) → AllR p W us (cutG xs lo hi) → (cutG xs lo hi).length ≤ LIM → Q (.ref q) H') : rSlL K v lo hi H Q := by
  obtain ⟨a, vs, rfl, hs, hr, hl⟩ := hq
  exact rSlL_i hs fun q H' n s e => h q H' n s _ e (hr.cut lo hi) (Nat.le_trans (cut_len xs lo hi) hl)
theorem listS (hq : Sq K p H W v xs) (h : ∀ q H', H q = none → Same H H' → ∀ us, H' q = some (.lst us) → AllR p W us xs → xs.length ≤ LIM → Q (.ref q) H') : rListOf K [v] H Q := by
  obtain ⟨a, vs, rfl, hs, hr, hl⟩ := hq
  rcases hs with z | z
  · exact rListOf_l z fun q H' n s e => h q H' n s _ e hr hl
  · exact rListOf_t z fun q H' n s e => h q H' n s _ e hr hl
theorem tupL (hq : Sl K p H W v xs) (h : ∀ q H', H q = none → Same H H' → ∀ us, H' q = some (.tup us) → AllR p W us xs → xs.length ≤ LIM → Q (.ref q) H') : rTupleOf K [v] H Q := by
  obtain ⟨a, vs, rfl, hs, hr, hl⟩ := hq
  exact rTupleOf_l hs fun q H' n s e => h q H' n s _ e hr hl
theorem sumS (ns : List Int) (hq : Sl K pInt H W v ns) (h : Q (.int ns.sum) H) : rSum K [v] H Q := by
  obtain ⟨a, vs, rfl, hs, hr, _⟩ := hq
  rw [hr.imm] at hs
  exact rSum_i ns hs h
theorem allS (bs : List Bool) (hq : Sl K pBl H W v bs) (h : Q (.bl (bs.all id)) H) : rAll K [v] H Q := by
  obtain ⟨a, vs, rfl, hs, hr, _⟩ := hq
  rw [hr.imm] at hs
  exact rAll_i bs hs h
theorem anyS (bs : List Bool) (hq : Sl K pBl H W v bs) (h : Q (.bl (bs.any id)) H) : rAny K [v] H Q := by
  obtain ⟨a, vs, rfl, hs, hr, _⟩ := hq
  rw [hr.imm] at hs
  exact ⟨a, bs, rfl, hs, h⟩
theorem inS {i : Int} {ns : List Int} {w : World} (hq : Sq K pInt H W v ns) (h : Q (.bl (decide (i ∈ ns))) H) : rInU K w false (.int i) v H Q := by
  obtain ⟨a, vs, rfl, hs, hr, _⟩ := hq
  rw [hr.imm] at hs
  exact .inl ⟨a, _, rfl, hs, rfl, flat_ints, by rw [inV_ints]; exact h⟩
theorem notInS {i : Int} {ns : List Int} {w : World} (hq : Sq K pInt H W v ns) (h : Q (.bl (decide (i ∉ ns))) H) : rInU K w true (.int i) v H Q := by
  obtain ⟨a, vs, rfl, hs, hr, _⟩ := hq
  rw [hr.imm] at hs
  exact .inl ⟨a, _, rfl, hs, rfl, flat_ints, by rw [inV_ints, ← decide_not]; exact h⟩
end
end EL

namespace EL
open PySem PySem.Spec PyProof.Rows L2 Px
/-! ### capture of what is wanted -/
section
variable {σ : L2.St} {H : Hp}
theorem capT {c : TT} {R : Bool → Hp → Prop} (M : Bool → Hp → Prop) (hR : ∀ b H', M b H' → R b H') (h : (∀ b H', M b H' → R b H') → c σ H R) : c σ H R := h hR
theorem capV {c : TE} {Q : VK} (M : V → Hp → Prop) (hR : ∀ v H', M v H' → Q v H') (h : (∀ v H', M v H' → Q v H') → c σ H Q) : c σ H Q := h hR
theorem Br_two {b : Bool} {A B A' B' : Prop} (hw : Br b A B) (h1 : b = true → A → A') (h2 : b = false → B → B') : Br b A' B' := by
  cases b
  · exact Br_f (h2 rfl (by simpa [Br] using hw))
  · exact Br_t (h1 rfl (by simpa [Br] using hw))
/-- both ways of a test meet -/
theorem andJ {b c : Bool} {A : Prop} {R : Bool → Hp → Prop} (h : R (b && c) H) (ha : b = true → R c H → A) : Br b A (R false H) := by
  cases b
  · exact Br_f h
  · exact Br_t (ha rfl h)
theorem orJ {b c : Bool} {A : Prop} {R : Bool → Hp → Prop} (h : R (b || c) H) (ha : b = false → R c H → A) : Br b (R true H) A := by
  cases b
  · exact Br_f (ha rfl h)
  · exact Br_t h
theorem andJV {b c : Bool} {A : Prop} {Q : VK} (h : Q (.bl (b && c)) H) (ha : b = true → Q (.bl c) H → A) : Br b A (Q (.bl false) H) := by
  cases b
  · exact Br_f h
  · exact Br_t (ha rfl h)
theorem orJV {b c : Bool} {A : Prop} {Q : VK} (h : Q (.bl (b || c)) H) (ha : b = false → Q (.bl c) H → A) : Br b (Q (.bl true) H) A := by
  cases b
  · exact Br_f (ha rfl h)
  · exact Br_t h
theorem ifJ {τ : Type} {f : τ → V} {b : Bool} {x y : τ} {A B : Prop} {Q : VK} (h : Q (f (cond b x y)) H) (ha : b = true → Q (f x) H → A) (hb : b = false → Q (f y) H → B) : Br b A B := by
  cases b
  · exact Br_f (hb rfl h)
  · exact Br_t (ha rfl h)
end
section
variable {σ : L2.St} {H : Hp}
theorem joinT {c : TT} {R : Bool → Hp → Prop} {f : (Bool → Prop) → Prop} {k : Bool → Prop} (hw : wJoin f k) (M : Hp → Prop) (hR : ∀ b H', M H' → k b → R b H') (h : f k → (∀ b H', M H' → k b → R b H') → c σ H R) : c σ H R := h hw hR
theorem joinV {τ : Type} {c : TE} {Q : VK} {f : (τ → Prop) → Prop} {k : τ → Prop} (hw : wJoin f k) (M : τ → V → Hp → Prop) (hR : ∀ d v H', M d v H' → k d → Q v H') (h : f k → (∀ d v H', M d v H' → k d → Q v H') → c σ H Q) : c σ H Q := h hw hR
/-! pure parts -/
theorem tAndP {b c : Bool} {c1 c2 : TT} {R : Bool → Hp → Prop} (h1 : ∀ R : Bool → Hp → Prop, R b H → c1 σ H R) (h2 : b = true → ∀ R : Bool → Hp → Prop, R c H → c2 σ H R) (h : R (b && c) H) : tAnd c1 c2 σ H R := by
  refine tAnd_i (h1 _ ?_)
  cases b
  · exact Br_f h
  · exact Br_t (h2 rfl _ h)
theorem tOrP {b c : Bool} {c1 c2 : TT} {R : Bool → Hp → Prop} (h1 : ∀ R : Bool → Hp → Prop, R b H → c1 σ H R) (h2 : b = false → ∀ R : Bool → Hp → Prop, R c H → c2 σ H R) (h : R (b || c) H) : tOr c1 c2 σ H R := by
  refine tOr_i (h1 _ ?_)
  cases b
  · exact Br_f (h2 rfl _ h)
  · exact Br_t h
theorem tAndVP {b c : Bool} {c1 c2 : TE} {Q : VK} (h1 : ∀ R : VK, R (.bl b) H → c1 σ H R) (h2 : b = true → ∀ R : VK, R (.bl c) H → c2 σ H R) (h : Q (.bl (b && c)) H) : tAndV c1 c2 σ H Q := by
  refine tAndV_i (h1 _ (IsBl_i ?_))
  cases b
  · exact Br_f h
  · exact Br_t (h2 rfl _ h)
theorem tOrVP {b c : Bool} {c1 c2 : TE} {Q : VK} (h1 : ∀ R : VK, R (.bl b) H → c1 σ H R) (h2 : b = false → ∀ R : VK, R (.bl c) H → c2 σ H R) (h : Q (.bl (b || c)) H) : tOrV c1 c2 σ H Q := by
  refine tOrV_i (h1 _ (IsBl_i ?_))
  cases b
  · exact Br_f (h2 rfl _ h)
  · exact Br_t h
theorem tIfP {τ : Type} {f : τ → V} {b : Bool} {x y : τ} {c : TT} {ta tb : TE} {Q : VK} (h0 : ∀ R : Bool → Hp → Prop, R b H → c σ H R) (h1 : b = true → ∀ R : VK, R (f x) H → ta σ H R) (h2 : b = false → ∀ R : VK, R (f y) H → tb σ H R) (h : Q (f (cond b x y)) H) : tIf c ta tb σ H Q := by
  refine tIf_i (h0 _ ?_)
  cases b
  · exact Br_f (h2 rfl _ h)
  · exact Br_t (h1 rfl _ h)
end
/-! ### names -/
section
variable {σ σ' : L2.St} {H W : Hp} {i : Nat} {v : V} {R : L2.St → Hp → Prop} {τ : Type} {p : PTy τ} {e : τ} {k : τ → Prop} {f : τ → V}
theorem gN (hs : σ.set i (some v) = σ') (h : R σ' H) : gName i v σ H R := by rw [← hs] at h; exact h
theorem asgI (hw : wLet e k) (h : ∀ x, k x → R (σ.set i (some (f x))) H) : gName i (f e) σ H R := h e hw
theorem asgR (hw : wLet e k) (hr : p.rep W v e) (h : ∀ x, p.rep W v x → k x → R (σ.set i (some v)) H) : gName i v σ H R := h e hr hw
theorem cutW {S : Type} {t u : TS} {N : L2.St → Hp → Prop} {Rt : VK} {Bk Ct : L2.St → Hp → Prop} {f : (S → Prop) → Prop} {k : S → Prop} (hw : wJoin f k) (RS : S → L2.St → Hp → Prop) (h1 : f k → t ⟨fun σ' H' => ∃ s, RS s σ' H' ∧ k s, Rt, Bk, Ct⟩ σ H) (h2 : ∀ s σ' H', RS s σ' H' → k s → u ⟨N, Rt, Bk, Ct⟩ σ' H') : tCut t u ⟨N, Rt, Bk, Ct⟩ σ H :=
  ⟨_, h1 hw, fun σ' H' ⟨s, hr, hk⟩ => h2 s σ' H' hr hk⟩
end
/-! ### for -/
section
variable {σ : L2.St} {H : Hp} {wi : TI} {g : TG} {tb : TS} {N : L2.St → Hp → Prop} {Rt : VK} {Bk Ct : L2.St → Hp → Prop} {J : It} {n : Nat} {ok : Hp → Prop} {itm : Nat → V → Hp → Hp → Prop} {α S : Type}
/-- what the turns of a for reach -/
def nxS (RS : S → L2.St → Hp → Prop) (nx : S → Prop) : L2.St → Hp → Prop := fun σ H => ∃ s, RS s σ H ∧ nx s
theorem forW (Sr : Src J n ok itm) {xs : List α} (hn : n = xs.length) {f : α → S → (S → Prop) → (S → Prop) → Prop} {k : S → Prop} {s0 : S} (hw : wFor xs s0 f k)
    (RS : S → L2.St → Hp → Prop) (I : α → V → Hp → Hp → Prop) (hI : ∀ i x H H' d, xs[i]? = some d → itm i x H H' → I d x H H') (h0 : RS s0 σ H) (hok : ∀ s σ H, RS s σ H → ok H)
    (hs : ∀ d s σ H x H' (nx : S → Prop), RS s σ H → I d x H H' → f d s nx k → g x σ H' fun σ2 H2 => tb ⟨nxS RS nx, Rt, N, nxS RS nx⟩ σ2 H2)
    (hd : ∀ s σ H, RS s σ H → k s → N σ H) : ForB g tb ⟨N, Rt, Bk, Ct⟩ σ J H := by
  refine ⟨fun i m σ H => m = n - i ∧ i ≤ n ∧ ∃ s, RS s σ H ∧ wFor (xs.drop i) s f k, ⟨n, by simp, Nat.zero_le _, s0, h0, by rw [List.drop_zero]; exact hw⟩, ?_⟩
  rintro i m σ H ⟨rfl, hi, s, hr, hw⟩
  have q := hok s σ H hr
  by_cases hlt : i < n
  · have hx : i < xs.length := by omega
    rw [List.drop_eq_getElem_cons hx] at hw
    refine .inr ⟨Sr.go i H q hlt, nxS RS fun s' => wFor (xs.drop (i + 1)) s' f k, fun σ' H' ⟨s', hr', hw'⟩ => ⟨n - (i + 1), by omega, rfl, hlt, s', hr', hw'⟩, fun x H' y => ?_⟩
    exact hs _ s σ H x H' _ hr (hI i x H H' _ (List.getElem?_eq_getElem hx) (Sr.yld i H x H' q hlt y)) hw
  · have e : xs.length ≤ i := by omega
    rw [List.drop_eq_nil_of_le e] at hw
    exact .inl ⟨Sr.stop i H q (by omega), hd s σ H hr hw⟩
end
section
variable {σ : L2.St} {H W : Hp} {g : TG} {tb : TS} {N : L2.St → Hp → Prop} {Rt : VK} {Bk Ct : L2.St → Hp → Prop} {α β S : Type} {K : PySem.W.Frag} {p : PTy α} {pb : PTy β} {te : TE} {f : α → S → (S → Prop) → (S → Prop) → Prop} {k : S → Prop} {s0 : S} {xs : List α} {a b : Addr} {vs us : List V}
/-- what an item of a list is: nothing is made -/
def ItS (p : PTy α) (W : Hp) : α → V → Hp → Hp → Prop := fun d x H H' => H' = H ∧ p.rep W x d
theorem itmS (hr : AllR p W vs xs) (i : Nat) (x : V) (H H' : Hp) (d : α) (e : xs[i]? = some d) (h : itmL vs i x H H') : ItS p W d x H H' := by
  obtain ⟨rfl, hx⟩ := h
  obtain ⟨u, hu, ru⟩ := hr.get e
  rw [hx] at hu
  cases hu
  exact ⟨rfl, ru⟩
/-- over a list: RS must keep the list as it stands -/
theorem forL (hw : wFor xs s0 f k) (hr : AllR p W vs xs) (RS : S → L2.St → Hp → Prop) (h0 : RS s0 σ H) (hok : ∀ s σ H, RS s σ H → SqL K H a vs)
    (hs : ∀ d s σ H x (nx : S → Prop), RS s σ H → p.rep W x d → f d s nx k → g x σ H fun σ2 H2 => tb ⟨nxS RS nx, Rt, N, nxS RS nx⟩ σ2 H2)
    (hd : ∀ s σ H, RS s σ H → k s → N σ H) : ForB g tb ⟨N, Rt, Bk, Ct⟩ σ (Itl K a) H :=
  forW (srcL (K := K) (a := a) (xs := vs)) hr.len hw RS (ItS p W) (itmS hr) h0 hok (fun d s σ H x H' nx r ⟨e, i⟩ h => by rw [e]; exact hs d s σ H x nx r i h) hd
theorem forT (hw : wFor xs s0 f k) (hr : AllR p W vs xs) (RS : S → L2.St → Hp → Prop) (h0 : RS s0 σ H) (hok : ∀ s σ H, RS s σ H → SqT K H a vs)
    (hs : ∀ d s σ H x (nx : S → Prop), RS s σ H → p.rep W x d → f d s nx k → g x σ H fun σ2 H2 => tb ⟨nxS RS nx, Rt, N, nxS RS nx⟩ σ2 H2)
    (hd : ∀ s σ H, RS s σ H → k s → N σ H) : ForB g tb ⟨N, Rt, Bk, Ct⟩ σ (Itt K a) H :=
  forW (srcT (K := K) (a := a) (xs := vs)) hr.len hw RS (ItS p W) (itmS hr) h0 hok (fun d s σ H x H' nx r ⟨e, i⟩ h => by rw [e]; exact hs d s σ H x nx r i h) hd
/-- over a list or a tuple -/
theorem forQ (hte : ∀ R : V → Hp → Prop, R (.ref a) H → te σ H R) (hq : SqA K H a vs) (hw : wFor xs s0 f k) (hr : AllR p W vs xs) (RS : S → L2.St → Hp → Prop) (h0 : RS s0 σ H) (hok : ∀ s σ H', RS s σ H' → Same W H')
    (hW : SqA K W a vs) (hs : ∀ d s σ H x (nx : S → Prop), RS s σ H → p.rep W x d → f d s nx k → g x σ H fun σ2 H2 => tb ⟨nxS RS nx, Rt, N, nxS RS nx⟩ σ2 H2)
    (hd : ∀ s σ H, RS s σ H → k s → N σ H) : tFor (iU K te) g tb ⟨N, Rt, Bk, Ct⟩ σ H := by
  refine tFor_i ?_
  rcases hW with z | z
  · refine .inl (hte _ (WL_i vs (hq.elim (fun z => z) fun z2 => ?_) (forL hw hr RS h0 (fun s σ H' r => (hok s σ H' r).seq z) hs hd)))
    exact (hok _ _ _ h0).seq z
  · refine .inr (hte _ (WT_i vs ((hok _ _ _ h0).seqT z) (forT hw hr RS h0 (fun s σ H' r => (hok s σ H' r).seqT z) hs hd)))
/-- over a range -/
theorem forR {lo hi : Int} {f : Int → S → (S → Prop) → (S → Prop) → Prop} (hw : wFor (rangeL lo hi) s0 f k) (RS : S → L2.St → Hp → Prop) (h0 : RS s0 σ H)
    (hs : ∀ d s σ H (nx : S → Prop), RS s σ H → f d s nx k → g (.int d) σ H fun σ2 H2 => tb ⟨nxS RS nx, Rt, N, nxS RS nx⟩ σ2 H2)
    (hd : ∀ s σ H, RS s σ H → k s → N σ H) : ForB g tb ⟨N, Rt, Bk, Ct⟩ σ (Itr lo (hi - lo).toNat) H := by
  refine forW srcR (rangeL_len (lo := lo) (hi := hi)).symm hw RS (fun d x H H' => H' = H ∧ x = .int d) (fun i x H H' d e h => ?_) h0 (fun _ _ _ _ => trivial) (fun d s σ H x H' nx r ⟨e, i⟩ h => by rw [e, i]; exact hs d s σ H nx r h) hd
  obtain ⟨rfl, rfl⟩ := h
  refine ⟨rfl, ?_⟩
  obtain ⟨hi, _⟩ := List.getElem?_eq_some_iff.mp e
  rw [rangeL_len] at hi
  rw [rangeL_get hi] at e
  cases e
  rfl
theorem forR0 {hi : Int} {f : Int → S → (S → Prop) → (S → Prop) → Prop} (hw : wFor (rangeL 0 hi) s0 f k) (RS : S → L2.St → Hp → Prop) (h0 : RS s0 σ H)
    (hs : ∀ d s σ H (nx : S → Prop), RS s σ H → f d s nx k → g (.int d) σ H fun σ2 H2 => tb ⟨nxS RS nx, Rt, N, nxS RS nx⟩ σ2 H2)
    (hd : ∀ s σ H, RS s σ H → k s → N σ H) : ForB g tb ⟨N, Rt, Bk, Ct⟩ σ (Itr 0 hi.toNat) H := by
  have := forR (Bk := Bk) (Ct := Ct) (lo := 0) (hi := hi) hw RS h0 hs hd
  rw [Int.sub_zero] at this
  exact this
/-- what a pair made by enumerate or zip is -/
def ItP (pa : PTy α) (pb : PTy β) (W : Hp) : α × β → V → Hp → Hp → Prop := fun d x H H' => ∃ q y z, x = .ref q ∧ H q = none ∧ Same H H' ∧ H' q = some (.tup [y, z]) ∧ pa.rep W y d.1 ∧ pb.rep W z d.2
theorem forE {f : Int × α → S → (S → Prop) → (S → Prop) → Prop} (hw : wFor (enumL xs) s0 f k) (hr : AllR p W vs xs) (RS : S → L2.St → Hp → Prop) (h0 : RS s0 σ H) (hok : ∀ s σ H, RS s σ H → SqL K H a vs)
    (hs : ∀ d s σ H x H' (nx : S → Prop), RS s σ H → ItP pInt p W d x H H' → f d s nx k → g x σ H' fun σ2 H2 => tb ⟨nxS RS nx, Rt, N, nxS RS nx⟩ σ2 H2)
    (hd : ∀ s σ H, RS s σ H → k s → N σ H) : ForB g tb ⟨N, Rt, Bk, Ct⟩ σ (Ite K a) H := by
  refine forW (srcE (K := K) (a := a) (xs := vs)) (by rw [enumL_len, hr.len]) hw RS (ItP pInt p W) (fun i x H H' d e h => ?_) h0 hok hs hd
  obtain ⟨q, y, rfl, n, s, e2, hy⟩ := h
  obtain ⟨d', hd', rd⟩ := hr.getV hy
  rw [enumL_get hd'] at e
  cases e
  exact ⟨q, _, y, rfl, n, s, e2, rfl, rd⟩
theorem forET {f : Int × α → S → (S → Prop) → (S → Prop) → Prop} (hw : wFor (enumL xs) s0 f k) (hr : AllR p W vs xs) (RS : S → L2.St → Hp → Prop) (h0 : RS s0 σ H) (hok : ∀ s σ H, RS s σ H → SqT K H a vs)
    (hs : ∀ d s σ H x H' (nx : S → Prop), RS s σ H → ItP pInt p W d x H H' → f d s nx k → g x σ H' fun σ2 H2 => tb ⟨nxS RS nx, Rt, N, nxS RS nx⟩ σ2 H2)
    (hd : ∀ s σ H, RS s σ H → k s → N σ H) : ForB g tb ⟨N, Rt, Bk, Ct⟩ σ (IteT K a) H := by
  refine forW (srcET (K := K) (a := a) (xs := vs)) (by rw [enumL_len, hr.len]) hw RS (ItP pInt p W) (fun i x H H' d e h => ?_) h0 hok hs hd
  obtain ⟨q, y, rfl, n, s, e2, hy⟩ := h
  obtain ⟨d', hd', rd⟩ := hr.getV hy
  rw [enumL_get hd'] at e
  cases e
  exact ⟨q, _, y, rfl, n, s, e2, rfl, rd⟩
theorem forZ {ys : List β} {f : α × β → S → (S → Prop) → (S → Prop) → Prop} (hw : wFor (xs.zip ys) s0 f k) (hr : AllR p W vs xs) (hr2 : AllR pb W us ys) (RS : S → L2.St → Hp → Prop) (h0 : RS s0 σ H) (hok : ∀ s σ H, RS s σ H → SqL K H a vs ∧ SqL K H b us)
    (hs : ∀ d s σ H x H' (nx : S → Prop), RS s σ H → ItP p pb W d x H H' → f d s nx k → g x σ H' fun σ2 H2 => tb ⟨nxS RS nx, Rt, N, nxS RS nx⟩ σ2 H2)
    (hd : ∀ s σ H, RS s σ H → k s → N σ H) : ForB g tb ⟨N, Rt, Bk, Ct⟩ σ (Itz K a b) H := by
  refine forW (srcZ (K := K) (a := a) (b := b) (xs := vs) (ys := us)) (by rw [List.length_zip, hr.len, hr2.len]) hw RS (ItP p pb W) (fun i x H H' d e h => ?_) h0 hok hs hd
  obtain ⟨q, y, z, rfl, n, s, e2, hy, hz⟩ := h
  obtain ⟨d1, hd1, rd1⟩ := hr.getV hy
  obtain ⟨d2, hd2, rd2⟩ := hr2.getV hz
  rw [Px.zip_get hd1 hd2] at e
  cases e
  exact ⟨q, y, z, rfl, n, s, e2, rd1, rd2⟩
end
/-! ### while -/
theorem whileW {S : Type} {σ : L2.St} {H : Hp} {N : L2.St → Hp → Prop} {Rt : VK} {Bk Ct : L2.St → Hp → Prop} {c : TT} {t : TS} {s0 : S} {f : S → (S → Prop) → (S → Prop) → Prop} {k : S → Prop} (hw : wWhile s0 f k) (RS : S → L2.St → Hp → Prop) (h0 : RS s0 σ H)
    (hs : ∀ s σ H (nx : S → Prop) (WB : L2.St → Hp → Prop), RS s σ H → f s nx k → (∀ σ H, t ⟨nxS RS nx, Rt, N, nxS RS nx⟩ σ H → WB σ H) → c σ H fun b H1 => Br b (WB σ H1) (N σ H1)) : tWhile c t ⟨N, Rt, Bk, Ct⟩ σ H := by
  obtain ⟨W, ⟨m, w⟩, hw⟩ := hw
  refine ⟨fun m σ H => ∃ s, RS s σ H ∧ W m s, ⟨m, s0, h0, w⟩, ?_⟩
  rintro m σ H ⟨s, hr, w⟩
  refine hs s σ H _ (fun σ H1 => ∃ N1 : L2.St → Hp → Prop, (∀ σ' H', N1 σ' H' → ∃ m', m' < m ∧ ∃ s, RS s σ' H' ∧ W m' s) ∧ t ⟨N1, Rt, N, N1⟩ σ H1) hr (hw m s w) (fun σ H1 h => ⟨_, ?_, h⟩)
  rintro σ' H' ⟨s', hr', m', hm, w'⟩
  exact ⟨m', hm, s', hr', w'⟩
/-! ### comprehensions -/
section
variable {σ : L2.St} {H W : Hp} {g : TG} {tt : TT} {te : TE} {vs : List Nat} {Q : VK} {J : It} {n : Nat} {ok : Hp → Prop} {itm : Nat → V → Hp → Hp → Prop} {α β : Type} {pb : PTy β} {ps : List Addr}
/-- the state between the turns: zs are made, the rest is asked -/
def LcR (pb : PTy β) (H0 : Hp) (ps : List Addr) (L : Addr) (zs : List β) (H1 : Hp) : Prop := Same H0 H1 ∧ ∃ acc, H1 L = some (.lst acc) ∧ AllR pb (dels H1 (L :: ps)) acc zs
theorem lcW (Sr : Src J n ok itm) {xs : List α} (hn : n = xs.length) (hlim : n ≤ LIM) {f : α → (Option β → Prop) → Prop} {k : List β → Prop} (hw : wComp xs f k) (hps : ∀ q ∈ ps, H q ≠ none)
    (I : α → V → Hp → Hp → Prop) (hI : ∀ i x H H' d, xs[i]? = some d → itm i x H H' → I d x H H') (hok : ∀ H', Same H H' → ok H')
    (hs : ∀ L d x H1 H2 (nx : Option β → Prop), H L = none → Same H H1 → (∃ acc, H1 L = some (.lst acc)) → I d x H1 H2 → f d nx →
      ∀ (Y : V → Hp → Prop) (N : Hp → Prop), (∀ r v H3, Same H1 H3 → pb.rep (dels H3 (L :: ps)) v r → nx (some r) → Y v H3) → (∀ H3, Same H1 H3 → nx none → N H3) →
      g x (wipe σ vs) H2 fun σ2 H2 => wipe σ2 vs = wipe σ vs ∧ tt σ2 H2 fun b H3 => Br b (te σ2 H3 Y) (N H3))
    (hd : ∀ L H1 acc zs, H L = none → Same H H1 → H1 L = some (.lst acc) → AllR pb (dels H1 (L :: ps)) acc zs → zs.length ≤ LIM → k zs → Q (.ref L) H1) : LcB g tt te vs σ Q J H := by
  intro L hL
  have hLps : L ∉ ps := fun z => hps L z hL
  refine ⟨fun i m H1 => m = n - i ∧ i ≤ n ∧ ∃ zs : List β, zs.length ≤ i ∧ LcR pb H ps L zs H1 ∧ wComp (xs.drop i) f (fun ys => k (zs ++ ys)), ⟨n, by simp, Nat.zero_le _, [], Nat.le_refl _, ⟨Same.new hL, [], upd_same, .nil⟩, by rw [List.drop_zero]; exact hw⟩, ?_⟩
  rintro i m H1 ⟨rfl, hi, zs, hz, ⟨s1, acc, e1, r1⟩, hw⟩
  have q := hok H1 s1
  by_cases hlt : i < n
  · have hx : i < xs.length := by omega
    rw [List.drop_eq_getElem_cons hx] at hw
    refine .inr ⟨Sr.go i H1 q hlt, fun H3 => ∃ zs : List β, zs.length ≤ i + 1 ∧ LcR pb H ps L zs H3 ∧ wComp (xs.drop (i + 1)) f (fun ys => k (zs ++ ys)), fun H3 h3 => ⟨n - (i + 1), by omega, rfl, hlt, h3⟩, fun x H2 y => ?_⟩
    refine hs L _ x H1 H2 _ hL s1 ⟨acc, e1⟩ (hI i x H1 H2 _ (List.getElem?_eq_getElem hx) (Sr.yld i H1 x H2 q hlt y)) hw _ _ (fun r v H3 s3 hr h => ?_) (fun H3 s3 h => ?_)
    · have e3 := s3 _ _ e1
      refine ⟨acc, e3, Nat.lt_of_lt_of_le (by rw [r1.len]; omega) hlim, zs ++ [r], by rw [List.length_append, List.length_singleton]; omega, ⟨?_, acc ++ [v], upd_same, ?_⟩, ?_⟩
      · exact Same.upd (s1.trans s3) hL
      · have ee : dels (L2.upd H3 L (.lst (acc ++ [v]))) (L :: ps) = dels H3 (L :: ps) := dels_ext fun b hb => upd_ne fun e => hb (by rw [e]; exact List.mem_cons_self ..)
        rw [ee]
        exact (r1.mono (Sd _ s3)).app (.one hr)
      · simpa [List.append_assoc] using h
    · have e3 := s3 _ _ e1
      refine ⟨zs, by omega, ⟨s1.trans s3, acc, e3, r1.mono (Sd _ s3)⟩, ?_⟩
      simpa using h
  · have e : xs.length ≤ i := by omega
    rw [List.drop_eq_nil_of_le e] at hw
    refine .inl ⟨Sr.stop i H1 q (by omega), hd L H1 acc zs hL s1 e1 r1 (by omega) ?_⟩
    have hw' : k (zs ++ []) := hw
    rwa [List.append_nil] at hw'
end
section
variable {σ : L2.St} {H W : Hp} {g : TG} {tt : TT} {te : TE} {vs : List Nat} {Q : VK} {α β γ : Type} {pb : PTy β} {p : PTy α} {pc : PTy γ} {ps : List Addr} {K : PySem.W.Frag} {xs : List α} {a b : Addr} {us ws : List V}
  {f : α → (Option β → Prop) → Prop} {k : List β → Prop}
/-- a turn of a comprehension whose items are made by nothing -/
def LcT (pb : PTy β) (H : Hp) (ps : List Addr) (g : TG) (tt : TT) (te : TE) (vs : List Nat) (σ : L2.St) (f : (Option β → Prop) → Prop) (L : Addr) (x : V) (H1 H2 : Hp) : Prop :=
  ∀ (nx : Option β → Prop), f nx → ∀ (Y : V → Hp → Prop) (N : Hp → Prop), (∀ r v H3, Same H1 H3 → pb.rep (dels H3 (L :: ps)) v r → nx (some r) → Y v H3) → (∀ H3, Same H1 H3 → nx none → N H3) →
      g x (wipe σ vs) H2 fun σ2 H2 => wipe σ2 vs = wipe σ vs ∧ tt σ2 H2 fun b H3 => Br b (te σ2 H3 Y) (N H3)
def LcD (pb : PTy β) (H : Hp) (ps : List Addr) (Q : VK) (k : List β → Prop) : Prop := ∀ L H1 acc zs, H L = none → Same H H1 → H1 L = some (.lst acc) → AllR pb (dels H1 (L :: ps)) acc zs → zs.length ≤ LIM → k zs → Q (.ref L) H1
theorem lcL (hw : wComp xs f k) (hq : SqL K H a us) (hr : AllR p W us xs) (hl : xs.length ≤ LIM) (hps : ∀ q ∈ ps, H q ≠ none)
    (hs : ∀ L d x H1, H L = none → Same H H1 → (∃ acc, H1 L = some (.lst acc)) → p.rep W x d → LcT pb H ps g tt te vs σ (f d) L x H1 H1) (hd : LcD pb H ps Q k) : LcB g tt te vs σ Q (Itl K a) H :=
  lcW (srcL (K := K) (a := a) (xs := us)) hr.len (by rw [hr.len]; exact hl) hw hps (ItS p W) (itmS hr) (fun H' s => s.seq hq) (fun L d x H1 H2 nx n s e ⟨e2, i⟩ h => by rw [e2]; exact hs L d x H1 n s e i nx h) hd
theorem lcT (hw : wComp xs f k) (hq : SqT K H a us) (hr : AllR p W us xs) (hl : xs.length ≤ LIM) (hps : ∀ q ∈ ps, H q ≠ none)
    (hs : ∀ L d x H1, H L = none → Same H H1 → (∃ acc, H1 L = some (.lst acc)) → p.rep W x d → LcT pb H ps g tt te vs σ (f d) L x H1 H1) (hd : LcD pb H ps Q k) : LcB g tt te vs σ Q (Itt K a) H :=
  lcW (srcT (K := K) (a := a) (xs := us)) hr.len (by rw [hr.len]; exact hl) hw hps (ItS p W) (itmS hr) (fun H' s => s.seqT hq) (fun L d x H1 H2 nx n s e ⟨e2, i⟩ h => by rw [e2]; exact hs L d x H1 n s e i nx h) hd
theorem lcQ (hte : ∀ R : V → Hp → Prop, R (.ref a) H → te σ H R) {te2 : TE} (hw : wComp xs f k) (hq : SqA K H a us) (hr : AllR p W us xs) (hl : xs.length ≤ LIM) (hps : ∀ q ∈ ps, H q ≠ none)
    (hs : ∀ L d x H1, H L = none → Same H H1 → (∃ acc, H1 L = some (.lst acc)) → p.rep W x d → LcT pb H ps g tt te2 vs σ (f d) L x H1 H1) (hd : LcD pb H ps Q k) : tLc (iU K te) g tt te2 vs σ H Q := by
  refine tLc_i ?_
  rcases hq with z | z
  · exact .inl (hte _ (WL_i us z (lcL hw z hr hl hps hs hd)))
  · exact .inr (hte _ (WT_i us z (lcT hw z hr hl hps hs hd)))
theorem lcR {lo hi : Int} {f : Int → (Option β → Prop) → Prop} (hw : wComp (rangeL lo hi) f k) (hl : (hi - lo).toNat ≤ LIM) (hps : ∀ q ∈ ps, H q ≠ none)
    (hs : ∀ L d H1, H L = none → Same H H1 → (∃ acc, H1 L = some (.lst acc)) → LcT pb H ps g tt te vs σ (f d) L (.int d) H1 H1) (hd : LcD pb H ps Q k) : LcB g tt te vs σ Q (Itr lo (hi - lo).toNat) H := by
  refine lcW srcR (rangeL_len (lo := lo) (hi := hi)).symm hl hw hps (fun d x H H' => H' = H ∧ x = .int d) (fun i x H H' d e h => ?_) (fun _ _ => trivial) (fun L d x H1 H2 nx n s e ⟨e2, i⟩ h => by rw [e2, i]; exact hs L d H1 n s e nx h) hd
  obtain ⟨rfl, rfl⟩ := h
  refine ⟨rfl, ?_⟩
  obtain ⟨hi, _⟩ := List.getElem?_eq_some_iff.mp e
  rw [rangeL_len] at hi
  rw [rangeL_get hi] at e
  cases e
  rfl
theorem lcR0 {hi : Int} {f : Int → (Option β → Prop) → Prop} (hw : wComp (rangeL 0 hi) f k) (hl : hi.toNat ≤ LIM) (hps : ∀ q ∈ ps, H q ≠ none)
    (hs : ∀ L d H1, H L = none → Same H H1 → (∃ acc, H1 L = some (.lst acc)) → LcT pb H ps g tt te vs σ (f d) L (.int d) H1 H1) (hd : LcD pb H ps Q k) : LcB g tt te vs σ Q (Itr 0 hi.toNat) H := by
  have := lcR (lo := 0) (hi := hi) hw (by rw [Int.sub_zero]; exact hl) hps hs hd
  rw [Int.sub_zero] at this
  exact this
theorem lcE {f : Int × α → (Option β → Prop) → Prop} (hw : wComp (enumL xs) f k) (hq : SqL K H a us) (hr : AllR p W us xs) (hl : xs.length ≤ LIM) (hps : ∀ q ∈ ps, H q ≠ none)
    (hs : ∀ L d x H1 H2, H L = none → Same H H1 → (∃ acc, H1 L = some (.lst acc)) → ItP pInt p W d x H1 H2 → LcT pb H ps g tt te vs σ (f d) L x H1 H2) (hd : LcD pb H ps Q k) : LcB g tt te vs σ Q (Ite K a) H := by
  refine lcW (srcE (K := K) (a := a) (xs := us)) (by rw [enumL_len, hr.len]) (by rw [hr.len]; exact hl) hw hps (ItP pInt p W) (fun i x H H' d e h => ?_) (fun H' s => s.seq hq) (fun L d x H1 H2 nx n s e i h => hs L d x H1 H2 n s e i nx h) hd
  obtain ⟨q, y, rfl, n, s, e2, hy⟩ := h
  obtain ⟨d', hd', rd⟩ := hr.getV hy
  rw [enumL_get hd'] at e
  cases e
  exact ⟨q, _, y, rfl, n, s, e2, rfl, rd⟩
theorem lcET {f : Int × α → (Option β → Prop) → Prop} (hw : wComp (enumL xs) f k) (hq : SqT K H a us) (hr : AllR p W us xs) (hl : xs.length ≤ LIM) (hps : ∀ q ∈ ps, H q ≠ none)
    (hs : ∀ L d x H1 H2, H L = none → Same H H1 → (∃ acc, H1 L = some (.lst acc)) → ItP pInt p W d x H1 H2 → LcT pb H ps g tt te vs σ (f d) L x H1 H2) (hd : LcD pb H ps Q k) : LcB g tt te vs σ Q (IteT K a) H := by
  refine lcW (srcET (K := K) (a := a) (xs := us)) (by rw [enumL_len, hr.len]) (by rw [hr.len]; exact hl) hw hps (ItP pInt p W) (fun i x H H' d e h => ?_) (fun H' s => s.seqT hq) (fun L d x H1 H2 nx n s e i h => hs L d x H1 H2 n s e i nx h) hd
  obtain ⟨q, y, rfl, n, s, e2, hy⟩ := h
  obtain ⟨d', hd', rd⟩ := hr.getV hy
  rw [enumL_get hd'] at e
  cases e
  exact ⟨q, _, y, rfl, n, s, e2, rfl, rd⟩
theorem lcZ {ys : List γ} {f : α × γ → (Option β → Prop) → Prop} (hw : wComp (xs.zip ys) f k) (hq : SqL K H a us) (hq2 : SqL K H b ws) (hr : AllR p W us xs) (hr2 : AllR pc W ws ys) (hl : xs.length ≤ LIM) (hps : ∀ q ∈ ps, H q ≠ none)
    (hs : ∀ L d x H1 H2, H L = none → Same H H1 → (∃ acc, H1 L = some (.lst acc)) → ItP p pc W d x H1 H2 → LcT pb H ps g tt te vs σ (f d) L x H1 H2) (hd : LcD pb H ps Q k) : LcB g tt te vs σ Q (Itz K a b) H := by
  refine lcW (srcZ (K := K) (a := a) (b := b) (xs := us) (ys := ws)) (by rw [List.length_zip, hr.len, hr2.len]) (by rw [hr.len]; omega) hw hps (ItP p pc W) (fun i x H H' d e h => ?_) (fun H' s => ⟨s.seq hq, s.seq hq2⟩) (fun L d x H1 H2 nx n s e i h => hs L d x H1 H2 n s e i nx h) hd
  obtain ⟨q, y, z, rfl, n, s, e2, hy, hz⟩ := h
  obtain ⟨d1, hd1, rd1⟩ := hr.getV hy
  obtain ⟨d2, hd2, rd2⟩ := hr2.getV hz
  rw [Px.zip_get hd1 hd2] at e
  cases e
  exact ⟨q, y, z, rfl, n, s, e2, rd1, rd2⟩
end
/-! two clauses -/
section
variable {σ : L2.St} {H W : Hp} {wi1 : TI} {g g1 : TG} {tt tt1 : TT} {te : TE} {vs vs1 : List Nat} {Q : VK} {J J1 : It} {n n1 : Nat} {ok ok1 : Hp → Prop} {itm itm1 : Nat → V → Hp → Hp → Prop} {α β γ : Type} {pb : PTy β} {p : PTy α} {pc : PTy γ} {ps : List Addr} {K : PySem.W.Frag} {xs : List α} {a b : Addr} {us ws : List V}
  {k : List β → Prop}
theorem LcR.up {H0 H1 H2 : Hp} {L : Addr} {zs : List β} (s : Same H1 H2) (h : LcR pb H0 ps L zs H1) : LcR pb H0 ps L zs H2 := let ⟨s1, acc, e, r⟩ := h; ⟨s1.trans s, acc, s _ _ e, r.mono (Sd _ s)⟩
/-- a turn of the outer clause -/
def LcT2 (pb : PTy β) (H : Hp) (ps : List Addr) (wi1 : TI) (g g1 : TG) (tt tt1 : TT) (te : TE) (vs vs1 : List Nat) (σ : L2.St) (f : List β → (List β → Prop) → Prop) (L : Addr) (x : V) (H1 H2 : Hp) : Prop :=
  ∀ (zs : List β) (nx : List β → Prop), LcR pb H ps L zs H1 → zs.length ≤ LIM → f zs nx → ∀ (N : Hp → Prop), (∀ zs' H3, LcR pb H ps L zs' H3 → zs'.length ≤ LIM → nx zs' → N H3) →
      g x (wipe σ vs) H2 fun σ2 H2 => wipe σ2 vs = wipe σ vs ∧ tt σ2 H2 fun b H3 => Br b (wi1 σ2 H3 (LcIn L N g1 tt1 te vs1 σ2)) (N H3)
theorem lc2W (Sr : Src J n ok itm) {xs : List α} (hn : n = xs.length) {f : α → List β → (List β → Prop) → Prop} {k : List β → Prop} (hw : wComp2 xs f [] k) (hps : ∀ q ∈ ps, H q ≠ none)
    (I : α → V → Hp → Hp → Prop) (hI : ∀ i x H H' d, xs[i]? = some d → itm i x H H' → I d x H H') (hok : ∀ H', Same H H' → ok H')
    (hs : ∀ L d x H1 H2, H L = none → Same H H1 → I d x H1 H2 → LcT2 pb H ps wi1 g g1 tt tt1 te vs vs1 σ (f d) L x H1 H2) (hd : LcD pb H ps Q k) : LcB2 g tt wi1 g1 tt1 te vs vs1 σ Q J H := by
  intro L hL
  refine ⟨fun i m H1 => m = n - i ∧ i ≤ n ∧ ∃ zs : List β, zs.length ≤ LIM ∧ LcR pb H ps L zs H1 ∧ wComp2 (xs.drop i) f zs k, ⟨n, by simp, Nat.zero_le _, [], Nat.zero_le _, ⟨Same.new hL, [], upd_same, .nil⟩, by rw [List.drop_zero]; exact hw⟩, ?_⟩
  rintro i m H1 ⟨rfl, hi, zs, hz, r, hw⟩
  have q := hok H1 r.1
  by_cases hlt : i < n
  · have hx : i < xs.length := by omega
    rw [List.drop_eq_getElem_cons hx] at hw
    refine .inr ⟨Sr.go i H1 q hlt, fun H3 => ∃ zs : List β, zs.length ≤ LIM ∧ LcR pb H ps L zs H3 ∧ wComp2 (xs.drop (i + 1)) f zs k, fun H3 h3 => ⟨n - (i + 1), by omega, rfl, hlt, h3⟩, fun x H2 y => ?_⟩
    exact hs L _ x H1 H2 hL r.1 (hI i x H1 H2 _ (List.getElem?_eq_getElem hx) (Sr.yld i H1 x H2 q hlt y)) zs _ r hz hw _ (fun zs' H3 r3 l3 h => ⟨zs', l3, r3, h⟩)
  · have e : xs.length ≤ i := by omega
    rw [List.drop_eq_nil_of_le e] at hw
    obtain ⟨s1, acc, e1, r1⟩ := r
    exact .inl ⟨Sr.stop i H1 q (by omega), hd L H1 acc zs hL s1 e1 r1 hz hw⟩
theorem lcInW (Sr : Src J1 n1 ok1 itm1) {H4 : Hp} {L : Addr} {N : Hp → Prop} {ys : List γ} (hn : n1 = ys.length) {f : γ → (Option β → Prop) → Prop} {zs : List β} (hw : wCompA ys f zs k) (hL : H L = none)
    (h0 : LcR pb H ps L zs H4) (hz : zs.length ≤ LIM) (I : γ → V → Hp → Hp → Prop) (hI : ∀ i x H H' d, ys[i]? = some d → itm1 i x H H' → I d x H H') (hok : ∀ H', Same (dels H4 (L :: ps)) H' → ok1 H')
    (hs : ∀ d x H1 H2, Same (dels H4 (L :: ps)) (dels H1 (L :: ps)) → Same H H1 → (∃ acc, H1 L = some (.lst acc)) → I d x H1 H2 → LcT pb H ps g1 tt1 te vs1 σ (f d) L x H1 H2)
    (hd : ∀ zs' H3, LcR pb H ps L zs' H3 → zs'.length ≤ LIM → k zs' → N H3) : LcIn L N g1 tt1 te vs1 σ J1 H4 := by
  refine ⟨fun i m H1 => m = n1 - i ∧ i ≤ n1 ∧ ∃ zs : List β, zs.length ≤ LIM ∧ LcR pb H ps L zs H1 ∧ Same (dels H4 (L :: ps)) (dels H1 (L :: ps)) ∧ wCompA (ys.drop i) f zs k, ⟨n1, by simp, Nat.zero_le _, zs, hz, h0, Same.refl _, by rw [List.drop_zero]; exact hw⟩, ?_⟩
  rintro i m H1 ⟨rfl, hi, zs, hz, ⟨s1, acc, e1, r1⟩, sw, hw⟩
  have q := hok H1 (sw.trans Su)
  by_cases hlt : i < n1
  · have hx : i < ys.length := by omega
    rw [List.drop_eq_getElem_cons hx] at hw
    refine .inr ⟨Sr.go i H1 q hlt, fun H3 => ∃ zs : List β, zs.length ≤ LIM ∧ LcR pb H ps L zs H3 ∧ Same (dels H4 (L :: ps)) (dels H3 (L :: ps)) ∧ wCompA (ys.drop (i + 1)) f zs k, fun H3 h3 => ⟨n1 - (i + 1), by omega, rfl, hlt, h3⟩, fun x H2 y => ?_⟩
    refine hs _ x H1 H2 sw s1 ⟨acc, e1⟩ (hI i x H1 H2 _ (List.getElem?_eq_getElem hx) (Sr.yld i H1 x H2 q hlt y)) _ hw _ _ (fun r v H3 s3 hr h => ?_) (fun H3 s3 h => ?_)
    · have e3 := s3 _ _ e1
      have hb : zs.length + 1 ≤ LIM := h.1
      have ee : dels (L2.upd H3 L (.lst (acc ++ [v]))) (L :: ps) = dels H3 (L :: ps) := dels_ext fun b hb => upd_ne fun e => hb (by rw [e]; exact List.mem_cons_self ..)
      refine ⟨acc, e3, by rw [r1.len]; exact hb, zs ++ [r], by rw [List.length_append, List.length_singleton]; exact hb, ⟨Same.upd (s1.trans s3) hL, acc ++ [v], upd_same, ?_⟩, ?_, h.2⟩
      · rw [ee]
        exact (r1.mono (Sd _ s3)).app (.one hr)
      · rw [ee]
        exact sw.trans (Sd _ s3)
    · have e3 := s3 _ _ e1
      refine ⟨zs, hz, ⟨s1.trans s3, acc, e3, r1.mono (Sd _ s3)⟩, sw.trans (Sd _ s3), ?_⟩
      have := h.2
      simpa using this
  · have e : ys.length ≤ i := by omega
    rw [List.drop_eq_nil_of_le e] at hw
    exact .inl ⟨Sr.stop i H1 q (by omega), hd zs H1 ⟨s1, acc, e1, r1⟩ hz hw⟩
theorem lc2L {f : α → List β → (List β → Prop) → Prop} (hw : wComp2 xs f [] k) (hq : SqL K H a us) (hr : AllR p W us xs) (hps : ∀ q ∈ ps, H q ≠ none)
    (hs : ∀ L d x H1, H L = none → Same H H1 → p.rep W x d → LcT2 pb H ps wi1 g g1 tt tt1 te vs vs1 σ (f d) L x H1 H1) (hd : LcD pb H ps Q k) : LcB2 g tt wi1 g1 tt1 te vs vs1 σ Q (Itl K a) H :=
  lc2W (srcL (K := K) (a := a) (xs := us)) hr.len hw hps (ItS p W) (itmS hr) (fun H' s => s.seq hq) (fun L d x H1 H2 n s ⟨e2, i⟩ => by rw [e2]; exact hs L d x H1 n s i) hd
theorem lc2T {f : α → List β → (List β → Prop) → Prop} (hw : wComp2 xs f [] k) (hq : SqT K H a us) (hr : AllR p W us xs) (hps : ∀ q ∈ ps, H q ≠ none)
    (hs : ∀ L d x H1, H L = none → Same H H1 → p.rep W x d → LcT2 pb H ps wi1 g g1 tt tt1 te vs vs1 σ (f d) L x H1 H1) (hd : LcD pb H ps Q k) : LcB2 g tt wi1 g1 tt1 te vs vs1 σ Q (Itt K a) H :=
  lc2W (srcT (K := K) (a := a) (xs := us)) hr.len hw hps (ItS p W) (itmS hr) (fun H' s => s.seqT hq) (fun L d x H1 H2 n s ⟨e2, i⟩ => by rw [e2]; exact hs L d x H1 n s i) hd
theorem lc2R {lo hi : Int} {f : Int → List β → (List β → Prop) → Prop} (hw : wComp2 (rangeL lo hi) f [] k) (hps : ∀ q ∈ ps, H q ≠ none)
    (hs : ∀ L d H1, H L = none → Same H H1 → LcT2 pb H ps wi1 g g1 tt tt1 te vs vs1 σ (f d) L (.int d) H1 H1) (hd : LcD pb H ps Q k) : LcB2 g tt wi1 g1 tt1 te vs vs1 σ Q (Itr lo (hi - lo).toNat) H := by
  refine lc2W srcR (rangeL_len (lo := lo) (hi := hi)).symm hw hps (fun d x H H' => H' = H ∧ x = .int d) (fun i x H H' d e h => ?_) (fun _ _ => trivial) (fun L d x H1 H2 n s ⟨e2, i⟩ => by rw [e2, i]; exact hs L d H1 n s) hd
  obtain ⟨rfl, rfl⟩ := h
  refine ⟨rfl, ?_⟩
  obtain ⟨hi, _⟩ := List.getElem?_eq_some_iff.mp e
  rw [rangeL_len] at hi
  rw [rangeL_get hi] at e
  cases e
  rfl
theorem lc2R0 {hi : Int} {f : Int → List β → (List β → Prop) → Prop} (hw : wComp2 (rangeL 0 hi) f [] k) (hps : ∀ q ∈ ps, H q ≠ none)
    (hs : ∀ L d H1, H L = none → Same H H1 → LcT2 pb H ps wi1 g g1 tt tt1 te vs vs1 σ (f d) L (.int d) H1 H1) (hd : LcD pb H ps Q k) : LcB2 g tt wi1 g1 tt1 te vs vs1 σ Q (Itr 0 hi.toNat) H := by
  have := lc2R (lo := 0) (hi := hi) hw hps hs hd
  rw [Int.sub_zero] at this
  exact this
theorem lcInL {ys : List γ} {f : γ → (Option β → Prop) → Prop} {H4 : Hp} {L : Addr} {N : Hp → Prop} {zs : List β} (hw : wCompA ys f zs k) (hL : H L = none) (h0 : LcR pb H ps L zs H4) (hz : zs.length ≤ LIM)
    (hq : SqL K (dels H4 (L :: ps)) a us) (hr : AllR pc W us ys)
    (hs : ∀ d x H1, Same (dels H4 (L :: ps)) (dels H1 (L :: ps)) → Same H H1 → (∃ acc, H1 L = some (.lst acc)) → pc.rep W x d → LcT pb H ps g1 tt1 te vs1 σ (f d) L x H1 H1)
    (hd : ∀ zs' H3, LcR pb H ps L zs' H3 → zs'.length ≤ LIM → k zs' → N H3) : LcIn L N g1 tt1 te vs1 σ (Itl K a) H4 :=
  lcInW (srcL (K := K) (a := a) (xs := us)) hr.len hw hL h0 hz (ItS pc W) (itmS hr) (fun H' s => s.seq hq) (fun d x H1 H2 s1 s2 e ⟨e2, i⟩ => by rw [e2]; exact hs d x H1 s1 s2 e i) hd
theorem lcInT {ys : List γ} {f : γ → (Option β → Prop) → Prop} {H4 : Hp} {L : Addr} {N : Hp → Prop} {zs : List β} (hw : wCompA ys f zs k) (hL : H L = none) (h0 : LcR pb H ps L zs H4) (hz : zs.length ≤ LIM)
    (hq : SqT K (dels H4 (L :: ps)) a us) (hr : AllR pc W us ys)
    (hs : ∀ d x H1, Same (dels H4 (L :: ps)) (dels H1 (L :: ps)) → Same H H1 → (∃ acc, H1 L = some (.lst acc)) → pc.rep W x d → LcT pb H ps g1 tt1 te vs1 σ (f d) L x H1 H1)
    (hd : ∀ zs' H3, LcR pb H ps L zs' H3 → zs'.length ≤ LIM → k zs' → N H3) : LcIn L N g1 tt1 te vs1 σ (Itt K a) H4 :=
  lcInW (srcT (K := K) (a := a) (xs := us)) hr.len hw hL h0 hz (ItS pc W) (itmS hr) (fun H' s => s.seqT hq) (fun d x H1 H2 s1 s2 e ⟨e2, i⟩ => by rw [e2]; exact hs d x H1 s1 s2 e i) hd
theorem lcInR {lo hi : Int} {f : Int → (Option β → Prop) → Prop} {H4 : Hp} {L : Addr} {N : Hp → Prop} {zs : List β} (hw : wCompA (rangeL lo hi) f zs k) (hL : H L = none) (h0 : LcR pb H ps L zs H4) (hz : zs.length ≤ LIM)
    (hs : ∀ d H1, Same (dels H4 (L :: ps)) (dels H1 (L :: ps)) → Same H H1 → (∃ acc, H1 L = some (.lst acc)) → LcT pb H ps g1 tt1 te vs1 σ (f d) L (.int d) H1 H1)
    (hd : ∀ zs' H3, LcR pb H ps L zs' H3 → zs'.length ≤ LIM → k zs' → N H3) : LcIn L N g1 tt1 te vs1 σ (Itr lo (hi - lo).toNat) H4 := by
  refine lcInW srcR (rangeL_len (lo := lo) (hi := hi)).symm hw hL h0 hz (fun d x H H' => H' = H ∧ x = .int d) (fun i x H H' d e h => ?_) (fun _ _ => trivial) (fun d x H1 H2 s1 s2 ea ⟨e2, i⟩ => by rw [e2, i]; exact hs d H1 s1 s2 ea) hd
  obtain ⟨rfl, rfl⟩ := h
  refine ⟨rfl, ?_⟩
  obtain ⟨hi, _⟩ := List.getElem?_eq_some_iff.mp e
  rw [rangeL_len] at hi
  rw [rangeL_get hi] at e
  cases e
  rfl
theorem lcInR0 {hi : Int} {f : Int → (Option β → Prop) → Prop} {H4 : Hp} {L : Addr} {N : Hp → Prop} {zs : List β} (hw : wCompA (rangeL 0 hi) f zs k) (hL : H L = none) (h0 : LcR pb H ps L zs H4) (hz : zs.length ≤ LIM)
    (hs : ∀ d H1, Same (dels H4 (L :: ps)) (dels H1 (L :: ps)) → Same H H1 → (∃ acc, H1 L = some (.lst acc)) → LcT pb H ps g1 tt1 te vs1 σ (f d) L (.int d) H1 H1)
    (hd : ∀ zs' H3, LcR pb H ps L zs' H3 → zs'.length ≤ LIM → k zs' → N H3) : LcIn L N g1 tt1 te vs1 σ (Itr 0 hi.toNat) H4 := by
  have := lcInR (lo := 0) (hi := hi) hw hL h0 hz hs hd
  rw [Int.sub_zero] at this
  exact this
end
end EL

namespace EL
open PySem PySem.Spec PyProof.Rows L2 Px
/-! ### own lists changed -/
section
variable {K : PySem.W.Frag} {α : Type} {p : PTy α} {H W : Hp} {q : Addr} {xs : List α} {vs : List V} {y : V} {d : α} {Q : VK}
theorem appO (e : H q = some (.lst vs)) (r : AllR p W vs xs) (hl : xs.length < LIM) (hy : p.rep W y d)
    (h : ∀ H', Off q H H' → ∀ us, H' q = some (.lst us) → AllR p W us (xs ++ [d]) → (xs ++ [d]).length ≤ LIM → Q .non H') : rAppend (.ref q) [y] H Q :=
  ⟨q, vs, y, rfl, rfl, e, by rw [r.len]; exact hl, h _ off_upd _ upd_same (r.app (.one hy)) (by rw [List.length_append, List.length_singleton]; exact hl)⟩
theorem ixN_lt {n : Nat} {i : Int} {j : Nat} (h : ixN n i = some j) : j < n := (ixN_seq h).2.1
theorem setG_len {i : Int} : (setG xs i d).length = xs.length := by
  unfold setG
  split
  · rw [List.length_set]
  · rfl
theorem setO [Inhabited α] {i : Int} {R : Hp → Prop} (e : H q = some (.lst vs)) (r : AllR p W vs xs) (hl : xs.length ≤ LIM) (hi : inB xs i) (hy : p.rep W y d)
    (h : ∀ H', Off q H H' → ∀ us, H' q = some (.lst us) → AllR p W us (setG xs i d) → (setG xs i d).length ≤ LIM → R H') : SubE rSetU (.ref q) (.int i) y H R := by
  obtain ⟨j, hj, _⟩ := inB_at hi
  refine .inl ⟨q, vs, i, j, rfl, rfl, e, by rw [r.len]; exact hj, h _ off_upd _ upd_same ?_ (by rw [setG_len]; exact hl)⟩
  unfold setG
  rw [hj]
  exact r.set hy j
theorem popO [Inhabited α] (e : H q = some (.lst vs)) (r : AllR p W vs xs) (hl : xs.length ≤ LIM) (hn : 0 < xs.length)
    (h : ∀ H' u, Off q H H' → p.rep W u (ixG xs (-1)) → ∀ us, H' q = some (.lst us) → AllR p W us xs.dropLast → xs.dropLast.length ≤ LIM → Q u H') : rPop (.ref q) [] H Q := by
  obtain ⟨j, hj, hx⟩ := inB_at (xs := xs) (i := -1) ⟨by omega, by omega⟩
  have hj2 : j = xs.length - 1 := by
    unfold ixN at hj
    rw [if_neg (by omega), if_pos (by omega)] at hj
    have := Option.some.inj hj
    omega
  obtain ⟨u, hu, ru⟩ := r.get hx
  refine ⟨q, vs, u, rfl, rfl, e, by rw [r.len, ← hj2]; exact hu, h _ u off_upd ru _ upd_same ?_ (by rw [List.length_dropLast]; omega)⟩
  rw [List.dropLast_eq_take, List.dropLast_eq_take, r.len]
  exact r.take _
theorem revO (e : H q = some (.lst vs)) (r : AllR p W vs xs) (hl : xs.length ≤ LIM)
    (h : ∀ H', Off q H H' → ∀ us, H' q = some (.lst us) → AllR p W us xs.reverse → xs.reverse.length ≤ LIM → Q .non H') : rReverse (.ref q) [] H Q :=
  ⟨q, vs, rfl, rfl, e, h _ off_upd _ upd_same r.rev (by rw [List.length_reverse]; exact hl)⟩
end
/-! ### by data: == -/
section
variable (K : PySem.W.Frag)
structure PDat {τ : Type} [DecidableEq τ] (p : PTy τ) where
  dat : τ → PyData
  n : Nat
  ok : τ → Prop
  dp : ∀ {H : Hp} {v : V} {d : τ}, p.rep H v d → Dp K H v (dat d)
  sh : ∀ {d : τ}, ok d → Sh n (dat d)
  inj : ∀ a b : τ, PyData.eqv (dat a) (dat b) = decide (a = b)
def datInt : PDat K pInt := ⟨.int, 0, fun _ => True, fun h => by cases h; exact .int _, fun _ => sh_int, fun a b => by
  show (a == b) = decide (a = b)
  rw [Bool.eq_iff_iff]
  simp⟩
def datBl : PDat K pBl := ⟨.bool, 0, fun _ => True, fun h => by cases h; exact .bl _, fun _ => sh_bool, fun a b => by cases a <;> cases b <;> decide +kernel⟩
def datStr : PDat K pStr := ⟨.str, 0, fun x => (PyData.str x).canLay0 = true, fun h => by cases h; exact .str _, fun h => sh_str h, fun a b => by
  show (a == b) = decide (a = b)
  rw [Bool.eq_iff_iff]
  simp⟩
def datNon : PDat K pNon := ⟨fun _ => .none, 0, fun _ => True, fun h => by cases h; exact .non, fun _ => sh_none, fun a b => by cases a; cases b; decide +kernel⟩
variable {K}
theorem dpAll_of {α : Type} [DecidableEq α] {p : PTy α} (D : PDat K p) {H : Hp} {vs : List V} {ds : List α} (h : AllR p H vs ds) : DpAll K H vs (ds.map D.dat) := by
  induction h with
  | nil => exact .nil
  | cons h _ ih => exact .cons (D.dp h) ih
theorem eqvAll_of {α : Type} [DecidableEq α] {p : PTy α} (D : PDat K p) : ∀ a b : List α, PyData.eqvAll (a.map D.dat) (b.map D.dat) = decide (a = b)
  | [], [] => rfl
  | [], _ :: _ => by simp [PyData.eqvAll]
  | _ :: _, [] => by simp [PyData.eqvAll]
  | x :: a, y :: b => by
    rw [List.map_cons, List.map_cons, PyData.eqvAll, eqvAll_of D a b, D.inj, Bool.eq_iff_iff]
    simp
variable (K)
def datList {α : Type} [DecidableEq α] {p : PTy α} (D : PDat K p) : PDat K (pList p) := ⟨fun ds => .list (ds.map D.dat), D.n + 1, fun ds => ∀ d ∈ ds, D.ok d, fun ⟨a, vs, e, h, r, _⟩ => by rw [e]; exact .lst (SqL.of h) (dpAll_of D r), fun h => sh_lst (shA_all fun d hd => by
    obtain ⟨x, hx, rfl⟩ := List.mem_map.mp hd
    exact D.sh (h x hx)), fun a b => eqvAll_of D a b⟩
def datFro {α : Type} [DecidableEq α] {p : PTy α} (D : PDat K p) : PDat K (pFro K p) := ⟨fun ds => .list (ds.map D.dat), D.n + 1, fun ds => ∀ d ∈ ds, D.ok d, fun ⟨a, vs, e, h, r, _⟩ => by rw [e]; exact .lst h (dpAll_of D r), fun h => sh_lst (shA_all fun d hd => by
    obtain ⟨x, hx, rfl⟩ := List.mem_map.mp hd
    exact D.sh (h x hx)), fun a b => eqvAll_of D a b⟩
def datVt {α : Type} [DecidableEq α] {p : PTy α} (D : PDat K p) : PDat K (pVt K p) := ⟨fun ds => .tuple (ds.map D.dat), D.n + 1, fun ds => ∀ d ∈ ds, D.ok d, fun ⟨a, vs, e, h, r, _⟩ => by rw [e]; exact .tup h (dpAll_of D r), fun h => sh_tup (shA_all fun d hd => by
    obtain ⟨x, hx, rfl⟩ := List.mem_map.mp hd
    exact D.sh (h x hx)), fun a b => eqvAll_of D a b⟩
structure RDat {τ : Type} [DecidableEq τ] (r : PRow τ) where
  dat : τ → List PyData
  n : Nat
  ok : τ → Prop
  dp : ∀ {H : Hp} {vs : List V} {d : τ}, r.rep H vs d → DpAll K H vs (dat d)
  sh : ∀ {d : τ}, ok d → ShA n (dat d)
  inj : ∀ a b : τ, PyData.eqvAll (dat a) (dat b) = decide (a = b)
def rdNil : RDat K rNil := ⟨fun _ => [], 0, fun _ => True, fun h => by cases h; exact .nil, fun _ => shA_nil, fun a b => by cases a; cases b; rfl⟩
def rdOne {α : Type} [DecidableEq α] {p : PTy α} (D : PDat K p) : RDat K (rOne p) := ⟨fun d => [D.dat d], D.n, D.ok, fun ⟨v, e, h⟩ => by rw [e]; exact .cons (D.dp h) .nil, fun h => shA_cons (D.sh h) shA_nil, fun a b => by
  show (PyData.eqv (D.dat a) (D.dat b) && true) = _
  rw [D.inj, Bool.and_true]⟩
theorem Sh.le {n m : Nat} {d : PyData} (h : Sh n d) (l : n ≤ m) : Sh m d := ⟨h.1, Nat.le_trans h.2 l⟩
theorem ShA.le {n m : Nat} {d : List PyData} (h : ShA n d) (l : n ≤ m) : ShA m d := ⟨h.1, Nat.le_trans h.2 l⟩
def rdCons {α β : Type} [DecidableEq α] [DecidableEq β] {p : PTy α} {r : PRow β} (D : PDat K p) (R : RDat K r) : RDat K (rCons p r) := ⟨fun d => D.dat d.1 :: R.dat d.2, max D.n R.n, fun d => D.ok d.1 ∧ R.ok d.2, fun ⟨v, w, e, h, h2⟩ => by rw [e]; exact .cons (D.dp h) (R.dp h2),
  fun h => shA_cons ((D.sh h.1).le (Nat.le_max_left ..)) ((R.sh h.2).le (Nat.le_max_right ..)), fun a b => by
  obtain ⟨a1, a2⟩ := a
  obtain ⟨b1, b2⟩ := b
  show (PyData.eqv (D.dat a1) (D.dat b1) && PyData.eqvAll (R.dat a2) (R.dat b2)) = _
  rw [D.inj, R.inj, Bool.eq_iff_iff]
  simp⟩
def datTup {τ : Type} [DecidableEq τ] {r : PRow τ} (R : RDat K r) : PDat K (pTup K r) := ⟨fun d => .tuple (R.dat d), R.n + 1, R.ok, fun ⟨a, vs, e, h, q⟩ => by rw [e]; exact .tup h (R.dp q), fun h => sh_tup (R.sh h), fun a b => R.inj a b⟩
variable {K}
theorem eqS {τ : Type} [DecidableEq τ] {p : PTy τ} (D : PDat K p) {H : Hp} {v u : V} {a b : τ} {Q : VK} (h1 : p.rep H v a) (h2 : p.rep H u b) (o1 : D.ok a) (o2 : D.ok b) (h : Q (.bl (decide (a = b))) H) (hn : D.n ≤ 64 := by exact Nat.le_of_ble_eq_true rfl) : rEqU K v u H Q :=
  eqD_i (D.dp h1) (D.dp h2) ((D.sh o1).shaped hn) ((D.sh o2).shaped hn) (by rw [D.inj]; exact h)
theorem neS {τ : Type} [DecidableEq τ] {p : PTy τ} (D : PDat K p) {H : Hp} {v u : V} {a b : τ} {Q : VK} (h1 : p.rep H v a) (h2 : p.rep H u b) (o1 : D.ok a) (o2 : D.ok b) (h : Q (.bl (!decide (a = b))) H) (hn : D.n ≤ 64 := by exact Nat.le_of_ble_eq_true rfl) : rNeU K v u H Q :=
  neD_i (D.dp h1) (D.dp h2) ((D.sh o1).shaped hn) ((D.sh o2).shaped hn) (by rw [D.inj]; exact h)
/-- a list or a tuple of other make: never equal -/
theorem eqX {τ ρ : Type} [DecidableEq τ] [DecidableEq ρ] {p : PTy τ} {q : PTy ρ} (D : PDat K p) (D2 : PDat K q) {H : Hp} {v u : V} {a : τ} {b : ρ} {Q : VK} (h1 : p.rep H v a) (h2 : q.rep H u b) (o1 : D.ok a) (o2 : D2.ok b) (h : Q (.bl (PyData.eqv (D.dat a) (D2.dat b))) H) (hn : D.n ≤ 64 := by exact Nat.le_of_ble_eq_true rfl) (hn2 : D2.n ≤ 64 := by exact Nat.le_of_ble_eq_true rfl) : rEqU K v u H Q :=
  eqD_i (D.dp h1) (D2.dp h2) ((D.sh o1).shaped hn) ((D2.sh o2).shaped hn2) h
theorem neX {τ ρ : Type} [DecidableEq τ] [DecidableEq ρ] {p : PTy τ} {q : PTy ρ} (D : PDat K p) (D2 : PDat K q) {H : Hp} {v u : V} {a : τ} {b : ρ} {Q : VK} (h1 : p.rep H v a) (h2 : q.rep H u b) (o1 : D.ok a) (o2 : D2.ok b) (h : Q (.bl (!PyData.eqv (D.dat a) (D2.dat b))) H) (hn : D.n ≤ 64 := by exact Nat.le_of_ble_eq_true rfl) (hn2 : D2.n ≤ 64 := by exact Nat.le_of_ble_eq_true rfl) : rNeU K v u H Q :=
  neD_i (D.dp h1) (D2.dp h2) ((D.sh o1).shaped hn) ((D2.sh o2).shaped hn2) h
end
/-! ### values at an operator -/
section
variable {K : PySem.W.Frag} {H : Hp} {Q : VK}
theorem rNeg_i {i : Int} (h : Q (.int (-i)) H) : rU (fun i => .int (-i)) (.int i) H Q := ⟨i, rfl, h⟩
theorem eq_non {x : V} (hx : scal x .non = true) (h : Q (.bl (decide (x = .non))) H) : rEqU K x .non H Q := .inl ⟨hx, h⟩
theorem optV_non {o : Option Int} : decide (optV o = V.non) = decide (o = none) := by cases o <;> rfl
end
end EL

namespace EL
open PySem PySem.Spec PyProof.Rows L2 Px
section
variable {σ σ' : L2.St} {H H' W W' : Hp} {i n : Nat} {v u : V} {R : L2.St → Hp → Prop} {τ S α β : Type} {p : PTy τ} {e : τ} {k : τ → Prop} {f : τ → V} {K : PySem.W.Frag} {Q : VK}
theorem nxS_i {RS : S → L2.St → Hp → Prop} {nx : S → Prop} {s : S} (h : RS s σ H) (hn : nx s) : nxS RS nx σ H := ⟨s, h, hn⟩
theorem asgIL {g : τ → L2.St} (hw : wLet e k) (hs : ∀ x, σ.set i (some (f x)) = g x) (h : ∀ x, k x → R (g x) H) : gName i (f e) σ H R := by
  have q := h e hw
  rw [← hs] at q
  exact q
theorem asgRL (hw : wLet e k) (hr : p.rep W v e) (hs : σ.set i (some v) = σ') (h : ∀ x, p.rep W v x → k x → R σ' H) : gName i v σ H R := by
  have q := h e hr hw
  rw [← hs] at q
  exact q
theorem letO {p : PTy α} {us : List V} {e : List α} {k : List α → Prop} (hw : wLet e k) (hr : AllR p W us e) (hl : e.length ≤ LIM) : ∃ x, AllR p W us x ∧ x.length ≤ LIM ∧ k x := ⟨e, hr, hl, hw⟩
theorem letR (hw : wLet e k) (hr : p.rep W v e) : ∃ x, p.rep W v x ∧ k x := ⟨e, hr, hw⟩
theorem letI' (hw : wLet e k) : ∃ x, x = e ∧ k x := ⟨e, rfl, hw⟩
/-! the steps, the ends as they stand -/
section
variable {N : L2.St → Hp → Prop} {Rt : VK} {Bk Ct : L2.St → Hp → Prop} {t u : TS} {te : TE} {c : TT} {g : TG} {wi : TI} {tb : TS}
theorem tSeq_j (h : t ⟨u ⟨N, Rt, Bk, Ct⟩, Rt, Bk, Ct⟩ σ H) : tSeq t u ⟨N, Rt, Bk, Ct⟩ σ H := h
theorem tNext_j (h : N σ H) : tNext ⟨N, Rt, Bk, Ct⟩ σ H := h
theorem tBreak_j (h : Bk σ H) : tBreak ⟨N, Rt, Bk, Ct⟩ σ H := h
theorem tCont_j (h : Ct σ H) : tCont ⟨N, Rt, Bk, Ct⟩ σ H := h
theorem tAsg_j (h : te σ H (fun x H1 => g x σ H1 N)) : tAsg te g ⟨N, Rt, Bk, Ct⟩ σ H := h
theorem tDrop_j (h : te σ H fun _ H1 => N σ H1) : tDrop te ⟨N, Rt, Bk, Ct⟩ σ H := h
theorem tRet_j (h : te σ H Rt) : tRet te ⟨N, Rt, Bk, Ct⟩ σ H := h
theorem tRetN_j (h : Rt .non H) : tRetN ⟨N, Rt, Bk, Ct⟩ σ H := h
theorem tIfS_j (h : c σ H fun b H1 => Br b (t ⟨N, Rt, Bk, Ct⟩ σ H1) (u ⟨N, Rt, Bk, Ct⟩ σ H1)) : tIfS c t u ⟨N, Rt, Bk, Ct⟩ σ H := h
theorem tFor_j (h : wi σ H (ForB g tb ⟨N, Rt, Bk, Ct⟩ σ)) : tFor wi g tb ⟨N, Rt, Bk, Ct⟩ σ H := h
end
/-! tuples -/
def RGet {τ α : Type} (r : PRow τ) (j : Nat) (p : PTy α) (g : τ → α) : Prop := ∀ (H : Hp) (vs : List V) (d : τ), r.rep H vs d → ∃ u, vs[j]? = some u ∧ p.rep H u (g d)
theorem rgOne {p : PTy α} : RGet (rOne p) 0 p (fun d => d) := fun H vs d ⟨v, e, h⟩ => ⟨v, by rw [e]; rfl, h⟩
theorem rgZ {p : PTy α} {r : PRow β} : RGet (rCons p r) 0 p (fun d => d.1) := fun H vs d ⟨v, ws, e, h, _⟩ => ⟨v, by rw [e]; rfl, h⟩
theorem rgS {γ : Type} {p : PTy α} {q : PTy γ} {r : PRow β} {j : Nat} {g : β → α} (h : RGet r j p g) : RGet (rCons q r) (j + 1) p (fun d => g d.2) := fun H vs d ⟨v, ws, e, _, t⟩ => by
  obtain ⟨u, hu, ru⟩ := h H ws d.2 t
  exact ⟨u, by rw [e]; exact hu, ru⟩
theorem ixT {r : PRow β} {d : β} {i : Int} {j : Nat} {p : PTy α} {g : β → α} (h : (pTup K r).rep W v d) (s : Same W H) (hg : RGet r j p g) (hi : i = (j : Int)) (k : ∀ u, p.rep W u (g d) → Q u H) : rIxU K v (.int i) H Q := by
  obtain ⟨a, vs, rfl, hs, hr⟩ := h
  obtain ⟨u, hu, ru⟩ := hg W vs d hr
  exact rIxU_t (s.seqT hs) (at_of hi hu) (k u ru)
theorem ixTI {r : PRow β} {d : β} {i : Int} {j : Nat} {f : α → V} {g : β → α} (h : (pTup K r).rep W v d) (s : Same W H) (hg : RGet r j (pI f) g) (hi : i = (j : Int)) (k : Q (f (g d)) H) : rIxU K v (.int i) H Q :=
  ixT h s hg hi fun u hu => by rw [show u = f (g d) from hu]; exact k
theorem row0 : rNil.rep H [] () := rfl
theorem rowO {p : PTy α} {a : α} (h : p.rep H v a) : (rOne p).rep H [v] a := ⟨v, rfl, h⟩
theorem rowC {p : PTy α} {r : PRow β} {a : α} {b : β} {ws : List V} (h : p.rep H v a) (t : r.rep H ws b) : (rCons p r).rep H (v :: ws) (a, b) := ⟨v, ws, rfl, h, t⟩
theorem rowCx {p : PTy α} {r : PRow β} {d : α × β} {vs : List V} (h : (rCons p r).rep H vs d) : ∃ v ws, vs = v :: ws ∧ p.rep H v d.1 ∧ r.rep H ws d.2 := h
theorem rowCi {f : α → V} {r : PRow β} {d : α × β} {vs : List V} (h : (rCons (pI f) r).rep H vs d) : ∃ ws, vs = f d.1 :: ws ∧ r.rep H ws d.2 := by
  obtain ⟨v, ws, e, h, t⟩ := h
  exact ⟨ws, by rw [e, show v = f d.1 from h], t⟩
theorem rowOx {p : PTy α} {d : α} {vs : List V} (h : (rOne p).rep H vs d) : ∃ v, vs = [v] ∧ p.rep H v d := h
theorem rowOi {f : α → V} {d : α} {vs : List V} (h : (rOne (pI f)).rep H vs d) : vs = [f d] := by
  obtain ⟨v, e, h⟩ := h
  rw [e, show v = f d from h]
theorem tupR {r : PRow β} {d : β} {q : Addr} {vs : List V} (e : H q = some (.tup vs)) (h : r.rep H vs d) : (pTup K r).rep H (.ref q) d := ⟨q, vs, rfl, SqT.of e, h⟩
theorem gTupS {r : PRow β} {d : β} {t : TGs} (h : (pTup K r).rep W v d) (s : Same W H) (k : ∀ vs, r.rep W vs d → vs.length = n ∧ t vs σ H R) : gTup K n t v σ H R := by
  obtain ⟨a, vs, rfl, hs, hr⟩ := h
  obtain ⟨h1, h2⟩ := k vs hr
  exact gTup_i (s.seqT hs) h1 h2
/-- a tuple of alikes -/
theorem vtR {p : PTy α} {xs : List α} {q : Addr} {vs : List V} (e : H q = some (.tup vs)) (h : AllR p H vs xs) (l : xs.length ≤ LIM) : (pVt K p).rep H (.ref q) xs := ⟨q, vs, rfl, SqT.of e, h, l⟩
def RAll {β α : Type} (r : PRow β) (p : PTy α) (g : β → List α) : Prop := ∀ (H : Hp) (vs : List V) (d : β), r.rep H vs d → AllR p H vs (g d)
theorem raNil {p : PTy α} : RAll rNil p (fun _ => []) := fun H vs d h => by cases h; exact .nil
theorem raOne {p : PTy α} : RAll (rOne p) p (fun d => [d]) := fun H vs d ⟨v, e, h⟩ => by rw [e]; exact .one h
theorem raCons {p : PTy α} {r : PRow β} {g : β → List α} (t : RAll r p g) : RAll (rCons p r) p (fun d => d.1 :: g d.2) := fun H vs d ⟨v, ws, e, h, q⟩ => by rw [e]; exact .cons h (t H ws d.2 q)
theorem tupVt {r : PRow β} {p : PTy α} {g : β → List α} {d : β} (h : (pTup K r).rep H v d) (a : RAll r p g) (l : (g d).length ≤ LIM) : (pVt K p).rep H v (g d) := by
  obtain ⟨q, vs, e, hs, hr⟩ := h
  exact ⟨q, vs, e, hs, a H vs d hr, l⟩
/-! lists as they stand -/
def Lw {α : Type} (p : PTy α) (H W : Hp) (v : V) (xs : List α) : Prop := ∃ a vs, v = .ref a ∧ H a = some (.lst vs) ∧ AllR p W vs xs ∧ xs.length ≤ LIM
theorem lwL {p : PTy α} {xs : List α} (s : Same W H) (h : (pList p).rep W v xs) : Lw p H W v xs := let ⟨a, vs, e, h, r, l⟩ := h; ⟨a, vs, e, s _ _ h, r, l⟩
theorem lwO {p : PTy α} {xs : List α} {a : Addr} {vs : List V} (e : H a = some (.lst vs)) (r : AllR p W vs xs) (l : xs.length ≤ LIM) : Lw p H W (.ref a) xs := ⟨a, vs, rfl, e, r, l⟩
theorem catS {p : PTy α} {xs ys : List α} (h1 : Lw p H W v xs) (h2 : Lw p H W u ys) (hl : xs.length + ys.length ≤ LIM) (k : ∀ q H', H q = none → Same H H' → ∀ us, H' q = some (.lst us) → AllR p W us (xs ++ ys) → (xs ++ ys).length ≤ LIM → Q (.ref q) H') : rAddU K v u H Q := by
  obtain ⟨a, vs, rfl, e1, r1, l1⟩ := h1
  obtain ⟨b, us, rfl, e2, r2, l2⟩ := h2
  exact rAddU_l e1 e2 (by rw [r1.len, r2.len]; exact hl) fun q H' n s e => k q H' n s _ e (r1.app r2) (by rw [List.length_append]; exact hl)
theorem repS {p : PTy α} {xs : List α} {m : Int} (h1 : Lw p H W v xs) (hc : -(2 ^ 63) ≤ m ∧ m < 2 ^ 63 ∧ xs.length * m.toNat ≤ LIM) (k : ∀ q H', H q = none → Same H H' → ∀ us, H' q = some (.lst us) → AllR p W us (repG xs m) → (repG xs m).length ≤ LIM → Q (.ref q) H') : rMulU v (.int m) H Q := by
  obtain ⟨a, vs, rfl, e1, r1, l1⟩ := h1
  refine .inr ⟨a, m, vs, rfl, rfl, e1, hc.1, hc.2.1, by rw [r1.len]; exact hc.2.2, fun q n => k q _ n (Same.new n) _ upd_same ?_ ?_⟩
  · exact AllR.flat (xs := []) r1
  · have : (repG xs m).length = xs.length * m.toNat := by
      unfold repG
      rw [List.length_flatten, List.map_replicate, List.sum_replicate_nat, Nat.mul_comm]
    rw [this]
    exact hc.2.2
def RevV (K : PySem.W.Frag) (x : V) (H1 : Hp) (Q : VK) : Prop := ∃ a xs, x = .ref a ∧ SqL K H1 a xs ∧ ∀ p, H1 p = none → Q (.ref p) (upd H1 p (.lst xs.reverse))
theorem tRevL_i {te : TE} (h : te σ H fun x H1 => RevV K x H1 Q) : tRevL K te σ H Q := h
theorem revS {p : PTy α} {xs : List α} (hq : Sl K p H W v xs) (k : ∀ q H', H q = none → Same H H' → ∀ us, H' q = some (.lst us) → AllR p W us xs.reverse → xs.reverse.length ≤ LIM → Q (.ref q) H') : RevV K v H Q := by
  obtain ⟨a, vs, rfl, hs, hr, hl⟩ := hq
  exact ⟨a, vs, rfl, hs, fun q n => k q _ n (Same.new n) _ upd_same hr.rev (by rw [List.length_reverse]; exact hl)⟩
theorem cntS {ns : List Int} {m : Int} (hq : Sl K pInt H W v ns) (h : Q (.int (ns.count m : Nat)) H) : rCntI K v [.int m] H Q := by
  obtain ⟨a, vs, rfl, hs, hr, _⟩ := hq
  rw [hr.imm] at hs
  exact ⟨a, ns, m, rfl, rfl, hs, h⟩
theorem tyS {p : PTy α} {xs : List α} {A : Prop} (hq : Sl K p H W v xs) (h : A) : tyV K "list" v H ∧ A := by
  obtain ⟨a, vs, rfl, hs, hr, _⟩ := hq
  exact tyL hs h
theorem isiL {p : PTy α} {xs : List α} (hq : Sl K p H W v xs) (h : Q (.bl true) H) : rIsiU K [v, .ty "list"] H Q := by
  obtain ⟨a, vs, rfl, hs, hr, _⟩ := hq
  exact isi_lstS hs h
theorem isN_o {o : Option Int} (h : Q (.bl (decide (o = none))) H) : rIsN (optV o) .non H Q := rIsN_i (by rw [optV_non]; exact h)
theorem notN_o {o : Option Int} (h : Q (.bl (!decide (o = none))) H) : rNotN (optV o) .non H Q := rNotN_i (by rw [optV_non]; exact h)
/-! sources -/
theorem WL_v {R : It → Hp → Prop} {a : Addr} (hv : v = .ref a) {xs : List V} (hS : SqL K H a xs) (h : R (Itl K a) H) : WL K R v H := by rw [hv]; exact WL_i xs hS h
theorem WT_v {R : It → Hp → Prop} {a : Addr} (hv : v = .ref a) {xs : List V} (hS : SqT K H a xs) (h : R (Itt K a) H) : WT K R v H := by rw [hv]; exact WT_i xs hS h
theorem WE_v {R : It → Hp → Prop} {a : Addr} (hv : v = .ref a) {xs : List V} (hS : SqL K H a xs) (h : R (Ite K a) H) : WE K R [v] H := by rw [hv]; exact WE_i xs hS h
theorem WZ_v {R : It → Hp → Prop} {a b : Addr} (hv : v = .ref a) (hu : u = .ref b) {xs ys : List V} (hS : SqL K H a xs) (hT : SqL K H b ys) (h : R (Itz K a b) H) : WZ K R [v, u] H := by rw [hv, hu]; exact WZ_i xs ys hS hT h
theorem rgW1 {j : Int} {R : It → Hp → Prop} (h1 : rgOk 0 j) (h : R (Itr 0 j.toNat) H) : W1 R [.int j] H := W1_i ⟨h1.2.2.1, h1.2.2.2⟩ h
theorem rgW2 {i j : Int} {R : It → Hp → Prop} (h1 : rgOk i j) (h : R (Itr i (j - i).toNat) H) : W2 R [.int i, .int j] H := W2_i h1 h
section
variable {g : TG} {tb : TS} {N : L2.St → Hp → Prop} {Rt : VK} {Bk Ct : L2.St → Hp → Prop} {te te2 : TE} {tt : TT} {vs : List Nat} {p : PTy α} {pb : PTy β} {xs : List α}
theorem forSeq {f : α → S → (S → Prop) → (S → Prop) → Prop} {k : S → Prop} {s0 : S} (h : (pSeq K p).rep W v xs) (hte : ∀ R : V → Hp → Prop, R v H → te σ H R) (hw : wFor xs s0 f k) (RS : S → L2.St → Hp → Prop) (h0 : RS s0 σ H) (hok : ∀ s σ H', RS s σ H' → Same W H')
    (hs : ∀ d s σ H x (nx : S → Prop), RS s σ H → p.rep W x d → f d s nx k → g x σ H fun σ2 H2 => tb ⟨nxS RS nx, Rt, N, nxS RS nx⟩ σ2 H2)
    (hd : ∀ s σ H, RS s σ H → k s → N σ H) : tFor (iU K te) g tb ⟨N, Rt, Bk, Ct⟩ σ H := by
  obtain ⟨a, vs, rfl, hq, hr, _⟩ := h
  exact forQ hte (hq.same (hok _ _ _ h0)) hw hr RS h0 hok hq hs hd
theorem lcSeq {f : α → (Option β → Prop) → Prop} {k : List β → Prop} {ps : List Addr} (h : (pSeq K p).rep W v xs) (s : Same W H) (hte : ∀ R : V → Hp → Prop, R v H → te σ H R) (hw : wComp xs f k) (hps : ∀ q ∈ ps, H q ≠ none)
    (hs : ∀ L d x H1, H L = none → Same H H1 → (∃ acc, H1 L = some (.lst acc)) → p.rep W x d → LcT pb H ps g tt te2 vs σ (f d) L x H1 H1) (hd : LcD pb H ps Q k) : tLc (iU K te) g tt te2 vs σ H Q := by
  obtain ⟨a, us, rfl, hq, hr, hl⟩ := h
  exact lcQ hte hw (hq.same s) hr hl hps hs hd
end
end
/-! two names at once -/
def SetP (i j : Nat) (v w : V) (σ : L2.St) (H : Hp) (R : L2.St → Hp → Prop) : Prop := R ((σ.set i (some v)).set j (some w)) H
theorem tParL {N : L2.St → Hp → Prop} {Rt : VK} {Bk Ct : L2.St → Hp → Prop} {j : Nat} {ts : TA} (h : ts σ H fun vs H1 => Par2 vs fun v w => SetP i j v w σ H1 N) : tPar i j ts ⟨N, Rt, Bk, Ct⟩ σ H := h
theorem setP {j : Nat} {w : V} (hs : (σ.set i (some v)).set j (some w) = σ') (h : R σ' H) : SetP i j v w σ H R := by
  unfold SetP
  rw [hs]
  exact h
theorem setPI {j : Nat} {a : α} {b : β} {fa : α → V} {fb : β → V} {k : α → β → Prop} {g : α → β → L2.St} (hw : wLet a fun x => wLet b fun y => k x y) (hs : ∀ x y, (σ.set i (some (fa x))).set j (some (fb y)) = g x y) (h : ∀ x y, k x y → R (g x y) H) : SetP i j (fa a) (fb b) σ H R := setP (hs a b) (h a b hw)
/-! draws -/
theorem drawK {K : PySem.W.Frag} {H W : Hp} {v u : V} {x y : Unit} (s : Same W H) (h : (pDraw K).rep W v x) (h2 : pCell.rep W u y) : ∃ c a, v = .ref c ∧ u = .ref a ∧ Draw K H c a := by
  obtain ⟨c, rfl, xs, hq, hl⟩ := h
  obtain ⟨a, rfl, ha⟩ := h2
  exact ⟨c, a, rfl, rfl, ⟨xs, s.seq hq, hl⟩, s _ _ ha⟩
end EL

namespace EL
open PySem PySem.Spec PyProof.Rows L2 Px
/-- M, c are the members of zs and their number -/
def SetIs (zs : List Int) (M : Int → Bool) (c : Nat) : Prop := (∀ i, M i = decide (i ∈ zs)) ∧ c = zs.eraseDups.length
theorem setIs_nil : SetIs [] noneS 0 := ⟨fun i => rfl, rfl⟩
theorem dedup_app (zs : List Int) (z : Int) : (zs ++ [z]).eraseDups = if z ∈ zs then zs.eraseDups else zs.eraseDups ++ [z] := by
  rw [List.eraseDups_append]
  by_cases h : z ∈ zs
  · rw [if_pos h]
    have e : [z].removeAll zs = [] := by simp [List.removeAll, h]
    rw [e]
    simp
  · rw [if_neg h]
    have e : [z].removeAll zs = [z] := by simp [List.removeAll, h]
    rw [e]
    simp [List.eraseDups_cons]
theorem setIs_put {zs : List Int} {M : Int → Bool} {c : Nat} (h : SetIs zs M c) (z : Int) : SetIs (zs ++ [z]) (putS M z) (if M z = true then c else c + 1) := by
  obtain ⟨h1, h2⟩ := h
  refine ⟨fun i => ?_, ?_⟩
  · unfold putS
    rw [h1, Bool.eq_iff_iff]
    simp
  · rw [dedup_app, h1 z]
    by_cases c : z ∈ zs
    · simp [c, h2]
    · simp [c, h2]
theorem dedup_len_aux : ∀ (n : Nat) (zs : List Int), zs.length ≤ n → zs.eraseDups.length ≤ zs.length
  | _, [], _ => by simp
  | 0, _ :: _, h => by simp at h
  | n + 1, a :: l, h => by
    rw [List.eraseDups_cons, List.length_cons, List.length_cons]
    have h1 : (l.filter fun b => !b == a).length ≤ l.length := List.length_filter_le ..
    have h2 : l.length ≤ n := by rw [List.length_cons] at h; omega
    have := dedup_len_aux n (l.filter fun b => !b == a) (by omega)
    omega
theorem dedup_len (zs : List Int) : zs.eraseDups.length ≤ zs.length := dedup_len_aux _ zs (Nat.le_refl _)
def pSet (w : World) : PTy (List Int) := ⟨fun H v zs => ∃ a M c, v = .ref a ∧ H a = some (SetO w a M c) ∧ SetIs zs M c, fun s ⟨a, M, c, e, h, r⟩ => ⟨a, M, c, e, s _ _ h, r⟩⟩
theorem lenSet {w : World} {W H : Hp} {v : V} {zs : List Int} {Q : VK} (s : Same W H) (h : (pSet w).rep W v zs) (hq : Q (.int (zs.eraseDups.length : Int)) H) : rLenI w [v] H Q := by
  obtain ⟨a, M, c, rfl, e, r1, rfl⟩ := h
  exact rLenI_i (s _ _ e) hq
theorem inSet {K : PySem.W.Frag} {w : World} {W H : Hp} {v : V} {i : Int} {zs : List Int} {Q : VK} (s : Same W H) (h : (pSet w).rep W v zs) (hq : Q (.bl (decide (i ∈ zs))) H) : rInU K w false (.int i) v H Q := by
  obtain ⟨a, M, c, rfl, e, r1, rfl⟩ := h
  exact inI_s (s _ _ e) (by rw [r1]; exact hq)
def ScD (w : World) (H : Hp) (Q : VK) (k : List Int → Prop) : Prop := ∀ L H1 M c zs, H L = none → Same H H1 → H1 L = some (SetO w L M c) → SetIs zs M c → k zs → Q (.ref L) H1
section
variable {w : World} {σ : L2.St} {H : Hp} {g : TG} {tt : TT} {te : TE} {vs : List Nat} {Q : VK} {J : It} {n : Nat} {ok : Hp → Prop} {itm : Nat → V → Hp → Hp → Prop} {α : Type} {ps : List Addr}
theorem scW (Sr : Src J n ok itm) {xs : List α} (hn : n = xs.length) (hlim : n + 1 < scanBound) {f : α → (Option Int → Prop) → Prop} {k : List Int → Prop} (hw : wComp xs f k) (hps : ∀ q ∈ ps, H q ≠ none)
    (I : α → V → Hp → Hp → Prop) (hI : ∀ i x H H' d, xs[i]? = some d → itm i x H H' → I d x H H') (hok : ∀ H', Same H H' → ok H')
    (hs : ∀ L d x H1 H2 (nx : Option Int → Prop), H L = none → Same H H1 → (∃ o, H1 L = some o) → I d x H1 H2 → f d nx →
      ∀ (Y : V → Hp → Prop) (N : Hp → Prop), (∀ r v H3, Same H1 H3 → pInt.rep (dels H3 (L :: ps)) v r → nx (some r) → Y v H3) → (∀ H3, Same H1 H3 → nx none → N H3) →
      g x (wipe σ vs) H2 fun σ2 H2 => wipe σ2 vs = wipe σ vs ∧ tt σ2 H2 fun b H3 => Br b (te σ2 H3 Y) (N H3))
    (hd : ScD w H Q k) : ScB w g tt te vs σ Q J H := by
  intro L hL
  refine ⟨fun i m H1 => m = n - i ∧ i ≤ n ∧ ∃ zs : List Int, zs.length ≤ i ∧ Same H H1 ∧ (∃ M c, H1 L = some (SetO w L M c) ∧ SetIs zs M c) ∧ wComp (xs.drop i) f (fun ys => k (zs ++ ys)), ⟨n, by simp, Nat.zero_le _, [], Nat.le_refl _, Same.new hL, ⟨noneS, 0, upd_same, setIs_nil⟩, by rw [List.drop_zero]; exact hw⟩, ?_⟩
  rintro i m H1 ⟨rfl, hi, zs, hz, s1, ⟨M, c, e1, r1⟩, hw⟩
  have q := hok H1 s1
  by_cases hlt : i < n
  · have hx : i < xs.length := by omega
    rw [List.drop_eq_getElem_cons hx] at hw
    refine .inr ⟨Sr.go i H1 q hlt, fun H3 => ∃ zs : List Int, zs.length ≤ i + 1 ∧ Same H H3 ∧ (∃ M c, H3 L = some (SetO w L M c) ∧ SetIs zs M c) ∧ wComp (xs.drop (i + 1)) f (fun ys => k (zs ++ ys)), fun H3 h3 => ⟨n - (i + 1), by omega, rfl, hlt, h3⟩, fun x H2 y => ?_⟩
    refine hs L _ x H1 H2 _ hL s1 ⟨_, e1⟩ (hI i x H1 H2 _ (List.getElem?_eq_getElem hx) (Sr.yld i H1 x H2 q hlt y)) hw _ _ (fun r v H3 s3 hr h => ?_) (fun H3 s3 h => ?_)
    · have e3 := s3 _ _ e1
      have hv : v = .int r := hr
      subst hv
      have hc : c ≤ zs.length := by rw [r1.2]; exact dedup_len zs
      refine ⟨L, r, M, c, rfl, rfl, e3, by omega, zs ++ [r], by rw [List.length_append, List.length_singleton]; omega, Same.upd (s1.trans s3) hL, ⟨_, _, upd_same, setIs_put r1 r⟩, ?_⟩
      simpa [List.append_assoc] using h
    · have e3 := s3 _ _ e1
      refine ⟨zs, by omega, s1.trans s3, ⟨M, c, e3, r1⟩, ?_⟩
      simpa using h
  · have e : xs.length ≤ i := by omega
    rw [List.drop_eq_nil_of_le e] at hw
    refine .inl ⟨Sr.stop i H1 q (by omega), hd L H1 M c zs hL s1 e1 r1 ?_⟩
    have hw' : k (zs ++ []) := hw
    rwa [List.append_nil] at hw'
end
section
variable {w : World} {σ : L2.St} {H W : Hp} {g : TG} {tt : TT} {te : TE} {vs : List Nat} {Q : VK} {α γ : Type} {p : PTy α} {pc : PTy γ} {ps : List Addr} {K : PySem.W.Frag} {xs : List α} {a b : Addr} {us ws : List V}
  {f : α → (Option Int → Prop) → Prop} {k : List Int → Prop}
theorem scL (hw : wComp xs f k) (hq : SqL K H a us) (hr : AllR p W us xs) (hl : xs.length + 1 < scanBound) (hps : ∀ q ∈ ps, H q ≠ none)
    (hs : ∀ L d x H1, H L = none → Same H H1 → (∃ o, H1 L = some o) → p.rep W x d → LcT pInt H ps g tt te vs σ (f d) L x H1 H1) (hd : ScD w H Q k) : ScB w g tt te vs σ Q (Itl K a) H :=
  scW (w := w) (srcL (K := K) (a := a) (xs := us)) hr.len (by rw [hr.len]; exact hl) hw hps (ItS p W) (itmS hr) (fun H' s => s.seq hq) (fun L d x H1 H2 nx n s e ⟨e2, i⟩ h => by rw [e2]; exact hs L d x H1 n s e i nx h) hd
theorem scT (hw : wComp xs f k) (hq : SqT K H a us) (hr : AllR p W us xs) (hl : xs.length + 1 < scanBound) (hps : ∀ q ∈ ps, H q ≠ none)
    (hs : ∀ L d x H1, H L = none → Same H H1 → (∃ o, H1 L = some o) → p.rep W x d → LcT pInt H ps g tt te vs σ (f d) L x H1 H1) (hd : ScD w H Q k) : ScB w g tt te vs σ Q (Itt K a) H :=
  scW (w := w) (srcT (K := K) (a := a) (xs := us)) hr.len (by rw [hr.len]; exact hl) hw hps (ItS p W) (itmS hr) (fun H' s => s.seqT hq) (fun L d x H1 H2 nx n s e ⟨e2, i⟩ h => by rw [e2]; exact hs L d x H1 n s e i nx h) hd
theorem scQ (hte : ∀ R : V → Hp → Prop, R (.ref a) H → te σ H R) {te2 : TE} (hw : wComp xs f k) (hq : SqA K H a us) (hr : AllR p W us xs) (hl : xs.length + 1 < scanBound) (hps : ∀ q ∈ ps, H q ≠ none)
    (hs : ∀ L d x H1, H L = none → Same H H1 → (∃ o, H1 L = some o) → p.rep W x d → LcT pInt H ps g tt te2 vs σ (f d) L x H1 H1) (hd : ScD w H Q k) : tScI w (iU K te) g tt te2 vs σ H Q := by
  refine tScI_i ?_
  rcases hq with z | z
  · exact .inl (hte _ (WL_i us z (scL hw z hr hl hps hs hd)))
  · exact .inr (hte _ (WT_i us z (scT hw z hr hl hps hs hd)))
theorem scR {lo hi : Int} {f : Int → (Option Int → Prop) → Prop} (hw : wComp (rangeL lo hi) f k) (hl : (hi - lo).toNat + 1 < scanBound) (hps : ∀ q ∈ ps, H q ≠ none)
    (hs : ∀ L d H1, H L = none → Same H H1 → (∃ o, H1 L = some o) → LcT pInt H ps g tt te vs σ (f d) L (.int d) H1 H1) (hd : ScD w H Q k) : ScB w g tt te vs σ Q (Itr lo (hi - lo).toNat) H := by
  refine scW (w := w) srcR (rangeL_len (lo := lo) (hi := hi)).symm hl hw hps (fun d x H H' => H' = H ∧ x = .int d) (fun i x H H' d e h => ?_) (fun _ _ => trivial) (fun L d x H1 H2 nx n s e ⟨e2, i⟩ h => by rw [e2, i]; exact hs L d H1 n s e nx h) hd
  obtain ⟨rfl, rfl⟩ := h
  refine ⟨rfl, ?_⟩
  obtain ⟨hi, _⟩ := List.getElem?_eq_some_iff.mp e
  rw [rangeL_len] at hi
  rw [rangeL_get hi] at e
  cases e
  rfl
theorem scR0 {hi : Int} {f : Int → (Option Int → Prop) → Prop} (hw : wComp (rangeL 0 hi) f k) (hl : hi.toNat + 1 < scanBound) (hps : ∀ q ∈ ps, H q ≠ none)
    (hs : ∀ L d H1, H L = none → Same H H1 → (∃ o, H1 L = some o) → LcT pInt H ps g tt te vs σ (f d) L (.int d) H1 H1) (hd : ScD w H Q k) : ScB w g tt te vs σ Q (Itr 0 hi.toNat) H := by
  have := scR (lo := 0) (hi := hi) hw (by rw [Int.sub_zero]; exact hl) hps hs hd
  rw [Int.sub_zero] at this
  exact this
theorem scE {f : Int × α → (Option Int → Prop) → Prop} (hw : wComp (enumL xs) f k) (hq : SqL K H a us) (hr : AllR p W us xs) (hl : xs.length + 1 < scanBound) (hps : ∀ q ∈ ps, H q ≠ none)
    (hs : ∀ L d x H1 H2, H L = none → Same H H1 → (∃ o, H1 L = some o) → ItP pInt p W d x H1 H2 → LcT pInt H ps g tt te vs σ (f d) L x H1 H2) (hd : ScD w H Q k) : ScB w g tt te vs σ Q (Ite K a) H := by
  refine scW (w := w) (srcE (K := K) (a := a) (xs := us)) (by rw [enumL_len, hr.len]) (by rw [hr.len]; exact hl) hw hps (ItP pInt p W) (fun i x H H' d e h => ?_) (fun H' s => s.seq hq) (fun L d x H1 H2 nx n s e i h => hs L d x H1 H2 n s e i nx h) hd
  obtain ⟨q, y, rfl, n, s, e2, hy⟩ := h
  obtain ⟨d', hd', rd⟩ := hr.getV hy
  rw [enumL_get hd'] at e
  cases e
  exact ⟨q, _, y, rfl, n, s, e2, rfl, rd⟩
theorem scET {f : Int × α → (Option Int → Prop) → Prop} (hw : wComp (enumL xs) f k) (hq : SqT K H a us) (hr : AllR p W us xs) (hl : xs.length + 1 < scanBound) (hps : ∀ q ∈ ps, H q ≠ none)
    (hs : ∀ L d x H1 H2, H L = none → Same H H1 → (∃ o, H1 L = some o) → ItP pInt p W d x H1 H2 → LcT pInt H ps g tt te vs σ (f d) L x H1 H2) (hd : ScD w H Q k) : ScB w g tt te vs σ Q (IteT K a) H := by
  refine scW (w := w) (srcET (K := K) (a := a) (xs := us)) (by rw [enumL_len, hr.len]) (by rw [hr.len]; exact hl) hw hps (ItP pInt p W) (fun i x H H' d e h => ?_) (fun H' s => s.seqT hq) (fun L d x H1 H2 nx n s e i h => hs L d x H1 H2 n s e i nx h) hd
  obtain ⟨q, y, rfl, n, s, e2, hy⟩ := h
  obtain ⟨d', hd', rd⟩ := hr.getV hy
  rw [enumL_get hd'] at e
  cases e
  exact ⟨q, _, y, rfl, n, s, e2, rfl, rd⟩
theorem scZ {ys : List γ} {f : α × γ → (Option Int → Prop) → Prop} (hw : wComp (xs.zip ys) f k) (hq : SqL K H a us) (hq2 : SqL K H b ws) (hr : AllR p W us xs) (hr2 : AllR pc W ws ys) (hl : xs.length + 1 < scanBound) (hps : ∀ q ∈ ps, H q ≠ none)
    (hs : ∀ L d x H1 H2, H L = none → Same H H1 → (∃ o, H1 L = some o) → ItP p pc W d x H1 H2 → LcT pInt H ps g tt te vs σ (f d) L x H1 H2) (hd : ScD w H Q k) : ScB w g tt te vs σ Q (Itz K a b) H := by
  refine scW (w := w) (srcZ (K := K) (a := a) (b := b) (xs := us) (ys := ws)) (by rw [List.length_zip, hr.len, hr2.len]) (by rw [hr.len]; omega) hw hps (ItP p pc W) (fun i x H H' d e h => ?_) (fun H' s => ⟨s.seq hq, s.seq hq2⟩) (fun L d x H1 H2 nx n s e i h => hs L d x H1 H2 n s e i nx h) hd
  obtain ⟨q, y, z, rfl, n, s, e2, hy, hz⟩ := h
  obtain ⟨d1, hd1, rd1⟩ := hr.getV hy
  obtain ⟨d2, hd2, rd2⟩ := hr2.getV hz
  rw [Px.zip_get hd1 hd2] at e
  cases e
  exact ⟨q, y, z, rfl, n, s, e2, rd1, rd2⟩

end
theorem WE_lv {K : PySem.W.Frag} {v : V} {H : Hp} {R : It → Hp → Prop} {a : Addr} (hv : v = .ref a) {xs : List V} (hS : SqL K H a xs) (h : R (Ite K a) H) : WE K R [v] H := by rw [hv]; exact WE_i xs hS h
theorem WEt_v {K : PySem.W.Frag} {v : V} {H : Hp} {R : It → Hp → Prop} {a : Addr} (hv : v = .ref a) {xs : List V} (hS : SqT K H a xs) (h : R (IteT K a) H) : WET K R [v] H := by rw [hv]; exact WET_i xs hS h
theorem AllR.immW {α : Type} {f : α → V} {H H' : Hp} {vs : List V} {ds : List α} (h : AllR (pI f) H vs ds) : AllR (pI f) H' vs ds := by
  rw [h.imm]
  exact AllR.ofImm ds
end EL

namespace EL
open PySem PySem.Spec PyProof.Rows L2 Px
/-! ### errors by kinds -/
section
variable {K : PySem.W.Frag} {H : Hp} {Q : VK} {σ : L2.St} {a D : Addr} {d : Option Addr}
theorem wasL {c cls : Value} {i : Nat} {ts : Addr → Value → Option Addr → TS} {Wout : WX} {N : L2.St → Hp → Prop} {Rt : VK} {Bk Ct : L2.St → Hp → Prop} {g : Addr → L2.St} (em : PySem.W.exmOne K cls c = some true) (hs : ∀ a, σ.set i (some (.ref a)) = g a)
    (h : ∀ a, H a = none → ts a cls d ⟨fun σ' H' => N (σ'.set i none) H', Rt, fun σ' H' => Bk (σ'.set i none) H', fun σ' H' => Ct (σ'.set i none) H'⟩ (g a) H) : L2.WE (wAs K c i ts Wout ⟨N, Rt, Bk, Ct⟩) σ cls d H :=
  was_i em fun a n => by rw [hs a]; exact h a n
theorem nxL {i : Nat} {N : L2.St → Hp → Prop} {σ' : L2.St} (hs : σ.set i none = σ') (h : N σ' H) : N (σ.set i none) H := by rw [hs]; exact h
theorem xfP {er : PErr} {f : Str} {n : Nat} {z : Int} (hz : er = ⟨n, [(f, .int z)]⟩) (X : XCls K D) (hx : XDict H d er.fs) (hn : PySem.W.findIn K (.ref D) f = some none) (h : Q (.int z) H) : XFv K a (.ref D) d f (.ref a) H Q := by
  subst hz
  rcases hx with ⟨_, z⟩ | ⟨dd, rfl, e⟩
  · cases z
  · exact xf1 X e hn h
theorem kAnyN {t : Value} : PySem.W.kitAny K t [] = some false := rfl
theorem kAnyC {t c : Value} {r : List Value} {b b2 : Bool} (h : PySem.W.kitOne K t c = some b) (h2 : PySem.W.kitAny K t r = some b2) : PySem.W.kitAny K t (c :: r) = some (b || b2) := by
  unfold PySem.W.kitAny
  rw [h]
  cases b
  · exact h2
  · rfl
theorem isX_n {q : Addr} {cs : List V} {us : List Value} {b : Bool} (X : XCls K D) (fs : List (Str × V)) (hd : XDict H d fs) (e : H q = some (.tup cs)) (k : Paired ClsV cs us) (ka : PySem.W.kitAny K (.ref D) us = some b) (h : Q (.bl b) H) : rIsX K a (.ref D) d [.ref a, .ref q] H Q :=
  ⟨D, fs, .ref q, b, rfl, rfl, X, hd, .inr ⟨q, cs, us, rfl, e, k, ka⟩, h⟩
end
/-! a whole number or a truth -/
inductive IB where
  | inl (i : Int)
  | inr (b : Bool)
  deriving DecidableEq, Inhabited
def ibV (x : IB) : V := match x with | .inl i => .int i | .inr b => .bl b
def ibI (x : IB) : Int := match x with | .inl i => i | .inr _ => 0
def isInl (x : IB) : Bool := match x with | .inl _ => true | .inr _ => false
abbrev pIB : PTy (IB) := pI ibV
section
variable {K : PySem.W.Frag} {H : Hp} {Q : VK} {x : IB} {j : Int}
theorem isi_ib_int (h : Q (.bl true) H) : rIsiU K [ibV x, .ty "int"] H Q := by
  cases x
  · exact isi_int_int h
  · exact isi_bool_int h
theorem isi_ib_bool (h : Q (.bl (!isInl x)) H) : rIsiU K [ibV x, .ty "bool"] H Q := by
  cases x
  · exact isi_int_bool h
  · exact isi_bool_bool h
theorem eqIB (hx : isInl x = true) (h : Q (.bl (decide (ibI x = j))) H) : rEqU K (ibV x) (.int j) H Q := by
  cases x
  · exact rEqU_i h
  · cases hx
theorem neIB (hx : isInl x = true) (h : Q (.bl (!decide (ibI x = j))) H) : rNeU K (ibV x) (.int j) H Q := by
  cases x
  · exact rNeU_i h
  · cases hx
end
/-! one kind seen as a wider one -/
section
variable {K : PySem.W.Frag} {α β γ δ : Type} {p : PTy α} {p' : PTy β} {g : α → β} {r : PRow γ} {r' : PRow δ} {f : γ → δ}
def Cv (p : PTy α) (p' : PTy β) (g : α → β) : Prop := ∀ (H : Hp) (v : V) (d : α), p.rep H v d → p'.rep H v (g d)
def RCv (r : PRow γ) (r' : PRow δ) (g : γ → δ) : Prop := ∀ (H : Hp) (v : List V) (d : γ), r.rep H v d → r'.rep H v (g d)
theorem cvId : Cv p p (fun d => d) := fun _ _ _ h => h
theorem cvII : Cv pInt pIB IB.inl := fun _ _ _ h => h
theorem cvBI : Cv pBl pIB IB.inr := fun _ _ _ h => h
theorem cvSome : Cv pInt pOptI some := fun _ _ _ h => h
theorem cvNone : Cv pNon pOptI (fun _ => none) := fun _ _ _ h => h
theorem AllR.cv {H : Hp} {vs : List V} {ds : List α} (c : Cv p p' g) (h : AllR p H vs ds) : AllR p' H vs (ds.map g) := by
  induction h with
  | nil => exact .nil
  | cons h _ ih => exact .cons (c _ _ _ h) ih
theorem cvList (c : Cv p p' g) : Cv (pList p) (pList p') (List.map g) := fun _ _ _ ⟨a, vs, e, h, q, l⟩ => ⟨a, vs, e, h, q.cv c, by rw [List.length_map]; exact l⟩
theorem cvFro (c : Cv p p' g) : Cv (pFro K p) (pFro K p') (List.map g) := fun _ _ _ ⟨a, vs, e, h, q, l⟩ => ⟨a, vs, e, h, q.cv c, by rw [List.length_map]; exact l⟩
theorem cvVt (c : Cv p p' g) : Cv (pVt K p) (pVt K p') (List.map g) := fun _ _ _ ⟨a, vs, e, h, q, l⟩ => ⟨a, vs, e, h, q.cv c, by rw [List.length_map]; exact l⟩
theorem rcvNil : RCv rNil rNil (fun d => d) := fun _ _ _ h => h
theorem rcvOne (c : Cv p p' g) : RCv (rOne p) (rOne p') g := fun _ _ _ ⟨v, e, h⟩ => ⟨v, e, c _ _ _ h⟩
theorem rcvCons (c : Cv p p' g) (t : RCv r r' f) : RCv (rCons p r) (rCons p' r') (fun d => (g d.1, f d.2)) := fun _ _ _ ⟨v, ws, e, h, q⟩ => ⟨v, ws, e, c _ _ _ h, t _ _ _ q⟩
theorem cvTup (t : RCv r r' f) : Cv (pTup K r) (pTup K r') f := fun _ _ _ ⟨a, vs, e, h, q⟩ => ⟨a, vs, e, h, t _ _ _ q⟩
end
end EL

namespace EL
open PySem PySem.Spec PyProof.Rows L2
/-! ### methods and new instances whose errors go out at the slots as they stand -/
section
variable {X : Cx} {CX : CXT} {k : Nat} {f C : Addr} {fd : FuncData} {ps ks : List Str} {sp : Sp} {W : L2.St → XK} {x m : Str} {p pos apos : Pos} {e o : Expr} {es : List Expr} {kws : List Keyword} {to : TE} {ta tk : TA}
def tMth (C : Addr) (m : Str) (sp : Sp) (W : L2.St → XK) (to : TE) (ta : TA) : TE := fun σ H Q =>
  to σ H fun y H1 => ∃ a dx fs, y = .ref a ∧ H1 a = some (.ins C dx fs) ∧ fs.lookup m = none ∧ ta σ H1 fun ys H2 => sp (y :: ys) H2 Q (W σ)
theorem pe_mth {pl : Sem Bool} (ho : PE X o to) (c : Cls X.K C) (hm : Meth X.K C m f) (F : FnOk X.prog X.w X.K X.mg X.base CX k f fd ps sp) (room : Room k X.A) (hb : Binds X.K fd ps []) (out : ∀ σ, PassesAt CX X σ (W σ)) (args : PA X (e :: es) ta)
    (h1 : starEach (e :: es) X.env = (false, eval e X.env) :: starEach es X.env := by rfl) (h2 : (backTo pos (starEach es X.env)).any (·.1) = false := by rfl)
    (h3 : eval (.Call (.Attribute o m apos) (e :: es) [] pos) X.env = (do
      let ov ← eval o X.env; standAt apos.atName; let (g, first) ← holding [ov] (getMethod ov m pl)
      callWith pos g first (backTo pos (starEach (e :: es) X.env)) (backToKw pos (keywordEach [] X.env))) := by rfl) : PE X (.Call (.Attribute o m apos) (e :: es) [] pos) (tMth C m sp W to ta) := by
  refine ⟨fun pins s σ H Q I0 q0 => ?_⟩
  refine PySem.W.methodCall_KW (pl := pl) (thn (ho.run pins s σ H _ I0 q0) fun ov s1 ⟨y, H1, I1, ry, a, dx, fs, ey, ea, no, q1⟩ => ?_) h3
  subst ey
  obtain rfl : ov = Value.ref a := ry
  refine getmeth_ok I1 ea c hm no (PySem.W.callWith_K (first := [.ref a]) (h₀ := X.base) I0.ok.mod.kin hm.kp (thn (args.run pos pins s1 σ H1 _ I1 q1) fun us s2 ⟨ys, H2, I2, rs, q2⟩ => ⟨I2.kIn, ?_⟩) h1 h2)
  exact run_fnS (us := .ref a :: us) (vs := .ref a :: ys) F room hb (out σ) I2 (.cons rfl rs) q2
theorem pe_mth0 {pl : Sem Bool} (ho : PE X o to) (c : Cls X.K C) (hm : Meth X.K C m f) (F : FnOk X.prog X.w X.K X.mg X.base CX k f fd ps sp) (room : Room k X.A) (hb : Binds X.K fd ps []) (out : ∀ σ, PassesAt CX X σ (W σ))
    (h3 : eval (.Call (.Attribute o m apos) [] [] pos) X.env = (do
      let ov ← eval o X.env; standAt apos.atName; let (g, first) ← holding [ov] (getMethod ov m pl)
      callWith pos g first (backTo pos (starEach [] X.env)) (backToKw pos (keywordEach [] X.env))) := by rfl) : PE X (.Call (.Attribute o m apos) [] [] pos) (tMth C m sp W to tNil) := by
  refine ⟨fun pins s σ H Q I0 q0 => ?_⟩
  refine PySem.W.methodCall_KW (pl := pl) (thn (ho.run pins s σ H _ I0 q0) fun ov s1 ⟨y, H1, I1, ry, a, dx, fs, ey, ea, no, q1⟩ => ?_) h3
  subst ey
  obtain rfl : ov = Value.ref a := ry
  exact getmeth_ok I1 ea c hm no (PySem.W.callWith_K0 (first := [.ref a]) I1.kIn hm.kp (run_fnS (us := [.ref a]) (vs := [.ref a]) F room hb (out σ) I1 (.cons rfl .nil) q1))
def tMak (C : Addr) (sp : Sp) (W : L2.St → XK) (ta : TA) : TE := fun σ H Q => ta σ H fun ys H1 => ∀ n dn, H1 n = none → H1 dn = none → dn ≠ n →
  sp (.ref n :: ys) (upd (upd H1 dn (.own n)) n (.ins C dn [])) (fun v H2 => v = .non ∧ Q (.ref n) H2) (W σ)
theorem run_mak {E : XK} {pins : List (Addr × Obj)} {σ : L2.St} {H : Hp} {s : Shared} {Q : VK} {us : List Value} {ys : List V} (M : L2.Mk X.K C f) (F : FnOk X.prog X.w X.K X.mg X.base CX k f fd ps sp) (room : Room (k + 1) X.A) (hb : Binds X.K fd ps []) (out : PassesAt CX X σ E) (I0 : Inv X pins σ H s) (rs : Vals ys us)
    (q0 : ∀ n dn, H n = none → H dn = none → dn ≠ n → sp (.ref n :: ys) (upd (upd H dn (.own n)) n (.ins C dn [])) (fun v H2 => v = .non ∧ Q (.ref n) H2) E) : wpAny (model X.prog X.w) X.A (call (.ref C) us) (EP X pins σ Q) X.xe s := by
  have want := q0 (s.heap.objs.size + 1) s.heap.objs.size (I0.hok.fresh (Nat.le_succ _)) (I0.hok.fresh (Nat.le_refl _)) (Nat.ne_of_lt (Nat.lt_succ_self _))
  have J := Inv.made (C := C) I0
  have rr : Vals (V.ref (s.heap.objs.size + 1) :: ys) (Value.ref (s.heap.objs.size + 1) :: us) := .cons rfl rs
  have len : (Value.ref (s.heap.objs.size + 1) :: us).length = ps.length := by rw [← rr.length]; exact F.len _ _ _ _ want
  have b := hb _ (Value.ref (s.heap.objs.size + 1) :: us) J.kIn (by rw [List.append_nil]; exact len)
  rw [List.append_nil] at b
  refine wpAny_call (make_map (f := f) I0.kIn M.makes M.init (beq_iff_eq.mp M.fn) (codeAny_mono (F.run _ X.stack _ _ ⟨Value.ref (s.heap.objs.size + 1) :: us, []⟩ _ _ _ E (room.make C us []) (J.env0.make C us []) b rr want) fun r t z => ?_))
  cases r with
  | error er => exact out pins _ _ er t J z
  | ok fl =>
    cases fl with
    | ret u => obtain ⟨v, H3, J3, rv, ev, q3⟩ := J.after z; subst ev; exact ⟨rv, ⟨V.ref (s.heap.objs.size + 1), H3, J3, rfl, q3⟩⟩
    | next => exact z.elim
    | brk => exact z.elim
    | cont => exact z.elim
theorem pe_mak (M : L2.Mk X.K C f) (F : FnOk X.prog X.w X.K X.mg X.base CX k f fd ps sp) (room : Room (k + 1) X.A) (hg : Gl X x) (hm : X.mg x = some (.ref C)) (hb : Binds X.K fd ps []) (out : ∀ σ, PassesAt CX X σ (W σ)) (args : PA X (e :: es) ta)
    (hd : (x == ("__debug__" : Str)) = false := by decide) (h1 : starEach (e :: es) X.env = (false, eval e X.env) :: starEach es X.env := by rfl) (h2 : (backTo pos (starEach es X.env)).any (·.1) = false := by rfl) : PE X (.Call (.Name x p) (e :: es) [] pos) (tMak C sp W ta) := by
  refine ⟨fun pins s σ H Q I0 q0 => wpAny_Call_Name_kw (ld_glob I0 hg hm (PySem.W.callWith_K (h₀ := X.base) I0.ok.mod.kin M.kp (thn (args.run pos pins s σ H _ I0 q0) fun us s1 ⟨ys, H1, I1, rs, q1⟩ => ⟨I1.kIn, ?_⟩) h1 h2) hd)⟩
  exact run_mak M F room hb (out σ) I1 rs q1
theorem pass0S {X : Cx} : ∀ σ : L2.St, PassesAt (L2.CX X.prog X.w) X σ ((fun _ => fun _ _ _ => False) σ) := fun σ pins H s er t I z => passLF (X := X) pins σ H s er t I z
end
/-! ### sum, max, min of a tuple -/
section
variable {prog : Program} {w : World} {A : Around} {E : Value → Shared → Prop} {s : Shared} {l : Addr} {xs : Array (Int × Tok)} {its : List Value} {ns : List Int}
theorem iter_ints {Q : Value → Shared → Prop} (hl : s.heap.IsTuple l (intItems xs))
    (h : ∀ t : Shared, t = { s with heap := s.heap.push { cls := .type "tuple_iterator", data := .fields #[.ref l, .int 0 0] } } → (t.heap.IsTupleIter s.heap.objs.size l 0 ∧ t.heap.IsTuple l (intItems xs)) → (∀ b ∈ [s.heap.objs.size, l], b < t.heap.objs.size) → l ≠ s.heap.objs.size → (∀ b o, s.heap.get? b = some o → b ∉ [s.heap.objs.size] ∧ t.heap.get? b = some o) → Q (.ref s.heap.objs.size) t) : wpAny (model prog w) A (pyIter (.ref l)) Q E s := by
  have below : l < s.heap.objs.size := by obtain ⟨_, e, _⟩ := hl; exact Heap.lt_size e
  refine wpAny_pyIter_tuple hl (h _ rfl ⟨⟨_, Heap.get?_push_size _ rfl, rfl, rfl⟩, hl.push _⟩ (fun b hb => ?_) (Nat.ne_of_lt below) fun b o e => ⟨fun z => ?_, Heap.get?_push_of_some _ e⟩)
  · show b < (s.heap.push _).objs.size
    rw [Heap.size_push]
    rcases List.mem_cons.mp hb with z | z
    · rw [z]; exact Nat.lt_succ_self _
    · rw [List.mem_singleton.mp z]; exact Nat.lt_succ_of_lt below
  · exact Nat.ne_of_lt (Heap.lt_size e) (List.mem_singleton.mp z)
theorem sum_tup {Q : Value → Shared → Prop} (hh : A.handled = none) (hl : s.heap.IsTuple l its.toArray) (hi : IntsAre its ns) (h : ∀ h' tk t', (∀ b o, s.heap.get? b = some o → h'.get? b = some o) → Q (.int ns.sum t') { s with heap := h', toks := tk }) : wpAny (model prog w) A (call (.builtin "sum") [.ref l]) Q E s := by
  obtain ⟨xs, e⟩ := hi.allInts.items
  have hn : numsOf (intItems xs).toList = ns := by rw [← e]; exact hi.numsOf
  rw [nums_intItems] at hn
  rw [e] at hl
  refine call_sum_walkG (iter_ints hl fun t et st below ne old => ?_)
  subst et
  refine ⟨_, _, _, _, _, _, numAt xs, rfl, Walks.tuple (A := A.in1) hh _ l ne (intItems xs), st, below, (fun _ _ => intItems_at), fun h' tk t' hk => ?_⟩
  have z := h h' tk t' fun b o eb => hk b o (old b o eb).1 (old b o eb).2
  have es : preSum (numAt xs) (intItems xs).size = ns.sum := by rw [← hn, show (intItems xs).size = xs.size by simp [intItems], preSum_eq, List.take_of_length_le (by simp)]
  rw [es]
  exact z
end
section
variable {X : Cx}
def rSumT (K : PySem.W.Frag) : List V → Hp → VK → Prop := fun vs H Q => ∃ (a : Addr) (ns : List Int), vs = [V.ref a] ∧ SqT K H a (ns.map V.int) ∧ Q (.int ns.sum) H
theorem cr_sumT (hc : X.calm = true) : CallR X (.builtin "sum") (rSumT X.K) := by
  rintro pins s σ H vs us Q I r ⟨a, ns, rfl, hs, q⟩
  obtain ⟨its, rv, hl, _⟩ := I.tuple hs
  rw [Vals.ref1 r]
  exact sum_tup (I.ok.hd hc) hl rv.ints fun h' tk t' hk => ⟨.int _, H, I.kept hk, ⟨_, rfl⟩, q⟩
def rSumU (K : PySem.W.Frag) : List V → Hp → VK → Prop := fun vs H Q => rSum K vs H Q ∨ rSumT K vs H Q
theorem cr_sumUK (K : PySem.W.Frag) (hc : X.calm = true) (h : X.K = K := by rfl) : CallR X (.builtin "sum") (rSumU K) := h ▸ CallR.or (cr_sum hc) (cr_sumT hc)
end
end EL
namespace EL
open PySem PySem.Spec PyProof.Rows L2
theorem ps_fldK {X : Cx} {o value : Expr} {f : Str} {pos pos' : Pos} {ta tv : TE} (K : PySem.W.Frag) (ha : PE X o ta) (hv : PE X value tv) (hs : swapsWith value (some (.Attribute o f pos')) pos.line X.env = pure false) (h : X.K = K := by rfl) : PS X (.Assign [.Attribute o f pos'] value pos) (sFld K ta tv f) := h ▸ ps_fld ha hv hs
end EL

namespace EL
open PySem PySem.Spec PyProof.Rows L2 Px
/-! ### instances of own classes -/
structure OwnC (K : PySem.W.Frag) (C : Addr) : Prop where
  cl : Cls K C
  ha : PySem.W.findIn K (.ref C) "__class__" = some (some (.builtin "object.__class__"))
  hn : PySem.W.specialIn K (.builtin "object.__class__") "__get__" = some (some (.builtin "getset_descriptor.__get__"))
  ht : PySem.W.takesIn K (.builtin "object.__class__") = some true
  hm : PySem.W.mroIn K C (.type "object") = some true
  self : PySem.W.kitOne K (.ref C) (.ref C) = some true
/-- its fields by name -/
def pIns (C : Addr) (names : List Str) {τ : Type} (r : PRow τ) : PTy τ :=
  ⟨fun H v d => ∃ (a dx : Addr) (fs : List (Str × V)), v = .ref a ∧ H a = some (.ins C dx fs) ∧ fs.map (fun z => z.1) = names ∧ r.rep H (fs.map (fun z => z.2)) d, fun {H H' v d} s h => by
    obtain ⟨a, dx, fs, e, h, n, q⟩ := h
    exact ⟨a, dx, fs, e, s _ _ h, n, r.mono s q⟩⟩
theorem lookup_at {f : Str} : ∀ {fs : List (Str × V)} {names : List Str} {j : Nat}, fs.map (·.1) = names → names.findIdx? (· == f) = some j → fs.lookup f = (fs.map (·.2))[j]?
  | [], _, j, h, hj => by
    subst h
    simp at hj
  | (g, x) :: r, _, j, h, hj => by
    subst h
    rw [List.map_cons, List.findIdx?_cons] at hj
    by_cases c : (g == f) = true
    · rw [if_pos c] at hj
      cases hj
      have c2 : (f == g) = true := by
        have := beq_iff_eq.mp c
        subst this
        exact beq_self_eq_true g
      rw [List.lookup_cons, c2]
      rfl
    · rw [if_neg c] at hj
      have c2 : (f == g) = false := by
        rw [Bool.eq_false_iff]
        intro z
        have := beq_iff_eq.mp z
        subst this
        exact c (beq_self_eq_true f)
      obtain ⟨i, hi, rfl⟩ := Option.map_eq_some_iff.mp hj
      rw [List.lookup_cons, c2, lookup_at rfl hi]
      rfl
theorem lookup_no {f : Str} : ∀ {fs : List (Str × V)} {names : List Str}, fs.map (·.1) = names → names.any (· == f) = false → fs.lookup f = none
  | [], _, _, _ => rfl
  | (g, x) :: r, _, h, hj => by
    subst h
    rw [List.map_cons, List.any_cons, Bool.or_eq_false_iff] at hj
    have c2 : (f == g) = false := by
      rw [Bool.eq_false_iff]
      intro z
      have := beq_iff_eq.mp z
      subst this
      rw [beq_self_eq_true] at hj
      cases hj.1
    rw [List.lookup_cons, c2]
    exact lookup_no rfl hj.2
def FldV (K : PySem.W.Frag) (f : Str) (x : V) (H1 : Hp) (Q : VK) : Prop := ∃ a C dx fs v, x = .ref a ∧ H1 a = some (.ins C dx fs) ∧ Cls K C ∧ NoAttr K C f ∧ fs.lookup f = some v ∧ Q v H1
def MthV (C : Addr) (m : Str) (y : V) (H1 : Hp) (A : Prop) : Prop := ∃ a dx fs, y = .ref a ∧ H1 a = some (.ins C dx fs) ∧ fs.lookup m = none ∧ A
def MakV (C : Addr) (sp : Sp) (E : XK) (ys : List V) (H1 : Hp) (Q : VK) : Prop := ∀ n dn, H1 n = none → H1 dn = none → dn ≠ n →
  sp (.ref n :: ys) (upd (upd H1 dn (.own n)) n (.ins C dn [])) (fun v H2 => v = .non ∧ Q (.ref n) H2) E
def SetF (K : PySem.W.Frag) (f : Str) (x y : V) (H2 : Hp) (R : Hp → Prop) : Prop := ∃ a C dx fs, x = .ref a ∧ H2 a = some (.ins C dx fs) ∧ Cls K C ∧ NoAttr K C f ∧ fs.length < 1000 ∧ R (upd H2 a (.ins C dx (putF f y fs)))
section
variable {K : PySem.W.Frag} {σ : L2.St} {H W : Hp} {Q : VK} {te tv : TE} {ts : TA} {C : Addr} {m f : Str} {sp : Sp} {We : L2.St → XK} {E : XK} {x y v : V} {names : List Str} {τ α : Type} {r : PRow τ} {d : τ} {p : PTy α} {g : τ → α} {j : Nat} {ys : List V}
theorem tFld_i (h : te σ H fun x H1 => FldV K f x H1 Q) : tFld K te f σ H Q := h
theorem tMth_i (h : te σ H fun y H1 => MthV C m y H1 (ts σ H1 fun ys H2 => sp (y :: ys) H2 Q (We σ))) : tMth C m sp We te ts σ H Q := by
  refine (congrFun (congrFun (congrFun (show tMth C m sp We te ts = fun σ H Q => te σ H fun y H1 => MthV C m y H1 (ts σ H1 fun ys H2 => sp (y :: ys) H2 Q (We σ)) from ?_) σ) H) Q).mpr h
  rfl
theorem tMak_i (h : ts σ H fun ys H1 => MakV C sp (We σ) ys H1 Q) : tMak C sp We ts σ H Q := h
theorem sFld_j {N : L2.St → Hp → Prop} {Rt : VK} {Bk Ct : L2.St → Hp → Prop} (h : tv σ H fun y H1 => te σ H1 fun x H2 => SetF K f x y H2 (N σ)) : sFld K te tv f ⟨N, Rt, Bk, Ct⟩ σ H := h
theorem fldS (h : (pIns C names r).rep W v d) (s : Same W H) (c : Cls K C) (n : NoAttr K C f) (hg : RGet r j p g) (hj : names.findIdx? (· == f) = some j) (k : ∀ u, p.rep W u (g d) → Q u H) : FldV K f v H Q := by
  obtain ⟨a, dx, fs, rfl, e, hn, hr⟩ := h
  obtain ⟨u, hu, ru⟩ := hg W _ d hr
  exact ⟨a, C, dx, fs, u, rfl, s _ _ e, c, n, (lookup_at hn hj).trans hu, k u ru⟩
theorem fldI {fv : α → V} (h : (pIns C names r).rep W v d) (s : Same W H) (c : Cls K C) (n : NoAttr K C f) (hg : RGet r j (pI fv) g) (hj : names.findIdx? (· == f) = some j) (k : Q (fv (g d)) H) : FldV K f v H Q :=
  fldS h s c n hg hj fun u hu => by rw [show u = fv (g d) from hu]; exact k
theorem mthS {A : Prop} (h : (pIns C names r).rep W v d) (s : Same W H) (hm : names.any (· == m) = false) (k : A) : MthV C m v H A := by
  obtain ⟨a, dx, fs, rfl, e, hn, _⟩ := h
  exact ⟨a, dx, fs, rfl, s _ _ e, lookup_no hn hm, k⟩
theorem makS (h : ∀ n dn H2, H n = none → Same H H2 → Same H (del H2 n) → H2 n = some (.ins C dn []) → sp (.ref n :: ys) H2 (fun v H3 => v = .non ∧ Q (.ref n) H3) E) : MakV C sp E ys H Q := fun n dn hn hd ne => by
  refine h n dn _ hn (Same.upd (Same.new hd) hn) (fun b u e => ?_) upd_same
  have hb : b ≠ n := ne_of_none e hn
  rw [del_ne hb, upd_ne hb, upd_ne (ne_of_none e hd)]
  exact e
theorem setF_i {a dx : Addr} {fs fs' : List (Str × V)} {R : Hp → Prop} (e : H a = some (.ins C dx fs)) (c : Cls K C) (n : NoAttr K C f) (hp : putF f y fs = fs') (hl : fs.length < 1000) (h : ∀ H', Off a H H' → H' a = some (.ins C dx fs') → R H') : SetF K f (.ref a) y H R :=
  ⟨a, C, dx, fs, rfl, e, c, n, hl, h _ off_upd (by rw [upd_same, hp])⟩
theorem isiC (h : (pIns C names r).rep W v d) (s : Same W H) (o : OwnC K C) (k : Q (.bl true) H) : rIsiU K [v, .ref C] H Q := by
  obtain ⟨a, dx, fs, rfl, e, _, _⟩ := h
  exact .inl ⟨_, _, _, _, true, rfl, .own C, .base (.ins (s _ _ e) o.cl o.ha o.hn o.ht o.hm), o.self, k⟩
/-- what a constructor gives -/
def RetF (ps : List Addr) (C : Addr) (dx n : Addr) (names : List Str) (r : PRow τ) (H : Hp) (Q : VK) (d : τ) : Prop := ∀ H' fs, Same (del H n) H' → H' n = some (.ins C dx fs) → fs.map (·.1) = names → r.rep (dels H' ps) (fs.map (·.2)) d → Q .non H'
end
/-! ### None or a thing -/
def optG {α : Type} [Inhabited α] (o : Option α) : α := o.getD default
section
variable {K : PySem.W.Frag} {H W : Hp} {Q : VK} {v : V} {α β : Type} {p : PTy α} {r : PRow β} {o : Option α} {d : α}
theorem optNone : (pOpt p).rep H .non none := rfl
theorem optSome (h : p.rep H v d) (n : v ≠ .non) : (pOpt p).rep H v (some d) := ⟨h, n⟩
theorem tupNe {d : β} (h : (pTup K r).rep H v d) : v ≠ .non := by obtain ⟨a, vs, rfl, _⟩ := h; exact fun z => nomatch z
theorem listNe {xs : List α} (h : (pList p).rep H v xs) : v ≠ .non := by obtain ⟨a, vs, rfl, _⟩ := h; exact fun z => nomatch z
theorem froNe {xs : List α} (h : (pFro K p).rep H v xs) : v ≠ .non := by obtain ⟨a, vs, rfl, _⟩ := h; exact fun z => nomatch z
theorem vtNe {xs : List α} (h : (pVt K p).rep H v xs) : v ≠ .non := by obtain ⟨a, vs, rfl, _⟩ := h; exact fun z => nomatch z
theorem insNe {C : Addr} {names : List Str} {d : β} (h : (pIns C names r).rep H v d) : v ≠ .non := by obtain ⟨a, dx, fs, rfl, _⟩ := h; exact fun z => nomatch z
theorem optGet [Inhabited α] (h : (pOpt p).rep W v o) (hc : o.isSome = true) : p.rep W v (optG o) := by
  cases o with
  | none => cases hc
  | some d => exact h.1
theorem optIs (h : (pOpt p).rep W v o) : decide (v = .non) = o.isNone := by
  cases o with
  | none => rw [show v = .non from h]; rfl
  | some d => exact decide_eq_false h.2
theorem isN_p (h : (pOpt p).rep W v o) (k : Q (.bl o.isNone) H) : rIsN v .non H Q := rIsN_i (by rw [optIs h]; exact k)
theorem notN_p (h : (pOpt p).rep W v o) (k : Q (.bl (!o.isNone)) H) : rNotN v .non H Q := rNotN_i (by rw [optIs h]; exact k)
theorem isiT {d : β} (s : Same W H) (h : (pTup K r).rep W v d) (k : Q (.bl true) H) : rIsiU K [v, .ty "tuple"] H Q := by
  obtain ⟨a, vs, rfl, hs, _⟩ := h
  exact isi_tupS (s.seqT hs) k
theorem isiVt {xs : List α} (s : Same W H) (h : (pVt K p).rep W v xs) (k : Q (.bl true) H) : rIsiU K [v, .ty "tuple"] H Q := by
  obtain ⟨a, vs, rfl, hs, _⟩ := h
  exact isi_tupS (s.seqT hs) k
theorem isi_non_tup (h : Q (.bl false) H) : rIsiU K [.non, .ty "tuple"] H Q := isi_ty (.base .non) (by decide +kernel) h
theorem isi_str_str {x : Str} (h : Q (.bl true) H) : rIsiU K [.str x, .ty "str"] H Q := isi_ty (.base (.str x)) (by decide +kernel) h
theorem isiOT {o : Option β} (s : Same W H) (h : (pOpt (pTup K r)).rep W v o) (k : Q (.bl o.isSome) H) : rIsiU K [v, .ty "tuple"] H Q := by
  cases o with
  | none => rw [show v = .non from h]; exact isi_non_tup k
  | some d => exact isiT s h.1 k
end
/-! ### lists unpacked; greatest, least, sums -/
theorem gLst_i {K : PySem.W.Frag} {σ : L2.St} {H W : Hp} {R : L2.St → Hp → Prop} {n : Nat} {t : TGs} {α : Type} {p : PTy α} {v : V} {xs : List α} (hq : Sl K p H W v xs) (k : ∀ vs, AllR p W vs xs → vs.length = n ∧ t vs σ H R) : gLst K n t v σ H R := by
  obtain ⟨a, vs, rfl, hs, hr, _⟩ := hq
  obtain ⟨h1, h2⟩ := k vs hr
  exact ⟨a, vs, rfl, hs, h1, h2⟩
def maxL (xs : List Int) : Int := xs.max?.getD 0
def minL (xs : List Int) : Int := xs.min?.getD 0
section
variable {K : PySem.W.Frag} {H W : Hp} {Q : VK} {v : V} {ns : List Int}
theorem maxS (hq : Sl K pInt H W v ns) (hn : 0 < ns.length) (h : Q (.int (maxL ns)) H) : rMax K [v] H Q := by
  obtain ⟨a, vs, rfl, hs, hr, _⟩ := hq
  rw [hr.imm] at hs
  refine ⟨a, ns, rfl, hs, hn, fun m hm ha => ?_⟩
  have e : ns.max? = some m := List.max?_eq_some_iff.mpr ⟨hm, ha⟩
  unfold maxL at h
  rw [e] at h
  exact h
theorem minS (hq : Sl K pInt H W v ns) (hn : 0 < ns.length) (h : Q (.int (minL ns)) H) : rMin K [v] H Q := by
  obtain ⟨a, vs, rfl, hs, hr, _⟩ := hq
  rw [hr.imm] at hs
  refine ⟨a, ns, rfl, hs, hn, fun m hm ha => ?_⟩
  have e : ns.min? = some m := List.min?_eq_some_iff.mpr ⟨hm, ha⟩
  unfold minL at h
  rw [e] at h
  exact h
theorem sumU (ns : List Int) (hq : Sl K pInt H W v ns) (h : Q (.int ns.sum) H) : rSumU K [v] H Q := .inl (sumS ns hq h)
theorem sumUT (ns : List Int) (hq : St' K pInt H W v ns) (h : Q (.int ns.sum) H) : rSumU K [v] H Q := by
  obtain ⟨a, vs, rfl, hs, hr, _⟩ := hq
  rw [hr.imm] at hs
  exact .inr ⟨a, ns, rfl, hs, h⟩
theorem rgS' {n : Int} (hn : 0 ≤ n ∧ n ≤ 1000000) (h : ∀ q H', H q = none → Same H H' → ∀ us, H' q = some (.lst us) → AllR pInt W us (rangeL 0 n) → (rangeL 0 n).length ≤ LIM → Q (.ref q) H') : Rg1v (.int n) H Q := by
  refine rg1_i hn fun q H' nq s e => ?_
  have e2 : rgV 0 n = (rangeL 0 n).map V.int := by unfold rgV rangeL; rw [List.map_map]; rfl
  rw [e2] at e
  refine h q H' nq s _ e (AllR.ofImm _) ?_
  rw [rangeL_len]
  exact Nat.le_trans (by omega : _ ≤ 1000000) (Nat.le_of_ble_eq_true rfl)
end
/-! ### a op b op c -/
section
variable {K : PySem.W.Frag} {σ : L2.St} {H : Hp} {Q : VK}
/-- the third part pure -/
theorem chainP {r1 r2 : R2} {ta tb tc : TE} {x y : V} {b c : Bool} (h1 : ∀ R : VK, R x H → ta σ H R) (h2 : ∀ R : VK, R y H → tb σ H R) (h3 : ∀ R : VK, R (.bl b) H → r1 x y H R)
    (h4 : b = true → ∀ R : VK, R (.bl c) H → tc σ H fun w H4 => r2 y w H4 R) (h : Q (.bl (b && c)) H) : tChain r1 r2 ta tb tc σ H Q := by
  refine tChain_i (h1 _ (h2 _ (h3 _ (IsBl_i ?_))))
  cases b
  · exact Br_f h
  · exact Br_t (h4 rfl _ h)
end
end EL

namespace Nm
/-! ### primes by trial -/
def noDiv : Nat → Nat → Nat → Bool
  | 0, _, _ => true
  | f + 1, d, n => if n < d * d then true else if n % d = 0 then false else noDiv f (d + 2) n
def isPN (n : Nat) : Bool := decide (3 ≤ n) && (decide (n % 2 = 1) && noDiv n 3 n)
def isP (n : Int) : Bool := isPN n.toNat
theorem noDiv_big {f d n : Nat} (h : n < d * d) : noDiv f d n = true := by
  cases f with
  | zero => rfl
  | succ f => unfold noDiv; rw [if_pos h]
theorem noDiv_hit {f d n : Nat} (h : d * d ≤ n) (h2 : n % d = 0) : noDiv (f + 1) d n = false := by
  unfold noDiv
  rw [if_neg (by omega), if_pos h2]
theorem noDiv_go {f d n : Nat} (h : d * d ≤ n) (h2 : n % d ≠ 0) : noDiv (f + 1) d n = noDiv f (d + 2) n := by
  rw [noDiv, if_neg (by omega), if_neg h2]
/-- no divisor from d on in steps of two, up to the root -/
theorem noDiv_all : ∀ {f d n : Nat}, noDiv f d n = true → n < d + 2 * f → ∀ k, (d + 2 * k) * (d + 2 * k) ≤ n → n % (d + 2 * k) ≠ 0
  | 0, d, n, _, hf, k, hk => by
    have : d + 2 * k ≤ (d + 2 * k) * (d + 2 * k) := Nat.le_mul_self _
    omega
  | f + 1, d, n, h, hf, k, hk => by
    by_cases hb : n < d * d
    · exfalso
      have : d * d ≤ (d + 2 * k) * (d + 2 * k) := Nat.mul_le_mul (by omega) (by omega)
      omega
    · by_cases hm : n % d = 0
      · rw [noDiv_hit (by omega) hm] at h
        cases h
      · rw [noDiv_go (by omega) hm] at h
        cases k with
        | zero => simpa using hm
        | succ k =>
          have e : d + 2 * (k + 1) = (d + 2) + 2 * k := by omega
          rw [e] at hk ⊢
          exact noDiv_all h (by omega) k hk
theorem mod_of_dvd_lt {n d : Nat} (h : n % d = 0) : d ∣ n := Nat.dvd_of_mod_eq_zero h
/-- a number that the trial lets has no divisor but 1 and itself -/
theorem isPN_prime {n : Nat} (h : isPN n = true) : 3 ≤ n ∧ n % 2 = 1 ∧ ∀ d, 1 < d → d < n → n % d ≠ 0 := by
  unfold isPN at h
  simp only [Bool.and_eq_true, decide_eq_true_eq] at h
  obtain ⟨h3, h2, hn⟩ := h
  refine ⟨h3, h2, ?_⟩
  -- no small divisor
  have small : ∀ d, 1 < d → d * d ≤ n → n % d ≠ 0 := by
    intro d hd hdd hm
    have hdv : d ∣ n := Nat.dvd_of_mod_eq_zero hm
    by_cases ho : d % 2 = 0
    · have : 2 ∣ n := Nat.dvd_trans (Nat.dvd_of_mod_eq_zero ho) hdv
      have := Nat.mod_eq_zero_of_dvd this
      omega
    · have e : d = 3 + 2 * ((d - 3) / 2) := by omega
      have q := noDiv_all hn (by omega) ((d - 3) / 2)
      rw [← e] at q
      exact q hdd hm
  intro d hd hlt hm
  have hdv : d ∣ n := Nat.dvd_of_mod_eq_zero hm
  obtain ⟨c, hc⟩ := hdv
  by_cases hdd : d * d ≤ n
  · exact small d hd hdd hm
  · have hcd : c < d := by
      apply Nat.lt_of_mul_lt_mul_left (a := d)
      omega
    have hc1 : 1 < c := by
      rcases Nat.lt_or_ge 1 c with z | z
      · exact z
      · exfalso
        have : c = 0 ∨ c = 1 := by omega
        rcases this with rfl | rfl
        · omega
        · omega
    have hcc : c * c ≤ n := by
      rw [hc]
      exact Nat.mul_le_mul_right c (by omega)
    refine small c hc1 hcc ?_
    rw [hc]
    exact Nat.mul_mod_left d c
end Nm

namespace Nm
/-! ### residues -/
theorem mul_mod_r (x y p : Int) : x * (y % p) % p = x * y % p := by rw [Int.mul_emod, Int.emod_emod, ← Int.mul_emod]
theorem mul_mod_l (x y p : Int) : (x % p) * y % p = x * y % p := by rw [Int.mul_emod, Int.emod_emod, ← Int.mul_emod]
theorem mod_of_eq {a b p k : Int} (h : a = b + p * k) : a % p = b % p := by rw [h, Int.add_mul_emod_self_left]
theorem eq_of_mod {a b p : Int} (h : a % p = b % p) : ∃ k, a = b + p * k := ⟨a / p - b / p, by
  have h1 := Int.mul_ediv_add_emod a p
  have h2 := Int.mul_ediv_add_emod b p
  grind⟩
theorem mod_self {a p : Int} (h : 0 ≤ a ∧ a < p) : a % p = a := Int.emod_eq_of_lt h.1 h.2
theorem inv_unique {p x y z : Int} (hy : 0 ≤ y ∧ y < p) (hz : 0 ≤ z ∧ z < p) (h1 : x * y % p = 1) (h2 : x * z % p = 1) : y = z := by
  have h3 : x * y % p = x * z % p := h1.trans h2.symm
  obtain ⟨a, ha⟩ := eq_of_mod h3
  have e := Int.mul_ediv_add_emod (x * y) p
  have q : y % p = z % p := by
    refine mod_of_eq (k := y * a - (x * y / p) * (y - z)) ?_
    rw [h1] at e
    grind
  rw [mod_self hy, mod_self hz] at q
  exact q
/-- the residue whose product with x is 1 (0 if there is none) -/
def inv (p x : Int) : Int := (((List.range p.toNat).find? fun (y : Nat) => decide (x * (y : Int) % p = 1)).getD 0 : Nat)
theorem inv_eq {p x y : Int} (hy : 0 ≤ y ∧ y < p) (h : x * y % p = 1) : inv p x = y := by
  unfold inv
  have hm : y.toNat ∈ List.range p.toNat := List.mem_range.mpr (by omega)
  cases e : (List.range p.toNat).find? fun (y : Nat) => decide (x * (y : Int) % p = 1) with
  | none =>
    have q := List.find?_eq_none.mp e _ hm
    rw [Int.toNat_of_nonneg hy.1] at q
    simp [h] at q
  | some z =>
    have q := List.find?_some e
    have q2 := List.mem_of_find?_eq_some e
    have hz := List.mem_range.mp q2
    simp only [decide_eq_true_eq] at q
    show ((z : Nat) : Int) = y
    exact inv_unique ⟨by omega, by omega⟩ hy q h
/-- a common divisor of an odd prime and a smaller number is 1 -/
theorem gcd_prime {p x : Nat} (h : isPN p = true) (h1 : 1 ≤ x) (h2 : x < p) : Nat.gcd x p = 1 := by
  have hp := (isPN_prime h).2.2 (Nat.gcd x p)
  have d1 : Nat.gcd x p ∣ x := Nat.gcd_dvd_left x p
  have d2 : Nat.gcd x p ∣ p := Nat.gcd_dvd_right x p
  have l1 : Nat.gcd x p ≤ x := Nat.le_of_dvd (by omega) d1
  have l2 : 0 < Nat.gcd x p := Nat.gcd_pos_of_pos_left _ (by omega)
  rcases Nat.lt_or_ge 1 (Nat.gcd x p) with z | z
  · exact absurd (Nat.mod_eq_zero_of_dvd d2) (hp z (by omega))
  · omega
theorem isP_nat {p : Int} (h : isP p = true) : isPN p.toNat = true ∧ 3 ≤ p := by
  have h' : isPN p.toNat = true := h
  have := (isPN_prime h').1
  exact ⟨h', by omega⟩
/-- the word of the loop that finds the inverse -/
structure InvAt (p x r o f l : Int) : Prop where
  r0 : 0 < r
  rb : r < p
  o0 : 0 ≤ o
  ob : o ≤ p
  g : Nat.gcd r.toNat o.toNat = 1
  hf : ∃ k, f * x = r + p * k
  hl : ∃ k, l * x = o + p * k
theorem invAt_start {p x : Int} (hp : isP p = true) (h1 : 1 ≤ x) (h2 : x ≤ p - 1) : InvAt p x x p 1 0 := by
  have hq := isP_nat hp
  exact ⟨by omega, by omega, by omega, by omega, gcd_prime hq.1 (by omega) (by omega), ⟨0, by grind⟩, ⟨-1, by grind⟩⟩
theorem invAt_step {p x r o f l : Int} (h : InvAt p x r o f l) (hr : 1 < r) : InvAt p x (o - o / r * r) r (l - o / r * f) f ∧ o - o / r * r < r ∧ 0 ≤ o / r ∧ o / r ≤ o := by
  have e : o - o / r * r = o % r := by
    have := Int.mul_ediv_add_emod o r
    grind
  have hm0 : 0 ≤ o % r := Int.emod_nonneg _ (by omega)
  have hm1 : o % r < r := Int.emod_lt_of_pos _ (by omega)
  have hg : Nat.gcd (o % r).toNat r.toNat = 1 := by
    have e2 : (o % r).toNat = o.toNat % r.toNat := Int.toNat_emod h.o0 (by omega)
    rw [e2]
    have q2 := h.g
    rw [Nat.gcd_rec] at q2
    exact q2
  have hpos : 0 < o % r := by
    rcases Int.lt_or_eq_of_le hm0 with z | z
    · exact z
    · exfalso
      rw [← z] at hg
      simp at hg
      omega
  obtain ⟨k1, h1⟩ := h.hf
  obtain ⟨k2, h2⟩ := h.hl
  refine ⟨⟨by rw [e]; exact hpos, by rw [e]; have := h.rb; omega, by omega, by have := h.rb; omega, by rw [e]; exact hg, ⟨k2 - o / r * k1, by grind⟩, ⟨k1, h1⟩⟩, by rw [e]; exact hm1, ?_, ?_⟩
  · exact Int.ediv_nonneg h.o0 (by omega)
  · exact Int.ediv_le_self _ h.o0
theorem invAt_end {p x r o f l : Int} (h : InvAt p x r o f l) (hr : ¬ 1 < r) : x * (f % p) % p = 1 ∧ 0 ≤ f % p ∧ f % p < p ∧ inv p x = f % p := by
  have h0 := h.r0
  have hb := h.rb
  have e : r = 1 := by omega
  obtain ⟨k, hk⟩ := h.hf
  have q : x * (f % p) % p = 1 := by
    rw [mul_mod_r, mod_of_eq (b := 1) (k := k) (by grind), Int.emod_eq_of_lt (by omega) (by omega)]
  have b0 : 0 ≤ f % p := Int.emod_nonneg _ (by omega)
  have b1 : f % p < p := Int.emod_lt_of_pos _ (by omega)
  exact ⟨q, b0, b1, inv_eq ⟨b0, b1⟩ q⟩
theorem inv_of_word {p x : Int} : ∀ (n : Nat) (r o f l : Int), InvAt p x r o f l → r.toNat ≤ n → x * inv p x % p = 1 ∧ 0 ≤ inv p x ∧ inv p x < p
  | 0, r, o, f, l, h, hn => by
    have := h.r0
    omega
  | n + 1, r, o, f, l, h, hn => by
    by_cases hr : 1 < r
    · obtain ⟨h2, hlt, _, _⟩ := invAt_step h hr
      exact inv_of_word n _ _ _ _ h2 (by have := h2.r0; omega)
    · obtain ⟨h1, h2, h3, h4⟩ := invAt_end h hr
      rw [h4]
      exact ⟨h1, h2, h3⟩
theorem inv_spec {p x : Int} (hp : isP p = true) (h1 : 1 ≤ x) (h2 : x ≤ p - 1) : x * inv p x % p = 1 ∧ 0 ≤ inv p x ∧ inv p x < p :=
  inv_of_word x.toNat _ _ _ _ (invAt_start hp h1 h2) (Nat.le_refl _)
/-- the one k with a k = b -/
theorem quot_hit {p a b : Int} (hp : isP p = true) (h1 : 1 ≤ a) (h2 : a ≤ p - 1) (hb : 0 ≤ b ∧ b < p) : a * (b * inv p a % p) % p = b := by
  have q := (inv_spec hp h1 h2).1
  rw [mul_mod_r]
  have e : a * (b * inv p a) = b * (a * inv p a) := by grind
  rw [e, Int.mul_emod, q, Int.mul_one, Int.emod_emod, mod_self hb]
theorem quot_unique {p a b k : Int} (hp : isP p = true) (h1 : 1 ≤ a) (h2 : a ≤ p - 1) (hk : 0 ≤ k ∧ k < p) (h : a * k % p = b) : k = b * inv p a % p := by
  have q := (inv_spec hp h1 h2).1
  rw [← h, mul_mod_l]
  have e : a * k * inv p a = k * (a * inv p a) := by grind
  rw [e, Int.mul_emod, q, Int.mul_one, Int.emod_emod, mod_self hk]
end Nm

namespace Nm
/-! ### lists over a range -/
theorem filt_succ {f : Nat → Int} {P : Int → Bool} {i : Nat} :
    ((List.range (i + 1)).map f).filter P = ((List.range i).map f).filter P ++ (if P (f i) = true then [f i] else []) := by
  rw [List.range_succ, List.map_append, List.filter_append]
  congr 1
  rw [List.map_singleton, List.filter_cons, List.filter_nil]
/-- the number of values below n that a list holds is at most its length -/
theorem pigeon : ∀ (n : Nat) (L : List Int), (∀ k : Nat, k < n → (k : Int) ∈ L) → n ≤ L.length
  | 0, _, _ => Nat.zero_le _
  | n + 1, L, h => by
    have q := pigeon n (L.erase (n : Int)) fun k hk => by
      refine (List.mem_erase_of_ne (by omega)).mpr (h k (by omega))
    have hm := h n (by omega)
    have e := List.length_erase_of_mem hm
    have : 0 < L.length := List.length_pos_of_mem hm
    omega
/-! ### primes -/
theorem noDiv_of {n : Nat} (h : ∀ d, 1 < d → d < n → n % d ≠ 0) : ∀ (f d : Nat), 1 < d → noDiv f d n = true
  | 0, _, _ => rfl
  | f + 1, d, hd => by
    by_cases c : n < d * d
    · exact noDiv_big c
    · have hlt : d < n := by
        rcases Nat.lt_or_ge d n with z | z
        · exact z
        · exfalso
          have : 2 * d ≤ d * d := Nat.mul_le_mul_right d hd
          omega
      rw [noDiv_go (by omega) (h d hd hlt)]
      exact noDiv_of h f (d + 2) (by omega)
theorem isPN_of {n : Nat} (h3 : 3 ≤ n) (ho : n % 2 = 1) (h : ∀ d, 1 < d → d < n → n % d ≠ 0) : isPN n = true := by
  unfold isPN
  rw [decide_eq_true h3, decide_eq_true ho, noDiv_of h _ _ (by omega)]
  rfl
/-- an odd number that is no prime has a prime divisor up to its root -/
theorem small_div {n : Nat} (h3 : 3 ≤ n) (ho : n % 2 = 1) (h : isPN n = false) : ∃ q, isPN q = true ∧ q * q ≤ n ∧ n % q = 0 := by
  -- some divisor, then the least
  have ex : ∃ d, 1 < d ∧ d < n ∧ n % d = 0 := by
    rcases Classical.em (∃ d, 1 < d ∧ d < n ∧ n % d = 0) with z | z
    · exact z
    · exfalso
      have := isPN_of h3 ho fun d h1 h2 h3 => z ⟨d, h1, h2, h3⟩
      rw [h] at this
      cases this
  have least : ∀ k, (∃ d, d ≤ k ∧ 1 < d ∧ d < n ∧ n % d = 0) → ∃ d, (1 < d ∧ d < n ∧ n % d = 0) ∧ ∀ e, 1 < e → e < d → n % e ≠ 0 := by
    intro k
    induction k with
    | zero =>
      rintro ⟨d, h1, h2, _⟩
      omega
    | succ k ih =>
      rintro ⟨d, h1, h2⟩
      rcases Classical.em (∃ d, d ≤ k ∧ 1 < d ∧ d < n ∧ n % d = 0) with z | z
      · exact ih z
      · refine ⟨d, h2, fun e he1 he2 hz => z ⟨e, by omega, he1, by omega, hz⟩⟩
  obtain ⟨d0, hd0⟩ := ex
  obtain ⟨d, ⟨d1, d2, d3⟩, dl⟩ := least d0 ⟨d0, Nat.le_refl _, hd0⟩
  have dv : d ∣ n := Nat.dvd_of_mod_eq_zero d3
  have dodd : d % 2 = 1 := by
    rcases Nat.mod_two_eq_zero_or_one d with z | z
    · exfalso
      have : 2 ∣ n := Nat.dvd_trans (Nat.dvd_of_mod_eq_zero z) dv
      have := Nat.mod_eq_zero_of_dvd this
      omega
    · exact z
  refine ⟨d, isPN_of (by omega) dodd fun e he1 he2 hz => ?_, ?_, d3⟩
  · exact dl e he1 he2 (Nat.mod_eq_zero_of_dvd (Nat.dvd_trans (Nat.dvd_of_mod_eq_zero hz) dv))
  · obtain ⟨c, hc⟩ := dv
    have c1 : 1 < c := by
      rcases Nat.lt_or_ge 1 c with z | z
      · exact z
      · exfalso
        have : c = 0 ∨ c = 1 := by omega
        rcases this with rfl | rfl <;> omega
    rcases Nat.lt_or_ge c d with z | z
    · exfalso
      exact dl c c1 z (by rw [hc]; exact Nat.mul_mod_left d c)
    · rw [hc]
      exact Nat.mul_le_mul_left d z
def primesTo (m : Int) : List Int := ((List.range (m - 2).toNat).map fun (i : Nat) => 3 + (i : Int)).filter isP
theorem mem_primes {m q : Int} : q ∈ primesTo m ↔ isP q = true ∧ q ≤ m := by
  unfold primesTo
  rw [List.mem_filter, List.mem_map]
  constructor
  · rintro ⟨⟨i, hi, rfl⟩, h⟩
    have := List.mem_range.mp hi
    exact ⟨h, by omega⟩
  · rintro ⟨h, hq⟩
    have := (isP_nat h).2
    exact ⟨⟨(q - 3).toNat, List.mem_range.mpr (by omega), by omega⟩, h⟩
theorem primes_up (m : Int) : (primesTo m).Pairwise (· < ·) := by
  unfold primesTo
  refine List.Pairwise.filter _ ?_
  rw [List.pairwise_map]
  exact List.pairwise_lt_range.imp fun h => by omega
theorem primes_len (m : Int) : (primesTo m).length ≤ (m - 2).toNat := by
  unfold primesTo
  refine Nat.le_trans (List.length_filter_le _ _) ?_
  rw [List.length_map, List.length_range]
  exact Nat.le_refl _
theorem primes_succ {i : Nat} : primesTo (2 + ((i + 1 : Nat) : Int)) = primesTo (2 + (i : Nat)) ++ (if isP (3 + (i : Int)) = true then [3 + (i : Int)] else []) := by
  unfold primesTo
  have e1 : (2 + ((i + 1 : Nat) : Int) - 2).toNat = i + 1 := by omega
  have e2 : (2 + (i : Int) - 2).toNat = i := by omega
  rw [e1, e2]
  exact filt_succ
theorem primes_cut {m n : Int} (h : m ≤ n) : (primesTo n).filter (fun q => decide (q ≤ m)) = primesTo m := by
  unfold primesTo
  rw [List.filter_filter]
  obtain ⟨d, hd⟩ : ∃ d, (n - 2).toNat = (m - 2).toNat + d := ⟨(n - 2).toNat - (m - 2).toNat, by omega⟩
  rw [hd, List.range_add, List.map_append, List.filter_append]
  have h2 : (List.map (fun i : Nat => 3 + (i : Int)) ((List.range d).map fun x => (m - 2).toNat + x)).filter (fun a => decide (a ≤ m) && isP a) = [] := by
    rw [List.filter_eq_nil_iff]
    intro a ha
    obtain ⟨i, hi, rfl⟩ := List.mem_map.mp ha
    obtain ⟨j, _, rfl⟩ := List.mem_map.mp hi
    simp only [Bool.and_eq_true, decide_eq_true_eq, not_and]
    intro h1 h2
    have := (isP_nat h2).2
    omega
  rw [h2, List.append_nil]
  refine List.filter_congr fun a ha => ?_
  obtain ⟨i, hi, rfl⟩ := List.mem_map.mp ha
  have := List.mem_range.mp hi
  rw [decide_eq_true (by omega : 3 + (i : Int) ≤ m)]
  rfl
/-- the sieve's word: the numbers of a cut of the primes below n do not divide it, the rest are too large -/
theorem sieve {n : Int} {j : Nat} (h3 : 3 ≤ n) (hb : ∀ i (q : Int), j ≤ i → (primesTo (n - 1))[i]? = some q → n < q * q) :
    isP n = (decide (n % 2 = 1) && ((primesTo (n - 1)).take j).all fun q => decide (n % q ≠ 0)) := by
  obtain ⟨N, rfl⟩ : ∃ N : Nat, n = (N : Int) := ⟨n.toNat, by omega⟩
  have eP : isP (N : Int) = isPN N := by unfold isP; rw [Int.toNat_natCast]
  rw [eP]
  by_cases ho : N % 2 = 1
  · rw [decide_eq_true (by omega : (N : Int) % 2 = 1), Bool.true_and]
    cases hp : isPN N with
    | true =>
      symm
      rw [List.all_eq_true]
      intro q hq
      have hq2 := mem_primes.mp (List.mem_of_mem_take hq)
      have h4 := isP_nat hq2.1
      have h5 := (isPN_prime hp).2.2 q.toNat (by omega) (by omega)
      refine decide_eq_true fun z => h5 ?_
      have : ((N % q.toNat : Nat) : Int) = (N : Int) % q := by
        rw [Int.natCast_emod, Int.toNat_of_nonneg (by omega)]
      omega
    | false =>
      symm
      rw [Bool.eq_false_iff]
      intro hall
      rw [List.all_eq_true] at hall
      obtain ⟨q, hq, hqq, hdv⟩ := small_div (by omega) ho hp
      have q3 := (isPN_prime hq).1
      have qlt : q < N := by
        have : 3 * q ≤ q * q := Nat.mul_le_mul_right q q3
        omega
      have hm : (q : Int) ∈ primesTo ((N : Int) - 1) := mem_primes.mpr ⟨by unfold isP; rw [Int.toNat_natCast]; exact hq, by omega⟩
      obtain ⟨i, hi⟩ := List.getElem?_of_mem hm
      have hij : i < j := by
        rcases Nat.lt_or_ge i j with z | z
        · exact z
        · exfalso
          have := hb i _ z hi
          have : ((q * q : Nat) : Int) = (q : Int) * q := Int.natCast_mul q q
          omega
      have ht : (q : Int) ∈ (primesTo ((N : Int) - 1)).take j := by
        refine List.mem_of_getElem? (i := i) ?_
        rw [List.getElem?_take, if_pos hij]
        exact hi
      have := of_decide_eq_true (hall _ ht)
      have e2 : ((N % q : Nat) : Int) = (N : Int) % q := Int.natCast_emod _ _
      omega
  · rw [decide_eq_false (by omega : ¬ (N : Int) % 2 = 1), Bool.false_and]
    unfold isPN
    rw [decide_eq_false ho]
    simp
/-! ### squares -/
def sqL (p : Int) : List Int := (List.range p.toNat).map fun (y : Nat) => (y : Int) * y % p
def isSq (p k : Int) : Bool := decide (k ∈ sqL p)
def lnsF (p : Int) : Nat → Int → Int
  | 0, n => n
  | f + 1, n => if isSq p n = true then lnsF p f (n + 1) else n
/-- the least number from 2 on that is no square -/
def lns (p : Int) : Int := lnsF p p.toNat 2
theorem sq_lt {p k : Int} (hp : 0 < p) (h : isSq p k = true) : 0 ≤ k ∧ k < p := by
  unfold isSq sqL at h
  obtain ⟨y, _, rfl⟩ := List.mem_map.mp (of_decide_eq_true h)
  exact ⟨Int.emod_nonneg _ (by omega), Int.emod_lt_of_pos _ hp⟩
theorem sq_mod {p y : Int} (hp : 0 < p) : isSq p (y * y % p) = true := by
  unfold isSq sqL
  refine decide_eq_true (List.mem_map.mpr ⟨(y % p).toNat, ?_, ?_⟩)
  · have := Int.emod_lt_of_pos y hp
    have := Int.emod_nonneg y (show p ≠ 0 by omega)
    exact List.mem_range.mpr (by omega)
  · have := Int.emod_nonneg y (show p ≠ 0 by omega)
    rw [Int.toNat_of_nonneg this, ← Int.mul_emod]
/-- half of the numbers give all squares -/
theorem sq_half {p k : Int} (hp : 0 < p) (h : isSq p k = true) : ∃ y : Nat, y ≤ p.toNat / 2 ∧ (y : Int) * y % p = k := by
  unfold isSq sqL at h
  obtain ⟨y, hy, rfl⟩ := List.mem_map.mp (of_decide_eq_true h)
  have hy := List.mem_range.mp hy
  by_cases c : y ≤ p.toNat / 2
  · exact ⟨y, c, rfl⟩
  · refine ⟨p.toNat - y, by omega, ?_⟩
    have e : ((p.toNat - y : Nat) : Int) = p - y := by omega
    rw [e]
    exact mod_of_eq (k := p - 2 * y) (by grind)
theorem has_nonsq {p : Int} (hp : isP p = true) : ∃ k : Int, 2 ≤ k ∧ k < p ∧ isSq p k = false := by
  have h3 := (isP_nat hp).2
  rcases Classical.em (∃ k : Int, 2 ≤ k ∧ k < p ∧ isSq p k = false) with z | z
  · exact z
  · exfalso
    have all : ∀ k : Nat, k < p.toNat → (k : Int) ∈ ((List.range (p.toNat / 2 + 1)).map fun (y : Nat) => (y : Int) * y % p) := by
      intro k hk
      have hs : isSq p k = true := by
        by_cases c : k < 2
        · have q := sq_mod (p := p) (y := k) (by omega)
          have e : (k : Int) * k % p = k := by
            have : k = 0 ∨ k = 1 := by omega
            rcases this with rfl | rfl
            · simp
            · exact Int.emod_eq_of_lt (by omega) (by omega)
          rw [e] at q
          exact q
        · cases e : isSq p k with
          | true => rfl
          | false => exact absurd ⟨(k : Int), by omega, by omega, e⟩ z
      obtain ⟨y, h1, h2⟩ := sq_half (by omega) hs
      exact List.mem_map.mpr ⟨y, List.mem_range.mpr (by omega), h2⟩
    have := pigeon _ _ all
    rw [List.length_map, List.length_range] at this
    omega
theorem lnsF_spec {p : Int} (hp : isP p = true) : ∀ (f : Nat) (n : Int), (∃ k : Int, n ≤ k ∧ k < p ∧ k ≤ n + f ∧ isSq p k = false) → 2 ≤ n → (∀ k, 2 ≤ k → k < n → isSq p k = true) →
    2 ≤ lnsF p f n ∧ lnsF p f n < p ∧ isSq p (lnsF p f n) = false ∧ ∀ k, 2 ≤ k → k < lnsF p f n → isSq p k = true
  | 0, n, ⟨k, h1, h2, h3, h4⟩, hn, hb => by
    have : k = n := by omega
    subst this
    exact ⟨hn, h2, h4, hb⟩
  | f + 1, n, ⟨k, h1, h2, h3, h4⟩, hn, hb => by
    unfold lnsF
    split
    · rename_i c
      refine lnsF_spec hp f (n + 1) ⟨k, ?_, h2, by omega, h4⟩ (by omega) fun j j1 j2 => ?_
      · rcases Int.lt_or_le n k with z | z
        · omega
        · have : k = n := by omega
          subst this
          rw [c] at h4
          cases h4
      · rcases Int.lt_or_le j n with z | z
        · exact hb j j1 z
        · have : j = n := by omega
          subst this
          exact c
    · rename_i c
      refine ⟨hn, by omega, by simpa using c, hb⟩
theorem lns_spec {p : Int} (hp : isP p = true) : 2 ≤ lns p ∧ lns p < p ∧ isSq p (lns p) = false ∧ ∀ k, 2 ≤ k → k < lns p → isSq p k = true := by
  obtain ⟨k, h1, h2, h3⟩ := has_nonsq hp
  exact lnsF_spec hp _ _ ⟨k, h1, h2, by omega, h3⟩ (by omega) fun j h1 h2 => by omega
/-! ### powers -/
def pwF (p : Int) : Nat → Int → Int → Int → Int
  | 0, r, _, _ => r
  | f + 1, r, s, l => if 0 < l then pwF p f (if l % 2 = 1 then r * s % p else r) (s * s % p) (l / 2) else r
def pw (p x e : Int) : Int := pwF p e.toNat 1 x e
theorem pwF_zero {p : Int} : ∀ (f : Nat) (r s l : Int), l ≤ 0 → pwF p f r s l = r
  | 0, _, _, _, _ => rfl
  | f + 1, r, s, l, h => by unfold pwF; rw [if_neg (by omega)]
theorem pwF_null {p : Int} : ∀ (f : Nat) (r l : Int), l.toNat ≤ f → 0 < l ∨ r = 0 → pwF p f r 0 l = 0
  | 0, r, l, h, h2 => by
    rcases h2 with z | z
    · omega
    · exact z
  | f + 1, r, l, h, h2 => by
    unfold pwF
    split
    · rename_i c
      have e : (0 : Int) * 0 % p = 0 := by simp
      rw [e]
      refine pwF_null f _ _ (by omega) ?_
      by_cases c2 : l % 2 = 1
      · rw [if_pos c2]
        exact .inr (by simp)
      · rw [if_neg c2]
        rcases h2 with z | z
        · exact .inl (by omega)
        · exact .inr z
    · rename_i c
      rcases h2 with z | z
      · omega
      · exact z
theorem pw_null {p e : Int} (h : 0 < e) : pw p 0 e = 0 := pwF_null _ _ _ (Nat.le_refl _) (.inl h)
theorem pw_two {p x : Int} : pw p x 2 = x * x % p := by
  show pwF p 2 1 x 2 = _
  simp only [pwF]
  simp
end Nm

namespace Nm
theorem find_at {P : Nat → Bool} : ∀ {n i : Nat}, i < n → P i = true → (∀ j, j < i → P j = false) → (List.range n).find? P = some i := by
  intro n i hi hp hb
  obtain ⟨d, rfl⟩ : ∃ d, n = i + (d + 1) := ⟨n - i - 1, by omega⟩
  rw [List.range_add, List.find?_append]
  have e : (List.range i).find? P = none := List.find?_eq_none.mpr fun x hx => by rw [hb x (List.mem_range.mp hx)]; simp
  rw [e, List.range_succ_eq_map, List.map_cons, List.find?_cons]
  simp [hp]
theorem find_no {P : Nat → Bool} {n : Nat} (h : ∀ j, j < n → P j = false) : (List.range n).find? P = none :=
  List.find?_eq_none.mpr fun x hx => by rw [h x (List.mem_range.mp hx)]; simp
def rtP (p x : Int) (y : Nat) : Bool := decide ((y : Int) * y % p = x)
def rt (p x : Int) : Option Nat := (List.range ((p + 1) / 2).toNat).find? (rtP p x)
theorem rt_all {p x : Int} (hp : isP p = true) : rt p x = (List.range p.toNat).find? (rtP p x) := by
  have h3 := (isP_nat hp).2
  have ho := (isPN_prime (isP_nat hp).1).2.1
  unfold rt
  obtain ⟨d, hd⟩ : ∃ d, p.toNat = ((p + 1) / 2).toNat + d := ⟨p.toNat - ((p + 1) / 2).toNat, by omega⟩
  have e0 := hd
  rw [hd, List.range_add, List.find?_append]
  cases e : (List.range ((p + 1) / 2).toNat).find? (rtP p x) with
  | some y => rfl
  | none =>
    symm
    rw [Option.none_or, List.find?_eq_none]
    intro z hz
    obtain ⟨j, hj, rfl⟩ := List.mem_map.mp hz
    have hj := List.mem_range.mp hj
    have q := List.find?_eq_none.mp e (p.toNat - (((p + 1) / 2).toNat + j)) (List.mem_range.mpr (by omega))
    intro c
    refine q ?_
    unfold rtP at c ⊢
    rw [← of_decide_eq_true c]
    refine decide_eq_true ?_
    have e1 : ((p.toNat - (((p + 1) / 2).toNat + j) : Nat) : Int) = p - ((((p + 1) / 2).toNat + j : Nat) : Int) := by omega
    rw [e1]
    refine mod_of_eq (k := p - 2 * ((((p + 1) / 2).toNat + j : Nat) : Int)) (by grind)
/-- the values y below p at which P holds, in the order -/
def ys (p : Int) (P : Nat → Bool) : List Int := ((List.range p.toNat).filter P).map fun (y : Nat) => (y : Int)
theorem ys_head {p : Int} {P : Nat → Bool} : (ys p P)[0]? = ((List.range p.toNat).find? P).map fun (y : Nat) => (y : Int) := by
  unfold ys
  rw [List.getElem?_map, ← List.head?_eq_getElem?, List.head?_filter]
theorem ys_succ {P : Nat → Bool} {i : Nat} : ((List.range (i + 1)).filter P).map (fun (y : Nat) => (y : Int)) = ((List.range i).filter P).map (fun (y : Nat) => (y : Int)) ++ (if P i = true then [(i : Int)] else []) := by
  rw [List.range_succ, List.filter_append, List.map_append]
  congr 1
  rw [List.filter_cons, List.filter_nil]
  split <;> rfl
def ivP (p x : Int) (y : Nat) : Bool := decide (x * y % p = 1)
theorem iv_head {p x : Int} (hp : isP p = true) (h1 : 1 ≤ x) (h2 : x ≤ p - 1) : (ys p (ivP p x))[0]? = some (inv p x) := by
  obtain ⟨q1, q2, q3⟩ := inv_spec hp h1 h2
  rw [ys_head]
  have hf : (List.range p.toNat).find? (ivP p x) = some (inv p x).toNat := by
    refine find_at (by omega) ?_ fun j hj => ?_
    · unfold ivP
      rw [Int.toNat_of_nonneg q2]
      exact decide_eq_true q1
    · unfold ivP
      refine decide_eq_false fun z => ?_
      have := inv_unique (p := p) (x := x) (y := j) (z := inv p x) ⟨by omega, by omega⟩ ⟨q2, q3⟩ z q1
      omega
  rw [hf]
  show some (((inv p x).toNat : Nat) : Int) = _
  rw [Int.toNat_of_nonneg q2]
/-! the least number that is no square, from 0 on -/
theorem lns_find {p : Int} (hp : isP p = true) : (List.range p.toNat).find? (fun (x : Nat) => !isSq p (x : Int)) = some (lns p).toNat := by
  obtain ⟨h1, h2, h3, h4⟩ := lns_spec hp
  refine find_at (by omega) ?_ fun j hj => ?_
  · rw [Int.toNat_of_nonneg (by omega), h3]
    rfl
  · have : isSq p (j : Int) = true := by
      by_cases c : 2 ≤ j
      · exact h4 j (by omega) (by omega)
      · have q := sq_mod (p := p) (y := (j : Int)) (by omega)
        have e : (j : Int) * j % p = j := by
          have : j = 0 ∨ j = 1 := by omega
          rcases this with rfl | rfl
          · simp
          · exact Int.emod_eq_of_lt (by omega) (by omega)
        rw [e] at q
        exact q
    rw [this]
    rfl
def pwL (p e : Int) : List Int := (List.range p.toNat).map fun (y : Nat) => pw p (y : Int) e
def roP (p e x : Int) (y : Nat) : Bool := decide (pw p (y : Int) e = x)
/-- the roots from 1 on are those from 0 on -/
theorem roots_all {p e x : Int} (hp : isP p = true) (he : 0 < e) (hx : x ≠ 0) :
    (((List.range (p - 1).toNat).map fun (i : Nat) => 1 + (i : Int)).filter fun r => decide (pw p r e = x)) = ys p (roP p e x) := by
  have h3 := (isP_nat hp).2
  unfold ys
  have hn : p.toNat = (p - 1).toNat + 1 := by omega
  rw [hn, List.range_succ_eq_map, List.filter_cons, if_neg (by unfold roP; rw [show (((0 : Nat) : Int)) = 0 from rfl, pw_null he]; simpa using fun z => hx z.symm)]
  rw [List.filter_map, List.filter_map, List.map_map]
  have hc : ∀ i : Nat, 1 + (i : Int) = ((i + 1 : Nat) : Int) := fun i => by omega
  congr 1
  · funext i
    exact hc i
  · refine List.filter_congr fun i _ => ?_
    show decide (pw p (1 + (i : Int)) e = x) = roP p e x (i + 1)
    rw [hc]
    rfl
theorem roots_two {p : Int} (hp : isP p = true) : ys p (roP p 2 (lns p)) = [] := by
  obtain ⟨h1, h2, h3, _⟩ := lns_spec hp
  unfold ys
  rw [List.map_eq_nil_iff, List.filter_eq_nil_iff]
  intro y hy hz
  unfold roP at hz
  have hz := of_decide_eq_true hz
  rw [pw_two] at hz
  have := sq_mod (p := p) (y := (y : Int)) (by omega)
  rw [hz, h3] at this
  cases this
end Nm

namespace Nm
/-! ### residues as Fin p, where grind knows the rings -/
section
variable {p : Nat} [NeZero p]
def fz (p : Nat) [NeZero p] (x : Int) : Fin p := Fin.ofNat p (x % (p : Int)).toNat
theorem p_pos : 0 < p := Nat.pos_of_ne_zero (NeZero.ne p)
theorem fz_val (x : Int) : ((fz p x).val : Int) = x % (p : Int) := by
  have h0 := p_pos (p := p)
  have h1 := Int.emod_nonneg x (show (p : Int) ≠ 0 by omega)
  have h2 := Int.emod_lt_of_pos x (show (0 : Int) < p by omega)
  unfold fz
  rw [Fin.val_ofNat, Nat.mod_eq_of_lt (by omega)]
  omega
theorem fz_eq {x y : Int} (h : x % (p : Int) = y % (p : Int)) : fz p x = fz p y := by
  unfold fz
  rw [h]
theorem fz_inj {x y : Int} (h : fz p x = fz p y) : x % (p : Int) = y % (p : Int) := by
  rw [← fz_val (p := p) x, ← fz_val (p := p) y, h]
theorem fz_mod (x : Int) : fz p (x % (p : Int)) = fz p x := fz_eq (Int.emod_emod _ _)
theorem fz_of_val {x : Int} {a : Fin p} (h : (a.val : Int) = x % (p : Int)) : fz p x = a := by
  apply Fin.ext
  have := fz_val (p := p) x
  omega
theorem fz_add (x y : Int) : fz p (x + y) = fz p x + fz p y := by
  refine fz_of_val ?_
  rw [Fin.val_add, Int.natCast_emod, Int.natCast_add, fz_val, fz_val, ← Int.add_emod]
theorem fz_mul (x y : Int) : fz p (x * y) = fz p x * fz p y := by
  refine fz_of_val ?_
  rw [Fin.val_mul, Int.natCast_emod, Int.natCast_mul, fz_val, fz_val, ← Int.mul_emod]
theorem fz_zero : fz p 0 = 0 := fz_of_val (by simp)
theorem fz_one : fz p 1 = 1 := fz_of_val (show (((1 % p : Nat)) : Int) = (1 : Int) % (p : Int) from Int.natCast_emod 1 p)
theorem fz_neg (x : Int) : fz p (-x) = - fz p x := by
  have e : fz p (-x) + fz p x = 0 := by
    rw [← fz_add, Int.add_left_neg, fz_zero]
  grind
theorem fz_sub (x y : Int) : fz p (x - y) = fz p x - fz p y := by
  rw [Int.sub_eq_add_neg, fz_add, fz_neg]
  grind
theorem fz_nat (n : Nat) (h : n < p) : fz p (n : Int) = ⟨n, h⟩ := by
  refine fz_of_val ?_
  rw [Int.emod_eq_of_lt (by omega) (by omega)]
theorem fz_null {x : Int} (h : fz p x = 0) : x % (p : Int) = 0 := by
  rw [← fz_zero (p := p)] at h
  rw [fz_inj h]
  simp
theorem fz_null_iff {x : Int} : x % (p : Int) = 0 ↔ fz p x = 0 :=
  ⟨fun h => by rw [← fz_zero]; exact fz_eq (by simpa using h), fz_null⟩
end
/-! no divisors of zero -/
theorem prime_dvd {p : Nat} (hp : isPN p = true) {a b : Nat} (h : p ∣ a * b) (ha : ¬ p ∣ a) : p ∣ b := by
  have hc : Nat.Coprime p a := by
    have h3 := isPN_prime hp
    have d1 : Nat.gcd p a ∣ p := Nat.gcd_dvd_left p a
    have d2 : Nat.gcd p a ∣ a := Nat.gcd_dvd_right p a
    have l1 : Nat.gcd p a ≤ p := Nat.le_of_dvd (by omega) d1
    have l0 : 0 < Nat.gcd p a := Nat.gcd_pos_of_pos_left _ (by omega)
    rcases Nat.lt_or_ge (Nat.gcd p a) 2 with z | z
    · show Nat.gcd p a = 1
      omega
    · rcases Nat.lt_or_ge (Nat.gcd p a) p with y | y
      · exact absurd (Nat.mod_eq_zero_of_dvd d1) (h3.2.2 _ (by omega) y)
      · exfalso
        have : Nat.gcd p a = p := by omega
        rw [this] at d2
        exact ha d2
  exact hc.dvd_of_dvd_mul_left h
theorem fin_dom {p : Nat} [NeZero p] (hp : isPN p = true) {a b : Fin p} (h : a * b = 0) : a = 0 ∨ b = 0 := by
  have h3 := (isPN_prime hp).1
  have e : (a.val * b.val) % p = 0 := by
    have := congrArg Fin.val h
    rw [Fin.val_mul] at this
    simpa using this
  have d := Nat.dvd_of_mod_eq_zero e
  by_cases ha : p ∣ a.val
  · refine .inl (Fin.ext ?_)
    have := Nat.eq_zero_of_dvd_of_lt ha a.isLt
    simpa using this
  · refine .inr (Fin.ext ?_)
    have := Nat.eq_zero_of_dvd_of_lt (prime_dvd hp d ha) b.isLt
    simpa using this
theorem fin_inv {p : Nat} [NeZero p] (hp : isPN p = true) {a : Fin p} (h : a ≠ 0) : ∃ b : Fin p, a * b = 1 := by
  have hP : isP (p : Int) = true := by
    unfold isP
    rw [Int.toNat_natCast]
    exact hp
  have ha : a.val ≠ 0 := fun z => h (Fin.ext (by simpa using z))
  have hl := a.isLt
  obtain ⟨q1, q2, q3⟩ := inv_spec hP (x := (a.val : Int)) (by omega) (by omega)
  refine ⟨fz p (inv p (a.val : Int)), ?_⟩
  have e : fz p (a.val : Int) = a := fz_nat _ hl
  rw [← e, ← fz_mul, ← fz_one (p := p)]
  refine fz_eq ?_
  rw [e] at *
  rw [q1]
  have h3 := (isPN_prime hp).1
  exact (Int.emod_eq_of_lt (by omega) (by omega)).symm
end Nm

namespace Nm
theorem sub_len {α : Type} [DecidableEq α] : ∀ {l m : List α}, l.Nodup → (∀ x, x ∈ l → x ∈ m) → l.length ≤ m.length
  | [], _, _, _ => Nat.zero_le _
  | a :: l, m, h, hs => by
    have hn := List.nodup_cons.mp h
    have ha := hs a (List.mem_cons_self ..)
    have q := sub_len (l := l) (m := m.erase a) hn.2 fun x hx => by
      refine (List.mem_erase_of_ne fun z => ?_).mpr (hs x (List.mem_cons_of_mem _ hx))
      rw [z] at hx
      exact hn.1 hx
    have e := List.length_erase_of_mem ha
    have : 0 < m.length := List.length_pos_of_mem ha
    rw [List.length_cons]
    omega
/-! ### the numbers of norm one -/
section
variable {R : Type} [Lean.Grind.CommRing R] [DecidableEq R]
def onesF (all : List R) (u : R) : List (R × R) := all.flatMap fun a => (all.filter fun b => decide (u * b * b = a * a - 1)).map fun b => (a, b)
variable {all : List R} {u : R}
theorem mem_ones (mem : ∀ a : R, a ∈ all) {a b : R} : (a, b) ∈ onesF all u ↔ u * b * b = a * a - 1 := by
  unfold onesF
  rw [List.mem_flatMap]
  constructor
  · rintro ⟨x, _, hx⟩
    obtain ⟨y, hy, e⟩ := List.mem_map.mp hx
    cases e
    exact of_decide_eq_true (List.mem_filter.mp hy).2
  · intro h
    exact ⟨a, mem a, List.mem_map.mpr ⟨b, List.mem_filter.mpr ⟨mem b, decide_eq_true h⟩, rfl⟩⟩
theorem ones_nodup (nd : all.Nodup) : (onesF all u).Nodup := by
  unfold onesF
  refine List.pairwise_flatMap.mpr ⟨fun a _ => ?_, ?_⟩
  · refine List.pairwise_map.mpr ?_
    refine (List.Pairwise.filter _ nd).imp fun {x y} h z => h ?_
    cases z
    rfl
  · refine List.Pairwise.imp (fun {a b} h x hx y hy z => h ?_) nd
    obtain ⟨_, _, rfl⟩ := List.mem_map.mp hx
    obtain ⟨_, _, rfl⟩ := List.mem_map.mp hy
    cases z
    rfl
theorem g_den {t s : R} (z : 1 - u * t * t = 0) (hs : t * s = 1) : s * s = u := by grind
theorem g_den0 (z : 1 - u * 0 * 0 = 0) : (1 : R) = 0 := by grind
theorem g_top {t w : R} (e : (1 - u * t * t) * w = 1) (z : 1 + (1 + u * t * t) * w = 0) : 2 * w = 0 := by grind
theorem g_top0 {d : R} (e : d * 0 = 1) : (1 : R) = 0 := by grind
theorem g_neg : (1 : R) + -1 = 0 := by grind
theorem g_inj {a b x y : R} (e1 : (1 - u * a * a) * x = 1) (e2 : (1 - u * b * b) * y = 1) (z1 : (1 + u * a * a) * x = (1 + u * b * b) * y) (z2 : 2 * a * x = 2 * b * y) :
    (a - b) * (1 + (1 + u * a * a) * x) = 0 := by grind
theorem g_eq {a b : R} (h : a - b = 0) : a = b := by grind
theorem g_ub {a b : R} (h : u * b * b = a * a - 1) (z : 1 + a = 0) : u * (b * b) = 0 := by grind
theorem g_m1 {a : R} (z : 1 + a = 0) : a = -1 := by grind
theorem g_fst {a b s w : R} (h : u * b * b = a * a - 1) (hs : (1 + a) * s = 1) (e : (1 - u * (b * s) * (b * s)) * w = 1) : (1 + u * (b * s) * (b * s)) * w = a := by grind
theorem g_snd {a b s w : R} (h : u * b * b = a * a - 1) (hs : (1 + a) * s = 1) (e : (1 - u * (b * s) * (b * s)) * w = 1) : 2 * (b * s) * w = b := by grind
theorem g_on0 : u * 0 * 0 = (-1 : R) * -1 - 1 := by grind
theorem g_on {t w : R} (e : (1 - u * t * t) * w = 1) : u * (2 * t * w) * (2 * t * w) = (1 + u * t * t) * w * ((1 + u * t * t) * w) - 1 := by grind
theorem norm_count (mem : ∀ a : R, a ∈ all) (nd : all.Nodup) (dom : ∀ a b : R, a * b = 0 → a = 0 ∨ b = 0) (inv : ∀ a : R, a ≠ 0 → ∃ b, a * b = 1) (one : (1 : R) ≠ 0) (two : (2 : R) ≠ 0) (u0 : u ≠ 0)
    (hu : ∀ y : R, y * y ≠ u) : (onesF all u).length = all.length + 1 := by
  have den : ∀ t : R, 1 - u * t * t ≠ 0 := by
    intro t z
    have t0 : t ≠ 0 := by
      intro e
      rw [e] at z
      exact one (g_den0 z)
    obtain ⟨s, hs⟩ := inv t t0
    exact hu s (g_den z hs)
  obtain ⟨w, hw⟩ : ∃ w : R → R, ∀ t, (1 - u * t * t) * w t = 1 := ⟨fun t => (inv _ (den t)).choose, fun t => (inv _ (den t)).choose_spec⟩
  obtain ⟨f, hf⟩ : ∃ f : R → R × R, ∀ t, f t = ((1 + u * t * t) * w t, 2 * t * w t) := ⟨_, fun t => rfl⟩
  have top : ∀ t, 1 + (1 + u * t * t) * w t ≠ 0 := by
    intro t z
    have e := hw t
    rcases dom _ _ (g_top e z) with q | q
    · exact two q
    · rw [q] at e
      exact one (g_top0 e)
  have fn : ((-1, 0) :: all.map f).Nodup := by
    refine List.nodup_cons.mpr ⟨fun z => ?_, ?_⟩
    · obtain ⟨t, _, e⟩ := List.mem_map.mp z
      have q := top t
      rw [hf] at e
      have e1 : (1 + u * t * t) * w t = -1 := congrArg Prod.fst e
      rw [e1] at q
      exact q g_neg
    · refine List.pairwise_map.mpr (List.Pairwise.imp (fun {a b} h z => h ?_) nd)
      rw [hf, hf] at z
      rcases dom _ _ (g_inj (hw a) (hw b) (congrArg Prod.fst z) (congrArg Prod.snd z)) with q | q
      · exact g_eq q
      · exact absurd q (top a)
  have l1 : (onesF all u).length ≤ ((-1, 0) :: all.map f).length := by
    refine sub_len (ones_nodup nd) fun x hx => ?_
    obtain ⟨a, b⟩ := x
    have hx := (mem_ones mem).mp hx
    by_cases ha : 1 + a = 0
    · have b0 : b = 0 := by
        rcases dom _ _ (g_ub hx ha) with q | q
        · exact absurd q u0
        · rcases dom _ _ q with q | q <;> exact q
      rw [b0, g_m1 ha]
      exact List.mem_cons_self ..
    · obtain ⟨s, hs⟩ := inv _ ha
      refine List.mem_cons_of_mem _ (List.mem_map.mpr ⟨b * s, mem _, ?_⟩)
      rw [hf, g_fst hx hs (hw (b * s)), g_snd hx hs (hw (b * s))]
  have l2 : ((-1, 0) :: all.map f).length ≤ (onesF all u).length := by
    refine sub_len fn fun x hx => ?_
    rcases List.mem_cons.mp hx with rfl | hx
    · exact (mem_ones mem).mpr g_on0
    · obtain ⟨t, _, rfl⟩ := List.mem_map.mp hx
      rw [hf]
      exact (mem_ones mem).mpr (g_on (hw t))
  have l3 : ((-1, 0) :: all.map f).length = all.length + 1 := by rw [List.length_cons, List.length_map]
  omega
end
section
variable {P : Nat} [NeZero P]
def fins (P : Nat) [NeZero P] : List (Fin P) := (List.range P).map fun (n : Nat) => fz P (n : Int)
theorem mem_fins (a : Fin P) : a ∈ fins P := List.mem_map.mpr ⟨a.val, List.mem_range.mpr a.isLt, by rw [fz_nat _ a.isLt]⟩
theorem fins_nodup : (fins P).Nodup := by
  unfold fins
  refine List.pairwise_map.mpr ?_
  refine List.Pairwise.imp_of_mem (fun {a b} ha hb hlt => ?_) List.pairwise_lt_range
  have ha := List.mem_range.mp ha
  have hb := List.mem_range.mp hb
  rw [fz_nat _ ha, fz_nat _ hb]
  intro z
  have := congrArg Fin.val z
  simp at this
  omega
theorem fin_one (hp : isPN P = true) : (1 : Fin P) ≠ 0 := by
  have h3 := (isPN_prime hp).1
  intro z
  rw [← fz_one (p := P)] at z
  have := fz_null z
  rw [Int.emod_eq_of_lt (by omega) (by omega)] at this
  omega
theorem fin_two (hp : isPN P = true) : (2 : Fin P) ≠ 0 := by
  have h3 := (isPN_prime hp).1
  intro z
  have e : fz P 2 = 0 := by
    have q : (2 : Int) = 1 + 1 := rfl
    rw [q, fz_add, fz_one]
    have q2 : (1 : Fin P) + 1 = 2 := by
      clear z
      grind
    rw [q2]
    exact z
  have := fz_null e
  rw [Int.emod_eq_of_lt (by omega) (by omega)] at this
  omega
theorem ones_count (hp : isPN P = true) {u : Fin P} (hu : ∀ y : Fin P, y * y ≠ u) : (onesF (fins P) u).length = P + 1 := by
  have z0 : (0 : Fin P) * 0 = 0 := by grind
  rw [norm_count mem_fins fins_nodup (fun a b => fin_dom hp) (fun a => fin_inv hp) (fin_one hp) (fin_two hp) (fun z => hu 0 (by rw [z, z0])) hu]
  unfold fins
  rw [List.length_map, List.length_range]
end
def bk (p u i : Int) (n : Nat) : List Int := ((List.range n).filter fun (b : Nat) => decide (u * (b : Int) * (b : Int) % p = i)).map fun (b : Nat) => (b : Int)
def onesL (p u : Int) (n : Nat) : List (Int × Int) := (List.range n).flatMap fun (a : Nat) => (bk p u (((a : Int) * (a : Int) - 1) % p) p.toNat).map fun b => ((a : Int), b)
theorem ones_len {p : Int} (hp : isP p = true) : (onesL p (lns p) p.toNat).length = p.toNat + 1 := by
  have hq := isP_nat hp
  obtain ⟨l1, l2, l3, _⟩ := lns_spec hp
  generalize hP : p.toNat = P at hq
  have : NeZero P := ⟨by omega⟩
  have ep : p = (P : Int) := by omega
  subst ep
  rw [← ones_count (P := P) hq.1 (u := fz P (lns (P : Int))) fun y z => ?_]
  · unfold onesL onesF fins bk
    rw [List.length_flatMap, List.flatMap_map, List.length_flatMap, hP]
    congr 1
    refine List.map_congr_left fun a ha => ?_
    rw [List.length_map, List.length_map, List.length_map, List.filter_map, List.length_map]
    congr 1
    refine List.filter_congr fun b _ => ?_
    refine decide_eq_decide.mpr ?_
    show _ ↔ fz P (lns (P : Int)) * fz P (b : Int) * fz P (b : Int) = fz P (a : Int) * fz P (a : Int) - 1
    rw [← fz_mul, ← fz_mul, ← fz_mul, ← fz_one (p := P), ← fz_sub]
    exact ⟨fun h => fz_eq h, fun h => fz_inj h⟩
  · have hy : fz P (y.val : Int) = y := fz_nat _ y.isLt
    rw [← hy, ← fz_mul] at z
    have := fz_inj z
    rw [Int.emod_eq_of_lt (by omega) (by omega : lns (P : Int) < P)] at this
    have q := sq_mod (p := (P : Int)) (y := (y.val : Int)) (by omega)
    rw [this, l3] at q
    cases q
end Nm

namespace Nm
/-! ### the laws of pairs of a table that tells a lot by its size alone -/
def pop (n x : Nat) : Nat := ((List.range n).map fun i => (x >>> i) % 2).sum
abbrev Tm := Int × Nat × Nat
def tmS (n one two : Nat) : Nat → List Tm × Int
  | 0 => ([], 1)
  | k + 1 => if ((one ^^^ two) >>> k) % 2 = 1 then
      ((tmS n one two k).1 ++ [((tmS n one two k).2, pop n (one ^^^ (1 <<< k)), pop n (two ^^^ (1 <<< k)))], -(tmS n one two k).2)
    else tmS n one two k
def tm (n one two : Nat) : List Tm := (tmS n one two n).1
def ev (c : Nat → Int) (T : List Tm) : Int := (T.map fun t => t.1 * c t.2.1 * c t.2.2).sum
theorem ev_app {c : Nat → Int} {T U : List Tm} : ev c (T ++ U) = ev c T + ev c U := by
  unfold ev
  rw [List.map_append, List.sum_append]
def oddT (T : List Tm) : Bool := T.all fun t => decide ((t.2.1 + t.2.2) % 2 = 1)
def evenT (n : Nat) (T : List Tm) : Bool := match T with
  | [] => true
  | t0 :: _ => (T.all fun t => decide (t.2.1 ≤ n) && (decide (t.2.2 ≤ n) && (decide (t.2.1 + t.2.2 = t0.2.1 + t0.2.2) && (decide (t.2.1 = t0.2.1) || (decide (t.2.1 = t0.2.1 + 2) || decide (t.2.1 + 2 = t0.2.1)))))) && decide ((T.map fun t => t.1).sum = 0)
def backOk : Bool := (List.range 6).all fun n => (List.range (2 ^ n)).all fun one => (List.range (2 ^ n)).all fun two => (oddT (tm n one two) && (tm n one two).all fun t => decide (t.2.1 ≤ n) && decide (t.2.2 ≤ n)) || evenT n (tm n one two)
theorem back_ok : backOk = true := by decide +kernel
/-- where one term stands alone: (i + 1, i), and where the rest is one product, s times -/
def restT (T : List Tm) (i j u v : Nat) (s : Int) : Bool := match T with
  | [] => false
  | t0 :: R => decide (t0 = (1, i, j)) && ((R.all fun t => decide (t.2 = (u, v))) && decide ((R.map fun t => t.1).sum = s))
def mask (lo hi : Nat) : Nat := 2 ^ (hi + 1) - 2 ^ lo
/-- the two lots: b lots of the second alone, m of both -/
def lotA (b m : Nat) : Nat := 1 + mask (b + 1) (b + m)
def lotB (b m : Nat) : Nat := mask 1 b + mask (b + 1) (b + m)
def fwdOk : Bool := (List.range 6).all fun n => ((List.range n).all fun i => restT (tm n (lotB 0 i) (lotA 0 i)) (i + 1) i 0 0 0) &&
  (((List.range n).all fun i => (List.range (n + 1)).all fun j => !(decide (i + 2 ≤ j) && decide ((i + j) % 2 = 1)) || restT (tm n (lotA (j - i - 1) i) (lotB (j - i - 1) i)) i j (i + 2) (j - 2) 0) &&
  ((List.range n).all fun k => (List.range n).all fun m => !(decide (k < m) && (decide (m + 2 ≤ n) && decide ((k + m) % 2 = 0))) || restT (tm n (lotA (m - k + 1) k) (lotB (m - k + 1) k)) k (m + 2) (k + 2) m (-1)))
theorem fwd_ok : fwdOk = true := by decide +kernel
def ltOk : Bool := (List.range 6).all fun n => ((List.range n).all fun i => decide (lotB 0 i < lotA 0 i) && decide (lotA 0 i < 2 ^ n)) &&
  ((List.range n).all fun i => (List.range n).all fun b => !(decide (1 ≤ b) && decide (1 + b + i ≤ n)) || (decide (lotA b i < lotB b i) && decide (lotB b i < 2 ^ n)))
theorem lt_ok : ltOk = true := by decide +kernel
theorem rest_ev {c : Nat → Int} {T : List Tm} {i j u v : Nat} {s : Int} (h : restT T i j u v s = true) : ev c T = c i * c j + s * (c u * c v) := by
  cases T with
  | nil => cases h
  | cons t0 R =>
    unfold restT at h
    simp only [Bool.and_eq_true, decide_eq_true_eq, List.all_eq_true] at h
    obtain ⟨rfl, h1, rfl⟩ := h
    have e : ev c ((1, i, j) :: R) = 1 * c i * c j + ev c R := rfl
    rw [e]
    have q : ∀ R : List Tm, (∀ t, t ∈ R → t.2 = (u, v)) → ev c R = (R.map fun t => t.1).sum * (c u * c v) := by
      intro R
      induction R with
      | nil => intro _; simp [ev]
      | cons t R ih =>
        intro hR
        have e1 := hR t (List.mem_cons_self ..)
        have e2 := ih fun x hx => hR x (List.mem_cons_of_mem _ hx)
        have e3 : ev c (t :: R) = t.1 * c t.2.1 * c t.2.2 + ev c R := rfl
        rw [e3, e2, e1, List.map_cons, List.sum_cons]
        grind
    rw [q R h1]
    grind
end Nm

namespace Nm
theorem dom_int {p x y : Int} (hp : isP p = true) (hx : 0 ≤ x ∧ x < p) (hy : 0 ≤ y ∧ y < p) (h : x * y % p = 0) : x = 0 ∨ y = 0 := by
  obtain ⟨P, rfl⟩ : ∃ P : Nat, p = (P : Int) := ⟨p.toNat, by omega⟩
  have hq := (isP_nat hp).1
  rw [Int.toNat_natCast] at hq
  have : NeZero P := ⟨by omega⟩
  have e := fz_null_iff (p := P).mp h
  rw [fz_mul] at e
  rcases fin_dom hq e with z | z
  · refine .inl ?_
    have := fz_null z
    rw [Int.emod_eq_of_lt hx.1 hx.2] at this
    exact this
  · refine .inr ?_
    have := fz_null z
    rw [Int.emod_eq_of_lt hy.1 hy.2] at this
    exact this
def MGI (n : Nat) (c : Nat → Int) (p : Int) : Prop := ∀ one two, one < two → two < 2 ^ n → ev c (tm n one two) % p = 0
def PAR (n : Nat) (c : Nat → Int) : Prop := ∀ i j, i ≤ n → j ≤ n → (i + j) % 2 = 1 → c i = 0 ∨ c j = 0
def CRS (n : Nat) (c : Nat → Int) (p : Int) : Prop := ∀ k m, k + 2 ≤ n → m + 2 ≤ n → (c k * c (m + 2) - c (k + 2) * c m) % p = 0
theorem ev_cong {c : Nat → Int} {p v : Int} : ∀ {T : List Tm}, (∀ t, t ∈ T → ∃ k, c t.2.1 * c t.2.2 = v + p * k) → ∃ k, ev c T = (T.map fun t => t.1).sum * v + p * k
  | [], _ => ⟨0, by simp [ev]⟩
  | t :: T, h => by
    obtain ⟨k1, h1⟩ := h t (List.mem_cons_self ..)
    obtain ⟨k2, h2⟩ := ev_cong (T := T) fun x hx => h x (List.mem_cons_of_mem _ hx)
    refine ⟨t.1 * k1 + k2, ?_⟩
    have e3 : ev c (t :: T) = t.1 * c t.2.1 * c t.2.2 + ev c T := rfl
    rw [e3, h2, List.map_cons, List.sum_cons]
    grind
theorem mgi_of {n : Nat} {c : Nat → Int} {p : Int} (hn : n < 6) (h1 : PAR n c) (h2 : CRS n c p) : MGI n c p := by
  intro one two hlt hb
  have q := back_ok
  unfold backOk at q
  have q := List.all_eq_true.mp (List.all_eq_true.mp (List.all_eq_true.mp q n (List.mem_range.mpr hn)) one (List.mem_range.mpr (by omega))) two (List.mem_range.mpr hb)
  generalize tm n one two = T at q
  rcases Bool.or_eq_true_iff.mp q with q | q
  · have q := Bool.and_eq_true_iff.mp q
    have a1 := List.all_eq_true.mp (show T.all _ = true from q.1)
    have a2 := List.all_eq_true.mp q.2
    obtain ⟨k, hk⟩ := ev_cong (c := c) (p := 0) (v := 0) (T := T) fun t ht => by
      have b1 := of_decide_eq_true (a1 t ht)
      have b2 := Bool.and_eq_true_iff.mp (a2 t ht)
      refine ⟨0, ?_⟩
      rcases h1 t.2.1 t.2.2 (of_decide_eq_true b2.1) (of_decide_eq_true b2.2) b1 with z | z <;> rw [z] <;> simp
    rw [hk]
    simp
  · cases T with
    | nil => simp [ev]
    | cons t0 R =>
      unfold evenT at q
      have q := Bool.and_eq_true_iff.mp q
      have a := List.all_eq_true.mp q.1
      have s := of_decide_eq_true q.2
      obtain ⟨k, hk⟩ := ev_cong (c := c) (p := p) (v := c t0.2.1 * c t0.2.2) (T := t0 :: R) fun t ht => by
        have b := a t ht
        have b0 := a t0 (List.mem_cons_self ..)
        simp only [Bool.and_eq_true, Bool.or_eq_true, decide_eq_true_eq] at b b0
        obtain ⟨l1, l2, es, e⟩ := b
        rcases e with e | e | e
        · have e2 : t.2.2 = t0.2.2 := by omega
          exact ⟨0, by rw [e, e2]; simp⟩
        · obtain ⟨k, hk⟩ := eq_of_mod (a := c t0.2.1 * c (t.2.2 + 2) - c (t0.2.1 + 2) * c t.2.2) (b := 0) (p := p) (by rw [h2 _ _ (by omega) (by omega)]; simp)
          have e2 : t0.2.2 = t.2.2 + 2 := by omega
          exact ⟨-k, by rw [e, e2]; grind⟩
        · obtain ⟨k, hk⟩ := eq_of_mod (a := c t.2.1 * c (t0.2.2 + 2) - c (t.2.1 + 2) * c t0.2.2) (b := 0) (p := p) (by rw [h2 _ _ (by omega) (by omega)]; simp)
          have e2 : t.2.2 = t0.2.2 + 2 := by omega
          have e3 : t0.2.1 = t.2.1 + 2 := by omega
          exact ⟨k, by rw [e2, e3]; grind⟩
      rw [hk, s, Int.zero_mul, Int.zero_add]
      exact Int.mul_emod_right _ _
theorem of_mgi {n : Nat} {c : Nat → Int} {p : Int} (hp : isP p = true) (hn : n < 6) (hc : ∀ i, i ≤ n → 0 ≤ c i ∧ c i < p) (h : MGI n c p) : PAR n c ∧ CRS n c p := by
  have f := fwd_ok
  unfold fwdOk at f
  have f := List.all_eq_true.mp f n (List.mem_range.mpr hn)
  have f := Bool.and_eq_true_iff.mp f
  have f1 := List.all_eq_true.mp f.1
  have f2 := Bool.and_eq_true_iff.mp f.2
  have f3 := List.all_eq_true.mp f2.1
  have f4 := List.all_eq_true.mp f2.2
  have l := lt_ok
  unfold ltOk at l
  have l := List.all_eq_true.mp l n (List.mem_range.mpr hn)
  have l := Bool.and_eq_true_iff.mp l
  have l1 := List.all_eq_true.mp l.1
  have l2 := List.all_eq_true.mp l.2
  have par : ∀ i j, i < j → j ≤ n → (i + j) % 2 = 1 → c i = 0 ∨ c j = 0 := by
    intro i j hij hj ho
    by_cases c1 : j = i + 1
    · subst c1
      have a := f1 i (List.mem_range.mpr (by omega))
      have b := l1 i (List.mem_range.mpr (by omega))
      simp only [Bool.and_eq_true, decide_eq_true_eq] at b
      have z := h _ _ b.1 b.2
      rw [rest_ev a] at z
      have z2 : c (i + 1) * c i % p = 0 := by simpa using z
      exact (dom_int hp (hc _ hj) (hc _ (by omega)) z2).symm
    · have a := List.all_eq_true.mp (f3 i (List.mem_range.mpr (by omega))) j (List.mem_range.mpr (by omega))
      rw [decide_eq_true (by omega : i + 2 ≤ j), decide_eq_true ho] at a
      have b := List.all_eq_true.mp (l2 i (List.mem_range.mpr (by omega))) (j - i - 1) (List.mem_range.mpr (by omega))
      rw [decide_eq_true (by omega : 1 ≤ j - i - 1), decide_eq_true (by omega : 1 + (j - i - 1) + i ≤ n)] at b
      have b : decide (lotA (j - i - 1) i < lotB (j - i - 1) i) = true ∧ decide (lotB (j - i - 1) i < 2 ^ n) = true := Bool.and_eq_true_iff.mp (by simpa using b)
      have z := h _ _ (of_decide_eq_true b.1) (of_decide_eq_true b.2)
      rw [rest_ev (i := i) (j := j) (u := i + 2) (v := j - 2) (s := 0) (by simpa using a)] at z
      have z2 : c i * c j % p = 0 := by simpa using z
      exact dom_int hp (hc _ (by omega)) (hc _ hj) z2
  have hpar : PAR n c := by
    intro i j hi hj ho
    rcases Nat.lt_trichotomy i j with z | z | z
    · exact par i j z hj ho
    · omega
    · exact (par j i z hi (by omega)).symm
  have crs : ∀ k m, k < m → m + 2 ≤ n → (k + m) % 2 = 0 → (c k * c (m + 2) - c (k + 2) * c m) % p = 0 := by
    intro k m hkm hm he
    have a := List.all_eq_true.mp (f4 k (List.mem_range.mpr (by omega))) m (List.mem_range.mpr (by omega))
    rw [decide_eq_true hkm, decide_eq_true hm, decide_eq_true he] at a
    have b := List.all_eq_true.mp (l2 k (List.mem_range.mpr (by omega))) (m - k + 1) (List.mem_range.mpr (by omega))
    rw [decide_eq_true (by omega : 1 ≤ m - k + 1), decide_eq_true (by omega : 1 + (m - k + 1) + k ≤ n)] at b
    have b : decide (lotA (m - k + 1) k < lotB (m - k + 1) k) = true ∧ decide (lotB (m - k + 1) k < 2 ^ n) = true := Bool.and_eq_true_iff.mp (by simpa using b)
    have z := h _ _ (of_decide_eq_true b.1) (of_decide_eq_true b.2)
    rw [rest_ev (i := k) (j := m + 2) (u := k + 2) (v := m) (s := -1) (by simpa using a)] at z
    have e : c k * c (m + 2) - c (k + 2) * c m = c k * c (m + 2) + -1 * (c (k + 2) * c m) := by grind
    rw [e]
    exact z
  refine ⟨hpar, fun k m hk hm => ?_⟩
  rcases Nat.mod_two_eq_zero_or_one (k + m) with e | e
  · rcases Nat.lt_trichotomy k m with z | z | z
    · exact crs k m z hm e
    · subst z
      have : c k * c (k + 2) - c (k + 2) * c k = 0 := by grind
      rw [this]
      simp
    · have q := crs m k z hk (by omega)
      obtain ⟨w, hw⟩ := eq_of_mod (a := c m * c (k + 2) - c (m + 2) * c k) (b := 0) (p := p) (by rw [q]; simp)
      have : c k * c (m + 2) - c (k + 2) * c m = p * -w := by grind
      rw [this]
      exact Int.mul_emod_right _ _
  · have a1 : c k * c (m + 2) = 0 := by
      rcases hpar k (m + 2) (by omega) hm (by omega) with z | z <;> rw [z] <;> simp
    have a2 : c (k + 2) * c m = 0 := by
      rcases hpar (k + 2) m hk (by omega) (by omega) with z | z <;> rw [z] <;> simp
    rw [a1, a2]
    simp
end Nm

namespace Nm
def CRSN (N : Nat) (c : Nat → Int) (p : Int) : Prop := ∀ k m, k < N → m < N → (c k * c (m + 2) - c (k + 2) * c m) % p = 0
section
variable {R : Type} [Lean.Grind.CommRing R]
theorem g_c1 {lo hi a b x y : R} (h1 : lo * b - hi * a = 0) (h2 : lo * y - hi * x = 0) : lo * (a * y - b * x) = 0 := by grind
theorem g_c2 {lo hi a b x y : R} (h1 : lo * b - hi * a = 0) (h2 : lo * y - hi * x = 0) : hi * (a * y - b * x) = 0 := by grind
theorem g_c3 {v a b x y : R} (h1 : a - v * b = 0) (h2 : x - v * y = 0) : a * y - b * x = 0 := by grind
theorem g_c4 {a b x y w : R} (h : a * y - b * x = 0) (hw : y * w = 1) : a - x * w * b = 0 := by grind
end
/-- one pair that is not (0, 0) leads all of them -/
theorem crs_of_lead {N : Nat} {c : Nat → Int} {p lo hi : Int} (hp : isP p = true) (h0 : (0 ≤ lo ∧ lo < p) ∧ (0 ≤ hi ∧ hi < p)) (hne : lo ≠ 0 ∨ hi ≠ 0) (h : ∀ k, k < N → (lo * c (k + 2) - hi * c k) % p = 0) : CRSN N c p := by
  obtain ⟨P, rfl⟩ : ∃ P : Nat, p = (P : Int) := ⟨p.toNat, by omega⟩
  have hq := (isP_nat hp).1
  rw [Int.toNat_natCast] at hq
  have : NeZero P := ⟨by omega⟩
  intro k m hk hm
  have a1 := fz_null_iff (p := P).mp (h k hk)
  have a2 := fz_null_iff (p := P).mp (h m hm)
  rw [fz_sub, fz_mul, fz_mul] at a1 a2
  refine fz_null_iff.mpr ?_
  rw [fz_sub, fz_mul, fz_mul]
  rcases hne with z | z
  · rcases fin_dom hq (g_c1 a1 a2) with q | q
    · have := fz_null q
      rw [Int.emod_eq_of_lt h0.1.1 h0.1.2] at this
      exact absurd this z
    · exact q
  · rcases fin_dom hq (g_c2 a1 a2) with q | q
    · have := fz_null q
      rw [Int.emod_eq_of_lt h0.2.1 h0.2.2] at this
      exact absurd this z
    · exact q
def fitsP (N : Nat) (c : Nat → Int) (p u v : Int) : Prop := ∀ k, k < N → (u * c k - v * c (k + 2)) % p = 0
theorem crs_of_fits {N : Nat} {c : Nat → Int} {p v : Int} (hp : 0 < p) (h : fitsP N c p 1 v) : CRSN N c p := by
  obtain ⟨P, rfl⟩ : ∃ P : Nat, p = (P : Int) := ⟨p.toNat, by omega⟩
  have : NeZero P := ⟨by omega⟩
  intro k m hk hm
  have a1 := fz_null_iff (p := P).mp (h k hk)
  have a2 := fz_null_iff (p := P).mp (h m hm)
  rw [Int.one_mul, fz_sub, fz_mul] at a1 a2
  refine fz_null_iff.mpr ?_
  rw [fz_sub, fz_mul, fz_mul]
  exact g_c3 a1 a2
theorem crs_of_fits0 {N : Nat} {c : Nat → Int} {p : Int} (h : fitsP N c p 0 1) : CRSN N c p := by
  intro k m hk hm
  have a1 := h k hk
  have a2 := h m hm
  rw [Int.zero_mul, Int.one_mul, Int.zero_sub] at a1 a2
  obtain ⟨x, hx⟩ := eq_of_mod (a := -c (k + 2)) (b := 0) (p := p) (by rw [a1]; simp)
  obtain ⟨y, hy⟩ := eq_of_mod (a := -c (m + 2)) (b := 0) (p := p) (by rw [a2]; simp)
  have : c k * c (m + 2) - c (k + 2) * c m = p * (-(c k * y) + x * c m) := by grind
  rw [this]
  exact Int.mul_emod_right _ _
theorem fits_of_crs {N : Nat} {c : Nat → Int} {p : Int} (hp : isP p = true) (hc : ∀ k, 0 ≤ c k ∧ c k < p) (h : CRSN N c p) : (∃ v : Nat, (v : Int) < p ∧ fitsP N c p 1 v) ∨ fitsP N c p 0 1 := by
  obtain ⟨P, rfl⟩ : ∃ P : Nat, p = (P : Int) := ⟨p.toNat, by have := (isP_nat hp).2; omega⟩
  have hq := (isP_nat hp).1
  have hp3 := (isP_nat hp).2
  rw [Int.toNat_natCast] at hq
  have : NeZero P := ⟨by omega⟩
  rcases Classical.em (∃ m, m < N ∧ c (m + 2) ≠ 0) with ⟨m, hm, hne⟩ | z
  · left
    have hy : fz P (c (m + 2)) ≠ 0 := fun z => by
      have := fz_null z
      rw [Int.emod_eq_of_lt (hc _).1 (hc _).2] at this
      exact hne this
    obtain ⟨w, hw⟩ := fin_inv hq hy
    refine ⟨(fz P (c m) * w).val, by have := (fz P (c m) * w).isLt; omega, fun k hk => ?_⟩
    refine fz_null_iff.mpr ?_
    have a := fz_null_iff (p := P).mp (h k m hk hm)
    rw [fz_sub, fz_mul, fz_mul] at a
    rw [Int.one_mul, fz_sub, fz_mul]
    have e : fz P (((fz P (c m) * w).val : Nat) : Int) = fz P (c m) * w := fz_nat _ _
    rw [e]
    exact g_c4 a hw
  · right
    intro k hk
    have e : c (k + 2) = 0 := by
      rcases Classical.em (c (k + 2) = 0) with y | y
      · exact y
      · exact absurd ⟨k, hk, y⟩ z
    rw [e]
    simp
/-! the row as a list -/
def cv (L : List Int) (i : Nat) : Int := (L[i]?).getD 0
theorem cv_at {L : List Int} {i : Nat} {x : Int} (h : L[i]? = some x) : cv L i = x := by
  unfold cv
  rw [h]
  rfl
theorem cv_out {L : List Int} {i : Nat} (h : L.length ≤ i) : cv L i = 0 := by
  unfold cv
  rw [List.getElem?_eq_none h]
  rfl
theorem cv_ok {L : List Int} {p : Int} (hp : 0 < p) (h : ∀ x, x ∈ L → 0 ≤ x ∧ x < p) (i : Nat) : 0 ≤ cv L i ∧ cv L i < p := by
  unfold cv
  cases e : L[i]? with
  | none => exact ⟨Int.le_refl _, hp⟩
  | some x => exact h x (List.mem_of_getElem? e)
def hasPar (L : List Int) (z : Nat) (n : Nat) : Bool := (List.range n).any fun i => decide (i % 2 = z) && decide (cv L i ≠ 0)
theorem hasPar_succ {L : List Int} {z n : Nat} : hasPar L z (n + 1) = (hasPar L z n || (decide (n % 2 = z) && decide (cv L n ≠ 0))) := by
  unfold hasPar
  rw [List.range_succ, List.any_append, List.any_cons, List.any_nil, Bool.or_false]
def mixed (L : List Int) : Bool := hasPar L 0 L.length && hasPar L 1 L.length
theorem par_iff {L : List Int} {n : Nat} (hn : L.length = n + 1) : PAR n (cv L) ↔ mixed L = false := by
  unfold mixed hasPar
  constructor
  · intro h
    rw [Bool.eq_false_iff]
    intro z
    have z := Bool.and_eq_true_iff.mp z
    obtain ⟨i, hi, ei⟩ := List.any_eq_true.mp z.1
    obtain ⟨j, hj, ej⟩ := List.any_eq_true.mp z.2
    have hi := List.mem_range.mp hi
    have hj := List.mem_range.mp hj
    simp only [Bool.and_eq_true, decide_eq_true_eq] at ei ej
    rcases h i j (by omega) (by omega) (by omega) with q | q
    · exact ei.2 q
    · exact ej.2 q
  · intro h i j hi hj ho
    rcases Classical.em (cv L i = 0 ∨ cv L j = 0) with z | z
    · exact z
    · exfalso
      have zi : cv L i ≠ 0 := fun q => z (.inl q)
      have zj : cv L j ≠ 0 := fun q => z (.inr q)
      have mk : ∀ a b, a < L.length → b < L.length → a % 2 = 0 → b % 2 = 1 → cv L a ≠ 0 → cv L b ≠ 0 → False := by
        intro a b ha hb a0 b1 ca cb
        have q1 : ((List.range L.length).any fun i => decide (i % 2 = 0) && decide (cv L i ≠ 0)) = true := List.any_eq_true.mpr ⟨a, List.mem_range.mpr ha, by simp [a0, ca]⟩
        have q2 : ((List.range L.length).any fun i => decide (i % 2 = 1) && decide (cv L i ≠ 0)) = true := List.any_eq_true.mpr ⟨b, List.mem_range.mpr hb, by simp [b1, cb]⟩
        rw [q1, q2] at h
        cases h
      rcases Nat.mod_two_eq_zero_or_one i with e | e
      · exact mk i j (by omega) (by omega) e (by omega) zi zj
      · exact mk j i (by omega) (by omega) (by omega) e zj zi
theorem crs_iff {L : List Int} {n : Nat} {p : Int} (hn : L.length = n + 1) : CRS n (cv L) p ↔ CRSN (L.length - 2) (cv L) p :=
  ⟨fun h k m hk hm => h k m (by omega) (by omega), fun h k m hk hm => h k m (by omega) (by omega)⟩
/-- the law's word on a row -/
def Told (p : Int) (L : List Int) : Prop := mixed L = false ∧ CRSN (L.length - 2) (cv L) p
end Nm

/-! ### plain words: how they are shown -/
namespace Px
open PySem L2 EL
section
variable {α β S : Type} {xs : List α} {f : α → (Option β → Prop) → Prop} {k : List β → Prop}
theorem Br_i {b : Bool} {A B : Prop} (h1 : b = true → A) (h2 : b = false → B) : Br b A B := Br_b h1 h2
theorem Br_y {b : Bool} {A B : Prop} (h : b = true) (h1 : A) : Br b A B := by rw [h]; exact Br_t h1
theorem Br_x {b : Bool} {A B : Prop} (h : b = false) (h1 : B) : Br b A B := by rw [h]; exact Br_f h1
theorem Br_p {P : Prop} [Decidable P] {A B : Prop} (h1 : P → A) (h2 : ¬ P → B) : Br (decide P) A B := Br_d h1 h2
theorem wLet_i {v : α} {k : α → Prop} (h : k v) : wLet v k := h
theorem wJoin_i {f : (α → Prop) → Prop} {k : α → Prop} (h : f k) : wJoin f k := h
/-- a part that may give any of the values that P names -/
theorem wJoin_o {f : (α → Prop) → Prop} {k : α → Prop} (P : α → Prop) (h : ∀ j : α → Prop, (∀ x, P x → j x) → f j) (hk : ∀ x, P x → k x) : wJoin f k := h k hk
theorem wComp_fm (h : α → Option β) (hf : ∀ x, x ∈ xs → ∀ nx : Option β → Prop, nx (h x) → f x nx) (hk : k (xs.filterMap h)) : wComp xs f k := by
  induction xs generalizing k with
  | nil => exact hk
  | cons x xs ih =>
    refine hf x (List.mem_cons_self ..) _ (ih (fun y hy => hf y (List.mem_cons_of_mem _ hy)) ?_)
    rw [List.filterMap_cons] at hk
    cases e : h x with
    | none => rw [e] at hk; simpa using hk
    | some y => rw [e] at hk; simpa using hk
theorem wComp_map (h : α → β) (hf : ∀ x, x ∈ xs → ∀ nx : Option β → Prop, nx (some (h x)) → f x nx) (hk : k (xs.map h)) : wComp xs f k :=
  wComp_fm (fun x => some (h x)) hf (by rwa [List.filterMap_eq_map'])
theorem wComp_flt {f : α → (Option α → Prop) → Prop} {k : List α → Prop} (h : α → Bool) (hf : ∀ x, x ∈ xs → ∀ nx : Option α → Prop, (h x = true → nx (some x)) → (h x = false → nx none) → f x nx) (hk : k (xs.filter h)) : wComp xs f k := by
  induction xs generalizing k with
  | nil => exact hk
  | cons x xs ih =>
    have ih' := fun (k : List α → Prop) => ih (k := k) (fun y hy => hf y (List.mem_cons_of_mem _ hy))
    refine hf x (List.mem_cons_self ..) _ (fun e => ?_) fun e => ?_
    · refine ih' _ ?_
      rw [List.filter_cons, if_pos e] at hk
      exact hk
    · refine ih' _ ?_
      rw [List.filter_cons, if_neg (by rw [e]; simp)] at hk
      exact hk
/-- any list of the right length whose members P knows -/
theorem wComp_all (P : β → Prop) (hf : ∀ x, x ∈ xs → ∀ nx : Option β → Prop, (∀ y, P y → nx (some y)) → f x nx) (hk : ∀ ys : List β, ys.length = xs.length → (∀ y, y ∈ ys → P y) → k ys) : wComp xs f k := by
  induction xs generalizing k with
  | nil => exact hk [] rfl (fun _ h => nomatch h)
  | cons x xs ih =>
    refine hf x (List.mem_cons_self ..) _ fun y hy => ih (fun z hz => hf z (List.mem_cons_of_mem _ hz)) fun ys hl hp => ?_
    refine hk (y :: ys) (by simp [hl]) fun z hz => ?_
    rcases List.mem_cons.mp hz with e | e
    · rw [e]; exact hy
    · exact hp z e
theorem wFor_inv {s : S} {f : α → S → (S → Prop) → (S → Prop) → Prop} {k : S → Prop} (I : List α → S → Prop) (h0 : I [] s)
    (hs : ∀ pre x post s (nx : S → Prop), xs = pre ++ x :: post → I pre s → (∀ s', I (pre ++ [x]) s' → nx s') → f x s nx k) (hd : ∀ s, I xs s → k s) : wFor xs s f k := by
  suffices h : ∀ post pre s, xs = pre ++ post → I pre s → wFor post s f k from h xs [] s rfl h0
  intro post
  induction post with
  | nil =>
    intro pre s e i
    rw [List.append_nil] at e
    subst e
    exact hd s i
  | cons x post ih =>
    intro pre s e i
    refine hs pre x post s _ e i fun s' i' => ih (pre ++ [x]) s' (by rw [e]; simp) i'
theorem wFor_unit {f : α → Unit → (Unit → Prop) → (Unit → Prop) → Prop} {k : Unit → Prop} (hs : ∀ x, x ∈ xs → ∀ nx : Unit → Prop, nx () → f x () nx k) (hd : k ()) : wFor xs () f k :=
  wFor_inv (fun _ _ => True) trivial (fun pre x post s nx e _ h => hs x (by rw [e]; simp) nx (h () trivial)) fun _ _ => hd
/-- over a range, by the number of the turn -/
theorem wFor_rng {lo hi : Int} {s : S} {f : Int → S → (S → Prop) → (S → Prop) → Prop} {k : S → Prop} (I : Int → S → Prop) (hlh : lo ≤ hi) (h0 : I lo s)
    (hs : ∀ i s (nx : S → Prop), lo ≤ i → i < hi → I i s → (∀ s', I (i + 1) s' → nx s') → f i s nx k) (hd : ∀ s, I hi s → k s) : wFor (rangeL lo hi) s f k := by
  suffices h : ∀ (n : Nat) (i : Int) s, i + n = hi → lo ≤ i → I i s → wFor ((List.range n).map fun (j : Nat) => i + (j : Int)) s f k by
    unfold rangeL
    exact h (hi - lo).toNat lo s (by omega) (by omega) h0
  intro n
  induction n with
  | zero =>
    intro i s e _ h
    have : i = hi := by omega
    subst this
    exact hd s h
  | succ n ih =>
    intro i s e hl h
    rw [List.range_succ_eq_map, List.map_cons, List.map_map]
    have e2 : ((fun (j : Nat) => i + (j : Int)) ∘ Nat.succ) = fun (j : Nat) => (i + 1) + (j : Int) := by
      funext j
      show i + ((j + 1 : Nat) : Int) = _
      omega
    have e3 : i + ((0 : Nat) : Int) = i := by omega
    rw [e2, e3]
    exact hs i s _ hl (by omega) h fun s' h' => ih (i + 1) s' (by omega) (by omega) h'
theorem wWhile_m {s : S} {f : S → (S → Prop) → (S → Prop) → Prop} {k : S → Prop} (I : S → Prop) (m : S → Nat) (h0 : I s) (hs : ∀ s (nx : S → Prop), I s → (∀ s', I s' → m s' < m s → nx s') → f s nx k) : wWhile s f k :=
  ⟨fun n s => I s ∧ m s = n, ⟨_, h0, rfl⟩, fun n s ⟨hi, hm⟩ => hs s _ hi fun s' i' l => ⟨m s', by omega, i', rfl⟩⟩
end
/-! lists -/
section
variable {α : Type} [Inhabited α] {xs : List α} {i : Int}
theorem inB_nat {n : Nat} (h : n < xs.length) : inB xs (n : Int) := ⟨by omega, by omega⟩
theorem inB_of (h0 : 0 ≤ i) (h : i < xs.length) : inB xs i := ⟨by omega, h⟩
theorem ixG_nat {n : Nat} : ixG xs (n : Int) = (xs[n]?).getD default := by
  unfold ixG atI ixN
  rw [if_pos (by omega)]
  by_cases c : (n : Int) < xs.length
  · rw [if_pos c]
    simp
  · rw [if_neg c, List.getElem?_eq_none (by omega)]
    rfl
theorem ixG_at {n : Nat} {x : α} (h : xs[n]? = some x) : ixG xs (n : Int) = x := by rw [ixG_nat, h]; rfl
theorem ixG_of {n : Nat} {x : α} (e : i = (n : Int)) (h : xs[n]? = some x) : ixG xs i = x := by rw [e]; exact ixG_at h
theorem ixG_mem (h0 : 0 ≤ i) (h : i < xs.length) : ixG xs i ∈ xs := by
  obtain ⟨n, rfl⟩ : ∃ n : Nat, i = n := ⟨i.toNat, by omega⟩
  have hn : n < xs.length := by omega
  rw [ixG_at (List.getElem?_eq_getElem hn)]
  exact List.getElem_mem hn
theorem setG_nat {n : Nat} {y : α} : setG xs (n : Int) y = xs.set n y := by
  unfold setG ixN
  rw [if_pos (by omega)]
  by_cases c : (n : Int) < xs.length
  · rw [if_pos c]
    simp
  · rw [if_neg c, List.set_eq_of_length_le (by omega)]
theorem setG_of {n : Nat} {y : α} (e : i = (n : Int)) : setG xs i y = xs.set n y := by rw [e]; exact setG_nat
theorem setG_mem {y z : α} (h : z ∈ setG xs i y) : z ∈ xs ∨ z = y := by
  unfold setG at h
  split at h
  · exact List.mem_or_eq_of_mem_set h
  · exact .inl h
end
theorem mem_rangeL {lo hi x : Int} : x ∈ rangeL lo hi ↔ lo ≤ x ∧ x < hi := by
  unfold rangeL
  rw [List.mem_map]
  constructor
  · rintro ⟨n, hn, rfl⟩
    have := List.mem_range.mp hn
    omega
  · intro h
    exact ⟨(x - lo).toNat, List.mem_range.mpr (by omega), by omega⟩
theorem lim_le {n : Nat} (h : n ≤ 1000000) : n ≤ LIM := Nat.le_trans h (Nat.le_of_ble_eq_true rfl)
theorem lim_lt {n : Nat} (h : n < 1000000) : n < LIM := Nat.lt_of_lt_of_le h (Nat.le_of_ble_eq_true rfl)
theorem rg_ok {lo hi : Int} (h : -1000000000 ≤ lo ∧ lo ≤ 1000000000 ∧ -1000000000 ≤ hi ∧ hi ≤ 1000000000) : rgOk lo hi := by unfold rgOk; omega
theorem cmul_l {i j : Int} (h : -1000000000 ≤ i ∧ i ≤ 1000000000) : CMul i j := .inl (by omega)
theorem cmul_r {i j : Int} (h : -1000000000 ≤ j ∧ j ≤ 1000000000) : CMul i j := .inr (by omega)
theorem scan_ok {n : Nat} (h : n ≤ 1000) : n + 1 < scanBound := Nat.lt_of_le_of_lt (Nat.succ_le_succ h) (Nat.lt_of_lt_of_le (Nat.lt_succ_self 1001) (Nat.le_of_ble_eq_true rfl))
/-! errors -/
def NumE (n : Int) : PErr := ⟨2, [("number", .int n)]⟩
def SizeE (n : Int) : PErr := ⟨1, [("count", .int n)]⟩
end Px

namespace Nm
open PySem
/-! ### bits -/
theorem band_nat (a b : Nat) : Builtin.bitAnd (a : Int) (b : Int) = ((a &&& b : Nat) : Int) := rfl
theorem xor_add : ∀ (n a b : Nat), a < n → (a ^^^ b) + 2 * (a &&& b) = a + b := by
  intro n
  induction n with
  | zero => intro a b h; omega
  | succ n ih =>
    intro a b h
    by_cases c : a = 0
    · subst c
      simp
    · have q := ih (a / 2) (b / 2) (by omega)
      have x1 : (a ^^^ b) / 2 = a / 2 ^^^ b / 2 := Nat.xor_div_two
      have x2 : (a &&& b) / 2 = a / 2 &&& b / 2 := Nat.and_div_two
      have y1 : (a ^^^ b) % 2 = 1 ↔ ¬ ((a % 2 = 1) ↔ (b % 2 = 1)) := Nat.xor_mod_two_eq_one
      have y2 : (a &&& b) % 2 = 1 ↔ a % 2 = 1 ∧ b % 2 = 1 := Nat.and_mod_two_eq_one
      rw [← x1, ← x2] at q
      omega
theorem bxor_nat (a b : Nat) : Builtin.bitXor (a : Int) (b : Int) = ((a ^^^ b : Nat) : Int) := by
  rw [PyProof.Rows.bitXor_and, band_nat]
  have := xor_add (a + 1) a b (by omega)
  omega
theorem bshr_nat (a n : Nat) : (a : Int) / (2 : Int) ^ n = ((a >>> n : Nat) : Int) := by
  rw [Nat.shiftRight_eq_div_pow, Int.natCast_ediv, Int.natCast_pow]
  rfl
theorem bshl_nat (n : Nat) : (1 : Int) * (2 : Int) ^ n = ((1 <<< n : Nat) : Int) := by
  rw [Nat.shiftLeft_eq, Int.natCast_mul, Int.natCast_pow]
  rfl
theorem band1_nat (a : Nat) : Builtin.bitAnd (a : Int) 1 = ((a % 2 : Nat) : Int) := by
  rw [show (1 : Int) = ((1 : Nat) : Int) from rfl, band_nat, Nat.and_one_is_mod]
theorem bit_at (a n : Nat) : Builtin.bitAnd ((a : Int) / (2 : Int) ^ n) 1 = (((a >>> n) % 2 : Nat) : Int) := by rw [bshr_nat, band1_nat]
theorem xor_lt {n a i : Nat} (h : a < 2 ^ n) (hi : i < n) : a ^^^ (1 <<< i) < 2 ^ n := by
  refine Nat.xor_lt_two_pow h ?_
  rw [Nat.shiftLeft_eq, Nat.one_mul]
  exact Nat.pow_lt_pow_right (by omega) hi
end Nm

namespace Nm
open PySem Px
/-! ### the bits of a lot -/
def bit (l k : Nat) : Bool := decide ((l >>> k) % 2 = 1)
def bits (n l : Nat) : List Nat := (List.range n).filter (bit l)
theorem bits_succ {n l : Nat} : bits (n + 1) l = bits n l ++ (if bit l n = true then [n] else []) := by
  unfold bits
  rw [List.range_succ, List.filter_append, List.filter_cons, List.filter_nil]
theorem mem_bits {n l k : Nat} : k ∈ bits n l ↔ k < n ∧ bit l k = true := by
  unfold bits
  rw [List.mem_filter, List.mem_range]
theorem shr_zero {l n : Nat} (h : l < 2 ^ n) : l >>> n = 0 := by rw [Nat.shiftRight_eq_div_pow]; exact Nat.div_eq_of_lt h
theorem bits_top {l t : Nat} : ∀ {n : Nat}, t ≤ n → l >>> t = 0 → bits n l = bits t l := by
  intro n
  induction n with
  | zero => intro h _; rw [show t = 0 by omega]
  | succ n ih =>
    intro h z
    by_cases c : t = n + 1
    · rw [c]
    · rw [bits_succ, ih (by omega) z]
      have : bit l n = false := by
        unfold bit
        have e : l >>> n = 0 := by
          rw [show n = t + (n - t) by omega, Nat.shiftRight_add, z, Nat.zero_shiftRight]
        rw [e]
        rfl
      rw [this]
      simp
theorem bit_test {m k : Nat} : bit m k = m.testBit k := by
  unfold bit
  rw [Nat.testBit_eq_decide_div_mod_eq, Nat.shiftRight_eq_div_pow]
theorem two_bits {m a b : Nat} (ha : bit m a = true) (hb : bit m b = true) (h : a < b) : 2 ^ a + 2 ^ b ≤ m := by
  have h1 : 2 ^ a ≤ m % 2 ^ b := Nat.ge_two_pow_of_testBit (by rw [Nat.testBit_mod_two_pow, decide_eq_true h, ← bit_test, ha]; rfl)
  have h2 : 1 ≤ m / 2 ^ b := by
    unfold bit at hb
    rw [Nat.shiftRight_eq_div_pow, decide_eq_true_eq] at hb
    generalize m / 2 ^ b = q at hb ⊢
    omega
  have h3 := Nat.div_add_mod m (2 ^ b)
  have h4 := Nat.mul_le_mul_left (2 ^ b) h2
  rw [Nat.mul_one] at h4
  generalize 2 ^ b * (m / 2 ^ b) = q at h3 h4
  generalize m % 2 ^ b = r at h1 h3
  generalize 2 ^ a = x at h1 ⊢
  generalize 2 ^ b = y at h4 ⊢
  omega
theorem bits_sorted {n m : Nat} : (bits n m).Pairwise (· < ·) := List.Pairwise.filter _ (List.pairwise_lt_range)
/-! ### polynomials, to be counted out -/
def evM (r : Nat → Int) : List Nat → Int
  | [] => 1
  | v :: m => r v * evM r m
def insV (v : Nat) : List Nat → List Nat
  | [] => [v]
  | w :: m => if v ≤ w then v :: w :: m else w :: insV v m
theorem evM_ins {r : Nat → Int} {v : Nat} : ∀ m, evM r (insV v m) = r v * evM r m
  | [] => rfl
  | w :: m => by
    unfold insV
    split
    · rfl
    · show r w * evM r (insV v m) = r v * (r w * evM r m)
      rw [evM_ins m, ← Int.mul_assoc, ← Int.mul_assoc, Int.mul_comm (r w)]
def mulM (a b : List Nat) : List Nat := a.foldr insV b
theorem evM_mul {r : Nat → Int} {b : List Nat} : ∀ a, evM r (mulM a b) = evM r a * evM r b
  | [] => by show evM r b = 1 * evM r b; rw [Int.one_mul]
  | v :: a => by
    show evM r (insV v (mulM a b)) = r v * evM r a * evM r b
    rw [evM_ins, evM_mul a, Int.mul_assoc]
abbrev Ply := List (Int × List Nat)
def evP (r : Nat → Int) : Ply → Int
  | [] => 0
  | t :: P => t.1 * evM r t.2 + evP r P
def addT (c : Int) (m : List Nat) : Ply → Ply
  | [] => [(c, m)]
  | t :: P => if t.2 = m then (t.1 + c, t.2) :: P else t :: addT c m P
theorem evP_addT {r : Nat → Int} {c : Int} {m : List Nat} : ∀ P, evP r (addT c m P) = c * evM r m + evP r P
  | [] => rfl
  | t :: P => by
    unfold addT
    split
    · rename_i h
      show (t.1 + c) * evM r t.2 + evP r P = _ + (t.1 * evM r t.2 + evP r P)
      rw [h, Int.add_mul]
      omega
    · show t.1 * evM r t.2 + evP r (addT c m P) = _ + (t.1 * evM r t.2 + evP r P)
      rw [evP_addT P]
      omega
def addP (P Q : Ply) : Ply := P.foldr (fun t a => addT t.1 t.2 a) Q
theorem evP_add {r : Nat → Int} {Q : Ply} : ∀ P, evP r (addP P Q) = evP r P + evP r Q
  | [] => by show evP r Q = 0 + evP r Q; omega
  | t :: P => by
    show evP r (addT t.1 t.2 (addP P Q)) = t.1 * evM r t.2 + evP r P + evP r Q
    rw [evP_addT, evP_add P]
    omega
def mulT (c : Int) (m : List Nat) (Q : Ply) : Ply := Q.map fun t => (c * t.1, mulM m t.2)
theorem evP_mulT {r : Nat → Int} {c : Int} {m : List Nat} : ∀ Q, evP r (mulT c m Q) = c * evM r m * evP r Q
  | [] => by show (0 : Int) = _ * 0; rw [Int.mul_zero]
  | t :: Q => by
    show c * t.1 * evM r (mulM m t.2) + evP r (mulT c m Q) = c * evM r m * (t.1 * evM r t.2 + evP r Q)
    rw [evP_mulT Q, evM_mul, Int.mul_add]
    congr 1
    grind
def mulP (P Q : Ply) : Ply := P.foldr (fun t a => addP (mulT t.1 t.2 Q) a) []
theorem evP_mul {r : Nat → Int} {Q : Ply} : ∀ P, evP r (mulP P Q) = evP r P * evP r Q
  | [] => by show (0 : Int) = 0 * _; rw [Int.zero_mul]
  | t :: P => by
    show evP r (addP (mulT t.1 t.2 Q) (mulP P Q)) = (t.1 * evM r t.2 + evP r P) * evP r Q
    rw [evP_add, evP_mulT, evP_mul P, Int.add_mul]
def isZ (P : Ply) : Bool := P.all fun t => decide (t.1 = 0)
theorem evP_z {r : Nat → Int} : ∀ {P : Ply}, isZ P = true → evP r P = 0
  | [], _ => rfl
  | t :: P, h => by
    unfold isZ at h
    rw [List.all_cons, Bool.and_eq_true, decide_eq_true_eq] at h
    show t.1 * evM r t.2 + evP r P = 0
    rw [h.1, evP_z (P := P) h.2]
    omega
/-! ### roots (Pfaffians) -/
def altS (g : Nat → Int) : Int → List Nat → Int
  | _, [] => 0
  | s, b :: r => s * g b + altS g (-s) r
def altP (g : Nat → Ply) : Int → List Nat → Ply
  | _, [] => []
  | s, b :: r => addP (mulT s [] (g b)) (altP g (-s) r)
theorem alt_ev {r : Nat → Int} {g : Nat → Ply} {h : Nat → Int} : ∀ (L : List Nat) (s : Int), (∀ b, b ∈ L → evP r (g b) = h b) → evP r (altP g s L) = altS h s L
  | [], s, _ => rfl
  | b :: L, s, e => by
    show evP r (addP (mulT s [] (g b)) (altP g (-s) L)) = s * h b + altS h (-s) L
    rw [evP_add, evP_mulT, alt_ev L (-s) (fun c hc => e c (List.mem_cons_of_mem _ hc)), e b (List.mem_cons_self ..)]
    show s * 1 * h b + _ = _
    rw [Int.mul_one]
def pfF (l : Nat → Nat → Int) : Nat → Nat → Int
  | 0, _ => 0
  | f + 1, m => match bits 6 m with
    | [] => 1
    | a :: r => altS (fun b => l a b * pfF l f (m - 2 ^ a - 2 ^ b)) 1 r
def pfP : Nat → Nat → Ply
  | 0, _ => []
  | f + 1, m => match bits 6 m with
    | [] => [(1, [])]
    | a :: r => altP (fun b => mulT 1 [6 * a + b] (pfP f (m - 2 ^ a - 2 ^ b))) 1 r
theorem pf_ev {l : Nat → Nat → Int} {r : Nat → Int} (hr : ∀ a b, a < 6 → b < 6 → r (6 * a + b) = l a b) : ∀ f m, evP r (pfP f m) = pfF l f m
  | 0, _ => rfl
  | f + 1, m => by
    unfold pfP pfF
    split
    · show 1 * 1 + 0 = (1 : Int)
      rfl
    · rename_i a L e
      refine alt_ev L 1 fun b hb => ?_
      have ha : a < 6 := (mem_bits.mp (show a ∈ bits 6 m by rw [e]; exact List.mem_cons_self ..)).1
      have hb : b < 6 := (mem_bits.mp (show b ∈ bits 6 m by rw [e]; exact List.mem_cons_of_mem _ hb)).1
      rw [evP_mulT, pf_ev hr f]
      show 1 * (r (6 * a + b) * 1) * _ = _
      rw [hr a b ha hb, Int.one_mul, Int.mul_one]
theorem altS_ext {g h : Nat → Int} : ∀ (L : List Nat) (s : Int), (∀ b, b ∈ L → g b = h b) → altS g s L = altS h s L
  | [], _, _ => rfl
  | b :: L, s, e => by
    show s * g b + altS g (-s) L = s * h b + altS h (-s) L
    rw [e b (List.mem_cons_self ..), altS_ext L (-s) fun c hc => e c (List.mem_cons_of_mem _ hc)]
/-- enough fuel is enough -/
theorem pf_fuel {l : Nat → Nat → Int} : ∀ (f g m : Nat), m < f → m < g → pfF l f m = pfF l g m
  | 0, _, _, h, _ => by omega
  | _ + 1, 0, _, _, h => by omega
  | f + 1, g + 1, m, h1, h2 => by
    unfold pfF
    split
    · rfl
    · rename_i a L e
      refine altS_ext L 1 fun b hb => ?_
      have sa := mem_bits.mp (show a ∈ bits 6 m by rw [e]; exact List.mem_cons_self ..)
      have hm : 1 ≤ m := by
        rcases Nat.eq_zero_or_pos m with z | z
        · rw [z] at sa
          have : bit 0 a = false := by unfold bit; rw [Nat.zero_shiftRight]; rfl
          rw [this] at sa
          cases sa.2
        · exact z
      have p1 := Nat.one_le_two_pow (n := a)
      have lt : m - 2 ^ a - 2 ^ b < m := by
        generalize 2 ^ a = u at p1 ⊢
        generalize 2 ^ b = v
        omega
      generalize m - 2 ^ a - 2 ^ b = q at lt ⊢
      rw [pf_fuel f g q (by omega) (by omega)]
def pf (l : Nat → Nat → Int) (m : Nat) : Int := pfF l (m + 1) m
def lawP (s t : Nat) : Ply := altP (fun k => mulP (pfP 33 (s ^^^ 1 <<< k)) (pfP 33 (t ^^^ 1 <<< k))) 1 (bits 6 (s ^^^ t))
theorem law_ok : ((List.range 32).all fun s => (List.range 32).all fun t => isZ (lawP s t)) = true := by decide +kernel
theorem pf_law {l : Nat → Nat → Int} {s t : Nat} (hs : s < 32) (ht : t < 32) : altS (fun k => pf l (s ^^^ 1 <<< k) * pf l (t ^^^ 1 <<< k)) 1 (bits 6 (s ^^^ t)) = 0 := by
  have z := List.all_eq_true.mp (List.all_eq_true.mp law_ok s (List.mem_range.mpr hs)) t (List.mem_range.mpr ht)
  have e := evP_z (r := fun v => l (v / 6) (v % 6)) z
  rw [← e]
  symm
  have hr : ∀ a b, a < 6 → b < 6 → (fun v => l (v / 6) (v % 6)) (6 * a + b) = l a b := fun a b _ hb => by
    show l ((6 * a + b) / 6) ((6 * a + b) % 6) = l a b
    rw [show (6 * a + b) / 6 = a by omega, show (6 * a + b) % 6 = b by omega]
  refine alt_ev _ 1 fun k hk => ?_
  have hd : s ^^^ t < 2 ^ 5 := Nat.xor_lt_two_pow hs ht
  have hk5 : k < 5 := by
    rw [bits_top (t := 5) (by omega) (shr_zero hd)] at hk
    exact (mem_bits.mp hk).1
  have x1 : s ^^^ 1 <<< k < 2 ^ 5 := xor_lt hs hk5
  have x2 : t ^^^ 1 <<< k < 2 ^ 5 := xor_lt ht hk5
  rw [evP_mul, pf_ev hr, pf_ev hr]
  unfold pf
  rw [pf_fuel 33 ((s ^^^ 1 <<< k) + 1) (s ^^^ 1 <<< k) (by omega) (by omega), pf_fuel 33 ((t ^^^ 1 <<< k) + 1) (t ^^^ 1 <<< k) (by omega) (by omega)]
end Nm

namespace Lw
open PySem L2 EL Px
def w_ulaw_draws (x_script : List Int) (x_count : Int) (k : Unit → Prop) (e : PErr → Prop) : Prop := (0 < x_count ∧ x_count ≤ 10000) ∧ x_script.length ≤ 63 ∧ k ()
def w_ulaw_next (x_dr x_at : Unit) (x_many : Int) (k : Int → Prop) (e : PErr → Prop) : Prop := 0 < x_many ∧ ∀ n : Int, 0 ≤ n → n < x_many → k n
def w_ulaw_prime (x_dr : Unit) (x_at : Unit) (k : Int → Prop) (e : PErr → Prop) : Prop :=
  (w_ulaw_next x_dr x_at (4 : Int) (fun (r1 : Int) => (Br (decide (r1 > (0 : Int))) (w_ulaw_next x_dr x_at (4 : Int) (fun (r24 : Int) => ((inB ([(3 : Int), (5 : Int), (7 : Int), (11 : Int)] : List Int) r24) ∧ (k (ixG ([(3 : Int), (5 : Int), (7 : Int), (11 : Int)] : List Int) r24)))) e) (w_ulaw_next x_dr x_at (995 : Int) (fun (r30 : Int) => (wLet ((3 : Int) + r30) fun (y36 : Int) => ((rgOk (0 : Int) (40 : Int)) ∧ (wFor (rangeL (0 : Int) (40 : Int)) (y36) (fun (d120 : Int) (s111 : Int) (nx118 bk119 : (Int) → Prop) => ((rgOk (2 : Int) (32 : Int)) ∧ ((Int.toNat ((32 : Int) - (2 : Int)) ≤ LIM) ∧ (wComp (rangeL (2 : Int) (32 : Int)) (fun (d132 : Int) (nx141 : Option Int → Prop) => (((decide (d132 < s111)) = true → (0 < d132)) ∧ (Br ((decide (d132 < s111)) && (decide ((s111 % d132) = (0 : Int)))) (nx141 (some d132)) (nx141 none)))) (fun (zs166 : List Int) => (Br (decide (zs166 = ([] : List Int))) (k s111) (wLet (s111 - (1 : Int)) fun (y198 : Int) => (nx118 (y198))))))))) (fun (s124 : Int) => (k (3 : Int))))))) e))) e)
def w_ulaw_residue (x_dr : Unit) (x_at : Unit) (x_p : Int) (k : Int → Prop) (e : PErr → Prop) : Prop :=
  (w_ulaw_next x_dr x_at (4 : Int) (fun (r1 : Int) => (Br (decide (r1 = (0 : Int))) (k (0 : Int)) (w_ulaw_next x_dr x_at x_p (fun (r8 : Int) => (k r8)) e))) e)
def w_ulaw_pair_spot (x_n : Int) (x_i : Int) (x_j : Int) (k : Int → Prop) (e : PErr → Prop) : Prop :=
  (wLet (minI x_i x_j) fun (y1 : Int) => ((CMul (2 : Int) x_n) ∧ ((CMul y1 ((((2 : Int) * x_n) - y1) - (1 : Int))) ∧ ((CDiv (y1 * ((((2 : Int) * x_n) - y1) - (1 : Int))) (2 : Int)) ∧ (k (((((y1 * ((((2 : Int) * x_n) - y1) - (1 : Int))) / (2 : Int)) + (maxI x_i x_j)) - y1) - (1 : Int)))))))
def w_ulaw_roots (x_p : Int) (x_n : Int) (x_links : (List Int)) (k : (List Int) → Prop) (e : PErr → Prop) : Prop :=
  (wLet ([(1 : Int)] : List Int) fun (y14 : List Int) => ((CPow (1 : Int) x_n) ∧ ((rgOk (1 : Int) ((1 : Int) * 2 ^ Int.toNat x_n)) ∧ (wFor (rangeL (1 : Int) ((1 : Int) * 2 ^ Int.toNat x_n)) (y14) (fun (d294 : Int) (s276 : (List Int)) (nx292 bk293 : ((List Int)) → Prop) => ((rgOk (0 : Int) x_n) ∧ ((Int.toNat x_n ≤ LIM) ∧ (wComp (rangeL (0 : Int) x_n) (fun (d315 : Int) (nx324 : Option Int → Prop) => ((0 ≤ d315) ∧ (Br (decide ((PySem.Builtin.bitAnd (d294 / 2 ^ Int.toNat d315) (1 : Int)) = (1 : Int))) (nx324 (some d315)) (nx324 none)))) (fun (zs347 : List Int) => ((rgOk (1 : Int) (zs347.length : Int)) ∧ (wFor (rangeL (1 : Int) (zs347.length : Int)) ((0 : Int)) (fun (d394 : Int) (s382 : Int) (nx392 bk393 : (Int) → Prop) => ((inB zs347 (0 : Int)) ∧ ((CPow (1 : Int) (ixG zs347 (0 : Int))) ∧ ((inB zs347 d394) ∧ ((CPow (1 : Int) (ixG zs347 d394)) ∧ (wLet ((d294 - ((1 : Int) * 2 ^ Int.toNat (ixG zs347 (0 : Int)))) - ((1 : Int) * 2 ^ Int.toNat (ixG zs347 d394))) fun (y408 : Int) => ((inB zs347 (0 : Int)) ∧ ((inB zs347 d394) ∧ (w_ulaw_pair_spot x_n (ixG zs347 (0 : Int)) (ixG zs347 d394) (fun (r409 : Int) => ((inB x_links r409) ∧ ((inB s276 y408) ∧ ((CMul (ixG x_links r409) (ixG s276 y408)) ∧ (wLet ((ixG x_links r409) * (ixG s276 y408)) fun (y416 : Int) => ((CMul (2 : Int) y416) ∧ ((0 < (2 : Int)) ∧ ((CMul ((2 : Int) * y416) ((d394 + (1 : Int)) % (2 : Int))) ∧ (wLet ((s382 + y416) - (((2 : Int) * y416) * ((d394 + (1 : Int)) % (2 : Int)))) fun (y417 : Int) => (nx392 (y417))))))))))) e))))))))) (fun (s398 : Int) => ((0 < x_p) ∧ ((s276.length < LIM) ∧ (wLet (s276 ++ [(s398 % x_p)]) fun (y427 : List Int) => (nx292 (y427))))))))))))) (fun (s298 : (List Int)) => (k s298))))))
def w_ulaw_form_entries (x_p : Int) (x_n : Int) (x_home : Int) (x_worth : Int) (x_links : (List Int)) (k : (List Int) → Prop) (e : PErr → Prop) : Prop :=
  (w_ulaw_roots x_p x_n x_links (fun (r1 : (List Int)) => ((CPow (1 : Int) x_n) ∧ ((rgOk (0 : Int) ((1 : Int) * 2 ^ Int.toNat x_n)) ∧ ((Int.toNat ((1 : Int) * 2 ^ Int.toNat x_n) ≤ LIM) ∧ (wComp (rangeL (0 : Int) ((1 : Int) * 2 ^ Int.toNat x_n)) (fun (d20 : Int) (nx29 : Option Int → Prop) => ((inB r1 (PySem.Builtin.bitXor d20 x_home)) ∧ ((CMul x_worth (ixG r1 (PySem.Builtin.bitXor d20 x_home))) ∧ ((0 < x_p) ∧ (nx29 (some ((x_worth * (ixG r1 (PySem.Builtin.bitXor d20 x_home))) % x_p))))))) (fun (zs49 : List Int) => (k zs49))))))) e)
def w_ulaw_told (x_dr : Unit) (x_at : Unit) (x_p : Int) (x_n : Int) (k : (List Int) → Prop) (e : PErr → Prop) : Prop :=
  ((CPow (1 : Int) x_n) ∧ (w_ulaw_next x_dr x_at ((1 : Int) * 2 ^ Int.toNat x_n) (fun (r1 : Int) => (w_ulaw_next x_dr x_at (x_p - (1 : Int)) (fun (r7 : Int) => (wLet (r7 + (1 : Int)) fun (y13 : Int) => (wJoin (fun (j22 : Int → Prop) => (w_ulaw_next x_dr x_at (8 : Int) (fun (r29 : Int) => (Br (decide (r29 = (7 : Int))) (j22 (0 : Int)) (j22 y13))) e)) (fun (s21 : Int) => ((CMul x_n (x_n - (1 : Int))) ∧ ((CDiv (x_n * (x_n - (1 : Int))) (2 : Int)) ∧ ((rgOk (0 : Int) ((x_n * (x_n - (1 : Int))) / (2 : Int))) ∧ ((Int.toNat ((x_n * (x_n - (1 : Int))) / (2 : Int)) ≤ LIM) ∧ (wComp (rangeL (0 : Int) ((x_n * (x_n - (1 : Int))) / (2 : Int))) (fun (d37 : Int) (nx46 : Option Int → Prop) => (w_ulaw_residue x_dr x_at x_p (fun (r71 : Int) => (nx46 (some r71))) (fun _ => False))) (fun (zs82 : List Int) => (w_ulaw_form_entries x_p x_n r1 s21 zs82 (fun (r97 : (List Int)) => (k r97)) e))))))))))) e)) e))
def w_ulaw_any_cells (x_dr : Unit) (x_at : Unit) (x_p : Int) (x_n : Int) (k : (List Int) → Prop) (e : PErr → Prop) : Prop :=
  (w_ulaw_next x_dr x_at (6 : Int) (fun (r1 : Int) => (Br (decide (r1 = (0 : Int))) ((CPow (1 : Int) x_n) ∧ ((rgOk (0 : Int) ((1 : Int) * 2 ^ Int.toNat x_n)) ∧ ((Int.toNat ((1 : Int) * 2 ^ Int.toNat x_n) ≤ LIM) ∧ (wComp (rangeL (0 : Int) ((1 : Int) * 2 ^ Int.toNat x_n)) (fun (d9 : Int) (nx18 : Option Int → Prop) => (w_ulaw_residue x_dr x_at x_p (fun (r43 : Int) => (nx18 (some r43))) (fun _ => False))) (fun (zs54 : List Int) => (k zs54)))))) (w_ulaw_told x_dr x_at x_p x_n (fun (r66 : (List Int)) => ((CPow (1 : Int) x_n) ∧ (w_ulaw_next x_dr x_at ((1 : Int) * 2 ^ Int.toNat x_n) (fun (r81 : Int) => (w_ulaw_next x_dr x_at (x_p - (1 : Int)) (fun (r88 : Int) => (wLet ((1 : Int) + r88) fun (y95 : Int) => (wJoin (fun (j110 : (List Int) → Prop) => (Br (decide (r1 = (1 : Int))) ((inB r66 r81) ∧ ((0 < x_p) ∧ ((inB r66 r81) ∧ (wLet (setG r66 r81 (((ixG r66 r81) + y95) % x_p)) fun (y131 : List Int) => (j110 y131))))) (j110 r66))) (fun (s109 : (List Int)) => (wJoin (fun (j200 : (List Int) → Prop) => (Br (decide (r1 = (2 : Int))) (w_ulaw_told x_dr x_at x_p x_n (fun (r216 : (List Int)) => ((CPow (1 : Int) x_n) ∧ ((rgOk (0 : Int) ((1 : Int) * 2 ^ Int.toNat x_n)) ∧ ((Int.toNat ((1 : Int) * 2 ^ Int.toNat x_n) ≤ LIM) ∧ (wComp (rangeL (0 : Int) ((1 : Int) * 2 ^ Int.toNat x_n)) (fun (d236 : Int) (nx245 : Option Int → Prop) => ((inB s109 d236) ∧ ((inB r216 d236) ∧ ((0 < x_p) ∧ (nx245 (some (((ixG s109 d236) + (ixG r216 d236)) % x_p))))))) (fun (zs267 : List Int) => (j200 zs267))))))) e) (j200 s109))) (fun (s199 : (List Int)) => (wJoin (fun (j371 : (List Int) → Prop) => (Br (decide (r1 = (3 : Int))) ((CPow (1 : Int) x_n) ∧ ((rgOk (0 : Int) ((1 : Int) * 2 ^ Int.toNat x_n)) ∧ ((Int.toNat ((1 : Int) * 2 ^ Int.toNat x_n) ≤ LIM) ∧ (wComp (rangeL (0 : Int) ((1 : Int) * 2 ^ Int.toNat x_n)) (fun (d388 : Int) (nx397 : Option Int → Prop) => (nx397 (some (0 : Int)))) (fun (zs419 : List Int) => ((inB zs419 r81) ∧ (wLet (setG zs419 r81 y95) fun (y442 : List Int) => ((CPow (1 : Int) x_n) ∧ (w_ulaw_next x_dr x_at ((1 : Int) * 2 ^ Int.toNat x_n) (fun (r445 : Int) => (w_ulaw_next x_dr x_at (x_p - (1 : Int)) (fun (r453 : Int) => ((inB y442 r445) ∧ (wLet (setG y442 r445 ((1 : Int) + r453)) fun (y471 : List Int) => (j371 y471)))) e)) e))))))))) (j371 s199))) (fun (s370 : (List Int)) => (k s370))))))))) e)) e))) e))) e)
def w_check_number (x_number : Int) (x_low : Int) (x_high : Int) (k : Unit → Prop) (e : PErr → Prop) : Prop :=
  (Br ((decide (x_number < x_low)) || (decide (x_number > x_high))) (e ⟨2, [("number", (.int x_number))]⟩) (k ()))
def w_is_odd_prime (x_number : Int) (k : Bool → Prop) (e : PErr → Prop) : Prop :=
  (w_check_number x_number (0 : Int) (997 : Int) (fun (r1 : Unit) => (((decide (x_number < (3 : Int))) = false → (0 < (2 : Int))) ∧ (Br ((decide (x_number < (3 : Int))) || (decide ((x_number % (2 : Int)) = (0 : Int)))) (k false) (wWhile ((3 : Int)) (fun (s17 : Int) (nx23 bk24 : (Int) → Prop) => ((CMul s17 s17) ∧ (Br (decide ((s17 * s17) ≤ x_number)) ((0 < s17) ∧ (Br (decide ((x_number % s17) = (0 : Int))) (k false) (wLet (s17 + (2 : Int)) fun (y29 : Int) => (nx23 (y29))))) (bk24 s17)))) (fun (s17 : Int) => (k true)))))) e)
def w_look_prime (x_prime : Int) (k : Unit → Prop) (e : PErr → Prop) : Prop :=
  (w_is_odd_prime x_prime (fun (r1 : Bool) => (Br (!r1) (e ⟨2, [("number", (.int x_prime))]⟩) (k ()))) e)
def w_look_number (x_number : Int) (x_low : Int) (x_high : Int) (k : Unit → Prop) (e : PErr → Prop) : Prop :=
  (Br ((decide (x_number < x_low)) || (decide (x_number > x_high))) (e ⟨2, [("number", (.int x_number))]⟩) (k ()))
def w_look_list (x_items : (List Int)) (x_low : Int) (x_high : Int) (k : Unit → Prop) (e : PErr → Prop) : Prop :=
  (Br ((decide ((x_items.length : Int) < x_low)) || (decide ((x_items.length : Int) > x_high))) (e ⟨1, [("count", (.int (x_items.length : Int)))]⟩) (k ()))
def w_look_residue (x_prime : Int) (x_number : Int) (k : Unit → Prop) (e : PErr → Prop) : Prop :=
  (Br ((decide (x_number < (0 : Int))) || (decide (x_number ≥ x_prime))) (e ⟨2, [("number", (.int x_number))]⟩) (k ()))
def w_look_residues (x_prime : Int) (x_items : (List Int)) (x_count : Int) (k : Unit → Prop) (e : PErr → Prop) : Prop :=
  (w_look_list x_items x_count x_count (fun (r1 : Unit) => (wFor x_items (()) (fun (d34 : Int) (s25 : Unit) (nx32 bk33 : (Unit) → Prop) => (w_look_residue x_prime d34 (fun (r45 : Unit) => (nx32 (()))) e)) (fun (s38 : Unit) => (k ())))) e)
def w_Table_init (x_prime : Int) (x_ends : Int) (x_entries : (List Int)) (k : (Int × Int × (List Int)) → Prop) (e : PErr → Prop) : Prop :=
  (w_look_prime x_prime (fun (r1 : Unit) => (w_look_number x_ends (0 : Int) (6 : Int) (fun (r8 : Unit) => ((CPow (1 : Int) x_ends) ∧ (w_look_residues x_prime x_entries ((1 : Int) * 2 ^ Int.toNat x_ends) (fun (r15 : Unit) => (k (x_prime, x_ends, x_entries))) e))) e)) e)
def w_look_lot (x_count : Int) (x_lot : Int) (k : Unit → Prop) (e : PErr → Prop) : Prop :=
  ((CPow (1 : Int) x_count) ∧ (w_look_number x_lot (0 : Int) (((1 : Int) * 2 ^ Int.toNat x_count) - (1 : Int)) (fun (r1 : Unit) => (k ())) e))
def w_bits_of (x_lot : Int) (k : (List Int) → Prop) (e : PErr → Prop) : Prop :=
  (wLet ([] : List Int) fun (y14 : List Int) => (wWhile ((x_lot, (0 : Int), y14)) (fun (s112 : Int × Int × (List Int)) (nx122 bk123 : (Int × Int × (List Int)) → Prop) => (Br (decide (s112.1 > (0 : Int))) (wJoin (fun (j141 : (List Int) → Prop) => ((0 < (2 : Int)) ∧ (Br (decide ((s112.1 % (2 : Int)) = (1 : Int))) ((s112.2.2.length < LIM) ∧ (wLet (s112.2.2 ++ [s112.2.1]) fun (y162 : List Int) => (j141 y162))) (j141 s112.2.2)))) (fun (s140 : (List Int)) => ((CDiv s112.1 (2 : Int)) ∧ (wLet (s112.1 / (2 : Int)) fun (y165 : Int) => (wLet (s112.2.1 + (1 : Int)) fun (y166 : Int) => (nx122 ((y165, y166, s140)))))))) (bk123 s112))) (fun (s112 : Int × Int × (List Int)) => (k s112.2.2))))
def w_exchange_ends (x_table : (Int × Int × (List Int))) (x_first : Int) (x_second : Int) (x_end : Int) (k : (List Int) → Prop) (e : PErr → Prop) : Prop :=
  (w_look_lot x_table.2.1 x_first (fun (r1 : Unit) => (w_look_lot x_table.2.1 x_second (fun (r7 : Unit) => (w_bits_of (PySem.Builtin.bitXor x_first x_second) (fun (r13 : (List Int)) => (Br (decide (x_end ∉ r13)) (e ⟨2, [("number", (.int x_end))]⟩) (wLet ([] : List Int) fun (y45 : List Int) => (wFor r13 (y45) (fun (d173 : Int) (s159 : (List Int)) (nx171 bk172 : ((List Int)) → Prop) => ((CPow (1 : Int) x_end) ∧ ((CPow (1 : Int) d173) ∧ (wLet (PySem.Builtin.bitXor ((1 : Int) * 2 ^ Int.toNat x_end) ((1 : Int) * 2 ^ Int.toNat d173)) fun (y189 : Int) => (((!(decide (d173 = x_end))) = true → (inB x_table.2.2 (PySem.Builtin.bitXor x_first y189))) ∧ (((!(decide (d173 = x_end))) = true → ((!(decide ((ixG x_table.2.2 (PySem.Builtin.bitXor x_first y189)) = (0 : Int)))) = true → (inB x_table.2.2 (PySem.Builtin.bitXor x_second y189)))) ∧ (Br ((!(decide (d173 = x_end))) && ((!(decide ((ixG x_table.2.2 (PySem.Builtin.bitXor x_first y189)) = (0 : Int)))) && (!(decide ((ixG x_table.2.2 (PySem.Builtin.bitXor x_second y189)) = (0 : Int)))))) ((s159.length < LIM) ∧ (wLet (s159 ++ [d173]) fun (y229 : List Int) => (nx171 (y229)))) (nx171 (s159))))))))) (fun (s177 : (List Int)) => (k s177)))))) e)) e)) e)
def w_ulaw_names (x_e : PErr) (k : (List (Str × Int)) → Prop) (e : PErr → Prop) : Prop :=
  (wLet ([] : List (Str × Int)) fun (y14 : List (Str × Int)) => (wJoin (fun (j43 : ((List (Str × Int))) → Prop) => (Br (decide (x_e.cls = 2)) (∃ z55 : Int, x_e = (⟨2, [("number", .int z55)]⟩ : PErr) ∧ ((y14.length < LIM) ∧ (wLet (y14 ++ [((Str.ofString "number"), z55)]) fun (y76 : List (Str × Int)) => (j43 y76)))) (j43 y14))) (fun (s42 : (List (Str × Int))) => (wJoin (fun (j112 : ((List (Str × Int))) → Prop) => (Br ((decide (x_e.cls = 1)) || ((decide (x_e.cls = 8)) || ((decide (x_e.cls = 3)) || ((decide (x_e.cls = 6)) || ((decide (x_e.cls = 4)) || false))))) ((s42.length < LIM) ∧ (wLet (s42 ++ [((Str.ofString "other"), (0 : Int))]) fun (y152 : List (Str × Int)) => (j112 y152))) (j112 s42))) (fun (s111 : (List (Str × Int))) => (wJoin (fun (j179 : ((List (Str × Int))) → Prop) => (Br (!true) ((s111.length < LIM) ∧ (wLet (s111 ++ [((Str.ofString "other"), (0 : Int))]) fun (y210 : List (Str × Int)) => (j179 y210))) (j179 s111))) (fun (s178 : (List (Str × Int))) => (k s178))))))))
def w_ulaw_tried (x_sheet : (Int × Int × (List Int))) (x_one : Int) (x_two : Int) (x_i : Int) (k : (List (Str × Int)) → Prop) (e : PErr → Prop) : Prop :=
  (w_exchange_ends x_sheet x_one x_two x_i (fun (r1 : (List Int)) => (k ([((Str.ofString "told"), (r1.length : Int))] : List (Str × Int)))) (fun (er4 : PErr) => (w_ulaw_names er4 (fun (r15 : (List (Str × Int))) => (k r15)) (fun _ => False))))
def w_ulaw_whole (x_x : Int) (k : Bool → Prop) (e : PErr → Prop) : Prop :=
  (k (true && (!false)))
def w_ulaw_got (x_rows : (List (Str × Int))) (x_word : Str) (x_number : Int) (k : Bool → Prop) (e : PErr → Prop) : Prop :=
  (((!(decide ((x_rows.length : Int) = (1 : Int)))) = false → (inB x_rows (0 : Int))) ∧ (Br ((!(decide ((x_rows.length : Int) = (1 : Int)))) || (!(decide ((ixG x_rows (0 : Int)).1 = x_word)))) (k false) (wJoin (fun (j12 : Bool → Prop) => ((inB x_rows (0 : Int)) ∧ (w_ulaw_whole (ixG x_rows (0 : Int)).2 (fun (r18 : Bool) => (Br r18 ((inB x_rows (0 : Int)) ∧ (j12 (decide ((ixG x_rows (0 : Int)).2 = x_number)))) (j12 false))) e))) (fun (b13 : Bool) => (k b13)))))
def w_ulaw_partners (x_n : Int) (x_a : (List Int)) (x_one : Int) (x_two : Int) (x_i : Int) (k : (List Int) → Prop) (e : PErr → Prop) : Prop :=
  (wLet ([] : List Int) fun (y14 : List Int) => ((rgOk (0 : Int) x_n) ∧ (wFor (rangeL (0 : Int) x_n) (y14) (fun (d88 : Int) (s74 : (List Int)) (nx86 bk87 : ((List Int)) → Prop) => (((!(decide (d88 = x_i))) = true → (0 ≤ d88)) ∧ (Br ((!(decide (d88 = x_i))) && (decide ((PySem.Builtin.bitAnd ((PySem.Builtin.bitXor x_one x_two) / 2 ^ Int.toNat d88) (1 : Int)) = (1 : Int)))) ((CPow (1 : Int) x_i) ∧ ((CPow (1 : Int) d88) ∧ (wLet (PySem.Builtin.bitXor ((1 : Int) * 2 ^ Int.toNat x_i) ((1 : Int) * 2 ^ Int.toNat d88)) fun (y107 : Int) => ((inB x_a (PySem.Builtin.bitXor x_one y107)) ∧ (((!(decide ((ixG x_a (PySem.Builtin.bitXor x_one y107)) = (0 : Int)))) = true → (inB x_a (PySem.Builtin.bitXor x_two y107))) ∧ (Br ((!(decide ((ixG x_a (PySem.Builtin.bitXor x_one y107)) = (0 : Int)))) && (!(decide ((ixG x_a (PySem.Builtin.bitXor x_two y107)) = (0 : Int))))) ((s74.length < LIM) ∧ (wLet (s74 ++ [d88]) fun (y120 : List Int) => (nx86 (y120)))) (nx86 (s74)))))))) (nx86 (s74))))) (fun (s92 : (List Int)) => (k s92)))))
def w_ulaw_list_is (x_answer : (List Int)) (x_due : (List Int)) (k : Bool → Prop) (e : PErr → Prop) : Prop :=
  (wJoin (fun (j1 : Bool → Prop) => (Br (!true) (j1 true) (wComp x_answer (fun (d7 : Int) (nx16 : Option Bool → Prop) => (w_ulaw_whole d7 (fun (r50 : Bool) => (nx16 (some r50))) (fun _ => False))) (fun (zs62 : List Bool) => (j1 (!(zs62.all id))))))) (fun (b2 : Bool) => (Br b2 (k false) (k (decide (x_answer = x_due))))))
def w_ulaw_same (x_thing : (Int × Int × (List Int))) (x_p : Int) (x_n : Int) (x_cells : (List Int)) (k : Bool → Prop) (e : PErr → Prop) : Prop :=
  (Br ((!true) || (!true)) (k false) (wJoin (fun (j10 : Bool → Prop) => (w_ulaw_whole x_thing.1 (fun (r14 : Bool) => (Br (!r14) (j10 true) (w_ulaw_whole x_thing.2.1 (fun (r22 : Bool) => (j10 (!r22))) e))) e)) (fun (b11 : Bool) => (Br b11 (k false) (wComp x_thing.2.2 (fun (d40 : Int) (nx49 : Option Bool → Prop) => (w_ulaw_whole d40 (fun (r80 : Bool) => (nx49 (some r80))) (fun _ => False))) (fun (zs91 : List Bool) => (Br (!(zs91.all id)) (k false) (wJoin (fun (j117 : Bool → Prop) => (Br (decide (x_thing.1 = x_p)) (wJoin (fun (j132 : Bool → Prop) => (Br (decide (x_thing.2.1 = x_n)) (j132 (decide (x_thing.2.2 = x_cells))) (j132 false))) (fun (b133 : Bool) => (j117 b133))) (j117 false))) (fun (b118 : Bool) => (k b118))))))))))
def w_ulaw_pair_asked (x_p : Int) (x_n : Int) (x_a : (List Int)) (x_one : Int) (x_two : Int) (x_filled : Bool) (k : Bool → Prop) (e : PErr → Prop) : Prop :=
  (w_Table_init x_p x_n x_a (fun (r27 : (Int × Int × (List Int))) => ((0 ≤ (x_n + (1 : Int)) ∧ (x_n + (1 : Int)) ≤ 1000000) ∧ ((([((0 : Int) - (1 : Int))] : List Int).length + (rangeL (0 : Int) (x_n + (1 : Int))).length ≤ LIM) ∧ (wFor (([((0 : Int) - (1 : Int))] : List Int) ++ (rangeL (0 : Int) (x_n + (1 : Int)))) (()) (fun (d462 : Int) (s451 : Unit) (nx460 bk461 : (Unit) → Prop) => (((decide (d462 < (0 : Int))) = false → ((decide (d462 = x_n)) = false → (0 ≤ (maxI d462 (0 : Int))))) ∧ (Br ((decide (d462 < (0 : Int))) || ((decide (d462 = x_n)) || (decide ((PySem.Builtin.bitAnd ((PySem.Builtin.bitXor x_one x_two) / 2 ^ Int.toNat (maxI d462 (0 : Int))) (1 : Int)) = (0 : Int))))) (w_ulaw_tried r27 x_one x_two d462 (fun (r481 : (List (Str × Int))) => (w_ulaw_got r481 (Str.ofString "number") d462 (fun (r499 : Bool) => (Br (!r499) (k false) (nx460 (())))) e)) e) (w_ulaw_partners x_n x_a x_one x_two d462 (fun (r506 : (List Int)) => (w_exchange_ends r27 x_one x_two d462 (fun (r524 : (List Int)) => (wJoin (fun (j539 : Bool → Prop) => (w_ulaw_list_is r524 r506 (fun (r543 : Bool) => (Br (!r543) (j539 true) (j539 (x_filled && (decide ((r524.length : Int) = (0 : Int))))))) e)) (fun (b540 : Bool) => (Br b540 (k false) ((r524.length < LIM) ∧ (wLet (r524 ++ [(7 : Int)]) fun (y568 : List Int) => (w_exchange_ends r27 x_one x_two d462 (fun (r571 : (List Int)) => (w_ulaw_list_is r571 r506 (fun (r590 : Bool) => (Br (!r590) (k false) (w_exchange_ends r27 x_two x_one d462 (fun (r598 : (List Int)) => (w_ulaw_list_is r598 r506 (fun (r614 : Bool) => (Br (!r614) (k false) (nx460 (())))) e)) (fun _ => False)))) e)) e))))))) e)) e)))) (fun (s466 : Unit) => (w_ulaw_same r27 x_p x_n x_a (fun (r625 : Bool) => (k r625)) e)))))) e)
def w_ulaw_refused (x_p : Int) (x_n : Int) (x_a : (List Int)) (x_odd : Int) (k : Bool → Prop) (e : PErr → Prop) : Prop :=
  (w_Table_init x_p x_n x_a (fun (r27 : (Int × Int × (List Int))) => ((CPow (1 : Int) x_n) ∧ (wLet (((1 : Int) * 2 ^ Int.toNat x_n) - (1 : Int)) fun (y39 : Int) => ((CPow (1 : Int) x_n) ∧ ((CPow (1 : Int) x_n) ∧ (wFor ([((1 : Int) * 2 ^ Int.toNat x_n), ((0 : Int) - (1 : Int)), ((((1 : Int) * 2 ^ Int.toNat x_n) + (1 : Int)) + x_odd)] : List Int) (()) (fun (d405 : Int) (s395 : Unit) (nx403 bk404 : (Unit) → Prop) => (wFor ([(0 : Int), ((0 : Int) - (7 : Int))] : List Int) (()) (fun (d593 : Int) (s584 : Unit) (nx591 bk592 : (Unit) → Prop) => ((CPow (1 : Int) (x_n + (9 : Int))) ∧ (w_ulaw_tried r27 d405 ((1 : Int) * 2 ^ Int.toNat (x_n + (9 : Int))) d593 (fun (r604 : (List (Str × Int))) => (w_ulaw_got r604 (Str.ofString "number") d405 (fun (r622 : Bool) => (Br (!r622) (k false) (w_ulaw_tried r27 y39 d405 d593 (fun (r629 : (List (Str × Int))) => (w_ulaw_got r629 (Str.ofString "number") d405 (fun (r647 : Bool) => (Br (!r647) (k false) (w_ulaw_tried r27 d405 y39 d593 (fun (r654 : (List (Str × Int))) => (w_ulaw_got r654 (Str.ofString "number") d405 (fun (r672 : Bool) => (Br (!r672) (k false) (nx591 (())))) e)) e))) e)) e))) e)) e))) (fun (s597 : Unit) => (nx403 (()))))) (fun (s409 : Unit) => ((CPow (10 : Int) (30 : Int)) ∧ (wFor ([((0 : Int) - (7 : Int)), x_n, ((x_n + (1 : Int)) + x_odd), ((10 : Int) ^ Int.toNat (30 : Int))] : List Int) (()) (fun (d805 : Int) (s796 : Unit) (nx803 bk804 : (Unit) → Prop) => (w_ulaw_tried r27 (0 : Int) y39 d805 (fun (r816 : (List (Str × Int))) => (w_ulaw_got r816 (Str.ofString "number") d805 (fun (r834 : Bool) => (Br (!r834) (k false) (nx803 (())))) e)) e)) (fun (s809 : Unit) => ((rgOk (0 : Int) (x_n + (1 : Int))) ∧ (wFor (rangeL (0 : Int) (x_n + (1 : Int))) (()) (fun (d881 : Int) (s872 : Unit) (nx879 bk880 : (Unit) → Prop) => (w_ulaw_tried r27 y39 y39 d881 (fun (r892 : (List (Str × Int))) => (w_ulaw_got r892 (Str.ofString "number") d881 (fun (r910 : Bool) => (Br (!r910) (k false) (nx879 (())))) e)) e)) (fun (s885 : Unit) => (k true)))))))))))))) e)
def w_law (x_script : (List Int)) (k : Bool → Prop) (e : PErr → Prop) : Prop :=
  (w_ulaw_draws x_script (400 : Int) (fun (r1 : Unit) => (w_ulaw_prime r1 () (fun (r18 : Int) => (w_ulaw_next r1 () (6 : Int) (fun (r24 : Int) => (wJoin (fun (j38 : Int → Prop) => (w_ulaw_next r1 () (8 : Int) (fun (r45 : Int) => (Br (decide (r45 = (7 : Int))) (j38 (6 : Int)) (j38 r24))) e)) (fun (s37 : Int) => (w_ulaw_next r1 () (90 : Int) (fun (r52 : Int) => (w_ulaw_any_cells r1 () r18 s37 (fun (r58 : (List Int)) => (wLet ([] : List (Int × Int)) fun (y89 : List (Int × Int)) => ((rgOk (0 : Int) (12 : Int)) ∧ (wFor (rangeL (0 : Int) (12 : Int)) (y89) (fun (d197 : Int) (s183 : (List (Int × Int))) (nx195 bk196 : ((List (Int × Int))) → Prop) => ((CPow (1 : Int) s37) ∧ (w_ulaw_next r1 () ((1 : Int) * 2 ^ Int.toNat s37) (fun (r213 : Int) => ((CPow (1 : Int) s37) ∧ (w_ulaw_next r1 () ((1 : Int) * 2 ^ Int.toNat s37) (fun (r220 : Int) => ((s183.length < LIM) ∧ (wLet (s183 ++ [(r213, r220)]) fun (y246 : List (Int × Int)) => (nx195 (y246))))) e))) e))) (fun (s201 : (List (Int × Int))) => (wJoin (fun (j320 : ((List (Int × Int))) → Prop) => (Br (decide (s37 < (3 : Int))) ((CMul (2 : Int) s37) ∧ ((CPow (1 : Int) ((2 : Int) * s37)) ∧ ((rgOk (0 : Int) ((1 : Int) * 2 ^ Int.toNat ((2 : Int) * s37))) ∧ ((Int.toNat ((1 : Int) * 2 ^ Int.toNat ((2 : Int) * s37)) ≤ LIM) ∧ (wComp (rangeL (0 : Int) ((1 : Int) * 2 ^ Int.toNat ((2 : Int) * s37))) (fun (d336 : Int) (nx345 : Option (Int × Int) → Prop) => ((CPow (1 : Int) s37) ∧ ((CDiv d336 ((1 : Int) * 2 ^ Int.toNat s37)) ∧ ((CPow (1 : Int) s37) ∧ ((0 < ((1 : Int) * 2 ^ Int.toNat s37)) ∧ (nx345 (some ((d336 / ((1 : Int) * 2 ^ Int.toNat s37)), (d336 % ((1 : Int) * 2 ^ Int.toNat s37)))))))))) (fun (zs391 : List (Int × Int)) => (j320 zs391))))))) (j320 s201))) (fun (s319 : (List (Int × Int))) => (wFor s319 (()) (fun (d443 : (Int × Int)) (s432 : Unit) (nx441 bk442 : (Unit) → Prop) => (w_ulaw_pair_asked r18 s37 r58 d443.1 d443.2 false (fun (r460 : Bool) => (Br (!r460) (k false) (nx441 (())))) e)) (fun (s447 : Unit) => (w_ulaw_refused r18 s37 r58 r52 (fun (r468 : Bool) => (Br (!r468) (k false) (w_ulaw_next r1 () (5 : Int) (fun (r476 : Int) => (wLet ((1 : Int) + r476) fun (y483 : Int) => ((CPow (1 : Int) y483) ∧ (w_ulaw_next r1 () ((1 : Int) * 2 ^ Int.toNat y483) (fun (r484 : Int) => ((CMul y483 (y483 - (1 : Int))) ∧ ((CDiv (y483 * (y483 - (1 : Int))) (2 : Int)) ∧ ((rgOk (0 : Int) ((y483 * (y483 - (1 : Int))) / (2 : Int))) ∧ ((Int.toNat ((y483 * (y483 - (1 : Int))) / (2 : Int)) ≤ LIM) ∧ (wComp (rangeL (0 : Int) ((y483 * (y483 - (1 : Int))) / (2 : Int))) (fun (d492 : Int) (nx501 : Option Int → Prop) => (w_ulaw_residue r1 () r18 (fun (r529 : Int) => (nx501 (some r529))) (fun _ => False))) (fun (zs541 : List Int) => (w_ulaw_next r1 () (r18 - (1 : Int)) (fun (r557 : Int) => (wLet ((1 : Int) + r557) fun (y564 : Int) => (w_ulaw_form_entries r18 y483 r484 y564 zs541 (fun (r565 : (List Int)) => ((CPow (1 : Int) y483) ∧ ((rgOk (0 : Int) ((1 : Int) * 2 ^ Int.toNat y483)) ∧ ((Int.toNat ((1 : Int) * 2 ^ Int.toNat y483) ≤ LIM) ∧ (wComp (rangeL (0 : Int) ((1 : Int) * 2 ^ Int.toNat y483)) (fun (d585 : Int) (nx594 : Option Int → Prop) => ((inB r565 d585) ∧ (Br (!(decide ((ixG r565 d585) = (0 : Int)))) (nx594 (some d585)) (nx594 none)))) (fun (zs617 : List Int) => ((rgOk (0 : Int) (5 : Int)) ∧ (wFor (rangeL (0 : Int) (5 : Int)) (()) (fun (d678 : Int) (s666 : Unit) (nx676 bk677 : (Unit) → Prop) => (w_ulaw_next r1 () (zs617.length : Int) (fun (r692 : Int) => ((inB zs617 r692) ∧ (wLet (ixG zs617 r692) fun (y699 : Int) => (w_ulaw_next r1 () (zs617.length : Int) (fun (r700 : Int) => ((inB zs617 r700) ∧ (wLet (ixG zs617 r700) fun (y707 : Int) => (w_ulaw_pair_asked r18 y483 r565 y699 y707 true (fun (r708 : Bool) => (Br (!r708) (k false) (nx676 (())))) e)))) e)))) e)) (fun (s682 : Unit) => (w_ulaw_pair_asked r18 (2 : Int) ([(1 : Int), (0 : Int), (0 : Int), (r18 - (1 : Int))] : List Int) (0 : Int) (3 : Int) true (fun (r733 : Bool) => (k r733)) e)))))))))) e))) e)))))))) e)))) e))) e)))))))))) e)) e)))) e)) e)) e)
end Lw
namespace Lw
open PySem L2 EL Nm Px
def okP (n : Int) : Prop := 0 ≤ n ∧ n ≤ 997 ∧ isP n = true
def firstBad (p : Int) : List Int → Option Int
  | [] => none
  | x :: r => if 0 ≤ x ∧ x < p then firstBad p r else some x
theorem firstBad_none {p : Int} {L : List Int} (h : firstBad p L = none) : ∀ x, x ∈ L → 0 ≤ x ∧ x < p := by
  induction L with
  | nil => intro x hx; cases hx
  | cons y r ih =>
    unfold firstBad at h
    split at h
    · rename_i c
      intro x hx
      rcases List.mem_cons.mp hx with z | z
      · rw [z]; exact c
      · exact ih h x z
    · cases h
theorem firstBad_ok {p : Int} {L : List Int} (h : ∀ x, x ∈ L → 0 ≤ x ∧ x < p) : firstBad p L = none := by
  induction L with
  | nil => rfl
  | cons y r ih =>
    unfold firstBad
    rw [if_pos (h y (List.mem_cons_self ..))]
    exact ih fun x hx => h x (List.mem_cons_of_mem _ hx)
theorem firstBad_app {p : Int} {L : List Int} {x : Int} {R : List Int} (h : ∀ x, x ∈ L → 0 ≤ x ∧ x < p) (hx : ¬ (0 ≤ x ∧ x < p)) : firstBad p (L ++ x :: R) = some x := by
  induction L with
  | nil =>
    show (if 0 ≤ x ∧ x < p then firstBad p R else some x) = some x
    rw [if_neg hx]
  | cons y r ih =>
    show (if 0 ≤ y ∧ y < p then firstBad p (r ++ x :: R) else some y) = some x
    rw [if_pos (h y (List.mem_cons_self ..))]
    exact ih fun x hx => h x (List.mem_cons_of_mem _ hx)
theorem p_check_number {n lo hi : Int} {k : Unit → Prop} {e : PErr → Prop} (h1 : lo ≤ n ∧ n ≤ hi → k ()) (h2 : ¬ (lo ≤ n ∧ n ≤ hi) → e (NumE n)) : w_check_number n lo hi k e := by
  unfold w_check_number
  refine Br_i (fun c => h2 ?_) fun c => h1 ?_
  · simp at c; omega
  · simp at c; omega
theorem p_look_number {n lo hi : Int} {k : Unit → Prop} {e : PErr → Prop} (h1 : lo ≤ n ∧ n ≤ hi → k ()) (h2 : ¬ (lo ≤ n ∧ n ≤ hi) → e (NumE n)) : w_look_number n lo hi k e := by
  unfold w_look_number
  refine Br_i (fun c => h2 ?_) fun c => h1 ?_
  · simp at c; omega
  · simp at c; omega
theorem p_is_odd_prime {n : Int} {k : Bool → Prop} {e : PErr → Prop} (h1 : 0 ≤ n ∧ n ≤ 997 → k (isP n)) (h2 : ¬ (0 ≤ n ∧ n ≤ 997) → e (NumE n)) : w_is_odd_prime n k e := by
  unfold w_is_odd_prime
  refine p_check_number (fun hn => ?_) h2
  have hk := h1 hn
  refine ⟨fun _ => by decide, ?_⟩
  obtain ⟨N, rfl⟩ : ∃ N : Nat, n = (N : Int) := ⟨n.toNat, by omega⟩
  have hN : isP (N : Int) = isPN N := by unfold isP; rw [Int.toNat_natCast]
  rw [hN] at hk
  refine Br_i (fun c => ?_) fun c => ?_
  · simp at c
    have z : isPN N = false := by
      unfold isPN
      rcases c with c | c
      · rw [decide_eq_false (by omega : ¬ 3 ≤ N)]; rfl
      · rw [decide_eq_false (by omega : ¬ N % 2 = 1)]; simp
    rw [z] at hk
    exact hk
  · simp at c
    have z : isPN N = noDiv N 3 N := by unfold isPN; rw [decide_eq_true (by omega : 3 ≤ N), decide_eq_true (by omega : N % 2 = 1)]; simp
    rw [z] at hk
    refine wWhile_m (fun s => ∃ f d : Nat, s = (d : Int) ∧ 3 ≤ d ∧ 2 * f + d = 2 * N + 3 ∧ noDiv N 3 N = noDiv f d N) (fun s => (2 * (N : Int) + 3 - s).toNat) ⟨N, 3, rfl, by omega, by omega, rfl⟩ ?_
    rintro s nx ⟨f, d, rfl, h3, hf, hd⟩ hnx
    have hc : ((d : Int) * (d : Int) ≤ (N : Int)) = (d * d ≤ N) := by rw [← Int.natCast_mul]; exact propext Int.ofNat_le
    have hl : d ≤ d * d := Nat.le_mul_self d
    refine ⟨cmul_l (by omega), Br_p (fun c4 => ?_) fun c4 => ?_⟩
    · rw [hc] at c4
      obtain ⟨f, rfl⟩ : ∃ f', f = f' + 1 := ⟨f - 1, by omega⟩
      refine ⟨by omega, Br_p (fun c5 => ?_) fun c5 => ?_⟩
      · rw [hd, noDiv_hit c4 (by omega)] at hk
        exact hk
      · refine hnx _ ⟨f, d + 2, rfl, by omega, by omega, ?_⟩ (by show (2 * (N : Int) + 3 - ((d : Int) + 2)).toNat < _; omega)
        rw [hd, noDiv_go c4 (by omega)]
    · rw [hc] at c4
      rw [hd, noDiv_big (by omega)] at hk
      exact hk
theorem p_look_prime {n : Int} {k : Unit → Prop} {e : PErr → Prop} (h1 : okP n → k ()) (h2 : ¬ okP n → e (NumE n)) : w_look_prime n k e := by
  unfold w_look_prime
  refine p_is_odd_prime (fun hn => ?_) fun hn => h2 fun z => hn ⟨z.1, z.2.1⟩
  refine Br_i (fun c => h2 fun z => ?_) fun c => h1 ⟨hn.1, hn.2, by simpa using c⟩
  rw [z.2.2] at c
  cases c
theorem p_look_residue {p n : Int} {k : Unit → Prop} {e : PErr → Prop} (h1 : 0 ≤ n ∧ n < p → k ()) (h2 : ¬ (0 ≤ n ∧ n < p) → e (NumE n)) : w_look_residue p n k e := by
  unfold w_look_residue
  refine Br_i (fun c => h2 ?_) fun c => h1 ?_
  · simp at c; omega
  · simp at c; omega
theorem p_look_list {L : List Int} {lo hi : Int} {k : Unit → Prop} {e : PErr → Prop} (h1 : lo ≤ L.length ∧ (L.length : Int) ≤ hi → k ()) (h2 : ¬ (lo ≤ L.length ∧ (L.length : Int) ≤ hi) → e (SizeE L.length)) : w_look_list L lo hi k e := by
  unfold w_look_list
  refine Br_i (fun c => h2 ?_) fun c => h1 ?_
  · simp at c; omega
  · simp at c; omega
theorem p_next {u v : Unit} {m : Int} {k : Int → Prop} {e : PErr → Prop} (hm : 0 < m) (h : ∀ n : Int, 0 ≤ n → n < m → k n) : w_ulaw_next u v m k e := ⟨hm, h⟩
theorem p_draws {L : List Int} {c : Int} {k : Unit → Prop} {e : PErr → Prop} (hc : 0 < c ∧ c ≤ 10000) (hl : L.length ≤ 63) (h : k ()) : w_ulaw_draws L c k e := ⟨hc, hl, h⟩
theorem p_ulaw_prime {u v : Unit} {k : Int → Prop} {e : PErr → Prop} (h : ∀ p, isP p = true → p ≤ 997 → k p) : w_ulaw_prime u v k e := by
  unfold w_ulaw_prime
  refine p_next (by decide) fun n n0 n1 => Br_p (fun c => ?_) fun c => ?_
  · refine p_next (by decide) fun m m0 m1 => ⟨inB_of m0 (by simpa using m1), ?_⟩
    have hm := ixG_mem (xs := ([(3 : Int), 5, 7, 11] : List Int)) m0 (by simpa using m1)
    have : ∀ x, x ∈ ([(3 : Int), 5, 7, 11] : List Int) → isP x = true ∧ x ≤ 997 := by decide +kernel
    have hx := this _ hm
    exact h _ hx.1 hx.2
  · refine p_next (by decide) fun m m0 m1 => ?_
    refine ⟨rg_ok (by omega), wFor_inv (fun _ s => 3 ≤ s ∧ s ≤ 997) (by omega) ?_ fun _ _ => h 3 (by decide +kernel) (by omega)⟩
    rintro pre x post s nx _ ⟨h3, h9⟩ hn
    refine ⟨rg_ok (by omega), lim_le (by decide), ?_⟩
    refine wComp_flt (fun d => decide (d < s) && decide (s % d = 0)) (fun d hd nx h1 h2 => ?_) ?_
    · have := mem_rangeL.mp hd
      exact ⟨fun _ => by omega, Br_i (fun c => h1 c) fun c => h2 c⟩
    · refine Br_p (fun c => ?_) fun c => ?_
      · refine h s ?_ h9
        rw [List.filter_eq_nil_iff] at c
        have hd : ∀ d : Int, 2 ≤ d → d < 32 → d < s → s % d ≠ 0 := fun d d0 d1 d2 z => by
          have := c d (mem_rangeL.mpr ⟨d0, d1⟩)
          simp [d2, z] at this
        obtain ⟨N, rfl⟩ : ∃ N : Nat, s = (N : Int) := ⟨s.toNat, by omega⟩
        have hN : isP (N : Int) = isPN N := by unfold isP; rw [Int.toNat_natCast]
        rw [hN]
        cases e : isPN N with
        | true => rfl
        | false =>
          exfalso
          have ho : N % 2 = 1 := by
            have := hd 2 (by omega) (by omega) (by omega)
            omega
          obtain ⟨q, hq, hqq, hz⟩ := small_div (by omega) ho e
          have hq3 := (isPN_prime hq).1
          have q31 : q < 32 := by
            rcases Nat.lt_or_ge q 32 with z | z
            · exact z
            · have := Nat.mul_le_mul z z
              omega
          have hlt : q < N := by
            have := Nat.mul_le_mul_right q hq3
            omega
          exact hd (q : Int) (by omega) (by omega) (by omega) (by omega)
      · refine hn _ ⟨?_, by omega⟩
        rcases Int.lt_or_le 3 s with z | z
        · omega
        · exfalso
          have : s = 3 := by omega
          subst this
          exact c (by decide +kernel)
theorem p_ulaw_residue {u v : Unit} {p : Int} {k : Int → Prop} {e : PErr → Prop} (hp : 0 < p) (h : ∀ n, 0 ≤ n ∧ n < p → k n) : w_ulaw_residue u v p k e := by
  unfold w_ulaw_residue
  exact p_next (by decide) fun n n0 n1 => Br_p (fun c => h 0 ⟨by omega, hp⟩) fun c => p_next hp fun m m0 m1 => h m ⟨m0, m1⟩
/-- a row of residues -/
def Rw (p n : Int) (L : List Int) : Prop := (L.length : Int) = n ∧ ∀ x, x ∈ L → 0 ≤ x ∧ x < p
theorem rw_set {p n i y : Int} {L : List Int} (h : Rw p n L) (hy : 0 ≤ y ∧ y < p) : Rw p n (setG L i y) :=
  ⟨by rw [setG_len]; exact h.1, fun x hx => (setG_mem hx).elim (h.2 x) fun z => by rw [z]; exact hy⟩
theorem zeros_len {n : Int} (hn : 0 ≤ n) : (((rangeL 0 n).map fun _ => (0 : Int)).length : Int) = n := by
  rw [List.length_map, rangeL_len]; omega
theorem rw_zero {p n : Int} (hp : 0 < p) (hn : 0 ≤ n) : Rw p n ((rangeL 0 n).map fun _ => (0 : Int)) :=
  ⟨zeros_len hn, fun x hx => by obtain ⟨_, _, rfl⟩ := List.mem_map.mp hx; omega⟩
theorem not_prod {a b : Int} (ha : 3 ≤ a) (hb : 3 ≤ b) : isP (a * b) = false := by
  rw [Bool.eq_false_iff]
  intro h
  have h2 := isPN_prime (isP_nat h).1
  have e : (a * b).toNat = a.toNat * b.toNat := by
    have : ((a.toNat * b.toNat : Nat) : Int) = a * b := by rw [Int.natCast_mul, Int.toNat_of_nonneg (by omega), Int.toNat_of_nonneg (by omega)]
    omega
  rw [e] at h2
  have hlt : a.toNat < a.toNat * b.toNat := by
    have := Nat.mul_le_mul_left a.toNat (show 2 ≤ b.toNat by omega)
    omega
  exact h2.2.2 a.toNat (by omega) hlt (Nat.mul_mod_right _ _)
theorem firstBad_set {p y : Int} {L : List Int} {n : Nat} (h : ∀ x, x ∈ L → 0 ≤ x ∧ x < p) (hn : n < L.length) (hy : ¬ (0 ≤ y ∧ y < p)) : firstBad p (L.set n y) = some y := by
  rw [List.set_eq_take_append_cons_drop, if_pos hn]
  exact firstBad_app (fun x hx => h x (List.mem_of_mem_take hx)) hy
theorem pow2 {n : Nat} (hn : n ≤ 6) : ∃ M : Nat, M = 2 ^ n ∧ 1 ≤ M ∧ M ≤ 64 ∧ (1 : Int) * (2 : Int) ^ Int.toNat (n : Int) = (M : Int) :=
  ⟨2 ^ n, rfl, Nat.one_le_two_pow, Nat.le_trans (Nat.pow_le_pow_right (by omega) hn) (by decide), by rw [Int.toNat_natCast, Int.one_mul, Int.natCast_pow]; rfl⟩
theorem cpow1 {i : Int} (h : 0 ≤ i ∧ i ≤ 1000) : CPow (1 : Int) i := ⟨h.1, by omega, by decide⟩
def av (A : List Int) (x : Nat) : Int := (A[x]?).getD 0
def step (A : List Int) (one two : Nat) (s : Int × Int) (k : Nat) : Int × Int := (s.1 + s.2 * av A (one ^^^ 1 <<< k) * av A (two ^^^ 1 <<< k), 0 - s.2)
def ssum (p : Int) (n : Nat) (A : List Int) (one two : Nat) : Int := ((bits n (one ^^^ two)).foldl (step A one two) (0, 1)).1 % p
/-- a table of n ends -/
def Tb (p : Int) (n : Nat) (A : List Int) : Prop := A.length = 2 ^ n ∧ ∀ x, x ∈ A → 0 ≤ x ∧ x < p
theorem tb_at {p : Int} {n : Nat} {A : List Int} (h : Tb p n A) {x : Nat} (hx : x < 2 ^ n) : inB A (x : Int) ∧ ixG A (x : Int) = av A x ∧ 0 ≤ av A x ∧ av A x < p := by
  have hl : x < A.length := by rw [h.1]; exact hx
  refine ⟨inB_nat hl, ixG_nat, ?_⟩
  unfold av
  rw [List.getElem?_eq_getElem hl]
  exact h.2 _ (List.getElem_mem hl)
/-- the sign -/
theorem step_sign {A : List Int} {one two : Nat} : ∀ (L : List Nat) (s : Int × Int), (s.2 = 1 ∨ s.2 = -1) → ((L.foldl (step A one two) s).2 = 1 ∨ (L.foldl (step A one two) s).2 = -1)
  | [], s, h => h
  | k :: L, s, h => step_sign L _ (by show 0 - s.2 = 1 ∨ 0 - s.2 = -1; omega)
def FirstIs (p : Int) (n : Nat) (A : List Int) (o : Option (Nat × Nat)) : Prop := match o with
  | none => ∀ a b : Nat, a < b → b < 2 ^ n → ssum p n A a b = 0
  | some q => q.1 < q.2 ∧ q.2 < 2 ^ n ∧ ssum p n A q.1 q.2 ≠ 0 ∧ ∀ a b : Nat, a < b → b < 2 ^ n → (a < q.1 ∨ (a = q.1 ∧ b < q.2)) → ssum p n A a b = 0
theorem first_one {p : Int} {n : Nat} {A : List Int} {o o' : Option (Nat × Nat)} (h : FirstIs p n A o) (h' : FirstIs p n A o') : o = o' := by
  cases o with
  | none =>
    cases o' with
    | none => rfl
    | some q => exact absurd (h q.1 q.2 h'.1 h'.2.1) h'.2.2.1
  | some q =>
    cases o' with
    | none => exact absurd (h' q.1 q.2 h.1 h.2.1) h.2.2.1
    | some r =>
      obtain ⟨a, b⟩ := q
      obtain ⟨c, d⟩ := r
      obtain ⟨h1, h2, h3, h4⟩ := h
      obtain ⟨g1, g2, g3, g4⟩ := h'
      simp only at h1 h2 h3 h4 g1 g2 g3 g4
      rcases Nat.lt_trichotomy a c with z | z | z
      · exact absurd (g4 a b h1 h2 (.inl z)) h3
      · subst z
        rcases Nat.lt_trichotomy b d with y | y | y
        · exact absurd (g4 a b h1 h2 (.inr ⟨rfl, y⟩)) h3
        · subst y; rfl
        · exact absurd (h4 a d g1 g2 (.inr ⟨rfl, y⟩)) g3
      · exact absurd (h4 c d g1 g2 (.inl z)) g3
def castP (o : Option (Nat × Nat)) : Option (Int × Int) := o.map fun q => ((q.1 : Int), (q.2 : Int))
def listP (o : Option (Nat × Nat)) : List Int := match o with | none => [] | some q => [(q.1 : Int), (q.2 : Int)]
/-- the two loops that seek the first pair -/
theorem seek {p : Int} {n : Nat} {A : List Int} {M : Nat} (hM : M = 2 ^ n) {k1 : Nat → Nat → Prop} {k0 : Prop} {f : Int → Unit → (Unit → Prop) → (Unit → Prop) → Prop} {k : Unit → Prop} (hk : k0 → k ())
    (hf : ∀ (one : Nat) (nx : Unit → Prop), one < M → ((∀ two : Nat, one < two → two < M → ssum p n A one two = 0) → nx ()) → (∀ two : Nat, one < two → two < M → ssum p n A one two ≠ 0 → (∀ t : Nat, one < t → t < two → ssum p n A one t = 0) → k1 one two) → f one () nx k)
    (h0 : (∀ a b : Nat, a < b → b < 2 ^ n → ssum p n A a b = 0) → k0) (h1 : ∀ a b : Nat, FirstIs p n A (some (a, b)) → k1 a b) : wFor (rangeL 0 (M : Int)) () f k := by
  refine wFor_rng (fun i _ => ∀ a b : Nat, (a : Int) < i → a < b → b < M → ssum p n A a b = 0) (by omega) (fun a b h => by omega) ?_ fun s i => hk (h0 fun a b h1 h2 => i a b (by omega) h1 (by omega))
  intro i s nx i0 i1 hi hn
  obtain ⟨one, rfl⟩ : ∃ j : Nat, i = (j : Int) := ⟨i.toNat, by omega⟩
  refine hf one nx (by omega) (fun z => hn () fun a b ha hab hb => ?_) fun two h1' h2' h3' h4' => h1 one two ⟨h1', by omega, h3', fun a b ha hb hc => ?_⟩
  · by_cases c : (a : Int) < one
    · exact hi a b c hab hb
    · have : a = one := by omega
      subst this
      exact z b hab hb
  · rcases hc with c | c
    · have c : a < one := c
      exact hi a b (by omega) ha (by omega)
    · have c1 : a = one := c.1
      have c2 : b < two := c.2
      subst c1
      exact h4' b ha c2
theorem seek2 {p : Int} {n : Nat} {A : List Int} {M one : Nat} {f : Int → Unit → (Unit → Prop) → (Unit → Prop) → Prop} {k : Unit → Prop} {k1 : Nat → Nat → Prop} (ho : one < M)
    (hk : (∀ two : Nat, one < two → two < M → ssum p n A one two = 0) → k ()) (h1 : ∀ two : Nat, one < two → two < M → ssum p n A one two ≠ 0 → (∀ t : Nat, one < t → t < two → ssum p n A one t = 0) → k1 one two)
    (hf : ∀ (two : Nat) (nx : Unit → Prop), one < two → two < M → (ssum p n A one two = 0 → nx ()) → (ssum p n A one two ≠ 0 → k1 one two) → f two () nx k) : wFor (rangeL ((one : Int) + 1) (M : Int)) () f k := by
  refine wFor_rng (fun j _ => ∀ t : Nat, one < t → (t : Int) < j → ssum p n A one t = 0) (by omega) (fun t h => by omega) ?_ fun s j => hk fun two h2 h3 => j two h2 (by omega)
  intro j s nx j0 j1 hj hn
  obtain ⟨two, rfl⟩ : ∃ j' : Nat, j = (j' : Int) := ⟨j.toNat, by omega⟩
  refine hf two nx (by omega) (by omega) (fun z => hn () fun t ht0 ht1 => ?_) fun z => h1 two (by omega) (by omega) z fun t ht0 ht1 => hj t ht0 (by omega)
  by_cases c : (t : Int) < two
  · exact hj t ht0 c
  · have : t = two := by omega
    subst this
    exact z
theorem p_bits_of {l n : Nat} {k : List Int → Prop} {e : PErr → Prop} (hl : l < 2 ^ n) (hn : n ≤ 64) (h : k ((bits n l).map fun (x : Nat) => (x : Int))) : w_bits_of l k e := by
  unfold w_bits_of
  refine wLet_i (wWhile_m (fun s => ∃ t : Nat, t ≤ n ∧ s = (((l >>> t : Nat) : Int), ((t : Int), (bits t l).map fun (x : Nat) => (x : Int)))) (fun s => s.1.toNat) ⟨0, by omega, rfl⟩ ?_)
  rintro s nx ⟨t, ht, rfl⟩ hn'
  refine Br_p (fun c => ?_) fun c => ?_
  · simp only at c
    have htn : t < n := by
      rcases Nat.lt_or_ge t n with z | z
      · exact z
      · have : t = n := by omega
        rw [this, shr_zero hl] at c
        exact absurd c (by decide)
    have hlen : (bits t l).length ≤ t := by
      unfold bits
      refine Nat.le_trans (List.length_filter_le _ _) ?_
      rw [List.length_range]
      exact Nat.le_refl _
    have e1 : ((l >>> t : Nat) : Int) / 2 = ((l >>> (t + 1) : Nat) : Int) := by rw [Nat.shiftRight_succ]; omega
    have lt : (l >>> (t + 1)) < l >>> t := by rw [Nat.shiftRight_succ]; omega
    refine wJoin_i ⟨by decide, Br_p (fun c2 => ?_) fun c2 => ?_⟩
    · refine ⟨lim_lt (by simp only [List.length_map]; omega), wLet_i ⟨⟨by decide, by decide⟩, ?_⟩⟩
      simp only
      rw [e1]
      refine wLet_i (wLet_i (hn' _ ⟨t + 1, htn, ?_⟩ (by simp only; omega)))
      rw [bits_succ, if_pos (by unfold bit; exact decide_eq_true (by simp only at c2; omega)), List.map_append]
      rfl
    · refine ⟨⟨by decide, by decide⟩, ?_⟩
      simp only
      rw [e1]
      refine wLet_i (wLet_i (hn' _ ⟨t + 1, htn, ?_⟩ (by simp only; omega)))
      rw [bits_succ, if_neg (by unfold bit; rw [decide_eq_true_eq]; simp only at c2; omega), List.append_nil]
      rfl
  · simp only at c
    have z : l >>> t = 0 := by
      have c' : ¬ ((l >>> t : Nat) : Int) > 0 := c
      generalize l >>> t = q at c' ⊢
      omega
    rw [bits_top ht z] at h
    exact h
theorem p_look_residues {p c : Int} {L : List Int} {k : Unit → Prop} {e : PErr → Prop} (hl : (L.length : Int) = c) (hL : ∀ x, x ∈ L → 0 ≤ x ∧ x < p) (h : k ()) : w_look_residues p L c k e := by
  unfold w_look_residues
  refine p_look_list (fun _ => wFor_unit (fun x hx nx hn => p_look_residue (fun _ => hn) fun z => absurd (hL x hx) z) h) fun z => absurd ⟨by omega, by omega⟩ z
theorem p_Table_init {p : Int} {n : Nat} {A : List Int} {k : Int × Int × List Int → Prop} {e : PErr → Prop} (hp : isP p = true ∧ p ≤ 997) (hn : n ≤ 6) (hA : Tb p n A) (h : k (p, (n : Int), A)) : w_Table_init p n A k e := by
  unfold w_Table_init
  obtain ⟨M, hM, m1, m2, eM⟩ := pow2 hn
  have hp3 := (isP_nat hp.1).2
  refine p_look_prime (fun _ => p_look_number (fun _ => ⟨cpow1 (by omega), ?_⟩) fun z => absurd ⟨by omega, by omega⟩ z) fun z => absurd ⟨by omega, hp.2, hp.1⟩ z
  rw [eM]
  exact p_look_residues (by rw [hA.1, hM]) hA.2 h
theorem p_whole {x : Int} {k : Bool → Prop} {e : PErr → Prop} (h : k true) : w_ulaw_whole x k e := h
theorem p_same {p : Int} {n : Nat} {A : List Int} {k : Bool → Prop} {e : PErr → Prop} (h : k true) : w_ulaw_same (p, (n : Int), A) p n A k e := by
  unfold w_ulaw_same
  refine Br_x rfl (wJoin_i (p_whole (Br_x rfl (p_whole (Br_x rfl ?_)))))
  refine wComp_map (fun _ => true) (fun x _ nx hx => p_whole hx) ?_
  have ea : (A.map fun _ => true).all id = true := by rw [List.all_map]; exact List.all_eq_true.mpr fun _ _ => rfl
  show Br (!(A.map fun _ => true).all id) _ _
  rw [ea]
  refine Br_x rfl (wJoin_i (Br_y (decide_eq_true rfl) (wJoin_i (Br_y (decide_eq_true rfl) ?_))))
  show k (decide (A = A))
  rw [decide_eq_true rfl]
  exact h
theorem spot_ok : ∀ n : Nat, n < 7 → ∀ h : Nat, h < n → ∀ l : Nat, l < h → 0 ≤ (((l : Int) * (2 * (n : Int) - l - 1)) / 2 + h - l - 1) ∧ (((l : Int) * (2 * (n : Int) - l - 1)) / 2 + h - l - 1) < ((n : Int) * (n - 1)) / 2 := by decide +kernel
theorem own_eq {n m : Nat} : (rangeL 0 (n : Int)).filter (fun d => decide (PySem.Builtin.bitAnd ((m : Int) / 2 ^ Int.toNat d) 1 = 1)) = (bits n m).map fun (x : Nat) => (x : Int) := by
  unfold rangeL bits
  rw [show ((n : Int) - 0).toNat = n by omega, List.filter_map]
  have e : ((fun d : Int => decide (PySem.Builtin.bitAnd ((m : Int) / 2 ^ Int.toNat d) 1 = 1)) ∘ fun (i : Nat) => (0 : Int) + (i : Int)) = bit m := by
    funext i
    show decide (PySem.Builtin.bitAnd ((m : Int) / 2 ^ Int.toNat ((0 : Int) + (i : Int))) 1 = 1) = bit m i
    rw [Int.zero_add, Int.toNat_natCast, bit_at]
    unfold bit
    rw [Bool.eq_iff_iff, decide_eq_true_eq, decide_eq_true_eq]
    omega
  rw [e]
  congr 1
  funext i
  exact Int.zero_add _
theorem tb_of {p : Int} {n M : Nat} {A : List Int} (hM : M = 2 ^ n) (h : Rw p (M : Int) A) : Tb p n A := ⟨by rw [← hM]; have := h.1; omega, h.2⟩
theorem p_spot {n l h : Nat} {k : Int → Prop} {e : PErr → Prop} (hn : n ≤ 6) (hh : h < n) (hl : l < h) (hk : ∀ r, 0 ≤ r → r < ((n : Int) * (n - 1)) / 2 → k r) : w_ulaw_pair_spot n l h k e := by
  have q := spot_ok n (by omega) h hh l hl
  unfold w_ulaw_pair_spot
  have e1 : minI (l : Int) (h : Int) = l := by unfold minI; rw [if_neg (by omega)]
  have e2 : maxI (l : Int) (h : Int) = h := by unfold maxI; rw [if_pos (by omega)]
  rw [e1, e2]
  exact wLet_i ⟨cmul_l (by omega), cmul_l (by omega), ⟨by decide, by decide⟩, hk _ q.1 q.2⟩
theorem p_roots {p : Int} {n M : Nat} {links : List Int} {k : List Int → Prop} {e : PErr → Prop} (hp : 3 ≤ p ∧ p ≤ 997) (hn : n ≤ 6) (hM : M = 2 ^ n) (hl : Rw p (((n : Int) * (n - 1)) / 2) links) (h : ∀ L, Rw p (M : Int) L → k L) : w_ulaw_roots p n links k e := by
  unfold w_ulaw_roots
  obtain ⟨M', hM', m1, m2, eM⟩ := pow2 hn
  have : M' = M := by rw [hM, hM']
  subst this
  rw [eM]
  refine wLet_i ⟨cpow1 (by omega), rg_ok (by omega), ?_⟩
  refine wFor_rng (fun i s => Rw p i s) (by omega) ⟨rfl, fun x hx => by rw [List.mem_singleton.mp hx]; omega⟩ ?_ fun s i => h s i
  intro i row nx i0 i1 hrow hn'
  obtain ⟨m, rfl⟩ : ∃ j : Nat, i = (j : Int) := ⟨i.toNat, by omega⟩
  refine ⟨rg_ok (by omega), lim_le (by omega), wComp_flt (fun d => decide (PySem.Builtin.bitAnd ((m : Int) / 2 ^ Int.toNat d) 1 = 1)) (fun d hd nx h1 h2 => ?_) ?_⟩
  · have hd := mem_rangeL.mp hd
    exact ⟨hd.1, Br_i h1 h2⟩
  rw [own_eq]
  have hlen : (bits n m).length ≤ n := by
    unfold bits
    refine Nat.le_trans (List.length_filter_le _ _) ?_
    rw [List.length_range]
    exact Nat.le_refl _
  have hr1 := hrow.1
  refine ⟨rg_ok (by simp only [List.length_map]; omega), ?_⟩
  refine wFor_inv (fun _ _ => True) trivial ?_ fun tot _ => ?_
  · rintro pre kk post tot nx2 e' _ hn2
    have hk := mem_rangeL.mp (show kk ∈ rangeL 1 (((bits n m).map fun (x : Nat) => (x : Int)).length : Int) by rw [e']; simp)
    rw [List.length_map] at hk
    obtain ⟨j, rfl⟩ : ∃ j : Nat, kk = (j : Int) := ⟨kk.toNat, by omega⟩
    have hj : j < (bits n m).length := by omega
    have h0 : 0 < (bits n m).length := by omega
    have g0 : ixG ((bits n m).map fun (x : Nat) => (x : Int)) 0 = ((bits n m)[0] : Int) := ixG_at (n := 0) (by rw [List.getElem?_map, List.getElem?_eq_getElem h0]; rfl)
    have gj : ixG ((bits n m).map fun (x : Nat) => (x : Int)) (j : Int) = ((bits n m)[j] : Int) := ixG_at (by rw [List.getElem?_map, List.getElem?_eq_getElem hj]; rfl)
    have b0 := mem_bits.mp (List.getElem_mem h0)
    have bj := mem_bits.mp (List.getElem_mem hj)
    have lt := List.pairwise_iff_getElem.mp (bits_sorted (n := n) (m := m)) 0 j h0 hj (by omega)
    have tw := two_bits b0.2 bj.2 lt
    rw [g0, gj]
    generalize (bits n m)[0] = a at b0 lt tw ⊢
    generalize (bits n m)[j] = b at bj lt tw ⊢
    have i0' : inB ((bits n m).map fun (x : Nat) => (x : Int)) 0 := inB_of (by omega) (by rw [List.length_map]; omega)
    have ij' : inB ((bits n m).map fun (x : Nat) => (x : Int)) (j : Int) := inB_of (by omega) (by rw [List.length_map]; omega)
    have ea : (1 : Int) * (2 : Int) ^ Int.toNat (a : Int) = ((2 ^ a : Nat) : Int) := by rw [Int.toNat_natCast, Int.one_mul, Int.natCast_pow]; rfl
    have eb : (1 : Int) * (2 : Int) ^ Int.toNat (b : Int) = ((2 ^ b : Nat) : Int) := by rw [Int.toNat_natCast, Int.one_mul, Int.natCast_pow]; rfl
    rw [ea, eb]
    have pa := Nat.one_le_two_pow (n := a)
    clear ea eb
    generalize 2 ^ a = u at tw pa ⊢
    generalize 2 ^ b = v at tw ⊢
    refine ⟨i0', cpow1 (by omega), ij', cpow1 (by omega), wLet_i ⟨i0', ij', p_spot hn bj.1 lt fun r r0 r1 => ?_⟩⟩
    have il : inB links r := inB_of r0 (by rw [hl.1]; exact r1)
    have vl := hl.2 _ (ixG_mem r0 (by rw [hl.1]; exact r1))
    have ir : inB row ((m : Int) - (u : Int) - (v : Int)) := inB_of (by omega) (by omega)
    have vr := hrow.2 _ (ixG_mem (i := (m : Int) - (u : Int) - (v : Int)) (by omega) (by omega))
    exact ⟨il, ir, cmul_l (by omega), wLet_i ⟨cmul_l (by omega), by decide, cmul_r (by omega), wLet_i (hn2 _ trivial)⟩⟩
  · refine ⟨by omega, lim_lt (by omega), wLet_i (hn' _ ⟨?_, fun x hx => ?_⟩)⟩
    · rw [List.length_append, List.length_singleton]
      omega
    · rcases List.mem_append.mp hx with z | z
      · exact hrow.2 x z
      · rw [List.mem_singleton.mp z]
        exact ⟨Int.emod_nonneg _ (by omega), Int.emod_lt_of_pos _ (by omega)⟩
theorem p_form {p worth : Int} {n M home : Nat} {links : List Int} {k : List Int → Prop} {e : PErr → Prop} (hp : 3 ≤ p ∧ p ≤ 997) (hn : n ≤ 6) (hM : M = 2 ^ n) (hh : home < M) (hw : 0 ≤ worth ∧ worth < p) (hl : Rw p (((n : Int) * (n - 1)) / 2) links) (h : ∀ L, Rw p (M : Int) L → k L) : w_ulaw_form_entries p n home worth links k e := by
  unfold w_ulaw_form_entries
  obtain ⟨M', hM', m1, m2, eM⟩ := pow2 hn
  have : M' = M := by rw [hM, hM']
  subst this
  refine p_roots hp hn hM hl fun R hR => ?_
  have hR1 := hR.1
  rw [eM]
  refine ⟨cpow1 (by omega), rg_ok (by omega), lim_le (by omega), wComp_all (fun x => 0 ≤ x ∧ x < p) (fun d hd nx hx => ?_) fun ys hy hy2 => h ys ⟨by rw [hy, rangeL_len]; omega, hy2⟩⟩
  have hd := mem_rangeL.mp hd
  obtain ⟨a, rfl⟩ : ∃ a : Nat, d = (a : Int) := ⟨d.toNat, by omega⟩
  rw [bxor_nat]
  have lt : a ^^^ home < M' := by rw [hM']; exact Nat.xor_lt_two_pow (by rw [← hM']; omega) (by rw [← hM']; exact hh)
  exact ⟨inB_of (by omega) (by omega), cmul_l (by omega), by omega, hx _ ⟨Int.emod_nonneg _ (by omega), Int.emod_lt_of_pos _ (by omega)⟩⟩
theorem p_told {u v : Unit} {p : Int} {n M : Nat} {k : List Int → Prop} {e : PErr → Prop} (hp : 3 ≤ p ∧ p ≤ 997) (hn : n ≤ 6) (hM : M = 2 ^ n) (h : ∀ L, Rw p (M : Int) L → k L) : w_ulaw_told u v p n k e := by
  unfold w_ulaw_told
  obtain ⟨M', hM', m1, m2, eM⟩ := pow2 hn
  have : M' = M := by rw [hM, hM']
  subst this
  rw [eM]
  refine ⟨cpow1 (by omega), p_next (by omega) fun home h0 h1 => p_next (by omega) fun w w0 w1 => wLet_i (wJoin_o (fun x => 0 ≤ x ∧ x < p) (fun j hj => ?_) fun worth hw => ?_)⟩
  · exact p_next (by decide) fun c _ _ => Br_p (fun _ => hj _ (by omega)) fun _ => hj _ (by omega)
  obtain ⟨hm, rfl⟩ : ∃ a : Nat, home = (a : Int) := ⟨home.toNat, by omega⟩
  have hs : 0 ≤ ((n : Int) * (n - 1)) / 2 ∧ ((n : Int) * (n - 1)) / 2 ≤ 15 := by
    have : ∀ n : Nat, n < 7 → 0 ≤ ((n : Int) * (n - 1)) / 2 ∧ ((n : Int) * (n - 1)) / 2 ≤ 15 := by decide +kernel
    exact this n (by omega)
  refine ⟨cmul_l (by omega), ⟨by decide, by decide⟩, rg_ok (by omega), lim_le (by omega), wComp_all (fun x => 0 ≤ x ∧ x < p) (fun d _ nx hx => p_ulaw_residue (by omega) fun y hy => hx y hy) fun ys hy hy2 => ?_⟩
  rw [rangeL_len] at hy
  exact p_form hp hn hM (by omega) hw ⟨by omega, hy2⟩ h
theorem p_any {u v : Unit} {p : Int} {n M : Nat} {k : List Int → Prop} {e : PErr → Prop} (hp : 3 ≤ p ∧ p ≤ 997) (hn : n ≤ 6) (hM : M = 2 ^ n) (h : ∀ L, Rw p (M : Int) L → k L) : w_ulaw_any_cells u v p n k e := by
  unfold w_ulaw_any_cells
  obtain ⟨M', hM', m1, m2, eM⟩ := pow2 hn
  have : M' = M := by rw [hM, hM']
  subst this
  rw [eM]
  have C := cpow1 (i := (n : Int)) (by omega)
  have R := rg_ok (lo := 0) (hi := (M' : Int)) (by omega)
  have Li : Int.toNat (M' : Int) ≤ LIM := lim_le (by omega)
  refine p_next (by decide) fun kind _ _ => Br_p (fun _ => ?_) fun _ => ?_
  · refine ⟨C, R, Li, wComp_all (fun x => 0 ≤ x ∧ x < p) (fun d _ nx hx => p_ulaw_residue (by omega) fun y hy => hx y hy) fun ys hy hy2 => h ys ⟨?_, hy2⟩⟩
    rw [hy, rangeL_len]; omega
  refine p_told hp hn hM fun L hL => ⟨C, p_next (by omega) fun spot s0 s1 => p_next (by omega) fun by' b0 b1 => wLet_i ?_⟩
  have md : ∀ z : Int, 0 ≤ z % p ∧ z % p < p := fun z => ⟨Int.emod_nonneg _ (by omega), Int.emod_lt_of_pos _ (by omega)⟩
  refine wJoin_o (Rw p (M' : Int)) (fun j hj => ?_) fun L hL => ?_
  · refine Br_p (fun _ => ?_) fun _ => hj _ hL
    have b : inB L spot := inB_of s0 (by rw [hL.1]; exact s1)
    exact ⟨b, by omega, b, hj _ (rw_set hL (md _))⟩
  refine wJoin_o (Rw p (M' : Int)) (fun j hj => ?_) fun L hL => ?_
  · refine Br_p (fun _ => p_told hp hn hM fun L2 hL2 => ?_) fun _ => hj _ hL
    refine ⟨C, R, Li, wComp_all (fun x => 0 ≤ x ∧ x < p) (fun d hd nx hx => ?_) fun ys hy hy2 => hj ys ⟨by rw [hy, rangeL_len]; omega, hy2⟩⟩
    have hd := mem_rangeL.mp hd
    exact ⟨inB_of hd.1 (by rw [hL.1]; exact hd.2), inB_of hd.1 (by rw [hL2.1]; exact hd.2), by omega, hx _ (md _)⟩
  refine wJoin_o (Rw p (M' : Int)) (fun j hj => ?_) fun L hL => h L hL
  refine Br_p (fun _ => ?_) fun _ => hj _ hL
  refine ⟨C, R, Li, wComp_map (fun _ => (0 : Int)) (fun _ _ _ z => z) ?_⟩
  have hz := rw_zero (p := p) (n := (M' : Int)) (by omega) (by omega)
  have h1 := rw_set (i := spot) (y := 1 + by') hz (by omega)
  exact ⟨inB_of s0 (by rw [hz.1]; exact s1), wLet_i ⟨C, p_next (by omega) fun s2 s20 s21 => p_next (by omega) fun w w0 w1 => ⟨inB_of s20 (by rw [h1.1]; exact s21), hj _ (rw_set h1 (by omega))⟩⟩⟩
theorem p_look_lot {n : Nat} {x : Int} {k : Unit → Prop} {e : PErr → Prop} (hn : n ≤ 6) (h1 : ∀ a : Nat, x = a → a < 2 ^ n → k ()) (h2 : ¬ (0 ≤ x ∧ x < 2 ^ n) → e (NumE x)) : w_look_lot n x k e := by
  unfold w_look_lot
  obtain ⟨M, hM, m1, m2, eM⟩ := pow2 hn
  have eI : ((2 : Int) ^ n) = (M : Int) := by rw [hM, Int.natCast_pow]; rfl
  rw [eM]
  rw [eI] at h2
  rw [← hM] at h1
  refine ⟨cpow1 (by omega), p_look_number (fun z => h1 x.toNat (by omega) (by omega)) fun z => h2 (by omega)⟩
theorem p_names_num {n : Int} {k : List (Str × Int) → Prop} {e : PErr → Prop} (h : k [(Str.ofString "number", n)]) : w_ulaw_names (NumE n) k e :=
  wLet_i (wJoin_i (Br_y rfl ⟨n, rfl, lim_lt (by decide), wLet_i (wJoin_i (Br_x rfl (wJoin_i (Br_x rfl h))))⟩))
theorem p_got {w : Str} {n : Int} {k : Bool → Prop} {e : PErr → Prop} (h : k true) : w_ulaw_got [(w, n)] w n k e := by
  unfold w_ulaw_got
  have b : inB ([(w, n)] : List (Str × Int)) 0 := inB_of (by omega) (by simp)
  have g : ixG ([(w, n)] : List (Str × Int)) 0 = (w, n) := ixG_at (n := 0) rfl
  rw [g]
  refine ⟨fun _ => b, Br_x (by simp) (wJoin_i ⟨b, p_whole (Br_y rfl ⟨b, ?_⟩)⟩)⟩
  show k (decide (n = n))
  rw [decide_eq_true rfl]
  exact h
theorem cast_inj : ∀ (a b : List Nat), a.map (fun (x : Nat) => (x : Int)) = b.map (fun (x : Nat) => (x : Int)) → a = b
  | [], [], _ => rfl
  | [], _ :: _, z => by cases z
  | _ :: _, [], z => by cases z
  | x :: a, y :: b, z => by
    rw [List.map_cons, List.map_cons, List.cons.injEq] at z
    rw [cast_inj a b z.2, show x = y by omega]
theorem altS_app {g : Nat → Int} {b : Nat} : ∀ (L : List Nat) (s : Int), altS g s (L ++ [b]) = altS g s L + (if L.length % 2 = 0 then s else -s) * g b
  | [], s => by
    show s * g b + 0 = 0 + s * g b
    omega
  | c :: L, s => by
    show s * g c + altS g (-s) (L ++ [b]) = s * g c + altS g (-s) L + _
    rw [altS_app L (-s), List.length_cons, Int.neg_neg, Int.add_assoc]
    congr 2
    by_cases h : L.length % 2 = 0
    · rw [if_pos h, if_neg (by omega)]
    · rw [if_neg h, if_pos (by omega)]
/-- the links by pairs -/
def lnk (n : Nat) (links : List Int) (a b : Nat) : Int := av links ((((a : Int) * (2 * (n : Int) - a - 1)) / 2 + b - a - 1).toNat)
theorem p_spot2 {n l h : Nat} {k : Int → Prop} {e : PErr → Prop} (hn : n ≤ 6) (hh : h < n) (hl : l < h) (hk : k (((l : Int) * (2 * (n : Int) - l - 1)) / 2 + h - l - 1)) : w_ulaw_pair_spot n l h k e := by
  unfold w_ulaw_pair_spot
  have e1 : minI (l : Int) (h : Int) = l := by unfold minI; rw [if_neg (by omega)]
  have e2 : maxI (l : Int) (h : Int) = h := by unfold maxI; rw [if_pos (by omega)]
  rw [e1, e2]
  exact wLet_i ⟨cmul_l (by omega), cmul_l (by omega), ⟨by decide, by decide⟩, hk⟩
theorem p_roots2 {p : Int} {n M : Nat} {links : List Int} {k : List Int → Prop} {e : PErr → Prop} (hp : 3 ≤ p ∧ p ≤ 997) (hn : n ≤ 6) (hM : M = 2 ^ n) (hl : Rw p (((n : Int) * (n - 1)) / 2) links) (h : ∀ L, Rw p (M : Int) L → (∀ m : Nat, m < M → av L m = pf (lnk n links) m % p) → k L) : w_ulaw_roots p n links k e := by
  unfold w_ulaw_roots
  obtain ⟨M', hM', m1, m2, eM⟩ := pow2 hn
  have : M' = M := by rw [hM, hM']
  subst this
  rw [eM]
  refine wLet_i ⟨cpow1 (by omega), rg_ok (by omega), ?_⟩
  refine wFor_rng (fun i s => Rw p i s ∧ ∀ m : Nat, (m : Int) < i → av s m = pf (lnk n links) m % p) (by omega) ⟨⟨rfl, fun x hx => by rw [List.mem_singleton.mp hx]; omega⟩, fun m hm => ?_⟩ ?_ fun s i => h s i.1 fun m hm => i.2 m (by omega)
  · have : m = 0 := by omega
    subst this
    show (1 : Int) = pf (lnk n links) 0 % p
    have e0 : pf (lnk n links) 0 = 1 := by
      have z : bits 6 0 = [] := by decide
      unfold pf pfF
      rw [z]
    rw [e0]
    exact (Int.emod_eq_of_lt (by omega) (by omega)).symm
  rintro i row nx i0 i1 ⟨hrow, hpf⟩ hn'
  obtain ⟨m, rfl⟩ : ∃ j : Nat, i = (j : Int) := ⟨i.toNat, by omega⟩
  refine ⟨rg_ok (by omega), lim_le (by omega), wComp_flt (fun d => decide (PySem.Builtin.bitAnd ((m : Int) / 2 ^ Int.toNat d) 1 = 1)) (fun d hd nx h1 h2 => ?_) ?_⟩
  · have hd := mem_rangeL.mp hd
    exact ⟨hd.1, Br_i h1 h2⟩
  rw [own_eq]
  have hr1 := hrow.1
  have hmM : m < 2 ^ n := by rw [← hM']; omega
  have b6 : bits 6 m = bits n m := bits_top hn (shr_zero hmM)
  cases hb : bits n m with
  | nil =>
    exfalso
    have z : m = 0 := by
      rcases Nat.eq_zero_or_pos m with z | z
      · exact z
      · exfalso
        have hlow : ∀ t, t ≤ n → bits t m = [] := fun t ht => by
          unfold bits at hb ⊢
          rw [List.filter_eq_nil_iff] at hb ⊢
          intro x hx
          exact hb x (List.mem_range.mpr (Nat.lt_of_lt_of_le (List.mem_range.mp hx) ht))
        have hall : ∀ t, t ≤ n → m % 2 ^ t = 0 := by
          intro t
          induction t with
          | zero => intro _; exact Nat.mod_one m
          | succ t ih =>
            intro ht
            have q := ih (by omega)
            have hbt : bit m t = false := by
              have := hlow (t + 1) ht
              rw [bits_succ] at this
              rw [Bool.eq_false_iff]
              intro w
              rw [if_pos w] at this
              simp at this
            unfold bit at hbt
            rw [decide_eq_false_iff_not, Nat.shiftRight_eq_div_pow] at hbt
            have hdm := Nat.div_add_mod m (2 ^ t)
            have : m % 2 ^ (t + 1) = m % 2 ^ t + 2 ^ t * (m / 2 ^ t % 2) := Nat.mod_pow_succ
            rw [this, q, show m / 2 ^ t % 2 = 0 by omega]
            rfl
        have := hall n (Nat.le_refl _)
        rw [Nat.mod_eq_of_lt hmM] at this
        omega
    omega
  | cons a R =>
    have ha := mem_bits.mp (show a ∈ bits n m by rw [hb]; exact List.mem_cons_self ..)
    have hlen : (a :: R).length ≤ n := by
      rw [← hb]
      unfold bits
      refine Nat.le_trans (List.length_filter_le _ _) ?_
      rw [List.length_range]
      exact Nat.le_refl _
    have srt := bits_sorted (n := n) (m := m)
    rw [hb] at srt
    have hpfm : pf (lnk n links) m = altS (fun b => lnk n links a b * pf (lnk n links) (m - 2 ^ a - 2 ^ b)) 1 R := by
      have u : pf (lnk n links) m = pfF (lnk n links) (m + 1) m := rfl
      rw [u]
      unfold pfF
      rw [b6, hb]
      refine altS_ext R 1 fun b hb' => ?_
      have hbb := mem_bits.mp (show b ∈ bits n m by rw [hb]; exact List.mem_cons_of_mem _ hb')
      have lt := List.rel_of_pairwise_cons srt hb'
      have tw := two_bits ha.2 hbb.2 lt
      have pa := Nat.one_le_two_pow (n := a)
      have lt2 : m - 2 ^ a - 2 ^ b < m := by
        generalize 2 ^ a = u at tw pa ⊢
        generalize 2 ^ b = v at tw ⊢
        omega
      unfold pf
      rw [pf_fuel m (m - 2 ^ a - 2 ^ b + 1) (m - 2 ^ a - 2 ^ b) lt2 (by omega)]
    generalize hg : (fun b => lnk n links a b * pf (lnk n links) (m - 2 ^ a - 2 ^ b)) = g at hpfm
    refine ⟨rg_ok (by simp only [List.length_map]; omega), ?_⟩
    rw [List.length_map]
    refine wFor_rng (fun i tot => ∃ q, tot = altS g 1 (R.take (i - 1).toNat) + p * q) (by rw [List.length_cons]; omega) ⟨0, by show (0 : Int) = 0 + p * 0; omega⟩ ?_ ?_
    · rintro i tot nx2 j0 j1 ⟨q, rfl⟩ hn2
      obtain ⟨j, rfl⟩ : ∃ j : Nat, i = (j : Int) + 1 := ⟨(i - 1).toNat, by omega⟩
      rw [List.length_cons] at j1
      have hj : j < R.length := by omega
      have g0 : ixG ((a :: R).map fun (x : Nat) => (x : Int)) 0 = (a : Int) := ixG_at (n := 0) rfl
      have gj : ixG ((a :: R).map fun (x : Nat) => (x : Int)) ((j : Int) + 1) = (R[j] : Int) := by
        rw [show (j : Int) + 1 = ((j + 1 : Nat) : Int) by omega]
        exact ixG_at (by rw [List.getElem?_map, List.getElem?_cons_succ, List.getElem?_eq_getElem hj]; rfl)
      have hb' : R[j] ∈ R := List.getElem_mem hj
      have hbb := mem_bits.mp (show R[j] ∈ bits n m by rw [hb]; exact List.mem_cons_of_mem _ hb')
      have lt := List.rel_of_pairwise_cons srt hb'
      have tw := two_bits ha.2 hbb.2 lt
      have htake : R.take (j + 1) = R.take j ++ [R[j]] := by rw [List.take_add_one, List.getElem?_eq_getElem hj]; rfl
      have e3 : ((j : Int) + 1 - 1).toNat = j := by omega
      have e4 : ((j : Int) + 1 + 1 - 1).toNat = j + 1 := by omega
      rw [e4, htake, altS_app, List.length_take, Nat.min_eq_left (by omega)] at hn2
      rw [e3, g0, gj]
      have hgb : g R[j] = lnk n links a R[j] * pf (lnk n links) (m - 2 ^ a - 2 ^ R[j]) := by rw [← hg]
      generalize R[j] = b at hbb lt tw hgb hn2 ⊢
      have i0' : inB ((a :: R).map fun (x : Nat) => (x : Int)) 0 := inB_of (by omega) (by rw [List.length_map, List.length_cons]; omega)
      have ij' : inB ((a :: R).map fun (x : Nat) => (x : Int)) ((j : Int) + 1) := inB_of (by omega) (by rw [List.length_map, List.length_cons]; omega)
      have ea : (1 : Int) * (2 : Int) ^ Int.toNat (a : Int) = ((2 ^ a : Nat) : Int) := by rw [Int.toNat_natCast, Int.one_mul, Int.natCast_pow]; rfl
      have eb : (1 : Int) * (2 : Int) ^ Int.toNat (b : Int) = ((2 ^ b : Nat) : Int) := by rw [Int.toNat_natCast, Int.one_mul, Int.natCast_pow]; rfl
      rw [ea, eb]
      have pa := Nat.one_le_two_pow (n := a)
      clear ea eb
      generalize 2 ^ a = u at tw pa hgb ⊢
      generalize 2 ^ b = v at tw hgb ⊢
      have er : (m : Int) - (u : Int) - (v : Int) = ((m - u - v : Nat) : Int) := by omega
      rw [er]
      refine ⟨i0', cpow1 (by omega), ij', cpow1 (by omega), wLet_i ⟨i0', ij', p_spot2 hn hbb.1 lt ?_⟩⟩
      have sp := spot_ok n (by omega) b hbb.1 a lt
      have hlk : lnk n links a b = av links ((((a : Int) * (2 * (n : Int) - a - 1)) / 2 + b - a - 1).toNat) := rfl
      generalize (((a : Int) * (2 * (n : Int) - a - 1)) / 2 + b - a - 1) = r at sp hlk ⊢
      obtain ⟨rn, rfl⟩ : ∃ x : Nat, r = (x : Int) := ⟨r.toNat, by omega⟩
      rw [Int.toNat_natCast] at hlk
      have il : inB links (rn : Int) := inB_of (by omega) (by rw [hl.1]; exact sp.2)
      have vl := hl.2 _ (ixG_mem (xs := links) (i := (rn : Int)) (by omega) (by rw [hl.1]; exact sp.2))
      have ir : inB row ((m - u - v : Nat) : Int) := inB_of (by omega) (by omega)
      have vr := hrow.2 _ (ixG_mem (xs := row) (i := ((m - u - v : Nat) : Int)) (by omega) (by omega))
      have el : ixG links (rn : Int) = lnk n links a b := by rw [ixG_nat, hlk]; rfl
      have ew : ixG row ((m - u - v : Nat) : Int) = pf (lnk n links) (m - u - v) % p := by rw [ixG_nat]; exact hpf _ (by omega)
      refine ⟨il, ir, cmul_l (by omega), wLet_i ⟨cmul_l (by omega), by decide, cmul_r (by omega), wLet_i (hn2 _ ?_)⟩⟩
      rw [el, ew, hgb]
      have dm := Int.mul_ediv_add_emod (pf (lnk n links) (m - u - v)) p
      generalize pf (lnk n links) (m - u - v) % p = w at dm ⊢
      generalize pf (lnk n links) (m - u - v) / p = z at dm ⊢
      generalize pf (lnk n links) (m - u - v) = P at dm ⊢
      generalize lnk n links a b = x
      generalize altS g 1 (R.take j) = S
      subst dm
      by_cases c : j % 2 = 0
      · rw [if_pos c, show ((j : Int) + 1 + 1) % 2 = 0 by omega]
        exact ⟨q - x * z, by grind⟩
      · rw [if_neg c, show ((j : Int) + 1 + 1) % 2 = 1 by omega]
        exact ⟨q + x * z, by grind⟩
    · rintro tot ⟨q, rfl⟩
      have e5 : (((a :: R).length : Int) - 1).toNat = R.length := by rw [List.length_cons]; omega
      rw [e5, List.take_length, ← hpfm, Int.add_mul_emod_self_left]
      refine ⟨by omega, lim_lt (by omega), wLet_i (hn' _ ⟨⟨?_, fun x hx => ?_⟩, fun x hx => ?_⟩)⟩
      · rw [List.length_append, List.length_singleton]
        omega
      · rcases List.mem_append.mp hx with z | z
        · exact hrow.2 x z
        · rw [List.mem_singleton.mp z]
          exact ⟨Int.emod_nonneg _ (by omega), Int.emod_lt_of_pos _ (by omega)⟩
      · by_cases c : (x : Int) < m
        · rw [← hpf x c]
          unfold av
          rw [List.getElem?_append_left (by omega)]
        · have : x = m := by omega
          subst this
          unfold av
          rw [List.getElem?_append_right (by omega), show x - row.length = 0 by omega]
          rfl
theorem p_form2 {p worth : Int} {n M home : Nat} {links : List Int} {k : List Int → Prop} {e : PErr → Prop} (hp : 3 ≤ p ∧ p ≤ 997) (hn : n ≤ 6) (hM : M = 2 ^ n) (hh : home < M) (hw : 0 ≤ worth ∧ worth < p) (hl : Rw p (((n : Int) * (n - 1)) / 2) links) (h : ∀ L, Rw p (M : Int) L → (∀ x : Nat, x < M → av L x = worth * (pf (lnk n links) (x ^^^ home) % p) % p) → k L) : w_ulaw_form_entries p n home worth links k e := by
  unfold w_ulaw_form_entries
  obtain ⟨M', hM', m1, m2, eM⟩ := pow2 hn
  have : M' = M := by rw [hM, hM']
  subst this
  refine p_roots2 hp hn hM hl fun R hR hpf => ?_
  have hR1 := hR.1
  rw [eM]
  have lt : ∀ a : Nat, a < M' → a ^^^ home < M' := fun a ha => by rw [hM']; exact Nat.xor_lt_two_pow (by rw [← hM']; exact ha) (by rw [← hM']; exact hh)
  refine ⟨cpow1 (by omega), rg_ok (by omega), lim_le (by omega), wComp_map (fun d => worth * (pf (lnk n links) (d.toNat ^^^ home) % p) % p) (fun d hd nx hx => ?_) (h _ ⟨by rw [List.length_map, rangeL_len]; omega, fun x hx => ?_⟩ fun x hx => ?_)⟩
  · have hd := mem_rangeL.mp hd
    obtain ⟨a, rfl⟩ : ∃ a : Nat, d = (a : Int) := ⟨d.toNat, by omega⟩
    have la := lt a (by omega)
    rw [bxor_nat]
    rw [Int.toNat_natCast, ← hpf _ la] at hx
    rw [ixG_nat]
    exact ⟨inB_of (by omega) (by omega), cmul_l (by omega), by omega, hx⟩
  · obtain ⟨d, _, rfl⟩ := List.mem_map.mp hx
    exact ⟨Int.emod_nonneg _ (by omega), Int.emod_lt_of_pos _ (by omega)⟩
  · unfold av
    rw [List.getElem?_map, rangeL_get (by omega)]
    simp
def hz (A : List Int) (one two i o : Nat) : Bool := !decide (o = i) && (!decide (av A (one ^^^ (1 <<< i ^^^ 1 <<< o)) = 0) && !decide (av A (two ^^^ (1 <<< i ^^^ 1 <<< o)) = 0))
def exL (n : Nat) (A : List Int) (one two i : Nat) : List Nat := (bits n (one ^^^ two)).filter (hz A one two i)
theorem exL_comm {n : Nat} {A : List Int} {one two i : Nat} : exL n A two one i = exL n A one two i := by
  unfold exL
  rw [Nat.xor_comm two one]
  congr 1
  funext o
  unfold hz
  congr 1
  exact Bool.and_comm ..
theorem exL_len {n : Nat} {A : List Int} {one two i : Nat} : (exL n A one two i).length ≤ n := by
  unfold exL bits
  refine Nat.le_trans (List.length_filter_le _ _) (Nat.le_trans (List.length_filter_le _ _) ?_)
  rw [List.length_range]
  exact Nat.le_refl _
/-- a loop that keeps those that pass -/
theorem wFor_flt {xs : List Int} {f : Int → List Int → (List Int → Prop) → (List Int → Prop) → Prop} {k : List Int → Prop} (h : Int → Bool)
    (hs : ∀ x, x ∈ xs → ∀ (s : List Int) (nx : List Int → Prop), s.length < xs.length → (h x = true → nx (s ++ [x])) → (h x = false → nx s) → f x s nx k) (hd : k (xs.filter h)) : wFor xs [] f k := by
  refine wFor_inv (fun pre s => s = pre.filter h) rfl (fun pre x post s nx e i nn => ?_) fun s i => by rw [i]; exact hd
  refine hs x (by rw [e]; simp) s nx ?_ (fun c => nn _ ?_) fun c => nn _ ?_
  · rw [i, e, List.length_append, List.length_cons]
    have := List.length_filter_le h pre
    omega
  · rw [List.filter_append, ← i, List.filter_cons, if_pos c]
    rfl
  · rw [List.filter_append, ← i, List.filter_cons, if_neg (by rw [c]; decide)]
    exact (List.append_nil s).symm
theorem near_lt {n a i o : Nat} (ha : a < 2 ^ n) (hi : i < n) (ho : o < n) : a ^^^ (1 <<< i ^^^ 1 <<< o) < 2 ^ n := by
  rw [← Nat.xor_assoc]
  exact xor_lt (xor_lt ha hi) ho
theorem hz_le {A : List Int} {one two i o : Nat} : hz A one two i o = hz A one two i o := rfl
theorem filt_cast {L : List Nat} {h : Nat → Bool} {g : Int → Bool} (e : ∀ x, x ∈ L → g (x : Int) = h x) : (L.map fun (x : Nat) => (x : Int)).filter g = (L.filter h).map fun (x : Nat) => (x : Int) := by
  rw [List.filter_map]
  congr 1
  exact List.filter_congr e
theorem hz_int {A : List Int} {a b i o : Nat} {n : Nat} {p : Int} (hA : Tb p n A) (ha : a < 2 ^ n) (hb : b < 2 ^ n) (hi : i < n) (ho : o < n) : (!decide ((o : Int) = i) && (!decide (ixG A (PySem.Builtin.bitXor (a : Int) ((1 <<< i ^^^ 1 <<< o : Nat) : Int)) = 0) && !decide (ixG A (PySem.Builtin.bitXor (b : Int) ((1 <<< i ^^^ 1 <<< o : Nat) : Int)) = 0))) = hz A a b i o := by
  rw [bxor_nat, bxor_nat, (tb_at hA (near_lt ha hi ho)).2.1, (tb_at hA (near_lt hb hi ho)).2.1]
  unfold hz
  congr 2
  rw [decide_eq_decide]
  omega
theorem bits_lt {n m i : Nat} (h : i ∈ bits n m) : i < n := (mem_bits.mp h).1
theorem altS_dvd {g : Nat → Int} {p : Int} {i : Nat} : ∀ (L : List Nat) (s : Int), (s = 1 ∨ s = -1) → L.Pairwise (· < ·) → (∀ k, k ∈ L → k ≠ i → p ∣ g k) → i ∈ L → p ∣ altS g s L → p ∣ g i
  | [], s, _, _, _, hi, _ => nomatch hi
  | c :: R, s, hs, hp, hg, hi, hd => by
    have all0 : ∀ (R : List Nat) (s : Int), (∀ k, k ∈ R → p ∣ g k) → p ∣ altS g s R := by
      intro R
      induction R with
      | nil => intro s _; exact Int.dvd_zero _
      | cons k R ih => intro s h; exact Int.dvd_add (Int.dvd_mul_of_dvd_right (h k (List.mem_cons_self ..))) (ih (-s) fun j hj => h j (List.mem_cons_of_mem _ hj))
    have hd : p ∣ s * g c + altS g (-s) R := hd
    by_cases e : c = i
    · subst e
      have z := all0 R (-s) fun k hk => hg k (List.mem_cons_of_mem _ hk) (by have := List.rel_of_pairwise_cons hp hk; omega)
      have z2 := (Int.dvd_add_left z).mp hd
      rcases hs with rfl | rfl
      · rw [Int.one_mul] at z2; exact z2
      · rw [Int.neg_mul, Int.one_mul] at z2; exact (Int.dvd_neg).mp z2
    · have z := hg c (List.mem_cons_self ..) e
      have hi2 : i ∈ R := by
        rcases List.mem_cons.mp hi with q | q
        · exact absurd q.symm e
        · exact q
      exact altS_dvd R (-s) (by omega) (List.Pairwise.of_cons hp) (fun k hk => hg k (List.mem_cons_of_mem _ hk)) hi2 ((Int.dvd_add_right (Int.dvd_mul_of_dvd_right z)).mp hd)
/-- a told table has an exchange -/
theorem told_ex {p worth : Int} {n home : Nat} {A links : List Int} (hp : isP p = true) (hn : n ≤ 5) (hw : 1 ≤ worth ∧ worth < p) (hh : home < 2 ^ n) (hA : ∀ x : Nat, x < 2 ^ n → av A x = worth * (pf (lnk n links) (x ^^^ home) % p) % p) {one two i : Nat} (h1 : one < 2 ^ n) (h2 : two < 2 ^ n) (z1 : av A one ≠ 0) (z2 : av A two ≠ 0) (hi : i ∈ bits n (one ^^^ two)) : exL n A one two i ≠ [] := by
  intro hz0
  have hp3 := (isP_nat hp).2
  have hin := bits_lt hi
  have h5 : (2 : Nat) ^ n ≤ 32 := Nat.pow_le_pow_right (n := 2) (by omega) hn
  have md : ∀ x : Int, 0 ≤ x % p ∧ x % p < p := fun x => ⟨Int.emod_nonneg _ (by omega), Int.emod_lt_of_pos _ (by omega)⟩
  have zero : ∀ x : Nat, x < 2 ^ n → (av A x = 0 ↔ p ∣ pf (lnk n links) (x ^^^ home)) := fun x hx => by
    rw [hA x hx]
    constructor
    · intro z
      rcases dom_int hp (x := worth) (by omega) (md _) z with q | q
      · omega
      · exact Int.dvd_of_emod_eq_zero q
    · intro z
      rw [Int.emod_eq_zero_of_dvd z, Int.mul_zero]
      exact Int.zero_emod _
  have s5 : ((one ^^^ 1 <<< i) ^^^ home) < 2 ^ n := Nat.xor_lt_two_pow (xor_lt h1 hin) hh
  have t5 : ((two ^^^ 1 <<< i) ^^^ home) < 2 ^ n := Nat.xor_lt_two_pow (xor_lt h2 hin) hh
  have law := pf_law (l := lnk n links) (s := (one ^^^ 1 <<< i) ^^^ home) (t := (two ^^^ 1 <<< i) ^^^ home) (by omega) (by omega)
  have ex : ((one ^^^ 1 <<< i) ^^^ home) ^^^ ((two ^^^ 1 <<< i) ^^^ home) = one ^^^ two := by
    have c : ∀ a b : Nat, (a ^^^ b) ^^^ b = a := fun a b => by rw [Nat.xor_assoc, Nat.xor_self, Nat.xor_zero]
    rw [Nat.xor_comm (two ^^^ 1 <<< i) home, ← Nat.xor_assoc, c, Nat.xor_comm two, ← Nat.xor_assoc, c]
  rw [ex, bits_top (t := n) (by omega) (shr_zero (Nat.xor_lt_two_pow h1 h2))] at law
  have arr : ∀ a k : Nat, ((a ^^^ 1 <<< i) ^^^ home) ^^^ 1 <<< k = (a ^^^ (1 <<< i ^^^ 1 <<< k)) ^^^ home := fun a k => by
    rw [Nat.xor_assoc, Nat.xor_comm home, ← Nat.xor_assoc, Nat.xor_assoc a]
  have d := altS_dvd (p := p) (i := i) (bits n (one ^^^ two)) 1 (Or.inl rfl) bits_sorted (fun k hk ne => ?_) hi (by rw [law]; exact Int.dvd_zero _)
  · rw [arr, arr, Nat.xor_self, Nat.xor_zero, Nat.xor_zero] at d
    have e1 : av A one = worth * (pf (lnk n links) (one ^^^ home) % p) % p := hA one h1
    have n1 : pf (lnk n links) (one ^^^ home) % p ≠ 0 := fun z => z1 ((zero one h1).mpr (Int.dvd_of_emod_eq_zero z))
    have n2 : pf (lnk n links) (two ^^^ home) % p ≠ 0 := fun z => z2 ((zero two h2).mpr (Int.dvd_of_emod_eq_zero z))
    have dz := Int.emod_eq_zero_of_dvd d
    rw [Int.mul_emod] at dz
    rcases dom_int hp (md _) (md _) dz with q | q
    · exact n1 q
    · exact n2 q
  · have hk' := bits_lt hk
    have nh : hz A one two i k = false := by
      unfold exL at hz0
      rw [List.filter_eq_nil_iff] at hz0
      exact Bool.eq_false_iff.mpr (hz0 k hk)
    unfold hz at nh
    rw [decide_eq_false ne] at nh
    simp only [Bool.not_false, Bool.true_and] at nh
    rw [arr, arr]
    by_cases c1 : av A (one ^^^ (1 <<< i ^^^ 1 <<< k)) = 0
    · exact Int.dvd_mul_of_dvd_left ((zero _ (near_lt h1 hin hk')).mp c1)
    · rw [decide_eq_false c1] at nh
      simp only [Bool.not_false, Bool.true_and, Bool.not_eq_false', decide_eq_true_eq] at nh
      exact Int.dvd_mul_of_dvd_right ((zero _ (near_lt h2 hin hk')).mp nh)
theorem p_exch {p x y z : Int} {n : Nat} {A : List Int} {k : List Int → Prop} {e : PErr → Prop} (hn : n ≤ 6) (hA : Tb p n A) (h1 : ∀ a b i : Nat, x = a → y = b → z = i → a < 2 ^ n → b < 2 ^ n → i ∈ bits n (a ^^^ b) → k ((exL n A a b i).map fun (x : Nat) => (x : Int))) (h2 : ¬ (0 ≤ x ∧ x < 2 ^ n) → e (NumE x)) (h3 : (0 ≤ x ∧ x < 2 ^ n) → ¬ (0 ≤ y ∧ y < 2 ^ n) → e (NumE y)) (h4 : ∀ a b : Nat, x = a → y = b → a < 2 ^ n → b < 2 ^ n → (∀ i : Nat, i ∈ bits n (a ^^^ b) → z ≠ i) → e (NumE z)) : w_exchange_ends (p, (n : Int), A) x y z k e := by
  unfold w_exchange_ends
  have eI : ∀ a : Nat, a < 2 ^ n → (a : Int) < (2 : Int) ^ n := fun a ha => by
    have := Int.ofNat_lt.mpr ha
    rw [Int.natCast_pow] at this
    exact this
  refine p_look_lot hn (fun a ea ha => ?_) h2
  refine p_look_lot hn (fun b eb hb => ?_) fun z => h3 ⟨by omega, by rw [ea]; exact eI a ha⟩ z
  replace h1 := fun i => h1 a b i ea eb
  replace h4 := h4 a b ea eb ha hb
  clear h2 h3
  subst ea eb
  rw [bxor_nat]
  refine p_bits_of (n := n) (Nat.xor_lt_two_pow ha hb) (by omega) (Br_p (fun c => h4 fun i hi ez => c ?_) fun c => ?_)
  · exact List.mem_map.mpr ⟨i, hi, ez.symm⟩
  · have c := Decidable.not_not.mp c
    obtain ⟨i, hi, rfl⟩ := List.mem_map.mp c
    have hin := bits_lt hi
    refine wLet_i (wFor_flt (fun d => hz A a b i d.toNat) (fun d hd s nx hs y1 y2 => ?_) ?_)
    · obtain ⟨o, ho, rfl⟩ := List.mem_map.mp hd
      have hon := bits_lt ho
      have hl : (bits n (a ^^^ b)).length ≤ n := by
        unfold bits
        refine Nat.le_trans (List.length_filter_le _ _) ?_
        rw [List.length_range]
        exact Nat.le_refl _
      rw [List.length_map] at hs
      rw [Int.toNat_natCast] at y1 y2
      refine ⟨cpow1 (by omega), cpow1 (by omega), ?_⟩
      rw [Int.toNat_natCast, Int.toNat_natCast, bshl_nat, bshl_nat, bxor_nat]
      refine wLet_i ⟨fun _ => ?_, fun _ _ => ?_, ?_⟩
      · rw [bxor_nat]; exact (tb_at hA (near_lt ha hin hon)).1
      · rw [bxor_nat]; exact (tb_at hA (near_lt hb hin hon)).1
      simp only
      rw [hz_int hA ha hb hin hon]
      exact Br_i (fun c => ⟨lim_lt (by omega), wLet_i (y1 c)⟩) y2
    · rw [filt_cast (h := hz A a b i) fun x _ => by rw [Int.toNat_natCast]]
      exact h1 i rfl ha hb hi
theorem p_tried {p x y z : Int} {n : Nat} {A : List Int} {k : List (Str × Int) → Prop} {e : PErr → Prop} (hn : n ≤ 6) (hA : Tb p n A) (h1 : ∀ a b i : Nat, x = a → y = b → z = i → a < 2 ^ n → b < 2 ^ n → i ∈ bits n (a ^^^ b) → False) (h2 : ¬ (0 ≤ x ∧ x < 2 ^ n) → k [(Str.ofString "number", x)]) (h3 : (0 ≤ x ∧ x < 2 ^ n) → ¬ (0 ≤ y ∧ y < 2 ^ n) → k [(Str.ofString "number", y)]) (h4 : ∀ a b : Nat, x = a → y = b → a < 2 ^ n → b < 2 ^ n → (∀ i : Nat, i ∈ bits n (a ^^^ b) → z ≠ i) → k [(Str.ofString "number", z)]) : w_ulaw_tried (p, (n : Int), A) x y z k e := by
  unfold w_ulaw_tried
  exact p_exch hn hA (fun a b i e1 e2 e3 l1 l2 m => (h1 a b i e1 e2 e3 l1 l2 m).elim) (fun z => p_names_num (h2 z)) (fun z z2 => p_names_num (h3 z z2)) fun a b e1 e2 l1 l2 m => p_names_num (h4 a b e1 e2 l1 l2 m)
theorem p_list_is {L : List Int} {k : Bool → Prop} {e : PErr → Prop} (h : k true) : w_ulaw_list_is L L k e := by
  unfold w_ulaw_list_is
  refine wJoin_i (Br_x rfl (wComp_map (fun _ => true) (fun x _ nx hx => p_whole hx) ?_))
  have ea : (L.map fun _ => true).all id = true := by rw [List.all_map]; exact List.all_eq_true.mpr fun _ _ => rfl
  rw [ea]
  refine Br_x rfl ?_
  rw [decide_eq_true rfl]
  exact h
theorem p_partners {p : Int} {n a b i : Nat} {A : List Int} {k : List Int → Prop} {e : PErr → Prop} (hn : n ≤ 6) (hA : Tb p n A) (ha : a < 2 ^ n) (hb : b < 2 ^ n) (hi : i < n) (h : k ((exL n A a b i).map fun (x : Nat) => (x : Int))) : w_ulaw_partners n A a b i k e := by
  unfold w_ulaw_partners
  refine wLet_i ⟨rg_ok (by omega), wFor_flt (fun d => bit (a ^^^ b) d.toNat && hz A a b i d.toNat) (fun d hd s nx hs y1 y2 => ?_) ?_⟩
  · have hd := mem_rangeL.mp hd
    obtain ⟨o, rfl⟩ : ∃ o : Nat, d = (o : Int) := ⟨d.toNat, by omega⟩
    have hon : o < n := by omega
    rw [rangeL_len] at hs
    rw [Int.toNat_natCast] at y1 y2
    refine ⟨fun _ => by omega, ?_⟩
    rw [bxor_nat, Int.toNat_natCast, bit_at]
    refine Br_i (fun c => ?_) fun c => y2 ?_
    · simp only [Bool.and_eq_true, Bool.not_eq_true', decide_eq_false_iff_not, decide_eq_true_eq] at c
      have cb : bit (a ^^^ b) o = true := by unfold bit; exact decide_eq_true (by omega)
      have ci : decide ((o : Int) = (i : Int)) = false := decide_eq_false c.1
      rw [cb, Bool.true_and] at y1 y2
      refine ⟨cpow1 (by omega), cpow1 (by omega), ?_⟩
      rw [Int.toNat_natCast, bshl_nat, bshl_nat, bxor_nat]
      have e1 := tb_at hA (near_lt ha hi hon)
      have e2 := tb_at hA (near_lt hb hi hon)
      refine wLet_i ?_
      rw [← hz_int hA ha hb hi hon, ci] at y1 y2
      rw [bxor_nat, bxor_nat] at *
      exact ⟨e1.1, fun _ => e2.1, Br_i (fun c => ⟨lim_lt (by omega), wLet_i (y1 c)⟩) y2⟩
    · unfold hz
      rw [Bool.and_eq_false_iff] at c
      rcases c with c | c
      · simp only [Bool.not_eq_false', decide_eq_true_eq] at c
        rw [decide_eq_true (show o = i by omega)]
        simp
      · have cb : bit (a ^^^ b) o = false := by
          unfold bit
          rw [decide_eq_false_iff_not] at c ⊢
          omega
        rw [cb, Bool.false_and]
  · have e1 : (rangeL 0 (n : Int)).filter (fun d => bit (a ^^^ b) d.toNat && hz A a b i d.toNat) = (exL n A a b i).map fun (x : Nat) => (x : Int) := by
      have er : rangeL 0 (n : Int) = (List.range n).map fun (x : Nat) => (x : Int) := by
        unfold rangeL
        rw [show ((n : Int) - 0).toNat = n by omega]
        congr 1
        funext i
        exact Int.zero_add _
      rw [er, filt_cast (h := fun o => bit (a ^^^ b) o && hz A a b i o) fun x _ => by rw [Int.toNat_natCast]]
      unfold exL bits
      rw [List.filter_filter]
      congr 1
      refine List.filter_congr fun x _ => Bool.and_comm ..
    rw [e1]
    exact h
theorem p_pair_asked {p : Int} {n a b : Nat} {A : List Int} {full : Bool} {k : Bool → Prop} {e : PErr → Prop} (hp : isP p = true ∧ p ≤ 997) (hn : n ≤ 6) (hA : Tb p n A) (ha : a < 2 ^ n) (hb : b < 2 ^ n) (hf : full = true → ∀ i, i ∈ bits n (a ^^^ b) → exL n A a b i ≠ []) (h : k true) : w_ulaw_pair_asked p n A a b full k e := by
  unfold w_ulaw_pair_asked
  have eI : ∀ a : Nat, a < 2 ^ n → (a : Int) < (2 : Int) ^ n := fun a ha => by
    have := Int.ofNat_lt.mpr ha
    rw [Int.natCast_pow] at this
    exact this
  have ia := eI a ha
  have ib := eI b hb
  refine p_Table_init hp hn hA ⟨by omega, lim_le (by rw [rangeL_len]; simp; omega), wFor_unit (fun d hd nx hx => ⟨fun c _ => ?_, ?_⟩) (p_same h)⟩
  · unfold maxI
    split <;> omega
  have hd : -1 ≤ d ∧ d ≤ n := by
    rcases List.mem_append.mp hd with q | q
    · rw [List.mem_singleton.mp q]; omega
    · have := mem_rangeL.mp q; omega
  have key : ∀ i : Nat, d = i → i < n → (decide (d < (0 : Int)) || (decide (d = (n : Int)) || decide (PySem.Builtin.bitAnd (PySem.Builtin.bitXor (a : Int) b / 2 ^ Int.toNat (maxI d (0 : Int))) (1 : Int) = (0 : Int)))) = !bit (a ^^^ b) i := fun i ei hi => by
    subst ei
    have em : maxI (i : Int) 0 = i := by unfold maxI; split <;> omega
    rw [decide_eq_false (show ¬ (i : Int) < 0 by omega), decide_eq_false (show ¬ (i : Int) = n by omega), Bool.false_or, Bool.false_or, em, bxor_nat, Int.toNat_natCast, bit_at]
    unfold bit
    by_cases c : (a ^^^ b) >>> i % 2 = 1
    · rw [decide_eq_true c, decide_eq_false (by omega)]; rfl
    · rw [decide_eq_false c, decide_eq_true (by omega)]; rfl
  refine Br_i (fun c => ?_) fun c => ?_
  · refine p_tried hn hA (fun a' b' i e1 e2 e3 _ _ hm => ?_) (fun z => absurd ⟨by omega, ia⟩ z) (fun _ z => absurd ⟨by omega, ib⟩ z) fun _ _ _ _ _ _ _ => p_got (Br_x rfl hx)
    have e1 : a = a' := by omega
    have e2 : b = b' := by omega
    subst e1 e2
    have hm' := mem_bits.mp hm
    rw [key i e3 hm'.1, hm'.2] at c
    cases c
  · have c0 : ¬ d < 0 ∧ ¬ d = n := by
      simp only [Bool.or_eq_false_iff, decide_eq_false_iff_not] at c
      exact ⟨c.1, c.2.1⟩
    obtain ⟨i, rfl⟩ : ∃ i : Nat, d = (i : Int) := ⟨d.toNat, by omega⟩
    have hin : i < n := by omega
    rw [key i rfl hin] at c
    have hm : i ∈ bits n (a ^^^ b) := mem_bits.mpr ⟨hin, by simpa using c⟩
    have ex : ∀ {k : List Int → Prop} {e : PErr → Prop}, k ((exL n A a b i).map fun (x : Nat) => (x : Int)) → w_exchange_ends (p, (n : Int), A) a b i k e := fun hk =>
      p_exch hn hA (fun a' b' i' e1 e2 e3 _ _ _ => by
        have e1 : a = a' := by omega
        have e2 : b = b' := by omega
        have e3 : i = i' := by omega
        subst e1 e2 e3
        exact hk) (fun z => absurd ⟨by omega, ia⟩ z) (fun _ z => absurd ⟨by omega, ib⟩ z) fun a' b' e1 e2 _ _ hz => absurd rfl (hz i (by
          have e1 : a = a' := by omega
          have e2 : b = b' := by omega
          subst e1 e2
          exact hm))
    have ex2 : ∀ {k : List Int → Prop} {e : PErr → Prop}, k ((exL n A a b i).map fun (x : Nat) => (x : Int)) → w_exchange_ends (p, (n : Int), A) b a i k e := fun hk =>
      p_exch hn hA (fun a' b' i' e1 e2 e3 _ _ _ => by
        have e1 : b = a' := by omega
        have e2 : a = b' := by omega
        have e3 : i = i' := by omega
        subst e1 e2 e3
        rw [exL_comm]
        exact hk) (fun z => absurd ⟨by omega, ib⟩ z) (fun _ z => absurd ⟨by omega, ia⟩ z) fun a' b' e1 e2 _ _ hz => absurd rfl (hz i (by
          have e1 : b = a' := by omega
          have e2 : a = b' := by omega
          subst e1 e2
          rw [Nat.xor_comm]
          exact hm))
    have lx := exL_len (n := n) (A := A) (one := a) (two := b) (i := i)
    refine p_partners hn hA ha hb hin (ex (wJoin_i (p_list_is (Br_x rfl ?_))))
    rw [List.length_map]
    refine Br_x ?_ ⟨lim_lt (by omega), wLet_i (ex (p_list_is (Br_x rfl (ex2 (p_list_is (Br_x rfl hx))))))⟩
    cases full with
    | false => rfl
    | true =>
      rw [Bool.true_and, decide_eq_false_iff_not]
      intro z
      exact hf rfl i hm (List.eq_nil_of_length_eq_zero (by omega))
theorem p_refused {p odd : Int} {n : Nat} {A : List Int} {k : Bool → Prop} {e : PErr → Prop} (hp : isP p = true ∧ p ≤ 997) (hn : n ≤ 6) (hA : Tb p n A) (ho : 0 ≤ odd) (h : k true) : w_ulaw_refused p n A odd k e := by
  have hp3 := (isP_nat hp.1).2
  unfold w_ulaw_refused
  obtain ⟨M, hM, m1, m2, eM⟩ := pow2 hn
  have eI : ((2 : Int) ^ n) = (M : Int) := by rw [hM, Int.natCast_pow]; rfl
  have C := cpow1 (i := (n : Int)) (by omega)
  rw [eM]
  refine p_Table_init hp hn hA ⟨C, wLet_i ⟨C, C, ?_⟩⟩
  have tr := fun (x y z : Int) {k : List (Str × Int) → Prop} {e : PErr → Prop} => @p_tried p x y z n A k e hn hA
  rw [eI] at tr
  rw [← hM] at tr
  obtain ⟨L, hL⟩ : ∃ L : Nat, (M : Int) - 1 = (L : Int) := ⟨M - 1, by omega⟩
  rw [hL]
  refine wFor_unit (fun far hf nx hx => wFor_unit (fun d _ nx hx => ?_) hx) ⟨⟨by decide, by decide, by decide⟩, wFor_unit (fun d hd nx hx => ?_) ⟨rg_ok (by omega), wFor_unit (fun d hd nx hx => ?_) h⟩⟩
  · have hfar : ¬ (0 ≤ far ∧ far < (M : Int)) := by
      simp only [List.mem_cons, List.not_mem_nil, or_false] at hf
      omega
    refine ⟨cpow1 (by omega), tr _ _ _ (fun a b i ea eb _ ha hb _ => by omega) (fun _ => p_got (Br_x rfl ?_)) (fun z => absurd z hfar) fun a b ea eb ha hb _ => by omega⟩
    refine tr _ _ _ (fun a b i ea eb _ ha hb _ => by omega) (fun z => by omega) (fun _ _ => p_got (Br_x rfl ?_)) fun a b ea eb ha hb _ => by omega
    exact tr _ _ _ (fun a b i ea eb _ ha hb _ => by omega) (fun _ => p_got (Br_x rfl hx)) (fun z => absurd z hfar) fun a b ea eb ha hb _ => by omega
  · have hdn : d < 0 ∨ (n : Int) ≤ d := by
      simp only [List.mem_cons, List.not_mem_nil, or_false] at hd
      rcases hd with z | z | z | z
      · omega
      · omega
      · omega
      · right
        rw [z]
        have : (10 : Int) ^ Int.toNat 30 = 1000000000000000000000000000000 := by decide
        omega
    exact tr _ _ _ (fun a b i ea eb ed ha hb hi => by have := bits_lt hi; omega) (fun z => by omega) (fun _ z => by omega) fun _ _ _ _ _ _ _ => p_got (Br_x rfl hx)
  · refine tr _ _ _ (fun a b i ea eb ed ha hb hi => ?_) (fun z => by omega) (fun z _ => by omega) fun _ _ _ _ _ _ _ => p_got (Br_x rfl hx)
    have : a = b := by omega
    subst this
    rw [Nat.xor_self] at hi
    have := (mem_bits.mp hi).2
    unfold bit at this
    rw [Nat.zero_shiftRight] at this
    exact absurd this (by decide)
theorem pure_law (ns : List Int) (hl : ns.length ≤ 63) : w_law ns (fun b => b = true) (fun _ => False) := by
  unfold w_law
  refine p_draws (by omega) hl (p_ulaw_prime fun p hp hp9 => ?_)
  have hp3 := (isP_nat hp).2
  have hpb : 3 ≤ p ∧ p ≤ 997 := ⟨hp3, hp9⟩
  have hpc : 0 < p ∧ p ≤ 997 := by omega
  refine p_next (by decide) fun n0 _ _ => ?_
  refine wJoin_o (fun n => 0 ≤ n ∧ n ≤ 6) (fun j hj => p_next (by decide) fun c _ _ => Br_p (fun _ => hj _ (by omega)) fun _ => hj _ (by omega)) fun n2 hn2 => ?_
  obtain ⟨n, rfl⟩ : ∃ a : Nat, n2 = (a : Int) := ⟨n2.toNat, by omega⟩
  have hn : n ≤ 6 := by omega
  obtain ⟨M, hM, m1, m2, eM⟩ := pow2 hn
  have C := cpow1 (i := (n : Int)) (by omega)
  refine p_next (by decide) fun odd o0 _ => p_any hpb hn hM fun A hA0 => wLet_i ⟨rg_ok (by omega), ?_⟩
  have hA := tb_of hM hA0
  rw [eM]
  refine wFor_rng (fun i R => (R.length : Int) ≤ i ∧ ∀ q : Int × Int, q ∈ R → ∃ a b : Nat, q = ((a : Int), (b : Int)) ∧ a < M ∧ b < M) (by omega) ⟨by decide, fun q hq => nomatch hq⟩ ?_ ?_
  · rintro i R nx i0 i1 ⟨hl, hR⟩ hn'
    refine ⟨C, p_next (by omega) fun x x0 x1 => ⟨C, p_next (by omega) fun y y0 y1 => ⟨lim_lt (by omega), wLet_i (hn' _ ⟨by rw [List.length_append]; simp; omega, fun q hq => ?_⟩)⟩⟩⟩
    rcases List.mem_append.mp hq with z | z
    · exact hR q z
    · have ex := Int.toNat_of_nonneg x0
      have ey := Int.toNat_of_nonneg y0
      exact ⟨x.toNat, y.toNat, by rw [List.mem_singleton.mp z, ex, ey], by omega, by omega⟩
  rintro R1 ⟨_, hR1⟩
  refine wJoin_o (fun R => ∀ q : Int × Int, q ∈ R → ∃ a b : Nat, q = ((a : Int), (b : Int)) ∧ a < M ∧ b < M) (fun j hj => ?_) fun R hR => ?_
  · refine Br_p (fun c => ⟨cmul_l (by omega), cpow1 (by omega), ?_⟩) fun _ => hj _ hR1
    have e2 : (1 : Int) * (2 : Int) ^ Int.toNat (2 * (n : Int)) = ((M * M : Nat) : Int) := by
      rw [Int.one_mul, show Int.toNat (2 * (n : Int)) = n + n by omega, Int.pow_add, hM, Int.natCast_mul, Int.natCast_pow]
      rfl
    rw [e2]
    have hMM : M * M ≤ 64 * 64 := Nat.mul_le_mul m2 m2
    refine ⟨rg_ok (by omega), lim_le (by omega), wComp_map (fun d => (d / (M : Int), d % (M : Int))) (fun d hd nx hx => ⟨C, ⟨by omega, by omega⟩, C, by omega, hx⟩) (hj _ fun q hq => ?_)⟩
    obtain ⟨d, hd, rfl⟩ := List.mem_map.mp hq
    have hd := mem_rangeL.mp hd
    have hM0 : (0 : Int) < M := by omega
    have d0 := Int.ediv_nonneg hd.1 (Int.le_of_lt hM0)
    have d1 : d / (M : Int) < M := Int.ediv_lt_of_lt_mul hM0 (by have := hd.2; rw [Int.natCast_mul] at this; exact this)
    have r0 := Int.emod_nonneg d (show (M : Int) ≠ 0 by omega)
    have r1 := Int.emod_lt_of_pos d hM0
    exact ⟨(d / (M : Int)).toNat, (d % (M : Int)).toNat, by rw [Int.toNat_of_nonneg d0, Int.toNat_of_nonneg r0], by omega, by omega⟩
  refine wFor_unit (fun q hq nx hx => ?_) (p_refused ⟨hp, hp9⟩ hn hA o0 (Br_x rfl ?_))
  · obtain ⟨a, b, rfl, ha, hb⟩ := hR q hq
    rw [hM] at ha hb
    exact p_pair_asked ⟨hp, hp9⟩ hn hA ha hb (fun z => by cases z) (Br_x rfl hx)
  clear hR
  rename_i r1len
  clear hR1 r1len R1 hA0 hA A eM C hM m1 m2 M hn hn2 n
  refine p_next (by decide) fun f0 f1 f2 => wLet_i ?_
  obtain ⟨n, en⟩ : ∃ n : Nat, 1 + f0 = (n : Int) := ⟨(1 + f0).toNat, by omega⟩
  rw [en]
  have hn : n ≤ 6 := by omega
  obtain ⟨M, hM, m1, m2, eM⟩ := pow2 hn
  have C := cpow1 (i := (n : Int)) (by omega)
  rw [eM]
  refine ⟨C, p_next (by omega) fun home h0 h1 => ⟨cmul_l (by omega), ⟨by decide, by decide⟩, ?_⟩⟩
  have hnn : (n : Int) * ((n : Int) - 1) ≤ 30 ∧ 0 ≤ (n : Int) * ((n : Int) - 1) := by
    have h5 : n = 1 ∨ n = 2 ∨ n = 3 ∨ n = 4 ∨ n = 5 := by omega
    rcases h5 with rfl | rfl | rfl | rfl | rfl <;> decide
  generalize hq : (n : Int) * ((n : Int) - 1) = q at hnn
  obtain ⟨home, rfl⟩ : ∃ a : Nat, home = (a : Int) := ⟨home.toNat, by omega⟩
  refine ⟨rg_ok (by omega), lim_le (by omega), wComp_all (fun y => 0 ≤ y ∧ y < p) (fun d _ nx hx => p_ulaw_residue hpc.1 fun y hy => hx y hy) fun links hl1 hl2 => ?_⟩
  rw [rangeL_len] at hl1
  refine p_next (by omega) fun w w0 w1 => wLet_i ?_
  refine p_form2 hpb hn hM (by omega) ⟨by omega, by omega⟩ (by rw [hq]; exact ⟨by omega, hl2⟩) fun B hB0 hBv => ?_
  have hB := tb_of hM hB0
  have hB1 := hB0.1
  refine ⟨C, rg_ok (by omega), lim_le (by omega), wComp_flt (fun d => !decide (ixG B d = 0)) (fun d hd nx y1 y2 => ?_) ?_⟩
  · have hd := mem_rangeL.mp hd
    exact ⟨inB_of (by omega) (by omega), Br_i y1 y2⟩
  have hx : ∀ x : Nat, x < 2 ^ n → av B x = (1 + w) * (pf (lnk n links) (x ^^^ home) % p) % p := fun x hx => hBv x (by omega)
  have hh : home < 2 ^ n := by omega
  generalize hF : (rangeL 0 (M : Int)).filter (fun d => !decide (ixG B d = 0)) = F
  have hFm : ∀ d, d ∈ F → ∃ a : Nat, d = (a : Int) ∧ a < 2 ^ n ∧ av B a ≠ 0 := fun d hd => by
    rw [← hF, List.mem_filter] at hd
    have hr := mem_rangeL.mp hd.1
    obtain ⟨a, rfl⟩ : ∃ a : Nat, d = (a : Int) := ⟨d.toNat, by omega⟩
    have ha : a < 2 ^ n := by omega
    refine ⟨a, rfl, ha, ?_⟩
    have z := hd.2
    rw [(tb_at hB ha).2.1] at z
    simpa using z
  have hF0 : 0 < F.length := by
    refine List.length_pos_of_mem (a := (home : Int)) ?_
    rw [← hF, List.mem_filter]
    refine ⟨mem_rangeL.mpr (by omega), ?_⟩
    rw [(tb_at hB hh).2.1, hx home hh, Nat.xor_self]
    have e0 : pf (lnk n links) 0 = 1 := by
      have z : bits 6 0 = [] := by decide
      unfold pf pfF
      rw [z]
    have e1 : (1 : Int) % p = 1 := Int.emod_eq_of_lt (by omega) (by omega)
    rw [e0, e1, Int.mul_one, Int.emod_eq_of_lt (by omega) (by omega)]
    simp only [Bool.not_eq_true', decide_eq_false_iff_not]
    omega
  have hFl : F.length ≤ 1000 := by
    rw [← hF]
    refine Nat.le_trans (List.length_filter_le _ _) ?_
    rw [rangeL_len]
    omega
  refine ⟨rg_ok (by omega), wFor_unit (fun d _ nx hx2 => ?_) ?_⟩
  · refine p_next (by omega) fun i i0 i1 => ⟨inB_of i0 (by omega), wLet_i (p_next (by omega) fun j j0 j1 => ⟨inB_of j0 (by omega), wLet_i ?_⟩)⟩
    obtain ⟨a, ea, ha, za⟩ := hFm _ (ixG_mem i0 (by omega))
    obtain ⟨b, eb, hb, zb⟩ := hFm _ (ixG_mem j0 (by omega))
    rw [ea, eb]
    exact p_pair_asked ⟨hp, hp9⟩ hn hB ha hb (fun _ i hi => told_ex hp (by omega) ⟨by omega, by omega⟩ hh hx ha hb za zb hi) (Br_x rfl hx2)
  · have hT : Tb p 2 ([1, 0, 0, p - 1] : List Int) := ⟨rfl, fun x hx => by
      simp only [List.mem_cons, List.not_mem_nil, or_false] at hx
      omega⟩
    refine p_pair_asked (n := 2) (a := 0) (b := 3) ⟨hp, hp9⟩ (by omega) hT (by decide) (by decide) (fun _ i hi => ?_) rfl
    have eb : bits 2 (0 ^^^ 3) = [0, 1] := by decide
    rw [eb] at hi
    have w0 : av ([1, 0, 0, p - 1] : List Int) 0 = 1 := rfl
    have w3 : av ([1, 0, 0, p - 1] : List Int) 3 = p - 1 := rfl
    have hx : ∀ i o : Nat, 1 <<< i ^^^ 1 <<< o = 3 → o ≠ i → hz ([1, 0, 0, p - 1] : List Int) 0 3 i o = true := fun i o z ne => by
      have z0 : (0 : Nat) ^^^ 3 = 3 := rfl
      have z3 : (3 : Nat) ^^^ 3 = 0 := rfl
      unfold hz
      rw [z, z0, z3, w0, w3, decide_eq_false ne, decide_eq_false (show ¬ p - 1 = 0 by omega)]
      rfl
    rcases List.mem_cons.mp hi with z | z
    · subst z
      exact List.ne_nil_of_mem (a := 1) (List.mem_filter.mpr ⟨by rw [eb]; simp, hx 0 1 (by decide) (by decide)⟩)
    · rw [List.mem_singleton.mp z]
      exact List.ne_nil_of_mem (a := 0) (List.mem_filter.mpr ⟨by rw [eb]; simp, hx 1 0 (by decide) (by decide)⟩)
end Lw
namespace Lw
open PySem PySem.Spec PyProof.Rows L2 EL Px
def topS (i : Nat) : Stmt := PySem.Challenge.pw_endsflat_k31_exchange_ends.main.body.getD i (.Pass ⟨0, 0, 0, 0⟩)
abbrev s_SizeError_init : Stmt := inClass (topS 3) 0
abbrev s_NumberError_init : Stmt := inClass (topS 4) 0
abbrev s_TwinError_init : Stmt := inClass (topS 5) 0
abbrev s_NodeError_init : Stmt := inClass (topS 6) 0
abbrev s_LegError_init : Stmt := inClass (topS 7) 0
abbrev s_PrimeError_init : Stmt := inClass (topS 8) 0
abbrev s_TextError_init : Stmt := inClass (topS 9) 0
abbrev s_check_number : Stmt := topS 12
abbrev s_is_odd_prime : Stmt := topS 13
abbrev s_look_number : Stmt := topS 15
abbrev s_look_list : Stmt := topS 16
abbrev s_look_prime : Stmt := topS 17
abbrev s_look_residue : Stmt := topS 19
abbrev s_look_residues : Stmt := topS 20
abbrev s_look_lot : Stmt := topS 21
abbrev s_bits_of : Stmt := topS 23
abbrev s_exchange_ends : Stmt := topS 25
abbrev s_Table_init : Stmt := inClass (topS 37) 0
abbrev s_ulaw_draws : Stmt := topS 42
abbrev s_ulaw_next : Stmt := topS 43
abbrev s_ulaw_prime : Stmt := topS 44
abbrev s_ulaw_residue : Stmt := topS 45
abbrev s_ulaw_pair_spot : Stmt := topS 46
abbrev s_ulaw_roots : Stmt := topS 47
abbrev s_ulaw_form_entries : Stmt := topS 48
abbrev s_ulaw_told : Stmt := topS 49
abbrev s_ulaw_any_cells : Stmt := topS 50
abbrev s_ulaw_whole : Stmt := topS 51
abbrev s_ulaw_got : Stmt := topS 52
abbrev s_ulaw_same : Stmt := topS 53
abbrev s_ulaw_names : Stmt := topS 54
abbrev s_ulaw_tried : Stmt := topS 55
abbrev s_ulaw_list_is : Stmt := topS 56
abbrev s_ulaw_partners : Stmt := topS 57
abbrev s_ulaw_pair_asked : Stmt := topS 58
abbrev s_ulaw_refused : Stmt := topS 59
abbrev s_law : Stmt := topS 60
theorem sc_SizeError_init : FnScope ["self", "count"] ["self", "count"] (defScope s_SizeError_init) := ⟨rfl, rfl, rfl, by decide +kernel, rfl, by decide +kernel, by decide +kernel⟩
theorem sc_NumberError_init : FnScope ["self", "number"] ["self", "number"] (defScope s_NumberError_init) := ⟨rfl, rfl, rfl, by decide +kernel, rfl, by decide +kernel, by decide +kernel⟩
theorem sc_TwinError_init : FnScope ["self", "number"] ["self", "number"] (defScope s_TwinError_init) := ⟨rfl, rfl, rfl, by decide +kernel, rfl, by decide +kernel, by decide +kernel⟩
theorem sc_NodeError_init : FnScope ["self", "node"] ["self", "node"] (defScope s_NodeError_init) := ⟨rfl, rfl, rfl, by decide +kernel, rfl, by decide +kernel, by decide +kernel⟩
theorem sc_LegError_init : FnScope ["self", "leg"] ["self", "leg"] (defScope s_LegError_init) := ⟨rfl, rfl, rfl, by decide +kernel, rfl, by decide +kernel, by decide +kernel⟩
theorem sc_PrimeError_init : FnScope ["self", "prime"] ["self", "prime"] (defScope s_PrimeError_init) := ⟨rfl, rfl, rfl, by decide +kernel, rfl, by decide +kernel, by decide +kernel⟩
theorem sc_TextError_init : FnScope ["self", "line"] ["self", "line"] (defScope s_TextError_init) := ⟨rfl, rfl, rfl, by decide +kernel, rfl, by decide +kernel, by decide +kernel⟩
theorem sc_check_number : FnScope ["number", "low", "high"] ["number", "low", "high"] (defScope s_check_number) := ⟨rfl, rfl, rfl, by decide +kernel, rfl, by decide +kernel, by decide +kernel⟩
theorem sc_is_odd_prime : FnScope ["number", "divisor"] ["number"] (defScope s_is_odd_prime) := ⟨rfl, rfl, rfl, by decide +kernel, rfl, by decide +kernel, by decide +kernel⟩
theorem sc_look_number : FnScope ["number", "low", "high"] ["number", "low", "high"] (defScope s_look_number) := ⟨rfl, rfl, rfl, by decide +kernel, rfl, by decide +kernel, by decide +kernel⟩
theorem sc_look_list : FnScope ["items", "low", "high"] ["items", "low", "high"] (defScope s_look_list) := ⟨rfl, rfl, rfl, by decide +kernel, rfl, by decide +kernel, by decide +kernel⟩
theorem sc_look_prime : FnScope ["prime"] ["prime"] (defScope s_look_prime) := ⟨rfl, rfl, rfl, by decide +kernel, rfl, by decide +kernel, by decide +kernel⟩
theorem sc_look_residue : FnScope ["prime", "number"] ["prime", "number"] (defScope s_look_residue) := ⟨rfl, rfl, rfl, by decide +kernel, rfl, by decide +kernel, by decide +kernel⟩
theorem sc_look_residues : FnScope ["prime", "items", "count", "number"] ["prime", "items", "count"] (defScope s_look_residues) := ⟨rfl, rfl, rfl, by decide +kernel, rfl, by decide +kernel, by decide +kernel⟩
theorem sc_look_lot : FnScope ["count", "lot"] ["count", "lot"] (defScope s_look_lot) := ⟨rfl, rfl, rfl, by decide +kernel, rfl, by decide +kernel, by decide +kernel⟩
theorem sc_bits_of : FnScope ["lot", "found", "left", "thing"] ["lot"] (defScope s_bits_of) := ⟨rfl, rfl, rfl, by decide +kernel, rfl, by decide +kernel, by decide +kernel⟩
theorem sc_exchange_ends : FnScope ["table", "first", "second", "end", "differing", "found", "other", "change"] ["table", "first", "second", "end"] (defScope s_exchange_ends) := ⟨rfl, rfl, rfl, by decide +kernel, rfl, by decide +kernel, by decide +kernel⟩
theorem sc_Table_init : FnScope ["self", "prime", "ends", "entries"] ["self", "prime", "ends", "entries"] (defScope s_Table_init) := ⟨rfl, rfl, rfl, by decide +kernel, rfl, by decide +kernel, by decide +kernel⟩
theorem sc_ulaw_draws : FnScope ["script", "count", "digits", "k", "cell", "step", "mixed", "seed"] ["script", "count"] (defScope s_ulaw_draws) := ⟨rfl, rfl, rfl, by decide +kernel, rfl, by decide +kernel, by decide +kernel⟩
theorem sc_ulaw_next : FnScope ["dr", "at", "many"] ["dr", "at", "many"] (defScope s_ulaw_next) := ⟨rfl, rfl, rfl, by decide +kernel, rfl, by decide +kernel, by decide +kernel⟩
theorem sc_ulaw_prime : FnScope ["dr", "at", "most", "step", "d"] ["dr", "at"] (defScope s_ulaw_prime) := ⟨rfl, rfl, rfl, by decide +kernel, rfl, by decide +kernel, by decide +kernel⟩
theorem sc_ulaw_residue : FnScope ["dr", "at", "p"] ["dr", "at", "p"] (defScope s_ulaw_residue) := ⟨rfl, rfl, rfl, by decide +kernel, rfl, by decide +kernel, by decide +kernel⟩
theorem sc_ulaw_pair_spot : FnScope ["n", "i", "j", "low"] ["n", "i", "j"] (defScope s_ulaw_pair_spot) := ⟨rfl, rfl, rfl, by decide +kernel, rfl, by decide +kernel, by decide +kernel⟩
theorem sc_ulaw_roots : FnScope ["p", "n", "links", "row", "mask", "own", "total", "k", "rest", "part", "i"] ["p", "n", "links"] (defScope s_ulaw_roots) := ⟨rfl, rfl, rfl, by decide +kernel, rfl, by decide +kernel, by decide +kernel⟩
theorem sc_ulaw_form_entries : FnScope ["p", "n", "home", "worth", "links", "roots", "mask"] ["p", "n", "home", "worth", "links"] (defScope s_ulaw_form_entries) := ⟨rfl, rfl, rfl, by decide +kernel, rfl, by decide +kernel, by decide +kernel⟩
theorem sc_ulaw_told : FnScope ["dr", "at", "p", "n", "home", "worth", "links", "k"] ["dr", "at", "p", "n"] (defScope s_ulaw_told) := ⟨rfl, rfl, rfl, by decide +kernel, rfl, by decide +kernel, by decide +kernel⟩
theorem sc_ulaw_any_cells : FnScope ["dr", "at", "p", "n", "kind", "cells", "spot", "by", "more", "k"] ["dr", "at", "p", "n"] (defScope s_ulaw_any_cells) := ⟨rfl, rfl, rfl, by decide +kernel, rfl, by decide +kernel, by decide +kernel⟩
theorem sc_ulaw_whole : FnScope ["x"] ["x"] (defScope s_ulaw_whole) := ⟨rfl, rfl, rfl, by decide +kernel, rfl, by decide +kernel, by decide +kernel⟩
theorem sc_ulaw_got : FnScope ["rows", "word", "number"] ["rows", "word", "number"] (defScope s_ulaw_got) := ⟨rfl, rfl, rfl, by decide +kernel, rfl, by decide +kernel, by decide +kernel⟩
theorem sc_ulaw_same : FnScope ["thing", "p", "n", "cells", "x"] ["thing", "p", "n", "cells"] (defScope s_ulaw_same) := ⟨rfl, rfl, rfl, by decide +kernel, rfl, by decide +kernel, by decide +kernel⟩
theorem sc_ulaw_names : FnScope ["e", "rows"] ["e"] (defScope s_ulaw_names) := ⟨rfl, rfl, rfl, by decide +kernel, rfl, by decide +kernel, by decide +kernel⟩
theorem sc_ulaw_tried : FnScope ["sheet", "one", "two", "i", "answer", "e"] ["sheet", "one", "two", "i"] (defScope s_ulaw_tried) := ⟨rfl, rfl, rfl, by decide +kernel, rfl, by decide +kernel, by decide +kernel⟩
theorem sc_ulaw_list_is : FnScope ["answer", "due", "x"] ["answer", "due"] (defScope s_ulaw_list_is) := ⟨rfl, rfl, rfl, by decide +kernel, rfl, by decide +kernel, by decide +kernel⟩
theorem sc_ulaw_partners : FnScope ["n", "a", "one", "two", "i", "rows", "j", "near"] ["n", "a", "one", "two", "i"] (defScope s_ulaw_partners) := ⟨rfl, rfl, rfl, by decide +kernel, rfl, by decide +kernel, by decide +kernel⟩
theorem sc_ulaw_pair_asked : FnScope ["p", "n", "a", "one", "two", "filled", "sheet", "i", "due", "answer"] ["p", "n", "a", "one", "two", "filled"] (defScope s_ulaw_pair_asked) := ⟨rfl, rfl, rfl, by decide +kernel, rfl, by decide +kernel, by decide +kernel⟩
theorem sc_ulaw_refused : FnScope ["p", "n", "a", "odd", "sheet", "last", "far", "i"] ["p", "n", "a", "odd"] (defScope s_ulaw_refused) := ⟨rfl, rfl, rfl, by decide +kernel, rfl, by decide +kernel, by decide +kernel⟩
theorem sc_law : FnScope ["script", "dr", "at", "p", "n", "odd", "a", "rows", "step", "one", "two", "few", "home", "links", "worth", "b", "filled", "x", "k"] ["script"] (defScope s_law) := ⟨rfl, rfl, rfl, by decide +kernel, rfl, by decide +kernel, by decide +kernel⟩
def gk_exchange_ends_0_table_first_second_end {α : Type} (us ws : List α) : List α := match us, ws with
  | [], [w0, w1, w2, w3] => [w0, w1, w2, w3]
  | _, _ => []
structure Tab where
  a_SizeError_init : Addr
  fd_SizeError_init : FuncData
  a_NumberError_init : Addr
  fd_NumberError_init : FuncData
  a_TwinError_init : Addr
  fd_TwinError_init : FuncData
  a_NodeError_init : Addr
  fd_NodeError_init : FuncData
  a_LegError_init : Addr
  fd_LegError_init : FuncData
  a_PrimeError_init : Addr
  fd_PrimeError_init : FuncData
  a_TextError_init : Addr
  fd_TextError_init : FuncData
  a_check_number : Addr
  fd_check_number : FuncData
  a_is_odd_prime : Addr
  fd_is_odd_prime : FuncData
  a_look_number : Addr
  fd_look_number : FuncData
  a_look_list : Addr
  fd_look_list : FuncData
  a_look_prime : Addr
  fd_look_prime : FuncData
  a_look_residue : Addr
  fd_look_residue : FuncData
  a_look_residues : Addr
  fd_look_residues : FuncData
  a_look_lot : Addr
  fd_look_lot : FuncData
  a_bits_of : Addr
  fd_bits_of : FuncData
  a_exchange_ends : Addr
  fd_exchange_ends : FuncData
  a_Table_init : Addr
  fd_Table_init : FuncData
  a_ulaw_draws : Addr
  fd_ulaw_draws : FuncData
  a_ulaw_next : Addr
  fd_ulaw_next : FuncData
  a_ulaw_prime : Addr
  fd_ulaw_prime : FuncData
  a_ulaw_residue : Addr
  fd_ulaw_residue : FuncData
  a_ulaw_pair_spot : Addr
  fd_ulaw_pair_spot : FuncData
  a_ulaw_roots : Addr
  fd_ulaw_roots : FuncData
  a_ulaw_form_entries : Addr
  fd_ulaw_form_entries : FuncData
  a_ulaw_told : Addr
  fd_ulaw_told : FuncData
  a_ulaw_any_cells : Addr
  fd_ulaw_any_cells : FuncData
  a_ulaw_whole : Addr
  fd_ulaw_whole : FuncData
  a_ulaw_got : Addr
  fd_ulaw_got : FuncData
  a_ulaw_same : Addr
  fd_ulaw_same : FuncData
  a_ulaw_names : Addr
  fd_ulaw_names : FuncData
  a_ulaw_tried : Addr
  fd_ulaw_tried : FuncData
  a_ulaw_list_is : Addr
  fd_ulaw_list_is : FuncData
  a_ulaw_partners : Addr
  fd_ulaw_partners : FuncData
  a_ulaw_pair_asked : Addr
  fd_ulaw_pair_asked : FuncData
  a_ulaw_refused : Addr
  fd_ulaw_refused : FuncData
  a_law : Addr
  fd_law : FuncData
  c_EndsError : Addr
  c_SizeError : Addr
  c_NumberError : Addr
  c_TwinError : Addr
  c_NodeError : Addr
  c_LegError : Addr
  c_PrimeError : Addr
  c_TextError : Addr
  c_Table : Addr
  k_MOST : Tok
  k_MOST_ENDS : Tok
structure Txt (K : PySem.W.Frag) (mg : Str → Option Value) (t : Tab) : Prop where
  F_SizeError_init : Fun K "__init__" "SizeError.__init__" s_SizeError_init t.a_SizeError_init t.fd_SizeError_init
  b_SizeError_init : Binds K t.fd_SizeError_init ["self", "count"] []
  F_NumberError_init : Fun K "__init__" "NumberError.__init__" s_NumberError_init t.a_NumberError_init t.fd_NumberError_init
  b_NumberError_init : Binds K t.fd_NumberError_init ["self", "number"] []
  F_TwinError_init : Fun K "__init__" "TwinError.__init__" s_TwinError_init t.a_TwinError_init t.fd_TwinError_init
  b_TwinError_init : Binds K t.fd_TwinError_init ["self", "number"] []
  F_NodeError_init : Fun K "__init__" "NodeError.__init__" s_NodeError_init t.a_NodeError_init t.fd_NodeError_init
  b_NodeError_init : Binds K t.fd_NodeError_init ["self", "node"] []
  F_LegError_init : Fun K "__init__" "LegError.__init__" s_LegError_init t.a_LegError_init t.fd_LegError_init
  b_LegError_init : Binds K t.fd_LegError_init ["self", "leg"] []
  F_PrimeError_init : Fun K "__init__" "PrimeError.__init__" s_PrimeError_init t.a_PrimeError_init t.fd_PrimeError_init
  b_PrimeError_init : Binds K t.fd_PrimeError_init ["self", "prime"] []
  F_TextError_init : Fun K "__init__" "TextError.__init__" s_TextError_init t.a_TextError_init t.fd_TextError_init
  b_TextError_init : Binds K t.fd_TextError_init ["self", "line"] []
  g_check_number : mg "check_number" = some (.ref t.a_check_number)
  F_check_number : Fun K "check_number" "check_number" s_check_number t.a_check_number t.fd_check_number
  b_check_number : Binds K t.fd_check_number ["number", "low", "high"] []
  g_is_odd_prime : mg "is_odd_prime" = some (.ref t.a_is_odd_prime)
  F_is_odd_prime : Fun K "is_odd_prime" "is_odd_prime" s_is_odd_prime t.a_is_odd_prime t.fd_is_odd_prime
  b_is_odd_prime : Binds K t.fd_is_odd_prime ["number"] []
  g_look_number : mg "look_number" = some (.ref t.a_look_number)
  F_look_number : Fun K "look_number" "look_number" s_look_number t.a_look_number t.fd_look_number
  b_look_number : Binds K t.fd_look_number ["number", "low", "high"] []
  g_look_list : mg "look_list" = some (.ref t.a_look_list)
  F_look_list : Fun K "look_list" "look_list" s_look_list t.a_look_list t.fd_look_list
  b_look_list : Binds K t.fd_look_list ["items", "low", "high"] []
  g_look_prime : mg "look_prime" = some (.ref t.a_look_prime)
  F_look_prime : Fun K "look_prime" "look_prime" s_look_prime t.a_look_prime t.fd_look_prime
  b_look_prime : Binds K t.fd_look_prime ["prime"] []
  g_look_residue : mg "look_residue" = some (.ref t.a_look_residue)
  F_look_residue : Fun K "look_residue" "look_residue" s_look_residue t.a_look_residue t.fd_look_residue
  b_look_residue : Binds K t.fd_look_residue ["prime", "number"] []
  g_look_residues : mg "look_residues" = some (.ref t.a_look_residues)
  F_look_residues : Fun K "look_residues" "look_residues" s_look_residues t.a_look_residues t.fd_look_residues
  b_look_residues : Binds K t.fd_look_residues ["prime", "items", "count"] []
  g_look_lot : mg "look_lot" = some (.ref t.a_look_lot)
  F_look_lot : Fun K "look_lot" "look_lot" s_look_lot t.a_look_lot t.fd_look_lot
  b_look_lot : Binds K t.fd_look_lot ["count", "lot"] []
  g_bits_of : mg "bits_of" = some (.ref t.a_bits_of)
  F_bits_of : Fun K "bits_of" "bits_of" s_bits_of t.a_bits_of t.fd_bits_of
  b_bits_of : Binds K t.fd_bits_of ["lot"] []
  g_exchange_ends : mg "exchange_ends" = some (.ref t.a_exchange_ends)
  F_exchange_ends : Fun K "exchange_ends" "exchange_ends" s_exchange_ends t.a_exchange_ends t.fd_exchange_ends
  b_exchange_ends : Binds K t.fd_exchange_ends ["table", "first", "second", "end"] []
  F_Table_init : Fun K "__init__" "Table.__init__" s_Table_init t.a_Table_init t.fd_Table_init
  b_Table_init : Binds K t.fd_Table_init ["self", "prime", "ends", "entries"] []
  g_ulaw_draws : mg "_law_draws" = some (.ref t.a_ulaw_draws)
  F_ulaw_draws : Fun K "_law_draws" "_law_draws" s_ulaw_draws t.a_ulaw_draws t.fd_ulaw_draws
  b_ulaw_draws : Binds K t.fd_ulaw_draws ["script", "count"] []
  g_ulaw_next : mg "_law_next" = some (.ref t.a_ulaw_next)
  F_ulaw_next : Fun K "_law_next" "_law_next" s_ulaw_next t.a_ulaw_next t.fd_ulaw_next
  b_ulaw_next : Binds K t.fd_ulaw_next ["dr", "at", "many"] []
  g_ulaw_prime : mg "_law_prime" = some (.ref t.a_ulaw_prime)
  F_ulaw_prime : Fun K "_law_prime" "_law_prime" s_ulaw_prime t.a_ulaw_prime t.fd_ulaw_prime
  b_ulaw_prime : Binds K t.fd_ulaw_prime ["dr", "at"] []
  g_ulaw_residue : mg "_law_residue" = some (.ref t.a_ulaw_residue)
  F_ulaw_residue : Fun K "_law_residue" "_law_residue" s_ulaw_residue t.a_ulaw_residue t.fd_ulaw_residue
  b_ulaw_residue : Binds K t.fd_ulaw_residue ["dr", "at", "p"] []
  g_ulaw_pair_spot : mg "_law_pair_spot" = some (.ref t.a_ulaw_pair_spot)
  F_ulaw_pair_spot : Fun K "_law_pair_spot" "_law_pair_spot" s_ulaw_pair_spot t.a_ulaw_pair_spot t.fd_ulaw_pair_spot
  b_ulaw_pair_spot : Binds K t.fd_ulaw_pair_spot ["n", "i", "j"] []
  g_ulaw_roots : mg "_law_roots" = some (.ref t.a_ulaw_roots)
  F_ulaw_roots : Fun K "_law_roots" "_law_roots" s_ulaw_roots t.a_ulaw_roots t.fd_ulaw_roots
  b_ulaw_roots : Binds K t.fd_ulaw_roots ["p", "n", "links"] []
  g_ulaw_form_entries : mg "_law_form_entries" = some (.ref t.a_ulaw_form_entries)
  F_ulaw_form_entries : Fun K "_law_form_entries" "_law_form_entries" s_ulaw_form_entries t.a_ulaw_form_entries t.fd_ulaw_form_entries
  b_ulaw_form_entries : Binds K t.fd_ulaw_form_entries ["p", "n", "home", "worth", "links"] []
  g_ulaw_told : mg "_law_told" = some (.ref t.a_ulaw_told)
  F_ulaw_told : Fun K "_law_told" "_law_told" s_ulaw_told t.a_ulaw_told t.fd_ulaw_told
  b_ulaw_told : Binds K t.fd_ulaw_told ["dr", "at", "p", "n"] []
  g_ulaw_any_cells : mg "_law_any_cells" = some (.ref t.a_ulaw_any_cells)
  F_ulaw_any_cells : Fun K "_law_any_cells" "_law_any_cells" s_ulaw_any_cells t.a_ulaw_any_cells t.fd_ulaw_any_cells
  b_ulaw_any_cells : Binds K t.fd_ulaw_any_cells ["dr", "at", "p", "n"] []
  g_ulaw_whole : mg "_law_whole" = some (.ref t.a_ulaw_whole)
  F_ulaw_whole : Fun K "_law_whole" "_law_whole" s_ulaw_whole t.a_ulaw_whole t.fd_ulaw_whole
  b_ulaw_whole : Binds K t.fd_ulaw_whole ["x"] []
  g_ulaw_got : mg "_law_got" = some (.ref t.a_ulaw_got)
  F_ulaw_got : Fun K "_law_got" "_law_got" s_ulaw_got t.a_ulaw_got t.fd_ulaw_got
  b_ulaw_got : Binds K t.fd_ulaw_got ["rows", "word", "number"] []
  g_ulaw_same : mg "_law_same" = some (.ref t.a_ulaw_same)
  F_ulaw_same : Fun K "_law_same" "_law_same" s_ulaw_same t.a_ulaw_same t.fd_ulaw_same
  b_ulaw_same : Binds K t.fd_ulaw_same ["thing", "p", "n", "cells"] []
  g_ulaw_names : mg "_law_names" = some (.ref t.a_ulaw_names)
  F_ulaw_names : Fun K "_law_names" "_law_names" s_ulaw_names t.a_ulaw_names t.fd_ulaw_names
  b_ulaw_names : Binds K t.fd_ulaw_names ["e"] []
  g_ulaw_tried : mg "_law_tried" = some (.ref t.a_ulaw_tried)
  F_ulaw_tried : Fun K "_law_tried" "_law_tried" s_ulaw_tried t.a_ulaw_tried t.fd_ulaw_tried
  b_ulaw_tried : Binds K t.fd_ulaw_tried ["sheet", "one", "two", "i"] []
  g_ulaw_list_is : mg "_law_list_is" = some (.ref t.a_ulaw_list_is)
  F_ulaw_list_is : Fun K "_law_list_is" "_law_list_is" s_ulaw_list_is t.a_ulaw_list_is t.fd_ulaw_list_is
  b_ulaw_list_is : Binds K t.fd_ulaw_list_is ["answer", "due"] []
  g_ulaw_partners : mg "_law_partners" = some (.ref t.a_ulaw_partners)
  F_ulaw_partners : Fun K "_law_partners" "_law_partners" s_ulaw_partners t.a_ulaw_partners t.fd_ulaw_partners
  b_ulaw_partners : Binds K t.fd_ulaw_partners ["n", "a", "one", "two", "i"] []
  g_ulaw_pair_asked : mg "_law_pair_asked" = some (.ref t.a_ulaw_pair_asked)
  F_ulaw_pair_asked : Fun K "_law_pair_asked" "_law_pair_asked" s_ulaw_pair_asked t.a_ulaw_pair_asked t.fd_ulaw_pair_asked
  b_ulaw_pair_asked : Binds K t.fd_ulaw_pair_asked ["p", "n", "a", "one", "two", "filled"] []
  g_ulaw_refused : mg "_law_refused" = some (.ref t.a_ulaw_refused)
  F_ulaw_refused : Fun K "_law_refused" "_law_refused" s_ulaw_refused t.a_ulaw_refused t.fd_ulaw_refused
  b_ulaw_refused : Binds K t.fd_ulaw_refused ["p", "n", "a", "odd"] []
  g_law : mg "law" = some (.ref t.a_law)
  F_law : Fun K "law" "law" s_law t.a_law t.fd_law
  b_law : Binds K t.fd_law ["script"] []
  g_EndsError : mg "EndsError" = some (.ref t.c_EndsError)
  X_EndsError : XCls K t.c_EndsError
  x_EndsError : XOwn K t.c_EndsError
  g_SizeError : mg "SizeError" = some (.ref t.c_SizeError)
  X_SizeError : XCls K t.c_SizeError
  x_SizeError : OexC K t.c_SizeError
  xi_SizeError : PySem.W.findIn K (.ref t.c_SizeError) "__init__" = some (some (.ref t.a_SizeError_init))
  xt_SizeError : PySem.W.typeIn K (.ref t.a_SizeError_init) = some (.type "function")
  xn_SizeError_count : PySem.W.findIn K (.ref t.c_SizeError) "count" = some none
  g_NumberError : mg "NumberError" = some (.ref t.c_NumberError)
  X_NumberError : XCls K t.c_NumberError
  x_NumberError : OexC K t.c_NumberError
  xi_NumberError : PySem.W.findIn K (.ref t.c_NumberError) "__init__" = some (some (.ref t.a_NumberError_init))
  xt_NumberError : PySem.W.typeIn K (.ref t.a_NumberError_init) = some (.type "function")
  xn_NumberError_number : PySem.W.findIn K (.ref t.c_NumberError) "number" = some none
  g_TwinError : mg "TwinError" = some (.ref t.c_TwinError)
  X_TwinError : XCls K t.c_TwinError
  x_TwinError : OexC K t.c_TwinError
  xi_TwinError : PySem.W.findIn K (.ref t.c_TwinError) "__init__" = some (some (.ref t.a_TwinError_init))
  xt_TwinError : PySem.W.typeIn K (.ref t.a_TwinError_init) = some (.type "function")
  xn_TwinError_number : PySem.W.findIn K (.ref t.c_TwinError) "number" = some none
  g_NodeError : mg "NodeError" = some (.ref t.c_NodeError)
  X_NodeError : XCls K t.c_NodeError
  x_NodeError : OexC K t.c_NodeError
  xi_NodeError : PySem.W.findIn K (.ref t.c_NodeError) "__init__" = some (some (.ref t.a_NodeError_init))
  xt_NodeError : PySem.W.typeIn K (.ref t.a_NodeError_init) = some (.type "function")
  xn_NodeError_node : PySem.W.findIn K (.ref t.c_NodeError) "node" = some none
  g_LegError : mg "LegError" = some (.ref t.c_LegError)
  X_LegError : XCls K t.c_LegError
  x_LegError : OexC K t.c_LegError
  xi_LegError : PySem.W.findIn K (.ref t.c_LegError) "__init__" = some (some (.ref t.a_LegError_init))
  xt_LegError : PySem.W.typeIn K (.ref t.a_LegError_init) = some (.type "function")
  xn_LegError_leg : PySem.W.findIn K (.ref t.c_LegError) "leg" = some none
  g_PrimeError : mg "PrimeError" = some (.ref t.c_PrimeError)
  X_PrimeError : XCls K t.c_PrimeError
  x_PrimeError : OexC K t.c_PrimeError
  xi_PrimeError : PySem.W.findIn K (.ref t.c_PrimeError) "__init__" = some (some (.ref t.a_PrimeError_init))
  xt_PrimeError : PySem.W.typeIn K (.ref t.a_PrimeError_init) = some (.type "function")
  xn_PrimeError_prime : PySem.W.findIn K (.ref t.c_PrimeError) "prime" = some none
  g_TextError : mg "TextError" = some (.ref t.c_TextError)
  X_TextError : XCls K t.c_TextError
  x_TextError : OexC K t.c_TextError
  xi_TextError : PySem.W.findIn K (.ref t.c_TextError) "__init__" = some (some (.ref t.a_TextError_init))
  xt_TextError : PySem.W.typeIn K (.ref t.a_TextError_init) = some (.type "function")
  xn_TextError_line : PySem.W.findIn K (.ref t.c_TextError) "line" = some none
  g_Table : mg "Table" = some (.ref t.c_Table)
  own_Table : OwnC K t.c_Table
  mk_Table : L2.Mk K t.c_Table t.a_Table_init
  na_Table_prime : NoAttr K t.c_Table "prime"
  na_Table_ends : NoAttr K t.c_Table "ends"
  na_Table_entries : NoAttr K t.c_Table "entries"
  g_MOST : mg "MOST" = some (.int 997 t.k_MOST)
  g_MOST_ENDS : mg "MOST_ENDS" = some (.int 6 t.k_MOST_ENDS)
  n_ValueError : mg "ValueError" = none
  n_all : mg "all" = none
  n_bool : mg "bool" = none
  n_int : mg "int" = none
  n_isinstance : mg "isinstance" = none
  n_len : mg "len" = none
  n_list : mg "list" = none
  n_max : mg "max" = none
  n_min : mg "min" = none
  n_range : mg "range" = none
  n_sum : mg "sum" = none
  n_tuple : mg "tuple" = none
  kt_NumberError_NumberError : PySem.W.kitOne K (.ref t.c_NumberError) (.ref t.c_NumberError) = some true
  kt_NumberError_SizeError : PySem.W.kitOne K (.ref t.c_NumberError) (.ref t.c_SizeError) = some false
  kt_NumberError_PrimeError : PySem.W.kitOne K (.ref t.c_NumberError) (.ref t.c_PrimeError) = some false
  kt_NumberError_TwinError : PySem.W.kitOne K (.ref t.c_NumberError) (.ref t.c_TwinError) = some false
  kt_NumberError_LegError : PySem.W.kitOne K (.ref t.c_NumberError) (.ref t.c_LegError) = some false
  kt_NumberError_NodeError : PySem.W.kitOne K (.ref t.c_NumberError) (.ref t.c_NodeError) = some false
  kt_NumberError_ValueError : PySem.W.kitOne K (.ref t.c_NumberError) (.type "ValueError") = some true
  em_EndsError_EndsError : PySem.W.exmOne K (.ref t.c_EndsError) (.ref t.c_EndsError) = some true
  em_SizeError_EndsError : PySem.W.exmOne K (.ref t.c_SizeError) (.ref t.c_EndsError) = some true
  em_NumberError_EndsError : PySem.W.exmOne K (.ref t.c_NumberError) (.ref t.c_EndsError) = some true
  em_TwinError_EndsError : PySem.W.exmOne K (.ref t.c_TwinError) (.ref t.c_EndsError) = some true
  em_NodeError_EndsError : PySem.W.exmOne K (.ref t.c_NodeError) (.ref t.c_EndsError) = some true
  em_LegError_EndsError : PySem.W.exmOne K (.ref t.c_LegError) (.ref t.c_EndsError) = some true
  em_PrimeError_EndsError : PySem.W.exmOne K (.ref t.c_PrimeError) (.ref t.c_EndsError) = some true
  em_TextError_EndsError : PySem.W.exmOne K (.ref t.c_TextError) (.ref t.c_EndsError) = some true
  kb_exchange_ends_0_table_first_second_end : KBinds K t.fd_exchange_ends ["table", "first", "second", "end"] ["table", "first", "second", "end"] gk_exchange_ends_0_table_first_second_end gk_exchange_ends_0_table_first_second_end
def Tab.cl (t : Tab) : Nat → Addr
  | 1 => t.c_SizeError
  | 2 => t.c_NumberError
  | 3 => t.c_TwinError
  | 4 => t.c_NodeError
  | 6 => t.c_LegError
  | 8 => t.c_PrimeError
  | 35 => t.c_TextError
  | _ => t.c_EndsError
-- heap facts
local macro_rules | `(tactic| walk_at "hp") => `(tactic| first
  | assumption
  | with_reducible apply L2.Same.refl
  | ((with_reducible apply L2.SqL.of); assumption)
  | ((with_reducible apply L2.SqT.of); assumption)
  | ((with_reducible apply L2.Same.seq); assumption; walk_at "hp")
  | ((with_reducible apply L2.Same.seqT); assumption; walk_at "hp")
  | ((with_reducible apply L2.Same.dp); assumption; walk_at "hp")
  | ((with_reducible apply L2.Same.dpAll); assumption; walk_at "hp")
  | ((with_reducible apply L2.Same.draw); assumption; walk_at "hp")
  | ((with_reducible apply strans); assumption; walk_at "hp")
  | ((with_reducible apply same_at); assumption; walk_at "hp"))
local macro_rules | `(tactic| walk_at "side") => `(tactic| first | assumption | omega | decide | exact ⟨by omega, by omega⟩ | exact .inl ⟨by omega, by omega⟩ | exact .inr ⟨by omega, by omega⟩ | exact Nat.le_of_ble_eq_true rfl)
local macro_rules | `(tactic| walk_at "rd1") => `(tactic| first
  | with_reducible refine tSeq_i ?_
  | ((with_reducible refine' tVar_i ?h1 ?_); (case h1 => exact rfl))
  | with_reducible refine tOp_i ?_
  | with_reducible refine tC_i ?_
  | with_reducible refine tTest_i ?_
  | with_reducible refine IsBl_i ?_
  | with_reducible refine tIfS_i ?_
  | with_reducible refine tAsg_i ?_
  | with_reducible refine gName_i ?_
  | with_reducible refine rI0_i ?_
  | with_reducible refine rAddU_i ?_
  | with_reducible refine rEqU_i ?_
  | with_reducible refine rNeU_i ?_
  | ((with_reducible refine rMulU_i ?h1 ?_); (case h1 => walk_at "side"))
  | ((with_reducible refine rModP_i ?h1 ?_); (case h1 => walk_at "side"))
  | ((with_reducible refine rDivP_i ?h1 ?_); (case h1 => walk_at "side"))
  | with_reducible refine tDrop_i ?_
  | with_reducible refine tCallS_i ?_
  | with_reducible refine tCons_i ?_
  | with_reducible refine tNil_i ?_
  | with_reducible refine tRet_i ?_
  | with_reducible refine tNext_i ?_
  | with_reducible refine tOr_i ?_
  | with_reducible refine tAnd_i ?_
  | with_reducible refine tNot_i ?_
  | with_reducible refine Br_t ?_
  | with_reducible refine Br_f ?_
  | with_reducible refine Br_nt ?_
  | with_reducible refine Br_nf ?_
  | with_reducible refine Br_n ?_
  | with_reducible refine tCall_i ?_
  | with_reducible refine tCallK_i ?_
  | with_reducible refine tCallE_i ?_
  | with_reducible refine rEqU_b ?_
  | with_reducible refine rNeU_b ?_
  | with_reducible refine tCB_i ?_
  | with_reducible refine rInt1_i ?_
  | with_reducible refine tTup_i ?_
  | with_reducible refine tLst_i ?_
  | ((with_reducible refine new_i ?h1 ?_); (case h1 => walk_at "side"); intro _ _ _ _ _)
  | with_reducible refine tPar_i ?_
  | with_reducible refine Par2_i ?_
  | with_reducible refine tUn_i ?_
  | with_reducible refine rU_i ?_
  | ((with_reducible refine rI_i ?h1 ?_); (case h1 => walk_at "side"))
  | with_reducible refine tTruth_i ?_
  | with_reducible refine Tru_b ?_
  | with_reducible refine Tru_n ?_
  | with_reducible refine tIf_i ?_
  | with_reducible refine tAndV_i ?_
  | with_reducible refine tOrV_i ?_
  | with_reducible refine tNotV_i ?_
  | with_reducible refine tRetN_i ?_
  | with_reducible refine tBreak_i ?_
  | with_reducible refine tCont_i ?_
  | with_reducible refine tChain_i ?_
  | with_reducible refine rEqU_s ?_
  | with_reducible refine rNeU_s ?_
  | with_reducible refine rMin2_i ?_
  | with_reducible refine rMax2_i ?_
  | with_reducible refine rAbs_i ?_
  | with_reducible refine rIsN_i ?_
  | with_reducible refine rNotN_i ?_
  | ((with_reducible refine' rLen_l ?h1 ?_); (case h1 => walk_at "hp"))
  | ((with_reducible refine' rLen_t ?h1 ?_); (case h1 => walk_at "hp"))
  | ((with_reducible refine' rIxU_l ?h1 ?h2 ?_); (case h1 => walk_at "hp"); (case h2 => first | exact rfl | assumption))
  | ((with_reducible refine' rIxU_t ?h1 ?h2 ?_); (case h1 => walk_at "hp"); (case h2 => first | exact rfl | assumption))
  | with_reducible refine tBM_i ?_
  | ((with_reducible refine' tyL ?h1 ?_); (case h1 => walk_at "hp"))
  | with_reducible refine runS_cons ?_
  | with_reducible refine runS_nil ?_
  | ((with_reducible refine run_next ?h1 ?_); (case h1 => walk_at "hp"))
  | with_reducible refine tYes_i ?_
  | ((with_reducible refine wipe_i ?h1 ?_); (case h1 => exact rfl))
  | ((with_reducible refine' gTup_i ?h1 ?h2 ?_); (case h1 => walk_at "hp"); (case h2 => exact rfl))
  | with_reducible refine gCons_i ?_
  | with_reducible refine gNil_i ?_
  | with_reducible refine gSub_i ?_
  | with_reducible refine tXF_i ?_
  | ((with_reducible refine tCell_i ?_); intro _ _ _ _ _)
  | with_reducible refine tLstRg1_i ?_
  | with_reducible refine tSl_i ?_
  | with_reducible refine tNoPart_i ?_
  | with_reducible refine tPart_i ?_
  | with_reducible refine PartI_i ?_
  )
local macro_rules | `(tactic| walk_at "rd") => `(tactic| repeat walk_at "rd1")
local macro_rules | `(tactic| walk_at "br") => `(tactic| (refine Br_d (fun _ => ?_) (fun _ => ?_) <;> first | (exfalso; omega) | walk_at "rd"))

section
variable {P : Program} {w : World} {K : PySem.W.Frag} {mg : Str → Option Value} {base : Heap} {t : Tab}
def sp_SizeError_init (K : PySem.W.Frag) (t : Tab) : Sp := spI1 "count" K
theorem len_SizeError_init : ∀ vs H Q E, sp_SizeError_init K t vs H Q E → vs.length = ["self", "count"].length := fun _ _ _ _ h => spI1_len h
theorem ok_SizeError_init (T : Txt K mg t) : FnOk P w K mg base (L2.CX P w) 1 t.a_SizeError_init t.fd_SizeError_init ["self", "count"] (sp_SizeError_init K t) := by
  refine T.F_SizeError_init.okX sc_SizeError_init (len_SizeError_init) (fun cdv A outer s H vs Q E hr h => ?_)
  have nd := sc_SizeError_init.nd
  refine ⟨_, (pss_one (ps_ost (pv 0) (pv 1))), ?_⟩
  exact spI1_body h
def sp_NumberError_init (K : PySem.W.Frag) (t : Tab) : Sp := spI1 "number" K
theorem len_NumberError_init : ∀ vs H Q E, sp_NumberError_init K t vs H Q E → vs.length = ["self", "number"].length := fun _ _ _ _ h => spI1_len h
theorem ok_NumberError_init (T : Txt K mg t) : FnOk P w K mg base (L2.CX P w) 1 t.a_NumberError_init t.fd_NumberError_init ["self", "number"] (sp_NumberError_init K t) := by
  refine T.F_NumberError_init.okX sc_NumberError_init (len_NumberError_init) (fun cdv A outer s H vs Q E hr h => ?_)
  have nd := sc_NumberError_init.nd
  refine ⟨_, (pss_one (ps_ost (pv 0) (pv 1))), ?_⟩
  exact spI1_body h
def sp_TwinError_init (K : PySem.W.Frag) (t : Tab) : Sp := spI1 "number" K
theorem len_TwinError_init : ∀ vs H Q E, sp_TwinError_init K t vs H Q E → vs.length = ["self", "number"].length := fun _ _ _ _ h => spI1_len h
theorem ok_TwinError_init (T : Txt K mg t) : FnOk P w K mg base (L2.CX P w) 1 t.a_TwinError_init t.fd_TwinError_init ["self", "number"] (sp_TwinError_init K t) := by
  refine T.F_TwinError_init.okX sc_TwinError_init (len_TwinError_init) (fun cdv A outer s H vs Q E hr h => ?_)
  have nd := sc_TwinError_init.nd
  refine ⟨_, (pss_one (ps_ost (pv 0) (pv 1))), ?_⟩
  exact spI1_body h
def sp_NodeError_init (K : PySem.W.Frag) (t : Tab) : Sp := spI1 "node" K
theorem len_NodeError_init : ∀ vs H Q E, sp_NodeError_init K t vs H Q E → vs.length = ["self", "node"].length := fun _ _ _ _ h => spI1_len h
theorem ok_NodeError_init (T : Txt K mg t) : FnOk P w K mg base (L2.CX P w) 1 t.a_NodeError_init t.fd_NodeError_init ["self", "node"] (sp_NodeError_init K t) := by
  refine T.F_NodeError_init.okX sc_NodeError_init (len_NodeError_init) (fun cdv A outer s H vs Q E hr h => ?_)
  have nd := sc_NodeError_init.nd
  refine ⟨_, (pss_one (ps_ost (pv 0) (pv 1))), ?_⟩
  exact spI1_body h
def sp_LegError_init (K : PySem.W.Frag) (t : Tab) : Sp := spI1 "leg" K
theorem len_LegError_init : ∀ vs H Q E, sp_LegError_init K t vs H Q E → vs.length = ["self", "leg"].length := fun _ _ _ _ h => spI1_len h
theorem ok_LegError_init (T : Txt K mg t) : FnOk P w K mg base (L2.CX P w) 1 t.a_LegError_init t.fd_LegError_init ["self", "leg"] (sp_LegError_init K t) := by
  refine T.F_LegError_init.okX sc_LegError_init (len_LegError_init) (fun cdv A outer s H vs Q E hr h => ?_)
  have nd := sc_LegError_init.nd
  refine ⟨_, (pss_one (ps_ost (pv 0) (pv 1))), ?_⟩
  exact spI1_body h
def sp_PrimeError_init (K : PySem.W.Frag) (t : Tab) : Sp := spI1 "prime" K
theorem len_PrimeError_init : ∀ vs H Q E, sp_PrimeError_init K t vs H Q E → vs.length = ["self", "prime"].length := fun _ _ _ _ h => spI1_len h
theorem ok_PrimeError_init (T : Txt K mg t) : FnOk P w K mg base (L2.CX P w) 1 t.a_PrimeError_init t.fd_PrimeError_init ["self", "prime"] (sp_PrimeError_init K t) := by
  refine T.F_PrimeError_init.okX sc_PrimeError_init (len_PrimeError_init) (fun cdv A outer s H vs Q E hr h => ?_)
  have nd := sc_PrimeError_init.nd
  refine ⟨_, (pss_one (ps_ost (pv 0) (pv 1))), ?_⟩
  exact spI1_body h
def sp_TextError_init (K : PySem.W.Frag) (t : Tab) : Sp := spI1 "line" K
theorem len_TextError_init : ∀ vs H Q E, sp_TextError_init K t vs H Q E → vs.length = ["self", "line"].length := fun _ _ _ _ h => spI1_len h
theorem ok_TextError_init (T : Txt K mg t) : FnOk P w K mg base (L2.CX P w) 1 t.a_TextError_init t.fd_TextError_init ["self", "line"] (sp_TextError_init K t) := by
  refine T.F_TextError_init.okX sc_TextError_init (len_TextError_init) (fun cdv A outer s H vs Q E hr h => ?_)
  have nd := sc_TextError_init.nd
  refine ⟨_, (pss_one (ps_ost (pv 0) (pv 1))), ?_⟩
  exact spI1_body h
def sp_ulaw_draws (K : PySem.W.Frag) (t : Tab) : Sp := fun vs H Q E => ∃ (ps : List Addr) (x_script : (List Int)) (x_count : Int) (v_script : V), vs = [v_script, (.int x_count)] ∧ (∀ x ∈ ps, H x ≠ none) ∧ (pFro K pInt).rep (dels H ps) v_script x_script ∧ ∃ (k : Unit → Prop) (e : PErr → Prop), w_ulaw_draws x_script x_count k e ∧ (∀ r, k r → RetK ps (pDraw K) H Q r) ∧ (∀ er, er.cls ∈ ([] : List Nat) → e er → ErrK ps t.cl H E er)
theorem len_ulaw_draws : ∀ vs H Q E, sp_ulaw_draws K t vs H Q E → vs.length = (["script", "count"] : List Str).length := by
  rintro vs H Q E ⟨_, _, _, _, rfl, _⟩
  rfl
theorem ok_ulaw_draws (T : Txt K mg t) : FnOk P w K mg base (L2.CX P w) 1 t.a_ulaw_draws t.fd_ulaw_draws ["script", "count"] (sp_ulaw_draws K t) := by
  refine T.F_ulaw_draws.okX sc_ulaw_draws len_ulaw_draws (fun cdv A outer s H vs Q E hr h => ?_)
  have nd := sc_ulaw_draws.nd
  refine ⟨_, (pss_cons (ps_set (i := 2) nd rfl (Or.inl rfl) (pe_lst pa_nil))
    (pss_cons (ps_for (passes_of rfl) rfl (pi_range1 (by rfl) T.n_range (pa_cons (pe_callB (call_min2D rfl) (by rfl) T.n_min (by decide +kernel) (pa_cons (pe_callB (call_lenK K) (by rfl) T.n_len (by decide +kernel) (pa_cons (pv 0) pa_nil)) (pa_cons (pe_int) pa_nil))) pa_nil)) (pg_name (i := 3) nd rfl (Or.inl rfl))
    (pss_cons (ps_set (i := 4) nd rfl (Or.inl rfl) (pe_ix (ix_UK K) (pv 0) (pv 3) (fun _ _ => rfl)))
    (pss_one (ps_if (pt_cmpR op_ge (pv 4) (pe_op op_pow (pe_int) (pe_int)) (by first | exact nomark _ | rfl)) (pss_one (ps_for (passes_of rfl) rfl (pi_range1 (by rfl) T.n_range (pa_cons (pe_int) pa_nil)) (pg_name (i := 5) nd rfl (Or.inl rfl))
    (pss_one (ps_if (pt_cmpR op_gt (pv 4) (pe_int) (by first | exact nomark _ | rfl)) (pss_cons (ps_expr (pe_bmK K PySem.F.plainAttrs_list PySem.F.slot_list_append PySem.F.type_list_append mt_append (pv 2) (pa_cons (pe_op op_modP (pe_callTy call_int1D (by rfl) T.n_int (by decide +kernel) (pa_cons (pv 4) pa_nil)) (pe_int)) pa_nil)))
    (pss_one (ps_set (i := 4) nd rfl (Or.inl rfl) (pe_op op_fdivP (pv 4) (pe_int))))) pss_nil)))) (pss_cons (ps_set (i := 6) nd rfl (Or.inl rfl) (pe_op op_modP (pe_callTy call_int1D (by rfl) T.n_int (by decide +kernel) (pa_cons (pv 4) pa_nil)) (pe_int)))
    (pss_cons (ps_expr (pe_bmK K PySem.F.plainAttrs_list PySem.F.slot_list_append PySem.F.type_list_append mt_append (pv 2) (pa_cons (pe_op op_modP (pv 6) (pe_int)) pa_nil)))
    (pss_one (ps_expr (pe_bmK K PySem.F.plainAttrs_list PySem.F.slot_list_append PySem.F.type_list_append mt_append (pv 2) (pa_cons (pe_op op_modP (pe_op op_fdivP (pe_op op_modP (pe_callTy call_int1D (by rfl) T.n_int (by decide +kernel) (pa_cons (pe_op (op_addUK K) (pe_op op_mulU (pv 6) (pe_int)) (pe_op op_mulU (pe_int) (pv 3))) pa_nil)) (pe_int)) (pe_int)) (pe_int)) pa_nil))))))))))
    (pss_cons (ps_set (i := 7) nd rfl (Or.inl rfl) (pe_op op_modP (pe_callTy call_int1D (by rfl) T.n_int (by decide +kernel) (pa_cons (pe_op (op_addUK K) (pe_op (op_addUK K) (pe_op op_mulU (pe_callB (cr_sumUK K rfl) (by rfl) T.n_sum (by decide +kernel) (pa_cons (pv 2) pa_nil)) (pe_int)) (pe_op op_mulU (pe_int) (pe_callB (call_lenK K) (by rfl) T.n_len (by decide +kernel) (pa_cons (pv 2) pa_nil)))) (pe_int)) pa_nil)) (pe_int)))
    (pss_cons (ps_for (passes_of rfl) rfl (pi_range1 (by rfl) T.n_range (pa_cons (pv 1) pa_nil)) (pg_name (i := 5) nd rfl (Or.inl rfl))
    (pss_cons (ps_set (i := 7) nd rfl (Or.inl rfl) (pe_op op_modP (pe_callTy call_int1D (by rfl) T.n_int (by decide +kernel) (pa_cons (pe_op (op_addUK K) (pe_op op_mulU (pv 7) (pe_int)) (pe_int)) pa_nil)) (pe_int)))
    (pss_one (ps_expr (pe_bmK K PySem.F.plainAttrs_list PySem.F.slot_list_append PySem.F.type_list_append mt_append (pv 2) (pa_cons (pe_op op_modP (pe_op op_fdivP (pv 7) (pe_int)) (pe_int)) pa_nil))))))
    (pss_one (ps_ret (pe_slice (sl_listK K) (pv 2) po_none (po_some (pv 1))))))))), ?_⟩
  obtain ⟨ps, ns, c, v_s, rfl, P0, hS0, k0, e0, hw, hk, he⟩ := h
  obtain ⟨⟨hc0', hc1⟩, hlen, hw⟩ := hw
  have hc0 : 0 ≤ c := by omega
  obtain ⟨a, vs0, rfl, hS1, hr0, _⟩ := hS0
  rw [hr0.imm] at hS1
  have hS := Same.seq Su hS1
  have k : ∀ H' p (xs : List Int), Same H H' → H p = none → H' p = some (.lst (xs.map V.int)) → (xs.length : Int) = c → Dg xs → Q (.ref p) H' := fun H' p xs s n e hl hd => hk () hw H' _ s ⟨p, rfl, xs, SqL.of (dels_at e (nin_of n P0)), by omega⟩
  refine tSeq_i (tAsg_i (tLst_i (tNil_i (new_i (by walk_at "side") fun r H1 nr s1 hr => ?_))))
  walk_at "rd"
  refine tFor_i (w1 ?_)
  walk_at "rd"
  refine W1_i (by split <;> simp <;> omega) ?_
  have hmin : (if (63 : Int) < ((ns.map V.int).length : Nat) then (63 : Int) else ((ns.map V.int).length : Nat)).toNat = ns.length := by
    rw [List.length_map]
    split <;> omega
  rw [hmin]
  refine forS srcR (fun i σ H' => ∃ (R : List Int) (v3 v4 v5 v6 : Option V), σ = [some (.ref a), some (.int c), some (.ref r), v3, v4, v5, v6, none] ∧ Same H H' ∧ H' r = some (.lst (R.map V.int)) ∧ R.length ≤ 60 * i ∧ Dg R) ⟨[], none, none, none, none, rfl, s1, hr, by simp, dg_nil⟩ (fun _ _ _ _ _ => trivial) ?_ ?_
  · rintro i σ H2 x H3 hi ⟨R, v3, v4, v5, v6, rfl, s2, hr2, hl, hd⟩ ⟨rfl, rfl⟩
    have hget : (ns.map V.int)[i]? = some (.int ns[i]) := by rw [List.getElem?_map, List.getElem?_eq_getElem hi]; rfl
    walk_at "rd"
    refine rIxU_l (s2.seq hS) (at_of (j := i) (by omega) hget) ?_
    walk_at "rd"
    refine Br_d (fun c1 => ?_) (fun c1 => ?_)
    · walk_at "rd"
      refine tFor_i (w1 ?_)
      walk_at "rd"
      refine W1_i (by omega) ?_
      refine forS srcR (fun j σ H' => ∃ (R : List Int) (z : Int) (v5 : Option V), σ = [some (.ref a), some (.int c), some (.ref r), some (.int (0 + (i : Nat))), some (.int z), v5, v6, none] ∧ Same H H' ∧ H' r = some (.lst (R.map V.int)) ∧ R.length ≤ 60 * i + j ∧ Dg R) ⟨R, ns[i], v5, rfl, s2, hr2, by omega, hd⟩ (fun _ _ _ _ _ => trivial) ?_ ?_
      · rintro j σ H4 x H5 hj ⟨R, z, v5, rfl, s4, hr4, hl, hd⟩ ⟨rfl, rfl⟩
        have hj' : j < 60 := hj
        walk_at "rd"
        refine Br_d (fun c2 => ?_) (fun c2 => ?_)
        · walk_at "rd"
          refine append_ints hr4 (by omega) fun H5 ch e s5 => ?_
          walk_at "rd"
          exact ⟨_, _, _, rfl, s5 _ s4 nr, e, by rw [List.length_append, List.length_singleton]; omega, dg_app hd (by omega)⟩
        · walk_at "rd"
          exact ⟨R, z, _, rfl, s4, hr4, by omega, hd⟩
      · rintro σ H4 ⟨R, z, v5, rfl, s4, hr4, hl, hd⟩
        have hl' : R.length ≤ 60 * i + 60 := hl
        exact ⟨R, _, _, _, _, rfl, s4, hr4, by omega, hd⟩
    · walk_at "rd"
      refine append_ints hr2 (by omega) fun H5 ch e s5 => ?_
      walk_at "rd"
      refine append_ints e (by rw [List.length_append, List.length_singleton]; omega) fun H6 ch6 e6 s6 => ?_
      exact ⟨_, _, _, _, _, rfl, s6 _ (s5 _ s2 nr) nr, e6, by rw [List.length_append, List.length_append, List.length_singleton, List.length_singleton]; omega, dg_app (dg_app hd (by omega)) (by omega)⟩
  · rintro σ H2 ⟨R, v3, v4, v5, v6, rfl, s2, hr2, hl, hd⟩
    walk_at "rd"
    refine .inl (rSum_i R (SqL.of hr2) ?_)
    walk_at "rd"
    refine tFor_i (w1 ?_)
    walk_at "rd"
    refine W1_i (by omega) ?_
    refine forS srcR (fun j σ H' => ∃ (R' : List Int) (z : Int) (v3 v4 v5 v6 : Option V), σ = [some (.ref a), some (.int c), some (.ref r), v3, v4, v5, v6, some (.int z)] ∧ Same H H' ∧ H' r = some (.lst (R'.map V.int)) ∧ R'.length = R.length + j ∧ Dg R') ⟨R, _, _, _, _, _, rfl, s2, hr2, by omega, hd⟩ (fun _ _ _ _ _ => trivial) ?_ ?_
    · rintro j σ H4 x H5 hj ⟨R', z, v3, v4, v5, v6, rfl, s4, hr4, hl4, hd4⟩ ⟨rfl, rfl⟩
      walk_at "rd"
      refine append_ints hr4 (by omega) fun H5 ch e s5 => ?_
      exact ⟨_, _, _, _, _, _, rfl, s5 _ s4 nr, e, by rw [List.length_append, List.length_singleton]; omega, dg_app hd4 (by omega)⟩
    · rintro σ H4 ⟨R', z, v3, v4, v5, v6, rfl, s4, hr4, hl4, hd4⟩
      walk_at "rd"
      refine rSlL_i (SqL.of hr4) fun p H5 np s5 e5 => ?_
      rw [cut_take hc0 (by omega)] at e5
      exact k H5 p _ (s4.trans s5) (s4.free np) e5 (by rw [List.length_take]; omega) (dg_take hd4)
def sp_ulaw_next (K : PySem.W.Frag) (t : Tab) : Sp := fun vs H Q E => ∃ (ps : List Addr) (x_dr : Unit) (x_at : Unit) (x_many : Int) (v_dr : V) (v_at : V), vs = [v_dr, v_at, (.int x_many)] ∧ (∀ x ∈ ps, H x ≠ none) ∧ (pDraw K).rep (dels H ps) v_dr x_dr ∧ pCell.rep (dels H ps) v_at x_at ∧ ∃ (k : Int → Prop) (e : PErr → Prop), w_ulaw_next x_dr x_at x_many k e ∧ (∀ r, k r → RetI V.int H Q r) ∧ (∀ er, er.cls ∈ ([] : List Nat) → e er → ErrK ps t.cl H E er)
theorem len_ulaw_next : ∀ vs H Q E, sp_ulaw_next K t vs H Q E → vs.length = (["dr", "at", "many"] : List Str).length := by
  rintro vs H Q E ⟨_, _, _, _, _, _, rfl, _⟩
  rfl
theorem ok_ulaw_next (T : Txt K mg t) : FnOk P w K mg base (L2.CX P w) 1 t.a_ulaw_next t.fd_ulaw_next ["dr", "at", "many"] (sp_ulaw_next K t) := by
  refine T.F_ulaw_next.okX sc_ulaw_next len_ulaw_next (fun cdv A outer s H vs Q E hr h => ?_)
  have nd := sc_ulaw_next.nd
  refine ⟨_, (pss_cons (ps_asg (pe_op (op_addUK K) (pe_ix (ix_UK K) (pv 1) (pe_int) (fun _ _ => rfl)) (pe_int)) (pg_sub (pv 1) (pe_int) set_U))
    (pss_one (ps_ret (pe_op op_modP (pe_callTy call_int1D (by rfl) T.n_int (by decide +kernel) (pa_cons (pe_ix (ix_UK K) (pv 0) (pe_op op_modP (pe_op op_sub (pe_ix (ix_UK K) (pv 1) (pe_int) (fun _ _ => rfl)) (pe_int)) (pe_callB (call_lenK K) (by rfl) T.n_len (by decide +kernel) (pa_cons (pv 0) pa_nil))) (fun _ _ => rfl)) pa_nil)) (pv 2))))), ?_⟩
  obtain ⟨ps, x_dr, x_at, m, v_dr, v_at, rfl, P0, h_dr, h_at, k0, e, hw, hk, he⟩ := h
  obtain ⟨hm, hw⟩ := hw
  obtain ⟨c, a, rfl, rfl, ⟨⟨xs, h1, h2⟩, h3⟩⟩ := drawK Su h_dr h_at
  walk_at "rd"
  refine rIxU_c h3 fun n => ?_
  walk_at "rd"
  refine setC_i h3 ?_
  walk_at "rd"
  refine rIxU_c h3 fun n => ?_
  walk_at "rd"
  have hl : (0 : Int) < ((xs.map V.int).length : Nat) := by rw [List.length_map]; omega
  refine rModP_i hl ?_
  walk_at "rd"
  have b0 := Int.emod_nonneg (n - 1) (show (((xs.map V.int).length : Nat) : Int) ≠ 0 by omega)
  have b1 := Int.emod_lt_of_pos (n - 1) hl
  rw [List.length_map] at b0 b1 ⊢
  have hget : (xs.map V.int)[((n - 1) % (xs.length : Nat)).toNat]? = some (.int (xs[((n - 1) % (xs.length : Nat)).toNat]'(by omega))) := by
    rw [List.getElem?_map, List.getElem?_eq_getElem]; rfl
  refine rIxU_l h1 (at_of (by omega) hget) ?_
  walk_at "rd"
  exact hk _ (hw _ (Int.emod_nonneg _ (by omega)) (Int.emod_lt_of_pos _ hm)) _ (Same.refl _)
def sp_ulaw_prime (K : PySem.W.Frag) (t : Tab) : Sp := fun vs H Q E => ∃ (ps : List Addr) (x_dr : Unit) (x_at : Unit) (v_dr : V) (v_at : V), vs = [v_dr, v_at] ∧ (∀ x ∈ ps, H x ≠ none) ∧ (pDraw K).rep (dels H ps) v_dr x_dr ∧ pCell.rep (dels H ps) v_at x_at ∧ ∃ (k : Int → Prop) (e : PErr → Prop), w_ulaw_prime x_dr x_at k e ∧ (∀ r, k r → RetI V.int H Q r) ∧ (∀ er, er.cls ∈ ([] : List Nat) → e er → ErrK ps t.cl H E er)
theorem len_ulaw_prime : ∀ vs H Q E, sp_ulaw_prime K t vs H Q E → vs.length = (["dr", "at"] : List Str).length := by
  rintro vs H Q E ⟨_, _, _, _, _, rfl, _⟩
  rfl
theorem ok_ulaw_prime (T : Txt K mg t) : FnOk P w K mg base (L2.CX P w) 2 t.a_ulaw_prime t.fd_ulaw_prime ["dr", "at"] (sp_ulaw_prime K t) := by
  have G_ulaw_next := ok_ulaw_next (P := P) (w := w) (base := base) T
  refine T.F_ulaw_prime.okX sc_ulaw_prime len_ulaw_prime (fun cdv A outer s H vs Q E hr h => ?_)
  have nd := sc_ulaw_prime.nd
  refine ⟨_, (pss_cons (ps_if (pt_cmpR op_gt (pe_callS G_ulaw_next (hr.mono (by decide)) (by rfl) T.g_ulaw_next T.F_ulaw_next.kp T.b_ulaw_next (fun σ => passAt (takes_of rfl rfl rfl rfl) σ) (pa_cons (pv 0) (pa_cons (pv 1) (pa_cons (pe_int) pa_nil)))) (pe_int) (by first | exact nomark _ | rfl)) (pss_one (ps_ret (pe_ix (ix_UK K) (pe_lst (pa_cons (pe_int) (pa_cons (pe_int) (pa_cons (pe_int) (pa_cons (pe_int) pa_nil))))) (pe_callS G_ulaw_next (hr.mono (by decide)) (by rfl) T.g_ulaw_next T.F_ulaw_next.kp T.b_ulaw_next (fun σ => passAt (takes_of rfl rfl rfl rfl) σ) (pa_cons (pv 0) (pa_cons (pv 1) (pa_cons (pe_int) pa_nil)))) (fun _ _ => rfl)))) pss_nil)
    (pss_cons (ps_set (i := 2) nd rfl (Or.inr rfl) (pe_op (op_addUK K) (pe_int) (pe_callS G_ulaw_next (hr.mono (by decide)) (by rfl) T.g_ulaw_next T.F_ulaw_next.kp T.b_ulaw_next (fun σ => passAt (takes_of rfl rfl rfl rfl) σ) (pa_cons (pv 0) (pa_cons (pv 1) (pa_cons (pe_int) pa_nil))))))
    (pss_cons (ps_for (passes_of rfl) rfl (pi_range1 (by rfl) T.n_range (pa_cons (pe_int) pa_nil)) (pg_name (i := 3) nd rfl (Or.inl rfl))
    (pss_cons (ps_if (pt_cmpR (op_eqUK K hr) (pe_lc (own := [("d", 4)]) (g := gName 4) rfl nd (pi_range2 (by rfl) T.n_range (pa_cons (pe_int) (pa_cons (pe_int) pa_nil))) (blkOk_by (N := ["dr", "at", "most", "step", "d"]) (sc := defScope s_ulaw_prime) (by decide +kernel)) (fun _ _ _ _ _ => (pg_name (i := 4) nd rfl (Or.inl rfl))) (fun _ _ _ _ _ => (pts_one (PW.pt (pw_and (pt_cmpR op_lt (pv 4) (pv 2) (by first | exact nomark _ | rfl)) (pw_and1 (pt_cmpR (op_eqUK K hr) (pe_op op_modP (pe_callTy call_int1D (by rfl) T.n_int (by decide +kernel) (pa_cons (pv 2) pa_nil)) (pv 4)) (pe_int) (by first | exact nomark _ | rfl))))))) (fun _ _ _ _ _ => (pv 4))) (pe_lst pa_nil) (by first | exact nomark _ | rfl)) (pss_one (ps_ret (pv 2))) pss_nil)
    (pss_one (ps_set (i := 2) nd rfl (Or.inr rfl) (pe_op op_sub (pv 2) (pe_int))))))
    (pss_one (ps_ret (pe_int)))))), ?_⟩
  obtain ⟨ps, x_dr, x_at, v_dr, v_at, rfl, P0, h_dr, h_at, k, e, hw, hk, he⟩ := h
  unfold w_ulaw_prime at hw
  refine tSeq_j (tIfS_j (tTest_i (tOp_i (tCallS_i (tCons_i (tVar_i (v := v_dr) rfl (tCons_i (tVar_i (v := v_at) rfl (tCons_i (tC_i (tNil_i (?_))))))))))))
  refine ⟨ps, x_dr, x_at, (4 : Int), v_dr, v_at, rfl, P0, h_dr, h_at, _, _, hw, fun r1 hw H2 s3 => ?_, (fun er hc hw => errUp (Same.refl H) ss_refl (he er (absurd hc (List.not_mem_nil)) hw))⟩
  have P4 := dom_up s3 P0
  have T5 := Same.trans (Same.refl H) s3
  have S6 : Same (dels H ps) (dels H2 ps) := Sd ps s3
  refine tC_i (rI0_i (IsBl_i (?_)))
  refine Br_two hw (fun c7 hw => ?_) (fun c7 hw => ?_)
  · refine tRet_j (tOp_i (tLst_i (tCons_i (tC_i (tCons_i (tC_i (tCons_i (tC_i (tCons_i (tC_i (tNil_i (new_i (Nat.le_of_ble_eq_true rfl) (fun q8 H9 n10 s11 e12 => ?_)))))))))))))
    have r13 : AllR pInt (dels H2 ps) [(.int (3 : Int)), (.int (5 : Int)), (.int (7 : Int)), (.int (11 : Int))] ([(3 : Int), (5 : Int), (7 : Int), (11 : Int)] : List Int) := (.cons rfl (.cons rfl (.cons rfl (.cons rfl .nil))))
    have l14 : ([(3 : Int), (5 : Int), (7 : Int), (11 : Int)] : List Int).length ≤ LIM := (Nat.le_of_ble_eq_true rfl)
    have m15 := nin_of n10 P4
    have z16 := Same.free T5 n10
    have P17 := dom_up s11 P4
    have T18 := Same.trans T5 s11
    have P19 := dom_new e12 P17
    have S20 : Same (dels H2 ps) (dels H9 (q8 :: ps)) := Sn ps s11 n10
    have h21 : (pList pInt).rep (dels H9 ps) (.ref q8) ([(3 : Int), (5 : Int), (7 : Int), (11 : Int)] : List Int) := oFrzG e12 m15 (ss_skip ss_refl) (AllR.mono S20 r13) l14
    have P22 := dom_ss (ss_skip ss_refl) P19
    have S23 : Same (dels H9 (q8 :: ps)) (dels H9 ps) := Ss (ss_skip ss_refl)
    refine tCallS_i (tCons_i (tVar_i (v := v_dr) rfl (tCons_i (tVar_i (v := v_at) rfl (tCons_i (tC_i (tNil_i (?_))))))))
    refine ⟨ps, x_dr, x_at, (4 : Int), v_dr, v_at, rfl, P22, ((pDraw K).mono (S6.trans (S20.trans S23)) h_dr), (pCell.mono (S6.trans (S20.trans S23)) h_at), _, _, hw, fun r24 hw H25 s26 => ?_, (fun er hc hw => errUp T18 ss_refl (he er (absurd hc (List.not_mem_nil)) hw))⟩
    have P27 := dom_up s26 P22
    have T28 := Same.trans T18 s26
    have S29 : Same (dels H9 ps) (dels H25 ps) := Sd ps s26
    refine ixI (sqL (Same.trans S29 Su) h21) hw.1 (?_)
    exact hk _ hw.2 _ T28
  · refine tNext_j (tSeq_j (tAsg_j (tOp_i (tC_i (tCallS_i (tCons_i (tVar_i (v := v_dr) rfl (tCons_i (tVar_i (v := v_at) rfl (tCons_i (tC_i (tNil_i (?_)))))))))))))
    refine ⟨ps, x_dr, x_at, (995 : Int), v_dr, v_at, rfl, P4, ((pDraw K).mono S6 h_dr), (pCell.mono S6 h_at), _, _, hw, fun r30 hw H31 s32 => ?_, (fun er hc hw => errUp T5 ss_refl (he er (absurd hc (List.not_mem_nil)) hw))⟩
    have P33 := dom_up s32 P4
    have T34 := Same.trans T5 s32
    have S35 : Same (dels H2 ps) (dels H31 ps) := Sd ps s32
    refine rAddU_i (?_)
    refine asgIL (f := V.int) (e := ((3 : Int) + r30)) (g := fun y36 => [some v_dr, some v_at, some (.int y36), none, none]) hw (fun _ => rfl) (fun y36 hw => ?_)
    refine tSeq_j (tFor_j (w1 (tCons_i (tC_i (tNil_i (rgW1 hw.1 (?_)))))))
    refine forR0 (s0 := y36) hw.2 (fun (s111 : Int) (σ113 : L2.St) (H112 : Hp) => ∃ (j114 : Option V), σ113 = [some v_dr, some v_at, some (.int s111), j114, none] ∧ Same (dels H31 ps) (dels H112 ps) ∧ (∀ x ∈ ps, H112 x ≠ none) ∧ Same H H112 ∧ True) ⟨_, rfl, (Same.refl _), P33, T34, trivial⟩ (fun d120 s111 σ113 H112 nx118 hr hw => ?_) (fun s124 σ126 H125 hr hw => ?_)
    · obtain ⟨j114, rfl, S117, P115, T116, _⟩ := hr
      refine gN (σ' := [some v_dr, some v_at, some (.int s111), some (.int d120), none]) rfl (tSeq_j (tIfS_j (tTest_i (tOp_i (tLc_i (w2 (tCons_i (tC_i (tCons_i (tC_i (tNil_i (rgW2 hw.1 (?_)))))))))))))
      refine lcR (pb := pInt) (ps := ps) hw.2.2 hw.2.1 P115 (fun q131 d132 H134 n136 s137 ⟨acc138, e139⟩ nx141 hw Y142 N143 hY144 hN145 => ?_) (fun q163 H164 acc165 zs166 n167 s168 e169 r170 l171 hw => ?_)
      · have m154 := nin_of n136 P115
        have z155 := Same.free T116 n136
        have P156 := dom_up s137 P115
        have T157 := Same.trans T116 s137
        have P158 := dom_new e139 P156
        have S159 : Same (dels H112 ps) (dels H134 (q131 :: ps)) := Sn ps s137 n136
        refine gN (σ' := [some v_dr, some v_at, some (.int s111), some (.int d120), some (.int d132)]) rfl (wipe_i rfl (tAndP (b := (decide (d132 < s111))) (c := (decide ((s111 % d132) = (0 : Int)))) (fun R hR => tTest_i (tOp_i (tVar_i (v := (.int d132)) rfl (tVar_i (v := (.int s111)) rfl (rI0_i (IsBl_i (hR))))))) (fun g161 R hR => tTest_i (tOp_i (tOp_i (tCB_i (tCons_i (tVar_i (v := (.int s111)) rfl (tNil_i (rInt1_i (tVar_i (v := (.int d132)) rfl (rModP_i (hw.1 g161) (tC_i (rEqU_i (IsBl_i (hR)))))))))))))) (?_)))
        refine Br_two hw.2 (fun c162 hw => ?_) (fun c162 hw => ?_)
        · refine tVar_i (v := (.int d132)) rfl (?_)
          exact hY144 d132 _ _ (Same.refl H134) rfl hw
        · exact hN145 _ (Same.refl H134) hw
      have m172 := nin_of n167 P115
      have z173 := Same.free T116 n167
      have P174 := dom_up s168 P115
      have T175 := Same.trans T116 s168
      have P176 := dom_new e169 P174
      have S177 : Same (dels H112 ps) (dels H164 (q163 :: ps)) := Sn ps s168 n167
      have h178 : (pList pInt).rep (dels H164 ps) (.ref q163) zs166 := oFrzG e169 m172 (ss_skip ss_refl) r170 l171
      have P179 := dom_ss (ss_skip ss_refl) P176
      have S180 : Same (dels H164 (q163 :: ps)) (dels H164 ps) := Ss (ss_skip ss_refl)
      refine tLst_i (tNil_i (new_i (Nat.le_of_ble_eq_true rfl) (fun q181 H182 n183 s184 e185 => ?_)))
      have r186 : AllR pInt (dels H164 ps) [] ([] : List Int) := .nil
      have l187 : ([] : List Int).length ≤ LIM := (Nat.le_of_ble_eq_true rfl)
      have m188 := nin_of n183 P179
      have z189 := Same.free T175 n183
      have P190 := dom_up s184 P179
      have T191 := Same.trans T175 s184
      have P192 := dom_new e185 P190
      have S193 : Same (dels H164 ps) (dels H182 (q181 :: ps)) := Sn ps s184 n183
      have h194 : (pList pInt).rep (dels H182 ps) (.ref q181) ([] : List Int) := oFrzG e185 m188 (ss_skip ss_refl) (AllR.mono S193 r186) l187
      have P195 := dom_ss (ss_skip ss_refl) P192
      have S196 : Same (dels H182 (q181 :: ps)) (dels H182 ps) := Ss (ss_skip ss_refl)
      refine eqS (datList K (datInt K)) (((pList pInt)).mono Su ((pList pInt).mono (S193.trans S196) h178)) (((pList pInt)).mono Su h194) (fun _ _ => trivial) (fun _ _ => trivial) (IsBl_i (?_))
      refine Br_two hw (fun c197 hw => ?_) (fun c197 hw => ?_)
      · refine tRet_j (tVar_i (v := (.int s111)) rfl (?_))
        exact hk _ hw _ T191
      · refine tNext_j (tAsg_j (tOp_i (tVar_i (v := (.int s111)) rfl (tC_i (rI0_i (?_))))))
        refine asgIL (f := V.int) (e := (s111 - (1 : Int))) (g := fun y198 => [some v_dr, some v_at, some (.int y198), some (.int d120), none]) hw (fun _ => rfl) (fun y198 hw => ?_)
        exact nxS_i (s := (y198)) ⟨_, rfl, (S117.trans (S177.trans (S180.trans (S193.trans S196)))), P195, T191, trivial⟩ hw
    obtain ⟨j127, rfl, S130, P128, T129, _⟩ := hr
    refine tRet_j (tC_i (?_))
    exact hk _ hw _ T129
def sp_ulaw_residue (K : PySem.W.Frag) (t : Tab) : Sp := fun vs H Q E => ∃ (ps : List Addr) (x_dr : Unit) (x_at : Unit) (x_p : Int) (v_dr : V) (v_at : V), vs = [v_dr, v_at, (.int x_p)] ∧ (∀ x ∈ ps, H x ≠ none) ∧ (pDraw K).rep (dels H ps) v_dr x_dr ∧ pCell.rep (dels H ps) v_at x_at ∧ ∃ (k : Int → Prop) (e : PErr → Prop), w_ulaw_residue x_dr x_at x_p k e ∧ (∀ r, k r → RetI V.int H Q r) ∧ (∀ er, er.cls ∈ ([] : List Nat) → e er → ErrK ps t.cl H E er)
theorem len_ulaw_residue : ∀ vs H Q E, sp_ulaw_residue K t vs H Q E → vs.length = (["dr", "at", "p"] : List Str).length := by
  rintro vs H Q E ⟨_, _, _, _, _, _, rfl, _⟩
  rfl
theorem ok_ulaw_residue (T : Txt K mg t) : FnOk P w K mg base (L2.CX P w) 2 t.a_ulaw_residue t.fd_ulaw_residue ["dr", "at", "p"] (sp_ulaw_residue K t) := by
  have G_ulaw_next := ok_ulaw_next (P := P) (w := w) (base := base) T
  refine T.F_ulaw_residue.okX sc_ulaw_residue len_ulaw_residue (fun cdv A outer s H vs Q E hr h => ?_)
  have nd := sc_ulaw_residue.nd
  refine ⟨_, (pss_cons (ps_if (pt_cmpR (op_eqUK K hr) (pe_callS G_ulaw_next (hr.mono (by decide)) (by rfl) T.g_ulaw_next T.F_ulaw_next.kp T.b_ulaw_next (fun σ => passAt (takes_of rfl rfl rfl rfl) σ) (pa_cons (pv 0) (pa_cons (pv 1) (pa_cons (pe_int) pa_nil)))) (pe_int) (by first | exact nomark _ | rfl)) (pss_one (ps_ret (pe_int))) pss_nil)
    (pss_one (ps_ret (pe_callS G_ulaw_next (hr.mono (by decide)) (by rfl) T.g_ulaw_next T.F_ulaw_next.kp T.b_ulaw_next (fun σ => passAt (takes_of rfl rfl rfl rfl) σ) (pa_cons (pv 0) (pa_cons (pv 1) (pa_cons (pv 2) pa_nil))))))), ?_⟩
  obtain ⟨ps, x_dr, x_at, x_p, v_dr, v_at, rfl, P0, h_dr, h_at, k, e, hw, hk, he⟩ := h
  unfold w_ulaw_residue at hw
  refine tSeq_j (tIfS_j (tTest_i (tOp_i (tCallS_i (tCons_i (tVar_i (v := v_dr) rfl (tCons_i (tVar_i (v := v_at) rfl (tCons_i (tC_i (tNil_i (?_))))))))))))
  refine ⟨ps, x_dr, x_at, (4 : Int), v_dr, v_at, rfl, P0, h_dr, h_at, _, _, hw, fun r1 hw H2 s3 => ?_, (fun er hc hw => errUp (Same.refl H) ss_refl (he er (absurd hc (List.not_mem_nil)) hw))⟩
  have P4 := dom_up s3 P0
  have T5 := Same.trans (Same.refl H) s3
  have S6 : Same (dels H ps) (dels H2 ps) := Sd ps s3
  refine tC_i (rEqU_i (IsBl_i (?_)))
  refine Br_two hw (fun c7 hw => ?_) (fun c7 hw => ?_)
  · refine tRet_j (tC_i (?_))
    exact hk _ hw _ T5
  · refine tNext_j (tRet_j (tCallS_i (tCons_i (tVar_i (v := v_dr) rfl (tCons_i (tVar_i (v := v_at) rfl (tCons_i (tVar_i (v := (.int x_p)) rfl (tNil_i (?_))))))))))
    refine ⟨ps, x_dr, x_at, x_p, v_dr, v_at, rfl, P4, ((pDraw K).mono S6 h_dr), (pCell.mono S6 h_at), _, _, hw, fun r8 hw H9 s10 => ?_, (fun er hc hw => errUp T5 ss_refl (he er (absurd hc (List.not_mem_nil)) hw))⟩
    have P11 := dom_up s10 P4
    have T12 := Same.trans T5 s10
    have S13 : Same (dels H2 ps) (dels H9 ps) := Sd ps s10
    exact hk _ hw _ T12
def sp_ulaw_pair_spot (K : PySem.W.Frag) (t : Tab) : Sp := fun vs H Q E => ∃ (ps : List Addr) (x_n : Int) (x_i : Int) (x_j : Int), vs = [(.int x_n), (.int x_i), (.int x_j)] ∧ (∀ x ∈ ps, H x ≠ none) ∧ ∃ (k : Int → Prop) (e : PErr → Prop), w_ulaw_pair_spot x_n x_i x_j k e ∧ (∀ r, k r → RetI V.int H Q r) ∧ (∀ er, er.cls ∈ ([] : List Nat) → e er → ErrK ps t.cl H E er)
theorem len_ulaw_pair_spot : ∀ vs H Q E, sp_ulaw_pair_spot K t vs H Q E → vs.length = (["n", "i", "j"] : List Str).length := by
  rintro vs H Q E ⟨_, _, _, _, rfl, _⟩
  rfl
theorem ok_ulaw_pair_spot (T : Txt K mg t) : FnOk P w K mg base (L2.CX P w) 1 t.a_ulaw_pair_spot t.fd_ulaw_pair_spot ["n", "i", "j"] (sp_ulaw_pair_spot K t) := by
  refine T.F_ulaw_pair_spot.okX sc_ulaw_pair_spot len_ulaw_pair_spot (fun cdv A outer s H vs Q E hr h => ?_)
  have nd := sc_ulaw_pair_spot.nd
  refine ⟨_, (pss_cons (ps_set (i := 3) nd rfl (Or.inl rfl) (pe_callB (call_min2D rfl) (by rfl) T.n_min (by decide +kernel) (pa_cons (pv 1) (pa_cons (pv 2) pa_nil))))
    (pss_one (ps_ret (pe_op op_sub (pe_op op_sub (pe_op (op_addUK K) (pe_op op_fdivP (pe_op op_mulU (pv 3) (pe_op op_sub (pe_op op_sub (pe_op op_mulU (pe_int) (pv 0)) (pv 3)) (pe_int))) (pe_int)) (pe_callB (call_max2D rfl) (by rfl) T.n_max (by decide +kernel) (pa_cons (pv 1) (pa_cons (pv 2) pa_nil)))) (pv 3)) (pe_int))))), ?_⟩
  obtain ⟨ps, x_n, x_i, x_j, rfl, P0, k, e, hw, hk, he⟩ := h
  unfold w_ulaw_pair_spot at hw
  refine tSeq_j (tAsg_j (tCB_i (tCons_i (tVar_i (v := (.int x_i)) rfl (tCons_i (tVar_i (v := (.int x_j)) rfl (tNil_i (rMin2_i (?_)))))))))
  refine asgIL (f := V.int) (e := (minI x_i x_j)) (g := fun y1 => [some (.int x_n), some (.int x_i), some (.int x_j), some (.int y1)]) hw (fun _ => rfl) (fun y1 hw => ?_)
  refine tRet_j (tOp_i (tOp_i (tOp_i (tOp_i (tOp_i (tVar_i (v := (.int y1)) rfl (tOp_i (tOp_i (tOp_i (tC_i (tVar_i (v := (.int x_n)) rfl (rMulU_i hw.1 (tVar_i (v := (.int y1)) rfl (rI0_i (tC_i (rI0_i (rMulU_i hw.2.1 (tC_i (rDivP_i hw.2.2.1 (tCB_i (tCons_i (tVar_i (v := (.int x_i)) rfl (tCons_i (tVar_i (v := (.int x_j)) rfl (tNil_i (rMax2_i (rAddU_i (tVar_i (v := (.int y1)) rfl (rI0_i (tC_i (rI0_i (?_))))))))))))))))))))))))))))))))
  exact hk _ hw.2.2.2 _ (Same.refl H)
def sp_ulaw_roots (K : PySem.W.Frag) (t : Tab) : Sp := fun vs H Q E => ∃ (ps : List Addr) (x_p : Int) (x_n : Int) (x_links : (List Int)) (v_links : V), vs = [(.int x_p), (.int x_n), v_links] ∧ (∀ x ∈ ps, H x ≠ none) ∧ (pList pInt).rep (dels H ps) v_links x_links ∧ ∃ (k : (List Int) → Prop) (e : PErr → Prop), w_ulaw_roots x_p x_n x_links k e ∧ (∀ r, k r → RetO ps pInt H Q r) ∧ (∀ er, er.cls ∈ ([] : List Nat) → e er → ErrK ps t.cl H E er)
theorem len_ulaw_roots : ∀ vs H Q E, sp_ulaw_roots K t vs H Q E → vs.length = (["p", "n", "links"] : List Str).length := by
  rintro vs H Q E ⟨_, _, _, _, _, rfl, _⟩
  rfl
theorem ok_ulaw_roots (T : Txt K mg t) : FnOk P w K mg base (L2.CX P w) 2 t.a_ulaw_roots t.fd_ulaw_roots ["p", "n", "links"] (sp_ulaw_roots K t) := by
  have G_ulaw_pair_spot := ok_ulaw_pair_spot (P := P) (w := w) (base := base) T
  refine T.F_ulaw_roots.okX sc_ulaw_roots len_ulaw_roots (fun cdv A outer s H vs Q E hr h => ?_)
  have nd := sc_ulaw_roots.nd
  refine ⟨_, (pss_cons (ps_set (i := 3) nd rfl (Or.inl rfl) (pe_lst (pa_cons (pe_int) pa_nil)))
    (pss_cons (ps_for (passes_of rfl) rfl (pi_range2 (by rfl) T.n_range (pa_cons (pe_int) (pa_cons (pe_op op_shl (pe_int) (pv 1)) pa_nil))) (pg_name (i := 4) nd rfl (Or.inr rfl))
    (pss_cons (ps_setLc (i := 5) (own := [("i", 10)]) (g := gName 10) rfl nd rfl rfl (sw_true rfl rfl rfl (by decide +kernel)) (pi_range1 (by rfl) T.n_range (pa_cons (pv 1) pa_nil)) (blkOk_by (N := ["p", "n", "links", "row", "mask", "own", "total", "k", "rest", "part", "i"]) (sc := defScope s_ulaw_roots) (by decide +kernel)) (fun _ _ _ _ _ => (pg_name (i := 10) nd rfl (Or.inl rfl))) (fun _ _ _ _ _ => (pts_one (pt_cmpR (op_eqUK K hr) (pe_op op_and (pe_op op_shr (pv 4) (pv 10)) (pe_int)) (pe_int) (by first | exact nomark _ | rfl)))) (fun _ _ _ _ _ => (pv 10)))
    (pss_cons (ps_set (i := 6) nd rfl (Or.inl rfl) (pe_int))
    (pss_cons (ps_for (passes_of rfl) rfl (pi_range2 (by rfl) T.n_range (pa_cons (pe_int) (pa_cons (pe_callB (call_lenK K) (by rfl) T.n_len (by decide +kernel) (pa_cons (pv 5) pa_nil)) pa_nil))) (pg_name (i := 7) nd rfl (Or.inl rfl))
    (pss_cons (ps_set (i := 8) nd rfl (Or.inl rfl) (pe_op op_sub (pe_op op_sub (pv 4) (pe_op op_shl (pe_int) (pe_ix (ix_UK K) (pv 5) (pe_int) (fun _ _ => rfl)))) (pe_op op_shl (pe_int) (pe_ix (ix_UK K) (pv 5) (pv 7) (fun _ _ => rfl)))))
    (pss_cons (ps_set (i := 9) nd rfl (Or.inl rfl) (pe_op op_mulU (pe_ix (ix_UK K) (pv 2) (pe_callS G_ulaw_pair_spot (hr.mono (by decide)) (by rfl) T.g_ulaw_pair_spot T.F_ulaw_pair_spot.kp T.b_ulaw_pair_spot (fun σ => passAt (takes_of rfl rfl rfl rfl) σ) (pa_cons (pv 1) (pa_cons (pe_ix (ix_UK K) (pv 5) (pe_int) (fun _ _ => rfl)) (pa_cons (pe_ix (ix_UK K) (pv 5) (pv 7) (fun _ _ => rfl)) pa_nil)))) (fun _ _ => rfl)) (pe_ix (ix_UK K) (pv 3) (pv 8) (fun _ _ => rfl))))
    (pss_one (ps_set (i := 6) nd rfl (Or.inl rfl) (pe_op op_sub (pe_op (op_addUK K) (pv 6) (pv 9)) (pe_op op_mulU (pe_op op_mulU (pe_int) (pv 9)) (pe_op op_modP (pe_op (op_addUK K) (pv 7) (pe_int)) (pe_int)))))))))
    (pss_one (ps_expr (pe_bmK K PySem.F.plainAttrs_list PySem.F.slot_list_append PySem.F.type_list_append mt_append (pv 3) (pa_cons (pe_op op_modP (pe_callTy call_int1D (by rfl) T.n_int (by decide +kernel) (pa_cons (pv 6) pa_nil)) (pv 0)) pa_nil))))))))
    (pss_one (ps_ret (pv 3))))), ?_⟩
  obtain ⟨ps, x_p, x_n, x_links, v_links, rfl, P0, h_links, k, e, hw, hk, he⟩ := h
  unfold w_ulaw_roots at hw
  refine tSeq_j (tAsg_j (tLst_i (tCons_i (tC_i (tNil_i (new_i (Nat.le_of_ble_eq_true rfl) (fun q1 H2 n3 s4 e5 => ?_)))))))
  have r6 : AllR pInt (dels H ps) [(.int (1 : Int))] ([(1 : Int)] : List Int) := (.cons rfl .nil)
  have l7 : ([(1 : Int)] : List Int).length ≤ LIM := (Nat.le_of_ble_eq_true rfl)
  have m8 := nin_of n3 P0
  have z9 := Same.free (Same.refl H) n3
  have P10 := dom_up s4 P0
  have T11 := Same.trans (Same.refl H) s4
  have P12 := dom_new e5 P10
  have S13 : Same (dels H ps) (dels H2 (q1 :: ps)) := Sn ps s4 n3
  refine gN (σ' := [some (.int x_p), some (.int x_n), some v_links, some (.ref q1), none, none, none, none, none, none, none]) rfl (?_)
  obtain ⟨y14, r15, l16, hw⟩ := letO hw r6 l7
  refine tSeq_j (tFor_j (w2 (tCons_i (tC_i (tCons_i (tOp_i (tC_i (tVar_i (v := (.int x_n)) rfl (rI_i hw.1 (tNil_i (rgW2 hw.2.1 (?_))))))))))))
  refine forR (s0 := y14) hw.2.2 (fun (s276 : (List Int)) (σ278 : L2.St) (H277 : Hp) => ∃ (j279 : Option V) (j280 : Option V) (j281 : Option V) (j282 : Option V) (j283 : Option V) (j284 : Option V) (us288 : List V), σ278 = [some (.int x_p), some (.int x_n), some v_links, some (.ref q1), j279, j280, j281, j282, j283, j284, none] ∧ Same (dels H2 (q1 :: ps)) (dels H277 (q1 :: ps)) ∧ (∀ x ∈ (q1 :: ps), H277 x ≠ none) ∧ Same H H277 ∧ H277 q1 = some (.lst us288) ∧ AllR pInt (dels H277 (q1 :: ps)) us288 s276 ∧ (s276).length ≤ LIM ∧ True) ⟨_, _, _, _, _, _, [(.int (1 : Int))], rfl, (Same.refl _), P12, T11, e5, (AllR.mono S13 r15), l16, trivial⟩ (fun d294 s276 σ278 H277 nx292 hr hw => ?_) (fun s298 σ300 H299 hr hw => ?_)
  · obtain ⟨j279, j280, j281, j282, j283, j284, us288, rfl, S287, P285, T286, e289, r290, l291, _⟩ := hr
    refine gN (σ' := [some (.int x_p), some (.int x_n), some v_links, some (.ref q1), some (.int d294), j280, j281, j282, j283, j284, none]) rfl (tSeq_j (tAsg_j (tLc_i (w1 (tCons_i (tVar_i (v := (.int x_n)) rfl (tNil_i (rgW1 hw.1 (?_)))))))))
    refine lcR0 (pb := pInt) (ps := (q1 :: ps)) hw.2.2 hw.2.1 P285 (fun q314 d315 H317 n319 s320 ⟨acc321, e322⟩ nx324 hw Y325 N326 hY327 hN328 => ?_) (fun q344 H345 acc346 zs347 n348 s349 e350 r351 l352 hw => ?_)
    · have m336 := nin_of n319 P285
      have z337 := Same.free T286 n319
      have P338 := dom_up s320 P285
      have T339 := Same.trans T286 s320
      have e340 := s320 _ _ e289
      have P341 := dom_new e322 P338
      have S342 : Same (dels H277 (q1 :: ps)) (dels H317 (q314 :: q1 :: ps)) := Sn (q1 :: ps) s320 n319
      refine gN (σ' := [some (.int x_p), some (.int x_n), some v_links, some (.ref q1), some (.int d294), j280, j281, j282, j283, j284, some (.int d315)]) rfl (wipe_i rfl (tTest_i (tOp_i (tOp_i (tOp_i (tVar_i (v := (.int d294)) rfl (tVar_i (v := (.int d315)) rfl (rI_i (C := fun _ j => 0 ≤ j) hw.1 (tC_i (rI0_i (tC_i (rEqU_i (IsBl_i (?_))))))))))))))
      refine Br_two hw.2 (fun c343 hw => ?_) (fun c343 hw => ?_)
      · refine tVar_i (v := (.int d315)) rfl (?_)
        exact hY327 d315 _ _ (Same.refl H317) rfl hw
      · exact hN328 _ (Same.refl H317) hw
    have m353 := nin_of n348 P285
    have z354 := Same.free T286 n348
    have P355 := dom_up s349 P285
    have T356 := Same.trans T286 s349
    have e357 := s349 _ _ e289
    have P358 := dom_new e350 P355
    have S359 : Same (dels H277 (q1 :: ps)) (dels H345 (q344 :: q1 :: ps)) := Sn (q1 :: ps) s349 n348
    have h360 : (pList pInt).rep (dels H345 (q1 :: ps)) (.ref q344) zs347 := oFrzG e350 m353 (ss_skip ss_refl) r351 l352
    have P361 := dom_ss (ss_skip ss_refl) P358
    have S362 : Same (dels H345 (q344 :: q1 :: ps)) (dels H345 (q1 :: ps)) := Ss (ss_skip ss_refl)
    refine gN (σ' := [some (.int x_p), some (.int x_n), some v_links, some (.ref q1), some (.int d294), some (.ref q344), j281, j282, j283, j284, none]) rfl (tSeq_j (tAsg_j (tC_i (gN (σ' := [some (.int x_p), some (.int x_n), some v_links, some (.ref q1), some (.int d294), some (.ref q344), some (.int (0 : Int)), j282, j283, j284, none]) rfl (tSeq_j (tFor_j (w2 (tCons_i (tC_i (tCons_i (tCB_i (tCons_i (tVar_i (v := (.ref q344)) rfl (tNil_i (lenS (sqL Su h360) (tNil_i (rgW2 hw.1 (?_))))))))))))))))))
    refine forR (s0 := (0 : Int)) hw.2 (fun (s382 : Int) (σ384 : L2.St) (H383 : Hp) => ∃ (j385 : Option V) (j386 : Option V) (j387 : Option V), σ384 = [some (.int x_p), some (.int x_n), some v_links, some (.ref q1), some (.int d294), some (.ref q344), some (.int s382), j385, j386, j387, none] ∧ Same (dels H345 (q1 :: ps)) (dels H383 (q1 :: ps)) ∧ (∀ x ∈ (q1 :: ps), H383 x ≠ none) ∧ Same H H383 ∧ H383 q1 = some (.lst us288) ∧ True) ⟨_, _, _, rfl, (Same.refl _), P361, T356, e357, trivial⟩ (fun d394 s382 σ384 H383 nx392 hr hw => ?_) (fun s398 σ400 H399 hr hw => ?_)
    · obtain ⟨j385, j386, j387, rfl, S390, P388, T389, e391, _⟩ := hr
      refine gN (σ' := [some (.int x_p), some (.int x_n), some v_links, some (.ref q1), some (.int d294), some (.ref q344), some (.int s382), some (.int d394), j386, j387, none]) rfl (tSeq_j (tAsg_j (tOp_i (tOp_i (tVar_i (v := (.int d294)) rfl (tOp_i (tC_i (tOp_i (tVar_i (v := (.ref q344)) rfl (tC_i (ixI (sqL (Same.trans S390 Su) h360) hw.1 (rI_i hw.2.1 (rI0_i (tOp_i (tC_i (tOp_i (tVar_i (v := (.ref q344)) rfl (tVar_i (v := (.int d394)) rfl (ixI (sqL (Same.trans S390 Su) h360) hw.2.2.1 (rI_i hw.2.2.2.1 (rI0_i (?_))))))))))))))))))))))
      refine asgIL (f := V.int) (e := ((d294 - ((1 : Int) * 2 ^ Int.toNat (ixG zs347 (0 : Int)))) - ((1 : Int) * 2 ^ Int.toNat (ixG zs347 d394)))) (g := fun y408 => [some (.int x_p), some (.int x_n), some v_links, some (.ref q1), some (.int d294), some (.ref q344), some (.int s382), some (.int d394), some (.int y408), j387, none]) hw.2.2.2.2 (fun _ => rfl) (fun y408 hw => ?_)
      refine tSeq_j (tAsg_j (tOp_i (tOp_i (tVar_i (v := v_links) rfl (tCallS_i (tCons_i (tVar_i (v := (.int x_n)) rfl (tCons_i (tOp_i (tVar_i (v := (.ref q344)) rfl (tC_i (ixI (sqL (Same.trans S390 Su) h360) hw.1 (tCons_i (tOp_i (tVar_i (v := (.ref q344)) rfl (tVar_i (v := (.int d394)) rfl (ixI (sqL (Same.trans S390 Su) h360) hw.2.1 (tNil_i (?_)))))))))))))))))))
      refine ⟨(q1 :: ps), x_n, (ixG zs347 (0 : Int)), (ixG zs347 d394), rfl, P388, _, _, hw.2.2, fun r409 hw H410 s411 => ?_, (fun er hc hw => errUp T389 (ss_skip ss_refl) (he er (absurd hc (List.not_mem_nil)) hw))⟩
      have P412 := dom_up s411 P388
      have T413 := Same.trans T389 s411
      have e414 := s411 _ _ e391
      have S415 : Same (dels H383 (q1 :: ps)) (dels H410 (q1 :: ps)) := Sd (q1 :: ps) s411
      refine ixI (sqL (Same.trans (S13.trans (S287.trans (S359.trans (S362.trans (S390.trans S415))))) Su) h_links) hw.1 (tOp_i (tVar_i (v := (.ref q1)) rfl (tVar_i (v := (.int y408)) rfl (ixI (sqO e414 r290 l291) hw.2.1 (rMulU_i hw.2.2.1 (?_))))))
      refine asgIL (f := V.int) (e := ((ixG x_links r409) * (ixG s276 y408))) (g := fun y416 => [some (.int x_p), some (.int x_n), some v_links, some (.ref q1), some (.int d294), some (.ref q344), some (.int s382), some (.int d394), some (.int y408), some (.int y416), none]) hw.2.2.2 (fun _ => rfl) (fun y416 hw => ?_)
      refine tAsg_j (tOp_i (tOp_i (tVar_i (v := (.int s382)) rfl (tVar_i (v := (.int y416)) rfl (rAddU_i (tOp_i (tOp_i (tC_i (tVar_i (v := (.int y416)) rfl (rMulU_i hw.1 (tOp_i (tOp_i (tVar_i (v := (.int d394)) rfl (tC_i (rAddU_i (tC_i (rModP_i hw.2.1 (rMulU_i hw.2.2.1 (rI0_i (?_))))))))))))))))))))
      refine asgIL (f := V.int) (e := ((s382 + y416) - (((2 : Int) * y416) * ((d394 + (1 : Int)) % (2 : Int))))) (g := fun y417 => [some (.int x_p), some (.int x_n), some v_links, some (.ref q1), some (.int d294), some (.ref q344), some (.int y417), some (.int d394), some (.int y408), some (.int y416), none]) hw.2.2.2 (fun _ => rfl) (fun y417 hw => ?_)
      exact nxS_i (s := (y417)) ⟨_, _, _, rfl, (S390.trans S415), P412, T413, e414, trivial⟩ hw
    obtain ⟨j401, j402, j403, rfl, S406, P404, T405, e407, _⟩ := hr
    refine tDrop_j (tBM_i (tVar_i (v := (.ref q1)) rfl (tyL (SqL.of e407) (tCons_i (tOp_i (tCB_i (tCons_i (tVar_i (v := (.int s398)) rfl (tNil_i (rInt1_i (tVar_i (v := (.int x_p)) rfl (rModP_i hw.1 (tNil_i (appO (p := pInt) (d := (s398 % x_p)) e407 (AllR.mono (S359.trans (S362.trans S406)) r290) hw.2.1 rfl (fun H418 f419 us420 e421 r422 l423 => ?_)))))))))))))))
    have P424 := dom_off f419 e421 P404
    have T425 := st_off T405 f419 z9
    have S426 : Same (dels H399 (q1 :: ps)) (dels H418 (q1 :: ps)) := So (List.mem_cons_self ..) f419
    obtain ⟨y427, r428, l429, hw⟩ := letO hw.2.2 r422 l423
    exact nxS_i (s := (y427)) ⟨_, _, _, _, _, _, us420, rfl, (S287.trans (S359.trans (S362.trans (S406.trans S426)))), P424, T425, e421, (AllR.mono S426 r428), l429, trivial⟩ hw
  obtain ⟨j301, j302, j303, j304, j305, j306, us310, rfl, S309, P307, T308, e311, r312, l313, _⟩ := hr
  refine tRet_j (tVar_i (v := (.ref q1)) rfl (?_))
  exact hk _ hw _ _ _ T308 z9 e311 r312 l313
def sp_ulaw_form_entries (K : PySem.W.Frag) (t : Tab) : Sp := fun vs H Q E => ∃ (ps : List Addr) (x_p : Int) (x_n : Int) (x_home : Int) (x_worth : Int) (x_links : (List Int)) (v_links : V), vs = [(.int x_p), (.int x_n), (.int x_home), (.int x_worth), v_links] ∧ (∀ x ∈ ps, H x ≠ none) ∧ (pList pInt).rep (dels H ps) v_links x_links ∧ ∃ (k : (List Int) → Prop) (e : PErr → Prop), w_ulaw_form_entries x_p x_n x_home x_worth x_links k e ∧ (∀ r, k r → RetO ps pInt H Q r) ∧ (∀ er, er.cls ∈ ([] : List Nat) → e er → ErrK ps t.cl H E er)
theorem len_ulaw_form_entries : ∀ vs H Q E, sp_ulaw_form_entries K t vs H Q E → vs.length = (["p", "n", "home", "worth", "links"] : List Str).length := by
  rintro vs H Q E ⟨_, _, _, _, _, _, _, rfl, _⟩
  rfl
theorem ok_ulaw_form_entries (T : Txt K mg t) : FnOk P w K mg base (L2.CX P w) 3 t.a_ulaw_form_entries t.fd_ulaw_form_entries ["p", "n", "home", "worth", "links"] (sp_ulaw_form_entries K t) := by
  have G_ulaw_roots := ok_ulaw_roots (P := P) (w := w) (base := base) T
  refine T.F_ulaw_form_entries.okX sc_ulaw_form_entries len_ulaw_form_entries (fun cdv A outer s H vs Q E hr h => ?_)
  have nd := sc_ulaw_form_entries.nd
  refine ⟨_, (pss_cons (ps_set (i := 5) nd rfl (Or.inr rfl) (pe_callS G_ulaw_roots (hr.mono (by decide)) (by rfl) T.g_ulaw_roots T.F_ulaw_roots.kp T.b_ulaw_roots (fun σ => passAt (takes_of rfl rfl rfl rfl) σ) (pa_cons (pv 0) (pa_cons (pv 1) (pa_cons (pv 4) pa_nil)))))
    (pss_one (ps_ret (pe_lc (own := [("mask", 6)]) (g := gName 6) (tt := tYes) rfl nd (pi_range1 (by rfl) T.n_range (pa_cons (pe_op op_shl (pe_int) (pv 1)) pa_nil)) (blkOk_by (N := ["p", "n", "home", "worth", "links", "roots", "mask"]) (sc := defScope s_ulaw_form_entries) (by decide +kernel)) (fun _ _ _ _ _ => (pg_name (i := 6) nd rfl (Or.inl rfl))) (fun _ _ _ _ _ => pts_nil) (fun _ _ _ _ _ => (pe_op op_modP (pe_callTy call_int1D (by rfl) T.n_int (by decide +kernel) (pa_cons (pe_op op_mulU (pv 3) (pe_ix (ix_UK K) (pv 5) (pe_op op_xor (pv 6) (pv 2)) (fun _ _ => rfl))) pa_nil)) (pv 0))))))), ?_⟩
  obtain ⟨ps, x_p, x_n, x_home, x_worth, x_links, v_links, rfl, P0, h_links, k, e, hw, hk, he⟩ := h
  unfold w_ulaw_form_entries at hw
  refine tSeq_j (tAsg_j (tCallS_i (tCons_i (tVar_i (v := (.int x_p)) rfl (tCons_i (tVar_i (v := (.int x_n)) rfl (tCons_i (tVar_i (v := v_links) rfl (tNil_i (?_))))))))))
  refine ⟨ps, x_p, x_n, x_links, v_links, rfl, P0, h_links, _, _, hw, fun r1 hw H2 q4 us5 s3 n6 e7 r8 l9 => ?_, (fun er hc hw => errUp (Same.refl H) ss_refl (he er (absurd hc (List.not_mem_nil)) hw))⟩
  have m10 := nin_of n6 P0
  have z11 := Same.free (Same.refl H) n6
  have P12 := dom_up s3 P0
  have T13 := Same.trans (Same.refl H) s3
  have P14 := dom_new e7 P12
  have S15 : Same (dels H ps) (dels H2 (q4 :: ps)) := Sn ps s3 n6
  have h16 : (pList pInt).rep (dels H2 ps) (.ref q4) r1 := oFrzG e7 m10 (ss_skip ss_refl) r8 l9
  have P17 := dom_ss (ss_skip ss_refl) P14
  have S18 : Same (dels H2 (q4 :: ps)) (dels H2 ps) := Ss (ss_skip ss_refl)
  refine gN (σ' := [some (.int x_p), some (.int x_n), some (.int x_home), some (.int x_worth), some v_links, some (.ref q4), none]) rfl (tRet_j (tLc_i (w1 (tCons_i (tOp_i (tC_i (tVar_i (v := (.int x_n)) rfl (rI_i hw.1 (tNil_i (rgW1 hw.2.1 (?_)))))))))))
  refine lcR0 (pb := pInt) (ps := ps) hw.2.2.2 hw.2.2.1 P17 (fun q19 d20 H22 n24 s25 ⟨acc26, e27⟩ nx29 hw Y30 N31 hY32 hN33 => ?_) (fun q46 H47 acc48 zs49 n50 s51 e52 r53 l54 hw => ?_)
  · have m40 := nin_of n24 P17
    have z41 := Same.free T13 n24
    have P42 := dom_up s25 P17
    have T43 := Same.trans T13 s25
    have P44 := dom_new e27 P42
    have S45 : Same (dels H2 ps) (dels H22 (q19 :: ps)) := Sn ps s25 n24
    refine gN (σ' := [some (.int x_p), some (.int x_n), some (.int x_home), some (.int x_worth), some v_links, some (.ref q4), some (.int d20)]) rfl (wipe_i rfl (tYes_i (Br_t (tOp_i (tCB_i (tCons_i (tOp_i (tVar_i (v := (.int x_worth)) rfl (tOp_i (tVar_i (v := (.ref q4)) rfl (tOp_i (tVar_i (v := (.int d20)) rfl (tVar_i (v := (.int x_home)) rfl (rI0_i (ixI (sqL (Same.trans S45 Su) h16) hw.1 (rMulU_i hw.2.1 (tNil_i (rInt1_i (tVar_i (v := (.int x_p)) rfl (rModP_i hw.2.2.1 (?_)))))))))))))))))))))
    exact hY32 ((x_worth * (ixG r1 (PySem.Builtin.bitXor d20 x_home))) % x_p) _ _ (Same.refl H22) rfl hw.2.2.2
  have m55 := nin_of n50 P17
  have z56 := Same.free T13 n50
  have P57 := dom_up s51 P17
  have T58 := Same.trans T13 s51
  have P59 := dom_new e52 P57
  have S60 : Same (dels H2 ps) (dels H47 (q46 :: ps)) := Sn ps s51 n50
  exact hk _ hw _ _ _ T58 z56 e52 r53 l54
def sp_ulaw_told (K : PySem.W.Frag) (t : Tab) : Sp := fun vs H Q E => ∃ (ps : List Addr) (x_dr : Unit) (x_at : Unit) (x_p : Int) (x_n : Int) (v_dr : V) (v_at : V), vs = [v_dr, v_at, (.int x_p), (.int x_n)] ∧ (∀ x ∈ ps, H x ≠ none) ∧ (pDraw K).rep (dels H ps) v_dr x_dr ∧ pCell.rep (dels H ps) v_at x_at ∧ ∃ (k : (List Int) → Prop) (e : PErr → Prop), w_ulaw_told x_dr x_at x_p x_n k e ∧ (∀ r, k r → RetO ps pInt H Q r) ∧ (∀ er, er.cls ∈ ([] : List Nat) → e er → ErrK ps t.cl H E er)
theorem len_ulaw_told : ∀ vs H Q E, sp_ulaw_told K t vs H Q E → vs.length = (["dr", "at", "p", "n"] : List Str).length := by
  rintro vs H Q E ⟨_, _, _, _, _, _, _, rfl, _⟩
  rfl
theorem ok_ulaw_told (T : Txt K mg t) : FnOk P w K mg base (L2.CX P w) 4 t.a_ulaw_told t.fd_ulaw_told ["dr", "at", "p", "n"] (sp_ulaw_told K t) := by
  have G_ulaw_next := ok_ulaw_next (P := P) (w := w) (base := base) T
  have G_ulaw_residue := ok_ulaw_residue (P := P) (w := w) (base := base) T
  have G_ulaw_form_entries := ok_ulaw_form_entries (P := P) (w := w) (base := base) T
  refine T.F_ulaw_told.okX sc_ulaw_told len_ulaw_told (fun cdv A outer s H vs Q E hr h => ?_)
  have nd := sc_ulaw_told.nd
  refine ⟨_, (pss_cons (ps_set (i := 4) nd rfl (Or.inl rfl) (pe_callS G_ulaw_next (hr.mono (by decide)) (by rfl) T.g_ulaw_next T.F_ulaw_next.kp T.b_ulaw_next (fun σ => passAt (takes_of rfl rfl rfl rfl) σ) (pa_cons (pv 0) (pa_cons (pv 1) (pa_cons (pe_op op_shl (pe_int) (pv 3)) pa_nil)))))
    (pss_cons (ps_set (i := 5) nd rfl (Or.inl rfl) (pe_op (op_addUK K) (pe_callS G_ulaw_next (hr.mono (by decide)) (by rfl) T.g_ulaw_next T.F_ulaw_next.kp T.b_ulaw_next (fun σ => passAt (takes_of rfl rfl rfl rfl) σ) (pa_cons (pv 0) (pa_cons (pv 1) (pa_cons (pe_op op_sub (pv 2) (pe_int)) pa_nil)))) (pe_int)))
    (pss_cut (ps_if (pt_cmpR (op_eqUK K hr) (pe_callS G_ulaw_next (hr.mono (by decide)) (by rfl) T.g_ulaw_next T.F_ulaw_next.kp T.b_ulaw_next (fun σ => passAt (takes_of rfl rfl rfl rfl) σ) (pa_cons (pv 0) (pa_cons (pv 1) (pa_cons (pe_int) pa_nil)))) (pe_int) (by first | exact nomark _ | rfl)) (pss_one (ps_set (i := 5) nd rfl (Or.inl rfl) (pe_int))) pss_nil)
    (pss_cons (ps_setLc (i := 6) (own := [("k", 7)]) (g := gName 7) (tt := tYes) rfl nd rfl rfl (sw_true rfl rfl rfl (by decide +kernel)) (pi_range1 (by rfl) T.n_range (pa_cons (pe_op op_fdivP (pe_op op_mulU (pv 3) (pe_op op_sub (pv 3) (pe_int))) (pe_int)) pa_nil)) (blkOk_by (N := ["dr", "at", "p", "n", "home", "worth", "links", "k"]) (sc := defScope s_ulaw_told) (by decide +kernel)) (fun _ _ _ _ _ => (pg_name (i := 7) nd rfl (Or.inl rfl))) (fun _ _ _ _ _ => pts_nil) (fun _ _ _ _ _ => (pe_call G_ulaw_residue (hr.mono (by decide)) (by rfl) T.g_ulaw_residue T.F_ulaw_residue.kp T.b_ulaw_residue .nil passL (pa_cons (pv 0) (pa_cons (pv 1) (pa_cons (pv 2) pa_nil))))))
    (pss_one (ps_ret (pe_callS G_ulaw_form_entries (hr.mono (by decide)) (by rfl) T.g_ulaw_form_entries T.F_ulaw_form_entries.kp T.b_ulaw_form_entries (fun σ => passAt (takes_of rfl rfl rfl rfl) σ) (pa_cons (pv 2) (pa_cons (pv 3) (pa_cons (pv 4) (pa_cons (pv 5) (pa_cons (pv 6) pa_nil)))))))))))), ?_⟩
  obtain ⟨ps, x_dr, x_at, x_p, x_n, v_dr, v_at, rfl, P0, h_dr, h_at, k, e, hw, hk, he⟩ := h
  unfold w_ulaw_told at hw
  refine tSeq_j (tAsg_j (tCallS_i (tCons_i (tVar_i (v := v_dr) rfl (tCons_i (tVar_i (v := v_at) rfl (tCons_i (tOp_i (tC_i (tVar_i (v := (.int x_n)) rfl (rI_i hw.1 (tNil_i (?_)))))))))))))
  refine ⟨ps, x_dr, x_at, ((1 : Int) * 2 ^ Int.toNat x_n), v_dr, v_at, rfl, P0, h_dr, h_at, _, _, hw.2, fun r1 hw H2 s3 => ?_, (fun er hc hw => errUp (Same.refl H) ss_refl (he er (absurd hc (List.not_mem_nil)) hw))⟩
  have P4 := dom_up s3 P0
  have T5 := Same.trans (Same.refl H) s3
  have S6 : Same (dels H ps) (dels H2 ps) := Sd ps s3
  refine gN (σ' := [some v_dr, some v_at, some (.int x_p), some (.int x_n), some (.int r1), none, none, none]) rfl (tSeq_j (tAsg_j (tOp_i (tCallS_i (tCons_i (tVar_i (v := v_dr) rfl (tCons_i (tVar_i (v := v_at) rfl (tCons_i (tOp_i (tVar_i (v := (.int x_p)) rfl (tC_i (rI0_i (tNil_i (?_)))))))))))))))
  refine ⟨ps, x_dr, x_at, (x_p - (1 : Int)), v_dr, v_at, rfl, P4, ((pDraw K).mono S6 h_dr), (pCell.mono S6 h_at), _, _, hw, fun r7 hw H8 s9 => ?_, (fun er hc hw => errUp T5 ss_refl (he er (absurd hc (List.not_mem_nil)) hw))⟩
  have P10 := dom_up s9 P4
  have T11 := Same.trans T5 s9
  have S12 : Same (dels H2 ps) (dels H8 ps) := Sd ps s9
  refine tC_i (rAddU_i (?_))
  refine asgIL (f := V.int) (e := (r7 + (1 : Int))) (g := fun y13 => [some v_dr, some v_at, some (.int x_p), some (.int x_n), some (.int r1), some (.int y13), none, none]) hw (fun _ => rfl) (fun y13 hw => ?_)
  refine cutW (S := Int) hw (fun (s21 : Int) (σ24 : L2.St) (H23 : Hp) => σ24 = [some v_dr, some v_at, some (.int x_p), some (.int x_n), some (.int r1), some (.int s21), none, none] ∧ Same (dels H8 ps) (dels H23 ps) ∧ (∀ x ∈ ps, H23 x ≠ none) ∧ Same H H23 ∧ True) (fun hw => ?_) (fun s21 σ24 H23 hr hw => ?_)
  · refine tIfS_j (tTest_i (tOp_i (tCallS_i (tCons_i (tVar_i (v := v_dr) rfl (tCons_i (tVar_i (v := v_at) rfl (tCons_i (tC_i (tNil_i (?_)))))))))))
    refine ⟨ps, x_dr, x_at, (8 : Int), v_dr, v_at, rfl, P10, ((pDraw K).mono (S6.trans S12) h_dr), (pCell.mono (S6.trans S12) h_at), _, _, hw, fun r29 hw H30 s31 => ?_, (fun er hc hw => errUp T11 ss_refl (he er (absurd hc (List.not_mem_nil)) hw))⟩
    have P32 := dom_up s31 P10
    have T33 := Same.trans T11 s31
    have S34 : Same (dels H8 ps) (dels H30 ps) := Sd ps s31
    refine tC_i (rEqU_i (IsBl_i (?_)))
    refine Br_two hw (fun c35 hw => ?_) (fun c35 hw => ?_)
    · refine tAsg_j (tC_i (gN (σ' := [some v_dr, some v_at, some (.int x_p), some (.int x_n), some (.int r1), some (.int (0 : Int)), none, none]) rfl (?_)))
      exact ⟨(0 : Int), ⟨rfl, S34, P32, T33, trivial⟩, hw⟩
    · refine tNext_j (?_)
      exact ⟨y13, ⟨rfl, S34, P32, T33, trivial⟩, hw⟩
  obtain ⟨rfl, S27, P25, T26, _⟩ := hr
  refine tSeq_j (tAsg_j (tLc_i (w1 (tCons_i (tOp_i (tOp_i (tVar_i (v := (.int x_n)) rfl (tOp_i (tVar_i (v := (.int x_n)) rfl (tC_i (rI0_i (rMulU_i hw.1 (tC_i (rDivP_i hw.2.1 (tNil_i (rgW1 hw.2.2.1 (?_)))))))))))))))))
  refine lcR0 (pb := pInt) (ps := ps) hw.2.2.2.2 hw.2.2.2.1 P25 (fun q36 d37 H39 n41 s42 ⟨acc43, e44⟩ nx46 hw Y47 N48 hY49 hN50 => ?_) (fun q79 H80 acc81 zs82 n83 s84 e85 r86 l87 hw => ?_)
  · have m65 := nin_of n41 P25
    have z66 := Same.free T26 n41
    have P67 := dom_up s42 P25
    have T68 := Same.trans T26 s42
    have P69 := dom_new e44 P67
    have S70 : Same (dels H23 ps) (dels H39 (q36 :: ps)) := Sn ps s42 n41
    refine gN (σ' := [some v_dr, some v_at, some (.int x_p), some (.int x_n), some (.int r1), some (.int s21), none, some (.int d37)]) rfl (wipe_i rfl (tYes_i (Br_t (tCall_i (tCons_i (tVar_i (v := v_dr) rfl (tCons_i (tVar_i (v := v_at) rfl (tCons_i (tVar_i (v := (.int x_p)) rfl (tNil_i (?_))))))))))))
    refine ⟨(q36 :: ps), x_dr, x_at, x_p, v_dr, v_at, rfl, P69, ((pDraw K).mono (S6.trans (S12.trans (S27.trans S70))) h_dr), (pCell.mono (S6.trans (S12.trans (S27.trans S70))) h_at), _, _, hw, fun r71 hw H72 s73 => ?_, (fun er _ hw => False.elim hw)⟩
    have P74 := dom_up s73 P69
    have T75 := Same.trans T68 s73
    have sc76 := Same.trans (Same.refl H39) s73
    have e77 := s73 _ _ e44
    have S78 : Same (dels H39 (q36 :: ps)) (dels H72 (q36 :: ps)) := Sd (q36 :: ps) s73
    exact hY49 r71 _ _ sc76 rfl hw
  have m88 := nin_of n83 P25
  have z89 := Same.free T26 n83
  have P90 := dom_up s84 P25
  have T91 := Same.trans T26 s84
  have P92 := dom_new e85 P90
  have S93 : Same (dels H23 ps) (dels H80 (q79 :: ps)) := Sn ps s84 n83
  have h94 : (pList pInt).rep (dels H80 ps) (.ref q79) zs82 := oFrzG e85 m88 (ss_skip ss_refl) r86 l87
  have P95 := dom_ss (ss_skip ss_refl) P92
  have S96 : Same (dels H80 (q79 :: ps)) (dels H80 ps) := Ss (ss_skip ss_refl)
  refine gN (σ' := [some v_dr, some v_at, some (.int x_p), some (.int x_n), some (.int r1), some (.int s21), some (.ref q79), none]) rfl (tRet_j (tCallS_i (tCons_i (tVar_i (v := (.int x_p)) rfl (tCons_i (tVar_i (v := (.int x_n)) rfl (tCons_i (tVar_i (v := (.int r1)) rfl (tCons_i (tVar_i (v := (.int s21)) rfl (tCons_i (tVar_i (v := (.ref q79)) rfl (tNil_i (?_))))))))))))))
  refine ⟨ps, x_p, x_n, r1, s21, zs82, (.ref q79), rfl, P95, h94, _, _, hw, fun r97 hw H98 q100 us101 s99 n102 e103 r104 l105 => ?_, (fun er hc hw => errUp T91 ss_refl (he er (absurd hc (List.not_mem_nil)) hw))⟩
  have m106 := nin_of n102 P95
  have z107 := Same.free T91 n102
  have P108 := dom_up s99 P95
  have T109 := Same.trans T91 s99
  have P110 := dom_new e103 P108
  have S111 : Same (dels H80 ps) (dels H98 (q100 :: ps)) := Sn ps s99 n102
  exact hk _ hw _ _ _ T109 z107 e103 r104 l105
def sp_ulaw_any_cells (K : PySem.W.Frag) (t : Tab) : Sp := fun vs H Q E => ∃ (ps : List Addr) (x_dr : Unit) (x_at : Unit) (x_p : Int) (x_n : Int) (v_dr : V) (v_at : V), vs = [v_dr, v_at, (.int x_p), (.int x_n)] ∧ (∀ x ∈ ps, H x ≠ none) ∧ (pDraw K).rep (dels H ps) v_dr x_dr ∧ pCell.rep (dels H ps) v_at x_at ∧ ∃ (k : (List Int) → Prop) (e : PErr → Prop), w_ulaw_any_cells x_dr x_at x_p x_n k e ∧ (∀ r, k r → RetO ps pInt H Q r) ∧ (∀ er, er.cls ∈ ([] : List Nat) → e er → ErrK ps t.cl H E er)
theorem len_ulaw_any_cells : ∀ vs H Q E, sp_ulaw_any_cells K t vs H Q E → vs.length = (["dr", "at", "p", "n"] : List Str).length := by
  rintro vs H Q E ⟨_, _, _, _, _, _, _, rfl, _⟩
  rfl
theorem ok_ulaw_any_cells (T : Txt K mg t) : FnOk P w K mg base (L2.CX P w) 5 t.a_ulaw_any_cells t.fd_ulaw_any_cells ["dr", "at", "p", "n"] (sp_ulaw_any_cells K t) := by
  have G_ulaw_next := ok_ulaw_next (P := P) (w := w) (base := base) T
  have G_ulaw_residue := ok_ulaw_residue (P := P) (w := w) (base := base) T
  have G_ulaw_told := ok_ulaw_told (P := P) (w := w) (base := base) T
  refine T.F_ulaw_any_cells.okX sc_ulaw_any_cells len_ulaw_any_cells (fun cdv A outer s H vs Q E hr h => ?_)
  have nd := sc_ulaw_any_cells.nd
  refine ⟨_, (pss_cons (ps_set (i := 4) nd rfl (Or.inl rfl) (pe_callS G_ulaw_next (hr.mono (by decide)) (by rfl) T.g_ulaw_next T.F_ulaw_next.kp T.b_ulaw_next (fun σ => passAt (takes_of rfl rfl rfl rfl) σ) (pa_cons (pv 0) (pa_cons (pv 1) (pa_cons (pe_int) pa_nil)))))
    (pss_cons (ps_if (pt_cmpR (op_eqUK K hr) (pv 4) (pe_int) (by first | exact nomark _ | rfl)) (pss_one (ps_ret (pe_lc (own := [("k", 9)]) (g := gName 9) (tt := tYes) rfl nd (pi_range1 (by rfl) T.n_range (pa_cons (pe_op op_shl (pe_int) (pv 3)) pa_nil)) (blkOk_by (N := ["dr", "at", "p", "n", "kind", "cells", "spot", "by", "more", "k"]) (sc := defScope s_ulaw_any_cells) (by decide +kernel)) (fun _ _ _ _ _ => (pg_name (i := 9) nd rfl (Or.inl rfl))) (fun _ _ _ _ _ => pts_nil) (fun _ _ _ _ _ => (pe_call G_ulaw_residue (hr.mono (by decide)) (by rfl) T.g_ulaw_residue T.F_ulaw_residue.kp T.b_ulaw_residue .nil passL (pa_cons (pv 0) (pa_cons (pv 1) (pa_cons (pv 2) pa_nil)))))))) pss_nil)
    (pss_cons (ps_set (i := 5) nd rfl (Or.inr rfl) (pe_callS G_ulaw_told (hr.mono (by decide)) (by rfl) T.g_ulaw_told T.F_ulaw_told.kp T.b_ulaw_told (fun σ => passAt (takes_of rfl rfl rfl rfl) σ) (pa_cons (pv 0) (pa_cons (pv 1) (pa_cons (pv 2) (pa_cons (pv 3) pa_nil))))))
    (pss_cons (ps_set (i := 6) nd rfl (Or.inl rfl) (pe_callS G_ulaw_next (hr.mono (by decide)) (by rfl) T.g_ulaw_next T.F_ulaw_next.kp T.b_ulaw_next (fun σ => passAt (takes_of rfl rfl rfl rfl) σ) (pa_cons (pv 0) (pa_cons (pv 1) (pa_cons (pe_op op_shl (pe_int) (pv 3)) pa_nil)))))
    (pss_cons (ps_set (i := 7) nd rfl (Or.inl rfl) (pe_op (op_addUK K) (pe_int) (pe_callS G_ulaw_next (hr.mono (by decide)) (by rfl) T.g_ulaw_next T.F_ulaw_next.kp T.b_ulaw_next (fun σ => passAt (takes_of rfl rfl rfl rfl) σ) (pa_cons (pv 0) (pa_cons (pv 1) (pa_cons (pe_op op_sub (pv 2) (pe_int)) pa_nil))))))
    (pss_cut (ps_if (pt_cmpR (op_eqUK K hr) (pv 4) (pe_int) (by first | exact nomark _ | rfl)) (pss_one (ps_asg (pe_op op_modP (pe_callTy call_int1D (by rfl) T.n_int (by decide +kernel) (pa_cons (pe_op (op_addUK K) (pe_ix (ix_UK K) (pv 5) (pv 6) (fun _ _ => rfl)) (pv 7)) pa_nil)) (pv 2)) (pg_sub (pv 5) (pv 6) set_U))) pss_nil)
    (pss_cut (ps_if (pt_cmpR (op_eqUK K hr) (pv 4) (pe_int) (by first | exact nomark _ | rfl)) (pss_cons (ps_set (i := 8) nd rfl (Or.inr rfl) (pe_callS G_ulaw_told (hr.mono (by decide)) (by rfl) T.g_ulaw_told T.F_ulaw_told.kp T.b_ulaw_told (fun σ => passAt (takes_of rfl rfl rfl rfl) σ) (pa_cons (pv 0) (pa_cons (pv 1) (pa_cons (pv 2) (pa_cons (pv 3) pa_nil))))))
    (pss_one (ps_set (i := 5) nd rfl (Or.inr rfl) (pe_lc (own := [("k", 9)]) (g := gName 9) (tt := tYes) rfl nd (pi_range1 (by rfl) T.n_range (pa_cons (pe_op op_shl (pe_int) (pv 3)) pa_nil)) (blkOk_by (N := ["dr", "at", "p", "n", "kind", "cells", "spot", "by", "more", "k"]) (sc := defScope s_ulaw_any_cells) (by decide +kernel)) (fun _ _ _ _ _ => (pg_name (i := 9) nd rfl (Or.inl rfl))) (fun _ _ _ _ _ => pts_nil) (fun _ _ _ _ _ => (pe_op op_modP (pe_callTy call_int1D (by rfl) T.n_int (by decide +kernel) (pa_cons (pe_op (op_addUK K) (pe_ix (ix_UK K) (pv 5) (pv 9) (fun _ _ => rfl)) (pe_ix (ix_UK K) (pv 8) (pv 9) (fun _ _ => rfl))) pa_nil)) (pv 2))))))) pss_nil)
    (pss_cut (ps_if (pt_cmpR (op_eqUK K hr) (pv 4) (pe_int) (by first | exact nomark _ | rfl)) (pss_cons (ps_set (i := 5) nd rfl (Or.inr rfl) (pe_lc (own := [("k", 9)]) (g := gName 9) (tt := tYes) rfl nd (pi_range1 (by rfl) T.n_range (pa_cons (pe_op op_shl (pe_int) (pv 3)) pa_nil)) (blkOk_by (N := ["dr", "at", "p", "n", "kind", "cells", "spot", "by", "more", "k"]) (sc := defScope s_ulaw_any_cells) (by decide +kernel)) (fun _ _ _ _ _ => (pg_name (i := 9) nd rfl (Or.inl rfl))) (fun _ _ _ _ _ => pts_nil) (fun _ _ _ _ _ => (pe_int))))
    (pss_cons (ps_asg (pv 7) (pg_sub (pv 5) (pv 6) set_U))
    (pss_cons (ps_set (i := 6) nd rfl (Or.inl rfl) (pe_callS G_ulaw_next (hr.mono (by decide)) (by rfl) T.g_ulaw_next T.F_ulaw_next.kp T.b_ulaw_next (fun σ => passAt (takes_of rfl rfl rfl rfl) σ) (pa_cons (pv 0) (pa_cons (pv 1) (pa_cons (pe_op op_shl (pe_int) (pv 3)) pa_nil)))))
    (pss_one (ps_asg (pe_op (op_addUK K) (pe_int) (pe_callS G_ulaw_next (hr.mono (by decide)) (by rfl) T.g_ulaw_next T.F_ulaw_next.kp T.b_ulaw_next (fun σ => passAt (takes_of rfl rfl rfl rfl) σ) (pa_cons (pv 0) (pa_cons (pv 1) (pa_cons (pe_op op_sub (pv 2) (pe_int)) pa_nil))))) (pg_sub (pv 5) (pv 6) set_U)))))) pss_nil)
    (pss_one (ps_ret (pv 5))))))))))), ?_⟩
  obtain ⟨ps, x_dr, x_at, x_p, x_n, v_dr, v_at, rfl, P0, h_dr, h_at, k, e, hw, hk, he⟩ := h
  unfold w_ulaw_any_cells at hw
  refine tSeq_j (tAsg_j (tCallS_i (tCons_i (tVar_i (v := v_dr) rfl (tCons_i (tVar_i (v := v_at) rfl (tCons_i (tC_i (tNil_i (?_))))))))))
  refine ⟨ps, x_dr, x_at, (6 : Int), v_dr, v_at, rfl, P0, h_dr, h_at, _, _, hw, fun r1 hw H2 s3 => ?_, (fun er hc hw => errUp (Same.refl H) ss_refl (he er (absurd hc (List.not_mem_nil)) hw))⟩
  have P4 := dom_up s3 P0
  have T5 := Same.trans (Same.refl H) s3
  have S6 : Same (dels H ps) (dels H2 ps) := Sd ps s3
  refine gN (σ' := [some v_dr, some v_at, some (.int x_p), some (.int x_n), some (.int r1), none, none, none, none, none]) rfl (tSeq_j (tIfS_j (tTest_i (tOp_i (tVar_i (v := (.int r1)) rfl (tC_i (rEqU_i (IsBl_i (?_)))))))))
  refine Br_two hw (fun c7 hw => ?_) (fun c7 hw => ?_)
  · refine tRet_j (tLc_i (w1 (tCons_i (tOp_i (tC_i (tVar_i (v := (.int x_n)) rfl (rI_i hw.1 (tNil_i (rgW1 hw.2.1 (?_))))))))))
    refine lcR0 (pb := pInt) (ps := ps) hw.2.2.2 hw.2.2.1 P4 (fun q8 d9 H11 n13 s14 ⟨acc15, e16⟩ nx18 hw Y19 N20 hY21 hN22 => ?_) (fun q51 H52 acc53 zs54 n55 s56 e57 r58 l59 hw => ?_)
    · have m37 := nin_of n13 P4
      have z38 := Same.free T5 n13
      have P39 := dom_up s14 P4
      have T40 := Same.trans T5 s14
      have P41 := dom_new e16 P39
      have S42 : Same (dels H2 ps) (dels H11 (q8 :: ps)) := Sn ps s14 n13
      refine gN (σ' := [some v_dr, some v_at, some (.int x_p), some (.int x_n), some (.int r1), none, none, none, none, some (.int d9)]) rfl (wipe_i rfl (tYes_i (Br_t (tCall_i (tCons_i (tVar_i (v := v_dr) rfl (tCons_i (tVar_i (v := v_at) rfl (tCons_i (tVar_i (v := (.int x_p)) rfl (tNil_i (?_))))))))))))
      refine ⟨(q8 :: ps), x_dr, x_at, x_p, v_dr, v_at, rfl, P41, ((pDraw K).mono (S6.trans S42) h_dr), (pCell.mono (S6.trans S42) h_at), _, _, hw, fun r43 hw H44 s45 => ?_, (fun er _ hw => False.elim hw)⟩
      have P46 := dom_up s45 P41
      have T47 := Same.trans T40 s45
      have sc48 := Same.trans (Same.refl H11) s45
      have e49 := s45 _ _ e16
      have S50 : Same (dels H11 (q8 :: ps)) (dels H44 (q8 :: ps)) := Sd (q8 :: ps) s45
      exact hY21 r43 _ _ sc48 rfl hw
    have m60 := nin_of n55 P4
    have z61 := Same.free T5 n55
    have P62 := dom_up s56 P4
    have T63 := Same.trans T5 s56
    have P64 := dom_new e57 P62
    have S65 : Same (dels H2 ps) (dels H52 (q51 :: ps)) := Sn ps s56 n55
    exact hk _ hw _ _ _ T63 z61 e57 r58 l59
  · refine tNext_j (tSeq_j (tAsg_j (tCallS_i (tCons_i (tVar_i (v := v_dr) rfl (tCons_i (tVar_i (v := v_at) rfl (tCons_i (tVar_i (v := (.int x_p)) rfl (tCons_i (tVar_i (v := (.int x_n)) rfl (tNil_i (?_)))))))))))))
    refine ⟨ps, x_dr, x_at, x_p, x_n, v_dr, v_at, rfl, P4, ((pDraw K).mono S6 h_dr), (pCell.mono S6 h_at), _, _, hw, fun r66 hw H67 q69 us70 s68 n71 e72 r73 l74 => ?_, (fun er hc hw => errUp T5 ss_refl (he er (absurd hc (List.not_mem_nil)) hw))⟩
    have m75 := nin_of n71 P4
    have z76 := Same.free T5 n71
    have P77 := dom_up s68 P4
    have T78 := Same.trans T5 s68
    have P79 := dom_new e72 P77
    have S80 : Same (dels H2 ps) (dels H67 (q69 :: ps)) := Sn ps s68 n71
    refine gN (σ' := [some v_dr, some v_at, some (.int x_p), some (.int x_n), some (.int r1), some (.ref q69), none, none, none, none]) rfl (?_)
    refine tSeq_j (tAsg_j (tCallS_i (tCons_i (tVar_i (v := v_dr) rfl (tCons_i (tVar_i (v := v_at) rfl (tCons_i (tOp_i (tC_i (tVar_i (v := (.int x_n)) rfl (rI_i hw.1 (tNil_i (?_)))))))))))))
    refine ⟨(q69 :: ps), x_dr, x_at, ((1 : Int) * 2 ^ Int.toNat x_n), v_dr, v_at, rfl, P79, ((pDraw K).mono (S6.trans S80) h_dr), (pCell.mono (S6.trans S80) h_at), _, _, hw.2, fun r81 hw H82 s83 => ?_, (fun er hc hw => errUp T78 (ss_skip ss_refl) (he er (absurd hc (List.not_mem_nil)) hw))⟩
    have P84 := dom_up s83 P79
    have T85 := Same.trans T78 s83
    have e86 := s83 _ _ e72
    have S87 : Same (dels H67 (q69 :: ps)) (dels H82 (q69 :: ps)) := Sd (q69 :: ps) s83
    refine gN (σ' := [some v_dr, some v_at, some (.int x_p), some (.int x_n), some (.int r1), some (.ref q69), some (.int r81), none, none, none]) rfl (tSeq_j (tAsg_j (tOp_i (tC_i (tCallS_i (tCons_i (tVar_i (v := v_dr) rfl (tCons_i (tVar_i (v := v_at) rfl (tCons_i (tOp_i (tVar_i (v := (.int x_p)) rfl (tC_i (rI0_i (tNil_i (?_))))))))))))))))
    refine ⟨(q69 :: ps), x_dr, x_at, (x_p - (1 : Int)), v_dr, v_at, rfl, P84, ((pDraw K).mono (S6.trans (S80.trans S87)) h_dr), (pCell.mono (S6.trans (S80.trans S87)) h_at), _, _, hw, fun r88 hw H89 s90 => ?_, (fun er hc hw => errUp T85 (ss_skip ss_refl) (he er (absurd hc (List.not_mem_nil)) hw))⟩
    have P91 := dom_up s90 P84
    have T92 := Same.trans T85 s90
    have e93 := s90 _ _ e86
    have S94 : Same (dels H82 (q69 :: ps)) (dels H89 (q69 :: ps)) := Sd (q69 :: ps) s90
    refine rAddU_i (?_)
    refine asgIL (f := V.int) (e := ((1 : Int) + r88)) (g := fun y95 => [some v_dr, some v_at, some (.int x_p), some (.int x_n), some (.int r1), some (.ref q69), some (.int r81), some (.int y95), none, none]) hw (fun _ => rfl) (fun y95 hw => ?_)
    refine cutW (S := (List Int)) hw (fun (s109 : (List Int)) (σ112 : L2.St) (H111 : Hp) => ∃ (us116 : List V), σ112 = [some v_dr, some v_at, some (.int x_p), some (.int x_n), some (.int r1), some (.ref q69), some (.int r81), some (.int y95), none, none] ∧ Same (dels H89 (q69 :: ps)) (dels H111 (q69 :: ps)) ∧ (∀ x ∈ (q69 :: ps), H111 x ≠ none) ∧ Same H H111 ∧ H111 q69 = some (.lst us116) ∧ AllR pInt (dels H111 (q69 :: ps)) us116 s109 ∧ (s109).length ≤ LIM ∧ True) (fun hw => ?_) (fun s109 σ112 H111 hr hw => ?_)
    · refine tIfS_j (tTest_i (tOp_i (tVar_i (v := (.int r1)) rfl (tC_i (rEqU_i (IsBl_i (?_)))))))
      refine Br_two hw (fun c121 hw => ?_) (fun c121 hw => ?_)
      · refine tAsg_j (tOp_i (tCB_i (tCons_i (tOp_i (tOp_i (tVar_i (v := (.ref q69)) rfl (tVar_i (v := (.int r81)) rfl (ixI (sqO e93 r73 l74) hw.1 (tVar_i (v := (.int y95)) rfl (rAddU_i (tNil_i (rInt1_i (tVar_i (v := (.int x_p)) rfl (rModP_i hw.2.1 (gSub_i (tVar_i (v := (.ref q69)) rfl (tVar_i (v := (.int r81)) rfl (setO (p := pInt) (d := (((ixG r66 r81) + y95) % x_p)) e93 (AllR.mono (S87.trans S94) r73) l74 hw.2.2.1 rfl (fun H122 f123 us124 e125 r126 l127 => ?_)))))))))))))))))))
        have P128 := dom_off f123 e125 P91
        have T129 := st_off T92 f123 z76
        have S130 : Same (dels H89 (q69 :: ps)) (dels H122 (q69 :: ps)) := So (List.mem_cons_self ..) f123
        obtain ⟨y131, r132, l133, hw⟩ := letO hw.2.2.2 r126 l127
        exact ⟨y131, ⟨us124, rfl, S130, P128, T129, e125, (AllR.mono S130 r132), l133, trivial⟩, hw⟩
      · refine tNext_j (?_)
        exact ⟨r66, ⟨us70, rfl, (Same.refl _), P91, T92, e93, (AllR.mono (S87.trans S94) r73), l74, trivial⟩, hw⟩
    obtain ⟨us116, rfl, S115, P113, T114, e117, r118, l119, _⟩ := hr
    refine cutW (S := (List Int)) hw (fun (s199 : (List Int)) (σ202 : L2.St) (H201 : Hp) => ∃ (j203 : Option V) (q207 : Addr) (us208 : List V), σ202 = [some v_dr, some v_at, some (.int x_p), some (.int x_n), some (.int r1), some (.ref q207), some (.int r81), some (.int y95), j203, none] ∧ Same (dels H111 (q69 :: ps)) (dels H201 (q207 :: ps)) ∧ (∀ x ∈ (q207 :: ps), H201 x ≠ none) ∧ Same H H201 ∧ H201 q207 = some (.lst us208) ∧ AllR pInt (dels H201 (q207 :: ps)) us208 s199 ∧ (s199).length ≤ LIM ∧ q207 ∉ ps ∧ H q207 = none ∧ True) (fun hw => ?_) (fun s199 σ202 H201 hr hw => ?_)
    · refine tIfS_j (tTest_i (tOp_i (tVar_i (v := (.int r1)) rfl (tC_i (rEqU_i (IsBl_i (?_)))))))
      refine Br_two hw (fun c215 hw => ?_) (fun c215 hw => ?_)
      · refine tSeq_j (tAsg_j (tCallS_i (tCons_i (tVar_i (v := v_dr) rfl (tCons_i (tVar_i (v := v_at) rfl (tCons_i (tVar_i (v := (.int x_p)) rfl (tCons_i (tVar_i (v := (.int x_n)) rfl (tNil_i (?_))))))))))))
        refine ⟨(q69 :: ps), x_dr, x_at, x_p, x_n, v_dr, v_at, rfl, P113, ((pDraw K).mono (S6.trans (S80.trans (S87.trans (S94.trans S115)))) h_dr), (pCell.mono (S6.trans (S80.trans (S87.trans (S94.trans S115)))) h_at), _, _, hw, fun r216 hw H217 q219 us220 s218 n221 e222 r223 l224 => ?_, (fun er hc hw => errUp T114 (ss_skip ss_refl) (he er (absurd hc (List.not_mem_nil)) hw))⟩
        have m225 := nin_of n221 P113
        have z226 := Same.free T114 n221
        have P227 := dom_up s218 P113
        have T228 := Same.trans T114 s218
        have e229 := s218 _ _ e117
        have P230 := dom_new e222 P227
        have S231 : Same (dels H111 (q69 :: ps)) (dels H217 (q219 :: q69 :: ps)) := Sn (q69 :: ps) s218 n221
        have h232 : (pList pInt).rep (dels H217 (q69 :: ps)) (.ref q219) r216 := oFrzG e222 m225 (ss_skip ss_refl) r223 l224
        have P233 := dom_ss (ss_skip ss_refl) P230
        have S234 : Same (dels H217 (q219 :: q69 :: ps)) (dels H217 (q69 :: ps)) := Ss (ss_skip ss_refl)
        refine gN (σ' := [some v_dr, some v_at, some (.int x_p), some (.int x_n), some (.int r1), some (.ref q69), some (.int r81), some (.int y95), some (.ref q219), none]) rfl (tAsg_j (tLc_i (w1 (tCons_i (tOp_i (tC_i (tVar_i (v := (.int x_n)) rfl (rI_i hw.1 (tNil_i (rgW1 hw.2.1 (?_)))))))))))
        refine lcR0 (pb := pInt) (ps := (q69 :: ps)) hw.2.2.2 hw.2.2.1 P233 (fun q235 d236 H238 n240 s241 ⟨acc242, e243⟩ nx245 hw Y246 N247 hY248 hN249 => ?_) (fun q264 H265 acc266 zs267 n268 s269 e270 r271 l272 hw => ?_)
        · have m257 := nin_of n240 P233
          have z258 := Same.free T228 n240
          have P259 := dom_up s241 P233
          have T260 := Same.trans T228 s241
          have e261 := s241 _ _ e229
          have P262 := dom_new e243 P259
          have S263 : Same (dels H217 (q69 :: ps)) (dels H238 (q235 :: q69 :: ps)) := Sn (q69 :: ps) s241 n240
          refine gN (σ' := [some v_dr, some v_at, some (.int x_p), some (.int x_n), some (.int r1), some (.ref q69), some (.int r81), some (.int y95), some (.ref q219), some (.int d236)]) rfl (wipe_i rfl (tYes_i (Br_t (tOp_i (tCB_i (tCons_i (tOp_i (tOp_i (tVar_i (v := (.ref q69)) rfl (tVar_i (v := (.int d236)) rfl (ixI (sqO e261 r118 l119) hw.1 (tOp_i (tVar_i (v := (.ref q219)) rfl (tVar_i (v := (.int d236)) rfl (ixI (sqL (Same.trans S263 Su) h232) hw.2.1 (rAddU_i (tNil_i (rInt1_i (tVar_i (v := (.int x_p)) rfl (rModP_i hw.2.2.1 (?_)))))))))))))))))))))
          exact hY248 (((ixG s109 d236) + (ixG r216 d236)) % x_p) _ _ (Same.refl H238) rfl hw.2.2.2
        have m273 := nin_of n268 P233
        have z274 := Same.free T228 n268
        have P275 := dom_up s269 P233
        have T276 := Same.trans T228 s269
        have e277 := s269 _ _ e229
        have P278 := dom_new e270 P275
        have S279 : Same (dels H217 (q69 :: ps)) (dels H265 (q264 :: q69 :: ps)) := Sn (q69 :: ps) s269 n268
        refine gN (σ' := [some v_dr, some v_at, some (.int x_p), some (.int x_n), some (.int r1), some (.ref q264), some (.int r81), some (.int y95), some (.ref q219), none]) rfl (?_)
        have P280 := dom_ss (ss_keep (ss_skip ss_refl)) P278
        have S281 : Same (dels H265 (q264 :: q69 :: ps)) (dels H265 (q264 :: ps)) := Ss (ss_keep (ss_skip ss_refl))
        exact ⟨zs267, ⟨_, q264, acc266, rfl, (S231.trans (S234.trans (S279.trans S281))), P280, T276, e270, (AllR.mono S281 r271), l272, (nin_ss m273 (ss_skip ss_refl)), z274, trivial⟩, hw⟩
      · refine tNext_j (?_)
        exact ⟨s109, ⟨_, q69, us116, rfl, (Same.refl _), P113, T114, e117, r118, l119, m75, z76, trivial⟩, hw⟩
    obtain ⟨j203, q207, us208, rfl, S206, P204, T205, e209, r210, l211, m212, z213, _⟩ := hr
    refine cutW (S := (List Int)) hw (fun (s370 : (List Int)) (σ373 : L2.St) (H372 : Hp) => ∃ (j374 : Option V) (q378 : Addr) (us379 : List V), σ373 = [some v_dr, some v_at, some (.int x_p), some (.int x_n), some (.int r1), some (.ref q378), j374, some (.int y95), j203, none] ∧ Same (dels H201 (q207 :: ps)) (dels H372 (q378 :: ps)) ∧ (∀ x ∈ (q378 :: ps), H372 x ≠ none) ∧ Same H H372 ∧ H372 q378 = some (.lst us379) ∧ AllR pInt (dels H372 (q378 :: ps)) us379 s370 ∧ (s370).length ≤ LIM ∧ q378 ∉ ps ∧ H q378 = none ∧ True) (fun hw => ?_) (fun s370 σ373 H372 hr hw => ?_)
    · refine tIfS_j (tTest_i (tOp_i (tVar_i (v := (.int r1)) rfl (tC_i (rEqU_i (IsBl_i (?_)))))))
      refine Br_two hw (fun c386 hw => ?_) (fun c386 hw => ?_)
      · refine tSeq_j (tAsg_j (tLc_i (w1 (tCons_i (tOp_i (tC_i (tVar_i (v := (.int x_n)) rfl (rI_i hw.1 (tNil_i (rgW1 hw.2.1 (?_)))))))))))
        refine lcR0 (pb := pInt) (ps := (q207 :: ps)) hw.2.2.2 hw.2.2.1 P204 (fun q387 d388 H390 n392 s393 ⟨acc394, e395⟩ nx397 hw Y398 N399 hY400 hN401 => ?_) (fun q416 H417 acc418 zs419 n420 s421 e422 r423 l424 hw => ?_)
        · have m409 := nin_of n392 P204
          have z410 := Same.free T205 n392
          have P411 := dom_up s393 P204
          have T412 := Same.trans T205 s393
          have e413 := s393 _ _ e209
          have P414 := dom_new e395 P411
          have S415 : Same (dels H201 (q207 :: ps)) (dels H390 (q387 :: q207 :: ps)) := Sn (q207 :: ps) s393 n392
          refine gN (σ' := [some v_dr, some v_at, some (.int x_p), some (.int x_n), some (.int r1), some (.ref q207), some (.int r81), some (.int y95), j203, some (.int d388)]) rfl (wipe_i rfl (tYes_i (Br_t (tC_i (?_)))))
          exact hY400 (0 : Int) _ _ (Same.refl H390) rfl hw
        have m425 := nin_of n420 P204
        have z426 := Same.free T205 n420
        have P427 := dom_up s421 P204
        have T428 := Same.trans T205 s421
        have e429 := s421 _ _ e209
        have P430 := dom_new e422 P427
        have S431 : Same (dels H201 (q207 :: ps)) (dels H417 (q416 :: q207 :: ps)) := Sn (q207 :: ps) s421 n420
        refine gN (σ' := [some v_dr, some v_at, some (.int x_p), some (.int x_n), some (.int r1), some (.ref q416), some (.int r81), some (.int y95), j203, none]) rfl (?_)
        refine tSeq_j (tAsg_j (tVar_i (v := (.int y95)) rfl (gSub_i (tVar_i (v := (.ref q416)) rfl (tVar_i (v := (.int r81)) rfl (setO (p := pInt) (d := y95) e422 r423 l424 hw.1 rfl (fun H432 f433 us434 e435 r436 l437 => ?_)))))))
        have e438 := Off.at f433 e429 (ne_nin m425 (List.mem_cons_self ..))
        have P439 := dom_off f433 e435 P430
        have T440 := st_off T428 f433 z426
        have S441 : Same (dels H417 (q416 :: q207 :: ps)) (dels H432 (q416 :: q207 :: ps)) := So (List.mem_cons_self ..) f433
        obtain ⟨y442, r443, l444, hw⟩ := letO hw.2 r436 l437
        refine tSeq_j (tAsg_j (tCallS_i (tCons_i (tVar_i (v := v_dr) rfl (tCons_i (tVar_i (v := v_at) rfl (tCons_i (tOp_i (tC_i (tVar_i (v := (.int x_n)) rfl (rI_i hw.1 (tNil_i (?_)))))))))))))
        refine ⟨(q416 :: q207 :: ps), x_dr, x_at, ((1 : Int) * 2 ^ Int.toNat x_n), v_dr, v_at, rfl, P439, ((pDraw K).mono (S6.trans (S80.trans (S87.trans (S94.trans (S115.trans (S206.trans (S431.trans S441))))))) h_dr), (pCell.mono (S6.trans (S80.trans (S87.trans (S94.trans (S115.trans (S206.trans (S431.trans S441))))))) h_at), _, _, hw.2, fun r445 hw H446 s447 => ?_, (fun er hc hw => errUp T440 (ss_skip (ss_skip ss_refl)) (he er (absurd hc (List.not_mem_nil)) hw))⟩
        have P448 := dom_up s447 P439
        have T449 := Same.trans T440 s447
        have e450 := s447 _ _ e438
        have e451 := s447 _ _ e435
        have S452 : Same (dels H432 (q416 :: q207 :: ps)) (dels H446 (q416 :: q207 :: ps)) := Sd (q416 :: q207 :: ps) s447
        refine gN (σ' := [some v_dr, some v_at, some (.int x_p), some (.int x_n), some (.int r1), some (.ref q416), some (.int r445), some (.int y95), j203, none]) rfl (tAsg_j (tOp_i (tC_i (tCallS_i (tCons_i (tVar_i (v := v_dr) rfl (tCons_i (tVar_i (v := v_at) rfl (tCons_i (tOp_i (tVar_i (v := (.int x_p)) rfl (tC_i (rI0_i (tNil_i (?_)))))))))))))))
        refine ⟨(q416 :: q207 :: ps), x_dr, x_at, (x_p - (1 : Int)), v_dr, v_at, rfl, P448, ((pDraw K).mono (S6.trans (S80.trans (S87.trans (S94.trans (S115.trans (S206.trans (S431.trans (S441.trans S452)))))))) h_dr), (pCell.mono (S6.trans (S80.trans (S87.trans (S94.trans (S115.trans (S206.trans (S431.trans (S441.trans S452)))))))) h_at), _, _, hw, fun r453 hw H454 s455 => ?_, (fun er hc hw => errUp T449 (ss_skip (ss_skip ss_refl)) (he er (absurd hc (List.not_mem_nil)) hw))⟩
        have P456 := dom_up s455 P448
        have T457 := Same.trans T449 s455
        have e458 := s455 _ _ e450
        have e459 := s455 _ _ e451
        have S460 : Same (dels H446 (q416 :: q207 :: ps)) (dels H454 (q416 :: q207 :: ps)) := Sd (q416 :: q207 :: ps) s455
        refine rAddU_i (gSub_i (tVar_i (v := (.ref q416)) rfl (tVar_i (v := (.int r445)) rfl (setO (p := pInt) (d := ((1 : Int) + r453)) e459 (AllR.mono (S441.trans (S452.trans S460)) r443) l444 hw.1 rfl (fun H461 f462 us463 e464 r465 l466 => ?_)))))
        have e467 := Off.at f462 e458 (ne_nin m425 (List.mem_cons_self ..))
        have P468 := dom_off f462 e464 P456
        have T469 := st_off T457 f462 z426
        have S470 : Same (dels H454 (q416 :: q207 :: ps)) (dels H461 (q416 :: q207 :: ps)) := So (List.mem_cons_self ..) f462
        obtain ⟨y471, r472, l473, hw⟩ := letO hw.2 r465 l466
        have P474 := dom_ss (ss_keep (ss_skip ss_refl)) P468
        have S475 : Same (dels H461 (q416 :: q207 :: ps)) (dels H461 (q416 :: ps)) := Ss (ss_keep (ss_skip ss_refl))
        exact ⟨y471, ⟨_, q416, us463, rfl, (S431.trans (S441.trans (S452.trans (S460.trans (S470.trans S475))))), P474, T469, e464, (AllR.mono (S470.trans S475) r472), l473, (nin_ss m425 (ss_skip ss_refl)), z426, trivial⟩, hw⟩
      · refine tNext_j (?_)
        exact ⟨s199, ⟨_, q207, us208, rfl, (Same.refl _), P204, T205, e209, r210, l211, m212, z213, trivial⟩, hw⟩
    obtain ⟨j374, q378, us379, rfl, S377, P375, T376, e380, r381, l382, m383, z384, _⟩ := hr
    refine tRet_j (tVar_i (v := (.ref q378)) rfl (?_))
    exact hk _ hw _ _ _ T376 z384 e380 r381 l382
def sp_check_number (K : PySem.W.Frag) (t : Tab) : Sp := fun vs H Q E => ∃ (ps : List Addr) (x_number : Int) (x_low : Int) (x_high : Int), vs = [(.int x_number), (.int x_low), (.int x_high)] ∧ (∀ x ∈ ps, H x ≠ none) ∧ ∃ (k : Unit → Prop) (e : PErr → Prop), w_check_number x_number x_low x_high k e ∧ (∀ r, k r → RetI (fun _ => V.non) H Q r) ∧ (∀ er, er.cls ∈ ([2] : List Nat) → e er → ErrK ps t.cl H E er)
theorem len_check_number : ∀ vs H Q E, sp_check_number K t vs H Q E → vs.length = (["number", "low", "high"] : List Str).length := by
  rintro vs H Q E ⟨_, _, _, _, rfl, _⟩
  rfl
theorem ok_check_number (T : Txt K mg t) : FnOk P w K mg base (L2.CX P w) 3 t.a_check_number t.fd_check_number ["number", "low", "high"] (sp_check_number K t) := by
  have G_NumberError_init := ok_NumberError_init (P := P) (w := w) (base := base) T
  refine T.F_check_number.okX sc_check_number len_check_number (fun cdv A outer s H vs Q E hr h => ?_)
  have nd := sc_check_number.nd
  refine ⟨_, (pss_one (ps_if (PW.pt (pw_or (pt_cmpR op_lt (pv 0) (pv 1) (by first | exact nomark _ | rfl)) (pw_or1 (pt_cmpR op_gt (pv 0) (pv 2) (by first | exact nomark _ | rfl))))) (pss_one (ps_raise rfl (takes_of rfl rfl rfl rfl) (pmk_oex T.x_NumberError T.xi_NumberError T.xt_NumberError G_NumberError_init (hr.mono (by decide)) T.b_NumberError_init .nil passLF (by rfl) T.g_NumberError (pa_cons (pv 0) pa_nil)))) pss_nil)), ?_⟩
  obtain ⟨ps, x_number, x_low, x_high, rfl, P0, k, e, hw, hk, he⟩ := h
  unfold w_check_number at hw
  refine tIfS_j (tOrP (b := (decide (x_number < x_low))) (c := (decide (x_number > x_high))) (fun R hR => tTest_i (tOp_i (tVar_i (v := (.int x_number)) rfl (tVar_i (v := (.int x_low)) rfl (rI0_i (IsBl_i (hR))))))) (fun g2 R hR => tTest_i (tOp_i (tVar_i (v := (.int x_number)) rfl (tVar_i (v := (.int x_high)) rfl (rI0_i (IsBl_i (hR))))))) (?_))
  refine Br_two hw (fun c3 hw => ?_) (fun c3 hw => ?_)
  · refine tMkO_i (tCons_i (tVar_i (v := (.int x_number)) rfl (tNil_i (?_))))
    exact mkO1n T.x_NumberError T.xn_NumberError_number (raiseK (he _ (by simp) hw) (Same.refl H) P0)
  · refine tNext_j (?_)
    exact hk _ hw _ (Same.refl H)
def sp_is_odd_prime (K : PySem.W.Frag) (t : Tab) : Sp := fun vs H Q E => ∃ (ps : List Addr) (x_number : Int), vs = [(.int x_number)] ∧ (∀ x ∈ ps, H x ≠ none) ∧ ∃ (k : Bool → Prop) (e : PErr → Prop), w_is_odd_prime x_number k e ∧ (∀ r, k r → RetI V.bl H Q r) ∧ (∀ er, er.cls ∈ ([2] : List Nat) → e er → ErrK ps t.cl H E er)
theorem len_is_odd_prime : ∀ vs H Q E, sp_is_odd_prime K t vs H Q E → vs.length = (["number"] : List Str).length := by
  rintro vs H Q E ⟨_, _, rfl, _⟩
  rfl
theorem ok_is_odd_prime (T : Txt K mg t) : FnOk P w K mg base (L2.CX P w) 4 t.a_is_odd_prime t.fd_is_odd_prime ["number"] (sp_is_odd_prime K t) := by
  have G_check_number := ok_check_number (P := P) (w := w) (base := base) T
  refine T.F_is_odd_prime.okX sc_is_odd_prime len_is_odd_prime (fun cdv A outer s H vs Q E hr h => ?_)
  have nd := sc_is_odd_prime.nd
  refine ⟨_, (pss_cons (ps_expr (pe_callS G_check_number (hr.mono (by decide)) (by rfl) T.g_check_number T.F_check_number.kp T.b_check_number (fun σ => passAt (takes_of rfl rfl rfl rfl) σ) (pa_cons (pv 0) (pa_cons (pe_int) (pa_cons (pe_glob (v := .int 997) (by rfl) T.g_MOST ⟨_, rfl⟩) pa_nil)))))
    (pss_cons (ps_if (PW.pt (pw_or (pt_cmpR op_lt (pv 0) (pe_int) (by first | exact nomark _ | rfl)) (pw_or1 (pt_cmpR (op_eqUK K hr) (pe_op op_modP (pv 0) (pe_int)) (pe_int) (by first | exact nomark _ | rfl))))) (pss_one (ps_ret (pe_bl))) pss_nil)
    (pss_cons (ps_set (i := 1) nd rfl (Or.inl rfl) (pe_int))
    (pss_cons (ps_while (passes_of rfl) (pt_cmpR op_le (pe_op op_mulU (pv 1) (pv 1)) (pv 0) (by first | exact nomark _ | rfl)) (pss_cons (ps_if (pt_cmpR (op_eqUK K hr) (pe_op op_modP (pv 0) (pv 1)) (pe_int) (by first | exact nomark _ | rfl)) (pss_one (ps_ret (pe_bl))) pss_nil)
    (pss_one (ps_set (i := 1) nd rfl (Or.inl rfl) (pe_op (op_addUK K) (pv 1) (pe_int))))))
    (pss_one (ps_ret (pe_bl))))))), ?_⟩
  obtain ⟨ps, x_number, rfl, P0, k, e, hw, hk, he⟩ := h
  unfold w_is_odd_prime at hw
  refine tSeq_j (tDrop_j (tCallS_i (tCons_i (tVar_i (v := (.int x_number)) rfl (tCons_i (tC_i (tCons_i (tC_i (tNil_i (?_))))))))))
  refine ⟨ps, x_number, (0 : Int), (997 : Int), rfl, P0, _, _, hw, fun r1 hw H2 s3 => ?_, (fun er hc hw => errUp (Same.refl H) ss_refl (he er (by simp only [List.mem_cons, List.not_mem_nil, or_false] at hc ⊢; omega) hw))⟩
  have P4 := dom_up s3 P0
  have T5 := Same.trans (Same.refl H) s3
  have S6 : Same (dels H ps) (dels H2 ps) := Sd ps s3
  refine tSeq_j (tIfS_j (tOrP (b := (decide (x_number < (3 : Int)))) (c := (decide ((x_number % (2 : Int)) = (0 : Int)))) (fun R hR => tTest_i (tOp_i (tVar_i (v := (.int x_number)) rfl (tC_i (rI0_i (IsBl_i (hR))))))) (fun g8 R hR => tTest_i (tOp_i (tOp_i (tVar_i (v := (.int x_number)) rfl (tC_i (rModP_i (hw.1 g8) (tC_i (rEqU_i (IsBl_i (hR)))))))))) (?_)))
  refine Br_two hw.2 (fun c9 hw => ?_) (fun c9 hw => ?_)
  · refine tRet_j (tC_i (?_))
    exact hk _ hw _ T5
  · refine tNext_j (tSeq_j (tAsg_j (tC_i (gN (σ' := [some (.int x_number), some (.int (3 : Int))]) rfl (tSeq_j (?_))))))
    refine whileW (s0 := ((3 : Int))) hw (fun (s17 : Int) (σ19 : L2.St) (H18 : Hp) => σ19 = [some (.int x_number), some (.int s17)] ∧ Same (dels H2 ps) (dels H18 ps) ∧ (∀ x ∈ ps, H18 x ≠ none) ∧ Same H H18 ∧ True) ⟨rfl, (Same.refl _), P4, T5, trivial⟩ (fun s17 σ19 H18 nx23 WB25 hr hw hWB26 => ?_)
    obtain ⟨rfl, S22, P20, T21, _⟩ := hr
    refine tTest_i (tOp_i (tOp_i (tVar_i (v := (.int s17)) rfl (tVar_i (v := (.int s17)) rfl (rMulU_i hw.1 (tVar_i (v := (.int x_number)) rfl (rI0_i (IsBl_i (?_)))))))))
    refine Br_two hw.2 (fun c27 hw => hWB26 _ _ ?_) (fun c27 hw => ?_)
    · refine tSeq_j (tIfS_j (tTest_i (tOp_i (tOp_i (tVar_i (v := (.int x_number)) rfl (tVar_i (v := (.int s17)) rfl (rModP_i hw.1 (tC_i (rEqU_i (IsBl_i (?_)))))))))))
      refine Br_two hw.2 (fun c28 hw => ?_) (fun c28 hw => ?_)
      · refine tRet_j (tC_i (?_))
        exact hk _ hw _ T21
      · refine tNext_j (tAsg_j (tOp_i (tVar_i (v := (.int s17)) rfl (tC_i (rAddU_i (?_))))))
        refine asgIL (f := V.int) (e := (s17 + (2 : Int))) (g := fun y29 => [some (.int x_number), some (.int y29)]) hw (fun _ => rfl) (fun y29 hw => ?_)
        exact nxS_i (s := (y29)) ⟨rfl, S22, P20, T21, trivial⟩ hw
    refine tRet_j (tC_i (?_))
    exact hk _ hw _ T21
def sp_look_prime (K : PySem.W.Frag) (t : Tab) : Sp := fun vs H Q E => ∃ (ps : List Addr) (x_prime : Int), vs = [(.int x_prime)] ∧ (∀ x ∈ ps, H x ≠ none) ∧ ∃ (k : Unit → Prop) (e : PErr → Prop), w_look_prime x_prime k e ∧ (∀ r, k r → RetI (fun _ => V.non) H Q r) ∧ (∀ er, er.cls ∈ ([2] : List Nat) → e er → ErrK ps t.cl H E er)
theorem len_look_prime : ∀ vs H Q E, sp_look_prime K t vs H Q E → vs.length = (["prime"] : List Str).length := by
  rintro vs H Q E ⟨_, _, rfl, _⟩
  rfl
theorem ok_look_prime (T : Txt K mg t) : FnOk P w K mg base (L2.CX P w) 5 t.a_look_prime t.fd_look_prime ["prime"] (sp_look_prime K t) := by
  have G_is_odd_prime := ok_is_odd_prime (P := P) (w := w) (base := base) T
  have G_NumberError_init := ok_NumberError_init (P := P) (w := w) (base := base) T
  refine T.F_look_prime.okX sc_look_prime len_look_prime (fun cdv A outer s H vs Q E hr h => ?_)
  have nd := sc_look_prime.nd
  refine ⟨_, (pss_one (ps_if (pt_not (pt_truthK K (pe_callS G_is_odd_prime (hr.mono (by decide)) (by rfl) T.g_is_odd_prime T.F_is_odd_prime.kp T.b_is_odd_prime (fun σ => passAt (takes_of rfl rfl rfl rfl) σ) (pa_cons (pv 0) pa_nil)))) (pss_one (ps_raise rfl (takes_of rfl rfl rfl rfl) (pmk_oex T.x_NumberError T.xi_NumberError T.xt_NumberError G_NumberError_init (hr.mono (by decide)) T.b_NumberError_init .nil passLF (by rfl) T.g_NumberError (pa_cons (pv 0) pa_nil)))) pss_nil)), ?_⟩
  obtain ⟨ps, x_prime, rfl, P0, k, e, hw, hk, he⟩ := h
  unfold w_look_prime at hw
  refine tIfS_j (tNot_i (tTruth_i (tCallS_i (tCons_i (tVar_i (v := (.int x_prime)) rfl (tNil_i (?_)))))))
  refine ⟨ps, x_prime, rfl, P0, _, _, hw, fun r1 hw H2 s3 => ?_, (fun er hc hw => errUp (Same.refl H) ss_refl (he er (by simp only [List.mem_cons, List.not_mem_nil, or_false] at hc ⊢; omega) hw))⟩
  have P4 := dom_up s3 P0
  have T5 := Same.trans (Same.refl H) s3
  have S6 : Same (dels H ps) (dels H2 ps) := Sd ps s3
  refine Tru_b (?_)
  refine Br_two hw (fun c7 hw => ?_) (fun c7 hw => ?_)
  · refine tMkO_i (tCons_i (tVar_i (v := (.int x_prime)) rfl (tNil_i (?_))))
    exact mkO1n T.x_NumberError T.xn_NumberError_number (raiseK (he _ (by simp) hw) T5 P4)
  · refine tNext_j (?_)
    exact hk _ hw _ T5
def sp_look_number (K : PySem.W.Frag) (t : Tab) : Sp := fun vs H Q E => ∃ (ps : List Addr) (x_number : Int) (x_low : Int) (x_high : Int), vs = [(.int x_number), (.int x_low), (.int x_high)] ∧ (∀ x ∈ ps, H x ≠ none) ∧ ∃ (k : Unit → Prop) (e : PErr → Prop), w_look_number x_number x_low x_high k e ∧ (∀ r, k r → RetI (fun _ => V.non) H Q r) ∧ (∀ er, er.cls ∈ ([2] : List Nat) → e er → ErrK ps t.cl H E er)
theorem len_look_number : ∀ vs H Q E, sp_look_number K t vs H Q E → vs.length = (["number", "low", "high"] : List Str).length := by
  rintro vs H Q E ⟨_, _, _, _, rfl, _⟩
  rfl
theorem ok_look_number (T : Txt K mg t) : FnOk P w K mg base (L2.CX P w) 3 t.a_look_number t.fd_look_number ["number", "low", "high"] (sp_look_number K t) := by
  have G_NumberError_init := ok_NumberError_init (P := P) (w := w) (base := base) T
  refine T.F_look_number.okX sc_look_number len_look_number (fun cdv A outer s H vs Q E hr h => ?_)
  have nd := sc_look_number.nd
  refine ⟨_, (pss_one (ps_if (PW.pt (pw_or (pt_cmpR op_lt (pv 0) (pv 1) (by first | exact nomark _ | rfl)) (pw_or1 (pt_cmpR op_gt (pv 0) (pv 2) (by first | exact nomark _ | rfl))))) (pss_one (ps_raise rfl (takes_of rfl rfl rfl rfl) (pmk_oex T.x_NumberError T.xi_NumberError T.xt_NumberError G_NumberError_init (hr.mono (by decide)) T.b_NumberError_init .nil passLF (by rfl) T.g_NumberError (pa_cons (pv 0) pa_nil)))) pss_nil)), ?_⟩
  obtain ⟨ps, x_number, x_low, x_high, rfl, P0, k, e, hw, hk, he⟩ := h
  unfold w_look_number at hw
  refine tIfS_j (tOrP (b := (decide (x_number < x_low))) (c := (decide (x_number > x_high))) (fun R hR => tTest_i (tOp_i (tVar_i (v := (.int x_number)) rfl (tVar_i (v := (.int x_low)) rfl (rI0_i (IsBl_i (hR))))))) (fun g2 R hR => tTest_i (tOp_i (tVar_i (v := (.int x_number)) rfl (tVar_i (v := (.int x_high)) rfl (rI0_i (IsBl_i (hR))))))) (?_))
  refine Br_two hw (fun c3 hw => ?_) (fun c3 hw => ?_)
  · refine tMkO_i (tCons_i (tVar_i (v := (.int x_number)) rfl (tNil_i (?_))))
    exact mkO1n T.x_NumberError T.xn_NumberError_number (raiseK (he _ (by simp) hw) (Same.refl H) P0)
  · refine tNext_j (?_)
    exact hk _ hw _ (Same.refl H)
def sp_look_list (K : PySem.W.Frag) (t : Tab) : Sp := fun vs H Q E => ∃ (ps : List Addr) (x_items : (List Int)) (x_low : Int) (x_high : Int) (v_items : V), vs = [v_items, (.int x_low), (.int x_high)] ∧ (∀ x ∈ ps, H x ≠ none) ∧ (pList pInt).rep (dels H ps) v_items x_items ∧ ∃ (k : Unit → Prop) (e : PErr → Prop), w_look_list x_items x_low x_high k e ∧ (∀ r, k r → RetI (fun _ => V.non) H Q r) ∧ (∀ er, er.cls ∈ ([1] : List Nat) → e er → ErrK ps t.cl H E er)
theorem len_look_list : ∀ vs H Q E, sp_look_list K t vs H Q E → vs.length = (["items", "low", "high"] : List Str).length := by
  rintro vs H Q E ⟨_, _, _, _, _, rfl, _⟩
  rfl
theorem ok_look_list (T : Txt K mg t) : FnOk P w K mg base (L2.CX P w) 3 t.a_look_list t.fd_look_list ["items", "low", "high"] (sp_look_list K t) := by
  have G_SizeError_init := ok_SizeError_init (P := P) (w := w) (base := base) T
  refine T.F_look_list.okX sc_look_list len_look_list (fun cdv A outer s H vs Q E hr h => ?_)
  have nd := sc_look_list.nd
  refine ⟨_, (pss_one (ps_if (PW.pt (pw_or (pt_cmpR op_lt (pe_callB (call_lenK K) (by rfl) T.n_len (by decide +kernel) (pa_cons (pv 0) pa_nil)) (pv 1) (by first | exact nomark _ | rfl)) (pw_or1 (pt_cmpR op_gt (pe_callB (call_lenK K) (by rfl) T.n_len (by decide +kernel) (pa_cons (pv 0) pa_nil)) (pv 2) (by first | exact nomark _ | rfl))))) (pss_one (ps_raise rfl (takes_of rfl rfl rfl rfl) (pmk_oex T.x_SizeError T.xi_SizeError T.xt_SizeError G_SizeError_init (hr.mono (by decide)) T.b_SizeError_init .nil passLF (by rfl) T.g_SizeError (pa_cons (pe_callB (call_lenK K) (by rfl) T.n_len (by decide +kernel) (pa_cons (pv 0) pa_nil)) pa_nil)))) pss_nil)), ?_⟩
  obtain ⟨ps, x_items, x_low, x_high, v_items, rfl, P0, h_items, k, e, hw, hk, he⟩ := h
  unfold w_look_list at hw
  refine tIfS_j (tOrP (b := (decide ((x_items.length : Int) < x_low))) (c := (decide ((x_items.length : Int) > x_high))) (fun R hR => tTest_i (tOp_i (tCB_i (tCons_i (tVar_i (v := v_items) rfl (tNil_i (lenS (sqL Su h_items) (tVar_i (v := (.int x_low)) rfl (rI0_i (IsBl_i (hR))))))))))) (fun g2 R hR => tTest_i (tOp_i (tCB_i (tCons_i (tVar_i (v := v_items) rfl (tNil_i (lenS (sqL Su h_items) (tVar_i (v := (.int x_high)) rfl (rI0_i (IsBl_i (hR))))))))))) (?_))
  refine Br_two hw (fun c3 hw => ?_) (fun c3 hw => ?_)
  · refine tMkO_i (tCons_i (tCB_i (tCons_i (tVar_i (v := v_items) rfl (tNil_i (lenS (sqL Su h_items) (tNil_i (?_))))))))
    exact mkO1n T.x_SizeError T.xn_SizeError_count (raiseK (he _ (by simp) hw) (Same.refl H) P0)
  · refine tNext_j (?_)
    exact hk _ hw _ (Same.refl H)
def sp_look_residue (K : PySem.W.Frag) (t : Tab) : Sp := fun vs H Q E => ∃ (ps : List Addr) (x_prime : Int) (x_number : Int), vs = [(.int x_prime), (.int x_number)] ∧ (∀ x ∈ ps, H x ≠ none) ∧ ∃ (k : Unit → Prop) (e : PErr → Prop), w_look_residue x_prime x_number k e ∧ (∀ r, k r → RetI (fun _ => V.non) H Q r) ∧ (∀ er, er.cls ∈ ([2] : List Nat) → e er → ErrK ps t.cl H E er)
theorem len_look_residue : ∀ vs H Q E, sp_look_residue K t vs H Q E → vs.length = (["prime", "number"] : List Str).length := by
  rintro vs H Q E ⟨_, _, _, rfl, _⟩
  rfl
theorem ok_look_residue (T : Txt K mg t) : FnOk P w K mg base (L2.CX P w) 3 t.a_look_residue t.fd_look_residue ["prime", "number"] (sp_look_residue K t) := by
  have G_NumberError_init := ok_NumberError_init (P := P) (w := w) (base := base) T
  refine T.F_look_residue.okX sc_look_residue len_look_residue (fun cdv A outer s H vs Q E hr h => ?_)
  have nd := sc_look_residue.nd
  refine ⟨_, (pss_one (ps_if (PW.pt (pw_or (pt_cmpR op_lt (pv 1) (pe_int) (by first | exact nomark _ | rfl)) (pw_or1 (pt_cmpR op_ge (pv 1) (pv 0) (by first | exact nomark _ | rfl))))) (pss_one (ps_raise rfl (takes_of rfl rfl rfl rfl) (pmk_oex T.x_NumberError T.xi_NumberError T.xt_NumberError G_NumberError_init (hr.mono (by decide)) T.b_NumberError_init .nil passLF (by rfl) T.g_NumberError (pa_cons (pv 1) pa_nil)))) pss_nil)), ?_⟩
  obtain ⟨ps, x_prime, x_number, rfl, P0, k, e, hw, hk, he⟩ := h
  unfold w_look_residue at hw
  refine tIfS_j (tOrP (b := (decide (x_number < (0 : Int)))) (c := (decide (x_number ≥ x_prime))) (fun R hR => tTest_i (tOp_i (tVar_i (v := (.int x_number)) rfl (tC_i (rI0_i (IsBl_i (hR))))))) (fun g2 R hR => tTest_i (tOp_i (tVar_i (v := (.int x_number)) rfl (tVar_i (v := (.int x_prime)) rfl (rI0_i (IsBl_i (hR))))))) (?_))
  refine Br_two hw (fun c3 hw => ?_) (fun c3 hw => ?_)
  · refine tMkO_i (tCons_i (tVar_i (v := (.int x_number)) rfl (tNil_i (?_))))
    exact mkO1n T.x_NumberError T.xn_NumberError_number (raiseK (he _ (by simp) hw) (Same.refl H) P0)
  · refine tNext_j (?_)
    exact hk _ hw _ (Same.refl H)
def sp_look_residues (K : PySem.W.Frag) (t : Tab) : Sp := fun vs H Q E => ∃ (ps : List Addr) (x_prime : Int) (x_items : (List Int)) (x_count : Int) (v_items : V), vs = [(.int x_prime), v_items, (.int x_count)] ∧ (∀ x ∈ ps, H x ≠ none) ∧ (pList pInt).rep (dels H ps) v_items x_items ∧ ∃ (k : Unit → Prop) (e : PErr → Prop), w_look_residues x_prime x_items x_count k e ∧ (∀ r, k r → RetI (fun _ => V.non) H Q r) ∧ (∀ er, er.cls ∈ ([1, 2] : List Nat) → e er → ErrK ps t.cl H E er)
theorem len_look_residues : ∀ vs H Q E, sp_look_residues K t vs H Q E → vs.length = (["prime", "items", "count"] : List Str).length := by
  rintro vs H Q E ⟨_, _, _, _, _, rfl, _⟩
  rfl
theorem ok_look_residues (T : Txt K mg t) : FnOk P w K mg base (L2.CX P w) 4 t.a_look_residues t.fd_look_residues ["prime", "items", "count"] (sp_look_residues K t) := by
  have G_look_list := ok_look_list (P := P) (w := w) (base := base) T
  have G_look_residue := ok_look_residue (P := P) (w := w) (base := base) T
  refine T.F_look_residues.okX sc_look_residues len_look_residues (fun cdv A outer s H vs Q E hr h => ?_)
  have nd := sc_look_residues.nd
  refine ⟨_, (pss_cons (ps_expr (pe_callS G_look_list (hr.mono (by decide)) (by rfl) T.g_look_list T.F_look_list.kp T.b_look_list (fun σ => passAt (takes_of rfl rfl rfl rfl) σ) (pa_cons (pv 1) (pa_cons (pv 2) (pa_cons (pv 2) pa_nil)))))
    (pss_one (ps_for (passes_of rfl) rfl (pi_UK K (pv 1)) (pg_name (i := 3) nd rfl (Or.inl rfl))
    (pss_one (ps_expr (pe_callS G_look_residue (hr.mono (by decide)) (by rfl) T.g_look_residue T.F_look_residue.kp T.b_look_residue (fun σ => passAt (takes_of rfl rfl rfl rfl) σ) (pa_cons (pv 0) (pa_cons (pv 3) pa_nil)))))))), ?_⟩
  obtain ⟨ps, x_prime, x_items, x_count, v_items, rfl, P0, h_items, k, e, hw, hk, he⟩ := h
  unfold w_look_residues at hw
  refine tSeq_j (tDrop_j (tCallS_i (tCons_i (tVar_i (v := v_items) rfl (tCons_i (tVar_i (v := (.int x_count)) rfl (tCons_i (tVar_i (v := (.int x_count)) rfl (tNil_i (?_))))))))))
  refine ⟨ps, x_items, x_count, x_count, v_items, rfl, P0, h_items, _, _, hw, fun r1 hw H2 s3 => ?_, (fun er hc hw => errUp (Same.refl H) ss_refl (he er (by simp only [List.mem_cons, List.not_mem_nil, or_false] at hc ⊢; omega) hw))⟩
  have P4 := dom_up s3 P0
  have T5 := Same.trans (Same.refl H) s3
  have S6 : Same (dels H ps) (dels H2 ps) := Sd ps s3
  refine tFor_j (wL (tVar_i (v := v_items) rfl (?_)))
  obtain ⟨a19, us20, hv21, hS22, hr23, hl24⟩ := (lFro (K := K) ((pList pInt).mono S6 h_items))
  refine WL_v hv21 (Same.seq Su hS22) (forL (s0 := ()) hw hr23 (fun (s25 : Unit) (σ27 : L2.St) (H26 : Hp) => ∃ (j28 : Option V), σ27 = [some (.int x_prime), some v_items, some (.int x_count), j28] ∧ Same (dels H2 ps) (dels H26 ps) ∧ (∀ x ∈ ps, H26 x ≠ none) ∧ Same H H26 ∧ True) ⟨_, rfl, (Same.refl _), P4, T5, trivial⟩ (fun s25 σ27 H26 ⟨j28, _, S31, P29, T30, _⟩ => (Same.seq (Same.trans S31 Su) hS22)) (fun d34 s25 σ27 H26 x35 nx32 hr hi36 hw => ?_) (fun s38 σ40 H39 hr hw => ?_))
  · obtain ⟨j28, rfl, S31, P29, T30, _⟩ := hr
    obtain rfl : x35 = (.int d34) := hi36
    refine gN (σ' := [some (.int x_prime), some v_items, some (.int x_count), some (.int d34)]) rfl (tDrop_j (tCallS_i (tCons_i (tVar_i (v := (.int x_prime)) rfl (tCons_i (tVar_i (v := (.int d34)) rfl (tNil_i (?_))))))))
    refine ⟨ps, x_prime, d34, rfl, P29, _, _, hw, fun r45 hw H46 s47 => ?_, (fun er hc hw => errUp T30 ss_refl (he er (by simp only [List.mem_cons, List.not_mem_nil, or_false] at hc ⊢; omega) hw))⟩
    have P48 := dom_up s47 P29
    have T49 := Same.trans T30 s47
    have S50 : Same (dels H26 ps) (dels H46 ps) := Sd ps s47
    exact nxS_i (s := (())) ⟨_, rfl, (S31.trans S50), P48, T49, trivial⟩ hw
  obtain ⟨j41, rfl, S44, P42, T43, _⟩ := hr
  exact hk _ hw _ T43
def sp_Table_init (K : PySem.W.Frag) (t : Tab) : Sp := fun vs H Q E => ∃ (ps : List Addr) (x_prime : Int) (x_ends : Int) (x_entries : (List Int)) (n0 dx : Addr) (v_entries : V), vs = [.ref n0, (.int x_prime), (.int x_ends), v_entries] ∧ (∀ x ∈ ps, H x ≠ none) ∧ n0 ∈ ps ∧ H n0 = some (.ins t.c_Table dx []) ∧ (pList pInt).rep (dels H ps) v_entries x_entries ∧ ∃ (k : (Int × Int × (List Int)) → Prop) (e : PErr → Prop), w_Table_init x_prime x_ends x_entries k e ∧ (∀ r, k r → RetF ps t.c_Table dx n0 ["prime", "ends", "entries"] (rCons pInt (rCons pInt (rOne (pVt K pInt)))) H Q r) ∧ (∀ er, er.cls ∈ ([1, 2] : List Nat) → e er → ErrK ps t.cl (del H n0) E er)
theorem len_Table_init : ∀ vs H Q E, sp_Table_init K t vs H Q E → vs.length = (["self", "prime", "ends", "entries"] : List Str).length := by
  rintro vs H Q E ⟨_, _, _, _, _, _, _, rfl, _⟩
  rfl
theorem ok_Table_init (T : Txt K mg t) : FnOk P w K mg base (L2.CX P w) 6 t.a_Table_init t.fd_Table_init ["self", "prime", "ends", "entries"] (sp_Table_init K t) := by
  have G_look_prime := ok_look_prime (P := P) (w := w) (base := base) T
  have G_look_number := ok_look_number (P := P) (w := w) (base := base) T
  have G_look_residues := ok_look_residues (P := P) (w := w) (base := base) T
  refine T.F_Table_init.okX sc_Table_init len_Table_init (fun cdv A outer s H vs Q E hr h => ?_)
  have nd := sc_Table_init.nd
  refine ⟨_, (pss_cons (ps_expr (pe_callS G_look_prime (hr.mono (by decide)) (by rfl) T.g_look_prime T.F_look_prime.kp T.b_look_prime (fun σ => passAt (takes_of rfl rfl rfl rfl) σ) (pa_cons (pv 1) pa_nil)))
    (pss_cons (ps_expr (pe_callS G_look_number (hr.mono (by decide)) (by rfl) T.g_look_number T.F_look_number.kp T.b_look_number (fun σ => passAt (takes_of rfl rfl rfl rfl) σ) (pa_cons (pv 2) (pa_cons (pe_int) (pa_cons (pe_glob (v := .int 6) (by rfl) T.g_MOST_ENDS ⟨_, rfl⟩) pa_nil)))))
    (pss_cons (ps_expr (pe_callS G_look_residues (hr.mono (by decide)) (by rfl) T.g_look_residues T.F_look_residues.kp T.b_look_residues (fun σ => passAt (takes_of rfl rfl rfl rfl) σ) (pa_cons (pv 1) (pa_cons (pv 3) (pa_cons (pe_op op_shl (pe_int) (pv 2)) pa_nil)))))
    (pss_cons (ps_fldK K (pv 0) (pv 1) rfl)
    (pss_cons (ps_fldK K (pv 0) (pv 2) rfl)
    (pss_one (ps_fldK K (pv 0) (pe_callTy (call_tuple_ofK K) (by rfl) T.n_tuple (by decide +kernel) (pa_cons (pv 3) pa_nil)) rfl))))))), ?_⟩
  obtain ⟨ps, x_prime, x_ends, x_entries, n0, dx, v_entries, rfl, P0, hmem, e0, h_entries, k, e, hw, hk, he⟩ := h
  unfold w_Table_init at hw
  refine tSeq_j (tDrop_j (tCallS_i (tCons_i (tVar_i (v := (.int x_prime)) rfl (tNil_i (?_))))))
  refine ⟨ps, x_prime, rfl, P0, _, _, hw, fun r1 hw H2 s3 => ?_, (fun er hc hw => errUp (Same.undel (D := n0)) ss_refl (he er (by simp only [List.mem_cons, List.not_mem_nil, or_false] at hc ⊢; omega) hw))⟩
  have P4 := dom_up s3 P0
  have T5 := Same.trans (Same.undel (D := n0)) s3
  have e6 := s3 _ _ e0
  have S7 : Same (dels H ps) (dels H2 ps) := Sd ps s3
  refine tSeq_j (tDrop_j (tCallS_i (tCons_i (tVar_i (v := (.int x_ends)) rfl (tCons_i (tC_i (tCons_i (tC_i (tNil_i (?_))))))))))
  refine ⟨ps, x_ends, (0 : Int), (6 : Int), rfl, P4, _, _, hw, fun r8 hw H9 s10 => ?_, (fun er hc hw => errUp T5 ss_refl (he er (by simp only [List.mem_cons, List.not_mem_nil, or_false] at hc ⊢; omega) hw))⟩
  have P11 := dom_up s10 P4
  have T12 := Same.trans T5 s10
  have e13 := s10 _ _ e6
  have S14 : Same (dels H2 ps) (dels H9 ps) := Sd ps s10
  refine tSeq_j (tDrop_j (tCallS_i (tCons_i (tVar_i (v := (.int x_prime)) rfl (tCons_i (tVar_i (v := v_entries) rfl (tCons_i (tOp_i (tC_i (tVar_i (v := (.int x_ends)) rfl (rI_i hw.1 (tNil_i (?_)))))))))))))
  refine ⟨ps, x_prime, x_entries, ((1 : Int) * 2 ^ Int.toNat x_ends), v_entries, rfl, P11, ((pList pInt).mono (S7.trans S14) h_entries), _, _, hw.2, fun r15 hw H16 s17 => ?_, (fun er hc hw => errUp T12 ss_refl (he er (by simp only [List.mem_cons, List.not_mem_nil, or_false] at hc ⊢; omega) hw))⟩
  have P18 := dom_up s17 P11
  have T19 := Same.trans T12 s17
  have e20 := s17 _ _ e13
  have S21 : Same (dels H9 ps) (dels H16 ps) := Sd ps s17
  refine tSeq_j (sFld_j (tVar_i (v := (.int x_prime)) rfl (tVar_i (v := (.ref n0)) rfl (?_))))
  refine setF_i (fs' := [("prime", (.int x_prime))]) e20 T.own_Table.cl T.na_Table_prime (by first | rfl | simp [putF]) (Nat.lt_of_succ_le (Nat.le_of_ble_eq_true rfl)) (fun H22 f23 e24 => ?_)
  have P25 := dom_off f23 e24 P18
  have T26 := st_off T19 f23 del_same
  have S27 : Same (dels H16 ps) (dels H22 ps) := So hmem f23
  refine tSeq_j (sFld_j (tVar_i (v := (.int x_ends)) rfl (tVar_i (v := (.ref n0)) rfl (?_))))
  refine setF_i (fs' := [("prime", (.int x_prime)), ("ends", (.int x_ends))]) e24 T.own_Table.cl T.na_Table_ends (by first | rfl | simp [putF]) (Nat.lt_of_succ_le (Nat.le_of_ble_eq_true rfl)) (fun H28 f29 e30 => ?_)
  have P31 := dom_off f29 e30 P25
  have T32 := st_off T26 f29 del_same
  have S33 : Same (dels H22 ps) (dels H28 ps) := So hmem f29
  refine sFld_j (tCB_i (tCons_i (tVar_i (v := v_entries) rfl (tNil_i (tupL (slL (Same.trans (S7.trans (S14.trans (S21.trans (S27.trans S33)))) Su) h_entries) (fun q34 H35 n36 s37 us38 e39 r40 l41 => ?_))))))
  have P43 := dom_up s37 P31
  have T44 := Same.trans T32 s37
  have e45 := s37 _ _ e30
  have S46 : Same (dels H28 ps) (dels H35 ps) := Sd ps s37
  have h42 : (pVt K pInt).rep (dels H35 ps) (.ref q34) x_entries := vtR (dels_at e39 (nin_of n36 P31)) (AllR.mono (S7.trans (S14.trans (S21.trans (S27.trans (S33.trans S46))))) r40) l41
  refine tVar_i (v := (.ref n0)) rfl (?_)
  refine setF_i (fs' := [("prime", (.int x_prime)), ("ends", (.int x_ends)), ("entries", (.ref q34))]) e45 T.own_Table.cl T.na_Table_entries (by first | rfl | simp [putF]) (Nat.lt_of_succ_le (Nat.le_of_ble_eq_true rfl)) (fun H47 f48 e49 => ?_)
  have P50 := dom_off f48 e49 P43
  have T51 := st_off T44 f48 del_same
  have S52 : Same (dels H35 ps) (dels H47 ps) := So hmem f48
  exact hk _ hw _ _ T51 e49 rfl (rowC rfl (rowC rfl (rowO ((pVt K pInt).mono S52 h42))))
def sp_look_lot (K : PySem.W.Frag) (t : Tab) : Sp := fun vs H Q E => ∃ (ps : List Addr) (x_count : Int) (x_lot : Int), vs = [(.int x_count), (.int x_lot)] ∧ (∀ x ∈ ps, H x ≠ none) ∧ ∃ (k : Unit → Prop) (e : PErr → Prop), w_look_lot x_count x_lot k e ∧ (∀ r, k r → RetI (fun _ => V.non) H Q r) ∧ (∀ er, er.cls ∈ ([2] : List Nat) → e er → ErrK ps t.cl H E er)
theorem len_look_lot : ∀ vs H Q E, sp_look_lot K t vs H Q E → vs.length = (["count", "lot"] : List Str).length := by
  rintro vs H Q E ⟨_, _, _, rfl, _⟩
  rfl
theorem ok_look_lot (T : Txt K mg t) : FnOk P w K mg base (L2.CX P w) 4 t.a_look_lot t.fd_look_lot ["count", "lot"] (sp_look_lot K t) := by
  have G_look_number := ok_look_number (P := P) (w := w) (base := base) T
  refine T.F_look_lot.okX sc_look_lot len_look_lot (fun cdv A outer s H vs Q E hr h => ?_)
  have nd := sc_look_lot.nd
  refine ⟨_, (pss_one (ps_expr (pe_callS G_look_number (hr.mono (by decide)) (by rfl) T.g_look_number T.F_look_number.kp T.b_look_number (fun σ => passAt (takes_of rfl rfl rfl rfl) σ) (pa_cons (pv 1) (pa_cons (pe_int) (pa_cons (pe_op op_sub (pe_op op_shl (pe_int) (pv 0)) (pe_int)) pa_nil)))))), ?_⟩
  obtain ⟨ps, x_count, x_lot, rfl, P0, k, e, hw, hk, he⟩ := h
  unfold w_look_lot at hw
  refine tDrop_j (tCallS_i (tCons_i (tVar_i (v := (.int x_lot)) rfl (tCons_i (tC_i (tCons_i (tOp_i (tOp_i (tC_i (tVar_i (v := (.int x_count)) rfl (rI_i hw.1 (tC_i (rI0_i (tNil_i (?_)))))))))))))))
  refine ⟨ps, x_lot, (0 : Int), (((1 : Int) * 2 ^ Int.toNat x_count) - (1 : Int)), rfl, P0, _, _, hw.2, fun r1 hw H2 s3 => ?_, (fun er hc hw => errUp (Same.refl H) ss_refl (he er (by simp only [List.mem_cons, List.not_mem_nil, or_false] at hc ⊢; omega) hw))⟩
  have P4 := dom_up s3 P0
  have T5 := Same.trans (Same.refl H) s3
  have S6 : Same (dels H ps) (dels H2 ps) := Sd ps s3
  exact hk _ hw _ T5
def sp_bits_of (K : PySem.W.Frag) (t : Tab) : Sp := fun vs H Q E => ∃ (ps : List Addr) (x_lot : Int), vs = [(.int x_lot)] ∧ (∀ x ∈ ps, H x ≠ none) ∧ ∃ (k : (List Int) → Prop) (e : PErr → Prop), w_bits_of x_lot k e ∧ (∀ r, k r → RetO ps pInt H Q r) ∧ (∀ er, er.cls ∈ ([] : List Nat) → e er → ErrK ps t.cl H E er)
theorem len_bits_of : ∀ vs H Q E, sp_bits_of K t vs H Q E → vs.length = (["lot"] : List Str).length := by
  rintro vs H Q E ⟨_, _, rfl, _⟩
  rfl
theorem ok_bits_of (T : Txt K mg t) : FnOk P w K mg base (L2.CX P w) 1 t.a_bits_of t.fd_bits_of ["lot"] (sp_bits_of K t) := by
  refine T.F_bits_of.okX sc_bits_of len_bits_of (fun cdv A outer s H vs Q E hr h => ?_)
  have nd := sc_bits_of.nd
  refine ⟨_, (pss_cons (ps_set (i := 1) nd rfl (Or.inl rfl) (pe_lst pa_nil))
    (pss_cons (ps_set (i := 2) nd rfl (Or.inl rfl) (pv 0))
    (pss_cons (ps_set (i := 3) nd rfl (Or.inl rfl) (pe_int))
    (pss_cons (ps_while (passes_of rfl) (pt_cmpR op_gt (pv 2) (pe_int) (by first | exact nomark _ | rfl)) (pss_cut (ps_if (pt_cmpR (op_eqUK K hr) (pe_op op_modP (pv 2) (pe_int)) (pe_int) (by first | exact nomark _ | rfl)) (pss_one (ps_expr (pe_bmK K PySem.F.plainAttrs_list PySem.F.slot_list_append PySem.F.type_list_append mt_append (pv 1) (pa_cons (pv 3) pa_nil)))) pss_nil)
    (pss_cons (ps_set (i := 2) nd rfl (Or.inl rfl) (pe_op op_fdivP (pv 2) (pe_int)))
    (pss_one (ps_set (i := 3) nd rfl (Or.inl rfl) (pe_op (op_addUK K) (pv 3) (pe_int)))))))
    (pss_one (ps_ret (pv 1))))))), ?_⟩
  obtain ⟨ps, x_lot, rfl, P0, k, e, hw, hk, he⟩ := h
  unfold w_bits_of at hw
  refine tSeq_j (tAsg_j (tLst_i (tNil_i (new_i (Nat.le_of_ble_eq_true rfl) (fun q1 H2 n3 s4 e5 => ?_)))))
  have r6 : AllR pInt (dels H ps) [] ([] : List Int) := .nil
  have l7 : ([] : List Int).length ≤ LIM := (Nat.le_of_ble_eq_true rfl)
  have m8 := nin_of n3 P0
  have z9 := Same.free (Same.refl H) n3
  have P10 := dom_up s4 P0
  have T11 := Same.trans (Same.refl H) s4
  have P12 := dom_new e5 P10
  have S13 : Same (dels H ps) (dels H2 (q1 :: ps)) := Sn ps s4 n3
  refine gN (σ' := [some (.int x_lot), some (.ref q1), none, none]) rfl (?_)
  obtain ⟨y14, r15, l16, hw⟩ := letO hw r6 l7
  refine tSeq_j (tAsg_j (tVar_i (v := (.int x_lot)) rfl (gN (σ' := [some (.int x_lot), some (.ref q1), some (.int x_lot), none]) rfl (tSeq_j (tAsg_j (tC_i (gN (σ' := [some (.int x_lot), some (.ref q1), some (.int x_lot), some (.int (0 : Int))]) rfl (tSeq_j (?_)))))))))
  refine whileW (s0 := ((x_lot, (0 : Int), y14))) hw (fun (s112 : Int × Int × (List Int)) (σ114 : L2.St) (H113 : Hp) => ∃ (us118 : List V), σ114 = [some (.int x_lot), some (.ref q1), some (.int s112.1), some (.int s112.2.1)] ∧ Same (dels H2 (q1 :: ps)) (dels H113 (q1 :: ps)) ∧ (∀ x ∈ (q1 :: ps), H113 x ≠ none) ∧ Same H H113 ∧ H113 q1 = some (.lst us118) ∧ AllR pInt (dels H113 (q1 :: ps)) us118 s112.2.2 ∧ (s112.2.2).length ≤ LIM ∧ True) ⟨[], rfl, (Same.refl _), P12, T11, e5, (AllR.mono S13 r15), l16, trivial⟩ (fun s112 σ114 H113 nx122 WB124 hr hw hWB125 => ?_)
  obtain ⟨us118, rfl, S117, P115, T116, e119, r120, l121, _⟩ := hr
  refine tTest_i (tOp_i (tVar_i (v := (.int s112.1)) rfl (tC_i (rI0_i (IsBl_i (?_))))))
  refine Br_two hw (fun c126 hw => hWB125 _ _ ?_) (fun c126 hw => ?_)
  · refine cutW (S := (List Int)) hw (fun (s140 : (List Int)) (σ143 : L2.St) (H142 : Hp) => ∃ (us147 : List V), σ143 = [some (.int x_lot), some (.ref q1), some (.int s112.1), some (.int s112.2.1)] ∧ Same (dels H113 (q1 :: ps)) (dels H142 (q1 :: ps)) ∧ (∀ x ∈ (q1 :: ps), H142 x ≠ none) ∧ Same H H142 ∧ H142 q1 = some (.lst us147) ∧ AllR pInt (dels H142 (q1 :: ps)) us147 s140 ∧ (s140).length ≤ LIM ∧ True) (fun hw => ?_) (fun s140 σ143 H142 hr hw => ?_)
    · refine tIfS_j (tTest_i (tOp_i (tOp_i (tVar_i (v := (.int s112.1)) rfl (tC_i (rModP_i hw.1 (tC_i (rEqU_i (IsBl_i (?_))))))))))
      refine Br_two hw.2 (fun c152 hw => ?_) (fun c152 hw => ?_)
      · refine tDrop_j (tBM_i (tVar_i (v := (.ref q1)) rfl (tyL (SqL.of e119) (tCons_i (tVar_i (v := (.int s112.2.1)) rfl (tNil_i (appO (p := pInt) (d := s112.2.1) e119 r120 hw.1 rfl (fun H153 f154 us155 e156 r157 l158 => ?_))))))))
        have P159 := dom_off f154 e156 P115
        have T160 := st_off T116 f154 z9
        have S161 : Same (dels H113 (q1 :: ps)) (dels H153 (q1 :: ps)) := So (List.mem_cons_self ..) f154
        obtain ⟨y162, r163, l164, hw⟩ := letO hw.2 r157 l158
        exact ⟨y162, ⟨us155, rfl, S161, P159, T160, e156, (AllR.mono S161 r163), l164, trivial⟩, hw⟩
      · refine tNext_j (?_)
        exact ⟨s112.2.2, ⟨us118, rfl, (Same.refl _), P115, T116, e119, r120, l121, trivial⟩, hw⟩
    obtain ⟨us147, rfl, S146, P144, T145, e148, r149, l150, _⟩ := hr
    refine tSeq_j (tAsg_j (tOp_i (tVar_i (v := (.int s112.1)) rfl (tC_i (rDivP_i hw.1 (?_))))))
    refine asgIL (f := V.int) (e := (s112.1 / (2 : Int))) (g := fun y165 => [some (.int x_lot), some (.ref q1), some (.int y165), some (.int s112.2.1)]) hw.2 (fun _ => rfl) (fun y165 hw => ?_)
    refine tAsg_j (tOp_i (tVar_i (v := (.int s112.2.1)) rfl (tC_i (rAddU_i (?_)))))
    refine asgIL (f := V.int) (e := (s112.2.1 + (1 : Int))) (g := fun y166 => [some (.int x_lot), some (.ref q1), some (.int y165), some (.int y166)]) hw (fun _ => rfl) (fun y166 hw => ?_)
    exact nxS_i (s := ((y165, y166, s140))) ⟨us147, rfl, (S117.trans S146), P144, T145, e148, r149, l150, trivial⟩ hw
  refine tRet_j (tVar_i (v := (.ref q1)) rfl (?_))
  exact hk _ hw _ _ _ T116 z9 e119 r120 l121
def sp_exchange_ends (K : PySem.W.Frag) (t : Tab) : Sp := fun vs H Q E => ∃ (ps : List Addr) (x_table : (Int × Int × (List Int))) (x_first : Int) (x_second : Int) (x_end : Int) (v_table : V), vs = [v_table, (.int x_first), (.int x_second), (.int x_end)] ∧ (∀ x ∈ ps, H x ≠ none) ∧ (pIns t.c_Table ["prime", "ends", "entries"] (rCons pInt (rCons pInt (rOne (pVt K pInt))))).rep (dels H ps) v_table x_table ∧ ∃ (k : (List Int) → Prop) (e : PErr → Prop), w_exchange_ends x_table x_first x_second x_end k e ∧ (∀ r, k r → RetO ps pInt H Q r) ∧ (∀ er, er.cls ∈ ([2] : List Nat) → e er → ErrK ps t.cl H E er)
theorem len_exchange_ends : ∀ vs H Q E, sp_exchange_ends K t vs H Q E → vs.length = (["table", "first", "second", "end"] : List Str).length := by
  rintro vs H Q E ⟨_, _, _, _, _, _, rfl, _⟩
  rfl
theorem ok_exchange_ends (T : Txt K mg t) : FnOk P w K mg base (L2.CX P w) 5 t.a_exchange_ends t.fd_exchange_ends ["table", "first", "second", "end"] (sp_exchange_ends K t) := by
  have G_look_lot := ok_look_lot (P := P) (w := w) (base := base) T
  have G_bits_of := ok_bits_of (P := P) (w := w) (base := base) T
  have G_NumberError_init := ok_NumberError_init (P := P) (w := w) (base := base) T
  refine T.F_exchange_ends.okX sc_exchange_ends len_exchange_ends (fun cdv A outer s H vs Q E hr h => ?_)
  have nd := sc_exchange_ends.nd
  refine ⟨_, (pss_cons (ps_expr (pe_callS G_look_lot (hr.mono (by decide)) (by rfl) T.g_look_lot T.F_look_lot.kp T.b_look_lot (fun σ => passAt (takes_of rfl rfl rfl rfl) σ) (pa_cons (pe_fldK K (pv 0) rfl) (pa_cons (pv 1) pa_nil))))
    (pss_cons (ps_expr (pe_callS G_look_lot (hr.mono (by decide)) (by rfl) T.g_look_lot T.F_look_lot.kp T.b_look_lot (fun σ => passAt (takes_of rfl rfl rfl rfl) σ) (pa_cons (pe_fldK K (pv 0) rfl) (pa_cons (pv 2) pa_nil))))
    (pss_cons (ps_set (i := 4) nd rfl (Or.inl rfl) (pe_callS G_bits_of (hr.mono (by decide)) (by rfl) T.g_bits_of T.F_bits_of.kp T.b_bits_of (fun σ => passAt (takes_of rfl rfl rfl rfl) σ) (pa_cons (pe_op op_xor (pv 1) (pv 2)) pa_nil)))
    (pss_cons (ps_if (pt_cmpR (op_notInU K w hr) (pv 3) (pv 4) (by first | exact nomark _ | rfl)) (pss_one (ps_raise rfl (takes_of rfl rfl rfl rfl) (pmk_oex T.x_NumberError T.xi_NumberError T.xt_NumberError G_NumberError_init (hr.mono (by decide)) T.b_NumberError_init .nil passLF (by rfl) T.g_NumberError (pa_cons (pv 3) pa_nil)))) pss_nil)
    (pss_cons (ps_set (i := 5) nd rfl (Or.inl rfl) (pe_lst pa_nil))
    (pss_cons (ps_for (passes_of rfl) rfl (pi_UK K (pv 4)) (pg_name (i := 6) nd rfl (Or.inl rfl))
    (pss_cons (ps_set (i := 7) nd rfl (Or.inl rfl) (pe_op op_xor (pe_op op_shl (pe_int) (pv 3)) (pe_op op_shl (pe_int) (pv 6))))
    (pss_one (ps_if (PW.pt (pw_and (pt_cmpR (op_neUK K hr) (pv 6) (pv 3) (by first | exact nomark _ | rfl)) (pw_and (pt_cmpR (op_neUK K hr) (pe_ix (ix_UK K) (pe_fldK K (pv 0) rfl) (pe_op op_xor (pv 1) (pv 7)) (fun _ _ => rfl)) (pe_int) (by first | exact nomark _ | rfl)) (pw_and1 (pt_cmpR (op_neUK K hr) (pe_ix (ix_UK K) (pe_fldK K (pv 0) rfl) (pe_op op_xor (pv 2) (pv 7)) (fun _ _ => rfl)) (pe_int) (by first | exact nomark _ | rfl)))))) (pss_one (ps_expr (pe_bmK K PySem.F.plainAttrs_list PySem.F.slot_list_append PySem.F.type_list_append mt_append (pv 5) (pa_cons (pv 6) pa_nil)))) pss_nil))))
    (pss_one (ps_ret (pv 5))))))))), ?_⟩
  obtain ⟨ps, x_table, x_first, x_second, x_end, v_table, rfl, P0, h_table, k, e, hw, hk, he⟩ := h
  unfold w_exchange_ends at hw
  refine tSeq_j (tDrop_j (tCallS_i (tCons_i (tFld_i (tVar_i (v := v_table) rfl (fldI (j := 1) h_table Su T.own_Table.cl T.na_Table_ends (rgS rgZ) rfl (tCons_i (tVar_i (v := (.int x_first)) rfl (tNil_i (?_))))))))))
  refine ⟨ps, x_table.2.1, x_first, rfl, P0, _, _, hw, fun r1 hw H2 s3 => ?_, (fun er hc hw => errUp (Same.refl H) ss_refl (he er (by simp only [List.mem_cons, List.not_mem_nil, or_false] at hc ⊢; omega) hw))⟩
  have P4 := dom_up s3 P0
  have T5 := Same.trans (Same.refl H) s3
  have S6 : Same (dels H ps) (dels H2 ps) := Sd ps s3
  refine tSeq_j (tDrop_j (tCallS_i (tCons_i (tFld_i (tVar_i (v := v_table) rfl (fldI (j := 1) h_table (Same.trans S6 Su) T.own_Table.cl T.na_Table_ends (rgS rgZ) rfl (tCons_i (tVar_i (v := (.int x_second)) rfl (tNil_i (?_))))))))))
  refine ⟨ps, x_table.2.1, x_second, rfl, P4, _, _, hw, fun r7 hw H8 s9 => ?_, (fun er hc hw => errUp T5 ss_refl (he er (by simp only [List.mem_cons, List.not_mem_nil, or_false] at hc ⊢; omega) hw))⟩
  have P10 := dom_up s9 P4
  have T11 := Same.trans T5 s9
  have S12 : Same (dels H2 ps) (dels H8 ps) := Sd ps s9
  refine tSeq_j (tAsg_j (tCallS_i (tCons_i (tOp_i (tVar_i (v := (.int x_first)) rfl (tVar_i (v := (.int x_second)) rfl (rI0_i (tNil_i (?_)))))))))
  refine ⟨ps, (PySem.Builtin.bitXor x_first x_second), rfl, P10, _, _, hw, fun r13 hw H14 q16 us17 s15 n18 e19 r20 l21 => ?_, (fun er hc hw => errUp T11 ss_refl (he er (absurd hc (List.not_mem_nil)) hw))⟩
  have m22 := nin_of n18 P10
  have z23 := Same.free T11 n18
  have P24 := dom_up s15 P10
  have T25 := Same.trans T11 s15
  have P26 := dom_new e19 P24
  have S27 : Same (dels H8 ps) (dels H14 (q16 :: ps)) := Sn ps s15 n18
  have h28 : (pList pInt).rep (dels H14 ps) (.ref q16) r13 := oFrzG e19 m22 (ss_skip ss_refl) r20 l21
  have P29 := dom_ss (ss_skip ss_refl) P26
  have S30 : Same (dels H14 (q16 :: ps)) (dels H14 ps) := Ss (ss_skip ss_refl)
  refine gN (σ' := [some v_table, some (.int x_first), some (.int x_second), some (.int x_end), some (.ref q16), none, none, none]) rfl (tSeq_j (tIfS_j (tTest_i (tOp_i (tVar_i (v := (.int x_end)) rfl (tVar_i (v := (.ref q16)) rfl (notInS (sqL Su h28) (IsBl_i (?_)))))))))
  refine Br_two hw (fun c31 hw => ?_) (fun c31 hw => ?_)
  · refine tMkO_i (tCons_i (tVar_i (v := (.int x_end)) rfl (tNil_i (?_))))
    exact mkO1n T.x_NumberError T.xn_NumberError_number (raiseK (he _ (by simp) hw) T25 P29)
  · refine tNext_j (tSeq_j (tAsg_j (tLst_i (tNil_i (new_i (Nat.le_of_ble_eq_true rfl) (fun q32 H33 n34 s35 e36 => ?_))))))
    have r37 : AllR pInt (dels H14 ps) [] ([] : List Int) := .nil
    have l38 : ([] : List Int).length ≤ LIM := (Nat.le_of_ble_eq_true rfl)
    have m39 := nin_of n34 P29
    have z40 := Same.free T25 n34
    have P41 := dom_up s35 P29
    have T42 := Same.trans T25 s35
    have P43 := dom_new e36 P41
    have S44 : Same (dels H14 ps) (dels H33 (q32 :: ps)) := Sn ps s35 n34
    refine gN (σ' := [some v_table, some (.int x_first), some (.int x_second), some (.int x_end), some (.ref q16), some (.ref q32), none, none]) rfl (?_)
    obtain ⟨y45, r46, l47, hw⟩ := letO hw r37 l38
    refine tSeq_j (tFor_j (wL (tVar_i (v := (.ref q16)) rfl (?_))))
    obtain ⟨a153, us154, hv155, hS156, hr157, hl158⟩ := (lFro (K := K) ((pList pInt).mono S44 h28))
    refine WL_v hv155 (Same.seq Su hS156) (forL (s0 := y45) hw hr157 (fun (s159 : (List Int)) (σ161 : L2.St) (H160 : Hp) => ∃ (j162 : Option V) (j163 : Option V) (us167 : List V), σ161 = [some v_table, some (.int x_first), some (.int x_second), some (.int x_end), some (.ref q16), some (.ref q32), j162, j163] ∧ Same (dels H33 (q32 :: ps)) (dels H160 (q32 :: ps)) ∧ (∀ x ∈ (q32 :: ps), H160 x ≠ none) ∧ Same H H160 ∧ H160 q32 = some (.lst us167) ∧ AllR pInt (dels H160 (q32 :: ps)) us167 s159 ∧ (s159).length ≤ LIM ∧ True) ⟨_, _, [], rfl, (Same.refl _), P43, T42, e36, (AllR.mono S44 r46), l47, trivial⟩ (fun s159 σ161 H160 ⟨j162, j163, us167, _, S166, P164, T165, e168, r169, l170, _⟩ => (Same.seq (Same.trans S166 Su) hS156)) (fun d173 s159 σ161 H160 x174 nx171 hr hi175 hw => ?_) (fun s177 σ179 H178 hr hw => ?_))
    · obtain ⟨j162, j163, us167, rfl, S166, P164, T165, e168, r169, l170, _⟩ := hr
      obtain rfl : x174 = (.int d173) := hi175
      refine gN (σ' := [some v_table, some (.int x_first), some (.int x_second), some (.int x_end), some (.ref q16), some (.ref q32), some (.int d173), j163]) rfl (tSeq_j (tAsg_j (tOp_i (tOp_i (tC_i (tVar_i (v := (.int x_end)) rfl (rI_i hw.1 (tOp_i (tC_i (tVar_i (v := (.int d173)) rfl (rI_i hw.2.1 (rI0_i (?_)))))))))))))
      refine asgIL (f := V.int) (e := (PySem.Builtin.bitXor ((1 : Int) * 2 ^ Int.toNat x_end) ((1 : Int) * 2 ^ Int.toNat d173))) (g := fun y189 => [some v_table, some (.int x_first), some (.int x_second), some (.int x_end), some (.ref q16), some (.ref q32), some (.int d173), some (.int y189)]) hw.2.2 (fun _ => rfl) (fun y189 hw => ?_)
      refine tIfS_j (tAndP (b := (!(decide (d173 = x_end)))) (c := ((!(decide ((ixG x_table.2.2 (PySem.Builtin.bitXor x_first y189)) = (0 : Int)))) && (!(decide ((ixG x_table.2.2 (PySem.Builtin.bitXor x_second y189)) = (0 : Int)))))) (fun R hR => tTest_i (tOp_i (tVar_i (v := (.int d173)) rfl (tVar_i (v := (.int x_end)) rfl (rNeU_i (IsBl_i (hR))))))) (fun g209 R hR => tAndP (b := (!(decide ((ixG x_table.2.2 (PySem.Builtin.bitXor x_first y189)) = (0 : Int))))) (c := (!(decide ((ixG x_table.2.2 (PySem.Builtin.bitXor x_second y189)) = (0 : Int))))) (fun R hR => tTest_i (tOp_i (tOp_i (tFld_i (tVar_i (v := v_table) rfl (fldS (j := 2) h_table (Same.trans (S6.trans (S12.trans (S27.trans (S30.trans (S44.trans S166))))) Su) T.own_Table.cl T.na_Table_entries (rgS (rgS rgOne)) rfl (fun u215 h216 => tOp_i (tVar_i (v := (.int x_first)) rfl (tVar_i (v := (.int y189)) rfl (rI0_i (ixI (sqV (Same.trans (S6.trans (S12.trans (S27.trans (S30.trans (S44.trans S166))))) Su) h216) (hw.1 g209) (tC_i (rNeU_i (IsBl_i (hR))))))))))))))) (fun g214 R hR => tTest_i (tOp_i (tOp_i (tFld_i (tVar_i (v := v_table) rfl (fldS (j := 2) h_table (Same.trans (S6.trans (S12.trans (S27.trans (S30.trans (S44.trans S166))))) Su) T.own_Table.cl T.na_Table_entries (rgS (rgS rgOne)) rfl (fun u217 h218 => tOp_i (tVar_i (v := (.int x_second)) rfl (tVar_i (v := (.int y189)) rfl (rI0_i (ixI (sqV (Same.trans (S6.trans (S12.trans (S27.trans (S30.trans (S44.trans S166))))) Su) h218) (hw.2.1 g209 g214) (tC_i (rNeU_i (IsBl_i (hR))))))))))))))) (hR)) (?_))
      refine Br_two hw.2.2 (fun c219 hw => ?_) (fun c219 hw => ?_)
      · refine tDrop_j (tBM_i (tVar_i (v := (.ref q32)) rfl (tyL (SqL.of e168) (tCons_i (tVar_i (v := (.int d173)) rfl (tNil_i (appO (p := pInt) (d := d173) e168 r169 hw.1 rfl (fun H220 f221 us222 e223 r224 l225 => ?_))))))))
        have P226 := dom_off f221 e223 P164
        have T227 := st_off T165 f221 z40
        have S228 : Same (dels H160 (q32 :: ps)) (dels H220 (q32 :: ps)) := So (List.mem_cons_self ..) f221
        obtain ⟨y229, r230, l231, hw⟩ := letO hw.2 r224 l225
        exact nxS_i (s := (y229)) ⟨_, _, us222, rfl, (S166.trans S228), P226, T227, e223, (AllR.mono S228 r230), l231, trivial⟩ hw
      · refine tNext_j (?_)
        exact nxS_i (s := (s159)) ⟨_, _, us167, rfl, S166, P164, T165, e168, r169, l170, trivial⟩ hw
    obtain ⟨j180, j181, us185, rfl, S184, P182, T183, e186, r187, l188, _⟩ := hr
    refine tRet_j (tVar_i (v := (.ref q32)) rfl (?_))
    exact hk _ hw _ _ _ T183 z40 e186 r187 l188
def sp_ulaw_names (K : PySem.W.Frag) (t : Tab) : SpX := fun a cls d vs H Q E => ∃ (ps : List Addr) (x_e : PErr), vs = [.ref a] ∧ (∀ x ∈ ps, H x ≠ none) ∧ cls = .ref (t.cl x_e.cls) ∧ XDict (dels H ps) d x_e.fs ∧ x_e.cls ∈ ([2] : List Nat) ∧ ∃ (k : (List (Str × Int)) → Prop) (e : PErr → Prop), w_ulaw_names x_e k e ∧ (∀ r, k r → RetO ps (pTup K (rCons pStr (rOne pInt))) H Q r) ∧ (∀ er, er.cls ∈ ([] : List Nat) → e er → ErrK ps t.cl H E er)
theorem len_ulaw_names : ∀ a cls d vs H Q E, sp_ulaw_names K t a cls d vs H Q E → vs.length = (["e"] : List Str).length := by
  rintro a cls d vs H Q E ⟨_, _, rfl, _⟩
  rfl
theorem ok_ulaw_names (T : Txt K mg t) : FnE P w K mg base 1 t.a_ulaw_names t.fd_ulaw_names ["e"] (sp_ulaw_names K t) := by
  refine Fun.okE T.F_ulaw_names sc_ulaw_names len_ulaw_names (fun cdv A outer s H vs Q a oe cls d hz hf hr h => ?_)
  have nd := sc_ulaw_names.nd
  have xp := xpin_def (P := P) (w := w) (K := K) (mg := mg) (base := base) (N := ["e", "rows"]) (qual := "_law_names") (scope := defScope s_ulaw_names) (f := t.a_ulaw_names) (cd := cdv) (A := A) (outer := outer) (s := s) (H := H) (a := a) hz hf
  refine ⟨_, (pss_cons (ps_set (i := 1) nd rfl (Or.inl rfl) (pe_lst pa_nil))
    (pss_cut (ps_if (pt_truthK K (pe_callB (call_isXK K xp) (by rfl) T.n_isinstance (by decide +kernel) (pa_cons (pv 0) (pa_cons (pe_glob (v := .ref t.c_NumberError) (by rfl) T.g_NumberError rfl) pa_nil)))) (pss_one (ps_expr (pe_bmK K PySem.F.plainAttrs_list PySem.F.slot_list_append PySem.F.type_list_append mt_append (pv 1) (pa_cons (pe_tup (pa_cons (pe_str) (pa_cons (pe_xFK K xp (pv 0)) pa_nil))) pa_nil)))) pss_nil)
    (pss_cut (ps_if (pt_truthK K (pe_callB (call_isXK K xp) (by rfl) T.n_isinstance (by decide +kernel) (pa_cons (pv 0) (pa_cons (pe_tup (pa_cons (pe_glob (v := .ref t.c_SizeError) (by rfl) T.g_SizeError rfl) (pa_cons (pe_glob (v := .ref t.c_PrimeError) (by rfl) T.g_PrimeError rfl) (pa_cons (pe_glob (v := .ref t.c_TwinError) (by rfl) T.g_TwinError rfl) (pa_cons (pe_glob (v := .ref t.c_LegError) (by rfl) T.g_LegError rfl) (pa_cons (pe_glob (v := .ref t.c_NodeError) (by rfl) T.g_NodeError rfl) pa_nil)))))) pa_nil)))) (pss_one (ps_expr (pe_bmK K PySem.F.plainAttrs_list PySem.F.slot_list_append PySem.F.type_list_append mt_append (pv 1) (pa_cons (pe_tup (pa_cons (pe_str) (pa_cons (pe_int) pa_nil))) pa_nil)))) pss_nil)
    (pss_cut (ps_if (pt_not (pt_truthK K (pe_callB (call_isXK K xp) (by rfl) T.n_isinstance (by decide +kernel) (pa_cons (pv 0) (pa_cons (pe_bltn (v := .ty "ValueError") (by rfl) T.n_ValueError (by decide +kernel) rfl) pa_nil))))) (pss_one (ps_expr (pe_bmK K PySem.F.plainAttrs_list PySem.F.slot_list_append PySem.F.type_list_append mt_append (pv 1) (pa_cons (pe_tup (pa_cons (pe_str) (pa_cons (pe_int) pa_nil))) pa_nil)))) pss_nil)
    (pss_one (ps_ret (pv 1))))))), ?_⟩
  obtain ⟨ps, x_e, rfl, P0, rfl, hX, hCR, k, e, hw, hk, he⟩ := h
  unfold w_ulaw_names at hw
  have XR : ∀ c, c ∈ ([2] : List Nat) → XCls K (t.cl c) := by
    intro c hc
    simp only [List.mem_cons, List.not_mem_nil, or_false] at hc
    rcases hc with rfl
    · exact T.X_NumberError
  have kt_NumberError : ∀ c, c ∈ ([2] : List Nat) → PySem.W.kitOne K (.ref (t.cl c)) (.ref t.c_NumberError) = some (decide (c = 2)) := by
    intro c hc
    simp only [List.mem_cons, List.not_mem_nil, or_false] at hc
    rcases hc with rfl
    · exact T.kt_NumberError_NumberError
  have kt_SizeError : ∀ c, c ∈ ([2] : List Nat) → PySem.W.kitOne K (.ref (t.cl c)) (.ref t.c_SizeError) = some (decide (c = 1)) := by
    intro c hc
    simp only [List.mem_cons, List.not_mem_nil, or_false] at hc
    rcases hc with rfl
    · exact T.kt_NumberError_SizeError
  have kt_PrimeError : ∀ c, c ∈ ([2] : List Nat) → PySem.W.kitOne K (.ref (t.cl c)) (.ref t.c_PrimeError) = some (decide (c = 8)) := by
    intro c hc
    simp only [List.mem_cons, List.not_mem_nil, or_false] at hc
    rcases hc with rfl
    · exact T.kt_NumberError_PrimeError
  have kt_TwinError : ∀ c, c ∈ ([2] : List Nat) → PySem.W.kitOne K (.ref (t.cl c)) (.ref t.c_TwinError) = some (decide (c = 3)) := by
    intro c hc
    simp only [List.mem_cons, List.not_mem_nil, or_false] at hc
    rcases hc with rfl
    · exact T.kt_NumberError_TwinError
  have kt_LegError : ∀ c, c ∈ ([2] : List Nat) → PySem.W.kitOne K (.ref (t.cl c)) (.ref t.c_LegError) = some (decide (c = 6)) := by
    intro c hc
    simp only [List.mem_cons, List.not_mem_nil, or_false] at hc
    rcases hc with rfl
    · exact T.kt_NumberError_LegError
  have kt_NodeError : ∀ c, c ∈ ([2] : List Nat) → PySem.W.kitOne K (.ref (t.cl c)) (.ref t.c_NodeError) = some (decide (c = 4)) := by
    intro c hc
    simp only [List.mem_cons, List.not_mem_nil, or_false] at hc
    rcases hc with rfl
    · exact T.kt_NumberError_NodeError
  have kt_ValueError : ∀ c, c ∈ ([2] : List Nat) → PySem.W.kitOne K (.ref (t.cl c)) (.type "ValueError") = some (true) := by
    intro c hc
    simp only [List.mem_cons, List.not_mem_nil, or_false] at hc
    rcases hc with rfl
    · exact T.kt_NumberError_ValueError
  refine tSeq_j (tAsg_j (tLst_i (tNil_i (new_i (Nat.le_of_ble_eq_true rfl) (fun q1 H2 n3 s4 e5 => ?_)))))
  have r6 : AllR (pTup K (rCons pStr (rOne pInt))) (dels H ps) [] ([] : List (Str × Int)) := .nil
  have l7 : ([] : List (Str × Int)).length ≤ LIM := (Nat.le_of_ble_eq_true rfl)
  have m8 := nin_of n3 P0
  have z9 := Same.free (Same.refl H) n3
  have P10 := dom_up s4 P0
  have T11 := Same.trans (Same.refl H) s4
  have P12 := dom_new e5 P10
  have S13 : Same (dels H ps) (dels H2 (q1 :: ps)) := Sn ps s4 n3
  refine gN (σ' := [some (.ref a), some (.ref q1)]) rfl (?_)
  obtain ⟨y14, r15, l16, hw⟩ := letO hw r6 l7
  refine cutW (S := (List (Str × Int))) hw (fun (s42 : (List (Str × Int))) (σ45 : L2.St) (H44 : Hp) => ∃ (us49 : List V), σ45 = [some (.ref a), some (.ref q1)] ∧ Same (dels H2 (q1 :: ps)) (dels H44 (q1 :: ps)) ∧ (∀ x ∈ (q1 :: ps), H44 x ≠ none) ∧ Same H H44 ∧ H44 q1 = some (.lst us49) ∧ AllR (pTup K (rCons pStr (rOne pInt))) (dels H44 (q1 :: ps)) us49 s42 ∧ (s42).length ≤ LIM ∧ True) (fun hw => ?_) (fun s42 σ45 H44 hr hw => ?_)
  · refine tIfS_j (tTruth_i (tCB_i (tCons_i (tVar_i (v := (.ref a)) rfl (tCons_i (tC_i (tNil_i (isX_c (b := (decide (x_e.cls = 2))) (XR _ hCR) x_e.fs (XDict.same (Same.trans S13 Su) hX) (kt_NumberError _ hCR) (Tru_b (?_))))))))))
    refine Br_two hw (fun c54 hw => ?_) (fun c54 hw => ?_)
    · refine tDrop_j (tBM_i (tVar_i (v := (.ref q1)) rfl (tyL (SqL.of e5) (tCons_i (tTup_i (tCons_i (tC_i (tCons_i (tXF_i (tVar_i (v := (.ref a)) rfl (?_)))))))))))
      obtain ⟨z55, hz56, hw⟩ := hw
      refine xfP hz56 (XR _ hCR) (XDict.same (Same.trans S13 Su) hX) (by rw [hz56]; exact T.xn_NumberError_number) (tNil_i (new_i (Nat.le_of_ble_eq_true rfl) (fun q57 H58 n59 s60 e61 => ?_)))
      have P63 := dom_up s60 P12
      have T64 := Same.trans T11 s60
      have e65 := s60 _ _ e5
      have S66 : Same (dels H2 (q1 :: ps)) (dels H58 (q1 :: ps)) := Sd (q1 :: ps) s60
      have h62 : (pTup K (rCons pStr (rOne pInt))).rep (dels H58 (q1 :: ps)) (.ref q57) ((Str.ofString "number"), z55) := tupR (dels_at e61 (nin_of n59 P12)) (rowC rfl (rowO rfl))
      refine tNil_i (appO (p := (pTup K (rCons pStr (rOne pInt)))) (d := ((Str.ofString "number"), z55)) e65 (AllR.mono (S13.trans S66) r15) hw.1 h62 (fun H67 f68 us69 e70 r71 l72 => ?_))
      have P73 := dom_off f68 e70 P63
      have T74 := st_off T64 f68 z9
      have S75 : Same (dels H58 (q1 :: ps)) (dels H67 (q1 :: ps)) := So (List.mem_cons_self ..) f68
      obtain ⟨y76, r77, l78, hw⟩ := letO hw.2 r71 l72
      exact ⟨y76, ⟨us69, rfl, (S66.trans S75), P73, T74, e70, (AllR.mono S75 r77), l78, trivial⟩, hw⟩
    · refine tNext_j (?_)
      exact ⟨y14, ⟨[], rfl, (Same.refl _), P12, T11, e5, (AllR.mono S13 r15), l16, trivial⟩, hw⟩
  obtain ⟨us49, rfl, S48, P46, T47, e50, r51, l52, _⟩ := hr
  refine cutW (S := (List (Str × Int))) hw (fun (s111 : (List (Str × Int))) (σ114 : L2.St) (H113 : Hp) => ∃ (us118 : List V), σ114 = [some (.ref a), some (.ref q1)] ∧ Same (dels H44 (q1 :: ps)) (dels H113 (q1 :: ps)) ∧ (∀ x ∈ (q1 :: ps), H113 x ≠ none) ∧ Same H H113 ∧ H113 q1 = some (.lst us118) ∧ AllR (pTup K (rCons pStr (rOne pInt))) (dels H113 (q1 :: ps)) us118 s111 ∧ (s111).length ≤ LIM ∧ True) (fun hw => ?_) (fun s111 σ114 H113 hr hw => ?_)
  · refine tIfS_j (tTruth_i (tCB_i (tCons_i (tVar_i (v := (.ref a)) rfl (tCons_i (tTup_i (tCons_i (tC_i (tCons_i (tC_i (tCons_i (tC_i (tCons_i (tC_i (tCons_i (tC_i (tNil_i (new_i (Nat.le_of_ble_eq_true rfl) (fun q123 H124 n125 s126 e127 => ?_)))))))))))))))))))
    have P128 := dom_up s126 P46
    have T129 := Same.trans T47 s126
    have e130 := s126 _ _ e50
    have S131 : Same (dels H44 (q1 :: ps)) (dels H124 (q1 :: ps)) := Sd (q1 :: ps) s126
    refine tNil_i (isX_n (b := ((decide (x_e.cls = 1)) || ((decide (x_e.cls = 8)) || ((decide (x_e.cls = 3)) || ((decide (x_e.cls = 6)) || ((decide (x_e.cls = 4)) || false)))))) (XR _ hCR) x_e.fs (XDict.same (Same.trans (S13.trans (S48.trans S131)) Su) hX) e127 (.cons (.own _) (.cons (.own _) (.cons (.own _) (.cons (.own _) (.cons (.own _) .nil))))) (kAnyC (kt_SizeError _ hCR) (kAnyC (kt_PrimeError _ hCR) (kAnyC (kt_TwinError _ hCR) (kAnyC (kt_LegError _ hCR) (kAnyC (kt_NodeError _ hCR) kAnyN))))) (Tru_b (?_)))
    refine Br_two hw (fun c132 hw => ?_) (fun c132 hw => ?_)
    · refine tDrop_j (tBM_i (tVar_i (v := (.ref q1)) rfl (tyL (SqL.of e130) (tCons_i (tTup_i (tCons_i (tC_i (tCons_i (tC_i (tNil_i (new_i (Nat.le_of_ble_eq_true rfl) (fun q133 H134 n135 s136 e137 => ?_))))))))))))
      have P139 := dom_up s136 P128
      have T140 := Same.trans T129 s136
      have e141 := s136 _ _ e130
      have S142 : Same (dels H124 (q1 :: ps)) (dels H134 (q1 :: ps)) := Sd (q1 :: ps) s136
      have h138 : (pTup K (rCons pStr (rOne pInt))).rep (dels H134 (q1 :: ps)) (.ref q133) ((Str.ofString "other"), (0 : Int)) := tupR (dels_at e137 (nin_of n135 P128)) (rowC rfl (rowO rfl))
      refine tNil_i (appO (p := (pTup K (rCons pStr (rOne pInt)))) (d := ((Str.ofString "other"), (0 : Int))) e141 (AllR.mono (S131.trans S142) r51) hw.1 h138 (fun H143 f144 us145 e146 r147 l148 => ?_))
      have P149 := dom_off f144 e146 P139
      have T150 := st_off T140 f144 z9
      have S151 : Same (dels H134 (q1 :: ps)) (dels H143 (q1 :: ps)) := So (List.mem_cons_self ..) f144
      obtain ⟨y152, r153, l154, hw⟩ := letO hw.2 r147 l148
      exact ⟨y152, ⟨us145, rfl, (S131.trans (S142.trans S151)), P149, T150, e146, (AllR.mono S151 r153), l154, trivial⟩, hw⟩
    · refine tNext_j (?_)
      exact ⟨s42, ⟨us49, rfl, S131, P128, T129, e130, (AllR.mono S131 r51), l52, trivial⟩, hw⟩
  obtain ⟨us118, rfl, S117, P115, T116, e119, r120, l121, _⟩ := hr
  refine cutW (S := (List (Str × Int))) hw (fun (s178 : (List (Str × Int))) (σ181 : L2.St) (H180 : Hp) => ∃ (us185 : List V), σ181 = [some (.ref a), some (.ref q1)] ∧ Same (dels H113 (q1 :: ps)) (dels H180 (q1 :: ps)) ∧ (∀ x ∈ (q1 :: ps), H180 x ≠ none) ∧ Same H H180 ∧ H180 q1 = some (.lst us185) ∧ AllR (pTup K (rCons pStr (rOne pInt))) (dels H180 (q1 :: ps)) us185 s178 ∧ (s178).length ≤ LIM ∧ True) (fun hw => ?_) (fun s178 σ181 H180 hr hw => ?_)
  · refine tIfS_j (tNot_i (tTruth_i (tCB_i (tCons_i (tVar_i (v := (.ref a)) rfl (tCons_i (tC_i (tNil_i (isX_t (b := true) (XR _ hCR) x_e.fs (XDict.same (Same.trans (S13.trans (S48.trans S117)) Su) hX) (kt_ValueError _ hCR) (Tru_b (?_)))))))))))
    refine Br_two hw (fun c190 hw => ?_) (fun c190 hw => ?_)
    · refine tDrop_j (tBM_i (tVar_i (v := (.ref q1)) rfl (tyL (SqL.of e119) (tCons_i (tTup_i (tCons_i (tC_i (tCons_i (tC_i (tNil_i (new_i (Nat.le_of_ble_eq_true rfl) (fun q191 H192 n193 s194 e195 => ?_))))))))))))
      have P197 := dom_up s194 P115
      have T198 := Same.trans T116 s194
      have e199 := s194 _ _ e119
      have S200 : Same (dels H113 (q1 :: ps)) (dels H192 (q1 :: ps)) := Sd (q1 :: ps) s194
      have h196 : (pTup K (rCons pStr (rOne pInt))).rep (dels H192 (q1 :: ps)) (.ref q191) ((Str.ofString "other"), (0 : Int)) := tupR (dels_at e195 (nin_of n193 P115)) (rowC rfl (rowO rfl))
      refine tNil_i (appO (p := (pTup K (rCons pStr (rOne pInt)))) (d := ((Str.ofString "other"), (0 : Int))) e199 (AllR.mono S200 r120) hw.1 h196 (fun H201 f202 us203 e204 r205 l206 => ?_))
      have P207 := dom_off f202 e204 P197
      have T208 := st_off T198 f202 z9
      have S209 : Same (dels H192 (q1 :: ps)) (dels H201 (q1 :: ps)) := So (List.mem_cons_self ..) f202
      obtain ⟨y210, r211, l212, hw⟩ := letO hw.2 r205 l206
      exact ⟨y210, ⟨us203, rfl, (S200.trans S209), P207, T208, e204, (AllR.mono S209 r211), l212, trivial⟩, hw⟩
    · refine tNext_j (?_)
      exact ⟨s111, ⟨us118, rfl, (Same.refl _), P115, T116, e119, r120, l121, trivial⟩, hw⟩
  obtain ⟨us185, rfl, S184, P182, T183, e186, r187, l188, _⟩ := hr
  refine tRet_j (tVar_i (v := (.ref q1)) rfl (?_))
  exact hk _ hw _ _ _ T183 z9 e186 r187 l188
def sp_ulaw_tried (K : PySem.W.Frag) (t : Tab) : Sp := fun vs H Q E => ∃ (ps : List Addr) (x_sheet : (Int × Int × (List Int))) (x_one : Int) (x_two : Int) (x_i : Int) (v_sheet : V), vs = [v_sheet, (.int x_one), (.int x_two), (.int x_i)] ∧ (∀ x ∈ ps, H x ≠ none) ∧ (pIns t.c_Table ["prime", "ends", "entries"] (rCons pInt (rCons pInt (rOne (pVt K pInt))))).rep (dels H ps) v_sheet x_sheet ∧ ∃ (k : (List (Str × Int)) → Prop) (e : PErr → Prop), w_ulaw_tried x_sheet x_one x_two x_i k e ∧ (∀ r, k r → RetO ps (pTup K (rCons pStr (rOne pInt))) H Q r) ∧ (∀ er, er.cls ∈ ([] : List Nat) → e er → ErrK ps t.cl H E er)
theorem len_ulaw_tried : ∀ vs H Q E, sp_ulaw_tried K t vs H Q E → vs.length = (["sheet", "one", "two", "i"] : List Str).length := by
  rintro vs H Q E ⟨_, _, _, _, _, _, rfl, _⟩
  rfl
theorem ok_ulaw_tried (T : Txt K mg t) : FnOk P w K mg base (L2.CX P w) 6 t.a_ulaw_tried t.fd_ulaw_tried ["sheet", "one", "two", "i"] (sp_ulaw_tried K t) := by
  have G_exchange_ends := ok_exchange_ends (P := P) (w := w) (base := base) T
  have GE_ulaw_names := ok_ulaw_names (P := P) (w := w) (base := base) T
  refine T.F_ulaw_tried.okX sc_ulaw_tried len_ulaw_tried (fun cdv A outer s H vs Q E hr h => ?_)
  have nd := sc_ulaw_tried.nd
  refine ⟨_, (pss_cons (ps_try_as (i := 5) rfl rfl nd rfl rfl ⟨rfl, by decide, .inl T.g_EndsError⟩ (takes_of rfl rfl rfl rfl) (fun W pn xe tk pw => (pss_one (ps_set (i := 4) nd rfl (Or.inl rfl) (pe_callS G_exchange_ends (hr.mono (by decide)) (by rfl) T.g_exchange_ends T.F_exchange_ends.kp T.b_exchange_ends (fun σ => passAt tk σ) (pa_cons (pv 0) (pa_cons (pv 1) (pa_cons (pv 2) (pa_cons (pv 3) pa_nil))))))))
    (fun a oe cls d pn hz hf => (pss_one (ps_ret (pe_callE GE_ulaw_names (roomH_suite (j := 1) hr (by decide)) (xpin_suite hz hf) (by rfl) T.g_ulaw_names T.F_ulaw_names.kp T.b_ulaw_names (pa_cons (pv 5) pa_nil))))))
    (pss_one (ps_ret (pe_lst (pa_cons (pe_tup (pa_cons (pe_str) (pa_cons (pe_callB (call_lenK K) (by rfl) T.n_len (by decide +kernel) (pa_cons (pv 4) pa_nil)) pa_nil))) pa_nil))))), ?_⟩
  obtain ⟨ps, x_sheet, x_one, x_two, x_i, v_sheet, rfl, P0, h_sheet, k, e, hw, hk, he⟩ := h
  unfold w_ulaw_tried at hw
  refine tSeq_j (tAsg_j (tCallS_i (tCons_i (tVar_i (v := v_sheet) rfl (tCons_i (tVar_i (v := (.int x_one)) rfl (tCons_i (tVar_i (v := (.int x_two)) rfl (tCons_i (tVar_i (v := (.int x_i)) rfl (tNil_i (?_))))))))))))
  refine ⟨ps, x_sheet, x_one, x_two, x_i, v_sheet, rfl, P0, h_sheet, _, _, hw, fun r1 hw H2 q30 us31 s3 n32 e33 r34 l35 => ?_, fun er4 hc hw => ?_⟩
  rotate_left 1
  · have em11 : ∀ c, c ∈ ([2] : List Nat) → PySem.W.exmOne K (.ref (t.cl c)) (.ref t.c_EndsError) = some true := by
      intro c hc
      simp only [List.mem_cons, List.not_mem_nil, or_false] at hc
      rcases hc with rfl
      · exact T.em_NumberError_EndsError
    have hCR := hc
    intro H5 d6 s7 hX8
    have P12 := dom_up s7 P0
    have T13 := Same.trans (Same.refl H) s7
    have S14 : Same (dels H ps) (dels H5 ps) := Sd ps s7
    refine wasL (g := fun a9 => [some v_sheet, some (.int x_one), some (.int x_two), some (.int x_i), none, some (.ref a9)]) (em11 _ hc) (fun _ => rfl) (fun a9 na10 => ?_)
    have XR : ∀ c, c ∈ ([2] : List Nat) → XCls K (t.cl c) := by
      intro c hc
      simp only [List.mem_cons, List.not_mem_nil, or_false] at hc
      rcases hc with rfl
      · exact T.X_NumberError
    refine tRet_j (tCallE_i (tCons_i (tVar_i (v := (.ref a9)) rfl (tNil_i (?_)))))
    refine ⟨ps, er4, rfl, P12, rfl, hX8, hCR, _, _, hw, fun r15 hw H16 q18 us19 s17 n20 e21 r22 l23 => ?_, (fun er _ hw => False.elim hw)⟩
    have m24 := nin_of n20 P12
    have z25 := Same.free T13 n20
    have P26 := dom_up s17 P12
    have T27 := Same.trans T13 s17
    have P28 := dom_new e21 P26
    have S29 : Same (dels H5 ps) (dels H16 (q18 :: ps)) := Sn ps s17 n20
    exact hk _ hw _ _ _ T27 z25 e21 r22 l23
  have m36 := nin_of n32 P0
  have z37 := Same.free (Same.refl H) n32
  have P38 := dom_up s3 P0
  have T39 := Same.trans (Same.refl H) s3
  have P40 := dom_new e33 P38
  have S41 : Same (dels H ps) (dels H2 (q30 :: ps)) := Sn ps s3 n32
  have h42 : (pList pInt).rep (dels H2 ps) (.ref q30) r1 := oFrzG e33 m36 (ss_skip ss_refl) r34 l35
  have P43 := dom_ss (ss_skip ss_refl) P40
  have S44 : Same (dels H2 (q30 :: ps)) (dels H2 ps) := Ss (ss_skip ss_refl)
  refine gN (σ' := [some v_sheet, some (.int x_one), some (.int x_two), some (.int x_i), some (.ref q30), none]) rfl (tRet_j (tLst_i (tCons_i (tTup_i (tCons_i (tC_i (tCons_i (tCB_i (tCons_i (tVar_i (v := (.ref q30)) rfl (tNil_i (lenS (sqL Su h42) (tNil_i (new_i (Nat.le_of_ble_eq_true rfl) (fun q45 H46 n47 s48 e49 => ?_)))))))))))))))
  have P51 := dom_up s48 P43
  have T52 := Same.trans T39 s48
  have S53 : Same (dels H2 ps) (dels H46 ps) := Sd ps s48
  have h50 : (pTup K (rCons pStr (rOne pInt))).rep (dels H46 ps) (.ref q45) ((Str.ofString "told"), (r1.length : Int)) := tupR (dels_at e49 (nin_of n47 P43)) (rowC rfl (rowO rfl))
  refine tNil_i (new_i (Nat.le_of_ble_eq_true rfl) (fun q54 H55 n56 s57 e58 => ?_))
  have r59 : AllR (pTup K (rCons pStr (rOne pInt))) (dels H46 ps) [(.ref q45)] ([((Str.ofString "told"), (r1.length : Int))] : List (Str × Int)) := (.cons h50 .nil)
  have l60 : ([((Str.ofString "told"), (r1.length : Int))] : List (Str × Int)).length ≤ LIM := (Nat.le_of_ble_eq_true rfl)
  have m61 := nin_of n56 P51
  have z62 := Same.free T52 n56
  have P63 := dom_up s57 P51
  have T64 := Same.trans T52 s57
  have P65 := dom_new e58 P63
  have S66 : Same (dels H46 ps) (dels H55 (q54 :: ps)) := Sn ps s57 n56
  exact hk _ hw _ _ _ T64 z62 e58 (AllR.mono S66 r59) l60
def sp_ulaw_whole (K : PySem.W.Frag) (t : Tab) : Sp := fun vs H Q E => ∃ (ps : List Addr) (x_x : Int), vs = [(.int x_x)] ∧ (∀ x ∈ ps, H x ≠ none) ∧ ∃ (k : Bool → Prop) (e : PErr → Prop), w_ulaw_whole x_x k e ∧ (∀ r, k r → RetI V.bl H Q r) ∧ (∀ er, er.cls ∈ ([] : List Nat) → e er → ErrK ps t.cl H E er)
theorem len_ulaw_whole : ∀ vs H Q E, sp_ulaw_whole K t vs H Q E → vs.length = (["x"] : List Str).length := by
  rintro vs H Q E ⟨_, _, rfl, _⟩
  rfl
theorem ok_ulaw_whole (T : Txt K mg t) : FnOk P w K mg base (L2.CX P w) 1 t.a_ulaw_whole t.fd_ulaw_whole ["x"] (sp_ulaw_whole K t) := by
  refine T.F_ulaw_whole.okX sc_ulaw_whole len_ulaw_whole (fun cdv A outer s H vs Q E hr h => ?_)
  have nd := sc_ulaw_whole.nd
  refine ⟨_, (pss_one (ps_ret (pe_and (pe_callB (call_isiUK K) (by rfl) T.n_isinstance (by decide +kernel) (pa_cons (pv 0) (pa_cons (pe_bltn (v := .ty "int") (by rfl) T.n_int (by decide +kernel) rfl) pa_nil))) (pe_one (pe_not (pe_callB (call_isiUK K) (by rfl) T.n_isinstance (by decide +kernel) (pa_cons (pv 0) (pa_cons (pe_bltn (v := .ty "bool") (by rfl) T.n_bool (by decide +kernel) rfl) pa_nil)))))))), ?_⟩
  obtain ⟨ps, x_x, rfl, P0, k, e, hw, hk, he⟩ := h
  unfold w_ulaw_whole at hw
  refine tRet_j (tAndVP (b := true) (c := (!false)) (fun R hR => tCB_i (tCons_i (tVar_i (v := (.int x_x)) rfl (tCons_i (tC_i (tNil_i (isi_int_int (hR)))))))) (fun g2 R hR => tNotV_i (tCB_i (tCons_i (tVar_i (v := (.int x_x)) rfl (tCons_i (tC_i (tNil_i (isi_int_bool (IsBl_i (hR)))))))))) (?_))
  exact hk _ hw _ (Same.refl H)
def sp_ulaw_got (K : PySem.W.Frag) (t : Tab) : Sp := fun vs H Q E => ∃ (ps : List Addr) (x_rows : (List (Str × Int))) (x_word : Str) (x_number : Int) (v_rows : V), vs = [v_rows, (.str x_word), (.int x_number)] ∧ (∀ x ∈ ps, H x ≠ none) ∧ (pList (pTup K (rCons pStr (rOne pInt)))).rep (dels H ps) v_rows x_rows ∧ ∃ (k : Bool → Prop) (e : PErr → Prop), w_ulaw_got x_rows x_word x_number k e ∧ (∀ r, k r → RetI V.bl H Q r) ∧ (∀ er, er.cls ∈ ([] : List Nat) → e er → ErrK ps t.cl H E er)
theorem len_ulaw_got : ∀ vs H Q E, sp_ulaw_got K t vs H Q E → vs.length = (["rows", "word", "number"] : List Str).length := by
  rintro vs H Q E ⟨_, _, _, _, _, rfl, _⟩
  rfl
theorem ok_ulaw_got (T : Txt K mg t) : FnOk P w K mg base (L2.CX P w) 2 t.a_ulaw_got t.fd_ulaw_got ["rows", "word", "number"] (sp_ulaw_got K t) := by
  have G_ulaw_whole := ok_ulaw_whole (P := P) (w := w) (base := base) T
  refine T.F_ulaw_got.okX sc_ulaw_got len_ulaw_got (fun cdv A outer s H vs Q E hr h => ?_)
  have nd := sc_ulaw_got.nd
  refine ⟨_, (pss_cons (ps_if (PW.pt (pw_or (pt_cmpR (op_neUK K hr) (pe_callB (call_lenK K) (by rfl) T.n_len (by decide +kernel) (pa_cons (pv 0) pa_nil)) (pe_int) (by first | exact nomark _ | rfl)) (pw_or1 (pt_cmpR (op_neUK K hr) (pe_ix (ix_UK K) (pe_ix (ix_UK K) (pv 0) (pe_int) (fun _ _ => rfl)) (pe_int) (fun _ _ => rfl)) (pv 1) (by first | exact nomark _ | rfl))))) (pss_one (ps_ret (pe_bl))) pss_nil)
    (pss_one (ps_ret (pe_and (pe_callS G_ulaw_whole (hr.mono (by decide)) (by rfl) T.g_ulaw_whole T.F_ulaw_whole.kp T.b_ulaw_whole (fun σ => passAt (takes_of rfl rfl rfl rfl) σ) (pa_cons (pe_ix (ix_UK K) (pe_ix (ix_UK K) (pv 0) (pe_int) (fun _ _ => rfl)) (pe_int) (fun _ _ => rfl)) pa_nil)) (pe_one (pe_cmpR (op_eqUK K hr) (pe_ix (ix_UK K) (pe_ix (ix_UK K) (pv 0) (pe_int) (fun _ _ => rfl)) (pe_int) (fun _ _ => rfl)) (pv 2) (by first | exact nomark _ | rfl))))))), ?_⟩
  obtain ⟨ps, x_rows, x_word, x_number, v_rows, rfl, P0, h_rows, k, e, hw, hk, he⟩ := h
  unfold w_ulaw_got at hw
  refine tSeq_j (tIfS_j (tOrP (b := (!(decide ((x_rows.length : Int) = (1 : Int))))) (c := (!(decide ((ixG x_rows (0 : Int)).1 = x_word)))) (fun R hR => tTest_i (tOp_i (tCB_i (tCons_i (tVar_i (v := v_rows) rfl (tNil_i (lenS (sqL Su h_rows) (tC_i (rNeU_i (IsBl_i (hR))))))))))) (fun g6 R hR => tTest_i (tOp_i (tOp_i (tOp_i (tVar_i (v := v_rows) rfl (tC_i (ixS (sqL Su h_rows) (hw.1 g6) (fun u7 h8 => tC_i (ixTI (j := 0) h8 Su rgZ rfl (tVar_i (v := (.str x_word)) rfl (rNeU_s (IsBl_i (hR))))))))))))) (?_)))
  refine Br_two hw.2 (fun c9 hw => ?_) (fun c9 hw => ?_)
  · refine tRet_j (tC_i (?_))
    exact hk _ hw _ (Same.refl H)
  · refine tNext_j (tRet_j (?_))
    refine joinV hw (fun d v H' => v = V.bl d ∧ Same H H') (fun b13 v H14 hM hw => ?_) (fun hw hR => ?_)
    rotate_left 1
    · refine tAndV_i (tCallS_i (tCons_i (tOp_i (tOp_i (tVar_i (v := v_rows) rfl (tC_i (ixS (sqL Su h_rows) hw.1 (fun u16 h17 => tC_i (ixTI (j := 1) h17 Su (rgS rgOne) rfl (tNil_i (?_)))))))))))
      refine ⟨ps, (ixG x_rows (0 : Int)).2, rfl, P0, _, _, hw.2, fun r18 hw H19 s20 => ?_, (fun er hc hw => errUp (Same.refl H) ss_refl (he er (absurd hc (List.not_mem_nil)) hw))⟩
      have P21 := dom_up s20 P0
      have T22 := Same.trans (Same.refl H) s20
      have sc23 := Same.trans (Same.refl H) s20
      have S24 : Same (dels H ps) (dels H19 ps) := Sd ps s20
      refine IsBl_i (?_)
      refine Br_two hw (fun c25 hw => ?_) (fun c25 hw => ?_)
      · refine tOp_i (tOp_i (tOp_i (tVar_i (v := v_rows) rfl (tC_i (ixS (sqL (Same.trans S24 Su) h_rows) hw.1 (fun u26 h27 => tC_i (ixTI (j := 1) h27 (Same.trans S24 Su) (rgS rgOne) rfl (tVar_i (v := (.int x_number)) rfl (rEqU_i (?_))))))))))
        exact hR _ _ _ ⟨rfl, sc23⟩ hw.2
      · exact hR _ _ _ ⟨rfl, sc23⟩ hw
    obtain ⟨rfl, s15⟩ := hM
    have P28 := dom_up s15 P0
    have T29 := Same.trans (Same.refl H) s15
    have S30 : Same (dels H ps) (dels H14 ps) := Sd ps s15
    exact hk _ hw _ T29
def sp_ulaw_partners (K : PySem.W.Frag) (t : Tab) : Sp := fun vs H Q E => ∃ (ps : List Addr) (x_n : Int) (x_a : (List Int)) (x_one : Int) (x_two : Int) (x_i : Int) (v_a : V), vs = [(.int x_n), v_a, (.int x_one), (.int x_two), (.int x_i)] ∧ (∀ x ∈ ps, H x ≠ none) ∧ (pList pInt).rep (dels H ps) v_a x_a ∧ ∃ (k : (List Int) → Prop) (e : PErr → Prop), w_ulaw_partners x_n x_a x_one x_two x_i k e ∧ (∀ r, k r → RetO ps pInt H Q r) ∧ (∀ er, er.cls ∈ ([] : List Nat) → e er → ErrK ps t.cl H E er)
theorem len_ulaw_partners : ∀ vs H Q E, sp_ulaw_partners K t vs H Q E → vs.length = (["n", "a", "one", "two", "i"] : List Str).length := by
  rintro vs H Q E ⟨_, _, _, _, _, _, _, rfl, _⟩
  rfl
theorem ok_ulaw_partners (T : Txt K mg t) : FnOk P w K mg base (L2.CX P w) 1 t.a_ulaw_partners t.fd_ulaw_partners ["n", "a", "one", "two", "i"] (sp_ulaw_partners K t) := by
  refine T.F_ulaw_partners.okX sc_ulaw_partners len_ulaw_partners (fun cdv A outer s H vs Q E hr h => ?_)
  have nd := sc_ulaw_partners.nd
  refine ⟨_, (pss_cons (ps_set (i := 5) nd rfl (Or.inl rfl) (pe_lst pa_nil))
    (pss_cons (ps_for (passes_of rfl) rfl (pi_range1 (by rfl) T.n_range (pa_cons (pv 0) pa_nil)) (pg_name (i := 6) nd rfl (Or.inl rfl))
    (pss_one (ps_if (PW.pt (pw_and (pt_cmpR (op_neUK K hr) (pv 6) (pv 4) (by first | exact nomark _ | rfl)) (pw_and1 (pt_cmpR (op_eqUK K hr) (pe_op op_and (pe_op op_shr (pe_op op_xor (pv 2) (pv 3)) (pv 6)) (pe_int)) (pe_int) (by first | exact nomark _ | rfl))))) (pss_cons (ps_set (i := 7) nd rfl (Or.inl rfl) (pe_op op_xor (pe_op op_shl (pe_int) (pv 4)) (pe_op op_shl (pe_int) (pv 6))))
    (pss_one (ps_if (PW.pt (pw_and (pt_cmpR (op_neUK K hr) (pe_ix (ix_UK K) (pv 1) (pe_op op_xor (pv 2) (pv 7)) (fun _ _ => rfl)) (pe_int) (by first | exact nomark _ | rfl)) (pw_and1 (pt_cmpR (op_neUK K hr) (pe_ix (ix_UK K) (pv 1) (pe_op op_xor (pv 3) (pv 7)) (fun _ _ => rfl)) (pe_int) (by first | exact nomark _ | rfl))))) (pss_one (ps_expr (pe_bmK K PySem.F.plainAttrs_list PySem.F.slot_list_append PySem.F.type_list_append mt_append (pv 5) (pa_cons (pv 6) pa_nil)))) pss_nil))) pss_nil)))
    (pss_one (ps_ret (pv 5))))), ?_⟩
  obtain ⟨ps, x_n, x_a, x_one, x_two, x_i, v_a, rfl, P0, h_a, k, e, hw, hk, he⟩ := h
  unfold w_ulaw_partners at hw
  refine tSeq_j (tAsg_j (tLst_i (tNil_i (new_i (Nat.le_of_ble_eq_true rfl) (fun q1 H2 n3 s4 e5 => ?_)))))
  have r6 : AllR pInt (dels H ps) [] ([] : List Int) := .nil
  have l7 : ([] : List Int).length ≤ LIM := (Nat.le_of_ble_eq_true rfl)
  have m8 := nin_of n3 P0
  have z9 := Same.free (Same.refl H) n3
  have P10 := dom_up s4 P0
  have T11 := Same.trans (Same.refl H) s4
  have P12 := dom_new e5 P10
  have S13 : Same (dels H ps) (dels H2 (q1 :: ps)) := Sn ps s4 n3
  refine gN (σ' := [some (.int x_n), some v_a, some (.int x_one), some (.int x_two), some (.int x_i), some (.ref q1), none, none]) rfl (?_)
  obtain ⟨y14, r15, l16, hw⟩ := letO hw r6 l7
  refine tSeq_j (tFor_j (w1 (tCons_i (tVar_i (v := (.int x_n)) rfl (tNil_i (rgW1 hw.1 (?_)))))))
  refine forR0 (s0 := y14) hw.2 (fun (s74 : (List Int)) (σ76 : L2.St) (H75 : Hp) => ∃ (j77 : Option V) (j78 : Option V) (us82 : List V), σ76 = [some (.int x_n), some v_a, some (.int x_one), some (.int x_two), some (.int x_i), some (.ref q1), j77, j78] ∧ Same (dels H2 (q1 :: ps)) (dels H75 (q1 :: ps)) ∧ (∀ x ∈ (q1 :: ps), H75 x ≠ none) ∧ Same H H75 ∧ H75 q1 = some (.lst us82) ∧ AllR pInt (dels H75 (q1 :: ps)) us82 s74 ∧ (s74).length ≤ LIM ∧ True) ⟨_, _, [], rfl, (Same.refl _), P12, T11, e5, (AllR.mono S13 r15), l16, trivial⟩ (fun d88 s74 σ76 H75 nx86 hr hw => ?_) (fun s92 σ94 H93 hr hw => ?_)
  · obtain ⟨j77, j78, us82, rfl, S81, P79, T80, e83, r84, l85, _⟩ := hr
    refine gN (σ' := [some (.int x_n), some v_a, some (.int x_one), some (.int x_two), some (.int x_i), some (.ref q1), some (.int d88), j78]) rfl (tIfS_j (tAndP (b := (!(decide (d88 = x_i)))) (c := (decide ((PySem.Builtin.bitAnd ((PySem.Builtin.bitXor x_one x_two) / 2 ^ Int.toNat d88) (1 : Int)) = (1 : Int)))) (fun R hR => tTest_i (tOp_i (tVar_i (v := (.int d88)) rfl (tVar_i (v := (.int x_i)) rfl (rNeU_i (IsBl_i (hR))))))) (fun g105 R hR => tTest_i (tOp_i (tOp_i (tOp_i (tOp_i (tVar_i (v := (.int x_one)) rfl (tVar_i (v := (.int x_two)) rfl (rI0_i (tVar_i (v := (.int d88)) rfl (rI_i (C := fun _ j => 0 ≤ j) (hw.1 g105) (tC_i (rI0_i (tC_i (rEqU_i (IsBl_i (hR)))))))))))))))) (?_)))
    refine Br_two hw.2 (fun c106 hw => ?_) (fun c106 hw => ?_)
    · refine tSeq_j (tAsg_j (tOp_i (tOp_i (tC_i (tVar_i (v := (.int x_i)) rfl (rI_i hw.1 (tOp_i (tC_i (tVar_i (v := (.int d88)) rfl (rI_i hw.2.1 (rI0_i (?_))))))))))))
      refine asgIL (f := V.int) (e := (PySem.Builtin.bitXor ((1 : Int) * 2 ^ Int.toNat x_i) ((1 : Int) * 2 ^ Int.toNat d88))) (g := fun y107 => [some (.int x_n), some v_a, some (.int x_one), some (.int x_two), some (.int x_i), some (.ref q1), some (.int d88), some (.int y107)]) hw.2.2 (fun _ => rfl) (fun y107 hw => ?_)
      refine tIfS_j (tAndP (b := (!(decide ((ixG x_a (PySem.Builtin.bitXor x_one y107)) = (0 : Int))))) (c := (!(decide ((ixG x_a (PySem.Builtin.bitXor x_two y107)) = (0 : Int))))) (fun R hR => tTest_i (tOp_i (tOp_i (tVar_i (v := v_a) rfl (tOp_i (tVar_i (v := (.int x_one)) rfl (tVar_i (v := (.int y107)) rfl (rI0_i (ixI (sqL (Same.trans (S13.trans S81) Su) h_a) hw.1 (tC_i (rNeU_i (IsBl_i (hR))))))))))))) (fun g109 R hR => tTest_i (tOp_i (tOp_i (tVar_i (v := v_a) rfl (tOp_i (tVar_i (v := (.int x_two)) rfl (tVar_i (v := (.int y107)) rfl (rI0_i (ixI (sqL (Same.trans (S13.trans S81) Su) h_a) (hw.2.1 g109) (tC_i (rNeU_i (IsBl_i (hR))))))))))))) (?_))
      refine Br_two hw.2.2 (fun c110 hw => ?_) (fun c110 hw => ?_)
      · refine tDrop_j (tBM_i (tVar_i (v := (.ref q1)) rfl (tyL (SqL.of e83) (tCons_i (tVar_i (v := (.int d88)) rfl (tNil_i (appO (p := pInt) (d := d88) e83 r84 hw.1 rfl (fun H111 f112 us113 e114 r115 l116 => ?_))))))))
        have P117 := dom_off f112 e114 P79
        have T118 := st_off T80 f112 z9
        have S119 : Same (dels H75 (q1 :: ps)) (dels H111 (q1 :: ps)) := So (List.mem_cons_self ..) f112
        obtain ⟨y120, r121, l122, hw⟩ := letO hw.2 r115 l116
        exact nxS_i (s := (y120)) ⟨_, _, us113, rfl, (S81.trans S119), P117, T118, e114, (AllR.mono S119 r121), l122, trivial⟩ hw
      · refine tNext_j (?_)
        exact nxS_i (s := (s74)) ⟨_, _, us82, rfl, S81, P79, T80, e83, r84, l85, trivial⟩ hw
    · refine tNext_j (?_)
      exact nxS_i (s := (s74)) ⟨_, _, us82, rfl, S81, P79, T80, e83, r84, l85, trivial⟩ hw
  obtain ⟨j95, j96, us100, rfl, S99, P97, T98, e101, r102, l103, _⟩ := hr
  refine tRet_j (tVar_i (v := (.ref q1)) rfl (?_))
  exact hk _ hw _ _ _ T98 z9 e101 r102 l103
def sp_ulaw_list_is (K : PySem.W.Frag) (t : Tab) : Sp := fun vs H Q E => ∃ (ps : List Addr) (x_answer : (List Int)) (x_due : (List Int)) (v_answer : V) (v_due : V), vs = [v_answer, v_due] ∧ (∀ x ∈ ps, H x ≠ none) ∧ (pList pInt).rep (dels H ps) v_answer x_answer ∧ (pList pInt).rep (dels H ps) v_due x_due ∧ ∃ (k : Bool → Prop) (e : PErr → Prop), w_ulaw_list_is x_answer x_due k e ∧ (∀ r, k r → RetI V.bl H Q r) ∧ (∀ er, er.cls ∈ ([] : List Nat) → e er → ErrK ps t.cl H E er)
theorem len_ulaw_list_is : ∀ vs H Q E, sp_ulaw_list_is K t vs H Q E → vs.length = (["answer", "due"] : List Str).length := by
  rintro vs H Q E ⟨_, _, _, _, _, rfl, _⟩
  rfl
theorem ok_ulaw_list_is (T : Txt K mg t) : FnOk P w K mg base (L2.CX P w) 2 t.a_ulaw_list_is t.fd_ulaw_list_is ["answer", "due"] (sp_ulaw_list_is K t) := by
  have G_ulaw_whole := ok_ulaw_whole (P := P) (w := w) (base := base) T
  refine T.F_ulaw_list_is.okX sc_ulaw_list_is len_ulaw_list_is (fun cdv A outer s H vs Q E hr h => ?_)
  have nd := sc_ulaw_list_is.nd
  refine ⟨_, (pss_cons (ps_if (PW.pt (pw_or (pt_not (pt_truthK K (pe_callB (call_isiUK K) (by rfl) T.n_isinstance (by decide +kernel) (pa_cons (pv 0) (pa_cons (pe_bltn (v := .ty "list") (by rfl) T.n_list (by decide +kernel) rfl) pa_nil))))) (pw_or1 (pt_not (pt_truthK K (pe_callB (cr_allK K rfl) (by rfl) T.n_all (by decide +kernel) (pa_cons (pe_lc (own := [("x", 2)]) (g := gName 2) (tt := tYes) rfl nd (pi_UK K (pv 0)) (blkOk_by (N := ["answer", "due", "x"]) (sc := defScope s_ulaw_list_is) (by decide +kernel)) (fun _ _ _ _ _ => (pg_name (i := 2) nd rfl (Or.inl rfl))) (fun _ _ _ _ _ => pts_nil) (fun _ _ _ _ _ => (pe_call G_ulaw_whole (hr.mono (by decide)) (by rfl) T.g_ulaw_whole T.F_ulaw_whole.kp T.b_ulaw_whole .nil passL (pa_cons (pv 2) pa_nil)))) pa_nil))))))) (pss_one (ps_ret (pe_bl))) pss_nil)
    (pss_one (ps_ret (pe_cmpR (op_eqUK K hr) (pv 0) (pv 1) (by first | exact nomark _ | rfl))))), ?_⟩
  obtain ⟨ps, x_answer, x_due, v_answer, v_due, rfl, P0, h_answer, h_due, k, e, hw, hk, he⟩ := h
  unfold w_ulaw_list_is at hw
  refine tSeq_j (tIfS_j (?_))
  refine joinT hw (fun H' => Same H H') (fun b2 H3 s4 hw => ?_) (fun hw hR => ?_)
  rotate_left 1
  · refine tOr_i (tNot_i (tTruth_i (tCB_i (tCons_i (tVar_i (v := v_answer) rfl (tCons_i (tC_i (tNil_i (isiL (slL Su h_answer) (Tru_b (?_)))))))))))
    refine Br_two hw (fun c5 hw => ?_) (fun c5 hw => ?_)
    · exact hR _ _ (Same.refl H) hw
    · refine tNot_i (tTruth_i (tCB_i (tCons_i (tLc_i (wL (tVar_i (v := v_answer) rfl (?_)))))))
      obtain ⟨a21, us22, hv23, hS24, hr25, hl26⟩ := (lFro (K := K) h_answer)
      refine WL_v hv23 (Same.seq Su hS24) (lcL (pb := pBl) (ps := ps) hw (Same.seq Su hS24) hr25 hl26 P0 (fun q6 d7 x8 H9 n11 s12 ⟨acc13, e14⟩ hi15 nx16 hw Y17 N18 hY19 hN20 => ?_) (fun q59 H60 acc61 zs62 n63 s64 e65 r66 l67 hw => ?_))
      · have m43 := nin_of n11 P0
        have z44 := Same.free (Same.refl H) n11
        have P45 := dom_up s12 P0
        have T46 := Same.trans (Same.refl H) s12
        have sc47 := Same.trans (Same.refl H) s12
        have P48 := dom_new e14 P45
        have S49 : Same (dels H ps) (dels H9 (q6 :: ps)) := Sn ps s12 n11
        obtain rfl : x8 = (.int d7) := hi15
        refine gN (σ' := [some v_answer, some v_due, some (.int d7)]) rfl (wipe_i rfl (tYes_i (Br_t (tCall_i (tCons_i (tVar_i (v := (.int d7)) rfl (tNil_i (?_))))))))
        refine ⟨(q6 :: ps), d7, rfl, P48, _, _, hw, fun r50 hw H51 s52 => ?_, (fun er _ hw => False.elim hw)⟩
        have P53 := dom_up s52 P48
        have T54 := Same.trans T46 s52
        have sc55 := Same.trans sc47 s52
        have sc56 := Same.trans (Same.refl H9) s52
        have e57 := s52 _ _ e14
        have S58 : Same (dels H9 (q6 :: ps)) (dels H51 (q6 :: ps)) := Sd (q6 :: ps) s52
        exact hY19 r50 _ _ sc56 rfl hw
      have m68 := nin_of n63 P0
      have z69 := Same.free (Same.refl H) n63
      have P70 := dom_up s64 P0
      have T71 := Same.trans (Same.refl H) s64
      have sc72 := Same.trans (Same.refl H) s64
      have P73 := dom_new e65 P70
      have S74 : Same (dels H ps) (dels H60 (q59 :: ps)) := Sn ps s64 n63
      have h75 : (pList pBl).rep (dels H60 ps) (.ref q59) zs62 := oFrzG e65 m68 (ss_skip ss_refl) r66 l67
      have P76 := dom_ss (ss_skip ss_refl) P73
      have S77 : Same (dels H60 (q59 :: ps)) (dels H60 ps) := Ss (ss_skip ss_refl)
      refine tNil_i (allS zs62 (slL Su h75) (Tru_b (?_)))
      exact hR _ _ sc72 hw
  have P78 := dom_up s4 P0
  have T79 := Same.trans (Same.refl H) s4
  have S80 : Same (dels H ps) (dels H3 ps) := Sd ps s4
  refine Br_two hw (fun c81 hw => ?_) (fun c81 hw => ?_)
  · refine tRet_j (tC_i (?_))
    exact hk _ hw _ T79
  · refine tNext_j (tRet_j (tOp_i (tVar_i (v := v_answer) rfl (tVar_i (v := v_due) rfl (eqS (datList K (datInt K)) (((pList pInt)).mono Su ((pList pInt).mono S80 h_answer)) (((pList pInt)).mono Su ((pList pInt).mono S80 h_due)) (fun _ _ => trivial) (fun _ _ => trivial) (?_))))))
    exact hk _ hw _ T79
def sp_ulaw_same (K : PySem.W.Frag) (t : Tab) : Sp := fun vs H Q E => ∃ (ps : List Addr) (x_thing : (Int × Int × (List Int))) (x_p : Int) (x_n : Int) (x_cells : (List Int)) (v_thing : V) (v_cells : V), vs = [v_thing, (.int x_p), (.int x_n), v_cells] ∧ (∀ x ∈ ps, H x ≠ none) ∧ (pIns t.c_Table ["prime", "ends", "entries"] (rCons pInt (rCons pInt (rOne (pVt K pInt))))).rep (dels H ps) v_thing x_thing ∧ (pList pInt).rep (dels H ps) v_cells x_cells ∧ ∃ (k : Bool → Prop) (e : PErr → Prop), w_ulaw_same x_thing x_p x_n x_cells k e ∧ (∀ r, k r → RetI V.bl H Q r) ∧ (∀ er, er.cls ∈ ([] : List Nat) → e er → ErrK ps t.cl H E er)
theorem len_ulaw_same : ∀ vs H Q E, sp_ulaw_same K t vs H Q E → vs.length = (["thing", "p", "n", "cells"] : List Str).length := by
  rintro vs H Q E ⟨_, _, _, _, _, _, _, rfl, _⟩
  rfl
theorem ok_ulaw_same (T : Txt K mg t) : FnOk P w K mg base (L2.CX P w) 2 t.a_ulaw_same t.fd_ulaw_same ["thing", "p", "n", "cells"] (sp_ulaw_same K t) := by
  have G_ulaw_whole := ok_ulaw_whole (P := P) (w := w) (base := base) T
  refine T.F_ulaw_same.okX sc_ulaw_same len_ulaw_same (fun cdv A outer s H vs Q E hr h => ?_)
  have nd := sc_ulaw_same.nd
  refine ⟨_, (pss_cons (ps_if (PW.pt (pw_or (pt_not (pt_truthK K (pe_callB (call_isiUK K) (by rfl) T.n_isinstance (by decide +kernel) (pa_cons (pv 0) (pa_cons (pe_glob (v := .ref t.c_Table) (by rfl) T.g_Table rfl) pa_nil))))) (pw_or1 (pt_not (pt_truthK K (pe_callB (call_isiUK K) (by rfl) T.n_isinstance (by decide +kernel) (pa_cons (pe_fldK K (pv 0) rfl) (pa_cons (pe_bltn (v := .ty "tuple") (by rfl) T.n_tuple (by decide +kernel) rfl) pa_nil)))))))) (pss_one (ps_ret (pe_bl))) pss_nil)
    (pss_cons (ps_if (PW.pt (pw_or (pt_not (pt_truthK K (pe_callS G_ulaw_whole (hr.mono (by decide)) (by rfl) T.g_ulaw_whole T.F_ulaw_whole.kp T.b_ulaw_whole (fun σ => passAt (takes_of rfl rfl rfl rfl) σ) (pa_cons (pe_fldK K (pv 0) rfl) pa_nil)))) (pw_or1 (pt_not (pt_truthK K (pe_callS G_ulaw_whole (hr.mono (by decide)) (by rfl) T.g_ulaw_whole T.F_ulaw_whole.kp T.b_ulaw_whole (fun σ => passAt (takes_of rfl rfl rfl rfl) σ) (pa_cons (pe_fldK K (pv 0) rfl) pa_nil))))))) (pss_one (ps_ret (pe_bl))) pss_nil)
    (pss_cons (ps_if (pt_not (pt_truthK K (pe_callB (cr_allK K rfl) (by rfl) T.n_all (by decide +kernel) (pa_cons (pe_lc (own := [("x", 4)]) (g := gName 4) (tt := tYes) rfl nd (pi_UK K (pe_fldK K (pv 0) rfl)) (blkOk_by (N := ["thing", "p", "n", "cells", "x"]) (sc := defScope s_ulaw_same) (by decide +kernel)) (fun _ _ _ _ _ => (pg_name (i := 4) nd rfl (Or.inl rfl))) (fun _ _ _ _ _ => pts_nil) (fun _ _ _ _ _ => (pe_call G_ulaw_whole (hr.mono (by decide)) (by rfl) T.g_ulaw_whole T.F_ulaw_whole.kp T.b_ulaw_whole .nil passL (pa_cons (pv 4) pa_nil)))) pa_nil)))) (pss_one (ps_ret (pe_bl))) pss_nil)
    (pss_one (ps_ret (pe_and (pe_cmpR (op_eqUK K hr) (pe_fldK K (pv 0) rfl) (pv 1) (by first | exact nomark _ | rfl)) (pe_and (pe_cmpR (op_eqUK K hr) (pe_fldK K (pv 0) rfl) (pv 2) (by first | exact nomark _ | rfl)) (pe_one (pe_cmpR (op_eqUK K hr) (pe_callTy (call_list_ofK K) (by rfl) T.n_list (by decide +kernel) (pa_cons (pe_fldK K (pv 0) rfl) pa_nil)) (pv 3) (by first | exact nomark _ | rfl)))))))))), ?_⟩
  obtain ⟨ps, x_thing, x_p, x_n, x_cells, v_thing, v_cells, rfl, P0, h_thing, h_cells, k, e, hw, hk, he⟩ := h
  unfold w_ulaw_same at hw
  refine tSeq_j (tIfS_j (tOrP (b := (!true)) (c := (!true)) (fun R hR => tNot_i (tTruth_i (tCB_i (tCons_i (tVar_i (v := v_thing) rfl (tCons_i (tC_i (tNil_i (isiC h_thing Su T.own_Table (Tru_b (hR))))))))))) (fun g6 R hR => tNot_i (tTruth_i (tCB_i (tCons_i (tFld_i (tVar_i (v := v_thing) rfl (fldS (j := 2) h_thing Su T.own_Table.cl T.na_Table_entries (rgS (rgS rgOne)) rfl (fun u7 h8 => tCons_i (tC_i (tNil_i (isiVt Su h8 (Tru_b (hR))))))))))))) (?_)))
  refine Br_two hw (fun c9 hw => ?_) (fun c9 hw => ?_)
  · refine tRet_j (tC_i (?_))
    exact hk _ hw _ (Same.refl H)
  · refine tNext_j (tSeq_j (tIfS_j (?_)))
    refine joinT hw (fun H' => Same H H') (fun b11 H12 s13 hw => ?_) (fun hw hR => ?_)
    rotate_left 1
    · refine tOr_i (tNot_i (tTruth_i (tCallS_i (tCons_i (tFld_i (tVar_i (v := v_thing) rfl (fldI (j := 0) h_thing Su T.own_Table.cl T.na_Table_prime rgZ rfl (tNil_i (?_)))))))))
      refine ⟨ps, x_thing.1, rfl, P0, _, _, hw, fun r14 hw H15 s16 => ?_, (fun er hc hw => errUp (Same.refl H) ss_refl (he er (absurd hc (List.not_mem_nil)) hw))⟩
      have P17 := dom_up s16 P0
      have T18 := Same.trans (Same.refl H) s16
      have sc19 := Same.trans (Same.refl H) s16
      have S20 : Same (dels H ps) (dels H15 ps) := Sd ps s16
      refine Tru_b (?_)
      refine Br_two hw (fun c21 hw => ?_) (fun c21 hw => ?_)
      · exact hR _ _ sc19 hw
      · refine tNot_i (tTruth_i (tCallS_i (tCons_i (tFld_i (tVar_i (v := v_thing) rfl (fldI (j := 1) h_thing (Same.trans S20 Su) T.own_Table.cl T.na_Table_ends (rgS rgZ) rfl (tNil_i (?_))))))))
        refine ⟨ps, x_thing.2.1, rfl, P17, _, _, hw, fun r22 hw H23 s24 => ?_, (fun er hc hw => errUp T18 ss_refl (he er (absurd hc (List.not_mem_nil)) hw))⟩
        have P25 := dom_up s24 P17
        have T26 := Same.trans T18 s24
        have sc27 := Same.trans sc19 s24
        have S28 : Same (dels H15 ps) (dels H23 ps) := Sd ps s24
        refine Tru_b (?_)
        exact hR _ _ sc27 hw
    have P29 := dom_up s13 P0
    have T30 := Same.trans (Same.refl H) s13
    have S31 : Same (dels H ps) (dels H12 ps) := Sd ps s13
    refine Br_two hw (fun c32 hw => ?_) (fun c32 hw => ?_)
    · refine tRet_j (tC_i (?_))
      exact hk _ hw _ T30
    · refine tNext_j (tSeq_j (tIfS_j (tNot_i (tTruth_i (tCB_i (tCons_i (tLc_i (wT (tFld_i (tVar_i (v := v_thing) rfl (fldS (j := 2) h_thing (Same.trans S31 Su) T.own_Table.cl T.na_Table_entries (rgS (rgS rgOne)) rfl (fun u37 h38 => ?_))))))))))))
      obtain ⟨a54, us55, hv56, hS57, hr58, hl59⟩ := ((pVt K pInt).mono S31 h38)
      refine WT_v hv56 (Same.seqT Su hS57) (lcT (pb := pBl) (ps := ps) hw (Same.seqT Su hS57) hr58 hl59 P29 (fun q39 d40 x41 H42 n44 s45 ⟨acc46, e47⟩ hi48 nx49 hw Y50 N51 hY52 hN53 => ?_) (fun q88 H89 acc90 zs91 n92 s93 e94 r95 l96 hw => ?_))
      · have m74 := nin_of n44 P29
        have z75 := Same.free T30 n44
        have P76 := dom_up s45 P29
        have T77 := Same.trans T30 s45
        have P78 := dom_new e47 P76
        have S79 : Same (dels H12 ps) (dels H42 (q39 :: ps)) := Sn ps s45 n44
        obtain rfl : x41 = (.int d40) := hi48
        refine gN (σ' := [some v_thing, some (.int x_p), some (.int x_n), some v_cells, some (.int d40)]) rfl (wipe_i rfl (tYes_i (Br_t (tCall_i (tCons_i (tVar_i (v := (.int d40)) rfl (tNil_i (?_))))))))
        refine ⟨(q39 :: ps), d40, rfl, P78, _, _, hw, fun r80 hw H81 s82 => ?_, (fun er _ hw => False.elim hw)⟩
        have P83 := dom_up s82 P78
        have T84 := Same.trans T77 s82
        have sc85 := Same.trans (Same.refl H42) s82
        have e86 := s82 _ _ e47
        have S87 : Same (dels H42 (q39 :: ps)) (dels H81 (q39 :: ps)) := Sd (q39 :: ps) s82
        exact hY52 r80 _ _ sc85 rfl hw
      have m97 := nin_of n92 P29
      have z98 := Same.free T30 n92
      have P99 := dom_up s93 P29
      have T100 := Same.trans T30 s93
      have P101 := dom_new e94 P99
      have S102 : Same (dels H12 ps) (dels H89 (q88 :: ps)) := Sn ps s93 n92
      have h103 : (pList pBl).rep (dels H89 ps) (.ref q88) zs91 := oFrzG e94 m97 (ss_skip ss_refl) r95 l96
      have P104 := dom_ss (ss_skip ss_refl) P101
      have S105 : Same (dels H89 (q88 :: ps)) (dels H89 ps) := Ss (ss_skip ss_refl)
      refine tNil_i (allS zs91 (slL Su h103) (Tru_b (?_)))
      refine Br_two hw (fun c106 hw => ?_) (fun c106 hw => ?_)
      · refine tRet_j (tC_i (?_))
        exact hk _ hw _ T100
      · refine tNext_j (tRet_j (?_))
        refine joinV hw (fun d v H' => v = V.bl d ∧ Same H89 H') (fun b118 v H119 hM hw => ?_) (fun hw hR => ?_)
        rotate_left 1
        · refine tAndV_i (tOp_i (tFld_i (tVar_i (v := v_thing) rfl (fldI (j := 0) h_thing (Same.trans (S31.trans (S102.trans S105)) Su) T.own_Table.cl T.na_Table_prime rgZ rfl (tVar_i (v := (.int x_p)) rfl (rEqU_i (IsBl_i (?_))))))))
          refine Br_two hw (fun c121 hw => ?_) (fun c121 hw => ?_)
          · refine joinV hw (fun d v H' => v = V.bl d ∧ Same H89 H') (fun b133 v H134 hM hw => ?_) (fun hw hR => ?_)
            rotate_left 1
            · refine tAndV_i (tOp_i (tFld_i (tVar_i (v := v_thing) rfl (fldI (j := 1) h_thing (Same.trans (S31.trans (S102.trans S105)) Su) T.own_Table.cl T.na_Table_ends (rgS rgZ) rfl (tVar_i (v := (.int x_n)) rfl (rEqU_i (IsBl_i (?_))))))))
              refine Br_two hw (fun c136 hw => ?_) (fun c136 hw => ?_)
              · refine tOp_i (tCB_i (tCons_i (tFld_i (tVar_i (v := v_thing) rfl (fldS (j := 2) h_thing (Same.trans (S31.trans (S102.trans S105)) Su) T.own_Table.cl T.na_Table_entries (rgS (rgS rgOne)) rfl (fun u137 h138 => tNil_i (listS (sqV (Same.trans (S31.trans (S102.trans S105)) Su) h138) (fun q139 H140 n141 s142 us143 e144 r145 l146 => ?_))))))))
                have m147 := nin_of n141 P104
                have z148 := Same.free T100 n141
                have P149 := dom_up s142 P104
                have T150 := Same.trans T100 s142
                have sc151 := Same.trans (Same.refl H89) s142
                have P152 := dom_new e144 P149
                have S153 : Same (dels H89 ps) (dels H140 (q139 :: ps)) := Sn ps s142 n141
                have h154 : (pList pInt).rep (dels H140 ps) (.ref q139) x_thing.2.2 := oFrzG e144 m147 (ss_skip ss_refl) (AllR.mono (S31.trans (S102.trans (S105.trans S153))) r145) l146
                have P155 := dom_ss (ss_skip ss_refl) P152
                have S156 : Same (dels H140 (q139 :: ps)) (dels H140 ps) := Ss (ss_skip ss_refl)
                refine tVar_i (v := v_cells) rfl (eqS (datList K (datInt K)) (((pList pInt)).mono Su h154) (((pList pInt)).mono Su ((pList pInt).mono (S31.trans (S102.trans (S105.trans (S153.trans S156)))) h_cells)) (fun _ _ => trivial) (fun _ _ => trivial) (?_))
                exact hR _ _ _ ⟨rfl, sc151⟩ hw
              · exact hR _ _ _ ⟨rfl, (Same.refl H89)⟩ hw
            obtain ⟨rfl, s135⟩ := hM
            have P157 := dom_up s135 P104
            have T158 := Same.trans T100 s135
            have sc159 := Same.trans (Same.refl H89) s135
            have S160 : Same (dels H89 ps) (dels H134 ps) := Sd ps s135
            exact hR _ _ _ ⟨rfl, sc159⟩ hw
          · exact hR _ _ _ ⟨rfl, (Same.refl H89)⟩ hw
        obtain ⟨rfl, s120⟩ := hM
        have P161 := dom_up s120 P104
        have T162 := Same.trans T100 s120
        have S163 : Same (dels H89 ps) (dels H119 ps) := Sd ps s120
        exact hk _ hw _ T162
def sp_ulaw_pair_asked (K : PySem.W.Frag) (t : Tab) : Sp := fun vs H Q E => ∃ (ps : List Addr) (x_p : Int) (x_n : Int) (x_a : (List Int)) (x_one : Int) (x_two : Int) (x_filled : Bool) (v_a : V), vs = [(.int x_p), (.int x_n), v_a, (.int x_one), (.int x_two), (.bl x_filled)] ∧ (∀ x ∈ ps, H x ≠ none) ∧ (pList pInt).rep (dels H ps) v_a x_a ∧ ∃ (k : Bool → Prop) (e : PErr → Prop), w_ulaw_pair_asked x_p x_n x_a x_one x_two x_filled k e ∧ (∀ r, k r → RetI V.bl H Q r) ∧ (∀ er, er.cls ∈ ([1, 2] : List Nat) → e er → ErrK ps t.cl H E er)
theorem len_ulaw_pair_asked : ∀ vs H Q E, sp_ulaw_pair_asked K t vs H Q E → vs.length = (["p", "n", "a", "one", "two", "filled"] : List Str).length := by
  rintro vs H Q E ⟨_, _, _, _, _, _, _, _, rfl, _⟩
  rfl
theorem ok_ulaw_pair_asked (T : Txt K mg t) : FnOk P w K mg base (L2.CX P w) 8 t.a_ulaw_pair_asked t.fd_ulaw_pair_asked ["p", "n", "a", "one", "two", "filled"] (sp_ulaw_pair_asked K t) := by
  have G_Table_init := ok_Table_init (P := P) (w := w) (base := base) T
  have G_ulaw_tried := ok_ulaw_tried (P := P) (w := w) (base := base) T
  have G_ulaw_got := ok_ulaw_got (P := P) (w := w) (base := base) T
  have G_ulaw_partners := ok_ulaw_partners (P := P) (w := w) (base := base) T
  have G_exchange_ends := ok_exchange_ends (P := P) (w := w) (base := base) T
  have G_ulaw_list_is := ok_ulaw_list_is (P := P) (w := w) (base := base) T
  have G_ulaw_same := ok_ulaw_same (P := P) (w := w) (base := base) T
  refine T.F_ulaw_pair_asked.okX sc_ulaw_pair_asked len_ulaw_pair_asked (fun cdv A outer s H vs Q E hr h => ?_)
  have nd := sc_ulaw_pair_asked.nd
  refine ⟨_, (pss_cons (ps_set (i := 6) nd rfl (Or.inl rfl) (pe_mak T.mk_Table G_Table_init (hr.mono (by decide)) (by rfl) T.g_Table T.b_Table_init (fun σ => passAt (takes_of rfl rfl rfl rfl) σ) (pa_cons (pv 0) (pa_cons (pv 1) (pa_cons (pe_callTy (call_list_ofK K) (by rfl) T.n_list (by decide +kernel) (pa_cons (pv 2) pa_nil)) pa_nil)))))
    (pss_cons (ps_for (passes_of rfl) rfl (pi_UK K (pe_op (op_addUK K) (pe_lst (pa_cons (pe_op op_sub (pe_int) (pe_int)) pa_nil)) (pe_listRg rfl (by rfl) T.n_list (prg_1 (by rfl) T.n_range (pe_op (op_addUK K) (pv 1) (pe_int)))))) (pg_name (i := 7) nd rfl (Or.inl rfl))
    (pss_one (ps_if (PW.pt (pw_or (pt_cmpR op_lt (pv 7) (pe_int) (by first | exact nomark _ | rfl)) (pw_or (pt_cmpR (op_eqUK K hr) (pv 7) (pv 1) (by first | exact nomark _ | rfl)) (pw_or1 (pt_cmpR (op_eqUK K hr) (pe_op op_and (pe_op op_shr (pe_op op_xor (pv 3) (pv 4)) (pe_callB (call_max2D rfl) (by rfl) T.n_max (by decide +kernel) (pa_cons (pv 7) (pa_cons (pe_int) pa_nil)))) (pe_int)) (pe_int) (by first | exact nomark _ | rfl)))))) (pss_one (ps_if (pt_not (pt_truthK K (pe_callS G_ulaw_got (hr.mono (by decide)) (by rfl) T.g_ulaw_got T.F_ulaw_got.kp T.b_ulaw_got (fun σ => passAt (takes_of rfl rfl rfl rfl) σ) (pa_cons (pe_callS G_ulaw_tried (hr.mono (by decide)) (by rfl) T.g_ulaw_tried T.F_ulaw_tried.kp T.b_ulaw_tried (fun σ => passAt (takes_of rfl rfl rfl rfl) σ) (pa_cons (pv 6) (pa_cons (pv 3) (pa_cons (pv 4) (pa_cons (pv 7) pa_nil))))) (pa_cons (pe_str) (pa_cons (pv 7) pa_nil)))))) (pss_one (ps_ret (pe_bl))) pss_nil)) (pss_cons (ps_set (i := 8) nd rfl (Or.inl rfl) (pe_callS G_ulaw_partners (hr.mono (by decide)) (by rfl) T.g_ulaw_partners T.F_ulaw_partners.kp T.b_ulaw_partners (fun σ => passAt (takes_of rfl rfl rfl rfl) σ) (pa_cons (pv 1) (pa_cons (pv 2) (pa_cons (pv 3) (pa_cons (pv 4) (pa_cons (pv 7) pa_nil)))))))
    (pss_cons (ps_set (i := 9) nd rfl (Or.inl rfl) (pe_callS G_exchange_ends (hr.mono (by decide)) (by rfl) T.g_exchange_ends T.F_exchange_ends.kp T.b_exchange_ends (fun σ => passAt (takes_of rfl rfl rfl rfl) σ) (pa_cons (pv 6) (pa_cons (pv 3) (pa_cons (pv 4) (pa_cons (pv 7) pa_nil))))))
    (pss_cons (ps_if (PW.pt (pw_or (pt_not (pt_truthK K (pe_callS G_ulaw_list_is (hr.mono (by decide)) (by rfl) T.g_ulaw_list_is T.F_ulaw_list_is.kp T.b_ulaw_list_is (fun σ => passAt (takes_of rfl rfl rfl rfl) σ) (pa_cons (pv 9) (pa_cons (pv 8) pa_nil))))) (pw_or1 (PW.pt (pw_and (pt_truthK K (pv 5)) (pw_and1 (pt_cmpR (op_eqUK K hr) (pe_callB (call_lenK K) (by rfl) T.n_len (by decide +kernel) (pa_cons (pv 9) pa_nil)) (pe_int) (by first | exact nomark _ | rfl)))))))) (pss_one (ps_ret (pe_bl))) pss_nil)
    (pss_cons (ps_expr (pe_bmK K PySem.F.plainAttrs_list PySem.F.slot_list_append PySem.F.type_list_append mt_append (pv 9) (pa_cons (pe_int) pa_nil)))
    (pss_cons (ps_if (pt_not (pt_truthK K (pe_callS G_ulaw_list_is (hr.mono (by decide)) (by rfl) T.g_ulaw_list_is T.F_ulaw_list_is.kp T.b_ulaw_list_is (fun σ => passAt (takes_of rfl rfl rfl rfl) σ) (pa_cons (pe_callS G_exchange_ends (hr.mono (by decide)) (by rfl) T.g_exchange_ends T.F_exchange_ends.kp T.b_exchange_ends (fun σ => passAt (takes_of rfl rfl rfl rfl) σ) (pa_cons (pv 6) (pa_cons (pv 3) (pa_cons (pv 4) (pa_cons (pv 7) pa_nil))))) (pa_cons (pv 8) pa_nil))))) (pss_one (ps_ret (pe_bl))) pss_nil)
    (pss_cons (ps_set (i := 9) nd rfl (Or.inl rfl) (pe_callK0 G_exchange_ends (hr.mono (by decide)) (by rfl) T.g_exchange_ends T.F_exchange_ends.kp T.kb_exchange_ends_0_table_first_second_end passL  (pk_cons (pv 6) (pk_cons (pv 4) (pk_cons (pv 3) (pk_cons (pv 7) pk_nil))))))
    (pss_one (ps_if (pt_not (pt_truthK K (pe_callS G_ulaw_list_is (hr.mono (by decide)) (by rfl) T.g_ulaw_list_is T.F_ulaw_list_is.kp T.b_ulaw_list_is (fun σ => passAt (takes_of rfl rfl rfl rfl) σ) (pa_cons (pv 9) (pa_cons (pv 8) pa_nil))))) (pss_one (ps_ret (pe_bl))) pss_nil)))))))))))
    (pss_one (ps_ret (pe_callS G_ulaw_same (hr.mono (by decide)) (by rfl) T.g_ulaw_same T.F_ulaw_same.kp T.b_ulaw_same (fun σ => passAt (takes_of rfl rfl rfl rfl) σ) (pa_cons (pv 6) (pa_cons (pv 0) (pa_cons (pv 1) (pa_cons (pv 2) pa_nil))))))))), ?_⟩
  obtain ⟨ps, x_p, x_n, x_a, x_one, x_two, x_filled, v_a, rfl, P0, h_a, k, e, hw, hk, he⟩ := h
  unfold w_ulaw_pair_asked at hw
  refine tSeq_j (tAsg_j (tMak_i (tCons_i (tVar_i (v := (.int x_p)) rfl (tCons_i (tVar_i (v := (.int x_n)) rfl (tCons_i (tCB_i (tCons_i (tVar_i (v := v_a) rfl (tNil_i (listS (sqL Su h_a) (fun q1 H2 n3 s4 us5 e6 r7 l8 => ?_)))))))))))))
  have m9 := nin_of n3 P0
  have z10 := Same.free (Same.refl H) n3
  have P11 := dom_up s4 P0
  have T12 := Same.trans (Same.refl H) s4
  have P13 := dom_new e6 P11
  have S14 : Same (dels H ps) (dels H2 (q1 :: ps)) := Sn ps s4 n3
  have h15 : (pList pInt).rep (dels H2 ps) (.ref q1) x_a := oFrzG e6 m9 (ss_skip ss_refl) (AllR.mono S14 r7) l8
  have P16 := dom_ss (ss_skip ss_refl) P13
  have S17 : Same (dels H2 (q1 :: ps)) (dels H2 ps) := Ss (ss_skip ss_refl)
  refine tNil_i (?_)
  refine makS (fun n18 dn19 H20 nn21 s22 s23 e24 => ?_)
  have S25 : Same (dels H2 ps) (dels H20 (n18 :: ps)) := Sn ps s22 nn21
  have P26 := dom_new e24 (dom_up s22 P16)
  refine ⟨(n18 :: ps), x_p, x_n, x_a, n18, dn19, (.ref q1), rfl, P26, (List.mem_cons_self ..), e24, ((pList pInt).mono S25 h15), _, _, hw, fun r27 hw H28 fs29 s30 e31 hn32 rr33 => ⟨rfl, ?_⟩, (fun er hc hw => errUp (Same.trans T12 s23) (ss_skip ss_refl) (he er (by simp only [List.mem_cons, List.not_mem_nil, or_false] at hc ⊢; omega) hw))⟩
  have s35 := Same.trans s23 s30
  have P36 := dom_up s35 P16
  have T37 := Same.trans T12 s35
  have S38 : Same (dels H2 ps) (dels H28 ps) := Sd ps s35
  have h34 : (pIns t.c_Table ["prime", "ends", "entries"] (rCons pInt (rCons pInt (rOne (pVt K pInt))))).rep (dels H28 ps) (.ref n18) r27 := ⟨_, _, fs29, rfl, dels_at e31 (nin_of nn21 P16), hn32, PRow.mono (rCons pInt (rCons pInt (rOne (pVt K pInt)))) (Ss (ss_skip ss_refl)) rr33⟩
  refine gN (σ' := [some (.int x_p), some (.int x_n), some v_a, some (.int x_one), some (.int x_two), some (.bl x_filled), some (.ref n18), none, none, none]) rfl (tSeq_j (tFor_j (wL (tOp_i (tLst_i (tCons_i (tOp_i (tC_i (tC_i (rI0_i (tNil_i (new_i (Nat.le_of_ble_eq_true rfl) (fun q395 H396 n397 s398 e399 => ?_)))))))))))))
  have r400 : AllR pInt (dels H28 ps) [(.int ((0 : Int) - (1 : Int)))] ([((0 : Int) - (1 : Int))] : List Int) := (.cons rfl .nil)
  have l401 : ([((0 : Int) - (1 : Int))] : List Int).length ≤ LIM := (Nat.le_of_ble_eq_true rfl)
  have m402 := nin_of n397 P36
  have z403 := Same.free T37 n397
  have P404 := dom_up s398 P36
  have T405 := Same.trans T37 s398
  have P406 := dom_new e399 P404
  have S407 : Same (dels H28 ps) (dels H396 (q395 :: ps)) := Sn ps s398 n397
  have h408 : (pList pInt).rep (dels H396 ps) (.ref q395) ([((0 : Int) - (1 : Int))] : List Int) := oFrzG e399 m402 (ss_skip ss_refl) (AllR.mono S407 r400) l401
  have P409 := dom_ss (ss_skip ss_refl) P406
  have S410 : Same (dels H396 (q395 :: ps)) (dels H396 ps) := Ss (ss_skip ss_refl)
  refine tLstRg1_i (tOp_i (tVar_i (v := (.int x_n)) rfl (tC_i (rAddU_i (rgS' (W := (dels H396 ps)) hw.1 (fun q411 H412 n413 s414 us415 e416 r417 l418 => ?_))))))
  have m419 := nin_of n413 P409
  have z420 := Same.free T405 n413
  have P421 := dom_up s414 P409
  have T422 := Same.trans T405 s414
  have P423 := dom_new e416 P421
  have S424 : Same (dels H396 ps) (dels H412 (q411 :: ps)) := Sn ps s414 n413
  have h425 : (pList pInt).rep (dels H412 ps) (.ref q411) (rangeL (0 : Int) (x_n + (1 : Int))) := oFrzG e416 m419 (ss_skip ss_refl) (AllR.mono S424 r417) l418
  have P426 := dom_ss (ss_skip ss_refl) P423
  have S427 : Same (dels H412 (q411 :: ps)) (dels H412 ps) := Ss (ss_skip ss_refl)
  refine catS (p := pInt) (lwL Su ((pList pInt).mono (S424.trans S427) h408)) (lwL Su h425) hw.2.1 (fun q428 H429 n430 s431 us432 e433 r434 l435 => ?_)
  have m436 := nin_of n430 P426
  have z437 := Same.free T422 n430
  have P438 := dom_up s431 P426
  have T439 := Same.trans T422 s431
  have P440 := dom_new e433 P438
  have S441 : Same (dels H412 ps) (dels H429 (q428 :: ps)) := Sn ps s431 n430
  have h442 : (pList pInt).rep (dels H429 ps) (.ref q428) (([((0 : Int) - (1 : Int))] : List Int) ++ (rangeL (0 : Int) (x_n + (1 : Int)))) := oFrzG e433 m436 (ss_skip ss_refl) (AllR.mono S441 r434) l435
  have P443 := dom_ss (ss_skip ss_refl) P440
  have S444 : Same (dels H429 (q428 :: ps)) (dels H429 ps) := Ss (ss_skip ss_refl)
  obtain ⟨a445, us446, hv447, hS448, hr449, hl450⟩ := (lFro (K := K) h442)
  refine WL_v hv447 (Same.seq Su hS448) (forL (s0 := ()) hw.2.2 hr449 (fun (s451 : Unit) (σ453 : L2.St) (H452 : Hp) => ∃ (j454 : Option V) (j455 : Option V) (j456 : Option V), σ453 = [some (.int x_p), some (.int x_n), some v_a, some (.int x_one), some (.int x_two), some (.bl x_filled), some (.ref n18), j454, j455, j456] ∧ Same (dels H429 ps) (dels H452 ps) ∧ (∀ x ∈ ps, H452 x ≠ none) ∧ Same H H452 ∧ True) ⟨_, _, _, rfl, (Same.refl _), P443, T439, trivial⟩ (fun s451 σ453 H452 ⟨j454, j455, j456, _, S459, P457, T458, _⟩ => (Same.seq (Same.trans S459 Su) hS448)) (fun d462 s451 σ453 H452 x463 nx460 hr hi464 hw => ?_) (fun s466 σ468 H467 hr hw => ?_))
  · obtain ⟨j454, j455, j456, rfl, S459, P457, T458, _⟩ := hr
    obtain rfl : x463 = (.int d462) := hi464
    refine gN (σ' := [some (.int x_p), some (.int x_n), some v_a, some (.int x_one), some (.int x_two), some (.bl x_filled), some (.ref n18), some (.int d462), j455, j456]) rfl (tIfS_j (tOrP (b := (decide (d462 < (0 : Int)))) (c := ((decide (d462 = x_n)) || (decide ((PySem.Builtin.bitAnd ((PySem.Builtin.bitXor x_one x_two) / 2 ^ Int.toNat (maxI d462 (0 : Int))) (1 : Int)) = (0 : Int))))) (fun R hR => tTest_i (tOp_i (tVar_i (v := (.int d462)) rfl (tC_i (rI0_i (IsBl_i (hR))))))) (fun g478 R hR => tOrP (b := (decide (d462 = x_n))) (c := (decide ((PySem.Builtin.bitAnd ((PySem.Builtin.bitXor x_one x_two) / 2 ^ Int.toNat (maxI d462 (0 : Int))) (1 : Int)) = (0 : Int)))) (fun R hR => tTest_i (tOp_i (tVar_i (v := (.int d462)) rfl (tVar_i (v := (.int x_n)) rfl (rEqU_i (IsBl_i (hR))))))) (fun g479 R hR => tTest_i (tOp_i (tOp_i (tOp_i (tOp_i (tVar_i (v := (.int x_one)) rfl (tVar_i (v := (.int x_two)) rfl (rI0_i (tCB_i (tCons_i (tVar_i (v := (.int d462)) rfl (tCons_i (tC_i (tNil_i (rMax2_i (rI_i (C := fun _ j => 0 ≤ j) (hw.1 g478 g479) (tC_i (rI0_i (tC_i (rEqU_i (IsBl_i (hR)))))))))))))))))))))) (hR)) (?_)))
    refine Br_two hw.2 (fun c480 hw => ?_) (fun c480 hw => ?_)
    · refine tIfS_j (tNot_i (tTruth_i (tCallS_i (tCons_i (tCallS_i (tCons_i (tVar_i (v := (.ref n18)) rfl (tCons_i (tVar_i (v := (.int x_one)) rfl (tCons_i (tVar_i (v := (.int x_two)) rfl (tCons_i (tVar_i (v := (.int d462)) rfl (tNil_i (?_)))))))))))))))
      refine ⟨ps, r27, x_one, x_two, d462, (.ref n18), rfl, P457, ((pIns t.c_Table ["prime", "ends", "entries"] (rCons pInt (rCons pInt (rOne (pVt K pInt))))).mono (S407.trans (S410.trans (S424.trans (S427.trans (S441.trans (S444.trans S459)))))) h34), _, _, hw, fun r481 hw H482 q484 us485 s483 n486 e487 r488 l489 => ?_, (fun er hc hw => errUp T458 ss_refl (he er (absurd hc (List.not_mem_nil)) hw))⟩
      have m490 := nin_of n486 P457
      have z491 := Same.free T458 n486
      have P492 := dom_up s483 P457
      have T493 := Same.trans T458 s483
      have P494 := dom_new e487 P492
      have S495 : Same (dels H452 ps) (dels H482 (q484 :: ps)) := Sn ps s483 n486
      have h496 : (pList (pTup K (rCons pStr (rOne pInt)))).rep (dels H482 ps) (.ref q484) r481 := oFrzG e487 m490 (ss_skip ss_refl) r488 l489
      have P497 := dom_ss (ss_skip ss_refl) P494
      have S498 : Same (dels H482 (q484 :: ps)) (dels H482 ps) := Ss (ss_skip ss_refl)
      refine tCons_i (tC_i (tCons_i (tVar_i (v := (.int d462)) rfl (tNil_i (?_)))))
      refine ⟨ps, r481, (Str.ofString "number"), d462, (.ref q484), rfl, P497, h496, _, _, hw, fun r499 hw H500 s501 => ?_, (fun er hc hw => errUp T493 ss_refl (he er (absurd hc (List.not_mem_nil)) hw))⟩
      have P502 := dom_up s501 P497
      have T503 := Same.trans T493 s501
      have S504 : Same (dels H482 ps) (dels H500 ps) := Sd ps s501
      refine Tru_b (?_)
      refine Br_two hw (fun c505 hw => ?_) (fun c505 hw => ?_)
      · refine tRet_j (tC_i (?_))
        exact hk _ hw _ T503
      · refine tNext_j (?_)
        exact nxS_i (s := (())) ⟨_, _, _, rfl, (S459.trans (S495.trans (S498.trans S504))), P502, T503, trivial⟩ hw
    · refine tSeq_j (tAsg_j (tCallS_i (tCons_i (tVar_i (v := (.int x_n)) rfl (tCons_i (tVar_i (v := v_a) rfl (tCons_i (tVar_i (v := (.int x_one)) rfl (tCons_i (tVar_i (v := (.int x_two)) rfl (tCons_i (tVar_i (v := (.int d462)) rfl (tNil_i (?_))))))))))))))
      refine ⟨ps, x_n, x_a, x_one, x_two, d462, v_a, rfl, P457, ((pList pInt).mono (S14.trans (S17.trans (S38.trans (S407.trans (S410.trans (S424.trans (S427.trans (S441.trans (S444.trans S459))))))))) h_a), _, _, hw, fun r506 hw H507 q509 us510 s508 n511 e512 r513 l514 => ?_, (fun er hc hw => errUp T458 ss_refl (he er (absurd hc (List.not_mem_nil)) hw))⟩
      have m515 := nin_of n511 P457
      have z516 := Same.free T458 n511
      have P517 := dom_up s508 P457
      have T518 := Same.trans T458 s508
      have P519 := dom_new e512 P517
      have S520 : Same (dels H452 ps) (dels H507 (q509 :: ps)) := Sn ps s508 n511
      have h521 : (pList pInt).rep (dels H507 ps) (.ref q509) r506 := oFrzG e512 m515 (ss_skip ss_refl) r513 l514
      have P522 := dom_ss (ss_skip ss_refl) P519
      have S523 : Same (dels H507 (q509 :: ps)) (dels H507 ps) := Ss (ss_skip ss_refl)
      refine gN (σ' := [some (.int x_p), some (.int x_n), some v_a, some (.int x_one), some (.int x_two), some (.bl x_filled), some (.ref n18), some (.int d462), some (.ref q509), j456]) rfl (tSeq_j (tAsg_j (tCallS_i (tCons_i (tVar_i (v := (.ref n18)) rfl (tCons_i (tVar_i (v := (.int x_one)) rfl (tCons_i (tVar_i (v := (.int x_two)) rfl (tCons_i (tVar_i (v := (.int d462)) rfl (tNil_i (?_)))))))))))))
      refine ⟨ps, r27, x_one, x_two, d462, (.ref n18), rfl, P522, ((pIns t.c_Table ["prime", "ends", "entries"] (rCons pInt (rCons pInt (rOne (pVt K pInt))))).mono (S407.trans (S410.trans (S424.trans (S427.trans (S441.trans (S444.trans (S459.trans (S520.trans S523)))))))) h34), _, _, hw, fun r524 hw H525 q527 us528 s526 n529 e530 r531 l532 => ?_, (fun er hc hw => errUp T518 ss_refl (he er (by simp only [List.mem_cons, List.not_mem_nil, or_false] at hc ⊢; omega) hw))⟩
      have m533 := nin_of n529 P522
      have z534 := Same.free T518 n529
      have P535 := dom_up s526 P522
      have T536 := Same.trans T518 s526
      have P537 := dom_new e530 P535
      have S538 : Same (dels H507 ps) (dels H525 (q527 :: ps)) := Sn ps s526 n529
      refine gN (σ' := [some (.int x_p), some (.int x_n), some v_a, some (.int x_one), some (.int x_two), some (.bl x_filled), some (.ref n18), some (.int d462), some (.ref q509), some (.ref q527)]) rfl (?_)
      refine tSeq_j (tIfS_j (?_))
      refine joinT hw (fun H' => Same H525 H') (fun b540 H541 s542 hw => ?_) (fun hw hR => ?_)
      rotate_left 1
      · refine tOr_i (tNot_i (tTruth_i (tCallS_i (tCons_i (tVar_i (v := (.ref q527)) rfl (tCons_i (tVar_i (v := (.ref q509)) rfl (tNil_i (?_)))))))))
        refine ⟨ps, r524, r506, (.ref q527), (.ref q509), rfl, (dom_ss (ss_skip ss_refl) P537), (oFrzG e530 m533 (ss_skip ss_refl) r531 l532), ((pList pInt).mono (Ss (ss_skip ss_refl)) ((pList pInt).mono S538 h521)), _, _, hw, fun r543 hw H544 s545 => ?_, (fun er hc hw => errUp T536 ss_refl (he er (absurd hc (List.not_mem_nil)) hw))⟩
        have P546 := dom_up s545 P537
        have T547 := Same.trans T536 s545
        have sc548 := Same.trans (Same.refl H525) s545
        have e549 := s545 _ _ e530
        have S550 : Same (dels H525 (q527 :: ps)) (dels H544 (q527 :: ps)) := Sd (q527 :: ps) s545
        refine Tru_b (?_)
        refine Br_two hw (fun c551 hw => ?_) (fun c551 hw => ?_)
        · exact hR _ _ sc548 hw
        · refine tAndP (b := x_filled) (c := (decide ((r524.length : Int) = (0 : Int)))) (fun R hR => tTruth_i (tVar_i (v := (.bl x_filled)) rfl (Tru_b (hR)))) (fun g553 R hR => tTest_i (tOp_i (tCB_i (tCons_i (tVar_i (v := (.ref q527)) rfl (tNil_i (lenS (sqO e549 r531 l532) (tC_i (rEqU_i (IsBl_i (hR))))))))))) (?_)
          exact hR _ _ sc548 hw
      have P554 := dom_up s542 P537
      have T555 := Same.trans T536 s542
      have e556 := s542 _ _ e530
      have S557 : Same (dels H525 (q527 :: ps)) (dels H541 (q527 :: ps)) := Sd (q527 :: ps) s542
      refine Br_two hw (fun c558 hw => ?_) (fun c558 hw => ?_)
      · refine tRet_j (tC_i (?_))
        exact hk _ hw _ T555
      · refine tNext_j (tSeq_j (tDrop_j (tBM_i (tVar_i (v := (.ref q527)) rfl (tyL (SqL.of e556) (tCons_i (tC_i (tNil_i (appO (p := pInt) (d := (7 : Int)) e556 (AllR.mono S557 r531) hw.1 rfl (fun H559 f560 us561 e562 r563 l564 => ?_))))))))))
        have P565 := dom_off f560 e562 P554
        have T566 := st_off T555 f560 z534
        have S567 : Same (dels H541 (q527 :: ps)) (dels H559 (q527 :: ps)) := So (List.mem_cons_self ..) f560
        obtain ⟨y568, r569, l570, hw⟩ := letO hw.2 r563 l564
        refine tSeq_j (tIfS_j (tNot_i (tTruth_i (tCallS_i (tCons_i (tCallS_i (tCons_i (tVar_i (v := (.ref n18)) rfl (tCons_i (tVar_i (v := (.int x_one)) rfl (tCons_i (tVar_i (v := (.int x_two)) rfl (tCons_i (tVar_i (v := (.int d462)) rfl (tNil_i (?_))))))))))))))))
        refine ⟨(q527 :: ps), r27, x_one, x_two, d462, (.ref n18), rfl, P565, ((pIns t.c_Table ["prime", "ends", "entries"] (rCons pInt (rCons pInt (rOne (pVt K pInt))))).mono (S407.trans (S410.trans (S424.trans (S427.trans (S441.trans (S444.trans (S459.trans (S520.trans (S523.trans (S538.trans (S557.trans S567))))))))))) h34), _, _, hw, fun r571 hw H572 q574 us575 s573 n576 e577 r578 l579 => ?_, (fun er hc hw => errUp T566 (ss_skip ss_refl) (he er (by simp only [List.mem_cons, List.not_mem_nil, or_false] at hc ⊢; omega) hw))⟩
        have m580 := nin_of n576 P565
        have z581 := Same.free T566 n576
        have P582 := dom_up s573 P565
        have T583 := Same.trans T566 s573
        have e584 := s573 _ _ e562
        have P585 := dom_new e577 P582
        have S586 : Same (dels H559 (q527 :: ps)) (dels H572 (q574 :: q527 :: ps)) := Sn (q527 :: ps) s573 n576
        have h587 : (pList pInt).rep (dels H572 (q527 :: ps)) (.ref q574) r571 := oFrzG e577 m580 (ss_skip ss_refl) r578 l579
        have P588 := dom_ss (ss_skip ss_refl) P585
        have S589 : Same (dels H572 (q574 :: q527 :: ps)) (dels H572 (q527 :: ps)) := Ss (ss_skip ss_refl)
        refine tCons_i (tVar_i (v := (.ref q509)) rfl (tNil_i (?_)))
        refine ⟨(q527 :: ps), r571, r506, (.ref q574), (.ref q509), rfl, P588, h587, ((pList pInt).mono (S538.trans (S557.trans (S567.trans (S586.trans S589)))) h521), _, _, hw, fun r590 hw H591 s592 => ?_, (fun er hc hw => errUp T583 (ss_skip ss_refl) (he er (absurd hc (List.not_mem_nil)) hw))⟩
        have P593 := dom_up s592 P588
        have T594 := Same.trans T583 s592
        have e595 := s592 _ _ e584
        have S596 : Same (dels H572 (q527 :: ps)) (dels H591 (q527 :: ps)) := Sd (q527 :: ps) s592
        refine Tru_b (?_)
        refine Br_two hw (fun c597 hw => ?_) (fun c597 hw => ?_)
        · refine tRet_j (tC_i (?_))
          exact hk _ hw _ T594
        · refine tNext_j (tSeq_j (tAsg_j (tCallK_i (tNil_i (tCons_i (tVar_i (v := (.ref n18)) rfl (tCons_i (tVar_i (v := (.int x_two)) rfl (tCons_i (tVar_i (v := (.int x_one)) rfl (tCons_i (tVar_i (v := (.int d462)) rfl (tNil_i (?_))))))))))))))
          refine ⟨(q527 :: ps), r27, x_two, x_one, d462, (.ref n18), rfl, P593, ((pIns t.c_Table ["prime", "ends", "entries"] (rCons pInt (rCons pInt (rOne (pVt K pInt))))).mono (S407.trans (S410.trans (S424.trans (S427.trans (S441.trans (S444.trans (S459.trans (S520.trans (S523.trans (S538.trans (S557.trans (S567.trans (S586.trans (S589.trans S596)))))))))))))) h34), _, _, hw, fun r598 hw H599 q601 us602 s600 n603 e604 r605 l606 => ?_, (fun er _ hw => False.elim hw)⟩
          have m607 := nin_of n603 P593
          have z608 := Same.free T594 n603
          have P609 := dom_up s600 P593
          have T610 := Same.trans T594 s600
          have e611 := s600 _ _ e595
          have P612 := dom_new e604 P609
          have S613 : Same (dels H591 (q527 :: ps)) (dels H599 (q601 :: q527 :: ps)) := Sn (q527 :: ps) s600 n603
          refine gN (σ' := [some (.int x_p), some (.int x_n), some v_a, some (.int x_one), some (.int x_two), some (.bl x_filled), some (.ref n18), some (.int d462), some (.ref q509), some (.ref q601)]) rfl (?_)
          refine tIfS_j (tNot_i (tTruth_i (tCallS_i (tCons_i (tVar_i (v := (.ref q601)) rfl (tCons_i (tVar_i (v := (.ref q509)) rfl (tNil_i (?_)))))))))
          refine ⟨(q527 :: ps), r598, r506, (.ref q601), (.ref q509), rfl, (dom_ss (ss_skip ss_refl) P612), (oFrzG e604 m607 (ss_skip ss_refl) r605 l606), ((pList pInt).mono (Ss (ss_skip ss_refl)) ((pList pInt).mono (S538.trans (S557.trans (S567.trans (S586.trans (S589.trans (S596.trans S613)))))) h521)), _, _, hw, fun r614 hw H615 s616 => ?_, (fun er hc hw => errUp T610 (ss_skip ss_refl) (he er (absurd hc (List.not_mem_nil)) hw))⟩
          have P617 := dom_up s616 P612
          have T618 := Same.trans T610 s616
          have e619 := s616 _ _ e611
          have e620 := s616 _ _ e604
          have S621 : Same (dels H599 (q601 :: q527 :: ps)) (dels H615 (q601 :: q527 :: ps)) := Sd (q601 :: q527 :: ps) s616
          refine Tru_b (?_)
          refine Br_two hw (fun c622 hw => ?_) (fun c622 hw => ?_)
          · refine tRet_j (tC_i (?_))
            exact hk _ hw _ T618
          · refine tNext_j (?_)
            have P623 := dom_ss (ss_skip (ss_skip ss_refl)) P617
            have S624 : Same (dels H615 (q601 :: q527 :: ps)) (dels H615 ps) := Ss (ss_skip (ss_skip ss_refl))
            exact nxS_i (s := (())) ⟨_, _, _, rfl, (S459.trans (S520.trans (S523.trans (S538.trans (S557.trans (S567.trans (S586.trans (S589.trans (S596.trans (S613.trans (S621.trans S624))))))))))), P623, T618, trivial⟩ hw
  obtain ⟨j469, j470, j471, rfl, S474, P472, T473, _⟩ := hr
  refine tRet_j (tCallS_i (tCons_i (tVar_i (v := (.ref n18)) rfl (tCons_i (tVar_i (v := (.int x_p)) rfl (tCons_i (tVar_i (v := (.int x_n)) rfl (tCons_i (tVar_i (v := v_a) rfl (tNil_i (?_)))))))))))
  refine ⟨ps, r27, x_p, x_n, x_a, (.ref n18), v_a, rfl, P472, ((pIns t.c_Table ["prime", "ends", "entries"] (rCons pInt (rCons pInt (rOne (pVt K pInt))))).mono (S407.trans (S410.trans (S424.trans (S427.trans (S441.trans (S444.trans S474)))))) h34), ((pList pInt).mono (S14.trans (S17.trans (S38.trans (S407.trans (S410.trans (S424.trans (S427.trans (S441.trans (S444.trans S474))))))))) h_a), _, _, hw, fun r625 hw H626 s627 => ?_, (fun er hc hw => errUp T473 ss_refl (he er (absurd hc (List.not_mem_nil)) hw))⟩
  have P628 := dom_up s627 P472
  have T629 := Same.trans T473 s627
  have S630 : Same (dels H467 ps) (dels H626 ps) := Sd ps s627
  exact hk _ hw _ T629
def sp_ulaw_refused (K : PySem.W.Frag) (t : Tab) : Sp := fun vs H Q E => ∃ (ps : List Addr) (x_p : Int) (x_n : Int) (x_a : (List Int)) (x_odd : Int) (v_a : V), vs = [(.int x_p), (.int x_n), v_a, (.int x_odd)] ∧ (∀ x ∈ ps, H x ≠ none) ∧ (pList pInt).rep (dels H ps) v_a x_a ∧ ∃ (k : Bool → Prop) (e : PErr → Prop), w_ulaw_refused x_p x_n x_a x_odd k e ∧ (∀ r, k r → RetI V.bl H Q r) ∧ (∀ er, er.cls ∈ ([1, 2] : List Nat) → e er → ErrK ps t.cl H E er)
theorem len_ulaw_refused : ∀ vs H Q E, sp_ulaw_refused K t vs H Q E → vs.length = (["p", "n", "a", "odd"] : List Str).length := by
  rintro vs H Q E ⟨_, _, _, _, _, _, rfl, _⟩
  rfl
theorem ok_ulaw_refused (T : Txt K mg t) : FnOk P w K mg base (L2.CX P w) 8 t.a_ulaw_refused t.fd_ulaw_refused ["p", "n", "a", "odd"] (sp_ulaw_refused K t) := by
  have G_Table_init := ok_Table_init (P := P) (w := w) (base := base) T
  have G_ulaw_tried := ok_ulaw_tried (P := P) (w := w) (base := base) T
  have G_ulaw_got := ok_ulaw_got (P := P) (w := w) (base := base) T
  refine T.F_ulaw_refused.okX sc_ulaw_refused len_ulaw_refused (fun cdv A outer s H vs Q E hr h => ?_)
  have nd := sc_ulaw_refused.nd
  refine ⟨_, (pss_cons (ps_set (i := 4) nd rfl (Or.inl rfl) (pe_mak T.mk_Table G_Table_init (hr.mono (by decide)) (by rfl) T.g_Table T.b_Table_init (fun σ => passAt (takes_of rfl rfl rfl rfl) σ) (pa_cons (pv 0) (pa_cons (pv 1) (pa_cons (pe_callTy (call_list_ofK K) (by rfl) T.n_list (by decide +kernel) (pa_cons (pv 2) pa_nil)) pa_nil)))))
    (pss_cons (ps_set (i := 5) nd rfl (Or.inl rfl) (pe_op op_sub (pe_op op_shl (pe_int) (pv 1)) (pe_int)))
    (pss_cons (ps_for (passes_of rfl) rfl (pi_UK K (pe_lst (pa_cons (pe_op op_shl (pe_int) (pv 1)) (pa_cons (pe_op op_sub (pe_int) (pe_int)) (pa_cons (pe_op (op_addUK K) (pe_op (op_addUK K) (pe_op op_shl (pe_int) (pv 1)) (pe_int)) (pv 3)) pa_nil))))) (pg_name (i := 6) nd rfl (Or.inl rfl))
    (pss_one (ps_for (passes_of rfl) rfl (pi_UK K (pe_lst (pa_cons (pe_int) (pa_cons (pe_op op_sub (pe_int) (pe_int)) pa_nil)))) (pg_name (i := 7) nd rfl (Or.inl rfl))
    (pss_cons (ps_if (pt_not (pt_truthK K (pe_callS G_ulaw_got (hr.mono (by decide)) (by rfl) T.g_ulaw_got T.F_ulaw_got.kp T.b_ulaw_got (fun σ => passAt (takes_of rfl rfl rfl rfl) σ) (pa_cons (pe_callS G_ulaw_tried (hr.mono (by decide)) (by rfl) T.g_ulaw_tried T.F_ulaw_tried.kp T.b_ulaw_tried (fun σ => passAt (takes_of rfl rfl rfl rfl) σ) (pa_cons (pv 4) (pa_cons (pv 6) (pa_cons (pe_op op_shl (pe_int) (pe_op (op_addUK K) (pv 1) (pe_int))) (pa_cons (pv 7) pa_nil))))) (pa_cons (pe_str) (pa_cons (pv 6) pa_nil)))))) (pss_one (ps_ret (pe_bl))) pss_nil)
    (pss_cons (ps_if (pt_not (pt_truthK K (pe_callS G_ulaw_got (hr.mono (by decide)) (by rfl) T.g_ulaw_got T.F_ulaw_got.kp T.b_ulaw_got (fun σ => passAt (takes_of rfl rfl rfl rfl) σ) (pa_cons (pe_callS G_ulaw_tried (hr.mono (by decide)) (by rfl) T.g_ulaw_tried T.F_ulaw_tried.kp T.b_ulaw_tried (fun σ => passAt (takes_of rfl rfl rfl rfl) σ) (pa_cons (pv 4) (pa_cons (pv 5) (pa_cons (pv 6) (pa_cons (pv 7) pa_nil))))) (pa_cons (pe_str) (pa_cons (pv 6) pa_nil)))))) (pss_one (ps_ret (pe_bl))) pss_nil)
    (pss_one (ps_if (pt_not (pt_truthK K (pe_callS G_ulaw_got (hr.mono (by decide)) (by rfl) T.g_ulaw_got T.F_ulaw_got.kp T.b_ulaw_got (fun σ => passAt (takes_of rfl rfl rfl rfl) σ) (pa_cons (pe_callS G_ulaw_tried (hr.mono (by decide)) (by rfl) T.g_ulaw_tried T.F_ulaw_tried.kp T.b_ulaw_tried (fun σ => passAt (takes_of rfl rfl rfl rfl) σ) (pa_cons (pv 4) (pa_cons (pv 6) (pa_cons (pv 5) (pa_cons (pv 7) pa_nil))))) (pa_cons (pe_str) (pa_cons (pv 6) pa_nil)))))) (pss_one (ps_ret (pe_bl))) pss_nil)))))))
    (pss_cons (ps_for (passes_of rfl) rfl (pi_UK K (pe_lst (pa_cons (pe_op op_sub (pe_int) (pe_int)) (pa_cons (pv 1) (pa_cons (pe_op (op_addUK K) (pe_op (op_addUK K) (pv 1) (pe_int)) (pv 3)) (pa_cons (pe_op op_pow (pe_int) (pe_int)) pa_nil)))))) (pg_name (i := 7) nd rfl (Or.inl rfl))
    (pss_one (ps_if (pt_not (pt_truthK K (pe_callS G_ulaw_got (hr.mono (by decide)) (by rfl) T.g_ulaw_got T.F_ulaw_got.kp T.b_ulaw_got (fun σ => passAt (takes_of rfl rfl rfl rfl) σ) (pa_cons (pe_callS G_ulaw_tried (hr.mono (by decide)) (by rfl) T.g_ulaw_tried T.F_ulaw_tried.kp T.b_ulaw_tried (fun σ => passAt (takes_of rfl rfl rfl rfl) σ) (pa_cons (pv 4) (pa_cons (pe_int) (pa_cons (pv 5) (pa_cons (pv 7) pa_nil))))) (pa_cons (pe_str) (pa_cons (pv 7) pa_nil)))))) (pss_one (ps_ret (pe_bl))) pss_nil)))
    (pss_cons (ps_for (passes_of rfl) rfl (pi_range1 (by rfl) T.n_range (pa_cons (pe_op (op_addUK K) (pv 1) (pe_int)) pa_nil)) (pg_name (i := 7) nd rfl (Or.inl rfl))
    (pss_one (ps_if (pt_not (pt_truthK K (pe_callS G_ulaw_got (hr.mono (by decide)) (by rfl) T.g_ulaw_got T.F_ulaw_got.kp T.b_ulaw_got (fun σ => passAt (takes_of rfl rfl rfl rfl) σ) (pa_cons (pe_callS G_ulaw_tried (hr.mono (by decide)) (by rfl) T.g_ulaw_tried T.F_ulaw_tried.kp T.b_ulaw_tried (fun σ => passAt (takes_of rfl rfl rfl rfl) σ) (pa_cons (pv 4) (pa_cons (pv 5) (pa_cons (pv 5) (pa_cons (pv 7) pa_nil))))) (pa_cons (pe_str) (pa_cons (pv 7) pa_nil)))))) (pss_one (ps_ret (pe_bl))) pss_nil)))
    (pss_one (ps_ret (pe_bl)))))))), ?_⟩
  obtain ⟨ps, x_p, x_n, x_a, x_odd, v_a, rfl, P0, h_a, k, e, hw, hk, he⟩ := h
  unfold w_ulaw_refused at hw
  refine tSeq_j (tAsg_j (tMak_i (tCons_i (tVar_i (v := (.int x_p)) rfl (tCons_i (tVar_i (v := (.int x_n)) rfl (tCons_i (tCB_i (tCons_i (tVar_i (v := v_a) rfl (tNil_i (listS (sqL Su h_a) (fun q1 H2 n3 s4 us5 e6 r7 l8 => ?_)))))))))))))
  have m9 := nin_of n3 P0
  have z10 := Same.free (Same.refl H) n3
  have P11 := dom_up s4 P0
  have T12 := Same.trans (Same.refl H) s4
  have P13 := dom_new e6 P11
  have S14 : Same (dels H ps) (dels H2 (q1 :: ps)) := Sn ps s4 n3
  have h15 : (pList pInt).rep (dels H2 ps) (.ref q1) x_a := oFrzG e6 m9 (ss_skip ss_refl) (AllR.mono S14 r7) l8
  have P16 := dom_ss (ss_skip ss_refl) P13
  have S17 : Same (dels H2 (q1 :: ps)) (dels H2 ps) := Ss (ss_skip ss_refl)
  refine tNil_i (?_)
  refine makS (fun n18 dn19 H20 nn21 s22 s23 e24 => ?_)
  have S25 : Same (dels H2 ps) (dels H20 (n18 :: ps)) := Sn ps s22 nn21
  have P26 := dom_new e24 (dom_up s22 P16)
  refine ⟨(n18 :: ps), x_p, x_n, x_a, n18, dn19, (.ref q1), rfl, P26, (List.mem_cons_self ..), e24, ((pList pInt).mono S25 h15), _, _, hw, fun r27 hw H28 fs29 s30 e31 hn32 rr33 => ⟨rfl, ?_⟩, (fun er hc hw => errUp (Same.trans T12 s23) (ss_skip ss_refl) (he er (by simp only [List.mem_cons, List.not_mem_nil, or_false] at hc ⊢; omega) hw))⟩
  have s35 := Same.trans s23 s30
  have P36 := dom_up s35 P16
  have T37 := Same.trans T12 s35
  have S38 : Same (dels H2 ps) (dels H28 ps) := Sd ps s35
  have h34 : (pIns t.c_Table ["prime", "ends", "entries"] (rCons pInt (rCons pInt (rOne (pVt K pInt))))).rep (dels H28 ps) (.ref n18) r27 := ⟨_, _, fs29, rfl, dels_at e31 (nin_of nn21 P16), hn32, PRow.mono (rCons pInt (rCons pInt (rOne (pVt K pInt)))) (Ss (ss_skip ss_refl)) rr33⟩
  refine gN (σ' := [some (.int x_p), some (.int x_n), some v_a, some (.int x_odd), some (.ref n18), none, none, none]) rfl (tSeq_j (tAsg_j (tOp_i (tOp_i (tC_i (tVar_i (v := (.int x_n)) rfl (rI_i hw.1 (tC_i (rI0_i (?_))))))))))
  refine asgIL (f := V.int) (e := (((1 : Int) * 2 ^ Int.toNat x_n) - (1 : Int))) (g := fun y39 => [some (.int x_p), some (.int x_n), some v_a, some (.int x_odd), some (.ref n18), some (.int y39), none, none]) hw.2 (fun _ => rfl) (fun y39 hw => ?_)
  refine tSeq_j (tFor_j (wL (tLst_i (tCons_i (tOp_i (tC_i (tVar_i (v := (.int x_n)) rfl (rI_i hw.1 (tCons_i (tOp_i (tC_i (tC_i (rI0_i (tCons_i (tOp_i (tOp_i (tOp_i (tC_i (tVar_i (v := (.int x_n)) rfl (rI_i hw.2.1 (tC_i (rAddU_i (tVar_i (v := (.int x_odd)) rfl (rAddU_i (tNil_i (new_i (Nat.le_of_ble_eq_true rfl) (fun q373 H374 n375 s376 e377 => ?_)))))))))))))))))))))))))))
  have r378 : AllR pInt (dels H28 ps) [(.int ((1 : Int) * 2 ^ Int.toNat x_n)), (.int ((0 : Int) - (1 : Int))), (.int ((((1 : Int) * 2 ^ Int.toNat x_n) + (1 : Int)) + x_odd))] ([((1 : Int) * 2 ^ Int.toNat x_n), ((0 : Int) - (1 : Int)), ((((1 : Int) * 2 ^ Int.toNat x_n) + (1 : Int)) + x_odd)] : List Int) := (.cons rfl (.cons rfl (.cons rfl .nil)))
  have l379 : ([((1 : Int) * 2 ^ Int.toNat x_n), ((0 : Int) - (1 : Int)), ((((1 : Int) * 2 ^ Int.toNat x_n) + (1 : Int)) + x_odd)] : List Int).length ≤ LIM := (Nat.le_of_ble_eq_true rfl)
  have m380 := nin_of n375 P36
  have z381 := Same.free T37 n375
  have P382 := dom_up s376 P36
  have T383 := Same.trans T37 s376
  have P384 := dom_new e377 P382
  have S385 : Same (dels H28 ps) (dels H374 (q373 :: ps)) := Sn ps s376 n375
  have h386 : (pList pInt).rep (dels H374 ps) (.ref q373) ([((1 : Int) * 2 ^ Int.toNat x_n), ((0 : Int) - (1 : Int)), ((((1 : Int) * 2 ^ Int.toNat x_n) + (1 : Int)) + x_odd)] : List Int) := oFrzG e377 m380 (ss_skip ss_refl) (AllR.mono S385 r378) l379
  have P387 := dom_ss (ss_skip ss_refl) P384
  have S388 : Same (dels H374 (q373 :: ps)) (dels H374 ps) := Ss (ss_skip ss_refl)
  obtain ⟨a389, us390, hv391, hS392, hr393, hl394⟩ := (lFro (K := K) h386)
  refine WL_v hv391 (Same.seq Su hS392) (forL (s0 := ()) hw.2.2 hr393 (fun (s395 : Unit) (σ397 : L2.St) (H396 : Hp) => ∃ (j398 : Option V) (j399 : Option V), σ397 = [some (.int x_p), some (.int x_n), some v_a, some (.int x_odd), some (.ref n18), some (.int y39), j398, j399] ∧ Same (dels H374 ps) (dels H396 ps) ∧ (∀ x ∈ ps, H396 x ≠ none) ∧ Same H H396 ∧ True) ⟨_, _, rfl, (Same.refl _), P387, T383, trivial⟩ (fun s395 σ397 H396 ⟨j398, j399, _, S402, P400, T401, _⟩ => (Same.seq (Same.trans S402 Su) hS392)) (fun d405 s395 σ397 H396 x406 nx403 hr hi407 hw => ?_) (fun s409 σ411 H410 hr hw => ?_))
  · obtain ⟨j398, j399, rfl, S402, P400, T401, _⟩ := hr
    obtain rfl : x406 = (.int d405) := hi407
    refine gN (σ' := [some (.int x_p), some (.int x_n), some v_a, some (.int x_odd), some (.ref n18), some (.int y39), some (.int d405), j399]) rfl (tFor_j (wL (tLst_i (tCons_i (tC_i (tCons_i (tOp_i (tC_i (tC_i (rI0_i (tNil_i (new_i (Nat.le_of_ble_eq_true rfl) (fun q562 H563 n564 s565 e566 => ?_)))))))))))))
    have r567 : AllR pInt (dels H396 ps) [(.int (0 : Int)), (.int ((0 : Int) - (7 : Int)))] ([(0 : Int), ((0 : Int) - (7 : Int))] : List Int) := (.cons rfl (.cons rfl .nil))
    have l568 : ([(0 : Int), ((0 : Int) - (7 : Int))] : List Int).length ≤ LIM := (Nat.le_of_ble_eq_true rfl)
    have m569 := nin_of n564 P400
    have z570 := Same.free T401 n564
    have P571 := dom_up s565 P400
    have T572 := Same.trans T401 s565
    have P573 := dom_new e566 P571
    have S574 : Same (dels H396 ps) (dels H563 (q562 :: ps)) := Sn ps s565 n564
    have h575 : (pList pInt).rep (dels H563 ps) (.ref q562) ([(0 : Int), ((0 : Int) - (7 : Int))] : List Int) := oFrzG e566 m569 (ss_skip ss_refl) (AllR.mono S574 r567) l568
    have P576 := dom_ss (ss_skip ss_refl) P573
    have S577 : Same (dels H563 (q562 :: ps)) (dels H563 ps) := Ss (ss_skip ss_refl)
    obtain ⟨a578, us579, hv580, hS581, hr582, hl583⟩ := (lFro (K := K) h575)
    refine WL_v hv580 (Same.seq Su hS581) (forL (s0 := ()) hw hr582 (fun (s584 : Unit) (σ586 : L2.St) (H585 : Hp) => ∃ (j587 : Option V), σ586 = [some (.int x_p), some (.int x_n), some v_a, some (.int x_odd), some (.ref n18), some (.int y39), some (.int d405), j587] ∧ Same (dels H563 ps) (dels H585 ps) ∧ (∀ x ∈ ps, H585 x ≠ none) ∧ Same H H585 ∧ True) ⟨_, rfl, (Same.refl _), P576, T572, trivial⟩ (fun s584 σ586 H585 ⟨j587, _, S590, P588, T589, _⟩ => (Same.seq (Same.trans S590 Su) hS581)) (fun d593 s584 σ586 H585 x594 nx591 hr hi595 hw => ?_) (fun s597 σ599 H598 hr hw => ?_))
    · obtain ⟨j587, rfl, S590, P588, T589, _⟩ := hr
      obtain rfl : x594 = (.int d593) := hi595
      refine gN (σ' := [some (.int x_p), some (.int x_n), some v_a, some (.int x_odd), some (.ref n18), some (.int y39), some (.int d405), some (.int d593)]) rfl (tSeq_j (tIfS_j (tNot_i (tTruth_i (tCallS_i (tCons_i (tCallS_i (tCons_i (tVar_i (v := (.ref n18)) rfl (tCons_i (tVar_i (v := (.int d405)) rfl (tCons_i (tOp_i (tC_i (tOp_i (tVar_i (v := (.int x_n)) rfl (tC_i (rAddU_i (rI_i hw.1 (tCons_i (tVar_i (v := (.int d593)) rfl (tNil_i (?_)))))))))))))))))))))))
      refine ⟨ps, r27, d405, ((1 : Int) * 2 ^ Int.toNat (x_n + (9 : Int))), d593, (.ref n18), rfl, P588, ((pIns t.c_Table ["prime", "ends", "entries"] (rCons pInt (rCons pInt (rOne (pVt K pInt))))).mono (S385.trans (S388.trans (S402.trans (S574.trans (S577.trans S590))))) h34), _, _, hw.2, fun r604 hw H605 q607 us608 s606 n609 e610 r611 l612 => ?_, (fun er hc hw => errUp T589 ss_refl (he er (absurd hc (List.not_mem_nil)) hw))⟩
      have m613 := nin_of n609 P588
      have z614 := Same.free T589 n609
      have P615 := dom_up s606 P588
      have T616 := Same.trans T589 s606
      have P617 := dom_new e610 P615
      have S618 : Same (dels H585 ps) (dels H605 (q607 :: ps)) := Sn ps s606 n609
      have h619 : (pList (pTup K (rCons pStr (rOne pInt)))).rep (dels H605 ps) (.ref q607) r604 := oFrzG e610 m613 (ss_skip ss_refl) r611 l612
      have P620 := dom_ss (ss_skip ss_refl) P617
      have S621 : Same (dels H605 (q607 :: ps)) (dels H605 ps) := Ss (ss_skip ss_refl)
      refine tCons_i (tC_i (tCons_i (tVar_i (v := (.int d405)) rfl (tNil_i (?_)))))
      refine ⟨ps, r604, (Str.ofString "number"), d405, (.ref q607), rfl, P620, h619, _, _, hw, fun r622 hw H623 s624 => ?_, (fun er hc hw => errUp T616 ss_refl (he er (absurd hc (List.not_mem_nil)) hw))⟩
      have P625 := dom_up s624 P620
      have T626 := Same.trans T616 s624
      have S627 : Same (dels H605 ps) (dels H623 ps) := Sd ps s624
      refine Tru_b (?_)
      refine Br_two hw (fun c628 hw => ?_) (fun c628 hw => ?_)
      · refine tRet_j (tC_i (?_))
        exact hk _ hw _ T626
      · refine tNext_j (tSeq_j (tIfS_j (tNot_i (tTruth_i (tCallS_i (tCons_i (tCallS_i (tCons_i (tVar_i (v := (.ref n18)) rfl (tCons_i (tVar_i (v := (.int y39)) rfl (tCons_i (tVar_i (v := (.int d405)) rfl (tCons_i (tVar_i (v := (.int d593)) rfl (tNil_i (?_)))))))))))))))))
        refine ⟨ps, r27, y39, d405, d593, (.ref n18), rfl, P625, ((pIns t.c_Table ["prime", "ends", "entries"] (rCons pInt (rCons pInt (rOne (pVt K pInt))))).mono (S385.trans (S388.trans (S402.trans (S574.trans (S577.trans (S590.trans (S618.trans (S621.trans S627)))))))) h34), _, _, hw, fun r629 hw H630 q632 us633 s631 n634 e635 r636 l637 => ?_, (fun er hc hw => errUp T626 ss_refl (he er (absurd hc (List.not_mem_nil)) hw))⟩
        have m638 := nin_of n634 P625
        have z639 := Same.free T626 n634
        have P640 := dom_up s631 P625
        have T641 := Same.trans T626 s631
        have P642 := dom_new e635 P640
        have S643 : Same (dels H623 ps) (dels H630 (q632 :: ps)) := Sn ps s631 n634
        have h644 : (pList (pTup K (rCons pStr (rOne pInt)))).rep (dels H630 ps) (.ref q632) r629 := oFrzG e635 m638 (ss_skip ss_refl) r636 l637
        have P645 := dom_ss (ss_skip ss_refl) P642
        have S646 : Same (dels H630 (q632 :: ps)) (dels H630 ps) := Ss (ss_skip ss_refl)
        refine tCons_i (tC_i (tCons_i (tVar_i (v := (.int d405)) rfl (tNil_i (?_)))))
        refine ⟨ps, r629, (Str.ofString "number"), d405, (.ref q632), rfl, P645, h644, _, _, hw, fun r647 hw H648 s649 => ?_, (fun er hc hw => errUp T641 ss_refl (he er (absurd hc (List.not_mem_nil)) hw))⟩
        have P650 := dom_up s649 P645
        have T651 := Same.trans T641 s649
        have S652 : Same (dels H630 ps) (dels H648 ps) := Sd ps s649
        refine Tru_b (?_)
        refine Br_two hw (fun c653 hw => ?_) (fun c653 hw => ?_)
        · refine tRet_j (tC_i (?_))
          exact hk _ hw _ T651
        · refine tNext_j (tIfS_j (tNot_i (tTruth_i (tCallS_i (tCons_i (tCallS_i (tCons_i (tVar_i (v := (.ref n18)) rfl (tCons_i (tVar_i (v := (.int d405)) rfl (tCons_i (tVar_i (v := (.int y39)) rfl (tCons_i (tVar_i (v := (.int d593)) rfl (tNil_i (?_))))))))))))))))
          refine ⟨ps, r27, d405, y39, d593, (.ref n18), rfl, P650, ((pIns t.c_Table ["prime", "ends", "entries"] (rCons pInt (rCons pInt (rOne (pVt K pInt))))).mono (S385.trans (S388.trans (S402.trans (S574.trans (S577.trans (S590.trans (S618.trans (S621.trans (S627.trans (S643.trans (S646.trans S652))))))))))) h34), _, _, hw, fun r654 hw H655 q657 us658 s656 n659 e660 r661 l662 => ?_, (fun er hc hw => errUp T651 ss_refl (he er (absurd hc (List.not_mem_nil)) hw))⟩
          have m663 := nin_of n659 P650
          have z664 := Same.free T651 n659
          have P665 := dom_up s656 P650
          have T666 := Same.trans T651 s656
          have P667 := dom_new e660 P665
          have S668 : Same (dels H648 ps) (dels H655 (q657 :: ps)) := Sn ps s656 n659
          have h669 : (pList (pTup K (rCons pStr (rOne pInt)))).rep (dels H655 ps) (.ref q657) r654 := oFrzG e660 m663 (ss_skip ss_refl) r661 l662
          have P670 := dom_ss (ss_skip ss_refl) P667
          have S671 : Same (dels H655 (q657 :: ps)) (dels H655 ps) := Ss (ss_skip ss_refl)
          refine tCons_i (tC_i (tCons_i (tVar_i (v := (.int d405)) rfl (tNil_i (?_)))))
          refine ⟨ps, r654, (Str.ofString "number"), d405, (.ref q657), rfl, P670, h669, _, _, hw, fun r672 hw H673 s674 => ?_, (fun er hc hw => errUp T666 ss_refl (he er (absurd hc (List.not_mem_nil)) hw))⟩
          have P675 := dom_up s674 P670
          have T676 := Same.trans T666 s674
          have S677 : Same (dels H655 ps) (dels H673 ps) := Sd ps s674
          refine Tru_b (?_)
          refine Br_two hw (fun c678 hw => ?_) (fun c678 hw => ?_)
          · refine tRet_j (tC_i (?_))
            exact hk _ hw _ T676
          · refine tNext_j (?_)
            exact nxS_i (s := (())) ⟨_, rfl, (S590.trans (S618.trans (S621.trans (S627.trans (S643.trans (S646.trans (S652.trans (S668.trans (S671.trans S677))))))))), P675, T676, trivial⟩ hw
    obtain ⟨j600, rfl, S603, P601, T602, _⟩ := hr
    exact nxS_i (s := (())) ⟨_, _, rfl, (S402.trans (S574.trans (S577.trans S603))), P601, T602, trivial⟩ hw
  obtain ⟨j412, j413, rfl, S416, P414, T415, _⟩ := hr
  refine tSeq_j (tFor_j (wL (tLst_i (tCons_i (tOp_i (tC_i (tC_i (rI0_i (tCons_i (tVar_i (v := (.int x_n)) rfl (tCons_i (tOp_i (tOp_i (tVar_i (v := (.int x_n)) rfl (tC_i (rAddU_i (tVar_i (v := (.int x_odd)) rfl (rAddU_i (tCons_i (tOp_i (tC_i (tC_i (rI_i hw.1 (tNil_i (new_i (Nat.le_of_ble_eq_true rfl) (fun q774 H775 n776 s777 e778 => ?_))))))))))))))))))))))))))
  have r779 : AllR pInt (dels H410 ps) [(.int ((0 : Int) - (7 : Int))), (.int x_n), (.int ((x_n + (1 : Int)) + x_odd)), (.int ((10 : Int) ^ Int.toNat (30 : Int)))] ([((0 : Int) - (7 : Int)), x_n, ((x_n + (1 : Int)) + x_odd), ((10 : Int) ^ Int.toNat (30 : Int))] : List Int) := (.cons rfl (.cons rfl (.cons rfl (.cons rfl .nil))))
  have l780 : ([((0 : Int) - (7 : Int)), x_n, ((x_n + (1 : Int)) + x_odd), ((10 : Int) ^ Int.toNat (30 : Int))] : List Int).length ≤ LIM := (Nat.le_of_ble_eq_true rfl)
  have m781 := nin_of n776 P414
  have z782 := Same.free T415 n776
  have P783 := dom_up s777 P414
  have T784 := Same.trans T415 s777
  have P785 := dom_new e778 P783
  have S786 : Same (dels H410 ps) (dels H775 (q774 :: ps)) := Sn ps s777 n776
  have h787 : (pList pInt).rep (dels H775 ps) (.ref q774) ([((0 : Int) - (7 : Int)), x_n, ((x_n + (1 : Int)) + x_odd), ((10 : Int) ^ Int.toNat (30 : Int))] : List Int) := oFrzG e778 m781 (ss_skip ss_refl) (AllR.mono S786 r779) l780
  have P788 := dom_ss (ss_skip ss_refl) P785
  have S789 : Same (dels H775 (q774 :: ps)) (dels H775 ps) := Ss (ss_skip ss_refl)
  obtain ⟨a790, us791, hv792, hS793, hr794, hl795⟩ := (lFro (K := K) h787)
  refine WL_v hv792 (Same.seq Su hS793) (forL (s0 := ()) hw.2 hr794 (fun (s796 : Unit) (σ798 : L2.St) (H797 : Hp) => ∃ (j799 : Option V), σ798 = [some (.int x_p), some (.int x_n), some v_a, some (.int x_odd), some (.ref n18), some (.int y39), j412, j799] ∧ Same (dels H775 ps) (dels H797 ps) ∧ (∀ x ∈ ps, H797 x ≠ none) ∧ Same H H797 ∧ True) ⟨_, rfl, (Same.refl _), P788, T784, trivial⟩ (fun s796 σ798 H797 ⟨j799, _, S802, P800, T801, _⟩ => (Same.seq (Same.trans S802 Su) hS793)) (fun d805 s796 σ798 H797 x806 nx803 hr hi807 hw => ?_) (fun s809 σ811 H810 hr hw => ?_))
  · obtain ⟨j799, rfl, S802, P800, T801, _⟩ := hr
    obtain rfl : x806 = (.int d805) := hi807
    refine gN (σ' := [some (.int x_p), some (.int x_n), some v_a, some (.int x_odd), some (.ref n18), some (.int y39), j412, some (.int d805)]) rfl (tIfS_j (tNot_i (tTruth_i (tCallS_i (tCons_i (tCallS_i (tCons_i (tVar_i (v := (.ref n18)) rfl (tCons_i (tC_i (tCons_i (tVar_i (v := (.int y39)) rfl (tCons_i (tVar_i (v := (.int d805)) rfl (tNil_i (?_))))))))))))))))
    refine ⟨ps, r27, (0 : Int), y39, d805, (.ref n18), rfl, P800, ((pIns t.c_Table ["prime", "ends", "entries"] (rCons pInt (rCons pInt (rOne (pVt K pInt))))).mono (S385.trans (S388.trans (S416.trans (S786.trans (S789.trans S802))))) h34), _, _, hw, fun r816 hw H817 q819 us820 s818 n821 e822 r823 l824 => ?_, (fun er hc hw => errUp T801 ss_refl (he er (absurd hc (List.not_mem_nil)) hw))⟩
    have m825 := nin_of n821 P800
    have z826 := Same.free T801 n821
    have P827 := dom_up s818 P800
    have T828 := Same.trans T801 s818
    have P829 := dom_new e822 P827
    have S830 : Same (dels H797 ps) (dels H817 (q819 :: ps)) := Sn ps s818 n821
    have h831 : (pList (pTup K (rCons pStr (rOne pInt)))).rep (dels H817 ps) (.ref q819) r816 := oFrzG e822 m825 (ss_skip ss_refl) r823 l824
    have P832 := dom_ss (ss_skip ss_refl) P829
    have S833 : Same (dels H817 (q819 :: ps)) (dels H817 ps) := Ss (ss_skip ss_refl)
    refine tCons_i (tC_i (tCons_i (tVar_i (v := (.int d805)) rfl (tNil_i (?_)))))
    refine ⟨ps, r816, (Str.ofString "number"), d805, (.ref q819), rfl, P832, h831, _, _, hw, fun r834 hw H835 s836 => ?_, (fun er hc hw => errUp T828 ss_refl (he er (absurd hc (List.not_mem_nil)) hw))⟩
    have P837 := dom_up s836 P832
    have T838 := Same.trans T828 s836
    have S839 : Same (dels H817 ps) (dels H835 ps) := Sd ps s836
    refine Tru_b (?_)
    refine Br_two hw (fun c840 hw => ?_) (fun c840 hw => ?_)
    · refine tRet_j (tC_i (?_))
      exact hk _ hw _ T838
    · refine tNext_j (?_)
      exact nxS_i (s := (())) ⟨_, rfl, (S802.trans (S830.trans (S833.trans S839))), P837, T838, trivial⟩ hw
  obtain ⟨j812, rfl, S815, P813, T814, _⟩ := hr
  refine tSeq_j (tFor_j (w1 (tCons_i (tOp_i (tVar_i (v := (.int x_n)) rfl (tC_i (rAddU_i (tNil_i (rgW1 hw.1 (?_))))))))))
  refine forR0 (s0 := ()) hw.2 (fun (s872 : Unit) (σ874 : L2.St) (H873 : Hp) => ∃ (j875 : Option V), σ874 = [some (.int x_p), some (.int x_n), some v_a, some (.int x_odd), some (.ref n18), some (.int y39), j412, j875] ∧ Same (dels H810 ps) (dels H873 ps) ∧ (∀ x ∈ ps, H873 x ≠ none) ∧ Same H H873 ∧ True) ⟨_, rfl, (Same.refl _), P813, T814, trivial⟩ (fun d881 s872 σ874 H873 nx879 hr hw => ?_) (fun s885 σ887 H886 hr hw => ?_)
  · obtain ⟨j875, rfl, S878, P876, T877, _⟩ := hr
    refine gN (σ' := [some (.int x_p), some (.int x_n), some v_a, some (.int x_odd), some (.ref n18), some (.int y39), j412, some (.int d881)]) rfl (tIfS_j (tNot_i (tTruth_i (tCallS_i (tCons_i (tCallS_i (tCons_i (tVar_i (v := (.ref n18)) rfl (tCons_i (tVar_i (v := (.int y39)) rfl (tCons_i (tVar_i (v := (.int y39)) rfl (tCons_i (tVar_i (v := (.int d881)) rfl (tNil_i (?_))))))))))))))))
    refine ⟨ps, r27, y39, y39, d881, (.ref n18), rfl, P876, ((pIns t.c_Table ["prime", "ends", "entries"] (rCons pInt (rCons pInt (rOne (pVt K pInt))))).mono (S385.trans (S388.trans (S416.trans (S786.trans (S789.trans (S815.trans S878)))))) h34), _, _, hw, fun r892 hw H893 q895 us896 s894 n897 e898 r899 l900 => ?_, (fun er hc hw => errUp T877 ss_refl (he er (absurd hc (List.not_mem_nil)) hw))⟩
    have m901 := nin_of n897 P876
    have z902 := Same.free T877 n897
    have P903 := dom_up s894 P876
    have T904 := Same.trans T877 s894
    have P905 := dom_new e898 P903
    have S906 : Same (dels H873 ps) (dels H893 (q895 :: ps)) := Sn ps s894 n897
    have h907 : (pList (pTup K (rCons pStr (rOne pInt)))).rep (dels H893 ps) (.ref q895) r892 := oFrzG e898 m901 (ss_skip ss_refl) r899 l900
    have P908 := dom_ss (ss_skip ss_refl) P905
    have S909 : Same (dels H893 (q895 :: ps)) (dels H893 ps) := Ss (ss_skip ss_refl)
    refine tCons_i (tC_i (tCons_i (tVar_i (v := (.int d881)) rfl (tNil_i (?_)))))
    refine ⟨ps, r892, (Str.ofString "number"), d881, (.ref q895), rfl, P908, h907, _, _, hw, fun r910 hw H911 s912 => ?_, (fun er hc hw => errUp T904 ss_refl (he er (absurd hc (List.not_mem_nil)) hw))⟩
    have P913 := dom_up s912 P908
    have T914 := Same.trans T904 s912
    have S915 : Same (dels H893 ps) (dels H911 ps) := Sd ps s912
    refine Tru_b (?_)
    refine Br_two hw (fun c916 hw => ?_) (fun c916 hw => ?_)
    · refine tRet_j (tC_i (?_))
      exact hk _ hw _ T914
    · refine tNext_j (?_)
      exact nxS_i (s := (())) ⟨_, rfl, (S878.trans (S906.trans (S909.trans S915))), P913, T914, trivial⟩ hw
  obtain ⟨j888, rfl, S891, P889, T890, _⟩ := hr
  refine tRet_j (tC_i (?_))
  exact hk _ hw _ T890
def sp_law (K : PySem.W.Frag) (t : Tab) : Sp := fun vs H Q E => ∃ (ps : List Addr) (x_script : (List Int)) (v_script : V), vs = [v_script] ∧ (∀ x ∈ ps, H x ≠ none) ∧ (pFro K pInt).rep (dels H ps) v_script x_script ∧ ∃ (k : Bool → Prop) (e : PErr → Prop), w_law x_script k e ∧ (∀ r, k r → RetI V.bl H Q r) ∧ (∀ er, er.cls ∈ ([1, 2] : List Nat) → e er → ErrK ps t.cl H E er)
theorem len_law : ∀ vs H Q E, sp_law K t vs H Q E → vs.length = (["script"] : List Str).length := by
  rintro vs H Q E ⟨_, _, _, rfl, _⟩
  rfl
theorem ok_law (T : Txt K mg t) : FnOk P w K mg base (L2.CX P w) 9 t.a_law t.fd_law ["script"] (sp_law K t) := by
  have G_ulaw_draws := ok_ulaw_draws (P := P) (w := w) (base := base) T
  have G_ulaw_prime := ok_ulaw_prime (P := P) (w := w) (base := base) T
  have G_ulaw_next := ok_ulaw_next (P := P) (w := w) (base := base) T
  have G_ulaw_any_cells := ok_ulaw_any_cells (P := P) (w := w) (base := base) T
  have G_ulaw_pair_asked := ok_ulaw_pair_asked (P := P) (w := w) (base := base) T
  have G_ulaw_refused := ok_ulaw_refused (P := P) (w := w) (base := base) T
  have G_ulaw_residue := ok_ulaw_residue (P := P) (w := w) (base := base) T
  have G_ulaw_form_entries := ok_ulaw_form_entries (P := P) (w := w) (base := base) T
  refine T.F_law.okX sc_law len_law (fun cdv A outer s H vs Q E hr h => ?_)
  have nd := sc_law.nd
  refine ⟨_, (pss_cons (ps_set (i := 1) nd rfl (Or.inr rfl) (pe_callS G_ulaw_draws (hr.mono (by decide)) (by rfl) T.g_ulaw_draws T.F_ulaw_draws.kp T.b_ulaw_draws (fun σ => passAt (takes_of rfl rfl rfl rfl) σ) (pa_cons (pv 0) (pa_cons (pe_int) pa_nil))))
    (pss_cons (ps_set (i := 2) nd rfl (Or.inr rfl) (pe_cell))
    (pss_cons (ps_set (i := 3) nd rfl (Or.inr rfl) (pe_callS G_ulaw_prime (hr.mono (by decide)) (by rfl) T.g_ulaw_prime T.F_ulaw_prime.kp T.b_ulaw_prime (fun σ => passAt (takes_of rfl rfl rfl rfl) σ) (pa_cons (pv 1) (pa_cons (pv 2) pa_nil))))
    (pss_cons (ps_set (i := 4) nd rfl (Or.inr rfl) (pe_callS G_ulaw_next (hr.mono (by decide)) (by rfl) T.g_ulaw_next T.F_ulaw_next.kp T.b_ulaw_next (fun σ => passAt (takes_of rfl rfl rfl rfl) σ) (pa_cons (pv 1) (pa_cons (pv 2) (pa_cons (pe_int) pa_nil)))))
    (pss_cut (ps_if (pt_cmpR (op_eqUK K hr) (pe_callS G_ulaw_next (hr.mono (by decide)) (by rfl) T.g_ulaw_next T.F_ulaw_next.kp T.b_ulaw_next (fun σ => passAt (takes_of rfl rfl rfl rfl) σ) (pa_cons (pv 1) (pa_cons (pv 2) (pa_cons (pe_int) pa_nil)))) (pe_int) (by first | exact nomark _ | rfl)) (pss_one (ps_set (i := 4) nd rfl (Or.inr rfl) (pe_int))) pss_nil)
    (pss_cons (ps_set (i := 5) nd rfl (Or.inl rfl) (pe_callS G_ulaw_next (hr.mono (by decide)) (by rfl) T.g_ulaw_next T.F_ulaw_next.kp T.b_ulaw_next (fun σ => passAt (takes_of rfl rfl rfl rfl) σ) (pa_cons (pv 1) (pa_cons (pv 2) (pa_cons (pe_int) pa_nil)))))
    (pss_cons (ps_set (i := 6) nd rfl (Or.inl rfl) (pe_callS G_ulaw_any_cells (hr.mono (by decide)) (by rfl) T.g_ulaw_any_cells T.F_ulaw_any_cells.kp T.b_ulaw_any_cells (fun σ => passAt (takes_of rfl rfl rfl rfl) σ) (pa_cons (pv 1) (pa_cons (pv 2) (pa_cons (pv 3) (pa_cons (pv 4) pa_nil))))))
    (pss_cons (ps_set (i := 7) nd rfl (Or.inl rfl) (pe_lst pa_nil))
    (pss_cons (ps_for (passes_of rfl) rfl (pi_range1 (by rfl) T.n_range (pa_cons (pe_int) pa_nil)) (pg_name (i := 8) nd rfl (Or.inl rfl))
    (pss_cons (ps_set (i := 9) nd rfl (Or.inl rfl) (pe_callS G_ulaw_next (hr.mono (by decide)) (by rfl) T.g_ulaw_next T.F_ulaw_next.kp T.b_ulaw_next (fun σ => passAt (takes_of rfl rfl rfl rfl) σ) (pa_cons (pv 1) (pa_cons (pv 2) (pa_cons (pe_op op_shl (pe_int) (pv 4)) pa_nil)))))
    (pss_one (ps_expr (pe_bmK K PySem.F.plainAttrs_list PySem.F.slot_list_append PySem.F.type_list_append mt_append (pv 7) (pa_cons (pe_tup (pa_cons (pv 9) (pa_cons (pe_callS G_ulaw_next (hr.mono (by decide)) (by rfl) T.g_ulaw_next T.F_ulaw_next.kp T.b_ulaw_next (fun σ => passAt (takes_of rfl rfl rfl rfl) σ) (pa_cons (pv 1) (pa_cons (pv 2) (pa_cons (pe_op op_shl (pe_int) (pv 4)) pa_nil)))) pa_nil))) pa_nil))))))
    (pss_cut (ps_if (pt_cmpR op_lt (pv 4) (pe_int) (by first | exact nomark _ | rfl)) (pss_one (ps_setLc (i := 7) (own := [("x", 17)]) (g := gName 17) (tt := tYes) rfl nd rfl rfl (sw_true rfl rfl rfl (by decide +kernel)) (pi_range1 (by rfl) T.n_range (pa_cons (pe_op op_shl (pe_int) (pe_op op_mulU (pe_int) (pv 4))) pa_nil)) (blkOk_by (N := ["script", "dr", "at", "p", "n", "odd", "a", "rows", "step", "one", "two", "few", "home", "links", "worth", "b", "filled", "x", "k"]) (sc := defScope s_law) (by decide +kernel)) (fun _ _ _ _ _ => (pg_name (i := 17) nd rfl (Or.inl rfl))) (fun _ _ _ _ _ => pts_nil) (fun _ _ _ _ _ => (pe_tup (pa_cons (pe_op op_fdivP (pv 17) (pe_op op_shl (pe_int) (pv 4))) (pa_cons (pe_op op_modP (pe_callTy call_int1D (by rfl) T.n_int (by decide +kernel) (pa_cons (pv 17) pa_nil)) (pe_op op_shl (pe_int) (pv 4))) pa_nil)))))) pss_nil)
    (pss_cons (ps_for (passes_of rfl) rfl (pi_UK K (pv 7)) (pg_tupK K 2 rfl (pgs_cons (pg_name (i := 9) nd rfl (Or.inl rfl)) (pgs_cons (pg_name (i := 10) nd rfl (Or.inl rfl)) pgs_nil)))
    (pss_one (ps_if (pt_not (pt_truthK K (pe_callS G_ulaw_pair_asked (hr.mono (by decide)) (by rfl) T.g_ulaw_pair_asked T.F_ulaw_pair_asked.kp T.b_ulaw_pair_asked (fun σ => passAt (takes_of rfl rfl rfl rfl) σ) (pa_cons (pv 3) (pa_cons (pv 4) (pa_cons (pv 6) (pa_cons (pv 9) (pa_cons (pv 10) (pa_cons (pe_bl) pa_nil))))))))) (pss_one (ps_ret (pe_bl))) pss_nil)))
    (pss_cons (ps_if (pt_not (pt_truthK K (pe_callS G_ulaw_refused (hr.mono (by decide)) (by rfl) T.g_ulaw_refused T.F_ulaw_refused.kp T.b_ulaw_refused (fun σ => passAt (takes_of rfl rfl rfl rfl) σ) (pa_cons (pv 3) (pa_cons (pv 4) (pa_cons (pv 6) (pa_cons (pv 5) pa_nil))))))) (pss_one (ps_ret (pe_bl))) pss_nil)
    (pss_cons (ps_set (i := 11) nd rfl (Or.inl rfl) (pe_op (op_addUK K) (pe_int) (pe_callS G_ulaw_next (hr.mono (by decide)) (by rfl) T.g_ulaw_next T.F_ulaw_next.kp T.b_ulaw_next (fun σ => passAt (takes_of rfl rfl rfl rfl) σ) (pa_cons (pv 1) (pa_cons (pv 2) (pa_cons (pe_int) pa_nil))))))
    (pss_cons (ps_set (i := 12) nd rfl (Or.inl rfl) (pe_callS G_ulaw_next (hr.mono (by decide)) (by rfl) T.g_ulaw_next T.F_ulaw_next.kp T.b_ulaw_next (fun σ => passAt (takes_of rfl rfl rfl rfl) σ) (pa_cons (pv 1) (pa_cons (pv 2) (pa_cons (pe_op op_shl (pe_int) (pv 11)) pa_nil)))))
    (pss_cons (ps_setLc (i := 13) (own := [("k", 18)]) (g := gName 18) (tt := tYes) rfl nd rfl rfl (sw_true rfl rfl rfl (by decide +kernel)) (pi_range1 (by rfl) T.n_range (pa_cons (pe_op op_fdivP (pe_op op_mulU (pv 11) (pe_op op_sub (pv 11) (pe_int))) (pe_int)) pa_nil)) (blkOk_by (N := ["script", "dr", "at", "p", "n", "odd", "a", "rows", "step", "one", "two", "few", "home", "links", "worth", "b", "filled", "x", "k"]) (sc := defScope s_law) (by decide +kernel)) (fun _ _ _ _ _ => (pg_name (i := 18) nd rfl (Or.inl rfl))) (fun _ _ _ _ _ => pts_nil) (fun _ _ _ _ _ => (pe_call G_ulaw_residue (hr.mono (by decide)) (by rfl) T.g_ulaw_residue T.F_ulaw_residue.kp T.b_ulaw_residue .nil passL (pa_cons (pv 1) (pa_cons (pv 2) (pa_cons (pv 3) pa_nil))))))
    (pss_cons (ps_set (i := 14) nd rfl (Or.inl rfl) (pe_op (op_addUK K) (pe_int) (pe_callS G_ulaw_next (hr.mono (by decide)) (by rfl) T.g_ulaw_next T.F_ulaw_next.kp T.b_ulaw_next (fun σ => passAt (takes_of rfl rfl rfl rfl) σ) (pa_cons (pv 1) (pa_cons (pv 2) (pa_cons (pe_op op_sub (pv 3) (pe_int)) pa_nil))))))
    (pss_cons (ps_set (i := 15) nd rfl (Or.inr rfl) (pe_callS G_ulaw_form_entries (hr.mono (by decide)) (by rfl) T.g_ulaw_form_entries T.F_ulaw_form_entries.kp T.b_ulaw_form_entries (fun σ => passAt (takes_of rfl rfl rfl rfl) σ) (pa_cons (pv 3) (pa_cons (pv 11) (pa_cons (pv 12) (pa_cons (pv 14) (pa_cons (pv 13) pa_nil)))))))
    (pss_cons (ps_setLc (i := 16) (own := [("x", 17)]) (g := gName 17) rfl nd rfl rfl (sw_true rfl rfl rfl (by decide +kernel)) (pi_range1 (by rfl) T.n_range (pa_cons (pe_op op_shl (pe_int) (pv 11)) pa_nil)) (blkOk_by (N := ["script", "dr", "at", "p", "n", "odd", "a", "rows", "step", "one", "two", "few", "home", "links", "worth", "b", "filled", "x", "k"]) (sc := defScope s_law) (by decide +kernel)) (fun _ _ _ _ _ => (pg_name (i := 17) nd rfl (Or.inl rfl))) (fun _ _ _ _ _ => (pts_one (pt_cmpR (op_neUK K hr) (pe_ix (ix_UK K) (pv 15) (pv 17) (fun _ _ => rfl)) (pe_int) (by first | exact nomark _ | rfl)))) (fun _ _ _ _ _ => (pv 17)))
    (pss_cons (ps_for (passes_of rfl) rfl (pi_range1 (by rfl) T.n_range (pa_cons (pe_int) pa_nil)) (pg_name (i := 8) nd rfl (Or.inl rfl))
    (pss_cons (ps_set (i := 9) nd rfl (Or.inl rfl) (pe_ix (ix_UK K) (pv 16) (pe_callS G_ulaw_next (hr.mono (by decide)) (by rfl) T.g_ulaw_next T.F_ulaw_next.kp T.b_ulaw_next (fun σ => passAt (takes_of rfl rfl rfl rfl) σ) (pa_cons (pv 1) (pa_cons (pv 2) (pa_cons (pe_callB (call_lenK K) (by rfl) T.n_len (by decide +kernel) (pa_cons (pv 16) pa_nil)) pa_nil)))) (fun _ _ => rfl)))
    (pss_cons (ps_set (i := 10) nd rfl (Or.inl rfl) (pe_ix (ix_UK K) (pv 16) (pe_callS G_ulaw_next (hr.mono (by decide)) (by rfl) T.g_ulaw_next T.F_ulaw_next.kp T.b_ulaw_next (fun σ => passAt (takes_of rfl rfl rfl rfl) σ) (pa_cons (pv 1) (pa_cons (pv 2) (pa_cons (pe_callB (call_lenK K) (by rfl) T.n_len (by decide +kernel) (pa_cons (pv 16) pa_nil)) pa_nil)))) (fun _ _ => rfl)))
    (pss_one (ps_if (pt_not (pt_truthK K (pe_callS G_ulaw_pair_asked (hr.mono (by decide)) (by rfl) T.g_ulaw_pair_asked T.F_ulaw_pair_asked.kp T.b_ulaw_pair_asked (fun σ => passAt (takes_of rfl rfl rfl rfl) σ) (pa_cons (pv 3) (pa_cons (pv 11) (pa_cons (pv 15) (pa_cons (pv 9) (pa_cons (pv 10) (pa_cons (pe_bl) pa_nil))))))))) (pss_one (ps_ret (pe_bl))) pss_nil)))))
    (pss_one (ps_ret (pe_callS G_ulaw_pair_asked (hr.mono (by decide)) (by rfl) T.g_ulaw_pair_asked T.F_ulaw_pair_asked.kp T.b_ulaw_pair_asked (fun σ => passAt (takes_of rfl rfl rfl rfl) σ) (pa_cons (pv 3) (pa_cons (pe_int) (pa_cons (pe_lst (pa_cons (pe_int) (pa_cons (pe_int) (pa_cons (pe_int) (pa_cons (pe_op op_sub (pv 3) (pe_int)) pa_nil))))) (pa_cons (pe_int) (pa_cons (pe_int) (pa_cons (pe_bl) pa_nil)))))))))))))))))))))))))))), ?_⟩
  obtain ⟨ps, x_script, v_script, rfl, P0, h_script, k, e, hw, hk, he⟩ := h
  unfold w_law at hw
  refine tSeq_j (tAsg_j (tCallS_i (tCons_i (tVar_i (v := v_script) rfl (tCons_i (tC_i (tNil_i (?_))))))))
  refine ⟨ps, x_script, (400 : Int), v_script, rfl, P0, h_script, _, _, hw, fun r1 hw H2 v4 s3 h5 => ?_, (fun er hc hw => errUp (Same.refl H) ss_refl (he er (absurd hc (List.not_mem_nil)) hw))⟩
  have P6 := dom_up s3 P0
  have T7 := Same.trans (Same.refl H) s3
  have S8 : Same (dels H ps) (dels H2 ps) := Sd ps s3
  refine gN (σ' := [some v_script, some v4, none, none, none, none, none, none, none, none, none, none, none, none, none, none, none, none, none]) rfl (tSeq_j (tAsg_j (tCell_i (fun p9 H10 n11 s12 e13 => ?_))))
  have P15 := dom_up s12 P6
  have T16 := Same.trans T7 s12
  have S17 : Same (dels H2 ps) (dels H10 ps) := Sd ps s12
  have h14 : pCell.rep (dels H10 ps) (.ref p9) () := ⟨_, rfl, dels_at e13 (nin_of n11 P6)⟩
  refine gN (σ' := [some v_script, some v4, some (.ref p9), none, none, none, none, none, none, none, none, none, none, none, none, none, none, none, none]) rfl (tSeq_j (tAsg_j (tCallS_i (tCons_i (tVar_i (v := v4) rfl (tCons_i (tVar_i (v := (.ref p9)) rfl (tNil_i (?_)))))))))
  refine ⟨ps, r1, (), v4, (.ref p9), rfl, P15, ((pDraw K).mono S17 h5), h14, _, _, hw, fun r18 hw H19 s20 => ?_, (fun er hc hw => errUp T16 ss_refl (he er (absurd hc (List.not_mem_nil)) hw))⟩
  have P21 := dom_up s20 P15
  have T22 := Same.trans T16 s20
  have S23 : Same (dels H10 ps) (dels H19 ps) := Sd ps s20
  refine gN (σ' := [some v_script, some v4, some (.ref p9), some (.int r18), none, none, none, none, none, none, none, none, none, none, none, none, none, none, none]) rfl (tSeq_j (tAsg_j (tCallS_i (tCons_i (tVar_i (v := v4) rfl (tCons_i (tVar_i (v := (.ref p9)) rfl (tCons_i (tC_i (tNil_i (?_)))))))))))
  refine ⟨ps, r1, (), (6 : Int), v4, (.ref p9), rfl, P21, ((pDraw K).mono (S17.trans S23) h5), (pCell.mono S23 h14), _, _, hw, fun r24 hw H25 s26 => ?_, (fun er hc hw => errUp T22 ss_refl (he er (absurd hc (List.not_mem_nil)) hw))⟩
  have P27 := dom_up s26 P21
  have T28 := Same.trans T22 s26
  have S29 : Same (dels H19 ps) (dels H25 ps) := Sd ps s26
  refine gN (σ' := [some v_script, some v4, some (.ref p9), some (.int r18), some (.int r24), none, none, none, none, none, none, none, none, none, none, none, none, none, none]) rfl (?_)
  refine cutW (S := Int) hw (fun (s37 : Int) (σ40 : L2.St) (H39 : Hp) => σ40 = [some v_script, some v4, some (.ref p9), some (.int r18), some (.int s37), none, none, none, none, none, none, none, none, none, none, none, none, none, none] ∧ Same (dels H25 ps) (dels H39 ps) ∧ (∀ x ∈ ps, H39 x ≠ none) ∧ Same H H39 ∧ True) (fun hw => ?_) (fun s37 σ40 H39 hr hw => ?_)
  · refine tIfS_j (tTest_i (tOp_i (tCallS_i (tCons_i (tVar_i (v := v4) rfl (tCons_i (tVar_i (v := (.ref p9)) rfl (tCons_i (tC_i (tNil_i (?_)))))))))))
    refine ⟨ps, r1, (), (8 : Int), v4, (.ref p9), rfl, P27, ((pDraw K).mono (S17.trans (S23.trans S29)) h5), (pCell.mono (S23.trans S29) h14), _, _, hw, fun r45 hw H46 s47 => ?_, (fun er hc hw => errUp T28 ss_refl (he er (absurd hc (List.not_mem_nil)) hw))⟩
    have P48 := dom_up s47 P27
    have T49 := Same.trans T28 s47
    have S50 : Same (dels H25 ps) (dels H46 ps) := Sd ps s47
    refine tC_i (rEqU_i (IsBl_i (?_)))
    refine Br_two hw (fun c51 hw => ?_) (fun c51 hw => ?_)
    · refine tAsg_j (tC_i (gN (σ' := [some v_script, some v4, some (.ref p9), some (.int r18), some (.int (6 : Int)), none, none, none, none, none, none, none, none, none, none, none, none, none, none]) rfl (?_)))
      exact ⟨(6 : Int), ⟨rfl, S50, P48, T49, trivial⟩, hw⟩
    · refine tNext_j (?_)
      exact ⟨r24, ⟨rfl, S50, P48, T49, trivial⟩, hw⟩
  obtain ⟨rfl, S43, P41, T42, _⟩ := hr
  refine tSeq_j (tAsg_j (tCallS_i (tCons_i (tVar_i (v := v4) rfl (tCons_i (tVar_i (v := (.ref p9)) rfl (tCons_i (tC_i (tNil_i (?_))))))))))
  refine ⟨ps, r1, (), (90 : Int), v4, (.ref p9), rfl, P41, ((pDraw K).mono (S17.trans (S23.trans (S29.trans S43))) h5), (pCell.mono (S23.trans (S29.trans S43)) h14), _, _, hw, fun r52 hw H53 s54 => ?_, (fun er hc hw => errUp T42 ss_refl (he er (absurd hc (List.not_mem_nil)) hw))⟩
  have P55 := dom_up s54 P41
  have T56 := Same.trans T42 s54
  have S57 : Same (dels H39 ps) (dels H53 ps) := Sd ps s54
  refine gN (σ' := [some v_script, some v4, some (.ref p9), some (.int r18), some (.int s37), some (.int r52), none, none, none, none, none, none, none, none, none, none, none, none, none]) rfl (tSeq_j (tAsg_j (tCallS_i (tCons_i (tVar_i (v := v4) rfl (tCons_i (tVar_i (v := (.ref p9)) rfl (tCons_i (tVar_i (v := (.int r18)) rfl (tCons_i (tVar_i (v := (.int s37)) rfl (tNil_i (?_)))))))))))))
  refine ⟨ps, r1, (), r18, s37, v4, (.ref p9), rfl, P55, ((pDraw K).mono (S17.trans (S23.trans (S29.trans (S43.trans S57)))) h5), (pCell.mono (S23.trans (S29.trans (S43.trans S57))) h14), _, _, hw, fun r58 hw H59 q61 us62 s60 n63 e64 r65 l66 => ?_, (fun er hc hw => errUp T56 ss_refl (he er (absurd hc (List.not_mem_nil)) hw))⟩
  have m67 := nin_of n63 P55
  have z68 := Same.free T56 n63
  have P69 := dom_up s60 P55
  have T70 := Same.trans T56 s60
  have P71 := dom_new e64 P69
  have S72 : Same (dels H53 ps) (dels H59 (q61 :: ps)) := Sn ps s60 n63
  have h73 : (pList pInt).rep (dels H59 ps) (.ref q61) r58 := oFrzG e64 m67 (ss_skip ss_refl) r65 l66
  have P74 := dom_ss (ss_skip ss_refl) P71
  have S75 : Same (dels H59 (q61 :: ps)) (dels H59 ps) := Ss (ss_skip ss_refl)
  refine gN (σ' := [some v_script, some v4, some (.ref p9), some (.int r18), some (.int s37), some (.int r52), some (.ref q61), none, none, none, none, none, none, none, none, none, none, none, none]) rfl (tSeq_j (tAsg_j (tLst_i (tNil_i (new_i (Nat.le_of_ble_eq_true rfl) (fun q76 H77 n78 s79 e80 => ?_))))))
  have r81 : AllR (pTup K (rCons pInt (rOne pInt))) (dels H59 ps) [] ([] : List (Int × Int)) := .nil
  have l82 : ([] : List (Int × Int)).length ≤ LIM := (Nat.le_of_ble_eq_true rfl)
  have m83 := nin_of n78 P74
  have z84 := Same.free T70 n78
  have P85 := dom_up s79 P74
  have T86 := Same.trans T70 s79
  have P87 := dom_new e80 P85
  have S88 : Same (dels H59 ps) (dels H77 (q76 :: ps)) := Sn ps s79 n78
  refine gN (σ' := [some v_script, some v4, some (.ref p9), some (.int r18), some (.int s37), some (.int r52), some (.ref q61), some (.ref q76), none, none, none, none, none, none, none, none, none, none, none]) rfl (?_)
  obtain ⟨y89, r90, l91, hw⟩ := letO hw r81 l82
  refine tSeq_j (tFor_j (w1 (tCons_i (tC_i (tNil_i (rgW1 hw.1 (?_)))))))
  refine forR0 (s0 := y89) hw.2 (fun (s183 : (List (Int × Int))) (σ185 : L2.St) (H184 : Hp) => ∃ (j186 : Option V) (j187 : Option V) (us191 : List V), σ185 = [some v_script, some v4, some (.ref p9), some (.int r18), some (.int s37), some (.int r52), some (.ref q61), some (.ref q76), j186, j187, none, none, none, none, none, none, none, none, none] ∧ Same (dels H77 (q76 :: ps)) (dels H184 (q76 :: ps)) ∧ (∀ x ∈ (q76 :: ps), H184 x ≠ none) ∧ Same H H184 ∧ H184 q76 = some (.lst us191) ∧ AllR (pTup K (rCons pInt (rOne pInt))) (dels H184 (q76 :: ps)) us191 s183 ∧ (s183).length ≤ LIM ∧ True) ⟨_, _, [], rfl, (Same.refl _), P87, T86, e80, (AllR.mono S88 r90), l91, trivial⟩ (fun d197 s183 σ185 H184 nx195 hr hw => ?_) (fun s201 σ203 H202 hr hw => ?_)
  · obtain ⟨j186, j187, us191, rfl, S190, P188, T189, e192, r193, l194, _⟩ := hr
    refine gN (σ' := [some v_script, some v4, some (.ref p9), some (.int r18), some (.int s37), some (.int r52), some (.ref q61), some (.ref q76), some (.int d197), j187, none, none, none, none, none, none, none, none, none]) rfl (tSeq_j (tAsg_j (tCallS_i (tCons_i (tVar_i (v := v4) rfl (tCons_i (tVar_i (v := (.ref p9)) rfl (tCons_i (tOp_i (tC_i (tVar_i (v := (.int s37)) rfl (rI_i hw.1 (tNil_i (?_))))))))))))))
    refine ⟨(q76 :: ps), r1, (), ((1 : Int) * 2 ^ Int.toNat s37), v4, (.ref p9), rfl, P188, ((pDraw K).mono (S17.trans (S23.trans (S29.trans (S43.trans (S57.trans (S72.trans (S75.trans (S88.trans S190)))))))) h5), (pCell.mono (S23.trans (S29.trans (S43.trans (S57.trans (S72.trans (S75.trans (S88.trans S190))))))) h14), _, _, hw.2, fun r213 hw H214 s215 => ?_, (fun er hc hw => errUp T189 (ss_skip ss_refl) (he er (absurd hc (List.not_mem_nil)) hw))⟩
    have P216 := dom_up s215 P188
    have T217 := Same.trans T189 s215
    have e218 := s215 _ _ e192
    have S219 : Same (dels H184 (q76 :: ps)) (dels H214 (q76 :: ps)) := Sd (q76 :: ps) s215
    refine gN (σ' := [some v_script, some v4, some (.ref p9), some (.int r18), some (.int s37), some (.int r52), some (.ref q61), some (.ref q76), some (.int d197), some (.int r213), none, none, none, none, none, none, none, none, none]) rfl (tDrop_j (tBM_i (tVar_i (v := (.ref q76)) rfl (tyL (SqL.of e218) (tCons_i (tTup_i (tCons_i (tVar_i (v := (.int r213)) rfl (tCons_i (tCallS_i (tCons_i (tVar_i (v := v4) rfl (tCons_i (tVar_i (v := (.ref p9)) rfl (tCons_i (tOp_i (tC_i (tVar_i (v := (.int s37)) rfl (rI_i hw.1 (tNil_i (?_)))))))))))))))))))))
    refine ⟨(q76 :: ps), r1, (), ((1 : Int) * 2 ^ Int.toNat s37), v4, (.ref p9), rfl, P216, ((pDraw K).mono (S17.trans (S23.trans (S29.trans (S43.trans (S57.trans (S72.trans (S75.trans (S88.trans (S190.trans S219))))))))) h5), (pCell.mono (S23.trans (S29.trans (S43.trans (S57.trans (S72.trans (S75.trans (S88.trans (S190.trans S219)))))))) h14), _, _, hw.2, fun r220 hw H221 s222 => ?_, (fun er hc hw => errUp T217 (ss_skip ss_refl) (he er (absurd hc (List.not_mem_nil)) hw))⟩
    have P223 := dom_up s222 P216
    have T224 := Same.trans T217 s222
    have e225 := s222 _ _ e218
    have S226 : Same (dels H214 (q76 :: ps)) (dels H221 (q76 :: ps)) := Sd (q76 :: ps) s222
    refine tNil_i (new_i (Nat.le_of_ble_eq_true rfl) (fun q227 H228 n229 s230 e231 => ?_))
    have P233 := dom_up s230 P223
    have T234 := Same.trans T224 s230
    have e235 := s230 _ _ e225
    have S236 : Same (dels H221 (q76 :: ps)) (dels H228 (q76 :: ps)) := Sd (q76 :: ps) s230
    have h232 : (pTup K (rCons pInt (rOne pInt))).rep (dels H228 (q76 :: ps)) (.ref q227) (r213, r220) := tupR (dels_at e231 (nin_of n229 P223)) (rowC rfl (rowO rfl))
    refine tNil_i (appO (p := (pTup K (rCons pInt (rOne pInt)))) (d := (r213, r220)) e235 (AllR.mono (S219.trans (S226.trans S236)) r193) hw.1 h232 (fun H237 f238 us239 e240 r241 l242 => ?_))
    have P243 := dom_off f238 e240 P233
    have T244 := st_off T234 f238 z84
    have S245 : Same (dels H228 (q76 :: ps)) (dels H237 (q76 :: ps)) := So (List.mem_cons_self ..) f238
    obtain ⟨y246, r247, l248, hw⟩ := letO hw.2 r241 l242
    exact nxS_i (s := (y246)) ⟨_, _, us239, rfl, (S190.trans (S219.trans (S226.trans (S236.trans S245)))), P243, T244, e240, (AllR.mono S245 r247), l248, trivial⟩ hw
  obtain ⟨j204, j205, us209, rfl, S208, P206, T207, e210, r211, l212, _⟩ := hr
  refine cutW (S := (List (Int × Int))) hw (fun (s319 : (List (Int × Int))) (σ322 : L2.St) (H321 : Hp) => ∃ (q326 : Addr) (us327 : List V), σ322 = [some v_script, some v4, some (.ref p9), some (.int r18), some (.int s37), some (.int r52), some (.ref q61), some (.ref q326), j204, j205, none, none, none, none, none, none, none, none, none] ∧ Same (dels H202 (q76 :: ps)) (dels H321 (q326 :: ps)) ∧ (∀ x ∈ (q326 :: ps), H321 x ≠ none) ∧ Same H H321 ∧ H321 q326 = some (.lst us327) ∧ AllR (pTup K (rCons pInt (rOne pInt))) (dels H321 (q326 :: ps)) us327 s319 ∧ (s319).length ≤ LIM ∧ q326 ∉ ps ∧ H q326 = none ∧ True) (fun hw => ?_) (fun s319 σ322 H321 hr hw => ?_)
  · refine tIfS_j (tTest_i (tOp_i (tVar_i (v := (.int s37)) rfl (tC_i (rI0_i (IsBl_i (?_)))))))
    refine Br_two hw (fun c334 hw => ?_) (fun c334 hw => ?_)
    · refine tAsg_j (tLc_i (w1 (tCons_i (tOp_i (tC_i (tOp_i (tC_i (tVar_i (v := (.int s37)) rfl (rMulU_i hw.1 (rI_i hw.2.1 (tNil_i (rgW1 hw.2.2.1 (?_)))))))))))))
      refine lcR0 (pb := (pTup K (rCons pInt (rOne pInt)))) (ps := (q76 :: ps)) hw.2.2.2.2 hw.2.2.2.1 P206 (fun q335 d336 H338 n340 s341 ⟨acc342, e343⟩ nx345 hw Y346 N347 hY348 hN349 => ?_) (fun q388 H389 acc390 zs391 n392 s393 e394 r395 l396 hw => ?_)
      · have m369 := nin_of n340 P206
        have z370 := Same.free T207 n340
        have P371 := dom_up s341 P206
        have T372 := Same.trans T207 s341
        have e373 := s341 _ _ e210
        have P374 := dom_new e343 P371
        have S375 : Same (dels H202 (q76 :: ps)) (dels H338 (q335 :: q76 :: ps)) := Sn (q76 :: ps) s341 n340
        refine gN (σ' := [some v_script, some v4, some (.ref p9), some (.int r18), some (.int s37), some (.int r52), some (.ref q61), some (.ref q76), j204, j205, none, none, none, none, none, none, none, some (.int d336), none]) rfl (wipe_i rfl (tYes_i (Br_t (tTup_i (tCons_i (tOp_i (tVar_i (v := (.int d336)) rfl (tOp_i (tC_i (tVar_i (v := (.int s37)) rfl (rI_i hw.1 (rDivP_i hw.2.1 (tCons_i (tOp_i (tCB_i (tCons_i (tVar_i (v := (.int d336)) rfl (tNil_i (rInt1_i (tOp_i (tC_i (tVar_i (v := (.int s37)) rfl (rI_i hw.2.2.1 (rModP_i hw.2.2.2.1 (tNil_i (new_i (Nat.le_of_ble_eq_true rfl) (fun q376 H377 n378 s379 e380 => ?_)))))))))))))))))))))))))))
        have P382 := dom_up s379 P374
        have T383 := Same.trans T372 s379
        have sc384 := Same.trans (Same.refl H338) s379
        have e385 := s379 _ _ e373
        have e386 := s379 _ _ e343
        have S387 : Same (dels H338 (q335 :: q76 :: ps)) (dels H377 (q335 :: q76 :: ps)) := Sd (q335 :: q76 :: ps) s379
        have h381 : (pTup K (rCons pInt (rOne pInt))).rep (dels H377 (q335 :: q76 :: ps)) (.ref q376) ((d336 / ((1 : Int) * 2 ^ Int.toNat s37)), (d336 % ((1 : Int) * 2 ^ Int.toNat s37))) := tupR (dels_at e380 (nin_of n378 P374)) (rowC rfl (rowO rfl))
        exact hY348 ((d336 / ((1 : Int) * 2 ^ Int.toNat s37)), (d336 % ((1 : Int) * 2 ^ Int.toNat s37))) _ _ sc384 h381 hw.2.2.2.2
      have m397 := nin_of n392 P206
      have z398 := Same.free T207 n392
      have P399 := dom_up s393 P206
      have T400 := Same.trans T207 s393
      have e401 := s393 _ _ e210
      have P402 := dom_new e394 P399
      have S403 : Same (dels H202 (q76 :: ps)) (dels H389 (q388 :: q76 :: ps)) := Sn (q76 :: ps) s393 n392
      refine gN (σ' := [some v_script, some v4, some (.ref p9), some (.int r18), some (.int s37), some (.int r52), some (.ref q61), some (.ref q388), j204, j205, none, none, none, none, none, none, none, none, none]) rfl (?_)
      have P404 := dom_ss (ss_keep (ss_skip ss_refl)) P402
      have S405 : Same (dels H389 (q388 :: q76 :: ps)) (dels H389 (q388 :: ps)) := Ss (ss_keep (ss_skip ss_refl))
      exact ⟨zs391, ⟨q388, acc390, rfl, (S403.trans S405), P404, T400, e394, (AllR.mono S405 r395), l396, (nin_ss m397 (ss_skip ss_refl)), z398, trivial⟩, hw⟩
    · refine tNext_j (?_)
      exact ⟨s201, ⟨q76, us209, rfl, (Same.refl _), P206, T207, e210, r211, l212, m83, z84, trivial⟩, hw⟩
  obtain ⟨q326, us327, rfl, S325, P323, T324, e328, r329, l330, m331, z332, _⟩ := hr
  refine tSeq_j (tFor_j (wL (tVar_i (v := (.ref q326)) rfl (?_))))
  refine WL_v rfl (SqL.of e328) (forL (s0 := ()) hw r329 (fun (s432 : Unit) (σ434 : L2.St) (H433 : Hp) => ∃ (j435 : Option V) (j436 : Option V), σ434 = [some v_script, some v4, some (.ref p9), some (.int r18), some (.int s37), some (.int r52), some (.ref q61), some (.ref q326), j204, j435, j436, none, none, none, none, none, none, none, none] ∧ Same (dels H321 (q326 :: ps)) (dels H433 (q326 :: ps)) ∧ (∀ x ∈ (q326 :: ps), H433 x ≠ none) ∧ Same H H433 ∧ H433 q326 = some (.lst us327) ∧ True) ⟨_, _, rfl, (Same.refl _), P323, T324, e328, trivial⟩ (fun s432 σ434 H433 ⟨j435, j436, _, S439, P437, T438, e440, _⟩ => (SqL.of e440)) (fun d443 s432 σ434 H433 x444 nx441 hr hi445 hw => ?_) (fun s447 σ449 H448 hr hw => ?_))
  · obtain ⟨j435, j436, rfl, S439, P437, T438, e440, _⟩ := hr
    refine gTupS hi445 (Same.trans S439 Su) (fun vs456 hv457 => ?_)
    obtain ⟨ws459, rfl, hv458⟩ := rowCi hv457
    obtain rfl := rowOi hv458
    refine ⟨rfl, ?_⟩
    refine gCons_i (gN (σ' := [some v_script, some v4, some (.ref p9), some (.int r18), some (.int s37), some (.int r52), some (.ref q61), some (.ref q326), j204, some (.int d443.1), j436, none, none, none, none, none, none, none, none]) rfl (gCons_i (gN (σ' := [some v_script, some v4, some (.ref p9), some (.int r18), some (.int s37), some (.int r52), some (.ref q61), some (.ref q326), j204, some (.int d443.1), some (.int d443.2), none, none, none, none, none, none, none, none]) rfl (gNil_i (tIfS_j (tNot_i (tTruth_i (tCallS_i (tCons_i (tVar_i (v := (.int r18)) rfl (tCons_i (tVar_i (v := (.int s37)) rfl (tCons_i (tVar_i (v := (.ref q61)) rfl (tCons_i (tVar_i (v := (.int d443.1)) rfl (tCons_i (tVar_i (v := (.int d443.2)) rfl (tCons_i (tC_i (tNil_i (?_))))))))))))))))))))))
    refine ⟨(q326 :: ps), r18, s37, r58, d443.1, d443.2, false, (.ref q61), rfl, P437, ((pList pInt).mono (S88.trans (S208.trans (S325.trans S439))) h73), _, _, hw, fun r460 hw H461 s462 => ?_, (fun er hc hw => errUp T438 (ss_skip ss_refl) (he er (by simp only [List.mem_cons, List.not_mem_nil, or_false] at hc ⊢; omega) hw))⟩
    have P463 := dom_up s462 P437
    have T464 := Same.trans T438 s462
    have e465 := s462 _ _ e440
    have S466 : Same (dels H433 (q326 :: ps)) (dels H461 (q326 :: ps)) := Sd (q326 :: ps) s462
    refine Tru_b (?_)
    refine Br_two hw (fun c467 hw => ?_) (fun c467 hw => ?_)
    · refine tRet_j (tC_i (?_))
      exact hk _ hw _ T464
    · refine tNext_j (?_)
      exact nxS_i (s := (())) ⟨_, _, rfl, (S439.trans S466), P463, T464, e465, trivial⟩ hw
  obtain ⟨j450, j451, rfl, S454, P452, T453, e455, _⟩ := hr
  refine tSeq_j (tIfS_j (tNot_i (tTruth_i (tCallS_i (tCons_i (tVar_i (v := (.int r18)) rfl (tCons_i (tVar_i (v := (.int s37)) rfl (tCons_i (tVar_i (v := (.ref q61)) rfl (tCons_i (tVar_i (v := (.int r52)) rfl (tNil_i (?_))))))))))))))
  refine ⟨(q326 :: ps), r18, s37, r58, r52, (.ref q61), rfl, P452, ((pList pInt).mono (S88.trans (S208.trans (S325.trans S454))) h73), _, _, hw, fun r468 hw H469 s470 => ?_, (fun er hc hw => errUp T453 (ss_skip ss_refl) (he er (by simp only [List.mem_cons, List.not_mem_nil, or_false] at hc ⊢; omega) hw))⟩
  have P471 := dom_up s470 P452
  have T472 := Same.trans T453 s470
  have e473 := s470 _ _ e455
  have S474 : Same (dels H448 (q326 :: ps)) (dels H469 (q326 :: ps)) := Sd (q326 :: ps) s470
  refine Tru_b (?_)
  refine Br_two hw (fun c475 hw => ?_) (fun c475 hw => ?_)
  · refine tRet_j (tC_i (?_))
    exact hk _ hw _ T472
  · refine tNext_j (tSeq_j (tAsg_j (tOp_i (tC_i (tCallS_i (tCons_i (tVar_i (v := v4) rfl (tCons_i (tVar_i (v := (.ref p9)) rfl (tCons_i (tC_i (tNil_i (?_)))))))))))))
    refine ⟨(q326 :: ps), r1, (), (5 : Int), v4, (.ref p9), rfl, P471, ((pDraw K).mono (S17.trans (S23.trans (S29.trans (S43.trans (S57.trans (S72.trans (S75.trans (S88.trans (S208.trans (S325.trans (S454.trans S474))))))))))) h5), (pCell.mono (S23.trans (S29.trans (S43.trans (S57.trans (S72.trans (S75.trans (S88.trans (S208.trans (S325.trans (S454.trans S474)))))))))) h14), _, _, hw, fun r476 hw H477 s478 => ?_, (fun er hc hw => errUp T472 (ss_skip ss_refl) (he er (absurd hc (List.not_mem_nil)) hw))⟩
    have P479 := dom_up s478 P471
    have T480 := Same.trans T472 s478
    have e481 := s478 _ _ e473
    have S482 : Same (dels H469 (q326 :: ps)) (dels H477 (q326 :: ps)) := Sd (q326 :: ps) s478
    refine rAddU_i (?_)
    refine asgIL (f := V.int) (e := ((1 : Int) + r476)) (g := fun y483 => [some v_script, some v4, some (.ref p9), some (.int r18), some (.int s37), some (.int r52), some (.ref q61), some (.ref q326), j204, j450, j451, some (.int y483), none, none, none, none, none, none, none]) hw (fun _ => rfl) (fun y483 hw => ?_)
    refine tSeq_j (tAsg_j (tCallS_i (tCons_i (tVar_i (v := v4) rfl (tCons_i (tVar_i (v := (.ref p9)) rfl (tCons_i (tOp_i (tC_i (tVar_i (v := (.int y483)) rfl (rI_i hw.1 (tNil_i (?_)))))))))))))
    refine ⟨(q326 :: ps), r1, (), ((1 : Int) * 2 ^ Int.toNat y483), v4, (.ref p9), rfl, P479, ((pDraw K).mono (S17.trans (S23.trans (S29.trans (S43.trans (S57.trans (S72.trans (S75.trans (S88.trans (S208.trans (S325.trans (S454.trans (S474.trans S482)))))))))))) h5), (pCell.mono (S23.trans (S29.trans (S43.trans (S57.trans (S72.trans (S75.trans (S88.trans (S208.trans (S325.trans (S454.trans (S474.trans S482))))))))))) h14), _, _, hw.2, fun r484 hw H485 s486 => ?_, (fun er hc hw => errUp T480 (ss_skip ss_refl) (he er (absurd hc (List.not_mem_nil)) hw))⟩
    have P487 := dom_up s486 P479
    have T488 := Same.trans T480 s486
    have e489 := s486 _ _ e481
    have S490 : Same (dels H477 (q326 :: ps)) (dels H485 (q326 :: ps)) := Sd (q326 :: ps) s486
    refine gN (σ' := [some v_script, some v4, some (.ref p9), some (.int r18), some (.int s37), some (.int r52), some (.ref q61), some (.ref q326), j204, j450, j451, some (.int y483), some (.int r484), none, none, none, none, none, none]) rfl (tSeq_j (tAsg_j (tLc_i (w1 (tCons_i (tOp_i (tOp_i (tVar_i (v := (.int y483)) rfl (tOp_i (tVar_i (v := (.int y483)) rfl (tC_i (rI0_i (rMulU_i hw.1 (tC_i (rDivP_i hw.2.1 (tNil_i (rgW1 hw.2.2.1 (?_))))))))))))))))))
    refine lcR0 (pb := pInt) (ps := (q326 :: ps)) hw.2.2.2.2 hw.2.2.2.1 P487 (fun q491 d492 H494 n496 s497 ⟨acc498, e499⟩ nx501 hw Y502 N503 hY504 hN505 => ?_) (fun q538 H539 acc540 zs541 n542 s543 e544 r545 l546 hw => ?_)
    · have m522 := nin_of n496 P487
      have z523 := Same.free T488 n496
      have P524 := dom_up s497 P487
      have T525 := Same.trans T488 s497
      have e526 := s497 _ _ e489
      have P527 := dom_new e499 P524
      have S528 : Same (dels H485 (q326 :: ps)) (dels H494 (q491 :: q326 :: ps)) := Sn (q326 :: ps) s497 n496
      refine gN (σ' := [some v_script, some v4, some (.ref p9), some (.int r18), some (.int s37), some (.int r52), some (.ref q61), some (.ref q326), j204, j450, j451, some (.int y483), some (.int r484), none, none, none, none, none, some (.int d492)]) rfl (wipe_i rfl (tYes_i (Br_t (tCall_i (tCons_i (tVar_i (v := v4) rfl (tCons_i (tVar_i (v := (.ref p9)) rfl (tCons_i (tVar_i (v := (.int r18)) rfl (tNil_i (?_))))))))))))
      refine ⟨(q491 :: q326 :: ps), r1, (), r18, v4, (.ref p9), rfl, P527, ((pDraw K).mono (S17.trans (S23.trans (S29.trans (S43.trans (S57.trans (S72.trans (S75.trans (S88.trans (S208.trans (S325.trans (S454.trans (S474.trans (S482.trans (S490.trans S528)))))))))))))) h5), (pCell.mono (S23.trans (S29.trans (S43.trans (S57.trans (S72.trans (S75.trans (S88.trans (S208.trans (S325.trans (S454.trans (S474.trans (S482.trans (S490.trans S528))))))))))))) h14), _, _, hw, fun r529 hw H530 s531 => ?_, (fun er _ hw => False.elim hw)⟩
      have P532 := dom_up s531 P527
      have T533 := Same.trans T525 s531
      have sc534 := Same.trans (Same.refl H494) s531
      have e535 := s531 _ _ e526
      have e536 := s531 _ _ e499
      have S537 : Same (dels H494 (q491 :: q326 :: ps)) (dels H530 (q491 :: q326 :: ps)) := Sd (q491 :: q326 :: ps) s531
      exact hY504 r529 _ _ sc534 rfl hw
    have m547 := nin_of n542 P487
    have z548 := Same.free T488 n542
    have P549 := dom_up s543 P487
    have T550 := Same.trans T488 s543
    have e551 := s543 _ _ e489
    have P552 := dom_new e544 P549
    have S553 : Same (dels H485 (q326 :: ps)) (dels H539 (q538 :: q326 :: ps)) := Sn (q326 :: ps) s543 n542
    have h554 : (pList pInt).rep (dels H539 (q326 :: ps)) (.ref q538) zs541 := oFrzG e544 m547 (ss_skip ss_refl) r545 l546
    have P555 := dom_ss (ss_skip ss_refl) P552
    have S556 : Same (dels H539 (q538 :: q326 :: ps)) (dels H539 (q326 :: ps)) := Ss (ss_skip ss_refl)
    refine gN (σ' := [some v_script, some v4, some (.ref p9), some (.int r18), some (.int s37), some (.int r52), some (.ref q61), some (.ref q326), j204, j450, j451, some (.int y483), some (.int r484), some (.ref q538), none, none, none, none, none]) rfl (tSeq_j (tAsg_j (tOp_i (tC_i (tCallS_i (tCons_i (tVar_i (v := v4) rfl (tCons_i (tVar_i (v := (.ref p9)) rfl (tCons_i (tOp_i (tVar_i (v := (.int r18)) rfl (tC_i (rI0_i (tNil_i (?_))))))))))))))))
    refine ⟨(q326 :: ps), r1, (), (r18 - (1 : Int)), v4, (.ref p9), rfl, P555, ((pDraw K).mono (S17.trans (S23.trans (S29.trans (S43.trans (S57.trans (S72.trans (S75.trans (S88.trans (S208.trans (S325.trans (S454.trans (S474.trans (S482.trans (S490.trans (S553.trans S556))))))))))))))) h5), (pCell.mono (S23.trans (S29.trans (S43.trans (S57.trans (S72.trans (S75.trans (S88.trans (S208.trans (S325.trans (S454.trans (S474.trans (S482.trans (S490.trans (S553.trans S556)))))))))))))) h14), _, _, hw, fun r557 hw H558 s559 => ?_, (fun er hc hw => errUp T550 (ss_skip ss_refl) (he er (absurd hc (List.not_mem_nil)) hw))⟩
    have P560 := dom_up s559 P555
    have T561 := Same.trans T550 s559
    have e562 := s559 _ _ e551
    have S563 : Same (dels H539 (q326 :: ps)) (dels H558 (q326 :: ps)) := Sd (q326 :: ps) s559
    refine rAddU_i (?_)
    refine asgIL (f := V.int) (e := ((1 : Int) + r557)) (g := fun y564 => [some v_script, some v4, some (.ref p9), some (.int r18), some (.int s37), some (.int r52), some (.ref q61), some (.ref q326), j204, j450, j451, some (.int y483), some (.int r484), some (.ref q538), some (.int y564), none, none, none, none]) hw (fun _ => rfl) (fun y564 hw => ?_)
    refine tSeq_j (tAsg_j (tCallS_i (tCons_i (tVar_i (v := (.int r18)) rfl (tCons_i (tVar_i (v := (.int y483)) rfl (tCons_i (tVar_i (v := (.int r484)) rfl (tCons_i (tVar_i (v := (.int y564)) rfl (tCons_i (tVar_i (v := (.ref q538)) rfl (tNil_i (?_))))))))))))))
    refine ⟨(q326 :: ps), r18, y483, r484, y564, zs541, (.ref q538), rfl, P560, ((pList pInt).mono S563 h554), _, _, hw, fun r565 hw H566 q568 us569 s567 n570 e571 r572 l573 => ?_, (fun er hc hw => errUp T561 (ss_skip ss_refl) (he er (absurd hc (List.not_mem_nil)) hw))⟩
    have m574 := nin_of n570 P560
    have z575 := Same.free T561 n570
    have P576 := dom_up s567 P560
    have T577 := Same.trans T561 s567
    have e578 := s567 _ _ e562
    have P579 := dom_new e571 P576
    have S580 : Same (dels H558 (q326 :: ps)) (dels H566 (q568 :: q326 :: ps)) := Sn (q326 :: ps) s567 n570
    have h581 : (pList pInt).rep (dels H566 (q326 :: ps)) (.ref q568) r565 := oFrzG e571 m574 (ss_skip ss_refl) r572 l573
    have P582 := dom_ss (ss_skip ss_refl) P579
    have S583 : Same (dels H566 (q568 :: q326 :: ps)) (dels H566 (q326 :: ps)) := Ss (ss_skip ss_refl)
    refine gN (σ' := [some v_script, some v4, some (.ref p9), some (.int r18), some (.int s37), some (.int r52), some (.ref q61), some (.ref q326), j204, j450, j451, some (.int y483), some (.int r484), some (.ref q538), some (.int y564), some (.ref q568), none, none, none]) rfl (tSeq_j (tAsg_j (tLc_i (w1 (tCons_i (tOp_i (tC_i (tVar_i (v := (.int y483)) rfl (rI_i hw.1 (tNil_i (rgW1 hw.2.1 (?_))))))))))))
    refine lcR0 (pb := pInt) (ps := (q326 :: ps)) hw.2.2.2 hw.2.2.1 P582 (fun q584 d585 H587 n589 s590 ⟨acc591, e592⟩ nx594 hw Y595 N596 hY597 hN598 => ?_) (fun q614 H615 acc616 zs617 n618 s619 e620 r621 l622 hw => ?_)
    · have m606 := nin_of n589 P582
      have z607 := Same.free T577 n589
      have P608 := dom_up s590 P582
      have T609 := Same.trans T577 s590
      have e610 := s590 _ _ e578
      have P611 := dom_new e592 P608
      have S612 : Same (dels H566 (q326 :: ps)) (dels H587 (q584 :: q326 :: ps)) := Sn (q326 :: ps) s590 n589
      refine gN (σ' := [some v_script, some v4, some (.ref p9), some (.int r18), some (.int s37), some (.int r52), some (.ref q61), some (.ref q326), j204, j450, j451, some (.int y483), some (.int r484), some (.ref q538), some (.int y564), some (.ref q568), none, some (.int d585), none]) rfl (wipe_i rfl (tTest_i (tOp_i (tOp_i (tVar_i (v := (.ref q568)) rfl (tVar_i (v := (.int d585)) rfl (ixI (sqL (Same.trans S612 Su) h581) hw.1 (tC_i (rNeU_i (IsBl_i (?_)))))))))))
      refine Br_two hw.2 (fun c613 hw => ?_) (fun c613 hw => ?_)
      · refine tVar_i (v := (.int d585)) rfl (?_)
        exact hY597 d585 _ _ (Same.refl H587) rfl hw
      · exact hN598 _ (Same.refl H587) hw
    have m623 := nin_of n618 P582
    have z624 := Same.free T577 n618
    have P625 := dom_up s619 P582
    have T626 := Same.trans T577 s619
    have e627 := s619 _ _ e578
    have P628 := dom_new e620 P625
    have S629 : Same (dels H566 (q326 :: ps)) (dels H615 (q614 :: q326 :: ps)) := Sn (q326 :: ps) s619 n618
    have h630 : (pList pInt).rep (dels H615 (q326 :: ps)) (.ref q614) zs617 := oFrzG e620 m623 (ss_skip ss_refl) r621 l622
    have P631 := dom_ss (ss_skip ss_refl) P628
    have S632 : Same (dels H615 (q614 :: q326 :: ps)) (dels H615 (q326 :: ps)) := Ss (ss_skip ss_refl)
    refine gN (σ' := [some v_script, some v4, some (.ref p9), some (.int r18), some (.int s37), some (.int r52), some (.ref q61), some (.ref q326), j204, j450, j451, some (.int y483), some (.int r484), some (.ref q538), some (.int y564), some (.ref q568), some (.ref q614), none, none]) rfl (tSeq_j (tFor_j (w1 (tCons_i (tC_i (tNil_i (rgW1 hw.1 (?_))))))))
    refine forR0 (s0 := ()) hw.2 (fun (s666 : Unit) (σ668 : L2.St) (H667 : Hp) => ∃ (j669 : Option V) (j670 : Option V) (j671 : Option V), σ668 = [some v_script, some v4, some (.ref p9), some (.int r18), some (.int s37), some (.int r52), some (.ref q61), some (.ref q326), j669, j670, j671, some (.int y483), some (.int r484), some (.ref q538), some (.int y564), some (.ref q568), some (.ref q614), none, none] ∧ Same (dels H615 (q326 :: ps)) (dels H667 (q326 :: ps)) ∧ (∀ x ∈ (q326 :: ps), H667 x ≠ none) ∧ Same H H667 ∧ H667 q326 = some (.lst us327) ∧ True) ⟨_, _, _, rfl, (Same.refl _), P631, T626, e627, trivial⟩ (fun d678 s666 σ668 H667 nx676 hr hw => ?_) (fun s682 σ684 H683 hr hw => ?_)
    · obtain ⟨j669, j670, j671, rfl, S674, P672, T673, e675, _⟩ := hr
      refine gN (σ' := [some v_script, some v4, some (.ref p9), some (.int r18), some (.int s37), some (.int r52), some (.ref q61), some (.ref q326), some (.int d678), j670, j671, some (.int y483), some (.int r484), some (.ref q538), some (.int y564), some (.ref q568), some (.ref q614), none, none]) rfl (tSeq_j (tAsg_j (tOp_i (tVar_i (v := (.ref q614)) rfl (tCallS_i (tCons_i (tVar_i (v := v4) rfl (tCons_i (tVar_i (v := (.ref p9)) rfl (tCons_i (tCB_i (tCons_i (tVar_i (v := (.ref q614)) rfl (tNil_i (lenS (sqL (Same.trans S674 Su) h630) (tNil_i (?_)))))))))))))))))
      refine ⟨(q326 :: ps), r1, (), (zs617.length : Int), v4, (.ref p9), rfl, P672, ((pDraw K).mono (S17.trans (S23.trans (S29.trans (S43.trans (S57.trans (S72.trans (S75.trans (S88.trans (S208.trans (S325.trans (S454.trans (S474.trans (S482.trans (S490.trans (S553.trans (S556.trans (S563.trans (S580.trans (S583.trans (S629.trans (S632.trans S674))))))))))))))))))))) h5), (pCell.mono (S23.trans (S29.trans (S43.trans (S57.trans (S72.trans (S75.trans (S88.trans (S208.trans (S325.trans (S454.trans (S474.trans (S482.trans (S490.trans (S553.trans (S556.trans (S563.trans (S580.trans (S583.trans (S629.trans (S632.trans S674)))))))))))))))))))) h14), _, _, hw, fun r692 hw H693 s694 => ?_, (fun er hc hw => errUp T673 (ss_skip ss_refl) (he er (absurd hc (List.not_mem_nil)) hw))⟩
      have P695 := dom_up s694 P672
      have T696 := Same.trans T673 s694
      have e697 := s694 _ _ e675
      have S698 : Same (dels H667 (q326 :: ps)) (dels H693 (q326 :: ps)) := Sd (q326 :: ps) s694
      refine ixI (sqL (Same.trans (S674.trans S698) Su) h630) hw.1 (?_)
      refine asgIL (f := V.int) (e := (ixG zs617 r692)) (g := fun y699 => [some v_script, some v4, some (.ref p9), some (.int r18), some (.int s37), some (.int r52), some (.ref q61), some (.ref q326), some (.int d678), some (.int y699), j671, some (.int y483), some (.int r484), some (.ref q538), some (.int y564), some (.ref q568), some (.ref q614), none, none]) hw.2 (fun _ => rfl) (fun y699 hw => ?_)
      refine tSeq_j (tAsg_j (tOp_i (tVar_i (v := (.ref q614)) rfl (tCallS_i (tCons_i (tVar_i (v := v4) rfl (tCons_i (tVar_i (v := (.ref p9)) rfl (tCons_i (tCB_i (tCons_i (tVar_i (v := (.ref q614)) rfl (tNil_i (lenS (sqL (Same.trans (S674.trans S698) Su) h630) (tNil_i (?_))))))))))))))))
      refine ⟨(q326 :: ps), r1, (), (zs617.length : Int), v4, (.ref p9), rfl, P695, ((pDraw K).mono (S17.trans (S23.trans (S29.trans (S43.trans (S57.trans (S72.trans (S75.trans (S88.trans (S208.trans (S325.trans (S454.trans (S474.trans (S482.trans (S490.trans (S553.trans (S556.trans (S563.trans (S580.trans (S583.trans (S629.trans (S632.trans (S674.trans S698)))))))))))))))))))))) h5), (pCell.mono (S23.trans (S29.trans (S43.trans (S57.trans (S72.trans (S75.trans (S88.trans (S208.trans (S325.trans (S454.trans (S474.trans (S482.trans (S490.trans (S553.trans (S556.trans (S563.trans (S580.trans (S583.trans (S629.trans (S632.trans (S674.trans S698))))))))))))))))))))) h14), _, _, hw, fun r700 hw H701 s702 => ?_, (fun er hc hw => errUp T696 (ss_skip ss_refl) (he er (absurd hc (List.not_mem_nil)) hw))⟩
      have P703 := dom_up s702 P695
      have T704 := Same.trans T696 s702
      have e705 := s702 _ _ e697
      have S706 : Same (dels H693 (q326 :: ps)) (dels H701 (q326 :: ps)) := Sd (q326 :: ps) s702
      refine ixI (sqL (Same.trans (S674.trans (S698.trans S706)) Su) h630) hw.1 (?_)
      refine asgIL (f := V.int) (e := (ixG zs617 r700)) (g := fun y707 => [some v_script, some v4, some (.ref p9), some (.int r18), some (.int s37), some (.int r52), some (.ref q61), some (.ref q326), some (.int d678), some (.int y699), some (.int y707), some (.int y483), some (.int r484), some (.ref q538), some (.int y564), some (.ref q568), some (.ref q614), none, none]) hw.2 (fun _ => rfl) (fun y707 hw => ?_)
      refine tIfS_j (tNot_i (tTruth_i (tCallS_i (tCons_i (tVar_i (v := (.int r18)) rfl (tCons_i (tVar_i (v := (.int y483)) rfl (tCons_i (tVar_i (v := (.ref q568)) rfl (tCons_i (tVar_i (v := (.int y699)) rfl (tCons_i (tVar_i (v := (.int y707)) rfl (tCons_i (tC_i (tNil_i (?_)))))))))))))))))
      refine ⟨(q326 :: ps), r18, y483, r565, y699, y707, true, (.ref q568), rfl, P703, ((pList pInt).mono (S629.trans (S632.trans (S674.trans (S698.trans S706)))) h581), _, _, hw, fun r708 hw H709 s710 => ?_, (fun er hc hw => errUp T704 (ss_skip ss_refl) (he er (by simp only [List.mem_cons, List.not_mem_nil, or_false] at hc ⊢; omega) hw))⟩
      have P711 := dom_up s710 P703
      have T712 := Same.trans T704 s710
      have e713 := s710 _ _ e705
      have S714 : Same (dels H701 (q326 :: ps)) (dels H709 (q326 :: ps)) := Sd (q326 :: ps) s710
      refine Tru_b (?_)
      refine Br_two hw (fun c715 hw => ?_) (fun c715 hw => ?_)
      · refine tRet_j (tC_i (?_))
        exact hk _ hw _ T712
      · refine tNext_j (?_)
        exact nxS_i (s := (())) ⟨_, _, _, rfl, (S674.trans (S698.trans (S706.trans S714))), P711, T712, e713, trivial⟩ hw
    obtain ⟨j685, j686, j687, rfl, S690, P688, T689, e691, _⟩ := hr
    refine tRet_j (tCallS_i (tCons_i (tVar_i (v := (.int r18)) rfl (tCons_i (tC_i (tCons_i (tLst_i (tCons_i (tC_i (tCons_i (tC_i (tCons_i (tC_i (tCons_i (tOp_i (tVar_i (v := (.int r18)) rfl (tC_i (rI0_i (tNil_i (new_i (Nat.le_of_ble_eq_true rfl) (fun q716 H717 n718 s719 e720 => ?_)))))))))))))))))))))
    have r721 : AllR pInt (dels H683 (q326 :: ps)) [(.int (1 : Int)), (.int (0 : Int)), (.int (0 : Int)), (.int (r18 - (1 : Int)))] ([(1 : Int), (0 : Int), (0 : Int), (r18 - (1 : Int))] : List Int) := (.cons rfl (.cons rfl (.cons rfl (.cons rfl .nil))))
    have l722 : ([(1 : Int), (0 : Int), (0 : Int), (r18 - (1 : Int))] : List Int).length ≤ LIM := (Nat.le_of_ble_eq_true rfl)
    have m723 := nin_of n718 P688
    have z724 := Same.free T689 n718
    have P725 := dom_up s719 P688
    have T726 := Same.trans T689 s719
    have e727 := s719 _ _ e691
    have P728 := dom_new e720 P725
    have S729 : Same (dels H683 (q326 :: ps)) (dels H717 (q716 :: q326 :: ps)) := Sn (q326 :: ps) s719 n718
    have h730 : (pList pInt).rep (dels H717 (q326 :: ps)) (.ref q716) ([(1 : Int), (0 : Int), (0 : Int), (r18 - (1 : Int))] : List Int) := oFrzG e720 m723 (ss_skip ss_refl) (AllR.mono S729 r721) l722
    have P731 := dom_ss (ss_skip ss_refl) P728
    have S732 : Same (dels H717 (q716 :: q326 :: ps)) (dels H717 (q326 :: ps)) := Ss (ss_skip ss_refl)
    refine tCons_i (tC_i (tCons_i (tC_i (tCons_i (tC_i (tNil_i (?_)))))))
    refine ⟨(q326 :: ps), r18, (2 : Int), ([(1 : Int), (0 : Int), (0 : Int), (r18 - (1 : Int))] : List Int), (0 : Int), (3 : Int), true, (.ref q716), rfl, P731, h730, _, _, hw, fun r733 hw H734 s735 => ?_, (fun er hc hw => errUp T726 (ss_skip ss_refl) (he er (by simp only [List.mem_cons, List.not_mem_nil, or_false] at hc ⊢; omega) hw))⟩
    have P736 := dom_up s735 P731
    have T737 := Same.trans T726 s735
    have e738 := s735 _ _ e727
    have S739 : Same (dels H717 (q326 :: ps)) (dels H734 (q326 :: ps)) := Sd (q326 :: ps) s735
    exact hk _ hw _ T737
end
theorem sp_weak {P : Program} {w : World} {K : PySem.W.Frag} {mg : Str → Option Value} {base : Heap} {CX : CXT} {n : Nat} {a : Addr} {fd : FuncData} {ps : List Str} {sp sp' : Sp} (h : FnOk P w K mg base CX n a fd ps sp) (hs : ∀ vs H Q E, sp' vs H Q E → sp vs H Q E) : FnOk P w K mg base CX n a fd ps sp' :=
  ⟨fun vs H Q E z => h.len vs H Q E (hs vs H Q E z), fun A outer s H args us vs Q E hr e0 hb r z => h.run A outer s H args us vs Q E hr e0 hb r (hs vs H Q E z)⟩
theorem law_ok {P : Program} {w : World} {K : PySem.W.Frag} {mg : Str → Option Value} {base : Heap} {t : Tab} (T : Txt K mg t) : FnOk P w K mg base (L2.CX P w) 9 t.a_law t.fd_law ["script"] (spLaw K) := by
  refine sp_weak (ok_law T) fun vs H Q E h => ?_
  obtain ⟨a, ns, rfl, hS, hl, hQ⟩ := h
  exact ⟨[], ns, .ref a, rfl, (fun x hx => nomatch hx), ⟨a, ns.map V.int, rfl, hS, AllR.ofImm ns, lim_le (by omega)⟩, fun b => b = true, fun _ => False, pure_law ns hl, (fun r hr H' s => by rw [show r = true from hr]; exact hQ H'), (fun er _ z => False.elim z)⟩

theorem kbind_exchange_ends_0_table_first_second_end {K : PySem.W.Frag} {a : Addr} {fd : FuncData} (F : Fun K "exchange_ends" "exchange_ends" s_exchange_ends a fd) : KBinds K fd ["table", "first", "second", "end"] ["table", "first", "second", "end"] gk_exchange_ends_0_table_first_second_end gk_exchange_ends_0_table_first_second_end := by
  obtain ⟨oc, od, kV, doc, pm, an, cdv, ct, osl, rfl, lk, hcd⟩ := F.ex
  refine ⟨fun s us ws _ hl => .of_eq ?_, fun {vs us zs ws} r rz => ?_⟩
  · revert hl
    unfold gk_exchange_ends_0_table_first_second_end
    split
    · intro hl
      rfl
    · intro hl
      cases hl
  · unfold gk_exchange_ends_0_table_first_second_end
    have hr := r.length
    have hz := rz.length
    split
    · match us, ws, r, rz with
      | _, _, .nil, .cons z0 (.cons z1 (.cons z2 (.cons z3 (.nil)))) => exact .cons z0 (.cons z1 (.cons z2 (.cons z3 (.nil))))
    · rename_i hn
      split
      · match vs, zs, r, rz with
        | _, _, .nil, .cons z0 (.cons z1 (.cons z2 (.cons z3 (.nil)))) => exact (hn _ _ _ _ rfl rfl).elim
      · exact .nil
theorem all_mk {l : PySem.W.OpenLaw} {w : World} {K : PySem.W.Frag} {h : Heap} {mg : Str → Option Value} {fa : Addr} (X : K.In h) (G : h.Ns mainGlobals mg) (hfa : mg "law" = some (.ref fa))
    {C_EndsError C_SizeError C_NumberError C_TwinError C_NodeError C_LegError C_PrimeError C_TextError C_Table f_SizeError_init f_NumberError_init f_TwinError_init f_NodeError_init f_LegError_init f_PrimeError_init f_TextError_init f_check_number f_is_odd_prime f_look_number f_look_list f_look_prime f_look_residue f_look_residues f_look_lot f_bits_of f_exchange_ends f_Table_init f_ulaw_draws f_ulaw_next f_ulaw_prime f_ulaw_residue f_ulaw_pair_spot f_ulaw_roots f_ulaw_form_entries f_ulaw_told f_ulaw_any_cells f_ulaw_whole f_ulaw_got f_ulaw_same f_ulaw_names f_ulaw_tried f_ulaw_list_is f_ulaw_partners f_ulaw_pair_asked f_ulaw_refused f_law : Addr} {oc_SizeError_init kV_SizeError_init dc_SizeError_init pm_SizeError_init cd_SizeError_init ct_SizeError_init oc_NumberError_init kV_NumberError_init dc_NumberError_init pm_NumberError_init cd_NumberError_init ct_NumberError_init oc_TwinError_init kV_TwinError_init dc_TwinError_init pm_TwinError_init cd_TwinError_init ct_TwinError_init oc_NodeError_init kV_NodeError_init dc_NodeError_init pm_NodeError_init cd_NodeError_init ct_NodeError_init oc_LegError_init kV_LegError_init dc_LegError_init pm_LegError_init cd_LegError_init ct_LegError_init oc_PrimeError_init kV_PrimeError_init dc_PrimeError_init pm_PrimeError_init cd_PrimeError_init ct_PrimeError_init oc_TextError_init kV_TextError_init dc_TextError_init pm_TextError_init cd_TextError_init ct_TextError_init oc_check_number kV_check_number dc_check_number pm_check_number cd_check_number ct_check_number oc_is_odd_prime kV_is_odd_prime dc_is_odd_prime pm_is_odd_prime cd_is_odd_prime ct_is_odd_prime oc_look_number kV_look_number dc_look_number pm_look_number cd_look_number ct_look_number oc_look_list kV_look_list dc_look_list pm_look_list cd_look_list ct_look_list oc_look_prime kV_look_prime dc_look_prime pm_look_prime cd_look_prime ct_look_prime oc_look_residue kV_look_residue dc_look_residue pm_look_residue cd_look_residue ct_look_residue oc_look_residues kV_look_residues dc_look_residues pm_look_residues cd_look_residues ct_look_residues oc_look_lot kV_look_lot dc_look_lot pm_look_lot cd_look_lot ct_look_lot oc_bits_of kV_bits_of dc_bits_of pm_bits_of cd_bits_of ct_bits_of oc_exchange_ends kV_exchange_ends dc_exchange_ends pm_exchange_ends cd_exchange_ends ct_exchange_ends oc_Table_init kV_Table_init dc_Table_init pm_Table_init cd_Table_init ct_Table_init oc_ulaw_draws kV_ulaw_draws dc_ulaw_draws pm_ulaw_draws cd_ulaw_draws ct_ulaw_draws oc_ulaw_next kV_ulaw_next dc_ulaw_next pm_ulaw_next cd_ulaw_next ct_ulaw_next oc_ulaw_prime kV_ulaw_prime dc_ulaw_prime pm_ulaw_prime cd_ulaw_prime ct_ulaw_prime oc_ulaw_residue kV_ulaw_residue dc_ulaw_residue pm_ulaw_residue cd_ulaw_residue ct_ulaw_residue oc_ulaw_pair_spot kV_ulaw_pair_spot dc_ulaw_pair_spot pm_ulaw_pair_spot cd_ulaw_pair_spot ct_ulaw_pair_spot oc_ulaw_roots kV_ulaw_roots dc_ulaw_roots pm_ulaw_roots cd_ulaw_roots ct_ulaw_roots oc_ulaw_form_entries kV_ulaw_form_entries dc_ulaw_form_entries pm_ulaw_form_entries cd_ulaw_form_entries ct_ulaw_form_entries oc_ulaw_told kV_ulaw_told dc_ulaw_told pm_ulaw_told cd_ulaw_told ct_ulaw_told oc_ulaw_any_cells kV_ulaw_any_cells dc_ulaw_any_cells pm_ulaw_any_cells cd_ulaw_any_cells ct_ulaw_any_cells oc_ulaw_whole kV_ulaw_whole dc_ulaw_whole pm_ulaw_whole cd_ulaw_whole ct_ulaw_whole oc_ulaw_got kV_ulaw_got dc_ulaw_got pm_ulaw_got cd_ulaw_got ct_ulaw_got oc_ulaw_same kV_ulaw_same dc_ulaw_same pm_ulaw_same cd_ulaw_same ct_ulaw_same oc_ulaw_names kV_ulaw_names dc_ulaw_names pm_ulaw_names cd_ulaw_names ct_ulaw_names oc_ulaw_tried kV_ulaw_tried dc_ulaw_tried pm_ulaw_tried cd_ulaw_tried ct_ulaw_tried oc_ulaw_list_is kV_ulaw_list_is dc_ulaw_list_is pm_ulaw_list_is cd_ulaw_list_is ct_ulaw_list_is oc_ulaw_partners kV_ulaw_partners dc_ulaw_partners pm_ulaw_partners cd_ulaw_partners ct_ulaw_partners oc_ulaw_pair_asked kV_ulaw_pair_asked dc_ulaw_pair_asked pm_ulaw_pair_asked cd_ulaw_pair_asked ct_ulaw_pair_asked oc_ulaw_refused kV_ulaw_refused dc_ulaw_refused pm_ulaw_refused cd_ulaw_refused ct_ulaw_refused oc_law kV_law dc_law pm_law cd_law ct_law : Value} {od_SizeError_init an_SizeError_init od_NumberError_init an_NumberError_init od_TwinError_init an_TwinError_init od_NodeError_init an_NodeError_init od_LegError_init an_LegError_init od_PrimeError_init an_PrimeError_init od_TextError_init an_TextError_init od_check_number an_check_number od_is_odd_prime an_is_odd_prime od_look_number an_look_number od_look_list an_look_list od_look_prime an_look_prime od_look_residue an_look_residue od_look_residues an_look_residues od_look_lot an_look_lot od_bits_of an_bits_of od_exchange_ends an_exchange_ends od_Table_init an_Table_init od_ulaw_draws an_ulaw_draws od_ulaw_next an_ulaw_next od_ulaw_prime an_ulaw_prime od_ulaw_residue an_ulaw_residue od_ulaw_pair_spot an_ulaw_pair_spot od_ulaw_roots an_ulaw_roots od_ulaw_form_entries an_ulaw_form_entries od_ulaw_told an_ulaw_told od_ulaw_any_cells an_ulaw_any_cells od_ulaw_whole an_ulaw_whole od_ulaw_got an_ulaw_got od_ulaw_same an_ulaw_same od_ulaw_names an_ulaw_names od_ulaw_tried an_ulaw_tried od_ulaw_list_is an_ulaw_list_is od_ulaw_partners an_ulaw_partners od_ulaw_pair_asked an_ulaw_pair_asked od_ulaw_refused an_ulaw_refused od_law an_law : Option Addr} {sl_SizeError_init sl_NumberError_init sl_TwinError_init sl_NodeError_init sl_LegError_init sl_PrimeError_init sl_TextError_init sl_check_number sl_is_odd_prime sl_look_number sl_look_list sl_look_prime sl_look_residue sl_look_residues sl_look_lot sl_bits_of sl_exchange_ends sl_Table_init sl_ulaw_draws sl_ulaw_next sl_ulaw_prime sl_ulaw_residue sl_ulaw_pair_spot sl_ulaw_roots sl_ulaw_form_entries sl_ulaw_told sl_ulaw_any_cells sl_ulaw_whole sl_ulaw_got sl_ulaw_same sl_ulaw_names sl_ulaw_tried sl_ulaw_list_is sl_ulaw_partners sl_ulaw_pair_asked sl_ulaw_refused sl_law : Array (Option Value)} {k_MOST k_MOST_ENDS : Tok} {nm_SizeError q_SizeError : Str} {N_SizeError : Addr} {bs_SizeError bm_SizeError su_SizeError : List Value} {sn_SizeError : List Str} {ab_SizeError : Bool} {co_SizeError : Option Bool} {dd_SizeError : Option Addr} {k0_SizeError k1_SizeError k2_SizeError k3_SizeError k5_SizeError : Option Value} {nm_NumberError q_NumberError : Str} {N_NumberError : Addr} {bs_NumberError bm_NumberError su_NumberError : List Value} {sn_NumberError : List Str} {ab_NumberError : Bool} {co_NumberError : Option Bool} {dd_NumberError : Option Addr} {k0_NumberError k1_NumberError k2_NumberError k3_NumberError k5_NumberError : Option Value} {nm_TwinError q_TwinError : Str} {N_TwinError : Addr} {bs_TwinError bm_TwinError su_TwinError : List Value} {sn_TwinError : List Str} {ab_TwinError : Bool} {co_TwinError : Option Bool} {dd_TwinError : Option Addr} {k0_TwinError k1_TwinError k2_TwinError k3_TwinError k5_TwinError : Option Value} {nm_NodeError q_NodeError : Str} {N_NodeError : Addr} {bs_NodeError bm_NodeError su_NodeError : List Value} {sn_NodeError : List Str} {ab_NodeError : Bool} {co_NodeError : Option Bool} {dd_NodeError : Option Addr} {k0_NodeError k1_NodeError k2_NodeError k3_NodeError k5_NodeError : Option Value} {nm_LegError q_LegError : Str} {N_LegError : Addr} {bs_LegError bm_LegError su_LegError : List Value} {sn_LegError : List Str} {ab_LegError : Bool} {co_LegError : Option Bool} {dd_LegError : Option Addr} {k0_LegError k1_LegError k2_LegError k3_LegError k5_LegError : Option Value} {nm_PrimeError q_PrimeError : Str} {N_PrimeError : Addr} {bs_PrimeError bm_PrimeError su_PrimeError : List Value} {sn_PrimeError : List Str} {ab_PrimeError : Bool} {co_PrimeError : Option Bool} {dd_PrimeError : Option Addr} {k0_PrimeError k1_PrimeError k2_PrimeError k3_PrimeError k5_PrimeError : Option Value} {nm_TextError q_TextError : Str} {N_TextError : Addr} {bs_TextError bm_TextError su_TextError : List Value} {sn_TextError : List Str} {ab_TextError : Bool} {co_TextError : Option Bool} {dd_TextError : Option Addr} {k0_TextError k1_TextError k2_TextError k3_TextError k5_TextError : Option Value}
    (a_EndsError : PySem.W.nsIn K mainGlobals "EndsError" = some (some (.ref C_EndsError)))
    (hc_EndsError : PySem.W.isClsIn K C_EndsError = true)
    (hg_EndsError : PySem.W.findIn K (.ref C_EndsError) "__getattribute__" = some (some (.builtin "BaseException.__getattribute__")))
    (hk_EndsError : PySem.W.findIn K (.ref C_EndsError) "__getattr__" = some none)
    (hs_EndsError : PySem.W.subIn K (.ref C_EndsError) (.type "BaseException") = some true)
    (hd_EndsError : PySem.W.hasDictIn K C_EndsError = true)
    (ha_EndsError : PySem.W.findIn K (.ref C_EndsError) "__class__" = some (some (.builtin "object.__class__")))
    (hm_EndsError : PySem.W.mroIn K C_EndsError (.type "object") = some true)
    (ty_EndsError : PySem.W.typeIn K (.ref C_EndsError) = some (.type "type"))
    (kc_EndsError : PySem.W.keepIn K (.ref C_EndsError) = true)
    (ex_EndsError : PySem.W.excIn K C_EndsError [.type "ValueError", .type "Exception", .type "BaseException", .type "object"] "ValueError.__new__" = true)
    (a_SizeError : PySem.W.nsIn K mainGlobals "SizeError" = some (some (.ref C_SizeError)))
    (hc_SizeError : PySem.W.isClsIn K C_SizeError = true)
    (hg_SizeError : PySem.W.findIn K (.ref C_SizeError) "__getattribute__" = some (some (.builtin "BaseException.__getattribute__")))
    (hk_SizeError : PySem.W.findIn K (.ref C_SizeError) "__getattr__" = some none)
    (hs_SizeError : PySem.W.subIn K (.ref C_SizeError) (.type "BaseException") = some true)
    (hd_SizeError : PySem.W.hasDictIn K C_SizeError = true)
    (ha_SizeError : PySem.W.findIn K (.ref C_SizeError) "__class__" = some (some (.builtin "object.__class__")))
    (hm_SizeError : PySem.W.mroIn K C_SizeError (.type "object") = some true)
    (ty_SizeError : PySem.W.typeIn K (.ref C_SizeError) = some (.type "type"))
    (kc_SizeError : PySem.W.keepIn K (.ref C_SizeError) = true)
    (i_SizeError : PySem.W.findIn K (.ref C_SizeError) "__init__" = some (some (.ref f_SizeError_init)))
    (xl_SizeError : K.lookup C_SizeError = some (excClassObj nm_SizeError q_SizeError C_SizeError N_SizeError bs_SizeError bm_SizeError true sn_SizeError su_SizeError ab_SizeError co_SizeError dd_SizeError k0_SizeError k1_SizeError k2_SizeError k3_SizeError k5_SizeError "ValueError.__new__"))
    (xr_SizeError : PySem.HandSPX.refsVE bm_SizeError = true)
    (sa_SizeError : PySem.W.findIn K (.ref C_SizeError) "__setattr__" = some (some (.builtin "object.__setattr__")))
    (xn_SizeError_count : PySem.W.findIn K (.ref C_SizeError) "count" = some none)
    (a_NumberError : PySem.W.nsIn K mainGlobals "NumberError" = some (some (.ref C_NumberError)))
    (hc_NumberError : PySem.W.isClsIn K C_NumberError = true)
    (hg_NumberError : PySem.W.findIn K (.ref C_NumberError) "__getattribute__" = some (some (.builtin "BaseException.__getattribute__")))
    (hk_NumberError : PySem.W.findIn K (.ref C_NumberError) "__getattr__" = some none)
    (hs_NumberError : PySem.W.subIn K (.ref C_NumberError) (.type "BaseException") = some true)
    (hd_NumberError : PySem.W.hasDictIn K C_NumberError = true)
    (ha_NumberError : PySem.W.findIn K (.ref C_NumberError) "__class__" = some (some (.builtin "object.__class__")))
    (hm_NumberError : PySem.W.mroIn K C_NumberError (.type "object") = some true)
    (ty_NumberError : PySem.W.typeIn K (.ref C_NumberError) = some (.type "type"))
    (kc_NumberError : PySem.W.keepIn K (.ref C_NumberError) = true)
    (i_NumberError : PySem.W.findIn K (.ref C_NumberError) "__init__" = some (some (.ref f_NumberError_init)))
    (xl_NumberError : K.lookup C_NumberError = some (excClassObj nm_NumberError q_NumberError C_NumberError N_NumberError bs_NumberError bm_NumberError true sn_NumberError su_NumberError ab_NumberError co_NumberError dd_NumberError k0_NumberError k1_NumberError k2_NumberError k3_NumberError k5_NumberError "ValueError.__new__"))
    (xr_NumberError : PySem.HandSPX.refsVE bm_NumberError = true)
    (sa_NumberError : PySem.W.findIn K (.ref C_NumberError) "__setattr__" = some (some (.builtin "object.__setattr__")))
    (xn_NumberError_number : PySem.W.findIn K (.ref C_NumberError) "number" = some none)
    (a_TwinError : PySem.W.nsIn K mainGlobals "TwinError" = some (some (.ref C_TwinError)))
    (hc_TwinError : PySem.W.isClsIn K C_TwinError = true)
    (hg_TwinError : PySem.W.findIn K (.ref C_TwinError) "__getattribute__" = some (some (.builtin "BaseException.__getattribute__")))
    (hk_TwinError : PySem.W.findIn K (.ref C_TwinError) "__getattr__" = some none)
    (hs_TwinError : PySem.W.subIn K (.ref C_TwinError) (.type "BaseException") = some true)
    (hd_TwinError : PySem.W.hasDictIn K C_TwinError = true)
    (ha_TwinError : PySem.W.findIn K (.ref C_TwinError) "__class__" = some (some (.builtin "object.__class__")))
    (hm_TwinError : PySem.W.mroIn K C_TwinError (.type "object") = some true)
    (ty_TwinError : PySem.W.typeIn K (.ref C_TwinError) = some (.type "type"))
    (kc_TwinError : PySem.W.keepIn K (.ref C_TwinError) = true)
    (i_TwinError : PySem.W.findIn K (.ref C_TwinError) "__init__" = some (some (.ref f_TwinError_init)))
    (xl_TwinError : K.lookup C_TwinError = some (excClassObj nm_TwinError q_TwinError C_TwinError N_TwinError bs_TwinError bm_TwinError true sn_TwinError su_TwinError ab_TwinError co_TwinError dd_TwinError k0_TwinError k1_TwinError k2_TwinError k3_TwinError k5_TwinError "ValueError.__new__"))
    (xr_TwinError : PySem.HandSPX.refsVE bm_TwinError = true)
    (sa_TwinError : PySem.W.findIn K (.ref C_TwinError) "__setattr__" = some (some (.builtin "object.__setattr__")))
    (xn_TwinError_number : PySem.W.findIn K (.ref C_TwinError) "number" = some none)
    (a_NodeError : PySem.W.nsIn K mainGlobals "NodeError" = some (some (.ref C_NodeError)))
    (hc_NodeError : PySem.W.isClsIn K C_NodeError = true)
    (hg_NodeError : PySem.W.findIn K (.ref C_NodeError) "__getattribute__" = some (some (.builtin "BaseException.__getattribute__")))
    (hk_NodeError : PySem.W.findIn K (.ref C_NodeError) "__getattr__" = some none)
    (hs_NodeError : PySem.W.subIn K (.ref C_NodeError) (.type "BaseException") = some true)
    (hd_NodeError : PySem.W.hasDictIn K C_NodeError = true)
    (ha_NodeError : PySem.W.findIn K (.ref C_NodeError) "__class__" = some (some (.builtin "object.__class__")))
    (hm_NodeError : PySem.W.mroIn K C_NodeError (.type "object") = some true)
    (ty_NodeError : PySem.W.typeIn K (.ref C_NodeError) = some (.type "type"))
    (kc_NodeError : PySem.W.keepIn K (.ref C_NodeError) = true)
    (i_NodeError : PySem.W.findIn K (.ref C_NodeError) "__init__" = some (some (.ref f_NodeError_init)))
    (xl_NodeError : K.lookup C_NodeError = some (excClassObj nm_NodeError q_NodeError C_NodeError N_NodeError bs_NodeError bm_NodeError true sn_NodeError su_NodeError ab_NodeError co_NodeError dd_NodeError k0_NodeError k1_NodeError k2_NodeError k3_NodeError k5_NodeError "ValueError.__new__"))
    (xr_NodeError : PySem.HandSPX.refsVE bm_NodeError = true)
    (sa_NodeError : PySem.W.findIn K (.ref C_NodeError) "__setattr__" = some (some (.builtin "object.__setattr__")))
    (xn_NodeError_node : PySem.W.findIn K (.ref C_NodeError) "node" = some none)
    (a_LegError : PySem.W.nsIn K mainGlobals "LegError" = some (some (.ref C_LegError)))
    (hc_LegError : PySem.W.isClsIn K C_LegError = true)
    (hg_LegError : PySem.W.findIn K (.ref C_LegError) "__getattribute__" = some (some (.builtin "BaseException.__getattribute__")))
    (hk_LegError : PySem.W.findIn K (.ref C_LegError) "__getattr__" = some none)
    (hs_LegError : PySem.W.subIn K (.ref C_LegError) (.type "BaseException") = some true)
    (hd_LegError : PySem.W.hasDictIn K C_LegError = true)
    (ha_LegError : PySem.W.findIn K (.ref C_LegError) "__class__" = some (some (.builtin "object.__class__")))
    (hm_LegError : PySem.W.mroIn K C_LegError (.type "object") = some true)
    (ty_LegError : PySem.W.typeIn K (.ref C_LegError) = some (.type "type"))
    (kc_LegError : PySem.W.keepIn K (.ref C_LegError) = true)
    (i_LegError : PySem.W.findIn K (.ref C_LegError) "__init__" = some (some (.ref f_LegError_init)))
    (xl_LegError : K.lookup C_LegError = some (excClassObj nm_LegError q_LegError C_LegError N_LegError bs_LegError bm_LegError true sn_LegError su_LegError ab_LegError co_LegError dd_LegError k0_LegError k1_LegError k2_LegError k3_LegError k5_LegError "ValueError.__new__"))
    (xr_LegError : PySem.HandSPX.refsVE bm_LegError = true)
    (sa_LegError : PySem.W.findIn K (.ref C_LegError) "__setattr__" = some (some (.builtin "object.__setattr__")))
    (xn_LegError_leg : PySem.W.findIn K (.ref C_LegError) "leg" = some none)
    (a_PrimeError : PySem.W.nsIn K mainGlobals "PrimeError" = some (some (.ref C_PrimeError)))
    (hc_PrimeError : PySem.W.isClsIn K C_PrimeError = true)
    (hg_PrimeError : PySem.W.findIn K (.ref C_PrimeError) "__getattribute__" = some (some (.builtin "BaseException.__getattribute__")))
    (hk_PrimeError : PySem.W.findIn K (.ref C_PrimeError) "__getattr__" = some none)
    (hs_PrimeError : PySem.W.subIn K (.ref C_PrimeError) (.type "BaseException") = some true)
    (hd_PrimeError : PySem.W.hasDictIn K C_PrimeError = true)
    (ha_PrimeError : PySem.W.findIn K (.ref C_PrimeError) "__class__" = some (some (.builtin "object.__class__")))
    (hm_PrimeError : PySem.W.mroIn K C_PrimeError (.type "object") = some true)
    (ty_PrimeError : PySem.W.typeIn K (.ref C_PrimeError) = some (.type "type"))
    (kc_PrimeError : PySem.W.keepIn K (.ref C_PrimeError) = true)
    (i_PrimeError : PySem.W.findIn K (.ref C_PrimeError) "__init__" = some (some (.ref f_PrimeError_init)))
    (xl_PrimeError : K.lookup C_PrimeError = some (excClassObj nm_PrimeError q_PrimeError C_PrimeError N_PrimeError bs_PrimeError bm_PrimeError true sn_PrimeError su_PrimeError ab_PrimeError co_PrimeError dd_PrimeError k0_PrimeError k1_PrimeError k2_PrimeError k3_PrimeError k5_PrimeError "ValueError.__new__"))
    (xr_PrimeError : PySem.HandSPX.refsVE bm_PrimeError = true)
    (sa_PrimeError : PySem.W.findIn K (.ref C_PrimeError) "__setattr__" = some (some (.builtin "object.__setattr__")))
    (xn_PrimeError_prime : PySem.W.findIn K (.ref C_PrimeError) "prime" = some none)
    (a_TextError : PySem.W.nsIn K mainGlobals "TextError" = some (some (.ref C_TextError)))
    (hc_TextError : PySem.W.isClsIn K C_TextError = true)
    (hg_TextError : PySem.W.findIn K (.ref C_TextError) "__getattribute__" = some (some (.builtin "BaseException.__getattribute__")))
    (hk_TextError : PySem.W.findIn K (.ref C_TextError) "__getattr__" = some none)
    (hs_TextError : PySem.W.subIn K (.ref C_TextError) (.type "BaseException") = some true)
    (hd_TextError : PySem.W.hasDictIn K C_TextError = true)
    (ha_TextError : PySem.W.findIn K (.ref C_TextError) "__class__" = some (some (.builtin "object.__class__")))
    (hm_TextError : PySem.W.mroIn K C_TextError (.type "object") = some true)
    (ty_TextError : PySem.W.typeIn K (.ref C_TextError) = some (.type "type"))
    (kc_TextError : PySem.W.keepIn K (.ref C_TextError) = true)
    (i_TextError : PySem.W.findIn K (.ref C_TextError) "__init__" = some (some (.ref f_TextError_init)))
    (xl_TextError : K.lookup C_TextError = some (excClassObj nm_TextError q_TextError C_TextError N_TextError bs_TextError bm_TextError true sn_TextError su_TextError ab_TextError co_TextError dd_TextError k0_TextError k1_TextError k2_TextError k3_TextError k5_TextError "ValueError.__new__"))
    (xr_TextError : PySem.HandSPX.refsVE bm_TextError = true)
    (sa_TextError : PySem.W.findIn K (.ref C_TextError) "__setattr__" = some (some (.builtin "object.__setattr__")))
    (xn_TextError_line : PySem.W.findIn K (.ref C_TextError) "line" = some none)
    (a_Table : PySem.W.nsIn K mainGlobals "Table" = some (some (.ref C_Table)))
    (pg_Table : PySem.W.plainGet K C_Table Str.empty = true)
    (hd_Table : PySem.W.hasDictIn K C_Table = true)
    (po_Table : PySem.W.plainOver K C_Table = true)
    (sa_Table : PySem.W.findIn K (.ref C_Table) "__setattr__" = some (some (.builtin "object.__setattr__")))
    (mk_Table : PySem.W.makesIn K C_Table = true)
    (kc_Table : PySem.W.keepIn K (.ref C_Table) = true)
    (ha_Table : PySem.W.findIn K (.ref C_Table) "__class__" = some (some (.builtin "object.__class__")))
    (hm_Table : PySem.W.mroIn K C_Table (.type "object") = some true)
    (ks_Table : PySem.W.kitOne K (.ref C_Table) (.ref C_Table) = some true)
    (na_Table_prime : PySem.W.findIn K (.ref C_Table) "prime" = some none)
    (na_Table_ends : PySem.W.findIn K (.ref C_Table) "ends" = some none)
    (na_Table_entries : PySem.W.findIn K (.ref C_Table) "entries" = some none)
    (m_Table_init : PySem.W.findIn K (.ref C_Table) "__init__" = some (some (.ref f_Table_init)))
    (fn_Table_init : PySem.W.isFn K (.ref f_Table_init) = true)
    (hnD : PySem.W.specialIn K (.builtin "object.__class__") "__get__" = some (some (.builtin "getset_descriptor.__get__")))
    (htD : PySem.W.takesIn K (.builtin "object.__class__") = some true)
    (l_SizeError_init : K.lookup f_SizeError_init = some ⟨oc_SizeError_init, od_SizeError_init, .func (PySem.W.fnOf "__init__" "SizeError.__init__" (defArgs s_SizeError_init) (defBody s_SizeError_init) (defScope s_SizeError_init) .none kV_SizeError_init dc_SizeError_init pm_SizeError_init an_SizeError_init cd_SizeError_init ct_SizeError_init), sl_SizeError_init⟩)
    (c_SizeError_init : PySem.W.codeIn K cd_SizeError_init "SizeError.__init__" = true)
    (k_SizeError_init : PySem.W.keepIn K (.ref f_SizeError_init) = true)
    (t_SizeError_init : PySem.W.typeIn K (.ref f_SizeError_init) = some (.type "function"))
    (l_NumberError_init : K.lookup f_NumberError_init = some ⟨oc_NumberError_init, od_NumberError_init, .func (PySem.W.fnOf "__init__" "NumberError.__init__" (defArgs s_NumberError_init) (defBody s_NumberError_init) (defScope s_NumberError_init) .none kV_NumberError_init dc_NumberError_init pm_NumberError_init an_NumberError_init cd_NumberError_init ct_NumberError_init), sl_NumberError_init⟩)
    (c_NumberError_init : PySem.W.codeIn K cd_NumberError_init "NumberError.__init__" = true)
    (k_NumberError_init : PySem.W.keepIn K (.ref f_NumberError_init) = true)
    (t_NumberError_init : PySem.W.typeIn K (.ref f_NumberError_init) = some (.type "function"))
    (l_TwinError_init : K.lookup f_TwinError_init = some ⟨oc_TwinError_init, od_TwinError_init, .func (PySem.W.fnOf "__init__" "TwinError.__init__" (defArgs s_TwinError_init) (defBody s_TwinError_init) (defScope s_TwinError_init) .none kV_TwinError_init dc_TwinError_init pm_TwinError_init an_TwinError_init cd_TwinError_init ct_TwinError_init), sl_TwinError_init⟩)
    (c_TwinError_init : PySem.W.codeIn K cd_TwinError_init "TwinError.__init__" = true)
    (k_TwinError_init : PySem.W.keepIn K (.ref f_TwinError_init) = true)
    (t_TwinError_init : PySem.W.typeIn K (.ref f_TwinError_init) = some (.type "function"))
    (l_NodeError_init : K.lookup f_NodeError_init = some ⟨oc_NodeError_init, od_NodeError_init, .func (PySem.W.fnOf "__init__" "NodeError.__init__" (defArgs s_NodeError_init) (defBody s_NodeError_init) (defScope s_NodeError_init) .none kV_NodeError_init dc_NodeError_init pm_NodeError_init an_NodeError_init cd_NodeError_init ct_NodeError_init), sl_NodeError_init⟩)
    (c_NodeError_init : PySem.W.codeIn K cd_NodeError_init "NodeError.__init__" = true)
    (k_NodeError_init : PySem.W.keepIn K (.ref f_NodeError_init) = true)
    (t_NodeError_init : PySem.W.typeIn K (.ref f_NodeError_init) = some (.type "function"))
    (l_LegError_init : K.lookup f_LegError_init = some ⟨oc_LegError_init, od_LegError_init, .func (PySem.W.fnOf "__init__" "LegError.__init__" (defArgs s_LegError_init) (defBody s_LegError_init) (defScope s_LegError_init) .none kV_LegError_init dc_LegError_init pm_LegError_init an_LegError_init cd_LegError_init ct_LegError_init), sl_LegError_init⟩)
    (c_LegError_init : PySem.W.codeIn K cd_LegError_init "LegError.__init__" = true)
    (k_LegError_init : PySem.W.keepIn K (.ref f_LegError_init) = true)
    (t_LegError_init : PySem.W.typeIn K (.ref f_LegError_init) = some (.type "function"))
    (l_PrimeError_init : K.lookup f_PrimeError_init = some ⟨oc_PrimeError_init, od_PrimeError_init, .func (PySem.W.fnOf "__init__" "PrimeError.__init__" (defArgs s_PrimeError_init) (defBody s_PrimeError_init) (defScope s_PrimeError_init) .none kV_PrimeError_init dc_PrimeError_init pm_PrimeError_init an_PrimeError_init cd_PrimeError_init ct_PrimeError_init), sl_PrimeError_init⟩)
    (c_PrimeError_init : PySem.W.codeIn K cd_PrimeError_init "PrimeError.__init__" = true)
    (k_PrimeError_init : PySem.W.keepIn K (.ref f_PrimeError_init) = true)
    (t_PrimeError_init : PySem.W.typeIn K (.ref f_PrimeError_init) = some (.type "function"))
    (l_TextError_init : K.lookup f_TextError_init = some ⟨oc_TextError_init, od_TextError_init, .func (PySem.W.fnOf "__init__" "TextError.__init__" (defArgs s_TextError_init) (defBody s_TextError_init) (defScope s_TextError_init) .none kV_TextError_init dc_TextError_init pm_TextError_init an_TextError_init cd_TextError_init ct_TextError_init), sl_TextError_init⟩)
    (c_TextError_init : PySem.W.codeIn K cd_TextError_init "TextError.__init__" = true)
    (k_TextError_init : PySem.W.keepIn K (.ref f_TextError_init) = true)
    (t_TextError_init : PySem.W.typeIn K (.ref f_TextError_init) = some (.type "function"))
    (a_check_number : PySem.W.nsIn K mainGlobals "check_number" = some (some (.ref f_check_number)))
    (l_check_number : K.lookup f_check_number = some ⟨oc_check_number, od_check_number, .func (PySem.W.fnOf "check_number" "check_number" (defArgs s_check_number) (defBody s_check_number) (defScope s_check_number) .none kV_check_number dc_check_number pm_check_number an_check_number cd_check_number ct_check_number), sl_check_number⟩)
    (c_check_number : PySem.W.codeIn K cd_check_number "check_number" = true)
    (k_check_number : PySem.W.keepIn K (.ref f_check_number) = true)
    (a_is_odd_prime : PySem.W.nsIn K mainGlobals "is_odd_prime" = some (some (.ref f_is_odd_prime)))
    (l_is_odd_prime : K.lookup f_is_odd_prime = some ⟨oc_is_odd_prime, od_is_odd_prime, .func (PySem.W.fnOf "is_odd_prime" "is_odd_prime" (defArgs s_is_odd_prime) (defBody s_is_odd_prime) (defScope s_is_odd_prime) .none kV_is_odd_prime dc_is_odd_prime pm_is_odd_prime an_is_odd_prime cd_is_odd_prime ct_is_odd_prime), sl_is_odd_prime⟩)
    (c_is_odd_prime : PySem.W.codeIn K cd_is_odd_prime "is_odd_prime" = true)
    (k_is_odd_prime : PySem.W.keepIn K (.ref f_is_odd_prime) = true)
    (a_look_number : PySem.W.nsIn K mainGlobals "look_number" = some (some (.ref f_look_number)))
    (l_look_number : K.lookup f_look_number = some ⟨oc_look_number, od_look_number, .func (PySem.W.fnOf "look_number" "look_number" (defArgs s_look_number) (defBody s_look_number) (defScope s_look_number) .none kV_look_number dc_look_number pm_look_number an_look_number cd_look_number ct_look_number), sl_look_number⟩)
    (c_look_number : PySem.W.codeIn K cd_look_number "look_number" = true)
    (k_look_number : PySem.W.keepIn K (.ref f_look_number) = true)
    (a_look_list : PySem.W.nsIn K mainGlobals "look_list" = some (some (.ref f_look_list)))
    (l_look_list : K.lookup f_look_list = some ⟨oc_look_list, od_look_list, .func (PySem.W.fnOf "look_list" "look_list" (defArgs s_look_list) (defBody s_look_list) (defScope s_look_list) .none kV_look_list dc_look_list pm_look_list an_look_list cd_look_list ct_look_list), sl_look_list⟩)
    (c_look_list : PySem.W.codeIn K cd_look_list "look_list" = true)
    (k_look_list : PySem.W.keepIn K (.ref f_look_list) = true)
    (a_look_prime : PySem.W.nsIn K mainGlobals "look_prime" = some (some (.ref f_look_prime)))
    (l_look_prime : K.lookup f_look_prime = some ⟨oc_look_prime, od_look_prime, .func (PySem.W.fnOf "look_prime" "look_prime" (defArgs s_look_prime) (defBody s_look_prime) (defScope s_look_prime) .none kV_look_prime dc_look_prime pm_look_prime an_look_prime cd_look_prime ct_look_prime), sl_look_prime⟩)
    (c_look_prime : PySem.W.codeIn K cd_look_prime "look_prime" = true)
    (k_look_prime : PySem.W.keepIn K (.ref f_look_prime) = true)
    (a_look_residue : PySem.W.nsIn K mainGlobals "look_residue" = some (some (.ref f_look_residue)))
    (l_look_residue : K.lookup f_look_residue = some ⟨oc_look_residue, od_look_residue, .func (PySem.W.fnOf "look_residue" "look_residue" (defArgs s_look_residue) (defBody s_look_residue) (defScope s_look_residue) .none kV_look_residue dc_look_residue pm_look_residue an_look_residue cd_look_residue ct_look_residue), sl_look_residue⟩)
    (c_look_residue : PySem.W.codeIn K cd_look_residue "look_residue" = true)
    (k_look_residue : PySem.W.keepIn K (.ref f_look_residue) = true)
    (a_look_residues : PySem.W.nsIn K mainGlobals "look_residues" = some (some (.ref f_look_residues)))
    (l_look_residues : K.lookup f_look_residues = some ⟨oc_look_residues, od_look_residues, .func (PySem.W.fnOf "look_residues" "look_residues" (defArgs s_look_residues) (defBody s_look_residues) (defScope s_look_residues) .none kV_look_residues dc_look_residues pm_look_residues an_look_residues cd_look_residues ct_look_residues), sl_look_residues⟩)
    (c_look_residues : PySem.W.codeIn K cd_look_residues "look_residues" = true)
    (k_look_residues : PySem.W.keepIn K (.ref f_look_residues) = true)
    (a_look_lot : PySem.W.nsIn K mainGlobals "look_lot" = some (some (.ref f_look_lot)))
    (l_look_lot : K.lookup f_look_lot = some ⟨oc_look_lot, od_look_lot, .func (PySem.W.fnOf "look_lot" "look_lot" (defArgs s_look_lot) (defBody s_look_lot) (defScope s_look_lot) .none kV_look_lot dc_look_lot pm_look_lot an_look_lot cd_look_lot ct_look_lot), sl_look_lot⟩)
    (c_look_lot : PySem.W.codeIn K cd_look_lot "look_lot" = true)
    (k_look_lot : PySem.W.keepIn K (.ref f_look_lot) = true)
    (a_bits_of : PySem.W.nsIn K mainGlobals "bits_of" = some (some (.ref f_bits_of)))
    (l_bits_of : K.lookup f_bits_of = some ⟨oc_bits_of, od_bits_of, .func (PySem.W.fnOf "bits_of" "bits_of" (defArgs s_bits_of) (defBody s_bits_of) (defScope s_bits_of) .none kV_bits_of dc_bits_of pm_bits_of an_bits_of cd_bits_of ct_bits_of), sl_bits_of⟩)
    (c_bits_of : PySem.W.codeIn K cd_bits_of "bits_of" = true)
    (k_bits_of : PySem.W.keepIn K (.ref f_bits_of) = true)
    (a_exchange_ends : PySem.W.nsIn K mainGlobals "exchange_ends" = some (some (.ref f_exchange_ends)))
    (l_exchange_ends : K.lookup f_exchange_ends = some ⟨oc_exchange_ends, od_exchange_ends, .func (PySem.W.fnOf "exchange_ends" "exchange_ends" (defArgs s_exchange_ends) (defBody s_exchange_ends) (defScope s_exchange_ends) .none kV_exchange_ends dc_exchange_ends pm_exchange_ends an_exchange_ends cd_exchange_ends ct_exchange_ends), sl_exchange_ends⟩)
    (c_exchange_ends : PySem.W.codeIn K cd_exchange_ends "exchange_ends" = true)
    (k_exchange_ends : PySem.W.keepIn K (.ref f_exchange_ends) = true)
    (l_Table_init : K.lookup f_Table_init = some ⟨oc_Table_init, od_Table_init, .func (PySem.W.fnOf "__init__" "Table.__init__" (defArgs s_Table_init) (defBody s_Table_init) (defScope s_Table_init) .none kV_Table_init dc_Table_init pm_Table_init an_Table_init cd_Table_init ct_Table_init), sl_Table_init⟩)
    (c_Table_init : PySem.W.codeIn K cd_Table_init "Table.__init__" = true)
    (k_Table_init : PySem.W.keepIn K (.ref f_Table_init) = true)
    (a_ulaw_draws : PySem.W.nsIn K mainGlobals "_law_draws" = some (some (.ref f_ulaw_draws)))
    (l_ulaw_draws : K.lookup f_ulaw_draws = some ⟨oc_ulaw_draws, od_ulaw_draws, .func (PySem.W.fnOf "_law_draws" "_law_draws" (defArgs s_ulaw_draws) (defBody s_ulaw_draws) (defScope s_ulaw_draws) .none kV_ulaw_draws dc_ulaw_draws pm_ulaw_draws an_ulaw_draws cd_ulaw_draws ct_ulaw_draws), sl_ulaw_draws⟩)
    (c_ulaw_draws : PySem.W.codeIn K cd_ulaw_draws "_law_draws" = true)
    (k_ulaw_draws : PySem.W.keepIn K (.ref f_ulaw_draws) = true)
    (a_ulaw_next : PySem.W.nsIn K mainGlobals "_law_next" = some (some (.ref f_ulaw_next)))
    (l_ulaw_next : K.lookup f_ulaw_next = some ⟨oc_ulaw_next, od_ulaw_next, .func (PySem.W.fnOf "_law_next" "_law_next" (defArgs s_ulaw_next) (defBody s_ulaw_next) (defScope s_ulaw_next) .none kV_ulaw_next dc_ulaw_next pm_ulaw_next an_ulaw_next cd_ulaw_next ct_ulaw_next), sl_ulaw_next⟩)
    (c_ulaw_next : PySem.W.codeIn K cd_ulaw_next "_law_next" = true)
    (k_ulaw_next : PySem.W.keepIn K (.ref f_ulaw_next) = true)
    (a_ulaw_prime : PySem.W.nsIn K mainGlobals "_law_prime" = some (some (.ref f_ulaw_prime)))
    (l_ulaw_prime : K.lookup f_ulaw_prime = some ⟨oc_ulaw_prime, od_ulaw_prime, .func (PySem.W.fnOf "_law_prime" "_law_prime" (defArgs s_ulaw_prime) (defBody s_ulaw_prime) (defScope s_ulaw_prime) .none kV_ulaw_prime dc_ulaw_prime pm_ulaw_prime an_ulaw_prime cd_ulaw_prime ct_ulaw_prime), sl_ulaw_prime⟩)
    (c_ulaw_prime : PySem.W.codeIn K cd_ulaw_prime "_law_prime" = true)
    (k_ulaw_prime : PySem.W.keepIn K (.ref f_ulaw_prime) = true)
    (a_ulaw_residue : PySem.W.nsIn K mainGlobals "_law_residue" = some (some (.ref f_ulaw_residue)))
    (l_ulaw_residue : K.lookup f_ulaw_residue = some ⟨oc_ulaw_residue, od_ulaw_residue, .func (PySem.W.fnOf "_law_residue" "_law_residue" (defArgs s_ulaw_residue) (defBody s_ulaw_residue) (defScope s_ulaw_residue) .none kV_ulaw_residue dc_ulaw_residue pm_ulaw_residue an_ulaw_residue cd_ulaw_residue ct_ulaw_residue), sl_ulaw_residue⟩)
    (c_ulaw_residue : PySem.W.codeIn K cd_ulaw_residue "_law_residue" = true)
    (k_ulaw_residue : PySem.W.keepIn K (.ref f_ulaw_residue) = true)
    (a_ulaw_pair_spot : PySem.W.nsIn K mainGlobals "_law_pair_spot" = some (some (.ref f_ulaw_pair_spot)))
    (l_ulaw_pair_spot : K.lookup f_ulaw_pair_spot = some ⟨oc_ulaw_pair_spot, od_ulaw_pair_spot, .func (PySem.W.fnOf "_law_pair_spot" "_law_pair_spot" (defArgs s_ulaw_pair_spot) (defBody s_ulaw_pair_spot) (defScope s_ulaw_pair_spot) .none kV_ulaw_pair_spot dc_ulaw_pair_spot pm_ulaw_pair_spot an_ulaw_pair_spot cd_ulaw_pair_spot ct_ulaw_pair_spot), sl_ulaw_pair_spot⟩)
    (c_ulaw_pair_spot : PySem.W.codeIn K cd_ulaw_pair_spot "_law_pair_spot" = true)
    (k_ulaw_pair_spot : PySem.W.keepIn K (.ref f_ulaw_pair_spot) = true)
    (a_ulaw_roots : PySem.W.nsIn K mainGlobals "_law_roots" = some (some (.ref f_ulaw_roots)))
    (l_ulaw_roots : K.lookup f_ulaw_roots = some ⟨oc_ulaw_roots, od_ulaw_roots, .func (PySem.W.fnOf "_law_roots" "_law_roots" (defArgs s_ulaw_roots) (defBody s_ulaw_roots) (defScope s_ulaw_roots) .none kV_ulaw_roots dc_ulaw_roots pm_ulaw_roots an_ulaw_roots cd_ulaw_roots ct_ulaw_roots), sl_ulaw_roots⟩)
    (c_ulaw_roots : PySem.W.codeIn K cd_ulaw_roots "_law_roots" = true)
    (k_ulaw_roots : PySem.W.keepIn K (.ref f_ulaw_roots) = true)
    (a_ulaw_form_entries : PySem.W.nsIn K mainGlobals "_law_form_entries" = some (some (.ref f_ulaw_form_entries)))
    (l_ulaw_form_entries : K.lookup f_ulaw_form_entries = some ⟨oc_ulaw_form_entries, od_ulaw_form_entries, .func (PySem.W.fnOf "_law_form_entries" "_law_form_entries" (defArgs s_ulaw_form_entries) (defBody s_ulaw_form_entries) (defScope s_ulaw_form_entries) .none kV_ulaw_form_entries dc_ulaw_form_entries pm_ulaw_form_entries an_ulaw_form_entries cd_ulaw_form_entries ct_ulaw_form_entries), sl_ulaw_form_entries⟩)
    (c_ulaw_form_entries : PySem.W.codeIn K cd_ulaw_form_entries "_law_form_entries" = true)
    (k_ulaw_form_entries : PySem.W.keepIn K (.ref f_ulaw_form_entries) = true)
    (a_ulaw_told : PySem.W.nsIn K mainGlobals "_law_told" = some (some (.ref f_ulaw_told)))
    (l_ulaw_told : K.lookup f_ulaw_told = some ⟨oc_ulaw_told, od_ulaw_told, .func (PySem.W.fnOf "_law_told" "_law_told" (defArgs s_ulaw_told) (defBody s_ulaw_told) (defScope s_ulaw_told) .none kV_ulaw_told dc_ulaw_told pm_ulaw_told an_ulaw_told cd_ulaw_told ct_ulaw_told), sl_ulaw_told⟩)
    (c_ulaw_told : PySem.W.codeIn K cd_ulaw_told "_law_told" = true)
    (k_ulaw_told : PySem.W.keepIn K (.ref f_ulaw_told) = true)
    (a_ulaw_any_cells : PySem.W.nsIn K mainGlobals "_law_any_cells" = some (some (.ref f_ulaw_any_cells)))
    (l_ulaw_any_cells : K.lookup f_ulaw_any_cells = some ⟨oc_ulaw_any_cells, od_ulaw_any_cells, .func (PySem.W.fnOf "_law_any_cells" "_law_any_cells" (defArgs s_ulaw_any_cells) (defBody s_ulaw_any_cells) (defScope s_ulaw_any_cells) .none kV_ulaw_any_cells dc_ulaw_any_cells pm_ulaw_any_cells an_ulaw_any_cells cd_ulaw_any_cells ct_ulaw_any_cells), sl_ulaw_any_cells⟩)
    (c_ulaw_any_cells : PySem.W.codeIn K cd_ulaw_any_cells "_law_any_cells" = true)
    (k_ulaw_any_cells : PySem.W.keepIn K (.ref f_ulaw_any_cells) = true)
    (a_ulaw_whole : PySem.W.nsIn K mainGlobals "_law_whole" = some (some (.ref f_ulaw_whole)))
    (l_ulaw_whole : K.lookup f_ulaw_whole = some ⟨oc_ulaw_whole, od_ulaw_whole, .func (PySem.W.fnOf "_law_whole" "_law_whole" (defArgs s_ulaw_whole) (defBody s_ulaw_whole) (defScope s_ulaw_whole) .none kV_ulaw_whole dc_ulaw_whole pm_ulaw_whole an_ulaw_whole cd_ulaw_whole ct_ulaw_whole), sl_ulaw_whole⟩)
    (c_ulaw_whole : PySem.W.codeIn K cd_ulaw_whole "_law_whole" = true)
    (k_ulaw_whole : PySem.W.keepIn K (.ref f_ulaw_whole) = true)
    (a_ulaw_got : PySem.W.nsIn K mainGlobals "_law_got" = some (some (.ref f_ulaw_got)))
    (l_ulaw_got : K.lookup f_ulaw_got = some ⟨oc_ulaw_got, od_ulaw_got, .func (PySem.W.fnOf "_law_got" "_law_got" (defArgs s_ulaw_got) (defBody s_ulaw_got) (defScope s_ulaw_got) .none kV_ulaw_got dc_ulaw_got pm_ulaw_got an_ulaw_got cd_ulaw_got ct_ulaw_got), sl_ulaw_got⟩)
    (c_ulaw_got : PySem.W.codeIn K cd_ulaw_got "_law_got" = true)
    (k_ulaw_got : PySem.W.keepIn K (.ref f_ulaw_got) = true)
    (a_ulaw_same : PySem.W.nsIn K mainGlobals "_law_same" = some (some (.ref f_ulaw_same)))
    (l_ulaw_same : K.lookup f_ulaw_same = some ⟨oc_ulaw_same, od_ulaw_same, .func (PySem.W.fnOf "_law_same" "_law_same" (defArgs s_ulaw_same) (defBody s_ulaw_same) (defScope s_ulaw_same) .none kV_ulaw_same dc_ulaw_same pm_ulaw_same an_ulaw_same cd_ulaw_same ct_ulaw_same), sl_ulaw_same⟩)
    (c_ulaw_same : PySem.W.codeIn K cd_ulaw_same "_law_same" = true)
    (k_ulaw_same : PySem.W.keepIn K (.ref f_ulaw_same) = true)
    (a_ulaw_names : PySem.W.nsIn K mainGlobals "_law_names" = some (some (.ref f_ulaw_names)))
    (l_ulaw_names : K.lookup f_ulaw_names = some ⟨oc_ulaw_names, od_ulaw_names, .func (PySem.W.fnOf "_law_names" "_law_names" (defArgs s_ulaw_names) (defBody s_ulaw_names) (defScope s_ulaw_names) .none kV_ulaw_names dc_ulaw_names pm_ulaw_names an_ulaw_names cd_ulaw_names ct_ulaw_names), sl_ulaw_names⟩)
    (c_ulaw_names : PySem.W.codeIn K cd_ulaw_names "_law_names" = true)
    (k_ulaw_names : PySem.W.keepIn K (.ref f_ulaw_names) = true)
    (a_ulaw_tried : PySem.W.nsIn K mainGlobals "_law_tried" = some (some (.ref f_ulaw_tried)))
    (l_ulaw_tried : K.lookup f_ulaw_tried = some ⟨oc_ulaw_tried, od_ulaw_tried, .func (PySem.W.fnOf "_law_tried" "_law_tried" (defArgs s_ulaw_tried) (defBody s_ulaw_tried) (defScope s_ulaw_tried) .none kV_ulaw_tried dc_ulaw_tried pm_ulaw_tried an_ulaw_tried cd_ulaw_tried ct_ulaw_tried), sl_ulaw_tried⟩)
    (c_ulaw_tried : PySem.W.codeIn K cd_ulaw_tried "_law_tried" = true)
    (k_ulaw_tried : PySem.W.keepIn K (.ref f_ulaw_tried) = true)
    (a_ulaw_list_is : PySem.W.nsIn K mainGlobals "_law_list_is" = some (some (.ref f_ulaw_list_is)))
    (l_ulaw_list_is : K.lookup f_ulaw_list_is = some ⟨oc_ulaw_list_is, od_ulaw_list_is, .func (PySem.W.fnOf "_law_list_is" "_law_list_is" (defArgs s_ulaw_list_is) (defBody s_ulaw_list_is) (defScope s_ulaw_list_is) .none kV_ulaw_list_is dc_ulaw_list_is pm_ulaw_list_is an_ulaw_list_is cd_ulaw_list_is ct_ulaw_list_is), sl_ulaw_list_is⟩)
    (c_ulaw_list_is : PySem.W.codeIn K cd_ulaw_list_is "_law_list_is" = true)
    (k_ulaw_list_is : PySem.W.keepIn K (.ref f_ulaw_list_is) = true)
    (a_ulaw_partners : PySem.W.nsIn K mainGlobals "_law_partners" = some (some (.ref f_ulaw_partners)))
    (l_ulaw_partners : K.lookup f_ulaw_partners = some ⟨oc_ulaw_partners, od_ulaw_partners, .func (PySem.W.fnOf "_law_partners" "_law_partners" (defArgs s_ulaw_partners) (defBody s_ulaw_partners) (defScope s_ulaw_partners) .none kV_ulaw_partners dc_ulaw_partners pm_ulaw_partners an_ulaw_partners cd_ulaw_partners ct_ulaw_partners), sl_ulaw_partners⟩)
    (c_ulaw_partners : PySem.W.codeIn K cd_ulaw_partners "_law_partners" = true)
    (k_ulaw_partners : PySem.W.keepIn K (.ref f_ulaw_partners) = true)
    (a_ulaw_pair_asked : PySem.W.nsIn K mainGlobals "_law_pair_asked" = some (some (.ref f_ulaw_pair_asked)))
    (l_ulaw_pair_asked : K.lookup f_ulaw_pair_asked = some ⟨oc_ulaw_pair_asked, od_ulaw_pair_asked, .func (PySem.W.fnOf "_law_pair_asked" "_law_pair_asked" (defArgs s_ulaw_pair_asked) (defBody s_ulaw_pair_asked) (defScope s_ulaw_pair_asked) .none kV_ulaw_pair_asked dc_ulaw_pair_asked pm_ulaw_pair_asked an_ulaw_pair_asked cd_ulaw_pair_asked ct_ulaw_pair_asked), sl_ulaw_pair_asked⟩)
    (c_ulaw_pair_asked : PySem.W.codeIn K cd_ulaw_pair_asked "_law_pair_asked" = true)
    (k_ulaw_pair_asked : PySem.W.keepIn K (.ref f_ulaw_pair_asked) = true)
    (a_ulaw_refused : PySem.W.nsIn K mainGlobals "_law_refused" = some (some (.ref f_ulaw_refused)))
    (l_ulaw_refused : K.lookup f_ulaw_refused = some ⟨oc_ulaw_refused, od_ulaw_refused, .func (PySem.W.fnOf "_law_refused" "_law_refused" (defArgs s_ulaw_refused) (defBody s_ulaw_refused) (defScope s_ulaw_refused) .none kV_ulaw_refused dc_ulaw_refused pm_ulaw_refused an_ulaw_refused cd_ulaw_refused ct_ulaw_refused), sl_ulaw_refused⟩)
    (c_ulaw_refused : PySem.W.codeIn K cd_ulaw_refused "_law_refused" = true)
    (k_ulaw_refused : PySem.W.keepIn K (.ref f_ulaw_refused) = true)
    (a_law : PySem.W.nsIn K mainGlobals "law" = some (some (.ref f_law)))
    (l_law : K.lookup f_law = some ⟨oc_law, od_law, .func (PySem.W.fnOf "law" "law" (defArgs s_law) (defBody s_law) (defScope s_law) .none kV_law dc_law pm_law an_law cd_law ct_law), sl_law⟩)
    (c_law : PySem.W.codeIn K cd_law "law" = true)
    (k_law : PySem.W.keepIn K (.ref f_law) = true)
    (a_MOST : PySem.W.nsIn K mainGlobals "MOST" = some (some (.int 997 k_MOST)))
    (a_MOST_ENDS : PySem.W.nsIn K mainGlobals "MOST_ENDS" = some (some (.int 6 k_MOST_ENDS)))
    (z_ValueError : PySem.W.nsIn K mainGlobals "ValueError" = some none)
    (z_all : PySem.W.nsIn K mainGlobals "all" = some none)
    (z_bool : PySem.W.nsIn K mainGlobals "bool" = some none)
    (z_int : PySem.W.nsIn K mainGlobals "int" = some none)
    (z_isinstance : PySem.W.nsIn K mainGlobals "isinstance" = some none)
    (z_len : PySem.W.nsIn K mainGlobals "len" = some none)
    (z_list : PySem.W.nsIn K mainGlobals "list" = some none)
    (z_max : PySem.W.nsIn K mainGlobals "max" = some none)
    (z_min : PySem.W.nsIn K mainGlobals "min" = some none)
    (z_range : PySem.W.nsIn K mainGlobals "range" = some none)
    (z_sum : PySem.W.nsIn K mainGlobals "sum" = some none)
    (z_tuple : PySem.W.nsIn K mainGlobals "tuple" = some none)
    (kt_NumberError_NumberError : PySem.W.kitOne K (.ref C_NumberError) (.ref C_NumberError) = some true)
    (kt_NumberError_SizeError : PySem.W.kitOne K (.ref C_NumberError) (.ref C_SizeError) = some false)
    (kt_NumberError_PrimeError : PySem.W.kitOne K (.ref C_NumberError) (.ref C_PrimeError) = some false)
    (kt_NumberError_TwinError : PySem.W.kitOne K (.ref C_NumberError) (.ref C_TwinError) = some false)
    (kt_NumberError_LegError : PySem.W.kitOne K (.ref C_NumberError) (.ref C_LegError) = some false)
    (kt_NumberError_NodeError : PySem.W.kitOne K (.ref C_NumberError) (.ref C_NodeError) = some false)
    (kt_NumberError_ValueError : PySem.W.kitOne K (.ref C_NumberError) (.type "ValueError") = some true)
    (su_EndsError_EndsError : PySem.W.subIn K (.ref C_EndsError) (.ref C_EndsError) = some true)
    (su_SizeError_EndsError : PySem.W.subIn K (.ref C_SizeError) (.ref C_EndsError) = some true)
    (su_NumberError_EndsError : PySem.W.subIn K (.ref C_NumberError) (.ref C_EndsError) = some true)
    (su_TwinError_EndsError : PySem.W.subIn K (.ref C_TwinError) (.ref C_EndsError) = some true)
    (su_NodeError_EndsError : PySem.W.subIn K (.ref C_NodeError) (.ref C_EndsError) = some true)
    (su_LegError_EndsError : PySem.W.subIn K (.ref C_LegError) (.ref C_EndsError) = some true)
    (su_PrimeError_EndsError : PySem.W.subIn K (.ref C_PrimeError) (.ref C_EndsError) = some true)
    (su_TextError_EndsError : PySem.W.subIn K (.ref C_TextError) (.ref C_EndsError) = some true)
    : ∃ fd : FuncData, (∀ (s : Shared) (u : Value), BindsTo s fd ⟨[u], []⟩ [("script", u)]) ∧ ∀ base : Heap, K.In base → base.Ns mainGlobals mg → FnOk l.prog w K mg base (L2.CX l.prog w) 9 fa fd ["script"] (spLaw K) := by
  have e := hfa.symm.trans (PySem.W.mg_of X G a_law)
  have e2 : f_law = fa := by
    cases e
    rfl
  subst e2
  have F_SizeError_init := fun_mk (st := s_SizeError_init) l_SizeError_init c_SizeError_init k_SizeError_init
  have b_SizeError_init := F_SizeError_init.binds (ps := ["self", "count"]) fun _ _ _ _ _ _ us hl => match us, hl with | [_, _], _ => rfl
  have F_NumberError_init := fun_mk (st := s_NumberError_init) l_NumberError_init c_NumberError_init k_NumberError_init
  have b_NumberError_init := F_NumberError_init.binds (ps := ["self", "number"]) fun _ _ _ _ _ _ us hl => match us, hl with | [_, _], _ => rfl
  have F_TwinError_init := fun_mk (st := s_TwinError_init) l_TwinError_init c_TwinError_init k_TwinError_init
  have b_TwinError_init := F_TwinError_init.binds (ps := ["self", "number"]) fun _ _ _ _ _ _ us hl => match us, hl with | [_, _], _ => rfl
  have F_NodeError_init := fun_mk (st := s_NodeError_init) l_NodeError_init c_NodeError_init k_NodeError_init
  have b_NodeError_init := F_NodeError_init.binds (ps := ["self", "node"]) fun _ _ _ _ _ _ us hl => match us, hl with | [_, _], _ => rfl
  have F_LegError_init := fun_mk (st := s_LegError_init) l_LegError_init c_LegError_init k_LegError_init
  have b_LegError_init := F_LegError_init.binds (ps := ["self", "leg"]) fun _ _ _ _ _ _ us hl => match us, hl with | [_, _], _ => rfl
  have F_PrimeError_init := fun_mk (st := s_PrimeError_init) l_PrimeError_init c_PrimeError_init k_PrimeError_init
  have b_PrimeError_init := F_PrimeError_init.binds (ps := ["self", "prime"]) fun _ _ _ _ _ _ us hl => match us, hl with | [_, _], _ => rfl
  have F_TextError_init := fun_mk (st := s_TextError_init) l_TextError_init c_TextError_init k_TextError_init
  have b_TextError_init := F_TextError_init.binds (ps := ["self", "line"]) fun _ _ _ _ _ _ us hl => match us, hl with | [_, _], _ => rfl
  have F_check_number := fun_mk (st := s_check_number) l_check_number c_check_number k_check_number
  have b_check_number := F_check_number.binds (ps := ["number", "low", "high"]) fun _ _ _ _ _ _ us hl => match us, hl with | [_, _, _], _ => rfl
  have F_is_odd_prime := fun_mk (st := s_is_odd_prime) l_is_odd_prime c_is_odd_prime k_is_odd_prime
  have b_is_odd_prime := F_is_odd_prime.binds (ps := ["number"]) fun _ _ _ _ _ _ us hl => match us, hl with | [_], _ => rfl
  have F_look_number := fun_mk (st := s_look_number) l_look_number c_look_number k_look_number
  have b_look_number := F_look_number.binds (ps := ["number", "low", "high"]) fun _ _ _ _ _ _ us hl => match us, hl with | [_, _, _], _ => rfl
  have F_look_list := fun_mk (st := s_look_list) l_look_list c_look_list k_look_list
  have b_look_list := F_look_list.binds (ps := ["items", "low", "high"]) fun _ _ _ _ _ _ us hl => match us, hl with | [_, _, _], _ => rfl
  have F_look_prime := fun_mk (st := s_look_prime) l_look_prime c_look_prime k_look_prime
  have b_look_prime := F_look_prime.binds (ps := ["prime"]) fun _ _ _ _ _ _ us hl => match us, hl with | [_], _ => rfl
  have F_look_residue := fun_mk (st := s_look_residue) l_look_residue c_look_residue k_look_residue
  have b_look_residue := F_look_residue.binds (ps := ["prime", "number"]) fun _ _ _ _ _ _ us hl => match us, hl with | [_, _], _ => rfl
  have F_look_residues := fun_mk (st := s_look_residues) l_look_residues c_look_residues k_look_residues
  have b_look_residues := F_look_residues.binds (ps := ["prime", "items", "count"]) fun _ _ _ _ _ _ us hl => match us, hl with | [_, _, _], _ => rfl
  have F_look_lot := fun_mk (st := s_look_lot) l_look_lot c_look_lot k_look_lot
  have b_look_lot := F_look_lot.binds (ps := ["count", "lot"]) fun _ _ _ _ _ _ us hl => match us, hl with | [_, _], _ => rfl
  have F_bits_of := fun_mk (st := s_bits_of) l_bits_of c_bits_of k_bits_of
  have b_bits_of := F_bits_of.binds (ps := ["lot"]) fun _ _ _ _ _ _ us hl => match us, hl with | [_], _ => rfl
  have F_exchange_ends := fun_mk (st := s_exchange_ends) l_exchange_ends c_exchange_ends k_exchange_ends
  have b_exchange_ends := F_exchange_ends.binds (ps := ["table", "first", "second", "end"]) fun _ _ _ _ _ _ us hl => match us, hl with | [_, _, _, _], _ => rfl
  have F_Table_init := fun_mk (st := s_Table_init) l_Table_init c_Table_init k_Table_init
  have b_Table_init := F_Table_init.binds (ps := ["self", "prime", "ends", "entries"]) fun _ _ _ _ _ _ us hl => match us, hl with | [_, _, _, _], _ => rfl
  have F_ulaw_draws := fun_mk (st := s_ulaw_draws) l_ulaw_draws c_ulaw_draws k_ulaw_draws
  have b_ulaw_draws := F_ulaw_draws.binds (ps := ["script", "count"]) fun _ _ _ _ _ _ us hl => match us, hl with | [_, _], _ => rfl
  have F_ulaw_next := fun_mk (st := s_ulaw_next) l_ulaw_next c_ulaw_next k_ulaw_next
  have b_ulaw_next := F_ulaw_next.binds (ps := ["dr", "at", "many"]) fun _ _ _ _ _ _ us hl => match us, hl with | [_, _, _], _ => rfl
  have F_ulaw_prime := fun_mk (st := s_ulaw_prime) l_ulaw_prime c_ulaw_prime k_ulaw_prime
  have b_ulaw_prime := F_ulaw_prime.binds (ps := ["dr", "at"]) fun _ _ _ _ _ _ us hl => match us, hl with | [_, _], _ => rfl
  have F_ulaw_residue := fun_mk (st := s_ulaw_residue) l_ulaw_residue c_ulaw_residue k_ulaw_residue
  have b_ulaw_residue := F_ulaw_residue.binds (ps := ["dr", "at", "p"]) fun _ _ _ _ _ _ us hl => match us, hl with | [_, _, _], _ => rfl
  have F_ulaw_pair_spot := fun_mk (st := s_ulaw_pair_spot) l_ulaw_pair_spot c_ulaw_pair_spot k_ulaw_pair_spot
  have b_ulaw_pair_spot := F_ulaw_pair_spot.binds (ps := ["n", "i", "j"]) fun _ _ _ _ _ _ us hl => match us, hl with | [_, _, _], _ => rfl
  have F_ulaw_roots := fun_mk (st := s_ulaw_roots) l_ulaw_roots c_ulaw_roots k_ulaw_roots
  have b_ulaw_roots := F_ulaw_roots.binds (ps := ["p", "n", "links"]) fun _ _ _ _ _ _ us hl => match us, hl with | [_, _, _], _ => rfl
  have F_ulaw_form_entries := fun_mk (st := s_ulaw_form_entries) l_ulaw_form_entries c_ulaw_form_entries k_ulaw_form_entries
  have b_ulaw_form_entries := F_ulaw_form_entries.binds (ps := ["p", "n", "home", "worth", "links"]) fun _ _ _ _ _ _ us hl => match us, hl with | [_, _, _, _, _], _ => rfl
  have F_ulaw_told := fun_mk (st := s_ulaw_told) l_ulaw_told c_ulaw_told k_ulaw_told
  have b_ulaw_told := F_ulaw_told.binds (ps := ["dr", "at", "p", "n"]) fun _ _ _ _ _ _ us hl => match us, hl with | [_, _, _, _], _ => rfl
  have F_ulaw_any_cells := fun_mk (st := s_ulaw_any_cells) l_ulaw_any_cells c_ulaw_any_cells k_ulaw_any_cells
  have b_ulaw_any_cells := F_ulaw_any_cells.binds (ps := ["dr", "at", "p", "n"]) fun _ _ _ _ _ _ us hl => match us, hl with | [_, _, _, _], _ => rfl
  have F_ulaw_whole := fun_mk (st := s_ulaw_whole) l_ulaw_whole c_ulaw_whole k_ulaw_whole
  have b_ulaw_whole := F_ulaw_whole.binds (ps := ["x"]) fun _ _ _ _ _ _ us hl => match us, hl with | [_], _ => rfl
  have F_ulaw_got := fun_mk (st := s_ulaw_got) l_ulaw_got c_ulaw_got k_ulaw_got
  have b_ulaw_got := F_ulaw_got.binds (ps := ["rows", "word", "number"]) fun _ _ _ _ _ _ us hl => match us, hl with | [_, _, _], _ => rfl
  have F_ulaw_same := fun_mk (st := s_ulaw_same) l_ulaw_same c_ulaw_same k_ulaw_same
  have b_ulaw_same := F_ulaw_same.binds (ps := ["thing", "p", "n", "cells"]) fun _ _ _ _ _ _ us hl => match us, hl with | [_, _, _, _], _ => rfl
  have F_ulaw_names := fun_mk (st := s_ulaw_names) l_ulaw_names c_ulaw_names k_ulaw_names
  have b_ulaw_names := F_ulaw_names.binds (ps := ["e"]) fun _ _ _ _ _ _ us hl => match us, hl with | [_], _ => rfl
  have F_ulaw_tried := fun_mk (st := s_ulaw_tried) l_ulaw_tried c_ulaw_tried k_ulaw_tried
  have b_ulaw_tried := F_ulaw_tried.binds (ps := ["sheet", "one", "two", "i"]) fun _ _ _ _ _ _ us hl => match us, hl with | [_, _, _, _], _ => rfl
  have F_ulaw_list_is := fun_mk (st := s_ulaw_list_is) l_ulaw_list_is c_ulaw_list_is k_ulaw_list_is
  have b_ulaw_list_is := F_ulaw_list_is.binds (ps := ["answer", "due"]) fun _ _ _ _ _ _ us hl => match us, hl with | [_, _], _ => rfl
  have F_ulaw_partners := fun_mk (st := s_ulaw_partners) l_ulaw_partners c_ulaw_partners k_ulaw_partners
  have b_ulaw_partners := F_ulaw_partners.binds (ps := ["n", "a", "one", "two", "i"]) fun _ _ _ _ _ _ us hl => match us, hl with | [_, _, _, _, _], _ => rfl
  have F_ulaw_pair_asked := fun_mk (st := s_ulaw_pair_asked) l_ulaw_pair_asked c_ulaw_pair_asked k_ulaw_pair_asked
  have b_ulaw_pair_asked := F_ulaw_pair_asked.binds (ps := ["p", "n", "a", "one", "two", "filled"]) fun _ _ _ _ _ _ us hl => match us, hl with | [_, _, _, _, _, _], _ => rfl
  have F_ulaw_refused := fun_mk (st := s_ulaw_refused) l_ulaw_refused c_ulaw_refused k_ulaw_refused
  have b_ulaw_refused := F_ulaw_refused.binds (ps := ["p", "n", "a", "odd"]) fun _ _ _ _ _ _ us hl => match us, hl with | [_, _, _, _], _ => rfl
  have F_law := fun_mk (st := s_law) l_law c_law k_law
  have b_law := F_law.binds (ps := ["script"]) fun _ _ _ _ _ _ us hl => match us, hl with | [_], _ => rfl
  have T : Txt K mg { a_SizeError_init := f_SizeError_init, fd_SizeError_init := PySem.W.fnOf "__init__" "SizeError.__init__" (defArgs s_SizeError_init) (defBody s_SizeError_init) (defScope s_SizeError_init) .none kV_SizeError_init dc_SizeError_init pm_SizeError_init an_SizeError_init cd_SizeError_init ct_SizeError_init, a_NumberError_init := f_NumberError_init, fd_NumberError_init := PySem.W.fnOf "__init__" "NumberError.__init__" (defArgs s_NumberError_init) (defBody s_NumberError_init) (defScope s_NumberError_init) .none kV_NumberError_init dc_NumberError_init pm_NumberError_init an_NumberError_init cd_NumberError_init ct_NumberError_init, a_TwinError_init := f_TwinError_init, fd_TwinError_init := PySem.W.fnOf "__init__" "TwinError.__init__" (defArgs s_TwinError_init) (defBody s_TwinError_init) (defScope s_TwinError_init) .none kV_TwinError_init dc_TwinError_init pm_TwinError_init an_TwinError_init cd_TwinError_init ct_TwinError_init, a_NodeError_init := f_NodeError_init, fd_NodeError_init := PySem.W.fnOf "__init__" "NodeError.__init__" (defArgs s_NodeError_init) (defBody s_NodeError_init) (defScope s_NodeError_init) .none kV_NodeError_init dc_NodeError_init pm_NodeError_init an_NodeError_init cd_NodeError_init ct_NodeError_init, a_LegError_init := f_LegError_init, fd_LegError_init := PySem.W.fnOf "__init__" "LegError.__init__" (defArgs s_LegError_init) (defBody s_LegError_init) (defScope s_LegError_init) .none kV_LegError_init dc_LegError_init pm_LegError_init an_LegError_init cd_LegError_init ct_LegError_init, a_PrimeError_init := f_PrimeError_init, fd_PrimeError_init := PySem.W.fnOf "__init__" "PrimeError.__init__" (defArgs s_PrimeError_init) (defBody s_PrimeError_init) (defScope s_PrimeError_init) .none kV_PrimeError_init dc_PrimeError_init pm_PrimeError_init an_PrimeError_init cd_PrimeError_init ct_PrimeError_init, a_TextError_init := f_TextError_init, fd_TextError_init := PySem.W.fnOf "__init__" "TextError.__init__" (defArgs s_TextError_init) (defBody s_TextError_init) (defScope s_TextError_init) .none kV_TextError_init dc_TextError_init pm_TextError_init an_TextError_init cd_TextError_init ct_TextError_init, a_check_number := f_check_number, fd_check_number := PySem.W.fnOf "check_number" "check_number" (defArgs s_check_number) (defBody s_check_number) (defScope s_check_number) .none kV_check_number dc_check_number pm_check_number an_check_number cd_check_number ct_check_number, a_is_odd_prime := f_is_odd_prime, fd_is_odd_prime := PySem.W.fnOf "is_odd_prime" "is_odd_prime" (defArgs s_is_odd_prime) (defBody s_is_odd_prime) (defScope s_is_odd_prime) .none kV_is_odd_prime dc_is_odd_prime pm_is_odd_prime an_is_odd_prime cd_is_odd_prime ct_is_odd_prime, a_look_number := f_look_number, fd_look_number := PySem.W.fnOf "look_number" "look_number" (defArgs s_look_number) (defBody s_look_number) (defScope s_look_number) .none kV_look_number dc_look_number pm_look_number an_look_number cd_look_number ct_look_number, a_look_list := f_look_list, fd_look_list := PySem.W.fnOf "look_list" "look_list" (defArgs s_look_list) (defBody s_look_list) (defScope s_look_list) .none kV_look_list dc_look_list pm_look_list an_look_list cd_look_list ct_look_list, a_look_prime := f_look_prime, fd_look_prime := PySem.W.fnOf "look_prime" "look_prime" (defArgs s_look_prime) (defBody s_look_prime) (defScope s_look_prime) .none kV_look_prime dc_look_prime pm_look_prime an_look_prime cd_look_prime ct_look_prime, a_look_residue := f_look_residue, fd_look_residue := PySem.W.fnOf "look_residue" "look_residue" (defArgs s_look_residue) (defBody s_look_residue) (defScope s_look_residue) .none kV_look_residue dc_look_residue pm_look_residue an_look_residue cd_look_residue ct_look_residue, a_look_residues := f_look_residues, fd_look_residues := PySem.W.fnOf "look_residues" "look_residues" (defArgs s_look_residues) (defBody s_look_residues) (defScope s_look_residues) .none kV_look_residues dc_look_residues pm_look_residues an_look_residues cd_look_residues ct_look_residues, a_look_lot := f_look_lot, fd_look_lot := PySem.W.fnOf "look_lot" "look_lot" (defArgs s_look_lot) (defBody s_look_lot) (defScope s_look_lot) .none kV_look_lot dc_look_lot pm_look_lot an_look_lot cd_look_lot ct_look_lot, a_bits_of := f_bits_of, fd_bits_of := PySem.W.fnOf "bits_of" "bits_of" (defArgs s_bits_of) (defBody s_bits_of) (defScope s_bits_of) .none kV_bits_of dc_bits_of pm_bits_of an_bits_of cd_bits_of ct_bits_of, a_exchange_ends := f_exchange_ends, fd_exchange_ends := PySem.W.fnOf "exchange_ends" "exchange_ends" (defArgs s_exchange_ends) (defBody s_exchange_ends) (defScope s_exchange_ends) .none kV_exchange_ends dc_exchange_ends pm_exchange_ends an_exchange_ends cd_exchange_ends ct_exchange_ends, a_Table_init := f_Table_init, fd_Table_init := PySem.W.fnOf "__init__" "Table.__init__" (defArgs s_Table_init) (defBody s_Table_init) (defScope s_Table_init) .none kV_Table_init dc_Table_init pm_Table_init an_Table_init cd_Table_init ct_Table_init, a_ulaw_draws := f_ulaw_draws, fd_ulaw_draws := PySem.W.fnOf "_law_draws" "_law_draws" (defArgs s_ulaw_draws) (defBody s_ulaw_draws) (defScope s_ulaw_draws) .none kV_ulaw_draws dc_ulaw_draws pm_ulaw_draws an_ulaw_draws cd_ulaw_draws ct_ulaw_draws, a_ulaw_next := f_ulaw_next, fd_ulaw_next := PySem.W.fnOf "_law_next" "_law_next" (defArgs s_ulaw_next) (defBody s_ulaw_next) (defScope s_ulaw_next) .none kV_ulaw_next dc_ulaw_next pm_ulaw_next an_ulaw_next cd_ulaw_next ct_ulaw_next, a_ulaw_prime := f_ulaw_prime, fd_ulaw_prime := PySem.W.fnOf "_law_prime" "_law_prime" (defArgs s_ulaw_prime) (defBody s_ulaw_prime) (defScope s_ulaw_prime) .none kV_ulaw_prime dc_ulaw_prime pm_ulaw_prime an_ulaw_prime cd_ulaw_prime ct_ulaw_prime, a_ulaw_residue := f_ulaw_residue, fd_ulaw_residue := PySem.W.fnOf "_law_residue" "_law_residue" (defArgs s_ulaw_residue) (defBody s_ulaw_residue) (defScope s_ulaw_residue) .none kV_ulaw_residue dc_ulaw_residue pm_ulaw_residue an_ulaw_residue cd_ulaw_residue ct_ulaw_residue, a_ulaw_pair_spot := f_ulaw_pair_spot, fd_ulaw_pair_spot := PySem.W.fnOf "_law_pair_spot" "_law_pair_spot" (defArgs s_ulaw_pair_spot) (defBody s_ulaw_pair_spot) (defScope s_ulaw_pair_spot) .none kV_ulaw_pair_spot dc_ulaw_pair_spot pm_ulaw_pair_spot an_ulaw_pair_spot cd_ulaw_pair_spot ct_ulaw_pair_spot, a_ulaw_roots := f_ulaw_roots, fd_ulaw_roots := PySem.W.fnOf "_law_roots" "_law_roots" (defArgs s_ulaw_roots) (defBody s_ulaw_roots) (defScope s_ulaw_roots) .none kV_ulaw_roots dc_ulaw_roots pm_ulaw_roots an_ulaw_roots cd_ulaw_roots ct_ulaw_roots, a_ulaw_form_entries := f_ulaw_form_entries, fd_ulaw_form_entries := PySem.W.fnOf "_law_form_entries" "_law_form_entries" (defArgs s_ulaw_form_entries) (defBody s_ulaw_form_entries) (defScope s_ulaw_form_entries) .none kV_ulaw_form_entries dc_ulaw_form_entries pm_ulaw_form_entries an_ulaw_form_entries cd_ulaw_form_entries ct_ulaw_form_entries, a_ulaw_told := f_ulaw_told, fd_ulaw_told := PySem.W.fnOf "_law_told" "_law_told" (defArgs s_ulaw_told) (defBody s_ulaw_told) (defScope s_ulaw_told) .none kV_ulaw_told dc_ulaw_told pm_ulaw_told an_ulaw_told cd_ulaw_told ct_ulaw_told, a_ulaw_any_cells := f_ulaw_any_cells, fd_ulaw_any_cells := PySem.W.fnOf "_law_any_cells" "_law_any_cells" (defArgs s_ulaw_any_cells) (defBody s_ulaw_any_cells) (defScope s_ulaw_any_cells) .none kV_ulaw_any_cells dc_ulaw_any_cells pm_ulaw_any_cells an_ulaw_any_cells cd_ulaw_any_cells ct_ulaw_any_cells, a_ulaw_whole := f_ulaw_whole, fd_ulaw_whole := PySem.W.fnOf "_law_whole" "_law_whole" (defArgs s_ulaw_whole) (defBody s_ulaw_whole) (defScope s_ulaw_whole) .none kV_ulaw_whole dc_ulaw_whole pm_ulaw_whole an_ulaw_whole cd_ulaw_whole ct_ulaw_whole, a_ulaw_got := f_ulaw_got, fd_ulaw_got := PySem.W.fnOf "_law_got" "_law_got" (defArgs s_ulaw_got) (defBody s_ulaw_got) (defScope s_ulaw_got) .none kV_ulaw_got dc_ulaw_got pm_ulaw_got an_ulaw_got cd_ulaw_got ct_ulaw_got, a_ulaw_same := f_ulaw_same, fd_ulaw_same := PySem.W.fnOf "_law_same" "_law_same" (defArgs s_ulaw_same) (defBody s_ulaw_same) (defScope s_ulaw_same) .none kV_ulaw_same dc_ulaw_same pm_ulaw_same an_ulaw_same cd_ulaw_same ct_ulaw_same, a_ulaw_names := f_ulaw_names, fd_ulaw_names := PySem.W.fnOf "_law_names" "_law_names" (defArgs s_ulaw_names) (defBody s_ulaw_names) (defScope s_ulaw_names) .none kV_ulaw_names dc_ulaw_names pm_ulaw_names an_ulaw_names cd_ulaw_names ct_ulaw_names, a_ulaw_tried := f_ulaw_tried, fd_ulaw_tried := PySem.W.fnOf "_law_tried" "_law_tried" (defArgs s_ulaw_tried) (defBody s_ulaw_tried) (defScope s_ulaw_tried) .none kV_ulaw_tried dc_ulaw_tried pm_ulaw_tried an_ulaw_tried cd_ulaw_tried ct_ulaw_tried, a_ulaw_list_is := f_ulaw_list_is, fd_ulaw_list_is := PySem.W.fnOf "_law_list_is" "_law_list_is" (defArgs s_ulaw_list_is) (defBody s_ulaw_list_is) (defScope s_ulaw_list_is) .none kV_ulaw_list_is dc_ulaw_list_is pm_ulaw_list_is an_ulaw_list_is cd_ulaw_list_is ct_ulaw_list_is, a_ulaw_partners := f_ulaw_partners, fd_ulaw_partners := PySem.W.fnOf "_law_partners" "_law_partners" (defArgs s_ulaw_partners) (defBody s_ulaw_partners) (defScope s_ulaw_partners) .none kV_ulaw_partners dc_ulaw_partners pm_ulaw_partners an_ulaw_partners cd_ulaw_partners ct_ulaw_partners, a_ulaw_pair_asked := f_ulaw_pair_asked, fd_ulaw_pair_asked := PySem.W.fnOf "_law_pair_asked" "_law_pair_asked" (defArgs s_ulaw_pair_asked) (defBody s_ulaw_pair_asked) (defScope s_ulaw_pair_asked) .none kV_ulaw_pair_asked dc_ulaw_pair_asked pm_ulaw_pair_asked an_ulaw_pair_asked cd_ulaw_pair_asked ct_ulaw_pair_asked, a_ulaw_refused := f_ulaw_refused, fd_ulaw_refused := PySem.W.fnOf "_law_refused" "_law_refused" (defArgs s_ulaw_refused) (defBody s_ulaw_refused) (defScope s_ulaw_refused) .none kV_ulaw_refused dc_ulaw_refused pm_ulaw_refused an_ulaw_refused cd_ulaw_refused ct_ulaw_refused, a_law := f_law, fd_law := PySem.W.fnOf "law" "law" (defArgs s_law) (defBody s_law) (defScope s_law) .none kV_law dc_law pm_law an_law cd_law ct_law, c_EndsError := C_EndsError, c_SizeError := C_SizeError, c_NumberError := C_NumberError, c_TwinError := C_TwinError, c_NodeError := C_NodeError, c_LegError := C_LegError, c_PrimeError := C_PrimeError, c_TextError := C_TextError, c_Table := C_Table, k_MOST := k_MOST, k_MOST_ENDS := k_MOST_ENDS } :=
    { F_SizeError_init := F_SizeError_init,
      b_SizeError_init := b_SizeError_init,
      F_NumberError_init := F_NumberError_init,
      b_NumberError_init := b_NumberError_init,
      F_TwinError_init := F_TwinError_init,
      b_TwinError_init := b_TwinError_init,
      F_NodeError_init := F_NodeError_init,
      b_NodeError_init := b_NodeError_init,
      F_LegError_init := F_LegError_init,
      b_LegError_init := b_LegError_init,
      F_PrimeError_init := F_PrimeError_init,
      b_PrimeError_init := b_PrimeError_init,
      F_TextError_init := F_TextError_init,
      b_TextError_init := b_TextError_init,
      g_check_number := PySem.W.mg_of X G a_check_number,
      F_check_number := F_check_number,
      b_check_number := b_check_number,
      g_is_odd_prime := PySem.W.mg_of X G a_is_odd_prime,
      F_is_odd_prime := F_is_odd_prime,
      b_is_odd_prime := b_is_odd_prime,
      g_look_number := PySem.W.mg_of X G a_look_number,
      F_look_number := F_look_number,
      b_look_number := b_look_number,
      g_look_list := PySem.W.mg_of X G a_look_list,
      F_look_list := F_look_list,
      b_look_list := b_look_list,
      g_look_prime := PySem.W.mg_of X G a_look_prime,
      F_look_prime := F_look_prime,
      b_look_prime := b_look_prime,
      g_look_residue := PySem.W.mg_of X G a_look_residue,
      F_look_residue := F_look_residue,
      b_look_residue := b_look_residue,
      g_look_residues := PySem.W.mg_of X G a_look_residues,
      F_look_residues := F_look_residues,
      b_look_residues := b_look_residues,
      g_look_lot := PySem.W.mg_of X G a_look_lot,
      F_look_lot := F_look_lot,
      b_look_lot := b_look_lot,
      g_bits_of := PySem.W.mg_of X G a_bits_of,
      F_bits_of := F_bits_of,
      b_bits_of := b_bits_of,
      g_exchange_ends := PySem.W.mg_of X G a_exchange_ends,
      F_exchange_ends := F_exchange_ends,
      b_exchange_ends := b_exchange_ends,
      F_Table_init := F_Table_init,
      b_Table_init := b_Table_init,
      g_ulaw_draws := PySem.W.mg_of X G a_ulaw_draws,
      F_ulaw_draws := F_ulaw_draws,
      b_ulaw_draws := b_ulaw_draws,
      g_ulaw_next := PySem.W.mg_of X G a_ulaw_next,
      F_ulaw_next := F_ulaw_next,
      b_ulaw_next := b_ulaw_next,
      g_ulaw_prime := PySem.W.mg_of X G a_ulaw_prime,
      F_ulaw_prime := F_ulaw_prime,
      b_ulaw_prime := b_ulaw_prime,
      g_ulaw_residue := PySem.W.mg_of X G a_ulaw_residue,
      F_ulaw_residue := F_ulaw_residue,
      b_ulaw_residue := b_ulaw_residue,
      g_ulaw_pair_spot := PySem.W.mg_of X G a_ulaw_pair_spot,
      F_ulaw_pair_spot := F_ulaw_pair_spot,
      b_ulaw_pair_spot := b_ulaw_pair_spot,
      g_ulaw_roots := PySem.W.mg_of X G a_ulaw_roots,
      F_ulaw_roots := F_ulaw_roots,
      b_ulaw_roots := b_ulaw_roots,
      g_ulaw_form_entries := PySem.W.mg_of X G a_ulaw_form_entries,
      F_ulaw_form_entries := F_ulaw_form_entries,
      b_ulaw_form_entries := b_ulaw_form_entries,
      g_ulaw_told := PySem.W.mg_of X G a_ulaw_told,
      F_ulaw_told := F_ulaw_told,
      b_ulaw_told := b_ulaw_told,
      g_ulaw_any_cells := PySem.W.mg_of X G a_ulaw_any_cells,
      F_ulaw_any_cells := F_ulaw_any_cells,
      b_ulaw_any_cells := b_ulaw_any_cells,
      g_ulaw_whole := PySem.W.mg_of X G a_ulaw_whole,
      F_ulaw_whole := F_ulaw_whole,
      b_ulaw_whole := b_ulaw_whole,
      g_ulaw_got := PySem.W.mg_of X G a_ulaw_got,
      F_ulaw_got := F_ulaw_got,
      b_ulaw_got := b_ulaw_got,
      g_ulaw_same := PySem.W.mg_of X G a_ulaw_same,
      F_ulaw_same := F_ulaw_same,
      b_ulaw_same := b_ulaw_same,
      g_ulaw_names := PySem.W.mg_of X G a_ulaw_names,
      F_ulaw_names := F_ulaw_names,
      b_ulaw_names := b_ulaw_names,
      g_ulaw_tried := PySem.W.mg_of X G a_ulaw_tried,
      F_ulaw_tried := F_ulaw_tried,
      b_ulaw_tried := b_ulaw_tried,
      g_ulaw_list_is := PySem.W.mg_of X G a_ulaw_list_is,
      F_ulaw_list_is := F_ulaw_list_is,
      b_ulaw_list_is := b_ulaw_list_is,
      g_ulaw_partners := PySem.W.mg_of X G a_ulaw_partners,
      F_ulaw_partners := F_ulaw_partners,
      b_ulaw_partners := b_ulaw_partners,
      g_ulaw_pair_asked := PySem.W.mg_of X G a_ulaw_pair_asked,
      F_ulaw_pair_asked := F_ulaw_pair_asked,
      b_ulaw_pair_asked := b_ulaw_pair_asked,
      g_ulaw_refused := PySem.W.mg_of X G a_ulaw_refused,
      F_ulaw_refused := F_ulaw_refused,
      b_ulaw_refused := b_ulaw_refused,
      g_law := PySem.W.mg_of X G a_law,
      F_law := F_law,
      b_law := b_law,
      g_EndsError := PySem.W.mg_of X G a_EndsError,
      X_EndsError := ⟨hc_EndsError, hg_EndsError, hk_EndsError, hs_EndsError, hd_EndsError, ha_EndsError, hnD, htD, hm_EndsError⟩,
      x_EndsError := ⟨ex_EndsError, kc_EndsError, hs_EndsError, ty_EndsError⟩,
      g_SizeError := PySem.W.mg_of X G a_SizeError,
      X_SizeError := ⟨hc_SizeError, hg_SizeError, hk_SizeError, hs_SizeError, hd_SizeError, ha_SizeError, hnD, htD, hm_SizeError⟩,
      x_SizeError := ⟨⟨_, _, _, _, _, _, _, _, _, _, _, _, _, _, _, xl_SizeError, xr_SizeError⟩, sa_SizeError, hs_SizeError, ty_SizeError, kc_SizeError⟩,
      xi_SizeError := i_SizeError,
      xt_SizeError := t_SizeError_init,
      xn_SizeError_count := xn_SizeError_count,
      g_NumberError := PySem.W.mg_of X G a_NumberError,
      X_NumberError := ⟨hc_NumberError, hg_NumberError, hk_NumberError, hs_NumberError, hd_NumberError, ha_NumberError, hnD, htD, hm_NumberError⟩,
      x_NumberError := ⟨⟨_, _, _, _, _, _, _, _, _, _, _, _, _, _, _, xl_NumberError, xr_NumberError⟩, sa_NumberError, hs_NumberError, ty_NumberError, kc_NumberError⟩,
      xi_NumberError := i_NumberError,
      xt_NumberError := t_NumberError_init,
      xn_NumberError_number := xn_NumberError_number,
      g_TwinError := PySem.W.mg_of X G a_TwinError,
      X_TwinError := ⟨hc_TwinError, hg_TwinError, hk_TwinError, hs_TwinError, hd_TwinError, ha_TwinError, hnD, htD, hm_TwinError⟩,
      x_TwinError := ⟨⟨_, _, _, _, _, _, _, _, _, _, _, _, _, _, _, xl_TwinError, xr_TwinError⟩, sa_TwinError, hs_TwinError, ty_TwinError, kc_TwinError⟩,
      xi_TwinError := i_TwinError,
      xt_TwinError := t_TwinError_init,
      xn_TwinError_number := xn_TwinError_number,
      g_NodeError := PySem.W.mg_of X G a_NodeError,
      X_NodeError := ⟨hc_NodeError, hg_NodeError, hk_NodeError, hs_NodeError, hd_NodeError, ha_NodeError, hnD, htD, hm_NodeError⟩,
      x_NodeError := ⟨⟨_, _, _, _, _, _, _, _, _, _, _, _, _, _, _, xl_NodeError, xr_NodeError⟩, sa_NodeError, hs_NodeError, ty_NodeError, kc_NodeError⟩,
      xi_NodeError := i_NodeError,
      xt_NodeError := t_NodeError_init,
      xn_NodeError_node := xn_NodeError_node,
      g_LegError := PySem.W.mg_of X G a_LegError,
      X_LegError := ⟨hc_LegError, hg_LegError, hk_LegError, hs_LegError, hd_LegError, ha_LegError, hnD, htD, hm_LegError⟩,
      x_LegError := ⟨⟨_, _, _, _, _, _, _, _, _, _, _, _, _, _, _, xl_LegError, xr_LegError⟩, sa_LegError, hs_LegError, ty_LegError, kc_LegError⟩,
      xi_LegError := i_LegError,
      xt_LegError := t_LegError_init,
      xn_LegError_leg := xn_LegError_leg,
      g_PrimeError := PySem.W.mg_of X G a_PrimeError,
      X_PrimeError := ⟨hc_PrimeError, hg_PrimeError, hk_PrimeError, hs_PrimeError, hd_PrimeError, ha_PrimeError, hnD, htD, hm_PrimeError⟩,
      x_PrimeError := ⟨⟨_, _, _, _, _, _, _, _, _, _, _, _, _, _, _, xl_PrimeError, xr_PrimeError⟩, sa_PrimeError, hs_PrimeError, ty_PrimeError, kc_PrimeError⟩,
      xi_PrimeError := i_PrimeError,
      xt_PrimeError := t_PrimeError_init,
      xn_PrimeError_prime := xn_PrimeError_prime,
      g_TextError := PySem.W.mg_of X G a_TextError,
      X_TextError := ⟨hc_TextError, hg_TextError, hk_TextError, hs_TextError, hd_TextError, ha_TextError, hnD, htD, hm_TextError⟩,
      x_TextError := ⟨⟨_, _, _, _, _, _, _, _, _, _, _, _, _, _, _, xl_TextError, xr_TextError⟩, sa_TextError, hs_TextError, ty_TextError, kc_TextError⟩,
      xi_TextError := i_TextError,
      xt_TextError := t_TextError_init,
      xn_TextError_line := xn_TextError_line,
      g_Table := PySem.W.mg_of X G a_Table,
      own_Table := ⟨⟨pg_Table, hd_Table, po_Table, sa_Table⟩, ha_Table, hnD, htD, hm_Table, ks_Table⟩,
      mk_Table := ⟨mk_Table, m_Table_init, fn_Table_init, kc_Table⟩,
      na_Table_prime := na_Table_prime,
      na_Table_ends := na_Table_ends,
      na_Table_entries := na_Table_entries,
      g_MOST := PySem.W.mg_of X G a_MOST,
      g_MOST_ENDS := PySem.W.mg_of X G a_MOST_ENDS,
      n_ValueError := PySem.W.mg_none_of X G z_ValueError,
      n_all := PySem.W.mg_none_of X G z_all,
      n_bool := PySem.W.mg_none_of X G z_bool,
      n_int := PySem.W.mg_none_of X G z_int,
      n_isinstance := PySem.W.mg_none_of X G z_isinstance,
      n_len := PySem.W.mg_none_of X G z_len,
      n_list := PySem.W.mg_none_of X G z_list,
      n_max := PySem.W.mg_none_of X G z_max,
      n_min := PySem.W.mg_none_of X G z_min,
      n_range := PySem.W.mg_none_of X G z_range,
      n_sum := PySem.W.mg_none_of X G z_sum,
      n_tuple := PySem.W.mg_none_of X G z_tuple,
      kt_NumberError_NumberError := kt_NumberError_NumberError,
      kt_NumberError_SizeError := kt_NumberError_SizeError,
      kt_NumberError_PrimeError := kt_NumberError_PrimeError,
      kt_NumberError_TwinError := kt_NumberError_TwinError,
      kt_NumberError_LegError := kt_NumberError_LegError,
      kt_NumberError_NodeError := kt_NumberError_NodeError,
      kt_NumberError_ValueError := kt_NumberError_ValueError,
      em_EndsError_EndsError := PySem.W.exm_ref hs_EndsError hd_EndsError ty_EndsError su_EndsError_EndsError,
      em_SizeError_EndsError := PySem.W.exm_ref hs_EndsError hd_EndsError ty_EndsError su_SizeError_EndsError,
      em_NumberError_EndsError := PySem.W.exm_ref hs_EndsError hd_EndsError ty_EndsError su_NumberError_EndsError,
      em_TwinError_EndsError := PySem.W.exm_ref hs_EndsError hd_EndsError ty_EndsError su_TwinError_EndsError,
      em_NodeError_EndsError := PySem.W.exm_ref hs_EndsError hd_EndsError ty_EndsError su_NodeError_EndsError,
      em_LegError_EndsError := PySem.W.exm_ref hs_EndsError hd_EndsError ty_EndsError su_LegError_EndsError,
      em_PrimeError_EndsError := PySem.W.exm_ref hs_EndsError hd_EndsError ty_EndsError su_PrimeError_EndsError,
      em_TextError_EndsError := PySem.W.exm_ref hs_EndsError hd_EndsError ty_EndsError su_TextError_EndsError,
      kb_exchange_ends_0_table_first_second_end := kbind_exchange_ends_0_table_first_second_end F_exchange_ends }
  exact ⟨_, fun s v => .of_eq rfl, fun base _ _ => law_ok T⟩
theorem walk {l : PySem.W.OpenLaw} {q : Program} {loose : List Str} {XP : (Str → Option Value) → Heap → Prop} {YP : World → Heap → Prop} {d : DefRec} {K : Params → PySem.W.Frag} (hn : l.most = some 63) (hdf : d.params.defaults = [])
    (hY : ∀ (w : World) (h : Heap), YP w h → (K w.params).In h)
    (F : ∀ (w : World) (mg : Str → Option Value) (fa : Addr) (h : Heap), (K w.params).In h → h.Ns mainGlobals mg → mg d.name = some (.ref fa) → ∃ fd : FuncData, (∀ (s : Shared) (u : Value), BindsTo s fd ⟨[u], []⟩ [("script", u)]) ∧
      ∀ base : Heap, (K w.params).In base → base.Ns mainGlobals mg → FnOk l.prog w (K w.params) mg base (L2.CX l.prog w) 9 fa fd ["script"] (spLaw (K w.params))) :
    PySem.W.WalkO q loose XP YP l.row.toRowW d [] (fun f vs => PySem.call f vs) :=
  L2.walk_of (n := 63) (k := 9) (x := "script") (CX := fun w => L2.CX l.prog w) (sp := fun w => spLaw (K w.params)) hn (by decide) hdf ⟨rfl, by decide, by decide⟩ hY F (fun _ _ a ns hl _ hS => ⟨a, ns, rfl, hS, hl, fun _ => rfl⟩) noX
end Lw
set_option pp.maxSteps 300 in
open PySem PySem.W PyProof.Rows in
set_option maxRecDepth 100000 in
set_option maxHeartbeats 0 in
theorem PySem.Challenge.cw_endsflat_k31_exchange_ends_holds : PySem.Challenge.rw_endsflat_k31_exchange_ends.Holds := by
  w_on; o_law; k_head; (case hw => w_witness2)
  k_fill
  refine Lw.walk (l := PySem.Challenge.rw_endsflat_k31_exchange_ends) rfl rfl (fun w h Y => PySem.W.kIn_of Y) ?F
  case F =>
    intro w mg fa h KX G hmg
    refine' Lw.all_mk KX G hmg ?a_EndsError ?hc_EndsError ?hg_EndsError ?hk_EndsError ?hs_EndsError ?hd_EndsError ?ha_EndsError ?hm_EndsError ?ty_EndsError ?kc_EndsError ?ex_EndsError ?a_SizeError ?hc_SizeError ?hg_SizeError ?hk_SizeError ?hs_SizeError ?hd_SizeError ?ha_SizeError ?hm_SizeError ?ty_SizeError ?kc_SizeError ?i_SizeError ?xl_SizeError ?xr_SizeError ?sa_SizeError ?xn_SizeError_count ?a_NumberError ?hc_NumberError ?hg_NumberError ?hk_NumberError ?hs_NumberError ?hd_NumberError ?ha_NumberError ?hm_NumberError ?ty_NumberError ?kc_NumberError ?i_NumberError ?xl_NumberError ?xr_NumberError ?sa_NumberError ?xn_NumberError_number ?a_TwinError ?hc_TwinError ?hg_TwinError ?hk_TwinError ?hs_TwinError ?hd_TwinError ?ha_TwinError ?hm_TwinError ?ty_TwinError ?kc_TwinError ?i_TwinError ?xl_TwinError ?xr_TwinError ?sa_TwinError ?xn_TwinError_number ?a_NodeError ?hc_NodeError ?hg_NodeError ?hk_NodeError ?hs_NodeError ?hd_NodeError ?ha_NodeError ?hm_NodeError ?ty_NodeError ?kc_NodeError ?i_NodeError ?xl_NodeError ?xr_NodeError ?sa_NodeError ?xn_NodeError_node ?a_LegError ?hc_LegError ?hg_LegError ?hk_LegError ?hs_LegError ?hd_LegError ?ha_LegError ?hm_LegError ?ty_LegError ?kc_LegError ?i_LegError ?xl_LegError ?xr_LegError ?sa_LegError ?xn_LegError_leg ?a_PrimeError ?hc_PrimeError ?hg_PrimeError ?hk_PrimeError ?hs_PrimeError ?hd_PrimeError ?ha_PrimeError ?hm_PrimeError ?ty_PrimeError ?kc_PrimeError ?i_PrimeError ?xl_PrimeError ?xr_PrimeError ?sa_PrimeError ?xn_PrimeError_prime ?a_TextError ?hc_TextError ?hg_TextError ?hk_TextError ?hs_TextError ?hd_TextError ?ha_TextError ?hm_TextError ?ty_TextError ?kc_TextError ?i_TextError ?xl_TextError ?xr_TextError ?sa_TextError ?xn_TextError_line ?a_Table ?pg_Table ?hd_Table ?po_Table ?sa_Table ?mk_Table ?kc_Table ?ha_Table ?hm_Table ?ks_Table ?na_Table_prime ?na_Table_ends ?na_Table_entries ?m_Table_init ?fn_Table_init ?hnD ?htD ?l_SizeError_init ?c_SizeError_init ?k_SizeError_init ?t_SizeError_init ?l_NumberError_init ?c_NumberError_init ?k_NumberError_init ?t_NumberError_init ?l_TwinError_init ?c_TwinError_init ?k_TwinError_init ?t_TwinError_init ?l_NodeError_init ?c_NodeError_init ?k_NodeError_init ?t_NodeError_init ?l_LegError_init ?c_LegError_init ?k_LegError_init ?t_LegError_init ?l_PrimeError_init ?c_PrimeError_init ?k_PrimeError_init ?t_PrimeError_init ?l_TextError_init ?c_TextError_init ?k_TextError_init ?t_TextError_init ?a_check_number ?l_check_number ?c_check_number ?k_check_number ?a_is_odd_prime ?l_is_odd_prime ?c_is_odd_prime ?k_is_odd_prime ?a_look_number ?l_look_number ?c_look_number ?k_look_number ?a_look_list ?l_look_list ?c_look_list ?k_look_list ?a_look_prime ?l_look_prime ?c_look_prime ?k_look_prime ?a_look_residue ?l_look_residue ?c_look_residue ?k_look_residue ?a_look_residues ?l_look_residues ?c_look_residues ?k_look_residues ?a_look_lot ?l_look_lot ?c_look_lot ?k_look_lot ?a_bits_of ?l_bits_of ?c_bits_of ?k_bits_of ?a_exchange_ends ?l_exchange_ends ?c_exchange_ends ?k_exchange_ends ?l_Table_init ?c_Table_init ?k_Table_init ?a_ulaw_draws ?l_ulaw_draws ?c_ulaw_draws ?k_ulaw_draws ?a_ulaw_next ?l_ulaw_next ?c_ulaw_next ?k_ulaw_next ?a_ulaw_prime ?l_ulaw_prime ?c_ulaw_prime ?k_ulaw_prime ?a_ulaw_residue ?l_ulaw_residue ?c_ulaw_residue ?k_ulaw_residue ?a_ulaw_pair_spot ?l_ulaw_pair_spot ?c_ulaw_pair_spot ?k_ulaw_pair_spot ?a_ulaw_roots ?l_ulaw_roots ?c_ulaw_roots ?k_ulaw_roots ?a_ulaw_form_entries ?l_ulaw_form_entries ?c_ulaw_form_entries ?k_ulaw_form_entries ?a_ulaw_told ?l_ulaw_told ?c_ulaw_told ?k_ulaw_told ?a_ulaw_any_cells ?l_ulaw_any_cells ?c_ulaw_any_cells ?k_ulaw_any_cells ?a_ulaw_whole ?l_ulaw_whole ?c_ulaw_whole ?k_ulaw_whole ?a_ulaw_got ?l_ulaw_got ?c_ulaw_got ?k_ulaw_got ?a_ulaw_same ?l_ulaw_same ?c_ulaw_same ?k_ulaw_same ?a_ulaw_names ?l_ulaw_names ?c_ulaw_names ?k_ulaw_names ?a_ulaw_tried ?l_ulaw_tried ?c_ulaw_tried ?k_ulaw_tried ?a_ulaw_list_is ?l_ulaw_list_is ?c_ulaw_list_is ?k_ulaw_list_is ?a_ulaw_partners ?l_ulaw_partners ?c_ulaw_partners ?k_ulaw_partners ?a_ulaw_pair_asked ?l_ulaw_pair_asked ?c_ulaw_pair_asked ?k_ulaw_pair_asked ?a_ulaw_refused ?l_ulaw_refused ?c_ulaw_refused ?k_ulaw_refused ?a_law ?l_law ?c_law ?k_law ?a_MOST ?a_MOST_ENDS ?z_ValueError ?z_all ?z_bool ?z_int ?z_isinstance ?z_len ?z_list ?z_max ?z_min ?z_range ?z_sum ?z_tuple ?kt_NumberError_NumberError ?kt_NumberError_SizeError ?kt_NumberError_PrimeError ?kt_NumberError_TwinError ?kt_NumberError_LegError ?kt_NumberError_NodeError ?kt_NumberError_ValueError ?su_EndsError_EndsError ?su_SizeError_EndsError ?su_NumberError_EndsError ?su_TwinError_EndsError ?su_NodeError_EndsError ?su_LegError_EndsError ?su_PrimeError_EndsError ?su_TextError_EndsError
    (case a_EndsError => k_is)
    (case hc_EndsError => k_is)
    (case hg_EndsError => k_is)
    (case hk_EndsError => k_is)
    (case hs_EndsError => k_is)
    (case hd_EndsError => k_is)
    (case ha_EndsError => k_is)
    (case hm_EndsError => k_is)
    (case ty_EndsError => k_is)
    (case kc_EndsError => k_is)
    (case ex_EndsError => k_exc)
    (case a_SizeError => k_is)
    (case hc_SizeError => k_is)
    (case hg_SizeError => k_is)
    (case hk_SizeError => k_is)
    (case hs_SizeError => k_is)
    (case hd_SizeError => k_is)
    (case ha_SizeError => k_is)
    (case hm_SizeError => k_is)
    (case ty_SizeError => k_is)
    (case kc_SizeError => k_is)
    (case i_SizeError => k_is)
    (case xl_SizeError => k_is)
    (case xr_SizeError => decide +kernel)
    (case sa_SizeError => k_is)
    (case xn_SizeError_count => k_is)
    (case a_NumberError => k_is)
    (case hc_NumberError => k_is)
    (case hg_NumberError => k_is)
    (case hk_NumberError => k_is)
    (case hs_NumberError => k_is)
    (case hd_NumberError => k_is)
    (case ha_NumberError => k_is)
    (case hm_NumberError => k_is)
    (case ty_NumberError => k_is)
    (case kc_NumberError => k_is)
    (case i_NumberError => k_is)
    (case xl_NumberError => k_is)
    (case xr_NumberError => decide +kernel)
    (case sa_NumberError => k_is)
    (case xn_NumberError_number => k_is)
    (case a_TwinError => k_is)
    (case hc_TwinError => k_is)
    (case hg_TwinError => k_is)
    (case hk_TwinError => k_is)
    (case hs_TwinError => k_is)
    (case hd_TwinError => k_is)
    (case ha_TwinError => k_is)
    (case hm_TwinError => k_is)
    (case ty_TwinError => k_is)
    (case kc_TwinError => k_is)
    (case i_TwinError => k_is)
    (case xl_TwinError => k_is)
    (case xr_TwinError => decide +kernel)
    (case sa_TwinError => k_is)
    (case xn_TwinError_number => k_is)
    (case a_NodeError => k_is)
    (case hc_NodeError => k_is)
    (case hg_NodeError => k_is)
    (case hk_NodeError => k_is)
    (case hs_NodeError => k_is)
    (case hd_NodeError => k_is)
    (case ha_NodeError => k_is)
    (case hm_NodeError => k_is)
    (case ty_NodeError => k_is)
    (case kc_NodeError => k_is)
    (case i_NodeError => k_is)
    (case xl_NodeError => k_is)
    (case xr_NodeError => decide +kernel)
    (case sa_NodeError => k_is)
    (case xn_NodeError_node => k_is)
    (case a_LegError => k_is)
    (case hc_LegError => k_is)
    (case hg_LegError => k_is)
    (case hk_LegError => k_is)
    (case hs_LegError => k_is)
    (case hd_LegError => k_is)
    (case ha_LegError => k_is)
    (case hm_LegError => k_is)
    (case ty_LegError => k_is)
    (case kc_LegError => k_is)
    (case i_LegError => k_is)
    (case xl_LegError => k_is)
    (case xr_LegError => decide +kernel)
    (case sa_LegError => k_is)
    (case xn_LegError_leg => k_is)
    (case a_PrimeError => k_is)
    (case hc_PrimeError => k_is)
    (case hg_PrimeError => k_is)
    (case hk_PrimeError => k_is)
    (case hs_PrimeError => k_is)
    (case hd_PrimeError => k_is)
    (case ha_PrimeError => k_is)
    (case hm_PrimeError => k_is)
    (case ty_PrimeError => k_is)
    (case kc_PrimeError => k_is)
    (case i_PrimeError => k_is)
    (case xl_PrimeError => k_is)
    (case xr_PrimeError => decide +kernel)
    (case sa_PrimeError => k_is)
    (case xn_PrimeError_prime => k_is)
    (case a_TextError => k_is)
    (case hc_TextError => k_is)
    (case hg_TextError => k_is)
    (case hk_TextError => k_is)
    (case hs_TextError => k_is)
    (case hd_TextError => k_is)
    (case ha_TextError => k_is)
    (case hm_TextError => k_is)
    (case ty_TextError => k_is)
    (case kc_TextError => k_is)
    (case i_TextError => k_is)
    (case xl_TextError => k_is)
    (case xr_TextError => decide +kernel)
    (case sa_TextError => k_is)
    (case xn_TextError_line => k_is)
    (case a_Table => k_is)
    (case pg_Table => k_is)
    (case hd_Table => k_is)
    (case po_Table => k_is)
    (case sa_Table => k_is)
    (case mk_Table => k_is)
    (case kc_Table => k_is)
    (case ha_Table => k_is)
    (case hm_Table => k_is)
    (case ks_Table => first | rfl | k_is)
    (case na_Table_prime => k_is)
    (case na_Table_ends => k_is)
    (case na_Table_entries => k_is)
    (case m_Table_init => k_is)
    (case fn_Table_init => k_is)
    (case hnD => k_is)
    (case htD => k_is)
    (case l_SizeError_init => k_is)
    (case c_SizeError_init => k_is)
    (case k_SizeError_init => k_is)
    (case t_SizeError_init => k_is)
    (case l_NumberError_init => k_is)
    (case c_NumberError_init => k_is)
    (case k_NumberError_init => k_is)
    (case t_NumberError_init => k_is)
    (case l_TwinError_init => k_is)
    (case c_TwinError_init => k_is)
    (case k_TwinError_init => k_is)
    (case t_TwinError_init => k_is)
    (case l_NodeError_init => k_is)
    (case c_NodeError_init => k_is)
    (case k_NodeError_init => k_is)
    (case t_NodeError_init => k_is)
    (case l_LegError_init => k_is)
    (case c_LegError_init => k_is)
    (case k_LegError_init => k_is)
    (case t_LegError_init => k_is)
    (case l_PrimeError_init => k_is)
    (case c_PrimeError_init => k_is)
    (case k_PrimeError_init => k_is)
    (case t_PrimeError_init => k_is)
    (case l_TextError_init => k_is)
    (case c_TextError_init => k_is)
    (case k_TextError_init => k_is)
    (case t_TextError_init => k_is)
    (case a_check_number => k_is)
    (case l_check_number => k_is)
    (case c_check_number => k_is)
    (case k_check_number => k_is)
    (case a_is_odd_prime => k_is)
    (case l_is_odd_prime => k_is)
    (case c_is_odd_prime => k_is)
    (case k_is_odd_prime => k_is)
    (case a_look_number => k_is)
    (case l_look_number => k_is)
    (case c_look_number => k_is)
    (case k_look_number => k_is)
    (case a_look_list => k_is)
    (case l_look_list => k_is)
    (case c_look_list => k_is)
    (case k_look_list => k_is)
    (case a_look_prime => k_is)
    (case l_look_prime => k_is)
    (case c_look_prime => k_is)
    (case k_look_prime => k_is)
    (case a_look_residue => k_is)
    (case l_look_residue => k_is)
    (case c_look_residue => k_is)
    (case k_look_residue => k_is)
    (case a_look_residues => k_is)
    (case l_look_residues => k_is)
    (case c_look_residues => k_is)
    (case k_look_residues => k_is)
    (case a_look_lot => k_is)
    (case l_look_lot => k_is)
    (case c_look_lot => k_is)
    (case k_look_lot => k_is)
    (case a_bits_of => k_is)
    (case l_bits_of => k_is)
    (case c_bits_of => k_is)
    (case k_bits_of => k_is)
    (case a_exchange_ends => k_is)
    (case l_exchange_ends => k_is)
    (case c_exchange_ends => k_is)
    (case k_exchange_ends => k_is)
    (case l_Table_init => k_is)
    (case c_Table_init => k_is)
    (case k_Table_init => k_is)
    (case a_ulaw_draws => k_is)
    (case l_ulaw_draws => k_is)
    (case c_ulaw_draws => k_is)
    (case k_ulaw_draws => k_is)
    (case a_ulaw_next => k_is)
    (case l_ulaw_next => k_is)
    (case c_ulaw_next => k_is)
    (case k_ulaw_next => k_is)
    (case a_ulaw_prime => k_is)
    (case l_ulaw_prime => k_is)
    (case c_ulaw_prime => k_is)
    (case k_ulaw_prime => k_is)
    (case a_ulaw_residue => k_is)
    (case l_ulaw_residue => k_is)
    (case c_ulaw_residue => k_is)
    (case k_ulaw_residue => k_is)
    (case a_ulaw_pair_spot => k_is)
    (case l_ulaw_pair_spot => k_is)
    (case c_ulaw_pair_spot => k_is)
    (case k_ulaw_pair_spot => k_is)
    (case a_ulaw_roots => k_is)
    (case l_ulaw_roots => k_is)
    (case c_ulaw_roots => k_is)
    (case k_ulaw_roots => k_is)
    (case a_ulaw_form_entries => k_is)
    (case l_ulaw_form_entries => k_is)
    (case c_ulaw_form_entries => k_is)
    (case k_ulaw_form_entries => k_is)
    (case a_ulaw_told => k_is)
    (case l_ulaw_told => k_is)
    (case c_ulaw_told => k_is)
    (case k_ulaw_told => k_is)
    (case a_ulaw_any_cells => k_is)
    (case l_ulaw_any_cells => k_is)
    (case c_ulaw_any_cells => k_is)
    (case k_ulaw_any_cells => k_is)
    (case a_ulaw_whole => k_is)
    (case l_ulaw_whole => k_is)
    (case c_ulaw_whole => k_is)
    (case k_ulaw_whole => k_is)
    (case a_ulaw_got => k_is)
    (case l_ulaw_got => k_is)
    (case c_ulaw_got => k_is)
    (case k_ulaw_got => k_is)
    (case a_ulaw_same => k_is)
    (case l_ulaw_same => k_is)
    (case c_ulaw_same => k_is)
    (case k_ulaw_same => k_is)
    (case a_ulaw_names => k_is)
    (case l_ulaw_names => k_is)
    (case c_ulaw_names => k_is)
    (case k_ulaw_names => k_is)
    (case a_ulaw_tried => k_is)
    (case l_ulaw_tried => k_is)
    (case c_ulaw_tried => k_is)
    (case k_ulaw_tried => k_is)
    (case a_ulaw_list_is => k_is)
    (case l_ulaw_list_is => k_is)
    (case c_ulaw_list_is => k_is)
    (case k_ulaw_list_is => k_is)
    (case a_ulaw_partners => k_is)
    (case l_ulaw_partners => k_is)
    (case c_ulaw_partners => k_is)
    (case k_ulaw_partners => k_is)
    (case a_ulaw_pair_asked => k_is)
    (case l_ulaw_pair_asked => k_is)
    (case c_ulaw_pair_asked => k_is)
    (case k_ulaw_pair_asked => k_is)
    (case a_ulaw_refused => k_is)
    (case l_ulaw_refused => k_is)
    (case c_ulaw_refused => k_is)
    (case k_ulaw_refused => k_is)
    (case a_law => k_is)
    (case l_law => k_is)
    (case c_law => k_is)
    (case k_law => k_is)
    (case a_MOST => k_is)
    (case a_MOST_ENDS => k_is)
    (case z_ValueError => k_is)
    (case z_all => k_is)
    (case z_bool => k_is)
    (case z_int => k_is)
    (case z_isinstance => k_is)
    (case z_len => k_is)
    (case z_list => k_is)
    (case z_max => k_is)
    (case z_min => k_is)
    (case z_range => k_is)
    (case z_sum => k_is)
    (case z_tuple => k_is)
    (case kt_NumberError_NumberError => first | rfl | k_is)
    (case kt_NumberError_SizeError => first | rfl | k_is)
    (case kt_NumberError_PrimeError => first | rfl | k_is)
    (case kt_NumberError_TwinError => first | rfl | k_is)
    (case kt_NumberError_LegError => first | rfl | k_is)
    (case kt_NumberError_NodeError => first | rfl | k_is)
    (case kt_NumberError_ValueError => first | rfl | k_is)
    (case su_EndsError_EndsError => first | rfl | k_is)
    (case su_SizeError_EndsError => first | rfl | k_is)
    (case su_NumberError_EndsError => first | rfl | k_is)
    (case su_TwinError_EndsError => first | rfl | k_is)
    (case su_NodeError_EndsError => first | rfl | k_is)
    (case su_LegError_EndsError => first | rfl | k_is)
    (case su_PrimeError_EndsError => first | rfl | k_is)
    (case su_TextError_EndsError => first | rfl | k_is)