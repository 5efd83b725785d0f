import PyProof.Rows.All
import Wide.All
import OpenK.AllK
import Wide.FinOn
import HandS.ForMost
import HandS.ExcIs
import HandS.Exc
import HandS.TryOnly
import HandS.ExcOwn
import HandS.ExcInit
import HandS.ExcField
import HandS.HotCalls
import HandS.IsInst
import HandS.Conv
import HandS.Flow
import HandS.TupAny
import HandS.Style
import HandS.SetFor
import HandS.WordsExc
import KE.KExcIs
import HandS.Zip
import HandS.SetBool
import HandS.Strs
import HandS.Deep
import PySem.Challenge.RW_endsflat_k02_twofold_numbers
set_option Elab.async false
set_option linter.all false
set_option maxRecDepth 100000
set_option maxHeartbeats 4000000

namespace EL
open PySem PySem.Spec PyProof.Rows L2
abbrev St := L2.St

/-! ### unions of rules -/
section
variable {X : Cx}
theorem piOr {tg it : Expr} {w1 w2 : TI} (h1 : PI X tg it w1) (h2 : PI X tg it w2) : PI X tg it (fun σ H R => w1 σ H R ∨ w2 σ H R) :=
  ⟨fun pins s σ H R I h => h.elim (h1.run pins s σ H R I) (h2.run pins s σ H R I)⟩
def iU (K : PySem.W.Frag) (tl : TE) : TI := fun σ H R => iList K tl σ H R ∨ iTup K tl σ H R
theorem pi_U {tg l : Expr} {tl : TE} (hl : PE X l tl) : PI X tg l (iU X.K tl) := piOr (pi_list hl) (pi_tup hl)
def rAddI : R2 := rI0 fun i j => .int (i + j)
def rAddS : R2 := fun x y H Q => ∃ i j, x = .str i ∧ y = .str j ∧ i.length + j.length ≤ sizeLine ∧ Q (.str (i ++ j)) H
def rAddU (K : PySem.W.Frag) : R2 := fun x y H Q => rAddI x y H Q ∨ rCat x y H Q ∨ rCatA K x y H Q ∨ rAddS x y H Q
theorem op_addU : OpR X (binaryOp .Add) (rAddU X.K) := OpR.or op_add (OpR.or op_cat (OpR.or op_catA op_add_str))
def rMulI : R2 := rI CMul fun i j => .int (i * j)
def rMulU : R2 := fun x y H Q => rMulI x y H Q ∨ rRep x y H Q
theorem op_mulU : OpR X (binaryOp .Mult) rMulU := OpR.or op_mul op_rep
def rModP : R2 := rI (fun _ j => 0 < j) fun i j => .int (i % j)
theorem op_modP : OpR X (binaryOp .Mod) rModP := op_mod
def rDivP : R2 := rI CDiv fun i j => .int (i / j)
theorem op_fdivP : OpR X (binaryOp .FloorDiv) rDivP := op_fdiv
def rEqU (K : PySem.W.Frag) : R2 := fun x y H Q => rEq x y H Q ∨ rEqD K x y H Q
def rNeU (K : PySem.W.Frag) : R2 := fun x y H Q => rNe x y H Q ∨ rNeD K x y H Q
theorem op_eqU {k : Nat} (hr : Room k X.A) : OpR X (compareOp .Eq) (rEqU X.K) := OpR.or op_eq (op_eqD hr.units)
theorem op_neU {k : Nat} (hr : Room k X.A) : OpR X (compareOp .NotEq) (rNeU X.K) := OpR.or op_ne (op_neD hr.units)
def rIsiU (K : PySem.W.Frag) : List V → Hp → VK → Prop := fun xs H Q => rIsi K xs H Q ∨ rIsiT K xs H Q
theorem call_isiU : CallR X (.builtin "isinstance") (rIsiU X.K) := CallR.or call_isi call_isiT
end

/-! ### the counter of the draws: a list of one int, which is not told -/
def cellO (a : Addr) : HO := .ext fun h => ∃ (i : Int) (t : Tok) (n : Nat), h.get? a = some { cls := .type "list", data := .seq #[.int i t] n }
section
variable {X : Cx} {pins : List (Addr × Obj)} {σ : St} {H : Hp} {s : Shared} {a : Addr}
theorem cell_close {i : Int} (I : Inv X pins σ H s) (h : H a = some (.lst [.int i])) : Inv X pins σ (upd H a (cellO a)) s := by
  obtain ⟨its, n, r, ho, hz⟩ := I.lst h
  cases r with
  | cons r1 r2 =>
    cases r2
    obtain ⟨t, rfl⟩ := r1
    refine I.write (x := a) (e := a) (t' := s.toks) (h' := s.heap) (by rw [h]; trivial) (.inl rfl) (fun b u _ q => q) ⟨_, ho⟩ ?_
    exact ⟨⟨i, t, n, ho⟩, ⟨_, ho⟩, fun h1 h2 q k => by
      obtain ⟨i', t', n', e⟩ := q
      exact ⟨i', t', n', k _ e⟩⟩
theorem cell_open (I : Inv X pins σ H s) (h : H a = some (cellO a)) : ∃ i : Int, Inv X pins σ (upd H a (.lst [.int i])) s := by
  obtain ⟨⟨i, t, n, e⟩, _, _⟩ := I.hok a _ h
  refine ⟨i, I.write (x := a) (e := a) (t' := s.toks) (h' := s.heap) (by rw [h]; trivial) (.inl rfl) (fun b u _ q => q) ⟨_, e⟩ ?_⟩
  exact ⟨by show 1 ≤ sizeLine; rw [sizeLine_eq]; omega, [.int i t], n, .cons ⟨t, rfl⟩ .nil, e⟩
theorem upd_id {o : HO} (h : H a = some o) : upd H a o = H := by
  funext b
  by_cases hb : b = a
  · rw [hb, upd_same, h]
  · rw [upd_ne hb]
theorem cell_back {i : Int} {o : HO} (h : H a = some (cellO a)) (I : Inv X pins σ (upd H a (.lst [.int i])) s) : Inv X pins σ H s := by
  have J := cell_close (a := a) I upd_same
  rw [upd_upd, upd_id h] at J
  exact J
end
section
variable {X : Cx}
def rIxC : R2 := fun x y H Q => ∃ a, x = .ref a ∧ y = .int 0 ∧ H a = some (cellO a) ∧ ∀ n, Q (.int n) H
theorem ix_cell : IxR X rIxC := by
  intro value slice pins s σ H x y v u Q I rx ry h hs
  obtain ⟨a, rfl, rfl, ha, q⟩ := h
  obtain ⟨i, J⟩ := cell_open I ha
  refine thn (ix_list value slice pins s σ _ _ _ v u (fun w H' => H' = upd H a (.lst [.int i]) ∧ w = .int i) J rx ry ⟨a, [.int i], 0, .int i, rfl, rfl, SqL.of upd_same, rfl, rfl, rfl⟩ hs) fun w s1 hh => ?_
  obtain ⟨z, H', J', r', rfl, rfl⟩ := hh
  exact ⟨_, H, cell_back (o := cellO a) ha J', r', q i⟩
def rIxU (K : PySem.W.Frag) : R2 := fun x y H Q => rIxL K x y H Q ∨ rIxT K x y H Q ∨ rIxC x y H Q ∨ rIxS x y H Q
theorem ix_U : IxR X (rIxU X.K) := ix_list.or (ix_tup.or (ix_cell.or ix_str))
def rSetC : V → V → V → Hp → (Hp → Prop) → Prop := fun o i v H Q => ∃ a n, o = .ref a ∧ i = .int 0 ∧ v = .int n ∧ H a = some (cellO a) ∧ Q H
theorem set_cell : PSet X rSetC := by
  intro pins s σ H o i v ov iv u Q I ro ri rv h
  obtain ⟨a, n, rfl, rfl, rfl, ha, q⟩ := h
  obtain ⟨j, J⟩ := cell_open I ha
  refine thn (set_list pins s σ _ _ _ _ ov iv u (fun H' => H' = upd H a (.lst [.int n])) J ro ri rv ⟨a, [.int j], 0, 0, rfl, rfl, upd_same, rfl, upd_upd⟩) fun w s1 hh => ?_
  obtain ⟨H', J', rfl⟩ := hh
  exact ⟨H, cell_back (o := cellO a) ha J', q⟩
def rSetU : V → V → V → Hp → (Hp → Prop) → Prop := fun o i v H Q => rSetL o i v H Q ∨ rSetC o i v H Q
theorem set_U : PSet X rSetU := by
  intro pins s σ H o i v ov iv u Q I ro ri rv h
  rcases h with h | h
  · exact set_list pins s σ H o i v ov iv u Q I ro ri rv h
  · exact set_cell pins s σ H o i v ov iv u Q I ro ri rv h
/-- [0]: the counter is laid -/
def tCell : TE := fun _ H Q => ∀ p, H p = none → Q (.ref p) (upd H p (cellO p))
theorem pe_cell {i : Int} {k : Nat} {p1 p2 : Pos} : PE X (.List [.Constant (.int i) k p1] p2) tCell := by
  refine ⟨fun pins s σ H Q I h => ?_⟩
  have ha : PE X (.List [.Constant (.int i) k p1] p2) _ := pe_lst (pa_cons pe_int pa_nil)
  refine thn (ha.run pins s σ H (fun v H' => ∃ p, v = .ref p ∧ H p = none ∧ H' = upd H p (.lst [.int i])) I ?_) fun w s1 hh => ?_
  · exact ⟨by show 1 ≤ sizeLine; rw [sizeLine_eq]; omega, fun p hp => ⟨p, rfl, hp, rfl⟩⟩
  · obtain ⟨v, H', J, r, p, rfl, hp, rfl⟩ := hh
    have J' := cell_close (a := p) J upd_same
    rw [upd_upd] at J'
    exact ⟨_, _, J', r, h p hp⟩
end

/-! ### the rules with the written part named -/
section
variable {X : Cx} {a b c e o : Expr} {es : List Expr} {ta tb te to : TE} {t : TA} {pos apos : Pos}
theorem pi_UK (K : PySem.W.Frag) {tg l : Expr} {tl : TE} (hl : PE X l tl) (h : X.K = K := by rfl) : PI X tg l (iU K tl) := h ▸ pi_U hl
theorem op_addUK (K : PySem.W.Frag) (h : X.K = K := by rfl) : OpR X (binaryOp .Add) (rAddU K) := h ▸ op_addU
theorem op_eqUK (K : PySem.W.Frag) {k : Nat} (hr : Room k X.A) (h : X.K = K := by rfl) : OpR X (compareOp .Eq) (rEqU K) := h ▸ op_eqU hr
theorem op_neUK (K : PySem.W.Frag) {k : Nat} (hr : Room k X.A) (h : X.K = K := by rfl) : OpR X (compareOp .NotEq) (rNeU K) := h ▸ op_neU hr
theorem op_inK (K : PySem.W.Frag) (h : X.K = K := by rfl) : OpR X (compareOp .In) (rIn K false) := h ▸ op_in_seq
theorem op_notInK (K : PySem.W.Frag) (h : X.K = K := by rfl) : OpR X (compareOp .NotIn) (rIn K true) := h ▸ op_notIn_seq
theorem ix_UK (K : PySem.W.Frag) (h : X.K = K := by rfl) : IxR X (rIxU K) := h ▸ ix_U
theorem sl_listK (K : PySem.W.Frag) (h : X.K = K := by rfl) : SlR X (rSlL K) := h ▸ sl_list
def rLen (K : PySem.W.Frag) : List V → Hp → VK → Prop := fun xs H Q => ∃ x n, xs = [x] ∧ LenV K x H n ∧ Q (.int n) H
theorem call_lenK (K : PySem.W.Frag) (h : X.K = K := by rfl) : CallR X (.builtin "len") (rLen K) := h ▸ call_len
theorem cr_sumK (K : PySem.W.Frag) (hc : X.calm = true) (h : X.K = K := by rfl) : CallR X (.builtin "sum") (rSum K) := h ▸ cr_sum hc
theorem cr_maxK (K : PySem.W.Frag) (hc : X.calm = true) (h : X.K = K := by rfl) : CallR X (.builtin "max") (rMax K) := h ▸ cr_max hc
theorem cr_minK (K : PySem.W.Frag) (hc : X.calm = true) (h : X.K = K := by rfl) : CallR X (.builtin "min") (rMin K) := h ▸ cr_min hc
theorem cr_allK (K : PySem.W.Frag) (hc : X.calm = true) (h : X.K = K := by rfl) : CallR X (.builtin "all") (rAll K) := h ▸ cr_all hc
theorem cr_anyK (K : PySem.W.Frag) (hc : X.calm = true) (h : X.K = K := by rfl) : CallR X (.builtin "any") (rAny K) := h ▸ cr_any hc
def rListOf (K : PySem.W.Frag) : List V → Hp → VK → Prop := fun xs H Q => ∃ p ys, xs = [.ref p] ∧ (SqL K H p ys ∨ SqT K H p ys) ∧ ∀ l, H l = none → Q (.ref l) (upd H l (.lst ys))
theorem call_list_ofK (K : PySem.W.Frag) (h : X.K = K := by rfl) : CallR X (.type "list") (rListOf K) := h ▸ call_list_of
def rInt1 : List V → Hp → VK → Prop := fun xs H Q => (∃ i, xs = [.int i] ∧ Q (.int i) H) ∨ ∃ k, xs = [.bl k] ∧ Q (.int (if k then 1 else 0)) H
theorem call_int1D : CallR X (.type "int") rInt1 := call_int1
def rMin2 : List V → Hp → VK → Prop := fun xs H Q => ∃ i j, xs = [.int i, .int j] ∧ Q (.int (if j < i then j else i)) H
theorem call_min2D (hc : X.calm = true) : CallR X (.builtin "min") rMin2 := call_min2 hc
def rMax2 : List V → Hp → VK → Prop := fun xs H Q => ∃ i j, xs = [.int i, .int j] ∧ Q (.int (if j > i then j else i)) H
theorem call_max2D (hc : X.calm = true) : CallR X (.builtin "max") rMax2 := call_max2 hc
def rAbs : List V → Hp → VK → Prop := fun xs H Q => ∃ i, xs = [.int i] ∧ Q (.int (if i < 0 then -i else i)) H
theorem call_absD : CallR X (.builtin "abs") rAbs := call_abs
def rIsN : R2 := fun x y H Q => y = .non ∧ Q (.bl (decide (x = .non))) H
theorem op_isND : OpR X (compareOp .Is) rIsN := op_isN
def rNotN : R2 := fun x y H Q => y = .non ∧ Q (.bl (!decide (x = .non))) H
theorem op_notND : OpR X (compareOp .IsNot) rNotN := op_notN
def rTupleOf (K : PySem.W.Frag) : List V → Hp → VK → Prop := fun xs H Q => ∃ p ys, xs = [.ref p] ∧ ((SqL K H p ys ∧ ∀ l, H l = none → Q (.ref l) (upd H l (.tup ys))) ∨ (SqT K H p ys ∧ Q (.ref p) H))
theorem call_tuple_ofK (K : PySem.W.Frag) (h : X.K = K := by rfl) : CallR X (.type "tuple") (rTupleOf K) := h ▸ call_tuple_of
theorem call_isiUK (K : PySem.W.Frag) (h : X.K = K := by rfl) : CallR X (.builtin "isinstance") (rIsiU K) := h ▸ call_isiU
def tTruth (K : PySem.W.Frag) (ta : TE) : TT := fun σ H Q => ta σ H fun x H1 => ∃ k, TruV K x H1 k ∧ Q k H1
theorem pt_truthK (K : PySem.W.Frag) (ha : PE X a ta) (he : ∀ whole, isTrue a X.env whole = (do let v ← whole; standAt a.pos; holding [v] (truthy v)) := by intro _; rfl) (h : X.K = K := by rfl) : PT X a (tTruth K ta) := h ▸ pt_truth ha he
theorem pg_tupK (K : PySem.W.Frag) (n : Nat) {k : Nat} {t : TGs} (hc : X.calm = true) (hg : PGs X es t)
    (hn : (assignEach es X.env).length = n := by rfl) (hst : (assignEach es X.env).findIdx? (·.1) = none := by rfl) (h : X.K = K := by rfl) : PG X (.Tuple es k pos) (gTup K n t) := h ▸ pg_tup hc hg hn hst
theorem pe_fldK (K : PySem.W.Frag) {f : Str} (he : PE X e ta) (hb : attributeBase e f X.env (eval e X.env) = eval e X.env) (h : X.K = K := by rfl) : PE X (.Attribute e f pos) (tFld K ta f) := h ▸ pe_fld he hb
theorem pe_revLK (K : PySem.W.Frag) {k : Nat} {p1 p2 p3 : Pos} (he : PE X e te) (h : X.K = K := by rfl) : PE X (.Subscript e (.Slice none none (some (.UnaryOp .USub (.Constant (.int 1) k p1) p2)) p3) pos) (tRevL K te) := h ▸ pe_revL he
section
variable {T id : String} {name : Str} {r : V → List V → Hp → VK → Prop}
theorem pe_bm0K (K : PySem.W.Frag) {cpos : Pos} (pa : PlainAttrs T) (slot : Slot T name id) (hty : typeOf (.builtin id) = pure (.type "method_descriptor")) (hm : MtR X id r) (ho : PE X o to)
    (hb : attributeBase o name X.env (eval o X.env) = eval o X.env := by rfl) (hl : (apos.endLine == cpos.line) = true := by rfl) (h : X.K = K := by rfl) : PE X (.Call (.Attribute o name apos) [] [] cpos) (tBM0 K T r to) := h ▸ pe_bm0 pa slot hty hm ho hb hl
theorem pe_bmK (K : PySem.W.Frag) {cpos : Pos} (pa : PlainAttrs T) (slot : Slot T name id) (hty : typeOf (.builtin id) = pure (.type "method_descriptor")) (hm : MtR X id r) (ho : PE X o to) (ha : PA X (e :: es) t)
    (hb : attributeBase o name X.env (eval o X.env) = eval o X.env := by rfl)
    (hf : ((backTo cpos (starEach (e :: es) X.env)).all (fun x => !x.1) && (backToKw cpos (keywordEach [] X.env)).all (fun x => x.1.isSome) && decide ((e :: es).length + ([] : List Keyword).length + (if ([] : List Keyword).isEmpty then 0 else 1) < 30)) = true := by rfl)
    (hl : (apos.endLine == cpos.line) = true := by rfl) (hs : starEach (e :: es) X.env = (false, eval e X.env) :: starEach es X.env := by rfl) (hp : (backTo cpos (starEach es X.env)).any (·.1) = false := by rfl) (h : X.K = K := by rfl) :
    PE X (.Call (.Attribute o name apos) (e :: es) [] cpos) (tBM K T r to t) := h ▸ pe_bm pa slot hty hm ho ha hb hf hl hs hp
theorem mt_lcountK (K : PySem.W.Frag) (h : X.K = K := by rfl) : MtR X "list.count" (rCntI K) := h ▸ mt_lcount
theorem mt_indexK (K : PySem.W.Frag) (h : X.K = K := by rfl) : MtR X "list.index" (rIndex K) := h ▸ mt_index
end
end
/-- two statements with a word between: the ways of the first are joined -/
def tCut (t u : TS) : TS := fun D σ H => ∃ M : St → Hp → Prop, t { D with nx := M } σ H ∧ ∀ σ' H', M σ' H' → u D σ' H'
theorem pss_cut {X : Cx} {st : Stmt} {rest : List Stmt} {t u : TS} (h1 : PS X st t) (h2 : PSs X rest u) : PSs X (st :: rest) (tCut t u) := by
  refine ⟨fun pins s σ H D I h => ?_⟩
  obtain ⟨M, h, k⟩ := h
  refine wpAny_execs_cons (thn (h1.run pins s σ H { D with nx := M } I h) fun f s1 z => ?_)
  cases f with
  | next => exact let ⟨σ1, H1, I1, z1⟩ := z; h2.run pins s1 σ1 H1 D I1 (k _ _ z1)
  | ret v => exact z
  | brk => exact z
  | cont => exact z
/-! ### calls -/
section
variable {X : Cx} {CX : CXT} {k : Nat} {f C : Addr} {fd : FuncData} {ps ks : List Str} {sp : Sp} {E : XK} {x m : Str} {p pos apos kpos : Pos} {e o : Expr} {es : List Expr} {kws : List Keyword} {te ta : TE} {t tk : TA} {g : List Value → List Value → List Value} {gV : List V → List V → List V}
/-- f(k = v, ..) -/
theorem pe_callK0 (F : FnOk X.prog X.w X.K X.mg X.base CX k f fd ps sp) (hr : Room k X.A) (hg : Gl X x) (hm : X.mg x = some (.ref f)) (hk : PySem.W.keepIn X.K (.ref f) = true)
    (hb : KBinds X.K fd ps ks g gV) (hx : Passes CX X E) (hkw : PK X kws tk)
    (hall : (backToKw pos (keywordEach kws X.env)).all (·.1.isSome) = true := by rfl) (hks : (backToKw pos (keywordEach kws X.env)).filterMap (·.1) = ks := by rfl)
    (hdb : (x == ("__debug__" : Str)) = false := by decide)
    (hpl : ((backTo pos (starEach [] X.env)).any (·.1) || (backToKw pos (keywordEach kws X.env)).any (·.1.isNone)) = false := by rfl) :
    PE X (.Call (.Name x p) [] kws pos) (tCallK sp gV E tNil tk) := by
  refine ⟨fun pins s σ H Q I h => wpAny_Call_Name_kw (ld_glob I hg hm ?_ hdb)⟩
  refine PySem.W.callWith_KW0 (h₀ := X.base) I.ok.mod.kin hk hall ?_ hpl
  refine thn (hkw.run pos pins s σ H _ I h) fun ws s2 ⟨zs, H2, I2, rz, q2⟩ => ⟨I2.kIn, ?_⟩
  rw [hks]
  exact run_fnk (us := []) F hr hb hx I2 .nil rz q2
theorem passLF : Passes (L2.CX X.prog X.w) X (fun _ _ _ => False) := passL
end

/-! ### exceptions of the program's own classes -/
/-- X(), a class without an __init__ of its own -/
structure XOwn (K : PySem.W.Frag) (C : Addr) : Prop where
  ex : PySem.W.excIn K C [.type "ValueError", .type "Exception", .type "BaseException", .type "object"] "ValueError.__new__" = true
  kp : PySem.W.keepIn K (.ref C) = true
  sb : PySem.W.subIn K (.ref C) (.type "BaseException") = some true
  ty : PySem.W.typeIn K (.ref C) = some (.type "type")
theorem pmk_own0 {X : Cx} {x : Str} {C : Addr} {p pos : Pos} (q : XOwn X.K C) (gC : X.mg x = some (.ref C)) (hg : Gl X x := by rfl)
    (hdb : (x == ("__debug__" : Str)) = false := by decide) : PMk X (.Call (.Name x p) [] [] pos) (fun _ H Q => Q (.ref C) none H) := by
  intro pins s σ H Q I h
  refine wpAny_Call_Name_kw (ld_glob I hg gC ?_ hdb)
  refine PySem.W.callWith_K0 I.kIn q.kp ?_
  obtain ⟨bm, N, nm, qn, bs, hdct, sn, sub, ab, col, dd, k0, k1, k2, k3, k5, mN, hC, hN, hni, T⟩ := exc_obj I.kIn q.ex
  refine wpAny_call_exc_subT PySem.F.excBase_ValueError T hC hN hni (fun h' e hm => ?_) (by show 0 ≤ sizeLine; omega)
  exact mk_of I hm (raises_own q.sb q.ty) h (I.hok.gone hm.new)
/-- the exception at a stands in the context -/
structure XPin (X : Cx) (a : Addr) (cls : Value) (d : Option Addr) : Prop where
  ex : ∃ (oe : Obj) (vs : Array Value), (a, oe) ∈ X.pn ∧ Zc cls d oe ∧ oe.data = .fields vs
theorem xpin_suite {X : Cx} {a : Addr} {oe : Obj} {cls : Value} {d : Option Addr} {pn : List (Addr × Obj)} (hz : Zc cls d oe) (hf : ∃ vs, oe.data = .fields vs) : XPin (X.suite a ((a, oe) :: pn)) a cls d := by
  obtain ⟨vs, hv⟩ := hf
  exact ⟨oe, vs, List.mem_cons_self, hz, hv⟩
/-- what the class says, that isinstance and the fields are read rightly -/
structure XCls (K : PySem.W.Frag) (D : Addr) : Prop where
  hc : (PySem.W.clsIn K D).isSome = true
  hg : PySem.W.findIn K (.ref D) "__getattribute__" = some (some (.builtin "BaseException.__getattribute__"))
  hk : PySem.W.findIn K (.ref D) "__getattr__" = some none
  hs : PySem.W.subIn K (.ref D) (.type "BaseException") = some true
  hd : PySem.W.hasDictIn K D = true
  ha : PySem.W.findIn K (.ref D) "__class__" = some (some (.builtin "object.__class__"))
  hn : PySem.W.specialIn K (.builtin "object.__class__") "__get__" = some (some (.builtin "getset_descriptor.__get__"))
  ht : PySem.W.takesIn K (.builtin "object.__class__") = some true
  hm : PySem.W.mroIn K D (.type "object") = some true
/-- the exception's own dict, as H tells it -/
def XDict (H : Hp) (d : Option Addr) (fs : List (Str × V)) : Prop := (d = none ∧ fs = []) ∨ ∃ dd, d = some dd ∧ H dd = some (.xd fs)
section
variable {X : Cx} {a : Addr} {cls : Value} {d : Option Addr} {pins : List (Addr × Obj)} {σ : St} {H : Hp} {s : Shared}
theorem XPin.inst {D : Addr} {fs : List (Str × V)} (p : XPin X a cls d) (I : Inv X pins σ H s) (hc : cls = .ref D) (hd : XDict H d fs) : ∃ (ox : Obj) (od : Option Obj), PySem.W.InstAt s.heap a ox D od ∧
    (∀ dd, d = some dd → ∃ o, od = some o ∧ ∃ mA : Str → Option Value, (∀ name : Str, PySem.W.lookIn name o = some (mA name)) ∧ ∀ f : Str, RelO (fs.lookup f) (mA f)) := by
  obtain ⟨⟨oc, odd, dat, sl⟩, vs, hp, ⟨h1, h2⟩, hv⟩ := p.ex
  dsimp only at h1 h2 hv
  subst hc
  subst hv
  obtain ⟨hget, _⟩ := I.pin _ (List.mem_append_left _ hp)
  rcases hd with ⟨rfl, _⟩ | ⟨dd, rfl, hd⟩
  · subst h1 h2
    exact ⟨_, none, ⟨hget, rfl, rfl, trivial⟩, fun dd z => nomatch z⟩
  · have hx : ObjOk X.prog X.w H s.heap dd (.xd fs) := I.hok dd _ hd
    obtain ⟨mA, hns, hr⟩ := hx
    obtain ⟨od, ho, hl⟩ := lookIn_ns hns
    subst h1 h2
    exact ⟨_, some od, ⟨hget, rfl, rfl, ho⟩, fun dd' z => ⟨od, rfl, mA, hl, hr⟩⟩
/-- isinstance(e, C), isinstance(e, (C, ..)) -/
def rIsX (K : PySem.W.Frag) (a : Addr) (cls : Value) (d : Option Addr) : List V → Hp → VK → Prop := fun xs H Q => ∃ (D : Addr) (fs : List (Str × V)) (c : V) (b : Bool), xs = [.ref a, c] ∧ cls = .ref D ∧ XCls K D ∧ XDict H d fs ∧
  ((∃ u, ClsV c u ∧ PySem.W.kitOne K (.ref D) u = some b) ∨ ∃ tp cs us, c = .ref tp ∧ H tp = some (.tup cs) ∧ Paired ClsV cs us ∧ PySem.W.kitAny K (.ref D) us = some b) ∧ Q (.bl b) H
theorem call_isX (p : XPin X a cls d) : CallR X (.builtin "isinstance") (rIsX X.K a cls d) := by
  intro pins s σ H xs us Q I r h
  obtain ⟨D, fs, c, b, rfl, hc, C, hd, hh, q⟩ := h
  obtain ⟨ox, od, J, _⟩ := p.inst I hc hd
  obtain ⟨u1, u2, rfl, r1, r2⟩ := vals2 r
  cases (show u1 = Value.ref a from r1)
  have Z := PySem.W.kitx_exc (x := a) (ox := ox) (od := od) C.hc C.hg C.hk C.hs C.ha C.hn C.ht C.hm
  rcases hh with ⟨u, k, e⟩ | ⟨tp, cs, ws, rfl, hT, k, e⟩
  · have e2 := k.eq r2
    subst e2
    exact PySem.W.kia_one Z I.kIn J e (fun z => nomatch z) fun tk => ⟨.bl b, H, I.tok tk, rfl, q⟩
  · cases (show u2 = Value.ref tp from r2)
    obtain ⟨_, its, rv, o, h1, h2, n, h3⟩ := (show ObjOk X.prog X.w H s.heap tp (.tup cs) from I.hok tp _ hT)
    have e3 := ClsV.all k rv
    subst e3
    obtain ⟨oc, od2, dt, sl⟩ := o
    simp only at h2 h3
    subst h2 h3
    exact PySem.W.kia_tup Z I.kIn J h1 e (fun z => nomatch z) fun tk => ⟨.bl b, H, I.tok tk, rfl, q⟩
/-- e.f -/
def tXF (K : PySem.W.Frag) (a : Addr) (cls : Value) (d : Option Addr) (f : Str) (te : TE) : TE := fun σ H Q => te σ H fun x H1 => ∃ (D dd : Addr) (fs : List (Str × V)) (v : V), x = .ref a ∧ cls = .ref D ∧ XCls K D ∧ d = some dd ∧ H1 dd = some (.xd fs) ∧
  PySem.W.findIn K (.ref D) f = some none ∧ fs.lookup f = some v ∧ Q v H1
theorem pe_xF {e : Expr} {te : TE} {pos : Pos} {f : Str} (p : XPin X a cls d) (he : PE X e te) (hb : attributeBase e f X.env (eval e X.env) = eval e X.env := by rfl) : PE X (.Attribute e f pos) (tXF X.K a cls d f te) := by
  refine ⟨fun pins s σ H Q I h => ?_⟩
  refine attr_of hb (thn (he.run pins s σ H _ I h) fun u s1 hh => ?_)
  obtain ⟨x, H1, I1, rx, D, dd, fs, v, ex, hc, C, rfl, ea, hno, l, q⟩ := hh
  subst ex
  obtain rfl : u = Value.ref a := rx
  obtain ⟨ox, od, J, hq⟩ := p.inst I1 hc (.inr ⟨dd, rfl, ea⟩)
  obtain ⟨o, rfl, mA, hl, hr⟩ := hq dd rfl
  obtain ⟨u, hu, ru⟩ := RelO.some_of (v := v) (o := mA f) (by rw [← l]; exact hr f)
  exact HandSPX.exc_get I1.kIn J C.hg C.hk C.hs (PySem.W.findObj_own C.hd hno rfl (by rw [hl, hu])) (handed_of ru) ⟨v, H1, I1.tok _, ru, q⟩
end
theorem call_isXK {X : Cx} (K : PySem.W.Frag) {a : Addr} {cls : Value} {d : Option Addr} (p : XPin X a cls d) (h : X.K = K := by rfl) : CallR X (.builtin "isinstance") (rIsX K a cls d) := h ▸ call_isX p
theorem pe_xFK {X : Cx} (K : PySem.W.Frag) {a : Addr} {cls : Value} {d : Option Addr} {e : Expr} {te : TE} {pos : Pos} {f : Str} (p : XPin X a cls d) (he : PE X e te) (hb : attributeBase e f X.env (eval e X.env) = eval e X.env := by rfl) (h : X.K = K := by rfl) : PE X (.Attribute e f pos) (tXF K a cls d f te) := h ▸ pe_xF p he hb
/-! a def that is called in a suite with the exception that is handled there -/
abbrev SpX := Addr → Value → Option Addr → Sp
structure FnE (P : Program) (w : World) (K : PySem.W.Frag) (mg : Str → Option Value) (base : Heap) (k : Nat) (f : Addr) (fd : FuncData) (ps : List Str) (sp : SpX) : Prop where
  len : ∀ a cls d vs H Q E, sp a cls d vs H Q E → vs.length = ps.length
  run : ∀ (A : Around) (outer : List Env) (s : Shared) (H : Hp) (args : Args) (us : List Value) (vs : List V) (Q : VK) (a : Addr) (oe : Obj) (cls : Value) (d : Option Addr), L2H.RoomH k A → Zc cls d oe → (∃ v, oe.data = .fields v) → L2H.PinOk outer H s (a, oe) →
    Env0 P w K mg base A outer s H → BindsTo s fd args (ps.zip us) → Vals vs us → sp a cls d vs H Q (fun _ _ _ => False) → codeAny (model P w) A (.call (.ref f) args) (CR (L2.CX P w) outer P w H s Q (fun _ _ _ => False)) s
abbrev cxE (P : Program) (w : World) (K : PySem.W.Frag) (mg : Str → Option Value) (base : Heap) (N : List Str) (qual : Str) (scope : Scope) (f : Addr) (cd : Value) (A : Around) (outer : List Env) (s : Shared) (H : Hp) (p : Addr × Obj) : Cx :=
  L2H.cxH (L2.CX P w) P w K mg base N qual scope f cd A outer s H (fun _ _ _ => False) p
theorem Fun.okE {P : Program} {w : World} {K : PySem.W.Frag} {mg : Str → Option Value} {base : Heap} {x qual : Str} {st : Stmt} {f : Addr} {fd : FuncData} {N ps : List Str} {k : Nat} {sp : SpX} (F : Fun K x qual st f fd) (S : FnScope N ps (defScope st))
    (len : ∀ a cls d vs H Q E, sp a cls d vs H Q E → vs.length = ps.length)
    (hbody : ∀ (cdv : Value) (A : Around) (outer : List Env) (s : Shared) (H : Hp) (vs : List V) (Q : VK) (a : Addr) (oe : Obj) (cls : Value) (d : Option Addr), Zc cls d oe → (∃ v, oe.data = .fields v) → L2H.RoomH k (A.deeper (envOfC qual (defScope st) s.heap.objs.size f cdv)) →
      sp a cls d vs H Q (fun _ _ _ => False) → ∃ t, PSs (cxE P w K mg base N qual (defScope st) f cdv A outer s H (a, oe)).nox (defBody st) t ∧ t { nx := fun _ H' => Q .non H', rt := Q } (start N vs) H) : FnE P w K mg base (k + 1) f fd ps sp := by
  obtain ⟨oc, od, kV, doc, pm, an, cdv, ct, osl, rfl, lk, hcd⟩ := F.ex
  refine ⟨len, fun A outer s H args us vs Q a oe cls d hr hz hf hpin e0 hb r hsp => ?_⟩
  have hl := len _ _ _ _ _ _ _ hsp
  have KX : K.In s.heap := e0.mod.kin.keeps fun b o e => (e0.bs b o e).1
  have lim : s.heap.NoLimit := e0.mod.nolimit.keeps fun b o e => (e0.bs b o e).1
  have hk : ∀ y ∈ ps.zip us, (defScope st).names.lookup y.1 = some .local ∨ ((defScope st).names.lookup y.1 = some .cell ∧ ((cellsFrom (s.heap.objs.size + 1) (defScope st).names []).lookup y.1).isSome = true) := fun ⟨n, v⟩ hy =>
    (S.par n (List.of_mem_zip hy).1).elim .inl fun z => .inr ⟨z, PySem.W.cellsFrom_some _ _ _ (.inl z)⟩
  refine codeAny_call_function hr.depth (KX _ _ lk) rfl S.co S.gen rfl (PySem.W.codeRec_of KX hcd) (hb _ _ _ _ (wpAny_newFunctionEnv_cells S.kind hk fun env he s1 x => ?_))
  subst he
  refine ⟨lim.keeps x.toInCall.keep, codeAny_func ?_⟩
  obtain ⟨t, ht, hq⟩ := hbody cdv A outer s H vs Q a oe cls d hz hf (hr.deeper _) hsp
  have I := (L2H.inv_startH (CX := L2.CX P w) (E := fun _ _ _ => False) (qual := qual) (f := f) (cd := cdv) S hpin e0 hl r x)
  refine wpAny_mono (ht.nox.run [] s1 (start N vs) H _ I hq) (fun fl s' hs => ?_) fun e s' hs => hs
  cases fl with
  | ret u => exact let ⟨v, σ', H', J, rv, z⟩ := hs; ⟨v, H', J.os, J.bare, J.base, J.hok, rv, z⟩
  | next => exact let ⟨σ', H', J, z⟩ := hs; ⟨V.non, H', J.os, J.bare, J.base, J.hok, rfl, z⟩
  | brk => exact let ⟨_, _, _, z⟩ := hs; False.elim z
  | cont => exact let ⟨_, _, _, z⟩ := hs; False.elim z
theorem xpin_def {P : Program} {w : World} {K : PySem.W.Frag} {mg : Str → Option Value} {base : Heap} {N : List Str} {qual : Str} {scope : Scope} {f : Addr} {cd : Value} {A : Around} {outer : List Env} {s : Shared} {H : Hp} {a : Addr} {oe : Obj} {cls : Value} {d : Option Addr} (hz : Zc cls d oe) (hf : ∃ vs, oe.data = .fields vs) :
    XPin (cxE P w K mg base N qual scope f cd A outer s H (a, oe)).nox a cls d := by
  obtain ⟨vs, hv⟩ := hf
  exact ⟨oe, vs, List.mem_cons_self, hz, hv⟩
section
variable {X : Cx} {k : Nat} {f a : Addr} {fd : FuncData} {ps : List Str} {sp : SpX} {x : Str} {p pos : Pos} {e : Expr} {es : List Expr} {t : TA} {cls : Value} {d : Option Addr}
def tCallE (sp : SpX) (a : Addr) (cls : Value) (d : Option Addr) (t : TA) : TE := fun σ H Q => t σ H fun vs H1 => sp a cls d vs H1 Q (fun _ _ _ => False)
theorem pe_callE (F : FnE X.prog X.w X.K X.mg X.base k f fd ps sp) (hr : L2H.RoomH k X.A) (xp : XPin X a cls d) (hg : Gl X x) (hm : X.mg x = some (.ref f)) (hk : PySem.W.keepIn X.K (.ref f) = true) (hb : Binds X.K fd ps [])
    (ha : PA X (e :: es) t) (hdb : (x == ("__debug__" : Str)) = false := by decide) (he : starEach (e :: es) X.env = (false, eval e X.env) :: starEach es X.env := by rfl) (hpl : (backTo pos (starEach es X.env)).any (·.1) = false := by rfl) :
    PE X (.Call (.Name x p) (e :: es) [] pos) (tCallE sp a cls d t) := by
  refine ⟨fun pins s σ H Q I h => wpAny_Call_Name_kw (ld_glob I hg hm ?_ hdb)⟩
  refine PySem.W.callWith_K (h₀ := X.base) I.ok.mod.kin hk (thn (ha.run pos pins s σ H _ I h) fun us s1 ⟨vs, H1, I1, r, hs⟩ => ⟨I1.kIn, ?_⟩) he hpl
  obtain ⟨oe, v, hp, hz, hv⟩ := xp.ex
  have hl : us.length = ps.length := by rw [← r.length]; exact F.len _ _ _ _ _ _ _ hs
  have b := hb s1 us I1.kIn (by rw [List.append_nil]; exact hl)
  rw [List.append_nil] at b
  have P1 := I1.pin (a, oe) (List.mem_append_left _ hp)
  have hpin : L2H.PinOk X.stack H1 s1 (a, oe) := ⟨P1.1, P1.2.1, fun hm => (List.mem_cons.mp (I1.stkSub a hm)).elim P1.2.2.1 P1.2.2.2.1, P1.2.2.2.2⟩
  refine wpAny_call (codeAny_mono (F.run X.A X.stack s1 H1 ⟨us, []⟩ us vs Q a oe cls d hr hz ⟨v, hv⟩ hpin I1.env0 b r hs) fun r s' hq => ?_)
  cases r with
  | error er => exact (passLF (X := X)) pins σ H1 s1 er s' I1 hq
  | ok fl =>
    cases fl with
    | ret u => exact I1.after hq
    | next => exact False.elim hq
    | brk => exact False.elim hq
    | cont => exact False.elim hq
end
end EL

namespace EL
open PySem PySem.Spec PyProof.Rows L2

/-! ### heaps that grow -/
theorem _root_.L2.Same.upd {H H' : Hp} {p : Addr} {o : HO} (h : Same H H') (n : H p = none) : Same H (L2.upd H' p o) := fun b u e => by
  rw [upd_ne (ne_of_none e n)]
  exact h b u e
theorem _root_.L2.Same.new {H : Hp} {p : Addr} {o : HO} (n : H p = none) : Same H (L2.upd H p o) := Same.upd (Same.refl H) n
theorem _root_.L2.Same.rd {H H' : Hp} {a : Addr} {u : HO} (e : Same H H') (h : Rd H a u) : Rd H' a u := h.elim (fun z => .inl (e _ _ z)) fun ⟨o, z⟩ => .inr ⟨o, e _ _ z⟩
theorem _root_.L2.Same.seqT {K : PySem.W.Frag} {H H' : Hp} {a : Addr} {xs : List V} (e : Same H H') (h : SqT K H a xs) : SqT K H' a xs := h.elim (fun z => .inl (e.rd z)) .inr
mutual
theorem dpSame {K : PySem.W.Frag} {H H' : Hp} (e : Same H H') : ∀ {d : PyData} {v : V}, Dp K H v d → Dp K H' v d
  | .none, _, h => by cases h; exact .non
  | .bool b, _, h => by cases h; exact .bl b
  | .int i, _, h => by cases h; exact .int i
  | .str x, _, h => by cases h; exact .str x
  | .list ds, _, h => by
    cases h with
    | lst hs ha => exact .lst (e.seq hs) (dpAllSame e ha)
  | .tuple ds, _, h => by
    cases h with
    | tup hs ha => exact .tup (e.seqT hs) (dpAllSame e ha)
  | .dict _, _, h => by cases h
theorem dpAllSame {K : PySem.W.Frag} {H H' : Hp} (e : Same H H') : ∀ {ds : List PyData} {vs : List V}, DpAll K H vs ds → DpAll K H' vs ds
  | [], _, h => by cases h; exact .nil
  | d :: ds, _, h => by
    cases h with
    | cons h1 h2 => exact .cons (dpSame e h1) (dpAllSame e h2)
end
theorem _root_.L2.Same.dp {K : PySem.W.Frag} {H H' : Hp} (e : Same H H') {d : PyData} {v : V} (h : Dp K H v d) : Dp K H' v d := dpSame e h
theorem _root_.L2.Same.dpAll {K : PySem.W.Frag} {H H' : Hp} (e : Same H H') {d : List PyData} {v : List V} (h : DpAll K H v d) : DpAll K H' v d := dpAllSame e h
theorem dpInts {K : PySem.W.Frag} {H : Hp} : ∀ xs : List Int, DpAll K H (xs.map V.int) (xs.map PyData.int)
  | [] => .nil
  | x :: xs => .cons (.int x) (dpInts xs)

theorem strans {H H1 H2 : Hp} (b : Same H1 H2) (a : Same H H1) : Same H H2 := a.trans b
theorem same_at {H H' : Hp} {a : Addr} {o : HO} (s : Same H H') (e : H a = some o) : H' a = some o := s _ _ e
/-! ### what a call gives -/
inductive Out where
  | ret (v : V)
  | err (C : Addr) (f : Str) (v : V)
  | err0 (C : Addr)
  | tup (xs : List V)
  | lst (R : Hp → List V → Prop)
def Gives (H : Hp) (Q : VK) (E : XK) : Out → Prop
  | .ret v => ∀ H', Same H H' → Q v H'
  | .err C f v => ∀ H' d, Same H H' → H' d = some (.xd [(f, v)]) → E (.ref C) (some d) H'
  | .err0 C => ∀ H', Same H H' → E (.ref C) none H'
  | .tup xs => ∀ H' p, Same H H' → H' p = some (.tup xs) → Q (.ref p) H'
  | .lst R => ∀ H' p vs, Same H H' → H p = none → H' p = some (.lst vs) → R H' vs → Q (.ref p) H'
theorem Gives.mono {H H' : Hp} {Q : VK} {E : XK} {o : Out} (h : Gives H Q E o) (s : Same H H') : Gives H' Q E o := by
  cases o with
  | ret v => exact fun H2 s2 => h H2 (s.trans s2)
  | err C f v => exact fun H2 d s2 e => h H2 d (s.trans s2) e
  | err0 C => exact fun H2 s2 => h H2 (s.trans s2)
  | tup xs => exact fun H2 p s2 e => h H2 p (s.trans s2) e
  | lst R => exact fun H2 p vs s2 n e r => h H2 p vs (s.trans s2) (s.free n) e r

theorem gret {H : Hp} {Q : VK} {E : XK} {o : Out} {v : V} (e : o = .ret v) (k : ∀ H', Same H H' → Q v H') : Gives H Q E o := by
  subst e
  exact k
theorem gerr {H : Hp} {Q : VK} {E : XK} {o : Out} {C : Addr} {f : Str} {v : V} (e : o = .err C f v) (k : ∀ H' d, Same H H' → H' d = some (.xd [(f, v)]) → E (.ref C) (some d) H') : Gives H Q E o := by
  subst e
  exact k
theorem gerr0 {H : Hp} {Q : VK} {E : XK} {o : Out} {C : Addr} (e : o = .err0 C) (k : ∀ H', Same H H' → E (.ref C) none H') : Gives H Q E o := by
  subst e
  exact k
/-! ### the readings, step by step -/
def Tru (K : PySem.W.Frag) (x : V) (H : Hp) (R : Bool → Prop) : Prop := ∃ k, TruV K x H k ∧ R k
def IsBl (x : V) (R : Bool → Prop) : Prop := ∃ k, x = .bl k ∧ R k
def Br (b : Bool) (A B : Prop) : Prop := if b = true then A else B
def NewO (o : HO) (n : Nat) (H : Hp) (Q : VK) : Prop := n ≤ sizeLine ∧ ∀ p, H p = none → Q (.ref p) (upd H p o)
def Par2 (vs : List V) (R : V → V → Prop) : Prop := ∃ v w, vs = [v, w] ∧ R v w
section
variable {D : Ends} {σ : St} {H : Hp} {Q : VK} {K : PySem.W.Frag} {ta tb tc te : TE} {t u : TS} {c c' : TT} {r : R2} {g : TG}
theorem tSeq_i (h : t { D with nx := u D } σ H) : tSeq t u D σ H := h
theorem tNext_i (h : D.nx σ H) : tNext D σ H := h
theorem tBreak_i (h : D.bk σ H) : tBreak D σ H := h
theorem tCont_i (h : D.ct σ H) : tCont D σ H := h
theorem tAsg_i (h : te σ H (fun x H1 => g x σ H1 D.nx)) : tAsg te g D σ H := h
theorem tDrop_i (h : te σ H fun _ H1 => D.nx σ H1) : tDrop te D σ H := h
theorem tRet_i (h : te σ H D.rt) : tRet te D σ H := h
theorem tRetN_i (h : D.rt .non H) : tRetN D σ H := h
theorem tIfS_i (h : c σ H fun b H1 => Br b (t D σ H1) (u D σ H1)) : tIfS c t u D σ H := h
theorem gName_i {i : Nat} {v : V} {R : St → Hp → Prop} (h : R (σ.set i (some v)) H) : gName i v σ H R := h
theorem tVar_i {i : Nat} {v : V} (e : σ[i]? = some (some v)) (h : Q v H) : tVar i σ H Q := ⟨v, e, h⟩
theorem tC_i {v : V} (h : Q v H) : tC v σ H Q := h
theorem tOp_i (h : ta σ H fun x H1 => tb σ H1 fun y H2 => r x y H2 Q) : tOp r ta tb σ H Q := h
theorem tUn_i {r : V → Hp → VK → Prop} (h : ta σ H fun x H1 => r x H1 Q) : tUn r ta σ H Q := h
theorem tNil_i {R : List V → Hp → Prop} (h : R [] H) : tNil σ H R := h
theorem tCons_i {tr : TA} {R : List V → Hp → Prop} (h : ta σ H fun x H1 => tr σ H1 fun xs H2 => R (x :: xs) H2) : tCons ta tr σ H R := h
theorem tTest_i {R : Bool → Hp → Prop} (h : te σ H fun x H' => IsBl x fun k => R k H') : tTest te σ H R := h
theorem tTruth_i {R : Bool → Hp → Prop} (h : te σ H fun x H1 => Tru K x H1 fun k => R k H1) : tTruth K te σ H R := h
theorem tAnd_i {R : Bool → Hp → Prop} (h : c σ H fun b H1 => Br b (c' σ H1 R) (R false H1)) : tAnd c c' σ H R := h
theorem tOr_i {R : Bool → Hp → Prop} (h : c σ H fun b H1 => Br b (R true H1) (c' σ H1 R)) : tOr c c' σ H R := h
theorem tNot_i {R : Bool → Hp → Prop} (h : c σ H fun b H1 => R (!b) H1) : tNot c σ H R := h
theorem tAndV_i (h : ta σ H fun x H1 => IsBl x fun b => Br b (tb σ H1 Q) (Q (.bl false) H1)) : tAndV ta tb σ H Q := h
theorem tOrV_i (h : ta σ H fun x H1 => IsBl x fun b => Br b (Q (.bl true) H1) (tb σ H1 Q)) : tOrV ta tb σ H Q := h
theorem tNotV_i (h : ta σ H fun x H1 => IsBl x fun b => Q (.bl (!b)) H1) : tNotV ta σ H Q := h
theorem tIf_i (h : c σ H fun b H1 => Br b (ta σ H1 Q) (tb σ H1 Q)) : tIf c ta tb σ H Q := h
theorem tCB_i {r : List V → Hp → VK → Prop} {ts : TA} (h : ts σ H fun vs H1 => r vs H1 Q) : tCB r ts σ H Q := h
theorem tCallS_i {sp : Sp} {E : St → XK} {ts : TA} (h : ts σ H fun vs H1 => sp vs H1 Q (E σ)) : tCallS sp E ts σ H Q := h
theorem tCall_i {sp : Sp} {dvs : List V} {E : XK} {ts : TA} (h : ts σ H fun vs H1 => sp (vs ++ dvs) H1 Q E) : tCall sp dvs E ts σ H Q := h
theorem tCallK_i {sp : Sp} {gV : List V → List V → List V} {E : XK} {ts tk : TA} (h : ts σ H fun vs H1 => tk σ H1 fun zs H2 => sp (gV vs zs) H2 Q E) : tCallK sp gV E ts tk σ H Q := h
theorem tChain_i {r' : R2} (h : ta σ H fun x H1 => tb σ H1 fun y H2 => r x y H2 fun z H3 => IsBl z fun k => Br k (tc σ H3 fun w H4 => r' y w H4 Q) (Q (.bl false) H3)) : tChain r r' ta tb tc σ H Q := h
theorem tTup_i {ts : TA} (h : ts σ H fun xs H1 => NewO (.tup xs) xs.length H1 Q) : tTup ts σ H Q := h
theorem tLst_i {ts : TA} (h : ts σ H fun xs H1 => NewO (.lst xs) xs.length H1 Q) : tLst ts σ H Q := h
theorem tPar_i {i j : Nat} {ts : TA} (h : ts σ H fun vs H1 => Par2 vs fun v w => D.nx ((σ.set i (some v)).set j (some w)) H1) : tPar i j ts D σ H := h
theorem Par2_i {v w : V} {R : V → V → Prop} (h : R v w) : Par2 [v, w] R := ⟨v, w, rfl, h⟩
theorem IsBl_i {b : Bool} {R : Bool → Prop} (h : R b) : IsBl (.bl b) R := ⟨b, rfl, h⟩
theorem new_i {n : Nat} {o : HO} (hn : n ≤ sizeLine) (h : ∀ p H', H p = none → Same H H' → H' p = some o → Q (.ref p) H') : NewO o n H Q :=
  ⟨hn, fun p hp => h p _ hp (Same.new hp) upd_same⟩
theorem Br_t {A B : Prop} (h : A) : Br true A B := iteT h
theorem Br_f {A B : Prop} (h : B) : Br false A B := iteF h
theorem Br_nt {A B : Prop} (h : B) : Br (!true) A B := iteF h
theorem Br_nf {A B : Prop} (h : A) : Br (!false) A B := iteT h
theorem Br_b {b : Bool} {A B : Prop} (h1 : b = true → A) (h2 : b = false → B) : Br b A B := by
  cases b
  · exact iteF (h2 rfl)
  · exact iteT (h1 rfl)
theorem Br_n {b : Bool} {A B : Prop} (h : Br b B A) : Br (!b) A B := by
  cases b
  · exact iteT (show A from h)
  · exact iteF (show B from h)
theorem Br_d {p : Prop} [Decidable p] {A B : Prop} (h1 : p → A) (h2 : ¬ p → B) : Br (decide p) A B :=
  Br_b (fun h => h1 (of_decide_eq_true h)) fun h => h2 (of_decide_eq_false h)
theorem Br_dt {p : Prop} [Decidable p] {A B : Prop} (hp : p) (h : A) : Br (decide p) A B := Br_d (fun _ => h) fun z => absurd hp z
theorem Br_df {p : Prop} [Decidable p] {A B : Prop} (hp : ¬ p) (h : B) : Br (decide p) A B := Br_d (fun z => absurd z hp) fun _ => h
/-! values -/
theorem rI0_i {f : Int → Int → V} {i j : Int} (h : Q (f i j) H) : rI0 f (.int i) (.int j) H Q := ⟨i, j, rfl, rfl, h⟩
theorem rI_i {C : Int → Int → Prop} {f : Int → Int → V} {i j : Int} (hc : C i j) (h : Q (f i j) H) : rI C f (.int i) (.int j) H Q := ⟨i, j, rfl, rfl, hc, h⟩
theorem rU_i {f : Int → V} {i : Int} (h : Q (f i) H) : rU f (.int i) H Q := ⟨i, rfl, h⟩
theorem rAddU_i {i j : Int} (h : Q (.int (i + j)) H) : rAddU K (.int i) (.int j) H Q := .inl ⟨i, j, rfl, rfl, h⟩
theorem rMulU_i {i j : Int} (hc : CMul i j) (h : Q (.int (i * j)) H) : rMulU (.int i) (.int j) H Q := .inl ⟨i, j, rfl, rfl, hc, h⟩
theorem rModP_i {i j : Int} (hc : 0 < j) (h : Q (.int (i % j)) H) : rModP (.int i) (.int j) H Q := ⟨i, j, rfl, rfl, hc, h⟩
theorem rDivP_i {i j : Int} (hc : CDiv i j) (h : Q (.int (i / j)) H) : rDivP (.int i) (.int j) H Q := ⟨i, j, rfl, rfl, hc, h⟩
theorem int_eq {i j : Int} : decide (V.int i = V.int j) = decide (i = j) := by rw [dec_int, Bool.beq_eq_decide_eq]
theorem str_eq {i j : Str} : decide (V.str i = V.str j) = decide (i = j) := by rw [dec_str, Bool.beq_eq_decide_eq]
theorem rEqU_i {i j : Int} (h : Q (.bl (decide (i = j))) H) : rEqU K (.int i) (.int j) H Q := .inl ⟨rfl, by rw [int_eq]; exact h⟩
theorem rNeU_i {i j : Int} (h : Q (.bl (!decide (i = j))) H) : rNeU K (.int i) (.int j) H Q := .inl ⟨rfl, by rw [int_eq]; exact h⟩
theorem rEqU_s {i j : Str} (h : Q (.bl (decide (i = j))) H) : rEqU K (.str i) (.str j) H Q := .inl ⟨rfl, by rw [str_eq]; exact h⟩
theorem rNeU_s {i j : Str} (h : Q (.bl (!decide (i = j))) H) : rNeU K (.str i) (.str j) H Q := .inl ⟨rfl, by rw [str_eq]; exact h⟩
theorem rIxU_l {p : Addr} {xs : List V} {i : Int} {v : V} (hs : SqL K H p xs) (ha : atI xs i = some v) (h : Q v H) : rIxU K (.ref p) (.int i) H Q := .inl ⟨p, xs, i, v, rfl, rfl, hs, ha, h⟩
theorem rIxU_t {p : Addr} {xs : List V} {i : Int} {v : V} (hs : SqT K H p xs) (ha : atI xs i = some v) (h : Q v H) : rIxU K (.ref p) (.int i) H Q := .inr (.inl ⟨p, xs, i, v, rfl, rfl, hs, ha, h⟩)
theorem isN_i {x : V} {R : VK} (h : R (.bl (decide (x = .non))) H) : V.non = V.non ∧ R (.bl (decide (x = .non))) H := ⟨rfl, h⟩
theorem call_int_i {i : Int} (h : Q (.int i) H) : (∃ j, [V.int i] = [V.int j] ∧ Q (.int j) H) ∨ ∃ k, [V.int i] = [V.bl k] ∧ Q (.int (if k then 1 else 0)) H := .inl ⟨i, rfl, h⟩
theorem rLen_l {p : Addr} {xs : List V} (hs : SqL K H p xs) (h : Q (.int xs.length) H) : rLen K [.ref p] H Q := ⟨_, _, rfl, .inl ⟨xs, hs, rfl⟩, h⟩
theorem rLen_t {p : Addr} {xs : List V} (hs : SqT K H p xs) (h : Q (.int xs.length) H) : rLen K [.ref p] H Q := ⟨_, _, rfl, .inr ⟨xs, hs, rfl⟩, h⟩
theorem and_pure {p : Prop} {q : Prop} (h1 : p) (h2 : q) : p ∧ q := ⟨h1, h2⟩
/-! new objects by values -/
theorem rSlL_i {a : Addr} {xs : List V} {lo hi : Option Int} (hS : SqL K H a xs) (h : ∀ p H', H p = none → Same H H' → H' p = some (.lst (cutV xs lo hi)) → Q (.ref p) H') : rSlL K (.ref a) lo hi H Q :=
  ⟨a, xs, rfl, hS, fun p hp => h p _ hp (Same.new hp) upd_same⟩
theorem rListOf_l {a : Addr} {xs : List V} (hS : SqL K H a xs) (h : ∀ p H', H p = none → Same H H' → H' p = some (.lst xs) → Q (.ref p) H') : rListOf K [.ref a] H Q :=
  ⟨a, xs, rfl, .inl hS, fun p hp => h p _ hp (Same.new hp) upd_same⟩
theorem rListOf_t {a : Addr} {xs : List V} (hS : SqT K H a xs) (h : ∀ p H', H p = none → Same H H' → H' p = some (.lst xs) → Q (.ref p) H') : rListOf K [.ref a] H Q :=
  ⟨a, xs, rfl, .inr hS, fun p hp => h p _ hp (Same.new hp) upd_same⟩
theorem rTupleOf_l {a : Addr} {xs : List V} (hS : SqL K H a xs) (h : ∀ p H', H p = none → Same H H' → H' p = some (.tup xs) → Q (.ref p) H') : rTupleOf K [.ref a] H Q :=
  ⟨a, xs, rfl, .inl ⟨hS, fun p hp => h p _ hp (Same.new hp) upd_same⟩⟩
theorem rAddU_l {a b : Addr} {xs ys : List V} (ha : H a = some (.lst xs)) (hb : H b = some (.lst ys)) (hn : xs.length + ys.length ≤ sizeLine) (h : ∀ p H', H p = none → Same H H' → H' p = some (.lst (xs ++ ys)) → Q (.ref p) H') : rAddU K (.ref a) (.ref b) H Q :=
  .inr (.inl ⟨a, b, xs, ys, rfl, rfl, ha, hb, hn, fun p hp => h p _ hp (Same.new hp) upd_same⟩)
theorem eqD_i {x y : V} {d e : PyData} (hx : Dp K H x d) (hy : Dp K H y e) (sd : SeqAt.shaped d = true) (se : SeqAt.shaped e = true) (h : Q (.bl (PyData.eqv d e)) H) : rEqU K x y H Q := .inr ⟨d, e, hx, hy, sd, se, h⟩
theorem neD_i {x y : V} {d e : PyData} (hx : Dp K H x d) (hy : Dp K H y e) (sd : SeqAt.shaped d = true) (se : SeqAt.shaped e = true) (h : Q (.bl (!PyData.eqv d e)) H) : rNeU K x y H Q := .inr ⟨d, e, hx, hy, sd, se, h⟩
/-! an append -/
theorem del_upd {H : Hp} {D : Addr} {o : HO} : del (upd H D o) D = del H D := by
  funext b
  by_cases hb : b = D
  · rw [hb, del_same, del_same]
  · rw [del_ne hb, upd_ne hb, del_ne hb]
def Chg (o : Addr) (H H' : Hp) : Prop := ∀ b u, b ≠ o → H b = some u → H' b = some u
theorem append_i {l : Addr} {xs : List V} {y : V} (hl : H l = some (.lst xs)) (hn : xs.length < sizeLine) (h : ∀ H', Chg l H H' → H' l = some (.lst (xs ++ [y])) → ((∀ H0, Same H0 H → H0 l = none → Same H0 H') ∧ del H' l = del H l) → Q .non H') : rAppend (.ref l) [y] H Q :=
  ⟨l, xs, y, rfl, rfl, hl, hn, h _ (fun b u hb e => by rw [upd_ne hb]; exact e) upd_same ⟨fun H0 s0 n => Same.upd s0 n, del_upd⟩⟩
theorem append_ints {l : Addr} {xs : List Int} {y : Int} (hl : H l = some (.lst (xs.map V.int))) (hn : xs.length < 1000000) (h : ∀ H', Chg l H H' → H' l = some (.lst ((xs ++ [y]).map V.int)) → (∀ H0, Same H0 H → H0 l = none → Same H0 H') → Q .non H') : rAppend (.ref l) [.int y] H Q :=
  append_i hl (by rw [List.length_map]; exact Nat.lt_trans hn (by decide)) fun H' c e s => h H' c (by rw [List.map_append]; exact e) s.1
def Dg (xs : List Int) : Prop := ∀ x ∈ xs, 0 ≤ x ∧ x < 1000
theorem dg_nil : Dg [] := fun _ h => nomatch h
theorem dg_app {xs : List Int} {y : Int} (h : Dg xs) (hy : 0 ≤ y ∧ y < 1000) : Dg (xs ++ [y]) := fun x hx => (List.mem_append.mp hx).elim (h x) fun z => by
  rw [List.mem_singleton.mp z]
  exact hy
theorem dg_mod {z : Int} : 0 ≤ z % 1000 ∧ z % 1000 < 1000 := by omega
theorem dg_take {xs : List Int} {n : Nat} (h : Dg xs) : Dg (xs.take n) := fun x hx => h x (List.mem_of_mem_take hx)
theorem cut_take {xs : List Int} {c : Int} (h0 : 0 ≤ c) (h1 : c ≤ xs.length) : cutV (xs.map V.int) none (some c) = (xs.take c.toNat).map V.int := by
  unfold cutV
  obtain ⟨n, rfl⟩ : ∃ n : Nat, c = (n : Int) := ⟨c.toNat, by omega⟩
  rw [HT.sIx_none, HT.sIx_nat, List.drop_zero, Nat.sub_zero, List.length_map, Nat.min_eq_left (by omega), Int.toNat_natCast, List.map_take]
/-- the drawn numbers and the counter -/
def Draw (K : PySem.W.Frag) (H : Hp) (c a : Addr) : Prop := (∃ xs : List Int, SqL K H c (xs.map V.int) ∧ 0 < xs.length) ∧ H a = some (cellO a)
theorem _root_.L2.Same.draw {K : PySem.W.Frag} {H H' : Hp} {c a : Addr} (s : Same H H') (h : Draw K H c a) : Draw K H' c a := by
  obtain ⟨⟨xs, h1, h2⟩, h3⟩ := h
  exact ⟨⟨xs, s.seq h1, h2⟩, s _ _ h3⟩
theorem tBM_i {T : String} {r : V → List V → Hp → VK → Prop} {to : TE} {ts : TA} (h : to σ H fun x H1 => tyV K T x H1 ∧ ts σ H1 fun xs H2 => r x xs H2 Q) : tBM K T r to ts σ H Q := h
theorem tyL {a : Addr} {xs : List V} {A : Prop} (hS : SqL K H a xs) (h : A) : tyV K "list" (.ref a) H ∧ A := ⟨.inl ⟨rfl, xs, hS⟩, h⟩
theorem tSl_i {r : V → Option Int → Option Int → Hp → VK → Prop} {tl th : TO} (h : te σ H fun x H1 => tl σ H1 fun l H2 => th σ H2 fun u H3 => r x l u H3 Q) : tSl r te tl th σ H Q := h
theorem tNoPart_i {R : Option Int → Hp → Prop} (h : R none H) : tNoPart σ H R := h
def PartI (x : V) (R : Option Int → Prop) : Prop := ∃ i, x = .int i ∧ R (some i)
theorem PartI_i {i : Int} {R : Option Int → Prop} (h : R (some i)) : PartI (.int i) R := ⟨i, rfl, h⟩
theorem tPart_i {R : Option Int → Hp → Prop} (h : te σ H fun x H1 => PartI x fun o => R o H1) : tPart te σ H R := h
theorem rInt1_i {i : Int} (h : Q (.int i) H) : rInt1 [.int i] H Q := .inl ⟨i, rfl, h⟩
theorem rInt1_b {k : Bool} (h : Q (.int (if k then 1 else 0)) H) : rInt1 [.bl k] H Q := .inr ⟨k, rfl, h⟩
theorem rMin2_i {i j : Int} (h : Q (.int (if j < i then j else i)) H) : rMin2 [.int i, .int j] H Q := ⟨i, j, rfl, h⟩
theorem rMax2_i {i j : Int} (h : Q (.int (if j > i then j else i)) H) : rMax2 [.int i, .int j] H Q := ⟨i, j, rfl, h⟩
theorem rAbs_i {i : Int} (h : Q (.int (if i < 0 then -i else i)) H) : rAbs [.int i] H Q := ⟨i, rfl, h⟩
theorem Tru_b {b : Bool} {R : Bool → Prop} (h : R b) : Tru K (.bl b) H R := ⟨b, rfl, h⟩
theorem Tru_i {i : Int} {R : Bool → Prop} (h : R (i != 0)) : Tru K (.int i) H R := ⟨_, rfl, h⟩
theorem Tru_n {R : Bool → Prop} (h : R false) : Tru K .non H R := ⟨_, rfl, h⟩
theorem rIsN_i {x : V} (h : Q (.bl (decide (x = .non))) H) : rIsN x .non H Q := ⟨rfl, h⟩
theorem rNotN_i {x : V} (h : Q (.bl (!decide (x = .non))) H) : rNotN x .non H Q := ⟨rfl, h⟩
theorem rSum_i {a : Addr} (ns : List Int) (hS : SqL K H a (ns.map V.int)) (h : Q (.int ns.sum) H) : rSum K [.ref a] H Q := ⟨a, ns, rfl, hS, h⟩
theorem rAll_i {a : Addr} (bs : List Bool) (hS : SqL K H a (bs.map V.bl)) (h : Q (.bl (bs.all id)) H) : rAll K [.ref a] H Q := ⟨a, bs, rfl, hS, h⟩
/-! raising -/
def spI1 (f : Str) (K : PySem.W.Frag) : Sp := fun vs H Q _ => ∃ (a C : Addr) (v : V), vs = [.ref a, v] ∧ OexC K C ∧ PySem.W.findIn K (.ref C) f = some none ∧ H a = some (exo a C none) ∧
  ∀ dx, H dx = none → dx ≠ a → Q .non (upd (upd H dx (exd dx [(f, v)])) a (exo a C (some dx)))
theorem spI1_len {f : Str} {vs : List V} {E : XK} (h : spI1 f K vs H Q E) : vs.length = 2 := by
  obtain ⟨a, C, v, rfl, _⟩ := h
  rfl
theorem spI1_body {f : Str} {N : List Str} {vs : List V} {E : XK} (h : spI1 f K vs H Q E) : tOst K f (tVar 0) (tVar 1) { nx := fun _ H' => Q .non H', rt := Q } (start N vs) H := by
  obtain ⟨a, C, v, rfl, T, hn, ha, k⟩ := h
  exact ⟨v, rfl, .ref a, rfl, a, C, rfl, T, hn, .inl ⟨ha, k⟩⟩
def MkO1 (C : Addr) (sp : Sp) (vs : List V) (H1 : Hp) (R : XK) : Prop := vs.length ≤ 1000 ∧ ∀ a, H1 a = none → sp (.ref a :: (vs ++ [])) (upd H1 a (exo a C none))
  (fun v H2 => v = .non ∧ ∃ (d : Addr) (fs : List (Str × V)), H2 a = some (exo a C (some d)) ∧ H2 d = some (exd d fs) ∧ H1 d = none ∧ R (.ref C) (some d) (upd (del H2 a) d (.xd fs))) (fun _ _ _ => False)
theorem tMkO_i {C : Addr} {sp : Sp} {ts : TA} {R : XK} (h : ts σ H fun vs H1 => MkO1 C sp vs H1 R) : tMkO C sp [] ts σ H R := h
theorem mkO1 {C : Addr} {f : Str} {v : V} {R : XK} (T : OexC K C) (hn : PySem.W.findIn K (.ref C) f = some none) (k : ∀ H' d, Same H H' → H' d = some (.xd [(f, v)]) → R (.ref C) (some d) H') : MkO1 C (spI1 f K) [v] H R := by
  refine ⟨by show 1 ≤ 1000; omega, fun a ha => ⟨a, C, v, rfl, T, hn, upd_same, fun dx hd hne => ⟨rfl, dx, [(f, v)], upd_same, ?_, ?_, k _ dx ?_ upd_same⟩⟩⟩
  · rw [upd_ne hne, upd_same]
  · rw [upd_ne hne] at hd
    exact hd
  · rw [upd_ne hne] at hd
    intro b u e
    have hb : b ≠ a := ne_of_none e ha
    rw [upd_ne (ne_of_none e hd), del_ne hb, upd_ne hb, upd_ne (ne_of_none e hd), upd_ne hb]
    exact e
/-! while -/
theorem while_w (W : Nat → St → Hp → Prop) (m : Nat) (h0 : W m σ H)
    (hs : ∀ m σ H, W m σ H → c σ H fun b H1 => Br b (∃ N : St → Hp → Prop, (∀ σ' H', N σ' H' → ∃ m', m' < m ∧ W m' σ' H') ∧ t { D with nx := N, ct := N, bk := D.nx } σ H1) (D.nx σ H1)) : tWhile c t D σ H := ⟨W, ⟨m, h0⟩, hs⟩
theorem turn_w {W : Nat → St → Hp → Prop} {m : Nat} (h : t { D with nx := fun σ' H' => ∃ m', m' < m ∧ W m' σ' H', ct := fun σ' H' => ∃ m', m' < m ∧ W m' σ' H', bk := D.nx } σ H) :
    ∃ N : St → Hp → Prop, (∀ σ' H', N σ' H' → ∃ m', m' < m ∧ W m' σ' H') ∧ t { D with nx := N, ct := N, bk := D.nx } σ H := ⟨_, fun _ _ z => z, h⟩
end
end EL

namespace EL
open PySem PySem.Spec PyProof.Rows L2

/-! ### sources: what an iterator gives while the heap says ok -/
structure Src (J : It) (n : Nat) (ok : Hp → Prop) (itm : Nat → V → Hp → Hp → Prop) : Prop where
  go : ∀ i H, ok H → i < n → J.go i H
  stop : ∀ i H, ok H → n ≤ i → J.stop i H
  yld : ∀ i H x H', ok H → i < n → J.yld i H x H' → itm i x H H'
def itmL (xs : List V) : Nat → V → Hp → Hp → Prop := fun i x H H' => H' = H ∧ xs[i]? = some x
def itmR (lo : Int) : Nat → V → Hp → Hp → Prop := fun i x H H' => H' = H ∧ x = .int (lo + (i : Nat))
def itmE (xs : List V) : Nat → V → Hp → Hp → Prop := fun i x H H' => ∃ p y, x = .ref p ∧ H p = none ∧ Same H H' ∧ H' p = some (.tup [.int (i : Nat), y]) ∧ xs[i]? = some y
def itmZ (xs ys : List V) : Nat → V → Hp → Hp → Prop := fun i x H H' => ∃ p y z, x = .ref p ∧ H p = none ∧ Same H H' ∧ H' p = some (.tup [y, z]) ∧ xs[i]? = some y ∧ ys[i]? = some z
section
variable {K : PySem.W.Frag} {a b : Addr} {xs ys : List V}
theorem srcL : Src (Itl K a) xs.length (fun H => SqL K H a xs) (itmL xs) where
  go := fun i H h hi => ⟨xs, xs[i], h, by simp [hi]⟩
  stop := fun i H h hi => ⟨xs, h, hi⟩
  yld := fun i H x H' h _ ⟨e, y⟩ => ⟨e, y xs h⟩
theorem srcT : Src (Itt K a) xs.length (fun H => SqT K H a xs) (itmL xs) where
  go := fun i H h hi => ⟨xs, xs[i], h, by simp [hi]⟩
  stop := fun i H h hi => ⟨xs, h, hi⟩
  yld := fun i H x H' h _ ⟨e, y⟩ => ⟨e, y xs h⟩
theorem srcR {lo : Int} {n : Nat} : Src (Itr lo n) n (fun _ => True) (itmR lo) where
  go := fun i H h hi => hi
  stop := fun i H h hi => hi
  yld := fun i H x H' h _ y => y
theorem srcE : Src (Ite K a) xs.length (fun H => SqL K H a xs) (itmE xs) where
  go := fun i H h hi => ⟨xs, xs[i], h, by simp [hi]⟩
  stop := fun i H h hi => ⟨xs, h, hi⟩
  yld := fun i H x H' h _ ⟨p, y, e1, e2, e3, e4⟩ => ⟨p, y, e1, e2, e3 ▸ Same.new e2, e3 ▸ upd_same, e4 xs h⟩
theorem srcZ : Src (Itz K a b) (min xs.length ys.length) (fun H => SqL K H a xs ∧ SqL K H b ys) (itmZ xs ys) where
  go := fun i H h hi => ⟨xs, ys, xs[i]'(by omega), ys[i]'(by omega), h.1, h.2, by simp, by simp⟩
  stop := fun i H h hi => ⟨xs, ys, h.1, h.2, by omega⟩
  yld := fun i H x H' h _ ⟨p, y, z, e1, e2, e3, e4, e5⟩ => ⟨p, y, z, e1, e2, e3 ▸ Same.new e2, e3 ▸ upd_same, e4 xs h.1, e5 ys h.2⟩
theorem srcZT : Src (RZ.ItzT K a b) (min xs.length ys.length) (fun H => SqT K H a xs ∧ SqT K H b ys) (itmZ xs ys) where
  go := fun i H h hi => ⟨xs, ys, xs[i]'(by omega), ys[i]'(by omega), h.1, h.2, by simp, by simp⟩
  stop := fun i H h hi => ⟨xs, ys, h.1, h.2, by omega⟩
  yld := fun i H x H' h _ ⟨p, y, z, e1, e2, e3, e4, e5⟩ => ⟨p, y, z, e1, e2, e3 ▸ Same.new e2, e3 ▸ upd_same, e4 xs h.1, e5 ys h.2⟩
end
/-! how a source begins: R is what is wanted of the iterator and of the heap -/
section
variable {σ : St} {H : Hp} {K : PySem.W.Frag} {te : TE} {ts : TA} {R : It → Hp → Prop}
def WL (K : PySem.W.Frag) (R : It → Hp → Prop) (x : V) (H : Hp) : Prop := ∃ a, x = .ref a ∧ (∃ xs, SqL K H a xs) ∧ R (Itl K a) H
def WT (K : PySem.W.Frag) (R : It → Hp → Prop) (x : V) (H : Hp) : Prop := ∃ a, x = .ref a ∧ (∃ xs, SqT K H a xs) ∧ R (Itt K a) H
def W1 (R : It → Hp → Prop) (vs : List V) (H : Hp) : Prop := ∃ j : Int, vs = [.int j] ∧ -(2 ^ 62) ≤ j ∧ j < 2 ^ 62 ∧ R (Itr 0 j.toNat) H
def W2 (R : It → Hp → Prop) (vs : List V) (H : Hp) : Prop := ∃ i j : Int, vs = [.int i, .int j] ∧ (-(2 ^ 62) ≤ i ∧ i < 2 ^ 62 ∧ -(2 ^ 62) ≤ j ∧ j < 2 ^ 62) ∧ R (Itr i (j - i).toNat) H
def WE (K : PySem.W.Frag) (R : It → Hp → Prop) (vs : List V) (H : Hp) : Prop := ∃ a xs, vs = [.ref a] ∧ SqL K H a xs ∧ R (Ite K a) H
def WZ (K : PySem.W.Frag) (R : It → Hp → Prop) (vs : List V) (H : Hp) : Prop := ∃ a b xs ys, vs = [.ref a, .ref b] ∧ SqL K H a xs ∧ SqL K H b ys ∧ R (Itz K a b) H
theorem wL (h : te σ H (WL K R)) : iU K te σ H R := .inl h
theorem wT (h : te σ H (WT K R)) : iU K te σ H R := .inr h
theorem w1 (h : ts σ H (W1 R)) : iRng1 ts σ H R := h
theorem w2 (h : ts σ H (W2 R)) : iRng2 ts σ H R := h
theorem wE (h : ts σ H (WE K R)) : iEnum K ts σ H R := h
theorem wZ (h : ts σ H (WZ K R)) : iZip K ts σ H R := h
theorem WL_i {a : Addr} (xs : List V) (hS : SqL K H a xs) (h : R (Itl K a) H) : WL K R (.ref a) H := ⟨a, rfl, ⟨xs, hS⟩, h⟩
theorem WT_i {a : Addr} (xs : List V) (hS : SqT K H a xs) (h : R (Itt K a) H) : WT K R (.ref a) H := ⟨a, rfl, ⟨xs, hS⟩, h⟩
theorem W1_i {j : Int} (h1 : -(2 ^ 62) ≤ j ∧ j < 2 ^ 62) (h : R (Itr 0 j.toNat) H) : W1 R [.int j] H := ⟨j, rfl, h1.1, h1.2, h⟩
theorem W2_i {i j : Int} (h1 : -(2 ^ 62) ≤ i ∧ i < 2 ^ 62 ∧ -(2 ^ 62) ≤ j ∧ j < 2 ^ 62) (h : R (Itr i (j - i).toNat) H) : W2 R [.int i, .int j] H := ⟨i, j, rfl, h1, h⟩
theorem WE_i {a : Addr} (xs : List V) (hS : SqL K H a xs) (h : R (Ite K a) H) : WE K R [.ref a] H := ⟨a, xs, rfl, hS, h⟩
theorem WZ_i {a b : Addr} (xs ys : List V) (hS : SqL K H a xs) (hT : SqL K H b ys) (h : R (Itz K a b) H) : WZ K R [.ref a, .ref b] H := ⟨a, b, xs, ys, rfl, hS, hT, h⟩
end

/-! ### for -/
def ForB (g : TG) (tb : TS) (D : Ends) (σ : St) (J : It) (H : Hp) : Prop := ∃ W : Nat → Nat → St → Hp → Prop, (∃ m, W 0 m σ H) ∧ ∀ i m σ H, W i m σ H →
  (J.stop i H ∧ D.nx σ H) ∨ (J.go i H ∧ ∃ N : St → Hp → Prop, (∀ σ' H', N σ' H' → ∃ m', m' < m ∧ W (i + 1) m' σ' H') ∧ ∀ x H', J.yld i H x H' → g x σ H' fun σ2 H2 => tb { D with nx := N, ct := N, bk := D.nx } σ2 H2)
section
variable {σ : St} {H : Hp} {wi : TI} {g : TG} {tb : TS} {D : Ends} {J : It} {n : Nat} {ok : Hp → Prop} {itm : Nat → V → Hp → Hp → Prop}
theorem tFor_i (h : wi σ H (ForB g tb D σ)) : tFor wi g tb D σ H := h
theorem forS (S : Src J n ok itm) (Pv : Nat → St → Hp → Prop) (h0 : Pv 0 σ H) (hok : ∀ i σ H, i ≤ n → Pv i σ H → ok H)
    (hs : ∀ i σ H x H', i < n → Pv i σ H → itm i x H H' → g x σ H' fun σ2 H2 => tb { D with nx := Pv (i + 1), ct := Pv (i + 1), bk := D.nx } σ2 H2) (hd : ∀ σ H, Pv n σ H → D.nx σ H) : ForB g tb D σ J H := by
  refine ⟨fun i m σ H => m = n - i ∧ i ≤ n ∧ Pv i σ H, ⟨n, by simp, Nat.zero_le _, h0⟩, ?_⟩
  rintro i m σ H ⟨rfl, hi, p⟩
  have q := hok i σ H hi p
  by_cases hlt : i < n
  · exact .inr ⟨S.go i H q hlt, Pv (i + 1), fun σ' H' p' => ⟨n - (i + 1), by omega, rfl, hlt, p'⟩, fun x H' y => hs i σ H x H' hlt p (S.yld i H x H' q hlt y)⟩
  · have e : i = n := by omega
    subst e
    exact .inl ⟨S.stop i H q (Nat.le_refl _), hd σ H p⟩
/-- turn by turn -/
def AndR (A B : Prop) : Prop := A ∧ B
def runS (ok : Hp → Prop) (g : TG) (tb : TS) (D : Ends) : List V → St → Hp → Prop
  | [], σ, H => D.nx σ H
  | x :: r, σ, H => g x σ H fun σ2 H2 => tb { D with nx := fun σ' H' => AndR (ok H') (runS ok g tb D r σ' H'), ct := fun σ' H' => AndR (ok H') (runS ok g tb D r σ' H'), bk := D.nx } σ2 H2
theorem forRun {xs : List V} (S : Src J xs.length ok (itmL xs)) (hS : ok H) (h : runS ok g tb D xs σ H) : ForB g tb D σ J H := by
  refine forS S (fun i σ H => ok H ∧ runS ok g tb D (xs.drop i) σ H) ⟨hS, by rw [List.drop_zero]; exact h⟩ (fun i σ H _ z => z.1) (fun i σ H x H' hi z hx => ?_) (fun σ H z => ?_)
  · obtain ⟨rfl, hx⟩ := hx
    have z2 := z.2
    obtain ⟨hi, e⟩ := List.getElem?_eq_some_iff.mp hx
    rw [List.drop_eq_getElem_cons hi, e] at z2
    exact z2
  · have z2 := z.2
    rw [List.drop_length] at z2
    exact z2
theorem runS_cons {x : V} {r : List V} (h : g x σ H fun σ2 H2 => tb { D with nx := fun σ' H' => AndR (ok H') (runS ok g tb D r σ' H'), ct := fun σ' H' => AndR (ok H') (runS ok g tb D r σ' H'), bk := D.nx } σ2 H2) : runS ok g tb D (x :: r) σ H := h
theorem run_next {A B : Prop} (h1 : A) (h2 : B) : AndR A B := ⟨h1, h2⟩
theorem runS_nil (h : D.nx σ H) : runS ok g tb D [] σ H := h
end

theorem tCell_i {σ : St} {H : Hp} {Q : VK} (h : ∀ p H', H p = none → Same H H' → H' p = some (cellO p) → Q (.ref p) H') : tCell σ H Q := fun p hp => h p _ hp (Same.new hp) upd_same
theorem cut_i {t u : TS} {D : Ends} {σ : St} {H : Hp} (M : St → Hp → Prop) (h : t { D with nx := M } σ H) (k : ∀ σ' H', M σ' H' → u D σ' H') : tCut t u D σ H := ⟨M, h, k⟩
theorem cut_s {t u : TS} {D : Ends} {σ : St} {H : Hp} (h : t { D with nx := u D } σ H) : tCut t u D σ H := ⟨u D, h, fun _ _ z => z⟩
/-! ### targets -/
section
variable {σ : St} {H : Hp} {K : PySem.W.Frag} {R : St → Hp → Prop} {t : TG} {u : TGs}
theorem gTup_i {n : Nat} {a : Addr} {xs : List V} (hS : SqT K H a xs) (hl : xs.length = n) (h : u xs σ H R) : gTup K n u (.ref a) σ H R := ⟨a, xs, rfl, hS, hl, h⟩
theorem gCons_i {v : V} {r : List V} (h : t v σ H fun σ' H' => u r σ' H' R) : gCons t u (v :: r) σ H R := ⟨v, r, rfl, h⟩
theorem gNil_i (h : R σ H) : gNil [] σ H R := ⟨rfl, h⟩
def SubE (s : TSet) (o i v : V) (H : Hp) (R : Hp → Prop) : Prop := s o i v H R
theorem gSub_i {to ti : TE} {s : TSet} {v : V} (h : to σ H fun o H1 => ti σ H1 fun i H2 => SubE s o i v H2 fun H3 => R σ H3) : gSub to ti s v σ H R := h
theorem setL_i {p : Addr} {xs : List V} {k : Int} {j : Nat} {v : V} {R : Hp → Prop} (hp : H p = some (.lst xs)) (hj : ixN xs.length k = some j)
    (h : ∀ H', Chg p H H' → H' p = some (.lst (xs.set j v)) → (∀ H0, Same H0 H → H0 p = none → Same H0 H') → R H') : SubE rSetU (.ref p) (.int k) v H R :=
  .inl ⟨p, xs, k, j, rfl, rfl, hp, hj, h _ (fun b u hb e => by rw [upd_ne hb]; exact e) upd_same fun H0 s0 n => Same.upd s0 n⟩
theorem setC_i {p : Addr} {n : Int} {R : Hp → Prop} (hp : H p = some (cellO p)) (h : R H) : SubE rSetU (.ref p) (.int 0) (.int n) H R := .inr ⟨p, n, rfl, rfl, rfl, hp, h⟩
theorem rIxU_c {K : PySem.W.Frag} {p : Addr} {Q : VK} (hp : H p = some (cellO p)) (h : ∀ n, Q (.int n) H) : rIxU K (.ref p) (.int 0) H Q := .inr (.inr (.inl ⟨p, rfl, rfl, hp, h⟩))
end

/-! ### comprehensions: the new list at D aside -/
theorem del_id {H : Hp} {D : Addr} (h : H D = none) : del H D = H := by
  funext b
  by_cases hb : b = D
  · rw [hb, del_same, h]
  · rw [del_ne hb]
theorem _root_.L2.Same.del {H H' : Hp} {D : Addr} (h : Same H H') : Same (L2.del H D) (L2.del H' D) := fun b o e => by
  by_cases hb : b = D
  · rw [hb, del_same] at e
    cases e
  · rw [del_ne hb] at e
    rw [del_ne hb]
    exact h b o e
theorem _root_.L2.Same.undel {H : Hp} {D : Addr} : Same (L2.del H D) H := fun b o e => by
  by_cases hb : b = D
  · rw [hb, del_same] at e
    cases e
  · rw [del_ne hb] at e
    exact e
theorem _root_.L2.Same.todel {H H' : Hp} {D : Addr} (h : Same H H') (n : H D = none) : Same H (L2.del H' D) := by
  have q := h.del (D := D)
  rw [del_id n] at q
  exact q
theorem del_at {H : Hp} {D p : Addr} {o : HO} (h : H p = some o) (ne : p ≠ D) : del H D p = some o := by rw [del_ne ne]; exact h
theorem del_new {H H' : Hp} {D p : Addr} {o o' : HO} (h : H' p = some o) (np : H p = none) (hD : H D = some o') : del H' D p = some o := del_at h fun e => by
  rw [e, hD] at np
  cases np
def LcB (g : TG) (tt : TT) (te : TE) (vs : List Nat) (σ : St) (Q : VK) (J : It) (H1 : Hp) : Prop := ∀ D, H1 D = none → ∃ W : Nat → Nat → Hp → Prop, (∃ m, W 0 m (upd H1 D (.lst []))) ∧ ∀ i m H, W i m H →
  (J.stop i H ∧ Q (.ref D) H) ∨ (J.go i H ∧ ∃ Nx : Hp → Prop, (∀ H', Nx H' → ∃ m', m' < m ∧ W (i + 1) m' H') ∧ ∀ x H', J.yld i H x H' → g x (wipe σ vs) H' fun σ2 H2 => wipe σ2 vs = wipe σ vs ∧ tt σ2 H2 fun b H3 =>
    if b = true then te σ2 H3 fun y H4 => ∃ acc, H4 D = some (.lst acc) ∧ acc.length < sizeLine ∧ Nx (upd H4 D (.lst (acc ++ [y]))) else Nx H3)
/-- what a turn of the comprehension must reach -/
def LcP (H0 : Hp) (D : Addr) (J : Nat → Hp → List V → Prop) (i : Nat) (H : Hp) : Prop := ∃ acc, Same H0 H ∧ H D = some (.lst acc) ∧ J i (del H D) acc
def LcY (D : Addr) (N : Hp → Prop) (y : V) (H4 : Hp) : Prop := ∃ acc, H4 D = some (.lst acc) ∧ acc.length < sizeLine ∧ N (upd H4 D (.lst (acc ++ [y])))
section
variable {σ : St} {H : Hp} {wi : TI} {g : TG} {tt : TT} {te : TE} {J : It} {n : Nat} {ok : Hp → Prop} {itm : Nat → V → Hp → Hp → Prop} {vs : List Nat} {Q : VK}
theorem tLc_i (h : wi σ H (LcB g tt te vs σ Q)) : tLc wi g tt te vs σ H Q := h
/-- C: what is known of the i items so far, the new list's entries and the heap without the new list -/
theorem lcS (S : Src J n ok itm) (C : Nat → Hp → List V → Prop) (hok : ∀ H', Same H H' → ok H') (h0 : C 0 H [])
    (hs : ∀ D i acc H1 x H2, i < n → H D = none → Same H H1 → H1 D = some (.lst acc) → C i (del H1 D) acc → itm i x H1 H2 → g x (wipe σ vs) H2 fun σ2 H2 => wipe σ2 vs = wipe σ vs ∧ tt σ2 H2 fun b H3 =>
      Br b (te σ2 H3 (LcY D (LcP H D C (i + 1)))) (LcP H D C (i + 1) H3))
    (hd : ∀ D acc H1, H D = none → Same H H1 → H1 D = some (.lst acc) → C n (del H1 D) acc → Q (.ref D) H1) : LcB g tt te vs σ Q J H := by
  intro D hD
  refine ⟨fun i m H' => m = n - i ∧ i ≤ n ∧ LcP H D C i H', ⟨n, by simp, Nat.zero_le _, [], Same.new hD, upd_same, by rw [del_upd, del_id hD]; exact h0⟩, ?_⟩
  rintro i m H1 ⟨rfl, hi, p⟩
  obtain ⟨acc, s1, e1, j1⟩ := id p
  have q := hok _ s1
  by_cases hlt : i < n
  · exact .inr ⟨S.go i H1 q hlt, LcP H D C (i + 1), fun H' p' => ⟨n - (i + 1), by omega, rfl, hlt, p'⟩, fun x H' y => hs D i acc H1 x H' hlt hD s1 e1 j1 (S.yld i H1 x H' q hlt y)⟩
  · have e : i = n := by omega
    subst e
    exact .inl ⟨S.stop i H1 q (Nat.le_refl _), hd D acc H1 hD s1 e1 j1⟩
theorem wipe_i {σ2 : St} {A : Prop} (h1 : wipe σ2 vs = wipe σ vs) (h2 : A) : wipe σ2 vs = wipe σ vs ∧ A := ⟨h1, h2⟩
theorem tYes_i {R : Bool → Hp → Prop} (h : R true H) : tYes σ H R := h
theorem lcY {D : Addr} {H0 : Hp} {C : Nat → Hp → List V → Prop} {i : Nat} {acc : List V} {y : V} (nD : H0 D = none) (s : Same H0 H) (e : H D = some (.lst acc)) (hl : acc.length < sizeLine) (j : C i (del H D) (acc ++ [y])) : LcY D (LcP H0 D C i) y H :=
  ⟨acc, e, hl, acc ++ [y], Same.upd s nD, upd_same, by rw [del_upd]; exact j⟩
theorem lcN {D : Addr} {H0 : Hp} {C : Nat → Hp → List V → Prop} {i : Nat} {acc : List V} (s : Same H0 H) (e : H D = some (.lst acc)) (j : C i (del H D) acc) : LcP H0 D C i H := ⟨acc, s, e, j⟩
end
/-! two clauses -/
def LcB2 (g : TG) (tt : TT) (wi1 : TI) (g1 : TG) (tt1 : TT) (te : TE) (vs vs1 : List Nat) (σ : St) (Q : VK) (J : It) (H1 : Hp) : Prop := ∀ D, H1 D = none → ∃ W : Nat → Nat → Hp → Prop, (∃ m, W 0 m (upd H1 D (.lst []))) ∧ ∀ i m H, W i m H →
  (J.stop i H ∧ Q (.ref D) H) ∨ (J.go i H ∧ ∃ Nx : Hp → Prop, (∀ H', Nx H' → ∃ m', m' < m ∧ W (i + 1) m' H') ∧ ∀ x H', J.yld i H x H' → g x (wipe σ vs) H' fun σ2 H2 => wipe σ2 vs = wipe σ vs ∧ tt σ2 H2 fun b H3 =>
    if b = true then wi1 σ2 H3 fun J1 H4 => ∃ W1 : Nat → Nat → Hp → Prop, (∃ m, W1 0 m H4) ∧ ∀ j k H, W1 j k H →
      (J1.stop j H ∧ Nx H) ∨ (J1.go j H ∧ ∃ Nx1 : Hp → Prop, (∀ H', Nx1 H' → ∃ k', k' < k ∧ W1 (j + 1) k' H') ∧ ∀ x H', J1.yld j H x H' → g1 x (wipe σ2 vs1) H' fun σ3 H5 => wipe σ3 vs1 = wipe σ2 vs1 ∧ tt1 σ3 H5 fun b H6 =>
        if b = true then te σ3 H6 fun y H7 => ∃ acc, H7 D = some (.lst acc) ∧ acc.length < sizeLine ∧ Nx1 (upd H7 D (.lst (acc ++ [y]))) else Nx1 H6)
    else Nx H3)
def LcIn (D : Addr) (N : Hp → Prop) (g1 : TG) (tt1 : TT) (te : TE) (vs1 : List Nat) (σ2 : St) (J1 : It) (H4 : Hp) : Prop := ∃ W1 : Nat → Nat → Hp → Prop, (∃ m, W1 0 m H4) ∧ ∀ j k H, W1 j k H →
      (J1.stop j H ∧ N H) ∨ (J1.go j H ∧ ∃ Nx1 : Hp → Prop, (∀ H', Nx1 H' → ∃ k', k' < k ∧ W1 (j + 1) k' H') ∧ ∀ x H', J1.yld j H x H' → g1 x (wipe σ2 vs1) H' fun σ3 H5 => wipe σ3 vs1 = wipe σ2 vs1 ∧ tt1 σ3 H5 fun b H6 =>
        if b = true then te σ3 H6 fun y H7 => ∃ acc, H7 D = some (.lst acc) ∧ acc.length < sizeLine ∧ Nx1 (upd H7 D (.lst (acc ++ [y]))) else Nx1 H6)
section
variable {σ : St} {H : Hp} {wi wi1 : TI} {g g1 : TG} {tt tt1 : TT} {te : TE} {J J1 : It} {n : Nat} {ok : Hp → Prop} {itm : Nat → V → Hp → Hp → Prop} {vs vs1 : List Nat} {Q : VK}
theorem tLc2_i (h : wi σ H (LcB2 g tt wi1 g1 tt1 te vs vs1 σ Q)) : tLc2 wi g tt wi1 g1 tt1 te vs vs1 σ H Q := h
theorem lc2S (S : Src J n ok itm) (C : Nat → Hp → List V → Prop) (hok : ∀ H', Same H H' → ok H') (h0 : C 0 H [])
    (hs : ∀ D i acc H1 x H2, i < n → H D = none → Same H H1 → H1 D = some (.lst acc) → C i (del H1 D) acc → itm i x H1 H2 → g x (wipe σ vs) H2 fun σ2 H2 => wipe σ2 vs = wipe σ vs ∧ tt σ2 H2 fun b H3 =>
      Br b (wi1 σ2 H3 (LcIn D (LcP H D C (i + 1)) g1 tt1 te vs1 σ2)) (LcP H D C (i + 1) H3))
    (hd : ∀ D acc H1, H D = none → Same H H1 → H1 D = some (.lst acc) → C n (del H1 D) acc → Q (.ref D) H1) : LcB2 g tt wi1 g1 tt1 te vs vs1 σ Q J H := by
  intro D hD
  refine ⟨fun i m H' => m = n - i ∧ i ≤ n ∧ LcP H D C i H', ⟨n, by simp, Nat.zero_le _, [], Same.new hD, upd_same, by rw [del_upd, del_id hD]; exact h0⟩, ?_⟩
  rintro i m H1 ⟨rfl, hi, p⟩
  obtain ⟨acc, s1, e1, j1⟩ := id p
  have q := hok _ s1
  by_cases hlt : i < n
  · exact .inr ⟨S.go i H1 q hlt, LcP H D C (i + 1), fun H' p' => ⟨n - (i + 1), by omega, rfl, hlt, p'⟩, fun x H' y => hs D i acc H1 x H' hlt hD s1 e1 j1 (S.yld i H1 x H' q hlt y)⟩
  · have e : i = n := by omega
    subst e
    exact .inl ⟨S.stop i H1 q (Nat.le_refl _), hd D acc H1 hD s1 e1 j1⟩
theorem lcIn (S : Src J1 n ok itm) {H0 : Hp} {D : Addr} {N : Hp → Prop} (C : Nat → Hp → List V → Prop) (hok : ∀ H', Same H0 H' → ok H') (h0 : LcP H0 D C 0 H)
    (hs : ∀ i acc H1 x H2, i < n → Same H0 H1 → H1 D = some (.lst acc) → C i (del H1 D) acc → itm i x H1 H2 → g1 x (wipe σ vs1) H2 fun σ2 H2 => wipe σ2 vs1 = wipe σ vs1 ∧ tt1 σ2 H2 fun b H3 =>
      Br b (te σ2 H3 (LcY D (LcP H0 D C (i + 1)))) (LcP H0 D C (i + 1) H3))
    (hd : ∀ H1, LcP H0 D C n H1 → N H1) : LcIn D N g1 tt1 te vs1 σ J1 H := by
  refine ⟨fun i m H' => m = n - i ∧ i ≤ n ∧ LcP H0 D C i H', ⟨n, by simp, Nat.zero_le _, h0⟩, ?_⟩
  rintro i m H1 ⟨rfl, hi, p⟩
  obtain ⟨acc, s1, e1, j1⟩ := id p
  have q := hok _ s1
  by_cases hlt : i < n
  · exact .inr ⟨S.go i H1 q hlt, LcP H0 D C (i + 1), fun H' p' => ⟨n - (i + 1), by omega, rfl, hlt, p'⟩, fun x H' y => hs i acc H1 x H' hlt s1 e1 j1 (S.yld i H1 x H' q hlt y)⟩
  · have e : i = n := by omega
    subst e
    exact .inl ⟨S.stop i H1 q (Nat.le_refl _), hd H1 p⟩
end
end EL

namespace EL
open PySem PySem.Spec PyProof.Rows L2
/-! ### data -/
def Sh (n : Nat) (d : PyData) : Prop := d.canLay0 = true ∧ d.depth ≤ n
def ShA (n : Nat) (ds : List PyData) : Prop := PyData.canLayAll0 ds = true ∧ PyData.depthAll ds ≤ n
theorem sh_int {n : Nat} {i : Int} : Sh n (.int i) := ⟨rfl, by simp [PyData.depth]⟩
theorem sh_str {n : Nat} {x : Str} (h : (PyData.str x).canLay0 = true) : Sh n (.str x) := ⟨h, by simp [PyData.depth]⟩
theorem sh_bool {n : Nat} {b : Bool} : Sh n (.bool b) := ⟨rfl, by simp [PyData.depth]⟩
theorem sh_none {n : Nat} : Sh n .none := ⟨rfl, by simp [PyData.depth]⟩
theorem shA_nil {n : Nat} : ShA n [] := ⟨rfl, by simp [PyData.depthAll]⟩
theorem shA_cons {n : Nat} {d : PyData} {ds : List PyData} (h : Sh n d) (h2 : ShA n ds) : ShA n (d :: ds) :=
  ⟨by rw [PyData.canLayAll0, h.1, h2.1]; rfl, by rw [PyData.depthAll]; exact Nat.max_le.mpr ⟨h.2, h2.2⟩⟩
theorem shA_all {n : Nat} : ∀ {ds : List PyData}, (∀ d ∈ ds, Sh n d) → ShA n ds
  | [], _ => shA_nil
  | d :: ds, h => shA_cons (h d (List.mem_cons_self ..)) (shA_all fun x hx => h x (List.mem_cons_of_mem _ hx))
theorem sh_lst {n : Nat} {ds : List PyData} (h : ShA n ds) : Sh (n + 1) (.list ds) := ⟨h.1, by rw [PyData.depth]; exact Nat.succ_le_succ h.2⟩
theorem sh_tup {n : Nat} {ds : List PyData} (h : ShA n ds) : Sh (n + 1) (.tuple ds) := ⟨h.1, by rw [PyData.depth]; exact Nat.succ_le_succ h.2⟩
theorem Sh.shaped {n : Nat} {d : PyData} (h : Sh n d) (hn : n ≤ 64 := by decide) : SeqAt.shaped d = true := Bool.and_eq_true_iff.mpr ⟨h.1, decide_eq_true (Nat.le_trans h.2 hn)⟩
theorem shA_ints {n : Nat} (xs : List Int) : ShA n (xs.map PyData.int) := shA_all fun d hd => by
  obtain ⟨x, _, rfl⟩ := List.mem_map.mp hd
  exact sh_int
theorem eqv_self {n : Nat} {d : PyData} (h : Sh n d) : PyData.eqv d d = true := SeqAt.eqv_refl d h.1
theorem eqvAll_ints : ∀ xs ys : List Int, PyData.eqvAll (xs.map PyData.int) (ys.map PyData.int) = decide (xs = ys)
  | [], [] => rfl
  | [], _ :: _ => by simp [PyData.eqvAll]
  | _ :: _, [] => by simp [PyData.eqvAll]
  | x :: xs, y :: ys => by
    rw [List.map_cons, List.map_cons, PyData.eqvAll, eqvAll_ints xs ys]
    show (x == y && decide (xs = ys)) = _
    by_cases h : x = y
    · subst h
      simp
    · simp [h]
theorem DpAll.app {K : PySem.W.Frag} {H : Hp} : ∀ {vs ws : List V} {ds es : List PyData}, DpAll K H vs ds → DpAll K H ws es → DpAll K H (vs ++ ws) (ds ++ es)
  | [], _, _, _, .nil, h => h
  | _ :: _, _, _, _, .cons a b, h => .cons a (DpAll.app b h)
theorem DpAll.one {K : PySem.W.Frag} {H : Hp} {v : V} {d : PyData} (h : Dp K H v d) : DpAll K H [v] [d] := .cons h .nil
theorem DpAll.len {K : PySem.W.Frag} {H : Hp} : ∀ {vs : List V} {ds : List PyData}, DpAll K H vs ds → vs.length = ds.length
  | [], _, .nil => rfl
  | _ :: _, _, .cons _ b => congrArg Nat.succ (DpAll.len b)
theorem DpAll.get {K : PySem.W.Frag} {H : Hp} : ∀ {vs : List V} {ds : List PyData} {i : Nat} {v : V}, DpAll K H vs ds → vs[i]? = some v → ∃ d, ds[i]? = some d ∧ Dp K H v d
  | _, _, _, _, .nil, e => by simp at e
  | _, _, 0, _, .cons r _, e => by simp at e; subst e; exact ⟨_, rfl, r⟩
  | _, _, i + 1, v, .cons _ t, e => by
    obtain ⟨u, h1, h2⟩ := DpAll.get (i := i) (v := v) t (by simpa using e)
    exact ⟨u, by simpa using h1, h2⟩
theorem DpAll.ints {K : PySem.W.Frag} {H : Hp} : ∀ {xs : List Int} {vs : List V}, DpAll K H vs (xs.map PyData.int) → vs = xs.map V.int
  | [], _, h => by cases h; rfl
  | x :: xs, _, h => by
    cases h with
    | cons a b =>
      cases a
      rw [DpAll.ints b]
      rfl
/-! ### isinstance -/
section
variable {K : PySem.W.Frag} {H : Hp} {Q : VK}
theorem isi_ty {x : V} {a b : String} {k : Bool} (ty : TyX K H x (.type a)) (e : kitB a b = some k) (h : Q (.bl k) H) : rIsiU K [x, .ty b] H Q := .inl ⟨x, .ty b, .type a, .type b, k, rfl, .ty b, ty, kit_ty e, h⟩
theorem isi_int_int {i : Int} (h : Q (.bl true) H) : rIsiU K [.int i, .ty "int"] H Q := isi_ty (.base (.int i)) (by decide +kernel) h
theorem isi_int_bool {i : Int} (h : Q (.bl false) H) : rIsiU K [.int i, .ty "bool"] H Q := isi_ty (.base (.int i)) (by decide +kernel) h
theorem isi_bool_bool {b : Bool} (h : Q (.bl true) H) : rIsiU K [.bl b, .ty "bool"] H Q := isi_ty (.base (.bl b)) (by decide +kernel) h
theorem isi_bool_int {b : Bool} (h : Q (.bl true) H) : rIsiU K [.bl b, .ty "int"] H Q := isi_ty (.base (.bl b)) (by decide +kernel) h
theorem isi_non_int (h : Q (.bl false) H) : rIsiU K [.non, .ty "int"] H Q := isi_ty (.base .non) (by decide +kernel) h
theorem isi_lst_lst {a : Addr} {xs : List V} (e : H a = some (.lst xs)) (h : Q (.bl true) H) : rIsiU K [.ref a, .ty "list"] H Q := isi_ty (.base (.lst e)) (by decide +kernel) h
theorem isi_tup_tup {a : Addr} {xs : List V} (e : H a = some (.tup xs)) (h : Q (.bl true) H) : rIsiU K [.ref a, .ty "tuple"] H Q := isi_ty (.base (.tup e)) (by decide +kernel) h
end
/-! ### a handled exception -/
section
variable {K : PySem.W.Frag} {H : Hp} {Q : VK} {σ : St}
theorem was_i {c cls : Value} {i : Nat} {ts : Addr → Value → Option Addr → TS} {Wout : WX} {D : Ends} {d : Option Addr} (em : PySem.W.exmOne K cls c = some true)
    (h : ∀ a, H a = none → ts a cls d { nx := fun σ' H' => D.nx (σ'.set i none) H', rt := D.rt, bk := fun σ' H' => D.bk (σ'.set i none) H', ct := fun σ' H' => D.ct (σ'.set i none) H' } (σ.set i (some (.ref a))) H) : L2.WE (wAs K c i ts Wout D) σ cls d H :=
  ⟨true, em, fun _ => h, fun z => Bool.noConfusion z⟩
theorem isX_c {a D C : Addr} {d : Option Addr} {b : Bool} (X : XCls K D) (fs : List (Str × V)) (hd : XDict H d fs) (e : PySem.W.kitOne K (.ref D) (.ref C) = some b) (h : Q (.bl b) H) : rIsX K a (.ref D) d [.ref a, .ref C] H Q :=
  ⟨D, fs, .ref C, b, rfl, rfl, X, hd, .inl ⟨_, .own C, e⟩, h⟩
theorem isX_t {a D : Addr} {d : Option Addr} {b : Bool} {n : String} (X : XCls K D) (fs : List (Str × V)) (hd : XDict H d fs) (e : PySem.W.kitOne K (.ref D) (.type n) = some b) (h : Q (.bl b) H) : rIsX K a (.ref D) d [.ref a, .ty n] H Q :=
  ⟨D, fs, .ty n, b, rfl, rfl, X, hd, .inl ⟨_, .ty n, e⟩, h⟩
def XFv (K : PySem.W.Frag) (a : Addr) (cls : Value) (d : Option Addr) (f : Str) (x : V) (H1 : Hp) (Q : VK) : Prop := ∃ (D dd : Addr) (fs : List (Str × V)) (v : V), x = .ref a ∧ cls = .ref D ∧ XCls K D ∧ d = some dd ∧ H1 dd = some (.xd fs) ∧
  PySem.W.findIn K (.ref D) f = some none ∧ fs.lookup f = some v ∧ Q v H1
theorem tXF_i {a : Addr} {cls : Value} {d : Option Addr} {f : Str} {te : TE} (h : te σ H fun x H1 => XFv K a cls d f x H1 Q) : tXF K a cls d f te σ H Q := h
theorem xf1 {a D dd : Addr} {f : Str} {v : V} (X : XCls K D) (hd : H dd = some (.xd [(f, v)])) (hn : PySem.W.findIn K (.ref D) f = some none) (h : Q v H) : XFv K a (.ref D) (some dd) f (.ref a) H Q :=
  ⟨D, dd, [(f, v)], v, rfl, rfl, X, rfl, hd, hn, by simp [List.lookup], h⟩
end
section
variable {H : Hp} {Q : VK} {σ : St} {te : TE}
def Rg1v (x : V) (H : Hp) (Q : VK) : Prop := ∃ n, x = .int n ∧ RgOk 0 n ∧ ∀ q, H q = none → Q (.ref q) (upd H q (.lst (rgV 0 n)))
theorem tLstRg1_i (h : te σ H fun x H1 => Rg1v x H1 Q) : tLstRg (tRg1 te) σ H Q := h
end
theorem rg1_i {H : Hp} {Q : VK} {n : Int} (hn : 0 ≤ n ∧ n ≤ 1000000) (h : ∀ q H', H q = none → Same H H' → H' q = some (.lst (rgV 0 n)) → Q (.ref q) H') : Rg1v (.int n) H Q :=
  ⟨n, rfl, .of_le (by omega) (by omega) (by omega) hn.1, fun q hq => h q _ hq (Same.new hq) upd_same⟩
/-! ### truth, choice by if -/
theorem gtup {H : Hp} {Q : VK} {E : XK} {o : Out} {xs : List V} (e : o = .tup xs) (k : ∀ H' p, Same H H' → H' p = some (.tup xs) → Q (.ref p) H') : Gives H Q E o := by
  subst e
  exact k
theorem glst {H : Hp} {Q : VK} {E : XK} {o : Out} {R : Hp → List V → Prop} (e : o = .lst R) (k : ∀ H' p vs, Same H H' → H p = none → H' p = some (.lst vs) → R H' vs → Q (.ref p) H') : Gives H Q E o := by
  subst e
  exact k
theorem at_int {xs : List Int} {i : Int} {n : Nat} {z : Int} (e : i = (n : Int)) (h : xs[n]? = some z) : atI (xs.map V.int) i = some (.int z) := at_of e (by rw [List.getElem?_map, h]; rfl)
theorem map_take_succ {α β : Type} {xs : List α} {f : α → β} {i : Nat} {x : α} (h : xs[i]? = some x) : (xs.take (i + 1)).map f = (xs.take i).map f ++ [f x] := by
  rw [List.take_add_one, h, List.map_append]
  rfl
theorem isi_tupS {K : PySem.W.Frag} {H : Hp} {Q : VK} {a : Addr} {xs : List V} (hS : SqT K H a xs) (h : Q (.bl true) H) : rIsiU K [.ref a, .ty "tuple"] H Q := by
  rcases hS with (e | ⟨o, e⟩) | ⟨o, its, n, hk, hc, _⟩
  · exact isi_tup_tup e h
  · exact isi_ty (.fTuple e) (by decide +kernel) h
  · exact isi_ty (.kTuple hk hc) (by decide +kernel) h
theorem isi_lstS {K : PySem.W.Frag} {H : Hp} {Q : VK} {a : Addr} {xs : List V} (hS : SqL K H a xs) (h : Q (.bl true) H) : rIsiU K [.ref a, .ty "list"] H Q := by
  rcases hS with (e | ⟨o, e⟩) | ⟨o, its, n, hk, hc, _⟩
  · exact isi_lst_lst e h
  · exact isi_ty (.base (.frz e)) (by decide +kernel) h
  · exact isi_ty (.kList hk hc) (by decide +kernel) h
def spLaw (K : PySem.W.Frag) : Sp := fun vs H Q _ => ∃ (a : Addr) (ns : List Int), vs = [.ref a] ∧ SqL K H a (ns.map V.int) ∧ ns.length ≤ 63 ∧ ∀ H', Q (.bl true) H'
theorem noX {P : Program} (w : World) (H : Hp) (s : Shared) (e : Value) (s' : Shared) (h : L2.CX P w [] H s (fun _ _ _ => False) e s') : False := by
  obtain ⟨_, _, _, _, _, _, _, _, _, _, _, _, z⟩ := h
  exact z
end EL

namespace EL
open PySem PySem.Spec PyProof.Rows L2
/-! ### {e for t in it if ..}, e a whole number -/
/-- the object that a new set is -/
abbrev set0 (w : World) : Obj :=
  { cls := .type "set", dict := none,
    data := .set #[] 0 (.fresh 0 0 (!w.params.followText "set-order")) }
abbrev noneS : Int → Bool := fun _ => false
/-- one more number is put in -/
def putS (S : Int → Bool) (k : Int) : Int → Bool := fun j => S j || decide (j = k)
/-- what a turn leaves where the test lets the item through -/
def ScY (w : World) (D : Addr) (N : Hp → Prop) (y : V) (H4 : Hp) : Prop :=
  rSAdd w (.ref D) [y] H4 fun _ H5 => N H5
def ScT (w : World) (g : TG) (tt : TT) (te : TE) (vs : List Nat) (σ : St) (D : Addr) (N : Hp → Prop) (x : V) (H : Hp) : Prop :=
  g x (wipe σ vs) H fun σ2 H2 => wipe σ2 vs = wipe σ vs ∧
    tt σ2 H2 fun b H3 => if b = true then te σ2 H3 (ScY w D N) else N H3
def ScB (w : World) (g : TG) (tt : TT) (te : TE) (vs : List Nat) (σ : St) (Q : VK) (J : It) (H1 : Hp) : Prop :=
  ∀ D, H1 D = none → ∃ W : Nat → Nat → Hp → Prop,
    (∃ m, W 0 m (upd H1 D (SetO w D noneS 0))) ∧
    ∀ i m H, W i m H → (J.stop i H ∧ Q (.ref D) H) ∨
      (J.go i H ∧ ∃ N : Hp → Prop, (∀ H', N H' → ∃ m', m' < m ∧ W (i + 1) m' H') ∧
        ∀ x H', J.yld i H x H' → ScT w g tt te vs σ D N x H')
def tScI (w : World) (wi : TI) (g : TG) (tt : TT) (te : TE) (vs : List Nat) : TE :=
  fun σ H Q => wi σ H (ScB w g tt te vs σ Q)
section
variable {X : Cx} {elt tg iter : Expr} {ifs : List Expr} {scope : Scope} {own : List (Str × Nat)}
variable {pos pos' : Pos} {wi : TI} {g : TG} {tt : TT} {te : TE}
variable {pins : List (Addr × Obj)} {s : Shared} {σ : St} {H : Hp} {Q : VK}
theorem scI_core {use : Option (Value → Sem Unit)} {Qf : Value → Shared → Prop}
    (calm : X.calm = true) (nd : X.N.Nodup) (I : Inv X pins σ H s) (pi : PI X tg iter wi) (ok : BlkOk X.N X.env.scope scope own)
    (tgt : ∀ (s : Shared) (H : Hp) (C : Addr) (cl : List (Str × Addr)) (fp : List Addr),
      PG (X.blk s H scope (compEnvC scope cl C X.env) fp) tg g)
    (tst : ∀ (s : Shared) (H : Hp) (C : Addr) (cl : List (Str × Addr)) (fp : List Addr),
      PTs (X.blk s H scope (compEnvC scope cl C X.env) fp) ifs tt)
    (val : ∀ (s : Shared) (H : Hp) (C : Addr) (cl : List (Str × Addr)) (fp : List Addr),
      PE (X.blk s H scope (compEnvC scope cl C X.env) fp) elt te)
    (fold : ∀ x, foldedSetIterable iter X.env x = pure x)
    (h : tScI X.w wi g tt te (own.map (·.2)) σ H Q)
    (after : ∀ D C s' m H', Inv X pins σ H' s' → Q (.ref D) H' → s'.heap.Ns C m → FpOk X pins H' C →
      compPost (model X.prog X.w) X.A X.xe use Qf (.ref D) C (.ok .next) s') :
    wpAny (model X.prog X.w) X.A
      (comprehension (.SetComp elt [⟨tg, iter, ifs, 0⟩] scope pos) scope X.env pos' (newSet (.type "set")) false (eval iter X.env) use)
      Qf X.xe s := by
  have frees : ∀ y ∈ scope.names, y.2 = .free → ∃ c, X.env.cells.lookup y.1 = some c := by
    intro y hy e
    exact I.ok.has _ ((ok.free y hy e).elim .inl .inr)
  refine wpAny_comprehension_free (use := use) rfl fold (closure_ok frees) ok.kind
    (fun y hy e => by rw [ok.uniq y hy, e]) (thn (pi.run pins s σ H _ I h) fun v s1 k => thn k fun it0 s2 k2 => ?_)
  obtain ⟨it, fp, tn, J, H2, rfl, I2, T, at0, free2, body⟩ := k2
  refine PpSet.newSet_ok (newEnv_comp ?_)
  obtain ⟨D, eD⟩ : ∃ D, D = s2.heap.objs.size := ⟨_, rfl⟩
  rw [← eD]
  have nD : H2 D = none := I2.hok.fresh (Nat.le_of_eq eD.symm)
  obtain ⟨W, ⟨m0, w0⟩, turn⟩ := body D nD
  obtain ⟨s3, e3⟩ : ∃ s3 : Shared, s3 = { s2 with heap := s2.heap.push (set0 X.w) } := ⟨_, rfl⟩
  have hp3 : s3.heap = s2.heap.push (set0 X.w) := by rw [e3]
  have keep3 : ∀ b o, s2.heap.get? b = some o → s3.heap.get? b = some o := fun b o e => by
    rw [hp3]
    exact Heap.get?_push_of_some _ e
  obtain ⟨H3, eH3⟩ : ∃ H3, H3 = upd H2 D (SetO X.w D noneS 0) := ⟨_, rfl⟩
  rw [← eH3] at w0
  have I3 : Inv X pins σ H3 s3 := by
    rw [e3, eH3]
    refine I2.laid (t' := s2.toks) (fun b o e => Heap.get?_push_of_some _ e) (Nat.le_of_eq eD.symm) ?_
    rw [eD]
    exact setO_new (setR_fresh X.w)
  have below : ∀ b ∈ fp, b < s2.heap.objs.size := fun b hb => (T.obj _ _ at0 b hb).elim fun o z => Heap.lt_size z.1
  have free3 : ∀ b ∈ fp, FpOk X pins H3 b ∧ b < s3.heap.objs.size := by
    intro b hb
    have lt := below b hb
    refine ⟨⟨?_, (free2 b hb).2⟩, ?_⟩
    · rw [eH3, upd_ne (by rw [eD]; exact Nat.ne_of_lt lt)]
      exact (free2 b hb).1
    · rw [hp3, Heap.size_push]
      exact Nat.lt_succ_of_lt lt
  have at3 : tn 0 s3.heap := T.keep _ _ _ at0 fun b _ o e => keep3 b o e
  have I4 := block_start I3 ok nd free3
  have pg := tgt s3 H3 s3.heap.objs.size (cellsFrom (s3.heap.objs.size + 1) scope.names (cloFrom X.env.cells scope.names [])) fp
  have pt := tst s3 H3 s3.heap.objs.size (cellsFrom (s3.heap.objs.size + 1) scope.names (cloFrom X.env.cells scope.names [])) fp
  have pe := val s3 H3 s3.heap.objs.size (cellsFrom (s3.heap.objs.size + 1) scope.names (cloFrom X.env.cells scope.names [])) fp
  rw [← e3]
  show codeAny _ _ (.compStart _ 0 (.ref it) (.ref D) (compEnvC scope (cellsFrom (s3.heap.objs.size + 1) scope.names (cloFrom X.env.cells scope.names [])) s3.heap.objs.size X.env))
    (compPost (model X.prog X.w) X.A X.xe use Qf (.ref D) s3.heap.objs.size)
    { s3 with heap := pushCells (s3.heap.push { cls := .type "dict", data := .dict #[] }) scope.names }
  have nfp : ∀ b ∈ fp, H3 b = none := fun b hb => (free3 b hb).1.1
  generalize hce : compEnvC scope (cellsFrom (s3.heap.objs.size + 1) scope.names (cloFrom X.env.cells scope.names [])) s3.heap.objs.size X.env = ce at I4 pg pt pe ⊢
  have locC : ce.locals = s3.heap.objs.size := by
    rw [← hce]
    rfl
  generalize hs4 : ({ s3 with heap := pushCells (s3.heap.push { cls := .type "dict", data := .dict #[] }) scope.names } : Shared) = s4 at I4 ⊢
  have at4 : tn 0 s4.heap := T.keep _ _ _ at3 fun b _ o e => by
    rw [← hs4]
    exact pushCells_keeps _ _ _ _ (Heap.get?_push_of_some _ e)
  have frees' : ∀ {σ' : St} {H' : Hp} {s' : Shared}, Inv (X.blk s3 H3 scope ce fp) [] σ' H' s' → (∀ b ∈ fp, H' b = none) →
      ∀ b ∈ fp, FpOk (X.blk s3 H3 scope ce fp) [] H' b := by
    intro σ' H' s' I' n b hb
    exact ⟨n b hb, (I'.ok.exf b hb).1, I'.ok.exfs b hb, .inl hb, fun x c e => (I'.ok.exf b hb).2 x c e, fun p z => by cases z⟩
  refine PpSet.codeAny_compStart_set ?_ (T.self X.A 0 _ _ _ at4 ?_)
  all_goals
    refine PpSet.compLoopS_any (fun n s' => ∃ i H', Inv (X.blk s3 H3 scope ce fp) [] (wipe σ (own.map (·.2))) H' s' ∧
      tn i s'.heap ∧ (∀ b ∈ fp, H' b = none) ∧ W i n H') ?_ m0 ⟨0, H3, I4, at4, nfp, w0⟩
    rintro n s5 ⟨i, H5, I5, at5, n5, w5⟩
    rcases turn i n H5 w5 with ⟨stop, fin⟩ | ⟨go, N, hN, step⟩
    · refine thnF (T.done (X.blk s3 H3 scope ce fp) rfl rfl rfl calm i [] s5 _ H5 (fun _ _ => False) I5 (frees' I5 n5) at5 stop) fun r s6 hr => ?_
      obtain ⟨rfl, I6⟩ := hr
      have I7 : Inv X pins σ H5 s6 := I3.call' (ch := fp) I6.os I6.base I6.hok I6.bare fun b hb => by
        obtain ⟨_, _, z1, z2, z3, z4⟩ := (free3 b hb).1
        exact ⟨z2, (free3 b hb).1.2.1, z3, z4⟩
      have nC : H5 s3.heap.objs.size = none := locC ▸ (show H5 ce.locals = none from I6.free)
      obtain ⟨m, hm, _⟩ := I6.loc
      have hm' : s6.heap.Ns ce.locals m := hm
      rw [locC] at hm'
      exact after D s3.heap.objs.size s6 m H5 I7 fin hm' (I3.fpOk (Nat.le_refl _) nC)
    · refine thnF (T.item (X.blk s3 H3 scope ce fp) rfl rfl rfl calm i [] s5 _ H5 (fun _ _ => False) I5 (frees' I5 n5) at5 go) fun r s6 hr => ?_
      obtain ⟨u, rfl, h6⟩ := hr
      refine thnF h6 fun _ s7 z7 => ?_
      obtain ⟨x, H7, I7, r7, y7, at7, n7⟩ := z7
      refine thnF (pg.run _ s7 _ H7 x u _ (I7.pinned (frees' I7 n7) (T.obj _ _ at7)) r7 (step x H7 y7)) fun _ s8 z8 => ?_
      obtain ⟨σ8, H8, I8, wi8, q8⟩ := z8
      refine thnF (pt.run _ s8 σ8 H8 _ I8 q8) fun b s9 z9 => ?_
      obtain ⟨H9, I9, q9⟩ := z9
      have over : ∀ {s' : Shared} {H' : Hp}, Inv (X.blk s3 H3 scope ce fp) ([] ++ pinsAt fp s7.heap) σ8 H' s' → N H' →
          ∃ m, m < n ∧ ∃ i H', Inv (X.blk s3 H3 scope ce fp) [] (wipe σ (own.map (·.2))) H' s' ∧ tn i s'.heap ∧ (∀ b ∈ fp, H' b = none) ∧ W i m H' := by
        intro s' H' I' nx
        obtain ⟨m', lt, w'⟩ := hN H' nx
        have same : ∀ b ∈ fp, ∀ o, s7.heap.get? b = some o → s'.heap.get? b = some o ∧ H' b = none := by
          intro b hb o e
          have z := I'.pin (b, o) (List.mem_append_right _ (List.mem_append_right _ (mem_pinsAt hb e)))
          exact ⟨z.1, z.2.1⟩
        have len : (wipe σ (own.map (·.2))).length = σ8.length := by rw [← wi8, wipe_length]
        refine ⟨m', lt, i + 1, H', (I'.unpinned (pins := [])).weak len (fun j v e => ?_), ?_, ?_, w'⟩
        · rw [← wi8] at e
          exact (wipe_some e).1
        · exact T.keep _ _ _ at7 fun b hb o e => (same b hb o e).1
        · intro b hb
          obtain ⟨o, e, _⟩ := T.obj _ _ at7 b hb
          exact (same b hb o e).2
      cases b with
      | false => exact over I9 (by simpa using q9)
      | true =>
        refine thnF (pe.run _ s9 σ8 H9 _ I9 (by simpa using q9)) fun z s10 z10 => ?_
        obtain ⟨yv, H10, I10, r10, q10⟩ := z10
        refine thnF (mt_sadd (X := X.blk s3 H3 scope ce fp) _ s10 _ H10 (.ref D) [yv] (.ref D) [z] _ I10 rfl (.cons r10 .nil) q10) fun _ s11 z11 => ?_
        obtain ⟨_, H11, I11, _, q11⟩ := z11
        exact over I11 q11
/-- as a value -/
theorem pe_scI (calm : X.calm = true) (nd : X.N.Nodup) (pi : PI X tg iter wi) (ok : BlkOk X.N X.env.scope scope own)
    (tgt : ∀ (s : Shared) (H : Hp) (C : Addr) (cl : List (Str × Addr)) (fp : List Addr),
      PG (X.blk s H scope (compEnvC scope cl C X.env) fp) tg g)
    (tst : ∀ (s : Shared) (H : Hp) (C : Addr) (cl : List (Str × Addr)) (fp : List Addr),
      PTs (X.blk s H scope (compEnvC scope cl C X.env) fp) ifs tt)
    (val : ∀ (s : Shared) (H : Hp) (C : Addr) (cl : List (Str × Addr)) (fp : List Addr),
      PE (X.blk s H scope (compEnvC scope cl C X.env) fp) elt te)
    (fold : ∀ x, foldedSetIterable iter X.env x = pure x := by intro _; rfl) :
    PE X (.SetComp elt [⟨tg, iter, ifs, 0⟩] scope pos) (tScI X.w wi g tt te (own.map (·.2))) := by
  constructor
  intro pins s σ H Q I h
  rw [PpSet.eval_SetComp]
  refine scI_core calm nd I pi ok tgt tst val fold h fun D C s' m H' I' q ns f => ⟨m, ns, fun h'' sb => ?_⟩
  obtain ⟨z0, z1, z2, z3, z4, z5⟩ := f
  exact ⟨.ref D, H', I'.turned (t' := s'.toks) (fun b o hb e => (sb.2 b hb).trans e) z0 z1 z3 z4 z5, rfl, q⟩
end

section
variable {X : Cx} {elt tg iter : Expr} {ifs : List Expr} {scope : Scope} {own : List (Str × Nat)}
variable {pos spos py : Pos} {wi : TI} {g : TG} {tt : TT} {te : TE} {i : Nat} {y : Str}
/-- name = {..} on one line, the name a local -/
theorem ps_setScI (calm : X.calm = true) (nd : X.N.Nodup) (at_ : X.N[i]? = some y) (isl : X.env.scope.names.lookup y = some .local)
    (sw : swapsWith (.SetComp elt [⟨tg, iter, ifs, 0⟩] scope pos) (some (.Name y py)) spos.line X.env = pure true)
    (pi : PI X tg iter wi) (ok : BlkOk X.N X.env.scope scope own)
    (tgt : ∀ (s : Shared) (H : Hp) (C : Addr) (cl : List (Str × Addr)) (fp : List Addr),
      PG (X.blk s H scope (compEnvC scope cl C X.env) fp) tg g)
    (tst : ∀ (s : Shared) (H : Hp) (C : Addr) (cl : List (Str × Addr)) (fp : List Addr),
      PTs (X.blk s H scope (compEnvC scope cl C X.env) fp) ifs tt)
    (val : ∀ (s : Shared) (H : Hp) (C : Addr) (cl : List (Str × Addr)) (fp : List Addr),
      PE (X.blk s H scope (compEnvC scope cl C X.env) fp) elt te)
    (fold : ∀ x, foldedSetIterable iter X.env x = pure x := by intro _; rfl) :
    PS X (.Assign [.Name y py] (.SetComp elt [⟨tg, iter, ifs, 0⟩] scope pos) spos) (tAsg (tScI X.w wi g tt te (own.map (·.2))) (gName i)) := by
  constructor
  intro pins s σ H D I h
  rw [exec_Assign_Name_used _ _ _ _ sw]
  refine wpAny_bind (wpAny_standAt (wpAny_bind ?_))
  show wpAny _ X.A (do
    let _ ← comprehension (.SetComp elt [⟨tg, iter, ifs, 0⟩] scope pos) scope X.env (firstIterPos [⟨tg, iter, ifs, 0⟩] pos) (newSet (.type "set")) false (eval iter X.env) (some (assign (.Name y py) X.env))) _ _ s
  have h' : tScI X.w wi g tt te (own.map (·.2)) σ H (fun x H1 => gName i x σ H1 D.nx) := h
  refine wpAny_bind (thn (scI_core (Qf := fun _ s' => SP X pins D .next s') calm nd I pi ok tgt tst val fold h'
    fun L C s' m H' I' q ns f => ?_) fun _ s' hq => wpAny_pure (wpAny_pure hq))
  show wpAny _ _ (assign (.Name y py) X.env (.ref L)) _ _ _
  obtain ⟨z0, z1, z2, z3, z4, z5⟩ := f
  refine wpAny_assign_Name (store_ok2 (v := V.ref L) I' nd at_ (.inl isl) rfl (fun s2 I2 st => ?_) (.inr isl))
  obtain ⟨a, sb, ha⟩ := st
  have hne : C ≠ a := ha.elim (fun z => by rw [z]; exact z1) fun z e => z4 y a z e.symm
  refine ⟨m, ns.sameBut sb hne, fun h3 sb3 => ⟨_, H', ?_, q⟩⟩
  exact I2.turned (t' := s2.toks) (fun b o hb e => (sb3.2 b hb).trans e) z0 z1 z3 z4 z5
theorem sw_setTrue {gs : List Comprehension} {l : Nat} {env : Env} (hk : env.scope.kind = .function) (hy : env.scope.names.lookup y = some .local)
    (hl : (py.line == pos.line) = true) (ha : (scope.names.any fun (n, k) => n == y && (k == .local || k == .cell)) = false) :
    swapsWith (.SetComp elt gs scope pos) (some (.Name y py)) l env = pure true := by
  have k1 : env.kindOf y = some .local := hy
  have k2 : env.blockKind = .function := by
    unfold Env.blockKind
    rw [hk] <;> rfl
  unfold swapsWith
  simp only [k2, k1, ha, Expr.pos, hl]
  rfl
end
theorem roomH_suite {X : Cx} {k j : Nat} {a : Addr} {pn : List (Addr × Obj)} (r : Room k X.A) (h : j ≤ k) : L2H.RoomH j (X.suite a pn).A := by
  have q := (L2H.roomH_of r).mono h
  exact ⟨q.dp, q.un⟩
/-! ### in, not in: lists, tuples, sets of whole numbers, deep lists -/
def rInSet (w : World) (neg : Bool) : R2 := fun x y H Q =>
  ∃ k a S n, x = V.int k ∧ y = V.ref a ∧ H a = some (SetO w a S n) ∧ Q (.bl (if neg = true then !S k else S k)) H
def rInDeep (K : PySem.W.Frag) (neg : Bool) : R2 := fun x y H Q =>
  ∃ d ds, Dp K H x d ∧ Dp K H y (.list ds) ∧ SeqAt.shaped d = true ∧ SeqAt.shaped (.list ds) = true ∧
    Q (.bl (if neg = true then !(ds.any fun z => PyData.eqv z d) else ds.any fun z => PyData.eqv z d)) H
def rInU (K : PySem.W.Frag) (w : World) (neg : Bool) : R2 := fun x y H Q =>
  rIn K neg x y H Q ∨ rInSet w neg x y H Q ∨ rInDeep K neg x y H Q
section
variable {X : Cx}
theorem op_inU (K : PySem.W.Frag) (w : World) {k : Nat} (hr : Room k X.A) (hK : X.K = K := by rfl) (hw : X.w = w := by rfl) :
    OpR X (compareOp .In) (rInU K w false) := by
  subst hK hw
  intro pins s σ H x y v u Q I rx ry h
  rcases h with h | ⟨k, a, S, n, e1, e2, e3, q⟩ | ⟨d, ds, e1, e2, e3, e4, q⟩
  · exact op_in_seq pins s σ H x y v u Q I rx ry h
  · exact or_sin pins s σ H x y v u Q I rx ry ⟨k, a, S, n, e1, e2, e3, q⟩
  · exact op_inD (by have := hr.un; omega) pins s σ H x y v u Q I rx ry ⟨d, ds, e1, e2, e3, e4, q⟩
theorem op_notInU (K : PySem.W.Frag) (w : World) {k : Nat} (hr : Room k X.A) (hK : X.K = K := by rfl) (hw : X.w = w := by rfl) :
    OpR X (compareOp .NotIn) (rInU K w true) := by
  subst hK hw
  intro pins s σ H x y v u Q I rx ry h
  rcases h with h | ⟨k, a, S, n, e1, e2, e3, q⟩ | ⟨d, ds, e1, e2, e3, e4, q⟩
  · exact op_notIn_seq pins s σ H x y v u Q I rx ry h
  · exact or_snotin pins s σ H x y v u Q I rx ry ⟨k, a, S, n, e1, e2, e3, q⟩
  · exact op_notInD (by have := hr.un; omega) pins s σ H x y v u Q I rx ry ⟨d, ds, e1, e2, e3, e4, q⟩
end
section
variable {K : PySem.W.Frag} {w : World} {H : Hp} {Q : VK} {a : Addr} {i : Int} {L : List Int}
theorem inV_ints : inV (.int i) (L.map V.int) = decide (i ∈ L) := by
  induction L with
  | nil => rfl
  | cons x r ih =>
    have e : inV (.int i) ((x :: r).map V.int) = (eqV (.int x) (.int i) || inV (.int i) (r.map V.int)) := rfl
    rw [e, ih]
    have e2 : eqV (.int x) (.int i) = decide (i = x) := by
      by_cases c : i = x
      · subst c
        simp [eqV]
      · rw [decide_eq_false c]
        simp [eqV]
        omega
    rw [e2, Bool.eq_iff_iff]
    simp
theorem flat_ints : (L.map V.int).all flatV = true := by
  induction L with
  | nil => rfl
  | cons x r ih => rw [List.map_cons, List.all_cons, ih]; rfl
theorem inI_l (hS : SqL K H a (L.map V.int)) (h : Q (.bl (decide (i ∈ L))) H) : rInU K w false (.int i) (.ref a) H Q :=
  .inl ⟨a, _, rfl, .inl hS, rfl, flat_ints, by rw [inV_ints]; exact h⟩
theorem notInI_l (hS : SqL K H a (L.map V.int)) (h : Q (.bl (decide (i ∉ L))) H) : rInU K w true (.int i) (.ref a) H Q :=
  .inl ⟨a, _, rfl, .inl hS, rfl, flat_ints, by rw [inV_ints, ← decide_not]; exact h⟩
theorem inI_s {S : Int → Bool} {n : Nat} (e : H a = some (SetO w a S n)) (h : Q (.bl (S i)) H) : rInU K w false (.int i) (.ref a) H Q :=
  .inr (.inl ⟨i, a, S, n, rfl, rfl, e, h⟩)
end
/-! ### the comprehension read -/
/-- what a turn must reach: C of the items so far, the heap without the set, its members and their number -/
def ScP (w : World) (H0 : Hp) (D : Addr) (C : Nat → Hp → (Int → Bool) → Nat → Prop) (i : Nat) (H : Hp) : Prop :=
  ∃ S c, Same H0 H ∧ H D = some (SetO w D S c) ∧ C i (del H D) S c
section
variable {w : World} {σ : St} {H : Hp} {wi : TI} {g : TG} {tt : TT} {te : TE} {J : It} {n : Nat} {ok : Hp → Prop}
variable {itm : Nat → V → Hp → Hp → Prop} {vs : List Nat} {Q : VK}
theorem tScI_i (h : wi σ H (ScB w g tt te vs σ Q)) : tScI w wi g tt te vs σ H Q := h
theorem scS (S : Src J n ok itm) (C : Nat → Hp → (Int → Bool) → Nat → Prop) (hok : ∀ H', Same H H' → ok H') (h0 : C 0 H noneS 0)
    (hs : ∀ D i M c H1 x H2, i < n → H D = none → Same H H1 → H1 D = some (SetO w D M c) → C i (del H1 D) M c → itm i x H1 H2 →
      g x (wipe σ vs) H2 fun σ2 H2 => wipe σ2 vs = wipe σ vs ∧ tt σ2 H2 fun b H3 =>
        Br b (te σ2 H3 (ScY w D (ScP w H D C (i + 1)))) (ScP w H D C (i + 1) H3))
    (hd : ∀ D M c H1, H D = none → Same H H1 → H1 D = some (SetO w D M c) → C n (del H1 D) M c → Q (.ref D) H1) :
    ScB w g tt te vs σ Q J H := by
  intro D hD
  refine ⟨fun i m H' => m = n - i ∧ i ≤ n ∧ ScP w H D C i H', ⟨n, by simp, Nat.zero_le _, noneS, 0, Same.new hD, upd_same, ?_⟩, ?_⟩
  · rw [del_upd, del_id hD]
    exact h0
  rintro i m H1 ⟨rfl, hi, p⟩
  obtain ⟨M, c, s1, e1, j1⟩ := id p
  have q := hok _ s1
  by_cases hlt : i < n
  · refine .inr ⟨S.go i H1 q hlt, ScP w H D C (i + 1), fun H' p' => ⟨n - (i + 1), by omega, rfl, hlt, p'⟩, fun x H' y => ?_⟩
    exact hs D i M c H1 x H' hlt hD s1 e1 j1 (S.yld i H1 x H' q hlt y)
  · have e : i = n := by omega
    subst e
    exact .inl ⟨S.stop i H1 q (Nat.le_refl _), hd D M c H1 hD s1 e1 j1⟩
theorem scY {D : Addr} {H0 : Hp} {C : Nat → Hp → (Int → Bool) → Nat → Prop} {i c : Nat} {M : Int → Bool} {k : Int} (nD : H0 D = none)
    (s : Same H0 H) (e : H D = some (SetO w D M c)) (hl : c + 1 < scanBound) (j : C i (del H D) (putS M k) (if M k = true then c else c + 1)) :
    ScY w D (ScP w H0 D C i) (.int k) H := by
  refine ⟨D, k, M, c, rfl, rfl, e, hl, _, _, Same.upd s nD, upd_same, ?_⟩
  rw [del_upd]
  exact j
theorem scN {D : Addr} {H0 : Hp} {C : Nat → Hp → (Int → Bool) → Nat → Prop} {i c : Nat} {M : Int → Bool} (s : Same H0 H)
    (e : H D = some (SetO w D M c)) (j : C i (del H D) M c) : ScP w H0 D C i H := ⟨M, c, s, e, j⟩
end

theorem tCallE_i {sp : SpX} {a : Addr} {cls : Value} {d : Option Addr} {t : TA} {σ : St} {H : Hp} {Q : VK}
    (h : t σ H fun vs H1 => sp a cls d vs H1 Q (fun _ _ _ => False)) : tCallE sp a cls d t σ H Q := h
theorem bl_eq {i j : Bool} : decide (V.bl i = V.bl j) = decide (i = j) := by cases i <;> cases j <;> rfl
theorem rEqU_b {K : PySem.W.Frag} {H : Hp} {Q : VK} {i j : Bool} (h : Q (.bl (decide (i = j))) H) : rEqU K (.bl i) (.bl j) H Q :=
  .inl ⟨rfl, by rw [bl_eq]; exact h⟩
theorem rNeU_b {K : PySem.W.Frag} {H : Hp} {Q : VK} {i j : Bool} (h : Q (.bl (!decide (i = j))) H) : rNeU K (.bl i) (.bl j) H Q :=
  .inl ⟨rfl, by rw [bl_eq]; exact h⟩
/-! every member of a list that was written out -/
theorem all_cons {P : V → Prop} {v : V} {vs : List V} (h : P v) (h2 : ∀ u, u ∈ vs → P u) : ∀ u, u ∈ v :: vs → P u :=
  fun u hu => (List.mem_cons.mp hu).elim (fun z => by rw [z]; exact h) (h2 u)
theorem all_nil {P : V → Prop} : ∀ u, u ∈ ([] : List V) → P u := fun u hu => nomatch hu
end EL

namespace Nm
/-! ### primes by trial -/
def noDiv : Nat → Nat → Nat → Bool
  | 0, _, _ => true
  | f + 1, d, n => if n < d * d then true else if n % d = 0 then false else noDiv f (d + 2) n
def isPN (n : Nat) : Bool := decide (3 ≤ n) && (decide (n % 2 = 1) && noDiv n 3 n)
def isP (n : Int) : Bool := isPN n.toNat
theorem noDiv_big {f d n : Nat} (h : n < d * d) : noDiv f d n = true := by
  cases f with
  | zero => rfl
  | succ f => unfold noDiv; rw [if_pos h]
theorem noDiv_hit {f d n : Nat} (h : d * d ≤ n) (h2 : n % d = 0) : noDiv (f + 1) d n = false := by
  unfold noDiv
  rw [if_neg (by omega), if_pos h2]
theorem noDiv_go {f d n : Nat} (h : d * d ≤ n) (h2 : n % d ≠ 0) : noDiv (f + 1) d n = noDiv f (d + 2) n := by
  rw [noDiv, if_neg (by omega), if_neg h2]
/-- no divisor from d on in steps of two, up to the root -/
theorem noDiv_all : ∀ {f d n : Nat}, noDiv f d n = true → n < d + 2 * f → ∀ k, (d + 2 * k) * (d + 2 * k) ≤ n → n % (d + 2 * k) ≠ 0
  | 0, d, n, _, hf, k, hk => by
    have : d + 2 * k ≤ (d + 2 * k) * (d + 2 * k) := Nat.le_mul_self _
    omega
  | f + 1, d, n, h, hf, k, hk => by
    by_cases hb : n < d * d
    · exfalso
      have : d * d ≤ (d + 2 * k) * (d + 2 * k) := Nat.mul_le_mul (by omega) (by omega)
      omega
    · by_cases hm : n % d = 0
      · rw [noDiv_hit (by omega) hm] at h
        cases h
      · rw [noDiv_go (by omega) hm] at h
        cases k with
        | zero => simpa using hm
        | succ k =>
          have e : d + 2 * (k + 1) = (d + 2) + 2 * k := by omega
          rw [e] at hk ⊢
          exact noDiv_all h (by omega) k hk
theorem mod_of_dvd_lt {n d : Nat} (h : n % d = 0) : d ∣ n := Nat.dvd_of_mod_eq_zero h
/-- a number that the trial lets has no divisor but 1 and itself -/
theorem isPN_prime {n : Nat} (h : isPN n = true) : 3 ≤ n ∧ n % 2 = 1 ∧ ∀ d, 1 < d → d < n → n % d ≠ 0 := by
  unfold isPN at h
  simp only [Bool.and_eq_true, decide_eq_true_eq] at h
  obtain ⟨h3, h2, hn⟩ := h
  refine ⟨h3, h2, ?_⟩
  -- no small divisor
  have small : ∀ d, 1 < d → d * d ≤ n → n % d ≠ 0 := by
    intro d hd hdd hm
    have hdv : d ∣ n := Nat.dvd_of_mod_eq_zero hm
    by_cases ho : d % 2 = 0
    · have : 2 ∣ n := Nat.dvd_trans (Nat.dvd_of_mod_eq_zero ho) hdv
      have := Nat.mod_eq_zero_of_dvd this
      omega
    · have e : d = 3 + 2 * ((d - 3) / 2) := by omega
      have q := noDiv_all hn (by omega) ((d - 3) / 2)
      rw [← e] at q
      exact q hdd hm
  intro d hd hlt hm
  have hdv : d ∣ n := Nat.dvd_of_mod_eq_zero hm
  obtain ⟨c, hc⟩ := hdv
  by_cases hdd : d * d ≤ n
  · exact small d hd hdd hm
  · have hcd : c < d := by
      apply Nat.lt_of_mul_lt_mul_left (a := d)
      omega
    have hc1 : 1 < c := by
      rcases Nat.lt_or_ge 1 c with z | z
      · exact z
      · exfalso
        have : c = 0 ∨ c = 1 := by omega
        rcases this with rfl | rfl
        · omega
        · omega
    have hcc : c * c ≤ n := by
      rw [hc]
      exact Nat.mul_le_mul_right c (by omega)
    refine small c hc1 hcc ?_
    rw [hc]
    exact Nat.mul_mod_left d c
end Nm

namespace Nm
/-! ### residues -/
theorem mul_mod_r (x y p : Int) : x * (y % p) % p = x * y % p := by rw [Int.mul_emod, Int.emod_emod, ← Int.mul_emod]
theorem mul_mod_l (x y p : Int) : (x % p) * y % p = x * y % p := by rw [Int.mul_emod, Int.emod_emod, ← Int.mul_emod]
theorem mod_of_eq {a b p k : Int} (h : a = b + p * k) : a % p = b % p := by rw [h, Int.add_mul_emod_self_left]
theorem eq_of_mod {a b p : Int} (h : a % p = b % p) : ∃ k, a = b + p * k := ⟨a / p - b / p, by
  have h1 := Int.mul_ediv_add_emod a p
  have h2 := Int.mul_ediv_add_emod b p
  grind⟩
theorem mod_self {a p : Int} (h : 0 ≤ a ∧ a < p) : a % p = a := Int.emod_eq_of_lt h.1 h.2
theorem inv_unique {p x y z : Int} (hy : 0 ≤ y ∧ y < p) (hz : 0 ≤ z ∧ z < p) (h1 : x * y % p = 1) (h2 : x * z % p = 1) : y = z := by
  have h3 : x * y % p = x * z % p := h1.trans h2.symm
  obtain ⟨a, ha⟩ := eq_of_mod h3
  have e := Int.mul_ediv_add_emod (x * y) p
  have q : y % p = z % p := by
    refine mod_of_eq (k := y * a - (x * y / p) * (y - z)) ?_
    rw [h1] at e
    grind
  rw [mod_self hy, mod_self hz] at q
  exact q
/-- the residue whose product with x is 1 (0 if there is none) -/
def inv (p x : Int) : Int := (((List.range p.toNat).find? fun (y : Nat) => decide (x * (y : Int) % p = 1)).getD 0 : Nat)
theorem inv_eq {p x y : Int} (hy : 0 ≤ y ∧ y < p) (h : x * y % p = 1) : inv p x = y := by
  unfold inv
  have hm : y.toNat ∈ List.range p.toNat := List.mem_range.mpr (by omega)
  cases e : (List.range p.toNat).find? fun (y : Nat) => decide (x * (y : Int) % p = 1) with
  | none =>
    have q := List.find?_eq_none.mp e _ hm
    rw [Int.toNat_of_nonneg hy.1] at q
    simp [h] at q
  | some z =>
    have q := List.find?_some e
    have q2 := List.mem_of_find?_eq_some e
    have hz := List.mem_range.mp q2
    simp only [decide_eq_true_eq] at q
    show ((z : Nat) : Int) = y
    exact inv_unique ⟨by omega, by omega⟩ hy q h
/-- a common divisor of an odd prime and a smaller number is 1 -/
theorem gcd_prime {p x : Nat} (h : isPN p = true) (h1 : 1 ≤ x) (h2 : x < p) : Nat.gcd x p = 1 := by
  have hp := (isPN_prime h).2.2 (Nat.gcd x p)
  have d1 : Nat.gcd x p ∣ x := Nat.gcd_dvd_left x p
  have d2 : Nat.gcd x p ∣ p := Nat.gcd_dvd_right x p
  have l1 : Nat.gcd x p ≤ x := Nat.le_of_dvd (by omega) d1
  have l2 : 0 < Nat.gcd x p := Nat.gcd_pos_of_pos_left _ (by omega)
  rcases Nat.lt_or_ge 1 (Nat.gcd x p) with z | z
  · exact absurd (Nat.mod_eq_zero_of_dvd d2) (hp z (by omega))
  · omega
theorem isP_nat {p : Int} (h : isP p = true) : isPN p.toNat = true ∧ 3 ≤ p := by
  have h' : isPN p.toNat = true := h
  have := (isPN_prime h').1
  exact ⟨h', by omega⟩
/-- the word of the loop that finds the inverse -/
structure InvAt (p x r o f l : Int) : Prop where
  r0 : 0 < r
  rb : r < p
  o0 : 0 ≤ o
  ob : o ≤ p
  g : Nat.gcd r.toNat o.toNat = 1
  hf : ∃ k, f * x = r + p * k
  hl : ∃ k, l * x = o + p * k
theorem invAt_start {p x : Int} (hp : isP p = true) (h1 : 1 ≤ x) (h2 : x ≤ p - 1) : InvAt p x x p 1 0 := by
  have hq := isP_nat hp
  exact ⟨by omega, by omega, by omega, by omega, gcd_prime hq.1 (by omega) (by omega), ⟨0, by grind⟩, ⟨-1, by grind⟩⟩
theorem invAt_step {p x r o f l : Int} (h : InvAt p x r o f l) (hr : 1 < r) : InvAt p x (o - o / r * r) r (l - o / r * f) f ∧ o - o / r * r < r ∧ 0 ≤ o / r ∧ o / r ≤ o := by
  have e : o - o / r * r = o % r := by
    have := Int.mul_ediv_add_emod o r
    grind
  have hm0 : 0 ≤ o % r := Int.emod_nonneg _ (by omega)
  have hm1 : o % r < r := Int.emod_lt_of_pos _ (by omega)
  have hg : Nat.gcd (o % r).toNat r.toNat = 1 := by
    have e2 : (o % r).toNat = o.toNat % r.toNat := Int.toNat_emod h.o0 (by omega)
    rw [e2]
    have q2 := h.g
    rw [Nat.gcd_rec] at q2
    exact q2
  have hpos : 0 < o % r := by
    rcases Int.lt_or_eq_of_le hm0 with z | z
    · exact z
    · exfalso
      rw [← z] at hg
      simp at hg
      omega
  obtain ⟨k1, h1⟩ := h.hf
  obtain ⟨k2, h2⟩ := h.hl
  refine ⟨⟨by rw [e]; exact hpos, by rw [e]; have := h.rb; omega, by omega, by have := h.rb; omega, by rw [e]; exact hg, ⟨k2 - o / r * k1, by grind⟩, ⟨k1, h1⟩⟩, by rw [e]; exact hm1, ?_, ?_⟩
  · exact Int.ediv_nonneg h.o0 (by omega)
  · exact Int.ediv_le_self _ h.o0
theorem invAt_end {p x r o f l : Int} (h : InvAt p x r o f l) (hr : ¬ 1 < r) : x * (f % p) % p = 1 ∧ 0 ≤ f % p ∧ f % p < p ∧ inv p x = f % p := by
  have h0 := h.r0
  have hb := h.rb
  have e : r = 1 := by omega
  obtain ⟨k, hk⟩ := h.hf
  have q : x * (f % p) % p = 1 := by
    rw [mul_mod_r, mod_of_eq (b := 1) (k := k) (by grind), Int.emod_eq_of_lt (by omega) (by omega)]
  have b0 : 0 ≤ f % p := Int.emod_nonneg _ (by omega)
  have b1 : f % p < p := Int.emod_lt_of_pos _ (by omega)
  exact ⟨q, b0, b1, inv_eq ⟨b0, b1⟩ q⟩
theorem inv_of_word {p x : Int} : ∀ (n : Nat) (r o f l : Int), InvAt p x r o f l → r.toNat ≤ n → x * inv p x % p = 1 ∧ 0 ≤ inv p x ∧ inv p x < p
  | 0, r, o, f, l, h, hn => by
    have := h.r0
    omega
  | n + 1, r, o, f, l, h, hn => by
    by_cases hr : 1 < r
    · obtain ⟨h2, hlt, _, _⟩ := invAt_step h hr
      exact inv_of_word n _ _ _ _ h2 (by have := h2.r0; omega)
    · obtain ⟨h1, h2, h3, h4⟩ := invAt_end h hr
      rw [h4]
      exact ⟨h1, h2, h3⟩
theorem inv_spec {p x : Int} (hp : isP p = true) (h1 : 1 ≤ x) (h2 : x ≤ p - 1) : x * inv p x % p = 1 ∧ 0 ≤ inv p x ∧ inv p x < p :=
  inv_of_word x.toNat _ _ _ _ (invAt_start hp h1 h2) (Nat.le_refl _)
/-- the one k with a k = b -/
theorem quot_hit {p a b : Int} (hp : isP p = true) (h1 : 1 ≤ a) (h2 : a ≤ p - 1) (hb : 0 ≤ b ∧ b < p) : a * (b * inv p a % p) % p = b := by
  have q := (inv_spec hp h1 h2).1
  rw [mul_mod_r]
  have e : a * (b * inv p a) = b * (a * inv p a) := by grind
  rw [e, Int.mul_emod, q, Int.mul_one, Int.emod_emod, mod_self hb]
theorem quot_unique {p a b k : Int} (hp : isP p = true) (h1 : 1 ≤ a) (h2 : a ≤ p - 1) (hk : 0 ≤ k ∧ k < p) (h : a * k % p = b) : k = b * inv p a % p := by
  have q := (inv_spec hp h1 h2).1
  rw [← h, mul_mod_l]
  have e : a * k * inv p a = k * (a * inv p a) := by grind
  rw [e, Int.mul_emod, q, Int.mul_one, Int.emod_emod, mod_self hk]
end Nm

namespace Nm
/-! ### lists over a range -/
theorem filt_succ {f : Nat → Int} {P : Int → Bool} {i : Nat} :
    ((List.range (i + 1)).map f).filter P = ((List.range i).map f).filter P ++ (if P (f i) = true then [f i] else []) := by
  rw [List.range_succ, List.map_append, List.filter_append]
  congr 1
  rw [List.map_singleton, List.filter_cons, List.filter_nil]
/-- the number of values below n that a list holds is at most its length -/
theorem pigeon : ∀ (n : Nat) (L : List Int), (∀ k : Nat, k < n → (k : Int) ∈ L) → n ≤ L.length
  | 0, _, _ => Nat.zero_le _
  | n + 1, L, h => by
    have q := pigeon n (L.erase (n : Int)) fun k hk => by
      refine (List.mem_erase_of_ne (by omega)).mpr (h k (by omega))
    have hm := h n (by omega)
    have e := List.length_erase_of_mem hm
    have : 0 < L.length := List.length_pos_of_mem hm
    omega
/-! ### primes -/
theorem noDiv_of {n : Nat} (h : ∀ d, 1 < d → d < n → n % d ≠ 0) : ∀ (f d : Nat), 1 < d → noDiv f d n = true
  | 0, _, _ => rfl
  | f + 1, d, hd => by
    by_cases c : n < d * d
    · exact noDiv_big c
    · have hlt : d < n := by
        rcases Nat.lt_or_ge d n with z | z
        · exact z
        · exfalso
          have : 2 * d ≤ d * d := Nat.mul_le_mul_right d hd
          omega
      rw [noDiv_go (by omega) (h d hd hlt)]
      exact noDiv_of h f (d + 2) (by omega)
theorem isPN_of {n : Nat} (h3 : 3 ≤ n) (ho : n % 2 = 1) (h : ∀ d, 1 < d → d < n → n % d ≠ 0) : isPN n = true := by
  unfold isPN
  rw [decide_eq_true h3, decide_eq_true ho, noDiv_of h _ _ (by omega)]
  rfl
/-- an odd number that is no prime has a prime divisor up to its root -/
theorem small_div {n : Nat} (h3 : 3 ≤ n) (ho : n % 2 = 1) (h : isPN n = false) : ∃ q, isPN q = true ∧ q * q ≤ n ∧ n % q = 0 := by
  -- some divisor, then the least
  have ex : ∃ d, 1 < d ∧ d < n ∧ n % d = 0 := by
    rcases Classical.em (∃ d, 1 < d ∧ d < n ∧ n % d = 0) with z | z
    · exact z
    · exfalso
      have := isPN_of h3 ho fun d h1 h2 h3 => z ⟨d, h1, h2, h3⟩
      rw [h] at this
      cases this
  have least : ∀ k, (∃ d, d ≤ k ∧ 1 < d ∧ d < n ∧ n % d = 0) → ∃ d, (1 < d ∧ d < n ∧ n % d = 0) ∧ ∀ e, 1 < e → e < d → n % e ≠ 0 := by
    intro k
    induction k with
    | zero =>
      rintro ⟨d, h1, h2, _⟩
      omega
    | succ k ih =>
      rintro ⟨d, h1, h2⟩
      rcases Classical.em (∃ d, d ≤ k ∧ 1 < d ∧ d < n ∧ n % d = 0) with z | z
      · exact ih z
      · refine ⟨d, h2, fun e he1 he2 hz => z ⟨e, by omega, he1, by omega, hz⟩⟩
  obtain ⟨d0, hd0⟩ := ex
  obtain ⟨d, ⟨d1, d2, d3⟩, dl⟩ := least d0 ⟨d0, Nat.le_refl _, hd0⟩
  have dv : d ∣ n := Nat.dvd_of_mod_eq_zero d3
  have dodd : d % 2 = 1 := by
    rcases Nat.mod_two_eq_zero_or_one d with z | z
    · exfalso
      have : 2 ∣ n := Nat.dvd_trans (Nat.dvd_of_mod_eq_zero z) dv
      have := Nat.mod_eq_zero_of_dvd this
      omega
    · exact z
  refine ⟨d, isPN_of (by omega) dodd fun e he1 he2 hz => ?_, ?_, d3⟩
  · exact dl e he1 he2 (Nat.mod_eq_zero_of_dvd (Nat.dvd_trans (Nat.dvd_of_mod_eq_zero hz) dv))
  · obtain ⟨c, hc⟩ := dv
    have c1 : 1 < c := by
      rcases Nat.lt_or_ge 1 c with z | z
      · exact z
      · exfalso
        have : c = 0 ∨ c = 1 := by omega
        rcases this with rfl | rfl <;> omega
    rcases Nat.lt_or_ge c d with z | z
    · exfalso
      exact dl c c1 z (by rw [hc]; exact Nat.mul_mod_left d c)
    · rw [hc]
      exact Nat.mul_le_mul_left d z
def primesTo (m : Int) : List Int := ((List.range (m - 2).toNat).map fun (i : Nat) => 3 + (i : Int)).filter isP
theorem mem_primes {m q : Int} : q ∈ primesTo m ↔ isP q = true ∧ q ≤ m := by
  unfold primesTo
  rw [List.mem_filter, List.mem_map]
  constructor
  · rintro ⟨⟨i, hi, rfl⟩, h⟩
    have := List.mem_range.mp hi
    exact ⟨h, by omega⟩
  · rintro ⟨h, hq⟩
    have := (isP_nat h).2
    exact ⟨⟨(q - 3).toNat, List.mem_range.mpr (by omega), by omega⟩, h⟩
theorem primes_up (m : Int) : (primesTo m).Pairwise (· < ·) := by
  unfold primesTo
  refine List.Pairwise.filter _ ?_
  rw [List.pairwise_map]
  exact List.pairwise_lt_range.imp fun h => by omega
theorem primes_len (m : Int) : (primesTo m).length ≤ (m - 2).toNat := by
  unfold primesTo
  refine Nat.le_trans (List.length_filter_le _ _) ?_
  rw [List.length_map, List.length_range]
  exact Nat.le_refl _
theorem primes_succ {i : Nat} : primesTo (2 + ((i + 1 : Nat) : Int)) = primesTo (2 + (i : Nat)) ++ (if isP (3 + (i : Int)) = true then [3 + (i : Int)] else []) := by
  unfold primesTo
  have e1 : (2 + ((i + 1 : Nat) : Int) - 2).toNat = i + 1 := by omega
  have e2 : (2 + (i : Int) - 2).toNat = i := by omega
  rw [e1, e2]
  exact filt_succ
theorem primes_cut {m n : Int} (h : m ≤ n) : (primesTo n).filter (fun q => decide (q ≤ m)) = primesTo m := by
  unfold primesTo
  rw [List.filter_filter]
  obtain ⟨d, hd⟩ : ∃ d, (n - 2).toNat = (m - 2).toNat + d := ⟨(n - 2).toNat - (m - 2).toNat, by omega⟩
  rw [hd, List.range_add, List.map_append, List.filter_append]
  have h2 : (List.map (fun i : Nat => 3 + (i : Int)) ((List.range d).map fun x => (m - 2).toNat + x)).filter (fun a => decide (a ≤ m) && isP a) = [] := by
    rw [List.filter_eq_nil_iff]
    intro a ha
    obtain ⟨i, hi, rfl⟩ := List.mem_map.mp ha
    obtain ⟨j, _, rfl⟩ := List.mem_map.mp hi
    simp only [Bool.and_eq_true, decide_eq_true_eq, not_and]
    intro h1 h2
    have := (isP_nat h2).2
    omega
  rw [h2, List.append_nil]
  refine List.filter_congr fun a ha => ?_
  obtain ⟨i, hi, rfl⟩ := List.mem_map.mp ha
  have := List.mem_range.mp hi
  rw [decide_eq_true (by omega : 3 + (i : Int) ≤ m)]
  rfl
/-- the sieve's word: the numbers of a cut of the primes below n do not divide it, the rest are too large -/
theorem sieve {n : Int} {j : Nat} (h3 : 3 ≤ n) (hb : ∀ i (q : Int), j ≤ i → (primesTo (n - 1))[i]? = some q → n < q * q) :
    isP n = (decide (n % 2 = 1) && ((primesTo (n - 1)).take j).all fun q => decide (n % q ≠ 0)) := by
  obtain ⟨N, rfl⟩ : ∃ N : Nat, n = (N : Int) := ⟨n.toNat, by omega⟩
  have eP : isP (N : Int) = isPN N := by unfold isP; rw [Int.toNat_natCast]
  rw [eP]
  by_cases ho : N % 2 = 1
  · rw [decide_eq_true (by omega : (N : Int) % 2 = 1), Bool.true_and]
    cases hp : isPN N with
    | true =>
      symm
      rw [List.all_eq_true]
      intro q hq
      have hq2 := mem_primes.mp (List.mem_of_mem_take hq)
      have h4 := isP_nat hq2.1
      have h5 := (isPN_prime hp).2.2 q.toNat (by omega) (by omega)
      refine decide_eq_true fun z => h5 ?_
      have : ((N % q.toNat : Nat) : Int) = (N : Int) % q := by
        rw [Int.natCast_emod, Int.toNat_of_nonneg (by omega)]
      omega
    | false =>
      symm
      rw [Bool.eq_false_iff]
      intro hall
      rw [List.all_eq_true] at hall
      obtain ⟨q, hq, hqq, hdv⟩ := small_div (by omega) ho hp
      have q3 := (isPN_prime hq).1
      have qlt : q < N := by
        have : 3 * q ≤ q * q := Nat.mul_le_mul_right q q3
        omega
      have hm : (q : Int) ∈ primesTo ((N : Int) - 1) := mem_primes.mpr ⟨by unfold isP; rw [Int.toNat_natCast]; exact hq, by omega⟩
      obtain ⟨i, hi⟩ := List.getElem?_of_mem hm
      have hij : i < j := by
        rcases Nat.lt_or_ge i j with z | z
        · exact z
        · exfalso
          have := hb i _ z hi
          have : ((q * q : Nat) : Int) = (q : Int) * q := Int.natCast_mul q q
          omega
      have ht : (q : Int) ∈ (primesTo ((N : Int) - 1)).take j := by
        refine List.mem_of_getElem? (i := i) ?_
        rw [List.getElem?_take, if_pos hij]
        exact hi
      have := of_decide_eq_true (hall _ ht)
      have e2 : ((N % q : Nat) : Int) = (N : Int) % q := Int.natCast_emod _ _
      omega
  · rw [decide_eq_false (by omega : ¬ (N : Int) % 2 = 1), Bool.false_and]
    unfold isPN
    rw [decide_eq_false ho]
    simp
/-! ### squares -/
def sqL (p : Int) : List Int := (List.range p.toNat).map fun (y : Nat) => (y : Int) * y % p
def isSq (p k : Int) : Bool := decide (k ∈ sqL p)
def lnsF (p : Int) : Nat → Int → Int
  | 0, n => n
  | f + 1, n => if isSq p n = true then lnsF p f (n + 1) else n
/-- the least number from 2 on that is no square -/
def lns (p : Int) : Int := lnsF p p.toNat 2
theorem sq_lt {p k : Int} (hp : 0 < p) (h : isSq p k = true) : 0 ≤ k ∧ k < p := by
  unfold isSq sqL at h
  obtain ⟨y, _, rfl⟩ := List.mem_map.mp (of_decide_eq_true h)
  exact ⟨Int.emod_nonneg _ (by omega), Int.emod_lt_of_pos _ hp⟩
theorem sq_mod {p y : Int} (hp : 0 < p) : isSq p (y * y % p) = true := by
  unfold isSq sqL
  refine decide_eq_true (List.mem_map.mpr ⟨(y % p).toNat, ?_, ?_⟩)
  · have := Int.emod_lt_of_pos y hp
    have := Int.emod_nonneg y (show p ≠ 0 by omega)
    exact List.mem_range.mpr (by omega)
  · have := Int.emod_nonneg y (show p ≠ 0 by omega)
    rw [Int.toNat_of_nonneg this, ← Int.mul_emod]
/-- half of the numbers give all squares -/
theorem sq_half {p k : Int} (hp : 0 < p) (h : isSq p k = true) : ∃ y : Nat, y ≤ p.toNat / 2 ∧ (y : Int) * y % p = k := by
  unfold isSq sqL at h
  obtain ⟨y, hy, rfl⟩ := List.mem_map.mp (of_decide_eq_true h)
  have hy := List.mem_range.mp hy
  by_cases c : y ≤ p.toNat / 2
  · exact ⟨y, c, rfl⟩
  · refine ⟨p.toNat - y, by omega, ?_⟩
    have e : ((p.toNat - y : Nat) : Int) = p - y := by omega
    rw [e]
    exact mod_of_eq (k := p - 2 * y) (by grind)
theorem has_nonsq {p : Int} (hp : isP p = true) : ∃ k : Int, 2 ≤ k ∧ k < p ∧ isSq p k = false := by
  have h3 := (isP_nat hp).2
  rcases Classical.em (∃ k : Int, 2 ≤ k ∧ k < p ∧ isSq p k = false) with z | z
  · exact z
  · exfalso
    have all : ∀ k : Nat, k < p.toNat → (k : Int) ∈ ((List.range (p.toNat / 2 + 1)).map fun (y : Nat) => (y : Int) * y % p) := by
      intro k hk
      have hs : isSq p k = true := by
        by_cases c : k < 2
        · have q := sq_mod (p := p) (y := k) (by omega)
          have e : (k : Int) * k % p = k := by
            have : k = 0 ∨ k = 1 := by omega
            rcases this with rfl | rfl
            · simp
            · exact Int.emod_eq_of_lt (by omega) (by omega)
          rw [e] at q
          exact q
        · cases e : isSq p k with
          | true => rfl
          | false => exact absurd ⟨(k : Int), by omega, by omega, e⟩ z
      obtain ⟨y, h1, h2⟩ := sq_half (by omega) hs
      exact List.mem_map.mpr ⟨y, List.mem_range.mpr (by omega), h2⟩
    have := pigeon _ _ all
    rw [List.length_map, List.length_range] at this
    omega
theorem lnsF_spec {p : Int} (hp : isP p = true) : ∀ (f : Nat) (n : Int), (∃ k : Int, n ≤ k ∧ k < p ∧ k ≤ n + f ∧ isSq p k = false) → 2 ≤ n → (∀ k, 2 ≤ k → k < n → isSq p k = true) →
    2 ≤ lnsF p f n ∧ lnsF p f n < p ∧ isSq p (lnsF p f n) = false ∧ ∀ k, 2 ≤ k → k < lnsF p f n → isSq p k = true
  | 0, n, ⟨k, h1, h2, h3, h4⟩, hn, hb => by
    have : k = n := by omega
    subst this
    exact ⟨hn, h2, h4, hb⟩
  | f + 1, n, ⟨k, h1, h2, h3, h4⟩, hn, hb => by
    unfold lnsF
    split
    · rename_i c
      refine lnsF_spec hp f (n + 1) ⟨k, ?_, h2, by omega, h4⟩ (by omega) fun j j1 j2 => ?_
      · rcases Int.lt_or_le n k with z | z
        · omega
        · have : k = n := by omega
          subst this
          rw [c] at h4
          cases h4
      · rcases Int.lt_or_le j n with z | z
        · exact hb j j1 z
        · have : j = n := by omega
          subst this
          exact c
    · rename_i c
      refine ⟨hn, by omega, by simpa using c, hb⟩
theorem lns_spec {p : Int} (hp : isP p = true) : 2 ≤ lns p ∧ lns p < p ∧ isSq p (lns p) = false ∧ ∀ k, 2 ≤ k → k < lns p → isSq p k = true := by
  obtain ⟨k, h1, h2, h3⟩ := has_nonsq hp
  exact lnsF_spec hp _ _ ⟨k, h1, h2, by omega, h3⟩ (by omega) fun j h1 h2 => by omega
/-! ### powers -/
def pwF (p : Int) : Nat → Int → Int → Int → Int
  | 0, r, _, _ => r
  | f + 1, r, s, l => if 0 < l then pwF p f (if l % 2 = 1 then r * s % p else r) (s * s % p) (l / 2) else r
def pw (p x e : Int) : Int := pwF p e.toNat 1 x e
theorem pwF_zero {p : Int} : ∀ (f : Nat) (r s l : Int), l ≤ 0 → pwF p f r s l = r
  | 0, _, _, _, _ => rfl
  | f + 1, r, s, l, h => by unfold pwF; rw [if_neg (by omega)]
theorem pwF_null {p : Int} : ∀ (f : Nat) (r l : Int), l.toNat ≤ f → 0 < l ∨ r = 0 → pwF p f r 0 l = 0
  | 0, r, l, h, h2 => by
    rcases h2 with z | z
    · omega
    · exact z
  | f + 1, r, l, h, h2 => by
    unfold pwF
    split
    · rename_i c
      have e : (0 : Int) * 0 % p = 0 := by simp
      rw [e]
      refine pwF_null f _ _ (by omega) ?_
      by_cases c2 : l % 2 = 1
      · rw [if_pos c2]
        exact .inr (by simp)
      · rw [if_neg c2]
        rcases h2 with z | z
        · exact .inl (by omega)
        · exact .inr z
    · rename_i c
      rcases h2 with z | z
      · omega
      · exact z
theorem pw_null {p e : Int} (h : 0 < e) : pw p 0 e = 0 := pwF_null _ _ _ (Nat.le_refl _) (.inl h)
theorem pw_two {p x : Int} : pw p x 2 = x * x % p := by
  show pwF p 2 1 x 2 = _
  simp only [pwF]
  simp
end Nm

namespace Nm
theorem find_at {P : Nat → Bool} : ∀ {n i : Nat}, i < n → P i = true → (∀ j, j < i → P j = false) → (List.range n).find? P = some i := by
  intro n i hi hp hb
  obtain ⟨d, rfl⟩ : ∃ d, n = i + (d + 1) := ⟨n - i - 1, by omega⟩
  rw [List.range_add, List.find?_append]
  have e : (List.range i).find? P = none := List.find?_eq_none.mpr fun x hx => by rw [hb x (List.mem_range.mp hx)]; simp
  rw [e, List.range_succ_eq_map, List.map_cons, List.find?_cons]
  simp [hp]
theorem find_no {P : Nat → Bool} {n : Nat} (h : ∀ j, j < n → P j = false) : (List.range n).find? P = none :=
  List.find?_eq_none.mpr fun x hx => by rw [h x (List.mem_range.mp hx)]; simp
def rtP (p x : Int) (y : Nat) : Bool := decide ((y : Int) * y % p = x)
def rt (p x : Int) : Option Nat := (List.range ((p + 1) / 2).toNat).find? (rtP p x)
theorem rt_all {p x : Int} (hp : isP p = true) : rt p x = (List.range p.toNat).find? (rtP p x) := by
  have h3 := (isP_nat hp).2
  have ho := (isPN_prime (isP_nat hp).1).2.1
  unfold rt
  obtain ⟨d, hd⟩ : ∃ d, p.toNat = ((p + 1) / 2).toNat + d := ⟨p.toNat - ((p + 1) / 2).toNat, by omega⟩
  have e0 := hd
  rw [hd, List.range_add, List.find?_append]
  cases e : (List.range ((p + 1) / 2).toNat).find? (rtP p x) with
  | some y => rfl
  | none =>
    symm
    rw [Option.none_or, List.find?_eq_none]
    intro z hz
    obtain ⟨j, hj, rfl⟩ := List.mem_map.mp hz
    have hj := List.mem_range.mp hj
    have q := List.find?_eq_none.mp e (p.toNat - (((p + 1) / 2).toNat + j)) (List.mem_range.mpr (by omega))
    intro c
    refine q ?_
    unfold rtP at c ⊢
    rw [← of_decide_eq_true c]
    refine decide_eq_true ?_
    have e1 : ((p.toNat - (((p + 1) / 2).toNat + j) : Nat) : Int) = p - ((((p + 1) / 2).toNat + j : Nat) : Int) := by omega
    rw [e1]
    refine mod_of_eq (k := p - 2 * ((((p + 1) / 2).toNat + j : Nat) : Int)) (by grind)
/-- the values y below p at which P holds, in the order -/
def ys (p : Int) (P : Nat → Bool) : List Int := ((List.range p.toNat).filter P).map fun (y : Nat) => (y : Int)
theorem ys_head {p : Int} {P : Nat → Bool} : (ys p P)[0]? = ((List.range p.toNat).find? P).map fun (y : Nat) => (y : Int) := by
  unfold ys
  rw [List.getElem?_map, ← List.head?_eq_getElem?, List.head?_filter]
theorem ys_succ {P : Nat → Bool} {i : Nat} : ((List.range (i + 1)).filter P).map (fun (y : Nat) => (y : Int)) = ((List.range i).filter P).map (fun (y : Nat) => (y : Int)) ++ (if P i = true then [(i : Int)] else []) := by
  rw [List.range_succ, List.filter_append, List.map_append]
  congr 1
  rw [List.filter_cons, List.filter_nil]
  split <;> rfl
def ivP (p x : Int) (y : Nat) : Bool := decide (x * y % p = 1)
theorem iv_head {p x : Int} (hp : isP p = true) (h1 : 1 ≤ x) (h2 : x ≤ p - 1) : (ys p (ivP p x))[0]? = some (inv p x) := by
  obtain ⟨q1, q2, q3⟩ := inv_spec hp h1 h2
  rw [ys_head]
  have hf : (List.range p.toNat).find? (ivP p x) = some (inv p x).toNat := by
    refine find_at (by omega) ?_ fun j hj => ?_
    · unfold ivP
      rw [Int.toNat_of_nonneg q2]
      exact decide_eq_true q1
    · unfold ivP
      refine decide_eq_false fun z => ?_
      have := inv_unique (p := p) (x := x) (y := j) (z := inv p x) ⟨by omega, by omega⟩ ⟨q2, q3⟩ z q1
      omega
  rw [hf]
  show some (((inv p x).toNat : Nat) : Int) = _
  rw [Int.toNat_of_nonneg q2]
/-! the least number that is no square, from 0 on -/
theorem lns_find {p : Int} (hp : isP p = true) : (List.range p.toNat).find? (fun (x : Nat) => !isSq p (x : Int)) = some (lns p).toNat := by
  obtain ⟨h1, h2, h3, h4⟩ := lns_spec hp
  refine find_at (by omega) ?_ fun j hj => ?_
  · rw [Int.toNat_of_nonneg (by omega), h3]
    rfl
  · have : isSq p (j : Int) = true := by
      by_cases c : 2 ≤ j
      · exact h4 j (by omega) (by omega)
      · have q := sq_mod (p := p) (y := (j : Int)) (by omega)
        have e : (j : Int) * j % p = j := by
          have : j = 0 ∨ j = 1 := by omega
          rcases this with rfl | rfl
          · simp
          · exact Int.emod_eq_of_lt (by omega) (by omega)
        rw [e] at q
        exact q
    rw [this]
    rfl
def pwL (p e : Int) : List Int := (List.range p.toNat).map fun (y : Nat) => pw p (y : Int) e
def roP (p e x : Int) (y : Nat) : Bool := decide (pw p (y : Int) e = x)
/-- the roots from 1 on are those from 0 on -/
theorem roots_all {p e x : Int} (hp : isP p = true) (he : 0 < e) (hx : x ≠ 0) :
    (((List.range (p - 1).toNat).map fun (i : Nat) => 1 + (i : Int)).filter fun r => decide (pw p r e = x)) = ys p (roP p e x) := by
  have h3 := (isP_nat hp).2
  unfold ys
  have hn : p.toNat = (p - 1).toNat + 1 := by omega
  rw [hn, List.range_succ_eq_map, List.filter_cons, if_neg (by unfold roP; rw [show (((0 : Nat) : Int)) = 0 from rfl, pw_null he]; simpa using fun z => hx z.symm)]
  rw [List.filter_map, List.filter_map, List.map_map]
  have hc : ∀ i : Nat, 1 + (i : Int) = ((i + 1 : Nat) : Int) := fun i => by omega
  congr 1
  · funext i
    exact hc i
  · refine List.filter_congr fun i _ => ?_
    show decide (pw p (1 + (i : Int)) e = x) = roP p e x (i + 1)
    rw [hc]
    rfl
theorem roots_two {p : Int} (hp : isP p = true) : ys p (roP p 2 (lns p)) = [] := by
  obtain ⟨h1, h2, h3, _⟩ := lns_spec hp
  unfold ys
  rw [List.map_eq_nil_iff, List.filter_eq_nil_iff]
  intro y hy hz
  unfold roP at hz
  have hz := of_decide_eq_true hz
  rw [pw_two] at hz
  have := sq_mod (p := p) (y := (y : Int)) (by omega)
  rw [hz, h3] at this
  cases this
end Nm

namespace Nm
/-! ### residues as Fin p, where grind knows the rings -/
section
variable {p : Nat} [NeZero p]
def fz (p : Nat) [NeZero p] (x : Int) : Fin p := Fin.ofNat p (x % (p : Int)).toNat
theorem p_pos : 0 < p := Nat.pos_of_ne_zero (NeZero.ne p)
theorem fz_val (x : Int) : ((fz p x).val : Int) = x % (p : Int) := by
  have h0 := p_pos (p := p)
  have h1 := Int.emod_nonneg x (show (p : Int) ≠ 0 by omega)
  have h2 := Int.emod_lt_of_pos x (show (0 : Int) < p by omega)
  unfold fz
  rw [Fin.val_ofNat, Nat.mod_eq_of_lt (by omega)]
  omega
theorem fz_eq {x y : Int} (h : x % (p : Int) = y % (p : Int)) : fz p x = fz p y := by
  unfold fz
  rw [h]
theorem fz_inj {x y : Int} (h : fz p x = fz p y) : x % (p : Int) = y % (p : Int) := by
  rw [← fz_val (p := p) x, ← fz_val (p := p) y, h]
theorem fz_mod (x : Int) : fz p (x % (p : Int)) = fz p x := fz_eq (Int.emod_emod _ _)
theorem fz_of_val {x : Int} {a : Fin p} (h : (a.val : Int) = x % (p : Int)) : fz p x = a := by
  apply Fin.ext
  have := fz_val (p := p) x
  omega
theorem fz_add (x y : Int) : fz p (x + y) = fz p x + fz p y := by
  refine fz_of_val ?_
  rw [Fin.val_add, Int.natCast_emod, Int.natCast_add, fz_val, fz_val, ← Int.add_emod]
theorem fz_mul (x y : Int) : fz p (x * y) = fz p x * fz p y := by
  refine fz_of_val ?_
  rw [Fin.val_mul, Int.natCast_emod, Int.natCast_mul, fz_val, fz_val, ← Int.mul_emod]
theorem fz_zero : fz p 0 = 0 := fz_of_val (by simp)
theorem fz_one : fz p 1 = 1 := fz_of_val (show (((1 % p : Nat)) : Int) = (1 : Int) % (p : Int) from Int.natCast_emod 1 p)
theorem fz_neg (x : Int) : fz p (-x) = - fz p x := by
  have e : fz p (-x) + fz p x = 0 := by
    rw [← fz_add, Int.add_left_neg, fz_zero]
  grind
theorem fz_sub (x y : Int) : fz p (x - y) = fz p x - fz p y := by
  rw [Int.sub_eq_add_neg, fz_add, fz_neg]
  grind
theorem fz_nat (n : Nat) (h : n < p) : fz p (n : Int) = ⟨n, h⟩ := by
  refine fz_of_val ?_
  rw [Int.emod_eq_of_lt (by omega) (by omega)]
theorem fz_null {x : Int} (h : fz p x = 0) : x % (p : Int) = 0 := by
  rw [← fz_zero (p := p)] at h
  rw [fz_inj h]
  simp
theorem fz_null_iff {x : Int} : x % (p : Int) = 0 ↔ fz p x = 0 :=
  ⟨fun h => by rw [← fz_zero]; exact fz_eq (by simpa using h), fz_null⟩
end
/-! no divisors of zero -/
theorem prime_dvd {p : Nat} (hp : isPN p = true) {a b : Nat} (h : p ∣ a * b) (ha : ¬ p ∣ a) : p ∣ b := by
  have hc : Nat.Coprime p a := by
    have h3 := isPN_prime hp
    have d1 : Nat.gcd p a ∣ p := Nat.gcd_dvd_left p a
    have d2 : Nat.gcd p a ∣ a := Nat.gcd_dvd_right p a
    have l1 : Nat.gcd p a ≤ p := Nat.le_of_dvd (by omega) d1
    have l0 : 0 < Nat.gcd p a := Nat.gcd_pos_of_pos_left _ (by omega)
    rcases Nat.lt_or_ge (Nat.gcd p a) 2 with z | z
    · show Nat.gcd p a = 1
      omega
    · rcases Nat.lt_or_ge (Nat.gcd p a) p with y | y
      · exact absurd (Nat.mod_eq_zero_of_dvd d1) (h3.2.2 _ (by omega) y)
      · exfalso
        have : Nat.gcd p a = p := by omega
        rw [this] at d2
        exact ha d2
  exact hc.dvd_of_dvd_mul_left h
theorem fin_dom {p : Nat} [NeZero p] (hp : isPN p = true) {a b : Fin p} (h : a * b = 0) : a = 0 ∨ b = 0 := by
  have h3 := (isPN_prime hp).1
  have e : (a.val * b.val) % p = 0 := by
    have := congrArg Fin.val h
    rw [Fin.val_mul] at this
    simpa using this
  have d := Nat.dvd_of_mod_eq_zero e
  by_cases ha : p ∣ a.val
  · refine .inl (Fin.ext ?_)
    have := Nat.eq_zero_of_dvd_of_lt ha a.isLt
    simpa using this
  · refine .inr (Fin.ext ?_)
    have := Nat.eq_zero_of_dvd_of_lt (prime_dvd hp d ha) b.isLt
    simpa using this
theorem fin_inv {p : Nat} [NeZero p] (hp : isPN p = true) {a : Fin p} (h : a ≠ 0) : ∃ b : Fin p, a * b = 1 := by
  have hP : isP (p : Int) = true := by
    unfold isP
    rw [Int.toNat_natCast]
    exact hp
  have ha : a.val ≠ 0 := fun z => h (Fin.ext (by simpa using z))
  have hl := a.isLt
  obtain ⟨q1, q2, q3⟩ := inv_spec hP (x := (a.val : Int)) (by omega) (by omega)
  refine ⟨fz p (inv p (a.val : Int)), ?_⟩
  have e : fz p (a.val : Int) = a := fz_nat _ hl
  rw [← e, ← fz_mul, ← fz_one (p := p)]
  refine fz_eq ?_
  rw [e] at *
  rw [q1]
  have h3 := (isPN_prime hp).1
  exact (Int.emod_eq_of_lt (by omega) (by omega)).symm
end Nm

namespace Nm
theorem sub_len {α : Type} [DecidableEq α] : ∀ {l m : List α}, l.Nodup → (∀ x, x ∈ l → x ∈ m) → l.length ≤ m.length
  | [], _, _, _ => Nat.zero_le _
  | a :: l, m, h, hs => by
    have hn := List.nodup_cons.mp h
    have ha := hs a (List.mem_cons_self ..)
    have q := sub_len (l := l) (m := m.erase a) hn.2 fun x hx => by
      refine (List.mem_erase_of_ne fun z => ?_).mpr (hs x (List.mem_cons_of_mem _ hx))
      rw [z] at hx
      exact hn.1 hx
    have e := List.length_erase_of_mem ha
    have : 0 < m.length := List.length_pos_of_mem ha
    rw [List.length_cons]
    omega
/-! ### the numbers of norm one -/
section
variable {R : Type} [Lean.Grind.CommRing R] [DecidableEq R]
def onesF (all : List R) (u : R) : List (R × R) := all.flatMap fun a => (all.filter fun b => decide (u * b * b = a * a - 1)).map fun b => (a, b)
variable {all : List R} {u : R}
theorem mem_ones (mem : ∀ a : R, a ∈ all) {a b : R} : (a, b) ∈ onesF all u ↔ u * b * b = a * a - 1 := by
  unfold onesF
  rw [List.mem_flatMap]
  constructor
  · rintro ⟨x, _, hx⟩
    obtain ⟨y, hy, e⟩ := List.mem_map.mp hx
    cases e
    exact of_decide_eq_true (List.mem_filter.mp hy).2
  · intro h
    exact ⟨a, mem a, List.mem_map.mpr ⟨b, List.mem_filter.mpr ⟨mem b, decide_eq_true h⟩, rfl⟩⟩
theorem ones_nodup (nd : all.Nodup) : (onesF all u).Nodup := by
  unfold onesF
  refine List.pairwise_flatMap.mpr ⟨fun a _ => ?_, ?_⟩
  · refine List.pairwise_map.mpr ?_
    refine (List.Pairwise.filter _ nd).imp fun {x y} h z => h ?_
    cases z
    rfl
  · refine List.Pairwise.imp (fun {a b} h x hx y hy z => h ?_) nd
    obtain ⟨_, _, rfl⟩ := List.mem_map.mp hx
    obtain ⟨_, _, rfl⟩ := List.mem_map.mp hy
    cases z
    rfl
theorem g_den {t s : R} (z : 1 - u * t * t = 0) (hs : t * s = 1) : s * s = u := by grind
theorem g_den0 (z : 1 - u * 0 * 0 = 0) : (1 : R) = 0 := by grind
theorem g_top {t w : R} (e : (1 - u * t * t) * w = 1) (z : 1 + (1 + u * t * t) * w = 0) : 2 * w = 0 := by grind
theorem g_top0 {d : R} (e : d * 0 = 1) : (1 : R) = 0 := by grind
theorem g_neg : (1 : R) + -1 = 0 := by grind
theorem g_inj {a b x y : R} (e1 : (1 - u * a * a) * x = 1) (e2 : (1 - u * b * b) * y = 1) (z1 : (1 + u * a * a) * x = (1 + u * b * b) * y) (z2 : 2 * a * x = 2 * b * y) :
    (a - b) * (1 + (1 + u * a * a) * x) = 0 := by grind
theorem g_eq {a b : R} (h : a - b = 0) : a = b := by grind
theorem g_ub {a b : R} (h : u * b * b = a * a - 1) (z : 1 + a = 0) : u * (b * b) = 0 := by grind
theorem g_m1 {a : R} (z : 1 + a = 0) : a = -1 := by grind
theorem g_fst {a b s w : R} (h : u * b * b = a * a - 1) (hs : (1 + a) * s = 1) (e : (1 - u * (b * s) * (b * s)) * w = 1) : (1 + u * (b * s) * (b * s)) * w = a := by grind
theorem g_snd {a b s w : R} (h : u * b * b = a * a - 1) (hs : (1 + a) * s = 1) (e : (1 - u * (b * s) * (b * s)) * w = 1) : 2 * (b * s) * w = b := by grind
theorem g_on0 : u * 0 * 0 = (-1 : R) * -1 - 1 := by grind
theorem g_on {t w : R} (e : (1 - u * t * t) * w = 1) : u * (2 * t * w) * (2 * t * w) = (1 + u * t * t) * w * ((1 + u * t * t) * w) - 1 := by grind
theorem norm_count (mem : ∀ a : R, a ∈ all) (nd : all.Nodup) (dom : ∀ a b : R, a * b = 0 → a = 0 ∨ b = 0) (inv : ∀ a : R, a ≠ 0 → ∃ b, a * b = 1) (one : (1 : R) ≠ 0) (two : (2 : R) ≠ 0) (u0 : u ≠ 0)
    (hu : ∀ y : R, y * y ≠ u) : (onesF all u).length = all.length + 1 := by
  have den : ∀ t : R, 1 - u * t * t ≠ 0 := by
    intro t z
    have t0 : t ≠ 0 := by
      intro e
      rw [e] at z
      exact one (g_den0 z)
    obtain ⟨s, hs⟩ := inv t t0
    exact hu s (g_den z hs)
  obtain ⟨w, hw⟩ : ∃ w : R → R, ∀ t, (1 - u * t * t) * w t = 1 := ⟨fun t => (inv _ (den t)).choose, fun t => (inv _ (den t)).choose_spec⟩
  obtain ⟨f, hf⟩ : ∃ f : R → R × R, ∀ t, f t = ((1 + u * t * t) * w t, 2 * t * w t) := ⟨_, fun t => rfl⟩
  have top : ∀ t, 1 + (1 + u * t * t) * w t ≠ 0 := by
    intro t z
    have e := hw t
    rcases dom _ _ (g_top e z) with q | q
    · exact two q
    · rw [q] at e
      exact one (g_top0 e)
  have fn : ((-1, 0) :: all.map f).Nodup := by
    refine List.nodup_cons.mpr ⟨fun z => ?_, ?_⟩
    · obtain ⟨t, _, e⟩ := List.mem_map.mp z
      have q := top t
      rw [hf] at e
      have e1 : (1 + u * t * t) * w t = -1 := congrArg Prod.fst e
      rw [e1] at q
      exact q g_neg
    · refine List.pairwise_map.mpr (List.Pairwise.imp (fun {a b} h z => h ?_) nd)
      rw [hf, hf] at z
      rcases dom _ _ (g_inj (hw a) (hw b) (congrArg Prod.fst z) (congrArg Prod.snd z)) with q | q
      · exact g_eq q
      · exact absurd q (top a)
  have l1 : (onesF all u).length ≤ ((-1, 0) :: all.map f).length := by
    refine sub_len (ones_nodup nd) fun x hx => ?_
    obtain ⟨a, b⟩ := x
    have hx := (mem_ones mem).mp hx
    by_cases ha : 1 + a = 0
    · have b0 : b = 0 := by
        rcases dom _ _ (g_ub hx ha) with q | q
        · exact absurd q u0
        · rcases dom _ _ q with q | q <;> exact q
      rw [b0, g_m1 ha]
      exact List.mem_cons_self ..
    · obtain ⟨s, hs⟩ := inv _ ha
      refine List.mem_cons_of_mem _ (List.mem_map.mpr ⟨b * s, mem _, ?_⟩)
      rw [hf, g_fst hx hs (hw (b * s)), g_snd hx hs (hw (b * s))]
  have l2 : ((-1, 0) :: all.map f).length ≤ (onesF all u).length := by
    refine sub_len fn fun x hx => ?_
    rcases List.mem_cons.mp hx with rfl | hx
    · exact (mem_ones mem).mpr g_on0
    · obtain ⟨t, _, rfl⟩ := List.mem_map.mp hx
      rw [hf]
      exact (mem_ones mem).mpr (g_on (hw t))
  have l3 : ((-1, 0) :: all.map f).length = all.length + 1 := by rw [List.length_cons, List.length_map]
  omega
end
section
variable {P : Nat} [NeZero P]
def fins (P : Nat) [NeZero P] : List (Fin P) := (List.range P).map fun (n : Nat) => fz P (n : Int)
theorem mem_fins (a : Fin P) : a ∈ fins P := List.mem_map.mpr ⟨a.val, List.mem_range.mpr a.isLt, by rw [fz_nat _ a.isLt]⟩
theorem fins_nodup : (fins P).Nodup := by
  unfold fins
  refine List.pairwise_map.mpr ?_
  refine List.Pairwise.imp_of_mem (fun {a b} ha hb hlt => ?_) List.pairwise_lt_range
  have ha := List.mem_range.mp ha
  have hb := List.mem_range.mp hb
  rw [fz_nat _ ha, fz_nat _ hb]
  intro z
  have := congrArg Fin.val z
  simp at this
  omega
theorem fin_one (hp : isPN P = true) : (1 : Fin P) ≠ 0 := by
  have h3 := (isPN_prime hp).1
  intro z
  rw [← fz_one (p := P)] at z
  have := fz_null z
  rw [Int.emod_eq_of_lt (by omega) (by omega)] at this
  omega
theorem fin_two (hp : isPN P = true) : (2 : Fin P) ≠ 0 := by
  have h3 := (isPN_prime hp).1
  intro z
  have e : fz P 2 = 0 := by
    have q : (2 : Int) = 1 + 1 := rfl
    rw [q, fz_add, fz_one]
    have q2 : (1 : Fin P) + 1 = 2 := by
      clear z
      grind
    rw [q2]
    exact z
  have := fz_null e
  rw [Int.emod_eq_of_lt (by omega) (by omega)] at this
  omega
theorem ones_count (hp : isPN P = true) {u : Fin P} (hu : ∀ y : Fin P, y * y ≠ u) : (onesF (fins P) u).length = P + 1 := by
  have z0 : (0 : Fin P) * 0 = 0 := by grind
  rw [norm_count mem_fins fins_nodup (fun a b => fin_dom hp) (fun a => fin_inv hp) (fin_one hp) (fin_two hp) (fun z => hu 0 (by rw [z, z0])) hu]
  unfold fins
  rw [List.length_map, List.length_range]
end
def bk (p u i : Int) (n : Nat) : List Int := ((List.range n).filter fun (b : Nat) => decide (u * (b : Int) * (b : Int) % p = i)).map fun (b : Nat) => (b : Int)
def onesL (p u : Int) (n : Nat) : List (Int × Int) := (List.range n).flatMap fun (a : Nat) => (bk p u (((a : Int) * (a : Int) - 1) % p) p.toNat).map fun b => ((a : Int), b)
theorem ones_len {p : Int} (hp : isP p = true) : (onesL p (lns p) p.toNat).length = p.toNat + 1 := by
  have hq := isP_nat hp
  obtain ⟨l1, l2, l3, _⟩ := lns_spec hp
  generalize hP : p.toNat = P at hq
  have : NeZero P := ⟨by omega⟩
  have ep : p = (P : Int) := by omega
  subst ep
  rw [← ones_count (P := P) hq.1 (u := fz P (lns (P : Int))) fun y z => ?_]
  · unfold onesL onesF fins bk
    rw [List.length_flatMap, List.flatMap_map, List.length_flatMap, hP]
    congr 1
    refine List.map_congr_left fun a ha => ?_
    rw [List.length_map, List.length_map, List.length_map, List.filter_map, List.length_map]
    congr 1
    refine List.filter_congr fun b _ => ?_
    refine decide_eq_decide.mpr ?_
    show _ ↔ fz P (lns (P : Int)) * fz P (b : Int) * fz P (b : Int) = fz P (a : Int) * fz P (a : Int) - 1
    rw [← fz_mul, ← fz_mul, ← fz_mul, ← fz_one (p := P), ← fz_sub]
    exact ⟨fun h => fz_eq h, fun h => fz_inj h⟩
  · have hy : fz P (y.val : Int) = y := fz_nat _ y.isLt
    rw [← hy, ← fz_mul] at z
    have := fz_inj z
    rw [Int.emod_eq_of_lt (by omega) (by omega : lns (P : Int) < P)] at this
    have q := sq_mod (p := (P : Int)) (y := (y.val : Int)) (by omega)
    rw [this, l3] at q
    cases q
end Nm

namespace Lw
open PySem PySem.Spec PyProof.Rows L2 EL Nm
def topS (i : Nat) : Stmt := PySem.Challenge.pw_endsflat_k02_twofold_numbers.main.body.getD i (.Pass ⟨0, 0, 0, 0⟩)
abbrev s_SizeError_init : Stmt := inClass (topS 2) 0
abbrev s_NumberError_init : Stmt := inClass (topS 3) 0
abbrev s_TwinError_init : Stmt := inClass (topS 4) 0
abbrev s_PrimeError_init : Stmt := inClass (topS 5) 0
abbrev s_check_number : Stmt := topS 8
abbrev s_is_odd_prime : Stmt := topS 9
abbrev s_check_prime : Stmt := topS 10
abbrev s_least_nonsquare : Stmt := topS 11
abbrev s_check_twofold : Stmt := topS 13
abbrev s_multiplied : Stmt := topS 14
abbrev s_times : Stmt := topS 15
abbrev s_twofold_power : Stmt := topS 16
abbrev s_norm : Stmt := topS 17
abbrev s_norm_ones : Stmt := topS 18
abbrev s_ulaw_draws : Stmt := topS 20
abbrev s_ulaw_next : Stmt := topS 21
abbrev s_ulaw_pick : Stmt := topS 22
abbrev s_ulaw_is_number : Stmt := topS 23
abbrev s_ulaw_odd_primes : Stmt := topS 24
abbrev s_ulaw_no_prime : Stmt := topS 25
abbrev s_ulaw_is_pair : Stmt := topS 26
abbrev s_ulaw_nonsquare : Stmt := topS 27
abbrev s_ulaw_residue : Stmt := topS 28
abbrev s_ulaw_times : Stmt := topS 29
abbrev s_ulaw_norm : Stmt := topS 30
abbrev s_ulaw_powered : Stmt := topS 31
abbrev s_ulaw_ones : Stmt := topS 32
abbrev s_ulaw_refusal : Stmt := topS 33
abbrev s_ulaw_asked : Stmt := topS 34
abbrev s_ulaw_is_refusal : Stmt := topS 35
abbrev s_ulaw_refuses_pairs : Stmt := topS 36
abbrev s_ulaw_refuses_primes : Stmt := topS 37
abbrev s_ulaw_products_told : Stmt := topS 38
abbrev s_ulaw_powers_told : Stmt := topS 39
abbrev s_ulaw_list_told : Stmt := topS 40
abbrev s_ulaw_ones_told : Stmt := topS 41
abbrev s_law : Stmt := topS 42
theorem sc_SizeError_init : FnScope ["self", "count"] ["self", "count"] (defScope s_SizeError_init) := ⟨rfl, rfl, rfl, by decide +kernel, rfl, by decide +kernel, by decide +kernel⟩
theorem sc_NumberError_init : FnScope ["self", "number"] ["self", "number"] (defScope s_NumberError_init) := ⟨rfl, rfl, rfl, by decide +kernel, rfl, by decide +kernel, by decide +kernel⟩
theorem sc_TwinError_init : FnScope ["self", "number"] ["self", "number"] (defScope s_TwinError_init) := ⟨rfl, rfl, rfl, by decide +kernel, rfl, by decide +kernel, by decide +kernel⟩
theorem sc_PrimeError_init : FnScope ["self", "prime"] ["self", "prime"] (defScope s_PrimeError_init) := ⟨rfl, rfl, rfl, by decide +kernel, rfl, by decide +kernel, by decide +kernel⟩
theorem sc_check_number : FnScope ["number", "low", "high"] ["number", "low", "high"] (defScope s_check_number) := ⟨rfl, rfl, rfl, by decide +kernel, rfl, by decide +kernel, by decide +kernel⟩
theorem sc_is_odd_prime : FnScope ["number", "divisor"] ["number"] (defScope s_is_odd_prime) := ⟨rfl, rfl, rfl, by decide +kernel, rfl, by decide +kernel, by decide +kernel⟩
theorem sc_check_prime : FnScope ["prime"] ["prime"] (defScope s_check_prime) := ⟨rfl, rfl, rfl, by decide +kernel, rfl, by decide +kernel, by decide +kernel⟩
theorem sc_least_nonsquare : FnScope ["prime", "squares", "number", "residue"] ["prime"] (defScope s_least_nonsquare) := ⟨rfl, rfl, rfl, by decide +kernel, rfl, by decide +kernel, by decide +kernel⟩
theorem sc_check_twofold : FnScope ["prime", "pair", "part"] ["prime", "pair"] (defScope s_check_twofold) := ⟨rfl, rfl, rfl, by decide +kernel, rfl, by decide +kernel, by decide +kernel⟩
theorem sc_multiplied : FnScope ["prime", "unit", "first", "second", "a", "b", "c", "d"] ["prime", "unit", "first", "second"] (defScope s_multiplied) := ⟨rfl, rfl, rfl, by decide +kernel, rfl, by decide +kernel, by decide +kernel⟩
theorem sc_times : FnScope ["prime", "first", "second", "unit"] ["prime", "first", "second"] (defScope s_times) := ⟨rfl, rfl, rfl, by decide +kernel, rfl, by decide +kernel, by decide +kernel⟩
theorem sc_twofold_power : FnScope ["prime", "pair", "exponent", "unit", "result", "square", "left"] ["prime", "pair", "exponent"] (defScope s_twofold_power) := ⟨rfl, rfl, rfl, by decide +kernel, rfl, by decide +kernel, by decide +kernel⟩
theorem sc_norm : FnScope ["prime", "pair", "unit", "a", "b"] ["prime", "pair"] (defScope s_norm) := ⟨rfl, rfl, rfl, by decide +kernel, rfl, by decide +kernel, by decide +kernel⟩
theorem sc_norm_ones : FnScope ["prime", "unit", "by_square", "b", "residue", "a"] ["prime"] (defScope s_norm_ones) := ⟨rfl, rfl, rfl, by decide +kernel, rfl, by decide +kernel, by decide +kernel⟩
theorem sc_ulaw_draws : FnScope ["script", "count", "row", "k", "cell", "step", "mixed", "seed"] ["script", "count"] (defScope s_ulaw_draws) := ⟨rfl, rfl, rfl, by decide +kernel, rfl, by decide +kernel, by decide +kernel⟩
theorem sc_ulaw_next : FnScope ["cells", "at", "many"] ["cells", "at", "many"] (defScope s_ulaw_next) := ⟨rfl, rfl, rfl, by decide +kernel, rfl, by decide +kernel, by decide +kernel⟩
theorem sc_ulaw_pick : FnScope ["cells", "at", "row"] ["cells", "at", "row"] (defScope s_ulaw_pick) := ⟨rfl, rfl, rfl, by decide +kernel, rfl, by decide +kernel, by decide +kernel⟩
theorem sc_ulaw_is_number : FnScope ["told"] ["told"] (defScope s_ulaw_is_number) := ⟨rfl, rfl, rfl, by decide +kernel, rfl, by decide +kernel, by decide +kernel⟩
theorem sc_ulaw_odd_primes : FnScope ["most", "found", "number", "good", "one"] ["most"] (defScope s_ulaw_odd_primes) := ⟨rfl, rfl, rfl, by decide +kernel, rfl, by decide +kernel, by decide +kernel⟩
theorem sc_ulaw_no_prime : FnScope ["cells", "at", "kind", "plain", "part"] ["cells", "at"] (defScope s_ulaw_no_prime) := ⟨rfl, rfl, rfl, by decide +kernel, rfl, by decide +kernel, by decide +kernel⟩
theorem sc_ulaw_is_pair : FnScope ["told", "due"] ["told", "due"] (defScope s_ulaw_is_pair) := ⟨rfl, rfl, rfl, by decide +kernel, rfl, by decide +kernel, by decide +kernel⟩
theorem sc_ulaw_nonsquare : FnScope ["p", "squares", "x", "y"] ["p"] (defScope s_ulaw_nonsquare) := ⟨rfl, rfl, rfl, by decide +kernel, rfl, by decide +kernel, by decide +kernel⟩
theorem sc_ulaw_residue : FnScope ["cells", "at", "prime"] ["cells", "at", "prime"] (defScope s_ulaw_residue) := ⟨rfl, rfl, rfl, by decide +kernel, rfl, by decide +kernel, by decide +kernel⟩
theorem sc_ulaw_times : FnScope ["p", "u", "one", "two", "whole"] ["p", "u", "one", "two"] (defScope s_ulaw_times) := ⟨rfl, rfl, rfl, by decide +kernel, rfl, by decide +kernel, by decide +kernel⟩
theorem sc_ulaw_norm : FnScope ["p", "u", "one"] ["p", "u", "one"] (defScope s_ulaw_norm) := ⟨rfl, rfl, rfl, by decide +kernel, rfl, by decide +kernel, by decide +kernel⟩
theorem sc_ulaw_powered : FnScope ["p", "u", "one", "exponent", "total", "base", "left"] ["p", "u", "one", "exponent"] (defScope s_ulaw_powered) := ⟨rfl, rfl, rfl, by decide +kernel, rfl, by decide +kernel, by decide +kernel⟩
theorem sc_ulaw_ones : FnScope ["p", "u", "found", "b", "row", "due", "a", "k"] ["p", "u"] (defScope s_ulaw_ones) := ⟨rfl, rfl, rfl, by decide +kernel, rfl, by decide +kernel, by decide +kernel⟩
theorem sc_ulaw_refusal : FnScope ["e", "named"] ["e"] (defScope s_ulaw_refusal) := ⟨rfl, rfl, rfl, by decide +kernel, rfl, by decide +kernel, by decide +kernel⟩
theorem sc_ulaw_asked : FnScope ["which", "prime", "one", "two", "exponent", "e"] ["which", "prime", "one", "two", "exponent"] (defScope s_ulaw_asked) := ⟨rfl, rfl, rfl, by decide +kernel, rfl, by decide +kernel, by decide +kernel⟩
theorem sc_ulaw_is_refusal : FnScope ["told", "name", "number"] ["told", "name", "number"] (defScope s_ulaw_is_refusal) := ⟨rfl, rfl, rfl, by decide +kernel, rfl, by decide +kernel, by decide +kernel⟩
theorem sc_ulaw_refuses_pairs : FnScope ["cells", "at", "p", "x", "y", "high", "low", "far", "a", "b", "cases", "which", "one", "two", "exponent", "due", "told"] ["cells", "at", "p", "x", "y"] (defScope s_ulaw_refuses_pairs) := ⟨rfl, rfl, rfl, by decide +kernel, rfl, by decide +kernel, by decide +kernel⟩
theorem sc_ulaw_refuses_primes : FnScope ["cells", "at", "q", "r", "low", "which", "told"] ["cells", "at"] (defScope s_ulaw_refuses_primes) := ⟨rfl, rfl, rfl, by decide +kernel, rfl, by decide +kernel, by decide +kernel⟩
theorem sc_ulaw_products_told : FnScope ["p", "u", "one", "two", "due", "told", "size"] ["p", "u", "one", "two"] (defScope s_ulaw_products_told) := ⟨rfl, rfl, rfl, by decide +kernel, rfl, by decide +kernel, by decide +kernel⟩
theorem sc_ulaw_powers_told : FnScope ["cells", "at", "p", "u", "one", "edge", "exponent", "told", "size"] ["cells", "at", "p", "u", "one"] (defScope s_ulaw_powers_told) := ⟨rfl, rfl, rfl, by decide +kernel, rfl, by decide +kernel, by decide +kernel⟩
theorem sc_ulaw_list_told : FnScope ["told", "due", "k"] ["told", "due"] (defScope s_ulaw_list_told) := ⟨rfl, rfl, rfl, by decide +kernel, rfl, by decide +kernel, by decide +kernel⟩
theorem sc_ulaw_ones_told : FnScope ["p", "due", "told"] ["p"] (defScope s_ulaw_ones_told) := ⟨rfl, rfl, rfl, by decide +kernel, rfl, by decide +kernel, by decide +kernel⟩
theorem sc_law : FnScope ["script", "cells", "at", "primes", "p", "u", "drawn", "k", "whole", "pairs", "one", "two", "far", "told", "small", "other"] ["script"] (defScope s_law) := ⟨rfl, rfl, rfl, by decide +kernel, rfl, by decide +kernel, by decide +kernel⟩
def gk_norm_0_pair_prime {α : Type} (us ws : List α) : List α := match us, ws with
  | [], [w0, w1] => [w1, w0]
  | _, _ => []
structure Tab where
  a_SizeError_init : Addr
  fd_SizeError_init : FuncData
  a_NumberError_init : Addr
  fd_NumberError_init : FuncData
  a_TwinError_init : Addr
  fd_TwinError_init : FuncData
  a_PrimeError_init : Addr
  fd_PrimeError_init : FuncData
  a_check_number : Addr
  fd_check_number : FuncData
  a_is_odd_prime : Addr
  fd_is_odd_prime : FuncData
  a_check_prime : Addr
  fd_check_prime : FuncData
  a_least_nonsquare : Addr
  fd_least_nonsquare : FuncData
  a_check_twofold : Addr
  fd_check_twofold : FuncData
  a_multiplied : Addr
  fd_multiplied : FuncData
  a_times : Addr
  fd_times : FuncData
  a_twofold_power : Addr
  fd_twofold_power : FuncData
  a_norm : Addr
  fd_norm : FuncData
  a_norm_ones : Addr
  fd_norm_ones : FuncData
  a_ulaw_draws : Addr
  fd_ulaw_draws : FuncData
  a_ulaw_next : Addr
  fd_ulaw_next : FuncData
  a_ulaw_pick : Addr
  fd_ulaw_pick : FuncData
  a_ulaw_is_number : Addr
  fd_ulaw_is_number : FuncData
  a_ulaw_odd_primes : Addr
  fd_ulaw_odd_primes : FuncData
  a_ulaw_no_prime : Addr
  fd_ulaw_no_prime : FuncData
  a_ulaw_is_pair : Addr
  fd_ulaw_is_pair : FuncData
  a_ulaw_nonsquare : Addr
  fd_ulaw_nonsquare : FuncData
  a_ulaw_residue : Addr
  fd_ulaw_residue : FuncData
  a_ulaw_times : Addr
  fd_ulaw_times : FuncData
  a_ulaw_norm : Addr
  fd_ulaw_norm : FuncData
  a_ulaw_powered : Addr
  fd_ulaw_powered : FuncData
  a_ulaw_ones : Addr
  fd_ulaw_ones : FuncData
  a_ulaw_refusal : Addr
  fd_ulaw_refusal : FuncData
  a_ulaw_asked : Addr
  fd_ulaw_asked : FuncData
  a_ulaw_is_refusal : Addr
  fd_ulaw_is_refusal : FuncData
  a_ulaw_refuses_pairs : Addr
  fd_ulaw_refuses_pairs : FuncData
  a_ulaw_refuses_primes : Addr
  fd_ulaw_refuses_primes : FuncData
  a_ulaw_products_told : Addr
  fd_ulaw_products_told : FuncData
  a_ulaw_powers_told : Addr
  fd_ulaw_powers_told : FuncData
  a_ulaw_list_told : Addr
  fd_ulaw_list_told : FuncData
  a_ulaw_ones_told : Addr
  fd_ulaw_ones_told : FuncData
  a_law : Addr
  fd_law : FuncData
  c_EndsError : Addr
  c_SizeError : Addr
  c_NumberError : Addr
  c_TwinError : Addr
  c_PrimeError : Addr
  k_MOST : Tok
structure Txt (K : PySem.W.Frag) (mg : Str → Option Value) (t : Tab) : Prop where
  F_SizeError_init : Fun K "__init__" "SizeError.__init__" s_SizeError_init t.a_SizeError_init t.fd_SizeError_init
  b_SizeError_init : Binds K t.fd_SizeError_init ["self", "count"] []
  F_NumberError_init : Fun K "__init__" "NumberError.__init__" s_NumberError_init t.a_NumberError_init t.fd_NumberError_init
  b_NumberError_init : Binds K t.fd_NumberError_init ["self", "number"] []
  F_TwinError_init : Fun K "__init__" "TwinError.__init__" s_TwinError_init t.a_TwinError_init t.fd_TwinError_init
  b_TwinError_init : Binds K t.fd_TwinError_init ["self", "number"] []
  F_PrimeError_init : Fun K "__init__" "PrimeError.__init__" s_PrimeError_init t.a_PrimeError_init t.fd_PrimeError_init
  b_PrimeError_init : Binds K t.fd_PrimeError_init ["self", "prime"] []
  g_check_number : mg "check_number" = some (.ref t.a_check_number)
  F_check_number : Fun K "check_number" "check_number" s_check_number t.a_check_number t.fd_check_number
  b_check_number : Binds K t.fd_check_number ["number", "low", "high"] []
  g_is_odd_prime : mg "is_odd_prime" = some (.ref t.a_is_odd_prime)
  F_is_odd_prime : Fun K "is_odd_prime" "is_odd_prime" s_is_odd_prime t.a_is_odd_prime t.fd_is_odd_prime
  b_is_odd_prime : Binds K t.fd_is_odd_prime ["number"] []
  g_check_prime : mg "check_prime" = some (.ref t.a_check_prime)
  F_check_prime : Fun K "check_prime" "check_prime" s_check_prime t.a_check_prime t.fd_check_prime
  b_check_prime : Binds K t.fd_check_prime ["prime"] []
  g_least_nonsquare : mg "least_nonsquare" = some (.ref t.a_least_nonsquare)
  F_least_nonsquare : Fun K "least_nonsquare" "least_nonsquare" s_least_nonsquare t.a_least_nonsquare t.fd_least_nonsquare
  b_least_nonsquare : Binds K t.fd_least_nonsquare ["prime"] []
  g_check_twofold : mg "check_twofold" = some (.ref t.a_check_twofold)
  F_check_twofold : Fun K "check_twofold" "check_twofold" s_check_twofold t.a_check_twofold t.fd_check_twofold
  b_check_twofold : Binds K t.fd_check_twofold ["prime", "pair"] []
  g_multiplied : mg "multiplied" = some (.ref t.a_multiplied)
  F_multiplied : Fun K "multiplied" "multiplied" s_multiplied t.a_multiplied t.fd_multiplied
  b_multiplied : Binds K t.fd_multiplied ["prime", "unit", "first", "second"] []
  g_times : mg "times" = some (.ref t.a_times)
  F_times : Fun K "times" "times" s_times t.a_times t.fd_times
  b_times : Binds K t.fd_times ["prime", "first", "second"] []
  g_twofold_power : mg "twofold_power" = some (.ref t.a_twofold_power)
  F_twofold_power : Fun K "twofold_power" "twofold_power" s_twofold_power t.a_twofold_power t.fd_twofold_power
  b_twofold_power : Binds K t.fd_twofold_power ["prime", "pair", "exponent"] []
  g_norm : mg "norm" = some (.ref t.a_norm)
  F_norm : Fun K "norm" "norm" s_norm t.a_norm t.fd_norm
  b_norm : Binds K t.fd_norm ["prime", "pair"] []
  g_norm_ones : mg "norm_ones" = some (.ref t.a_norm_ones)
  F_norm_ones : Fun K "norm_ones" "norm_ones" s_norm_ones t.a_norm_ones t.fd_norm_ones
  b_norm_ones : Binds K t.fd_norm_ones ["prime"] []
  g_ulaw_draws : mg "_law_draws" = some (.ref t.a_ulaw_draws)
  F_ulaw_draws : Fun K "_law_draws" "_law_draws" s_ulaw_draws t.a_ulaw_draws t.fd_ulaw_draws
  b_ulaw_draws : Binds K t.fd_ulaw_draws ["script", "count"] []
  g_ulaw_next : mg "_law_next" = some (.ref t.a_ulaw_next)
  F_ulaw_next : Fun K "_law_next" "_law_next" s_ulaw_next t.a_ulaw_next t.fd_ulaw_next
  b_ulaw_next : Binds K t.fd_ulaw_next ["cells", "at", "many"] []
  g_ulaw_pick : mg "_law_pick" = some (.ref t.a_ulaw_pick)
  F_ulaw_pick : Fun K "_law_pick" "_law_pick" s_ulaw_pick t.a_ulaw_pick t.fd_ulaw_pick
  b_ulaw_pick : Binds K t.fd_ulaw_pick ["cells", "at", "row"] []
  g_ulaw_is_number : mg "_law_is_number" = some (.ref t.a_ulaw_is_number)
  F_ulaw_is_number : Fun K "_law_is_number" "_law_is_number" s_ulaw_is_number t.a_ulaw_is_number t.fd_ulaw_is_number
  b_ulaw_is_number : Binds K t.fd_ulaw_is_number ["told"] []
  g_ulaw_odd_primes : mg "_law_odd_primes" = some (.ref t.a_ulaw_odd_primes)
  F_ulaw_odd_primes : Fun K "_law_odd_primes" "_law_odd_primes" s_ulaw_odd_primes t.a_ulaw_odd_primes t.fd_ulaw_odd_primes
  b_ulaw_odd_primes : Binds K t.fd_ulaw_odd_primes ["most"] []
  g_ulaw_no_prime : mg "_law_no_prime" = some (.ref t.a_ulaw_no_prime)
  F_ulaw_no_prime : Fun K "_law_no_prime" "_law_no_prime" s_ulaw_no_prime t.a_ulaw_no_prime t.fd_ulaw_no_prime
  b_ulaw_no_prime : Binds K t.fd_ulaw_no_prime ["cells", "at"] []
  g_ulaw_is_pair : mg "_law_is_pair" = some (.ref t.a_ulaw_is_pair)
  F_ulaw_is_pair : Fun K "_law_is_pair" "_law_is_pair" s_ulaw_is_pair t.a_ulaw_is_pair t.fd_ulaw_is_pair
  b_ulaw_is_pair : Binds K t.fd_ulaw_is_pair ["told", "due"] []
  g_ulaw_nonsquare : mg "_law_nonsquare" = some (.ref t.a_ulaw_nonsquare)
  F_ulaw_nonsquare : Fun K "_law_nonsquare" "_law_nonsquare" s_ulaw_nonsquare t.a_ulaw_nonsquare t.fd_ulaw_nonsquare
  b_ulaw_nonsquare : Binds K t.fd_ulaw_nonsquare ["p"] []
  g_ulaw_residue : mg "_law_residue" = some (.ref t.a_ulaw_residue)
  F_ulaw_residue : Fun K "_law_residue" "_law_residue" s_ulaw_residue t.a_ulaw_residue t.fd_ulaw_residue
  b_ulaw_residue : Binds K t.fd_ulaw_residue ["cells", "at", "prime"] []
  g_ulaw_times : mg "_law_times" = some (.ref t.a_ulaw_times)
  F_ulaw_times : Fun K "_law_times" "_law_times" s_ulaw_times t.a_ulaw_times t.fd_ulaw_times
  b_ulaw_times : Binds K t.fd_ulaw_times ["p", "u", "one", "two"] []
  g_ulaw_norm : mg "_law_norm" = some (.ref t.a_ulaw_norm)
  F_ulaw_norm : Fun K "_law_norm" "_law_norm" s_ulaw_norm t.a_ulaw_norm t.fd_ulaw_norm
  b_ulaw_norm : Binds K t.fd_ulaw_norm ["p", "u", "one"] []
  g_ulaw_powered : mg "_law_powered" = some (.ref t.a_ulaw_powered)
  F_ulaw_powered : Fun K "_law_powered" "_law_powered" s_ulaw_powered t.a_ulaw_powered t.fd_ulaw_powered
  b_ulaw_powered : Binds K t.fd_ulaw_powered ["p", "u", "one", "exponent"] []
  g_ulaw_ones : mg "_law_ones" = some (.ref t.a_ulaw_ones)
  F_ulaw_ones : Fun K "_law_ones" "_law_ones" s_ulaw_ones t.a_ulaw_ones t.fd_ulaw_ones
  b_ulaw_ones : Binds K t.fd_ulaw_ones ["p", "u"] []
  g_ulaw_refusal : mg "_law_refusal" = some (.ref t.a_ulaw_refusal)
  F_ulaw_refusal : Fun K "_law_refusal" "_law_refusal" s_ulaw_refusal t.a_ulaw_refusal t.fd_ulaw_refusal
  b_ulaw_refusal : Binds K t.fd_ulaw_refusal ["e"] []
  g_ulaw_asked : mg "_law_asked" = some (.ref t.a_ulaw_asked)
  F_ulaw_asked : Fun K "_law_asked" "_law_asked" s_ulaw_asked t.a_ulaw_asked t.fd_ulaw_asked
  b_ulaw_asked : Binds K t.fd_ulaw_asked ["which", "prime", "one", "two", "exponent"] []
  g_ulaw_is_refusal : mg "_law_is_refusal" = some (.ref t.a_ulaw_is_refusal)
  F_ulaw_is_refusal : Fun K "_law_is_refusal" "_law_is_refusal" s_ulaw_is_refusal t.a_ulaw_is_refusal t.fd_ulaw_is_refusal
  b_ulaw_is_refusal : Binds K t.fd_ulaw_is_refusal ["told", "name", "number"] []
  g_ulaw_refuses_pairs : mg "_law_refuses_pairs" = some (.ref t.a_ulaw_refuses_pairs)
  F_ulaw_refuses_pairs : Fun K "_law_refuses_pairs" "_law_refuses_pairs" s_ulaw_refuses_pairs t.a_ulaw_refuses_pairs t.fd_ulaw_refuses_pairs
  b_ulaw_refuses_pairs : Binds K t.fd_ulaw_refuses_pairs ["cells", "at", "p", "x", "y"] []
  g_ulaw_refuses_primes : mg "_law_refuses_primes" = some (.ref t.a_ulaw_refuses_primes)
  F_ulaw_refuses_primes : Fun K "_law_refuses_primes" "_law_refuses_primes" s_ulaw_refuses_primes t.a_ulaw_refuses_primes t.fd_ulaw_refuses_primes
  b_ulaw_refuses_primes : Binds K t.fd_ulaw_refuses_primes ["cells", "at"] []
  g_ulaw_products_told : mg "_law_products_told" = some (.ref t.a_ulaw_products_told)
  F_ulaw_products_told : Fun K "_law_products_told" "_law_products_told" s_ulaw_products_told t.a_ulaw_products_told t.fd_ulaw_products_told
  b_ulaw_products_told : Binds K t.fd_ulaw_products_told ["p", "u", "one", "two"] []
  g_ulaw_powers_told : mg "_law_powers_told" = some (.ref t.a_ulaw_powers_told)
  F_ulaw_powers_told : Fun K "_law_powers_told" "_law_powers_told" s_ulaw_powers_told t.a_ulaw_powers_told t.fd_ulaw_powers_told
  b_ulaw_powers_told : Binds K t.fd_ulaw_powers_told ["cells", "at", "p", "u", "one"] []
  g_ulaw_list_told : mg "_law_list_told" = some (.ref t.a_ulaw_list_told)
  F_ulaw_list_told : Fun K "_law_list_told" "_law_list_told" s_ulaw_list_told t.a_ulaw_list_told t.fd_ulaw_list_told
  b_ulaw_list_told : Binds K t.fd_ulaw_list_told ["told", "due"] []
  g_ulaw_ones_told : mg "_law_ones_told" = some (.ref t.a_ulaw_ones_told)
  F_ulaw_ones_told : Fun K "_law_ones_told" "_law_ones_told" s_ulaw_ones_told t.a_ulaw_ones_told t.fd_ulaw_ones_told
  b_ulaw_ones_told : Binds K t.fd_ulaw_ones_told ["p"] []
  g_law : mg "law" = some (.ref t.a_law)
  F_law : Fun K "law" "law" s_law t.a_law t.fd_law
  b_law : Binds K t.fd_law ["script"] []
  g_EndsError : mg "EndsError" = some (.ref t.c_EndsError)
  X_EndsError : XCls K t.c_EndsError
  x_EndsError : XOwn K t.c_EndsError
  g_SizeError : mg "SizeError" = some (.ref t.c_SizeError)
  X_SizeError : XCls K t.c_SizeError
  x_SizeError : OexC K t.c_SizeError
  xi_SizeError : PySem.W.findIn K (.ref t.c_SizeError) "__init__" = some (some (.ref t.a_SizeError_init))
  xt_SizeError : PySem.W.typeIn K (.ref t.a_SizeError_init) = some (.type "function")
  xn_SizeError_count : PySem.W.findIn K (.ref t.c_SizeError) "count" = some none
  g_NumberError : mg "NumberError" = some (.ref t.c_NumberError)
  X_NumberError : XCls K t.c_NumberError
  x_NumberError : OexC K t.c_NumberError
  xi_NumberError : PySem.W.findIn K (.ref t.c_NumberError) "__init__" = some (some (.ref t.a_NumberError_init))
  xt_NumberError : PySem.W.typeIn K (.ref t.a_NumberError_init) = some (.type "function")
  xn_NumberError_number : PySem.W.findIn K (.ref t.c_NumberError) "number" = some none
  g_TwinError : mg "TwinError" = some (.ref t.c_TwinError)
  X_TwinError : XCls K t.c_TwinError
  x_TwinError : OexC K t.c_TwinError
  xi_TwinError : PySem.W.findIn K (.ref t.c_TwinError) "__init__" = some (some (.ref t.a_TwinError_init))
  xt_TwinError : PySem.W.typeIn K (.ref t.a_TwinError_init) = some (.type "function")
  xn_TwinError_number : PySem.W.findIn K (.ref t.c_TwinError) "number" = some none
  g_PrimeError : mg "PrimeError" = some (.ref t.c_PrimeError)
  X_PrimeError : XCls K t.c_PrimeError
  x_PrimeError : OexC K t.c_PrimeError
  xi_PrimeError : PySem.W.findIn K (.ref t.c_PrimeError) "__init__" = some (some (.ref t.a_PrimeError_init))
  xt_PrimeError : PySem.W.typeIn K (.ref t.a_PrimeError_init) = some (.type "function")
  xn_PrimeError_prime : PySem.W.findIn K (.ref t.c_PrimeError) "prime" = some none
  g_MOST : mg "MOST" = some (.int 997 t.k_MOST)
  n_bool : mg "bool" = none
  n_int : mg "int" = none
  n_isinstance : mg "isinstance" = none
  n_len : mg "len" = none
  n_list : mg "list" = none
  n_min : mg "min" = none
  n_range : mg "range" = none
  n_sum : mg "sum" = none
  n_tuple : mg "tuple" = none
  kt_NumberError_NumberError : PySem.W.kitOne K (.ref t.c_NumberError) (.ref t.c_NumberError) = some true
  kt_NumberError_SizeError : PySem.W.kitOne K (.ref t.c_NumberError) (.ref t.c_SizeError) = some false
  kt_NumberError_TwinError : PySem.W.kitOne K (.ref t.c_NumberError) (.ref t.c_TwinError) = some false
  kt_NumberError_PrimeError : PySem.W.kitOne K (.ref t.c_NumberError) (.ref t.c_PrimeError) = some false
  kt_NumberError_ValueError : PySem.W.kitOne K (.ref t.c_NumberError) (.type "ValueError") = some true
  em_EndsError_EndsError : PySem.W.exmOne K (.ref t.c_EndsError) (.ref t.c_EndsError) = some true
  em_SizeError_EndsError : PySem.W.exmOne K (.ref t.c_SizeError) (.ref t.c_EndsError) = some true
  em_NumberError_EndsError : PySem.W.exmOne K (.ref t.c_NumberError) (.ref t.c_EndsError) = some true
  em_TwinError_EndsError : PySem.W.exmOne K (.ref t.c_TwinError) (.ref t.c_EndsError) = some true
  em_PrimeError_EndsError : PySem.W.exmOne K (.ref t.c_PrimeError) (.ref t.c_EndsError) = some true
  kb_norm_0_pair_prime : KBinds K t.fd_norm ["prime", "pair"] ["pair", "prime"] gk_norm_0_pair_prime gk_norm_0_pair_prime
-- heap facts
local macro_rules | `(tactic| walk_at "hp") => `(tactic| first
  | assumption
  | with_reducible apply L2.Same.refl
  | ((with_reducible apply L2.SqL.of); assumption)
  | ((with_reducible apply L2.SqT.of); assumption)
  | ((with_reducible apply L2.Same.seq); assumption; walk_at "hp")
  | ((with_reducible apply L2.Same.seqT); assumption; walk_at "hp")
  | ((with_reducible apply L2.Same.dp); assumption; walk_at "hp")
  | ((with_reducible apply L2.Same.dpAll); assumption; walk_at "hp")
  | ((with_reducible apply L2.Same.draw); assumption; walk_at "hp")
  | ((with_reducible apply strans); assumption; walk_at "hp")
  | ((with_reducible apply same_at); assumption; walk_at "hp"))
local macro_rules | `(tactic| walk_at "side") => `(tactic| first | assumption | omega | decide | exact ⟨by omega, by omega⟩ | exact .inl ⟨by omega, by omega⟩ | exact .inr ⟨by omega, by omega⟩ | exact Nat.le_of_ble_eq_true rfl)
local macro_rules | `(tactic| walk_at "rd1") => `(tactic| first
  | with_reducible refine tSeq_i ?_
  | ((with_reducible refine' tVar_i ?h1 ?_); (case h1 => exact rfl))
  | with_reducible refine tOp_i ?_
  | with_reducible refine tC_i ?_
  | with_reducible refine tTest_i ?_
  | with_reducible refine IsBl_i ?_
  | with_reducible refine tIfS_i ?_
  | with_reducible refine tAsg_i ?_
  | with_reducible refine gName_i ?_
  | with_reducible refine rI0_i ?_
  | with_reducible refine rAddU_i ?_
  | with_reducible refine rEqU_i ?_
  | with_reducible refine rNeU_i ?_
  | ((with_reducible refine rMulU_i ?h1 ?_); (case h1 => walk_at "side"))
  | ((with_reducible refine rModP_i ?h1 ?_); (case h1 => walk_at "side"))
  | ((with_reducible refine rDivP_i ?h1 ?_); (case h1 => walk_at "side"))
  | with_reducible refine tDrop_i ?_
  | with_reducible refine tCallS_i ?_
  | with_reducible refine tCons_i ?_
  | with_reducible refine tNil_i ?_
  | with_reducible refine tRet_i ?_
  | with_reducible refine tNext_i ?_
  | with_reducible refine tOr_i ?_
  | with_reducible refine tAnd_i ?_
  | with_reducible refine tNot_i ?_
  | with_reducible refine Br_t ?_
  | with_reducible refine Br_f ?_
  | with_reducible refine Br_nt ?_
  | with_reducible refine Br_nf ?_
  | with_reducible refine Br_n ?_
  | with_reducible refine tCall_i ?_
  | with_reducible refine tCallK_i ?_
  | with_reducible refine tCallE_i ?_
  | with_reducible refine rEqU_b ?_
  | with_reducible refine rNeU_b ?_
  | with_reducible refine tCB_i ?_
  | with_reducible refine rInt1_i ?_
  | with_reducible refine tTup_i ?_
  | with_reducible refine tLst_i ?_
  | ((with_reducible refine new_i ?h1 ?_); (case h1 => walk_at "side"); intro _ _ _ _ _)
  | with_reducible refine tPar_i ?_
  | with_reducible refine Par2_i ?_
  | with_reducible refine tUn_i ?_
  | with_reducible refine rU_i ?_
  | ((with_reducible refine rI_i ?h1 ?_); (case h1 => walk_at "side"))
  | with_reducible refine tTruth_i ?_
  | with_reducible refine Tru_b ?_
  | with_reducible refine Tru_n ?_
  | with_reducible refine tIf_i ?_
  | with_reducible refine tAndV_i ?_
  | with_reducible refine tOrV_i ?_
  | with_reducible refine tNotV_i ?_
  | with_reducible refine tRetN_i ?_
  | with_reducible refine tBreak_i ?_
  | with_reducible refine tCont_i ?_
  | with_reducible refine tChain_i ?_
  | with_reducible refine rEqU_s ?_
  | with_reducible refine rNeU_s ?_
  | with_reducible refine rMin2_i ?_
  | with_reducible refine rMax2_i ?_
  | with_reducible refine rAbs_i ?_
  | with_reducible refine rIsN_i ?_
  | with_reducible refine rNotN_i ?_
  | ((with_reducible refine' rLen_l ?h1 ?_); (case h1 => walk_at "hp"))
  | ((with_reducible refine' rLen_t ?h1 ?_); (case h1 => walk_at "hp"))
  | ((with_reducible refine' rIxU_l ?h1 ?h2 ?_); (case h1 => walk_at "hp"); (case h2 => first | exact rfl | assumption))
  | ((with_reducible refine' rIxU_t ?h1 ?h2 ?_); (case h1 => walk_at "hp"); (case h2 => first | exact rfl | assumption))
  | with_reducible refine tBM_i ?_
  | ((with_reducible refine' tyL ?h1 ?_); (case h1 => walk_at "hp"))
  | with_reducible refine runS_cons ?_
  | with_reducible refine runS_nil ?_
  | ((with_reducible refine run_next ?h1 ?_); (case h1 => walk_at "hp"))
  | with_reducible refine tYes_i ?_
  | ((with_reducible refine wipe_i ?h1 ?_); (case h1 => exact rfl))
  | ((with_reducible refine' gTup_i ?h1 ?h2 ?_); (case h1 => walk_at "hp"); (case h2 => exact rfl))
  | with_reducible refine gCons_i ?_
  | with_reducible refine gNil_i ?_
  | with_reducible refine gSub_i ?_
  | with_reducible refine tXF_i ?_
  | ((with_reducible refine tCell_i ?_); intro _ _ _ _ _)
  | with_reducible refine tLstRg1_i ?_
  | with_reducible refine tSl_i ?_
  | with_reducible refine tNoPart_i ?_
  | with_reducible refine tPart_i ?_
  | with_reducible refine PartI_i ?_
  )
local macro_rules | `(tactic| walk_at "rd") => `(tactic| repeat walk_at "rd1")
local macro_rules | `(tactic| walk_at "br") => `(tactic| (refine Br_d (fun _ => ?_) (fun _ => ?_) <;> first | (exfalso; omega) | walk_at "rd"))

section
variable {P : Program} {w : World} {K : PySem.W.Frag} {mg : Str → Option Value} {base : Heap} {t : Tab}
def oNum (C : Addr) (n lo hi : Int) : Out := if n < lo ∨ n > hi then .err C "number" (.int n) else .ret .non
theorem oNum_ok {C : Addr} {n lo hi : Int} (h : lo ≤ n ∧ n ≤ hi) : oNum C n lo hi = .ret .non := if_neg (by omega)
theorem oNum_no {C : Addr} {n lo hi : Int} (h : n < lo ∨ n > hi) : oNum C n lo hi = .err C "number" (.int n) := if_pos h
def oIsP (C : Addr) (n : Int) : Out := if n < 0 ∨ n > 997 then .err C "number" (.int n) else .ret (.bl (isP n))
def oPrime (C : Addr) (n : Int) : Out := if 0 ≤ n ∧ n ≤ 997 ∧ isP n = true then .ret .non else .err C "number" (.int n)
theorem oPrime_ok {C : Addr} {n : Int} (h : 0 ≤ n ∧ n ≤ 997 ∧ isP n = true) : oPrime C n = .ret .non := if_pos h
theorem oPrime_no {C : Addr} {n : Int} (h : ¬ (0 ≤ n ∧ n ≤ 997 ∧ isP n = true)) : oPrime C n = .err C "number" (.int n) := if_neg h
def oSmall (C : Addr) (n : Int) : Out := if 3 ≤ n ∧ n ≤ 23 ∧ isP n = true then .ret .non else .err C "number" (.int n)
def oRes (C : Addr) (p n : Int) : Out := if 0 ≤ n ∧ n < p then .ret .non else .err C "number" (.int n)
theorem oRes_ok {C : Addr} {p n : Int} (h : 0 ≤ n ∧ n < p) : oRes C p n = .ret .non := if_pos h
theorem oRes_no {C : Addr} {p n : Int} (h : ¬ (0 ≤ n ∧ n < p)) : oRes C p n = .err C "number" (.int n) := if_neg h
/-- a pair is a tuple of two residues; anything else of two ints is refused with the first that is none -/
def oPair (C : Addr) (p a b : Int) : Out := if 0 ≤ a ∧ a < p then (if 0 ≤ b ∧ b < p then .ret .non else .err C "number" (.int b)) else .err C "number" (.int a)
theorem oPair_ok {C : Addr} {p a b : Int} (h : 0 ≤ a ∧ a < p) (h2 : 0 ≤ b ∧ b < p) : oPair C p a b = .ret .non := by unfold oPair; rw [if_pos h, if_pos h2]
def oInv (C : Addr) (p x : Int) : Out := if 0 ≤ p ∧ p ≤ 997 ∧ isP p = true then (if 1 ≤ x ∧ x ≤ p - 1 then .ret (.int (inv p x)) else .err C "number" (.int x)) else .err C "number" (.int p)
def oPoint (C Z : Addr) (p a b : Int) : Out := if 0 ≤ p ∧ p ≤ 997 ∧ isP p = true then (if 0 ≤ a ∧ a < p then (if 0 ≤ b ∧ b < p then (if a ≠ 0 then .ret (.int (b * inv p a % p)) else if b = 0 then .err0 Z else .ret (.int p)) else .err C "number" (.int b)) else .err C "number" (.int a)) else .err C "number" (.int p)
def oVector (C : Addr) (p k : Int) : Out := if 0 ≤ p ∧ p ≤ 997 ∧ isP p = true then (if 0 ≤ k ∧ k ≤ p then (if k = p then .tup [.int 0, .int 1] else .tup [.int 1, .int k]) else .err C "number" (.int k)) else .err C "number" (.int p)
def frRow (p j : Nat) : List PyData := (List.range (p - j)).map fun k => .tuple [.int (j : Nat), .int ((j + 1 + k : Nat) : Int)]
def frD (p n : Nat) : List PyData := (List.range n).flatMap (frRow p)
theorem frD_succ {p n : Nat} : frD p (n + 1) = frD p n ++ frRow p n := by
  unfold frD
  rw [List.range_succ, List.flatMap_append, List.flatMap_singleton]
def oFrames (K : PySem.W.Frag) (C : Addr) (p : Int) : Out := if 3 ≤ p ∧ p ≤ 23 ∧ isP p = true then .lst (fun H' vs => DpAll K H' vs (frD p.toNat (p.toNat + 1))) else .err C "number" (.int p)
def oOddPrimes (C : Addr) (m : Int) : Out := if m < 0 ∨ m > 997 then .err C "number" (.int m) else .lst (fun _ vs => vs = (primesTo m).map V.int)
def oPower (C : Addr) (p x e : Int) : Out := if 0 ≤ p ∧ p ≤ 997 ∧ isP p = true then (if 0 ≤ x ∧ x ≤ p - 1 then (if 0 ≤ e ∧ e ≤ 10000 then .ret (.int (pw p x e)) else .err C "number" (.int e)) else .err C "number" (.int x)) else .err C "number" (.int p)
def rtV (p x : Int) : V := match rt p x with | some y => .int (y : Nat) | none => .non
def oSqrt (C : Addr) (p x : Int) : Out := if 0 ≤ p ∧ p ≤ 997 ∧ isP p = true then (if 0 ≤ x ∧ x ≤ p - 1 then .ret (rtV p x) else .err C "number" (.int x)) else .err C "number" (.int p)
def oLeast (C : Addr) (p : Int) : Out := if 0 ≤ p ∧ p ≤ 997 ∧ isP p = true then .ret (.int (lns p)) else .err C "number" (.int p)
def roots (p e x : Int) : List Int := ((List.range (p - 1).toNat).map fun (i : Nat) => 1 + (i : Int)).filter fun r => decide (pw p r e = x)
def oRoots (C : Addr) (p e x : Int) : Out := if 0 ≤ p ∧ p ≤ 997 ∧ isP p = true then (if 1 ≤ e ∧ e ≤ 40 then (if 1 ≤ x ∧ x ≤ p - 1 then .lst (fun _ vs => vs = (roots p e x).map V.int) else .err C "number" (.int x)) else .err C "number" (.int e)) else .err C "number" (.int p)
def plain15 : List Int := [2, 0, 1, 9, 998, 999, 1009, 10 ^ 60, -3, -7, 25, 49, 561, 961, 989]
theorem plain15_no : ∀ z ∈ plain15, ¬ (0 ≤ z ∧ z ≤ 997 ∧ isP z = true) := by decide +kernel
def part10 : List Int := [3, 5, 7, 11, 13, 17, 19, 23, 29, 31]
theorem part10_ok : ∀ z ∈ part10, 3 ≤ z ∧ z ≤ 31 := by decide +kernel
theorem not_even {q : Int} (h : q % 2 = 0) : isP q = false := by
  unfold isP isPN
  by_cases c : 0 ≤ q
  · rw [decide_eq_false (by omega : ¬ q.toNat % 2 = 1)]
    simp
  · rw [decide_eq_false (by omega : ¬ 3 ≤ q.toNat)]
    rfl
theorem not_prod {a b : Int} (ha : 3 ≤ a) (hb : 3 ≤ b) : isP (a * b) = false := by
  rw [Bool.eq_false_iff]
  intro h
  have h2 := isPN_prime (isP_nat h).1
  have e : (a * b).toNat = a.toNat * b.toNat := by
    have : ((a.toNat * b.toNat : Nat) : Int) = a * b := by rw [Int.natCast_mul, Int.toNat_of_nonneg (by omega), Int.toNat_of_nonneg (by omega)]
    omega
  rw [e] at h2
  have hlt : a.toNat < a.toNat * b.toNat := by
    have := Nat.mul_le_mul_left a.toNat (show 2 ≤ b.toNat by omega)
    omega
  exact h2.2.2 a.toNat (by omega) hlt (Nat.mul_mod_right _ _)
abbrev TwOk (p : Int) (x : Int × Int) : Prop := (0 ≤ x.1 ∧ x.1 ≤ p - 1) ∧ (0 ≤ x.2 ∧ x.2 ≤ p - 1)
def badV (p : Int) (x : Int × Int) : Int := if 0 ≤ x.1 ∧ x.1 ≤ p - 1 then x.2 else x.1
def oTwo (C : Addr) (p : Int) (x : Int × Int) : Out := if TwOk p x then .ret .non else .err C "number" (.int (badV p x))
def mu (p u : Int) (x y : Int × Int) : Int × Int := ((x.1 * y.1 + u * x.2 * y.2) % p, (x.1 * y.2 + x.2 * y.1) % p)
def nm (p u : Int) (x : Int × Int) : Int := (x.1 * x.1 - u * x.2 * x.2) % p
def pgF (p u : Int) : Nat → Int × Int → Int × Int → Int → Int × Int
  | 0, r, _, _ => r
  | f + 1, r, s, l => if 0 < l then pgF p u f (if l % 2 = 1 then mu p u r s else r) (mu p u s s) (l / 2) else r
def pg (p u : Int) (x : Int × Int) (e : Int) : Int × Int := pgF p u e.toNat (1, 0) x e
theorem pgF_zero {p u : Int} : ∀ (f : Nat) (r s : Int × Int) (l : Int), l ≤ 0 → pgF p u f r s l = r
  | 0, _, _, _, _ => rfl
  | f + 1, r, s, l, h => by unfold pgF; rw [if_neg (by omega)]
theorem mu_ok {p u : Int} {x y : Int × Int} (hp : 0 < p) : TwOk p (mu p u x y) := by
  unfold mu
  have h1 := Int.emod_lt_of_pos (x.1 * y.1 + u * x.2 * y.2) hp
  have h2 := Int.emod_lt_of_pos (x.1 * y.2 + x.2 * y.1) hp
  have h3 := Int.emod_nonneg (x.1 * y.1 + u * x.2 * y.2) (show p ≠ 0 by omega)
  have h4 := Int.emod_nonneg (x.1 * y.2 + x.2 * y.1) (show p ≠ 0 by omega)
  exact ⟨⟨h3, by show _ % p ≤ p - 1; omega⟩, ⟨h4, by show _ % p ≤ p - 1; omega⟩⟩
theorem mu_comm {p u : Int} {x y : Int × Int} : mu p u x y = mu p u y x := by
  unfold mu
  congr 2 <;> grind
def prO (x : Int × Int) : Out := .tup [.int x.1, .int x.2]
def oTimes (C : Addr) (p : Int) (x y : Int × Int) : Out := if 0 ≤ p ∧ p ≤ 997 ∧ isP p = true then (if TwOk p x then (if TwOk p y then prO (mu p (lns p) x y) else .err C "number" (.int (badV p y))) else .err C "number" (.int (badV p x))) else .err C "number" (.int p)
def oTwPower (C : Addr) (p : Int) (x : Int × Int) (e : Int) : Out := if 0 ≤ p ∧ p ≤ 997 ∧ isP p = true then (if TwOk p x then (if 0 ≤ e ∧ e ≤ 10000 then prO (pg p (lns p) x e) else .err C "number" (.int e)) else .err C "number" (.int (badV p x))) else .err C "number" (.int p)
def oNorm (C : Addr) (p : Int) (x : Int × Int) : Out := if 0 ≤ p ∧ p ≤ 997 ∧ isP p = true then (if TwOk p x then .ret (.int (nm p (lns p) x)) else .err C "number" (.int (badV p x))) else .err C "number" (.int p)
def pairD (p : Int × Int) : PyData := .tuple [.int p.1, .int p.2]
def PairT (K : PySem.W.Frag) (H : Hp) (q : Addr) (x : Int × Int) : Prop := SqT K H q [.int x.1, .int x.2]
theorem PairT.same {K : PySem.W.Frag} {H H' : Hp} {q : Addr} {x : Int × Int} (s : Same H H') (h : PairT K H q x) : PairT K H' q x := s.seqT h
theorem pair_dp {K : PySem.W.Frag} {H : Hp} {v : V} {x : Int × Int} (h : Dp K H v (pairD x)) : ∃ q, v = .ref q ∧ PairT K H q x := by
  unfold pairD at h
  cases h with
  | @tup l ys ds hS hAll =>
    have hys : ys = [.int x.1, .int x.2] := DpAll.ints (xs := [x.1, x.2]) hAll
    subst hys
    exact ⟨l, rfl, hS⟩
theorem dp_pair {K : PySem.W.Frag} {H : Hp} {q : Addr} {x : Int × Int} (h : PairT K H q x) : Dp K H (.ref q) (pairD x) := .tup h (.cons (.int x.1) (.cons (.int x.2) .nil))
theorem pairs_get {K : PySem.W.Frag} {H : Hp} {vs : List V} {L : List (Int × Int)} {i : Nat} {v : V} (h : DpAll K H vs (L.map pairD)) (e : vs[i]? = some v) : ∃ q x, L[i]? = some x ∧ v = .ref q ∧ PairT K H q x := by
  obtain ⟨d, hd, hp⟩ := DpAll.get h e
  rw [List.getElem?_map] at hd
  cases ez : L[i]? with
  | none => rw [ez] at hd; cases hd
  | some x =>
    rw [ez] at hd
    cases hd
    obtain ⟨q, rfl, hq⟩ := pair_dp hp
    exact ⟨q, x, rfl, rfl, hq⟩
/-- the lists of the buckets: rs their places, by their squares -/
structure Bks (H0 H : Hp) (p u : Int) (n : Nat) (B : Addr) (rs : List Addr) : Prop where
  len : rs.length = p.toNat
  nd : rs.Nodup
  out : B ∉ rs
  at_ : H B = some (.lst (rs.map V.ref))
  bkt : ∀ (i : Nat) (r : Addr), rs[i]? = some r → H r = some (.lst ((bk p u (i : Int) n).map V.int))
  new : ∀ r, r ∈ rs → H0 r = none
  newB : H0 B = none
  same : Same H0 H
theorem bk_succ {p u i : Int} {n : Nat} : bk p u i (n + 1) = bk p u i n ++ (if u * (n : Int) * (n : Int) % p = i then [(n : Int)] else []) := by
  unfold bk
  rw [ys_succ]
  congr 1
  simp
theorem bk_len {p u i : Int} {n : Nat} : (bk p u i n).length ≤ n := by
  unfold bk
  rw [List.length_map]
  refine Nat.le_trans (List.length_filter_le _ _) ?_
  rw [List.length_range]
  exact Nat.le_refl _
theorem nd_inj {α : Type} {l : List α} (nd : l.Nodup) {i j : Nat} (hi : i < l.length) (hj : j < l.length) (e : l[i] = l[j]) : i = j := by
  have h := List.pairwise_iff_getElem.mp nd
  rcases Nat.lt_trichotomy i j with z | z | z
  · exact absurd e (h i j hi hj z)
  · exact z
  · exact absurd e.symm (h j i hj hi z)
theorem Bks.later {H0 H H' : Hp} {p u : Int} {n : Nat} {B : Addr} {rs : List Addr} (b : Bks H0 H p u n B rs) (s : Same H H') : Bks H0 H' p u n B rs :=
  ⟨b.len, b.nd, b.out, s _ _ b.at_, fun i r h => s _ _ (b.bkt i r h), b.new, b.newB, b.same.trans s⟩
theorem Bks.put {H0 H H' : Hp} {p u : Int} {n : Nat} {B : Addr} {rs : List Addr} {j : Nat} {r : Addr} (b : Bks H0 H p u n B rs) (hj : rs[j]? = some r) (ej : u * (n : Int) * (n : Int) % p = (j : Int))
    (ch : Chg r H H') (e : H' r = some (.lst ((bk p u (j : Int) n ++ [(n : Int)]).map V.int))) (s : Same H0 H') : Bks H0 H' p u (n + 1) B rs := by
  have hm := List.mem_of_getElem? hj
  refine ⟨b.len, b.nd, b.out, ch _ _ (fun z => b.out (by rw [z]; exact hm)) b.at_, fun i r' h => ?_, b.new, b.newB, s⟩
  by_cases c : i = j
  · subst c
    rw [hj] at h
    cases h
    rw [bk_succ, if_pos ej]
    exact e
  · have hne : r' ≠ r := fun z => by
      subst z
      obtain ⟨h1, h2⟩ := List.getElem?_eq_some_iff.mp h
      obtain ⟨h3, h4⟩ := List.getElem?_eq_some_iff.mp hj
      exact c (nd_inj b.nd h1 h3 (h2.trans h4.symm))
    rw [bk_succ, if_neg (by omega), List.append_nil]
    exact ch _ _ hne (b.bkt i r' h)
def onesD (p u : Int) : List PyData := (onesL p u p.toNat).map pairD
def oOnes (K : PySem.W.Frag) (C : Addr) (p : Int) : Out := if 0 ≤ p ∧ p ≤ 997 ∧ isP p = true then .lst (fun H' vs => DpAll K H' vs ((onesL p (lns p) p.toNat).map pairD)) else .err C "number" (.int p)
theorem ones_succ {p u : Int} {n : Nat} : onesL p u (n + 1) = onesL p u n ++ (bk p u (((n : Int) * (n : Int) - 1) % p) p.toNat).map (fun b => ((n : Int), b)) := by
  unfold onesL
  rw [List.range_succ, List.flatMap_append, List.flatMap_singleton]
theorem g_nm {R : Type} [Lean.Grind.CommRing R] {a b c d u : R} : (a * c + u * b * d) * (a * c + u * b * d) - u * (a * d + b * c) * (a * d + b * c) = (a * a - u * b * b) * (c * c - u * d * d) := by grind
theorem nm_mul {p u : Int} {x y : Int × Int} (hp : 0 < p) : nm p u (mu p u x y) = nm p u x * nm p u y % p := by
  obtain ⟨P, rfl⟩ : ∃ P : Nat, p = (P : Int) := ⟨p.toNat, by omega⟩
  have : NeZero P := ⟨by omega⟩
  unfold nm mu
  refine fz_inj (p := P) ?_
  simp only [fz_sub, fz_mul, fz_mod, fz_add]
  exact g_nm
def askT (K : PySem.W.Frag) (C : Addr) (w p : Int) (x y : Int × Int) (e : Int) : Out := if w = 0 then oTimes C p x y else if w = 1 then oTwPower C p x e else if w = 2 then oNorm C p x else oOnes K C p
theorem e_no {K : PySem.W.Frag} {C : Addr} {w p e : Int} {x y : Int × Int} (hp : ¬ (0 ≤ p ∧ p ≤ 997 ∧ isP p = true)) : askT K C w p x y e = .err C "number" (.int p) := by
  unfold askT oTimes oTwPower oNorm oOnes
  simp only [if_neg hp]
  repeat' split
  all_goals rfl
theorem e_t1 {K : PySem.W.Frag} {C : Addr} {p e v : Int} {x y : Int × Int} (hp : 0 ≤ p ∧ p ≤ 997 ∧ isP p = true) (h : ¬ TwOk p x) (hv : badV p x = v) : askT K C 0 p x y e = .err C "number" (.int v) := by
  unfold askT oTimes
  rw [if_pos rfl, if_pos hp, if_neg h, hv]
theorem e_t2 {K : PySem.W.Frag} {C : Addr} {p e v : Int} {x y : Int × Int} (hp : 0 ≤ p ∧ p ≤ 997 ∧ isP p = true) (h : TwOk p x) (h2 : ¬ TwOk p y) (hv : badV p y = v) : askT K C 0 p x y e = .err C "number" (.int v) := by
  unfold askT oTimes
  rw [if_pos rfl, if_pos hp, if_pos h, if_neg h2, hv]
theorem e_p1 {K : PySem.W.Frag} {C : Addr} {p e v : Int} {x y : Int × Int} (hp : 0 ≤ p ∧ p ≤ 997 ∧ isP p = true) (h : ¬ TwOk p x) (hv : badV p x = v) : askT K C 1 p x y e = .err C "number" (.int v) := by
  unfold askT oTwPower
  rw [if_neg (by decide), if_pos rfl, if_pos hp, if_neg h, hv]
theorem e_p2 {K : PySem.W.Frag} {C : Addr} {p e : Int} {x y : Int × Int} (hp : 0 ≤ p ∧ p ≤ 997 ∧ isP p = true) (h : TwOk p x) (h2 : ¬ (0 ≤ e ∧ e ≤ 10000)) : askT K C 1 p x y e = .err C "number" (.int e) := by
  unfold askT oTwPower
  rw [if_neg (by decide), if_pos rfl, if_pos hp, if_pos h, if_neg h2]
theorem e_n1 {K : PySem.W.Frag} {C : Addr} {p e v : Int} {x y : Int × Int} (hp : 0 ≤ p ∧ p ≤ 997 ∧ isP p = true) (h : ¬ TwOk p x) (hv : badV p x = v) : askT K C 2 p x y e = .err C "number" (.int v) := by
  unfold askT oNorm
  rw [if_neg (by decide), if_neg (by decide), if_pos rfl, if_pos hp, if_neg h, hv]
theorem bad1 {p a b : Int} (h : ¬ (0 ≤ a ∧ a ≤ p - 1)) : ¬ TwOk p (a, b) ∧ badV p (a, b) = a := ⟨fun z => h z.1, if_neg h⟩
theorem bad2 {p a b : Int} (h0 : 0 ≤ a ∧ a ≤ p - 1) (h : ¬ (0 ≤ b ∧ b ≤ p - 1)) : ¬ TwOk p (a, b) ∧ badV p (a, b) = b := ⟨fun z => h z.2, if_pos h0⟩
def CaseP (K : PySem.W.Frag) (C : Addr) (p : Int) (H : Hp) (v : V) : Prop := ∃ (r o q : Addr) (w e due : Int) (x y : Int × Int), v = .ref r ∧ SqT K H r [.int w, .ref o, .ref q, .int e, .int due] ∧ PairT K H o x ∧ PairT K H q y ∧ 0 ≤ w ∧ w ≤ 3 ∧ askT K C w p x y e = .err C "number" (.int due)
theorem CaseP.mk {K : PySem.W.Frag} {C : Addr} {p : Int} {H : Hp} {r o q : Addr} {w e due a b c d : Int} (h : SqT K H r [.int w, .ref o, .ref q, .int e, .int due]) (ho : SqT K H o [.int a, .int b]) (hq : SqT K H q [.int c, .int d])
    (h0 : 0 ≤ w ∧ w ≤ 3) (h1 : askT K C w p (a, b) (c, d) e = .err C "number" (.int due)) : CaseP K C p H (.ref r) :=
  ⟨r, o, q, w, e, due, (a, b), (c, d), rfl, h, ho, hq, h0.1, h0.2, h1⟩
def PL (K : PySem.W.Frag) (p : Int) (H : Hp) (vs : List V) : Prop := ∃ L : List (Int × Int), DpAll K H vs (L.map pairD) ∧ ∀ x, x ∈ L → TwOk p x
theorem PL.same {K : PySem.W.Frag} {p : Int} {H H' : Hp} {vs : List V} (s : Same H H') (h : PL K p H vs) : PL K p H' vs := by
  obtain ⟨L, h1, h2⟩ := h
  exact ⟨L, dpAllSame s h1, h2⟩
theorem PL.nil {K : PySem.W.Frag} {p : Int} {H : Hp} : PL K p H [] := ⟨[], .nil, by simp⟩
theorem PL.one {K : PySem.W.Frag} {p : Int} {H : Hp} {q : Addr} {x : Int × Int} (h : PairT K H q x) (ok : TwOk p x) : PL K p H [.ref q] :=
  ⟨[x], .cons (dp_pair h) .nil, fun y hy => by rw [List.mem_singleton.mp hy]; exact ok⟩
theorem PL.app {K : PySem.W.Frag} {p : Int} {H : Hp} {vs ws : List V} (h : PL K p H vs) (h' : PL K p H ws) : PL K p H (vs ++ ws) := by
  obtain ⟨L, h1, h2⟩ := h
  obtain ⟨M, g1, g2⟩ := h'
  exact ⟨L ++ M, by rw [List.map_append]; exact DpAll.app h1 g1, fun x hx => (List.mem_append.mp hx).elim (h2 x) (g2 x)⟩
theorem PL.get {K : PySem.W.Frag} {p : Int} {H : Hp} {vs : List V} {i : Nat} {v : V} (h : PL K p H vs) (e : vs[i]? = some v) : ∃ q x, v = .ref q ∧ PairT K H q x ∧ TwOk p x := by
  obtain ⟨L, h1, h2⟩ := h
  obtain ⟨q, x, e1, e2, e3⟩ := pairs_get h1 e
  exact ⟨q, x, e2, e3, h2 x (List.mem_of_getElem? e1)⟩
theorem primes_takeLt {m : Int} {L : List Int} {i : Nat} {q : Int} (h : L[i]? = some q) : ((L.take (i + 1)).filter fun r => decide (r < m)) = ((L.take i).filter fun r => decide (r < m)) ++ (if q < m then [q] else []) := by
  rw [List.take_add_one, h, List.filter_append]
  congr 1
  rw [Option.toList_some, List.filter_cons, List.filter_nil]
  simp
def sp_SizeError_init (K : PySem.W.Frag) (t : Tab) : Sp := spI1 "count" K
theorem len_SizeError_init : ∀ vs H Q E, sp_SizeError_init K t vs H Q E → vs.length = ["self", "count"].length := fun _ _ _ _ h => spI1_len h
theorem ok_SizeError_init (T : Txt K mg t) : FnOk P w K mg base (L2.CX P w) 1 t.a_SizeError_init t.fd_SizeError_init ["self", "count"] (sp_SizeError_init K t) := by
  refine T.F_SizeError_init.okX sc_SizeError_init (len_SizeError_init) (fun cdv A outer s H vs Q E hr h => ?_)
  have nd := sc_SizeError_init.nd
  refine ⟨_, (pss_one (ps_ost (pv 0) (pv 1))), ?_⟩
  exact spI1_body h
def sp_NumberError_init (K : PySem.W.Frag) (t : Tab) : Sp := spI1 "number" K
theorem len_NumberError_init : ∀ vs H Q E, sp_NumberError_init K t vs H Q E → vs.length = ["self", "number"].length := fun _ _ _ _ h => spI1_len h
theorem ok_NumberError_init (T : Txt K mg t) : FnOk P w K mg base (L2.CX P w) 1 t.a_NumberError_init t.fd_NumberError_init ["self", "number"] (sp_NumberError_init K t) := by
  refine T.F_NumberError_init.okX sc_NumberError_init (len_NumberError_init) (fun cdv A outer s H vs Q E hr h => ?_)
  have nd := sc_NumberError_init.nd
  refine ⟨_, (pss_one (ps_ost (pv 0) (pv 1))), ?_⟩
  exact spI1_body h
def sp_TwinError_init (K : PySem.W.Frag) (t : Tab) : Sp := spI1 "number" K
theorem len_TwinError_init : ∀ vs H Q E, sp_TwinError_init K t vs H Q E → vs.length = ["self", "number"].length := fun _ _ _ _ h => spI1_len h
theorem ok_TwinError_init (T : Txt K mg t) : FnOk P w K mg base (L2.CX P w) 1 t.a_TwinError_init t.fd_TwinError_init ["self", "number"] (sp_TwinError_init K t) := by
  refine T.F_TwinError_init.okX sc_TwinError_init (len_TwinError_init) (fun cdv A outer s H vs Q E hr h => ?_)
  have nd := sc_TwinError_init.nd
  refine ⟨_, (pss_one (ps_ost (pv 0) (pv 1))), ?_⟩
  exact spI1_body h
def sp_PrimeError_init (K : PySem.W.Frag) (t : Tab) : Sp := spI1 "prime" K
theorem len_PrimeError_init : ∀ vs H Q E, sp_PrimeError_init K t vs H Q E → vs.length = ["self", "prime"].length := fun _ _ _ _ h => spI1_len h
theorem ok_PrimeError_init (T : Txt K mg t) : FnOk P w K mg base (L2.CX P w) 1 t.a_PrimeError_init t.fd_PrimeError_init ["self", "prime"] (sp_PrimeError_init K t) := by
  refine T.F_PrimeError_init.okX sc_PrimeError_init (len_PrimeError_init) (fun cdv A outer s H vs Q E hr h => ?_)
  have nd := sc_PrimeError_init.nd
  refine ⟨_, (pss_one (ps_ost (pv 0) (pv 1))), ?_⟩
  exact spI1_body h
def sp_check_number (K : PySem.W.Frag) (t : Tab) : Sp := fun vs H Q E => ∃ n lo hi : Int, vs = [.int n, .int lo, .int hi] ∧ Gives H Q E (oNum t.c_NumberError n lo hi)
theorem len_check_number : ∀ vs H Q E, sp_check_number K t vs H Q E → vs.length = (["number", "low", "high"] : List Str).length := by
  rintro vs H Q E ⟨_, _, _, rfl, _⟩
  rfl
theorem ok_check_number (T : Txt K mg t) : FnOk P w K mg base (L2.CX P w) 3 t.a_check_number t.fd_check_number ["number", "low", "high"] (sp_check_number K t) := by
  have G_NumberError_init := ok_NumberError_init (P := P) (w := w) (base := base) T
  refine T.F_check_number.okX sc_check_number (len_check_number) (fun cdv A outer s H vs Q E hr h => ?_)
  have nd := sc_check_number.nd
  refine ⟨_, (pss_one (ps_if (PW.pt (pw_or (pt_cmpR op_lt (pv 0) (pv 1) (by first | exact nomark _ | rfl)) (pw_or1 (pt_cmpR op_gt (pv 0) (pv 2) (by first | exact nomark _ | rfl))))) (pss_one (ps_raise rfl (takes_of rfl rfl rfl rfl) (pmk_oex T.x_NumberError T.xi_NumberError T.xt_NumberError G_NumberError_init (hr.mono (by decide)) T.b_NumberError_init .nil passLF (by rfl) T.g_NumberError (pa_cons (pv 0) pa_nil)))) pss_nil)), ?_⟩
  obtain ⟨n, lo, hi, rfl, k⟩ := h
  unfold oNum at k
  walk_at "rd"
  refine Br_d (fun c => ?_) (fun c => ?_)
  · rw [if_pos (.inl c)] at k
    walk_at "rd"
    refine tMkO_i ?_
    walk_at "rd"
    exact mkO1 T.x_NumberError T.xn_NumberError_number k
  · walk_at "rd"
    refine Br_d (fun c2 => ?_) (fun c2 => ?_)
    · rw [if_pos (.inr c2)] at k
      walk_at "rd"
      refine tMkO_i ?_
      walk_at "rd"
      exact mkO1 T.x_NumberError T.xn_NumberError_number k
    · rw [if_neg (by omega)] at k
      walk_at "rd"
      exact k _ (Same.refl _)
def sp_is_odd_prime (K : PySem.W.Frag) (t : Tab) : Sp := fun vs H Q E => ∃ n : Int, vs = [.int n] ∧ Gives H Q E (oIsP t.c_NumberError n)
theorem len_is_odd_prime : ∀ vs H Q E, sp_is_odd_prime K t vs H Q E → vs.length = (["number"] : List Str).length := by
  rintro vs H Q E ⟨_, rfl, _⟩
  rfl
theorem ok_is_odd_prime (T : Txt K mg t) : FnOk P w K mg base (L2.CX P w) 4 t.a_is_odd_prime t.fd_is_odd_prime ["number"] (sp_is_odd_prime K t) := by
  have G_check_number := ok_check_number (P := P) (w := w) (base := base) T
  refine T.F_is_odd_prime.okX sc_is_odd_prime (len_is_odd_prime) (fun cdv A outer s H vs Q E hr h => ?_)
  have nd := sc_is_odd_prime.nd
  refine ⟨_, (pss_cons (ps_expr (pe_callS G_check_number (hr.mono (by decide)) (by rfl) T.g_check_number T.F_check_number.kp T.b_check_number (fun σ => passAt (takes_of rfl rfl rfl rfl) σ) (pa_cons (pv 0) (pa_cons (pe_int) (pa_cons (pe_glob (v := .int 997) (by rfl) T.g_MOST ⟨_, rfl⟩) pa_nil)))))
    (pss_cons (ps_if (PW.pt (pw_or (pt_cmpR op_lt (pv 0) (pe_int) (by first | exact nomark _ | rfl)) (pw_or1 (pt_cmpR (op_eqUK K hr) (pe_op op_modP (pv 0) (pe_int)) (pe_int) (by first | exact nomark _ | rfl))))) (pss_one (ps_ret (pe_bl))) pss_nil)
    (pss_cons (ps_set (i := 1) nd rfl (Or.inl rfl) (pe_int))
    (pss_cons (ps_while (passes_of rfl) (pt_cmpR op_le (pe_op op_mulU (pv 1) (pv 1)) (pv 0) (by first | exact nomark _ | rfl)) (pss_cons (ps_if (pt_cmpR (op_eqUK K hr) (pe_op op_modP (pv 0) (pv 1)) (pe_int) (by first | exact nomark _ | rfl)) (pss_one (ps_ret (pe_bl))) pss_nil)
    (pss_one (ps_set (i := 1) nd rfl (Or.inl rfl) (pe_op (op_addUK K) (pv 1) (pe_int))))))
    (pss_one (ps_ret (pe_bl))))))), ?_⟩
  obtain ⟨n, rfl, k⟩ := h
  unfold oIsP at k
  walk_at "rd"
  refine ⟨n, 0, 997, rfl, ?_⟩
  by_cases c : n < 0 ∨ n > 997
  · rw [if_pos c] at k
    exact gerr (oNum_no c) k
  · rw [if_neg c] at k
    refine gret (oNum_ok (by omega)) fun H1 s1 => ?_
    obtain ⟨N, rfl⟩ : ∃ N : Nat, n = (N : Int) := ⟨n.toNat, by omega⟩
    have hN : isP (N : Int) = isPN N := by unfold isP; rw [Int.toNat_natCast]
    rw [hN] at k
    walk_at "rd"
    refine Br_d (fun c2 => ?_) (fun c2 => ?_)
    · have e : isPN N = false := by unfold isPN; rw [decide_eq_false (by omega : ¬ 3 ≤ N)]; rfl
      rw [e] at k
      walk_at "rd"
      exact k _ s1
    · walk_at "rd"
      refine Br_d (fun c3 => ?_) (fun c3 => ?_)
      · have e : isPN N = false := by unfold isPN; rw [decide_eq_false (by omega : ¬ N % 2 = 1)]; simp
        rw [e] at k
        walk_at "rd"
        exact k _ s1
      · have e : isPN N = noDiv N 3 N := by unfold isPN; rw [decide_eq_true (by omega : 3 ≤ N), decide_eq_true (by omega : N % 2 = 1)]; simp
        rw [e] at k
        walk_at "rd"
        refine while_w (fun f σ H' => ∃ d : Nat, σ = [some (.int N), some (.int d)] ∧ 3 ≤ d ∧ 2 * f + d = 2 * N + 3 ∧ noDiv N 3 N = noDiv f d N ∧ Same H H') N ⟨3, rfl, by omega, rfl, rfl, s1⟩ ?_
        rintro f σ H2 ⟨d, rfl, h3, hf, hd, s2⟩
        have hc : ((d : Int) * (d : Int) ≤ (N : Int)) = (d * d ≤ N) := by rw [← Int.natCast_mul]; exact propext Int.ofNat_le
        have hl : d ≤ d * d := Nat.le_mul_self d
        walk_at "rd"
        refine Br_d (fun c4 => ?_) (fun c4 => ?_)
        · rw [hc] at c4
          obtain ⟨f, rfl⟩ : ∃ f', f = f' + 1 := ⟨f - 1, by omega⟩
          refine turn_w ?_
          walk_at "rd"
          refine Br_d (fun c5 => ?_) (fun c5 => ?_)
          · walk_at "rd"
            rw [hd, noDiv_hit c4 (by omega)] at k
            exact k _ s2
          · walk_at "rd"
            refine ⟨f, by omega, d + 2, rfl, by omega, by omega, ?_, s2⟩
            rw [hd, noDiv_go c4 (by omega)]
        · rw [hc] at c4
          walk_at "rd"
          rw [hd, noDiv_big (by omega)] at k
          exact k _ s2
def sp_check_prime (K : PySem.W.Frag) (t : Tab) : Sp := fun vs H Q E => ∃ n : Int, vs = [.int n] ∧ Gives H Q E (oPrime t.c_NumberError n)
theorem len_check_prime : ∀ vs H Q E, sp_check_prime K t vs H Q E → vs.length = (["prime"] : List Str).length := by
  rintro vs H Q E ⟨_, rfl, _⟩
  rfl
theorem ok_check_prime (T : Txt K mg t) : FnOk P w K mg base (L2.CX P w) 5 t.a_check_prime t.fd_check_prime ["prime"] (sp_check_prime K t) := by
  have G_is_odd_prime := ok_is_odd_prime (P := P) (w := w) (base := base) T
  have G_NumberError_init := ok_NumberError_init (P := P) (w := w) (base := base) T
  refine T.F_check_prime.okX sc_check_prime (len_check_prime) (fun cdv A outer s H vs Q E hr h => ?_)
  have nd := sc_check_prime.nd
  refine ⟨_, (pss_one (ps_if (pt_not (pt_truthK K (pe_callS G_is_odd_prime (hr.mono (by decide)) (by rfl) T.g_is_odd_prime T.F_is_odd_prime.kp T.b_is_odd_prime (fun σ => passAt (takes_of rfl rfl rfl rfl) σ) (pa_cons (pv 0) pa_nil)))) (pss_one (ps_raise rfl (takes_of rfl rfl rfl rfl) (pmk_oex T.x_NumberError T.xi_NumberError T.xt_NumberError G_NumberError_init (hr.mono (by decide)) T.b_NumberError_init .nil passLF (by rfl) T.g_NumberError (pa_cons (pv 0) pa_nil)))) pss_nil)), ?_⟩
  obtain ⟨n, rfl, k⟩ := h
  unfold oPrime at k
  walk_at "rd"
  refine ⟨n, rfl, ?_⟩
  by_cases c : n < 0 ∨ n > 997
  · rw [if_neg (by omega)] at k
    exact gerr (if_pos c) k
  · refine gret (if_neg c) fun H1 s1 => ?_
    walk_at "rd"
    refine Br_b (fun c2 => ?_) (fun c2 => ?_)
    · rw [if_pos (by simp only [c2, and_true]; omega)] at k
      walk_at "rd"
      exact k _ s1
    · rw [if_neg (by rw [c2]; simp)] at k
      walk_at "rd"
      refine tMkO_i ?_
      walk_at "rd"
      exact mkO1 T.x_NumberError T.xn_NumberError_number fun H2 d s2 e => k H2 d (s1.trans s2) e
def sp_least_nonsquare (K : PySem.W.Frag) (t : Tab) : Sp := fun vs H Q E => ∃ p : Int, vs = [.int p] ∧ Gives H Q E (oLeast t.c_NumberError p)
theorem len_least_nonsquare : ∀ vs H Q E, sp_least_nonsquare K t vs H Q E → vs.length = (["prime"] : List Str).length := by
  rintro vs H Q E ⟨_, rfl, _⟩
  rfl
theorem ok_least_nonsquare (T : Txt K mg t) : FnOk P w K mg base (L2.CX P w) 6 t.a_least_nonsquare t.fd_least_nonsquare ["prime"] (sp_least_nonsquare K t) := by
  have G_check_prime := ok_check_prime (P := P) (w := w) (base := base) T
  refine T.F_least_nonsquare.okX sc_least_nonsquare (len_least_nonsquare) (fun cdv A outer s H vs Q E hr h => ?_)
  have nd := sc_least_nonsquare.nd
  refine ⟨_, (pss_cons (ps_expr (pe_callS G_check_prime (hr.mono (by decide)) (by rfl) T.g_check_prime T.F_check_prime.kp T.b_check_prime (fun σ => passAt (takes_of rfl rfl rfl rfl) σ) (pa_cons (pv 0) pa_nil)))
    (pss_cons (ps_setScI (i := 1) (own := [("residue", 3)]) (g := gName 3) (tt := tYes) rfl nd rfl rfl (sw_setTrue rfl rfl rfl (by decide +kernel)) (pi_range1 (by rfl) T.n_range (pa_cons (pv 0) pa_nil)) (blkOk_by (N := ["prime", "squares", "number", "residue"]) (sc := defScope s_least_nonsquare) (by decide +kernel)) (fun _ _ _ _ _ => (pg_name (i := 3) nd rfl (Or.inl rfl))) (fun _ _ _ _ _ => pts_nil) (fun _ _ _ _ _ => (pe_op op_modP (pe_op op_mulU (pv 3) (pv 3)) (pv 0))))
    (pss_cons (ps_set (i := 2) nd rfl (Or.inl rfl) (pe_int))
    (pss_cons (ps_while (passes_of rfl) (pt_cmpR (op_inU K w hr) (pv 2) (pv 1) (by first | exact nomark _ | rfl)) (pss_one (ps_set (i := 2) nd rfl (Or.inl rfl) (pe_op (op_addUK K) (pv 2) (pe_int)))))
    (pss_one (ps_ret (pv 2))))))), ?_⟩
  obtain ⟨p, rfl, k⟩ := h
  unfold oLeast at k
  walk_at "rd"
  refine ⟨p, rfl, ?_⟩
  by_cases c : 0 ≤ p ∧ p ≤ 997 ∧ isP p = true
  · rw [if_pos c] at k
    have p3 := (isP_nat c.2.2).2
    refine gret (oPrime_ok c) fun H1 s1 => ?_
    walk_at "rd"
    refine tScI_i (w1 ?_)
    walk_at "rd"
    refine W1_i (by omega) ?_
    refine scS srcR (fun i _ M n => n ≤ i ∧ ∀ z, M z = decide (z ∈ (List.range i).map fun (y : Nat) => (y : Int) * y % p)) (fun _ _ => trivial) ⟨Nat.zero_le _, fun z => rfl⟩ ?_ ?_
    · rintro D i M n H2 x H3 hi nD s2 eD ⟨hn, hM⟩ ⟨rfl, rfl⟩
      have hi' : i < p.toNat := hi
      walk_at "rd"
      have ez : (0 : Int) + (i : Nat) = (i : Nat) := by omega
      rw [ez]
      refine scY nD s2 eD (by unfold scanBound; omega) ⟨by split <;> omega, fun z => ?_⟩
      unfold putS
      rw [hM, List.range_succ, List.map_append, Bool.eq_iff_iff]
      simp
    · rintro D M n H2 nD s2 eD ⟨hn, hM⟩
      have hM2 : ∀ z, M z = isSq p z := hM
      walk_at "rd"
      refine while_w (fun m σ H' => ∃ z : Int, σ = [some (.int p), some (.ref D), some (.int z), none] ∧ 2 ≤ z ∧ z + m = 2 + p ∧ lns p = lnsF p m z ∧ Same H2 H') p.toNat ⟨2, rfl, by omega, by omega, rfl, Same.refl _⟩ ?_
      rintro m σ H3 ⟨z, rfl, z2, zm, hv, s3⟩
      walk_at "rd"
      refine inI_s (s3 _ _ eD) ?_
      rw [hM2]
      walk_at "rd"
      refine Br_b (fun c2 => ?_) (fun c2 => ?_)
      · have hz := sq_lt (by omega) c2
        obtain ⟨m, rfl⟩ : ∃ m', m = m' + 1 := ⟨m - 1, by omega⟩
        refine turn_w ?_
        walk_at "rd"
        refine ⟨m, by omega, _, rfl, by omega, by omega, ?_, s3⟩
        rw [hv, lnsF, if_pos c2]
      · walk_at "rd"
        have e : lns p = z := by
          rw [hv]
          cases m with
          | zero => rfl
          | succ m => rw [lnsF, if_neg (by rw [c2]; simp)]
        rw [e] at k
        exact k _ (s1.trans (s2.trans s3))
  · rw [if_neg c] at k
    exact gerr (oPrime_no c) k
def sp_check_twofold (K : PySem.W.Frag) (t : Tab) : Sp := fun vs H Q E => ∃ (p : Int) (x : Int × Int) (l : Addr), vs = [.int p, .ref l] ∧ PairT K H l x ∧ Gives H Q E (oTwo t.c_NumberError p x)
theorem len_check_twofold : ∀ vs H Q E, sp_check_twofold K t vs H Q E → vs.length = (["prime", "pair"] : List Str).length := by
  rintro vs H Q E ⟨_, _, _, rfl, _⟩
  rfl
theorem ok_check_twofold (T : Txt K mg t) : FnOk P w K mg base (L2.CX P w) 4 t.a_check_twofold t.fd_check_twofold ["prime", "pair"] (sp_check_twofold K t) := by
  have G_check_number := ok_check_number (P := P) (w := w) (base := base) T
  refine T.F_check_twofold.okX sc_check_twofold (len_check_twofold) (fun cdv A outer s H vs Q E hr h => ?_)
  have nd := sc_check_twofold.nd
  refine ⟨_, (pss_one (ps_for (passes_of rfl) rfl (pi_UK K (pv 1)) (pg_name (i := 2) nd rfl (Or.inl rfl))
    (pss_one (ps_expr (pe_callS G_check_number (hr.mono (by decide)) (by rfl) T.g_check_number T.F_check_number.kp T.b_check_number (fun σ => passAt (takes_of rfl rfl rfl rfl) σ) (pa_cons (pv 2) (pa_cons (pe_int) (pa_cons (pe_op op_sub (pv 0) (pe_int)) pa_nil)))))))), ?_⟩
  obtain ⟨p, x, l, rfl, hS, k⟩ := h
  unfold PairT at hS
  refine tFor_i (wT ?_)
  walk_at "rd"
  refine WT_i _ hS (forRun srcT hS ?_)
  walk_at "rd"
  refine ⟨x.1, 0, p - 1, rfl, ?_⟩
  unfold oTwo badV at k
  by_cases c : 0 ≤ x.1 ∧ x.1 ≤ p - 1
  · refine gret (oNum_ok c) fun H1 s1 => ?_
    walk_at "rd"
    refine ⟨x.2, 0, p - 1, rfl, ?_⟩
    by_cases c2 : 0 ≤ x.2 ∧ x.2 ≤ p - 1
    · rw [if_pos ⟨c, c2⟩] at k
      refine gret (oNum_ok c2) fun H2 s2 => ?_
      walk_at "rd"
      exact k _ (s1.trans s2)
    · rw [if_neg (fun z => c2 z.2), if_pos c] at k
      exact gerr (oNum_no (by omega)) fun H2 d s2 e => k H2 d (s1.trans s2) e
  · rw [if_neg (fun z => c z.1), if_neg c] at k
    exact gerr (oNum_no (by omega)) k
def sp_multiplied (K : PySem.W.Frag) (t : Tab) : Sp := fun vs H Q E => ∃ (p u : Int) (x y : Int × Int) (l m : Addr), vs = [.int p, .int u, .ref l, .ref m] ∧ PairT K H l x ∧ PairT K H m y ∧ 0 < p ∧ p ≤ 997 ∧ TwOk p x ∧ TwOk p y ∧ ∀ H' q, Same H H' → H' q = some (.tup [.int (mu p u x y).1, .int (mu p u x y).2]) → Q (.ref q) H'
theorem len_multiplied : ∀ vs H Q E, sp_multiplied K t vs H Q E → vs.length = (["prime", "unit", "first", "second"] : List Str).length := by
  rintro vs H Q E ⟨_, _, _, _, _, _, rfl, _⟩
  rfl
theorem ok_multiplied (T : Txt K mg t) : FnOk P w K mg base (L2.CX P w) 1 t.a_multiplied t.fd_multiplied ["prime", "unit", "first", "second"] (sp_multiplied K t) := by
  refine T.F_multiplied.okX sc_multiplied (len_multiplied) (fun cdv A outer s H vs Q E hr h => ?_)
  have nd := sc_multiplied.nd
  refine ⟨_, (pss_cons (ps_asg (pv 2) (pg_tupK K 2 rfl (pgs_cons (pg_name (i := 4) nd rfl (Or.inl rfl)) (pgs_cons (pg_name (i := 5) nd rfl (Or.inl rfl)) pgs_nil))))
    (pss_cons (ps_asg (pv 3) (pg_tupK K 2 rfl (pgs_cons (pg_name (i := 6) nd rfl (Or.inl rfl)) (pgs_cons (pg_name (i := 7) nd rfl (Or.inl rfl)) pgs_nil))))
    (pss_one (ps_ret (pe_tup (pa_cons (pe_op op_modP (pe_op (op_addUK K) (pe_op op_mulU (pv 4) (pv 6)) (pe_op op_mulU (pe_op op_mulU (pv 1) (pv 5)) (pv 7))) (pv 0)) (pa_cons (pe_op op_modP (pe_op (op_addUK K) (pe_op op_mulU (pv 4) (pv 7)) (pe_op op_mulU (pv 5) (pv 6))) (pv 0)) pa_nil))))))), ?_⟩
  obtain ⟨p, u, x, y, l, m, rfl, hx, hy, hp0, hp9, ox, oy, k⟩ := h
  unfold PairT at hx hy
  obtain ⟨⟨x1, x2⟩, ⟨x3, x4⟩⟩ := ox
  obtain ⟨⟨y1, y2⟩, ⟨y3, y4⟩⟩ := oy
  walk_at "rd"
  rename_i q H1 nq s1 e1
  exact k _ _ s1 e1
def sp_times (K : PySem.W.Frag) (t : Tab) : Sp := fun vs H Q E => ∃ (p : Int) (x y : Int × Int) (l m : Addr), vs = [.int p, .ref l, .ref m] ∧ PairT K H l x ∧ PairT K H m y ∧ Gives H Q E (oTimes t.c_NumberError p x y)
theorem len_times : ∀ vs H Q E, sp_times K t vs H Q E → vs.length = (["prime", "first", "second"] : List Str).length := by
  rintro vs H Q E ⟨_, _, _, _, _, rfl, _⟩
  rfl
theorem ok_times (T : Txt K mg t) : FnOk P w K mg base (L2.CX P w) 7 t.a_times t.fd_times ["prime", "first", "second"] (sp_times K t) := by
  have G_check_twofold := ok_check_twofold (P := P) (w := w) (base := base) T
  have G_least_nonsquare := ok_least_nonsquare (P := P) (w := w) (base := base) T
  have G_multiplied := ok_multiplied (P := P) (w := w) (base := base) T
  refine T.F_times.okX sc_times (len_times) (fun cdv A outer s H vs Q E hr h => ?_)
  have nd := sc_times.nd
  refine ⟨_, (pss_cons (ps_set (i := 3) nd rfl (Or.inl rfl) (pe_callS G_least_nonsquare (hr.mono (by decide)) (by rfl) T.g_least_nonsquare T.F_least_nonsquare.kp T.b_least_nonsquare (fun σ => passAt (takes_of rfl rfl rfl rfl) σ) (pa_cons (pv 0) pa_nil)))
    (pss_cons (ps_expr (pe_callS G_check_twofold (hr.mono (by decide)) (by rfl) T.g_check_twofold T.F_check_twofold.kp T.b_check_twofold (fun σ => passAt (takes_of rfl rfl rfl rfl) σ) (pa_cons (pv 0) (pa_cons (pv 1) pa_nil))))
    (pss_cons (ps_expr (pe_callS G_check_twofold (hr.mono (by decide)) (by rfl) T.g_check_twofold T.F_check_twofold.kp T.b_check_twofold (fun σ => passAt (takes_of rfl rfl rfl rfl) σ) (pa_cons (pv 0) (pa_cons (pv 2) pa_nil))))
    (pss_one (ps_ret (pe_callS G_multiplied (hr.mono (by decide)) (by rfl) T.g_multiplied T.F_multiplied.kp T.b_multiplied (fun σ => passAt (takes_of rfl rfl rfl rfl) σ) (pa_cons (pv 0) (pa_cons (pv 3) (pa_cons (pv 1) (pa_cons (pv 2) pa_nil)))))))))), ?_⟩
  obtain ⟨p, x, y, l, m, rfl, hx, hy, k⟩ := h
  unfold oTimes at k
  walk_at "rd"
  refine ⟨p, rfl, ?_⟩
  by_cases c : 0 ≤ p ∧ p ≤ 997 ∧ isP p = true
  · rw [if_pos c] at k
    have p3 := (isP_nat c.2.2).2
    refine gret (by unfold oLeast; rw [if_pos c]) fun H1 s1 => ?_
    walk_at "rd"
    refine ⟨p, x, l, rfl, hx.same s1, ?_⟩
    by_cases c2 : TwOk p x
    · rw [if_pos c2] at k
      refine gret (if_pos c2) fun H2 s2 => ?_
      walk_at "rd"
      refine ⟨p, y, m, rfl, hy.same (s1.trans s2), ?_⟩
      by_cases c3 : TwOk p y
      · rw [if_pos c3] at k
        refine gret (if_pos c3) fun H3 s3 => ?_
        walk_at "rd"
        refine ⟨p, lns p, x, y, l, m, rfl, hx.same (s1.trans (s2.trans s3)), hy.same (s1.trans (s2.trans s3)), by omega, c.2.1, c2, c3, fun H4 q s4 e4 => ?_⟩
        exact k _ _ (s1.trans (s2.trans (s3.trans s4))) e4
      · rw [if_neg c3] at k
        exact gerr (if_neg c3) fun H3 d s3 ed => k H3 d (s1.trans (s2.trans s3)) ed
    · rw [if_neg c2] at k
      exact gerr (if_neg c2) fun H2 d s2 ed => k H2 d (s1.trans s2) ed
  · rw [if_neg c] at k
    exact gerr (by unfold oLeast; rw [if_neg c]) k
def sp_twofold_power (K : PySem.W.Frag) (t : Tab) : Sp := fun vs H Q E => ∃ (p : Int) (x : Int × Int) (e : Int) (l : Addr), vs = [.int p, .ref l, .int e] ∧ PairT K H l x ∧ Gives H Q E (oTwPower t.c_NumberError p x e)
theorem len_twofold_power : ∀ vs H Q E, sp_twofold_power K t vs H Q E → vs.length = (["prime", "pair", "exponent"] : List Str).length := by
  rintro vs H Q E ⟨_, _, _, _, rfl, _⟩
  rfl
theorem ok_twofold_power (T : Txt K mg t) : FnOk P w K mg base (L2.CX P w) 7 t.a_twofold_power t.fd_twofold_power ["prime", "pair", "exponent"] (sp_twofold_power K t) := by
  have G_check_number := ok_check_number (P := P) (w := w) (base := base) T
  have G_check_twofold := ok_check_twofold (P := P) (w := w) (base := base) T
  have G_least_nonsquare := ok_least_nonsquare (P := P) (w := w) (base := base) T
  have G_multiplied := ok_multiplied (P := P) (w := w) (base := base) T
  refine T.F_twofold_power.okX sc_twofold_power (len_twofold_power) (fun cdv A outer s H vs Q E hr h => ?_)
  have nd := sc_twofold_power.nd
  refine ⟨_, (pss_cons (ps_set (i := 3) nd rfl (Or.inl rfl) (pe_callS G_least_nonsquare (hr.mono (by decide)) (by rfl) T.g_least_nonsquare T.F_least_nonsquare.kp T.b_least_nonsquare (fun σ => passAt (takes_of rfl rfl rfl rfl) σ) (pa_cons (pv 0) pa_nil)))
    (pss_cons (ps_expr (pe_callS G_check_twofold (hr.mono (by decide)) (by rfl) T.g_check_twofold T.F_check_twofold.kp T.b_check_twofold (fun σ => passAt (takes_of rfl rfl rfl rfl) σ) (pa_cons (pv 0) (pa_cons (pv 1) pa_nil))))
    (pss_cons (ps_expr (pe_callS G_check_number (hr.mono (by decide)) (by rfl) T.g_check_number T.F_check_number.kp T.b_check_number (fun σ => passAt (takes_of rfl rfl rfl rfl) σ) (pa_cons (pv 2) (pa_cons (pe_int) (pa_cons (pe_int) pa_nil)))))
    (pss_cons (ps_set (i := 4) nd rfl (Or.inl rfl) (pe_tup (pa_cons (pe_int) (pa_cons (pe_int) pa_nil))))
    (pss_cons (ps_set (i := 5) nd rfl (Or.inl rfl) (pv 1))
    (pss_cons (ps_set (i := 6) nd rfl (Or.inl rfl) (pv 2))
    (pss_cons (ps_while (passes_of rfl) (pt_cmpR op_gt (pv 6) (pe_int) (by first | exact nomark _ | rfl)) (pss_cons (ps_if (pt_cmpR (op_eqUK K hr) (pe_op op_modP (pv 6) (pe_int)) (pe_int) (by first | exact nomark _ | rfl)) (pss_one (ps_set (i := 4) nd rfl (Or.inl rfl) (pe_callS G_multiplied (hr.mono (by decide)) (by rfl) T.g_multiplied T.F_multiplied.kp T.b_multiplied (fun σ => passAt (takes_of rfl rfl rfl rfl) σ) (pa_cons (pv 0) (pa_cons (pv 3) (pa_cons (pv 4) (pa_cons (pv 5) pa_nil))))))) pss_nil)
    (pss_cons (ps_set (i := 5) nd rfl (Or.inl rfl) (pe_callS G_multiplied (hr.mono (by decide)) (by rfl) T.g_multiplied T.F_multiplied.kp T.b_multiplied (fun σ => passAt (takes_of rfl rfl rfl rfl) σ) (pa_cons (pv 0) (pa_cons (pv 3) (pa_cons (pv 5) (pa_cons (pv 5) pa_nil))))))
    (pss_one (ps_set (i := 6) nd rfl (Or.inl rfl) (pe_op op_fdivP (pv 6) (pe_int)))))))
    (pss_one (ps_ret (pv 4)))))))))), ?_⟩
  obtain ⟨p, x, e, l, rfl, hx, k⟩ := h
  unfold oTwPower at k
  walk_at "rd"
  refine ⟨p, rfl, ?_⟩
  by_cases c : 0 ≤ p ∧ p ≤ 997 ∧ isP p = true
  · rw [if_pos c] at k
    have p3 := (isP_nat c.2.2).2
    refine gret (by unfold oLeast; rw [if_pos c]) fun H1 s1 => ?_
    walk_at "rd"
    refine ⟨p, x, l, rfl, hx.same s1, ?_⟩
    by_cases c2 : TwOk p x
    · rw [if_pos c2] at k
      refine gret (if_pos c2) fun H2 s2 => ?_
      walk_at "rd"
      refine ⟨e, 0, 10000, rfl, ?_⟩
      by_cases c3 : 0 ≤ e ∧ e ≤ 10000
      · rw [if_pos c3] at k
        refine gret (oNum_ok c3) fun H3 s3 => ?_
        walk_at "rd"
        rename_i r0 H4 nr0 s4 er0
        refine while_w (fun m σ H' => ∃ (r s : Int × Int) (rq sq : Addr) (z : Int), σ = [some (.int p), some (.ref l), some (.int e), some (.int (lns p)), some (.ref rq), some (.ref sq), some (.int z)] ∧ H' rq = some (.tup [.int r.1, .int r.2]) ∧ PairT K H' sq s ∧ TwOk p r ∧ TwOk p s ∧ 0 ≤ z ∧ z.toNat ≤ m ∧ z ≤ 10000 ∧ pg p (lns p) x e = pgF p (lns p) m r s z ∧ Same H H') e.toNat ⟨(1, 0), x, r0, l, e, rfl, er0, hx.same (s1.trans (s2.trans (s3.trans s4))), ⟨⟨by decide, by show (1 : Int) ≤ p - 1; omega⟩, ⟨by decide, by show (0 : Int) ≤ p - 1; omega⟩⟩, c2, by omega, by omega, by omega, rfl, s1.trans (s2.trans (s3.trans s4))⟩ ?_
        rintro m σ H5 ⟨r, s, rq, sq, z, rfl, hr, hs, okr, oks, z0, zm, z1, hv, s5⟩
        walk_at "rd"
        refine Br_d (fun cz => ?_) (fun cz => ?_)
        · refine turn_w ?_
          obtain ⟨m, rfl⟩ : ∃ m', m = m' + 1 := ⟨m - 1, by omega⟩
          rw [pgF, if_pos (by omega)] at hv
          walk_at "rd"
          refine Br_d (fun co => ?_) (fun co => ?_)
          · rw [if_pos co] at hv
            walk_at "rd"
            refine ⟨p, lns p, r, s, rq, sq, rfl, SqT.of hr, hs, by omega, c.2.1, okr, oks, fun H6 q6 s6 e6 => ?_⟩
            walk_at "rd"
            refine ⟨p, lns p, s, s, sq, sq, rfl, hs.same s6, hs.same s6, by omega, c.2.1, oks, oks, fun H7 q7 s7 e7 => ?_⟩
            walk_at "rd"
            exact ⟨m, by omega, _, _, _, _, _, rfl, s7 _ _ e6, SqT.of e7, mu_ok (by omega), mu_ok (by omega), by omega, by omega, by omega, hv, s5.trans (s6.trans s7)⟩
          · rw [if_neg co] at hv
            walk_at "rd"
            refine ⟨p, lns p, s, s, sq, sq, rfl, hs, hs, by omega, c.2.1, oks, oks, fun H7 q7 s7 e7 => ?_⟩
            walk_at "rd"
            exact ⟨m, by omega, _, _, _, _, _, rfl, s7 _ _ hr, SqT.of e7, okr, mu_ok (by omega), by omega, by omega, by omega, hv, s5.trans s7⟩
        · rw [pgF_zero _ _ _ _ (by omega)] at hv
          walk_at "rd"
          rw [hv] at k
          exact k _ _ s5 hr
      · rw [if_neg c3] at k
        exact gerr (oNum_no (by omega)) fun H3 d s3 ed => k H3 d (s1.trans (s2.trans s3)) ed
    · rw [if_neg c2] at k
      exact gerr (if_neg c2) fun H2 d s2 ed => k H2 d (s1.trans s2) ed
  · rw [if_neg c] at k
    exact gerr (by unfold oLeast; rw [if_neg c]) k
def sp_norm (K : PySem.W.Frag) (t : Tab) : Sp := fun vs H Q E => ∃ (p : Int) (x : Int × Int) (l : Addr), vs = [.int p, .ref l] ∧ PairT K H l x ∧ Gives H Q E (oNorm t.c_NumberError p x)
theorem len_norm : ∀ vs H Q E, sp_norm K t vs H Q E → vs.length = (["prime", "pair"] : List Str).length := by
  rintro vs H Q E ⟨_, _, _, rfl, _⟩
  rfl
theorem ok_norm (T : Txt K mg t) : FnOk P w K mg base (L2.CX P w) 7 t.a_norm t.fd_norm ["prime", "pair"] (sp_norm K t) := by
  have G_check_twofold := ok_check_twofold (P := P) (w := w) (base := base) T
  have G_least_nonsquare := ok_least_nonsquare (P := P) (w := w) (base := base) T
  refine T.F_norm.okX sc_norm (len_norm) (fun cdv A outer s H vs Q E hr h => ?_)
  have nd := sc_norm.nd
  refine ⟨_, (pss_cons (ps_set (i := 2) nd rfl (Or.inl rfl) (pe_callS G_least_nonsquare (hr.mono (by decide)) (by rfl) T.g_least_nonsquare T.F_least_nonsquare.kp T.b_least_nonsquare (fun σ => passAt (takes_of rfl rfl rfl rfl) σ) (pa_cons (pv 0) pa_nil)))
    (pss_cons (ps_expr (pe_callS G_check_twofold (hr.mono (by decide)) (by rfl) T.g_check_twofold T.F_check_twofold.kp T.b_check_twofold (fun σ => passAt (takes_of rfl rfl rfl rfl) σ) (pa_cons (pv 0) (pa_cons (pv 1) pa_nil))))
    (pss_cons (ps_asg (pv 1) (pg_tupK K 2 rfl (pgs_cons (pg_name (i := 3) nd rfl (Or.inl rfl)) (pgs_cons (pg_name (i := 4) nd rfl (Or.inl rfl)) pgs_nil))))
    (pss_one (ps_ret (pe_op op_modP (pe_op op_sub (pe_op op_mulU (pv 3) (pv 3)) (pe_op op_mulU (pe_op op_mulU (pv 2) (pv 4)) (pv 4))) (pv 0))))))), ?_⟩
  obtain ⟨p, x, l, rfl, hx, k⟩ := h
  unfold oNorm at k
  walk_at "rd"
  refine ⟨p, rfl, ?_⟩
  by_cases c : 0 ≤ p ∧ p ≤ 997 ∧ isP p = true
  · rw [if_pos c] at k
    have p3 := (isP_nat c.2.2).2
    refine gret (by unfold oLeast; rw [if_pos c]) fun H1 s1 => ?_
    walk_at "rd"
    refine ⟨p, x, l, rfl, hx.same s1, ?_⟩
    by_cases c2 : TwOk p x
    · rw [if_pos c2] at k
      refine gret (if_pos c2) fun H2 s2 => ?_
      have hx2 := hx.same (s1.trans s2)
      unfold PairT at hx2
      obtain ⟨⟨x1, x2⟩, ⟨x3, x4⟩⟩ := c2
      walk_at "rd"
      exact k _ (s1.trans s2)
    · rw [if_neg c2] at k
      exact gerr (if_neg c2) fun H2 d s2 ed => k H2 d (s1.trans s2) ed
  · rw [if_neg c] at k
    exact gerr (by unfold oLeast; rw [if_neg c]) k
def sp_norm_ones (K : PySem.W.Frag) (t : Tab) : Sp := fun vs H Q E => ∃ (p : Int), vs = [.int p] ∧ Gives H Q E (oOnes K t.c_NumberError p)
theorem len_norm_ones : ∀ vs H Q E, sp_norm_ones K t vs H Q E → vs.length = (["prime"] : List Str).length := by
  rintro vs H Q E ⟨_, rfl, _⟩
  rfl
theorem ok_norm_ones (T : Txt K mg t) : FnOk P w K mg base (L2.CX P w) 7 t.a_norm_ones t.fd_norm_ones ["prime"] (sp_norm_ones K t) := by
  have G_least_nonsquare := ok_least_nonsquare (P := P) (w := w) (base := base) T
  refine T.F_norm_ones.okX sc_norm_ones (len_norm_ones) (fun cdv A outer s H vs Q E hr h => ?_)
  have nd := sc_norm_ones.nd
  refine ⟨_, (pss_cons (ps_set (i := 1) nd rfl (Or.inl rfl) (pe_callS G_least_nonsquare (hr.mono (by decide)) (by rfl) T.g_least_nonsquare T.F_least_nonsquare.kp T.b_least_nonsquare (fun σ => passAt (takes_of rfl rfl rfl rfl) σ) (pa_cons (pv 0) pa_nil)))
    (pss_cons (ps_set (i := 2) nd rfl (Or.inr rfl) (pe_lc (own := [("residue", 4)]) (g := gName 4) (tt := tYes) rfl nd (pi_range1 (by rfl) T.n_range (pa_cons (pv 0) pa_nil)) (blkOk_by (N := ["prime", "unit", "by_square", "b", "residue", "a"]) (sc := defScope s_norm_ones) (by decide +kernel)) (fun _ _ _ _ _ => (pg_name (i := 4) nd rfl (Or.inl rfl))) (fun _ _ _ _ _ => pts_nil) (fun _ _ _ _ _ => (pe_lst pa_nil))))
    (pss_cons (ps_for (passes_of rfl) rfl (pi_range1 (by rfl) T.n_range (pa_cons (pv 0) pa_nil)) (pg_name (i := 3) nd rfl (Or.inl rfl))
    (pss_one (ps_expr (pe_bmK K PySem.F.plainAttrs_list PySem.F.slot_list_append PySem.F.type_list_append mt_append (pe_ix (ix_UK K) (pv 2) (pe_op op_modP (pe_op op_mulU (pe_op op_mulU (pv 1) (pv 3)) (pv 3)) (pv 0)) (fun _ _ => rfl)) (pa_cons (pv 3) pa_nil)))))
    (pss_one (ps_ret (pe_lc2 (own := [("a", 5), ("b", 3)]) (vs1 := [3]) (g := gName 5) (g1 := gName 3) (tt := tYes) (tt1 := tYes) rfl nd (pi_range1 (by rfl) T.n_range (pa_cons (pv 0) pa_nil)) (blkOk_by (N := ["prime", "unit", "by_square", "b", "residue", "a"]) (sc := defScope s_norm_ones) (by decide +kernel)) (by decide) (fun _ _ _ _ _ => (pg_name (i := 5) nd rfl (Or.inl rfl))) (fun _ _ _ _ _ => pts_nil) (fun _ _ _ _ _ => (pi_UK K (pe_ix (ix_UK K) (pv 2) (pe_op op_modP (pe_op op_sub (pe_op op_mulU (pv 5) (pv 5)) (pe_int)) (pv 0)) (fun _ _ => rfl)))) (fun _ _ _ _ _ => (pg_name (i := 3) nd rfl (Or.inl rfl))) (fun _ _ _ _ _ => pts_nil) (fun _ _ _ _ _ => (pe_tup (pa_cons (pv 5) (pa_cons (pv 3) pa_nil)))))))))), ?_⟩
  obtain ⟨p, rfl, k⟩ := h
  unfold oOnes at k
  walk_at "rd"
  refine ⟨p, rfl, ?_⟩
  by_cases c : 0 ≤ p ∧ p ≤ 997 ∧ isP p = true
  · rw [if_pos c] at k
    have p3 := (isP_nat c.2.2).2
    obtain ⟨l1, l2, l3, l4⟩ := lns_spec c.2.2
    generalize hu : lns p = u at k l1 l2
    refine gret (by unfold oLeast; rw [if_pos c]) fun H1 s1 => ?_
    rw [hu]
    walk_at "rd"
    refine tLc_i (w1 ?_)
    walk_at "rd"
    refine W1_i (by omega) ?_
    refine lcS srcR (fun i G acc => ∃ rs : List Addr, acc = rs.map V.ref ∧ rs.length = i ∧ rs.Nodup ∧ (∀ r, r ∈ rs → G r = some (.lst []) ∧ H r = none) ∧ Same H1 G) (fun _ _ => trivial) ⟨[], rfl, rfl, List.nodup_nil, by simp, Same.refl _⟩ ?_ ?_
    · rintro D i acc H2 z H3 hi nD s2 eD ⟨rs, rfl, hl, nd, hr, sG⟩ ⟨rfl, rfl⟩
      have hi' : i < p.toNat := hi
      walk_at "rd"
      rename_i r H4 nr s4 er
      have nd' : r ≠ D := fun z => by
        rw [z, eD] at nr
        cases nr
      refine lcY nD (s2.trans s4) (s4 _ _ eD) (Nat.lt_of_lt_of_le (by rw [List.length_map]; omega : _ < 1000) (Nat.le_of_ble_eq_true rfl)) ⟨rs ++ [r], by rw [List.map_append]; rfl, by rw [List.length_append, hl]; rfl, ?_, ?_, ?_⟩
      · refine List.nodup_append.mpr ⟨nd, by simp, fun a ha b hb z => ?_⟩
        rw [List.mem_singleton.mp hb] at z
        have := (hr a ha).1
        rw [z] at this
        have : (del _ D) r = some _ := this
        rw [del_ne nd', nr] at this
        cases this
      · intro r' h'
        rcases List.mem_append.mp h' with q | q
        · exact ⟨s4.del _ _ (hr r' q).1, (hr r' q).2⟩
        · rw [List.mem_singleton.mp q]
          exact ⟨del_at er nd', (s1.trans s2).free nr⟩
      · exact sG.trans s4.del
    · rintro B acc H2 nB s2 eB ⟨rs, rfl, hl, nd, hr, sG⟩
      have hl' : rs.length = p.toNat := hl
      have hB : B ∉ rs := fun z => by
        have := (hr B z).1
        rw [del_same] at this
        cases this
      have b0 : Bks H H2 p u 0 B rs := ⟨hl', nd, hB, eB, fun i r h => by
        have := (hr r (List.mem_of_getElem? h)).1
        exact Same.undel _ _ this, fun r hr' => (hr r hr').2, s1.free nB, s1.trans s2⟩
      walk_at "rd"
      refine tFor_i (w1 ?_)
      walk_at "rd"
      refine W1_i (by omega) ?_
      refine forS srcR (fun i σ H' => ∃ v3 : Option V, σ = [some (.int p), some (.int u), some (.ref B), v3, none, none] ∧ Bks H H' p u i B rs) ⟨none, rfl, b0⟩ (fun _ _ _ _ _ => trivial) ?_ ?_
      · rintro i σ H3 z H4 hi ⟨v3, rfl, b⟩ ⟨rfl, rfl⟩
        have hi' : i < p.toNat := hi
        have ez : (0 : Int) + (i : Nat) = (i : Nat) := by omega
        walk_at "rd"
        rw [ez]
        have m0 := Int.emod_nonneg (u * (i : Int) * (i : Int)) (show p ≠ 0 by omega)
        have m1 := Int.emod_lt_of_pos (u * (i : Int) * (i : Int)) (show 0 < p by omega)
        obtain ⟨j, hj⟩ : ∃ j : Nat, u * (i : Int) * (i : Int) % p = (j : Int) := ⟨(u * (i : Int) * (i : Int) % p).toNat, by omega⟩
        have hjl : j < rs.length := by rw [hl']; omega
        have hg : rs[j]? = some rs[j] := List.getElem?_eq_getElem hjl
        refine rIxU_l (SqL.of b.at_) (v := .ref rs[j]) (at_of (j := j) hj (by rw [List.getElem?_map, hg]; rfl)) ?_
        have hb := b.bkt j _ hg
        have hbl := bk_len (p := p) (u := u) (i := (j : Int)) (n := i)
        refine tyL (SqL.of hb) ?_
        walk_at "rd"
        refine append_ints hb (by omega) fun H5 ch e5 s5 => ?_
        exact ⟨_, rfl, b.put hg hj ch e5 (s5 _ b.same (b.new _ (List.mem_of_getElem? hg)))⟩
      · rintro σ H3 ⟨v3, rfl, b⟩
        walk_at "rd"
        refine tLc2_i (w1 ?_)
        walk_at "rd"
        refine W1_i (by omega) ?_
        refine lc2S srcR (fun i G acc => acc.length ≤ i * 1000 ∧ DpAll K G acc ((onesL p u i).map pairD)) (fun _ _ => trivial) ⟨by simp, .nil⟩ ?_ ?_
        · rintro D i acc H4 z H5 hi nD s4 eD ⟨hlen, hA⟩ ⟨rfl, rfl⟩
          have hi' : i < p.toNat := hi
          have ez : (0 : Int) + (i : Nat) = (i : Nat) := by omega
          walk_at "rd"
          rw [ez]
          have m0 := Int.emod_nonneg ((i : Int) * (i : Int) - 1) (show p ≠ 0 by omega)
          have m1 := Int.emod_lt_of_pos ((i : Int) * (i : Int) - 1) (show 0 < p by omega)
          obtain ⟨j, hj⟩ : ∃ j : Nat, ((i : Int) * (i : Int) - 1) % p = (j : Int) := ⟨(((i : Int) * (i : Int) - 1) % p).toNat, by omega⟩
          have hjl : j < rs.length := by rw [hl']; omega
          have hg : rs[j]? = some rs[j] := List.getElem?_eq_getElem hjl
          have b4 := b.later s4
          refine wL ?_
          walk_at "rd"
          refine rIxU_l (SqL.of b4.at_) (v := .ref rs[j]) (at_of (j := j) hj (by rw [List.getElem?_map, hg]; rfl)) ?_
          have hb := b4.bkt j _ hg
          have hbl : (bk p u (j : Int) p.toNat).length ≤ 997 := by
            have := bk_len (p := p) (u := u) (i := (j : Int)) (n := p.toNat)
            omega
          refine WL_i _ (SqL.of hb) ?_
          have hbG : H3 rs[j] = some (.lst ((bk p u (j : Int) p.toNat).map V.int)) := b.bkt j _ hg
          refine lcIn (H0 := H3) (srcL (xs := (bk p u (j : Int) p.toNat).map V.int)) (fun n G acc => acc.length ≤ i * 1000 + n ∧ DpAll K G acc ((onesL p u i ++ ((bk p u (j : Int) p.toNat).take n).map fun b => ((i : Int), b)).map pairD)) (fun H' s' => SqL.of (s' _ _ hbG)) (lcN s4 eD ⟨by omega, by simpa using hA⟩) ?_ ?_
          · rintro n acc H6 x H7 hn s6 eD6 ⟨hlen6, hA6⟩ ⟨rfl, hx⟩
            rw [List.getElem?_map, Option.map_eq_some_iff] at hx
            obtain ⟨y, hy, rfl⟩ := hx
            rw [List.length_map] at hn
            walk_at "rd"
            rename_i q H8 nq s8 e8
            refine lcY nD (s6.trans s8) (s8 _ _ eD6) (Nat.lt_of_lt_of_le (by have : i * 1000 ≤ 997 * 1000 := Nat.mul_le_mul_right _ (by omega); omega : _ < 1000000) (Nat.le_of_ble_eq_true rfl)) ⟨by rw [List.length_append, List.length_singleton]; omega, ?_⟩
            rw [map_take_succ hy, ← List.append_assoc, List.map_append]
            exact DpAll.app (dpAllSame s8.del hA6) (DpAll.one (dp_pair (x := ((i : Int), y)) (SqT.of (del_new e8 nq eD6))))
          · rintro H6 ⟨acc6, s6, e6, hlen6, hA6⟩
            rw [List.length_map, List.take_length] at hA6
            rw [List.length_map] at hlen6
            refine ⟨acc6, s6, e6, by omega, ?_⟩
            rw [ones_succ, hj]
            exact hA6
        · rintro D acc H4 nD s4 eD ⟨hlen, hA⟩
          exact k _ _ _ (b.same.trans s4) (b.same.free nD) eD (dpAllSame Same.undel hA)
  · rw [if_neg c] at k
    exact gerr (by unfold oLeast; rw [if_neg c]) k
def sp_ulaw_draws (K : PySem.W.Frag) (t : Tab) : Sp := fun vs H Q E => ∃ (a : Addr) (ns : List Int) (c : Int), vs = [.ref a, .int c] ∧ SqL K H a (ns.map V.int) ∧ ns.length ≤ 63 ∧ 0 ≤ c ∧ c ≤ 10000 ∧
  ∀ H' p xs, Same H H' → H p = none → H' p = some (.lst (xs.map V.int)) → (xs.length : Int) = c → Dg xs → Q (.ref p) H'
theorem len_ulaw_draws : ∀ vs H Q E, sp_ulaw_draws K t vs H Q E → vs.length = (["script", "count"] : List Str).length := by
  rintro vs H Q E ⟨_, _, _, rfl, _⟩
  rfl
theorem ok_ulaw_draws (T : Txt K mg t) : FnOk P w K mg base (L2.CX P w) 1 t.a_ulaw_draws t.fd_ulaw_draws ["script", "count"] (sp_ulaw_draws K t) := by
  refine T.F_ulaw_draws.okX sc_ulaw_draws (len_ulaw_draws) (fun cdv A outer s H vs Q E hr h => ?_)
  have nd := sc_ulaw_draws.nd
  refine ⟨_, (pss_cons (ps_set (i := 2) nd rfl (Or.inl rfl) (pe_lst pa_nil))
    (pss_cons (ps_for (passes_of rfl) rfl (pi_range1 (by rfl) T.n_range (pa_cons (pe_callB (call_min2D rfl) (by rfl) T.n_min (by decide +kernel) (pa_cons (pe_callB (call_lenK K) (by rfl) T.n_len (by decide +kernel) (pa_cons (pv 0) pa_nil)) (pa_cons (pe_int) pa_nil))) pa_nil)) (pg_name (i := 3) nd rfl (Or.inl rfl))
    (pss_cons (ps_set (i := 4) nd rfl (Or.inl rfl) (pe_ix (ix_UK K) (pv 0) (pv 3) (fun _ _ => rfl)))
    (pss_one (ps_if (pt_cmpR op_ge (pv 4) (pe_op op_pow (pe_int) (pe_int)) (by first | exact nomark _ | rfl)) (pss_one (ps_for (passes_of rfl) rfl (pi_range1 (by rfl) T.n_range (pa_cons (pe_int) pa_nil)) (pg_name (i := 5) nd rfl (Or.inl rfl))
    (pss_one (ps_if (pt_cmpR op_gt (pv 4) (pe_int) (by first | exact nomark _ | rfl)) (pss_cons (ps_expr (pe_bmK K PySem.F.plainAttrs_list PySem.F.slot_list_append PySem.F.type_list_append mt_append (pv 2) (pa_cons (pe_op op_modP (pv 4) (pe_int)) pa_nil)))
    (pss_one (ps_set (i := 4) nd rfl (Or.inl rfl) (pe_op op_fdivP (pv 4) (pe_int))))) pss_nil)))) (pss_cons (ps_set (i := 6) nd rfl (Or.inl rfl) (pe_op op_modP (pe_callTy call_int1D (by rfl) T.n_int (by decide +kernel) (pa_cons (pv 4) pa_nil)) (pe_int)))
    (pss_cons (ps_expr (pe_bmK K PySem.F.plainAttrs_list PySem.F.slot_list_append PySem.F.type_list_append mt_append (pv 2) (pa_cons (pe_op op_modP (pv 6) (pe_int)) pa_nil)))
    (pss_one (ps_expr (pe_bmK K PySem.F.plainAttrs_list PySem.F.slot_list_append PySem.F.type_list_append mt_append (pv 2) (pa_cons (pe_op op_modP (pe_op op_fdivP (pe_op op_modP (pe_callTy call_int1D (by rfl) T.n_int (by decide +kernel) (pa_cons (pe_op (op_addUK K) (pe_op op_mulU (pv 6) (pe_int)) (pe_op op_mulU (pe_int) (pv 3))) pa_nil)) (pe_int)) (pe_int)) (pe_int)) pa_nil))))))))))
    (pss_cons (ps_set (i := 7) nd rfl (Or.inl rfl) (pe_op op_modP (pe_callTy call_int1D (by rfl) T.n_int (by decide +kernel) (pa_cons (pe_op (op_addUK K) (pe_op (op_addUK K) (pe_op op_mulU (pe_callB (cr_sumK K rfl) (by rfl) T.n_sum (by decide +kernel) (pa_cons (pv 2) pa_nil)) (pe_int)) (pe_op op_mulU (pe_int) (pe_callB (call_lenK K) (by rfl) T.n_len (by decide +kernel) (pa_cons (pv 2) pa_nil)))) (pe_int)) pa_nil)) (pe_int)))
    (pss_cons (ps_for (passes_of rfl) rfl (pi_range1 (by rfl) T.n_range (pa_cons (pv 1) pa_nil)) (pg_name (i := 5) nd rfl (Or.inl rfl))
    (pss_cons (ps_set (i := 7) nd rfl (Or.inl rfl) (pe_op op_modP (pe_callTy call_int1D (by rfl) T.n_int (by decide +kernel) (pa_cons (pe_op (op_addUK K) (pe_op op_mulU (pv 7) (pe_int)) (pe_int)) pa_nil)) (pe_int)))
    (pss_one (ps_expr (pe_bmK K PySem.F.plainAttrs_list PySem.F.slot_list_append PySem.F.type_list_append mt_append (pv 2) (pa_cons (pe_op op_modP (pe_op op_fdivP (pv 7) (pe_int)) (pe_int)) pa_nil))))))
    (pss_one (ps_ret (pe_slice (sl_listK K) (pv 2) po_none (po_some (pv 1))))))))), ?_⟩
  obtain ⟨a, ns, c, rfl, hS, hlen, hc0, hc1, k⟩ := h
  refine tSeq_i (tAsg_i (tLst_i (tNil_i (new_i (by walk_at "side") fun r H1 nr s1 hr => ?_))))
  walk_at "rd"
  refine tFor_i (w1 ?_)
  walk_at "rd"
  refine W1_i (by split <;> simp <;> omega) ?_
  have hmin : (if (63 : Int) < ((ns.map V.int).length : Nat) then (63 : Int) else ((ns.map V.int).length : Nat)).toNat = ns.length := by
    rw [List.length_map]
    split <;> omega
  rw [hmin]
  refine forS srcR (fun i σ H' => ∃ (R : List Int) (v3 v4 v5 v6 : Option V), σ = [some (.ref a), some (.int c), some (.ref r), v3, v4, v5, v6, none] ∧ Same H H' ∧ H' r = some (.lst (R.map V.int)) ∧ R.length ≤ 60 * i ∧ Dg R) ⟨[], none, none, none, none, rfl, s1, hr, by simp, dg_nil⟩ (fun _ _ _ _ _ => trivial) ?_ ?_
  · rintro i σ H2 x H3 hi ⟨R, v3, v4, v5, v6, rfl, s2, hr2, hl, hd⟩ ⟨rfl, rfl⟩
    have hget : (ns.map V.int)[i]? = some (.int ns[i]) := by rw [List.getElem?_map, List.getElem?_eq_getElem hi]; rfl
    walk_at "rd"
    refine rIxU_l (s2.seq hS) (at_of (j := i) (by omega) hget) ?_
    walk_at "rd"
    refine Br_d (fun c1 => ?_) (fun c1 => ?_)
    · walk_at "rd"
      refine tFor_i (w1 ?_)
      walk_at "rd"
      refine W1_i (by omega) ?_
      refine forS srcR (fun j σ H' => ∃ (R : List Int) (z : Int) (v5 : Option V), σ = [some (.ref a), some (.int c), some (.ref r), some (.int (0 + (i : Nat))), some (.int z), v5, v6, none] ∧ Same H H' ∧ H' r = some (.lst (R.map V.int)) ∧ R.length ≤ 60 * i + j ∧ Dg R) ⟨R, ns[i], v5, rfl, s2, hr2, by omega, hd⟩ (fun _ _ _ _ _ => trivial) ?_ ?_
      · rintro j σ H4 x H5 hj ⟨R, z, v5, rfl, s4, hr4, hl, hd⟩ ⟨rfl, rfl⟩
        have hj' : j < 60 := hj
        walk_at "rd"
        refine Br_d (fun c2 => ?_) (fun c2 => ?_)
        · walk_at "rd"
          refine append_ints hr4 (by omega) fun H5 ch e s5 => ?_
          walk_at "rd"
          exact ⟨_, _, _, rfl, s5 _ s4 nr, e, by rw [List.length_append, List.length_singleton]; omega, dg_app hd (by omega)⟩
        · walk_at "rd"
          exact ⟨R, z, _, rfl, s4, hr4, by omega, hd⟩
      · rintro σ H4 ⟨R, z, v5, rfl, s4, hr4, hl, hd⟩
        have hl' : R.length ≤ 60 * i + 60 := hl
        exact ⟨R, _, _, _, _, rfl, s4, hr4, by omega, hd⟩
    · walk_at "rd"
      refine append_ints hr2 (by omega) fun H5 ch e s5 => ?_
      walk_at "rd"
      refine append_ints e (by rw [List.length_append, List.length_singleton]; omega) fun H6 ch6 e6 s6 => ?_
      exact ⟨_, _, _, _, _, rfl, s6 _ (s5 _ s2 nr) nr, e6, by rw [List.length_append, List.length_append, List.length_singleton, List.length_singleton]; omega, dg_app (dg_app hd (by omega)) (by omega)⟩
  · rintro σ H2 ⟨R, v3, v4, v5, v6, rfl, s2, hr2, hl, hd⟩
    walk_at "rd"
    refine rSum_i R (SqL.of hr2) ?_
    walk_at "rd"
    refine tFor_i (w1 ?_)
    walk_at "rd"
    refine W1_i (by omega) ?_
    refine forS srcR (fun j σ H' => ∃ (R' : List Int) (z : Int) (v3 v4 v5 v6 : Option V), σ = [some (.ref a), some (.int c), some (.ref r), v3, v4, v5, v6, some (.int z)] ∧ Same H H' ∧ H' r = some (.lst (R'.map V.int)) ∧ R'.length = R.length + j ∧ Dg R') ⟨R, _, _, _, _, _, rfl, s2, hr2, by omega, hd⟩ (fun _ _ _ _ _ => trivial) ?_ ?_
    · rintro j σ H4 x H5 hj ⟨R', z, v3, v4, v5, v6, rfl, s4, hr4, hl4, hd4⟩ ⟨rfl, rfl⟩
      walk_at "rd"
      refine append_ints hr4 (by omega) fun H5 ch e s5 => ?_
      exact ⟨_, _, _, _, _, _, rfl, s5 _ s4 nr, e, by rw [List.length_append, List.length_singleton]; omega, dg_app hd4 (by omega)⟩
    · rintro σ H4 ⟨R', z, v3, v4, v5, v6, rfl, s4, hr4, hl4, hd4⟩
      walk_at "rd"
      refine rSlL_i (SqL.of hr4) fun p H5 np s5 e5 => ?_
      rw [cut_take hc0 (by omega)] at e5
      exact k H5 p _ (s4.trans s5) (s4.free np) e5 (by rw [List.length_take]; omega) (dg_take hd4)
def sp_ulaw_next (K : PySem.W.Frag) (t : Tab) : Sp := fun vs H Q E => ∃ (c a : Addr) (m : Int), vs = [.ref c, .ref a, .int m] ∧ Draw K H c a ∧ 0 < m ∧ ∀ n, 0 ≤ n → n < m → Q (.int n) H
theorem len_ulaw_next : ∀ vs H Q E, sp_ulaw_next K t vs H Q E → vs.length = (["cells", "at", "many"] : List Str).length := by
  rintro vs H Q E ⟨_, _, _, rfl, _⟩
  rfl
theorem ok_ulaw_next (T : Txt K mg t) : FnOk P w K mg base (L2.CX P w) 1 t.a_ulaw_next t.fd_ulaw_next ["cells", "at", "many"] (sp_ulaw_next K t) := by
  refine T.F_ulaw_next.okX sc_ulaw_next (len_ulaw_next) (fun cdv A outer s H vs Q E hr h => ?_)
  have nd := sc_ulaw_next.nd
  refine ⟨_, (pss_cons (ps_asg (pe_op (op_addUK K) (pe_ix (ix_UK K) (pv 1) (pe_int) (fun _ _ => rfl)) (pe_int)) (pg_sub (pv 1) (pe_int) set_U))
    (pss_one (ps_ret (pe_op op_modP (pe_callTy call_int1D (by rfl) T.n_int (by decide +kernel) (pa_cons (pe_ix (ix_UK K) (pv 0) (pe_op op_modP (pe_callTy call_int1D (by rfl) T.n_int (by decide +kernel) (pa_cons (pe_op op_sub (pe_ix (ix_UK K) (pv 1) (pe_int) (fun _ _ => rfl)) (pe_int)) pa_nil)) (pe_callB (call_lenK K) (by rfl) T.n_len (by decide +kernel) (pa_cons (pv 0) pa_nil))) (fun _ _ => rfl)) pa_nil)) (pv 2))))), ?_⟩
  obtain ⟨c, a, m, rfl, ⟨⟨xs, h1, h2⟩, h3⟩, hm, k⟩ := h
  walk_at "rd"
  refine rIxU_c h3 fun n => ?_
  walk_at "rd"
  refine setC_i h3 ?_
  walk_at "rd"
  refine rIxU_c h3 fun n => ?_
  walk_at "rd"
  have hl : (0 : Int) < ((xs.map V.int).length : Nat) := by rw [List.length_map]; omega
  refine rModP_i hl ?_
  walk_at "rd"
  have b0 := Int.emod_nonneg (n - 1) (show (((xs.map V.int).length : Nat) : Int) ≠ 0 by omega)
  have b1 := Int.emod_lt_of_pos (n - 1) hl
  rw [List.length_map] at b0 b1 ⊢
  have hget : (xs.map V.int)[((n - 1) % (xs.length : Nat)).toNat]? = some (.int (xs[((n - 1) % (xs.length : Nat)).toNat]'(by omega))) := by
    rw [List.getElem?_map, List.getElem?_eq_getElem]; rfl
  refine rIxU_l h1 (at_of (by omega) hget) ?_
  walk_at "rd"
  exact k _ (Int.emod_nonneg _ (by omega)) (Int.emod_lt_of_pos _ hm)
def sp_ulaw_pick (K : PySem.W.Frag) (t : Tab) : Sp := fun vs H Q E => ∃ (c a r : Addr) (L : List Int), vs = [.ref c, .ref a, .ref r] ∧ Draw K H c a ∧ SqL K H r (L.map V.int) ∧ 0 < L.length ∧ ∀ x, x ∈ L → Q (.int x) H
theorem len_ulaw_pick : ∀ vs H Q E, sp_ulaw_pick K t vs H Q E → vs.length = (["cells", "at", "row"] : List Str).length := by
  rintro vs H Q E ⟨_, _, _, _, rfl, _⟩
  rfl
theorem ok_ulaw_pick (T : Txt K mg t) : FnOk P w K mg base (L2.CX P w) 2 t.a_ulaw_pick t.fd_ulaw_pick ["cells", "at", "row"] (sp_ulaw_pick K t) := by
  have G_ulaw_next := ok_ulaw_next (P := P) (w := w) (base := base) T
  refine T.F_ulaw_pick.okX sc_ulaw_pick (len_ulaw_pick) (fun cdv A outer s H vs Q E hr h => ?_)
  have nd := sc_ulaw_pick.nd
  refine ⟨_, (pss_one (ps_ret (pe_ix (ix_UK K) (pv 2) (pe_callS G_ulaw_next (hr.mono (by decide)) (by rfl) T.g_ulaw_next T.F_ulaw_next.kp T.b_ulaw_next (fun σ => passAt (takes_of rfl rfl rfl rfl) σ) (pa_cons (pv 0) (pa_cons (pv 1) (pa_cons (pe_callB (call_lenK K) (by rfl) T.n_len (by decide +kernel) (pa_cons (pv 2) pa_nil)) pa_nil)))) (fun _ _ => rfl)))), ?_⟩
  obtain ⟨c, a, r, L, rfl, hD, hS, hl, k⟩ := h
  walk_at "rd"
  refine ⟨c, a, _, rfl, hD, by rw [List.length_map]; omega, fun n n0 n1 => ?_⟩
  rw [List.length_map] at n1
  refine rIxU_l hS (at_int (n := n.toNat) (by omega) (List.getElem?_eq_getElem (by omega))) ?_
  walk_at "rd"
  exact k _ (List.getElem_mem _)
def sp_ulaw_is_number (K : PySem.W.Frag) (t : Tab) : Sp := fun vs H Q E => ∃ i : Int, vs = [.int i] ∧ Q (.bl true) H
theorem len_ulaw_is_number : ∀ vs H Q E, sp_ulaw_is_number K t vs H Q E → vs.length = (["told"] : List Str).length := by
  rintro vs H Q E ⟨_, rfl, _⟩
  rfl
theorem ok_ulaw_is_number (T : Txt K mg t) : FnOk P w K mg base (L2.CX P w) 1 t.a_ulaw_is_number t.fd_ulaw_is_number ["told"] (sp_ulaw_is_number K t) := by
  refine T.F_ulaw_is_number.okX sc_ulaw_is_number (len_ulaw_is_number) (fun cdv A outer s H vs Q E hr h => ?_)
  have nd := sc_ulaw_is_number.nd
  refine ⟨_, (pss_one (ps_ret (pe_and (pe_callB (call_isiUK K) (by rfl) T.n_isinstance (by decide +kernel) (pa_cons (pv 0) (pa_cons (pe_bltn (v := .ty "int") (by rfl) T.n_int (by decide +kernel) rfl) pa_nil))) (pe_one (pe_not (pe_callB (call_isiUK K) (by rfl) T.n_isinstance (by decide +kernel) (pa_cons (pv 0) (pa_cons (pe_bltn (v := .ty "bool") (by rfl) T.n_bool (by decide +kernel) rfl) pa_nil)))))))), ?_⟩
  obtain ⟨i, rfl, k⟩ := h
  walk_at "rd"
  refine isi_int_int ?_
  walk_at "rd"
  refine isi_int_bool ?_
  walk_at "rd"
  exact k
def sp_ulaw_odd_primes (K : PySem.W.Frag) (t : Tab) : Sp := fun vs H Q E => vs = [.int 997] ∧ ∀ H' p, Same H H' → H p = none → H' p = some (.lst ((primesTo 997).map V.int)) → Q (.ref p) H'
theorem len_ulaw_odd_primes : ∀ vs H Q E, sp_ulaw_odd_primes K t vs H Q E → vs.length = (["most"] : List Str).length := by
  rintro vs H Q E ⟨rfl, _⟩
  rfl
theorem ok_ulaw_odd_primes (T : Txt K mg t) : FnOk P w K mg base (L2.CX P w) 1 t.a_ulaw_odd_primes t.fd_ulaw_odd_primes ["most"] (sp_ulaw_odd_primes K t) := by
  refine T.F_ulaw_odd_primes.okX sc_ulaw_odd_primes (len_ulaw_odd_primes) (fun cdv A outer s H vs Q E hr h => ?_)
  have nd := sc_ulaw_odd_primes.nd
  refine ⟨_, (pss_cons (ps_set (i := 1) nd rfl (Or.inl rfl) (pe_lst pa_nil))
    (pss_cons (ps_for (passes_of rfl) rfl (pi_range2 (by rfl) T.n_range (pa_cons (pe_int) (pa_cons (pe_op (op_addUK K) (pv 0) (pe_int)) pa_nil))) (pg_name (i := 2) nd rfl (Or.inl rfl))
    (pss_cons (ps_set (i := 3) nd rfl (Or.inl rfl) (pe_cmpR (op_eqUK K hr) (pe_op op_modP (pv 2) (pe_int)) (pe_int) (by first | exact nomark _ | rfl)))
    (pss_cons (ps_for (passes_of rfl) rfl (pi_UK K (pv 1)) (pg_name (i := 4) nd rfl (Or.inl rfl))
    (pss_cons (ps_if (pt_cmpR op_gt (pe_op op_mulU (pv 4) (pv 4)) (pv 2) (by first | exact nomark _ | rfl)) (pss_one (ps_break)) pss_nil)
    (pss_one (ps_if (pt_cmpR (op_eqUK K hr) (pe_op op_modP (pv 2) (pv 4)) (pe_int) (by first | exact nomark _ | rfl)) (pss_one (ps_set (i := 3) nd rfl (Or.inl rfl) (pe_bl))) pss_nil))))
    (pss_one (ps_if (pt_truthK K (pv 3)) (pss_one (ps_expr (pe_bmK K PySem.F.plainAttrs_list PySem.F.slot_list_append PySem.F.type_list_append mt_append (pv 1) (pa_cons (pv 2) pa_nil)))) pss_nil)))))
    (pss_one (ps_ret (pv 1))))), ?_⟩
  obtain ⟨rfl, k⟩ := h
  refine tSeq_i (tAsg_i (tLst_i (tNil_i (new_i (by walk_at "side") fun f H1 nf s1 hf => ?_))))
  walk_at "rd"
  refine tFor_i (w2 ?_)
  walk_at "rd"
  refine W2_i (by omega) ?_
  refine forS srcR (fun i σ H' => ∃ v2 v3 v4 : Option V, σ = [some (.int 997), some (.ref f), v2, v3, v4] ∧ Same H H' ∧ H' f = some (.lst ((primesTo (2 + (i : Nat))).map V.int))) ⟨none, none, none, rfl, s1, hf⟩ (fun _ _ _ _ _ => trivial) ?_ ?_
  · rintro i σ H2 x H3 hi ⟨v2, v3, v4, rfl, s2, e2⟩ ⟨rfl, rfl⟩
    have hi' : i < 995 := hi
    have hpl := primes_len (2 + (i : Int))
    have e3 : (3 + (i : Int)) - 1 = 2 + (i : Nat) := by omega
    walk_at "rd"
    refine tFor_i (wL ?_)
    walk_at "rd"
    refine WL_i ((primesTo (2 + (i : Nat))).map V.int) (SqL.of e2) ?_
    refine forS (srcL (xs := (primesTo (2 + (i : Nat))).map V.int)) (fun j σ H' => ∃ v4 : Option V, σ = [some (.int 997), some (.ref f), some (.int (3 + i)), some (.bl (decide ((3 + (i : Int)) % 2 = 1) && ((primesTo (2 + (i : Nat))).take j).all fun q => decide ((3 + (i : Int)) % q ≠ 0))), v4] ∧ H' = H3 ∧ ∀ q, q ∈ (primesTo (2 + (i : Nat))).take j → q * q ≤ 3 + (i : Int)) ⟨_, by simp; rfl, rfl, by simp⟩ (fun i σ H' _ ⟨_, _, z, _⟩ => by rw [z]; exact SqL.of e2) ?_ ?_
    · rintro j σ H4 x H5 hj ⟨v4, rfl, rfl, hb⟩ ⟨rfl, hx⟩
      rw [List.getElem?_map, Option.map_eq_some_iff] at hx
      obtain ⟨q, hq, rfl⟩ := hx
      have hq1 := mem_primes.mp (List.mem_of_getElem? hq)
      have q3 := (isP_nat hq1.1).2
      have ht : (primesTo (2 + (i : Nat))).take (j + 1) = (primesTo (2 + (i : Nat))).take j ++ [q] := by
        rw [List.take_add_one, hq]
        rfl
      walk_at "rd"
      refine Br_d (fun cb => ?_) (fun cb => ?_)
      · -- the rest of the primes is too large
        walk_at "rd"
        have hs : isP (3 + (i : Int)) = (decide ((3 + (i : Int)) % 2 = 1) && ((primesTo (2 + (i : Nat))).take j).all fun q => decide ((3 + (i : Int)) % q ≠ 0)) := by
          have hz := sieve (n := 3 + (i : Int)) (j := j) (by omega) (fun m r hm hr => by
            rw [e3] at hr
            have hle : q ≤ r := by
              rcases Nat.lt_or_ge j m with z | z
              · have h1 := primes_up (2 + (i : Int))
                obtain ⟨w1, hw1⟩ := List.getElem?_eq_some_iff.mp hq
                obtain ⟨w2, hw2⟩ := List.getElem?_eq_some_iff.mp hr
                have := List.pairwise_iff_getElem.mp h1 j m w1 w2 z
                omega
              · have : m = j := by omega
                subst this
                rw [hq] at hr
                cases hr
                omega
            have : q * q ≤ r * r := Int.mul_le_mul hle hle (by omega) (by omega)
            omega)
          rw [e3] at hz
          exact hz
        rw [← hs]
        walk_at "rd"
        refine Br_b (fun cg => ?_) (fun cg => ?_)
        · walk_at "rd"
          refine append_ints e2 (by omega) fun H6 ch e6 s6 => ?_
          refine ⟨_, _, _, rfl, s6 _ s2 nf, ?_⟩
          rw [primes_succ, if_pos cg]
          exact e6
        · refine ⟨_, _, _, rfl, s2, ?_⟩
          rw [primes_succ, if_neg (by rw [cg]; simp), List.append_nil]
          exact e2
      · walk_at "rd"
        refine Br_d (fun cm => ?_) (fun cm => ?_)
        · walk_at "rd"
          refine ⟨some (.int q), ?_, rfl, ?_⟩
          · rw [ht, List.all_append]
            simp [cm]
          · rw [ht]
            intro r hr
            rcases List.mem_append.mp hr with z | z
            · exact hb r z
            · rw [List.mem_singleton.mp z]
              omega
        · walk_at "rd"
          refine ⟨some (.int q), ?_, rfl, ?_⟩
          · rw [ht, List.all_append]
            simp [cm]
          · rw [ht]
            intro r hr
            rcases List.mem_append.mp hr with z | z
            · exact hb r z
            · rw [List.mem_singleton.mp z]
              omega
    · rintro σ H4 ⟨v4, rfl, rfl, hb⟩
      have hs : isP (3 + (i : Int)) = (decide ((3 + (i : Int)) % 2 = 1) && ((primesTo (2 + (i : Nat))).take (List.map V.int (primesTo (2 + (i : Nat)))).length).all fun q => decide ((3 + (i : Int)) % q ≠ 0)) := by
        have hz := sieve (n := 3 + (i : Int)) (j := (List.map V.int (primesTo (2 + (i : Nat)))).length) (by omega) (fun m r hm hr => by
          rw [e3] at hr
          rw [List.length_map] at hm
          obtain ⟨w, _⟩ := List.getElem?_eq_some_iff.mp hr
          omega)
        rw [e3] at hz
        exact hz
      rw [← hs]
      walk_at "rd"
      refine Br_b (fun cg => ?_) (fun cg => ?_)
      · walk_at "rd"
        refine append_ints e2 (by omega) fun H6 ch e6 s6 => ?_
        refine ⟨_, _, _, rfl, s6 _ s2 nf, ?_⟩
        rw [primes_succ, if_pos cg]
        exact e6
      · refine ⟨_, _, _, rfl, s2, ?_⟩
        rw [primes_succ, if_neg (by rw [cg]; simp), List.append_nil]
        exact e2
  · rintro σ H2 ⟨v2, v3, v4, rfl, s2, e2⟩
    walk_at "rd"
    exact k _ _ s2 nf e2
def sp_ulaw_no_prime (K : PySem.W.Frag) (t : Tab) : Sp := fun vs H Q E => ∃ c a : Addr, vs = [.ref c, .ref a] ∧ Draw K H c a ∧ ∀ H' q, Same H H' → ¬ (0 ≤ q ∧ q ≤ 997 ∧ isP q = true) → Q (.int q) H'
theorem len_ulaw_no_prime : ∀ vs H Q E, sp_ulaw_no_prime K t vs H Q E → vs.length = (["cells", "at"] : List Str).length := by
  rintro vs H Q E ⟨_, _, rfl, _⟩
  rfl
theorem ok_ulaw_no_prime (T : Txt K mg t) : FnOk P w K mg base (L2.CX P w) 3 t.a_ulaw_no_prime t.fd_ulaw_no_prime ["cells", "at"] (sp_ulaw_no_prime K t) := by
  have G_ulaw_next := ok_ulaw_next (P := P) (w := w) (base := base) T
  have G_ulaw_pick := ok_ulaw_pick (P := P) (w := w) (base := base) T
  refine T.F_ulaw_no_prime.okX sc_ulaw_no_prime (len_ulaw_no_prime) (fun cdv A outer s H vs Q E hr h => ?_)
  have nd := sc_ulaw_no_prime.nd
  refine ⟨_, (pss_cons (ps_set (i := 2) nd rfl (Or.inl rfl) (pe_callS G_ulaw_next (hr.mono (by decide)) (by rfl) T.g_ulaw_next T.F_ulaw_next.kp T.b_ulaw_next (fun σ => passAt (takes_of rfl rfl rfl rfl) σ) (pa_cons (pv 0) (pa_cons (pv 1) (pa_cons (pe_int) pa_nil)))))
    (pss_cons (ps_if (pt_cmpR (op_eqUK K hr) (pv 2) (pe_int) (by first | exact nomark _ | rfl)) (pss_cons (ps_set (i := 3) nd rfl (Or.inl rfl) (pe_lst (pa_cons (pe_int) (pa_cons (pe_int) (pa_cons (pe_int) (pa_cons (pe_int) (pa_cons (pe_int) (pa_cons (pe_int) (pa_cons (pe_int) (pa_cons (pe_op op_pow (pe_int) (pe_int)) (pa_cons (pe_un un_neg (pe_int)) (pa_cons (pe_un un_neg (pe_int)) (pa_cons (pe_int) (pa_cons (pe_int) (pa_cons (pe_int) (pa_cons (pe_int) (pa_cons (pe_int) pa_nil)))))))))))))))))
    (pss_one (ps_ret (pe_callS G_ulaw_pick (hr.mono (by decide)) (by rfl) T.g_ulaw_pick T.F_ulaw_pick.kp T.b_ulaw_pick (fun σ => passAt (takes_of rfl rfl rfl rfl) σ) (pa_cons (pv 0) (pa_cons (pv 1) (pa_cons (pv 3) pa_nil))))))) pss_nil)
    (pss_cons (ps_if (pt_cmpR (op_eqUK K hr) (pv 2) (pe_int) (by first | exact nomark _ | rfl)) (pss_one (ps_ret (pe_op (op_addUK K) (pe_int) (pe_op op_mulU (pe_int) (pe_callS G_ulaw_next (hr.mono (by decide)) (by rfl) T.g_ulaw_next T.F_ulaw_next.kp T.b_ulaw_next (fun σ => passAt (takes_of rfl rfl rfl rfl) σ) (pa_cons (pv 0) (pa_cons (pv 1) (pa_cons (pe_int) pa_nil)))))))) pss_nil)
    (pss_cons (ps_if (pt_cmpR (op_eqUK K hr) (pv 2) (pe_int) (by first | exact nomark _ | rfl)) (pss_cons (ps_set (i := 4) nd rfl (Or.inl rfl) (pe_callS G_ulaw_pick (hr.mono (by decide)) (by rfl) T.g_ulaw_pick T.F_ulaw_pick.kp T.b_ulaw_pick (fun σ => passAt (takes_of rfl rfl rfl rfl) σ) (pa_cons (pv 0) (pa_cons (pv 1) (pa_cons (pe_lst (pa_cons (pe_int) (pa_cons (pe_int) (pa_cons (pe_int) (pa_cons (pe_int) (pa_cons (pe_int) (pa_cons (pe_int) (pa_cons (pe_int) (pa_cons (pe_int) (pa_cons (pe_int) (pa_cons (pe_int) pa_nil))))))))))) pa_nil)))))
    (pss_one (ps_ret (pe_op op_mulU (pv 4) (pe_op (op_addUK K) (pe_int) (pe_op op_mulU (pe_int) (pe_callS G_ulaw_next (hr.mono (by decide)) (by rfl) T.g_ulaw_next T.F_ulaw_next.kp T.b_ulaw_next (fun σ => passAt (takes_of rfl rfl rfl rfl) σ) (pa_cons (pv 0) (pa_cons (pv 1) (pa_cons (pe_int) pa_nil)))))))))) pss_nil)
    (pss_one (ps_ret (pe_op op_sub (pe_int) (pe_callS G_ulaw_next (hr.mono (by decide)) (by rfl) T.g_ulaw_next T.F_ulaw_next.kp T.b_ulaw_next (fun σ => passAt (takes_of rfl rfl rfl rfl) σ) (pa_cons (pv 0) (pa_cons (pv 1) (pa_cons (pe_int) pa_nil))))))))))), ?_⟩
  obtain ⟨c, a, rfl, hD, k⟩ := h
  walk_at "rd"
  refine ⟨c, a, 4, rfl, hD, by omega, fun n n0 n1 => ?_⟩
  walk_at "rd"
  refine Br_d (fun c1 => ?_) (fun c1 => ?_)
  · walk_at "rd"
    rename_i r H1 nr s1 er
    have hr : H1 r = some (.lst (plain15.map V.int)) := er
    refine ⟨c, a, r, plain15, rfl, s1.draw hD, SqL.of hr, by decide, fun x hx => ?_⟩
    walk_at "rd"
    exact k _ _ s1 (plain15_no x hx)
  · walk_at "rd"
    refine Br_d (fun c2 => ?_) (fun c2 => ?_)
    · walk_at "rd"
      refine ⟨c, a, 600, rfl, hD, by omega, fun m m0 m1 => ?_⟩
      walk_at "rd"
      refine k _ _ (Same.refl _) fun z => ?_
      rw [not_even (by omega)] at z
      cases z.2.2
    · walk_at "rd"
      refine Br_d (fun c3 => ?_) (fun c3 => ?_)
      · walk_at "rd"
        rename_i r H1 nr s1 er
        have hr : H1 r = some (.lst (part10.map V.int)) := er
        refine ⟨c, a, r, part10, rfl, s1.draw hD, SqL.of hr, by decide, fun x hx => ?_⟩
        have hx := part10_ok x hx
        walk_at "rd"
        refine ⟨c, a, 170, rfl, s1.draw hD, by omega, fun m m0 m1 => ?_⟩
        walk_at "rd"
        refine k _ _ s1 fun z => ?_
        rw [not_prod (by omega) (by omega)] at z
        cases z.2.2
      · walk_at "rd"
        refine ⟨c, a, 1000, rfl, hD, by omega, fun m m0 m1 => ?_⟩
        walk_at "rd"
        refine k _ _ (Same.refl _) fun z => ?_
        have := (isP_nat z.2.2).2
        omega
def sp_ulaw_is_pair (K : PySem.W.Frag) (t : Tab) : Sp := fun vs H Q E => ∃ (l m : Addr) (x : Int × Int), vs = [.ref l, .ref m] ∧ PairT K H l x ∧ PairT K H m x ∧ Q (.bl true) H
theorem len_ulaw_is_pair : ∀ vs H Q E, sp_ulaw_is_pair K t vs H Q E → vs.length = (["told", "due"] : List Str).length := by
  rintro vs H Q E ⟨_, _, _, rfl, _⟩
  rfl
theorem ok_ulaw_is_pair (T : Txt K mg t) : FnOk P w K mg base (L2.CX P w) 2 t.a_ulaw_is_pair t.fd_ulaw_is_pair ["told", "due"] (sp_ulaw_is_pair K t) := by
  have G_ulaw_is_number := ok_ulaw_is_number (P := P) (w := w) (base := base) T
  refine T.F_ulaw_is_pair.okX sc_ulaw_is_pair (len_ulaw_is_pair) (fun cdv A outer s H vs Q E hr h => ?_)
  have nd := sc_ulaw_is_pair.nd
  refine ⟨_, (pss_cons (ps_if (PW.pt (pw_or (pt_not (pt_truthK K (pe_callB (call_isiUK K) (by rfl) T.n_isinstance (by decide +kernel) (pa_cons (pv 0) (pa_cons (pe_bltn (v := .ty "tuple") (by rfl) T.n_tuple (by decide +kernel) rfl) pa_nil))))) (pw_or1 (pt_cmpR (op_neUK K hr) (pe_callB (call_lenK K) (by rfl) T.n_len (by decide +kernel) (pa_cons (pv 0) pa_nil)) (pe_int) (by first | exact nomark _ | rfl))))) (pss_one (ps_ret (pe_bl))) pss_nil)
    (pss_cons (ps_if (PW.pt (pw_or (pt_not (pt_truthK K (pe_callS G_ulaw_is_number (hr.mono (by decide)) (by rfl) T.g_ulaw_is_number T.F_ulaw_is_number.kp T.b_ulaw_is_number (fun σ => passAt (takes_of rfl rfl rfl rfl) σ) (pa_cons (pe_ix (ix_UK K) (pv 0) (pe_int) (fun _ _ => rfl)) pa_nil)))) (pw_or1 (pt_not (pt_truthK K (pe_callS G_ulaw_is_number (hr.mono (by decide)) (by rfl) T.g_ulaw_is_number T.F_ulaw_is_number.kp T.b_ulaw_is_number (fun σ => passAt (takes_of rfl rfl rfl rfl) σ) (pa_cons (pe_ix (ix_UK K) (pv 0) (pe_int) (fun _ _ => rfl)) pa_nil))))))) (pss_one (ps_ret (pe_bl))) pss_nil)
    (pss_one (ps_ret (pe_and (pe_cmpR (op_eqUK K hr) (pe_ix (ix_UK K) (pv 0) (pe_int) (fun _ _ => rfl)) (pe_ix (ix_UK K) (pv 1) (pe_int) (fun _ _ => rfl)) (by first | exact nomark _ | rfl)) (pe_one (pe_cmpR (op_eqUK K hr) (pe_ix (ix_UK K) (pv 0) (pe_int) (fun _ _ => rfl)) (pe_ix (ix_UK K) (pv 1) (pe_int) (fun _ _ => rfl)) (by first | exact nomark _ | rfl)))))))), ?_⟩
  obtain ⟨l, m, x, rfl, hl, hm, k⟩ := h
  unfold PairT at hl hm
  walk_at "rd"
  refine isi_tupS hl ?_
  walk_at "rd"
  refine Br_dt rfl ?_
  walk_at "rd"
  refine ⟨_, rfl, ?_⟩
  walk_at "rd"
  refine ⟨_, rfl, ?_⟩
  walk_at "rd"
  refine Br_dt rfl ?_
  walk_at "rd"
  rw [decide_eq_true rfl]
  exact k
def sp_ulaw_nonsquare (K : PySem.W.Frag) (t : Tab) : Sp := fun vs H Q E => ∃ (p : Int), vs = [.int p] ∧ isP p = true ∧ p ≤ 997 ∧ ∀ H', Same H H' → Q (.int (lns p)) H'
theorem len_ulaw_nonsquare : ∀ vs H Q E, sp_ulaw_nonsquare K t vs H Q E → vs.length = (["p"] : List Str).length := by
  rintro vs H Q E ⟨_, rfl, _⟩
  rfl
theorem ok_ulaw_nonsquare (T : Txt K mg t) : FnOk P w K mg base (L2.CX P w) 1 t.a_ulaw_nonsquare t.fd_ulaw_nonsquare ["p"] (sp_ulaw_nonsquare K t) := by
  refine T.F_ulaw_nonsquare.okX sc_ulaw_nonsquare (len_ulaw_nonsquare) (fun cdv A outer s H vs Q E hr h => ?_)
  have nd := sc_ulaw_nonsquare.nd
  refine ⟨_, (pss_cons (ps_setLc (i := 1) (own := [("y", 3)]) (g := gName 3) (tt := tYes) rfl nd rfl rfl (sw_true rfl rfl rfl (by decide +kernel)) (pi_range1 (by rfl) T.n_range (pa_cons (pv 0) pa_nil)) (blkOk_by (N := ["p", "squares", "x", "y"]) (sc := defScope s_ulaw_nonsquare) (by decide +kernel)) (fun _ _ _ _ _ => (pg_name (i := 3) nd rfl (Or.inl rfl))) (fun _ _ _ _ _ => pts_nil) (fun _ _ _ _ _ => (pe_op op_modP (pe_callTy call_int1D (by rfl) T.n_int (by decide +kernel) (pa_cons (pe_op op_mulU (pv 3) (pv 3)) pa_nil)) (pv 0))))
    (pss_cons (ps_for (passes_of rfl) rfl (pi_range1 (by rfl) T.n_range (pa_cons (pv 0) pa_nil)) (pg_name (i := 2) nd rfl (Or.inl rfl))
    (pss_one (ps_if (pt_cmpR (op_notInU K w hr) (pv 2) (pv 1) (by first | exact nomark _ | rfl)) (pss_one (ps_ret (pv 2))) pss_nil)))
    (pss_one (ps_ret (pe_int))))), ?_⟩
  obtain ⟨p, rfl, hp, h9, k⟩ := h
  have hp3 := (isP_nat hp).2
  obtain ⟨l1, l2, l3, l4⟩ := lns_spec hp
  walk_at "rd"
  refine tLc_i (w1 ?_)
  walk_at "rd"
  refine W1_i (by omega) ?_
  refine lcS srcR (fun i _ acc => acc = ((List.range i).map fun (y : Nat) => (y : Int) * y % p).map V.int) (fun _ _ => trivial) rfl ?_ ?_
  · rintro D i acc H5 z H6 hi nD s5 eD rfl ⟨rfl, rfl⟩
    have hi' : i < p.toNat := hi
    have ez : (0 : Int) + (i : Nat) = (i : Nat) := by omega
    walk_at "rd"
    rw [ez]
    refine lcY nD s5 eD (Nat.lt_of_lt_of_le (by rw [List.length_map, List.length_map, List.length_range]; omega : _ < 1000) (Nat.le_of_ble_eq_true rfl)) ?_
    rw [List.range_succ, List.map_append, List.map_append]
    rfl
  rintro sq acc H5 nsq s5 esq rfl
  have esq : H5 sq = some (.lst ((sqL p).map V.int)) := esq
  walk_at "rd"
  refine tFor_i (w1 ?_)
  walk_at "rd"
  refine W1_i (by omega) ?_
  refine forS srcR (fun i σ H' => ∃ v : Option V, σ = [some (.int p), some (.ref sq), v, none] ∧ H5 = H' ∧ ∀ j : Nat, j < i → isSq p j = true) ⟨none, rfl, rfl, fun j hj => by omega⟩ (fun _ _ _ _ _ => trivial) ?_ ?_
  · rintro i σ _ z _ hi ⟨v, rfl, rfl, hb⟩ ⟨rfl, rfl⟩
    have hi' : i < p.toNat := hi
    have ez : (0 : Int) + (i : Nat) = (i : Nat) := by omega
    walk_at "rd"
    rw [ez]
    refine notInI_l (SqL.of esq) ?_
    walk_at "rd"
    refine Br_d (fun c => ?_) (fun c => ?_)
    · walk_at "rd"
      have e := lns_find hp
      rw [find_at hi' (by unfold isSq; rw [decide_eq_false c]; rfl) (fun j hj => by rw [hb j hj]; rfl)] at e
      have e2 := Option.some.inj e
      have e3 : lns p = (i : Nat) := by omega
      rw [e3] at k
      exact k _ s5
    · refine ⟨_, rfl, rfl, fun j hj => ?_⟩
      rcases Nat.lt_or_ge j i with z | z
      · exact hb j z
      · have : j = i := by omega
        subst this
        exact decide_eq_true (Classical.not_not.mp c)
  · rintro σ _ ⟨v, rfl, rfl, hb⟩
    have := hb (lns p).toNat (by omega)
    rw [Int.toNat_of_nonneg (by omega), l3] at this
    cases this
def sp_ulaw_residue (K : PySem.W.Frag) (t : Tab) : Sp := fun vs H Q E => ∃ (c a : Addr) (p : Int), vs = [.ref c, .ref a, .int p] ∧ Draw K H c a ∧ 0 < p ∧ ∀ n, 0 ≤ n → n < p → Q (.int n) H
theorem len_ulaw_residue : ∀ vs H Q E, sp_ulaw_residue K t vs H Q E → vs.length = (["cells", "at", "prime"] : List Str).length := by
  rintro vs H Q E ⟨_, _, _, rfl, _⟩
  rfl
theorem ok_ulaw_residue (T : Txt K mg t) : FnOk P w K mg base (L2.CX P w) 2 t.a_ulaw_residue t.fd_ulaw_residue ["cells", "at", "prime"] (sp_ulaw_residue K t) := by
  have G_ulaw_next := ok_ulaw_next (P := P) (w := w) (base := base) T
  refine T.F_ulaw_residue.okX sc_ulaw_residue (len_ulaw_residue) (fun cdv A outer s H vs Q E hr h => ?_)
  have nd := sc_ulaw_residue.nd
  refine ⟨_, (pss_cons (ps_if (pt_cmpR (op_eqUK K hr) (pe_callS G_ulaw_next (hr.mono (by decide)) (by rfl) T.g_ulaw_next T.F_ulaw_next.kp T.b_ulaw_next (fun σ => passAt (takes_of rfl rfl rfl rfl) σ) (pa_cons (pv 0) (pa_cons (pv 1) (pa_cons (pe_int) pa_nil)))) (pe_int) (by first | exact nomark _ | rfl)) (pss_one (ps_ret (pe_int))) pss_nil)
    (pss_one (ps_ret (pe_callS G_ulaw_next (hr.mono (by decide)) (by rfl) T.g_ulaw_next T.F_ulaw_next.kp T.b_ulaw_next (fun σ => passAt (takes_of rfl rfl rfl rfl) σ) (pa_cons (pv 0) (pa_cons (pv 1) (pa_cons (pv 2) pa_nil))))))), ?_⟩
  obtain ⟨c, a, p, rfl, hD, hp, k⟩ := h
  walk_at "rd"
  refine ⟨c, a, 4, rfl, hD, by omega, fun n n0 n1 => ?_⟩
  walk_at "rd"
  refine Br_d (fun _ => ?_) (fun _ => ?_)
  · walk_at "rd"
    exact k _ (by omega) hp
  · walk_at "rd"
    refine ⟨c, a, p, rfl, hD, hp, fun m m0 m1 => ?_⟩
    exact k _ m0 m1
def sp_ulaw_times (K : PySem.W.Frag) (t : Tab) : Sp := fun vs H Q E => ∃ (p u : Int) (x y : Int × Int) (l m : Addr), vs = [.int p, .int u, .ref l, .ref m] ∧ PairT K H l x ∧ PairT K H m y ∧ 0 < p ∧ p ≤ 997 ∧ TwOk p x ∧ TwOk p y ∧ ∀ H' q, Same H H' → H' q = some (.tup [.int (mu p u x y).1, .int (mu p u x y).2]) → Q (.ref q) H'
theorem len_ulaw_times : ∀ vs H Q E, sp_ulaw_times K t vs H Q E → vs.length = (["p", "u", "one", "two"] : List Str).length := by
  rintro vs H Q E ⟨_, _, _, _, _, _, rfl, _⟩
  rfl
theorem ok_ulaw_times (T : Txt K mg t) : FnOk P w K mg base (L2.CX P w) 1 t.a_ulaw_times t.fd_ulaw_times ["p", "u", "one", "two"] (sp_ulaw_times K t) := by
  refine T.F_ulaw_times.okX sc_ulaw_times (len_ulaw_times) (fun cdv A outer s H vs Q E hr h => ?_)
  have nd := sc_ulaw_times.nd
  refine ⟨_, (pss_cons (ps_set (i := 4) nd rfl (Or.inl rfl) (pe_op op_modP (pe_callTy call_int1D (by rfl) T.n_int (by decide +kernel) (pa_cons (pe_op (op_addUK K) (pe_op op_mulU (pe_ix (ix_UK K) (pv 2) (pe_int) (fun _ _ => rfl)) (pe_ix (ix_UK K) (pv 3) (pe_int) (fun _ _ => rfl))) (pe_op op_mulU (pe_op op_mulU (pv 1) (pe_ix (ix_UK K) (pv 2) (pe_int) (fun _ _ => rfl))) (pe_ix (ix_UK K) (pv 3) (pe_int) (fun _ _ => rfl)))) pa_nil)) (pv 0)))
    (pss_one (ps_ret (pe_tup (pa_cons (pv 4) (pa_cons (pe_op op_modP (pe_callTy call_int1D (by rfl) T.n_int (by decide +kernel) (pa_cons (pe_op (op_addUK K) (pe_op op_mulU (pe_ix (ix_UK K) (pv 2) (pe_int) (fun _ _ => rfl)) (pe_ix (ix_UK K) (pv 3) (pe_int) (fun _ _ => rfl))) (pe_op op_mulU (pe_ix (ix_UK K) (pv 2) (pe_int) (fun _ _ => rfl)) (pe_ix (ix_UK K) (pv 3) (pe_int) (fun _ _ => rfl)))) pa_nil)) (pv 0)) pa_nil)))))), ?_⟩
  obtain ⟨p, u, x, y, l, m, rfl, hx, hy, hp0, hp9, ox, oy, k⟩ := h
  unfold PairT at hx hy
  obtain ⟨⟨x1, x2⟩, ⟨x3, x4⟩⟩ := ox
  obtain ⟨⟨y1, y2⟩, ⟨y3, y4⟩⟩ := oy
  walk_at "rd"
  rename_i q H1 nq s1 e1
  exact k _ _ s1 e1
def sp_ulaw_norm (K : PySem.W.Frag) (t : Tab) : Sp := fun vs H Q E => ∃ (p u : Int) (x : Int × Int) (l : Addr), vs = [.int p, .int u, .ref l] ∧ PairT K H l x ∧ 0 < p ∧ p ≤ 997 ∧ TwOk p x ∧ Q (.int (nm p u x)) H
theorem len_ulaw_norm : ∀ vs H Q E, sp_ulaw_norm K t vs H Q E → vs.length = (["p", "u", "one"] : List Str).length := by
  rintro vs H Q E ⟨_, _, _, _, rfl, _⟩
  rfl
theorem ok_ulaw_norm (T : Txt K mg t) : FnOk P w K mg base (L2.CX P w) 1 t.a_ulaw_norm t.fd_ulaw_norm ["p", "u", "one"] (sp_ulaw_norm K t) := by
  refine T.F_ulaw_norm.okX sc_ulaw_norm (len_ulaw_norm) (fun cdv A outer s H vs Q E hr h => ?_)
  have nd := sc_ulaw_norm.nd
  refine ⟨_, (pss_one (ps_ret (pe_op op_modP (pe_callTy call_int1D (by rfl) T.n_int (by decide +kernel) (pa_cons (pe_op op_sub (pe_op op_mulU (pe_ix (ix_UK K) (pv 2) (pe_int) (fun _ _ => rfl)) (pe_ix (ix_UK K) (pv 2) (pe_int) (fun _ _ => rfl))) (pe_op op_mulU (pe_op op_mulU (pv 1) (pe_ix (ix_UK K) (pv 2) (pe_int) (fun _ _ => rfl))) (pe_ix (ix_UK K) (pv 2) (pe_int) (fun _ _ => rfl)))) pa_nil)) (pv 0)))), ?_⟩
  obtain ⟨p, u, x, l, rfl, hx, hp0, hp9, ox, k⟩ := h
  unfold PairT at hx
  obtain ⟨⟨x1, x2⟩, ⟨x3, x4⟩⟩ := ox
  walk_at "rd"
  exact k
def sp_ulaw_powered (K : PySem.W.Frag) (t : Tab) : Sp := fun vs H Q E => ∃ (p u : Int) (x : Int × Int) (e : Int) (l : Addr), vs = [.int p, .int u, .ref l, .int e] ∧ PairT K H l x ∧ 3 ≤ p ∧ p ≤ 997 ∧ TwOk p x ∧ 0 ≤ e ∧ e ≤ 10000 ∧ ∀ H' q, Same H H' → H' q = some (.tup [.int (pg p u x e).1, .int (pg p u x e).2]) → Q (.ref q) H'
theorem len_ulaw_powered : ∀ vs H Q E, sp_ulaw_powered K t vs H Q E → vs.length = (["p", "u", "one", "exponent"] : List Str).length := by
  rintro vs H Q E ⟨_, _, _, _, _, rfl, _⟩
  rfl
theorem ok_ulaw_powered (T : Txt K mg t) : FnOk P w K mg base (L2.CX P w) 2 t.a_ulaw_powered t.fd_ulaw_powered ["p", "u", "one", "exponent"] (sp_ulaw_powered K t) := by
  have G_ulaw_times := ok_ulaw_times (P := P) (w := w) (base := base) T
  refine T.F_ulaw_powered.okX sc_ulaw_powered (len_ulaw_powered) (fun cdv A outer s H vs Q E hr h => ?_)
  have nd := sc_ulaw_powered.nd
  refine ⟨_, (pss_cons (ps_set (i := 4) nd rfl (Or.inl rfl) (pe_tup (pa_cons (pe_int) (pa_cons (pe_int) pa_nil))))
    (pss_cons (ps_set (i := 5) nd rfl (Or.inl rfl) (pv 2))
    (pss_cons (ps_set (i := 6) nd rfl (Or.inl rfl) (pv 3))
    (pss_cons (ps_while (passes_of rfl) (pt_cmpR op_gt (pv 6) (pe_int) (by first | exact nomark _ | rfl)) (pss_cons (ps_if (pt_cmpR (op_eqUK K hr) (pe_op op_modP (pe_callTy call_int1D (by rfl) T.n_int (by decide +kernel) (pa_cons (pv 6) pa_nil)) (pe_int)) (pe_int) (by first | exact nomark _ | rfl)) (pss_one (ps_set (i := 4) nd rfl (Or.inl rfl) (pe_callS G_ulaw_times (hr.mono (by decide)) (by rfl) T.g_ulaw_times T.F_ulaw_times.kp T.b_ulaw_times (fun σ => passAt (takes_of rfl rfl rfl rfl) σ) (pa_cons (pv 0) (pa_cons (pv 1) (pa_cons (pv 4) (pa_cons (pv 5) pa_nil))))))) pss_nil)
    (pss_cons (ps_set (i := 5) nd rfl (Or.inl rfl) (pe_callS G_ulaw_times (hr.mono (by decide)) (by rfl) T.g_ulaw_times T.F_ulaw_times.kp T.b_ulaw_times (fun σ => passAt (takes_of rfl rfl rfl rfl) σ) (pa_cons (pv 0) (pa_cons (pv 1) (pa_cons (pv 5) (pa_cons (pv 5) pa_nil))))))
    (pss_one (ps_set (i := 6) nd rfl (Or.inl rfl) (pe_op op_fdivP (pv 6) (pe_int)))))))
    (pss_one (ps_ret (pv 4))))))), ?_⟩
  obtain ⟨p, u, x, e, l, rfl, hx, p3, p9, ox, e0, e1, k⟩ := h
  walk_at "rd"
  rename_i r0 H4 nr0 s4 er0
  refine while_w (fun m σ H' => ∃ (r s : Int × Int) (rq sq : Addr) (z : Int), σ = [some (.int p), some (.int u), some (.ref l), some (.int e), some (.ref rq), some (.ref sq), some (.int z)] ∧ H' rq = some (.tup [.int r.1, .int r.2]) ∧ PairT K H' sq s ∧ TwOk p r ∧ TwOk p s ∧ 0 ≤ z ∧ z.toNat ≤ m ∧ z ≤ 10000 ∧ pg p u x e = pgF p u m r s z ∧ Same H H') e.toNat ⟨(1, 0), x, r0, l, e, rfl, er0, hx.same s4, ⟨⟨by decide, by show (1 : Int) ≤ p - 1; omega⟩, ⟨by decide, by show (0 : Int) ≤ p - 1; omega⟩⟩, ox, by omega, by omega, by omega, rfl, s4⟩ ?_
  rintro m σ H5 ⟨r, s, rq, sq, z, rfl, hr, hs, okr, oks, z0, zm, z1, hv, s5⟩
  walk_at "rd"
  refine Br_d (fun cz => ?_) (fun cz => ?_)
  · refine turn_w ?_
    obtain ⟨m, rfl⟩ : ∃ m', m = m' + 1 := ⟨m - 1, by omega⟩
    rw [pgF, if_pos (by omega)] at hv
    walk_at "rd"
    refine Br_d (fun co => ?_) (fun co => ?_)
    · rw [if_pos co] at hv
      walk_at "rd"
      refine ⟨p, u, r, s, rq, sq, rfl, SqT.of hr, hs, by omega, p9, okr, oks, fun H6 q6 s6 e6 => ?_⟩
      walk_at "rd"
      refine ⟨p, u, s, s, sq, sq, rfl, hs.same s6, hs.same s6, by omega, p9, oks, oks, fun H7 q7 s7 e7 => ?_⟩
      walk_at "rd"
      exact ⟨m, by omega, _, _, _, _, _, rfl, s7 _ _ e6, SqT.of e7, mu_ok (by omega), mu_ok (by omega), by omega, by omega, by omega, hv, s5.trans (s6.trans s7)⟩
    · rw [if_neg co] at hv
      walk_at "rd"
      refine ⟨p, u, s, s, sq, sq, rfl, hs, hs, by omega, p9, oks, oks, fun H7 q7 s7 e7 => ?_⟩
      walk_at "rd"
      exact ⟨m, by omega, _, _, _, _, _, rfl, s7 _ _ hr, SqT.of e7, okr, mu_ok (by omega), by omega, by omega, by omega, hv, s5.trans s7⟩
  · rw [pgF_zero _ _ _ _ (by omega)] at hv
    walk_at "rd"
    rw [hv] at k
    exact k _ _ s5 hr
def sp_ulaw_ones (K : PySem.W.Frag) (t : Tab) : Sp := fun vs H Q E => ∃ p u : Int, vs = [.int p, .int u] ∧ 3 ≤ p ∧ p ≤ 997 ∧ 0 ≤ u ∧ u < p ∧ ∀ H' q vs, Same H H' → H q = none → H' q = some (.lst vs) → DpAll K H' vs ((onesL p u p.toNat).map pairD) → Q (.ref q) H'
theorem len_ulaw_ones : ∀ vs H Q E, sp_ulaw_ones K t vs H Q E → vs.length = (["p", "u"] : List Str).length := by
  rintro vs H Q E ⟨_, _, rfl, _⟩
  rfl
theorem ok_ulaw_ones (T : Txt K mg t) : FnOk P w K mg base (L2.CX P w) 1 t.a_ulaw_ones t.fd_ulaw_ones ["p", "u"] (sp_ulaw_ones K t) := by
  refine T.F_ulaw_ones.okX sc_ulaw_ones (len_ulaw_ones) (fun cdv A outer s H vs Q E hr h => ?_)
  have nd := sc_ulaw_ones.nd
  refine ⟨_, (pss_cons (ps_setLc (i := 2) (own := [("k", 7)]) (g := gName 7) (tt := tYes) rfl nd rfl rfl (sw_true rfl rfl rfl (by decide +kernel)) (pi_range1 (by rfl) T.n_range (pa_cons (pv 0) pa_nil)) (blkOk_by (N := ["p", "u", "found", "b", "row", "due", "a", "k"]) (sc := defScope s_ulaw_ones) (by decide +kernel)) (fun _ _ _ _ _ => (pg_name (i := 7) nd rfl (Or.inl rfl))) (fun _ _ _ _ _ => pts_nil) (fun _ _ _ _ _ => (pe_lst pa_nil)))
    (pss_cons (ps_for (passes_of rfl) rfl (pi_range1 (by rfl) T.n_range (pa_cons (pv 0) pa_nil)) (pg_name (i := 3) nd rfl (Or.inl rfl))
    (pss_cons (ps_set (i := 4) nd rfl (Or.inl rfl) (pe_ix (ix_UK K) (pv 2) (pe_op op_modP (pe_callTy call_int1D (by rfl) T.n_int (by decide +kernel) (pa_cons (pe_op op_mulU (pe_op op_mulU (pv 1) (pv 3)) (pv 3)) pa_nil)) (pv 0)) (fun _ _ => rfl)))
    (pss_one (ps_expr (pe_bmK K PySem.F.plainAttrs_list PySem.F.slot_list_append PySem.F.type_list_append mt_append (pv 4) (pa_cons (pv 3) pa_nil))))))
    (pss_cons (ps_set (i := 5) nd rfl (Or.inl rfl) (pe_lst pa_nil))
    (pss_cons (ps_for (passes_of rfl) rfl (pi_range1 (by rfl) T.n_range (pa_cons (pv 0) pa_nil)) (pg_name (i := 6) nd rfl (Or.inl rfl))
    (pss_one (ps_for (passes_of rfl) rfl (pi_UK K (pe_ix (ix_UK K) (pv 2) (pe_op op_modP (pe_callTy call_int1D (by rfl) T.n_int (by decide +kernel) (pa_cons (pe_op op_sub (pe_op op_mulU (pv 6) (pv 6)) (pe_int)) pa_nil)) (pv 0)) (fun _ _ => rfl))) (pg_name (i := 3) nd rfl (Or.inl rfl))
    (pss_one (ps_expr (pe_bmK K PySem.F.plainAttrs_list PySem.F.slot_list_append PySem.F.type_list_append mt_append (pv 5) (pa_cons (pe_tup (pa_cons (pv 6) (pa_cons (pv 3) pa_nil))) pa_nil)))))))
    (pss_one (ps_ret (pv 5))))))), ?_⟩
  obtain ⟨p, u, rfl, p3, p9, u0, u1, k⟩ := h
  walk_at "rd"
  refine tLc_i (w1 ?_)
  walk_at "rd"
  refine W1_i (by omega) ?_
  refine lcS srcR (fun i G acc => ∃ rs : List Addr, acc = rs.map V.ref ∧ rs.length = i ∧ rs.Nodup ∧ (∀ r, r ∈ rs → G r = some (.lst []) ∧ H r = none) ∧ Same H G) (fun _ _ => trivial) ⟨[], rfl, rfl, List.nodup_nil, by simp, Same.refl _⟩ ?_ ?_
  · rintro D i acc H2 z H3 hi nD s2 eD ⟨rs, rfl, hl, nd, hr, sG⟩ ⟨rfl, rfl⟩
    have hi' : i < p.toNat := hi
    walk_at "rd"
    rename_i r H4 nr s4 er
    have nd' : r ≠ D := fun z => by
      rw [z, eD] at nr
      cases nr
    refine lcY nD (s2.trans s4) (s4 _ _ eD) (Nat.lt_of_lt_of_le (by rw [List.length_map]; omega : _ < 1000) (Nat.le_of_ble_eq_true rfl)) ⟨rs ++ [r], by rw [List.map_append]; rfl, by rw [List.length_append, hl]; rfl, ?_, ?_, ?_⟩
    · refine List.nodup_append.mpr ⟨nd, by simp, fun a ha b hb z => ?_⟩
      rw [List.mem_singleton.mp hb] at z
      have := (hr a ha).1
      rw [z] at this
      have : (del _ D) r = some _ := this
      rw [del_ne nd', nr] at this
      cases this
    · intro r' h'
      rcases List.mem_append.mp h' with q | q
      · exact ⟨s4.del _ _ (hr r' q).1, (hr r' q).2⟩
      · rw [List.mem_singleton.mp q]
        exact ⟨del_at er nd', s2.free nr⟩
    · exact sG.trans s4.del
  · rintro B acc H2 nB s2 eB ⟨rs, rfl, hl, nd, hr, sG⟩
    have hl' : rs.length = p.toNat := hl
    have hB : B ∉ rs := fun z => by
      have := (hr B z).1
      rw [del_same] at this
      cases this
    have b0 : Bks H H2 p u 0 B rs := ⟨hl', nd, hB, eB, fun i r h => by
      have := (hr r (List.mem_of_getElem? h)).1
      exact Same.undel _ _ this, fun r hr' => (hr r hr').2, nB, s2⟩
    walk_at "rd"
    refine tFor_i (w1 ?_)
    walk_at "rd"
    refine W1_i (by omega) ?_
    refine forS srcR (fun i σ H' => ∃ v3 v4 : Option V, σ = [some (.int p), some (.int u), some (.ref B), v3, v4, none, none, none] ∧ Bks H H' p u i B rs) ⟨none, none, rfl, b0⟩ (fun _ _ _ _ _ => trivial) ?_ ?_
    · rintro i σ H3 z H4 hi ⟨v3, v4, rfl, b⟩ ⟨rfl, rfl⟩
      have hi' : i < p.toNat := hi
      have ez : (0 : Int) + (i : Nat) = (i : Nat) := by omega
      walk_at "rd"
      rw [ez]
      have m0 := Int.emod_nonneg (u * (i : Int) * (i : Int)) (show p ≠ 0 by omega)
      have m1 := Int.emod_lt_of_pos (u * (i : Int) * (i : Int)) (show 0 < p by omega)
      obtain ⟨j, hj⟩ : ∃ j : Nat, u * (i : Int) * (i : Int) % p = (j : Int) := ⟨(u * (i : Int) * (i : Int) % p).toNat, by omega⟩
      have hjl : j < rs.length := by rw [hl']; omega
      have hg : rs[j]? = some rs[j] := List.getElem?_eq_getElem hjl
      refine rIxU_l (SqL.of b.at_) (v := .ref rs[j]) (at_of (j := j) hj (by rw [List.getElem?_map, hg]; rfl)) ?_
      have hb := b.bkt j _ hg
      have hbl := bk_len (p := p) (u := u) (i := (j : Int)) (n := i)
      walk_at "rd"
      refine append_ints hb (by omega) fun H5 ch e5 s5 => ?_
      exact ⟨_, _, rfl, b.put hg hj ch e5 (s5 _ b.same (b.new _ (List.mem_of_getElem? hg)))⟩
    · rintro σ H3 ⟨v3, v4, rfl, b⟩
      walk_at "rd"
      rename_i D H4 nD s4 eD
      have nDH : H D = none := b.same.free nD
      refine tFor_i (w1 ?_)
      walk_at "rd"
      refine W1_i (by omega) ?_
      refine forS srcR (fun i σ H' => ∃ (v3 v6 : Option V) (vs : List V), σ = [some (.int p), some (.int u), some (.ref B), v3, v4, some (.ref D), v6, none] ∧ Same H H' ∧ Bks H (del H' D) p u p.toNat B rs ∧ H' D = some (.lst vs) ∧ vs.length ≤ i * 1000 ∧ DpAll K (del H' D) vs ((onesL p u i).map pairD)) ⟨v3, none, [], rfl, b.same.trans s4, b.later (s4.todel nD), eD, by simp, .nil⟩ (fun _ _ _ _ _ => trivial) ?_ ?_
      · rintro i σ H5 z H6 hi ⟨v3, v6, vs, rfl, s5, b5, e5, hlen, hA⟩ ⟨rfl, rfl⟩
        have hi' : i < p.toNat := hi
        have ez : (0 : Int) + (i : Nat) = (i : Nat) := by omega
        walk_at "rd"
        rw [ez]
        have m0 := Int.emod_nonneg ((i : Int) * (i : Int) - 1) (show p ≠ 0 by omega)
        have m1 := Int.emod_lt_of_pos ((i : Int) * (i : Int) - 1) (show 0 < p by omega)
        obtain ⟨j, hj⟩ : ∃ j : Nat, ((i : Int) * (i : Int) - 1) % p = (j : Int) := ⟨(((i : Int) * (i : Int) - 1) % p).toNat, by omega⟩
        have hjl : j < rs.length := by rw [hl']; omega
        have hg : rs[j]? = some rs[j] := List.getElem?_eq_getElem hjl
        refine tFor_i (wL ?_)
        walk_at "rd"
        refine rIxU_l (SqL.of (Same.undel _ _ b5.at_)) (v := .ref rs[j]) (at_of (j := j) hj (by rw [List.getElem?_map, hg]; rfl)) ?_
        have hb := b5.bkt j _ hg
        have hbl : (bk p u (j : Int) p.toNat).length ≤ 997 := by
          have := bk_len (p := p) (u := u) (i := (j : Int)) (n := p.toNat)
          omega
        refine WL_i _ (SqL.of (Same.undel _ _ hb)) ?_
        refine forS (srcL (xs := (bk p u (j : Int) p.toNat).map V.int)) (fun n σ H' => ∃ (v3 : Option V) (vs : List V), σ = [some (.int p), some (.int u), some (.ref B), v3, v4, some (.ref D), some (.int (i : Nat)), none] ∧ Same H H' ∧ Bks H (del H' D) p u p.toNat B rs ∧ H' D = some (.lst vs) ∧ vs.length ≤ i * 1000 + n ∧ DpAll K (del H' D) vs ((onesL p u i ++ ((bk p u (j : Int) p.toNat).take n).map fun b => ((i : Int), b)).map pairD)) ⟨v3, vs, rfl, s5, b5, e5, by omega, by simpa using hA⟩ (fun n σ H' _ ⟨_, _, _, _, b', _⟩ => SqL.of (Same.undel _ _ (b'.bkt j _ hg))) ?_ ?_
        · rintro n σ H7 x H8 hn ⟨v3, vs, rfl, s7, b7, e7, hlen7, hA7⟩ ⟨rfl, hx⟩
          rw [List.getElem?_map, Option.map_eq_some_iff] at hx
          obtain ⟨y, hy, rfl⟩ := hx
          rw [List.length_map] at hn
          walk_at "rd"
          rename_i q H9 nq s9 e9
          refine append_i (s9 _ _ e7) (Nat.lt_of_lt_of_le (by have : i * 1000 ≤ 997 * 1000 := Nat.mul_le_mul_right _ (by omega); omega : _ < 1000000) (Nat.le_of_ble_eq_true rfl)) fun H10 ch e10 s10 => ?_
          have hd : del H10 D = del H9 D := s10.2
          refine ⟨_, _, rfl, s10.1 _ (s7.trans s9) nDH, ?_, e10, by rw [List.length_append, List.length_singleton]; omega, ?_⟩
          · rw [hd]
            exact b7.later s9.del
          · rw [hd, map_take_succ hy, ← List.append_assoc, List.map_append]
            exact DpAll.app (dpAllSame s9.del hA7) (DpAll.one (dp_pair (x := ((i : Int), y)) (SqT.of (del_new e9 nq e7))))
        · rintro σ H7 ⟨v3, vs, rfl, s7, b7, e7, hlen7, hA7⟩
          rw [List.length_map, List.take_length] at hA7
          rw [List.length_map] at hlen7
          refine ⟨_, _, _, rfl, s7, b7, e7, by omega, ?_⟩
          rw [ones_succ, hj]
          exact hA7
      · rintro σ H5 ⟨v3, v6, vs, rfl, s5, b5, e5, hlen, hA⟩
        walk_at "rd"
        exact k _ _ _ s5 nDH e5 (dpAllSame Same.undel hA)
def sp_ulaw_refusal (K : PySem.W.Frag) (t : Tab) : SpX := fun a cls d vs H Q E => ∃ (dd : Addr) (v : Int), vs = [.ref a] ∧ cls = .ref t.c_NumberError ∧ d = some dd ∧ H dd = some (.xd [("number", .int v)]) ∧
  ∀ H' l q, Same H H' → H' q = some (.tup [.str "NumberError", .int v]) → H' l = some (.lst [.ref q]) → Q (.ref l) H'
theorem len_ulaw_refusal : ∀ a cls d vs H Q E, sp_ulaw_refusal K t a cls d vs H Q E → vs.length = (["e"] : List Str).length := by
  rintro a cls d vs H Q E ⟨_, _, rfl, _⟩
  rfl
theorem ok_ulaw_refusal (T : Txt K mg t) : FnE P w K mg base 1 t.a_ulaw_refusal t.fd_ulaw_refusal ["e"] (sp_ulaw_refusal K t) := by
  refine Fun.okE T.F_ulaw_refusal sc_ulaw_refusal (len_ulaw_refusal) (fun cdv A outer s H vs Q a oe cls d hz hf hr h => ?_)
  have nd := sc_ulaw_refusal.nd
  have xp := xpin_def (P := P) (w := w) (K := K) (mg := mg) (base := base) (N := ["e", "named"]) (qual := "_law_refusal") (scope := defScope s_ulaw_refusal) (f := t.a_ulaw_refusal) (cd := cdv) (A := A) (outer := outer) (s := s) (H := H) (a := a) hz hf
  refine ⟨_, (pss_cons (ps_set (i := 1) nd rfl (Or.inl rfl) (pe_lst pa_nil))
    (pss_cons (ps_if (pt_truthK K (pe_callB (call_isXK K xp) (by rfl) T.n_isinstance (by decide +kernel) (pa_cons (pv 0) (pa_cons (pe_glob (v := .ref t.c_NumberError) (by rfl) T.g_NumberError rfl) pa_nil)))) (pss_one (ps_expr (pe_bmK K PySem.F.plainAttrs_list PySem.F.slot_list_append PySem.F.type_list_append mt_append (pv 1) (pa_cons (pe_tup (pa_cons (pe_str) (pa_cons (pe_xFK K xp (pv 0)) pa_nil))) pa_nil)))) pss_nil)
    (pss_cons (ps_if (pt_truthK K (pe_callB (call_isXK K xp) (by rfl) T.n_isinstance (by decide +kernel) (pa_cons (pv 0) (pa_cons (pe_glob (v := .ref t.c_SizeError) (by rfl) T.g_SizeError rfl) pa_nil)))) (pss_one (ps_expr (pe_bmK K PySem.F.plainAttrs_list PySem.F.slot_list_append PySem.F.type_list_append mt_append (pv 1) (pa_cons (pe_tup (pa_cons (pe_str) (pa_cons (pe_xFK K xp (pv 0)) pa_nil))) pa_nil)))) pss_nil)
    (pss_cons (ps_if (pt_truthK K (pe_callB (call_isXK K xp) (by rfl) T.n_isinstance (by decide +kernel) (pa_cons (pv 0) (pa_cons (pe_glob (v := .ref t.c_TwinError) (by rfl) T.g_TwinError rfl) pa_nil)))) (pss_one (ps_expr (pe_bmK K PySem.F.plainAttrs_list PySem.F.slot_list_append PySem.F.type_list_append mt_append (pv 1) (pa_cons (pe_tup (pa_cons (pe_str) (pa_cons (pe_xFK K xp (pv 0)) pa_nil))) pa_nil)))) pss_nil)
    (pss_cons (ps_if (pt_truthK K (pe_callB (call_isXK K xp) (by rfl) T.n_isinstance (by decide +kernel) (pa_cons (pv 0) (pa_cons (pe_glob (v := .ref t.c_PrimeError) (by rfl) T.g_PrimeError rfl) pa_nil)))) (pss_one (ps_expr (pe_bmK K PySem.F.plainAttrs_list PySem.F.slot_list_append PySem.F.type_list_append mt_append (pv 1) (pa_cons (pe_tup (pa_cons (pe_str) (pa_cons (pe_xFK K xp (pv 0)) pa_nil))) pa_nil)))) pss_nil)
    (pss_one (ps_ret (pv 1)))))))), ?_⟩
  obtain ⟨dd, v, rfl, rfl, rfl, ed, k⟩ := h
  refine tSeq_i (tAsg_i (tLst_i (tNil_i (new_i (by walk_at "side") fun l H2 nl s2 el => ?_))))
  walk_at "rd"
  have ed2 := s2 _ _ ed
  refine isX_c T.X_NumberError [("number", .int v)] (.inr ⟨dd, rfl, ed2⟩) T.kt_NumberError_NumberError ?_
  walk_at "rd"
  refine xf1 T.X_NumberError ed2 T.xn_NumberError_number ?_
  walk_at "rd"
  rename_i q H3 nq s3 e3
  have el3 := s3 _ _ el
  have ed3 := s3 _ _ ed2
  refine append_i el3 (by decide) fun H4 ch el4 s4 => ?_
  have hdl : dd ≠ l := fun z => by
    rw [z, el3] at ed3
    cases ed3
  have ed4 := ch _ _ hdl ed3
  have hql : q ≠ l := fun z => by
    rw [z, el3] at e3
    cases e3
  have eq4 := ch _ _ hql e3
  have sH4 := s4.1 _ (s2.trans s3) nl
  walk_at "rd"
  refine isX_c T.X_NumberError [("number", .int v)] (.inr ⟨dd, rfl, ed4⟩) T.kt_NumberError_SizeError ?_
  walk_at "rd"
  refine isX_c T.X_NumberError [("number", .int v)] (.inr ⟨dd, rfl, ed4⟩) T.kt_NumberError_TwinError ?_
  walk_at "rd"
  refine isX_c T.X_NumberError [("number", .int v)] (.inr ⟨dd, rfl, ed4⟩) T.kt_NumberError_PrimeError ?_
  walk_at "rd"
  exact k _ l q sH4 eq4 el4
def sp_ulaw_asked (K : PySem.W.Frag) (t : Tab) : Sp := fun vs H Q E => ∃ (w p e v : Int) (x y : Int × Int) (o q : Addr), vs = [.int w, .int p, .ref o, .ref q, .int e] ∧ PairT K H o x ∧ PairT K H q y ∧ 0 ≤ w ∧ w ≤ 3 ∧ askT K t.c_NumberError w p x y e = .err t.c_NumberError "number" (.int v) ∧
  ∀ H' l q, Same H H' → H' q = some (.tup [.str "NumberError", .int v]) → H' l = some (.lst [.ref q]) → Q (.ref l) H'
theorem len_ulaw_asked : ∀ vs H Q E, sp_ulaw_asked K t vs H Q E → vs.length = (["which", "prime", "one", "two", "exponent"] : List Str).length := by
  rintro vs H Q E ⟨_, _, _, _, _, _, _, _, rfl, _⟩
  rfl
theorem ok_ulaw_asked (T : Txt K mg t) : FnOk P w K mg base (L2.CX P w) 8 t.a_ulaw_asked t.fd_ulaw_asked ["which", "prime", "one", "two", "exponent"] (sp_ulaw_asked K t) := by
  have G_norm := ok_norm (P := P) (w := w) (base := base) T
  have G_norm_ones := ok_norm_ones (P := P) (w := w) (base := base) T
  have G_times := ok_times (P := P) (w := w) (base := base) T
  have G_twofold_power := ok_twofold_power (P := P) (w := w) (base := base) T
  have GE_ulaw_refusal := ok_ulaw_refusal (P := P) (w := w) (base := base) T
  refine T.F_ulaw_asked.okX sc_ulaw_asked (len_ulaw_asked) (fun cdv A outer s H vs Q E hr h => ?_)
  have nd := sc_ulaw_asked.nd
  refine ⟨_, (pss_cons (ps_try_as (i := 5) rfl rfl nd rfl rfl ⟨rfl, by decide, .inl T.g_EndsError⟩ (takes_of rfl rfl rfl rfl) (fun W pn xe tk pw => (pss_cons (ps_if (pt_cmpR (op_eqUK K hr) (pv 0) (pe_int) (by first | exact nomark _ | rfl)) (pss_one (ps_expr (pe_callS G_times (hr.mono (by decide)) (by rfl) T.g_times T.F_times.kp T.b_times (fun σ => passAt tk σ) (pa_cons (pv 1) (pa_cons (pv 2) (pa_cons (pv 3) pa_nil)))))) pss_nil)
    (pss_cons (ps_if (pt_cmpR (op_eqUK K hr) (pv 0) (pe_int) (by first | exact nomark _ | rfl)) (pss_one (ps_expr (pe_callS G_twofold_power (hr.mono (by decide)) (by rfl) T.g_twofold_power T.F_twofold_power.kp T.b_twofold_power (fun σ => passAt tk σ) (pa_cons (pv 1) (pa_cons (pv 2) (pa_cons (pv 4) pa_nil)))))) pss_nil)
    (pss_cons (ps_if (pt_cmpR (op_eqUK K hr) (pv 0) (pe_int) (by first | exact nomark _ | rfl)) (pss_one (ps_expr (pe_callS G_norm (hr.mono (by decide)) (by rfl) T.g_norm T.F_norm.kp T.b_norm (fun σ => passAt tk σ) (pa_cons (pv 1) (pa_cons (pv 2) pa_nil))))) pss_nil)
    (pss_one (ps_if (pt_cmpR (op_eqUK K hr) (pv 0) (pe_int) (by first | exact nomark _ | rfl)) (pss_one (ps_expr (pe_callS G_norm_ones (hr.mono (by decide)) (by rfl) T.g_norm_ones T.F_norm_ones.kp T.b_norm_ones (fun σ => passAt tk σ) (pa_cons (pv 1) pa_nil)))) pss_nil))))))
    (fun a oe cls d pn hz hf => (pss_one (ps_ret (pe_callE GE_ulaw_refusal (roomH_suite (j := 1) hr (by decide)) (xpin_suite hz hf) (by rfl) T.g_ulaw_refusal T.F_ulaw_refusal.kp T.b_ulaw_refusal (pa_cons (pv 5) pa_nil))))))
    (pss_one (ps_ret (pe_lst pa_nil)))), ?_⟩
  obtain ⟨w, p, e, v, x, y, o, q, rfl, hx, hy, hw0, hw6, ho, k⟩ := h
  unfold askT at ho
  refine tSeq_i ?_
  walk_at "rd"
  by_cases c0 : w = 0
  · subst c0
    rw [if_pos rfl] at ho
    refine Br_dt rfl ?_
    walk_at "rd"
    refine ⟨p, x, y, o, q, rfl, hx, hy, ?_⟩
    refine gerr ho fun H1 d s1 ed => ?_
    refine was_i T.em_NumberError_EndsError fun a na => ?_
    walk_at "rd"
    exact ⟨d, v, rfl, rfl, rfl, ed, fun H2 l q s2 e1 e2 => k H2 l q (s1.trans s2) e1 e2⟩
  refine Br_df c0 ?_
  rw [if_neg c0] at ho
  walk_at "rd"
  by_cases c1 : w = 1
  · subst c1
    rw [if_pos rfl] at ho
    refine Br_dt rfl ?_
    walk_at "rd"
    refine ⟨p, x, e, o, rfl, hx, ?_⟩
    refine gerr ho fun H1 d s1 ed => ?_
    refine was_i T.em_NumberError_EndsError fun a na => ?_
    walk_at "rd"
    exact ⟨d, v, rfl, rfl, rfl, ed, fun H2 l q s2 e1 e2 => k H2 l q (s1.trans s2) e1 e2⟩
  refine Br_df c1 ?_
  rw [if_neg c1] at ho
  walk_at "rd"
  by_cases c2 : w = 2
  · subst c2
    rw [if_pos rfl] at ho
    refine Br_dt rfl ?_
    walk_at "rd"
    refine ⟨p, x, o, rfl, hx, ?_⟩
    refine gerr ho fun H1 d s1 ed => ?_
    refine was_i T.em_NumberError_EndsError fun a na => ?_
    walk_at "rd"
    exact ⟨d, v, rfl, rfl, rfl, ed, fun H2 l q s2 e1 e2 => k H2 l q (s1.trans s2) e1 e2⟩
  refine Br_df c2 ?_
  rw [if_neg c2] at ho
  walk_at "rd"
  have c3 : w = 3 := by omega
  subst c3
  refine Br_dt rfl ?_
  walk_at "rd"
  refine ⟨p, rfl, ?_⟩
  refine gerr ho fun H1 d s1 ed => ?_
  refine was_i T.em_NumberError_EndsError fun a na => ?_
  walk_at "rd"
  exact ⟨d, v, rfl, rfl, rfl, ed, fun H2 l q s2 e1 e2 => k H2 l q (s1.trans s2) e1 e2⟩
def sp_ulaw_is_refusal (K : PySem.W.Frag) (t : Tab) : Sp := fun vs H Q E => ∃ (l q : Addr) (z : Str) (n : Int), vs = [.ref l, .str z, .int n] ∧ SqL K H l [.ref q] ∧ SqT K H q [.str z, .int n] ∧ Q (.bl true) H
theorem len_ulaw_is_refusal : ∀ vs H Q E, sp_ulaw_is_refusal K t vs H Q E → vs.length = (["told", "name", "number"] : List Str).length := by
  rintro vs H Q E ⟨_, _, _, _, rfl, _⟩
  rfl
theorem ok_ulaw_is_refusal (T : Txt K mg t) : FnOk P w K mg base (L2.CX P w) 2 t.a_ulaw_is_refusal t.fd_ulaw_is_refusal ["told", "name", "number"] (sp_ulaw_is_refusal K t) := by
  have G_ulaw_is_number := ok_ulaw_is_number (P := P) (w := w) (base := base) T
  refine T.F_ulaw_is_refusal.okX sc_ulaw_is_refusal (len_ulaw_is_refusal) (fun cdv A outer s H vs Q E hr h => ?_)
  have nd := sc_ulaw_is_refusal.nd
  refine ⟨_, (pss_cons (ps_if (PW.pt (pw_or (pt_cmpR (op_neUK K hr) (pe_callB (call_lenK K) (by rfl) T.n_len (by decide +kernel) (pa_cons (pv 0) pa_nil)) (pe_int) (by first | exact nomark _ | rfl)) (pw_or1 (pt_cmpR (op_neUK K hr) (pe_ix (ix_UK K) (pe_ix (ix_UK K) (pv 0) (pe_int) (fun _ _ => rfl)) (pe_int) (fun _ _ => rfl)) (pv 1) (by first | exact nomark _ | rfl))))) (pss_one (ps_ret (pe_bl))) pss_nil)
    (pss_one (ps_ret (pe_and (pe_callS G_ulaw_is_number (hr.mono (by decide)) (by rfl) T.g_ulaw_is_number T.F_ulaw_is_number.kp T.b_ulaw_is_number (fun σ => passAt (takes_of rfl rfl rfl rfl) σ) (pa_cons (pe_ix (ix_UK K) (pe_ix (ix_UK K) (pv 0) (pe_int) (fun _ _ => rfl)) (pe_int) (fun _ _ => rfl)) pa_nil)) (pe_one (pe_cmpR (op_eqUK K hr) (pe_ix (ix_UK K) (pe_ix (ix_UK K) (pv 0) (pe_int) (fun _ _ => rfl)) (pe_int) (fun _ _ => rfl)) (pv 2) (by first | exact nomark _ | rfl))))))), ?_⟩
  obtain ⟨l, q, z, n, rfl, hL, hT, k⟩ := h
  walk_at "rd"
  refine Br_dt rfl ?_
  walk_at "rd"
  refine Br_dt rfl ?_
  walk_at "rd"
  refine ⟨n, rfl, ?_⟩
  walk_at "rd"
  rw [decide_eq_true rfl]
  exact k
def sp_ulaw_refuses_pairs (K : PySem.W.Frag) (t : Tab) : Sp := fun vs H Q E => ∃ (c a o q : Addr) (p : Int) (x y : Int × Int), vs = [.ref c, .ref a, .int p, .ref o, .ref q] ∧ Draw K H c a ∧ isP p = true ∧ p ≤ 997 ∧ PairT K H o x ∧ PairT K H q y ∧ TwOk p x ∧ TwOk p y ∧ ∀ H', Same H H' → Q (.bl true) H'
theorem len_ulaw_refuses_pairs : ∀ vs H Q E, sp_ulaw_refuses_pairs K t vs H Q E → vs.length = (["cells", "at", "p", "x", "y"] : List Str).length := by
  rintro vs H Q E ⟨_, _, _, _, _, _, _, rfl, _⟩
  rfl
theorem ok_ulaw_refuses_pairs (T : Txt K mg t) : FnOk P w K mg base (L2.CX P w) 9 t.a_ulaw_refuses_pairs t.fd_ulaw_refuses_pairs ["cells", "at", "p", "x", "y"] (sp_ulaw_refuses_pairs K t) := by
  have G_ulaw_asked := ok_ulaw_asked (P := P) (w := w) (base := base) T
  have G_ulaw_is_refusal := ok_ulaw_is_refusal (P := P) (w := w) (base := base) T
  have G_ulaw_next := ok_ulaw_next (P := P) (w := w) (base := base) T
  refine T.F_ulaw_refuses_pairs.okX sc_ulaw_refuses_pairs (len_ulaw_refuses_pairs) (fun cdv A outer s H vs Q E hr h => ?_)
  have nd := sc_ulaw_refuses_pairs.nd
  refine ⟨_, (pss_cons (ps_set (i := 5) nd rfl (Or.inl rfl) (pe_op (op_addUK K) (pv 2) (pe_callS G_ulaw_next (hr.mono (by decide)) (by rfl) T.g_ulaw_next T.F_ulaw_next.kp T.b_ulaw_next (fun σ => passAt (takes_of rfl rfl rfl rfl) σ) (pa_cons (pv 0) (pa_cons (pv 1) (pa_cons (pe_int) pa_nil))))))
    (pss_cons (ps_set (i := 6) nd rfl (Or.inl rfl) (pe_op op_sub (pe_un un_neg (pe_int)) (pe_callS G_ulaw_next (hr.mono (by decide)) (by rfl) T.g_ulaw_next T.F_ulaw_next.kp T.b_ulaw_next (fun σ => passAt (takes_of rfl rfl rfl rfl) σ) (pa_cons (pv 0) (pa_cons (pv 1) (pa_cons (pe_int) pa_nil))))))
    (pss_cons (ps_set (i := 7) nd rfl (Or.inl rfl) (pe_op (op_addUK K) (pe_op op_pow (pe_int) (pe_int)) (pe_callS G_ulaw_next (hr.mono (by decide)) (by rfl) T.g_ulaw_next T.F_ulaw_next.kp T.b_ulaw_next (fun σ => passAt (takes_of rfl rfl rfl rfl) σ) (pa_cons (pv 0) (pa_cons (pv 1) (pa_cons (pe_int) pa_nil))))))
    (pss_cons (ps_set (i := 8) nd rfl (Or.inl rfl) (pe_ix (ix_UK K) (pv 3) (pe_int) (fun _ _ => rfl)))
    (pss_cons (ps_set (i := 9) nd rfl (Or.inl rfl) (pe_ix (ix_UK K) (pv 3) (pe_int) (fun _ _ => rfl)))
    (pss_cons (ps_set (i := 10) nd rfl (Or.inl rfl) (pe_lst (pa_cons (pe_tup (pa_cons (pe_int) (pa_cons (pe_tup (pa_cons (pv 2) (pa_cons (pv 9) pa_nil))) (pa_cons (pv 4) (pa_cons (pe_int) (pa_cons (pv 2) pa_nil)))))) (pa_cons (pe_tup (pa_cons (pe_int) (pa_cons (pe_tup (pa_cons (pv 8) (pa_cons (pv 6) pa_nil))) (pa_cons (pv 4) (pa_cons (pe_int) (pa_cons (pv 6) pa_nil)))))) (pa_cons (pe_tup (pa_cons (pe_int) (pa_cons (pv 3) (pa_cons (pe_tup (pa_cons (pv 5) (pa_cons (pv 9) pa_nil))) (pa_cons (pe_int) (pa_cons (pv 5) pa_nil)))))) (pa_cons (pe_tup (pa_cons (pe_int) (pa_cons (pv 3) (pa_cons (pe_tup (pa_cons (pv 8) (pa_cons (pe_un un_neg (pe_int)) pa_nil))) (pa_cons (pe_int) (pa_cons (pe_un un_neg (pe_int)) pa_nil)))))) (pa_cons (pe_tup (pa_cons (pe_int) (pa_cons (pe_tup (pa_cons (pv 5) (pa_cons (pv 6) pa_nil))) (pa_cons (pv 4) (pa_cons (pe_int) (pa_cons (pv 5) pa_nil)))))) (pa_cons (pe_tup (pa_cons (pe_int) (pa_cons (pe_tup (pa_cons (pv 8) (pa_cons (pv 5) pa_nil))) (pa_cons (pe_tup (pa_cons (pv 6) (pa_cons (pv 9) pa_nil))) (pa_cons (pe_int) (pa_cons (pv 5) pa_nil)))))) (pa_cons (pe_tup (pa_cons (pe_int) (pa_cons (pv 3) (pa_cons (pe_tup (pa_cons (pv 6) (pa_cons (pv 7) pa_nil))) (pa_cons (pe_int) (pa_cons (pv 6) pa_nil)))))) (pa_cons (pe_tup (pa_cons (pe_int) (pa_cons (pe_tup (pa_cons (pv 2) (pa_cons (pe_int) pa_nil))) (pa_cons (pv 3) (pa_cons (pe_int) (pa_cons (pv 2) pa_nil)))))) (pa_cons (pe_tup (pa_cons (pe_int) (pa_cons (pe_tup (pa_cons (pv 8) (pa_cons (pv 6) pa_nil))) (pa_cons (pv 3) (pa_cons (pe_int) (pa_cons (pv 6) pa_nil)))))) (pa_cons (pe_tup (pa_cons (pe_int) (pa_cons (pv 3) (pa_cons (pv 3) (pa_cons (pe_int) (pa_cons (pe_int) pa_nil)))))) (pa_cons (pe_tup (pa_cons (pe_int) (pa_cons (pv 3) (pa_cons (pv 3) (pa_cons (pv 6) (pa_cons (pv 6) pa_nil)))))) (pa_cons (pe_tup (pa_cons (pe_int) (pa_cons (pv 3) (pa_cons (pv 3) (pa_cons (pv 7) (pa_cons (pv 7) pa_nil)))))) (pa_cons (pe_tup (pa_cons (pe_int) (pa_cons (pe_tup (pa_cons (pv 8) (pa_cons (pv 2) pa_nil))) (pa_cons (pv 3) (pa_cons (pe_int) (pa_cons (pv 2) pa_nil)))))) (pa_cons (pe_tup (pa_cons (pe_int) (pa_cons (pe_tup (pa_cons (pv 6) (pa_cons (pv 5) pa_nil))) (pa_cons (pv 3) (pa_cons (pe_int) (pa_cons (pv 6) pa_nil)))))) (pa_cons (pe_tup (pa_cons (pe_int) (pa_cons (pe_tup (pa_cons (pv 2) (pa_cons (pv 9) pa_nil))) (pa_cons (pv 3) (pa_cons (pe_int) (pa_cons (pv 2) pa_nil)))))) (pa_cons (pe_tup (pa_cons (pe_int) (pa_cons (pe_tup (pa_cons (pv 8) (pa_cons (pv 6) pa_nil))) (pa_cons (pv 3) (pa_cons (pe_int) (pa_cons (pv 6) pa_nil)))))) (pa_cons (pe_tup (pa_cons (pe_int) (pa_cons (pe_tup (pa_cons (pv 5) (pa_cons (pv 6) pa_nil))) (pa_cons (pv 3) (pa_cons (pe_int) (pa_cons (pv 5) pa_nil)))))) (pa_cons (pe_tup (pa_cons (pe_int) (pa_cons (pe_tup (pa_cons (pe_int) (pa_cons (pv 7) pa_nil))) (pa_cons (pv 3) (pa_cons (pe_int) (pa_cons (pv 7) pa_nil)))))) pa_nil))))))))))))))))))))
    (pss_cons (ps_for (passes_of rfl) rfl (pi_UK K (pv 10)) (pg_tupK K 5 rfl (pgs_cons (pg_name (i := 11) nd rfl (Or.inl rfl)) (pgs_cons (pg_name (i := 12) nd rfl (Or.inl rfl)) (pgs_cons (pg_name (i := 13) nd rfl (Or.inl rfl)) (pgs_cons (pg_name (i := 14) nd rfl (Or.inl rfl)) (pgs_cons (pg_name (i := 15) nd rfl (Or.inl rfl)) pgs_nil))))))
    (pss_cons (ps_set (i := 16) nd rfl (Or.inl rfl) (pe_callS G_ulaw_asked (hr.mono (by decide)) (by rfl) T.g_ulaw_asked T.F_ulaw_asked.kp T.b_ulaw_asked (fun σ => passAt (takes_of rfl rfl rfl rfl) σ) (pa_cons (pv 11) (pa_cons (pv 2) (pa_cons (pv 12) (pa_cons (pv 13) (pa_cons (pv 14) pa_nil)))))))
    (pss_one (ps_if (pt_not (pt_truthK K (pe_callS G_ulaw_is_refusal (hr.mono (by decide)) (by rfl) T.g_ulaw_is_refusal T.F_ulaw_is_refusal.kp T.b_ulaw_is_refusal (fun σ => passAt (takes_of rfl rfl rfl rfl) σ) (pa_cons (pv 16) (pa_cons (pe_str) (pa_cons (pv 15) pa_nil)))))) (pss_one (ps_ret (pe_bl))) pss_nil))))
    (pss_one (ps_ret (pe_bl)))))))))), ?_⟩
  obtain ⟨c, a, o, q, p, x, y, rfl, hD, hp, h9, hx, hy, okx, oky, k⟩ := h
  have hp3 := (isP_nat hp).2
  have hpp : 0 ≤ p ∧ p ≤ 997 ∧ isP p = true := ⟨by omega, h9, hp⟩
  obtain ⟨x1, x2⟩ := x
  obtain ⟨y1, y2⟩ := y
  have hx' : SqT K H o [.int x1, .int x2] := hx
  have hy' : SqT K H q [.int y1, .int y2] := hy
  have ox : (0 ≤ x1 ∧ x1 ≤ p - 1) ∧ (0 ≤ x2 ∧ x2 ≤ p - 1) := okx
  have oy : (0 ≤ y1 ∧ y1 ≤ p - 1) ∧ (0 ≤ y2 ∧ y2 ≤ p - 1) := oky
  clear hx hy
  walk_at "rd"
  refine ⟨c, a, 1000, rfl, hD, by omega, fun n1 n10 n11 => ?_⟩
  walk_at "rd"
  refine ⟨c, a, 1000, rfl, hD, by omega, fun n2 n20 n21 => ?_⟩
  walk_at "rd"
  refine ⟨c, a, 1000, rfl, hD, by omega, fun n4 n40 n41 => ?_⟩
  have hbig : (10000 : Int) < 10 ^ Int.toNat 60 := by decide +kernel
  generalize (10 : Int) ^ Int.toNat 60 = big at hbig
  have okc : ∀ d, d = (x1, x2) → TwOk p d := fun d e => by rw [e]; exact okx
  have okd : ∀ d, d = (y1, y2) → TwOk p d := fun d e => by rw [e]; exact oky
  walk_at "rd"
  rename_i l G nl sl el
  obtain ⟨vs, hvs, hc⟩ : ∃ vs, G l = some (.lst vs) ∧ ∀ v, v ∈ vs → CaseP K t.c_NumberError p G v := by
    refine ⟨_, el, ?_⟩
    refine all_cons (CaseP.mk (by walk_at "hp") (by walk_at "hp") (by walk_at "hp") (by omega) (e_t1 hpp (bad1 (by omega)).1 (bad1 (by omega)).2)) ?_
    refine all_cons (CaseP.mk (by walk_at "hp") (by walk_at "hp") (by walk_at "hp") (by omega) (e_t1 hpp (bad2 ox.1 (by omega)).1 (bad2 ox.1 (by omega)).2)) ?_
    refine all_cons (CaseP.mk (by walk_at "hp") (by walk_at "hp") (by walk_at "hp") (by omega) (e_t2 hpp okx (bad1 (by omega)).1 (bad1 (by omega)).2)) ?_
    refine all_cons (CaseP.mk (by walk_at "hp") (by walk_at "hp") (by walk_at "hp") (by omega) (e_t2 hpp okx (bad2 ox.1 (by omega)).1 (bad2 ox.1 (by omega)).2)) ?_
    refine all_cons (CaseP.mk (by walk_at "hp") (by walk_at "hp") (by walk_at "hp") (by omega) (e_t1 hpp (bad1 (by omega)).1 (bad1 (by omega)).2)) ?_
    refine all_cons (CaseP.mk (by walk_at "hp") (by walk_at "hp") (by walk_at "hp") (by omega) (e_t1 hpp (bad2 ox.1 (by omega)).1 (bad2 ox.1 (by omega)).2)) ?_
    refine all_cons (CaseP.mk (by walk_at "hp") (by walk_at "hp") (by walk_at "hp") (by omega) (e_t2 hpp okx (bad1 (by omega)).1 (bad1 (by omega)).2)) ?_
    refine all_cons (CaseP.mk (by walk_at "hp") (by walk_at "hp") (by walk_at "hp") (by omega) (e_p1 hpp (bad1 (by omega)).1 (bad1 (by omega)).2)) ?_
    refine all_cons (CaseP.mk (by walk_at "hp") (by walk_at "hp") (by walk_at "hp") (by omega) (e_p1 hpp (bad2 ox.1 (by omega)).1 (bad2 ox.1 (by omega)).2)) ?_
    refine all_cons (CaseP.mk (by walk_at "hp") (by walk_at "hp") (by walk_at "hp") (by omega) (e_p2 hpp okx (by omega))) ?_
    refine all_cons (CaseP.mk (by walk_at "hp") (by walk_at "hp") (by walk_at "hp") (by omega) (e_p2 hpp okx (by omega))) ?_
    refine all_cons (CaseP.mk (by walk_at "hp") (by walk_at "hp") (by walk_at "hp") (by omega) (e_p2 hpp okx (by omega))) ?_
    refine all_cons (CaseP.mk (by walk_at "hp") (by walk_at "hp") (by walk_at "hp") (by omega) (e_p1 hpp (bad2 ox.1 (by omega)).1 (bad2 ox.1 (by omega)).2)) ?_
    refine all_cons (CaseP.mk (by walk_at "hp") (by walk_at "hp") (by walk_at "hp") (by omega) (e_p1 hpp (bad1 (by omega)).1 (bad1 (by omega)).2)) ?_
    refine all_cons (CaseP.mk (by walk_at "hp") (by walk_at "hp") (by walk_at "hp") (by omega) (e_n1 hpp (bad1 (by omega)).1 (bad1 (by omega)).2)) ?_
    refine all_cons (CaseP.mk (by walk_at "hp") (by walk_at "hp") (by walk_at "hp") (by omega) (e_n1 hpp (bad2 ox.1 (by omega)).1 (bad2 ox.1 (by omega)).2)) ?_
    refine all_cons (CaseP.mk (by walk_at "hp") (by walk_at "hp") (by walk_at "hp") (by omega) (e_n1 hpp (bad1 (by omega)).1 (bad1 (by omega)).2)) ?_
    refine all_cons (CaseP.mk (by walk_at "hp") (by walk_at "hp") (by walk_at "hp") (by omega) (e_n1 hpp (bad2 (by omega) (by omega)).1 (bad2 (by omega) (by omega)).2)) ?_
    exact all_nil
  have sG : Same H G := by walk_at "hp"
  refine tFor_i (wL ?_)
  walk_at "rd"
  refine WL_i vs (SqL.of hvs) ?_
  refine forS (srcL (xs := vs)) (fun i σ H' => ∃ v5 v6 v7 v8 v9 v11 v12 v13 v14 v15 v16 : Option V, σ = [some (.ref c), some (.ref a), some (.int p), some (.ref o), some (.ref q), v5, v6, v7, v8, v9, some (.ref l), v11, v12, v13, v14, v15, v16] ∧ Same G H') ⟨_, _, _, _, _, none, none, none, none, none, none, rfl, Same.refl _⟩ (fun i σ H' _ ⟨_, _, _, _, _, _, _, _, _, _, _, _, z⟩ => SqL.of (z _ _ hvs)) ?_ ?_
  · rintro i σ H2 x H3 hi ⟨v5, v6, v7, v8, v9, v11, v12, v13, v14, v15, v16, rfl, s2⟩ ⟨rfl, hx⟩
    obtain ⟨r, o', q', w, e, due, x, y, rfl, hT, hox, hqy, w0, w6, ho⟩ := hc _ (List.mem_of_getElem? hx)
    have hT2 := s2.seqT hT
    walk_at "rd"
    refine ⟨w, p, e, due, x, y, o', q', rfl, hox.same s2, hqy.same s2, w0, w6, ho, fun H4 l q s4 e1 e2 => ?_⟩
    walk_at "rd"
    refine ⟨l, q, _, due, rfl, SqL.of e2, SqT.of e1, ?_⟩
    walk_at "rd"
    exact ⟨_, _, _, _, _, _, _, _, _, _, _, rfl, s2.trans s4⟩
  · rintro σ H2 ⟨v5, v6, v7, v8, v9, v11, v12, v13, v14, v15, v16, rfl, s2⟩
    walk_at "rd"
    exact k _ (sG.trans s2)
def sp_ulaw_refuses_primes (K : PySem.W.Frag) (t : Tab) : Sp := fun vs H Q E => ∃ (c a : Addr), vs = [.ref c, .ref a] ∧ Draw K H c a ∧ ∀ H', Same H H' → Q (.bl true) H'
theorem len_ulaw_refuses_primes : ∀ vs H Q E, sp_ulaw_refuses_primes K t vs H Q E → vs.length = (["cells", "at"] : List Str).length := by
  rintro vs H Q E ⟨_, _, rfl, _⟩
  rfl
theorem ok_ulaw_refuses_primes (T : Txt K mg t) : FnOk P w K mg base (L2.CX P w) 9 t.a_ulaw_refuses_primes t.fd_ulaw_refuses_primes ["cells", "at"] (sp_ulaw_refuses_primes K t) := by
  have G_ulaw_asked := ok_ulaw_asked (P := P) (w := w) (base := base) T
  have G_ulaw_is_refusal := ok_ulaw_is_refusal (P := P) (w := w) (base := base) T
  have G_ulaw_next := ok_ulaw_next (P := P) (w := w) (base := base) T
  have G_ulaw_no_prime := ok_ulaw_no_prime (P := P) (w := w) (base := base) T
  refine T.F_ulaw_refuses_primes.okX sc_ulaw_refuses_primes (len_ulaw_refuses_primes) (fun cdv A outer s H vs Q E hr h => ?_)
  have nd := sc_ulaw_refuses_primes.nd
  refine ⟨_, (pss_cons (ps_set (i := 2) nd rfl (Or.inl rfl) (pe_callS G_ulaw_no_prime (hr.mono (by decide)) (by rfl) T.g_ulaw_no_prime T.F_ulaw_no_prime.kp T.b_ulaw_no_prime (fun σ => passAt (takes_of rfl rfl rfl rfl) σ) (pa_cons (pv 0) (pa_cons (pv 1) pa_nil))))
    (pss_cons (ps_set (i := 3) nd rfl (Or.inl rfl) (pe_callS G_ulaw_no_prime (hr.mono (by decide)) (by rfl) T.g_ulaw_no_prime T.F_ulaw_no_prime.kp T.b_ulaw_no_prime (fun σ => passAt (takes_of rfl rfl rfl rfl) σ) (pa_cons (pv 0) (pa_cons (pv 1) pa_nil))))
    (pss_cons (ps_set (i := 4) nd rfl (Or.inl rfl) (pe_op op_sub (pe_un un_neg (pe_int)) (pe_callS G_ulaw_next (hr.mono (by decide)) (by rfl) T.g_ulaw_next T.F_ulaw_next.kp T.b_ulaw_next (fun σ => passAt (takes_of rfl rfl rfl rfl) σ) (pa_cons (pv 0) (pa_cons (pv 1) (pa_cons (pe_int) pa_nil))))))
    (pss_cons (ps_for (passes_of rfl) rfl (pi_range1 (by rfl) T.n_range (pa_cons (pe_int) pa_nil)) (pg_name (i := 5) nd rfl (Or.inl rfl))
    (pss_cons (ps_set (i := 6) nd rfl (Or.inl rfl) (pe_callS G_ulaw_asked (hr.mono (by decide)) (by rfl) T.g_ulaw_asked T.F_ulaw_asked.kp T.b_ulaw_asked (fun σ => passAt (takes_of rfl rfl rfl rfl) σ) (pa_cons (pv 5) (pa_cons (pv 2) (pa_cons (pe_tup (pa_cons (pe_int) (pa_cons (pe_int) pa_nil))) (pa_cons (pe_tup (pa_cons (pe_int) (pa_cons (pe_int) pa_nil))) (pa_cons (pe_int) pa_nil)))))))
    (pss_cons (ps_if (pt_not (pt_truthK K (pe_callS G_ulaw_is_refusal (hr.mono (by decide)) (by rfl) T.g_ulaw_is_refusal T.F_ulaw_is_refusal.kp T.b_ulaw_is_refusal (fun σ => passAt (takes_of rfl rfl rfl rfl) σ) (pa_cons (pv 6) (pa_cons (pe_str) (pa_cons (pv 2) pa_nil)))))) (pss_one (ps_ret (pe_bl))) pss_nil)
    (pss_cons (ps_set (i := 6) nd rfl (Or.inl rfl) (pe_callS G_ulaw_asked (hr.mono (by decide)) (by rfl) T.g_ulaw_asked T.F_ulaw_asked.kp T.b_ulaw_asked (fun σ => passAt (takes_of rfl rfl rfl rfl) σ) (pa_cons (pv 5) (pa_cons (pv 3) (pa_cons (pe_tup (pa_cons (pv 4) (pa_cons (pv 4) pa_nil))) (pa_cons (pe_tup (pa_cons (pv 4) (pa_cons (pv 4) pa_nil))) (pa_cons (pe_int) pa_nil)))))))
    (pss_one (ps_if (pt_not (pt_truthK K (pe_callS G_ulaw_is_refusal (hr.mono (by decide)) (by rfl) T.g_ulaw_is_refusal T.F_ulaw_is_refusal.kp T.b_ulaw_is_refusal (fun σ => passAt (takes_of rfl rfl rfl rfl) σ) (pa_cons (pv 6) (pa_cons (pe_str) (pa_cons (pv 3) pa_nil)))))) (pss_one (ps_ret (pe_bl))) pss_nil))))))
    (pss_one (ps_ret (pe_bl))))))), ?_⟩
  obtain ⟨c, a, rfl, hD, k⟩ := h
  walk_at "rd"
  refine ⟨c, a, rfl, hD, fun H1 q s1 hq => ?_⟩
  walk_at "rd"
  refine ⟨c, a, rfl, s1.draw hD, fun H2 r s2 hr => ?_⟩
  walk_at "rd"
  refine ⟨c, a, 1000, rfl, (s1.trans s2).draw hD, by omega, fun n n0 n1 => ?_⟩
  walk_at "rd"
  refine tFor_i (w1 ?_)
  walk_at "rd"
  refine W1_i (by omega) ?_
  refine forS srcR (fun i σ H' => ∃ v5 v6 : Option V, σ = [some (.ref c), some (.ref a), some (.int q), some (.int r), some (.int (-1 - n)), v5, v6] ∧ Same H H') ⟨none, none, rfl, s1.trans s2⟩ (fun _ _ _ _ _ => trivial) ?_ ?_
  · rintro i σ H3 x H4 hi ⟨v5, v6, rfl, s3⟩ ⟨rfl, rfl⟩
    have hi' : i < 4 := hi
    walk_at "rd"
    rename_i a1 G1 na1 t1 f1 a2 G2 na2 t2 f2
    refine ⟨_, q, 1, q, (0, 0), (0, 0), a1, a2, rfl, SqT.of (t2 _ _ f1), SqT.of f2, by omega, by omega, e_no hq, fun H5 l z s5 e1 e2 => ?_⟩
    walk_at "rd"
    refine ⟨l, z, _, q, rfl, SqL.of e2, SqT.of e1, ?_⟩
    walk_at "rd"
    rename_i b1 G3 nb1 t3 g1 b2 G4 nb2 t4 g2
    refine ⟨_, r, 10001, r, (-1 - n, -1 - n), (-1 - n, -1 - n), b1, b2, rfl, SqT.of (t4 _ _ g1), SqT.of g2, by omega, by omega, e_no hr, fun H6 l z s6 e1 e2 => ?_⟩
    walk_at "rd"
    refine ⟨l, z, _, r, rfl, SqL.of e2, SqT.of e1, ?_⟩
    walk_at "rd"
    exact ⟨_, _, rfl, s3.trans (t1.trans (t2.trans (s5.trans (t3.trans (t4.trans s6)))))⟩
  · rintro σ H3 ⟨v5, v6, rfl, s3⟩
    walk_at "rd"
    exact k _ s3
def sp_ulaw_products_told (K : PySem.W.Frag) (t : Tab) : Sp := fun vs H Q E => ∃ (p : Int) (x y : Int × Int) (l m : Addr), vs = [.int p, .int (lns p), .ref l, .ref m] ∧ PairT K H l x ∧ PairT K H m y ∧ isP p = true ∧ p ≤ 997 ∧ TwOk p x ∧ TwOk p y ∧ ∀ H', Same H H' → Q (.bl true) H'
theorem len_ulaw_products_told : ∀ vs H Q E, sp_ulaw_products_told K t vs H Q E → vs.length = (["p", "u", "one", "two"] : List Str).length := by
  rintro vs H Q E ⟨_, _, _, _, _, rfl, _⟩
  rfl
theorem ok_ulaw_products_told (T : Txt K mg t) : FnOk P w K mg base (L2.CX P w) 8 t.a_ulaw_products_told t.fd_ulaw_products_told ["p", "u", "one", "two"] (sp_ulaw_products_told K t) := by
  have G_norm := ok_norm (P := P) (w := w) (base := base) T
  have G_times := ok_times (P := P) (w := w) (base := base) T
  have G_ulaw_is_number := ok_ulaw_is_number (P := P) (w := w) (base := base) T
  have G_ulaw_is_pair := ok_ulaw_is_pair (P := P) (w := w) (base := base) T
  have G_ulaw_norm := ok_ulaw_norm (P := P) (w := w) (base := base) T
  have G_ulaw_times := ok_ulaw_times (P := P) (w := w) (base := base) T
  refine T.F_ulaw_products_told.okX sc_ulaw_products_told (len_ulaw_products_told) (fun cdv A outer s H vs Q E hr h => ?_)
  have nd := sc_ulaw_products_told.nd
  refine ⟨_, (pss_cons (ps_set (i := 4) nd rfl (Or.inl rfl) (pe_callS G_ulaw_times (hr.mono (by decide)) (by rfl) T.g_ulaw_times T.F_ulaw_times.kp T.b_ulaw_times (fun σ => passAt (takes_of rfl rfl rfl rfl) σ) (pa_cons (pv 0) (pa_cons (pv 1) (pa_cons (pv 2) (pa_cons (pv 3) pa_nil))))))
    (pss_cons (ps_set (i := 5) nd rfl (Or.inl rfl) (pe_callS G_times (hr.mono (by decide)) (by rfl) T.g_times T.F_times.kp T.b_times (fun σ => passAt (takes_of rfl rfl rfl rfl) σ) (pa_cons (pv 0) (pa_cons (pv 2) (pa_cons (pv 3) pa_nil)))))
    (pss_cons (ps_if (PW.pt (pw_or (pt_not (pt_truthK K (pe_callS G_ulaw_is_pair (hr.mono (by decide)) (by rfl) T.g_ulaw_is_pair T.F_ulaw_is_pair.kp T.b_ulaw_is_pair (fun σ => passAt (takes_of rfl rfl rfl rfl) σ) (pa_cons (pv 5) (pa_cons (pv 4) pa_nil))))) (pw_or1 (pt_not (pt_truthK K (pe_callS G_ulaw_is_pair (hr.mono (by decide)) (by rfl) T.g_ulaw_is_pair T.F_ulaw_is_pair.kp T.b_ulaw_is_pair (fun σ => passAt (takes_of rfl rfl rfl rfl) σ) (pa_cons (pe_callS G_times (hr.mono (by decide)) (by rfl) T.g_times T.F_times.kp T.b_times (fun σ => passAt (takes_of rfl rfl rfl rfl) σ) (pa_cons (pv 0) (pa_cons (pv 3) (pa_cons (pv 2) pa_nil)))) (pa_cons (pv 4) pa_nil)))))))) (pss_one (ps_ret (pe_bl))) pss_nil)
    (pss_cons (ps_set (i := 6) nd rfl (Or.inl rfl) (pe_callS G_norm (hr.mono (by decide)) (by rfl) T.g_norm T.F_norm.kp T.b_norm (fun σ => passAt (takes_of rfl rfl rfl rfl) σ) (pa_cons (pv 0) (pa_cons (pv 5) pa_nil))))
    (pss_cons (ps_if (pt_not (pt_truthK K (pe_callS G_ulaw_is_number (hr.mono (by decide)) (by rfl) T.g_ulaw_is_number T.F_ulaw_is_number.kp T.b_ulaw_is_number (fun σ => passAt (takes_of rfl rfl rfl rfl) σ) (pa_cons (pv 6) pa_nil)))) (pss_one (ps_ret (pe_bl))) pss_nil)
    (pss_one (ps_ret (pe_cmpR (op_eqUK K hr) (pv 6) (pe_op op_modP (pe_callTy call_int1D (by rfl) T.n_int (by decide +kernel) (pa_cons (pe_op op_mulU (pe_callS G_ulaw_norm (hr.mono (by decide)) (by rfl) T.g_ulaw_norm T.F_ulaw_norm.kp T.b_ulaw_norm (fun σ => passAt (takes_of rfl rfl rfl rfl) σ) (pa_cons (pv 0) (pa_cons (pv 1) (pa_cons (pv 2) pa_nil)))) (pe_callS G_ulaw_norm (hr.mono (by decide)) (by rfl) T.g_ulaw_norm T.F_ulaw_norm.kp T.b_ulaw_norm (fun σ => passAt (takes_of rfl rfl rfl rfl) σ) (pa_cons (pv 0) (pa_cons (pv 1) (pa_cons (pv 3) pa_nil))))) pa_nil)) (pv 0)) (by first | exact nomark _ | rfl))))))))), ?_⟩
  obtain ⟨p, x, y, l, m, rfl, hx, hy, hp, h9, ox, oy, k⟩ := h
  have hp3 := (isP_nat hp).2
  have hpp : 0 ≤ p ∧ p ≤ 997 ∧ isP p = true := ⟨by omega, h9, hp⟩
  walk_at "rd"
  refine ⟨p, lns p, x, y, l, m, rfl, hx, hy, by omega, h9, ox, oy, fun H1 du s1 edu => ?_⟩
  walk_at "rd"
  refine ⟨p, x, y, l, m, rfl, hx.same s1, hy.same s1, ?_⟩
  refine gtup (by unfold oTimes prO; rw [if_pos hpp, if_pos ox, if_pos oy]) fun H2 to s2 eto => ?_
  walk_at "rd"
  refine ⟨to, du, mu p (lns p) x y, rfl, SqT.of eto, SqT.of (s2 _ _ edu), ?_⟩
  walk_at "rd"
  refine ⟨p, y, x, m, l, rfl, hy.same (s1.trans s2), hx.same (s1.trans s2), ?_⟩
  refine gtup (by unfold oTimes prO; rw [if_pos hpp, if_pos oy, if_pos ox, mu_comm]) fun H3 to2 s3 eto2 => ?_
  walk_at "rd"
  refine ⟨to2, du, mu p (lns p) x y, rfl, SqT.of eto2, SqT.of (s3 _ _ (s2 _ _ edu)), ?_⟩
  walk_at "rd"
  have s13 := s1.trans (s2.trans s3)
  refine ⟨p, mu p (lns p) x y, to, rfl, SqT.of (s3 _ _ eto), ?_⟩
  refine gret (by unfold oNorm; rw [if_pos hpp, if_pos (mu_ok (by omega))]) fun H4 s4 => ?_
  walk_at "rd"
  refine ⟨_, rfl, ?_⟩
  walk_at "rd"
  refine ⟨p, lns p, x, l, rfl, hx.same (s13.trans s4), by omega, h9, ox, ?_⟩
  walk_at "rd"
  refine ⟨p, lns p, y, m, rfl, hy.same (s13.trans s4), by omega, h9, oy, ?_⟩
  have b0 : 0 ≤ nm p (lns p) x ∧ nm p (lns p) x < p := ⟨Int.emod_nonneg _ (by omega), Int.emod_lt_of_pos _ (by omega)⟩
  walk_at "rd"
  rw [decide_eq_true (nm_mul (by omega))]
  exact k _ (s13.trans s4)
def sp_ulaw_powers_told (K : PySem.W.Frag) (t : Tab) : Sp := fun vs H Q E => ∃ (c a l : Addr) (p : Int) (x : Int × Int), vs = [.ref c, .ref a, .int p, .int (lns p), .ref l] ∧ Draw K H c a ∧ PairT K H l x ∧ isP p = true ∧ p ≤ 997 ∧ TwOk p x ∧ ∀ H', Same H H' → Q (.bl true) H'
theorem len_ulaw_powers_told : ∀ vs H Q E, sp_ulaw_powers_told K t vs H Q E → vs.length = (["cells", "at", "p", "u", "one"] : List Str).length := by
  rintro vs H Q E ⟨_, _, _, _, _, rfl, _⟩
  rfl
theorem ok_ulaw_powers_told (T : Txt K mg t) : FnOk P w K mg base (L2.CX P w) 8 t.a_ulaw_powers_told t.fd_ulaw_powers_told ["cells", "at", "p", "u", "one"] (sp_ulaw_powers_told K t) := by
  have G_norm := ok_norm (P := P) (w := w) (base := base) T
  have G_twofold_power := ok_twofold_power (P := P) (w := w) (base := base) T
  have G_ulaw_is_number := ok_ulaw_is_number (P := P) (w := w) (base := base) T
  have G_ulaw_is_pair := ok_ulaw_is_pair (P := P) (w := w) (base := base) T
  have G_ulaw_next := ok_ulaw_next (P := P) (w := w) (base := base) T
  have G_ulaw_norm := ok_ulaw_norm (P := P) (w := w) (base := base) T
  have G_ulaw_pick := ok_ulaw_pick (P := P) (w := w) (base := base) T
  have G_ulaw_powered := ok_ulaw_powered (P := P) (w := w) (base := base) T
  refine T.F_ulaw_powers_told.okX sc_ulaw_powers_told (len_ulaw_powers_told) (fun cdv A outer s H vs Q E hr h => ?_)
  have nd := sc_ulaw_powers_told.nd
  refine ⟨_, (pss_cons (ps_set (i := 5) nd rfl (Or.inl rfl) (pe_callS G_ulaw_pick (hr.mono (by decide)) (by rfl) T.g_ulaw_pick T.F_ulaw_pick.kp T.b_ulaw_pick (fun σ => passAt (takes_of rfl rfl rfl rfl) σ) (pa_cons (pv 0) (pa_cons (pv 1) (pa_cons (pe_lst (pa_cons (pe_int) (pa_cons (pe_int) (pa_cons (pe_int) (pa_cons (pe_int) pa_nil))))) pa_nil)))))
    (pss_cons (ps_for (passes_of rfl) rfl (pi_UK K (pe_lst (pa_cons (pv 5) (pa_cons (pe_callS G_ulaw_next (hr.mono (by decide)) (by rfl) T.g_ulaw_next T.F_ulaw_next.kp T.b_ulaw_next (fun σ => passAt (takes_of rfl rfl rfl rfl) σ) (pa_cons (pv 0) (pa_cons (pv 1) (pa_cons (pe_int) pa_nil)))) pa_nil)))) (pg_name (i := 6) nd rfl (Or.inl rfl))
    (pss_cons (ps_set (i := 7) nd rfl (Or.inl rfl) (pe_callS G_twofold_power (hr.mono (by decide)) (by rfl) T.g_twofold_power T.F_twofold_power.kp T.b_twofold_power (fun σ => passAt (takes_of rfl rfl rfl rfl) σ) (pa_cons (pv 2) (pa_cons (pv 4) (pa_cons (pv 6) pa_nil)))))
    (pss_one (ps_if (pt_not (pt_truthK K (pe_callS G_ulaw_is_pair (hr.mono (by decide)) (by rfl) T.g_ulaw_is_pair T.F_ulaw_is_pair.kp T.b_ulaw_is_pair (fun σ => passAt (takes_of rfl rfl rfl rfl) σ) (pa_cons (pv 7) (pa_cons (pe_callS G_ulaw_powered (hr.mono (by decide)) (by rfl) T.g_ulaw_powered T.F_ulaw_powered.kp T.b_ulaw_powered (fun σ => passAt (takes_of rfl rfl rfl rfl) σ) (pa_cons (pv 2) (pa_cons (pv 3) (pa_cons (pv 4) (pa_cons (pv 6) pa_nil))))) pa_nil))))) (pss_one (ps_ret (pe_bl))) pss_nil))))
    (pss_cons (ps_set (i := 8) nd rfl (Or.inl rfl) (pe_callK0 G_norm (hr.mono (by decide)) (by rfl) T.g_norm T.F_norm.kp T.kb_norm_0_pair_prime passL  (pk_cons (pv 4) (pk_cons (pv 2) pk_nil))))
    (pss_one (ps_ret (pe_and (pe_callS G_ulaw_is_number (hr.mono (by decide)) (by rfl) T.g_ulaw_is_number T.F_ulaw_is_number.kp T.b_ulaw_is_number (fun σ => passAt (takes_of rfl rfl rfl rfl) σ) (pa_cons (pv 8) pa_nil)) (pe_one (pe_cmpR (op_eqUK K hr) (pv 8) (pe_callS G_ulaw_norm (hr.mono (by decide)) (by rfl) T.g_ulaw_norm T.F_ulaw_norm.kp T.b_ulaw_norm (fun σ => passAt (takes_of rfl rfl rfl rfl) σ) (pa_cons (pv 2) (pa_cons (pv 3) (pa_cons (pv 4) pa_nil)))) (by first | exact nomark _ | rfl))))))))), ?_⟩
  obtain ⟨c, a, l, p, x, rfl, hD, hx, hp, h9, ox, k⟩ := h
  have hp3 := (isP_nat hp).2
  have hpp : 0 ≤ p ∧ p ≤ 997 ∧ isP p = true := ⟨by omega, h9, hp⟩
  walk_at "rd"
  rename_i l0 H1 nl0 s1 el0
  have hl0 : H1 l0 = some (.lst (([0, 1, 2, 3] : List Int).map V.int)) := el0
  refine ⟨c, a, l0, _, rfl, s1.draw hD, SqL.of hl0, by decide, fun n hn => ?_⟩
  have hn := (by decide +kernel : ∀ z, z ∈ ([0, 1, 2, 3] : List Int) → 0 ≤ z ∧ z ≤ 10000) n hn
  walk_at "rd"
  refine tFor_i (wL ?_)
  walk_at "rd"
  refine ⟨c, a, 41, rfl, s1.draw hD, by omega, fun n4 n40 n41 => ?_⟩
  walk_at "rd"
  rename_i l1 H2 nl1 s2 el1
  have hl1 : H2 l1 = some (.lst (([n, n4] : List Int).map V.int)) := el1
  refine WL_i _ (SqL.of hl1) ?_
  refine forS (srcL (xs := ([n, n4] : List Int).map V.int)) (fun i σ H' => ∃ v6 v7 : Option V, σ = [some (.ref c), some (.ref a), some (.int p), some (.int (lns p)), some (.ref l), some (.int n), v6, v7, none] ∧ Same H2 H') ⟨none, none, rfl, Same.refl _⟩ (fun i σ H' _ ⟨_, _, _, z⟩ => SqL.of (z _ _ hl1)) ?_ ?_
  · rintro i σ H3 y H4 hi ⟨v6, v7, rfl, s3⟩ ⟨rfl, hy⟩
    rw [List.getElem?_map, Option.map_eq_some_iff] at hy
    obtain ⟨e, he, rfl⟩ := hy
    have he := List.mem_of_getElem? he
    simp only [List.mem_cons, List.not_mem_nil, or_false] at he
    have e01 : 0 ≤ e ∧ e ≤ 10000 := by omega
    have sx := s1.trans (s2.trans s3)
    walk_at "rd"
    refine ⟨p, x, e, l, rfl, hx.same sx, ?_⟩
    refine gtup (by unfold oTwPower prO; rw [if_pos hpp, if_pos ox, if_pos e01]) fun H5 to s5 eto => ?_
    walk_at "rd"
    refine ⟨p, lns p, x, e, l, rfl, hx.same (sx.trans s5), hp3, h9, ox, e01.1, e01.2, fun H6 du s6 edu => ?_⟩
    walk_at "rd"
    refine ⟨to, du, pg p (lns p) x e, rfl, SqT.of (s6 _ _ eto), SqT.of edu, ?_⟩
    walk_at "rd"
    exact ⟨_, _, rfl, s3.trans (s5.trans s6)⟩
  · rintro σ H3 ⟨v6, v7, rfl, s3⟩
    have sx := s1.trans (s2.trans s3)
    walk_at "rd"
    refine ⟨p, x, l, rfl, hx.same sx, ?_⟩
    refine gret (by unfold oNorm; rw [if_pos hpp, if_pos ox]) fun H4 s4 => ?_
    walk_at "rd"
    refine ⟨_, rfl, ?_⟩
    walk_at "rd"
    refine ⟨p, lns p, x, l, rfl, hx.same (sx.trans s4), by omega, h9, ox, ?_⟩
    walk_at "rd"
    rw [decide_eq_true rfl]
    exact k _ (sx.trans s4)
def sp_ulaw_list_told (K : PySem.W.Frag) (t : Tab) : Sp := fun vs H Q E => ∃ (l m : Addr) (xs ys : List V) (L : List (Int × Int)), vs = [.ref l, .ref m] ∧ SqL K H l xs ∧ SqL K H m ys ∧ DpAll K H xs (L.map pairD) ∧ DpAll K H ys (L.map pairD) ∧ L.length ≤ 2000 ∧ Q (.bl true) H
theorem len_ulaw_list_told : ∀ vs H Q E, sp_ulaw_list_told K t vs H Q E → vs.length = (["told", "due"] : List Str).length := by
  rintro vs H Q E ⟨_, _, _, _, _, rfl, _⟩
  rfl
theorem ok_ulaw_list_told (T : Txt K mg t) : FnOk P w K mg base (L2.CX P w) 3 t.a_ulaw_list_told t.fd_ulaw_list_told ["told", "due"] (sp_ulaw_list_told K t) := by
  have G_ulaw_is_pair := ok_ulaw_is_pair (P := P) (w := w) (base := base) T
  refine T.F_ulaw_list_told.okX sc_ulaw_list_told (len_ulaw_list_told) (fun cdv A outer s H vs Q E hr h => ?_)
  have nd := sc_ulaw_list_told.nd
  refine ⟨_, (pss_cons (ps_if (PW.pt (pw_or (pt_not (pt_truthK K (pe_callB (call_isiUK K) (by rfl) T.n_isinstance (by decide +kernel) (pa_cons (pv 0) (pa_cons (pe_bltn (v := .ty "list") (by rfl) T.n_list (by decide +kernel) rfl) pa_nil))))) (pw_or1 (pt_cmpR (op_neUK K hr) (pe_callB (call_lenK K) (by rfl) T.n_len (by decide +kernel) (pa_cons (pv 0) pa_nil)) (pe_callB (call_lenK K) (by rfl) T.n_len (by decide +kernel) (pa_cons (pv 1) pa_nil)) (by first | exact nomark _ | rfl))))) (pss_one (ps_ret (pe_bl))) pss_nil)
    (pss_cons (ps_for (passes_of rfl) rfl (pi_range1 (by rfl) T.n_range (pa_cons (pe_callB (call_lenK K) (by rfl) T.n_len (by decide +kernel) (pa_cons (pv 1) pa_nil)) pa_nil)) (pg_name (i := 2) nd rfl (Or.inl rfl))
    (pss_one (ps_if (pt_not (pt_truthK K (pe_callS G_ulaw_is_pair (hr.mono (by decide)) (by rfl) T.g_ulaw_is_pair T.F_ulaw_is_pair.kp T.b_ulaw_is_pair (fun σ => passAt (takes_of rfl rfl rfl rfl) σ) (pa_cons (pe_ix (ix_UK K) (pv 0) (pv 2) (fun _ _ => rfl)) (pa_cons (pe_ix (ix_UK K) (pv 1) (pv 2) (fun _ _ => rfl)) pa_nil))))) (pss_one (ps_ret (pe_bl))) pss_nil)))
    (pss_one (ps_ret (pe_bl))))), ?_⟩
  obtain ⟨l, m, xs, ys, L, rfl, hl, hm, dx, dy, hL, k⟩ := h
  have lx : xs.length = L.length := by rw [DpAll.len dx, List.length_map]
  have ly : ys.length = L.length := by rw [DpAll.len dy, List.length_map]
  walk_at "rd"
  refine isi_lstS hl ?_
  walk_at "rd"
  refine Br_dt (by omega) ?_
  walk_at "rd"
  refine tFor_i (w1 ?_)
  walk_at "rd"
  refine W1_i (by omega) ?_
  rw [Int.toNat_natCast]
  refine forS srcR (fun i σ H' => ∃ v : Option V, σ = [some (.ref l), some (.ref m), v] ∧ H = H') ⟨none, rfl, rfl⟩ (fun _ _ _ _ _ => trivial) ?_ ?_
  · rintro i σ _ z _ hi ⟨v, rfl, rfl⟩ ⟨rfl, rfl⟩
    walk_at "rd"
    have hi1 : i < xs.length := by omega
    have gx := List.getElem?_eq_getElem hi1
    have gy := List.getElem?_eq_getElem hi
    obtain ⟨q1, x1, e1, f1, p1⟩ := pairs_get dx gx
    obtain ⟨q2, x2, e2, f2, p2⟩ := pairs_get dy gy
    rw [e1] at e2
    cases e2
    rw [f1] at gx
    rw [f2] at gy
    refine rIxU_l hl (at_of (j := i) (by omega) gx) ?_
    walk_at "rd"
    refine rIxU_l hm (at_of (j := i) (by omega) gy) ?_
    walk_at "rd"
    refine ⟨q1, q2, x1, rfl, p1, p2, ?_⟩
    walk_at "rd"
    exact ⟨_, rfl, rfl⟩
  · rintro σ _ ⟨v, rfl, rfl⟩
    walk_at "rd"
    exact k
def sp_ulaw_ones_told (K : PySem.W.Frag) (t : Tab) : Sp := fun vs H Q E => ∃ (p : Int), vs = [.int p] ∧ isP p = true ∧ p ≤ 997 ∧ ∀ H', Same H H' → Q (.bl true) H'
theorem len_ulaw_ones_told : ∀ vs H Q E, sp_ulaw_ones_told K t vs H Q E → vs.length = (["p"] : List Str).length := by
  rintro vs H Q E ⟨_, rfl, _⟩
  rfl
theorem ok_ulaw_ones_told (T : Txt K mg t) : FnOk P w K mg base (L2.CX P w) 8 t.a_ulaw_ones_told t.fd_ulaw_ones_told ["p"] (sp_ulaw_ones_told K t) := by
  have G_norm_ones := ok_norm_ones (P := P) (w := w) (base := base) T
  have G_ulaw_list_told := ok_ulaw_list_told (P := P) (w := w) (base := base) T
  have G_ulaw_nonsquare := ok_ulaw_nonsquare (P := P) (w := w) (base := base) T
  have G_ulaw_ones := ok_ulaw_ones (P := P) (w := w) (base := base) T
  refine T.F_ulaw_ones_told.okX sc_ulaw_ones_told (len_ulaw_ones_told) (fun cdv A outer s H vs Q E hr h => ?_)
  have nd := sc_ulaw_ones_told.nd
  refine ⟨_, (pss_cons (ps_set (i := 1) nd rfl (Or.inl rfl) (pe_callS G_ulaw_ones (hr.mono (by decide)) (by rfl) T.g_ulaw_ones T.F_ulaw_ones.kp T.b_ulaw_ones (fun σ => passAt (takes_of rfl rfl rfl rfl) σ) (pa_cons (pv 0) (pa_cons (pe_callS G_ulaw_nonsquare (hr.mono (by decide)) (by rfl) T.g_ulaw_nonsquare T.F_ulaw_nonsquare.kp T.b_ulaw_nonsquare (fun σ => passAt (takes_of rfl rfl rfl rfl) σ) (pa_cons (pv 0) pa_nil)) pa_nil))))
    (pss_cons (ps_if (pt_cmpR (op_neUK K hr) (pe_callB (call_lenK K) (by rfl) T.n_len (by decide +kernel) (pa_cons (pv 1) pa_nil)) (pe_op (op_addUK K) (pv 0) (pe_int)) (by first | exact nomark _ | rfl)) (pss_one (ps_ret (pe_bl))) pss_nil)
    (pss_cons (ps_set (i := 2) nd rfl (Or.inl rfl) (pe_callS G_norm_ones (hr.mono (by decide)) (by rfl) T.g_norm_ones T.F_norm_ones.kp T.b_norm_ones (fun σ => passAt (takes_of rfl rfl rfl rfl) σ) (pa_cons (pv 0) pa_nil)))
    (pss_cons (ps_if (pt_not (pt_truthK K (pe_callS G_ulaw_list_told (hr.mono (by decide)) (by rfl) T.g_ulaw_list_told T.F_ulaw_list_told.kp T.b_ulaw_list_told (fun σ => passAt (takes_of rfl rfl rfl rfl) σ) (pa_cons (pv 2) (pa_cons (pv 1) pa_nil))))) (pss_one (ps_ret (pe_bl))) pss_nil)
    (pss_cons (ps_expr (pe_bmK K PySem.F.plainAttrs_list PySem.F.slot_list_append PySem.F.type_list_append mt_append (pv 2) (pa_cons (pe_tup (pa_cons (pe_int) (pa_cons (pe_int) pa_nil))) pa_nil)))
    (pss_one (ps_ret (pe_or (pe_cmpR op_gt (pv 0) (pe_int) (by first | exact nomark _ | rfl)) (pe_one (pe_callS G_ulaw_list_told (hr.mono (by decide)) (by rfl) T.g_ulaw_list_told T.F_ulaw_list_told.kp T.b_ulaw_list_told (fun σ => passAt (takes_of rfl rfl rfl rfl) σ) (pa_cons (pe_callS G_norm_ones (hr.mono (by decide)) (by rfl) T.g_norm_ones T.F_norm_ones.kp T.b_norm_ones (fun σ => passAt (takes_of rfl rfl rfl rfl) σ) (pa_cons (pv 0) pa_nil)) (pa_cons (pv 1) pa_nil)))))))))))), ?_⟩
  obtain ⟨p, rfl, hp, h9, k⟩ := h
  have hp3 := (isP_nat hp).2
  have hpp : 0 ≤ p ∧ p ≤ 997 ∧ isP p = true := ⟨by omega, h9, hp⟩
  obtain ⟨l1, l2, l3, l4⟩ := lns_spec hp
  have hlen := ones_len hp
  have oo : oOnes K t.c_NumberError p = .lst (fun H' vs => DpAll K H' vs ((onesL p (lns p) p.toNat).map pairD)) := by
    unfold oOnes
    rw [if_pos hpp]
  walk_at "rd"
  refine ⟨p, rfl, hp, h9, fun H1 s1 => ?_⟩
  walk_at "rd"
  refine ⟨p, lns p, rfl, hp3, h9, by omega, l2, fun H2 du vs s2 ndu edu dv => ?_⟩
  have hvl : vs.length = p.toNat + 1 := by rw [DpAll.len dv, List.length_map, hlen]
  walk_at "rd"
  refine Br_dt (by omega) ?_
  walk_at "rd"
  refine ⟨p, rfl, ?_⟩
  refine glst oo fun H3 to ws s3 nto eto dw => ?_
  walk_at "rd"
  have hdt : du ≠ to := fun z => by
    rw [z, nto] at edu
    cases edu
  have hwl : ws.length = p.toNat + 1 := by rw [DpAll.len dw, List.length_map, hlen]
  refine ⟨to, du, ws, vs, _, rfl, SqL.of eto, SqL.of (s3 _ _ edu), dw, dpAllSame s3 dv, by omega, ?_⟩
  walk_at "rd"
  rename_i z0 H4 nz0 s4 ez0
  refine append_i (s4 _ _ eto) (Nat.lt_of_lt_of_le (by omega : _ < 2000) (Nat.le_of_ble_eq_true rfl)) fun H5 ch e5 s5 => ?_
  have edu5 := ch _ _ hdt (s4 _ _ (s3 _ _ edu))
  have s05 : Same H2 H5 := s5.1 _ (s3.trans s4) nto
  have dv5 := dpAllSame s05 dv
  walk_at "rd"
  refine Br_d (fun _ => ?_) (fun _ => ?_)
  · walk_at "rd"
    exact k _ (s1.trans (s2.trans s05))
  · walk_at "rd"
    refine ⟨p, rfl, ?_⟩
    refine glst oo fun H6 to2 us s6 nto2 eto2 dw2 => ?_
    walk_at "rd"
    refine ⟨to2, du, us, vs, _, rfl, SqL.of eto2, SqL.of (s6 _ _ edu5), dw2, dpAllSame s6 dv5, by omega, ?_⟩
    exact k _ (s1.trans (s2.trans (s05.trans s6)))
def ten0 : List Int := [3, 5, 7, 11, 13, 17, 23, 31, 101, 997]
theorem ten0_ok : ∀ z, z ∈ ten0 → isP z = true ∧ z ≤ 997 := by decide +kernel
def sp_law (K : PySem.W.Frag) (_ : Tab) : Sp := spLaw K
theorem len_law : ∀ vs H Q E, sp_law K t vs H Q E → vs.length = (["script"] : List Str).length := by
  rintro vs H Q E ⟨_, _, rfl, _⟩
  rfl
theorem ok_law (T : Txt K mg t) : FnOk P w K mg base (L2.CX P w) 10 t.a_law t.fd_law ["script"] (sp_law K t) := by
  have G_twofold_power := ok_twofold_power (P := P) (w := w) (base := base) T
  have G_ulaw_draws := ok_ulaw_draws (P := P) (w := w) (base := base) T
  have G_ulaw_is_pair := ok_ulaw_is_pair (P := P) (w := w) (base := base) T
  have G_ulaw_next := ok_ulaw_next (P := P) (w := w) (base := base) T
  have G_ulaw_nonsquare := ok_ulaw_nonsquare (P := P) (w := w) (base := base) T
  have G_ulaw_odd_primes := ok_ulaw_odd_primes (P := P) (w := w) (base := base) T
  have G_ulaw_ones_told := ok_ulaw_ones_told (P := P) (w := w) (base := base) T
  have G_ulaw_pick := ok_ulaw_pick (P := P) (w := w) (base := base) T
  have G_ulaw_powered := ok_ulaw_powered (P := P) (w := w) (base := base) T
  have G_ulaw_powers_told := ok_ulaw_powers_told (P := P) (w := w) (base := base) T
  have G_ulaw_products_told := ok_ulaw_products_told (P := P) (w := w) (base := base) T
  have G_ulaw_refuses_pairs := ok_ulaw_refuses_pairs (P := P) (w := w) (base := base) T
  have G_ulaw_refuses_primes := ok_ulaw_refuses_primes (P := P) (w := w) (base := base) T
  have G_ulaw_residue := ok_ulaw_residue (P := P) (w := w) (base := base) T
  refine T.F_law.okX sc_law (len_law) (fun cdv A outer s H vs Q E hr h => ?_)
  have nd := sc_law.nd
  refine ⟨_, (pss_cons (ps_set (i := 1) nd rfl (Or.inl rfl) (pe_callS G_ulaw_draws (hr.mono (by decide)) (by rfl) T.g_ulaw_draws T.F_ulaw_draws.kp T.b_ulaw_draws (fun σ => passAt (takes_of rfl rfl rfl rfl) σ) (pa_cons (pv 0) (pa_cons (pe_int) pa_nil))))
    (pss_cons (ps_set (i := 2) nd rfl (Or.inl rfl) (pe_cell))
    (pss_cons (ps_set (i := 3) nd rfl (Or.inl rfl) (pe_callS G_ulaw_odd_primes (hr.mono (by decide)) (by rfl) T.g_ulaw_odd_primes T.F_ulaw_odd_primes.kp T.b_ulaw_odd_primes (fun σ => passAt (takes_of rfl rfl rfl rfl) σ) (pa_cons (pe_int) pa_nil)))
    (pss_cons (ps_set (i := 4) nd rfl (Or.inl rfl) (pe_callS G_ulaw_pick (hr.mono (by decide)) (by rfl) T.g_ulaw_pick T.F_ulaw_pick.kp T.b_ulaw_pick (fun σ => passAt (takes_of rfl rfl rfl rfl) σ) (pa_cons (pv 1) (pa_cons (pv 2) (pa_cons (pe_lst (pa_cons (pe_int) (pa_cons (pe_int) (pa_cons (pe_int) (pa_cons (pe_int) (pa_cons (pe_int) (pa_cons (pe_int) (pa_cons (pe_int) (pa_cons (pe_int) (pa_cons (pe_int) (pa_cons (pe_int) pa_nil))))))))))) pa_nil)))))
    (pss_cut (ps_if (pt_cmpR (op_eqUK K hr) (pe_callS G_ulaw_next (hr.mono (by decide)) (by rfl) T.g_ulaw_next T.F_ulaw_next.kp T.b_ulaw_next (fun σ => passAt (takes_of rfl rfl rfl rfl) σ) (pa_cons (pv 1) (pa_cons (pv 2) (pa_cons (pe_int) pa_nil)))) (pe_int) (by first | exact nomark _ | rfl)) (pss_one (ps_set (i := 4) nd rfl (Or.inl rfl) (pe_callS G_ulaw_pick (hr.mono (by decide)) (by rfl) T.g_ulaw_pick T.F_ulaw_pick.kp T.b_ulaw_pick (fun σ => passAt (takes_of rfl rfl rfl rfl) σ) (pa_cons (pv 1) (pa_cons (pv 2) (pa_cons (pv 3) pa_nil)))))) pss_nil)
    (pss_cons (ps_set (i := 5) nd rfl (Or.inl rfl) (pe_callS G_ulaw_nonsquare (hr.mono (by decide)) (by rfl) T.g_ulaw_nonsquare T.F_ulaw_nonsquare.kp T.b_ulaw_nonsquare (fun σ => passAt (takes_of rfl rfl rfl rfl) σ) (pa_cons (pv 4) pa_nil)))
    (pss_cons (ps_set (i := 6) nd rfl (Or.inl rfl) (pe_lst pa_nil))
    (pss_cons (ps_for (passes_of rfl) rfl (pi_range1 (by rfl) T.n_range (pa_cons (pe_int) pa_nil)) (pg_name (i := 7) nd rfl (Or.inl rfl))
    (pss_cons (ps_set (i := 8) nd rfl (Or.inl rfl) (pe_callS G_ulaw_residue (hr.mono (by decide)) (by rfl) T.g_ulaw_residue T.F_ulaw_residue.kp T.b_ulaw_residue (fun σ => passAt (takes_of rfl rfl rfl rfl) σ) (pa_cons (pv 1) (pa_cons (pv 2) (pa_cons (pv 4) pa_nil)))))
    (pss_one (ps_expr (pe_bmK K PySem.F.plainAttrs_list PySem.F.slot_list_append PySem.F.type_list_append mt_append (pv 6) (pa_cons (pe_tup (pa_cons (pv 8) (pa_cons (pe_callS G_ulaw_residue (hr.mono (by decide)) (by rfl) T.g_ulaw_residue T.F_ulaw_residue.kp T.b_ulaw_residue (fun σ => passAt (takes_of rfl rfl rfl rfl) σ) (pa_cons (pv 1) (pa_cons (pv 2) (pa_cons (pv 4) pa_nil)))) pa_nil))) pa_nil))))))
    (pss_cons (ps_set (i := 9) nd rfl (Or.inl rfl) (pe_op (op_addUK K) (pe_lst (pa_cons (pe_tup (pa_cons (pe_int) (pa_cons (pe_int) pa_nil))) (pa_cons (pe_tup (pa_cons (pe_int) (pa_cons (pe_int) pa_nil))) (pa_cons (pe_tup (pa_cons (pe_int) (pa_cons (pe_int) pa_nil))) pa_nil)))) (pv 6)))
    (pss_cons (ps_for (passes_of rfl) rfl (pi_UK K (pv 9)) (pg_name (i := 10) nd rfl (Or.inl rfl))
    (pss_cons (ps_for (passes_of rfl) rfl (pi_UK K (pv 6)) (pg_name (i := 11) nd rfl (Or.inl rfl))
    (pss_one (ps_if (pt_not (pt_truthK K (pe_callS G_ulaw_products_told (hr.mono (by decide)) (by rfl) T.g_ulaw_products_told T.F_ulaw_products_told.kp T.b_ulaw_products_told (fun σ => passAt (takes_of rfl rfl rfl rfl) σ) (pa_cons (pv 4) (pa_cons (pv 5) (pa_cons (pv 10) (pa_cons (pv 11) pa_nil))))))) (pss_one (ps_ret (pe_bl))) pss_nil)))
    (pss_one (ps_if (pt_not (pt_truthK K (pe_callS G_ulaw_powers_told (hr.mono (by decide)) (by rfl) T.g_ulaw_powers_told T.F_ulaw_powers_told.kp T.b_ulaw_powers_told (fun σ => passAt (takes_of rfl rfl rfl rfl) σ) (pa_cons (pv 1) (pa_cons (pv 2) (pa_cons (pv 4) (pa_cons (pv 5) (pa_cons (pv 10) pa_nil)))))))) (pss_one (ps_ret (pe_bl))) pss_nil))))
    (pss_cons (ps_set (i := 12) nd rfl (Or.inl rfl) (pe_op (op_addUK K) (pe_int) (pe_callS G_ulaw_next (hr.mono (by decide)) (by rfl) T.g_ulaw_next T.F_ulaw_next.kp T.b_ulaw_next (fun σ => passAt (takes_of rfl rfl rfl rfl) σ) (pa_cons (pv 1) (pa_cons (pv 2) (pa_cons (pe_int) pa_nil))))))
    (pss_cut (ps_if (pt_cmpR (op_eqUK K hr) (pe_callS G_ulaw_next (hr.mono (by decide)) (by rfl) T.g_ulaw_next T.F_ulaw_next.kp T.b_ulaw_next (fun σ => passAt (takes_of rfl rfl rfl rfl) σ) (pa_cons (pv 1) (pa_cons (pv 2) (pa_cons (pe_int) pa_nil)))) (pe_int) (by first | exact nomark _ | rfl)) (pss_one (ps_set (i := 12) nd rfl (Or.inl rfl) (pe_int))) pss_nil)
    (pss_cons (ps_set (i := 13) nd rfl (Or.inl rfl) (pe_callS G_twofold_power (hr.mono (by decide)) (by rfl) T.g_twofold_power T.F_twofold_power.kp T.b_twofold_power (fun σ => passAt (takes_of rfl rfl rfl rfl) σ) (pa_cons (pv 4) (pa_cons (pe_ix (ix_UK K) (pv 6) (pe_int) (fun _ _ => rfl)) (pa_cons (pv 12) pa_nil)))))
    (pss_cons (ps_if (pt_not (pt_truthK K (pe_callS G_ulaw_is_pair (hr.mono (by decide)) (by rfl) T.g_ulaw_is_pair T.F_ulaw_is_pair.kp T.b_ulaw_is_pair (fun σ => passAt (takes_of rfl rfl rfl rfl) σ) (pa_cons (pv 13) (pa_cons (pe_callS G_ulaw_powered (hr.mono (by decide)) (by rfl) T.g_ulaw_powered T.F_ulaw_powered.kp T.b_ulaw_powered (fun σ => passAt (takes_of rfl rfl rfl rfl) σ) (pa_cons (pv 4) (pa_cons (pv 5) (pa_cons (pe_ix (ix_UK K) (pv 6) (pe_int) (fun _ _ => rfl)) (pa_cons (pv 12) pa_nil))))) pa_nil))))) (pss_one (ps_ret (pe_bl))) pss_nil)
    (pss_cons (ps_set (i := 14) nd rfl (Or.inl rfl) (pe_callS G_ulaw_pick (hr.mono (by decide)) (by rfl) T.g_ulaw_pick T.F_ulaw_pick.kp T.b_ulaw_pick (fun σ => passAt (takes_of rfl rfl rfl rfl) σ) (pa_cons (pv 1) (pa_cons (pv 2) (pa_cons (pe_lc (own := [("other", 15)]) (g := gName 15) rfl nd (pi_UK K (pv 3)) (blkOk_by (N := ["script", "cells", "at", "primes", "p", "u", "drawn", "k", "whole", "pairs", "one", "two", "far", "told", "small", "other"]) (sc := defScope s_law) (by decide +kernel)) (fun _ _ _ _ _ => (pg_name (i := 15) nd rfl (Or.inl rfl))) (fun _ _ _ _ _ => (pts_one (pt_cmpR op_lt (pv 15) (pe_int) (by first | exact nomark _ | rfl)))) (fun _ _ _ _ _ => (pv 15))) pa_nil)))))
    (pss_cut (ps_if (pt_cmpR (op_eqUK K hr) (pe_callS G_ulaw_next (hr.mono (by decide)) (by rfl) T.g_ulaw_next T.F_ulaw_next.kp T.b_ulaw_next (fun σ => passAt (takes_of rfl rfl rfl rfl) σ) (pa_cons (pv 1) (pa_cons (pv 2) (pa_cons (pe_int) pa_nil)))) (pe_int) (by first | exact nomark _ | rfl)) (pss_one (ps_set (i := 14) nd rfl (Or.inl rfl) (pv 4))) pss_nil)
    (pss_cons (ps_if (PW.pt (pw_or (pt_not (pt_truthK K (pe_callS G_ulaw_ones_told (hr.mono (by decide)) (by rfl) T.g_ulaw_ones_told T.F_ulaw_ones_told.kp T.b_ulaw_ones_told (fun σ => passAt (takes_of rfl rfl rfl rfl) σ) (pa_cons (pv 14) pa_nil)))) (pw_or1 (pt_not (pt_truthK K (pe_callS G_ulaw_refuses_primes (hr.mono (by decide)) (by rfl) T.g_ulaw_refuses_primes T.F_ulaw_refuses_primes.kp T.b_ulaw_refuses_primes (fun σ => passAt (takes_of rfl rfl rfl rfl) σ) (pa_cons (pv 1) (pa_cons (pv 2) pa_nil)))))))) (pss_one (ps_ret (pe_bl))) pss_nil)
    (pss_one (ps_ret (pe_callS G_ulaw_refuses_pairs (hr.mono (by decide)) (by rfl) T.g_ulaw_refuses_pairs T.F_ulaw_refuses_pairs.kp T.b_ulaw_refuses_pairs (fun σ => passAt (takes_of rfl rfl rfl rfl) σ) (pa_cons (pv 1) (pa_cons (pv 2) (pa_cons (pv 4) (pa_cons (pe_ix (ix_UK K) (pv 6) (pe_int) (fun _ _ => rfl)) (pa_cons (pe_ix (ix_UK K) (pv 6) (pe_int) (fun _ _ => rfl)) pa_nil))))))))))))))))))))))))), ?_⟩
  obtain ⟨sc, ns, rfl, hS, hlen, k⟩ := h
  walk_at "rd"
  refine ⟨sc, ns, 120, rfl, hS, hlen, by omega, by omega, fun H1 c xs s1 nc ec hl hdg => ?_⟩
  walk_at "rd"
  rename_i a H2 na s2 ea
  have hD2 : Draw K H2 c a := ⟨⟨xs, s2.seq (SqL.of ec), by omega⟩, ea⟩
  refine ⟨rfl, fun H3 r s3 nr er => ?_⟩
  have hD3 := s3.draw hD2
  walk_at "rd"
  rename_i m H4 nm s4 em
  have hm : H4 m = some (.lst (ten0.map V.int)) := em
  refine ⟨c, a, m, ten0, rfl, s4.draw hD3, SqL.of hm, by decide, fun p0 hp0 => ?_⟩
  have hp0 := ten0_ok p0 hp0
  walk_at "rd"
  have hD4 := s4.draw hD3
  have h3m : (3 : Int) ∈ primesTo 997 := mem_primes.mpr ⟨by decide +kernel, by decide⟩
  refine cut_i (fun σ H' => H4 = H' ∧ ∃ p : Int, σ = [some (.ref sc), some (.ref c), some (.ref a), some (.ref r), some (.int p), none, none, none, none, none, none, none, none, none, none, none] ∧ isP p = true ∧ p ≤ 997) ?_ ?_
  · walk_at "rd"
    refine ⟨c, a, 2, rfl, hD4, by omega, fun n n0 n1 => ?_⟩
    walk_at "rd"
    refine Br_d (fun _ => ?_) (fun _ => ?_)
    · walk_at "rd"
      refine ⟨c, a, r, primesTo 997, rfl, hD4, SqL.of (s4 _ _ er), List.length_pos_of_mem h3m, fun p hp => ?_⟩
      have := mem_primes.mp hp
      walk_at "rd"
      exact ⟨rfl, _, rfl, this.1, this.2⟩
    · exact ⟨rfl, _, rfl, hp0.1, hp0.2⟩
  rintro σ _ ⟨rfl, p, rfl, hp, h9⟩
  have hp3 := (isP_nat hp).2
  have hpp : 0 ≤ p ∧ p ≤ 997 ∧ isP p = true := ⟨by omega, h9, hp⟩
  obtain ⟨l1, l2, l3, l4⟩ := lns_spec hp
  walk_at "rd"
  refine ⟨p, rfl, hp, h9, fun H5 s5 => ?_⟩
  walk_at "rd"
  rename_i D H6 nD s6 eD
  have hD5 := s5.draw hD4
  refine tFor_i (w1 ?_)
  walk_at "rd"
  refine W1_i (by omega) ?_
  refine forS srcR (fun i σ H' => ∃ (v7 v8 : Option V) (vs : List V), σ = [some (.ref sc), some (.ref c), some (.ref a), some (.ref r), some (.int p), some (.int (lns p)), some (.ref D), v7, v8, none, none, none, none, none, none, none] ∧ Same H5 H' ∧ Same H5 (del H' D) ∧ H' D = some (.lst vs) ∧ vs.length = i ∧ PL K p (del H' D) vs) ⟨none, none, [], rfl, s6, s6.todel nD, eD, rfl, PL.nil⟩ (fun _ _ _ _ _ => trivial) ?_ ?_
  · rintro i σ H7 z H8 hi ⟨v7, v8, vs, rfl, s7, s7d, e7, hl7, hP⟩ ⟨rfl, rfl⟩
    have hi' : i < 3 := hi
    walk_at "rd"
    refine ⟨c, a, p, rfl, s7.draw hD5, by omega, fun n1 n10 n11 => ?_⟩
    walk_at "rd"
    refine ⟨c, a, p, rfl, s7.draw hD5, by omega, fun n2 n20 n21 => ?_⟩
    walk_at "rd"
    rename_i q H9 nq s9 e9
    refine append_i (s9 _ _ e7) (Nat.lt_of_lt_of_le (by omega : _ < 1000) (Nat.le_of_ble_eq_true rfl)) fun H10 ch e10 s10 => ?_
    have hd : del H10 D = del H9 D := s10.2
    refine ⟨_, _, _, rfl, s10.1 _ (s7.trans s9) nD, ?_, e10, by rw [List.length_append, hl7]; rfl, ?_⟩
    · rw [hd]
      exact s7d.trans s9.del
    · rw [hd]
      exact (hP.same s9.del).app (PL.one (x := (n1, n2)) (SqT.of (del_new e9 nq e7)) ⟨⟨n10, by show n1 ≤ p - 1; omega⟩, ⟨n20, by show n2 ≤ p - 1; omega⟩⟩)
  rintro σ H7 ⟨v7, v8, vs, rfl, s7, s7d, e7, hl7, hP⟩
  have hl7 : vs.length = 3 := hl7
  have hP7 : PL K p H7 vs := hP.same Same.undel
  have hD7 := s7.draw hD5
  walk_at "rd"
  rename_i q1 G1 nq1 t1 f1 q2 G2 nq2 t2 f2 q3 G3 nq3 t3 f3 l0 G4 nl0 t4 f4
  have s74 : Same H7 G4 := t1.trans (t2.trans (t3.trans t4))
  refine rAddU_l f4 (s74 _ _ e7) (Nat.le_trans (by rw [hl7]; exact Nat.le_refl 6 : _ ≤ 6) (Nat.le_of_ble_eq_true rfl)) fun l G5 nl t5 el => ?_
  have s75 := s74.trans t5
  have z0 : 0 ≤ (0 : Int) ∧ (0 : Int) ≤ p - 1 := by omega
  have z1 : 0 ≤ (1 : Int) ∧ (1 : Int) ≤ p - 1 := by omega
  have hPL : PL K p G5 ([.ref q1, .ref q2, .ref q3] ++ vs) := by
    have p1 := PL.one (K := K) (p := p) (x := (0, 0)) (SqT.of ((t2.trans (t3.trans (t4.trans t5))) _ _ f1)) ⟨z0, z0⟩
    have p2 := PL.one (K := K) (p := p) (x := (1, 0)) (SqT.of ((t3.trans (t4.trans t5)) _ _ f2)) ⟨z1, z0⟩
    have p3 := PL.one (K := K) (p := p) (x := (0, 1)) (SqT.of ((t4.trans t5) _ _ f3)) ⟨z0, z1⟩
    exact (p1.app (p2.app p3)).app (hP7.same s75)
  generalize [V.ref q1, V.ref q2, V.ref q3] ++ vs = ps at el hPL
  have eD5 := s75 _ _ e7
  have hPD := hP7.same s75
  have hD75 := s75.draw hD7
  walk_at "rd"
  refine tFor_i (wL ?_)
  walk_at "rd"
  refine WL_i ps (SqL.of el) ?_
  refine forS (srcL (xs := ps)) (fun i σ H' => ∃ (v7 v8 v10 v11 : Option V), σ = [some (.ref sc), some (.ref c), some (.ref a), some (.ref r), some (.int p), some (.int (lns p)), some (.ref D), v7, v8, some (.ref l), v10, v11, none, none, none, none] ∧ Same G5 H') ⟨v7, v8, none, none, rfl, Same.refl _⟩ (fun i σ H' _ ⟨_, _, _, _, _, z⟩ => SqL.of (z _ _ el)) ?_ ?_
  · rintro i σ H8 x H9 hi ⟨v7, v8, v10, v11, rfl, s8⟩ ⟨rfl, hx⟩
    obtain ⟨q, x, rfl, hq, okq⟩ := hPL.get hx
    walk_at "rd"
    refine tFor_i (wL ?_)
    walk_at "rd"
    refine WL_i vs (SqL.of (s8 _ _ eD5)) ?_
    refine forS (srcL (xs := vs)) (fun i σ H' => ∃ (v11 : Option V), σ = [some (.ref sc), some (.ref c), some (.ref a), some (.ref r), some (.int p), some (.int (lns p)), some (.ref D), v7, v8, some (.ref l), some (.ref q), v11, none, none, none, none] ∧ Same G5 H') ⟨v11, rfl, s8⟩ (fun i σ H' _ ⟨_, _, z⟩ => SqL.of (z _ _ eD5)) ?_ ?_
    · rintro j σ H10 y H11 hj ⟨v11, rfl, s10⟩ ⟨rfl, hy⟩
      obtain ⟨q', y, rfl, hq', okq'⟩ := hPD.get hy
      walk_at "rd"
      refine ⟨p, x, y, q, q', rfl, hq.same s10, hq'.same s10, hp, h9, okq, okq', fun H12 s12 => ?_⟩
      walk_at "rd"
      exact ⟨_, rfl, s10.trans s12⟩
    · rintro σ H10 ⟨v11, rfl, s10⟩
      walk_at "rd"
      refine ⟨c, a, q, p, x, rfl, s10.draw hD75, hq.same s10, hp, h9, okq, fun H12 s12 => ?_⟩
      walk_at "rd"
      exact ⟨_, _, _, _, rfl, s10.trans s12⟩
  rintro σ H8 ⟨v7, v8, v10, v11, rfl, s8⟩
  have hD8 := s8.draw hD75
  have eD8 := s8 _ _ eD5
  obtain ⟨w0, hw0⟩ : ∃ v, vs[0]? = some v := ⟨_, List.getElem?_eq_getElem (by omega)⟩
  obtain ⟨w1', hw1⟩ : ∃ v, vs[1]? = some v := ⟨_, List.getElem?_eq_getElem (by omega)⟩
  obtain ⟨qa, xa, rfl, hqa, oka⟩ := hPD.get hw0
  obtain ⟨qb, xb, rfl, hqb, okb⟩ := hPD.get hw1
  walk_at "rd"
  refine ⟨c, a, 300, rfl, hD8, by omega, fun n3 n30 n31 => ?_⟩
  walk_at "rd"
  refine cut_i (fun σ H' => H8 = H' ∧ ∃ far : Int, σ = [some (.ref sc), some (.ref c), some (.ref a), some (.ref r), some (.int p), some (.int (lns p)), some (.ref D), v7, v8, some (.ref l), v10, v11, some (.int far), none, none, none] ∧ 0 ≤ far ∧ far ≤ 10000) ?_ ?_
  · walk_at "rd"
    refine ⟨c, a, 8, rfl, hD8, by omega, fun n4 n40 n41 => ?_⟩
    walk_at "rd"
    refine Br_d (fun _ => ?_) (fun _ => ?_)
    · walk_at "rd"
      exact ⟨rfl, _, rfl, by omega, by omega⟩
    · exact ⟨rfl, _, rfl, by omega, by omega⟩
  rintro σ _ ⟨rfl, far, rfl, far0, far1⟩
  walk_at "rd"
  refine rIxU_l (SqL.of eD8) (v := .ref qa) (at_of (j := 0) rfl hw0) ?_
  walk_at "rd"
  refine ⟨p, xa, far, qa, rfl, hqa.same s8, ?_⟩
  refine gtup (by unfold oTwPower prO; rw [if_pos hpp, if_pos oka, if_pos ⟨far0, far1⟩]) fun H9 to s9 eto => ?_
  walk_at "rd"
  refine rIxU_l (SqL.of (s9 _ _ eD8)) (v := .ref qa) (at_of (j := 0) rfl hw0) ?_
  walk_at "rd"
  refine ⟨p, lns p, xa, far, qa, rfl, hqa.same (s8.trans s9), hp3, h9, oka, far0, far1, fun H10 du s10 edu => ?_⟩
  walk_at "rd"
  refine ⟨to, du, pg p (lns p) xa far, rfl, SqT.of (s10 _ _ eto), SqT.of edu, ?_⟩
  walk_at "rd"
  have s90 := s9.trans s10
  have hD10 := s90.draw hD8
  have er10 : H10 r = some (.lst ((primesTo 997).map V.int)) := (s8.trans s90) _ _ (s75 _ _ (s7 _ _ (s5 _ _ (s4 _ _ er))))
  refine tLc_i (wL ?_)
  walk_at "rd"
  refine WL_i _ (SqL.of er10) ?_
  have hpl := primes_len 997
  refine lcS (srcL (xs := (primesTo 997).map V.int)) (fun i _ acc => acc.length ≤ i ∧ acc = (((primesTo 997).take i).filter fun q => decide (q < 100)).map V.int) (fun H' z => SqL.of (z _ _ er10)) ⟨Nat.zero_le _, rfl⟩ ?_ ?_
  · rintro D2 i acc H11 x H12 hi nD2 s11 eD2 ⟨hl, rfl⟩ ⟨rfl, hx⟩
    rw [List.length_map] at hi
    rw [List.getElem?_map, Option.map_eq_some_iff] at hx
    obtain ⟨q, hq, rfl⟩ := hx
    walk_at "rd"
    refine Br_d (fun cq => ?_) (fun cq => ?_)
    · walk_at "rd"
      refine lcY nD2 s11 eD2 (Nat.lt_of_lt_of_le (by omega : _ < 1000) (Nat.le_of_ble_eq_true rfl)) ⟨by rw [List.length_append, List.length_singleton]; omega, ?_⟩
      rw [primes_takeLt hq, if_pos cq, List.map_append]
      rfl
    · refine lcN s11 eD2 ⟨by omega, ?_⟩
      rw [primes_takeLt hq, if_neg cq, List.append_nil]
  rintro fl acc H11 nfl s11 efl ⟨_, rfl⟩
  rw [List.length_map, List.take_length] at efl
  have hD11 := s11.draw hD10
  walk_at "rd"
  refine ⟨c, a, fl, _, rfl, hD11, SqL.of efl, ?_, fun sm hsm => ?_⟩
  · exact List.length_pos_of_mem (List.mem_filter.mpr ⟨h3m, by decide⟩)
  have hsm := mem_primes.mp (List.mem_filter.mp hsm).1
  walk_at "rd"
  refine cut_i (fun σ H' => H11 = H' ∧ ∃ sm : Int, σ = [some (.ref sc), some (.ref c), some (.ref a), some (.ref r), some (.int p), some (.int (lns p)), some (.ref D), v7, v8, some (.ref l), v10, v11, some (.int far), some (.ref to), some (.int sm), none] ∧ isP sm = true ∧ sm ≤ 997) ?_ ?_
  · walk_at "rd"
    refine ⟨c, a, 12, rfl, hD11, by omega, fun n5 n50 n51 => ?_⟩
    walk_at "rd"
    refine Br_d (fun _ => ?_) (fun _ => ?_)
    · walk_at "rd"
      exact ⟨rfl, _, rfl, hp, h9⟩
    · exact ⟨rfl, _, rfl, hsm.1, hsm.2⟩
  rintro σ _ ⟨rfl, sm, rfl, psm, lsm⟩
  walk_at "rd"
  refine ⟨sm, rfl, psm, lsm, fun H12 s12 => ?_⟩
  walk_at "rd"
  refine ⟨c, a, rfl, s12.draw hD11, fun H13 s13 => ?_⟩
  walk_at "rd"
  have sx := s90.trans (s11.trans (s12.trans s13))
  refine rIxU_l (SqL.of (sx _ _ eD8)) (v := .ref qa) (at_of (j := 0) rfl hw0) ?_
  walk_at "rd"
  refine rIxU_l (SqL.of (sx _ _ eD8)) (v := .ref qb) (at_of (j := 1) rfl hw1) ?_
  walk_at "rd"
  refine ⟨c, a, qa, qb, p, xa, xb, rfl, sx.draw hD8, hp, h9, hqa.same (s8.trans sx), hqb.same (s8.trans sx), oka, okb, fun H14 s14 => ?_⟩
  exact k _
end
theorem kbind_norm_0_pair_prime {K : PySem.W.Frag} {a : Addr} {fd : FuncData} (F : Fun K "norm" "norm" s_norm a fd) : KBinds K fd ["prime", "pair"] ["pair", "prime"] gk_norm_0_pair_prime gk_norm_0_pair_prime := by
  obtain ⟨oc, od, kV, doc, pm, an, cdv, ct, osl, rfl, lk, hcd⟩ := F.ex
  refine ⟨fun s us ws _ hl => .of_eq ?_, fun {vs us zs ws} r rz => ?_⟩
  · revert hl
    unfold gk_norm_0_pair_prime
    split
    · intro hl
      rfl
    · intro hl
      cases hl
  · unfold gk_norm_0_pair_prime
    have hr := r.length
    have hz := rz.length
    split
    · match us, ws, r, rz with
      | _, _, .nil, .cons z0 (.cons z1 (.nil)) => exact .cons z1 (.cons z0 (.nil))
    · rename_i hn
      split
      · match vs, zs, r, rz with
        | _, _, .nil, .cons z0 (.cons z1 (.nil)) => exact (hn _ _ rfl rfl).elim
      · exact .nil
theorem all_mk {l : PySem.W.OpenLaw} {w : World} {K : PySem.W.Frag} {h : Heap} {mg : Str → Option Value} {fa : Addr} (X : K.In h) (G : h.Ns mainGlobals mg) (hfa : mg "law" = some (.ref fa))
    {C_EndsError C_SizeError C_NumberError C_TwinError C_PrimeError f_SizeError_init f_NumberError_init f_TwinError_init f_PrimeError_init f_check_number f_is_odd_prime f_check_prime f_least_nonsquare f_check_twofold f_multiplied f_times f_twofold_power f_norm f_norm_ones f_ulaw_draws f_ulaw_next f_ulaw_pick f_ulaw_is_number f_ulaw_odd_primes f_ulaw_no_prime f_ulaw_is_pair f_ulaw_nonsquare f_ulaw_residue f_ulaw_times f_ulaw_norm f_ulaw_powered f_ulaw_ones f_ulaw_refusal f_ulaw_asked f_ulaw_is_refusal f_ulaw_refuses_pairs f_ulaw_refuses_primes f_ulaw_products_told f_ulaw_powers_told f_ulaw_list_told f_ulaw_ones_told f_law : Addr} {oc_SizeError_init kV_SizeError_init dc_SizeError_init pm_SizeError_init cd_SizeError_init ct_SizeError_init oc_NumberError_init kV_NumberError_init dc_NumberError_init pm_NumberError_init cd_NumberError_init ct_NumberError_init oc_TwinError_init kV_TwinError_init dc_TwinError_init pm_TwinError_init cd_TwinError_init ct_TwinError_init oc_PrimeError_init kV_PrimeError_init dc_PrimeError_init pm_PrimeError_init cd_PrimeError_init ct_PrimeError_init oc_check_number kV_check_number dc_check_number pm_check_number cd_check_number ct_check_number oc_is_odd_prime kV_is_odd_prime dc_is_odd_prime pm_is_odd_prime cd_is_odd_prime ct_is_odd_prime oc_check_prime kV_check_prime dc_check_prime pm_check_prime cd_check_prime ct_check_prime oc_least_nonsquare kV_least_nonsquare dc_least_nonsquare pm_least_nonsquare cd_least_nonsquare ct_least_nonsquare oc_check_twofold kV_check_twofold dc_check_twofold pm_check_twofold cd_check_twofold ct_check_twofold oc_multiplied kV_multiplied dc_multiplied pm_multiplied cd_multiplied ct_multiplied oc_times kV_times dc_times pm_times cd_times ct_times oc_twofold_power kV_twofold_power dc_twofold_power pm_twofold_power cd_twofold_power ct_twofold_power oc_norm kV_norm dc_norm pm_norm cd_norm ct_norm oc_norm_ones kV_norm_ones dc_norm_ones pm_norm_ones cd_norm_ones ct_norm_ones oc_ulaw_draws kV_ulaw_draws dc_ulaw_draws pm_ulaw_draws cd_ulaw_draws ct_ulaw_draws oc_ulaw_next kV_ulaw_next dc_ulaw_next pm_ulaw_next cd_ulaw_next ct_ulaw_next oc_ulaw_pick kV_ulaw_pick dc_ulaw_pick pm_ulaw_pick cd_ulaw_pick ct_ulaw_pick oc_ulaw_is_number kV_ulaw_is_number dc_ulaw_is_number pm_ulaw_is_number cd_ulaw_is_number ct_ulaw_is_number oc_ulaw_odd_primes kV_ulaw_odd_primes dc_ulaw_odd_primes pm_ulaw_odd_primes cd_ulaw_odd_primes ct_ulaw_odd_primes oc_ulaw_no_prime kV_ulaw_no_prime dc_ulaw_no_prime pm_ulaw_no_prime cd_ulaw_no_prime ct_ulaw_no_prime oc_ulaw_is_pair kV_ulaw_is_pair dc_ulaw_is_pair pm_ulaw_is_pair cd_ulaw_is_pair ct_ulaw_is_pair oc_ulaw_nonsquare kV_ulaw_nonsquare dc_ulaw_nonsquare pm_ulaw_nonsquare cd_ulaw_nonsquare ct_ulaw_nonsquare oc_ulaw_residue kV_ulaw_residue dc_ulaw_residue pm_ulaw_residue cd_ulaw_residue ct_ulaw_residue oc_ulaw_times kV_ulaw_times dc_ulaw_times pm_ulaw_times cd_ulaw_times ct_ulaw_times oc_ulaw_norm kV_ulaw_norm dc_ulaw_norm pm_ulaw_norm cd_ulaw_norm ct_ulaw_norm oc_ulaw_powered kV_ulaw_powered dc_ulaw_powered pm_ulaw_powered cd_ulaw_powered ct_ulaw_powered oc_ulaw_ones kV_ulaw_ones dc_ulaw_ones pm_ulaw_ones cd_ulaw_ones ct_ulaw_ones oc_ulaw_refusal kV_ulaw_refusal dc_ulaw_refusal pm_ulaw_refusal cd_ulaw_refusal ct_ulaw_refusal oc_ulaw_asked kV_ulaw_asked dc_ulaw_asked pm_ulaw_asked cd_ulaw_asked ct_ulaw_asked oc_ulaw_is_refusal kV_ulaw_is_refusal dc_ulaw_is_refusal pm_ulaw_is_refusal cd_ulaw_is_refusal ct_ulaw_is_refusal oc_ulaw_refuses_pairs kV_ulaw_refuses_pairs dc_ulaw_refuses_pairs pm_ulaw_refuses_pairs cd_ulaw_refuses_pairs ct_ulaw_refuses_pairs oc_ulaw_refuses_primes kV_ulaw_refuses_primes dc_ulaw_refuses_primes pm_ulaw_refuses_primes cd_ulaw_refuses_primes ct_ulaw_refuses_primes oc_ulaw_products_told kV_ulaw_products_told dc_ulaw_products_told pm_ulaw_products_told cd_ulaw_products_told ct_ulaw_products_told oc_ulaw_powers_told kV_ulaw_powers_told dc_ulaw_powers_told pm_ulaw_powers_told cd_ulaw_powers_told ct_ulaw_powers_told oc_ulaw_list_told kV_ulaw_list_told dc_ulaw_list_told pm_ulaw_list_told cd_ulaw_list_told ct_ulaw_list_told oc_ulaw_ones_told kV_ulaw_ones_told dc_ulaw_ones_told pm_ulaw_ones_told cd_ulaw_ones_told ct_ulaw_ones_told oc_law kV_law dc_law pm_law cd_law ct_law : Value} {od_SizeError_init an_SizeError_init od_NumberError_init an_NumberError_init od_TwinError_init an_TwinError_init od_PrimeError_init an_PrimeError_init od_check_number an_check_number od_is_odd_prime an_is_odd_prime od_check_prime an_check_prime od_least_nonsquare an_least_nonsquare od_check_twofold an_check_twofold od_multiplied an_multiplied od_times an_times od_twofold_power an_twofold_power od_norm an_norm od_norm_ones an_norm_ones od_ulaw_draws an_ulaw_draws od_ulaw_next an_ulaw_next od_ulaw_pick an_ulaw_pick od_ulaw_is_number an_ulaw_is_number od_ulaw_odd_primes an_ulaw_odd_primes od_ulaw_no_prime an_ulaw_no_prime od_ulaw_is_pair an_ulaw_is_pair od_ulaw_nonsquare an_ulaw_nonsquare od_ulaw_residue an_ulaw_residue od_ulaw_times an_ulaw_times od_ulaw_norm an_ulaw_norm od_ulaw_powered an_ulaw_powered od_ulaw_ones an_ulaw_ones od_ulaw_refusal an_ulaw_refusal od_ulaw_asked an_ulaw_asked od_ulaw_is_refusal an_ulaw_is_refusal od_ulaw_refuses_pairs an_ulaw_refuses_pairs od_ulaw_refuses_primes an_ulaw_refuses_primes od_ulaw_products_told an_ulaw_products_told od_ulaw_powers_told an_ulaw_powers_told od_ulaw_list_told an_ulaw_list_told od_ulaw_ones_told an_ulaw_ones_told od_law an_law : Option Addr} {sl_SizeError_init sl_NumberError_init sl_TwinError_init sl_PrimeError_init sl_check_number sl_is_odd_prime sl_check_prime sl_least_nonsquare sl_check_twofold sl_multiplied sl_times sl_twofold_power sl_norm sl_norm_ones sl_ulaw_draws sl_ulaw_next sl_ulaw_pick sl_ulaw_is_number sl_ulaw_odd_primes sl_ulaw_no_prime sl_ulaw_is_pair sl_ulaw_nonsquare sl_ulaw_residue sl_ulaw_times sl_ulaw_norm sl_ulaw_powered sl_ulaw_ones sl_ulaw_refusal sl_ulaw_asked sl_ulaw_is_refusal sl_ulaw_refuses_pairs sl_ulaw_refuses_primes sl_ulaw_products_told sl_ulaw_powers_told sl_ulaw_list_told sl_ulaw_ones_told sl_law : Array (Option Value)} {k_MOST : Tok} {nm_SizeError q_SizeError : Str} {N_SizeError : Addr} {bs_SizeError bm_SizeError su_SizeError : List Value} {sn_SizeError : List Str} {ab_SizeError : Bool} {co_SizeError : Option Bool} {dd_SizeError : Option Addr} {k0_SizeError k1_SizeError k2_SizeError k3_SizeError k5_SizeError : Option Value} {nm_NumberError q_NumberError : Str} {N_NumberError : Addr} {bs_NumberError bm_NumberError su_NumberError : List Value} {sn_NumberError : List Str} {ab_NumberError : Bool} {co_NumberError : Option Bool} {dd_NumberError : Option Addr} {k0_NumberError k1_NumberError k2_NumberError k3_NumberError k5_NumberError : Option Value} {nm_TwinError q_TwinError : Str} {N_TwinError : Addr} {bs_TwinError bm_TwinError su_TwinError : List Value} {sn_TwinError : List Str} {ab_TwinError : Bool} {co_TwinError : Option Bool} {dd_TwinError : Option Addr} {k0_TwinError k1_TwinError k2_TwinError k3_TwinError k5_TwinError : Option Value} {nm_PrimeError q_PrimeError : Str} {N_PrimeError : Addr} {bs_PrimeError bm_PrimeError su_PrimeError : List Value} {sn_PrimeError : List Str} {ab_PrimeError : Bool} {co_PrimeError : Option Bool} {dd_PrimeError : Option Addr} {k0_PrimeError k1_PrimeError k2_PrimeError k3_PrimeError k5_PrimeError : Option Value}
    (a_EndsError : PySem.W.nsIn K mainGlobals "EndsError" = some (some (.ref C_EndsError)))
    (hc_EndsError : PySem.W.isClsIn K C_EndsError = true)
    (hg_EndsError : PySem.W.findIn K (.ref C_EndsError) "__getattribute__" = some (some (.builtin "BaseException.__getattribute__")))
    (hk_EndsError : PySem.W.findIn K (.ref C_EndsError) "__getattr__" = some none)
    (hs_EndsError : PySem.W.subIn K (.ref C_EndsError) (.type "BaseException") = some true)
    (hd_EndsError : PySem.W.hasDictIn K C_EndsError = true)
    (ha_EndsError : PySem.W.findIn K (.ref C_EndsError) "__class__" = some (some (.builtin "object.__class__")))
    (hm_EndsError : PySem.W.mroIn K C_EndsError (.type "object") = some true)
    (ty_EndsError : PySem.W.typeIn K (.ref C_EndsError) = some (.type "type"))
    (kc_EndsError : PySem.W.keepIn K (.ref C_EndsError) = true)
    (ex_EndsError : PySem.W.excIn K C_EndsError [.type "ValueError", .type "Exception", .type "BaseException", .type "object"] "ValueError.__new__" = true)
    (a_SizeError : PySem.W.nsIn K mainGlobals "SizeError" = some (some (.ref C_SizeError)))
    (hc_SizeError : PySem.W.isClsIn K C_SizeError = true)
    (hg_SizeError : PySem.W.findIn K (.ref C_SizeError) "__getattribute__" = some (some (.builtin "BaseException.__getattribute__")))
    (hk_SizeError : PySem.W.findIn K (.ref C_SizeError) "__getattr__" = some none)
    (hs_SizeError : PySem.W.subIn K (.ref C_SizeError) (.type "BaseException") = some true)
    (hd_SizeError : PySem.W.hasDictIn K C_SizeError = true)
    (ha_SizeError : PySem.W.findIn K (.ref C_SizeError) "__class__" = some (some (.builtin "object.__class__")))
    (hm_SizeError : PySem.W.mroIn K C_SizeError (.type "object") = some true)
    (ty_SizeError : PySem.W.typeIn K (.ref C_SizeError) = some (.type "type"))
    (kc_SizeError : PySem.W.keepIn K (.ref C_SizeError) = true)
    (i_SizeError : PySem.W.findIn K (.ref C_SizeError) "__init__" = some (some (.ref f_SizeError_init)))
    (xl_SizeError : K.lookup C_SizeError = some (excClassObj nm_SizeError q_SizeError C_SizeError N_SizeError bs_SizeError bm_SizeError true sn_SizeError su_SizeError ab_SizeError co_SizeError dd_SizeError k0_SizeError k1_SizeError k2_SizeError k3_SizeError k5_SizeError "ValueError.__new__"))
    (xr_SizeError : PySem.HandSPX.refsVE bm_SizeError = true)
    (sa_SizeError : PySem.W.findIn K (.ref C_SizeError) "__setattr__" = some (some (.builtin "object.__setattr__")))
    (xn_SizeError_count : PySem.W.findIn K (.ref C_SizeError) "count" = some none)
    (a_NumberError : PySem.W.nsIn K mainGlobals "NumberError" = some (some (.ref C_NumberError)))
    (hc_NumberError : PySem.W.isClsIn K C_NumberError = true)
    (hg_NumberError : PySem.W.findIn K (.ref C_NumberError) "__getattribute__" = some (some (.builtin "BaseException.__getattribute__")))
    (hk_NumberError : PySem.W.findIn K (.ref C_NumberError) "__getattr__" = some none)
    (hs_NumberError : PySem.W.subIn K (.ref C_NumberError) (.type "BaseException") = some true)
    (hd_NumberError : PySem.W.hasDictIn K C_NumberError = true)
    (ha_NumberError : PySem.W.findIn K (.ref C_NumberError) "__class__" = some (some (.builtin "object.__class__")))
    (hm_NumberError : PySem.W.mroIn K C_NumberError (.type "object") = some true)
    (ty_NumberError : PySem.W.typeIn K (.ref C_NumberError) = some (.type "type"))
    (kc_NumberError : PySem.W.keepIn K (.ref C_NumberError) = true)
    (i_NumberError : PySem.W.findIn K (.ref C_NumberError) "__init__" = some (some (.ref f_NumberError_init)))
    (xl_NumberError : K.lookup C_NumberError = some (excClassObj nm_NumberError q_NumberError C_NumberError N_NumberError bs_NumberError bm_NumberError true sn_NumberError su_NumberError ab_NumberError co_NumberError dd_NumberError k0_NumberError k1_NumberError k2_NumberError k3_NumberError k5_NumberError "ValueError.__new__"))
    (xr_NumberError : PySem.HandSPX.refsVE bm_NumberError = true)
    (sa_NumberError : PySem.W.findIn K (.ref C_NumberError) "__setattr__" = some (some (.builtin "object.__setattr__")))
    (xn_NumberError_number : PySem.W.findIn K (.ref C_NumberError) "number" = some none)
    (a_TwinError : PySem.W.nsIn K mainGlobals "TwinError" = some (some (.ref C_TwinError)))
    (hc_TwinError : PySem.W.isClsIn K C_TwinError = true)
    (hg_TwinError : PySem.W.findIn K (.ref C_TwinError) "__getattribute__" = some (some (.builtin "BaseException.__getattribute__")))
    (hk_TwinError : PySem.W.findIn K (.ref C_TwinError) "__getattr__" = some none)
    (hs_TwinError : PySem.W.subIn K (.ref C_TwinError) (.type "BaseException") = some true)
    (hd_TwinError : PySem.W.hasDictIn K C_TwinError = true)
    (ha_TwinError : PySem.W.findIn K (.ref C_TwinError) "__class__" = some (some (.builtin "object.__class__")))
    (hm_TwinError : PySem.W.mroIn K C_TwinError (.type "object") = some true)
    (ty_TwinError : PySem.W.typeIn K (.ref C_TwinError) = some (.type "type"))
    (kc_TwinError : PySem.W.keepIn K (.ref C_TwinError) = true)
    (i_TwinError : PySem.W.findIn K (.ref C_TwinError) "__init__" = some (some (.ref f_TwinError_init)))
    (xl_TwinError : K.lookup C_TwinError = some (excClassObj nm_TwinError q_TwinError C_TwinError N_TwinError bs_TwinError bm_TwinError true sn_TwinError su_TwinError ab_TwinError co_TwinError dd_TwinError k0_TwinError k1_TwinError k2_TwinError k3_TwinError k5_TwinError "ValueError.__new__"))
    (xr_TwinError : PySem.HandSPX.refsVE bm_TwinError = true)
    (sa_TwinError : PySem.W.findIn K (.ref C_TwinError) "__setattr__" = some (some (.builtin "object.__setattr__")))
    (xn_TwinError_number : PySem.W.findIn K (.ref C_TwinError) "number" = some none)
    (a_PrimeError : PySem.W.nsIn K mainGlobals "PrimeError" = some (some (.ref C_PrimeError)))
    (hc_PrimeError : PySem.W.isClsIn K C_PrimeError = true)
    (hg_PrimeError : PySem.W.findIn K (.ref C_PrimeError) "__getattribute__" = some (some (.builtin "BaseException.__getattribute__")))
    (hk_PrimeError : PySem.W.findIn K (.ref C_PrimeError) "__getattr__" = some none)
    (hs_PrimeError : PySem.W.subIn K (.ref C_PrimeError) (.type "BaseException") = some true)
    (hd_PrimeError : PySem.W.hasDictIn K C_PrimeError = true)
    (ha_PrimeError : PySem.W.findIn K (.ref C_PrimeError) "__class__" = some (some (.builtin "object.__class__")))
    (hm_PrimeError : PySem.W.mroIn K C_PrimeError (.type "object") = some true)
    (ty_PrimeError : PySem.W.typeIn K (.ref C_PrimeError) = some (.type "type"))
    (kc_PrimeError : PySem.W.keepIn K (.ref C_PrimeError) = true)
    (i_PrimeError : PySem.W.findIn K (.ref C_PrimeError) "__init__" = some (some (.ref f_PrimeError_init)))
    (xl_PrimeError : K.lookup C_PrimeError = some (excClassObj nm_PrimeError q_PrimeError C_PrimeError N_PrimeError bs_PrimeError bm_PrimeError true sn_PrimeError su_PrimeError ab_PrimeError co_PrimeError dd_PrimeError k0_PrimeError k1_PrimeError k2_PrimeError k3_PrimeError k5_PrimeError "ValueError.__new__"))
    (xr_PrimeError : PySem.HandSPX.refsVE bm_PrimeError = true)
    (sa_PrimeError : PySem.W.findIn K (.ref C_PrimeError) "__setattr__" = some (some (.builtin "object.__setattr__")))
    (xn_PrimeError_prime : PySem.W.findIn K (.ref C_PrimeError) "prime" = some none)
    (hnD : PySem.W.specialIn K (.builtin "object.__class__") "__get__" = some (some (.builtin "getset_descriptor.__get__")))
    (htD : PySem.W.takesIn K (.builtin "object.__class__") = some true)
    (l_SizeError_init : K.lookup f_SizeError_init = some ⟨oc_SizeError_init, od_SizeError_init, .func (PySem.W.fnOf "__init__" "SizeError.__init__" (defArgs s_SizeError_init) (defBody s_SizeError_init) (defScope s_SizeError_init) .none kV_SizeError_init dc_SizeError_init pm_SizeError_init an_SizeError_init cd_SizeError_init ct_SizeError_init), sl_SizeError_init⟩)
    (c_SizeError_init : PySem.W.codeIn K cd_SizeError_init "SizeError.__init__" = true)
    (k_SizeError_init : PySem.W.keepIn K (.ref f_SizeError_init) = true)
    (t_SizeError_init : PySem.W.typeIn K (.ref f_SizeError_init) = some (.type "function"))
    (l_NumberError_init : K.lookup f_NumberError_init = some ⟨oc_NumberError_init, od_NumberError_init, .func (PySem.W.fnOf "__init__" "NumberError.__init__" (defArgs s_NumberError_init) (defBody s_NumberError_init) (defScope s_NumberError_init) .none kV_NumberError_init dc_NumberError_init pm_NumberError_init an_NumberError_init cd_NumberError_init ct_NumberError_init), sl_NumberError_init⟩)
    (c_NumberError_init : PySem.W.codeIn K cd_NumberError_init "NumberError.__init__" = true)
    (k_NumberError_init : PySem.W.keepIn K (.ref f_NumberError_init) = true)
    (t_NumberError_init : PySem.W.typeIn K (.ref f_NumberError_init) = some (.type "function"))
    (l_TwinError_init : K.lookup f_TwinError_init = some ⟨oc_TwinError_init, od_TwinError_init, .func (PySem.W.fnOf "__init__" "TwinError.__init__" (defArgs s_TwinError_init) (defBody s_TwinError_init) (defScope s_TwinError_init) .none kV_TwinError_init dc_TwinError_init pm_TwinError_init an_TwinError_init cd_TwinError_init ct_TwinError_init), sl_TwinError_init⟩)
    (c_TwinError_init : PySem.W.codeIn K cd_TwinError_init "TwinError.__init__" = true)
    (k_TwinError_init : PySem.W.keepIn K (.ref f_TwinError_init) = true)
    (t_TwinError_init : PySem.W.typeIn K (.ref f_TwinError_init) = some (.type "function"))
    (l_PrimeError_init : K.lookup f_PrimeError_init = some ⟨oc_PrimeError_init, od_PrimeError_init, .func (PySem.W.fnOf "__init__" "PrimeError.__init__" (defArgs s_PrimeError_init) (defBody s_PrimeError_init) (defScope s_PrimeError_init) .none kV_PrimeError_init dc_PrimeError_init pm_PrimeError_init an_PrimeError_init cd_PrimeError_init ct_PrimeError_init), sl_PrimeError_init⟩)
    (c_PrimeError_init : PySem.W.codeIn K cd_PrimeError_init "PrimeError.__init__" = true)
    (k_PrimeError_init : PySem.W.keepIn K (.ref f_PrimeError_init) = true)
    (t_PrimeError_init : PySem.W.typeIn K (.ref f_PrimeError_init) = some (.type "function"))
    (a_check_number : PySem.W.nsIn K mainGlobals "check_number" = some (some (.ref f_check_number)))
    (l_check_number : K.lookup f_check_number = some ⟨oc_check_number, od_check_number, .func (PySem.W.fnOf "check_number" "check_number" (defArgs s_check_number) (defBody s_check_number) (defScope s_check_number) .none kV_check_number dc_check_number pm_check_number an_check_number cd_check_number ct_check_number), sl_check_number⟩)
    (c_check_number : PySem.W.codeIn K cd_check_number "check_number" = true)
    (k_check_number : PySem.W.keepIn K (.ref f_check_number) = true)
    (a_is_odd_prime : PySem.W.nsIn K mainGlobals "is_odd_prime" = some (some (.ref f_is_odd_prime)))
    (l_is_odd_prime : K.lookup f_is_odd_prime = some ⟨oc_is_odd_prime, od_is_odd_prime, .func (PySem.W.fnOf "is_odd_prime" "is_odd_prime" (defArgs s_is_odd_prime) (defBody s_is_odd_prime) (defScope s_is_odd_prime) .none kV_is_odd_prime dc_is_odd_prime pm_is_odd_prime an_is_odd_prime cd_is_odd_prime ct_is_odd_prime), sl_is_odd_prime⟩)
    (c_is_odd_prime : PySem.W.codeIn K cd_is_odd_prime "is_odd_prime" = true)
    (k_is_odd_prime : PySem.W.keepIn K (.ref f_is_odd_prime) = true)
    (a_check_prime : PySem.W.nsIn K mainGlobals "check_prime" = some (some (.ref f_check_prime)))
    (l_check_prime : K.lookup f_check_prime = some ⟨oc_check_prime, od_check_prime, .func (PySem.W.fnOf "check_prime" "check_prime" (defArgs s_check_prime) (defBody s_check_prime) (defScope s_check_prime) .none kV_check_prime dc_check_prime pm_check_prime an_check_prime cd_check_prime ct_check_prime), sl_check_prime⟩)
    (c_check_prime : PySem.W.codeIn K cd_check_prime "check_prime" = true)
    (k_check_prime : PySem.W.keepIn K (.ref f_check_prime) = true)
    (a_least_nonsquare : PySem.W.nsIn K mainGlobals "least_nonsquare" = some (some (.ref f_least_nonsquare)))
    (l_least_nonsquare : K.lookup f_least_nonsquare = some ⟨oc_least_nonsquare, od_least_nonsquare, .func (PySem.W.fnOf "least_nonsquare" "least_nonsquare" (defArgs s_least_nonsquare) (defBody s_least_nonsquare) (defScope s_least_nonsquare) .none kV_least_nonsquare dc_least_nonsquare pm_least_nonsquare an_least_nonsquare cd_least_nonsquare ct_least_nonsquare), sl_least_nonsquare⟩)
    (c_least_nonsquare : PySem.W.codeIn K cd_least_nonsquare "least_nonsquare" = true)
    (k_least_nonsquare : PySem.W.keepIn K (.ref f_least_nonsquare) = true)
    (a_check_twofold : PySem.W.nsIn K mainGlobals "check_twofold" = some (some (.ref f_check_twofold)))
    (l_check_twofold : K.lookup f_check_twofold = some ⟨oc_check_twofold, od_check_twofold, .func (PySem.W.fnOf "check_twofold" "check_twofold" (defArgs s_check_twofold) (defBody s_check_twofold) (defScope s_check_twofold) .none kV_check_twofold dc_check_twofold pm_check_twofold an_check_twofold cd_check_twofold ct_check_twofold), sl_check_twofold⟩)
    (c_check_twofold : PySem.W.codeIn K cd_check_twofold "check_twofold" = true)
    (k_check_twofold : PySem.W.keepIn K (.ref f_check_twofold) = true)
    (a_multiplied : PySem.W.nsIn K mainGlobals "multiplied" = some (some (.ref f_multiplied)))
    (l_multiplied : K.lookup f_multiplied = some ⟨oc_multiplied, od_multiplied, .func (PySem.W.fnOf "multiplied" "multiplied" (defArgs s_multiplied) (defBody s_multiplied) (defScope s_multiplied) .none kV_multiplied dc_multiplied pm_multiplied an_multiplied cd_multiplied ct_multiplied), sl_multiplied⟩)
    (c_multiplied : PySem.W.codeIn K cd_multiplied "multiplied" = true)
    (k_multiplied : PySem.W.keepIn K (.ref f_multiplied) = true)
    (a_times : PySem.W.nsIn K mainGlobals "times" = some (some (.ref f_times)))
    (l_times : K.lookup f_times = some ⟨oc_times, od_times, .func (PySem.W.fnOf "times" "times" (defArgs s_times) (defBody s_times) (defScope s_times) .none kV_times dc_times pm_times an_times cd_times ct_times), sl_times⟩)
    (c_times : PySem.W.codeIn K cd_times "times" = true)
    (k_times : PySem.W.keepIn K (.ref f_times) = true)
    (a_twofold_power : PySem.W.nsIn K mainGlobals "twofold_power" = some (some (.ref f_twofold_power)))
    (l_twofold_power : K.lookup f_twofold_power = some ⟨oc_twofold_power, od_twofold_power, .func (PySem.W.fnOf "twofold_power" "twofold_power" (defArgs s_twofold_power) (defBody s_twofold_power) (defScope s_twofold_power) .none kV_twofold_power dc_twofold_power pm_twofold_power an_twofold_power cd_twofold_power ct_twofold_power), sl_twofold_power⟩)
    (c_twofold_power : PySem.W.codeIn K cd_twofold_power "twofold_power" = true)
    (k_twofold_power : PySem.W.keepIn K (.ref f_twofold_power) = true)
    (a_norm : PySem.W.nsIn K mainGlobals "norm" = some (some (.ref f_norm)))
    (l_norm : K.lookup f_norm = some ⟨oc_norm, od_norm, .func (PySem.W.fnOf "norm" "norm" (defArgs s_norm) (defBody s_norm) (defScope s_norm) .none kV_norm dc_norm pm_norm an_norm cd_norm ct_norm), sl_norm⟩)
    (c_norm : PySem.W.codeIn K cd_norm "norm" = true)
    (k_norm : PySem.W.keepIn K (.ref f_norm) = true)
    (a_norm_ones : PySem.W.nsIn K mainGlobals "norm_ones" = some (some (.ref f_norm_ones)))
    (l_norm_ones : K.lookup f_norm_ones = some ⟨oc_norm_ones, od_norm_ones, .func (PySem.W.fnOf "norm_ones" "norm_ones" (defArgs s_norm_ones) (defBody s_norm_ones) (defScope s_norm_ones) .none kV_norm_ones dc_norm_ones pm_norm_ones an_norm_ones cd_norm_ones ct_norm_ones), sl_norm_ones⟩)
    (c_norm_ones : PySem.W.codeIn K cd_norm_ones "norm_ones" = true)
    (k_norm_ones : PySem.W.keepIn K (.ref f_norm_ones) = true)
    (a_ulaw_draws : PySem.W.nsIn K mainGlobals "_law_draws" = some (some (.ref f_ulaw_draws)))
    (l_ulaw_draws : K.lookup f_ulaw_draws = some ⟨oc_ulaw_draws, od_ulaw_draws, .func (PySem.W.fnOf "_law_draws" "_law_draws" (defArgs s_ulaw_draws) (defBody s_ulaw_draws) (defScope s_ulaw_draws) .none kV_ulaw_draws dc_ulaw_draws pm_ulaw_draws an_ulaw_draws cd_ulaw_draws ct_ulaw_draws), sl_ulaw_draws⟩)
    (c_ulaw_draws : PySem.W.codeIn K cd_ulaw_draws "_law_draws" = true)
    (k_ulaw_draws : PySem.W.keepIn K (.ref f_ulaw_draws) = true)
    (a_ulaw_next : PySem.W.nsIn K mainGlobals "_law_next" = some (some (.ref f_ulaw_next)))
    (l_ulaw_next : K.lookup f_ulaw_next = some ⟨oc_ulaw_next, od_ulaw_next, .func (PySem.W.fnOf "_law_next" "_law_next" (defArgs s_ulaw_next) (defBody s_ulaw_next) (defScope s_ulaw_next) .none kV_ulaw_next dc_ulaw_next pm_ulaw_next an_ulaw_next cd_ulaw_next ct_ulaw_next), sl_ulaw_next⟩)
    (c_ulaw_next : PySem.W.codeIn K cd_ulaw_next "_law_next" = true)
    (k_ulaw_next : PySem.W.keepIn K (.ref f_ulaw_next) = true)
    (a_ulaw_pick : PySem.W.nsIn K mainGlobals "_law_pick" = some (some (.ref f_ulaw_pick)))
    (l_ulaw_pick : K.lookup f_ulaw_pick = some ⟨oc_ulaw_pick, od_ulaw_pick, .func (PySem.W.fnOf "_law_pick" "_law_pick" (defArgs s_ulaw_pick) (defBody s_ulaw_pick) (defScope s_ulaw_pick) .none kV_ulaw_pick dc_ulaw_pick pm_ulaw_pick an_ulaw_pick cd_ulaw_pick ct_ulaw_pick), sl_ulaw_pick⟩)
    (c_ulaw_pick : PySem.W.codeIn K cd_ulaw_pick "_law_pick" = true)
    (k_ulaw_pick : PySem.W.keepIn K (.ref f_ulaw_pick) = true)
    (a_ulaw_is_number : PySem.W.nsIn K mainGlobals "_law_is_number" = some (some (.ref f_ulaw_is_number)))
    (l_ulaw_is_number : K.lookup f_ulaw_is_number = some ⟨oc_ulaw_is_number, od_ulaw_is_number, .func (PySem.W.fnOf "_law_is_number" "_law_is_number" (defArgs s_ulaw_is_number) (defBody s_ulaw_is_number) (defScope s_ulaw_is_number) .none kV_ulaw_is_number dc_ulaw_is_number pm_ulaw_is_number an_ulaw_is_number cd_ulaw_is_number ct_ulaw_is_number), sl_ulaw_is_number⟩)
    (c_ulaw_is_number : PySem.W.codeIn K cd_ulaw_is_number "_law_is_number" = true)
    (k_ulaw_is_number : PySem.W.keepIn K (.ref f_ulaw_is_number) = true)
    (a_ulaw_odd_primes : PySem.W.nsIn K mainGlobals "_law_odd_primes" = some (some (.ref f_ulaw_odd_primes)))
    (l_ulaw_odd_primes : K.lookup f_ulaw_odd_primes = some ⟨oc_ulaw_odd_primes, od_ulaw_odd_primes, .func (PySem.W.fnOf "_law_odd_primes" "_law_odd_primes" (defArgs s_ulaw_odd_primes) (defBody s_ulaw_odd_primes) (defScope s_ulaw_odd_primes) .none kV_ulaw_odd_primes dc_ulaw_odd_primes pm_ulaw_odd_primes an_ulaw_odd_primes cd_ulaw_odd_primes ct_ulaw_odd_primes), sl_ulaw_odd_primes⟩)
    (c_ulaw_odd_primes : PySem.W.codeIn K cd_ulaw_odd_primes "_law_odd_primes" = true)
    (k_ulaw_odd_primes : PySem.W.keepIn K (.ref f_ulaw_odd_primes) = true)
    (a_ulaw_no_prime : PySem.W.nsIn K mainGlobals "_law_no_prime" = some (some (.ref f_ulaw_no_prime)))
    (l_ulaw_no_prime : K.lookup f_ulaw_no_prime = some ⟨oc_ulaw_no_prime, od_ulaw_no_prime, .func (PySem.W.fnOf "_law_no_prime" "_law_no_prime" (defArgs s_ulaw_no_prime) (defBody s_ulaw_no_prime) (defScope s_ulaw_no_prime) .none kV_ulaw_no_prime dc_ulaw_no_prime pm_ulaw_no_prime an_ulaw_no_prime cd_ulaw_no_prime ct_ulaw_no_prime), sl_ulaw_no_prime⟩)
    (c_ulaw_no_prime : PySem.W.codeIn K cd_ulaw_no_prime "_law_no_prime" = true)
    (k_ulaw_no_prime : PySem.W.keepIn K (.ref f_ulaw_no_prime) = true)
    (a_ulaw_is_pair : PySem.W.nsIn K mainGlobals "_law_is_pair" = some (some (.ref f_ulaw_is_pair)))
    (l_ulaw_is_pair : K.lookup f_ulaw_is_pair = some ⟨oc_ulaw_is_pair, od_ulaw_is_pair, .func (PySem.W.fnOf "_law_is_pair" "_law_is_pair" (defArgs s_ulaw_is_pair) (defBody s_ulaw_is_pair) (defScope s_ulaw_is_pair) .none kV_ulaw_is_pair dc_ulaw_is_pair pm_ulaw_is_pair an_ulaw_is_pair cd_ulaw_is_pair ct_ulaw_is_pair), sl_ulaw_is_pair⟩)
    (c_ulaw_is_pair : PySem.W.codeIn K cd_ulaw_is_pair "_law_is_pair" = true)
    (k_ulaw_is_pair : PySem.W.keepIn K (.ref f_ulaw_is_pair) = true)
    (a_ulaw_nonsquare : PySem.W.nsIn K mainGlobals "_law_nonsquare" = some (some (.ref f_ulaw_nonsquare)))
    (l_ulaw_nonsquare : K.lookup f_ulaw_nonsquare = some ⟨oc_ulaw_nonsquare, od_ulaw_nonsquare, .func (PySem.W.fnOf "_law_nonsquare" "_law_nonsquare" (defArgs s_ulaw_nonsquare) (defBody s_ulaw_nonsquare) (defScope s_ulaw_nonsquare) .none kV_ulaw_nonsquare dc_ulaw_nonsquare pm_ulaw_nonsquare an_ulaw_nonsquare cd_ulaw_nonsquare ct_ulaw_nonsquare), sl_ulaw_nonsquare⟩)
    (c_ulaw_nonsquare : PySem.W.codeIn K cd_ulaw_nonsquare "_law_nonsquare" = true)
    (k_ulaw_nonsquare : PySem.W.keepIn K (.ref f_ulaw_nonsquare) = true)
    (a_ulaw_residue : PySem.W.nsIn K mainGlobals "_law_residue" = some (some (.ref f_ulaw_residue)))
    (l_ulaw_residue : K.lookup f_ulaw_residue = some ⟨oc_ulaw_residue, od_ulaw_residue, .func (PySem.W.fnOf "_law_residue" "_law_residue" (defArgs s_ulaw_residue) (defBody s_ulaw_residue) (defScope s_ulaw_residue) .none kV_ulaw_residue dc_ulaw_residue pm_ulaw_residue an_ulaw_residue cd_ulaw_residue ct_ulaw_residue), sl_ulaw_residue⟩)
    (c_ulaw_residue : PySem.W.codeIn K cd_ulaw_residue "_law_residue" = true)
    (k_ulaw_residue : PySem.W.keepIn K (.ref f_ulaw_residue) = true)
    (a_ulaw_times : PySem.W.nsIn K mainGlobals "_law_times" = some (some (.ref f_ulaw_times)))
    (l_ulaw_times : K.lookup f_ulaw_times = some ⟨oc_ulaw_times, od_ulaw_times, .func (PySem.W.fnOf "_law_times" "_law_times" (defArgs s_ulaw_times) (defBody s_ulaw_times) (defScope s_ulaw_times) .none kV_ulaw_times dc_ulaw_times pm_ulaw_times an_ulaw_times cd_ulaw_times ct_ulaw_times), sl_ulaw_times⟩)
    (c_ulaw_times : PySem.W.codeIn K cd_ulaw_times "_law_times" = true)
    (k_ulaw_times : PySem.W.keepIn K (.ref f_ulaw_times) = true)
    (a_ulaw_norm : PySem.W.nsIn K mainGlobals "_law_norm" = some (some (.ref f_ulaw_norm)))
    (l_ulaw_norm : K.lookup f_ulaw_norm = some ⟨oc_ulaw_norm, od_ulaw_norm, .func (PySem.W.fnOf "_law_norm" "_law_norm" (defArgs s_ulaw_norm) (defBody s_ulaw_norm) (defScope s_ulaw_norm) .none kV_ulaw_norm dc_ulaw_norm pm_ulaw_norm an_ulaw_norm cd_ulaw_norm ct_ulaw_norm), sl_ulaw_norm⟩)
    (c_ulaw_norm : PySem.W.codeIn K cd_ulaw_norm "_law_norm" = true)
    (k_ulaw_norm : PySem.W.keepIn K (.ref f_ulaw_norm) = true)
    (a_ulaw_powered : PySem.W.nsIn K mainGlobals "_law_powered" = some (some (.ref f_ulaw_powered)))
    (l_ulaw_powered : K.lookup f_ulaw_powered = some ⟨oc_ulaw_powered, od_ulaw_powered, .func (PySem.W.fnOf "_law_powered" "_law_powered" (defArgs s_ulaw_powered) (defBody s_ulaw_powered) (defScope s_ulaw_powered) .none kV_ulaw_powered dc_ulaw_powered pm_ulaw_powered an_ulaw_powered cd_ulaw_powered ct_ulaw_powered), sl_ulaw_powered⟩)
    (c_ulaw_powered : PySem.W.codeIn K cd_ulaw_powered "_law_powered" = true)
    (k_ulaw_powered : PySem.W.keepIn K (.ref f_ulaw_powered) = true)
    (a_ulaw_ones : PySem.W.nsIn K mainGlobals "_law_ones" = some (some (.ref f_ulaw_ones)))
    (l_ulaw_ones : K.lookup f_ulaw_ones = some ⟨oc_ulaw_ones, od_ulaw_ones, .func (PySem.W.fnOf "_law_ones" "_law_ones" (defArgs s_ulaw_ones) (defBody s_ulaw_ones) (defScope s_ulaw_ones) .none kV_ulaw_ones dc_ulaw_ones pm_ulaw_ones an_ulaw_ones cd_ulaw_ones ct_ulaw_ones), sl_ulaw_ones⟩)
    (c_ulaw_ones : PySem.W.codeIn K cd_ulaw_ones "_law_ones" = true)
    (k_ulaw_ones : PySem.W.keepIn K (.ref f_ulaw_ones) = true)
    (a_ulaw_refusal : PySem.W.nsIn K mainGlobals "_law_refusal" = some (some (.ref f_ulaw_refusal)))
    (l_ulaw_refusal : K.lookup f_ulaw_refusal = some ⟨oc_ulaw_refusal, od_ulaw_refusal, .func (PySem.W.fnOf "_law_refusal" "_law_refusal" (defArgs s_ulaw_refusal) (defBody s_ulaw_refusal) (defScope s_ulaw_refusal) .none kV_ulaw_refusal dc_ulaw_refusal pm_ulaw_refusal an_ulaw_refusal cd_ulaw_refusal ct_ulaw_refusal), sl_ulaw_refusal⟩)
    (c_ulaw_refusal : PySem.W.codeIn K cd_ulaw_refusal "_law_refusal" = true)
    (k_ulaw_refusal : PySem.W.keepIn K (.ref f_ulaw_refusal) = true)
    (a_ulaw_asked : PySem.W.nsIn K mainGlobals "_law_asked" = some (some (.ref f_ulaw_asked)))
    (l_ulaw_asked : K.lookup f_ulaw_asked = some ⟨oc_ulaw_asked, od_ulaw_asked, .func (PySem.W.fnOf "_law_asked" "_law_asked" (defArgs s_ulaw_asked) (defBody s_ulaw_asked) (defScope s_ulaw_asked) .none kV_ulaw_asked dc_ulaw_asked pm_ulaw_asked an_ulaw_asked cd_ulaw_asked ct_ulaw_asked), sl_ulaw_asked⟩)
    (c_ulaw_asked : PySem.W.codeIn K cd_ulaw_asked "_law_asked" = true)
    (k_ulaw_asked : PySem.W.keepIn K (.ref f_ulaw_asked) = true)
    (a_ulaw_is_refusal : PySem.W.nsIn K mainGlobals "_law_is_refusal" = some (some (.ref f_ulaw_is_refusal)))
    (l_ulaw_is_refusal : K.lookup f_ulaw_is_refusal = some ⟨oc_ulaw_is_refusal, od_ulaw_is_refusal, .func (PySem.W.fnOf "_law_is_refusal" "_law_is_refusal" (defArgs s_ulaw_is_refusal) (defBody s_ulaw_is_refusal) (defScope s_ulaw_is_refusal) .none kV_ulaw_is_refusal dc_ulaw_is_refusal pm_ulaw_is_refusal an_ulaw_is_refusal cd_ulaw_is_refusal ct_ulaw_is_refusal), sl_ulaw_is_refusal⟩)
    (c_ulaw_is_refusal : PySem.W.codeIn K cd_ulaw_is_refusal "_law_is_refusal" = true)
    (k_ulaw_is_refusal : PySem.W.keepIn K (.ref f_ulaw_is_refusal) = true)
    (a_ulaw_refuses_pairs : PySem.W.nsIn K mainGlobals "_law_refuses_pairs" = some (some (.ref f_ulaw_refuses_pairs)))
    (l_ulaw_refuses_pairs : K.lookup f_ulaw_refuses_pairs = some ⟨oc_ulaw_refuses_pairs, od_ulaw_refuses_pairs, .func (PySem.W.fnOf "_law_refuses_pairs" "_law_refuses_pairs" (defArgs s_ulaw_refuses_pairs) (defBody s_ulaw_refuses_pairs) (defScope s_ulaw_refuses_pairs) .none kV_ulaw_refuses_pairs dc_ulaw_refuses_pairs pm_ulaw_refuses_pairs an_ulaw_refuses_pairs cd_ulaw_refuses_pairs ct_ulaw_refuses_pairs), sl_ulaw_refuses_pairs⟩)
    (c_ulaw_refuses_pairs : PySem.W.codeIn K cd_ulaw_refuses_pairs "_law_refuses_pairs" = true)
    (k_ulaw_refuses_pairs : PySem.W.keepIn K (.ref f_ulaw_refuses_pairs) = true)
    (a_ulaw_refuses_primes : PySem.W.nsIn K mainGlobals "_law_refuses_primes" = some (some (.ref f_ulaw_refuses_primes)))
    (l_ulaw_refuses_primes : K.lookup f_ulaw_refuses_primes = some ⟨oc_ulaw_refuses_primes, od_ulaw_refuses_primes, .func (PySem.W.fnOf "_law_refuses_primes" "_law_refuses_primes" (defArgs s_ulaw_refuses_primes) (defBody s_ulaw_refuses_primes) (defScope s_ulaw_refuses_primes) .none kV_ulaw_refuses_primes dc_ulaw_refuses_primes pm_ulaw_refuses_primes an_ulaw_refuses_primes cd_ulaw_refuses_primes ct_ulaw_refuses_primes), sl_ulaw_refuses_primes⟩)
    (c_ulaw_refuses_primes : PySem.W.codeIn K cd_ulaw_refuses_primes "_law_refuses_primes" = true)
    (k_ulaw_refuses_primes : PySem.W.keepIn K (.ref f_ulaw_refuses_primes) = true)
    (a_ulaw_products_told : PySem.W.nsIn K mainGlobals "_law_products_told" = some (some (.ref f_ulaw_products_told)))
    (l_ulaw_products_told : K.lookup f_ulaw_products_told = some ⟨oc_ulaw_products_told, od_ulaw_products_told, .func (PySem.W.fnOf "_law_products_told" "_law_products_told" (defArgs s_ulaw_products_told) (defBody s_ulaw_products_told) (defScope s_ulaw_products_told) .none kV_ulaw_products_told dc_ulaw_products_told pm_ulaw_products_told an_ulaw_products_told cd_ulaw_products_told ct_ulaw_products_told), sl_ulaw_products_told⟩)
    (c_ulaw_products_told : PySem.W.codeIn K cd_ulaw_products_told "_law_products_told" = true)
    (k_ulaw_products_told : PySem.W.keepIn K (.ref f_ulaw_products_told) = true)
    (a_ulaw_powers_told : PySem.W.nsIn K mainGlobals "_law_powers_told" = some (some (.ref f_ulaw_powers_told)))
    (l_ulaw_powers_told : K.lookup f_ulaw_powers_told = some ⟨oc_ulaw_powers_told, od_ulaw_powers_told, .func (PySem.W.fnOf "_law_powers_told" "_law_powers_told" (defArgs s_ulaw_powers_told) (defBody s_ulaw_powers_told) (defScope s_ulaw_powers_told) .none kV_ulaw_powers_told dc_ulaw_powers_told pm_ulaw_powers_told an_ulaw_powers_told cd_ulaw_powers_told ct_ulaw_powers_told), sl_ulaw_powers_told⟩)
    (c_ulaw_powers_told : PySem.W.codeIn K cd_ulaw_powers_told "_law_powers_told" = true)
    (k_ulaw_powers_told : PySem.W.keepIn K (.ref f_ulaw_powers_told) = true)
    (a_ulaw_list_told : PySem.W.nsIn K mainGlobals "_law_list_told" = some (some (.ref f_ulaw_list_told)))
    (l_ulaw_list_told : K.lookup f_ulaw_list_told = some ⟨oc_ulaw_list_told, od_ulaw_list_told, .func (PySem.W.fnOf "_law_list_told" "_law_list_told" (defArgs s_ulaw_list_told) (defBody s_ulaw_list_told) (defScope s_ulaw_list_told) .none kV_ulaw_list_told dc_ulaw_list_told pm_ulaw_list_told an_ulaw_list_told cd_ulaw_list_told ct_ulaw_list_told), sl_ulaw_list_told⟩)
    (c_ulaw_list_told : PySem.W.codeIn K cd_ulaw_list_told "_law_list_told" = true)
    (k_ulaw_list_told : PySem.W.keepIn K (.ref f_ulaw_list_told) = true)
    (a_ulaw_ones_told : PySem.W.nsIn K mainGlobals "_law_ones_told" = some (some (.ref f_ulaw_ones_told)))
    (l_ulaw_ones_told : K.lookup f_ulaw_ones_told = some ⟨oc_ulaw_ones_told, od_ulaw_ones_told, .func (PySem.W.fnOf "_law_ones_told" "_law_ones_told" (defArgs s_ulaw_ones_told) (defBody s_ulaw_ones_told) (defScope s_ulaw_ones_told) .none kV_ulaw_ones_told dc_ulaw_ones_told pm_ulaw_ones_told an_ulaw_ones_told cd_ulaw_ones_told ct_ulaw_ones_told), sl_ulaw_ones_told⟩)
    (c_ulaw_ones_told : PySem.W.codeIn K cd_ulaw_ones_told "_law_ones_told" = true)
    (k_ulaw_ones_told : PySem.W.keepIn K (.ref f_ulaw_ones_told) = true)
    (a_law : PySem.W.nsIn K mainGlobals "law" = some (some (.ref f_law)))
    (l_law : K.lookup f_law = some ⟨oc_law, od_law, .func (PySem.W.fnOf "law" "law" (defArgs s_law) (defBody s_law) (defScope s_law) .none kV_law dc_law pm_law an_law cd_law ct_law), sl_law⟩)
    (c_law : PySem.W.codeIn K cd_law "law" = true)
    (k_law : PySem.W.keepIn K (.ref f_law) = true)
    (a_MOST : PySem.W.nsIn K mainGlobals "MOST" = some (some (.int 997 k_MOST)))
    (z_bool : PySem.W.nsIn K mainGlobals "bool" = some none)
    (z_int : PySem.W.nsIn K mainGlobals "int" = some none)
    (z_isinstance : PySem.W.nsIn K mainGlobals "isinstance" = some none)
    (z_len : PySem.W.nsIn K mainGlobals "len" = some none)
    (z_list : PySem.W.nsIn K mainGlobals "list" = some none)
    (z_min : PySem.W.nsIn K mainGlobals "min" = some none)
    (z_range : PySem.W.nsIn K mainGlobals "range" = some none)
    (z_sum : PySem.W.nsIn K mainGlobals "sum" = some none)
    (z_tuple : PySem.W.nsIn K mainGlobals "tuple" = some none)
    (kt_NumberError_NumberError : PySem.W.kitOne K (.ref C_NumberError) (.ref C_NumberError) = some true)
    (kt_NumberError_SizeError : PySem.W.kitOne K (.ref C_NumberError) (.ref C_SizeError) = some false)
    (kt_NumberError_TwinError : PySem.W.kitOne K (.ref C_NumberError) (.ref C_TwinError) = some false)
    (kt_NumberError_PrimeError : PySem.W.kitOne K (.ref C_NumberError) (.ref C_PrimeError) = some false)
    (kt_NumberError_ValueError : PySem.W.kitOne K (.ref C_NumberError) (.type "ValueError") = some true)
    (su_EndsError_EndsError : PySem.W.subIn K (.ref C_EndsError) (.ref C_EndsError) = some true)
    (su_SizeError_EndsError : PySem.W.subIn K (.ref C_SizeError) (.ref C_EndsError) = some true)
    (su_NumberError_EndsError : PySem.W.subIn K (.ref C_NumberError) (.ref C_EndsError) = some true)
    (su_TwinError_EndsError : PySem.W.subIn K (.ref C_TwinError) (.ref C_EndsError) = some true)
    (su_PrimeError_EndsError : PySem.W.subIn K (.ref C_PrimeError) (.ref C_EndsError) = some true)
    : ∃ fd : FuncData, (∀ (s : Shared) (u : Value), BindsTo s fd ⟨[u], []⟩ [("script", u)]) ∧ ∀ base : Heap, K.In base → base.Ns mainGlobals mg → FnOk l.prog w K mg base (L2.CX l.prog w) 10 fa fd ["script"] (spLaw K) := by
  have e := hfa.symm.trans (PySem.W.mg_of X G a_law)
  have e2 : f_law = fa := by
    cases e
    rfl
  subst e2
  have F_SizeError_init := fun_mk (st := s_SizeError_init) l_SizeError_init c_SizeError_init k_SizeError_init
  have b_SizeError_init := F_SizeError_init.binds (ps := ["self", "count"]) fun _ _ _ _ _ _ us hl => match us, hl with | [_, _], _ => rfl
  have F_NumberError_init := fun_mk (st := s_NumberError_init) l_NumberError_init c_NumberError_init k_NumberError_init
  have b_NumberError_init := F_NumberError_init.binds (ps := ["self", "number"]) fun _ _ _ _ _ _ us hl => match us, hl with | [_, _], _ => rfl
  have F_TwinError_init := fun_mk (st := s_TwinError_init) l_TwinError_init c_TwinError_init k_TwinError_init
  have b_TwinError_init := F_TwinError_init.binds (ps := ["self", "number"]) fun _ _ _ _ _ _ us hl => match us, hl with | [_, _], _ => rfl
  have F_PrimeError_init := fun_mk (st := s_PrimeError_init) l_PrimeError_init c_PrimeError_init k_PrimeError_init
  have b_PrimeError_init := F_PrimeError_init.binds (ps := ["self", "prime"]) fun _ _ _ _ _ _ us hl => match us, hl with | [_, _], _ => rfl
  have F_check_number := fun_mk (st := s_check_number) l_check_number c_check_number k_check_number
  have b_check_number := F_check_number.binds (ps := ["number", "low", "high"]) fun _ _ _ _ _ _ us hl => match us, hl with | [_, _, _], _ => rfl
  have F_is_odd_prime := fun_mk (st := s_is_odd_prime) l_is_odd_prime c_is_odd_prime k_is_odd_prime
  have b_is_odd_prime := F_is_odd_prime.binds (ps := ["number"]) fun _ _ _ _ _ _ us hl => match us, hl with | [_], _ => rfl
  have F_check_prime := fun_mk (st := s_check_prime) l_check_prime c_check_prime k_check_prime
  have b_check_prime := F_check_prime.binds (ps := ["prime"]) fun _ _ _ _ _ _ us hl => match us, hl with | [_], _ => rfl
  have F_least_nonsquare := fun_mk (st := s_least_nonsquare) l_least_nonsquare c_least_nonsquare k_least_nonsquare
  have b_least_nonsquare := F_least_nonsquare.binds (ps := ["prime"]) fun _ _ _ _ _ _ us hl => match us, hl with | [_], _ => rfl
  have F_check_twofold := fun_mk (st := s_check_twofold) l_check_twofold c_check_twofold k_check_twofold
  have b_check_twofold := F_check_twofold.binds (ps := ["prime", "pair"]) fun _ _ _ _ _ _ us hl => match us, hl with | [_, _], _ => rfl
  have F_multiplied := fun_mk (st := s_multiplied) l_multiplied c_multiplied k_multiplied
  have b_multiplied := F_multiplied.binds (ps := ["prime", "unit", "first", "second"]) fun _ _ _ _ _ _ us hl => match us, hl with | [_, _, _, _], _ => rfl
  have F_times := fun_mk (st := s_times) l_times c_times k_times
  have b_times := F_times.binds (ps := ["prime", "first", "second"]) fun _ _ _ _ _ _ us hl => match us, hl with | [_, _, _], _ => rfl
  have F_twofold_power := fun_mk (st := s_twofold_power) l_twofold_power c_twofold_power k_twofold_power
  have b_twofold_power := F_twofold_power.binds (ps := ["prime", "pair", "exponent"]) fun _ _ _ _ _ _ us hl => match us, hl with | [_, _, _], _ => rfl
  have F_norm := fun_mk (st := s_norm) l_norm c_norm k_norm
  have b_norm := F_norm.binds (ps := ["prime", "pair"]) fun _ _ _ _ _ _ us hl => match us, hl with | [_, _], _ => rfl
  have F_norm_ones := fun_mk (st := s_norm_ones) l_norm_ones c_norm_ones k_norm_ones
  have b_norm_ones := F_norm_ones.binds (ps := ["prime"]) fun _ _ _ _ _ _ us hl => match us, hl with | [_], _ => rfl
  have F_ulaw_draws := fun_mk (st := s_ulaw_draws) l_ulaw_draws c_ulaw_draws k_ulaw_draws
  have b_ulaw_draws := F_ulaw_draws.binds (ps := ["script", "count"]) fun _ _ _ _ _ _ us hl => match us, hl with | [_, _], _ => rfl
  have F_ulaw_next := fun_mk (st := s_ulaw_next) l_ulaw_next c_ulaw_next k_ulaw_next
  have b_ulaw_next := F_ulaw_next.binds (ps := ["cells", "at", "many"]) fun _ _ _ _ _ _ us hl => match us, hl with | [_, _, _], _ => rfl
  have F_ulaw_pick := fun_mk (st := s_ulaw_pick) l_ulaw_pick c_ulaw_pick k_ulaw_pick
  have b_ulaw_pick := F_ulaw_pick.binds (ps := ["cells", "at", "row"]) fun _ _ _ _ _ _ us hl => match us, hl with | [_, _, _], _ => rfl
  have F_ulaw_is_number := fun_mk (st := s_ulaw_is_number) l_ulaw_is_number c_ulaw_is_number k_ulaw_is_number
  have b_ulaw_is_number := F_ulaw_is_number.binds (ps := ["told"]) fun _ _ _ _ _ _ us hl => match us, hl with | [_], _ => rfl
  have F_ulaw_odd_primes := fun_mk (st := s_ulaw_odd_primes) l_ulaw_odd_primes c_ulaw_odd_primes k_ulaw_odd_primes
  have b_ulaw_odd_primes := F_ulaw_odd_primes.binds (ps := ["most"]) fun _ _ _ _ _ _ us hl => match us, hl with | [_], _ => rfl
  have F_ulaw_no_prime := fun_mk (st := s_ulaw_no_prime) l_ulaw_no_prime c_ulaw_no_prime k_ulaw_no_prime
  have b_ulaw_no_prime := F_ulaw_no_prime.binds (ps := ["cells", "at"]) fun _ _ _ _ _ _ us hl => match us, hl with | [_, _], _ => rfl
  have F_ulaw_is_pair := fun_mk (st := s_ulaw_is_pair) l_ulaw_is_pair c_ulaw_is_pair k_ulaw_is_pair
  have b_ulaw_is_pair := F_ulaw_is_pair.binds (ps := ["told", "due"]) fun _ _ _ _ _ _ us hl => match us, hl with | [_, _], _ => rfl
  have F_ulaw_nonsquare := fun_mk (st := s_ulaw_nonsquare) l_ulaw_nonsquare c_ulaw_nonsquare k_ulaw_nonsquare
  have b_ulaw_nonsquare := F_ulaw_nonsquare.binds (ps := ["p"]) fun _ _ _ _ _ _ us hl => match us, hl with | [_], _ => rfl
  have F_ulaw_residue := fun_mk (st := s_ulaw_residue) l_ulaw_residue c_ulaw_residue k_ulaw_residue
  have b_ulaw_residue := F_ulaw_residue.binds (ps := ["cells", "at", "prime"]) fun _ _ _ _ _ _ us hl => match us, hl with | [_, _, _], _ => rfl
  have F_ulaw_times := fun_mk (st := s_ulaw_times) l_ulaw_times c_ulaw_times k_ulaw_times
  have b_ulaw_times := F_ulaw_times.binds (ps := ["p", "u", "one", "two"]) fun _ _ _ _ _ _ us hl => match us, hl with | [_, _, _, _], _ => rfl
  have F_ulaw_norm := fun_mk (st := s_ulaw_norm) l_ulaw_norm c_ulaw_norm k_ulaw_norm
  have b_ulaw_norm := F_ulaw_norm.binds (ps := ["p", "u", "one"]) fun _ _ _ _ _ _ us hl => match us, hl with | [_, _, _], _ => rfl
  have F_ulaw_powered := fun_mk (st := s_ulaw_powered) l_ulaw_powered c_ulaw_powered k_ulaw_powered
  have b_ulaw_powered := F_ulaw_powered.binds (ps := ["p", "u", "one", "exponent"]) fun _ _ _ _ _ _ us hl => match us, hl with | [_, _, _, _], _ => rfl
  have F_ulaw_ones := fun_mk (st := s_ulaw_ones) l_ulaw_ones c_ulaw_ones k_ulaw_ones
  have b_ulaw_ones := F_ulaw_ones.binds (ps := ["p", "u"]) fun _ _ _ _ _ _ us hl => match us, hl with | [_, _], _ => rfl
  have F_ulaw_refusal := fun_mk (st := s_ulaw_refusal) l_ulaw_refusal c_ulaw_refusal k_ulaw_refusal
  have b_ulaw_refusal := F_ulaw_refusal.binds (ps := ["e"]) fun _ _ _ _ _ _ us hl => match us, hl with | [_], _ => rfl
  have F_ulaw_asked := fun_mk (st := s_ulaw_asked) l_ulaw_asked c_ulaw_asked k_ulaw_asked
  have b_ulaw_asked := F_ulaw_asked.binds (ps := ["which", "prime", "one", "two", "exponent"]) fun _ _ _ _ _ _ us hl => match us, hl with | [_, _, _, _, _], _ => rfl
  have F_ulaw_is_refusal := fun_mk (st := s_ulaw_is_refusal) l_ulaw_is_refusal c_ulaw_is_refusal k_ulaw_is_refusal
  have b_ulaw_is_refusal := F_ulaw_is_refusal.binds (ps := ["told", "name", "number"]) fun _ _ _ _ _ _ us hl => match us, hl with | [_, _, _], _ => rfl
  have F_ulaw_refuses_pairs := fun_mk (st := s_ulaw_refuses_pairs) l_ulaw_refuses_pairs c_ulaw_refuses_pairs k_ulaw_refuses_pairs
  have b_ulaw_refuses_pairs := F_ulaw_refuses_pairs.binds (ps := ["cells", "at", "p", "x", "y"]) fun _ _ _ _ _ _ us hl => match us, hl with | [_, _, _, _, _], _ => rfl
  have F_ulaw_refuses_primes := fun_mk (st := s_ulaw_refuses_primes) l_ulaw_refuses_primes c_ulaw_refuses_primes k_ulaw_refuses_primes
  have b_ulaw_refuses_primes := F_ulaw_refuses_primes.binds (ps := ["cells", "at"]) fun _ _ _ _ _ _ us hl => match us, hl with | [_, _], _ => rfl
  have F_ulaw_products_told := fun_mk (st := s_ulaw_products_told) l_ulaw_products_told c_ulaw_products_told k_ulaw_products_told
  have b_ulaw_products_told := F_ulaw_products_told.binds (ps := ["p", "u", "one", "two"]) fun _ _ _ _ _ _ us hl => match us, hl with | [_, _, _, _], _ => rfl
  have F_ulaw_powers_told := fun_mk (st := s_ulaw_powers_told) l_ulaw_powers_told c_ulaw_powers_told k_ulaw_powers_told
  have b_ulaw_powers_told := F_ulaw_powers_told.binds (ps := ["cells", "at", "p", "u", "one"]) fun _ _ _ _ _ _ us hl => match us, hl with | [_, _, _, _, _], _ => rfl
  have F_ulaw_list_told := fun_mk (st := s_ulaw_list_told) l_ulaw_list_told c_ulaw_list_told k_ulaw_list_told
  have b_ulaw_list_told := F_ulaw_list_told.binds (ps := ["told", "due"]) fun _ _ _ _ _ _ us hl => match us, hl with | [_, _], _ => rfl
  have F_ulaw_ones_told := fun_mk (st := s_ulaw_ones_told) l_ulaw_ones_told c_ulaw_ones_told k_ulaw_ones_told
  have b_ulaw_ones_told := F_ulaw_ones_told.binds (ps := ["p"]) fun _ _ _ _ _ _ us hl => match us, hl with | [_], _ => rfl
  have F_law := fun_mk (st := s_law) l_law c_law k_law
  have b_law := F_law.binds (ps := ["script"]) fun _ _ _ _ _ _ us hl => match us, hl with | [_], _ => rfl
  have T : Txt K mg { a_SizeError_init := f_SizeError_init, fd_SizeError_init := PySem.W.fnOf "__init__" "SizeError.__init__" (defArgs s_SizeError_init) (defBody s_SizeError_init) (defScope s_SizeError_init) .none kV_SizeError_init dc_SizeError_init pm_SizeError_init an_SizeError_init cd_SizeError_init ct_SizeError_init, a_NumberError_init := f_NumberError_init, fd_NumberError_init := PySem.W.fnOf "__init__" "NumberError.__init__" (defArgs s_NumberError_init) (defBody s_NumberError_init) (defScope s_NumberError_init) .none kV_NumberError_init dc_NumberError_init pm_NumberError_init an_NumberError_init cd_NumberError_init ct_NumberError_init, a_TwinError_init := f_TwinError_init, fd_TwinError_init := PySem.W.fnOf "__init__" "TwinError.__init__" (defArgs s_TwinError_init) (defBody s_TwinError_init) (defScope s_TwinError_init) .none kV_TwinError_init dc_TwinError_init pm_TwinError_init an_TwinError_init cd_TwinError_init ct_TwinError_init, a_PrimeError_init := f_PrimeError_init, fd_PrimeError_init := PySem.W.fnOf "__init__" "PrimeError.__init__" (defArgs s_PrimeError_init) (defBody s_PrimeError_init) (defScope s_PrimeError_init) .none kV_PrimeError_init dc_PrimeError_init pm_PrimeError_init an_PrimeError_init cd_PrimeError_init ct_PrimeError_init, a_check_number := f_check_number, fd_check_number := PySem.W.fnOf "check_number" "check_number" (defArgs s_check_number) (defBody s_check_number) (defScope s_check_number) .none kV_check_number dc_check_number pm_check_number an_check_number cd_check_number ct_check_number, a_is_odd_prime := f_is_odd_prime, fd_is_odd_prime := PySem.W.fnOf "is_odd_prime" "is_odd_prime" (defArgs s_is_odd_prime) (defBody s_is_odd_prime) (defScope s_is_odd_prime) .none kV_is_odd_prime dc_is_odd_prime pm_is_odd_prime an_is_odd_prime cd_is_odd_prime ct_is_odd_prime, a_check_prime := f_check_prime, fd_check_prime := PySem.W.fnOf "check_prime" "check_prime" (defArgs s_check_prime) (defBody s_check_prime) (defScope s_check_prime) .none kV_check_prime dc_check_prime pm_check_prime an_check_prime cd_check_prime ct_check_prime, a_least_nonsquare := f_least_nonsquare, fd_least_nonsquare := PySem.W.fnOf "least_nonsquare" "least_nonsquare" (defArgs s_least_nonsquare) (defBody s_least_nonsquare) (defScope s_least_nonsquare) .none kV_least_nonsquare dc_least_nonsquare pm_least_nonsquare an_least_nonsquare cd_least_nonsquare ct_least_nonsquare, a_check_twofold := f_check_twofold, fd_check_twofold := PySem.W.fnOf "check_twofold" "check_twofold" (defArgs s_check_twofold) (defBody s_check_twofold) (defScope s_check_twofold) .none kV_check_twofold dc_check_twofold pm_check_twofold an_check_twofold cd_check_twofold ct_check_twofold, a_multiplied := f_multiplied, fd_multiplied := PySem.W.fnOf "multiplied" "multiplied" (defArgs s_multiplied) (defBody s_multiplied) (defScope s_multiplied) .none kV_multiplied dc_multiplied pm_multiplied an_multiplied cd_multiplied ct_multiplied, a_times := f_times, fd_times := PySem.W.fnOf "times" "times" (defArgs s_times) (defBody s_times) (defScope s_times) .none kV_times dc_times pm_times an_times cd_times ct_times, a_twofold_power := f_twofold_power, fd_twofold_power := PySem.W.fnOf "twofold_power" "twofold_power" (defArgs s_twofold_power) (defBody s_twofold_power) (defScope s_twofold_power) .none kV_twofold_power dc_twofold_power pm_twofold_power an_twofold_power cd_twofold_power ct_twofold_power, a_norm := f_norm, fd_norm := PySem.W.fnOf "norm" "norm" (defArgs s_norm) (defBody s_norm) (defScope s_norm) .none kV_norm dc_norm pm_norm an_norm cd_norm ct_norm, a_norm_ones := f_norm_ones, fd_norm_ones := PySem.W.fnOf "norm_ones" "norm_ones" (defArgs s_norm_ones) (defBody s_norm_ones) (defScope s_norm_ones) .none kV_norm_ones dc_norm_ones pm_norm_ones an_norm_ones cd_norm_ones ct_norm_ones, a_ulaw_draws := f_ulaw_draws, fd_ulaw_draws := PySem.W.fnOf "_law_draws" "_law_draws" (defArgs s_ulaw_draws) (defBody s_ulaw_draws) (defScope s_ulaw_draws) .none kV_ulaw_draws dc_ulaw_draws pm_ulaw_draws an_ulaw_draws cd_ulaw_draws ct_ulaw_draws, a_ulaw_next := f_ulaw_next, fd_ulaw_next := PySem.W.fnOf "_law_next" "_law_next" (defArgs s_ulaw_next) (defBody s_ulaw_next) (defScope s_ulaw_next) .none kV_ulaw_next dc_ulaw_next pm_ulaw_next an_ulaw_next cd_ulaw_next ct_ulaw_next, a_ulaw_pick := f_ulaw_pick, fd_ulaw_pick := PySem.W.fnOf "_law_pick" "_law_pick" (defArgs s_ulaw_pick) (defBody s_ulaw_pick) (defScope s_ulaw_pick) .none kV_ulaw_pick dc_ulaw_pick pm_ulaw_pick an_ulaw_pick cd_ulaw_pick ct_ulaw_pick, a_ulaw_is_number := f_ulaw_is_number, fd_ulaw_is_number := PySem.W.fnOf "_law_is_number" "_law_is_number" (defArgs s_ulaw_is_number) (defBody s_ulaw_is_number) (defScope s_ulaw_is_number) .none kV_ulaw_is_number dc_ulaw_is_number pm_ulaw_is_number an_ulaw_is_number cd_ulaw_is_number ct_ulaw_is_number, a_ulaw_odd_primes := f_ulaw_odd_primes, fd_ulaw_odd_primes := PySem.W.fnOf "_law_odd_primes" "_law_odd_primes" (defArgs s_ulaw_odd_primes) (defBody s_ulaw_odd_primes) (defScope s_ulaw_odd_primes) .none kV_ulaw_odd_primes dc_ulaw_odd_primes pm_ulaw_odd_primes an_ulaw_odd_primes cd_ulaw_odd_primes ct_ulaw_odd_primes, a_ulaw_no_prime := f_ulaw_no_prime, fd_ulaw_no_prime := PySem.W.fnOf "_law_no_prime" "_law_no_prime" (defArgs s_ulaw_no_prime) (defBody s_ulaw_no_prime) (defScope s_ulaw_no_prime) .none kV_ulaw_no_prime dc_ulaw_no_prime pm_ulaw_no_prime an_ulaw_no_prime cd_ulaw_no_prime ct_ulaw_no_prime, a_ulaw_is_pair := f_ulaw_is_pair, fd_ulaw_is_pair := PySem.W.fnOf "_law_is_pair" "_law_is_pair" (defArgs s_ulaw_is_pair) (defBody s_ulaw_is_pair) (defScope s_ulaw_is_pair) .none kV_ulaw_is_pair dc_ulaw_is_pair pm_ulaw_is_pair an_ulaw_is_pair cd_ulaw_is_pair ct_ulaw_is_pair, a_ulaw_nonsquare := f_ulaw_nonsquare, fd_ulaw_nonsquare := PySem.W.fnOf "_law_nonsquare" "_law_nonsquare" (defArgs s_ulaw_nonsquare) (defBody s_ulaw_nonsquare) (defScope s_ulaw_nonsquare) .none kV_ulaw_nonsquare dc_ulaw_nonsquare pm_ulaw_nonsquare an_ulaw_nonsquare cd_ulaw_nonsquare ct_ulaw_nonsquare, a_ulaw_residue := f_ulaw_residue, fd_ulaw_residue := PySem.W.fnOf "_law_residue" "_law_residue" (defArgs s_ulaw_residue) (defBody s_ulaw_residue) (defScope s_ulaw_residue) .none kV_ulaw_residue dc_ulaw_residue pm_ulaw_residue an_ulaw_residue cd_ulaw_residue ct_ulaw_residue, a_ulaw_times := f_ulaw_times, fd_ulaw_times := PySem.W.fnOf "_law_times" "_law_times" (defArgs s_ulaw_times) (defBody s_ulaw_times) (defScope s_ulaw_times) .none kV_ulaw_times dc_ulaw_times pm_ulaw_times an_ulaw_times cd_ulaw_times ct_ulaw_times, a_ulaw_norm := f_ulaw_norm, fd_ulaw_norm := PySem.W.fnOf "_law_norm" "_law_norm" (defArgs s_ulaw_norm) (defBody s_ulaw_norm) (defScope s_ulaw_norm) .none kV_ulaw_norm dc_ulaw_norm pm_ulaw_norm an_ulaw_norm cd_ulaw_norm ct_ulaw_norm, a_ulaw_powered := f_ulaw_powered, fd_ulaw_powered := PySem.W.fnOf "_law_powered" "_law_powered" (defArgs s_ulaw_powered) (defBody s_ulaw_powered) (defScope s_ulaw_powered) .none kV_ulaw_powered dc_ulaw_powered pm_ulaw_powered an_ulaw_powered cd_ulaw_powered ct_ulaw_powered, a_ulaw_ones := f_ulaw_ones, fd_ulaw_ones := PySem.W.fnOf "_law_ones" "_law_ones" (defArgs s_ulaw_ones) (defBody s_ulaw_ones) (defScope s_ulaw_ones) .none kV_ulaw_ones dc_ulaw_ones pm_ulaw_ones an_ulaw_ones cd_ulaw_ones ct_ulaw_ones, a_ulaw_refusal := f_ulaw_refusal, fd_ulaw_refusal := PySem.W.fnOf "_law_refusal" "_law_refusal" (defArgs s_ulaw_refusal) (defBody s_ulaw_refusal) (defScope s_ulaw_refusal) .none kV_ulaw_refusal dc_ulaw_refusal pm_ulaw_refusal an_ulaw_refusal cd_ulaw_refusal ct_ulaw_refusal, a_ulaw_asked := f_ulaw_asked, fd_ulaw_asked := PySem.W.fnOf "_law_asked" "_law_asked" (defArgs s_ulaw_asked) (defBody s_ulaw_asked) (defScope s_ulaw_asked) .none kV_ulaw_asked dc_ulaw_asked pm_ulaw_asked an_ulaw_asked cd_ulaw_asked ct_ulaw_asked, a_ulaw_is_refusal := f_ulaw_is_refusal, fd_ulaw_is_refusal := PySem.W.fnOf "_law_is_refusal" "_law_is_refusal" (defArgs s_ulaw_is_refusal) (defBody s_ulaw_is_refusal) (defScope s_ulaw_is_refusal) .none kV_ulaw_is_refusal dc_ulaw_is_refusal pm_ulaw_is_refusal an_ulaw_is_refusal cd_ulaw_is_refusal ct_ulaw_is_refusal, a_ulaw_refuses_pairs := f_ulaw_refuses_pairs, fd_ulaw_refuses_pairs := PySem.W.fnOf "_law_refuses_pairs" "_law_refuses_pairs" (defArgs s_ulaw_refuses_pairs) (defBody s_ulaw_refuses_pairs) (defScope s_ulaw_refuses_pairs) .none kV_ulaw_refuses_pairs dc_ulaw_refuses_pairs pm_ulaw_refuses_pairs an_ulaw_refuses_pairs cd_ulaw_refuses_pairs ct_ulaw_refuses_pairs, a_ulaw_refuses_primes := f_ulaw_refuses_primes, fd_ulaw_refuses_primes := PySem.W.fnOf "_law_refuses_primes" "_law_refuses_primes" (defArgs s_ulaw_refuses_primes) (defBody s_ulaw_refuses_primes) (defScope s_ulaw_refuses_primes) .none kV_ulaw_refuses_primes dc_ulaw_refuses_primes pm_ulaw_refuses_primes an_ulaw_refuses_primes cd_ulaw_refuses_primes ct_ulaw_refuses_primes, a_ulaw_products_told := f_ulaw_products_told, fd_ulaw_products_told := PySem.W.fnOf "_law_products_told" "_law_products_told" (defArgs s_ulaw_products_told) (defBody s_ulaw_products_told) (defScope s_ulaw_products_told) .none kV_ulaw_products_told dc_ulaw_products_told pm_ulaw_products_told an_ulaw_products_told cd_ulaw_products_told ct_ulaw_products_told, a_ulaw_powers_told := f_ulaw_powers_told, fd_ulaw_powers_told := PySem.W.fnOf "_law_powers_told" "_law_powers_told" (defArgs s_ulaw_powers_told) (defBody s_ulaw_powers_told) (defScope s_ulaw_powers_told) .none kV_ulaw_powers_told dc_ulaw_powers_told pm_ulaw_powers_told an_ulaw_powers_told cd_ulaw_powers_told ct_ulaw_powers_told, a_ulaw_list_told := f_ulaw_list_told, fd_ulaw_list_told := PySem.W.fnOf "_law_list_told" "_law_list_told" (defArgs s_ulaw_list_told) (defBody s_ulaw_list_told) (defScope s_ulaw_list_told) .none kV_ulaw_list_told dc_ulaw_list_told pm_ulaw_list_told an_ulaw_list_told cd_ulaw_list_told ct_ulaw_list_told, a_ulaw_ones_told := f_ulaw_ones_told, fd_ulaw_ones_told := PySem.W.fnOf "_law_ones_told" "_law_ones_told" (defArgs s_ulaw_ones_told) (defBody s_ulaw_ones_told) (defScope s_ulaw_ones_told) .none kV_ulaw_ones_told dc_ulaw_ones_told pm_ulaw_ones_told an_ulaw_ones_told cd_ulaw_ones_told ct_ulaw_ones_told, a_law := f_law, fd_law := PySem.W.fnOf "law" "law" (defArgs s_law) (defBody s_law) (defScope s_law) .none kV_law dc_law pm_law an_law cd_law ct_law, c_EndsError := C_EndsError, c_SizeError := C_SizeError, c_NumberError := C_NumberError, c_TwinError := C_TwinError, c_PrimeError := C_PrimeError, k_MOST := k_MOST } :=
    { F_SizeError_init := F_SizeError_init,
      b_SizeError_init := b_SizeError_init,
      F_NumberError_init := F_NumberError_init,
      b_NumberError_init := b_NumberError_init,
      F_TwinError_init := F_TwinError_init,
      b_TwinError_init := b_TwinError_init,
      F_PrimeError_init := F_PrimeError_init,
      b_PrimeError_init := b_PrimeError_init,
      g_check_number := PySem.W.mg_of X G a_check_number,
      F_check_number := F_check_number,
      b_check_number := b_check_number,
      g_is_odd_prime := PySem.W.mg_of X G a_is_odd_prime,
      F_is_odd_prime := F_is_odd_prime,
      b_is_odd_prime := b_is_odd_prime,
      g_check_prime := PySem.W.mg_of X G a_check_prime,
      F_check_prime := F_check_prime,
      b_check_prime := b_check_prime,
      g_least_nonsquare := PySem.W.mg_of X G a_least_nonsquare,
      F_least_nonsquare := F_least_nonsquare,
      b_least_nonsquare := b_least_nonsquare,
      g_check_twofold := PySem.W.mg_of X G a_check_twofold,
      F_check_twofold := F_check_twofold,
      b_check_twofold := b_check_twofold,
      g_multiplied := PySem.W.mg_of X G a_multiplied,
      F_multiplied := F_multiplied,
      b_multiplied := b_multiplied,
      g_times := PySem.W.mg_of X G a_times,
      F_times := F_times,
      b_times := b_times,
      g_twofold_power := PySem.W.mg_of X G a_twofold_power,
      F_twofold_power := F_twofold_power,
      b_twofold_power := b_twofold_power,
      g_norm := PySem.W.mg_of X G a_norm,
      F_norm := F_norm,
      b_norm := b_norm,
      g_norm_ones := PySem.W.mg_of X G a_norm_ones,
      F_norm_ones := F_norm_ones,
      b_norm_ones := b_norm_ones,
      g_ulaw_draws := PySem.W.mg_of X G a_ulaw_draws,
      F_ulaw_draws := F_ulaw_draws,
      b_ulaw_draws := b_ulaw_draws,
      g_ulaw_next := PySem.W.mg_of X G a_ulaw_next,
      F_ulaw_next := F_ulaw_next,
      b_ulaw_next := b_ulaw_next,
      g_ulaw_pick := PySem.W.mg_of X G a_ulaw_pick,
      F_ulaw_pick := F_ulaw_pick,
      b_ulaw_pick := b_ulaw_pick,
      g_ulaw_is_number := PySem.W.mg_of X G a_ulaw_is_number,
      F_ulaw_is_number := F_ulaw_is_number,
      b_ulaw_is_number := b_ulaw_is_number,
      g_ulaw_odd_primes := PySem.W.mg_of X G a_ulaw_odd_primes,
      F_ulaw_odd_primes := F_ulaw_odd_primes,
      b_ulaw_odd_primes := b_ulaw_odd_primes,
      g_ulaw_no_prime := PySem.W.mg_of X G a_ulaw_no_prime,
      F_ulaw_no_prime := F_ulaw_no_prime,
      b_ulaw_no_prime := b_ulaw_no_prime,
      g_ulaw_is_pair := PySem.W.mg_of X G a_ulaw_is_pair,
      F_ulaw_is_pair := F_ulaw_is_pair,
      b_ulaw_is_pair := b_ulaw_is_pair,
      g_ulaw_nonsquare := PySem.W.mg_of X G a_ulaw_nonsquare,
      F_ulaw_nonsquare := F_ulaw_nonsquare,
      b_ulaw_nonsquare := b_ulaw_nonsquare,
      g_ulaw_residue := PySem.W.mg_of X G a_ulaw_residue,
      F_ulaw_residue := F_ulaw_residue,
      b_ulaw_residue := b_ulaw_residue,
      g_ulaw_times := PySem.W.mg_of X G a_ulaw_times,
      F_ulaw_times := F_ulaw_times,
      b_ulaw_times := b_ulaw_times,
      g_ulaw_norm := PySem.W.mg_of X G a_ulaw_norm,
      F_ulaw_norm := F_ulaw_norm,
      b_ulaw_norm := b_ulaw_norm,
      g_ulaw_powered := PySem.W.mg_of X G a_ulaw_powered,
      F_ulaw_powered := F_ulaw_powered,
      b_ulaw_powered := b_ulaw_powered,
      g_ulaw_ones := PySem.W.mg_of X G a_ulaw_ones,
      F_ulaw_ones := F_ulaw_ones,
      b_ulaw_ones := b_ulaw_ones,
      g_ulaw_refusal := PySem.W.mg_of X G a_ulaw_refusal,
      F_ulaw_refusal := F_ulaw_refusal,
      b_ulaw_refusal := b_ulaw_refusal,
      g_ulaw_asked := PySem.W.mg_of X G a_ulaw_asked,
      F_ulaw_asked := F_ulaw_asked,
      b_ulaw_asked := b_ulaw_asked,
      g_ulaw_is_refusal := PySem.W.mg_of X G a_ulaw_is_refusal,
      F_ulaw_is_refusal := F_ulaw_is_refusal,
      b_ulaw_is_refusal := b_ulaw_is_refusal,
      g_ulaw_refuses_pairs := PySem.W.mg_of X G a_ulaw_refuses_pairs,
      F_ulaw_refuses_pairs := F_ulaw_refuses_pairs,
      b_ulaw_refuses_pairs := b_ulaw_refuses_pairs,
      g_ulaw_refuses_primes := PySem.W.mg_of X G a_ulaw_refuses_primes,
      F_ulaw_refuses_primes := F_ulaw_refuses_primes,
      b_ulaw_refuses_primes := b_ulaw_refuses_primes,
      g_ulaw_products_told := PySem.W.mg_of X G a_ulaw_products_told,
      F_ulaw_products_told := F_ulaw_products_told,
      b_ulaw_products_told := b_ulaw_products_told,
      g_ulaw_powers_told := PySem.W.mg_of X G a_ulaw_powers_told,
      F_ulaw_powers_told := F_ulaw_powers_told,
      b_ulaw_powers_told := b_ulaw_powers_told,
      g_ulaw_list_told := PySem.W.mg_of X G a_ulaw_list_told,
      F_ulaw_list_told := F_ulaw_list_told,
      b_ulaw_list_told := b_ulaw_list_told,
      g_ulaw_ones_told := PySem.W.mg_of X G a_ulaw_ones_told,
      F_ulaw_ones_told := F_ulaw_ones_told,
      b_ulaw_ones_told := b_ulaw_ones_told,
      g_law := PySem.W.mg_of X G a_law,
      F_law := F_law,
      b_law := b_law,
      g_EndsError := PySem.W.mg_of X G a_EndsError,
      X_EndsError := ⟨hc_EndsError, hg_EndsError, hk_EndsError, hs_EndsError, hd_EndsError, ha_EndsError, hnD, htD, hm_EndsError⟩,
      x_EndsError := ⟨ex_EndsError, kc_EndsError, hs_EndsError, ty_EndsError⟩,
      g_SizeError := PySem.W.mg_of X G a_SizeError,
      X_SizeError := ⟨hc_SizeError, hg_SizeError, hk_SizeError, hs_SizeError, hd_SizeError, ha_SizeError, hnD, htD, hm_SizeError⟩,
      x_SizeError := ⟨⟨_, _, _, _, _, _, _, _, _, _, _, _, _, _, _, xl_SizeError, xr_SizeError⟩, sa_SizeError, hs_SizeError, ty_SizeError, kc_SizeError⟩,
      xi_SizeError := i_SizeError,
      xt_SizeError := t_SizeError_init,
      xn_SizeError_count := xn_SizeError_count,
      g_NumberError := PySem.W.mg_of X G a_NumberError,
      X_NumberError := ⟨hc_NumberError, hg_NumberError, hk_NumberError, hs_NumberError, hd_NumberError, ha_NumberError, hnD, htD, hm_NumberError⟩,
      x_NumberError := ⟨⟨_, _, _, _, _, _, _, _, _, _, _, _, _, _, _, xl_NumberError, xr_NumberError⟩, sa_NumberError, hs_NumberError, ty_NumberError, kc_NumberError⟩,
      xi_NumberError := i_NumberError,
      xt_NumberError := t_NumberError_init,
      xn_NumberError_number := xn_NumberError_number,
      g_TwinError := PySem.W.mg_of X G a_TwinError,
      X_TwinError := ⟨hc_TwinError, hg_TwinError, hk_TwinError, hs_TwinError, hd_TwinError, ha_TwinError, hnD, htD, hm_TwinError⟩,
      x_TwinError := ⟨⟨_, _, _, _, _, _, _, _, _, _, _, _, _, _, _, xl_TwinError, xr_TwinError⟩, sa_TwinError, hs_TwinError, ty_TwinError, kc_TwinError⟩,
      xi_TwinError := i_TwinError,
      xt_TwinError := t_TwinError_init,
      xn_TwinError_number := xn_TwinError_number,
      g_PrimeError := PySem.W.mg_of X G a_PrimeError,
      X_PrimeError := ⟨hc_PrimeError, hg_PrimeError, hk_PrimeError, hs_PrimeError, hd_PrimeError, ha_PrimeError, hnD, htD, hm_PrimeError⟩,
      x_PrimeError := ⟨⟨_, _, _, _, _, _, _, _, _, _, _, _, _, _, _, xl_PrimeError, xr_PrimeError⟩, sa_PrimeError, hs_PrimeError, ty_PrimeError, kc_PrimeError⟩,
      xi_PrimeError := i_PrimeError,
      xt_PrimeError := t_PrimeError_init,
      xn_PrimeError_prime := xn_PrimeError_prime,
      g_MOST := PySem.W.mg_of X G a_MOST,
      n_bool := PySem.W.mg_none_of X G z_bool,
      n_int := PySem.W.mg_none_of X G z_int,
      n_isinstance := PySem.W.mg_none_of X G z_isinstance,
      n_len := PySem.W.mg_none_of X G z_len,
      n_list := PySem.W.mg_none_of X G z_list,
      n_min := PySem.W.mg_none_of X G z_min,
      n_range := PySem.W.mg_none_of X G z_range,
      n_sum := PySem.W.mg_none_of X G z_sum,
      n_tuple := PySem.W.mg_none_of X G z_tuple,
      kt_NumberError_NumberError := kt_NumberError_NumberError,
      kt_NumberError_SizeError := kt_NumberError_SizeError,
      kt_NumberError_TwinError := kt_NumberError_TwinError,
      kt_NumberError_PrimeError := kt_NumberError_PrimeError,
      kt_NumberError_ValueError := kt_NumberError_ValueError,
      em_EndsError_EndsError := PySem.W.exm_ref hs_EndsError hd_EndsError ty_EndsError su_EndsError_EndsError,
      em_SizeError_EndsError := PySem.W.exm_ref hs_EndsError hd_EndsError ty_EndsError su_SizeError_EndsError,
      em_NumberError_EndsError := PySem.W.exm_ref hs_EndsError hd_EndsError ty_EndsError su_NumberError_EndsError,
      em_TwinError_EndsError := PySem.W.exm_ref hs_EndsError hd_EndsError ty_EndsError su_TwinError_EndsError,
      em_PrimeError_EndsError := PySem.W.exm_ref hs_EndsError hd_EndsError ty_EndsError su_PrimeError_EndsError,
      kb_norm_0_pair_prime := kbind_norm_0_pair_prime F_norm }
  exact ⟨_, fun s v => .of_eq rfl, fun base _ _ => ok_law T⟩
theorem walk {l : PySem.W.OpenLaw} {q : Program} {loose : List Str} {XP : (Str → Option Value) → Heap → Prop} {YP : World → Heap → Prop} {d : DefRec} {K : Params → PySem.W.Frag} (hn : l.most = some 63) (hdf : d.params.defaults = [])
    (hY : ∀ (w : World) (h : Heap), YP w h → (K w.params).In h)
    (F : ∀ (w : World) (mg : Str → Option Value) (fa : Addr) (h : Heap), (K w.params).In h → h.Ns mainGlobals mg → mg d.name = some (.ref fa) → ∃ fd : FuncData, (∀ (s : Shared) (u : Value), BindsTo s fd ⟨[u], []⟩ [("script", u)]) ∧
      ∀ base : Heap, (K w.params).In base → base.Ns mainGlobals mg → FnOk l.prog w (K w.params) mg base (L2.CX l.prog w) 10 fa fd ["script"] (spLaw (K w.params))) :
    PySem.W.WalkO q loose XP YP l.row.toRowW d [] (fun f vs => PySem.call f vs) :=
  L2.walk_of (n := 63) (k := 10) (x := "script") (CX := fun w => L2.CX l.prog w) (sp := fun w => spLaw (K w.params)) hn (by decide) hdf ⟨rfl, by decide, by decide⟩ hY F (fun _ _ a ns hl _ hS => ⟨a, ns, rfl, hS, hl, fun _ => rfl⟩) noX
end Lw
set_option pp.maxSteps 300 in
open PySem PySem.W PyProof.Rows in
set_option maxRecDepth 100000 in
set_option maxHeartbeats 0 in
theorem PySem.Challenge.cw_endsflat_k02_twofold_numbers_holds : PySem.Challenge.rw_endsflat_k02_twofold_numbers.Holds := by
  w_on; o_law; k_head; (case hw => w_witness2)
  k_fill
  refine Lw.walk (l := PySem.Challenge.rw_endsflat_k02_twofold_numbers) rfl rfl (fun w h Y => PySem.W.kIn_of Y) ?F
  case F =>
    intro w mg fa h KX G hmg
    refine' Lw.all_mk KX G hmg ?a_EndsError ?hc_EndsError ?hg_EndsError ?hk_EndsError ?hs_EndsError ?hd_EndsError ?ha_EndsError ?hm_EndsError ?ty_EndsError ?kc_EndsError ?ex_EndsError ?a_SizeError ?hc_SizeError ?hg_SizeError ?hk_SizeError ?hs_SizeError ?hd_SizeError ?ha_SizeError ?hm_SizeError ?ty_SizeError ?kc_SizeError ?i_SizeError ?xl_SizeError ?xr_SizeError ?sa_SizeError ?xn_SizeError_count ?a_NumberError ?hc_NumberError ?hg_NumberError ?hk_NumberError ?hs_NumberError ?hd_NumberError ?ha_NumberError ?hm_NumberError ?ty_NumberError ?kc_NumberError ?i_NumberError ?xl_NumberError ?xr_NumberError ?sa_NumberError ?xn_NumberError_number ?a_TwinError ?hc_TwinError ?hg_TwinError ?hk_TwinError ?hs_TwinError ?hd_TwinError ?ha_TwinError ?hm_TwinError ?ty_TwinError ?kc_TwinError ?i_TwinError ?xl_TwinError ?xr_TwinError ?sa_TwinError ?xn_TwinError_number ?a_PrimeError ?hc_PrimeError ?hg_PrimeError ?hk_PrimeError ?hs_PrimeError ?hd_PrimeError ?ha_PrimeError ?hm_PrimeError ?ty_PrimeError ?kc_PrimeError ?i_PrimeError ?xl_PrimeError ?xr_PrimeError ?sa_PrimeError ?xn_PrimeError_prime ?hnD ?htD ?l_SizeError_init ?c_SizeError_init ?k_SizeError_init ?t_SizeError_init ?l_NumberError_init ?c_NumberError_init ?k_NumberError_init ?t_NumberError_init ?l_TwinError_init ?c_TwinError_init ?k_TwinError_init ?t_TwinError_init ?l_PrimeError_init ?c_PrimeError_init ?k_PrimeError_init ?t_PrimeError_init ?a_check_number ?l_check_number ?c_check_number ?k_check_number ?a_is_odd_prime ?l_is_odd_prime ?c_is_odd_prime ?k_is_odd_prime ?a_check_prime ?l_check_prime ?c_check_prime ?k_check_prime ?a_least_nonsquare ?l_least_nonsquare ?c_least_nonsquare ?k_least_nonsquare ?a_check_twofold ?l_check_twofold ?c_check_twofold ?k_check_twofold ?a_multiplied ?l_multiplied ?c_multiplied ?k_multiplied ?a_times ?l_times ?c_times ?k_times ?a_twofold_power ?l_twofold_power ?c_twofold_power ?k_twofold_power ?a_norm ?l_norm ?c_norm ?k_norm ?a_norm_ones ?l_norm_ones ?c_norm_ones ?k_norm_ones ?a_ulaw_draws ?l_ulaw_draws ?c_ulaw_draws ?k_ulaw_draws ?a_ulaw_next ?l_ulaw_next ?c_ulaw_next ?k_ulaw_next ?a_ulaw_pick ?l_ulaw_pick ?c_ulaw_pick ?k_ulaw_pick ?a_ulaw_is_number ?l_ulaw_is_number ?c_ulaw_is_number ?k_ulaw_is_number ?a_ulaw_odd_primes ?l_ulaw_odd_primes ?c_ulaw_odd_primes ?k_ulaw_odd_primes ?a_ulaw_no_prime ?l_ulaw_no_prime ?c_ulaw_no_prime ?k_ulaw_no_prime ?a_ulaw_is_pair ?l_ulaw_is_pair ?c_ulaw_is_pair ?k_ulaw_is_pair ?a_ulaw_nonsquare ?l_ulaw_nonsquare ?c_ulaw_nonsquare ?k_ulaw_nonsquare ?a_ulaw_residue ?l_ulaw_residue ?c_ulaw_residue ?k_ulaw_residue ?a_ulaw_times ?l_ulaw_times ?c_ulaw_times ?k_ulaw_times ?a_ulaw_norm ?l_ulaw_norm ?c_ulaw_norm ?k_ulaw_norm ?a_ulaw_powered ?l_ulaw_powered ?c_ulaw_powered ?k_ulaw_powered ?a_ulaw_ones ?l_ulaw_ones ?c_ulaw_ones ?k_ulaw_ones ?a_ulaw_refusal ?l_ulaw_refusal ?c_ulaw_refusal ?k_ulaw_refusal ?a_ulaw_asked ?l_ulaw_asked ?c_ulaw_asked ?k_ulaw_asked ?a_ulaw_is_refusal ?l_ulaw_is_refusal ?c_ulaw_is_refusal ?k_ulaw_is_refusal ?a_ulaw_refuses_pairs ?l_ulaw_refuses_pairs ?c_ulaw_refuses_pairs ?k_ulaw_refuses_pairs ?a_ulaw_refuses_primes ?l_ulaw_refuses_primes ?c_ulaw_refuses_primes ?k_ulaw_refuses_primes ?a_ulaw_products_told ?l_ulaw_products_told ?c_ulaw_products_told ?k_ulaw_products_told ?a_ulaw_powers_told ?l_ulaw_powers_told ?c_ulaw_powers_told ?k_ulaw_powers_told ?a_ulaw_list_told ?l_ulaw_list_told ?c_ulaw_list_told ?k_ulaw_list_told ?a_ulaw_ones_told ?l_ulaw_ones_told ?c_ulaw_ones_told ?k_ulaw_ones_told ?a_law ?l_law ?c_law ?k_law ?a_MOST ?z_bool ?z_int ?z_isinstance ?z_len ?z_list ?z_min ?z_range ?z_sum ?z_tuple ?kt_NumberError_NumberError ?kt_NumberError_SizeError ?kt_NumberError_TwinError ?kt_NumberError_PrimeError ?kt_NumberError_ValueError ?su_EndsError_EndsError ?su_SizeError_EndsError ?su_NumberError_EndsError ?su_TwinError_EndsError ?su_PrimeError_EndsError
    (case a_EndsError => k_is)
    (case hc_EndsError => k_is)
    (case hg_EndsError => k_is)
    (case hk_EndsError => k_is)
    (case hs_EndsError => k_is)
    (case hd_EndsError => k_is)
    (case ha_EndsError => k_is)
    (case hm_EndsError => k_is)
    (case ty_EndsError => k_is)
    (case kc_EndsError => k_is)
    (case ex_EndsError => k_exc)
    (case a_SizeError => k_is)
    (case hc_SizeError => k_is)
    (case hg_SizeError => k_is)
    (case hk_SizeError => k_is)
    (case hs_SizeError => k_is)
    (case hd_SizeError => k_is)
    (case ha_SizeError => k_is)
    (case hm_SizeError => k_is)
    (case ty_SizeError => k_is)
    (case kc_SizeError => k_is)
    (case i_SizeError => k_is)
    (case xl_SizeError => k_is)
    (case xr_SizeError => decide +kernel)
    (case sa_SizeError => k_is)
    (case xn_SizeError_count => k_is)
    (case a_NumberError => k_is)
    (case hc_NumberError => k_is)
    (case hg_NumberError => k_is)
    (case hk_NumberError => k_is)
    (case hs_NumberError => k_is)
    (case hd_NumberError => k_is)
    (case ha_NumberError => k_is)
    (case hm_NumberError => k_is)
    (case ty_NumberError => k_is)
    (case kc_NumberError => k_is)
    (case i_NumberError => k_is)
    (case xl_NumberError => k_is)
    (case xr_NumberError => decide +kernel)
    (case sa_NumberError => k_is)
    (case xn_NumberError_number => k_is)
    (case a_TwinError => k_is)
    (case hc_TwinError => k_is)
    (case hg_TwinError => k_is)
    (case hk_TwinError => k_is)
    (case hs_TwinError => k_is)
    (case hd_TwinError => k_is)
    (case ha_TwinError => k_is)
    (case hm_TwinError => k_is)
    (case ty_TwinError => k_is)
    (case kc_TwinError => k_is)
    (case i_TwinError => k_is)
    (case xl_TwinError => k_is)
    (case xr_TwinError => decide +kernel)
    (case sa_TwinError => k_is)
    (case xn_TwinError_number => k_is)
    (case a_PrimeError => k_is)
    (case hc_PrimeError => k_is)
    (case hg_PrimeError => k_is)
    (case hk_PrimeError => k_is)
    (case hs_PrimeError => k_is)
    (case hd_PrimeError => k_is)
    (case ha_PrimeError => k_is)
    (case hm_PrimeError => k_is)
    (case ty_PrimeError => k_is)
    (case kc_PrimeError => k_is)
    (case i_PrimeError => k_is)
    (case xl_PrimeError => k_is)
    (case xr_PrimeError => decide +kernel)
    (case sa_PrimeError => k_is)
    (case xn_PrimeError_prime => k_is)
    (case hnD => k_is)
    (case htD => k_is)
    (case l_SizeError_init => k_is)
    (case c_SizeError_init => k_is)
    (case k_SizeError_init => k_is)
    (case t_SizeError_init => k_is)
    (case l_NumberError_init => k_is)
    (case c_NumberError_init => k_is)
    (case k_NumberError_init => k_is)
    (case t_NumberError_init => k_is)
    (case l_TwinError_init => k_is)
    (case c_TwinError_init => k_is)
    (case k_TwinError_init => k_is)
    (case t_TwinError_init => k_is)
    (case l_PrimeError_init => k_is)
    (case c_PrimeError_init => k_is)
    (case k_PrimeError_init => k_is)
    (case t_PrimeError_init => k_is)
    (case a_check_number => k_is)
    (case l_check_number => k_is)
    (case c_check_number => k_is)
    (case k_check_number => k_is)
    (case a_is_odd_prime => k_is)
    (case l_is_odd_prime => k_is)
    (case c_is_odd_prime => k_is)
    (case k_is_odd_prime => k_is)
    (case a_check_prime => k_is)
    (case l_check_prime => k_is)
    (case c_check_prime => k_is)
    (case k_check_prime => k_is)
    (case a_least_nonsquare => k_is)
    (case l_least_nonsquare => k_is)
    (case c_least_nonsquare => k_is)
    (case k_least_nonsquare => k_is)
    (case a_check_twofold => k_is)
    (case l_check_twofold => k_is)
    (case c_check_twofold => k_is)
    (case k_check_twofold => k_is)
    (case a_multiplied => k_is)
    (case l_multiplied => k_is)
    (case c_multiplied => k_is)
    (case k_multiplied => k_is)
    (case a_times => k_is)
    (case l_times => k_is)
    (case c_times => k_is)
    (case k_times => k_is)
    (case a_twofold_power => k_is)
    (case l_twofold_power => k_is)
    (case c_twofold_power => k_is)
    (case k_twofold_power => k_is)
    (case a_norm => k_is)
    (case l_norm => k_is)
    (case c_norm => k_is)
    (case k_norm => k_is)
    (case a_norm_ones => k_is)
    (case l_norm_ones => k_is)
    (case c_norm_ones => k_is)
    (case k_norm_ones => k_is)
    (case a_ulaw_draws => k_is)
    (case l_ulaw_draws => k_is)
    (case c_ulaw_draws => k_is)
    (case k_ulaw_draws => k_is)
    (case a_ulaw_next => k_is)
    (case l_ulaw_next => k_is)
    (case c_ulaw_next => k_is)
    (case k_ulaw_next => k_is)
    (case a_ulaw_pick => k_is)
    (case l_ulaw_pick => k_is)
    (case c_ulaw_pick => k_is)
    (case k_ulaw_pick => k_is)
    (case a_ulaw_is_number => k_is)
    (case l_ulaw_is_number => k_is)
    (case c_ulaw_is_number => k_is)
    (case k_ulaw_is_number => k_is)
    (case a_ulaw_odd_primes => k_is)
    (case l_ulaw_odd_primes => k_is)
    (case c_ulaw_odd_primes => k_is)
    (case k_ulaw_odd_primes => k_is)
    (case a_ulaw_no_prime => k_is)
    (case l_ulaw_no_prime => k_is)
    (case c_ulaw_no_prime => k_is)
    (case k_ulaw_no_prime => k_is)
    (case a_ulaw_is_pair => k_is)
    (case l_ulaw_is_pair => k_is)
    (case c_ulaw_is_pair => k_is)
    (case k_ulaw_is_pair => k_is)
    (case a_ulaw_nonsquare => k_is)
    (case l_ulaw_nonsquare => k_is)
    (case c_ulaw_nonsquare => k_is)
    (case k_ulaw_nonsquare => k_is)
    (case a_ulaw_residue => k_is)
    (case l_ulaw_residue => k_is)
    (case c_ulaw_residue => k_is)
    (case k_ulaw_residue => k_is)
    (case a_ulaw_times => k_is)
    (case l_ulaw_times => k_is)
    (case c_ulaw_times => k_is)
    (case k_ulaw_times => k_is)
    (case a_ulaw_norm => k_is)
    (case l_ulaw_norm => k_is)
    (case c_ulaw_norm => k_is)
    (case k_ulaw_norm => k_is)
    (case a_ulaw_powered => k_is)
    (case l_ulaw_powered => k_is)
    (case c_ulaw_powered => k_is)
    (case k_ulaw_powered => k_is)
    (case a_ulaw_ones => k_is)
    (case l_ulaw_ones => k_is)
    (case c_ulaw_ones => k_is)
    (case k_ulaw_ones => k_is)
    (case a_ulaw_refusal => k_is)
    (case l_ulaw_refusal => k_is)
    (case c_ulaw_refusal => k_is)
    (case k_ulaw_refusal => k_is)
    (case a_ulaw_asked => k_is)
    (case l_ulaw_asked => k_is)
    (case c_ulaw_asked => k_is)
    (case k_ulaw_asked => k_is)
    (case a_ulaw_is_refusal => k_is)
    (case l_ulaw_is_refusal => k_is)
    (case c_ulaw_is_refusal => k_is)
    (case k_ulaw_is_refusal => k_is)
    (case a_ulaw_refuses_pairs => k_is)
    (case l_ulaw_refuses_pairs => k_is)
    (case c_ulaw_refuses_pairs => k_is)
    (case k_ulaw_refuses_pairs => k_is)
    (case a_ulaw_refuses_primes => k_is)
    (case l_ulaw_refuses_primes => k_is)
    (case c_ulaw_refuses_primes => k_is)
    (case k_ulaw_refuses_primes => k_is)
    (case a_ulaw_products_told => k_is)
    (case l_ulaw_products_told => k_is)
    (case c_ulaw_products_told => k_is)
    (case k_ulaw_products_told => k_is)
    (case a_ulaw_powers_told => k_is)
    (case l_ulaw_powers_told => k_is)
    (case c_ulaw_powers_told => k_is)
    (case k_ulaw_powers_told => k_is)
    (case a_ulaw_list_told => k_is)
    (case l_ulaw_list_told => k_is)
    (case c_ulaw_list_told => k_is)
    (case k_ulaw_list_told => k_is)
    (case a_ulaw_ones_told => k_is)
    (case l_ulaw_ones_told => k_is)
    (case c_ulaw_ones_told => k_is)
    (case k_ulaw_ones_told => k_is)
    (case a_law => k_is)
    (case l_law => k_is)
    (case c_law => k_is)
    (case k_law => k_is)
    (case a_MOST => k_is)
    (case z_bool => k_is)
    (case z_int => k_is)
    (case z_isinstance => k_is)
    (case z_len => k_is)
    (case z_list => k_is)
    (case z_min => k_is)
    (case z_range => k_is)
    (case z_sum => k_is)
    (case z_tuple => k_is)
    (case kt_NumberError_NumberError => first | rfl | k_is)
    (case kt_NumberError_SizeError => first | rfl | k_is)
    (case kt_NumberError_TwinError => first | rfl | k_is)
    (case kt_NumberError_PrimeError => first | rfl | k_is)
    (case kt_NumberError_ValueError => first | rfl | k_is)
    (case su_EndsError_EndsError => first | rfl | k_is)
    (case su_SizeError_EndsError => first | rfl | k_is)
    (case su_NumberError_EndsError => first | rfl | k_is)
    (case su_TwinError_EndsError => first | rfl | k_is)
    (case su_PrimeError_EndsError => first | rfl | k_is)
