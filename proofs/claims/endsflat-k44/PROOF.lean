import PyProof.Rows.All
import Wide.All
import OpenK.AllK
import Wide.FinOn
import HandS.ForMost
import HandS.ExcIs
import HandS.Exc
import HandS.TryOnly
import HandS.ExcOwn
import HandS.ExcInit
import HandS.ExcField
import HandS.HotCalls
import HandS.IsInst
import HandS.Conv
import HandS.Flow
import HandS.TupAny
import HandS.Style
import HandS.SetFor
import HandS.WordsExc
import KE.KExcIs
import HandS.Zip
import HandS.SetBool
import HandS.Strs
import HandS.Deep
import KE.GoesEnum
import KE.GoesMore
import KE.DataMinMax
import HandS.SortRule
import HandS.SortInts
import PySem.Challenge.RW_endsflat_k44_crossed_points
set_option Elab.async false
set_option linter.all false
set_option maxRecDepth 100000
set_option maxHeartbeats 4000000

namespace EL
open PySem PySem.Spec PyProof.Rows L2
abbrev St := L2.St

/-! ### unions of rules -/
section
variable {X : Cx}
theorem piOr {tg it : Expr} {w1 w2 : TI} (h1 : PI X tg it w1) (h2 : PI X tg it w2) : PI X tg it (fun σ H R => w1 σ H R ∨ w2 σ H R) :=
  ⟨fun pins s σ H R I h => h.elim (h1.run pins s σ H R I) (h2.run pins s σ H R I)⟩
def iU (K : PySem.W.Frag) (tl : TE) : TI := fun σ H R => iList K tl σ H R ∨ iTup K tl σ H R
theorem pi_U {tg l : Expr} {tl : TE} (hl : PE X l tl) : PI X tg l (iU X.K tl) := piOr (pi_list hl) (pi_tup hl)
def rAddI : R2 := rI0 fun i j => .int (i + j)
def rAddS : R2 := fun x y H Q => ∃ i j, x = .str i ∧ y = .str j ∧ i.length + j.length ≤ sizeLine ∧ Q (.str (i ++ j)) H
def rAddU (K : PySem.W.Frag) : R2 := fun x y H Q => rAddI x y H Q ∨ rCat x y H Q ∨ rCatA K x y H Q ∨ rAddS x y H Q
theorem op_addU : OpR X (binaryOp .Add) (rAddU X.K) := OpR.or op_add (OpR.or op_cat (OpR.or op_catA op_add_str))
def rMulI : R2 := rI CMul fun i j => .int (i * j)
def rMulU : R2 := fun x y H Q => rMulI x y H Q ∨ rRep x y H Q
theorem op_mulU : OpR X (binaryOp .Mult) rMulU := OpR.or op_mul op_rep
def rModP : R2 := rI (fun _ j => 0 < j) fun i j => .int (i % j)
theorem op_modP : OpR X (binaryOp .Mod) rModP := op_mod
def rDivP : R2 := rI CDiv fun i j => .int (i / j)
theorem op_fdivP : OpR X (binaryOp .FloorDiv) rDivP := op_fdiv
def rEqU (K : PySem.W.Frag) : R2 := fun x y H Q => rEq x y H Q ∨ rEqD K x y H Q
def rNeU (K : PySem.W.Frag) : R2 := fun x y H Q => rNe x y H Q ∨ rNeD K x y H Q
theorem op_eqU {k : Nat} (hr : Room k X.A) : OpR X (compareOp .Eq) (rEqU X.K) := OpR.or op_eq (op_eqD hr.units)
theorem op_neU {k : Nat} (hr : Room k X.A) : OpR X (compareOp .NotEq) (rNeU X.K) := OpR.or op_ne (op_neD hr.units)
def rIsiU (K : PySem.W.Frag) : List V → Hp → VK → Prop := fun xs H Q => rIsi K xs H Q ∨ rIsiT K xs H Q
theorem call_isiU : CallR X (.builtin "isinstance") (rIsiU X.K) := CallR.or call_isi call_isiT
end

/-! ### the counter of the draws: a list of one int, which is not told -/
def cellO (a : Addr) : HO := .ext fun h => ∃ (i : Int) (t : Tok) (n : Nat), h.get? a = some { cls := .type "list", data := .seq #[.int i t] n }
section
variable {X : Cx} {pins : List (Addr × Obj)} {σ : St} {H : Hp} {s : Shared} {a : Addr}
theorem cell_close {i : Int} (I : Inv X pins σ H s) (h : H a = some (.lst [.int i])) : Inv X pins σ (upd H a (cellO a)) s := by
  obtain ⟨its, n, r, ho, hz⟩ := I.lst h
  cases r with
  | cons r1 r2 =>
    cases r2
    obtain ⟨t, rfl⟩ := r1
    refine I.write (x := a) (e := a) (t' := s.toks) (h' := s.heap) (by rw [h]; trivial) (.inl rfl) (fun b u _ q => q) ⟨_, ho⟩ ?_
    exact ⟨⟨i, t, n, ho⟩, ⟨_, ho⟩, fun h1 h2 q k => by
      obtain ⟨i', t', n', e⟩ := q
      exact ⟨i', t', n', k _ e⟩⟩
theorem cell_open (I : Inv X pins σ H s) (h : H a = some (cellO a)) : ∃ i : Int, Inv X pins σ (upd H a (.lst [.int i])) s := by
  obtain ⟨⟨i, t, n, e⟩, _, _⟩ := I.hok a _ h
  refine ⟨i, I.write (x := a) (e := a) (t' := s.toks) (h' := s.heap) (by rw [h]; trivial) (.inl rfl) (fun b u _ q => q) ⟨_, e⟩ ?_⟩
  exact ⟨by show 1 ≤ sizeLine; rw [sizeLine_eq]; omega, [.int i t], n, .cons ⟨t, rfl⟩ .nil, e⟩
theorem upd_id {o : HO} (h : H a = some o) : upd H a o = H := by
  funext b
  by_cases hb : b = a
  · rw [hb, upd_same, h]
  · rw [upd_ne hb]
theorem cell_back {i : Int} {o : HO} (h : H a = some (cellO a)) (I : Inv X pins σ (upd H a (.lst [.int i])) s) : Inv X pins σ H s := by
  have J := cell_close (a := a) I upd_same
  rw [upd_upd, upd_id h] at J
  exact J
end
section
variable {X : Cx}
def rIxC : R2 := fun x y H Q => ∃ a, x = .ref a ∧ y = .int 0 ∧ H a = some (cellO a) ∧ ∀ n, Q (.int n) H
theorem ix_cell : IxR X rIxC := by
  intro value slice pins s σ H x y v u Q I rx ry h hs
  obtain ⟨a, rfl, rfl, ha, q⟩ := h
  obtain ⟨i, J⟩ := cell_open I ha
  refine thn (ix_list value slice pins s σ _ _ _ v u (fun w H' => H' = upd H a (.lst [.int i]) ∧ w = .int i) J rx ry ⟨a, [.int i], 0, .int i, rfl, rfl, SqL.of upd_same, rfl, rfl, rfl⟩ hs) fun w s1 hh => ?_
  obtain ⟨z, H', J', r', rfl, rfl⟩ := hh
  exact ⟨_, H, cell_back (o := cellO a) ha J', r', q i⟩
def rIxU (K : PySem.W.Frag) : R2 := fun x y H Q => rIxL K x y H Q ∨ rIxT K x y H Q ∨ rIxC x y H Q ∨ rIxS x y H Q
theorem ix_U : IxR X (rIxU X.K) := ix_list.or (ix_tup.or (ix_cell.or ix_str))
def rSetC : V → V → V → Hp → (Hp → Prop) → Prop := fun o i v H Q => ∃ a n, o = .ref a ∧ i = .int 0 ∧ v = .int n ∧ H a = some (cellO a) ∧ Q H
theorem set_cell : PSet X rSetC := by
  intro pins s σ H o i v ov iv u Q I ro ri rv h
  obtain ⟨a, n, rfl, rfl, rfl, ha, q⟩ := h
  obtain ⟨j, J⟩ := cell_open I ha
  refine thn (set_list pins s σ _ _ _ _ ov iv u (fun H' => H' = upd H a (.lst [.int n])) J ro ri rv ⟨a, [.int j], 0, 0, rfl, rfl, upd_same, rfl, upd_upd⟩) fun w s1 hh => ?_
  obtain ⟨H', J', rfl⟩ := hh
  exact ⟨H, cell_back (o := cellO a) ha J', q⟩
def rSetU : V → V → V → Hp → (Hp → Prop) → Prop := fun o i v H Q => rSetL o i v H Q ∨ rSetC o i v H Q
theorem set_U : PSet X rSetU := by
  intro pins s σ H o i v ov iv u Q I ro ri rv h
  rcases h with h | h
  · exact set_list pins s σ H o i v ov iv u Q I ro ri rv h
  · exact set_cell pins s σ H o i v ov iv u Q I ro ri rv h
/-- [0]: the counter is laid -/
def tCell : TE := fun _ H Q => ∀ p, H p = none → Q (.ref p) (upd H p (cellO p))
theorem pe_cell {i : Int} {k : Nat} {p1 p2 : Pos} : PE X (.List [.Constant (.int i) k p1] p2) tCell := by
  refine ⟨fun pins s σ H Q I h => ?_⟩
  have ha : PE X (.List [.Constant (.int i) k p1] p2) _ := pe_lst (pa_cons pe_int pa_nil)
  refine thn (ha.run pins s σ H (fun v H' => ∃ p, v = .ref p ∧ H p = none ∧ H' = upd H p (.lst [.int i])) I ?_) fun w s1 hh => ?_
  · exact ⟨by show 1 ≤ sizeLine; rw [sizeLine_eq]; omega, fun p hp => ⟨p, rfl, hp, rfl⟩⟩
  · obtain ⟨v, H', J, r, p, rfl, hp, rfl⟩ := hh
    have J' := cell_close (a := p) J upd_same
    rw [upd_upd] at J'
    exact ⟨_, _, J', r, h p hp⟩
end

/-! ### the rules with the written part named -/
section
variable {X : Cx} {a b c e o : Expr} {es : List Expr} {ta tb te to : TE} {t : TA} {pos apos : Pos}
theorem pi_UK (K : PySem.W.Frag) {tg l : Expr} {tl : TE} (hl : PE X l tl) (h : X.K = K := by rfl) : PI X tg l (iU K tl) := h ▸ pi_U hl
theorem op_addUK (K : PySem.W.Frag) (h : X.K = K := by rfl) : OpR X (binaryOp .Add) (rAddU K) := h ▸ op_addU
theorem op_eqUK (K : PySem.W.Frag) {k : Nat} (hr : Room k X.A) (h : X.K = K := by rfl) : OpR X (compareOp .Eq) (rEqU K) := h ▸ op_eqU hr
theorem op_neUK (K : PySem.W.Frag) {k : Nat} (hr : Room k X.A) (h : X.K = K := by rfl) : OpR X (compareOp .NotEq) (rNeU K) := h ▸ op_neU hr
theorem op_inK (K : PySem.W.Frag) (h : X.K = K := by rfl) : OpR X (compareOp .In) (rIn K false) := h ▸ op_in_seq
theorem op_notInK (K : PySem.W.Frag) (h : X.K = K := by rfl) : OpR X (compareOp .NotIn) (rIn K true) := h ▸ op_notIn_seq
theorem ix_UK (K : PySem.W.Frag) (h : X.K = K := by rfl) : IxR X (rIxU K) := h ▸ ix_U
theorem sl_listK (K : PySem.W.Frag) (h : X.K = K := by rfl) : SlR X (rSlL K) := h ▸ sl_list
def rLen (K : PySem.W.Frag) : List V → Hp → VK → Prop := fun xs H Q => ∃ x n, xs = [x] ∧ LenV K x H n ∧ Q (.int n) H
theorem call_lenK (K : PySem.W.Frag) (h : X.K = K := by rfl) : CallR X (.builtin "len") (rLen K) := h ▸ call_len
theorem cr_sumK (K : PySem.W.Frag) (hc : X.calm = true) (h : X.K = K := by rfl) : CallR X (.builtin "sum") (rSum K) := h ▸ cr_sum hc
theorem cr_maxK (K : PySem.W.Frag) (hc : X.calm = true) (h : X.K = K := by rfl) : CallR X (.builtin "max") (rMax K) := h ▸ cr_max hc
theorem cr_minK (K : PySem.W.Frag) (hc : X.calm = true) (h : X.K = K := by rfl) : CallR X (.builtin "min") (rMin K) := h ▸ cr_min hc
theorem cr_allK (K : PySem.W.Frag) (hc : X.calm = true) (h : X.K = K := by rfl) : CallR X (.builtin "all") (rAll K) := h ▸ cr_all hc
theorem cr_anyK (K : PySem.W.Frag) (hc : X.calm = true) (h : X.K = K := by rfl) : CallR X (.builtin "any") (rAny K) := h ▸ cr_any hc
def rListOf (K : PySem.W.Frag) : List V → Hp → VK → Prop := fun xs H Q => ∃ p ys, xs = [.ref p] ∧ (SqL K H p ys ∨ SqT K H p ys) ∧ ∀ l, H l = none → Q (.ref l) (upd H l (.lst ys))
theorem call_list_ofK (K : PySem.W.Frag) (h : X.K = K := by rfl) : CallR X (.type "list") (rListOf K) := h ▸ call_list_of
def rInt1 : List V → Hp → VK → Prop := fun xs H Q => (∃ i, xs = [.int i] ∧ Q (.int i) H) ∨ ∃ k, xs = [.bl k] ∧ Q (.int (if k then 1 else 0)) H
theorem call_int1D : CallR X (.type "int") rInt1 := call_int1
def rMin2 : List V → Hp → VK → Prop := fun xs H Q => ∃ i j, xs = [.int i, .int j] ∧ Q (.int (if j < i then j else i)) H
theorem call_min2D (hc : X.calm = true) : CallR X (.builtin "min") rMin2 := call_min2 hc
def rMax2 : List V → Hp → VK → Prop := fun xs H Q => ∃ i j, xs = [.int i, .int j] ∧ Q (.int (if j > i then j else i)) H
theorem call_max2D (hc : X.calm = true) : CallR X (.builtin "max") rMax2 := call_max2 hc
def rAbs : List V → Hp → VK → Prop := fun xs H Q => ∃ i, xs = [.int i] ∧ Q (.int (if i < 0 then -i else i)) H
theorem call_absD : CallR X (.builtin "abs") rAbs := call_abs
def rIsN : R2 := fun x y H Q => y = .non ∧ Q (.bl (decide (x = .non))) H
theorem op_isND : OpR X (compareOp .Is) rIsN := op_isN
def rNotN : R2 := fun x y H Q => y = .non ∧ Q (.bl (!decide (x = .non))) H
theorem op_notND : OpR X (compareOp .IsNot) rNotN := op_notN
def rTupleOf (K : PySem.W.Frag) : List V → Hp → VK → Prop := fun xs H Q => ∃ p ys, xs = [.ref p] ∧ ((SqL K H p ys ∧ ∀ l, H l = none → Q (.ref l) (upd H l (.tup ys))) ∨ (SqT K H p ys ∧ Q (.ref p) H))
theorem call_tuple_ofK (K : PySem.W.Frag) (h : X.K = K := by rfl) : CallR X (.type "tuple") (rTupleOf K) := h ▸ call_tuple_of
theorem call_isiUK (K : PySem.W.Frag) (h : X.K = K := by rfl) : CallR X (.builtin "isinstance") (rIsiU K) := h ▸ call_isiU
def tTruth (K : PySem.W.Frag) (ta : TE) : TT := fun σ H Q => ta σ H fun x H1 => ∃ k, TruV K x H1 k ∧ Q k H1
theorem pt_truthK (K : PySem.W.Frag) (ha : PE X a ta) (he : ∀ whole, isTrue a X.env whole = (do let v ← whole; standAt a.pos; holding [v] (truthy v)) := by intro _; rfl) (h : X.K = K := by rfl) : PT X a (tTruth K ta) := h ▸ pt_truth ha he
theorem pg_tupK (K : PySem.W.Frag) (n : Nat) {k : Nat} {t : TGs} (hc : X.calm = true) (hg : PGs X es t)
    (hn : (assignEach es X.env).length = n := by rfl) (hst : (assignEach es X.env).findIdx? (·.1) = none := by rfl) (h : X.K = K := by rfl) : PG X (.Tuple es k pos) (gTup K n t) := h ▸ pg_tup hc hg hn hst
theorem pe_fldK (K : PySem.W.Frag) {f : Str} (he : PE X e ta) (hb : attributeBase e f X.env (eval e X.env) = eval e X.env) (h : X.K = K := by rfl) : PE X (.Attribute e f pos) (tFld K ta f) := h ▸ pe_fld he hb
theorem pe_revLK (K : PySem.W.Frag) {k : Nat} {p1 p2 p3 : Pos} (he : PE X e te) (h : X.K = K := by rfl) : PE X (.Subscript e (.Slice none none (some (.UnaryOp .USub (.Constant (.int 1) k p1) p2)) p3) pos) (tRevL K te) := h ▸ pe_revL he
section
variable {T id : String} {name : Str} {r : V → List V → Hp → VK → Prop}
theorem pe_bm0K (K : PySem.W.Frag) {cpos : Pos} (pa : PlainAttrs T) (slot : Slot T name id) (hty : typeOf (.builtin id) = pure (.type "method_descriptor")) (hm : MtR X id r) (ho : PE X o to)
    (hb : attributeBase o name X.env (eval o X.env) = eval o X.env := by rfl) (hl : (apos.endLine == cpos.line) = true := by rfl) (h : X.K = K := by rfl) : PE X (.Call (.Attribute o name apos) [] [] cpos) (tBM0 K T r to) := h ▸ pe_bm0 pa slot hty hm ho hb hl
theorem pe_bmK (K : PySem.W.Frag) {cpos : Pos} (pa : PlainAttrs T) (slot : Slot T name id) (hty : typeOf (.builtin id) = pure (.type "method_descriptor")) (hm : MtR X id r) (ho : PE X o to) (ha : PA X (e :: es) t)
    (hb : attributeBase o name X.env (eval o X.env) = eval o X.env := by rfl)
    (hf : ((backTo cpos (starEach (e :: es) X.env)).all (fun x => !x.1) && (backToKw cpos (keywordEach [] X.env)).all (fun x => x.1.isSome) && decide ((e :: es).length + ([] : List Keyword).length + (if ([] : List Keyword).isEmpty then 0 else 1) < 30)) = true := by rfl)
    (hl : (apos.endLine == cpos.line) = true := by rfl) (hs : starEach (e :: es) X.env = (false, eval e X.env) :: starEach es X.env := by rfl) (hp : (backTo cpos (starEach es X.env)).any (·.1) = false := by rfl) (h : X.K = K := by rfl) :
    PE X (.Call (.Attribute o name apos) (e :: es) [] cpos) (tBM K T r to t) := h ▸ pe_bm pa slot hty hm ho ha hb hf hl hs hp
theorem mt_lcountK (K : PySem.W.Frag) (h : X.K = K := by rfl) : MtR X "list.count" (rCntI K) := h ▸ mt_lcount
theorem mt_indexK (K : PySem.W.Frag) (h : X.K = K := by rfl) : MtR X "list.index" (rIndex K) := h ▸ mt_index
end
end
/-- two statements with a word between: the ways of the first are joined -/
def tCut (t u : TS) : TS := fun D σ H => ∃ M : St → Hp → Prop, t { D with nx := M } σ H ∧ ∀ σ' H', M σ' H' → u D σ' H'
theorem pss_cut {X : Cx} {st : Stmt} {rest : List Stmt} {t u : TS} (h1 : PS X st t) (h2 : PSs X rest u) : PSs X (st :: rest) (tCut t u) := by
  refine ⟨fun pins s σ H D I h => ?_⟩
  obtain ⟨M, h, k⟩ := h
  refine wpAny_execs_cons (thn (h1.run pins s σ H { D with nx := M } I h) fun f s1 z => ?_)
  cases f with
  | next => exact let ⟨σ1, H1, I1, z1⟩ := z; h2.run pins s1 σ1 H1 D I1 (k _ _ z1)
  | ret v => exact z
  | brk => exact z
  | cont => exact z
/-! ### calls -/
section
variable {X : Cx} {CX : CXT} {k : Nat} {f C : Addr} {fd : FuncData} {ps ks : List Str} {sp : Sp} {E : XK} {x m : Str} {p pos apos kpos : Pos} {e o : Expr} {es : List Expr} {kws : List Keyword} {te ta : TE} {t tk : TA} {g : List Value → List Value → List Value} {gV : List V → List V → List V}
/-- f(k = v, ..) -/
theorem pe_callK0 (F : FnOk X.prog X.w X.K X.mg X.base CX k f fd ps sp) (hr : Room k X.A) (hg : Gl X x) (hm : X.mg x = some (.ref f)) (hk : PySem.W.keepIn X.K (.ref f) = true)
    (hb : KBinds X.K fd ps ks g gV) (hx : Passes CX X E) (hkw : PK X kws tk)
    (hall : (backToKw pos (keywordEach kws X.env)).all (·.1.isSome) = true := by rfl) (hks : (backToKw pos (keywordEach kws X.env)).filterMap (·.1) = ks := by rfl)
    (hdb : (x == ("__debug__" : Str)) = false := by decide)
    (hpl : ((backTo pos (starEach [] X.env)).any (·.1) || (backToKw pos (keywordEach kws X.env)).any (·.1.isNone)) = false := by rfl) :
    PE X (.Call (.Name x p) [] kws pos) (tCallK sp gV E tNil tk) := by
  refine ⟨fun pins s σ H Q I h => wpAny_Call_Name_kw (ld_glob I hg hm ?_ hdb)⟩
  refine PySem.W.callWith_KW0 (h₀ := X.base) I.ok.mod.kin hk hall ?_ hpl
  refine thn (hkw.run pos pins s σ H _ I h) fun ws s2 ⟨zs, H2, I2, rz, q2⟩ => ⟨I2.kIn, ?_⟩
  rw [hks]
  exact run_fnk (us := []) F hr hb hx I2 .nil rz q2
theorem passLF : Passes (L2.CX X.prog X.w) X (fun _ _ _ => False) := passL
end

/-! ### exceptions of the program's own classes -/
/-- X(), a class without an __init__ of its own -/
structure XOwn (K : PySem.W.Frag) (C : Addr) : Prop where
  ex : PySem.W.excIn K C [.type "ValueError", .type "Exception", .type "BaseException", .type "object"] "ValueError.__new__" = true
  kp : PySem.W.keepIn K (.ref C) = true
  sb : PySem.W.subIn K (.ref C) (.type "BaseException") = some true
  ty : PySem.W.typeIn K (.ref C) = some (.type "type")
theorem pmk_own0 {X : Cx} {x : Str} {C : Addr} {p pos : Pos} (q : XOwn X.K C) (gC : X.mg x = some (.ref C)) (hg : Gl X x := by rfl)
    (hdb : (x == ("__debug__" : Str)) = false := by decide) : PMk X (.Call (.Name x p) [] [] pos) (fun _ H Q => Q (.ref C) none H) := by
  intro pins s σ H Q I h
  refine wpAny_Call_Name_kw (ld_glob I hg gC ?_ hdb)
  refine PySem.W.callWith_K0 I.kIn q.kp ?_
  obtain ⟨bm, N, nm, qn, bs, hdct, sn, sub, ab, col, dd, k0, k1, k2, k3, k5, mN, hC, hN, hni, T⟩ := exc_obj I.kIn q.ex
  refine wpAny_call_exc_subT PySem.F.excBase_ValueError T hC hN hni (fun h' e hm => ?_) (by show 0 ≤ sizeLine; omega)
  exact mk_of I hm (raises_own q.sb q.ty) h (I.hok.gone hm.new)
/-- the exception at a stands in the context -/
structure XPin (X : Cx) (a : Addr) (cls : Value) (d : Option Addr) : Prop where
  ex : ∃ (oe : Obj) (vs : Array Value), (a, oe) ∈ X.pn ∧ Zc cls d oe ∧ oe.data = .fields vs
theorem xpin_suite {X : Cx} {a : Addr} {oe : Obj} {cls : Value} {d : Option Addr} {pn : List (Addr × Obj)} (hz : Zc cls d oe) (hf : ∃ vs, oe.data = .fields vs) : XPin (X.suite a ((a, oe) :: pn)) a cls d := by
  obtain ⟨vs, hv⟩ := hf
  exact ⟨oe, vs, List.mem_cons_self, hz, hv⟩
/-- what the class says, that isinstance and the fields are read rightly -/
structure XCls (K : PySem.W.Frag) (D : Addr) : Prop where
  hc : (PySem.W.clsIn K D).isSome = true
  hg : PySem.W.findIn K (.ref D) "__getattribute__" = some (some (.builtin "BaseException.__getattribute__"))
  hk : PySem.W.findIn K (.ref D) "__getattr__" = some none
  hs : PySem.W.subIn K (.ref D) (.type "BaseException") = some true
  hd : PySem.W.hasDictIn K D = true
  ha : PySem.W.findIn K (.ref D) "__class__" = some (some (.builtin "object.__class__"))
  hn : PySem.W.specialIn K (.builtin "object.__class__") "__get__" = some (some (.builtin "getset_descriptor.__get__"))
  ht : PySem.W.takesIn K (.builtin "object.__class__") = some true
  hm : PySem.W.mroIn K D (.type "object") = some true
/-- the exception's own dict, as H tells it -/
def XDict (H : Hp) (d : Option Addr) (fs : List (Str × V)) : Prop := (d = none ∧ fs = []) ∨ ∃ dd, d = some dd ∧ H dd = some (.xd fs)
section
variable {X : Cx} {a : Addr} {cls : Value} {d : Option Addr} {pins : List (Addr × Obj)} {σ : St} {H : Hp} {s : Shared}
theorem XPin.inst {D : Addr} {fs : List (Str × V)} (p : XPin X a cls d) (I : Inv X pins σ H s) (hc : cls = .ref D) (hd : XDict H d fs) : ∃ (ox : Obj) (od : Option Obj), PySem.W.InstAt s.heap a ox D od ∧
    (∀ dd, d = some dd → ∃ o, od = some o ∧ ∃ mA : Str → Option Value, (∀ name : Str, PySem.W.lookIn name o = some (mA name)) ∧ ∀ f : Str, RelO (fs.lookup f) (mA f)) := by
  obtain ⟨⟨oc, odd, dat, sl⟩, vs, hp, ⟨h1, h2⟩, hv⟩ := p.ex
  dsimp only at h1 h2 hv
  subst hc
  subst hv
  obtain ⟨hget, _⟩ := I.pin _ (List.mem_append_left _ hp)
  rcases hd with ⟨rfl, _⟩ | ⟨dd, rfl, hd⟩
  · subst h1 h2
    exact ⟨_, none, ⟨hget, rfl, rfl, trivial⟩, fun dd z => nomatch z⟩
  · have hx : ObjOk X.prog X.w H s.heap dd (.xd fs) := I.hok dd _ hd
    obtain ⟨mA, hns, hr⟩ := hx
    obtain ⟨od, ho, hl⟩ := lookIn_ns hns
    subst h1 h2
    exact ⟨_, some od, ⟨hget, rfl, rfl, ho⟩, fun dd' z => ⟨od, rfl, mA, hl, hr⟩⟩
/-- isinstance(e, C), isinstance(e, (C, ..)) -/
def rIsX (K : PySem.W.Frag) (a : Addr) (cls : Value) (d : Option Addr) : List V → Hp → VK → Prop := fun xs H Q => ∃ (D : Addr) (fs : List (Str × V)) (c : V) (b : Bool), xs = [.ref a, c] ∧ cls = .ref D ∧ XCls K D ∧ XDict H d fs ∧
  ((∃ u, ClsV c u ∧ PySem.W.kitOne K (.ref D) u = some b) ∨ ∃ tp cs us, c = .ref tp ∧ H tp = some (.tup cs) ∧ Paired ClsV cs us ∧ PySem.W.kitAny K (.ref D) us = some b) ∧ Q (.bl b) H
theorem call_isX (p : XPin X a cls d) : CallR X (.builtin "isinstance") (rIsX X.K a cls d) := by
  intro pins s σ H xs us Q I r h
  obtain ⟨D, fs, c, b, rfl, hc, C, hd, hh, q⟩ := h
  obtain ⟨ox, od, J, _⟩ := p.inst I hc hd
  obtain ⟨u1, u2, rfl, r1, r2⟩ := vals2 r
  cases (show u1 = Value.ref a from r1)
  have Z := PySem.W.kitx_exc (x := a) (ox := ox) (od := od) C.hc C.hg C.hk C.hs C.ha C.hn C.ht C.hm
  rcases hh with ⟨u, k, e⟩ | ⟨tp, cs, ws, rfl, hT, k, e⟩
  · have e2 := k.eq r2
    subst e2
    exact PySem.W.kia_one Z I.kIn J e (fun z => nomatch z) fun tk => ⟨.bl b, H, I.tok tk, rfl, q⟩
  · cases (show u2 = Value.ref tp from r2)
    obtain ⟨_, its, rv, o, h1, h2, n, h3⟩ := (show ObjOk X.prog X.w H s.heap tp (.tup cs) from I.hok tp _ hT)
    have e3 := ClsV.all k rv
    subst e3
    obtain ⟨oc, od2, dt, sl⟩ := o
    simp only at h2 h3
    subst h2 h3
    exact PySem.W.kia_tup Z I.kIn J h1 e (fun z => nomatch z) fun tk => ⟨.bl b, H, I.tok tk, rfl, q⟩
/-- e.f -/
def tXF (K : PySem.W.Frag) (a : Addr) (cls : Value) (d : Option Addr) (f : Str) (te : TE) : TE := fun σ H Q => te σ H fun x H1 => ∃ (D dd : Addr) (fs : List (Str × V)) (v : V), x = .ref a ∧ cls = .ref D ∧ XCls K D ∧ d = some dd ∧ H1 dd = some (.xd fs) ∧
  PySem.W.findIn K (.ref D) f = some none ∧ fs.lookup f = some v ∧ Q v H1
theorem pe_xF {e : Expr} {te : TE} {pos : Pos} {f : Str} (p : XPin X a cls d) (he : PE X e te) (hb : attributeBase e f X.env (eval e X.env) = eval e X.env := by rfl) : PE X (.Attribute e f pos) (tXF X.K a cls d f te) := by
  refine ⟨fun pins s σ H Q I h => ?_⟩
  refine attr_of hb (thn (he.run pins s σ H _ I h) fun u s1 hh => ?_)
  obtain ⟨x, H1, I1, rx, D, dd, fs, v, ex, hc, C, rfl, ea, hno, l, q⟩ := hh
  subst ex
  obtain rfl : u = Value.ref a := rx
  obtain ⟨ox, od, J, hq⟩ := p.inst I1 hc (.inr ⟨dd, rfl, ea⟩)
  obtain ⟨o, rfl, mA, hl, hr⟩ := hq dd rfl
  obtain ⟨u, hu, ru⟩ := RelO.some_of (v := v) (o := mA f) (by rw [← l]; exact hr f)
  exact HandSPX.exc_get I1.kIn J C.hg C.hk C.hs (PySem.W.findObj_own C.hd hno rfl (by rw [hl, hu])) (handed_of ru) ⟨v, H1, I1.tok _, ru, q⟩
end
theorem call_isXK {X : Cx} (K : PySem.W.Frag) {a : Addr} {cls : Value} {d : Option Addr} (p : XPin X a cls d) (h : X.K = K := by rfl) : CallR X (.builtin "isinstance") (rIsX K a cls d) := h ▸ call_isX p
theorem pe_xFK {X : Cx} (K : PySem.W.Frag) {a : Addr} {cls : Value} {d : Option Addr} {e : Expr} {te : TE} {pos : Pos} {f : Str} (p : XPin X a cls d) (he : PE X e te) (hb : attributeBase e f X.env (eval e X.env) = eval e X.env := by rfl) (h : X.K = K := by rfl) : PE X (.Attribute e f pos) (tXF K a cls d f te) := h ▸ pe_xF p he hb
/-! a def that is called in a suite with the exception that is handled there -/
abbrev SpX := Addr → Value → Option Addr → Sp
structure FnE (P : Program) (w : World) (K : PySem.W.Frag) (mg : Str → Option Value) (base : Heap) (k : Nat) (f : Addr) (fd : FuncData) (ps : List Str) (sp : SpX) : Prop where
  len : ∀ a cls d vs H Q E, sp a cls d vs H Q E → vs.length = ps.length
  run : ∀ (A : Around) (outer : List Env) (s : Shared) (H : Hp) (args : Args) (us : List Value) (vs : List V) (Q : VK) (a : Addr) (oe : Obj) (cls : Value) (d : Option Addr), L2H.RoomH k A → Zc cls d oe → (∃ v, oe.data = .fields v) → L2H.PinOk outer H s (a, oe) →
    Env0 P w K mg base A outer s H → BindsTo s fd args (ps.zip us) → Vals vs us → sp a cls d vs H Q (fun _ _ _ => False) → codeAny (model P w) A (.call (.ref f) args) (CR (L2.CX P w) outer P w H s Q (fun _ _ _ => False)) s
abbrev cxE (P : Program) (w : World) (K : PySem.W.Frag) (mg : Str → Option Value) (base : Heap) (N : List Str) (qual : Str) (scope : Scope) (f : Addr) (cd : Value) (A : Around) (outer : List Env) (s : Shared) (H : Hp) (p : Addr × Obj) : Cx :=
  L2H.cxH (L2.CX P w) P w K mg base N qual scope f cd A outer s H (fun _ _ _ => False) p
theorem Fun.okE {P : Program} {w : World} {K : PySem.W.Frag} {mg : Str → Option Value} {base : Heap} {x qual : Str} {st : Stmt} {f : Addr} {fd : FuncData} {N ps : List Str} {k : Nat} {sp : SpX} (F : Fun K x qual st f fd) (S : FnScope N ps (defScope st))
    (len : ∀ a cls d vs H Q E, sp a cls d vs H Q E → vs.length = ps.length)
    (hbody : ∀ (cdv : Value) (A : Around) (outer : List Env) (s : Shared) (H : Hp) (vs : List V) (Q : VK) (a : Addr) (oe : Obj) (cls : Value) (d : Option Addr), Zc cls d oe → (∃ v, oe.data = .fields v) → L2H.RoomH k (A.deeper (envOfC qual (defScope st) s.heap.objs.size f cdv)) →
      sp a cls d vs H Q (fun _ _ _ => False) → ∃ t, PSs (cxE P w K mg base N qual (defScope st) f cdv A outer s H (a, oe)).nox (defBody st) t ∧ t { nx := fun _ H' => Q .non H', rt := Q } (start N vs) H) : FnE P w K mg base (k + 1) f fd ps sp := by
  obtain ⟨oc, od, kV, doc, pm, an, cdv, ct, osl, rfl, lk, hcd⟩ := F.ex
  refine ⟨len, fun A outer s H args us vs Q a oe cls d hr hz hf hpin e0 hb r hsp => ?_⟩
  have hl := len _ _ _ _ _ _ _ hsp
  have KX : K.In s.heap := e0.mod.kin.keeps fun b o e => (e0.bs b o e).1
  have lim : s.heap.NoLimit := e0.mod.nolimit.keeps fun b o e => (e0.bs b o e).1
  have hk : ∀ y ∈ ps.zip us, (defScope st).names.lookup y.1 = some .local ∨ ((defScope st).names.lookup y.1 = some .cell ∧ ((cellsFrom (s.heap.objs.size + 1) (defScope st).names []).lookup y.1).isSome = true) := fun ⟨n, v⟩ hy =>
    (S.par n (List.of_mem_zip hy).1).elim .inl fun z => .inr ⟨z, PySem.W.cellsFrom_some _ _ _ (.inl z)⟩
  refine codeAny_call_function hr.depth (KX _ _ lk) rfl S.co S.gen rfl (PySem.W.codeRec_of KX hcd) (hb _ _ _ _ (wpAny_newFunctionEnv_cells S.kind hk fun env he s1 x => ?_))
  subst he
  refine ⟨lim.keeps x.toInCall.keep, codeAny_func ?_⟩
  obtain ⟨t, ht, hq⟩ := hbody cdv A outer s H vs Q a oe cls d hz hf (hr.deeper _) hsp
  have I := (L2H.inv_startH (CX := L2.CX P w) (E := fun _ _ _ => False) (qual := qual) (f := f) (cd := cdv) S hpin e0 hl r x)
  refine wpAny_mono (ht.nox.run [] s1 (start N vs) H _ I hq) (fun fl s' hs => ?_) fun e s' hs => hs
  cases fl with
  | ret u => exact let ⟨v, σ', H', J, rv, z⟩ := hs; ⟨v, H', J.os, J.bare, J.base, J.hok, rv, z⟩
  | next => exact let ⟨σ', H', J, z⟩ := hs; ⟨V.non, H', J.os, J.bare, J.base, J.hok, rfl, z⟩
  | brk => exact let ⟨_, _, _, z⟩ := hs; False.elim z
  | cont => exact let ⟨_, _, _, z⟩ := hs; False.elim z
theorem xpin_def {P : Program} {w : World} {K : PySem.W.Frag} {mg : Str → Option Value} {base : Heap} {N : List Str} {qual : Str} {scope : Scope} {f : Addr} {cd : Value} {A : Around} {outer : List Env} {s : Shared} {H : Hp} {a : Addr} {oe : Obj} {cls : Value} {d : Option Addr} (hz : Zc cls d oe) (hf : ∃ vs, oe.data = .fields vs) :
    XPin (cxE P w K mg base N qual scope f cd A outer s H (a, oe)).nox a cls d := by
  obtain ⟨vs, hv⟩ := hf
  exact ⟨oe, vs, List.mem_cons_self, hz, hv⟩
section
variable {X : Cx} {k : Nat} {f a : Addr} {fd : FuncData} {ps : List Str} {sp : SpX} {x : Str} {p pos : Pos} {e : Expr} {es : List Expr} {t : TA} {cls : Value} {d : Option Addr}
def tCallE (sp : SpX) (a : Addr) (cls : Value) (d : Option Addr) (t : TA) : TE := fun σ H Q => t σ H fun vs H1 => sp a cls d vs H1 Q (fun _ _ _ => False)
theorem pe_callE (F : FnE X.prog X.w X.K X.mg X.base k f fd ps sp) (hr : L2H.RoomH k X.A) (xp : XPin X a cls d) (hg : Gl X x) (hm : X.mg x = some (.ref f)) (hk : PySem.W.keepIn X.K (.ref f) = true) (hb : Binds X.K fd ps [])
    (ha : PA X (e :: es) t) (hdb : (x == ("__debug__" : Str)) = false := by decide) (he : starEach (e :: es) X.env = (false, eval e X.env) :: starEach es X.env := by rfl) (hpl : (backTo pos (starEach es X.env)).any (·.1) = false := by rfl) :
    PE X (.Call (.Name x p) (e :: es) [] pos) (tCallE sp a cls d t) := by
  refine ⟨fun pins s σ H Q I h => wpAny_Call_Name_kw (ld_glob I hg hm ?_ hdb)⟩
  refine PySem.W.callWith_K (h₀ := X.base) I.ok.mod.kin hk (thn (ha.run pos pins s σ H _ I h) fun us s1 ⟨vs, H1, I1, r, hs⟩ => ⟨I1.kIn, ?_⟩) he hpl
  obtain ⟨oe, v, hp, hz, hv⟩ := xp.ex
  have hl : us.length = ps.length := by rw [← r.length]; exact F.len _ _ _ _ _ _ _ hs
  have b := hb s1 us I1.kIn (by rw [List.append_nil]; exact hl)
  rw [List.append_nil] at b
  have P1 := I1.pin (a, oe) (List.mem_append_left _ hp)
  have hpin : L2H.PinOk X.stack H1 s1 (a, oe) := ⟨P1.1, P1.2.1, fun hm => (List.mem_cons.mp (I1.stkSub a hm)).elim P1.2.2.1 P1.2.2.2.1, P1.2.2.2.2⟩
  refine wpAny_call (codeAny_mono (F.run X.A X.stack s1 H1 ⟨us, []⟩ us vs Q a oe cls d hr hz ⟨v, hv⟩ hpin I1.env0 b r hs) fun r s' hq => ?_)
  cases r with
  | error er => exact (passLF (X := X)) pins σ H1 s1 er s' I1 hq
  | ok fl =>
    cases fl with
    | ret u => exact I1.after hq
    | next => exact False.elim hq
    | brk => exact False.elim hq
    | cont => exact False.elim hq
end
end EL

namespace EL
open PySem PySem.Spec PyProof.Rows L2

/-! ### heaps that grow -/
theorem _root_.L2.Same.upd {H H' : Hp} {p : Addr} {o : HO} (h : Same H H') (n : H p = none) : Same H (L2.upd H' p o) := fun b u e => by
  rw [upd_ne (ne_of_none e n)]
  exact h b u e
theorem _root_.L2.Same.new {H : Hp} {p : Addr} {o : HO} (n : H p = none) : Same H (L2.upd H p o) := Same.upd (Same.refl H) n
theorem _root_.L2.Same.rd {H H' : Hp} {a : Addr} {u : HO} (e : Same H H') (h : Rd H a u) : Rd H' a u := h.elim (fun z => .inl (e _ _ z)) fun ⟨o, z⟩ => .inr ⟨o, e _ _ z⟩
theorem _root_.L2.Same.seqT {K : PySem.W.Frag} {H H' : Hp} {a : Addr} {xs : List V} (e : Same H H') (h : SqT K H a xs) : SqT K H' a xs := h.elim (fun z => .inl (e.rd z)) .inr
mutual
theorem dpSame {K : PySem.W.Frag} {H H' : Hp} (e : Same H H') : ∀ {d : PyData} {v : V}, Dp K H v d → Dp K H' v d
  | .none, _, h => by cases h; exact .non
  | .bool b, _, h => by cases h; exact .bl b
  | .int i, _, h => by cases h; exact .int i
  | .str x, _, h => by cases h; exact .str x
  | .list ds, _, h => by
    cases h with
    | lst hs ha => exact .lst (e.seq hs) (dpAllSame e ha)
  | .tuple ds, _, h => by
    cases h with
    | tup hs ha => exact .tup (e.seqT hs) (dpAllSame e ha)
  | .dict _, _, h => by cases h
theorem dpAllSame {K : PySem.W.Frag} {H H' : Hp} (e : Same H H') : ∀ {ds : List PyData} {vs : List V}, DpAll K H vs ds → DpAll K H' vs ds
  | [], _, h => by cases h; exact .nil
  | d :: ds, _, h => by
    cases h with
    | cons h1 h2 => exact .cons (dpSame e h1) (dpAllSame e h2)
end
theorem _root_.L2.Same.dp {K : PySem.W.Frag} {H H' : Hp} (e : Same H H') {d : PyData} {v : V} (h : Dp K H v d) : Dp K H' v d := dpSame e h
theorem _root_.L2.Same.dpAll {K : PySem.W.Frag} {H H' : Hp} (e : Same H H') {d : List PyData} {v : List V} (h : DpAll K H v d) : DpAll K H' v d := dpAllSame e h
theorem dpInts {K : PySem.W.Frag} {H : Hp} : ∀ xs : List Int, DpAll K H (xs.map V.int) (xs.map PyData.int)
  | [] => .nil
  | x :: xs => .cons (.int x) (dpInts xs)

theorem strans {H H1 H2 : Hp} (b : Same H1 H2) (a : Same H H1) : Same H H2 := a.trans b
theorem same_at {H H' : Hp} {a : Addr} {o : HO} (s : Same H H') (e : H a = some o) : H' a = some o := s _ _ e
/-! ### what a call gives -/
inductive Out where
  | ret (v : V)
  | err (C : Addr) (f : Str) (v : V)
  | err0 (C : Addr)
  | tup (xs : List V)
  | lst (R : Hp → List V → Prop)
def Gives (H : Hp) (Q : VK) (E : XK) : Out → Prop
  | .ret v => ∀ H', Same H H' → Q v H'
  | .err C f v => ∀ H' d, Same H H' → H' d = some (.xd [(f, v)]) → E (.ref C) (some d) H'
  | .err0 C => ∀ H', Same H H' → E (.ref C) none H'
  | .tup xs => ∀ H' p, Same H H' → H' p = some (.tup xs) → Q (.ref p) H'
  | .lst R => ∀ H' p vs, Same H H' → H p = none → H' p = some (.lst vs) → R H' vs → Q (.ref p) H'
theorem Gives.mono {H H' : Hp} {Q : VK} {E : XK} {o : Out} (h : Gives H Q E o) (s : Same H H') : Gives H' Q E o := by
  cases o with
  | ret v => exact fun H2 s2 => h H2 (s.trans s2)
  | err C f v => exact fun H2 d s2 e => h H2 d (s.trans s2) e
  | err0 C => exact fun H2 s2 => h H2 (s.trans s2)
  | tup xs => exact fun H2 p s2 e => h H2 p (s.trans s2) e
  | lst R => exact fun H2 p vs s2 n e r => h H2 p vs (s.trans s2) (s.free n) e r

theorem gret {H : Hp} {Q : VK} {E : XK} {o : Out} {v : V} (e : o = .ret v) (k : ∀ H', Same H H' → Q v H') : Gives H Q E o := by
  subst e
  exact k
theorem gerr {H : Hp} {Q : VK} {E : XK} {o : Out} {C : Addr} {f : Str} {v : V} (e : o = .err C f v) (k : ∀ H' d, Same H H' → H' d = some (.xd [(f, v)]) → E (.ref C) (some d) H') : Gives H Q E o := by
  subst e
  exact k
theorem gerr0 {H : Hp} {Q : VK} {E : XK} {o : Out} {C : Addr} (e : o = .err0 C) (k : ∀ H', Same H H' → E (.ref C) none H') : Gives H Q E o := by
  subst e
  exact k
/-! ### the readings, step by step -/
def Tru (K : PySem.W.Frag) (x : V) (H : Hp) (R : Bool → Prop) : Prop := ∃ k, TruV K x H k ∧ R k
def IsBl (x : V) (R : Bool → Prop) : Prop := ∃ k, x = .bl k ∧ R k
def Br (b : Bool) (A B : Prop) : Prop := if b = true then A else B
def NewO (o : HO) (n : Nat) (H : Hp) (Q : VK) : Prop := n ≤ sizeLine ∧ ∀ p, H p = none → Q (.ref p) (upd H p o)
def Par2 (vs : List V) (R : V → V → Prop) : Prop := ∃ v w, vs = [v, w] ∧ R v w
section
variable {D : Ends} {σ : St} {H : Hp} {Q : VK} {K : PySem.W.Frag} {ta tb tc te : TE} {t u : TS} {c c' : TT} {r : R2} {g : TG}
theorem tSeq_i (h : t { D with nx := u D } σ H) : tSeq t u D σ H := h
theorem tNext_i (h : D.nx σ H) : tNext D σ H := h
theorem tBreak_i (h : D.bk σ H) : tBreak D σ H := h
theorem tCont_i (h : D.ct σ H) : tCont D σ H := h
theorem tAsg_i (h : te σ H (fun x H1 => g x σ H1 D.nx)) : tAsg te g D σ H := h
theorem tDrop_i (h : te σ H fun _ H1 => D.nx σ H1) : tDrop te D σ H := h
theorem tRet_i (h : te σ H D.rt) : tRet te D σ H := h
theorem tRetN_i (h : D.rt .non H) : tRetN D σ H := h
theorem tIfS_i (h : c σ H fun b H1 => Br b (t D σ H1) (u D σ H1)) : tIfS c t u D σ H := h
theorem gName_i {i : Nat} {v : V} {R : St → Hp → Prop} (h : R (σ.set i (some v)) H) : gName i v σ H R := h
theorem tVar_i {i : Nat} {v : V} (e : σ[i]? = some (some v)) (h : Q v H) : tVar i σ H Q := ⟨v, e, h⟩
theorem tC_i {v : V} (h : Q v H) : tC v σ H Q := h
theorem tOp_i (h : ta σ H fun x H1 => tb σ H1 fun y H2 => r x y H2 Q) : tOp r ta tb σ H Q := h
theorem tUn_i {r : V → Hp → VK → Prop} (h : ta σ H fun x H1 => r x H1 Q) : tUn r ta σ H Q := h
theorem tNil_i {R : List V → Hp → Prop} (h : R [] H) : tNil σ H R := h
theorem tCons_i {tr : TA} {R : List V → Hp → Prop} (h : ta σ H fun x H1 => tr σ H1 fun xs H2 => R (x :: xs) H2) : tCons ta tr σ H R := h
theorem tTest_i {R : Bool → Hp → Prop} (h : te σ H fun x H' => IsBl x fun k => R k H') : tTest te σ H R := h
theorem tTruth_i {R : Bool → Hp → Prop} (h : te σ H fun x H1 => Tru K x H1 fun k => R k H1) : tTruth K te σ H R := h
theorem tAnd_i {R : Bool → Hp → Prop} (h : c σ H fun b H1 => Br b (c' σ H1 R) (R false H1)) : tAnd c c' σ H R := h
theorem tOr_i {R : Bool → Hp → Prop} (h : c σ H fun b H1 => Br b (R true H1) (c' σ H1 R)) : tOr c c' σ H R := h
theorem tNot_i {R : Bool → Hp → Prop} (h : c σ H fun b H1 => R (!b) H1) : tNot c σ H R := h
theorem tAndV_i (h : ta σ H fun x H1 => IsBl x fun b => Br b (tb σ H1 Q) (Q (.bl false) H1)) : tAndV ta tb σ H Q := h
theorem tOrV_i (h : ta σ H fun x H1 => IsBl x fun b => Br b (Q (.bl true) H1) (tb σ H1 Q)) : tOrV ta tb σ H Q := h
theorem tNotV_i (h : ta σ H fun x H1 => IsBl x fun b => Q (.bl (!b)) H1) : tNotV ta σ H Q := h
theorem tIf_i (h : c σ H fun b H1 => Br b (ta σ H1 Q) (tb σ H1 Q)) : tIf c ta tb σ H Q := h
theorem tCB_i {r : List V → Hp → VK → Prop} {ts : TA} (h : ts σ H fun vs H1 => r vs H1 Q) : tCB r ts σ H Q := h
theorem tCallS_i {sp : Sp} {E : St → XK} {ts : TA} (h : ts σ H fun vs H1 => sp vs H1 Q (E σ)) : tCallS sp E ts σ H Q := h
theorem tCall_i {sp : Sp} {dvs : List V} {E : XK} {ts : TA} (h : ts σ H fun vs H1 => sp (vs ++ dvs) H1 Q E) : tCall sp dvs E ts σ H Q := h
theorem tCallK_i {sp : Sp} {gV : List V → List V → List V} {E : XK} {ts tk : TA} (h : ts σ H fun vs H1 => tk σ H1 fun zs H2 => sp (gV vs zs) H2 Q E) : tCallK sp gV E ts tk σ H Q := h
theorem tChain_i {r' : R2} (h : ta σ H fun x H1 => tb σ H1 fun y H2 => r x y H2 fun z H3 => IsBl z fun k => Br k (tc σ H3 fun w H4 => r' y w H4 Q) (Q (.bl false) H3)) : tChain r r' ta tb tc σ H Q := h
theorem tTup_i {ts : TA} (h : ts σ H fun xs H1 => NewO (.tup xs) xs.length H1 Q) : tTup ts σ H Q := h
theorem tLst_i {ts : TA} (h : ts σ H fun xs H1 => NewO (.lst xs) xs.length H1 Q) : tLst ts σ H Q := h
theorem tPar_i {i j : Nat} {ts : TA} (h : ts σ H fun vs H1 => Par2 vs fun v w => D.nx ((σ.set i (some v)).set j (some w)) H1) : tPar i j ts D σ H := h
theorem Par2_i {v w : V} {R : V → V → Prop} (h : R v w) : Par2 [v, w] R := ⟨v, w, rfl, h⟩
theorem IsBl_i {b : Bool} {R : Bool → Prop} (h : R b) : IsBl (.bl b) R := ⟨b, rfl, h⟩
theorem new_i {n : Nat} {o : HO} (hn : n ≤ sizeLine) (h : ∀ p H', H p = none → Same H H' → H' p = some o → Q (.ref p) H') : NewO o n H Q :=
  ⟨hn, fun p hp => h p _ hp (Same.new hp) upd_same⟩
theorem Br_t {A B : Prop} (h : A) : Br true A B := iteT h
theorem Br_f {A B : Prop} (h : B) : Br false A B := iteF h
theorem Br_nt {A B : Prop} (h : B) : Br (!true) A B := iteF h
theorem Br_nf {A B : Prop} (h : A) : Br (!false) A B := iteT h
theorem Br_b {b : Bool} {A B : Prop} (h1 : b = true → A) (h2 : b = false → B) : Br b A B := by
  cases b
  · exact iteF (h2 rfl)
  · exact iteT (h1 rfl)
theorem Br_n {b : Bool} {A B : Prop} (h : Br b B A) : Br (!b) A B := by
  cases b
  · exact iteT (show A from h)
  · exact iteF (show B from h)
theorem Br_d {p : Prop} [Decidable p] {A B : Prop} (h1 : p → A) (h2 : ¬ p → B) : Br (decide p) A B :=
  Br_b (fun h => h1 (of_decide_eq_true h)) fun h => h2 (of_decide_eq_false h)
theorem Br_dt {p : Prop} [Decidable p] {A B : Prop} (hp : p) (h : A) : Br (decide p) A B := Br_d (fun _ => h) fun z => absurd hp z
theorem Br_df {p : Prop} [Decidable p] {A B : Prop} (hp : ¬ p) (h : B) : Br (decide p) A B := Br_d (fun z => absurd z hp) fun _ => h
/-! values -/
theorem rI0_i {f : Int → Int → V} {i j : Int} (h : Q (f i j) H) : rI0 f (.int i) (.int j) H Q := ⟨i, j, rfl, rfl, h⟩
theorem rI_i {C : Int → Int → Prop} {f : Int → Int → V} {i j : Int} (hc : C i j) (h : Q (f i j) H) : rI C f (.int i) (.int j) H Q := ⟨i, j, rfl, rfl, hc, h⟩
theorem rU_i {f : Int → V} {i : Int} (h : Q (f i) H) : rU f (.int i) H Q := ⟨i, rfl, h⟩
theorem rAddU_i {i j : Int} (h : Q (.int (i + j)) H) : rAddU K (.int i) (.int j) H Q := .inl ⟨i, j, rfl, rfl, h⟩
theorem rMulU_i {i j : Int} (hc : CMul i j) (h : Q (.int (i * j)) H) : rMulU (.int i) (.int j) H Q := .inl ⟨i, j, rfl, rfl, hc, h⟩
theorem rModP_i {i j : Int} (hc : 0 < j) (h : Q (.int (i % j)) H) : rModP (.int i) (.int j) H Q := ⟨i, j, rfl, rfl, hc, h⟩
theorem rDivP_i {i j : Int} (hc : CDiv i j) (h : Q (.int (i / j)) H) : rDivP (.int i) (.int j) H Q := ⟨i, j, rfl, rfl, hc, h⟩
theorem int_eq {i j : Int} : decide (V.int i = V.int j) = decide (i = j) := by rw [dec_int, Bool.beq_eq_decide_eq]
theorem str_eq {i j : Str} : decide (V.str i = V.str j) = decide (i = j) := by rw [dec_str, Bool.beq_eq_decide_eq]
theorem rEqU_i {i j : Int} (h : Q (.bl (decide (i = j))) H) : rEqU K (.int i) (.int j) H Q := .inl ⟨rfl, by rw [int_eq]; exact h⟩
theorem rNeU_i {i j : Int} (h : Q (.bl (!decide (i = j))) H) : rNeU K (.int i) (.int j) H Q := .inl ⟨rfl, by rw [int_eq]; exact h⟩
theorem rEqU_s {i j : Str} (h : Q (.bl (decide (i = j))) H) : rEqU K (.str i) (.str j) H Q := .inl ⟨rfl, by rw [str_eq]; exact h⟩
theorem rNeU_s {i j : Str} (h : Q (.bl (!decide (i = j))) H) : rNeU K (.str i) (.str j) H Q := .inl ⟨rfl, by rw [str_eq]; exact h⟩
theorem rIxU_l {p : Addr} {xs : List V} {i : Int} {v : V} (hs : SqL K H p xs) (ha : atI xs i = some v) (h : Q v H) : rIxU K (.ref p) (.int i) H Q := .inl ⟨p, xs, i, v, rfl, rfl, hs, ha, h⟩
theorem rIxU_t {p : Addr} {xs : List V} {i : Int} {v : V} (hs : SqT K H p xs) (ha : atI xs i = some v) (h : Q v H) : rIxU K (.ref p) (.int i) H Q := .inr (.inl ⟨p, xs, i, v, rfl, rfl, hs, ha, h⟩)
theorem isN_i {x : V} {R : VK} (h : R (.bl (decide (x = .non))) H) : V.non = V.non ∧ R (.bl (decide (x = .non))) H := ⟨rfl, h⟩
theorem call_int_i {i : Int} (h : Q (.int i) H) : (∃ j, [V.int i] = [V.int j] ∧ Q (.int j) H) ∨ ∃ k, [V.int i] = [V.bl k] ∧ Q (.int (if k then 1 else 0)) H := .inl ⟨i, rfl, h⟩
theorem rLen_l {p : Addr} {xs : List V} (hs : SqL K H p xs) (h : Q (.int xs.length) H) : rLen K [.ref p] H Q := ⟨_, _, rfl, .inl ⟨xs, hs, rfl⟩, h⟩
theorem rLen_t {p : Addr} {xs : List V} (hs : SqT K H p xs) (h : Q (.int xs.length) H) : rLen K [.ref p] H Q := ⟨_, _, rfl, .inr ⟨xs, hs, rfl⟩, h⟩
theorem and_pure {p : Prop} {q : Prop} (h1 : p) (h2 : q) : p ∧ q := ⟨h1, h2⟩
/-! new objects by values -/
theorem rSlL_i {a : Addr} {xs : List V} {lo hi : Option Int} (hS : SqL K H a xs) (h : ∀ p H', H p = none → Same H H' → H' p = some (.lst (cutV xs lo hi)) → Q (.ref p) H') : rSlL K (.ref a) lo hi H Q :=
  ⟨a, xs, rfl, hS, fun p hp => h p _ hp (Same.new hp) upd_same⟩
theorem rListOf_l {a : Addr} {xs : List V} (hS : SqL K H a xs) (h : ∀ p H', H p = none → Same H H' → H' p = some (.lst xs) → Q (.ref p) H') : rListOf K [.ref a] H Q :=
  ⟨a, xs, rfl, .inl hS, fun p hp => h p _ hp (Same.new hp) upd_same⟩
theorem rListOf_t {a : Addr} {xs : List V} (hS : SqT K H a xs) (h : ∀ p H', H p = none → Same H H' → H' p = some (.lst xs) → Q (.ref p) H') : rListOf K [.ref a] H Q :=
  ⟨a, xs, rfl, .inr hS, fun p hp => h p _ hp (Same.new hp) upd_same⟩
theorem rTupleOf_l {a : Addr} {xs : List V} (hS : SqL K H a xs) (h : ∀ p H', H p = none → Same H H' → H' p = some (.tup xs) → Q (.ref p) H') : rTupleOf K [.ref a] H Q :=
  ⟨a, xs, rfl, .inl ⟨hS, fun p hp => h p _ hp (Same.new hp) upd_same⟩⟩
theorem rAddU_l {a b : Addr} {xs ys : List V} (ha : H a = some (.lst xs)) (hb : H b = some (.lst ys)) (hn : xs.length + ys.length ≤ sizeLine) (h : ∀ p H', H p = none → Same H H' → H' p = some (.lst (xs ++ ys)) → Q (.ref p) H') : rAddU K (.ref a) (.ref b) H Q :=
  .inr (.inl ⟨a, b, xs, ys, rfl, rfl, ha, hb, hn, fun p hp => h p _ hp (Same.new hp) upd_same⟩)
theorem eqD_i {x y : V} {d e : PyData} (hx : Dp K H x d) (hy : Dp K H y e) (sd : SeqAt.shaped d = true) (se : SeqAt.shaped e = true) (h : Q (.bl (PyData.eqv d e)) H) : rEqU K x y H Q := .inr ⟨d, e, hx, hy, sd, se, h⟩
theorem neD_i {x y : V} {d e : PyData} (hx : Dp K H x d) (hy : Dp K H y e) (sd : SeqAt.shaped d = true) (se : SeqAt.shaped e = true) (h : Q (.bl (!PyData.eqv d e)) H) : rNeU K x y H Q := .inr ⟨d, e, hx, hy, sd, se, h⟩
/-! an append -/
theorem del_upd {H : Hp} {D : Addr} {o : HO} : del (upd H D o) D = del H D := by
  funext b
  by_cases hb : b = D
  · rw [hb, del_same, del_same]
  · rw [del_ne hb, upd_ne hb, del_ne hb]
def Chg (o : Addr) (H H' : Hp) : Prop := ∀ b u, b ≠ o → H b = some u → H' b = some u
theorem append_i {l : Addr} {xs : List V} {y : V} (hl : H l = some (.lst xs)) (hn : xs.length < sizeLine) (h : ∀ H', Chg l H H' → H' l = some (.lst (xs ++ [y])) → ((∀ H0, Same H0 H → H0 l = none → Same H0 H') ∧ del H' l = del H l) → Q .non H') : rAppend (.ref l) [y] H Q :=
  ⟨l, xs, y, rfl, rfl, hl, hn, h _ (fun b u hb e => by rw [upd_ne hb]; exact e) upd_same ⟨fun H0 s0 n => Same.upd s0 n, del_upd⟩⟩
theorem append_ints {l : Addr} {xs : List Int} {y : Int} (hl : H l = some (.lst (xs.map V.int))) (hn : xs.length < 1000000) (h : ∀ H', Chg l H H' → H' l = some (.lst ((xs ++ [y]).map V.int)) → (∀ H0, Same H0 H → H0 l = none → Same H0 H') → Q .non H') : rAppend (.ref l) [.int y] H Q :=
  append_i hl (by rw [List.length_map]; exact Nat.lt_trans hn (by decide)) fun H' c e s => h H' c (by rw [List.map_append]; exact e) s.1
def Dg (xs : List Int) : Prop := ∀ x ∈ xs, 0 ≤ x ∧ x < 1000
theorem dg_nil : Dg [] := fun _ h => nomatch h
theorem dg_app {xs : List Int} {y : Int} (h : Dg xs) (hy : 0 ≤ y ∧ y < 1000) : Dg (xs ++ [y]) := fun x hx => (List.mem_append.mp hx).elim (h x) fun z => by
  rw [List.mem_singleton.mp z]
  exact hy
theorem dg_mod {z : Int} : 0 ≤ z % 1000 ∧ z % 1000 < 1000 := by omega
theorem dg_take {xs : List Int} {n : Nat} (h : Dg xs) : Dg (xs.take n) := fun x hx => h x (List.mem_of_mem_take hx)
theorem cut_take {xs : List Int} {c : Int} (h0 : 0 ≤ c) (h1 : c ≤ xs.length) : cutV (xs.map V.int) none (some c) = (xs.take c.toNat).map V.int := by
  unfold cutV
  obtain ⟨n, rfl⟩ : ∃ n : Nat, c = (n : Int) := ⟨c.toNat, by omega⟩
  rw [HT.sIx_none, HT.sIx_nat, List.drop_zero, Nat.sub_zero, List.length_map, Nat.min_eq_left (by omega), Int.toNat_natCast, List.map_take]
/-- the drawn numbers and the counter -/
def Draw (K : PySem.W.Frag) (H : Hp) (c a : Addr) : Prop := (∃ xs : List Int, SqL K H c (xs.map V.int) ∧ 0 < xs.length) ∧ H a = some (cellO a)
theorem _root_.L2.Same.draw {K : PySem.W.Frag} {H H' : Hp} {c a : Addr} (s : Same H H') (h : Draw K H c a) : Draw K H' c a := by
  obtain ⟨⟨xs, h1, h2⟩, h3⟩ := h
  exact ⟨⟨xs, s.seq h1, h2⟩, s _ _ h3⟩
theorem tBM_i {T : String} {r : V → List V → Hp → VK → Prop} {to : TE} {ts : TA} (h : to σ H fun x H1 => tyV K T x H1 ∧ ts σ H1 fun xs H2 => r x xs H2 Q) : tBM K T r to ts σ H Q := h
theorem tyL {a : Addr} {xs : List V} {A : Prop} (hS : SqL K H a xs) (h : A) : tyV K "list" (.ref a) H ∧ A := ⟨.inl ⟨rfl, xs, hS⟩, h⟩
theorem tSl_i {r : V → Option Int → Option Int → Hp → VK → Prop} {tl th : TO} (h : te σ H fun x H1 => tl σ H1 fun l H2 => th σ H2 fun u H3 => r x l u H3 Q) : tSl r te tl th σ H Q := h
theorem tNoPart_i {R : Option Int → Hp → Prop} (h : R none H) : tNoPart σ H R := h
def PartI (x : V) (R : Option Int → Prop) : Prop := ∃ i, x = .int i ∧ R (some i)
theorem PartI_i {i : Int} {R : Option Int → Prop} (h : R (some i)) : PartI (.int i) R := ⟨i, rfl, h⟩
theorem tPart_i {R : Option Int → Hp → Prop} (h : te σ H fun x H1 => PartI x fun o => R o H1) : tPart te σ H R := h
theorem rInt1_i {i : Int} (h : Q (.int i) H) : rInt1 [.int i] H Q := .inl ⟨i, rfl, h⟩
theorem rInt1_b {k : Bool} (h : Q (.int (if k then 1 else 0)) H) : rInt1 [.bl k] H Q := .inr ⟨k, rfl, h⟩
theorem rMin2_i {i j : Int} (h : Q (.int (if j < i then j else i)) H) : rMin2 [.int i, .int j] H Q := ⟨i, j, rfl, h⟩
theorem rMax2_i {i j : Int} (h : Q (.int (if j > i then j else i)) H) : rMax2 [.int i, .int j] H Q := ⟨i, j, rfl, h⟩
theorem rAbs_i {i : Int} (h : Q (.int (if i < 0 then -i else i)) H) : rAbs [.int i] H Q := ⟨i, rfl, h⟩
theorem Tru_b {b : Bool} {R : Bool → Prop} (h : R b) : Tru K (.bl b) H R := ⟨b, rfl, h⟩
theorem Tru_i {i : Int} {R : Bool → Prop} (h : R (i != 0)) : Tru K (.int i) H R := ⟨_, rfl, h⟩
theorem Tru_n {R : Bool → Prop} (h : R false) : Tru K .non H R := ⟨_, rfl, h⟩
theorem rIsN_i {x : V} (h : Q (.bl (decide (x = .non))) H) : rIsN x .non H Q := ⟨rfl, h⟩
theorem rNotN_i {x : V} (h : Q (.bl (!decide (x = .non))) H) : rNotN x .non H Q := ⟨rfl, h⟩
theorem rSum_i {a : Addr} (ns : List Int) (hS : SqL K H a (ns.map V.int)) (h : Q (.int ns.sum) H) : rSum K [.ref a] H Q := ⟨a, ns, rfl, hS, h⟩
theorem rAll_i {a : Addr} (bs : List Bool) (hS : SqL K H a (bs.map V.bl)) (h : Q (.bl (bs.all id)) H) : rAll K [.ref a] H Q := ⟨a, bs, rfl, hS, h⟩
/-! raising -/
def spI1 (f : Str) (K : PySem.W.Frag) : Sp := fun vs H Q _ => ∃ (a C : Addr) (v : V), vs = [.ref a, v] ∧ OexC K C ∧ PySem.W.findIn K (.ref C) f = some none ∧ H a = some (exo a C none) ∧
  ∀ dx, H dx = none → dx ≠ a → Q .non (upd (upd H dx (exd dx [(f, v)])) a (exo a C (some dx)))
theorem spI1_len {f : Str} {vs : List V} {E : XK} (h : spI1 f K vs H Q E) : vs.length = 2 := by
  obtain ⟨a, C, v, rfl, _⟩ := h
  rfl
theorem spI1_body {f : Str} {N : List Str} {vs : List V} {E : XK} (h : spI1 f K vs H Q E) : tOst K f (tVar 0) (tVar 1) { nx := fun _ H' => Q .non H', rt := Q } (start N vs) H := by
  obtain ⟨a, C, v, rfl, T, hn, ha, k⟩ := h
  exact ⟨v, rfl, .ref a, rfl, a, C, rfl, T, hn, .inl ⟨ha, k⟩⟩
def MkO1 (C : Addr) (sp : Sp) (vs : List V) (H1 : Hp) (R : XK) : Prop := vs.length ≤ 1000 ∧ ∀ a, H1 a = none → sp (.ref a :: (vs ++ [])) (upd H1 a (exo a C none))
  (fun v H2 => v = .non ∧ ∃ (d : Addr) (fs : List (Str × V)), H2 a = some (exo a C (some d)) ∧ H2 d = some (exd d fs) ∧ H1 d = none ∧ R (.ref C) (some d) (upd (del H2 a) d (.xd fs))) (fun _ _ _ => False)
theorem tMkO_i {C : Addr} {sp : Sp} {ts : TA} {R : XK} (h : ts σ H fun vs H1 => MkO1 C sp vs H1 R) : tMkO C sp [] ts σ H R := h
theorem mkO1 {C : Addr} {f : Str} {v : V} {R : XK} (T : OexC K C) (hn : PySem.W.findIn K (.ref C) f = some none) (k : ∀ H' d, Same H H' → H' d = some (.xd [(f, v)]) → R (.ref C) (some d) H') : MkO1 C (spI1 f K) [v] H R := by
  refine ⟨by show 1 ≤ 1000; omega, fun a ha => ⟨a, C, v, rfl, T, hn, upd_same, fun dx hd hne => ⟨rfl, dx, [(f, v)], upd_same, ?_, ?_, k _ dx ?_ upd_same⟩⟩⟩
  · rw [upd_ne hne, upd_same]
  · rw [upd_ne hne] at hd
    exact hd
  · rw [upd_ne hne] at hd
    intro b u e
    have hb : b ≠ a := ne_of_none e ha
    rw [upd_ne (ne_of_none e hd), del_ne hb, upd_ne hb, upd_ne (ne_of_none e hd), upd_ne hb]
    exact e
/-! while -/
theorem while_w (W : Nat → St → Hp → Prop) (m : Nat) (h0 : W m σ H)
    (hs : ∀ m σ H, W m σ H → c σ H fun b H1 => Br b (∃ N : St → Hp → Prop, (∀ σ' H', N σ' H' → ∃ m', m' < m ∧ W m' σ' H') ∧ t { D with nx := N, ct := N, bk := D.nx } σ H1) (D.nx σ H1)) : tWhile c t D σ H := ⟨W, ⟨m, h0⟩, hs⟩
theorem turn_w {W : Nat → St → Hp → Prop} {m : Nat} (h : t { D with nx := fun σ' H' => ∃ m', m' < m ∧ W m' σ' H', ct := fun σ' H' => ∃ m', m' < m ∧ W m' σ' H', bk := D.nx } σ H) :
    ∃ N : St → Hp → Prop, (∀ σ' H', N σ' H' → ∃ m', m' < m ∧ W m' σ' H') ∧ t { D with nx := N, ct := N, bk := D.nx } σ H := ⟨_, fun _ _ z => z, h⟩
end
end EL

namespace EL
open PySem PySem.Spec PyProof.Rows L2

/-! ### sources: what an iterator gives while the heap says ok -/
structure Src (J : It) (n : Nat) (ok : Hp → Prop) (itm : Nat → V → Hp → Hp → Prop) : Prop where
  go : ∀ i H, ok H → i < n → J.go i H
  stop : ∀ i H, ok H → n ≤ i → J.stop i H
  yld : ∀ i H x H', ok H → i < n → J.yld i H x H' → itm i x H H'
def itmL (xs : List V) : Nat → V → Hp → Hp → Prop := fun i x H H' => H' = H ∧ xs[i]? = some x
def itmR (lo : Int) : Nat → V → Hp → Hp → Prop := fun i x H H' => H' = H ∧ x = .int (lo + (i : Nat))
def itmE (xs : List V) : Nat → V → Hp → Hp → Prop := fun i x H H' => ∃ p y, x = .ref p ∧ H p = none ∧ Same H H' ∧ H' p = some (.tup [.int (i : Nat), y]) ∧ xs[i]? = some y
def itmZ (xs ys : List V) : Nat → V → Hp → Hp → Prop := fun i x H H' => ∃ p y z, x = .ref p ∧ H p = none ∧ Same H H' ∧ H' p = some (.tup [y, z]) ∧ xs[i]? = some y ∧ ys[i]? = some z
section
variable {K : PySem.W.Frag} {a b : Addr} {xs ys : List V}
theorem srcL : Src (Itl K a) xs.length (fun H => SqL K H a xs) (itmL xs) where
  go := fun i H h hi => ⟨xs, xs[i], h, by simp [hi]⟩
  stop := fun i H h hi => ⟨xs, h, hi⟩
  yld := fun i H x H' h _ ⟨e, y⟩ => ⟨e, y xs h⟩
theorem srcT : Src (Itt K a) xs.length (fun H => SqT K H a xs) (itmL xs) where
  go := fun i H h hi => ⟨xs, xs[i], h, by simp [hi]⟩
  stop := fun i H h hi => ⟨xs, h, hi⟩
  yld := fun i H x H' h _ ⟨e, y⟩ => ⟨e, y xs h⟩
theorem srcR {lo : Int} {n : Nat} : Src (Itr lo n) n (fun _ => True) (itmR lo) where
  go := fun i H h hi => hi
  stop := fun i H h hi => hi
  yld := fun i H x H' h _ y => y
theorem srcE : Src (Ite K a) xs.length (fun H => SqL K H a xs) (itmE xs) where
  go := fun i H h hi => ⟨xs, xs[i], h, by simp [hi]⟩
  stop := fun i H h hi => ⟨xs, h, hi⟩
  yld := fun i H x H' h _ ⟨p, y, e1, e2, e3, e4⟩ => ⟨p, y, e1, e2, e3 ▸ Same.new e2, e3 ▸ upd_same, e4 xs h⟩
theorem srcZ : Src (Itz K a b) (min xs.length ys.length) (fun H => SqL K H a xs ∧ SqL K H b ys) (itmZ xs ys) where
  go := fun i H h hi => ⟨xs, ys, xs[i]'(by omega), ys[i]'(by omega), h.1, h.2, by simp, by simp⟩
  stop := fun i H h hi => ⟨xs, ys, h.1, h.2, by omega⟩
  yld := fun i H x H' h _ ⟨p, y, z, e1, e2, e3, e4, e5⟩ => ⟨p, y, z, e1, e2, e3 ▸ Same.new e2, e3 ▸ upd_same, e4 xs h.1, e5 ys h.2⟩
theorem srcZT : Src (RZ.ItzT K a b) (min xs.length ys.length) (fun H => SqT K H a xs ∧ SqT K H b ys) (itmZ xs ys) where
  go := fun i H h hi => ⟨xs, ys, xs[i]'(by omega), ys[i]'(by omega), h.1, h.2, by simp, by simp⟩
  stop := fun i H h hi => ⟨xs, ys, h.1, h.2, by omega⟩
  yld := fun i H x H' h _ ⟨p, y, z, e1, e2, e3, e4, e5⟩ => ⟨p, y, z, e1, e2, e3 ▸ Same.new e2, e3 ▸ upd_same, e4 xs h.1, e5 ys h.2⟩
end
/-! how a source begins: R is what is wanted of the iterator and of the heap -/
section
variable {σ : St} {H : Hp} {K : PySem.W.Frag} {te : TE} {ts : TA} {R : It → Hp → Prop}
def WL (K : PySem.W.Frag) (R : It → Hp → Prop) (x : V) (H : Hp) : Prop := ∃ a, x = .ref a ∧ (∃ xs, SqL K H a xs) ∧ R (Itl K a) H
def WT (K : PySem.W.Frag) (R : It → Hp → Prop) (x : V) (H : Hp) : Prop := ∃ a, x = .ref a ∧ (∃ xs, SqT K H a xs) ∧ R (Itt K a) H
def W1 (R : It → Hp → Prop) (vs : List V) (H : Hp) : Prop := ∃ j : Int, vs = [.int j] ∧ -(2 ^ 62) ≤ j ∧ j < 2 ^ 62 ∧ R (Itr 0 j.toNat) H
def W2 (R : It → Hp → Prop) (vs : List V) (H : Hp) : Prop := ∃ i j : Int, vs = [.int i, .int j] ∧ (-(2 ^ 62) ≤ i ∧ i < 2 ^ 62 ∧ -(2 ^ 62) ≤ j ∧ j < 2 ^ 62) ∧ R (Itr i (j - i).toNat) H
def WE (K : PySem.W.Frag) (R : It → Hp → Prop) (vs : List V) (H : Hp) : Prop := ∃ a xs, vs = [.ref a] ∧ SqL K H a xs ∧ R (Ite K a) H
def WZ (K : PySem.W.Frag) (R : It → Hp → Prop) (vs : List V) (H : Hp) : Prop := ∃ a b xs ys, vs = [.ref a, .ref b] ∧ SqL K H a xs ∧ SqL K H b ys ∧ R (Itz K a b) H
theorem wL (h : te σ H (WL K R)) : iU K te σ H R := .inl h
theorem wT (h : te σ H (WT K R)) : iU K te σ H R := .inr h
theorem w1 (h : ts σ H (W1 R)) : iRng1 ts σ H R := h
theorem w2 (h : ts σ H (W2 R)) : iRng2 ts σ H R := h
theorem wE (h : ts σ H (WE K R)) : iEnum K ts σ H R := h
theorem wZ (h : ts σ H (WZ K R)) : iZip K ts σ H R := h
theorem WL_i {a : Addr} (xs : List V) (hS : SqL K H a xs) (h : R (Itl K a) H) : WL K R (.ref a) H := ⟨a, rfl, ⟨xs, hS⟩, h⟩
theorem WT_i {a : Addr} (xs : List V) (hS : SqT K H a xs) (h : R (Itt K a) H) : WT K R (.ref a) H := ⟨a, rfl, ⟨xs, hS⟩, h⟩
theorem W1_i {j : Int} (h1 : -(2 ^ 62) ≤ j ∧ j < 2 ^ 62) (h : R (Itr 0 j.toNat) H) : W1 R [.int j] H := ⟨j, rfl, h1.1, h1.2, h⟩
theorem W2_i {i j : Int} (h1 : -(2 ^ 62) ≤ i ∧ i < 2 ^ 62 ∧ -(2 ^ 62) ≤ j ∧ j < 2 ^ 62) (h : R (Itr i (j - i).toNat) H) : W2 R [.int i, .int j] H := ⟨i, j, rfl, h1, h⟩
theorem WE_i {a : Addr} (xs : List V) (hS : SqL K H a xs) (h : R (Ite K a) H) : WE K R [.ref a] H := ⟨a, xs, rfl, hS, h⟩
theorem WZ_i {a b : Addr} (xs ys : List V) (hS : SqL K H a xs) (hT : SqL K H b ys) (h : R (Itz K a b) H) : WZ K R [.ref a, .ref b] H := ⟨a, b, xs, ys, rfl, hS, hT, h⟩
end

/-! ### for -/
def ForB (g : TG) (tb : TS) (D : Ends) (σ : St) (J : It) (H : Hp) : Prop := ∃ W : Nat → Nat → St → Hp → Prop, (∃ m, W 0 m σ H) ∧ ∀ i m σ H, W i m σ H →
  (J.stop i H ∧ D.nx σ H) ∨ (J.go i H ∧ ∃ N : St → Hp → Prop, (∀ σ' H', N σ' H' → ∃ m', m' < m ∧ W (i + 1) m' σ' H') ∧ ∀ x H', J.yld i H x H' → g x σ H' fun σ2 H2 => tb { D with nx := N, ct := N, bk := D.nx } σ2 H2)
section
variable {σ : St} {H : Hp} {wi : TI} {g : TG} {tb : TS} {D : Ends} {J : It} {n : Nat} {ok : Hp → Prop} {itm : Nat → V → Hp → Hp → Prop}
theorem tFor_i (h : wi σ H (ForB g tb D σ)) : tFor wi g tb D σ H := h
theorem forS (S : Src J n ok itm) (Pv : Nat → St → Hp → Prop) (h0 : Pv 0 σ H) (hok : ∀ i σ H, i ≤ n → Pv i σ H → ok H)
    (hs : ∀ i σ H x H', i < n → Pv i σ H → itm i x H H' → g x σ H' fun σ2 H2 => tb { D with nx := Pv (i + 1), ct := Pv (i + 1), bk := D.nx } σ2 H2) (hd : ∀ σ H, Pv n σ H → D.nx σ H) : ForB g tb D σ J H := by
  refine ⟨fun i m σ H => m = n - i ∧ i ≤ n ∧ Pv i σ H, ⟨n, by simp, Nat.zero_le _, h0⟩, ?_⟩
  rintro i m σ H ⟨rfl, hi, p⟩
  have q := hok i σ H hi p
  by_cases hlt : i < n
  · exact .inr ⟨S.go i H q hlt, Pv (i + 1), fun σ' H' p' => ⟨n - (i + 1), by omega, rfl, hlt, p'⟩, fun x H' y => hs i σ H x H' hlt p (S.yld i H x H' q hlt y)⟩
  · have e : i = n := by omega
    subst e
    exact .inl ⟨S.stop i H q (Nat.le_refl _), hd σ H p⟩
/-- turn by turn -/
def AndR (A B : Prop) : Prop := A ∧ B
def runS (ok : Hp → Prop) (g : TG) (tb : TS) (D : Ends) : List V → St → Hp → Prop
  | [], σ, H => D.nx σ H
  | x :: r, σ, H => g x σ H fun σ2 H2 => tb { D with nx := fun σ' H' => AndR (ok H') (runS ok g tb D r σ' H'), ct := fun σ' H' => AndR (ok H') (runS ok g tb D r σ' H'), bk := D.nx } σ2 H2
theorem forRun {xs : List V} (S : Src J xs.length ok (itmL xs)) (hS : ok H) (h : runS ok g tb D xs σ H) : ForB g tb D σ J H := by
  refine forS S (fun i σ H => ok H ∧ runS ok g tb D (xs.drop i) σ H) ⟨hS, by rw [List.drop_zero]; exact h⟩ (fun i σ H _ z => z.1) (fun i σ H x H' hi z hx => ?_) (fun σ H z => ?_)
  · obtain ⟨rfl, hx⟩ := hx
    have z2 := z.2
    obtain ⟨hi, e⟩ := List.getElem?_eq_some_iff.mp hx
    rw [List.drop_eq_getElem_cons hi, e] at z2
    exact z2
  · have z2 := z.2
    rw [List.drop_length] at z2
    exact z2
theorem runS_cons {x : V} {r : List V} (h : g x σ H fun σ2 H2 => tb { D with nx := fun σ' H' => AndR (ok H') (runS ok g tb D r σ' H'), ct := fun σ' H' => AndR (ok H') (runS ok g tb D r σ' H'), bk := D.nx } σ2 H2) : runS ok g tb D (x :: r) σ H := h
theorem run_next {A B : Prop} (h1 : A) (h2 : B) : AndR A B := ⟨h1, h2⟩
theorem runS_nil (h : D.nx σ H) : runS ok g tb D [] σ H := h
end

theorem tCell_i {σ : St} {H : Hp} {Q : VK} (h : ∀ p H', H p = none → Same H H' → H' p = some (cellO p) → Q (.ref p) H') : tCell σ H Q := fun p hp => h p _ hp (Same.new hp) upd_same
theorem cut_i {t u : TS} {D : Ends} {σ : St} {H : Hp} (M : St → Hp → Prop) (h : t { D with nx := M } σ H) (k : ∀ σ' H', M σ' H' → u D σ' H') : tCut t u D σ H := ⟨M, h, k⟩
theorem cut_s {t u : TS} {D : Ends} {σ : St} {H : Hp} (h : t { D with nx := u D } σ H) : tCut t u D σ H := ⟨u D, h, fun _ _ z => z⟩
/-! ### targets -/
section
variable {σ : St} {H : Hp} {K : PySem.W.Frag} {R : St → Hp → Prop} {t : TG} {u : TGs}
theorem gTup_i {n : Nat} {a : Addr} {xs : List V} (hS : SqT K H a xs) (hl : xs.length = n) (h : u xs σ H R) : gTup K n u (.ref a) σ H R := ⟨a, xs, rfl, hS, hl, h⟩
theorem gCons_i {v : V} {r : List V} (h : t v σ H fun σ' H' => u r σ' H' R) : gCons t u (v :: r) σ H R := ⟨v, r, rfl, h⟩
theorem gNil_i (h : R σ H) : gNil [] σ H R := ⟨rfl, h⟩
def SubE (s : TSet) (o i v : V) (H : Hp) (R : Hp → Prop) : Prop := s o i v H R
theorem gSub_i {to ti : TE} {s : TSet} {v : V} (h : to σ H fun o H1 => ti σ H1 fun i H2 => SubE s o i v H2 fun H3 => R σ H3) : gSub to ti s v σ H R := h
theorem setL_i {p : Addr} {xs : List V} {k : Int} {j : Nat} {v : V} {R : Hp → Prop} (hp : H p = some (.lst xs)) (hj : ixN xs.length k = some j)
    (h : ∀ H', Chg p H H' → H' p = some (.lst (xs.set j v)) → (∀ H0, Same H0 H → H0 p = none → Same H0 H') → R H') : SubE rSetU (.ref p) (.int k) v H R :=
  .inl ⟨p, xs, k, j, rfl, rfl, hp, hj, h _ (fun b u hb e => by rw [upd_ne hb]; exact e) upd_same fun H0 s0 n => Same.upd s0 n⟩
theorem setC_i {p : Addr} {n : Int} {R : Hp → Prop} (hp : H p = some (cellO p)) (h : R H) : SubE rSetU (.ref p) (.int 0) (.int n) H R := .inr ⟨p, n, rfl, rfl, rfl, hp, h⟩
theorem rIxU_c {K : PySem.W.Frag} {p : Addr} {Q : VK} (hp : H p = some (cellO p)) (h : ∀ n, Q (.int n) H) : rIxU K (.ref p) (.int 0) H Q := .inr (.inr (.inl ⟨p, rfl, rfl, hp, h⟩))
end

/-! ### comprehensions: the new list at D aside -/
theorem del_id {H : Hp} {D : Addr} (h : H D = none) : del H D = H := by
  funext b
  by_cases hb : b = D
  · rw [hb, del_same, h]
  · rw [del_ne hb]
theorem _root_.L2.Same.del {H H' : Hp} {D : Addr} (h : Same H H') : Same (L2.del H D) (L2.del H' D) := fun b o e => by
  by_cases hb : b = D
  · rw [hb, del_same] at e
    cases e
  · rw [del_ne hb] at e
    rw [del_ne hb]
    exact h b o e
theorem _root_.L2.Same.undel {H : Hp} {D : Addr} : Same (L2.del H D) H := fun b o e => by
  by_cases hb : b = D
  · rw [hb, del_same] at e
    cases e
  · rw [del_ne hb] at e
    exact e
theorem _root_.L2.Same.todel {H H' : Hp} {D : Addr} (h : Same H H') (n : H D = none) : Same H (L2.del H' D) := by
  have q := h.del (D := D)
  rw [del_id n] at q
  exact q
theorem del_at {H : Hp} {D p : Addr} {o : HO} (h : H p = some o) (ne : p ≠ D) : del H D p = some o := by rw [del_ne ne]; exact h
theorem del_new {H H' : Hp} {D p : Addr} {o o' : HO} (h : H' p = some o) (np : H p = none) (hD : H D = some o') : del H' D p = some o := del_at h fun e => by
  rw [e, hD] at np
  cases np
def LcB (g : TG) (tt : TT) (te : TE) (vs : List Nat) (σ : St) (Q : VK) (J : It) (H1 : Hp) : Prop := ∀ D, H1 D = none → ∃ W : Nat → Nat → Hp → Prop, (∃ m, W 0 m (upd H1 D (.lst []))) ∧ ∀ i m H, W i m H →
  (J.stop i H ∧ Q (.ref D) H) ∨ (J.go i H ∧ ∃ Nx : Hp → Prop, (∀ H', Nx H' → ∃ m', m' < m ∧ W (i + 1) m' H') ∧ ∀ x H', J.yld i H x H' → g x (wipe σ vs) H' fun σ2 H2 => wipe σ2 vs = wipe σ vs ∧ tt σ2 H2 fun b H3 =>
    if b = true then te σ2 H3 fun y H4 => ∃ acc, H4 D = some (.lst acc) ∧ acc.length < sizeLine ∧ Nx (upd H4 D (.lst (acc ++ [y]))) else Nx H3)
/-- what a turn of the comprehension must reach -/
def LcP (H0 : Hp) (D : Addr) (J : Nat → Hp → List V → Prop) (i : Nat) (H : Hp) : Prop := ∃ acc, Same H0 H ∧ H D = some (.lst acc) ∧ J i (del H D) acc
def LcY (D : Addr) (N : Hp → Prop) (y : V) (H4 : Hp) : Prop := ∃ acc, H4 D = some (.lst acc) ∧ acc.length < sizeLine ∧ N (upd H4 D (.lst (acc ++ [y])))
section
variable {σ : St} {H : Hp} {wi : TI} {g : TG} {tt : TT} {te : TE} {J : It} {n : Nat} {ok : Hp → Prop} {itm : Nat → V → Hp → Hp → Prop} {vs : List Nat} {Q : VK}
theorem tLc_i (h : wi σ H (LcB g tt te vs σ Q)) : tLc wi g tt te vs σ H Q := h
/-- C: what is known of the i items so far, the new list's entries and the heap without the new list -/
theorem lcS (S : Src J n ok itm) (C : Nat → Hp → List V → Prop) (hok : ∀ H', Same H H' → ok H') (h0 : C 0 H [])
    (hs : ∀ D i acc H1 x H2, i < n → H D = none → Same H H1 → H1 D = some (.lst acc) → C i (del H1 D) acc → itm i x H1 H2 → g x (wipe σ vs) H2 fun σ2 H2 => wipe σ2 vs = wipe σ vs ∧ tt σ2 H2 fun b H3 =>
      Br b (te σ2 H3 (LcY D (LcP H D C (i + 1)))) (LcP H D C (i + 1) H3))
    (hd : ∀ D acc H1, H D = none → Same H H1 → H1 D = some (.lst acc) → C n (del H1 D) acc → Q (.ref D) H1) : LcB g tt te vs σ Q J H := by
  intro D hD
  refine ⟨fun i m H' => m = n - i ∧ i ≤ n ∧ LcP H D C i H', ⟨n, by simp, Nat.zero_le _, [], Same.new hD, upd_same, by rw [del_upd, del_id hD]; exact h0⟩, ?_⟩
  rintro i m H1 ⟨rfl, hi, p⟩
  obtain ⟨acc, s1, e1, j1⟩ := id p
  have q := hok _ s1
  by_cases hlt : i < n
  · exact .inr ⟨S.go i H1 q hlt, LcP H D C (i + 1), fun H' p' => ⟨n - (i + 1), by omega, rfl, hlt, p'⟩, fun x H' y => hs D i acc H1 x H' hlt hD s1 e1 j1 (S.yld i H1 x H' q hlt y)⟩
  · have e : i = n := by omega
    subst e
    exact .inl ⟨S.stop i H1 q (Nat.le_refl _), hd D acc H1 hD s1 e1 j1⟩
theorem wipe_i {σ2 : St} {A : Prop} (h1 : wipe σ2 vs = wipe σ vs) (h2 : A) : wipe σ2 vs = wipe σ vs ∧ A := ⟨h1, h2⟩
theorem tYes_i {R : Bool → Hp → Prop} (h : R true H) : tYes σ H R := h
theorem lcY {D : Addr} {H0 : Hp} {C : Nat → Hp → List V → Prop} {i : Nat} {acc : List V} {y : V} (nD : H0 D = none) (s : Same H0 H) (e : H D = some (.lst acc)) (hl : acc.length < sizeLine) (j : C i (del H D) (acc ++ [y])) : LcY D (LcP H0 D C i) y H :=
  ⟨acc, e, hl, acc ++ [y], Same.upd s nD, upd_same, by rw [del_upd]; exact j⟩
theorem lcN {D : Addr} {H0 : Hp} {C : Nat → Hp → List V → Prop} {i : Nat} {acc : List V} (s : Same H0 H) (e : H D = some (.lst acc)) (j : C i (del H D) acc) : LcP H0 D C i H := ⟨acc, s, e, j⟩
end
/-! two clauses -/
def LcB2 (g : TG) (tt : TT) (wi1 : TI) (g1 : TG) (tt1 : TT) (te : TE) (vs vs1 : List Nat) (σ : St) (Q : VK) (J : It) (H1 : Hp) : Prop := ∀ D, H1 D = none → ∃ W : Nat → Nat → Hp → Prop, (∃ m, W 0 m (upd H1 D (.lst []))) ∧ ∀ i m H, W i m H →
  (J.stop i H ∧ Q (.ref D) H) ∨ (J.go i H ∧ ∃ Nx : Hp → Prop, (∀ H', Nx H' → ∃ m', m' < m ∧ W (i + 1) m' H') ∧ ∀ x H', J.yld i H x H' → g x (wipe σ vs) H' fun σ2 H2 => wipe σ2 vs = wipe σ vs ∧ tt σ2 H2 fun b H3 =>
    if b = true then wi1 σ2 H3 fun J1 H4 => ∃ W1 : Nat → Nat → Hp → Prop, (∃ m, W1 0 m H4) ∧ ∀ j k H, W1 j k H →
      (J1.stop j H ∧ Nx H) ∨ (J1.go j H ∧ ∃ Nx1 : Hp → Prop, (∀ H', Nx1 H' → ∃ k', k' < k ∧ W1 (j + 1) k' H') ∧ ∀ x H', J1.yld j H x H' → g1 x (wipe σ2 vs1) H' fun σ3 H5 => wipe σ3 vs1 = wipe σ2 vs1 ∧ tt1 σ3 H5 fun b H6 =>
        if b = true then te σ3 H6 fun y H7 => ∃ acc, H7 D = some (.lst acc) ∧ acc.length < sizeLine ∧ Nx1 (upd H7 D (.lst (acc ++ [y]))) else Nx1 H6)
    else Nx H3)
def LcIn (D : Addr) (N : Hp → Prop) (g1 : TG) (tt1 : TT) (te : TE) (vs1 : List Nat) (σ2 : St) (J1 : It) (H4 : Hp) : Prop := ∃ W1 : Nat → Nat → Hp → Prop, (∃ m, W1 0 m H4) ∧ ∀ j k H, W1 j k H →
      (J1.stop j H ∧ N H) ∨ (J1.go j H ∧ ∃ Nx1 : Hp → Prop, (∀ H', Nx1 H' → ∃ k', k' < k ∧ W1 (j + 1) k' H') ∧ ∀ x H', J1.yld j H x H' → g1 x (wipe σ2 vs1) H' fun σ3 H5 => wipe σ3 vs1 = wipe σ2 vs1 ∧ tt1 σ3 H5 fun b H6 =>
        if b = true then te σ3 H6 fun y H7 => ∃ acc, H7 D = some (.lst acc) ∧ acc.length < sizeLine ∧ Nx1 (upd H7 D (.lst (acc ++ [y]))) else Nx1 H6)
section
variable {σ : St} {H : Hp} {wi wi1 : TI} {g g1 : TG} {tt tt1 : TT} {te : TE} {J J1 : It} {n : Nat} {ok : Hp → Prop} {itm : Nat → V → Hp → Hp → Prop} {vs vs1 : List Nat} {Q : VK}
theorem tLc2_i (h : wi σ H (LcB2 g tt wi1 g1 tt1 te vs vs1 σ Q)) : tLc2 wi g tt wi1 g1 tt1 te vs vs1 σ H Q := h
theorem lc2S (S : Src J n ok itm) (C : Nat → Hp → List V → Prop) (hok : ∀ H', Same H H' → ok H') (h0 : C 0 H [])
    (hs : ∀ D i acc H1 x H2, i < n → H D = none → Same H H1 → H1 D = some (.lst acc) → C i (del H1 D) acc → itm i x H1 H2 → g x (wipe σ vs) H2 fun σ2 H2 => wipe σ2 vs = wipe σ vs ∧ tt σ2 H2 fun b H3 =>
      Br b (wi1 σ2 H3 (LcIn D (LcP H D C (i + 1)) g1 tt1 te vs1 σ2)) (LcP H D C (i + 1) H3))
    (hd : ∀ D acc H1, H D = none → Same H H1 → H1 D = some (.lst acc) → C n (del H1 D) acc → Q (.ref D) H1) : LcB2 g tt wi1 g1 tt1 te vs vs1 σ Q J H := by
  intro D hD
  refine ⟨fun i m H' => m = n - i ∧ i ≤ n ∧ LcP H D C i H', ⟨n, by simp, Nat.zero_le _, [], Same.new hD, upd_same, by rw [del_upd, del_id hD]; exact h0⟩, ?_⟩
  rintro i m H1 ⟨rfl, hi, p⟩
  obtain ⟨acc, s1, e1, j1⟩ := id p
  have q := hok _ s1
  by_cases hlt : i < n
  · exact .inr ⟨S.go i H1 q hlt, LcP H D C (i + 1), fun H' p' => ⟨n - (i + 1), by omega, rfl, hlt, p'⟩, fun x H' y => hs D i acc H1 x H' hlt hD s1 e1 j1 (S.yld i H1 x H' q hlt y)⟩
  · have e : i = n := by omega
    subst e
    exact .inl ⟨S.stop i H1 q (Nat.le_refl _), hd D acc H1 hD s1 e1 j1⟩
theorem lcIn (S : Src J1 n ok itm) {H0 : Hp} {D : Addr} {N : Hp → Prop} (C : Nat → Hp → List V → Prop) (hok : ∀ H', Same H0 H' → ok H') (h0 : LcP H0 D C 0 H)
    (hs : ∀ i acc H1 x H2, i < n → Same H0 H1 → H1 D = some (.lst acc) → C i (del H1 D) acc → itm i x H1 H2 → g1 x (wipe σ vs1) H2 fun σ2 H2 => wipe σ2 vs1 = wipe σ vs1 ∧ tt1 σ2 H2 fun b H3 =>
      Br b (te σ2 H3 (LcY D (LcP H0 D C (i + 1)))) (LcP H0 D C (i + 1) H3))
    (hd : ∀ H1, LcP H0 D C n H1 → N H1) : LcIn D N g1 tt1 te vs1 σ J1 H := by
  refine ⟨fun i m H' => m = n - i ∧ i ≤ n ∧ LcP H0 D C i H', ⟨n, by simp, Nat.zero_le _, h0⟩, ?_⟩
  rintro i m H1 ⟨rfl, hi, p⟩
  obtain ⟨acc, s1, e1, j1⟩ := id p
  have q := hok _ s1
  by_cases hlt : i < n
  · exact .inr ⟨S.go i H1 q hlt, LcP H0 D C (i + 1), fun H' p' => ⟨n - (i + 1), by omega, rfl, hlt, p'⟩, fun x H' y => hs i acc H1 x H' hlt s1 e1 j1 (S.yld i H1 x H' q hlt y)⟩
  · have e : i = n := by omega
    subst e
    exact .inl ⟨S.stop i H1 q (Nat.le_refl _), hd H1 p⟩
end
end EL

namespace EL
open PySem PySem.Spec PyProof.Rows L2
/-! ### data -/
def Sh (n : Nat) (d : PyData) : Prop := d.canLay0 = true ∧ d.depth ≤ n
def ShA (n : Nat) (ds : List PyData) : Prop := PyData.canLayAll0 ds = true ∧ PyData.depthAll ds ≤ n
theorem sh_int {n : Nat} {i : Int} : Sh n (.int i) := ⟨rfl, by simp [PyData.depth]⟩
theorem sh_str {n : Nat} {x : Str} (h : (PyData.str x).canLay0 = true) : Sh n (.str x) := ⟨h, by simp [PyData.depth]⟩
theorem sh_bool {n : Nat} {b : Bool} : Sh n (.bool b) := ⟨rfl, by simp [PyData.depth]⟩
theorem sh_none {n : Nat} : Sh n .none := ⟨rfl, by simp [PyData.depth]⟩
theorem shA_nil {n : Nat} : ShA n [] := ⟨rfl, by simp [PyData.depthAll]⟩
theorem shA_cons {n : Nat} {d : PyData} {ds : List PyData} (h : Sh n d) (h2 : ShA n ds) : ShA n (d :: ds) :=
  ⟨by rw [PyData.canLayAll0, h.1, h2.1]; rfl, by rw [PyData.depthAll]; exact Nat.max_le.mpr ⟨h.2, h2.2⟩⟩
theorem shA_all {n : Nat} : ∀ {ds : List PyData}, (∀ d ∈ ds, Sh n d) → ShA n ds
  | [], _ => shA_nil
  | d :: ds, h => shA_cons (h d (List.mem_cons_self ..)) (shA_all fun x hx => h x (List.mem_cons_of_mem _ hx))
theorem sh_lst {n : Nat} {ds : List PyData} (h : ShA n ds) : Sh (n + 1) (.list ds) := ⟨h.1, by rw [PyData.depth]; exact Nat.succ_le_succ h.2⟩
theorem sh_tup {n : Nat} {ds : List PyData} (h : ShA n ds) : Sh (n + 1) (.tuple ds) := ⟨h.1, by rw [PyData.depth]; exact Nat.succ_le_succ h.2⟩
theorem Sh.shaped {n : Nat} {d : PyData} (h : Sh n d) (hn : n ≤ 64 := by decide) : SeqAt.shaped d = true := Bool.and_eq_true_iff.mpr ⟨h.1, decide_eq_true (Nat.le_trans h.2 hn)⟩
theorem shA_ints {n : Nat} (xs : List Int) : ShA n (xs.map PyData.int) := shA_all fun d hd => by
  obtain ⟨x, _, rfl⟩ := List.mem_map.mp hd
  exact sh_int
theorem eqv_self {n : Nat} {d : PyData} (h : Sh n d) : PyData.eqv d d = true := SeqAt.eqv_refl d h.1
theorem eqvAll_ints : ∀ xs ys : List Int, PyData.eqvAll (xs.map PyData.int) (ys.map PyData.int) = decide (xs = ys)
  | [], [] => rfl
  | [], _ :: _ => by simp [PyData.eqvAll]
  | _ :: _, [] => by simp [PyData.eqvAll]
  | x :: xs, y :: ys => by
    rw [List.map_cons, List.map_cons, PyData.eqvAll, eqvAll_ints xs ys]
    show (x == y && decide (xs = ys)) = _
    by_cases h : x = y
    · subst h
      simp
    · simp [h]
theorem DpAll.app {K : PySem.W.Frag} {H : Hp} : ∀ {vs ws : List V} {ds es : List PyData}, DpAll K H vs ds → DpAll K H ws es → DpAll K H (vs ++ ws) (ds ++ es)
  | [], _, _, _, .nil, h => h
  | _ :: _, _, _, _, .cons a b, h => .cons a (DpAll.app b h)
theorem DpAll.one {K : PySem.W.Frag} {H : Hp} {v : V} {d : PyData} (h : Dp K H v d) : DpAll K H [v] [d] := .cons h .nil
theorem DpAll.len {K : PySem.W.Frag} {H : Hp} : ∀ {vs : List V} {ds : List PyData}, DpAll K H vs ds → vs.length = ds.length
  | [], _, .nil => rfl
  | _ :: _, _, .cons _ b => congrArg Nat.succ (DpAll.len b)
theorem DpAll.get {K : PySem.W.Frag} {H : Hp} : ∀ {vs : List V} {ds : List PyData} {i : Nat} {v : V}, DpAll K H vs ds → vs[i]? = some v → ∃ d, ds[i]? = some d ∧ Dp K H v d
  | _, _, _, _, .nil, e => by simp at e
  | _, _, 0, _, .cons r _, e => by simp at e; subst e; exact ⟨_, rfl, r⟩
  | _, _, i + 1, v, .cons _ t, e => by
    obtain ⟨u, h1, h2⟩ := DpAll.get (i := i) (v := v) t (by simpa using e)
    exact ⟨u, by simpa using h1, h2⟩
theorem DpAll.ints {K : PySem.W.Frag} {H : Hp} : ∀ {xs : List Int} {vs : List V}, DpAll K H vs (xs.map PyData.int) → vs = xs.map V.int
  | [], _, h => by cases h; rfl
  | x :: xs, _, h => by
    cases h with
    | cons a b =>
      cases a
      rw [DpAll.ints b]
      rfl
/-! ### isinstance -/
section
variable {K : PySem.W.Frag} {H : Hp} {Q : VK}
theorem isi_ty {x : V} {a b : String} {k : Bool} (ty : TyX K H x (.type a)) (e : kitB a b = some k) (h : Q (.bl k) H) : rIsiU K [x, .ty b] H Q := .inl ⟨x, .ty b, .type a, .type b, k, rfl, .ty b, ty, kit_ty e, h⟩
theorem isi_int_int {i : Int} (h : Q (.bl true) H) : rIsiU K [.int i, .ty "int"] H Q := isi_ty (.base (.int i)) (by decide +kernel) h
theorem isi_int_bool {i : Int} (h : Q (.bl false) H) : rIsiU K [.int i, .ty "bool"] H Q := isi_ty (.base (.int i)) (by decide +kernel) h
theorem isi_bool_bool {b : Bool} (h : Q (.bl true) H) : rIsiU K [.bl b, .ty "bool"] H Q := isi_ty (.base (.bl b)) (by decide +kernel) h
theorem isi_bool_int {b : Bool} (h : Q (.bl true) H) : rIsiU K [.bl b, .ty "int"] H Q := isi_ty (.base (.bl b)) (by decide +kernel) h
theorem isi_non_int (h : Q (.bl false) H) : rIsiU K [.non, .ty "int"] H Q := isi_ty (.base .non) (by decide +kernel) h
theorem isi_lst_lst {a : Addr} {xs : List V} (e : H a = some (.lst xs)) (h : Q (.bl true) H) : rIsiU K [.ref a, .ty "list"] H Q := isi_ty (.base (.lst e)) (by decide +kernel) h
theorem isi_tup_tup {a : Addr} {xs : List V} (e : H a = some (.tup xs)) (h : Q (.bl true) H) : rIsiU K [.ref a, .ty "tuple"] H Q := isi_ty (.base (.tup e)) (by decide +kernel) h
end
/-! ### a handled exception -/
section
variable {K : PySem.W.Frag} {H : Hp} {Q : VK} {σ : St}
theorem was_i {c cls : Value} {i : Nat} {ts : Addr → Value → Option Addr → TS} {Wout : WX} {D : Ends} {d : Option Addr} (em : PySem.W.exmOne K cls c = some true)
    (h : ∀ a, H a = none → ts a cls d { nx := fun σ' H' => D.nx (σ'.set i none) H', rt := D.rt, bk := fun σ' H' => D.bk (σ'.set i none) H', ct := fun σ' H' => D.ct (σ'.set i none) H' } (σ.set i (some (.ref a))) H) : L2.WE (wAs K c i ts Wout D) σ cls d H :=
  ⟨true, em, fun _ => h, fun z => Bool.noConfusion z⟩
theorem isX_c {a D C : Addr} {d : Option Addr} {b : Bool} (X : XCls K D) (fs : List (Str × V)) (hd : XDict H d fs) (e : PySem.W.kitOne K (.ref D) (.ref C) = some b) (h : Q (.bl b) H) : rIsX K a (.ref D) d [.ref a, .ref C] H Q :=
  ⟨D, fs, .ref C, b, rfl, rfl, X, hd, .inl ⟨_, .own C, e⟩, h⟩
theorem isX_t {a D : Addr} {d : Option Addr} {b : Bool} {n : String} (X : XCls K D) (fs : List (Str × V)) (hd : XDict H d fs) (e : PySem.W.kitOne K (.ref D) (.type n) = some b) (h : Q (.bl b) H) : rIsX K a (.ref D) d [.ref a, .ty n] H Q :=
  ⟨D, fs, .ty n, b, rfl, rfl, X, hd, .inl ⟨_, .ty n, e⟩, h⟩
def XFv (K : PySem.W.Frag) (a : Addr) (cls : Value) (d : Option Addr) (f : Str) (x : V) (H1 : Hp) (Q : VK) : Prop := ∃ (D dd : Addr) (fs : List (Str × V)) (v : V), x = .ref a ∧ cls = .ref D ∧ XCls K D ∧ d = some dd ∧ H1 dd = some (.xd fs) ∧
  PySem.W.findIn K (.ref D) f = some none ∧ fs.lookup f = some v ∧ Q v H1
theorem tXF_i {a : Addr} {cls : Value} {d : Option Addr} {f : Str} {te : TE} (h : te σ H fun x H1 => XFv K a cls d f x H1 Q) : tXF K a cls d f te σ H Q := h
theorem xf1 {a D dd : Addr} {f : Str} {v : V} (X : XCls K D) (hd : H dd = some (.xd [(f, v)])) (hn : PySem.W.findIn K (.ref D) f = some none) (h : Q v H) : XFv K a (.ref D) (some dd) f (.ref a) H Q :=
  ⟨D, dd, [(f, v)], v, rfl, rfl, X, rfl, hd, hn, by simp [List.lookup], h⟩
end
section
variable {H : Hp} {Q : VK} {σ : St} {te : TE}
def Rg1v (x : V) (H : Hp) (Q : VK) : Prop := ∃ n, x = .int n ∧ RgOk 0 n ∧ ∀ q, H q = none → Q (.ref q) (upd H q (.lst (rgV 0 n)))
theorem tLstRg1_i (h : te σ H fun x H1 => Rg1v x H1 Q) : tLstRg (tRg1 te) σ H Q := h
end
theorem rg1_i {H : Hp} {Q : VK} {n : Int} (hn : 0 ≤ n ∧ n ≤ 1000000) (h : ∀ q H', H q = none → Same H H' → H' q = some (.lst (rgV 0 n)) → Q (.ref q) H') : Rg1v (.int n) H Q :=
  ⟨n, rfl, .of_le (by omega) (by omega) (by omega) hn.1, fun q hq => h q _ hq (Same.new hq) upd_same⟩
/-! ### truth, choice by if -/
theorem gtup {H : Hp} {Q : VK} {E : XK} {o : Out} {xs : List V} (e : o = .tup xs) (k : ∀ H' p, Same H H' → H' p = some (.tup xs) → Q (.ref p) H') : Gives H Q E o := by
  subst e
  exact k
theorem glst {H : Hp} {Q : VK} {E : XK} {o : Out} {R : Hp → List V → Prop} (e : o = .lst R) (k : ∀ H' p vs, Same H H' → H p = none → H' p = some (.lst vs) → R H' vs → Q (.ref p) H') : Gives H Q E o := by
  subst e
  exact k
theorem at_int {xs : List Int} {i : Int} {n : Nat} {z : Int} (e : i = (n : Int)) (h : xs[n]? = some z) : atI (xs.map V.int) i = some (.int z) := at_of e (by rw [List.getElem?_map, h]; rfl)
theorem map_take_succ {α β : Type} {xs : List α} {f : α → β} {i : Nat} {x : α} (h : xs[i]? = some x) : (xs.take (i + 1)).map f = (xs.take i).map f ++ [f x] := by
  rw [List.take_add_one, h, List.map_append]
  rfl
theorem isi_tupS {K : PySem.W.Frag} {H : Hp} {Q : VK} {a : Addr} {xs : List V} (hS : SqT K H a xs) (h : Q (.bl true) H) : rIsiU K [.ref a, .ty "tuple"] H Q := by
  rcases hS with (e | ⟨o, e⟩) | ⟨o, its, n, hk, hc, _⟩
  · exact isi_tup_tup e h
  · exact isi_ty (.fTuple e) (by decide +kernel) h
  · exact isi_ty (.kTuple hk hc) (by decide +kernel) h
theorem isi_lstS {K : PySem.W.Frag} {H : Hp} {Q : VK} {a : Addr} {xs : List V} (hS : SqL K H a xs) (h : Q (.bl true) H) : rIsiU K [.ref a, .ty "list"] H Q := by
  rcases hS with (e | ⟨o, e⟩) | ⟨o, its, n, hk, hc, _⟩
  · exact isi_lst_lst e h
  · exact isi_ty (.base (.frz e)) (by decide +kernel) h
  · exact isi_ty (.kList hk hc) (by decide +kernel) h
def spLaw (K : PySem.W.Frag) : Sp := fun vs H Q _ => ∃ (a : Addr) (ns : List Int), vs = [.ref a] ∧ SqL K H a (ns.map V.int) ∧ ns.length ≤ 63 ∧ ∀ H', Q (.bl true) H'
theorem noX {P : Program} (w : World) (H : Hp) (s : Shared) (e : Value) (s' : Shared) (h : L2.CX P w [] H s (fun _ _ _ => False) e s') : False := by
  obtain ⟨_, _, _, _, _, _, _, _, _, _, _, _, z⟩ := h
  exact z
end EL

namespace EL
open PySem PySem.Spec PyProof.Rows L2
/-! ### {e for t in it if ..}, e a whole number -/
/-- the object that a new set is -/
abbrev set0 (w : World) : Obj :=
  { cls := .type "set", dict := none,
    data := .set #[] 0 (.fresh 0 0 (!w.params.followText "set-order")) }
abbrev noneS : Int → Bool := fun _ => false
/-- one more number is put in -/
def putS (S : Int → Bool) (k : Int) : Int → Bool := fun j => S j || decide (j = k)
/-- what a turn leaves where the test lets the item through -/
def ScY (w : World) (D : Addr) (N : Hp → Prop) (y : V) (H4 : Hp) : Prop :=
  rSAdd w (.ref D) [y] H4 fun _ H5 => N H5
def ScT (w : World) (g : TG) (tt : TT) (te : TE) (vs : List Nat) (σ : St) (D : Addr) (N : Hp → Prop) (x : V) (H : Hp) : Prop :=
  g x (wipe σ vs) H fun σ2 H2 => wipe σ2 vs = wipe σ vs ∧
    tt σ2 H2 fun b H3 => if b = true then te σ2 H3 (ScY w D N) else N H3
def ScB (w : World) (g : TG) (tt : TT) (te : TE) (vs : List Nat) (σ : St) (Q : VK) (J : It) (H1 : Hp) : Prop :=
  ∀ D, H1 D = none → ∃ W : Nat → Nat → Hp → Prop,
    (∃ m, W 0 m (upd H1 D (SetO w D noneS 0))) ∧
    ∀ i m H, W i m H → (J.stop i H ∧ Q (.ref D) H) ∨
      (J.go i H ∧ ∃ N : Hp → Prop, (∀ H', N H' → ∃ m', m' < m ∧ W (i + 1) m' H') ∧
        ∀ x H', J.yld i H x H' → ScT w g tt te vs σ D N x H')
def tScI (w : World) (wi : TI) (g : TG) (tt : TT) (te : TE) (vs : List Nat) : TE :=
  fun σ H Q => wi σ H (ScB w g tt te vs σ Q)
section
variable {X : Cx} {elt tg iter : Expr} {ifs : List Expr} {scope : Scope} {own : List (Str × Nat)}
variable {pos pos' : Pos} {wi : TI} {g : TG} {tt : TT} {te : TE}
variable {pins : List (Addr × Obj)} {s : Shared} {σ : St} {H : Hp} {Q : VK}
theorem scI_core {use : Option (Value → Sem Unit)} {Qf : Value → Shared → Prop}
    (calm : X.calm = true) (nd : X.N.Nodup) (I : Inv X pins σ H s) (pi : PI X tg iter wi) (ok : BlkOk X.N X.env.scope scope own)
    (tgt : ∀ (s : Shared) (H : Hp) (C : Addr) (cl : List (Str × Addr)) (fp : List Addr),
      PG (X.blk s H scope (compEnvC scope cl C X.env) fp) tg g)
    (tst : ∀ (s : Shared) (H : Hp) (C : Addr) (cl : List (Str × Addr)) (fp : List Addr),
      PTs (X.blk s H scope (compEnvC scope cl C X.env) fp) ifs tt)
    (val : ∀ (s : Shared) (H : Hp) (C : Addr) (cl : List (Str × Addr)) (fp : List Addr),
      PE (X.blk s H scope (compEnvC scope cl C X.env) fp) elt te)
    (fold : ∀ x, foldedSetIterable iter X.env x = pure x)
    (h : tScI X.w wi g tt te (own.map (·.2)) σ H Q)
    (after : ∀ D C s' m H', Inv X pins σ H' s' → Q (.ref D) H' → s'.heap.Ns C m → FpOk X pins H' C →
      compPost (model X.prog X.w) X.A X.xe use Qf (.ref D) C (.ok .next) s') :
    wpAny (model X.prog X.w) X.A
      (comprehension (.SetComp elt [⟨tg, iter, ifs, 0⟩] scope pos) scope X.env pos' (newSet (.type "set")) false (eval iter X.env) use)
      Qf X.xe s := by
  have frees : ∀ y ∈ scope.names, y.2 = .free → ∃ c, X.env.cells.lookup y.1 = some c := by
    intro y hy e
    exact I.ok.has _ ((ok.free y hy e).elim .inl .inr)
  refine wpAny_comprehension_free (use := use) rfl fold (closure_ok frees) ok.kind
    (fun y hy e => by rw [ok.uniq y hy, e]) (thn (pi.run pins s σ H _ I h) fun v s1 k => thn k fun it0 s2 k2 => ?_)
  obtain ⟨it, fp, tn, J, H2, rfl, I2, T, at0, free2, body⟩ := k2
  refine PpSet.newSet_ok (newEnv_comp ?_)
  obtain ⟨D, eD⟩ : ∃ D, D = s2.heap.objs.size := ⟨_, rfl⟩
  rw [← eD]
  have nD : H2 D = none := I2.hok.fresh (Nat.le_of_eq eD.symm)
  obtain ⟨W, ⟨m0, w0⟩, turn⟩ := body D nD
  obtain ⟨s3, e3⟩ : ∃ s3 : Shared, s3 = { s2 with heap := s2.heap.push (set0 X.w) } := ⟨_, rfl⟩
  have hp3 : s3.heap = s2.heap.push (set0 X.w) := by rw [e3]
  have keep3 : ∀ b o, s2.heap.get? b = some o → s3.heap.get? b = some o := fun b o e => by
    rw [hp3]
    exact Heap.get?_push_of_some _ e
  obtain ⟨H3, eH3⟩ : ∃ H3, H3 = upd H2 D (SetO X.w D noneS 0) := ⟨_, rfl⟩
  rw [← eH3] at w0
  have I3 : Inv X pins σ H3 s3 := by
    rw [e3, eH3]
    refine I2.laid (t' := s2.toks) (fun b o e => Heap.get?_push_of_some _ e) (Nat.le_of_eq eD.symm) ?_
    rw [eD]
    exact setO_new (setR_fresh X.w)
  have below : ∀ b ∈ fp, b < s2.heap.objs.size := fun b hb => (T.obj _ _ at0 b hb).elim fun o z => Heap.lt_size z.1
  have free3 : ∀ b ∈ fp, FpOk X pins H3 b ∧ b < s3.heap.objs.size := by
    intro b hb
    have lt := below b hb
    refine ⟨⟨?_, (free2 b hb).2⟩, ?_⟩
    · rw [eH3, upd_ne (by rw [eD]; exact Nat.ne_of_lt lt)]
      exact (free2 b hb).1
    · rw [hp3, Heap.size_push]
      exact Nat.lt_succ_of_lt lt
  have at3 : tn 0 s3.heap := T.keep _ _ _ at0 fun b _ o e => keep3 b o e
  have I4 := block_start I3 ok nd free3
  have pg := tgt s3 H3 s3.heap.objs.size (cellsFrom (s3.heap.objs.size + 1) scope.names (cloFrom X.env.cells scope.names [])) fp
  have pt := tst s3 H3 s3.heap.objs.size (cellsFrom (s3.heap.objs.size + 1) scope.names (cloFrom X.env.cells scope.names [])) fp
  have pe := val s3 H3 s3.heap.objs.size (cellsFrom (s3.heap.objs.size + 1) scope.names (cloFrom X.env.cells scope.names [])) fp
  rw [← e3]
  show codeAny _ _ (.compStart _ 0 (.ref it) (.ref D) (compEnvC scope (cellsFrom (s3.heap.objs.size + 1) scope.names (cloFrom X.env.cells scope.names [])) s3.heap.objs.size X.env))
    (compPost (model X.prog X.w) X.A X.xe use Qf (.ref D) s3.heap.objs.size)
    { s3 with heap := pushCells (s3.heap.push { cls := .type "dict", data := .dict #[] }) scope.names }
  have nfp : ∀ b ∈ fp, H3 b = none := fun b hb => (free3 b hb).1.1
  generalize hce : compEnvC scope (cellsFrom (s3.heap.objs.size + 1) scope.names (cloFrom X.env.cells scope.names [])) s3.heap.objs.size X.env = ce at I4 pg pt pe ⊢
  have locC : ce.locals = s3.heap.objs.size := by
    rw [← hce]
    rfl
  generalize hs4 : ({ s3 with heap := pushCells (s3.heap.push { cls := .type "dict", data := .dict #[] }) scope.names } : Shared) = s4 at I4 ⊢
  have at4 : tn 0 s4.heap := T.keep _ _ _ at3 fun b _ o e => by
    rw [← hs4]
    exact pushCells_keeps _ _ _ _ (Heap.get?_push_of_some _ e)
  have frees' : ∀ {σ' : St} {H' : Hp} {s' : Shared}, Inv (X.blk s3 H3 scope ce fp) [] σ' H' s' → (∀ b ∈ fp, H' b = none) →
      ∀ b ∈ fp, FpOk (X.blk s3 H3 scope ce fp) [] H' b := by
    intro σ' H' s' I' n b hb
    exact ⟨n b hb, (I'.ok.exf b hb).1, I'.ok.exfs b hb, .inl hb, fun x c e => (I'.ok.exf b hb).2 x c e, fun p z => by cases z⟩
  refine PpSet.codeAny_compStart_set ?_ (T.self X.A 0 _ _ _ at4 ?_)
  all_goals
    refine PpSet.compLoopS_any (fun n s' => ∃ i H', Inv (X.blk s3 H3 scope ce fp) [] (wipe σ (own.map (·.2))) H' s' ∧
      tn i s'.heap ∧ (∀ b ∈ fp, H' b = none) ∧ W i n H') ?_ m0 ⟨0, H3, I4, at4, nfp, w0⟩
    rintro n s5 ⟨i, H5, I5, at5, n5, w5⟩
    rcases turn i n H5 w5 with ⟨stop, fin⟩ | ⟨go, N, hN, step⟩
    · refine thnF (T.done (X.blk s3 H3 scope ce fp) rfl rfl rfl calm i [] s5 _ H5 (fun _ _ => False) I5 (frees' I5 n5) at5 stop) fun r s6 hr => ?_
      obtain ⟨rfl, I6⟩ := hr
      have I7 : Inv X pins σ H5 s6 := I3.call' (ch := fp) I6.os I6.base I6.hok I6.bare fun b hb => by
        obtain ⟨_, _, z1, z2, z3, z4⟩ := (free3 b hb).1
        exact ⟨z2, (free3 b hb).1.2.1, z3, z4⟩
      have nC : H5 s3.heap.objs.size = none := locC ▸ (show H5 ce.locals = none from I6.free)
      obtain ⟨m, hm, _⟩ := I6.loc
      have hm' : s6.heap.Ns ce.locals m := hm
      rw [locC] at hm'
      exact after D s3.heap.objs.size s6 m H5 I7 fin hm' (I3.fpOk (Nat.le_refl _) nC)
    · refine thnF (T.item (X.blk s3 H3 scope ce fp) rfl rfl rfl calm i [] s5 _ H5 (fun _ _ => False) I5 (frees' I5 n5) at5 go) fun r s6 hr => ?_
      obtain ⟨u, rfl, h6⟩ := hr
      refine thnF h6 fun _ s7 z7 => ?_
      obtain ⟨x, H7, I7, r7, y7, at7, n7⟩ := z7
      refine thnF (pg.run _ s7 _ H7 x u _ (I7.pinned (frees' I7 n7) (T.obj _ _ at7)) r7 (step x H7 y7)) fun _ s8 z8 => ?_
      obtain ⟨σ8, H8, I8, wi8, q8⟩ := z8
      refine thnF (pt.run _ s8 σ8 H8 _ I8 q8) fun b s9 z9 => ?_
      obtain ⟨H9, I9, q9⟩ := z9
      have over : ∀ {s' : Shared} {H' : Hp}, Inv (X.blk s3 H3 scope ce fp) ([] ++ pinsAt fp s7.heap) σ8 H' s' → N H' →
          ∃ m, m < n ∧ ∃ i H', Inv (X.blk s3 H3 scope ce fp) [] (wipe σ (own.map (·.2))) H' s' ∧ tn i s'.heap ∧ (∀ b ∈ fp, H' b = none) ∧ W i m H' := by
        intro s' H' I' nx
        obtain ⟨m', lt, w'⟩ := hN H' nx
        have same : ∀ b ∈ fp, ∀ o, s7.heap.get? b = some o → s'.heap.get? b = some o ∧ H' b = none := by
          intro b hb o e
          have z := I'.pin (b, o) (List.mem_append_right _ (List.mem_append_right _ (mem_pinsAt hb e)))
          exact ⟨z.1, z.2.1⟩
        have len : (wipe σ (own.map (·.2))).length = σ8.length := by rw [← wi8, wipe_length]
        refine ⟨m', lt, i + 1, H', (I'.unpinned (pins := [])).weak len (fun j v e => ?_), ?_, ?_, w'⟩
        · rw [← wi8] at e
          exact (wipe_some e).1
        · exact T.keep _ _ _ at7 fun b hb o e => (same b hb o e).1
        · intro b hb
          obtain ⟨o, e, _⟩ := T.obj _ _ at7 b hb
          exact (same b hb o e).2
      cases b with
      | false => exact over I9 (by simpa using q9)
      | true =>
        refine thnF (pe.run _ s9 σ8 H9 _ I9 (by simpa using q9)) fun z s10 z10 => ?_
        obtain ⟨yv, H10, I10, r10, q10⟩ := z10
        refine thnF (mt_sadd (X := X.blk s3 H3 scope ce fp) _ s10 _ H10 (.ref D) [yv] (.ref D) [z] _ I10 rfl (.cons r10 .nil) q10) fun _ s11 z11 => ?_
        obtain ⟨_, H11, I11, _, q11⟩ := z11
        exact over I11 q11
/-- as a value -/
theorem pe_scI (calm : X.calm = true) (nd : X.N.Nodup) (pi : PI X tg iter wi) (ok : BlkOk X.N X.env.scope scope own)
    (tgt : ∀ (s : Shared) (H : Hp) (C : Addr) (cl : List (Str × Addr)) (fp : List Addr),
      PG (X.blk s H scope (compEnvC scope cl C X.env) fp) tg g)
    (tst : ∀ (s : Shared) (H : Hp) (C : Addr) (cl : List (Str × Addr)) (fp : List Addr),
      PTs (X.blk s H scope (compEnvC scope cl C X.env) fp) ifs tt)
    (val : ∀ (s : Shared) (H : Hp) (C : Addr) (cl : List (Str × Addr)) (fp : List Addr),
      PE (X.blk s H scope (compEnvC scope cl C X.env) fp) elt te)
    (fold : ∀ x, foldedSetIterable iter X.env x = pure x := by intro _; rfl) :
    PE X (.SetComp elt [⟨tg, iter, ifs, 0⟩] scope pos) (tScI X.w wi g tt te (own.map (·.2))) := by
  constructor
  intro pins s σ H Q I h
  rw [PpSet.eval_SetComp]
  refine scI_core calm nd I pi ok tgt tst val fold h fun D C s' m H' I' q ns f => ⟨m, ns, fun h'' sb => ?_⟩
  obtain ⟨z0, z1, z2, z3, z4, z5⟩ := f
  exact ⟨.ref D, H', I'.turned (t' := s'.toks) (fun b o hb e => (sb.2 b hb).trans e) z0 z1 z3 z4 z5, rfl, q⟩
end

section
variable {X : Cx} {elt tg iter : Expr} {ifs : List Expr} {scope : Scope} {own : List (Str × Nat)}
variable {pos spos py : Pos} {wi : TI} {g : TG} {tt : TT} {te : TE} {i : Nat} {y : Str}
/-- name = {..} on one line, the name a local -/
theorem ps_setScI (calm : X.calm = true) (nd : X.N.Nodup) (at_ : X.N[i]? = some y) (isl : X.env.scope.names.lookup y = some .local)
    (sw : swapsWith (.SetComp elt [⟨tg, iter, ifs, 0⟩] scope pos) (some (.Name y py)) spos.line X.env = pure true)
    (pi : PI X tg iter wi) (ok : BlkOk X.N X.env.scope scope own)
    (tgt : ∀ (s : Shared) (H : Hp) (C : Addr) (cl : List (Str × Addr)) (fp : List Addr),
      PG (X.blk s H scope (compEnvC scope cl C X.env) fp) tg g)
    (tst : ∀ (s : Shared) (H : Hp) (C : Addr) (cl : List (Str × Addr)) (fp : List Addr),
      PTs (X.blk s H scope (compEnvC scope cl C X.env) fp) ifs tt)
    (val : ∀ (s : Shared) (H : Hp) (C : Addr) (cl : List (Str × Addr)) (fp : List Addr),
      PE (X.blk s H scope (compEnvC scope cl C X.env) fp) elt te)
    (fold : ∀ x, foldedSetIterable iter X.env x = pure x := by intro _; rfl) :
    PS X (.Assign [.Name y py] (.SetComp elt [⟨tg, iter, ifs, 0⟩] scope pos) spos) (tAsg (tScI X.w wi g tt te (own.map (·.2))) (gName i)) := by
  constructor
  intro pins s σ H D I h
  rw [exec_Assign_Name_used _ _ _ _ sw]
  refine wpAny_bind (wpAny_standAt (wpAny_bind ?_))
  show wpAny _ X.A (do
    let _ ← comprehension (.SetComp elt [⟨tg, iter, ifs, 0⟩] scope pos) scope X.env (firstIterPos [⟨tg, iter, ifs, 0⟩] pos) (newSet (.type "set")) false (eval iter X.env) (some (assign (.Name y py) X.env))) _ _ s
  have h' : tScI X.w wi g tt te (own.map (·.2)) σ H (fun x H1 => gName i x σ H1 D.nx) := h
  refine wpAny_bind (thn (scI_core (Qf := fun _ s' => SP X pins D .next s') calm nd I pi ok tgt tst val fold h'
    fun L C s' m H' I' q ns f => ?_) fun _ s' hq => wpAny_pure (wpAny_pure hq))
  show wpAny _ _ (assign (.Name y py) X.env (.ref L)) _ _ _
  obtain ⟨z0, z1, z2, z3, z4, z5⟩ := f
  refine wpAny_assign_Name (store_ok2 (v := V.ref L) I' nd at_ (.inl isl) rfl (fun s2 I2 st => ?_) (.inr isl))
  obtain ⟨a, sb, ha⟩ := st
  have hne : C ≠ a := ha.elim (fun z => by rw [z]; exact z1) fun z e => z4 y a z e.symm
  refine ⟨m, ns.sameBut sb hne, fun h3 sb3 => ⟨_, H', ?_, q⟩⟩
  exact I2.turned (t' := s2.toks) (fun b o hb e => (sb3.2 b hb).trans e) z0 z1 z3 z4 z5
theorem sw_setTrue {gs : List Comprehension} {l : Nat} {env : Env} (hk : env.scope.kind = .function) (hy : env.scope.names.lookup y = some .local)
    (hl : (py.line == pos.line) = true) (ha : (scope.names.any fun (n, k) => n == y && (k == .local || k == .cell)) = false) :
    swapsWith (.SetComp elt gs scope pos) (some (.Name y py)) l env = pure true := by
  have k1 : env.kindOf y = some .local := hy
  have k2 : env.blockKind = .function := by
    unfold Env.blockKind
    rw [hk] <;> rfl
  unfold swapsWith
  simp only [k2, k1, ha, Expr.pos, hl]
  rfl
end
theorem roomH_suite {X : Cx} {k j : Nat} {a : Addr} {pn : List (Addr × Obj)} (r : Room k X.A) (h : j ≤ k) : L2H.RoomH j (X.suite a pn).A := by
  have q := (L2H.roomH_of r).mono h
  exact ⟨q.dp, q.un⟩
/-! ### in, not in: lists, tuples, sets of whole numbers, deep lists -/
def rInSet (w : World) (neg : Bool) : R2 := fun x y H Q =>
  ∃ k a S n, x = V.int k ∧ y = V.ref a ∧ H a = some (SetO w a S n) ∧ Q (.bl (if neg = true then !S k else S k)) H
def rInDeep (K : PySem.W.Frag) (neg : Bool) : R2 := fun x y H Q =>
  ∃ d ds, Dp K H x d ∧ Dp K H y (.list ds) ∧ SeqAt.shaped d = true ∧ SeqAt.shaped (.list ds) = true ∧
    Q (.bl (if neg = true then !(ds.any fun z => PyData.eqv z d) else ds.any fun z => PyData.eqv z d)) H
def rInU (K : PySem.W.Frag) (w : World) (neg : Bool) : R2 := fun x y H Q =>
  rIn K neg x y H Q ∨ rInSet w neg x y H Q ∨ rInDeep K neg x y H Q
section
variable {X : Cx}
theorem op_inU (K : PySem.W.Frag) (w : World) {k : Nat} (hr : Room k X.A) (hK : X.K = K := by rfl) (hw : X.w = w := by rfl) :
    OpR X (compareOp .In) (rInU K w false) := by
  subst hK hw
  intro pins s σ H x y v u Q I rx ry h
  rcases h with h | ⟨k, a, S, n, e1, e2, e3, q⟩ | ⟨d, ds, e1, e2, e3, e4, q⟩
  · exact op_in_seq pins s σ H x y v u Q I rx ry h
  · exact or_sin pins s σ H x y v u Q I rx ry ⟨k, a, S, n, e1, e2, e3, q⟩
  · exact op_inD (by have := hr.un; omega) pins s σ H x y v u Q I rx ry ⟨d, ds, e1, e2, e3, e4, q⟩
theorem op_notInU (K : PySem.W.Frag) (w : World) {k : Nat} (hr : Room k X.A) (hK : X.K = K := by rfl) (hw : X.w = w := by rfl) :
    OpR X (compareOp .NotIn) (rInU K w true) := by
  subst hK hw
  intro pins s σ H x y v u Q I rx ry h
  rcases h with h | ⟨k, a, S, n, e1, e2, e3, q⟩ | ⟨d, ds, e1, e2, e3, e4, q⟩
  · exact op_notIn_seq pins s σ H x y v u Q I rx ry h
  · exact or_snotin pins s σ H x y v u Q I rx ry ⟨k, a, S, n, e1, e2, e3, q⟩
  · exact op_notInD (by have := hr.un; omega) pins s σ H x y v u Q I rx ry ⟨d, ds, e1, e2, e3, e4, q⟩
end
section
variable {K : PySem.W.Frag} {w : World} {H : Hp} {Q : VK} {a : Addr} {i : Int} {L : List Int}
theorem inV_ints : inV (.int i) (L.map V.int) = decide (i ∈ L) := by
  induction L with
  | nil => rfl
  | cons x r ih =>
    have e : inV (.int i) ((x :: r).map V.int) = (eqV (.int x) (.int i) || inV (.int i) (r.map V.int)) := rfl
    rw [e, ih]
    have e2 : eqV (.int x) (.int i) = decide (i = x) := by
      by_cases c : i = x
      · subst c
        simp [eqV]
      · rw [decide_eq_false c]
        simp [eqV]
        omega
    rw [e2, Bool.eq_iff_iff]
    simp
theorem flat_ints : (L.map V.int).all flatV = true := by
  induction L with
  | nil => rfl
  | cons x r ih => rw [List.map_cons, List.all_cons, ih]; rfl
theorem inI_l (hS : SqL K H a (L.map V.int)) (h : Q (.bl (decide (i ∈ L))) H) : rInU K w false (.int i) (.ref a) H Q :=
  .inl ⟨a, _, rfl, .inl hS, rfl, flat_ints, by rw [inV_ints]; exact h⟩
theorem notInI_l (hS : SqL K H a (L.map V.int)) (h : Q (.bl (decide (i ∉ L))) H) : rInU K w true (.int i) (.ref a) H Q :=
  .inl ⟨a, _, rfl, .inl hS, rfl, flat_ints, by rw [inV_ints, ← decide_not]; exact h⟩
theorem inI_s {S : Int → Bool} {n : Nat} (e : H a = some (SetO w a S n)) (h : Q (.bl (S i)) H) : rInU K w false (.int i) (.ref a) H Q :=
  .inr (.inl ⟨i, a, S, n, rfl, rfl, e, h⟩)
end
/-! ### the comprehension read -/
/-- what a turn must reach: C of the items so far, the heap without the set, its members and their number -/
def ScP (w : World) (H0 : Hp) (D : Addr) (C : Nat → Hp → (Int → Bool) → Nat → Prop) (i : Nat) (H : Hp) : Prop :=
  ∃ S c, Same H0 H ∧ H D = some (SetO w D S c) ∧ C i (del H D) S c
section
variable {w : World} {σ : St} {H : Hp} {wi : TI} {g : TG} {tt : TT} {te : TE} {J : It} {n : Nat} {ok : Hp → Prop}
variable {itm : Nat → V → Hp → Hp → Prop} {vs : List Nat} {Q : VK}
theorem tScI_i (h : wi σ H (ScB w g tt te vs σ Q)) : tScI w wi g tt te vs σ H Q := h
theorem scS (S : Src J n ok itm) (C : Nat → Hp → (Int → Bool) → Nat → Prop) (hok : ∀ H', Same H H' → ok H') (h0 : C 0 H noneS 0)
    (hs : ∀ D i M c H1 x H2, i < n → H D = none → Same H H1 → H1 D = some (SetO w D M c) → C i (del H1 D) M c → itm i x H1 H2 →
      g x (wipe σ vs) H2 fun σ2 H2 => wipe σ2 vs = wipe σ vs ∧ tt σ2 H2 fun b H3 =>
        Br b (te σ2 H3 (ScY w D (ScP w H D C (i + 1)))) (ScP w H D C (i + 1) H3))
    (hd : ∀ D M c H1, H D = none → Same H H1 → H1 D = some (SetO w D M c) → C n (del H1 D) M c → Q (.ref D) H1) :
    ScB w g tt te vs σ Q J H := by
  intro D hD
  refine ⟨fun i m H' => m = n - i ∧ i ≤ n ∧ ScP w H D C i H', ⟨n, by simp, Nat.zero_le _, noneS, 0, Same.new hD, upd_same, ?_⟩, ?_⟩
  · rw [del_upd, del_id hD]
    exact h0
  rintro i m H1 ⟨rfl, hi, p⟩
  obtain ⟨M, c, s1, e1, j1⟩ := id p
  have q := hok _ s1
  by_cases hlt : i < n
  · refine .inr ⟨S.go i H1 q hlt, ScP w H D C (i + 1), fun H' p' => ⟨n - (i + 1), by omega, rfl, hlt, p'⟩, fun x H' y => ?_⟩
    exact hs D i M c H1 x H' hlt hD s1 e1 j1 (S.yld i H1 x H' q hlt y)
  · have e : i = n := by omega
    subst e
    exact .inl ⟨S.stop i H1 q (Nat.le_refl _), hd D M c H1 hD s1 e1 j1⟩
theorem scY {D : Addr} {H0 : Hp} {C : Nat → Hp → (Int → Bool) → Nat → Prop} {i c : Nat} {M : Int → Bool} {k : Int} (nD : H0 D = none)
    (s : Same H0 H) (e : H D = some (SetO w D M c)) (hl : c + 1 < scanBound) (j : C i (del H D) (putS M k) (if M k = true then c else c + 1)) :
    ScY w D (ScP w H0 D C i) (.int k) H := by
  refine ⟨D, k, M, c, rfl, rfl, e, hl, _, _, Same.upd s nD, upd_same, ?_⟩
  rw [del_upd]
  exact j
theorem scN {D : Addr} {H0 : Hp} {C : Nat → Hp → (Int → Bool) → Nat → Prop} {i c : Nat} {M : Int → Bool} (s : Same H0 H)
    (e : H D = some (SetO w D M c)) (j : C i (del H D) M c) : ScP w H0 D C i H := ⟨M, c, s, e, j⟩
end

theorem tCallE_i {sp : SpX} {a : Addr} {cls : Value} {d : Option Addr} {t : TA} {σ : St} {H : Hp} {Q : VK}
    (h : t σ H fun vs H1 => sp a cls d vs H1 Q (fun _ _ _ => False)) : tCallE sp a cls d t σ H Q := h
theorem bl_eq {i j : Bool} : decide (V.bl i = V.bl j) = decide (i = j) := by cases i <;> cases j <;> rfl
theorem rEqU_b {K : PySem.W.Frag} {H : Hp} {Q : VK} {i j : Bool} (h : Q (.bl (decide (i = j))) H) : rEqU K (.bl i) (.bl j) H Q :=
  .inl ⟨rfl, by rw [bl_eq]; exact h⟩
theorem rNeU_b {K : PySem.W.Frag} {H : Hp} {Q : VK} {i j : Bool} (h : Q (.bl (!decide (i = j))) H) : rNeU K (.bl i) (.bl j) H Q :=
  .inl ⟨rfl, by rw [bl_eq]; exact h⟩
/-! every member of a list that was written out -/
theorem all_cons {P : V → Prop} {v : V} {vs : List V} (h : P v) (h2 : ∀ u, u ∈ vs → P u) : ∀ u, u ∈ v :: vs → P u :=
  fun u hu => (List.mem_cons.mp hu).elim (fun z => by rw [z]; exact h) (h2 u)
theorem all_nil {P : V → Prop} : ∀ u, u ∈ ([] : List V) → P u := fun u hu => nomatch hu
end EL

namespace PySem
open Sem (wp)
/-! ### enumerate(t), t a tuple -/
/-- the enumerate object that begins to go through what the iterator at it draws -/
abbrev enum0 (it : Addr) : Obj := { cls := .type "enumerate", data := .fields #[.none, .bool false, .ref it, rawInt 0, .none, .none] }
theorem meets_enum1 {v : Value} {o : Obj} {H : Heap → Prop} (B : Begins v o H) :
    Meets (Builtin.«enumerate.__new__» ⟨[.type "enumerate", v], []⟩) (fun _ R s => H s.heap ∧
      R (.ok (.ret (.ref (s.heap.push o).objs.size))) { s with heap := (s.heap.push o).push (enum0 s.heap.objs.size) }) :=
  .of_wp fun prog w A R s h => by
    obtain ⟨hp, g, d, tk, os⟩ := s
    obtain ⟨h1, h⟩ := h
    have sub := sub_enumerate
    have go : ∀ {A' : Around} {E : Value → Shared → Prop} {Q : Value → Shared → Prop}, Q (.ref hp.objs.size) ⟨hp.push o, g, d, tk, os⟩ →
        wpAny (model prog w) A' (pyIter v) Q E ⟨hp, g, d, tk, os⟩ := fun q => B.iter prog w _ _ ⟨hp, g, d, tk, os⟩ _ h1 q
    wp_walk using go
    refine wpAny_stack_any fun st => wpAny_pure ?_
    split
    · rename_i c _ _ _ _ _
      cases (c == Value.type "enumerate") <;>
      · wp_walk using go
        exact ⟨_, rfl, h⟩
    · wp_walk using go
      exact ⟨_, rfl, h⟩
section
variable {prog : Program} {w : World} {A : Around} {E : Value → Shared → Prop} {s : Shared}
theorem call_enum1 {v : Value} {o : Obj} {H : Heap → Prop} {Q : Value → Shared → Prop} (B : Begins v o H) (h1 : H s.heap)
    (h : ∀ h', IsEnum h' (s.heap.objs.size + 1) s.heap.objs.size 0 .none → h'.get? s.heap.objs.size = some o →
      (∀ b u, s.heap.get? b = some u → h'.get? b = some u) → Q (.ref (s.heap.objs.size + 1)) { s with heap := h' }) :
    wpAny (model prog w) A (call (.type "enumerate") [v]) Q E s := by
  refine callType_new F.called_enumerate (by decide) (F.typeCall_enumerate_1 _) (F.newCall_enumerate_1 _)
    (fun obj => F.args_object_init_2 obj _) F.entry_enumerate_new (meets_enum1 B) ⟨h1, ?_⟩
  have sz : (s.heap.push o).objs.size = s.heap.objs.size + 1 := Heap.size_push ..
  have he : IsEnum ((s.heap.push o).push (enum0 s.heap.objs.size)) (s.heap.objs.size + 1) s.heap.objs.size 0 .none := by
    have q := Heap.get?_push_size (s.heap.push o) (o := enum0 s.heap.objs.size) rfl
    rw [sz] at q
    exact q
  show _ ∧ _
  rw [sz]
  refine ⟨⟨_, he, rfl⟩, h _ he (Heap.get?_push_of_some _ (Heap.get?_push_size _ B.free)) fun b u x => ?_⟩
  exact Heap.get?_push_of_some _ (Heap.get?_push_of_some _ x)
end
/-- an iterator at its tuple's end -/
theorem draws_end {prog : Program} {w : World} {A : Around} {i : Nat} (hh : A.handled = none) (it t : Addr) (hne : t ≠ it) (items : Array Value) (hi : items.size ≤ i) :
    Draws prog w A it [it, t] i (fun _ _ => False) (fun j h => j = i ∧ h.IsTupleIter it t i ∧ h.IsTuple t items) where
  live := fun _ _ st => by
    obtain ⟨_, ⟨o, ho, _⟩, _⟩ := st
    exact ⟨o, ho⟩
  frame := fun _ _ _ st hk => ⟨st.1, st.2.1.at fun o e => hk it (by simp) o e, st.2.2.at fun o e => hk t (by simp) o e⟩
  item := fun j s Q E hj st _ => absurd st.1 (Nat.ne_of_lt hj)
  done := fun s Q E st hE => wpAny_nextOf_tuple_end hh st.2.1 st.2.2 (by simp; omega) hE
end PySem
namespace EL
open PySem PySem.Spec PyProof.Rows L2
/-- the tuple at a, each item in a new pair -/
def IteT (K : PySem.W.Frag) (a : Addr) : It :=
  ⟨fun i H => ∃ (xs : List V) (x : V), SqT K H a xs ∧ xs[i]? = some x,
   fun i H v H' => ∃ T x, v = .ref T ∧ H T = none ∧ H' = upd H T (.tup [.int (i : Nat), x]) ∧ ∀ xs, SqT K H a xs → xs[i]? = some x,
   fun i H => ∃ xs : List V, SqT K H a xs ∧ xs.length ≤ i⟩
theorem turn_enumT {P : Program} {w : World} {K : PySem.W.Frag} {elts : List Expr} {kk : Nat} {tpos : Pos} (a e it : Addr) :
    Turn P w K (.Tuple elts kk tpos) (IteT K a) [e, it] e
      (fun i h => (∃ old, IsEnum h e it ((i : Nat) : Int) old) ∧ h.IsTupleIter it a i ∧ e ≠ it ∧ a ≠ it ∧ e ≠ a) where
  mem := by simp
  obj := fun i h st b hb => by
    obtain ⟨⟨old, he⟩, ⟨o, ho, _, hd⟩, _⟩ := st
    rcases (show b = e ∨ b = it by simpa using hb) with rfl | rfl
    · exact ⟨_, he, fun v q => nomatch q⟩
    · refine ⟨o, ho, fun v q => ?_⟩
      rw [hd] at q
      cases q
  keep := fun i h h' st k => by
    obtain ⟨⟨old, he⟩, hi, hne⟩ := st
    exact ⟨⟨old, k e (by simp) _ he⟩, hi.at fun o q => k it (by simp) o q, hne⟩
  item := by
    intro X hP hw hK hc i pins s σ H E I hf st hg
    subst hP hw hK
    obtain ⟨⟨old, he⟩, hit, hne, hai, hea⟩ := st
    obtain ⟨xs, x, hq, hx⟩ := hg
    obtain ⟨its, rv, p, hz⟩ := I.tuple hq
    have p' : s.heap.IsTuple a its.toArray := p
    obtain ⟨u, hu, ru⟩ := rv.get hx
    have hel : e < s.heap.objs.size := Heap.lt_size he
    have hil : it < s.heap.objs.size := by
      obtain ⟨_, q, _⟩ := hit
      exact Heap.lt_size q
    have hlt : i < its.toArray.size := by
      obtain ⟨z, _⟩ := List.getElem?_eq_some_iff.mp hu
      simpa using z
    refine wpAny_pyNext_enum_itemD (Draws.tuple (A := X.A.in1) (show X.A.in1.handled = none from I.ok.hd hc) it a hai its.toArray) he ⟨hit, p'⟩ hlt hne (by simp; exact ⟨hne, hea⟩) fun y h' tk hy ho st' hT hsz hk => ?_
    have hyu : y = u := by
      have q : its.toArray[i]? = some y := hy
      rw [List.getElem?_toArray, hu] at q
      exact (Option.some.inj q).symm
    subst hyu
    refine ⟨_, rfl, wpAny_letOwnedTupleGo_enum (s := { s with heap := h', toks := tk + 1 }) ho fun h'' he' sb => ?_⟩
    have hT2 : h''.get? s.heap.objs.size = some { cls := .type "tuple", data := .seq #[.int i tk, y] } := (sb.2 _ (Nat.ne_of_gt hel)).trans hT
    have new : ObjOk X.prog X.w (upd H s.heap.objs.size (.tup [.int (i : Nat), x])) h'' s.heap.objs.size (.tup [.int (i : Nat), x]) :=
      ⟨by show 2 ≤ sizeLine; decide, [.int i tk, y], .cons ⟨_, rfl⟩ (.cons ru .nil), ⟨_, hT2, rfl, _, rfl⟩⟩
    have I1 : Inv X pins σ (upd H s.heap.objs.size (.tup [.int (i : Nat), x])) { s with heap := h'', toks := tk + 1 } := by
      refine I.turnedNew (ch := [e, it]) (fun b ob hb q => ?_) hf (Nat.le_refl _) new
      have b1 : b ≠ e := fun z => hb (by simp [z])
      have b2 : b ≠ it := fun z => hb (by simp [z])
      exact (sb.2 b b1).trans (hk b ob b1 b2 q)
    refine ⟨.ref s.heap.objs.size, _, I1, rfl, ⟨_, x, rfl, I.hok.fresh (Nat.le_refl _), rfl, fun ys hy => ?_⟩, ⟨⟨y, ?_⟩, ?_, hne, hai, hea⟩, fun b hb => ?_⟩
    · rw [I.tuple_inj hy hq]
      exact hx
    · have e1 : ((i + 1 : Nat) : Int) = (i : Int) + 1 := by omega
      rw [e1]
      exact he'
    · exact st'.1.at fun o q => (sb.2 it (Ne.symm hne)).trans q
    · have hb' : b < s.heap.objs.size := by
        rcases (show b = e ∨ b = it by simpa using hb) with rfl | rfl
        · exact hel
        · exact hil
      rw [upd_ne (Nat.ne_of_lt hb')]
      exact (hf b hb).1
  done := by
    intro X hP hw hK hc i pins s σ H E I hf st hg
    subst hP hw hK
    obtain ⟨⟨old, he⟩, hit, hne, hai, hea⟩ := st
    obtain ⟨xs, hq, hx⟩ := hg
    obtain ⟨its, rv, p, hz⟩ := I.tuple hq
    have p' : s.heap.IsTuple a its.toArray := p
    obtain ⟨f0, f1, f2, f3, f4, f5⟩ := hf it (by simp)
    have hl := rv.length
    refine wpAny_pyNext_enum_endD (draws_end (A := X.A.in1) (i := i) (show X.A.in1.handled = none from I.ok.hd hc) it a hai its.toArray (by simp; omega)) he ⟨rfl, hit, p'⟩ fun h' eb => ?_
    exact ⟨rfl, I.turned (t' := s.toks) (fun b o hb q => eb b o hb q) f0 f1 f3 f4 f5⟩
  self := fun A i s Q E st h => let ⟨⟨_, he⟩, _⟩ := st; wpAny_pyIter_enum he h
def iEnumT (K : PySem.W.Frag) (ta : TA) : TI := fun σ H R => ta σ H fun vs H1 => ∃ a xs, vs = [.ref a] ∧ SqT K H1 a xs ∧ R (IteT K a) H1
theorem pi_enumT {X : Cx} {e : Expr} {ta : TA} {p pos tpos : Pos} {elts : List Expr} {kk : Nat} (hg : Gl X "enumerate") (hm : X.mg "enumerate" = none) (ha : PA X [e] ta)
    (hs : starEach [e] X.env = [(false, eval e X.env)] := by rfl) :
    PI X (.Tuple elts kk tpos) (.Call (.Name "enumerate" p) [e] [] pos) (iEnumT X.K ta) := by
  constructor
  intro pins s σ H R I h
  refine Call_ (ld_blt I hg hm boot_enumerate (PyProof.Rows.callWith_type1 (thn (ha.run pos pins s σ H _ I h) fun us s1 z => ?_) hs rfl))
  obtain ⟨vs, H1, I1, r1, a, xs, rfl, hq, q⟩ := z
  cases r1 with
  | cons r rr =>
    cases rr
    cases r
    obtain ⟨its, rv, p', hz⟩ := I1.tuple hq
    have pt : s1.heap.IsTuple a its.toArray := p'
    have hal : a < s1.heap.objs.size := by
      obtain ⟨o, z, _⟩ := pt
      exact Heap.lt_size z
    refine call_enum1 (begins_tuple a its.toArray) pt fun h' he hit hk => wpAny_pyIter_enum he ?_
    have I2 : Inv X pins σ H1 { s1 with heap := h' } := I1.kept (t' := s1.toks) hk
    refine ⟨s1.heap.objs.size + 1, [s1.heap.objs.size + 1, s1.heap.objs.size], _, _, H1, rfl, I2, turn_enumT a (s1.heap.objs.size + 1) s1.heap.objs.size,
      ⟨⟨.none, he⟩, ⟨_, hit, rfl, rfl⟩, Nat.succ_ne_self _, Nat.ne_of_lt hal, (Nat.ne_of_lt (Nat.lt_succ_of_lt hal)).symm⟩, fun b hb => ?_, q⟩
    have hle : s1.heap.objs.size ≤ b := by
      rcases (show b = s1.heap.objs.size + 1 ∨ b = s1.heap.objs.size by simpa using hb) with z | z <;> rw [z]
      · exact Nat.le_succ _
      · exact Nat.le_refl _
    exact I1.fpOk hle (I1.hok.fresh hle)
/-! enumerate of a list or of a tuple -/
def iEnumU (K : PySem.W.Frag) (ta : TA) : TI := fun σ H R => iEnum K ta σ H R ∨ iEnumT K ta σ H R
theorem pi_enumU {X : Cx} (K : PySem.W.Frag) {e : Expr} {ta : TA} {p pos tpos : Pos} {elts : List Expr} {kk : Nat} (hg : Gl X "enumerate") (hm : X.mg "enumerate" = none) (ha : PA X [e] ta)
    (hs : starEach [e] X.env = [(false, eval e X.env)] := by rfl) (h : X.K = K := by rfl) :
    PI X (.Tuple elts kk tpos) (.Call (.Name "enumerate" p) [e] [] pos) (iEnumU K ta) := h ▸ piOr (pi_enum hg hm ha hs) (pi_enumT hg hm ha hs)
section
variable {K : PySem.W.Frag} {a : Addr} {xs : List V} {σ : St} {H : Hp} {ts : TA} {R : It → Hp → Prop}
theorem srcET : Src (IteT K a) xs.length (fun H => SqT K H a xs) (itmE xs) where
  go := fun i H h hi => ⟨xs, xs[i], h, by simp [hi]⟩
  stop := fun i H h hi => ⟨xs, h, hi⟩
  yld := fun i H x H' h _ z => by
    obtain ⟨p, y, e1, e2, e3, e4⟩ := z
    exact ⟨p, y, e1, e2, e3 ▸ Same.new e2, e3 ▸ upd_same, e4 xs h⟩
def WET (K : PySem.W.Frag) (R : It → Hp → Prop) (vs : List V) (H : Hp) : Prop := ∃ a xs, vs = [.ref a] ∧ SqT K H a xs ∧ R (IteT K a) H
theorem wEl (h : ts σ H (WE K R)) : iEnumU K ts σ H R := .inl h
theorem wEt (h : ts σ H (WET K R)) : iEnumU K ts σ H R := .inr h
theorem WET_i (xs : List V) (hS : SqT K H a xs) (h : R (IteT K a) H) : WET K R [.ref a] H := ⟨a, xs, rfl, hS, h⟩
end
/-! len of a set of whole numbers -/
def rLenI (w : World) : List V → Hp → VK → Prop := fun xs H Q => ∃ a S n, xs = [V.ref a] ∧ H a = some (SetO w a S n) ∧ Q (.int (n : Nat)) H
theorem call_lenI {X : Cx} (w : World) (hw : X.w = w := by rfl) : CallR X (.builtin "len") (rLenI w) := by
  subst hw
  intro pins s σ H xs us Q I r h
  obtain ⟨a, S, n, rfl, ha, q⟩ := h
  cases r with
  | cons r rr =>
    cases rr
    cases r
    obtain ⟨o, es, ep, t, ho, hex, hd, g, nd, hm, hb, hf, hn, _⟩ := setO_get I ha
    refine call_len_set ho hex hd hf (by unfold scanBound at hb; omega) ⟨.int (n : Nat), H, I.tok _, ⟨_, by rw [hn]⟩, q⟩
theorem rLenI_i {w : World} {a : Addr} {S : Int → Bool} {n : Nat} {H : Hp} {Q : VK} (e : H a = some (SetO w a S n)) (h : Q (.int (n : Nat)) H) : rLenI w [.ref a] H Q := ⟨a, S, n, rfl, e, h⟩
end EL

/-! ### the plain words: what a def's text asks, without a heap -/
namespace Px
open PySem L2 EL
abbrev LIM : Nat := sizeLine
/-- an error of the program's own: the number of its class, its fields -/
structure PErr where
  cls : Nat
  fs : List (Str × V)
def wLet {α : Type} (v : α) (k : α → Prop) : Prop := k v
def wJoin {α : Type} (f : (α → Prop) → Prop) (k : α → Prop) : Prop := f k
def wFor {α S : Type} : List α → S → (α → S → (S → Prop) → (S → Prop) → Prop) → (S → Prop) → Prop
  | [], s, _, k => k s
  | x :: xs, s, f, k => f x s (fun s' => wFor xs s' f k) k
def wWhile {S : Type} (s : S) (f : S → (S → Prop) → (S → Prop) → Prop) (k : S → Prop) : Prop :=
  ∃ W : Nat → S → Prop, (∃ m, W m s) ∧ ∀ m s, W m s → f s (fun s' => ∃ m', m' < m ∧ W m' s') k
def wComp {α β : Type} : List α → (α → (Option β → Prop) → Prop) → (List β → Prop) → Prop
  | [], _, k => k []
  | x :: xs, f, k => f x fun o => wComp xs f fun ys => k (o.toList ++ ys)
def wCompA {α β : Type} : List α → (α → (Option β → Prop) → Prop) → List β → (List β → Prop) → Prop
  | [], _, acc, k => k acc
  | x :: xs, f, acc, k => f x fun o => acc.length + o.toList.length ≤ LIM ∧ wCompA xs f (acc ++ o.toList) k
def wComp2 {α β : Type} : List α → (α → List β → (List β → Prop) → Prop) → List β → (List β → Prop) → Prop
  | [], _, acc, k => k acc
  | x :: xs, f, acc, k => f x acc fun acc' => wComp2 xs f acc' k
/-- xs[i] -/
def ixG {α : Type} [Inhabited α] (xs : List α) (i : Int) : α := (atI xs i).getD default
def inB {α : Type} (xs : List α) (i : Int) : Prop := -(xs.length : Int) ≤ i ∧ i < xs.length
def setG {α : Type} (xs : List α) (i : Int) (y : α) : List α := match ixN xs.length i with | some j => xs.set j y | none => xs
def cutG {α : Type} (xs : List α) (lo hi : Option Int) : List α := (xs.drop (HT.sIx xs.length 0 lo)).take (HT.sIx xs.length xs.length hi - HT.sIx xs.length 0 lo)
def rangeL (lo hi : Int) : List Int := (List.range (hi - lo).toNat).map fun (i : Nat) => lo + (i : Int)
def enumL {α : Type} (xs : List α) : List (Int × α) := (xs.zipIdx).map fun (x, i) => ((i : Int), x)
def minI (i j : Int) : Int := if j < i then j else i
def maxI (i j : Int) : Int := if j > i then j else i
def absI (i : Int) : Int := if i < 0 then -i else i
def b2i (b : Bool) : Int := if b then 1 else 0
def repG {α : Type} (xs : List α) (k : Int) : List α := (List.replicate k.toNat xs).flatten
def rgOk (lo hi : Int) : Prop := -(2 ^ 62) ≤ lo ∧ lo < 2 ^ 62 ∧ -(2 ^ 62) ≤ hi ∧ hi < 2 ^ 62
theorem rangeL_len {lo hi : Int} : (rangeL lo hi).length = (hi - lo).toNat := by unfold rangeL; rw [List.length_map, List.length_range]
theorem rangeL_get {lo hi : Int} {i : Nat} (h : i < (hi - lo).toNat) : (rangeL lo hi)[i]? = some (lo + (i : Int)) := by
  unfold rangeL
  rw [List.getElem?_map, List.getElem?_range h]
  rfl
theorem enumL_len {α : Type} {xs : List α} : (enumL xs).length = xs.length := by unfold enumL; rw [List.length_map, List.length_zipIdx]
theorem enumL_get {α : Type} {xs : List α} {i : Nat} {x : α} (h : xs[i]? = some x) : (enumL xs)[i]? = some ((i : Int), x) := by
  unfold enumL
  rw [List.getElem?_map, List.getElem?_zipIdx, h]
  simp
theorem zip_get {α β : Type} {xs : List α} {ys : List β} {i : Nat} {x : α} {y : β} (h : xs[i]? = some x) (h2 : ys[i]? = some y) : (xs.zip ys)[i]? = some (x, y) := by
  rw [List.getElem?_zip_eq_some]
  exact ⟨h, h2⟩
end Px
/-! ### Python's kinds over the heap -/
namespace EL
open PySem PySem.Spec PyProof.Rows L2 Px
structure PTy (τ : Type) where
  rep : Hp → V → τ → Prop
  mono : ∀ {H H' : Hp} {v : V} {d : τ}, Same H H' → rep H v d → rep H' v d
/-- kinds without a heap -/
def pI {τ : Type} (f : τ → V) : PTy τ := ⟨fun _ v d => v = f d, fun _ h => h⟩
abbrev pInt : PTy Int := pI V.int
abbrev pBl : PTy Bool := pI V.bl
abbrev pStr : PTy Str := pI V.str
abbrev pNon : PTy Unit := pI fun _ => V.non
abbrev pImm : PTy V := pI fun v => v
def optV (o : Option Int) : V := match o with | some i => .int i | none => .non
abbrev pOptI : PTy (Option Int) := pI optV
inductive AllR {α : Type} (p : PTy α) (H : Hp) : List V → List α → Prop
  | nil : AllR p H [] []
  | cons {v : V} {d : α} {vs : List V} {ds : List α} : p.rep H v d → AllR p H vs ds → AllR p H (v :: vs) (d :: ds)
section
variable {α β : Type} {p : PTy α} {H H' : Hp} {vs ws : List V} {ds es : List α} {v : V} {d : α} {i : Nat}
theorem AllR.len (h : AllR p H vs ds) : vs.length = ds.length := by
  induction h with
  | nil => rfl
  | cons _ _ ih => simp [ih]
theorem AllR.mono (s : Same H H') (h : AllR p H vs ds) : AllR p H' vs ds := by
  induction h with
  | nil => exact .nil
  | cons h _ ih => exact .cons (p.mono s h) ih
theorem AllR.app (h : AllR p H vs ds) (h2 : AllR p H ws es) : AllR p H (vs ++ ws) (ds ++ es) := by
  induction h with
  | nil => exact h2
  | cons h _ ih => exact .cons h ih
theorem AllR.one (h : p.rep H v d) : AllR p H [v] [d] := .cons h .nil
theorem AllR.get (h : AllR p H vs ds) : ∀ {i : Nat} {d : α}, ds[i]? = some d → ∃ v, vs[i]? = some v ∧ p.rep H v d := by
  induction h with
  | nil => intro i d e; simp at e
  | cons h _ ih =>
    intro i d e
    cases i with
    | zero => simp at e; subst e; exact ⟨_, rfl, h⟩
    | succ i => simpa using ih (by simpa using e)
theorem AllR.getV (h : AllR p H vs ds) : ∀ {i : Nat} {v : V}, vs[i]? = some v → ∃ d, ds[i]? = some d ∧ p.rep H v d := by
  induction h with
  | nil => intro i d e; simp at e
  | cons h _ ih =>
    intro i d e
    cases i with
    | zero => simp at e; subst e; exact ⟨_, rfl, h⟩
    | succ i => simpa using ih (by simpa using e)
theorem AllR.set (h : AllR p H vs ds) (h2 : p.rep H v d) : ∀ j, AllR p H (vs.set j v) (ds.set j d) := by
  induction h with
  | nil => intro j; exact .nil
  | cons h t ih =>
    intro j
    cases j with
    | zero => exact .cons h2 t
    | succ j => exact .cons h (ih j)
theorem AllR.take (h : AllR p H vs ds) : ∀ n, AllR p H (vs.take n) (ds.take n) := by
  induction h with
  | nil => intro n; simp; exact .nil
  | cons h t ih =>
    intro n
    cases n with
    | zero => exact .nil
    | succ n => exact .cons h (ih n)
theorem AllR.drop (h : AllR p H vs ds) : ∀ n, AllR p H (vs.drop n) (ds.drop n) := by
  induction h with
  | nil => intro n; simp; exact .nil
  | cons h t ih =>
    intro n
    cases n with
    | zero => exact .cons h t
    | succ n => exact ih n
theorem AllR.cut (h : AllR p H vs ds) (lo hi : Option Int) : AllR p H (cutV vs lo hi) (cutG ds lo hi) := by
  unfold cutV cutG
  rw [h.len]
  exact (h.drop _).take _
theorem AllR.rev (h : AllR p H vs ds) : AllR p H vs.reverse ds.reverse := by
  induction h with
  | nil => exact .nil
  | cons h _ ih => rw [List.reverse_cons, List.reverse_cons]; exact ih.app (.one h)
theorem AllR.imm {f : α → V} (h : AllR (pI f) H vs ds) : vs = ds.map f := by
  induction h with
  | nil => rfl
  | cons h _ ih => rw [ih, (show _ = f _ from h)]; rfl
theorem AllR.ofImm {f : α → V} : ∀ ds : List α, AllR (pI f) H (ds.map f) ds
  | [] => .nil
  | _ :: ds => .cons rfl (AllR.ofImm ds)
theorem AllR.flat {xs : List V} {n : Nat} (h : AllR p H vs ds) : AllR p H (List.replicate n vs).flatten (List.replicate n ds).flatten := by
  induction n with
  | zero => exact .nil
  | succ n ih => rw [List.replicate_succ, List.replicate_succ, List.flatten_cons, List.flatten_cons]; exact h.app ih
end
def SqA (K : PySem.W.Frag) (H : Hp) (a : Addr) (xs : List V) : Prop := SqL K H a xs ∨ SqT K H a xs
theorem SqA.same {K : PySem.W.Frag} {H H' : Hp} {a : Addr} {xs : List V} (s : Same H H') (h : SqA K H a xs) : SqA K H' a xs := h.elim (fun z => .inl (s.seq z)) fun z => .inr (s.seqT z)
section
variable (K : PySem.W.Frag) {α : Type}
/-- a list that the program has made -/
def pList (p : PTy α) : PTy (List α) := ⟨fun H v ds => ∃ a vs, v = .ref a ∧ H a = some (.lst vs) ∧ AllR p H vs ds ∧ ds.length ≤ LIM, fun s ⟨a, vs, e, h, r, l⟩ => ⟨a, vs, e, s _ _ h, r.mono s, l⟩⟩
/-- a list that is read alone -/
def pFro (p : PTy α) : PTy (List α) := ⟨fun H v ds => ∃ a vs, v = .ref a ∧ SqL K H a vs ∧ AllR p H vs ds ∧ ds.length ≤ LIM, fun s ⟨a, vs, e, h, r, l⟩ => ⟨a, vs, e, s.seq h, r.mono s, l⟩⟩
/-- a tuple of alike members -/
def pVt (p : PTy α) : PTy (List α) := ⟨fun H v ds => ∃ a vs, v = .ref a ∧ SqT K H a vs ∧ AllR p H vs ds ∧ ds.length ≤ LIM, fun s ⟨a, vs, e, h, r, l⟩ => ⟨a, vs, e, s.seqT h, r.mono s, l⟩⟩
/-- a list or a tuple -/
def pSeq (p : PTy α) : PTy (List α) := ⟨fun H v ds => ∃ a vs, v = .ref a ∧ SqA K H a vs ∧ AllR p H vs ds ∧ ds.length ≤ LIM, fun s ⟨a, vs, e, h, r, l⟩ => ⟨a, vs, e, h.same s, r.mono s, l⟩⟩
/-- the drawn numbers; the counter -/
def pDraw : PTy Unit := ⟨fun H v _ => ∃ a, v = .ref a ∧ ∃ xs : List Int, SqL K H a (xs.map V.int) ∧ 0 < xs.length, fun s ⟨a, e, xs, h, l⟩ => ⟨a, e, xs, s.seq h, l⟩⟩
def pCell : PTy Unit := ⟨fun H v _ => ∃ a, v = .ref a ∧ H a = some (cellO a), fun s ⟨a, e, h⟩ => ⟨a, e, s _ _ h⟩⟩
/-- what can be compared deep, by its data -/
def pDyn : PTy PyData := ⟨fun H v d => Dp K H v d, fun s h => s.dp h⟩
end
/-! tuples -/
structure PRow (τ : Type) where
  rep : Hp → List V → τ → Prop
  mono : ∀ {H H' : Hp} {v : List V} {d : τ}, Same H H' → rep H v d → rep H' v d
def rOne {α : Type} (p : PTy α) : PRow α := ⟨fun H vs d => ∃ v, vs = [v] ∧ p.rep H v d, fun s ⟨v, e, h⟩ => ⟨v, e, p.mono s h⟩⟩
def rCons {α β : Type} (p : PTy α) (r : PRow β) : PRow (α × β) := ⟨fun H vs d => ∃ v ws, vs = v :: ws ∧ p.rep H v d.1 ∧ r.rep H ws d.2, fun s ⟨v, w, e, h, h2⟩ => ⟨v, w, e, p.mono s h, r.mono s h2⟩⟩
def rNil : PRow Unit := ⟨fun _ vs _ => vs = [], fun _ h => h⟩
def pTup (K : PySem.W.Frag) {τ : Type} (r : PRow τ) : PTy τ := ⟨fun H v d => ∃ a vs, v = .ref a ∧ H a = some (.tup vs) ∧ r.rep H vs d, fun s ⟨a, vs, e, h, q⟩ => ⟨a, vs, e, s _ _ h, r.mono s q⟩⟩
/-- None or a value -/
def pOpt {α : Type} (p : PTy α) : PTy (Option α) := ⟨fun H v o => match o with | none => v = .non | some d => p.rep H v d ∧ v ≠ .non, fun {H H' v o} s h => by
  cases o with
  | none => exact h
  | some d => exact ⟨p.mono s h.1, h.2⟩⟩
/-! what stands beside the own lists -/
def dels (H : Hp) : List Addr → Hp
  | [] => H
  | p :: ps => del (dels H ps) p
section
variable {H H' : Hp} {ps : List Addr} {q : Addr} {o : HO}
theorem dels_in (h : q ∈ ps) : dels H ps q = none := by
  induction ps with
  | nil => cases h
  | cons p r ih =>
    show del (dels H r) p q = none
    by_cases e : q = p
    · rw [e, del_same]
    · rw [del_ne e]
      exact ih ((List.mem_cons.mp h).resolve_left e)
theorem dels_out (h : q ∉ ps) : dels H ps q = H q := by
  induction ps with
  | nil => rfl
  | cons p r ih =>
    show del (dels H r) p q = H q
    rw [del_ne (fun e => h (by rw [e]; exact List.mem_cons_self ..)), ih (fun z => h (List.mem_cons_of_mem _ z))]
theorem dels_ext (h : ∀ b, b ∉ ps → H' b = H b) : dels H' ps = dels H ps := by
  funext b
  by_cases e : b ∈ ps
  · rw [dels_in e, dels_in e]
  · rw [dels_out e, dels_out e, h b e]
theorem Sd (ps : List Addr) (s : Same H H') : Same (dels H ps) (dels H' ps) := fun b u e => by
  by_cases c : b ∈ ps
  · rw [dels_in c] at e
    cases e
  · rw [dels_out c] at e ⊢
    exact s b u e
theorem Sn (ps : List Addr) (s : Same H H') (n : H q = none) : Same (dels H ps) (dels H' (q :: ps)) := fun b u e => by
  by_cases c : b ∈ ps
  · rw [dels_in c] at e
    cases e
  · rw [dels_out c] at e
    have hb : b ≠ q := ne_of_none e n
    rw [dels_out (fun z => (List.mem_cons.mp z).elim hb c)]
    exact s b u e
theorem Su : Same (dels H ps) H := fun b u e => by
  by_cases c : b ∈ ps
  · rw [dels_in c] at e
    cases e
  · rw [dels_out c] at e
    exact e
theorem Ss {qs : List Addr} (h : ∀ x, x ∈ qs → x ∈ ps) : Same (dels H ps) (dels H qs) := fun b u e => by
  by_cases c : b ∈ ps
  · rw [dels_in c] at e
    cases e
  · rw [dels_out c] at e
    rw [dels_out fun z => c (h b z)]
    exact e
theorem dels_at (h : H q = some o) (n : q ∉ ps) : dels H ps q = some o := by rw [dels_out n]; exact h
/-- one own list has changed -/
def Off (q : Addr) (H H' : Hp) : Prop := ∀ b, b ≠ q → H' b = H b
theorem So (h : q ∈ ps) (f : Off q H H') : Same (dels H ps) (dels H' ps) := by
  rw [dels_ext fun b hb => f b fun e => hb (by rw [e]; exact h)]
  exact Same.refl _
theorem Off.at (f : Off q H H') {b : Addr} (e : H b = some o) (n : b ≠ q) : H' b = some o := by rw [f b n]; exact e
theorem off_upd {o : HO} : Off q H (upd H q o) := fun b hb => upd_ne hb
theorem nin0 : q ∉ ([] : List Addr) := by simp
theorem nin1 {p : Addr} (h : q ≠ p) (h2 : q ∉ ps) : q ∉ p :: ps := fun z => (List.mem_cons.mp z).elim h h2
theorem ne_nn {a b : Addr} (n : H a = none) (e : H b = some o) : a ≠ b := fun z => by rw [z, e] at n; cases n
end
section
variable {H H' H0 : Hp} {ps : List Addr} {q : Addr} {o : HO}
theorem dom_up (s : Same H H') (h : ∀ x ∈ ps, H x ≠ none) : ∀ x ∈ ps, H' x ≠ none := fun x hx e => by
  cases e2 : H x with
  | none => exact h x hx e2
  | some u => rw [s x u e2] at e; cases e
theorem dom_new (e : H q = some o) (h : ∀ x ∈ ps, H x ≠ none) : ∀ x ∈ q :: ps, H x ≠ none := fun x hx => by
  rcases List.mem_cons.mp hx with z | z
  · rw [z, e]; exact fun z => nomatch z
  · exact h x z
theorem dom_off (f : Off q H H') (e : H' q = some o) (h : ∀ x ∈ ps, H x ≠ none) : ∀ x ∈ ps, H' x ≠ none := fun x hx => by
  by_cases c : x = q
  · rw [c, e]; exact fun z => nomatch z
  · rw [f x c]; exact h x hx
theorem dom_ss {qs : List Addr} (s : ∀ x, x ∈ qs → x ∈ ps) (h : ∀ x ∈ ps, H x ≠ none) : ∀ x ∈ qs, H x ≠ none := fun x hx => h x (s x hx)
theorem nin_of (n : H q = none) (h : ∀ x ∈ ps, H x ≠ none) : q ∉ ps := fun z => h q z n
theorem st_off (s : Same H0 H) (f : Off q H H') (n : H0 q = none) : Same H0 H' := fun b u e => by
  rw [f b (ne_of_none e n)]
  exact s b u e
theorem ss_refl : ∀ x : Addr, x ∈ ps → x ∈ ps := fun _ h => h
theorem ss_skip {qs : List Addr} (s : ∀ x, x ∈ qs → x ∈ ps) : ∀ x, x ∈ qs → x ∈ q :: ps := fun x h => List.mem_cons_of_mem _ (s x h)
theorem ss_keep {qs : List Addr} (s : ∀ x, x ∈ qs → x ∈ ps) : ∀ x, x ∈ q :: qs → x ∈ q :: ps := fun x h => (List.mem_cons.mp h).elim (fun z => by rw [z]; exact List.mem_cons_self ..) fun z => List.mem_cons_of_mem _ (s x z)
theorem nin_ss {qs : List Addr} (n : q ∉ ps) (s : ∀ x, x ∈ qs → x ∈ ps) : q ∉ qs := fun h => n (s q h)
end
/-! what comes back -/
section
variable {α τ : Type} {ps : List Addr} {H H' H0 : Hp} {Q : VK} {E : XK} {cl : Nat → Addr}
def RetI (f : τ → V) (H : Hp) (Q : VK) (r : τ) : Prop := ∀ H', Same H H' → Q (f r) H'
def RetK (ps : List Addr) (p : PTy τ) (H : Hp) (Q : VK) (r : τ) : Prop := ∀ H' v, Same H H' → p.rep (dels H' ps) v r → Q v H'
def RetO (ps : List Addr) (p : PTy α) (H : Hp) (Q : VK) (r : List α) : Prop := ∀ H' a vs, Same H H' → H a = none → H' a = some (.lst vs) → AllR p (dels H' (a :: ps)) vs r → r.length ≤ LIM → Q (.ref a) H'
def ErrK (ps : List Addr) (cl : Nat → Addr) (H : Hp) (E : XK) (er : PErr) : Prop := ∀ H' d, Same H H' → XDict (dels H' ps) d er.fs → E (.ref (cl er.cls)) d H'
theorem XDict.same {H H' : Hp} {d : Option Addr} {fs : List (Str × V)} (s : Same H H') (h : XDict H d fs) : XDict H' d fs := h.elim .inl fun ⟨dd, e, h⟩ => .inr ⟨dd, e, s _ _ h⟩
theorem errUp {ps' : List Addr} {er : PErr} (s : Same H0 H) (hs : ∀ x, x ∈ ps → x ∈ ps') (h : ErrK ps cl H0 E er) : ErrK ps' cl H E er := fun H' d s2 x => h H' d (s.trans s2) (x.same (Ss hs))
theorem raiseK {c : Nat} {f : Str} {v : V} (h : ErrK ps cl H0 E ⟨c, [(f, v)]⟩) (s : Same H0 H) (hp : ∀ x ∈ ps, H x ≠ none) : ∀ H' d, Same H H' → H d = none → H' d = some (.xd [(f, v)]) → E (.ref (cl c)) (some d) H' :=
  fun H' d s2 n e => h H' _ (s.trans s2) (.inr ⟨d, rfl, dels_at e (nin_of n hp)⟩)
theorem raise0 {c : Nat} (h : ErrK ps cl H0 E ⟨c, []⟩) (s : Same H0 H) : E (.ref (cl c)) none H := h H none s (.inl ⟨rfl, rfl⟩)
theorem mkO1n {K : PySem.W.Frag} {C : Addr} {f : Str} {v : V} {R : XK} (T : OexC K C) (hn : PySem.W.findIn K (.ref C) f = some none) (k : ∀ H' d, Same H H' → H d = none → H' d = some (.xd [(f, v)]) → R (.ref C) (some d) H') : MkO1 C (spI1 f K) [v] H R := by
  refine ⟨by show 1 ≤ 1000; omega, fun a ha => ⟨a, C, v, rfl, T, hn, upd_same, fun dx hd hne => ⟨rfl, dx, [(f, v)], upd_same, ?_, ?_, k _ dx ?_ ?_ upd_same⟩⟩⟩
  · rw [upd_ne hne, upd_same]
  · rw [upd_ne hne] at hd
    exact hd
  · rw [upd_ne hne] at hd
    intro b u e
    have hb : b ≠ a := ne_of_none e ha
    rw [upd_ne (ne_of_none e hd), del_ne hb, upd_ne hb, upd_ne (ne_of_none e hd), upd_ne hb]
    exact e
  · rw [upd_ne hne] at hd
    exact hd
theorem oFrzG {ps' : List Addr} {p : PTy α} {a : Addr} {vs : List V} {xs : List α} (e : H a = some (.lst vs)) (n : a ∉ ps') (hs : ∀ x, x ∈ ps' → x ∈ ps) (r : AllR p (dels H ps) vs xs) (l : xs.length ≤ LIM) : (pList p).rep (dels H ps') (.ref a) xs := ⟨a, vs, rfl, dels_at e n, r.mono (Ss hs), l⟩
theorem ne_nin {q q' : Addr} {l : List Addr} (n : q' ∉ l) (m : q ∈ l) : q ≠ q' := fun e => n (by rw [← e]; exact m)
theorem oFrz {p : PTy α} {a : Addr} {vs : List V} {xs : List α} (e : H a = some (.lst vs)) (n : a ∉ ps) (r : AllR p (dels H (a :: ps)) vs xs) (l : xs.length ≤ LIM) : (pList p).rep (dels H ps) (.ref a) xs := ⟨a, vs, rfl, dels_at e n, r.mono (Ss fun _ h => List.mem_cons_of_mem _ h), l⟩
end
/-! ### steps of the reading, by kinds -/
/-- a list or a tuple that stands in H, its members in W -/
def Sq {α : Type} (K : PySem.W.Frag) (p : PTy α) (H W : Hp) (v : V) (xs : List α) : Prop := ∃ a vs, v = .ref a ∧ SqA K H a vs ∧ AllR p W vs xs ∧ xs.length ≤ LIM
def Sl {α : Type} (K : PySem.W.Frag) (p : PTy α) (H W : Hp) (v : V) (xs : List α) : Prop := ∃ a vs, v = .ref a ∧ SqL K H a vs ∧ AllR p W vs xs ∧ xs.length ≤ LIM
def St' {α : Type} (K : PySem.W.Frag) (p : PTy α) (H W : Hp) (v : V) (xs : List α) : Prop := ∃ a vs, v = .ref a ∧ SqT K H a vs ∧ AllR p W vs xs ∧ xs.length ≤ LIM
section
variable {K : PySem.W.Frag} {α : Type} {p : PTy α} {H W W' : Hp} {v : V} {xs : List α} {a : Addr} {vs : List V} {Q : VK}
theorem Sl.sq (h : Sl K p H W v xs) : Sq K p H W v xs := let ⟨a, vs, e, h, r, l⟩ := h; ⟨a, vs, e, .inl h, r, l⟩
theorem St'.sq (h : St' K p H W v xs) : Sq K p H W v xs := let ⟨a, vs, e, h, r, l⟩ := h; ⟨a, vs, e, .inr h, r, l⟩
theorem slL (s : Same W H) (h : (pList p).rep W v xs) : Sl K p H W v xs := let ⟨a, vs, e, h, r, l⟩ := h; ⟨a, vs, e, SqL.of (s _ _ h), r, l⟩
theorem slF (s : Same W H) (h : (pFro K p).rep W v xs) : Sl K p H W v xs := let ⟨a, vs, e, h, r, l⟩ := h; ⟨a, vs, e, s.seq h, r, l⟩
theorem slO (e : H a = some (.lst vs)) (r : AllR p W vs xs) (l : xs.length ≤ LIM) : Sl K p H W (.ref a) xs := ⟨a, vs, rfl, SqL.of e, r, l⟩
theorem stV (s : Same W H) (h : (pVt K p).rep W v xs) : St' K p H W v xs := let ⟨a, vs, e, h, r, l⟩ := h; ⟨a, vs, e, s.seqT h, r, l⟩
theorem sqL (s : Same W H) (h : (pList p).rep W v xs) : Sq K p H W v xs := (slL s h).sq
theorem sqF (s : Same W H) (h : (pFro K p).rep W v xs) : Sq K p H W v xs := (slF s h).sq
theorem sqO (e : H a = some (.lst vs)) (r : AllR p W vs xs) (l : xs.length ≤ LIM) : Sq K p H W (.ref a) xs := (slO e r l).sq
theorem sqV (s : Same W H) (h : (pVt K p).rep W v xs) : Sq K p H W v xs := (stV s h).sq
theorem sqQ (s : Same W H) (h : (pSeq K p).rep W v xs) : Sq K p H W v xs := let ⟨a, vs, e, h, r, l⟩ := h; ⟨a, vs, e, h.same s, r, l⟩
theorem Sq.up (s : Same W W') (h : Sq K p H W v xs) : Sq K p H W' v xs := let ⟨a, vs, e, h, r, l⟩ := h; ⟨a, vs, e, h, r.mono s, l⟩
/-- a kind seen as another -/
theorem lFro (h : (pList p).rep H v xs) : (pFro K p).rep H v xs := let ⟨a, vs, e, h, r, l⟩ := h; ⟨a, vs, e, SqL.of h, r, l⟩
theorem lSeq (h : (pList p).rep H v xs) : (pSeq K p).rep H v xs := let ⟨a, vs, e, h, r, l⟩ := h; ⟨a, vs, e, .inl (SqL.of h), r, l⟩
theorem fSeq (h : (pFro K p).rep H v xs) : (pSeq K p).rep H v xs := let ⟨a, vs, e, h, r, l⟩ := h; ⟨a, vs, e, .inl h, r, l⟩
theorem vSeq (h : (pVt K p).rep H v xs) : (pSeq K p).rep H v xs := let ⟨a, vs, e, h, r, l⟩ := h; ⟨a, vs, e, .inr h, r, l⟩
theorem oList (e : H a = some (.lst vs)) (r : AllR p H vs xs) (l : xs.length ≤ LIM) : (pList p).rep H (.ref a) xs := ⟨a, vs, rfl, e, r, l⟩
theorem pList_len (h : (pList p).rep H v xs) : xs.length ≤ LIM := let ⟨_, _, _, _, _, l⟩ := h; l
theorem pFro_len (h : (pFro K p).rep H v xs) : xs.length ≤ LIM := let ⟨_, _, _, _, _, l⟩ := h; l
theorem pVt_len (h : (pVt K p).rep H v xs) : xs.length ≤ LIM := let ⟨_, _, _, _, _, l⟩ := h; l
theorem pSeq_len (h : (pSeq K p).rep H v xs) : xs.length ≤ LIM := let ⟨_, _, _, _, _, l⟩ := h; l
/-! index, length, slices -/
theorem inB_at {i : Int} (h : inB xs i) [Inhabited α] : ∃ j, ixN xs.length i = some j ∧ xs[j]? = some (ixG xs i) := by
  unfold inB at h
  obtain ⟨j, hj, hlt⟩ : ∃ j, ixN xs.length i = some j ∧ j < xs.length := by
    unfold ixN
    by_cases c : 0 ≤ i
    · rw [if_pos c, if_pos h.2]
      exact ⟨_, rfl, by omega⟩
    · rw [if_neg c, if_pos h.1]
      exact ⟨_, rfl, by omega⟩
  refine ⟨j, hj, ?_⟩
  unfold ixG atI
  rw [hj]
  show xs[j]? = some ((xs[j]?).getD default)
  rw [List.getElem?_eq_getElem hlt]
  rfl
theorem at_rep {i : Int} [Inhabited α] (hr : AllR p W vs xs) (hi : inB xs i) : ∃ u, atI vs i = some u ∧ p.rep W u (ixG xs i) := by
  obtain ⟨j, hj, e⟩ := inB_at hi
  obtain ⟨u, hu, ru⟩ := hr.get e
  refine ⟨u, ?_, ru⟩
  unfold atI
  rw [hr.len, hj]
  exact hu
theorem rIxU_a {i : Int} {u : V} (hs : SqA K H a vs) (ha : atI vs i = some u) (h : Q u H) : rIxU K (.ref a) (.int i) H Q := hs.elim (fun z => rIxU_l z ha h) fun z => rIxU_t z ha h
theorem ixS {i : Int} [Inhabited α] (hq : Sq K p H W v xs) (hi : inB xs i) (h : ∀ u, p.rep W u (ixG xs i) → Q u H) : rIxU K v (.int i) H Q := by
  obtain ⟨a, vs, rfl, hs, hr, _⟩ := hq
  obtain ⟨u, hu, ru⟩ := at_rep hr hi
  exact rIxU_a hs hu (h u ru)
theorem ixI {f : α → V} {i : Int} [Inhabited α] (hq : Sq K (pI f) H W v xs) (hi : inB xs i) (h : Q (f (ixG xs i)) H) : rIxU K v (.int i) H Q :=
  ixS hq hi fun u hu => by rw [show u = f (ixG xs i) from hu]; exact h
theorem rLen_a (hs : SqA K H a vs) (h : Q (.int vs.length) H) : EL.rLen K [.ref a] H Q := hs.elim (fun z => rLen_l z h) fun z => rLen_t z h
theorem lenS (hq : Sq K p H W v xs) (h : Q (.int (xs.length : Int)) H) : EL.rLen K [v] H Q := by
  obtain ⟨a, vs, rfl, hs, hr, _⟩ := hq
  rw [← hr.len] at h
  exact rLen_a hs h
theorem cut_len (xs : List α) (lo hi : Option Int) : (cutG xs lo hi).length ≤ xs.length := by
  unfold cutG
  rw [List.length_take, List.length_drop]
  omega
theorem sliceS {lo hi : Option Int} (hq : Sl K p H W v xs) (h : ∀ q H', H q = none → Same H H' → ∀ us, H' q = some (.lst us) → AllR p W us (cutG xs lo hi) → (cutG xs lo hi).length ≤ LIM → Q (.ref q) H') : rSlL K v lo hi H Q := by
  obtain ⟨a, vs, rfl, hs, hr, hl⟩ := hq
  exact rSlL_i hs fun q H' n s e => h q H' n s _ e (hr.cut lo hi) (Nat.le_trans (cut_len xs lo hi) hl)
theorem listS (hq : Sq K p H W v xs) (h : ∀ q H', H q = none → Same H H' → ∀ us, H' q = some (.lst us) → AllR p W us xs → xs.length ≤ LIM → Q (.ref q) H') : rListOf K [v] H Q := by
  obtain ⟨a, vs, rfl, hs, hr, hl⟩ := hq
  rcases hs with z | z
  · exact rListOf_l z fun q H' n s e => h q H' n s _ e hr hl
  · exact rListOf_t z fun q H' n s e => h q H' n s _ e hr hl
theorem tupL (hq : Sl K p H W v xs) (h : ∀ q H', H q = none → Same H H' → ∀ us, H' q = some (.tup us) → AllR p W us xs → xs.length ≤ LIM → Q (.ref q) H') : rTupleOf K [v] H Q := by
  obtain ⟨a, vs, rfl, hs, hr, hl⟩ := hq
  exact rTupleOf_l hs fun q H' n s e => h q H' n s _ e hr hl
theorem sumS (ns : List Int) (hq : Sl K pInt H W v ns) (h : Q (.int ns.sum) H) : rSum K [v] H Q := by
  obtain ⟨a, vs, rfl, hs, hr, _⟩ := hq
  rw [hr.imm] at hs
  exact rSum_i ns hs h
theorem allS (bs : List Bool) (hq : Sl K pBl H W v bs) (h : Q (.bl (bs.all id)) H) : rAll K [v] H Q := by
  obtain ⟨a, vs, rfl, hs, hr, _⟩ := hq
  rw [hr.imm] at hs
  exact rAll_i bs hs h
theorem anyS (bs : List Bool) (hq : Sl K pBl H W v bs) (h : Q (.bl (bs.any id)) H) : rAny K [v] H Q := by
  obtain ⟨a, vs, rfl, hs, hr, _⟩ := hq
  rw [hr.imm] at hs
  exact ⟨a, bs, rfl, hs, h⟩
theorem inS {i : Int} {ns : List Int} {w : World} (hq : Sq K pInt H W v ns) (h : Q (.bl (decide (i ∈ ns))) H) : rInU K w false (.int i) v H Q := by
  obtain ⟨a, vs, rfl, hs, hr, _⟩ := hq
  rw [hr.imm] at hs
  exact .inl ⟨a, _, rfl, hs, rfl, flat_ints, by rw [inV_ints]; exact h⟩
theorem notInS {i : Int} {ns : List Int} {w : World} (hq : Sq K pInt H W v ns) (h : Q (.bl (decide (i ∉ ns))) H) : rInU K w true (.int i) v H Q := by
  obtain ⟨a, vs, rfl, hs, hr, _⟩ := hq
  rw [hr.imm] at hs
  exact .inl ⟨a, _, rfl, hs, rfl, flat_ints, by rw [inV_ints, ← decide_not]; exact h⟩
end
end EL

namespace EL
open PySem PySem.Spec PyProof.Rows L2 Px
/-! ### capture of what is wanted -/
section
variable {σ : L2.St} {H : Hp}
theorem capT {c : TT} {R : Bool → Hp → Prop} (M : Bool → Hp → Prop) (hR : ∀ b H', M b H' → R b H') (h : (∀ b H', M b H' → R b H') → c σ H R) : c σ H R := h hR
theorem capV {c : TE} {Q : VK} (M : V → Hp → Prop) (hR : ∀ v H', M v H' → Q v H') (h : (∀ v H', M v H' → Q v H') → c σ H Q) : c σ H Q := h hR
theorem Br_two {b : Bool} {A B A' B' : Prop} (hw : Br b A B) (h1 : b = true → A → A') (h2 : b = false → B → B') : Br b A' B' := by
  cases b
  · exact Br_f (h2 rfl (by simpa [Br] using hw))
  · exact Br_t (h1 rfl (by simpa [Br] using hw))
/-- both ways of a test meet -/
theorem andJ {b c : Bool} {A : Prop} {R : Bool → Hp → Prop} (h : R (b && c) H) (ha : b = true → R c H → A) : Br b A (R false H) := by
  cases b
  · exact Br_f h
  · exact Br_t (ha rfl h)
theorem orJ {b c : Bool} {A : Prop} {R : Bool → Hp → Prop} (h : R (b || c) H) (ha : b = false → R c H → A) : Br b (R true H) A := by
  cases b
  · exact Br_f (ha rfl h)
  · exact Br_t h
theorem andJV {b c : Bool} {A : Prop} {Q : VK} (h : Q (.bl (b && c)) H) (ha : b = true → Q (.bl c) H → A) : Br b A (Q (.bl false) H) := by
  cases b
  · exact Br_f h
  · exact Br_t (ha rfl h)
theorem orJV {b c : Bool} {A : Prop} {Q : VK} (h : Q (.bl (b || c)) H) (ha : b = false → Q (.bl c) H → A) : Br b (Q (.bl true) H) A := by
  cases b
  · exact Br_f (ha rfl h)
  · exact Br_t h
theorem ifJ {τ : Type} {f : τ → V} {b : Bool} {x y : τ} {A B : Prop} {Q : VK} (h : Q (f (cond b x y)) H) (ha : b = true → Q (f x) H → A) (hb : b = false → Q (f y) H → B) : Br b A B := by
  cases b
  · exact Br_f (hb rfl h)
  · exact Br_t (ha rfl h)
end
section
variable {σ : L2.St} {H : Hp}
theorem joinT {c : TT} {R : Bool → Hp → Prop} {f : (Bool → Prop) → Prop} {k : Bool → Prop} (hw : wJoin f k) (M : Hp → Prop) (hR : ∀ b H', M H' → k b → R b H') (h : f k → (∀ b H', M H' → k b → R b H') → c σ H R) : c σ H R := h hw hR
theorem joinV {τ : Type} {c : TE} {Q : VK} {f : (τ → Prop) → Prop} {k : τ → Prop} (hw : wJoin f k) (M : τ → V → Hp → Prop) (hR : ∀ d v H', M d v H' → k d → Q v H') (h : f k → (∀ d v H', M d v H' → k d → Q v H') → c σ H Q) : c σ H Q := h hw hR
/-! pure parts -/
theorem tAndP {b c : Bool} {c1 c2 : TT} {R : Bool → Hp → Prop} (h1 : ∀ R : Bool → Hp → Prop, R b H → c1 σ H R) (h2 : b = true → ∀ R : Bool → Hp → Prop, R c H → c2 σ H R) (h : R (b && c) H) : tAnd c1 c2 σ H R := by
  refine tAnd_i (h1 _ ?_)
  cases b
  · exact Br_f h
  · exact Br_t (h2 rfl _ h)
theorem tOrP {b c : Bool} {c1 c2 : TT} {R : Bool → Hp → Prop} (h1 : ∀ R : Bool → Hp → Prop, R b H → c1 σ H R) (h2 : b = false → ∀ R : Bool → Hp → Prop, R c H → c2 σ H R) (h : R (b || c) H) : tOr c1 c2 σ H R := by
  refine tOr_i (h1 _ ?_)
  cases b
  · exact Br_f (h2 rfl _ h)
  · exact Br_t h
theorem tAndVP {b c : Bool} {c1 c2 : TE} {Q : VK} (h1 : ∀ R : VK, R (.bl b) H → c1 σ H R) (h2 : b = true → ∀ R : VK, R (.bl c) H → c2 σ H R) (h : Q (.bl (b && c)) H) : tAndV c1 c2 σ H Q := by
  refine tAndV_i (h1 _ (IsBl_i ?_))
  cases b
  · exact Br_f h
  · exact Br_t (h2 rfl _ h)
theorem tOrVP {b c : Bool} {c1 c2 : TE} {Q : VK} (h1 : ∀ R : VK, R (.bl b) H → c1 σ H R) (h2 : b = false → ∀ R : VK, R (.bl c) H → c2 σ H R) (h : Q (.bl (b || c)) H) : tOrV c1 c2 σ H Q := by
  refine tOrV_i (h1 _ (IsBl_i ?_))
  cases b
  · exact Br_f (h2 rfl _ h)
  · exact Br_t h
theorem tIfP {τ : Type} {f : τ → V} {b : Bool} {x y : τ} {c : TT} {ta tb : TE} {Q : VK} (h0 : ∀ R : Bool → Hp → Prop, R b H → c σ H R) (h1 : b = true → ∀ R : VK, R (f x) H → ta σ H R) (h2 : b = false → ∀ R : VK, R (f y) H → tb σ H R) (h : Q (f (cond b x y)) H) : tIf c ta tb σ H Q := by
  refine tIf_i (h0 _ ?_)
  cases b
  · exact Br_f (h2 rfl _ h)
  · exact Br_t (h1 rfl _ h)
end
/-! ### names -/
section
variable {σ σ' : L2.St} {H W : Hp} {i : Nat} {v : V} {R : L2.St → Hp → Prop} {τ : Type} {p : PTy τ} {e : τ} {k : τ → Prop} {f : τ → V}
theorem gN (hs : σ.set i (some v) = σ') (h : R σ' H) : gName i v σ H R := by rw [← hs] at h; exact h
theorem asgI (hw : wLet e k) (h : ∀ x, k x → R (σ.set i (some (f x))) H) : gName i (f e) σ H R := h e hw
theorem asgR (hw : wLet e k) (hr : p.rep W v e) (h : ∀ x, p.rep W v x → k x → R (σ.set i (some v)) H) : gName i v σ H R := h e hr hw
theorem cutW {S : Type} {t u : TS} {N : L2.St → Hp → Prop} {Rt : VK} {Bk Ct : L2.St → Hp → Prop} {f : (S → Prop) → Prop} {k : S → Prop} (hw : wJoin f k) (RS : S → L2.St → Hp → Prop) (h1 : f k → t ⟨fun σ' H' => ∃ s, RS s σ' H' ∧ k s, Rt, Bk, Ct⟩ σ H) (h2 : ∀ s σ' H', RS s σ' H' → k s → u ⟨N, Rt, Bk, Ct⟩ σ' H') : tCut t u ⟨N, Rt, Bk, Ct⟩ σ H :=
  ⟨_, h1 hw, fun σ' H' ⟨s, hr, hk⟩ => h2 s σ' H' hr hk⟩
end
/-! ### for -/
section
variable {σ : L2.St} {H : Hp} {wi : TI} {g : TG} {tb : TS} {N : L2.St → Hp → Prop} {Rt : VK} {Bk Ct : L2.St → Hp → Prop} {J : It} {n : Nat} {ok : Hp → Prop} {itm : Nat → V → Hp → Hp → Prop} {α S : Type}
/-- what the turns of a for reach -/
def nxS (RS : S → L2.St → Hp → Prop) (nx : S → Prop) : L2.St → Hp → Prop := fun σ H => ∃ s, RS s σ H ∧ nx s
theorem forW (Sr : Src J n ok itm) {xs : List α} (hn : n = xs.length) {f : α → S → (S → Prop) → (S → Prop) → Prop} {k : S → Prop} {s0 : S} (hw : wFor xs s0 f k)
    (RS : S → L2.St → Hp → Prop) (I : α → V → Hp → Hp → Prop) (hI : ∀ i x H H' d, xs[i]? = some d → itm i x H H' → I d x H H') (h0 : RS s0 σ H) (hok : ∀ s σ H, RS s σ H → ok H)
    (hs : ∀ d s σ H x H' (nx : S → Prop), RS s σ H → I d x H H' → f d s nx k → g x σ H' fun σ2 H2 => tb ⟨nxS RS nx, Rt, N, nxS RS nx⟩ σ2 H2)
    (hd : ∀ s σ H, RS s σ H → k s → N σ H) : ForB g tb ⟨N, Rt, Bk, Ct⟩ σ J H := by
  refine ⟨fun i m σ H => m = n - i ∧ i ≤ n ∧ ∃ s, RS s σ H ∧ wFor (xs.drop i) s f k, ⟨n, by simp, Nat.zero_le _, s0, h0, by rw [List.drop_zero]; exact hw⟩, ?_⟩
  rintro i m σ H ⟨rfl, hi, s, hr, hw⟩
  have q := hok s σ H hr
  by_cases hlt : i < n
  · have hx : i < xs.length := by omega
    rw [List.drop_eq_getElem_cons hx] at hw
    refine .inr ⟨Sr.go i H q hlt, nxS RS fun s' => wFor (xs.drop (i + 1)) s' f k, fun σ' H' ⟨s', hr', hw'⟩ => ⟨n - (i + 1), by omega, rfl, hlt, s', hr', hw'⟩, fun x H' y => ?_⟩
    exact hs _ s σ H x H' _ hr (hI i x H H' _ (List.getElem?_eq_getElem hx) (Sr.yld i H x H' q hlt y)) hw
  · have e : xs.length ≤ i := by omega
    rw [List.drop_eq_nil_of_le e] at hw
    exact .inl ⟨Sr.stop i H q (by omega), hd s σ H hr hw⟩
end
section
variable {σ : L2.St} {H W : Hp} {g : TG} {tb : TS} {N : L2.St → Hp → Prop} {Rt : VK} {Bk Ct : L2.St → Hp → Prop} {α β S : Type} {K : PySem.W.Frag} {p : PTy α} {pb : PTy β} {te : TE} {f : α → S → (S → Prop) → (S → Prop) → Prop} {k : S → Prop} {s0 : S} {xs : List α} {a b : Addr} {vs us : List V}
/-- what an item of a list is: nothing is made -/
def ItS (p : PTy α) (W : Hp) : α → V → Hp → Hp → Prop := fun d x H H' => H' = H ∧ p.rep W x d
theorem itmS (hr : AllR p W vs xs) (i : Nat) (x : V) (H H' : Hp) (d : α) (e : xs[i]? = some d) (h : itmL vs i x H H') : ItS p W d x H H' := by
  obtain ⟨rfl, hx⟩ := h
  obtain ⟨u, hu, ru⟩ := hr.get e
  rw [hx] at hu
  cases hu
  exact ⟨rfl, ru⟩
/-- over a list: RS must keep the list as it stands -/
theorem forL (hw : wFor xs s0 f k) (hr : AllR p W vs xs) (RS : S → L2.St → Hp → Prop) (h0 : RS s0 σ H) (hok : ∀ s σ H, RS s σ H → SqL K H a vs)
    (hs : ∀ d s σ H x (nx : S → Prop), RS s σ H → p.rep W x d → f d s nx k → g x σ H fun σ2 H2 => tb ⟨nxS RS nx, Rt, N, nxS RS nx⟩ σ2 H2)
    (hd : ∀ s σ H, RS s σ H → k s → N σ H) : ForB g tb ⟨N, Rt, Bk, Ct⟩ σ (Itl K a) H :=
  forW (srcL (K := K) (a := a) (xs := vs)) hr.len hw RS (ItS p W) (itmS hr) h0 hok (fun d s σ H x H' nx r ⟨e, i⟩ h => by rw [e]; exact hs d s σ H x nx r i h) hd
theorem forT (hw : wFor xs s0 f k) (hr : AllR p W vs xs) (RS : S → L2.St → Hp → Prop) (h0 : RS s0 σ H) (hok : ∀ s σ H, RS s σ H → SqT K H a vs)
    (hs : ∀ d s σ H x (nx : S → Prop), RS s σ H → p.rep W x d → f d s nx k → g x σ H fun σ2 H2 => tb ⟨nxS RS nx, Rt, N, nxS RS nx⟩ σ2 H2)
    (hd : ∀ s σ H, RS s σ H → k s → N σ H) : ForB g tb ⟨N, Rt, Bk, Ct⟩ σ (Itt K a) H :=
  forW (srcT (K := K) (a := a) (xs := vs)) hr.len hw RS (ItS p W) (itmS hr) h0 hok (fun d s σ H x H' nx r ⟨e, i⟩ h => by rw [e]; exact hs d s σ H x nx r i h) hd
/-- over a list or a tuple -/
theorem forQ (hte : ∀ R : V → Hp → Prop, R (.ref a) H → te σ H R) (hq : SqA K H a vs) (hw : wFor xs s0 f k) (hr : AllR p W vs xs) (RS : S → L2.St → Hp → Prop) (h0 : RS s0 σ H) (hok : ∀ s σ H', RS s σ H' → Same W H')
    (hW : SqA K W a vs) (hs : ∀ d s σ H x (nx : S → Prop), RS s σ H → p.rep W x d → f d s nx k → g x σ H fun σ2 H2 => tb ⟨nxS RS nx, Rt, N, nxS RS nx⟩ σ2 H2)
    (hd : ∀ s σ H, RS s σ H → k s → N σ H) : tFor (iU K te) g tb ⟨N, Rt, Bk, Ct⟩ σ H := by
  refine tFor_i ?_
  rcases hW with z | z
  · refine .inl (hte _ (WL_i vs (hq.elim (fun z => z) fun z2 => ?_) (forL hw hr RS h0 (fun s σ H' r => (hok s σ H' r).seq z) hs hd)))
    exact (hok _ _ _ h0).seq z
  · refine .inr (hte _ (WT_i vs ((hok _ _ _ h0).seqT z) (forT hw hr RS h0 (fun s σ H' r => (hok s σ H' r).seqT z) hs hd)))
/-- over a range -/
theorem forR {lo hi : Int} {f : Int → S → (S → Prop) → (S → Prop) → Prop} (hw : wFor (rangeL lo hi) s0 f k) (RS : S → L2.St → Hp → Prop) (h0 : RS s0 σ H)
    (hs : ∀ d s σ H (nx : S → Prop), RS s σ H → f d s nx k → g (.int d) σ H fun σ2 H2 => tb ⟨nxS RS nx, Rt, N, nxS RS nx⟩ σ2 H2)
    (hd : ∀ s σ H, RS s σ H → k s → N σ H) : ForB g tb ⟨N, Rt, Bk, Ct⟩ σ (Itr lo (hi - lo).toNat) H := by
  refine forW srcR (rangeL_len (lo := lo) (hi := hi)).symm hw RS (fun d x H H' => H' = H ∧ x = .int d) (fun i x H H' d e h => ?_) h0 (fun _ _ _ _ => trivial) (fun d s σ H x H' nx r ⟨e, i⟩ h => by rw [e, i]; exact hs d s σ H nx r h) hd
  obtain ⟨rfl, rfl⟩ := h
  refine ⟨rfl, ?_⟩
  obtain ⟨hi, _⟩ := List.getElem?_eq_some_iff.mp e
  rw [rangeL_len] at hi
  rw [rangeL_get hi] at e
  cases e
  rfl
theorem forR0 {hi : Int} {f : Int → S → (S → Prop) → (S → Prop) → Prop} (hw : wFor (rangeL 0 hi) s0 f k) (RS : S → L2.St → Hp → Prop) (h0 : RS s0 σ H)
    (hs : ∀ d s σ H (nx : S → Prop), RS s σ H → f d s nx k → g (.int d) σ H fun σ2 H2 => tb ⟨nxS RS nx, Rt, N, nxS RS nx⟩ σ2 H2)
    (hd : ∀ s σ H, RS s σ H → k s → N σ H) : ForB g tb ⟨N, Rt, Bk, Ct⟩ σ (Itr 0 hi.toNat) H := by
  have := forR (Bk := Bk) (Ct := Ct) (lo := 0) (hi := hi) hw RS h0 hs hd
  rw [Int.sub_zero] at this
  exact this
/-- what a pair made by enumerate or zip is -/
def ItP (pa : PTy α) (pb : PTy β) (W : Hp) : α × β → V → Hp → Hp → Prop := fun d x H H' => ∃ q y z, x = .ref q ∧ H q = none ∧ Same H H' ∧ H' q = some (.tup [y, z]) ∧ pa.rep W y d.1 ∧ pb.rep W z d.2
theorem forE {f : Int × α → S → (S → Prop) → (S → Prop) → Prop} (hw : wFor (enumL xs) s0 f k) (hr : AllR p W vs xs) (RS : S → L2.St → Hp → Prop) (h0 : RS s0 σ H) (hok : ∀ s σ H, RS s σ H → SqL K H a vs)
    (hs : ∀ d s σ H x H' (nx : S → Prop), RS s σ H → ItP pInt p W d x H H' → f d s nx k → g x σ H' fun σ2 H2 => tb ⟨nxS RS nx, Rt, N, nxS RS nx⟩ σ2 H2)
    (hd : ∀ s σ H, RS s σ H → k s → N σ H) : ForB g tb ⟨N, Rt, Bk, Ct⟩ σ (Ite K a) H := by
  refine forW (srcE (K := K) (a := a) (xs := vs)) (by rw [enumL_len, hr.len]) hw RS (ItP pInt p W) (fun i x H H' d e h => ?_) h0 hok hs hd
  obtain ⟨q, y, rfl, n, s, e2, hy⟩ := h
  obtain ⟨d', hd', rd⟩ := hr.getV hy
  rw [enumL_get hd'] at e
  cases e
  exact ⟨q, _, y, rfl, n, s, e2, rfl, rd⟩
theorem forET {f : Int × α → S → (S → Prop) → (S → Prop) → Prop} (hw : wFor (enumL xs) s0 f k) (hr : AllR p W vs xs) (RS : S → L2.St → Hp → Prop) (h0 : RS s0 σ H) (hok : ∀ s σ H, RS s σ H → SqT K H a vs)
    (hs : ∀ d s σ H x H' (nx : S → Prop), RS s σ H → ItP pInt p W d x H H' → f d s nx k → g x σ H' fun σ2 H2 => tb ⟨nxS RS nx, Rt, N, nxS RS nx⟩ σ2 H2)
    (hd : ∀ s σ H, RS s σ H → k s → N σ H) : ForB g tb ⟨N, Rt, Bk, Ct⟩ σ (IteT K a) H := by
  refine forW (srcET (K := K) (a := a) (xs := vs)) (by rw [enumL_len, hr.len]) hw RS (ItP pInt p W) (fun i x H H' d e h => ?_) h0 hok hs hd
  obtain ⟨q, y, rfl, n, s, e2, hy⟩ := h
  obtain ⟨d', hd', rd⟩ := hr.getV hy
  rw [enumL_get hd'] at e
  cases e
  exact ⟨q, _, y, rfl, n, s, e2, rfl, rd⟩
theorem forZ {ys : List β} {f : α × β → S → (S → Prop) → (S → Prop) → Prop} (hw : wFor (xs.zip ys) s0 f k) (hr : AllR p W vs xs) (hr2 : AllR pb W us ys) (RS : S → L2.St → Hp → Prop) (h0 : RS s0 σ H) (hok : ∀ s σ H, RS s σ H → SqL K H a vs ∧ SqL K H b us)
    (hs : ∀ d s σ H x H' (nx : S → Prop), RS s σ H → ItP p pb W d x H H' → f d s nx k → g x σ H' fun σ2 H2 => tb ⟨nxS RS nx, Rt, N, nxS RS nx⟩ σ2 H2)
    (hd : ∀ s σ H, RS s σ H → k s → N σ H) : ForB g tb ⟨N, Rt, Bk, Ct⟩ σ (Itz K a b) H := by
  refine forW (srcZ (K := K) (a := a) (b := b) (xs := vs) (ys := us)) (by rw [List.length_zip, hr.len, hr2.len]) hw RS (ItP p pb W) (fun i x H H' d e h => ?_) h0 hok hs hd
  obtain ⟨q, y, z, rfl, n, s, e2, hy, hz⟩ := h
  obtain ⟨d1, hd1, rd1⟩ := hr.getV hy
  obtain ⟨d2, hd2, rd2⟩ := hr2.getV hz
  rw [Px.zip_get hd1 hd2] at e
  cases e
  exact ⟨q, y, z, rfl, n, s, e2, rd1, rd2⟩
end
/-! ### while -/
theorem whileW {S : Type} {σ : L2.St} {H : Hp} {N : L2.St → Hp → Prop} {Rt : VK} {Bk Ct : L2.St → Hp → Prop} {c : TT} {t : TS} {s0 : S} {f : S → (S → Prop) → (S → Prop) → Prop} {k : S → Prop} (hw : wWhile s0 f k) (RS : S → L2.St → Hp → Prop) (h0 : RS s0 σ H)
    (hs : ∀ s σ H (nx : S → Prop) (WB : L2.St → Hp → Prop), RS s σ H → f s nx k → (∀ σ H, t ⟨nxS RS nx, Rt, N, nxS RS nx⟩ σ H → WB σ H) → c σ H fun b H1 => Br b (WB σ H1) (N σ H1)) : tWhile c t ⟨N, Rt, Bk, Ct⟩ σ H := by
  obtain ⟨W, ⟨m, w⟩, hw⟩ := hw
  refine ⟨fun m σ H => ∃ s, RS s σ H ∧ W m s, ⟨m, s0, h0, w⟩, ?_⟩
  rintro m σ H ⟨s, hr, w⟩
  refine hs s σ H _ (fun σ H1 => ∃ N1 : L2.St → Hp → Prop, (∀ σ' H', N1 σ' H' → ∃ m', m' < m ∧ ∃ s, RS s σ' H' ∧ W m' s) ∧ t ⟨N1, Rt, N, N1⟩ σ H1) hr (hw m s w) (fun σ H1 h => ⟨_, ?_, h⟩)
  rintro σ' H' ⟨s', hr', m', hm, w'⟩
  exact ⟨m', hm, s', hr', w'⟩
/-! ### comprehensions -/
section
variable {σ : L2.St} {H W : Hp} {g : TG} {tt : TT} {te : TE} {vs : List Nat} {Q : VK} {J : It} {n : Nat} {ok : Hp → Prop} {itm : Nat → V → Hp → Hp → Prop} {α β : Type} {pb : PTy β} {ps : List Addr}
/-- the state between the turns: zs are made, the rest is asked -/
def LcR (pb : PTy β) (H0 : Hp) (ps : List Addr) (L : Addr) (zs : List β) (H1 : Hp) : Prop := Same H0 H1 ∧ ∃ acc, H1 L = some (.lst acc) ∧ AllR pb (dels H1 (L :: ps)) acc zs
theorem lcW (Sr : Src J n ok itm) {xs : List α} (hn : n = xs.length) (hlim : n ≤ LIM) {f : α → (Option β → Prop) → Prop} {k : List β → Prop} (hw : wComp xs f k) (hps : ∀ q ∈ ps, H q ≠ none)
    (I : α → V → Hp → Hp → Prop) (hI : ∀ i x H H' d, xs[i]? = some d → itm i x H H' → I d x H H') (hok : ∀ H', Same H H' → ok H')
    (hs : ∀ L d x H1 H2 (nx : Option β → Prop), H L = none → Same H H1 → (∃ acc, H1 L = some (.lst acc)) → I d x H1 H2 → f d nx →
      ∀ (Y : V → Hp → Prop) (N : Hp → Prop), (∀ r v H3, Same H1 H3 → pb.rep (dels H3 (L :: ps)) v r → nx (some r) → Y v H3) → (∀ H3, Same H1 H3 → nx none → N H3) →
      g x (wipe σ vs) H2 fun σ2 H2 => wipe σ2 vs = wipe σ vs ∧ tt σ2 H2 fun b H3 => Br b (te σ2 H3 Y) (N H3))
    (hd : ∀ L H1 acc zs, H L = none → Same H H1 → H1 L = some (.lst acc) → AllR pb (dels H1 (L :: ps)) acc zs → zs.length ≤ LIM → k zs → Q (.ref L) H1) : LcB g tt te vs σ Q J H := by
  intro L hL
  have hLps : L ∉ ps := fun z => hps L z hL
  refine ⟨fun i m H1 => m = n - i ∧ i ≤ n ∧ ∃ zs : List β, zs.length ≤ i ∧ LcR pb H ps L zs H1 ∧ wComp (xs.drop i) f (fun ys => k (zs ++ ys)), ⟨n, by simp, Nat.zero_le _, [], Nat.le_refl _, ⟨Same.new hL, [], upd_same, .nil⟩, by rw [List.drop_zero]; exact hw⟩, ?_⟩
  rintro i m H1 ⟨rfl, hi, zs, hz, ⟨s1, acc, e1, r1⟩, hw⟩
  have q := hok H1 s1
  by_cases hlt : i < n
  · have hx : i < xs.length := by omega
    rw [List.drop_eq_getElem_cons hx] at hw
    refine .inr ⟨Sr.go i H1 q hlt, fun H3 => ∃ zs : List β, zs.length ≤ i + 1 ∧ LcR pb H ps L zs H3 ∧ wComp (xs.drop (i + 1)) f (fun ys => k (zs ++ ys)), fun H3 h3 => ⟨n - (i + 1), by omega, rfl, hlt, h3⟩, fun x H2 y => ?_⟩
    refine hs L _ x H1 H2 _ hL s1 ⟨acc, e1⟩ (hI i x H1 H2 _ (List.getElem?_eq_getElem hx) (Sr.yld i H1 x H2 q hlt y)) hw _ _ (fun r v H3 s3 hr h => ?_) (fun H3 s3 h => ?_)
    · have e3 := s3 _ _ e1
      refine ⟨acc, e3, Nat.lt_of_lt_of_le (by rw [r1.len]; omega) hlim, zs ++ [r], by rw [List.length_append, List.length_singleton]; omega, ⟨?_, acc ++ [v], upd_same, ?_⟩, ?_⟩
      · exact Same.upd (s1.trans s3) hL
      · have ee : dels (L2.upd H3 L (.lst (acc ++ [v]))) (L :: ps) = dels H3 (L :: ps) := dels_ext fun b hb => upd_ne fun e => hb (by rw [e]; exact List.mem_cons_self ..)
        rw [ee]
        exact (r1.mono (Sd _ s3)).app (.one hr)
      · simpa [List.append_assoc] using h
    · have e3 := s3 _ _ e1
      refine ⟨zs, by omega, ⟨s1.trans s3, acc, e3, r1.mono (Sd _ s3)⟩, ?_⟩
      simpa using h
  · have e : xs.length ≤ i := by omega
    rw [List.drop_eq_nil_of_le e] at hw
    refine .inl ⟨Sr.stop i H1 q (by omega), hd L H1 acc zs hL s1 e1 r1 (by omega) ?_⟩
    have hw' : k (zs ++ []) := hw
    rwa [List.append_nil] at hw'
end
section
variable {σ : L2.St} {H W : Hp} {g : TG} {tt : TT} {te : TE} {vs : List Nat} {Q : VK} {α β γ : Type} {pb : PTy β} {p : PTy α} {pc : PTy γ} {ps : List Addr} {K : PySem.W.Frag} {xs : List α} {a b : Addr} {us ws : List V}
  {f : α → (Option β → Prop) → Prop} {k : List β → Prop}
/-- a turn of a comprehension whose items are made by nothing -/
def LcT (pb : PTy β) (H : Hp) (ps : List Addr) (g : TG) (tt : TT) (te : TE) (vs : List Nat) (σ : L2.St) (f : (Option β → Prop) → Prop) (L : Addr) (x : V) (H1 H2 : Hp) : Prop :=
  ∀ (nx : Option β → Prop), f nx → ∀ (Y : V → Hp → Prop) (N : Hp → Prop), (∀ r v H3, Same H1 H3 → pb.rep (dels H3 (L :: ps)) v r → nx (some r) → Y v H3) → (∀ H3, Same H1 H3 → nx none → N H3) →
      g x (wipe σ vs) H2 fun σ2 H2 => wipe σ2 vs = wipe σ vs ∧ tt σ2 H2 fun b H3 => Br b (te σ2 H3 Y) (N H3)
def LcD (pb : PTy β) (H : Hp) (ps : List Addr) (Q : VK) (k : List β → Prop) : Prop := ∀ L H1 acc zs, H L = none → Same H H1 → H1 L = some (.lst acc) → AllR pb (dels H1 (L :: ps)) acc zs → zs.length ≤ LIM → k zs → Q (.ref L) H1
theorem lcL (hw : wComp xs f k) (hq : SqL K H a us) (hr : AllR p W us xs) (hl : xs.length ≤ LIM) (hps : ∀ q ∈ ps, H q ≠ none)
    (hs : ∀ L d x H1, H L = none → Same H H1 → (∃ acc, H1 L = some (.lst acc)) → p.rep W x d → LcT pb H ps g tt te vs σ (f d) L x H1 H1) (hd : LcD pb H ps Q k) : LcB g tt te vs σ Q (Itl K a) H :=
  lcW (srcL (K := K) (a := a) (xs := us)) hr.len (by rw [hr.len]; exact hl) hw hps (ItS p W) (itmS hr) (fun H' s => s.seq hq) (fun L d x H1 H2 nx n s e ⟨e2, i⟩ h => by rw [e2]; exact hs L d x H1 n s e i nx h) hd
theorem lcT (hw : wComp xs f k) (hq : SqT K H a us) (hr : AllR p W us xs) (hl : xs.length ≤ LIM) (hps : ∀ q ∈ ps, H q ≠ none)
    (hs : ∀ L d x H1, H L = none → Same H H1 → (∃ acc, H1 L = some (.lst acc)) → p.rep W x d → LcT pb H ps g tt te vs σ (f d) L x H1 H1) (hd : LcD pb H ps Q k) : LcB g tt te vs σ Q (Itt K a) H :=
  lcW (srcT (K := K) (a := a) (xs := us)) hr.len (by rw [hr.len]; exact hl) hw hps (ItS p W) (itmS hr) (fun H' s => s.seqT hq) (fun L d x H1 H2 nx n s e ⟨e2, i⟩ h => by rw [e2]; exact hs L d x H1 n s e i nx h) hd
theorem lcQ (hte : ∀ R : V → Hp → Prop, R (.ref a) H → te σ H R) {te2 : TE} (hw : wComp xs f k) (hq : SqA K H a us) (hr : AllR p W us xs) (hl : xs.length ≤ LIM) (hps : ∀ q ∈ ps, H q ≠ none)
    (hs : ∀ L d x H1, H L = none → Same H H1 → (∃ acc, H1 L = some (.lst acc)) → p.rep W x d → LcT pb H ps g tt te2 vs σ (f d) L x H1 H1) (hd : LcD pb H ps Q k) : tLc (iU K te) g tt te2 vs σ H Q := by
  refine tLc_i ?_
  rcases hq with z | z
  · exact .inl (hte _ (WL_i us z (lcL hw z hr hl hps hs hd)))
  · exact .inr (hte _ (WT_i us z (lcT hw z hr hl hps hs hd)))
theorem lcR {lo hi : Int} {f : Int → (Option β → Prop) → Prop} (hw : wComp (rangeL lo hi) f k) (hl : (hi - lo).toNat ≤ LIM) (hps : ∀ q ∈ ps, H q ≠ none)
    (hs : ∀ L d H1, H L = none → Same H H1 → (∃ acc, H1 L = some (.lst acc)) → LcT pb H ps g tt te vs σ (f d) L (.int d) H1 H1) (hd : LcD pb H ps Q k) : LcB g tt te vs σ Q (Itr lo (hi - lo).toNat) H := by
  refine lcW srcR (rangeL_len (lo := lo) (hi := hi)).symm hl hw hps (fun d x H H' => H' = H ∧ x = .int d) (fun i x H H' d e h => ?_) (fun _ _ => trivial) (fun L d x H1 H2 nx n s e ⟨e2, i⟩ h => by rw [e2, i]; exact hs L d H1 n s e nx h) hd
  obtain ⟨rfl, rfl⟩ := h
  refine ⟨rfl, ?_⟩
  obtain ⟨hi, _⟩ := List.getElem?_eq_some_iff.mp e
  rw [rangeL_len] at hi
  rw [rangeL_get hi] at e
  cases e
  rfl
theorem lcR0 {hi : Int} {f : Int → (Option β → Prop) → Prop} (hw : wComp (rangeL 0 hi) f k) (hl : hi.toNat ≤ LIM) (hps : ∀ q ∈ ps, H q ≠ none)
    (hs : ∀ L d H1, H L = none → Same H H1 → (∃ acc, H1 L = some (.lst acc)) → LcT pb H ps g tt te vs σ (f d) L (.int d) H1 H1) (hd : LcD pb H ps Q k) : LcB g tt te vs σ Q (Itr 0 hi.toNat) H := by
  have := lcR (lo := 0) (hi := hi) hw (by rw [Int.sub_zero]; exact hl) hps hs hd
  rw [Int.sub_zero] at this
  exact this
theorem lcE {f : Int × α → (Option β → Prop) → Prop} (hw : wComp (enumL xs) f k) (hq : SqL K H a us) (hr : AllR p W us xs) (hl : xs.length ≤ LIM) (hps : ∀ q ∈ ps, H q ≠ none)
    (hs : ∀ L d x H1 H2, H L = none → Same H H1 → (∃ acc, H1 L = some (.lst acc)) → ItP pInt p W d x H1 H2 → LcT pb H ps g tt te vs σ (f d) L x H1 H2) (hd : LcD pb H ps Q k) : LcB g tt te vs σ Q (Ite K a) H := by
  refine lcW (srcE (K := K) (a := a) (xs := us)) (by rw [enumL_len, hr.len]) (by rw [hr.len]; exact hl) hw hps (ItP pInt p W) (fun i x H H' d e h => ?_) (fun H' s => s.seq hq) (fun L d x H1 H2 nx n s e i h => hs L d x H1 H2 n s e i nx h) hd
  obtain ⟨q, y, rfl, n, s, e2, hy⟩ := h
  obtain ⟨d', hd', rd⟩ := hr.getV hy
  rw [enumL_get hd'] at e
  cases e
  exact ⟨q, _, y, rfl, n, s, e2, rfl, rd⟩
theorem lcET {f : Int × α → (Option β → Prop) → Prop} (hw : wComp (enumL xs) f k) (hq : SqT K H a us) (hr : AllR p W us xs) (hl : xs.length ≤ LIM) (hps : ∀ q ∈ ps, H q ≠ none)
    (hs : ∀ L d x H1 H2, H L = none → Same H H1 → (∃ acc, H1 L = some (.lst acc)) → ItP pInt p W d x H1 H2 → LcT pb H ps g tt te vs σ (f d) L x H1 H2) (hd : LcD pb H ps Q k) : LcB g tt te vs σ Q (IteT K a) H := by
  refine lcW (srcET (K := K) (a := a) (xs := us)) (by rw [enumL_len, hr.len]) (by rw [hr.len]; exact hl) hw hps (ItP pInt p W) (fun i x H H' d e h => ?_) (fun H' s => s.seqT hq) (fun L d x H1 H2 nx n s e i h => hs L d x H1 H2 n s e i nx h) hd
  obtain ⟨q, y, rfl, n, s, e2, hy⟩ := h
  obtain ⟨d', hd', rd⟩ := hr.getV hy
  rw [enumL_get hd'] at e
  cases e
  exact ⟨q, _, y, rfl, n, s, e2, rfl, rd⟩
theorem lcZ {ys : List γ} {f : α × γ → (Option β → Prop) → Prop} (hw : wComp (xs.zip ys) f k) (hq : SqL K H a us) (hq2 : SqL K H b ws) (hr : AllR p W us xs) (hr2 : AllR pc W ws ys) (hl : xs.length ≤ LIM) (hps : ∀ q ∈ ps, H q ≠ none)
    (hs : ∀ L d x H1 H2, H L = none → Same H H1 → (∃ acc, H1 L = some (.lst acc)) → ItP p pc W d x H1 H2 → LcT pb H ps g tt te vs σ (f d) L x H1 H2) (hd : LcD pb H ps Q k) : LcB g tt te vs σ Q (Itz K a b) H := by
  refine lcW (srcZ (K := K) (a := a) (b := b) (xs := us) (ys := ws)) (by rw [List.length_zip, hr.len, hr2.len]) (by rw [hr.len]; omega) hw hps (ItP p pc W) (fun i x H H' d e h => ?_) (fun H' s => ⟨s.seq hq, s.seq hq2⟩) (fun L d x H1 H2 nx n s e i h => hs L d x H1 H2 n s e i nx h) hd
  obtain ⟨q, y, z, rfl, n, s, e2, hy, hz⟩ := h
  obtain ⟨d1, hd1, rd1⟩ := hr.getV hy
  obtain ⟨d2, hd2, rd2⟩ := hr2.getV hz
  rw [Px.zip_get hd1 hd2] at e
  cases e
  exact ⟨q, y, z, rfl, n, s, e2, rd1, rd2⟩
end
/-! two clauses -/
section
variable {σ : L2.St} {H W : Hp} {wi1 : TI} {g g1 : TG} {tt tt1 : TT} {te : TE} {vs vs1 : List Nat} {Q : VK} {J J1 : It} {n n1 : Nat} {ok ok1 : Hp → Prop} {itm itm1 : Nat → V → Hp → Hp → Prop} {α β γ : Type} {pb : PTy β} {p : PTy α} {pc : PTy γ} {ps : List Addr} {K : PySem.W.Frag} {xs : List α} {a b : Addr} {us ws : List V}
  {k : List β → Prop}
theorem LcR.up {H0 H1 H2 : Hp} {L : Addr} {zs : List β} (s : Same H1 H2) (h : LcR pb H0 ps L zs H1) : LcR pb H0 ps L zs H2 := let ⟨s1, acc, e, r⟩ := h; ⟨s1.trans s, acc, s _ _ e, r.mono (Sd _ s)⟩
/-- a turn of the outer clause -/
def LcT2 (pb : PTy β) (H : Hp) (ps : List Addr) (wi1 : TI) (g g1 : TG) (tt tt1 : TT) (te : TE) (vs vs1 : List Nat) (σ : L2.St) (f : List β → (List β → Prop) → Prop) (L : Addr) (x : V) (H1 H2 : Hp) : Prop :=
  ∀ (zs : List β) (nx : List β → Prop), LcR pb H ps L zs H1 → zs.length ≤ LIM → f zs nx → ∀ (N : Hp → Prop), (∀ zs' H3, LcR pb H ps L zs' H3 → zs'.length ≤ LIM → nx zs' → N H3) →
      g x (wipe σ vs) H2 fun σ2 H2 => wipe σ2 vs = wipe σ vs ∧ tt σ2 H2 fun b H3 => Br b (wi1 σ2 H3 (LcIn L N g1 tt1 te vs1 σ2)) (N H3)
theorem lc2W (Sr : Src J n ok itm) {xs : List α} (hn : n = xs.length) {f : α → List β → (List β → Prop) → Prop} {k : List β → Prop} (hw : wComp2 xs f [] k) (hps : ∀ q ∈ ps, H q ≠ none)
    (I : α → V → Hp → Hp → Prop) (hI : ∀ i x H H' d, xs[i]? = some d → itm i x H H' → I d x H H') (hok : ∀ H', Same H H' → ok H')
    (hs : ∀ L d x H1 H2, H L = none → Same H H1 → I d x H1 H2 → LcT2 pb H ps wi1 g g1 tt tt1 te vs vs1 σ (f d) L x H1 H2) (hd : LcD pb H ps Q k) : LcB2 g tt wi1 g1 tt1 te vs vs1 σ Q J H := by
  intro L hL
  refine ⟨fun i m H1 => m = n - i ∧ i ≤ n ∧ ∃ zs : List β, zs.length ≤ LIM ∧ LcR pb H ps L zs H1 ∧ wComp2 (xs.drop i) f zs k, ⟨n, by simp, Nat.zero_le _, [], Nat.zero_le _, ⟨Same.new hL, [], upd_same, .nil⟩, by rw [List.drop_zero]; exact hw⟩, ?_⟩
  rintro i m H1 ⟨rfl, hi, zs, hz, r, hw⟩
  have q := hok H1 r.1
  by_cases hlt : i < n
  · have hx : i < xs.length := by omega
    rw [List.drop_eq_getElem_cons hx] at hw
    refine .inr ⟨Sr.go i H1 q hlt, fun H3 => ∃ zs : List β, zs.length ≤ LIM ∧ LcR pb H ps L zs H3 ∧ wComp2 (xs.drop (i + 1)) f zs k, fun H3 h3 => ⟨n - (i + 1), by omega, rfl, hlt, h3⟩, fun x H2 y => ?_⟩
    exact hs L _ x H1 H2 hL r.1 (hI i x H1 H2 _ (List.getElem?_eq_getElem hx) (Sr.yld i H1 x H2 q hlt y)) zs _ r hz hw _ (fun zs' H3 r3 l3 h => ⟨zs', l3, r3, h⟩)
  · have e : xs.length ≤ i := by omega
    rw [List.drop_eq_nil_of_le e] at hw
    obtain ⟨s1, acc, e1, r1⟩ := r
    exact .inl ⟨Sr.stop i H1 q (by omega), hd L H1 acc zs hL s1 e1 r1 hz hw⟩
theorem lcInW (Sr : Src J1 n1 ok1 itm1) {H4 : Hp} {L : Addr} {N : Hp → Prop} {ys : List γ} (hn : n1 = ys.length) {f : γ → (Option β → Prop) → Prop} {zs : List β} (hw : wCompA ys f zs k) (hL : H L = none)
    (h0 : LcR pb H ps L zs H4) (hz : zs.length ≤ LIM) (I : γ → V → Hp → Hp → Prop) (hI : ∀ i x H H' d, ys[i]? = some d → itm1 i x H H' → I d x H H') (hok : ∀ H', Same (dels H4 (L :: ps)) H' → ok1 H')
    (hs : ∀ d x H1 H2, Same (dels H4 (L :: ps)) (dels H1 (L :: ps)) → Same H H1 → (∃ acc, H1 L = some (.lst acc)) → I d x H1 H2 → LcT pb H ps g1 tt1 te vs1 σ (f d) L x H1 H2)
    (hd : ∀ zs' H3, LcR pb H ps L zs' H3 → zs'.length ≤ LIM → k zs' → N H3) : LcIn L N g1 tt1 te vs1 σ J1 H4 := by
  refine ⟨fun i m H1 => m = n1 - i ∧ i ≤ n1 ∧ ∃ zs : List β, zs.length ≤ LIM ∧ LcR pb H ps L zs H1 ∧ Same (dels H4 (L :: ps)) (dels H1 (L :: ps)) ∧ wCompA (ys.drop i) f zs k, ⟨n1, by simp, Nat.zero_le _, zs, hz, h0, Same.refl _, by rw [List.drop_zero]; exact hw⟩, ?_⟩
  rintro i m H1 ⟨rfl, hi, zs, hz, ⟨s1, acc, e1, r1⟩, sw, hw⟩
  have q := hok H1 (sw.trans Su)
  by_cases hlt : i < n1
  · have hx : i < ys.length := by omega
    rw [List.drop_eq_getElem_cons hx] at hw
    refine .inr ⟨Sr.go i H1 q hlt, fun H3 => ∃ zs : List β, zs.length ≤ LIM ∧ LcR pb H ps L zs H3 ∧ Same (dels H4 (L :: ps)) (dels H3 (L :: ps)) ∧ wCompA (ys.drop (i + 1)) f zs k, fun H3 h3 => ⟨n1 - (i + 1), by omega, rfl, hlt, h3⟩, fun x H2 y => ?_⟩
    refine hs _ x H1 H2 sw s1 ⟨acc, e1⟩ (hI i x H1 H2 _ (List.getElem?_eq_getElem hx) (Sr.yld i H1 x H2 q hlt y)) _ hw _ _ (fun r v H3 s3 hr h => ?_) (fun H3 s3 h => ?_)
    · have e3 := s3 _ _ e1
      have hb : zs.length + 1 ≤ LIM := h.1
      have ee : dels (L2.upd H3 L (.lst (acc ++ [v]))) (L :: ps) = dels H3 (L :: ps) := dels_ext fun b hb => upd_ne fun e => hb (by rw [e]; exact List.mem_cons_self ..)
      refine ⟨acc, e3, by rw [r1.len]; exact hb, zs ++ [r], by rw [List.length_append, List.length_singleton]; exact hb, ⟨Same.upd (s1.trans s3) hL, acc ++ [v], upd_same, ?_⟩, ?_, h.2⟩
      · rw [ee]
        exact (r1.mono (Sd _ s3)).app (.one hr)
      · rw [ee]
        exact sw.trans (Sd _ s3)
    · have e3 := s3 _ _ e1
      refine ⟨zs, hz, ⟨s1.trans s3, acc, e3, r1.mono (Sd _ s3)⟩, sw.trans (Sd _ s3), ?_⟩
      have := h.2
      simpa using this
  · have e : ys.length ≤ i := by omega
    rw [List.drop_eq_nil_of_le e] at hw
    exact .inl ⟨Sr.stop i H1 q (by omega), hd zs H1 ⟨s1, acc, e1, r1⟩ hz hw⟩
theorem lc2L {f : α → List β → (List β → Prop) → Prop} (hw : wComp2 xs f [] k) (hq : SqL K H a us) (hr : AllR p W us xs) (hps : ∀ q ∈ ps, H q ≠ none)
    (hs : ∀ L d x H1, H L = none → Same H H1 → p.rep W x d → LcT2 pb H ps wi1 g g1 tt tt1 te vs vs1 σ (f d) L x H1 H1) (hd : LcD pb H ps Q k) : LcB2 g tt wi1 g1 tt1 te vs vs1 σ Q (Itl K a) H :=
  lc2W (srcL (K := K) (a := a) (xs := us)) hr.len hw hps (ItS p W) (itmS hr) (fun H' s => s.seq hq) (fun L d x H1 H2 n s ⟨e2, i⟩ => by rw [e2]; exact hs L d x H1 n s i) hd
theorem lc2T {f : α → List β → (List β → Prop) → Prop} (hw : wComp2 xs f [] k) (hq : SqT K H a us) (hr : AllR p W us xs) (hps : ∀ q ∈ ps, H q ≠ none)
    (hs : ∀ L d x H1, H L = none → Same H H1 → p.rep W x d → LcT2 pb H ps wi1 g g1 tt tt1 te vs vs1 σ (f d) L x H1 H1) (hd : LcD pb H ps Q k) : LcB2 g tt wi1 g1 tt1 te vs vs1 σ Q (Itt K a) H :=
  lc2W (srcT (K := K) (a := a) (xs := us)) hr.len hw hps (ItS p W) (itmS hr) (fun H' s => s.seqT hq) (fun L d x H1 H2 n s ⟨e2, i⟩ => by rw [e2]; exact hs L d x H1 n s i) hd
theorem lc2R {lo hi : Int} {f : Int → List β → (List β → Prop) → Prop} (hw : wComp2 (rangeL lo hi) f [] k) (hps : ∀ q ∈ ps, H q ≠ none)
    (hs : ∀ L d H1, H L = none → Same H H1 → LcT2 pb H ps wi1 g g1 tt tt1 te vs vs1 σ (f d) L (.int d) H1 H1) (hd : LcD pb H ps Q k) : LcB2 g tt wi1 g1 tt1 te vs vs1 σ Q (Itr lo (hi - lo).toNat) H := by
  refine lc2W srcR (rangeL_len (lo := lo) (hi := hi)).symm hw hps (fun d x H H' => H' = H ∧ x = .int d) (fun i x H H' d e h => ?_) (fun _ _ => trivial) (fun L d x H1 H2 n s ⟨e2, i⟩ => by rw [e2, i]; exact hs L d H1 n s) hd
  obtain ⟨rfl, rfl⟩ := h
  refine ⟨rfl, ?_⟩
  obtain ⟨hi, _⟩ := List.getElem?_eq_some_iff.mp e
  rw [rangeL_len] at hi
  rw [rangeL_get hi] at e
  cases e
  rfl
theorem lc2R0 {hi : Int} {f : Int → List β → (List β → Prop) → Prop} (hw : wComp2 (rangeL 0 hi) f [] k) (hps : ∀ q ∈ ps, H q ≠ none)
    (hs : ∀ L d H1, H L = none → Same H H1 → LcT2 pb H ps wi1 g g1 tt tt1 te vs vs1 σ (f d) L (.int d) H1 H1) (hd : LcD pb H ps Q k) : LcB2 g tt wi1 g1 tt1 te vs vs1 σ Q (Itr 0 hi.toNat) H := by
  have := lc2R (lo := 0) (hi := hi) hw hps hs hd
  rw [Int.sub_zero] at this
  exact this
theorem lcInL {ys : List γ} {f : γ → (Option β → Prop) → Prop} {H4 : Hp} {L : Addr} {N : Hp → Prop} {zs : List β} (hw : wCompA ys f zs k) (hL : H L = none) (h0 : LcR pb H ps L zs H4) (hz : zs.length ≤ LIM)
    (hq : SqL K (dels H4 (L :: ps)) a us) (hr : AllR pc W us ys)
    (hs : ∀ d x H1, Same (dels H4 (L :: ps)) (dels H1 (L :: ps)) → Same H H1 → (∃ acc, H1 L = some (.lst acc)) → pc.rep W x d → LcT pb H ps g1 tt1 te vs1 σ (f d) L x H1 H1)
    (hd : ∀ zs' H3, LcR pb H ps L zs' H3 → zs'.length ≤ LIM → k zs' → N H3) : LcIn L N g1 tt1 te vs1 σ (Itl K a) H4 :=
  lcInW (srcL (K := K) (a := a) (xs := us)) hr.len hw hL h0 hz (ItS pc W) (itmS hr) (fun H' s => s.seq hq) (fun d x H1 H2 s1 s2 e ⟨e2, i⟩ => by rw [e2]; exact hs d x H1 s1 s2 e i) hd
theorem lcInT {ys : List γ} {f : γ → (Option β → Prop) → Prop} {H4 : Hp} {L : Addr} {N : Hp → Prop} {zs : List β} (hw : wCompA ys f zs k) (hL : H L = none) (h0 : LcR pb H ps L zs H4) (hz : zs.length ≤ LIM)
    (hq : SqT K (dels H4 (L :: ps)) a us) (hr : AllR pc W us ys)
    (hs : ∀ d x H1, Same (dels H4 (L :: ps)) (dels H1 (L :: ps)) → Same H H1 → (∃ acc, H1 L = some (.lst acc)) → pc.rep W x d → LcT pb H ps g1 tt1 te vs1 σ (f d) L x H1 H1)
    (hd : ∀ zs' H3, LcR pb H ps L zs' H3 → zs'.length ≤ LIM → k zs' → N H3) : LcIn L N g1 tt1 te vs1 σ (Itt K a) H4 :=
  lcInW (srcT (K := K) (a := a) (xs := us)) hr.len hw hL h0 hz (ItS pc W) (itmS hr) (fun H' s => s.seqT hq) (fun d x H1 H2 s1 s2 e ⟨e2, i⟩ => by rw [e2]; exact hs d x H1 s1 s2 e i) hd
theorem lcInR {lo hi : Int} {f : Int → (Option β → Prop) → Prop} {H4 : Hp} {L : Addr} {N : Hp → Prop} {zs : List β} (hw : wCompA (rangeL lo hi) f zs k) (hL : H L = none) (h0 : LcR pb H ps L zs H4) (hz : zs.length ≤ LIM)
    (hs : ∀ d H1, Same (dels H4 (L :: ps)) (dels H1 (L :: ps)) → Same H H1 → (∃ acc, H1 L = some (.lst acc)) → LcT pb H ps g1 tt1 te vs1 σ (f d) L (.int d) H1 H1)
    (hd : ∀ zs' H3, LcR pb H ps L zs' H3 → zs'.length ≤ LIM → k zs' → N H3) : LcIn L N g1 tt1 te vs1 σ (Itr lo (hi - lo).toNat) H4 := by
  refine lcInW srcR (rangeL_len (lo := lo) (hi := hi)).symm hw hL h0 hz (fun d x H H' => H' = H ∧ x = .int d) (fun i x H H' d e h => ?_) (fun _ _ => trivial) (fun d x H1 H2 s1 s2 ea ⟨e2, i⟩ => by rw [e2, i]; exact hs d H1 s1 s2 ea) hd
  obtain ⟨rfl, rfl⟩ := h
  refine ⟨rfl, ?_⟩
  obtain ⟨hi, _⟩ := List.getElem?_eq_some_iff.mp e
  rw [rangeL_len] at hi
  rw [rangeL_get hi] at e
  cases e
  rfl
theorem lcInR0 {hi : Int} {f : Int → (Option β → Prop) → Prop} {H4 : Hp} {L : Addr} {N : Hp → Prop} {zs : List β} (hw : wCompA (rangeL 0 hi) f zs k) (hL : H L = none) (h0 : LcR pb H ps L zs H4) (hz : zs.length ≤ LIM)
    (hs : ∀ d H1, Same (dels H4 (L :: ps)) (dels H1 (L :: ps)) → Same H H1 → (∃ acc, H1 L = some (.lst acc)) → LcT pb H ps g1 tt1 te vs1 σ (f d) L (.int d) H1 H1)
    (hd : ∀ zs' H3, LcR pb H ps L zs' H3 → zs'.length ≤ LIM → k zs' → N H3) : LcIn L N g1 tt1 te vs1 σ (Itr 0 hi.toNat) H4 := by
  have := lcInR (lo := 0) (hi := hi) hw hL h0 hz hs hd
  rw [Int.sub_zero] at this
  exact this
end
end EL

namespace EL
open PySem PySem.Spec PyProof.Rows L2 Px
/-! ### own lists changed -/
section
variable {K : PySem.W.Frag} {α : Type} {p : PTy α} {H W : Hp} {q : Addr} {xs : List α} {vs : List V} {y : V} {d : α} {Q : VK}
theorem appO (e : H q = some (.lst vs)) (r : AllR p W vs xs) (hl : xs.length < LIM) (hy : p.rep W y d)
    (h : ∀ H', Off q H H' → ∀ us, H' q = some (.lst us) → AllR p W us (xs ++ [d]) → (xs ++ [d]).length ≤ LIM → Q .non H') : rAppend (.ref q) [y] H Q :=
  ⟨q, vs, y, rfl, rfl, e, by rw [r.len]; exact hl, h _ off_upd _ upd_same (r.app (.one hy)) (by rw [List.length_append, List.length_singleton]; exact hl)⟩
theorem ixN_lt {n : Nat} {i : Int} {j : Nat} (h : ixN n i = some j) : j < n := (ixN_seq h).2.1
theorem setG_len {i : Int} : (setG xs i d).length = xs.length := by
  unfold setG
  split
  · rw [List.length_set]
  · rfl
theorem setO [Inhabited α] {i : Int} {R : Hp → Prop} (e : H q = some (.lst vs)) (r : AllR p W vs xs) (hl : xs.length ≤ LIM) (hi : inB xs i) (hy : p.rep W y d)
    (h : ∀ H', Off q H H' → ∀ us, H' q = some (.lst us) → AllR p W us (setG xs i d) → (setG xs i d).length ≤ LIM → R H') : SubE rSetU (.ref q) (.int i) y H R := by
  obtain ⟨j, hj, _⟩ := inB_at hi
  refine .inl ⟨q, vs, i, j, rfl, rfl, e, by rw [r.len]; exact hj, h _ off_upd _ upd_same ?_ (by rw [setG_len]; exact hl)⟩
  unfold setG
  rw [hj]
  exact r.set hy j
theorem popO [Inhabited α] (e : H q = some (.lst vs)) (r : AllR p W vs xs) (hl : xs.length ≤ LIM) (hn : 0 < xs.length)
    (h : ∀ H' u, Off q H H' → p.rep W u (ixG xs (-1)) → ∀ us, H' q = some (.lst us) → AllR p W us xs.dropLast → xs.dropLast.length ≤ LIM → Q u H') : rPop (.ref q) [] H Q := by
  obtain ⟨j, hj, hx⟩ := inB_at (xs := xs) (i := -1) ⟨by omega, by omega⟩
  have hj2 : j = xs.length - 1 := by
    unfold ixN at hj
    rw [if_neg (by omega), if_pos (by omega)] at hj
    have := Option.some.inj hj
    omega
  obtain ⟨u, hu, ru⟩ := r.get hx
  refine ⟨q, vs, u, rfl, rfl, e, by rw [r.len, ← hj2]; exact hu, h _ u off_upd ru _ upd_same ?_ (by rw [List.length_dropLast]; omega)⟩
  rw [List.dropLast_eq_take, List.dropLast_eq_take, r.len]
  exact r.take _
theorem revO (e : H q = some (.lst vs)) (r : AllR p W vs xs) (hl : xs.length ≤ LIM)
    (h : ∀ H', Off q H H' → ∀ us, H' q = some (.lst us) → AllR p W us xs.reverse → xs.reverse.length ≤ LIM → Q .non H') : rReverse (.ref q) [] H Q :=
  ⟨q, vs, rfl, rfl, e, h _ off_upd _ upd_same r.rev (by rw [List.length_reverse]; exact hl)⟩
end
/-! ### by data: == -/
section
variable (K : PySem.W.Frag)
structure PDat {τ : Type} [DecidableEq τ] (p : PTy τ) where
  dat : τ → PyData
  n : Nat
  ok : τ → Prop
  dp : ∀ {H : Hp} {v : V} {d : τ}, p.rep H v d → Dp K H v (dat d)
  sh : ∀ {d : τ}, ok d → Sh n (dat d)
  inj : ∀ a b : τ, PyData.eqv (dat a) (dat b) = decide (a = b)
def datInt : PDat K pInt := ⟨.int, 0, fun _ => True, fun h => by cases h; exact .int _, fun _ => sh_int, fun a b => by
  show (a == b) = decide (a = b)
  rw [Bool.eq_iff_iff]
  simp⟩
def datBl : PDat K pBl := ⟨.bool, 0, fun _ => True, fun h => by cases h; exact .bl _, fun _ => sh_bool, fun a b => by cases a <;> cases b <;> decide +kernel⟩
def datStr : PDat K pStr := ⟨.str, 0, fun x => (PyData.str x).canLay0 = true, fun h => by cases h; exact .str _, fun h => sh_str h, fun a b => by
  show (a == b) = decide (a = b)
  rw [Bool.eq_iff_iff]
  simp⟩
def datNon : PDat K pNon := ⟨fun _ => .none, 0, fun _ => True, fun h => by cases h; exact .non, fun _ => sh_none, fun a b => by cases a; cases b; decide +kernel⟩
variable {K}
theorem dpAll_of {α : Type} [DecidableEq α] {p : PTy α} (D : PDat K p) {H : Hp} {vs : List V} {ds : List α} (h : AllR p H vs ds) : DpAll K H vs (ds.map D.dat) := by
  induction h with
  | nil => exact .nil
  | cons h _ ih => exact .cons (D.dp h) ih
theorem eqvAll_of {α : Type} [DecidableEq α] {p : PTy α} (D : PDat K p) : ∀ a b : List α, PyData.eqvAll (a.map D.dat) (b.map D.dat) = decide (a = b)
  | [], [] => rfl
  | [], _ :: _ => by simp [PyData.eqvAll]
  | _ :: _, [] => by simp [PyData.eqvAll]
  | x :: a, y :: b => by
    rw [List.map_cons, List.map_cons, PyData.eqvAll, eqvAll_of D a b, D.inj, Bool.eq_iff_iff]
    simp
variable (K)
def datList {α : Type} [DecidableEq α] {p : PTy α} (D : PDat K p) : PDat K (pList p) := ⟨fun ds => .list (ds.map D.dat), D.n + 1, fun ds => ∀ d ∈ ds, D.ok d, fun ⟨a, vs, e, h, r, _⟩ => by rw [e]; exact .lst (SqL.of h) (dpAll_of D r), fun h => sh_lst (shA_all fun d hd => by
    obtain ⟨x, hx, rfl⟩ := List.mem_map.mp hd
    exact D.sh (h x hx)), fun a b => eqvAll_of D a b⟩
def datFro {α : Type} [DecidableEq α] {p : PTy α} (D : PDat K p) : PDat K (pFro K p) := ⟨fun ds => .list (ds.map D.dat), D.n + 1, fun ds => ∀ d ∈ ds, D.ok d, fun ⟨a, vs, e, h, r, _⟩ => by rw [e]; exact .lst h (dpAll_of D r), fun h => sh_lst (shA_all fun d hd => by
    obtain ⟨x, hx, rfl⟩ := List.mem_map.mp hd
    exact D.sh (h x hx)), fun a b => eqvAll_of D a b⟩
def datVt {α : Type} [DecidableEq α] {p : PTy α} (D : PDat K p) : PDat K (pVt K p) := ⟨fun ds => .tuple (ds.map D.dat), D.n + 1, fun ds => ∀ d ∈ ds, D.ok d, fun ⟨a, vs, e, h, r, _⟩ => by rw [e]; exact .tup h (dpAll_of D r), fun h => sh_tup (shA_all fun d hd => by
    obtain ⟨x, hx, rfl⟩ := List.mem_map.mp hd
    exact D.sh (h x hx)), fun a b => eqvAll_of D a b⟩
structure RDat {τ : Type} [DecidableEq τ] (r : PRow τ) where
  dat : τ → List PyData
  n : Nat
  ok : τ → Prop
  dp : ∀ {H : Hp} {vs : List V} {d : τ}, r.rep H vs d → DpAll K H vs (dat d)
  sh : ∀ {d : τ}, ok d → ShA n (dat d)
  inj : ∀ a b : τ, PyData.eqvAll (dat a) (dat b) = decide (a = b)
def rdNil : RDat K rNil := ⟨fun _ => [], 0, fun _ => True, fun h => by cases h; exact .nil, fun _ => shA_nil, fun a b => by cases a; cases b; rfl⟩
def rdOne {α : Type} [DecidableEq α] {p : PTy α} (D : PDat K p) : RDat K (rOne p) := ⟨fun d => [D.dat d], D.n, D.ok, fun ⟨v, e, h⟩ => by rw [e]; exact .cons (D.dp h) .nil, fun h => shA_cons (D.sh h) shA_nil, fun a b => by
  show (PyData.eqv (D.dat a) (D.dat b) && true) = _
  rw [D.inj, Bool.and_true]⟩
theorem Sh.le {n m : Nat} {d : PyData} (h : Sh n d) (l : n ≤ m) : Sh m d := ⟨h.1, Nat.le_trans h.2 l⟩
theorem ShA.le {n m : Nat} {d : List PyData} (h : ShA n d) (l : n ≤ m) : ShA m d := ⟨h.1, Nat.le_trans h.2 l⟩
def rdCons {α β : Type} [DecidableEq α] [DecidableEq β] {p : PTy α} {r : PRow β} (D : PDat K p) (R : RDat K r) : RDat K (rCons p r) := ⟨fun d => D.dat d.1 :: R.dat d.2, max D.n R.n, fun d => D.ok d.1 ∧ R.ok d.2, fun ⟨v, w, e, h, h2⟩ => by rw [e]; exact .cons (D.dp h) (R.dp h2),
  fun h => shA_cons ((D.sh h.1).le (Nat.le_max_left ..)) ((R.sh h.2).le (Nat.le_max_right ..)), fun a b => by
  obtain ⟨a1, a2⟩ := a
  obtain ⟨b1, b2⟩ := b
  show (PyData.eqv (D.dat a1) (D.dat b1) && PyData.eqvAll (R.dat a2) (R.dat b2)) = _
  rw [D.inj, R.inj, Bool.eq_iff_iff]
  simp⟩
def datTup {τ : Type} [DecidableEq τ] {r : PRow τ} (R : RDat K r) : PDat K (pTup K r) := ⟨fun d => .tuple (R.dat d), R.n + 1, R.ok, fun ⟨a, vs, e, h, q⟩ => by rw [e]; exact .tup (SqT.of h) (R.dp q), fun h => sh_tup (R.sh h), fun a b => R.inj a b⟩
variable {K}
theorem eqS {τ : Type} [DecidableEq τ] {p : PTy τ} (D : PDat K p) {H : Hp} {v u : V} {a b : τ} {Q : VK} (h1 : p.rep H v a) (h2 : p.rep H u b) (o1 : D.ok a) (o2 : D.ok b) (h : Q (.bl (decide (a = b))) H) (hn : D.n ≤ 64 := by exact Nat.le_of_ble_eq_true rfl) : rEqU K v u H Q :=
  eqD_i (D.dp h1) (D.dp h2) ((D.sh o1).shaped hn) ((D.sh o2).shaped hn) (by rw [D.inj]; exact h)
theorem neS {τ : Type} [DecidableEq τ] {p : PTy τ} (D : PDat K p) {H : Hp} {v u : V} {a b : τ} {Q : VK} (h1 : p.rep H v a) (h2 : p.rep H u b) (o1 : D.ok a) (o2 : D.ok b) (h : Q (.bl (!decide (a = b))) H) (hn : D.n ≤ 64 := by exact Nat.le_of_ble_eq_true rfl) : rNeU K v u H Q :=
  neD_i (D.dp h1) (D.dp h2) ((D.sh o1).shaped hn) ((D.sh o2).shaped hn) (by rw [D.inj]; exact h)
/-- a list or a tuple of other make: never equal -/
theorem eqX {τ ρ : Type} [DecidableEq τ] [DecidableEq ρ] {p : PTy τ} {q : PTy ρ} (D : PDat K p) (D2 : PDat K q) {H : Hp} {v u : V} {a : τ} {b : ρ} {Q : VK} (h1 : p.rep H v a) (h2 : q.rep H u b) (o1 : D.ok a) (o2 : D2.ok b) (h : Q (.bl (PyData.eqv (D.dat a) (D2.dat b))) H) (hn : D.n ≤ 64 := by exact Nat.le_of_ble_eq_true rfl) (hn2 : D2.n ≤ 64 := by exact Nat.le_of_ble_eq_true rfl) : rEqU K v u H Q :=
  eqD_i (D.dp h1) (D2.dp h2) ((D.sh o1).shaped hn) ((D2.sh o2).shaped hn2) h
theorem neX {τ ρ : Type} [DecidableEq τ] [DecidableEq ρ] {p : PTy τ} {q : PTy ρ} (D : PDat K p) (D2 : PDat K q) {H : Hp} {v u : V} {a : τ} {b : ρ} {Q : VK} (h1 : p.rep H v a) (h2 : q.rep H u b) (o1 : D.ok a) (o2 : D2.ok b) (h : Q (.bl (!PyData.eqv (D.dat a) (D2.dat b))) H) (hn : D.n ≤ 64 := by exact Nat.le_of_ble_eq_true rfl) (hn2 : D2.n ≤ 64 := by exact Nat.le_of_ble_eq_true rfl) : rNeU K v u H Q :=
  neD_i (D.dp h1) (D2.dp h2) ((D.sh o1).shaped hn) ((D2.sh o2).shaped hn2) h
end
/-! ### values at an operator -/
section
variable {K : PySem.W.Frag} {H : Hp} {Q : VK}
theorem rNeg_i {i : Int} (h : Q (.int (-i)) H) : rU (fun i => .int (-i)) (.int i) H Q := ⟨i, rfl, h⟩
theorem eq_non {x : V} (hx : scal x .non = true) (h : Q (.bl (decide (x = .non))) H) : rEqU K x .non H Q := .inl ⟨hx, h⟩
theorem optV_non {o : Option Int} : decide (optV o = V.non) = decide (o = none) := by cases o <;> rfl
end
end EL

namespace EL
open PySem PySem.Spec PyProof.Rows L2 Px
section
variable {σ σ' : L2.St} {H H' W W' : Hp} {i n : Nat} {v u : V} {R : L2.St → Hp → Prop} {τ S α β : Type} {p : PTy τ} {e : τ} {k : τ → Prop} {f : τ → V} {K : PySem.W.Frag} {Q : VK}
theorem nxS_i {RS : S → L2.St → Hp → Prop} {nx : S → Prop} {s : S} (h : RS s σ H) (hn : nx s) : nxS RS nx σ H := ⟨s, h, hn⟩
theorem asgIL {g : τ → L2.St} (hw : wLet e k) (hs : ∀ x, σ.set i (some (f x)) = g x) (h : ∀ x, k x → R (g x) H) : gName i (f e) σ H R := by
  have q := h e hw
  rw [← hs] at q
  exact q
theorem asgRL (hw : wLet e k) (hr : p.rep W v e) (hs : σ.set i (some v) = σ') (h : ∀ x, p.rep W v x → k x → R σ' H) : gName i v σ H R := by
  have q := h e hr hw
  rw [← hs] at q
  exact q
theorem letO {p : PTy α} {us : List V} {e : List α} {k : List α → Prop} (hw : wLet e k) (hr : AllR p W us e) (hl : e.length ≤ LIM) : ∃ x, AllR p W us x ∧ x.length ≤ LIM ∧ k x := ⟨e, hr, hl, hw⟩
theorem letR (hw : wLet e k) (hr : p.rep W v e) : ∃ x, p.rep W v x ∧ k x := ⟨e, hr, hw⟩
theorem letI' (hw : wLet e k) : ∃ x, x = e ∧ k x := ⟨e, rfl, hw⟩
/-! the steps, the ends as they stand -/
section
variable {N : L2.St → Hp → Prop} {Rt : VK} {Bk Ct : L2.St → Hp → Prop} {t u : TS} {te : TE} {c : TT} {g : TG} {wi : TI} {tb : TS}
theorem tSeq_j (h : t ⟨u ⟨N, Rt, Bk, Ct⟩, Rt, Bk, Ct⟩ σ H) : tSeq t u ⟨N, Rt, Bk, Ct⟩ σ H := h
theorem tNext_j (h : N σ H) : tNext ⟨N, Rt, Bk, Ct⟩ σ H := h
theorem tBreak_j (h : Bk σ H) : tBreak ⟨N, Rt, Bk, Ct⟩ σ H := h
theorem tCont_j (h : Ct σ H) : tCont ⟨N, Rt, Bk, Ct⟩ σ H := h
theorem tAsg_j (h : te σ H (fun x H1 => g x σ H1 N)) : tAsg te g ⟨N, Rt, Bk, Ct⟩ σ H := h
theorem tDrop_j (h : te σ H fun _ H1 => N σ H1) : tDrop te ⟨N, Rt, Bk, Ct⟩ σ H := h
theorem tRet_j (h : te σ H Rt) : tRet te ⟨N, Rt, Bk, Ct⟩ σ H := h
theorem tRetN_j (h : Rt .non H) : tRetN ⟨N, Rt, Bk, Ct⟩ σ H := h
theorem tIfS_j (h : c σ H fun b H1 => Br b (t ⟨N, Rt, Bk, Ct⟩ σ H1) (u ⟨N, Rt, Bk, Ct⟩ σ H1)) : tIfS c t u ⟨N, Rt, Bk, Ct⟩ σ H := h
theorem tFor_j (h : wi σ H (ForB g tb ⟨N, Rt, Bk, Ct⟩ σ)) : tFor wi g tb ⟨N, Rt, Bk, Ct⟩ σ H := h
end
/-! tuples -/
def RGet {τ α : Type} (r : PRow τ) (j : Nat) (p : PTy α) (g : τ → α) : Prop := ∀ (H : Hp) (vs : List V) (d : τ), r.rep H vs d → ∃ u, vs[j]? = some u ∧ p.rep H u (g d)
theorem rgOne {p : PTy α} : RGet (rOne p) 0 p (fun d => d) := fun H vs d ⟨v, e, h⟩ => ⟨v, by rw [e]; rfl, h⟩
theorem rgZ {p : PTy α} {r : PRow β} : RGet (rCons p r) 0 p (fun d => d.1) := fun H vs d ⟨v, ws, e, h, _⟩ => ⟨v, by rw [e]; rfl, h⟩
theorem rgS {γ : Type} {p : PTy α} {q : PTy γ} {r : PRow β} {j : Nat} {g : β → α} (h : RGet r j p g) : RGet (rCons q r) (j + 1) p (fun d => g d.2) := fun H vs d ⟨v, ws, e, _, t⟩ => by
  obtain ⟨u, hu, ru⟩ := h H ws d.2 t
  exact ⟨u, by rw [e]; exact hu, ru⟩
theorem ixT {r : PRow β} {d : β} {i : Int} {j : Nat} {p : PTy α} {g : β → α} (h : (pTup K r).rep W v d) (s : Same W H) (hg : RGet r j p g) (hi : i = (j : Int)) (k : ∀ u, p.rep W u (g d) → Q u H) : rIxU K v (.int i) H Q := by
  obtain ⟨a, vs, rfl, hs, hr⟩ := h
  obtain ⟨u, hu, ru⟩ := hg W vs d hr
  exact rIxU_t (s.seqT (SqT.of hs)) (at_of hi hu) (k u ru)
theorem ixTI {r : PRow β} {d : β} {i : Int} {j : Nat} {f : α → V} {g : β → α} (h : (pTup K r).rep W v d) (s : Same W H) (hg : RGet r j (pI f) g) (hi : i = (j : Int)) (k : Q (f (g d)) H) : rIxU K v (.int i) H Q :=
  ixT h s hg hi fun u hu => by rw [show u = f (g d) from hu]; exact k
theorem row0 : rNil.rep H [] () := rfl
theorem rowO {p : PTy α} {a : α} (h : p.rep H v a) : (rOne p).rep H [v] a := ⟨v, rfl, h⟩
theorem rowC {p : PTy α} {r : PRow β} {a : α} {b : β} {ws : List V} (h : p.rep H v a) (t : r.rep H ws b) : (rCons p r).rep H (v :: ws) (a, b) := ⟨v, ws, rfl, h, t⟩
theorem rowCx {p : PTy α} {r : PRow β} {d : α × β} {vs : List V} (h : (rCons p r).rep H vs d) : ∃ v ws, vs = v :: ws ∧ p.rep H v d.1 ∧ r.rep H ws d.2 := h
theorem rowCi {f : α → V} {r : PRow β} {d : α × β} {vs : List V} (h : (rCons (pI f) r).rep H vs d) : ∃ ws, vs = f d.1 :: ws ∧ r.rep H ws d.2 := by
  obtain ⟨v, ws, e, h, t⟩ := h
  exact ⟨ws, by rw [e, show v = f d.1 from h], t⟩
theorem rowOx {p : PTy α} {d : α} {vs : List V} (h : (rOne p).rep H vs d) : ∃ v, vs = [v] ∧ p.rep H v d := h
theorem rowOi {f : α → V} {d : α} {vs : List V} (h : (rOne (pI f)).rep H vs d) : vs = [f d] := by
  obtain ⟨v, e, h⟩ := h
  rw [e, show v = f d from h]
theorem tupR {r : PRow β} {d : β} {q : Addr} {vs : List V} (e : H q = some (.tup vs)) (h : r.rep H vs d) : (pTup K r).rep H (.ref q) d := ⟨q, vs, rfl, e, h⟩
theorem gTupS {r : PRow β} {d : β} {t : TGs} (h : (pTup K r).rep W v d) (s : Same W H) (k : ∀ vs, r.rep W vs d → vs.length = n ∧ t vs σ H R) : gTup K n t v σ H R := by
  obtain ⟨a, vs, rfl, hs, hr⟩ := h
  obtain ⟨h1, h2⟩ := k vs hr
  exact gTup_i (s.seqT (SqT.of hs)) h1 h2
/-- a tuple of alikes -/
theorem vtR {p : PTy α} {xs : List α} {q : Addr} {vs : List V} (e : H q = some (.tup vs)) (h : AllR p H vs xs) (l : xs.length ≤ LIM) : (pVt K p).rep H (.ref q) xs := ⟨q, vs, rfl, SqT.of e, h, l⟩
def RAll {β α : Type} (r : PRow β) (p : PTy α) (g : β → List α) : Prop := ∀ (H : Hp) (vs : List V) (d : β), r.rep H vs d → AllR p H vs (g d)
theorem raNil {p : PTy α} : RAll rNil p (fun _ => []) := fun H vs d h => by cases h; exact .nil
theorem raOne {p : PTy α} : RAll (rOne p) p (fun d => [d]) := fun H vs d ⟨v, e, h⟩ => by rw [e]; exact .one h
theorem raCons {p : PTy α} {r : PRow β} {g : β → List α} (t : RAll r p g) : RAll (rCons p r) p (fun d => d.1 :: g d.2) := fun H vs d ⟨v, ws, e, h, q⟩ => by rw [e]; exact .cons h (t H ws d.2 q)
theorem tupVt {r : PRow β} {p : PTy α} {g : β → List α} {d : β} (h : (pTup K r).rep H v d) (a : RAll r p g) (l : (g d).length ≤ LIM) : (pVt K p).rep H v (g d) := by
  obtain ⟨q, vs, e, hs, hr⟩ := h
  exact ⟨q, vs, e, SqT.of hs, a H vs d hr, l⟩
/-! lists as they stand -/
def Lw {α : Type} (p : PTy α) (H W : Hp) (v : V) (xs : List α) : Prop := ∃ a vs, v = .ref a ∧ H a = some (.lst vs) ∧ AllR p W vs xs ∧ xs.length ≤ LIM
theorem lwL {p : PTy α} {xs : List α} (s : Same W H) (h : (pList p).rep W v xs) : Lw p H W v xs := let ⟨a, vs, e, h, r, l⟩ := h; ⟨a, vs, e, s _ _ h, r, l⟩
theorem lwO {p : PTy α} {xs : List α} {a : Addr} {vs : List V} (e : H a = some (.lst vs)) (r : AllR p W vs xs) (l : xs.length ≤ LIM) : Lw p H W (.ref a) xs := ⟨a, vs, rfl, e, r, l⟩
theorem catS {p : PTy α} {xs ys : List α} (h1 : Lw p H W v xs) (h2 : Lw p H W u ys) (hl : xs.length + ys.length ≤ LIM) (k : ∀ q H', H q = none → Same H H' → ∀ us, H' q = some (.lst us) → AllR p W us (xs ++ ys) → (xs ++ ys).length ≤ LIM → Q (.ref q) H') : rAddU K v u H Q := by
  obtain ⟨a, vs, rfl, e1, r1, l1⟩ := h1
  obtain ⟨b, us, rfl, e2, r2, l2⟩ := h2
  exact rAddU_l e1 e2 (by rw [r1.len, r2.len]; exact hl) fun q H' n s e => k q H' n s _ e (r1.app r2) (by rw [List.length_append]; exact hl)
theorem repS {p : PTy α} {xs : List α} {m : Int} (h1 : Lw p H W v xs) (hc : -(2 ^ 63) ≤ m ∧ m < 2 ^ 63 ∧ xs.length * m.toNat ≤ LIM) (k : ∀ q H', H q = none → Same H H' → ∀ us, H' q = some (.lst us) → AllR p W us (repG xs m) → (repG xs m).length ≤ LIM → Q (.ref q) H') : rMulU v (.int m) H Q := by
  obtain ⟨a, vs, rfl, e1, r1, l1⟩ := h1
  refine .inr ⟨a, m, vs, rfl, rfl, e1, hc.1, hc.2.1, by rw [r1.len]; exact hc.2.2, fun q n => k q _ n (Same.new n) _ upd_same ?_ ?_⟩
  · exact AllR.flat (xs := []) r1
  · have : (repG xs m).length = xs.length * m.toNat := by
      unfold repG
      rw [List.length_flatten, List.map_replicate, List.sum_replicate_nat, Nat.mul_comm]
    rw [this]
    exact hc.2.2
def RevV (K : PySem.W.Frag) (x : V) (H1 : Hp) (Q : VK) : Prop := ∃ a xs, x = .ref a ∧ SqL K H1 a xs ∧ ∀ p, H1 p = none → Q (.ref p) (upd H1 p (.lst xs.reverse))
theorem tRevL_i {te : TE} (h : te σ H fun x H1 => RevV K x H1 Q) : tRevL K te σ H Q := h
theorem revS {p : PTy α} {xs : List α} (hq : Sl K p H W v xs) (k : ∀ q H', H q = none → Same H H' → ∀ us, H' q = some (.lst us) → AllR p W us xs.reverse → xs.reverse.length ≤ LIM → Q (.ref q) H') : RevV K v H Q := by
  obtain ⟨a, vs, rfl, hs, hr, hl⟩ := hq
  exact ⟨a, vs, rfl, hs, fun q n => k q _ n (Same.new n) _ upd_same hr.rev (by rw [List.length_reverse]; exact hl)⟩
theorem cntS {ns : List Int} {m : Int} (hq : Sl K pInt H W v ns) (h : Q (.int (ns.count m : Nat)) H) : rCntI K v [.int m] H Q := by
  obtain ⟨a, vs, rfl, hs, hr, _⟩ := hq
  rw [hr.imm] at hs
  exact ⟨a, ns, m, rfl, rfl, hs, h⟩
theorem tyS {p : PTy α} {xs : List α} {A : Prop} (hq : Sl K p H W v xs) (h : A) : tyV K "list" v H ∧ A := by
  obtain ⟨a, vs, rfl, hs, hr, _⟩ := hq
  exact tyL hs h
theorem isiL {p : PTy α} {xs : List α} (hq : Sl K p H W v xs) (h : Q (.bl true) H) : rIsiU K [v, .ty "list"] H Q := by
  obtain ⟨a, vs, rfl, hs, hr, _⟩ := hq
  exact isi_lstS hs h
theorem isN_o {o : Option Int} (h : Q (.bl (decide (o = none))) H) : rIsN (optV o) .non H Q := rIsN_i (by rw [optV_non]; exact h)
theorem notN_o {o : Option Int} (h : Q (.bl (!decide (o = none))) H) : rNotN (optV o) .non H Q := rNotN_i (by rw [optV_non]; exact h)
/-! sources -/
theorem WL_v {R : It → Hp → Prop} {a : Addr} (hv : v = .ref a) {xs : List V} (hS : SqL K H a xs) (h : R (Itl K a) H) : WL K R v H := by rw [hv]; exact WL_i xs hS h
theorem WT_v {R : It → Hp → Prop} {a : Addr} (hv : v = .ref a) {xs : List V} (hS : SqT K H a xs) (h : R (Itt K a) H) : WT K R v H := by rw [hv]; exact WT_i xs hS h
theorem WE_v {R : It → Hp → Prop} {a : Addr} (hv : v = .ref a) {xs : List V} (hS : SqL K H a xs) (h : R (Ite K a) H) : WE K R [v] H := by rw [hv]; exact WE_i xs hS h
theorem WZ_v {R : It → Hp → Prop} {a b : Addr} (hv : v = .ref a) (hu : u = .ref b) {xs ys : List V} (hS : SqL K H a xs) (hT : SqL K H b ys) (h : R (Itz K a b) H) : WZ K R [v, u] H := by rw [hv, hu]; exact WZ_i xs ys hS hT h
theorem rgW1 {j : Int} {R : It → Hp → Prop} (h1 : rgOk 0 j) (h : R (Itr 0 j.toNat) H) : W1 R [.int j] H := W1_i ⟨h1.2.2.1, h1.2.2.2⟩ h
theorem rgW2 {i j : Int} {R : It → Hp → Prop} (h1 : rgOk i j) (h : R (Itr i (j - i).toNat) H) : W2 R [.int i, .int j] H := W2_i h1 h
section
variable {g : TG} {tb : TS} {N : L2.St → Hp → Prop} {Rt : VK} {Bk Ct : L2.St → Hp → Prop} {te te2 : TE} {tt : TT} {vs : List Nat} {p : PTy α} {pb : PTy β} {xs : List α}
theorem forSeq {f : α → S → (S → Prop) → (S → Prop) → Prop} {k : S → Prop} {s0 : S} (h : (pSeq K p).rep W v xs) (hte : ∀ R : V → Hp → Prop, R v H → te σ H R) (hw : wFor xs s0 f k) (RS : S → L2.St → Hp → Prop) (h0 : RS s0 σ H) (hok : ∀ s σ H', RS s σ H' → Same W H')
    (hs : ∀ d s σ H x (nx : S → Prop), RS s σ H → p.rep W x d → f d s nx k → g x σ H fun σ2 H2 => tb ⟨nxS RS nx, Rt, N, nxS RS nx⟩ σ2 H2)
    (hd : ∀ s σ H, RS s σ H → k s → N σ H) : tFor (iU K te) g tb ⟨N, Rt, Bk, Ct⟩ σ H := by
  obtain ⟨a, vs, rfl, hq, hr, _⟩ := h
  exact forQ hte (hq.same (hok _ _ _ h0)) hw hr RS h0 hok hq hs hd
theorem lcSeq {f : α → (Option β → Prop) → Prop} {k : List β → Prop} {ps : List Addr} (h : (pSeq K p).rep W v xs) (s : Same W H) (hte : ∀ R : V → Hp → Prop, R v H → te σ H R) (hw : wComp xs f k) (hps : ∀ q ∈ ps, H q ≠ none)
    (hs : ∀ L d x H1, H L = none → Same H H1 → (∃ acc, H1 L = some (.lst acc)) → p.rep W x d → LcT pb H ps g tt te2 vs σ (f d) L x H1 H1) (hd : LcD pb H ps Q k) : tLc (iU K te) g tt te2 vs σ H Q := by
  obtain ⟨a, us, rfl, hq, hr, hl⟩ := h
  exact lcQ hte hw (hq.same s) hr hl hps hs hd
end
end
/-! two names at once -/
def SetP (i j : Nat) (v w : V) (σ : L2.St) (H : Hp) (R : L2.St → Hp → Prop) : Prop := R ((σ.set i (some v)).set j (some w)) H
theorem tParL {N : L2.St → Hp → Prop} {Rt : VK} {Bk Ct : L2.St → Hp → Prop} {j : Nat} {ts : TA} (h : ts σ H fun vs H1 => Par2 vs fun v w => SetP i j v w σ H1 N) : tPar i j ts ⟨N, Rt, Bk, Ct⟩ σ H := h
theorem setP {j : Nat} {w : V} (hs : (σ.set i (some v)).set j (some w) = σ') (h : R σ' H) : SetP i j v w σ H R := by
  unfold SetP
  rw [hs]
  exact h
theorem setPI {j : Nat} {a : α} {b : β} {fa : α → V} {fb : β → V} {k : α → β → Prop} {g : α → β → L2.St} (hw : wLet a fun x => wLet b fun y => k x y) (hs : ∀ x y, (σ.set i (some (fa x))).set j (some (fb y)) = g x y) (h : ∀ x y, k x y → R (g x y) H) : SetP i j (fa a) (fb b) σ H R := setP (hs a b) (h a b hw)
/-! draws -/
theorem drawK {K : PySem.W.Frag} {H W : Hp} {v u : V} {x y : Unit} (s : Same W H) (h : (pDraw K).rep W v x) (h2 : pCell.rep W u y) : ∃ c a, v = .ref c ∧ u = .ref a ∧ Draw K H c a := by
  obtain ⟨c, rfl, xs, hq, hl⟩ := h
  obtain ⟨a, rfl, ha⟩ := h2
  exact ⟨c, a, rfl, rfl, ⟨xs, s.seq hq, hl⟩, s _ _ ha⟩
end EL

namespace EL
open PySem PySem.Spec PyProof.Rows L2 Px
/-- M, c are the members of zs and their number -/
def SetIs (zs : List Int) (M : Int → Bool) (c : Nat) : Prop := (∀ i, M i = decide (i ∈ zs)) ∧ c = zs.eraseDups.length
theorem setIs_nil : SetIs [] noneS 0 := ⟨fun i => rfl, rfl⟩
theorem dedup_app (zs : List Int) (z : Int) : (zs ++ [z]).eraseDups = if z ∈ zs then zs.eraseDups else zs.eraseDups ++ [z] := by
  rw [List.eraseDups_append]
  by_cases h : z ∈ zs
  · rw [if_pos h]
    have e : [z].removeAll zs = [] := by simp [List.removeAll, h]
    rw [e]
    simp
  · rw [if_neg h]
    have e : [z].removeAll zs = [z] := by simp [List.removeAll, h]
    rw [e]
    simp [List.eraseDups_cons]
theorem setIs_put {zs : List Int} {M : Int → Bool} {c : Nat} (h : SetIs zs M c) (z : Int) : SetIs (zs ++ [z]) (putS M z) (if M z = true then c else c + 1) := by
  obtain ⟨h1, h2⟩ := h
  refine ⟨fun i => ?_, ?_⟩
  · unfold putS
    rw [h1, Bool.eq_iff_iff]
    simp
  · rw [dedup_app, h1 z]
    by_cases c : z ∈ zs
    · simp [c, h2]
    · simp [c, h2]
theorem dedup_len_aux : ∀ (n : Nat) (zs : List Int), zs.length ≤ n → zs.eraseDups.length ≤ zs.length
  | _, [], _ => by simp
  | 0, _ :: _, h => by simp at h
  | n + 1, a :: l, h => by
    rw [List.eraseDups_cons, List.length_cons, List.length_cons]
    have h1 : (l.filter fun b => !b == a).length ≤ l.length := List.length_filter_le ..
    have h2 : l.length ≤ n := by rw [List.length_cons] at h; omega
    have := dedup_len_aux n (l.filter fun b => !b == a) (by omega)
    omega
theorem dedup_len (zs : List Int) : zs.eraseDups.length ≤ zs.length := dedup_len_aux _ zs (Nat.le_refl _)
def pSet (w : World) : PTy (List Int) := ⟨fun H v zs => ∃ a M c, v = .ref a ∧ H a = some (SetO w a M c) ∧ SetIs zs M c, fun s ⟨a, M, c, e, h, r⟩ => ⟨a, M, c, e, s _ _ h, r⟩⟩
theorem lenSet {w : World} {W H : Hp} {v : V} {zs : List Int} {Q : VK} (s : Same W H) (h : (pSet w).rep W v zs) (hq : Q (.int (zs.eraseDups.length : Int)) H) : rLenI w [v] H Q := by
  obtain ⟨a, M, c, rfl, e, r1, rfl⟩ := h
  exact rLenI_i (s _ _ e) hq
theorem inSet {K : PySem.W.Frag} {w : World} {W H : Hp} {v : V} {i : Int} {zs : List Int} {Q : VK} (s : Same W H) (h : (pSet w).rep W v zs) (hq : Q (.bl (decide (i ∈ zs))) H) : rInU K w false (.int i) v H Q := by
  obtain ⟨a, M, c, rfl, e, r1, rfl⟩ := h
  exact inI_s (s _ _ e) (by rw [r1]; exact hq)
def ScD (w : World) (H : Hp) (Q : VK) (k : List Int → Prop) : Prop := ∀ L H1 M c zs, H L = none → Same H H1 → H1 L = some (SetO w L M c) → SetIs zs M c → k zs → Q (.ref L) H1
section
variable {w : World} {σ : L2.St} {H : Hp} {g : TG} {tt : TT} {te : TE} {vs : List Nat} {Q : VK} {J : It} {n : Nat} {ok : Hp → Prop} {itm : Nat → V → Hp → Hp → Prop} {α : Type} {ps : List Addr}
theorem scW (Sr : Src J n ok itm) {xs : List α} (hn : n = xs.length) (hlim : n + 1 < scanBound) {f : α → (Option Int → Prop) → Prop} {k : List Int → Prop} (hw : wComp xs f k) (hps : ∀ q ∈ ps, H q ≠ none)
    (I : α → V → Hp → Hp → Prop) (hI : ∀ i x H H' d, xs[i]? = some d → itm i x H H' → I d x H H') (hok : ∀ H', Same H H' → ok H')
    (hs : ∀ L d x H1 H2 (nx : Option Int → Prop), H L = none → Same H H1 → (∃ o, H1 L = some o) → I d x H1 H2 → f d nx →
      ∀ (Y : V → Hp → Prop) (N : Hp → Prop), (∀ r v H3, Same H1 H3 → pInt.rep (dels H3 (L :: ps)) v r → nx (some r) → Y v H3) → (∀ H3, Same H1 H3 → nx none → N H3) →
      g x (wipe σ vs) H2 fun σ2 H2 => wipe σ2 vs = wipe σ vs ∧ tt σ2 H2 fun b H3 => Br b (te σ2 H3 Y) (N H3))
    (hd : ScD w H Q k) : ScB w g tt te vs σ Q J H := by
  intro L hL
  refine ⟨fun i m H1 => m = n - i ∧ i ≤ n ∧ ∃ zs : List Int, zs.length ≤ i ∧ Same H H1 ∧ (∃ M c, H1 L = some (SetO w L M c) ∧ SetIs zs M c) ∧ wComp (xs.drop i) f (fun ys => k (zs ++ ys)), ⟨n, by simp, Nat.zero_le _, [], Nat.le_refl _, Same.new hL, ⟨noneS, 0, upd_same, setIs_nil⟩, by rw [List.drop_zero]; exact hw⟩, ?_⟩
  rintro i m H1 ⟨rfl, hi, zs, hz, s1, ⟨M, c, e1, r1⟩, hw⟩
  have q := hok H1 s1
  by_cases hlt : i < n
  · have hx : i < xs.length := by omega
    rw [List.drop_eq_getElem_cons hx] at hw
    refine .inr ⟨Sr.go i H1 q hlt, fun H3 => ∃ zs : List Int, zs.length ≤ i + 1 ∧ Same H H3 ∧ (∃ M c, H3 L = some (SetO w L M c) ∧ SetIs zs M c) ∧ wComp (xs.drop (i + 1)) f (fun ys => k (zs ++ ys)), fun H3 h3 => ⟨n - (i + 1), by omega, rfl, hlt, h3⟩, fun x H2 y => ?_⟩
    refine hs L _ x H1 H2 _ hL s1 ⟨_, e1⟩ (hI i x H1 H2 _ (List.getElem?_eq_getElem hx) (Sr.yld i H1 x H2 q hlt y)) hw _ _ (fun r v H3 s3 hr h => ?_) (fun H3 s3 h => ?_)
    · have e3 := s3 _ _ e1
      have hv : v = .int r := hr
      subst hv
      have hc : c ≤ zs.length := by rw [r1.2]; exact dedup_len zs
      refine ⟨L, r, M, c, rfl, rfl, e3, by omega, zs ++ [r], by rw [List.length_append, List.length_singleton]; omega, Same.upd (s1.trans s3) hL, ⟨_, _, upd_same, setIs_put r1 r⟩, ?_⟩
      simpa [List.append_assoc] using h
    · have e3 := s3 _ _ e1
      refine ⟨zs, by omega, s1.trans s3, ⟨M, c, e3, r1⟩, ?_⟩
      simpa using h
  · have e : xs.length ≤ i := by omega
    rw [List.drop_eq_nil_of_le e] at hw
    refine .inl ⟨Sr.stop i H1 q (by omega), hd L H1 M c zs hL s1 e1 r1 ?_⟩
    have hw' : k (zs ++ []) := hw
    rwa [List.append_nil] at hw'
end
section
variable {w : World} {σ : L2.St} {H W : Hp} {g : TG} {tt : TT} {te : TE} {vs : List Nat} {Q : VK} {α γ : Type} {p : PTy α} {pc : PTy γ} {ps : List Addr} {K : PySem.W.Frag} {xs : List α} {a b : Addr} {us ws : List V}
  {f : α → (Option Int → Prop) → Prop} {k : List Int → Prop}
theorem scL (hw : wComp xs f k) (hq : SqL K H a us) (hr : AllR p W us xs) (hl : xs.length + 1 < scanBound) (hps : ∀ q ∈ ps, H q ≠ none)
    (hs : ∀ L d x H1, H L = none → Same H H1 → (∃ o, H1 L = some o) → p.rep W x d → LcT pInt H ps g tt te vs σ (f d) L x H1 H1) (hd : ScD w H Q k) : ScB w g tt te vs σ Q (Itl K a) H :=
  scW (w := w) (srcL (K := K) (a := a) (xs := us)) hr.len (by rw [hr.len]; exact hl) hw hps (ItS p W) (itmS hr) (fun H' s => s.seq hq) (fun L d x H1 H2 nx n s e ⟨e2, i⟩ h => by rw [e2]; exact hs L d x H1 n s e i nx h) hd
theorem scT (hw : wComp xs f k) (hq : SqT K H a us) (hr : AllR p W us xs) (hl : xs.length + 1 < scanBound) (hps : ∀ q ∈ ps, H q ≠ none)
    (hs : ∀ L d x H1, H L = none → Same H H1 → (∃ o, H1 L = some o) → p.rep W x d → LcT pInt H ps g tt te vs σ (f d) L x H1 H1) (hd : ScD w H Q k) : ScB w g tt te vs σ Q (Itt K a) H :=
  scW (w := w) (srcT (K := K) (a := a) (xs := us)) hr.len (by rw [hr.len]; exact hl) hw hps (ItS p W) (itmS hr) (fun H' s => s.seqT hq) (fun L d x H1 H2 nx n s e ⟨e2, i⟩ h => by rw [e2]; exact hs L d x H1 n s e i nx h) hd
theorem scQ (hte : ∀ R : V → Hp → Prop, R (.ref a) H → te σ H R) {te2 : TE} (hw : wComp xs f k) (hq : SqA K H a us) (hr : AllR p W us xs) (hl : xs.length + 1 < scanBound) (hps : ∀ q ∈ ps, H q ≠ none)
    (hs : ∀ L d x H1, H L = none → Same H H1 → (∃ o, H1 L = some o) → p.rep W x d → LcT pInt H ps g tt te2 vs σ (f d) L x H1 H1) (hd : ScD w H Q k) : tScI w (iU K te) g tt te2 vs σ H Q := by
  refine tScI_i ?_
  rcases hq with z | z
  · exact .inl (hte _ (WL_i us z (scL hw z hr hl hps hs hd)))
  · exact .inr (hte _ (WT_i us z (scT hw z hr hl hps hs hd)))
theorem scR {lo hi : Int} {f : Int → (Option Int → Prop) → Prop} (hw : wComp (rangeL lo hi) f k) (hl : (hi - lo).toNat + 1 < scanBound) (hps : ∀ q ∈ ps, H q ≠ none)
    (hs : ∀ L d H1, H L = none → Same H H1 → (∃ o, H1 L = some o) → LcT pInt H ps g tt te vs σ (f d) L (.int d) H1 H1) (hd : ScD w H Q k) : ScB w g tt te vs σ Q (Itr lo (hi - lo).toNat) H := by
  refine scW (w := w) srcR (rangeL_len (lo := lo) (hi := hi)).symm hl hw hps (fun d x H H' => H' = H ∧ x = .int d) (fun i x H H' d e h => ?_) (fun _ _ => trivial) (fun L d x H1 H2 nx n s e ⟨e2, i⟩ h => by rw [e2, i]; exact hs L d H1 n s e nx h) hd
  obtain ⟨rfl, rfl⟩ := h
  refine ⟨rfl, ?_⟩
  obtain ⟨hi, _⟩ := List.getElem?_eq_some_iff.mp e
  rw [rangeL_len] at hi
  rw [rangeL_get hi] at e
  cases e
  rfl
theorem scR0 {hi : Int} {f : Int → (Option Int → Prop) → Prop} (hw : wComp (rangeL 0 hi) f k) (hl : hi.toNat + 1 < scanBound) (hps : ∀ q ∈ ps, H q ≠ none)
    (hs : ∀ L d H1, H L = none → Same H H1 → (∃ o, H1 L = some o) → LcT pInt H ps g tt te vs σ (f d) L (.int d) H1 H1) (hd : ScD w H Q k) : ScB w g tt te vs σ Q (Itr 0 hi.toNat) H := by
  have := scR (lo := 0) (hi := hi) hw (by rw [Int.sub_zero]; exact hl) hps hs hd
  rw [Int.sub_zero] at this
  exact this
theorem scE {f : Int × α → (Option Int → Prop) → Prop} (hw : wComp (enumL xs) f k) (hq : SqL K H a us) (hr : AllR p W us xs) (hl : xs.length + 1 < scanBound) (hps : ∀ q ∈ ps, H q ≠ none)
    (hs : ∀ L d x H1 H2, H L = none → Same H H1 → (∃ o, H1 L = some o) → ItP pInt p W d x H1 H2 → LcT pInt H ps g tt te vs σ (f d) L x H1 H2) (hd : ScD w H Q k) : ScB w g tt te vs σ Q (Ite K a) H := by
  refine scW (w := w) (srcE (K := K) (a := a) (xs := us)) (by rw [enumL_len, hr.len]) (by rw [hr.len]; exact hl) hw hps (ItP pInt p W) (fun i x H H' d e h => ?_) (fun H' s => s.seq hq) (fun L d x H1 H2 nx n s e i h => hs L d x H1 H2 n s e i nx h) hd
  obtain ⟨q, y, rfl, n, s, e2, hy⟩ := h
  obtain ⟨d', hd', rd⟩ := hr.getV hy
  rw [enumL_get hd'] at e
  cases e
  exact ⟨q, _, y, rfl, n, s, e2, rfl, rd⟩
theorem scET {f : Int × α → (Option Int → Prop) → Prop} (hw : wComp (enumL xs) f k) (hq : SqT K H a us) (hr : AllR p W us xs) (hl : xs.length + 1 < scanBound) (hps : ∀ q ∈ ps, H q ≠ none)
    (hs : ∀ L d x H1 H2, H L = none → Same H H1 → (∃ o, H1 L = some o) → ItP pInt p W d x H1 H2 → LcT pInt H ps g tt te vs σ (f d) L x H1 H2) (hd : ScD w H Q k) : ScB w g tt te vs σ Q (IteT K a) H := by
  refine scW (w := w) (srcET (K := K) (a := a) (xs := us)) (by rw [enumL_len, hr.len]) (by rw [hr.len]; exact hl) hw hps (ItP pInt p W) (fun i x H H' d e h => ?_) (fun H' s => s.seqT hq) (fun L d x H1 H2 nx n s e i h => hs L d x H1 H2 n s e i nx h) hd
  obtain ⟨q, y, rfl, n, s, e2, hy⟩ := h
  obtain ⟨d', hd', rd⟩ := hr.getV hy
  rw [enumL_get hd'] at e
  cases e
  exact ⟨q, _, y, rfl, n, s, e2, rfl, rd⟩
theorem scZ {ys : List γ} {f : α × γ → (Option Int → Prop) → Prop} (hw : wComp (xs.zip ys) f k) (hq : SqL K H a us) (hq2 : SqL K H b ws) (hr : AllR p W us xs) (hr2 : AllR pc W ws ys) (hl : xs.length + 1 < scanBound) (hps : ∀ q ∈ ps, H q ≠ none)
    (hs : ∀ L d x H1 H2, H L = none → Same H H1 → (∃ o, H1 L = some o) → ItP p pc W d x H1 H2 → LcT pInt H ps g tt te vs σ (f d) L x H1 H2) (hd : ScD w H Q k) : ScB w g tt te vs σ Q (Itz K a b) H := by
  refine scW (w := w) (srcZ (K := K) (a := a) (b := b) (xs := us) (ys := ws)) (by rw [List.length_zip, hr.len, hr2.len]) (by rw [hr.len]; omega) hw hps (ItP p pc W) (fun i x H H' d e h => ?_) (fun H' s => ⟨s.seq hq, s.seq hq2⟩) (fun L d x H1 H2 nx n s e i h => hs L d x H1 H2 n s e i nx h) hd
  obtain ⟨q, y, z, rfl, n, s, e2, hy, hz⟩ := h
  obtain ⟨d1, hd1, rd1⟩ := hr.getV hy
  obtain ⟨d2, hd2, rd2⟩ := hr2.getV hz
  rw [Px.zip_get hd1 hd2] at e
  cases e
  exact ⟨q, y, z, rfl, n, s, e2, rd1, rd2⟩

end
theorem WE_lv {K : PySem.W.Frag} {v : V} {H : Hp} {R : It → Hp → Prop} {a : Addr} (hv : v = .ref a) {xs : List V} (hS : SqL K H a xs) (h : R (Ite K a) H) : WE K R [v] H := by rw [hv]; exact WE_i xs hS h
theorem WEt_v {K : PySem.W.Frag} {v : V} {H : Hp} {R : It → Hp → Prop} {a : Addr} (hv : v = .ref a) {xs : List V} (hS : SqT K H a xs) (h : R (IteT K a) H) : WET K R [v] H := by rw [hv]; exact WET_i xs hS h
theorem AllR.immW {α : Type} {f : α → V} {H H' : Hp} {vs : List V} {ds : List α} (h : AllR (pI f) H vs ds) : AllR (pI f) H' vs ds := by
  rw [h.imm]
  exact AllR.ofImm ds
end EL

namespace EL
open PySem PySem.Spec PyProof.Rows L2 Px
/-! ### errors by kinds -/
section
variable {K : PySem.W.Frag} {H : Hp} {Q : VK} {σ : L2.St} {a D : Addr} {d : Option Addr}
theorem wasL {c cls : Value} {i : Nat} {ts : Addr → Value → Option Addr → TS} {Wout : WX} {N : L2.St → Hp → Prop} {Rt : VK} {Bk Ct : L2.St → Hp → Prop} {g : Addr → L2.St} (em : PySem.W.exmOne K cls c = some true) (hs : ∀ a, σ.set i (some (.ref a)) = g a)
    (h : ∀ a, H a = none → ts a cls d ⟨fun σ' H' => N (σ'.set i none) H', Rt, fun σ' H' => Bk (σ'.set i none) H', fun σ' H' => Ct (σ'.set i none) H'⟩ (g a) H) : L2.WE (wAs K c i ts Wout ⟨N, Rt, Bk, Ct⟩) σ cls d H :=
  was_i em fun a n => by rw [hs a]; exact h a n
theorem nxL {i : Nat} {N : L2.St → Hp → Prop} {σ' : L2.St} (hs : σ.set i none = σ') (h : N σ' H) : N (σ.set i none) H := by rw [hs]; exact h
theorem xfP {er : PErr} {f : Str} {n : Nat} {z : Int} (hz : er = ⟨n, [(f, .int z)]⟩) (X : XCls K D) (hx : XDict H d er.fs) (hn : PySem.W.findIn K (.ref D) f = some none) (h : Q (.int z) H) : XFv K a (.ref D) d f (.ref a) H Q := by
  subst hz
  rcases hx with ⟨_, z⟩ | ⟨dd, rfl, e⟩
  · cases z
  · exact xf1 X e hn h
theorem kAnyN {t : Value} : PySem.W.kitAny K t [] = some false := rfl
theorem kAnyC {t c : Value} {r : List Value} {b b2 : Bool} (h : PySem.W.kitOne K t c = some b) (h2 : PySem.W.kitAny K t r = some b2) : PySem.W.kitAny K t (c :: r) = some (b || b2) := by
  unfold PySem.W.kitAny
  rw [h]
  cases b
  · exact h2
  · rfl
theorem isX_n {q : Addr} {cs : List V} {us : List Value} {b : Bool} (X : XCls K D) (fs : List (Str × V)) (hd : XDict H d fs) (e : H q = some (.tup cs)) (k : Paired ClsV cs us) (ka : PySem.W.kitAny K (.ref D) us = some b) (h : Q (.bl b) H) : rIsX K a (.ref D) d [.ref a, .ref q] H Q :=
  ⟨D, fs, .ref q, b, rfl, rfl, X, hd, .inr ⟨q, cs, us, rfl, e, k, ka⟩, h⟩
end
/-! a whole number or a truth -/
inductive IB where
  | inl (i : Int)
  | inr (b : Bool)
  deriving DecidableEq, Inhabited
def ibV (x : IB) : V := match x with | .inl i => .int i | .inr b => .bl b
def ibI (x : IB) : Int := match x with | .inl i => i | .inr _ => 0
def isInl (x : IB) : Bool := match x with | .inl _ => true | .inr _ => false
abbrev pIB : PTy (IB) := pI ibV
section
variable {K : PySem.W.Frag} {H : Hp} {Q : VK} {x : IB} {j : Int}
theorem isi_ib_int (h : Q (.bl true) H) : rIsiU K [ibV x, .ty "int"] H Q := by
  cases x
  · exact isi_int_int h
  · exact isi_bool_int h
theorem isi_ib_bool (h : Q (.bl (!isInl x)) H) : rIsiU K [ibV x, .ty "bool"] H Q := by
  cases x
  · exact isi_int_bool h
  · exact isi_bool_bool h
theorem eqIB (hx : isInl x = true) (h : Q (.bl (decide (ibI x = j))) H) : rEqU K (ibV x) (.int j) H Q := by
  cases x
  · exact rEqU_i h
  · cases hx
theorem neIB (hx : isInl x = true) (h : Q (.bl (!decide (ibI x = j))) H) : rNeU K (ibV x) (.int j) H Q := by
  cases x
  · exact rNeU_i h
  · cases hx
end
/-! one kind seen as a wider one -/
section
variable {K : PySem.W.Frag} {α β γ δ : Type} {p : PTy α} {p' : PTy β} {g : α → β} {r : PRow γ} {r' : PRow δ} {f : γ → δ}
def Cv (p : PTy α) (p' : PTy β) (g : α → β) : Prop := ∀ (H : Hp) (v : V) (d : α), p.rep H v d → p'.rep H v (g d)
def RCv (r : PRow γ) (r' : PRow δ) (g : γ → δ) : Prop := ∀ (H : Hp) (v : List V) (d : γ), r.rep H v d → r'.rep H v (g d)
theorem cvId : Cv p p (fun d => d) := fun _ _ _ h => h
theorem cvII : Cv pInt pIB IB.inl := fun _ _ _ h => h
theorem cvBI : Cv pBl pIB IB.inr := fun _ _ _ h => h
theorem cvSome : Cv pInt pOptI some := fun _ _ _ h => h
theorem cvNone : Cv pNon pOptI (fun _ => none) := fun _ _ _ h => h
theorem AllR.cv {H : Hp} {vs : List V} {ds : List α} (c : Cv p p' g) (h : AllR p H vs ds) : AllR p' H vs (ds.map g) := by
  induction h with
  | nil => exact .nil
  | cons h _ ih => exact .cons (c _ _ _ h) ih
theorem cvList (c : Cv p p' g) : Cv (pList p) (pList p') (List.map g) := fun _ _ _ ⟨a, vs, e, h, q, l⟩ => ⟨a, vs, e, h, q.cv c, by rw [List.length_map]; exact l⟩
theorem cvFro (c : Cv p p' g) : Cv (pFro K p) (pFro K p') (List.map g) := fun _ _ _ ⟨a, vs, e, h, q, l⟩ => ⟨a, vs, e, h, q.cv c, by rw [List.length_map]; exact l⟩
theorem cvVt (c : Cv p p' g) : Cv (pVt K p) (pVt K p') (List.map g) := fun _ _ _ ⟨a, vs, e, h, q, l⟩ => ⟨a, vs, e, h, q.cv c, by rw [List.length_map]; exact l⟩
theorem rcvNil : RCv rNil rNil (fun d => d) := fun _ _ _ h => h
theorem rcvOne (c : Cv p p' g) : RCv (rOne p) (rOne p') g := fun _ _ _ ⟨v, e, h⟩ => ⟨v, e, c _ _ _ h⟩
theorem rcvCons (c : Cv p p' g) (t : RCv r r' f) : RCv (rCons p r) (rCons p' r') (fun d => (g d.1, f d.2)) := fun _ _ _ ⟨v, ws, e, h, q⟩ => ⟨v, ws, e, c _ _ _ h, t _ _ _ q⟩
theorem cvTup (t : RCv r r' f) : Cv (pTup K r) (pTup K r') f := fun _ _ _ ⟨a, vs, e, h, q⟩ => ⟨a, vs, e, h, t _ _ _ q⟩
end
end EL

namespace EL
open PySem PySem.Spec PyProof.Rows L2
/-! ### methods and new instances whose errors go out at the slots as they stand -/
section
variable {X : Cx} {CX : CXT} {k : Nat} {f C : Addr} {fd : FuncData} {ps ks : List Str} {sp : Sp} {W : L2.St → XK} {x m : Str} {p pos apos : Pos} {e o : Expr} {es : List Expr} {kws : List Keyword} {to : TE} {ta tk : TA}
def tMth (C : Addr) (m : Str) (sp : Sp) (W : L2.St → XK) (to : TE) (ta : TA) : TE := fun σ H Q =>
  to σ H fun y H1 => ∃ a dx fs, y = .ref a ∧ H1 a = some (.ins C dx fs) ∧ fs.lookup m = none ∧ ta σ H1 fun ys H2 => sp (y :: ys) H2 Q (W σ)
theorem pe_mth {pl : Sem Bool} (ho : PE X o to) (c : Cls X.K C) (hm : Meth X.K C m f) (F : FnOk X.prog X.w X.K X.mg X.base CX k f fd ps sp) (room : Room k X.A) (hb : Binds X.K fd ps []) (out : ∀ σ, PassesAt CX X σ (W σ)) (args : PA X (e :: es) ta)
    (h1 : starEach (e :: es) X.env = (false, eval e X.env) :: starEach es X.env := by rfl) (h2 : (backTo pos (starEach es X.env)).any (·.1) = false := by rfl)
    (h3 : eval (.Call (.Attribute o m apos) (e :: es) [] pos) X.env = (do
      let ov ← eval o X.env; standAt apos.atName; let (g, first) ← holding [ov] (getMethod ov m pl)
      callWith pos g first (backTo pos (starEach (e :: es) X.env)) (backToKw pos (keywordEach [] X.env))) := by rfl) : PE X (.Call (.Attribute o m apos) (e :: es) [] pos) (tMth C m sp W to ta) := by
  refine ⟨fun pins s σ H Q I0 q0 => ?_⟩
  refine PySem.W.methodCall_KW (pl := pl) (thn (ho.run pins s σ H _ I0 q0) fun ov s1 ⟨y, H1, I1, ry, a, dx, fs, ey, ea, no, q1⟩ => ?_) h3
  subst ey
  obtain rfl : ov = Value.ref a := ry
  refine getmeth_ok I1 ea c hm no (PySem.W.callWith_K (first := [.ref a]) (h₀ := X.base) I0.ok.mod.kin hm.kp (thn (args.run pos pins s1 σ H1 _ I1 q1) fun us s2 ⟨ys, H2, I2, rs, q2⟩ => ⟨I2.kIn, ?_⟩) h1 h2)
  exact run_fnS (us := .ref a :: us) (vs := .ref a :: ys) F room hb (out σ) I2 (.cons rfl rs) q2
theorem pe_mth0 {pl : Sem Bool} (ho : PE X o to) (c : Cls X.K C) (hm : Meth X.K C m f) (F : FnOk X.prog X.w X.K X.mg X.base CX k f fd ps sp) (room : Room k X.A) (hb : Binds X.K fd ps []) (out : ∀ σ, PassesAt CX X σ (W σ))
    (h3 : eval (.Call (.Attribute o m apos) [] [] pos) X.env = (do
      let ov ← eval o X.env; standAt apos.atName; let (g, first) ← holding [ov] (getMethod ov m pl)
      callWith pos g first (backTo pos (starEach [] X.env)) (backToKw pos (keywordEach [] X.env))) := by rfl) : PE X (.Call (.Attribute o m apos) [] [] pos) (tMth C m sp W to tNil) := by
  refine ⟨fun pins s σ H Q I0 q0 => ?_⟩
  refine PySem.W.methodCall_KW (pl := pl) (thn (ho.run pins s σ H _ I0 q0) fun ov s1 ⟨y, H1, I1, ry, a, dx, fs, ey, ea, no, q1⟩ => ?_) h3
  subst ey
  obtain rfl : ov = Value.ref a := ry
  exact getmeth_ok I1 ea c hm no (PySem.W.callWith_K0 (first := [.ref a]) I1.kIn hm.kp (run_fnS (us := [.ref a]) (vs := [.ref a]) F room hb (out σ) I1 (.cons rfl .nil) q1))
def tMak (C : Addr) (sp : Sp) (W : L2.St → XK) (ta : TA) : TE := fun σ H Q => ta σ H fun ys H1 => ∀ n dn, H1 n = none → H1 dn = none → dn ≠ n →
  sp (.ref n :: ys) (upd (upd H1 dn (.own n)) n (.ins C dn [])) (fun v H2 => v = .non ∧ Q (.ref n) H2) (W σ)
theorem run_mak {E : XK} {pins : List (Addr × Obj)} {σ : L2.St} {H : Hp} {s : Shared} {Q : VK} {us : List Value} {ys : List V} (M : L2.Mk X.K C f) (F : FnOk X.prog X.w X.K X.mg X.base CX k f fd ps sp) (room : Room (k + 1) X.A) (hb : Binds X.K fd ps []) (out : PassesAt CX X σ E) (I0 : Inv X pins σ H s) (rs : Vals ys us)
    (q0 : ∀ n dn, H n = none → H dn = none → dn ≠ n → sp (.ref n :: ys) (upd (upd H dn (.own n)) n (.ins C dn [])) (fun v H2 => v = .non ∧ Q (.ref n) H2) E) : wpAny (model X.prog X.w) X.A (call (.ref C) us) (EP X pins σ Q) X.xe s := by
  have want := q0 (s.heap.objs.size + 1) s.heap.objs.size (I0.hok.fresh (Nat.le_succ _)) (I0.hok.fresh (Nat.le_refl _)) (Nat.ne_of_lt (Nat.lt_succ_self _))
  have J := Inv.made (C := C) I0
  have rr : Vals (V.ref (s.heap.objs.size + 1) :: ys) (Value.ref (s.heap.objs.size + 1) :: us) := .cons rfl rs
  have len : (Value.ref (s.heap.objs.size + 1) :: us).length = ps.length := by rw [← rr.length]; exact F.len _ _ _ _ want
  have b := hb _ (Value.ref (s.heap.objs.size + 1) :: us) J.kIn (by rw [List.append_nil]; exact len)
  rw [List.append_nil] at b
  refine wpAny_call (make_map (f := f) I0.kIn M.makes M.init (beq_iff_eq.mp M.fn) (codeAny_mono (F.run _ X.stack _ _ ⟨Value.ref (s.heap.objs.size + 1) :: us, []⟩ _ _ _ E (room.make C us []) (J.env0.make C us []) b rr want) fun r t z => ?_))
  cases r with
  | error er => exact out pins _ _ er t J z
  | ok fl =>
    cases fl with
    | ret u => obtain ⟨v, H3, J3, rv, ev, q3⟩ := J.after z; subst ev; exact ⟨rv, ⟨V.ref (s.heap.objs.size + 1), H3, J3, rfl, q3⟩⟩
    | next => exact z.elim
    | brk => exact z.elim
    | cont => exact z.elim
theorem pe_mak (M : L2.Mk X.K C f) (F : FnOk X.prog X.w X.K X.mg X.base CX k f fd ps sp) (room : Room (k + 1) X.A) (hg : Gl X x) (hm : X.mg x = some (.ref C)) (hb : Binds X.K fd ps []) (out : ∀ σ, PassesAt CX X σ (W σ)) (args : PA X (e :: es) ta)
    (hd : (x == ("__debug__" : Str)) = false := by decide) (h1 : starEach (e :: es) X.env = (false, eval e X.env) :: starEach es X.env := by rfl) (h2 : (backTo pos (starEach es X.env)).any (·.1) = false := by rfl) : PE X (.Call (.Name x p) (e :: es) [] pos) (tMak C sp W ta) := by
  refine ⟨fun pins s σ H Q I0 q0 => wpAny_Call_Name_kw (ld_glob I0 hg hm (PySem.W.callWith_K (h₀ := X.base) I0.ok.mod.kin M.kp (thn (args.run pos pins s σ H _ I0 q0) fun us s1 ⟨ys, H1, I1, rs, q1⟩ => ⟨I1.kIn, ?_⟩) h1 h2) hd)⟩
  exact run_mak M F room hb (out σ) I1 rs q1
theorem pass0S {X : Cx} : ∀ σ : L2.St, PassesAt (L2.CX X.prog X.w) X σ ((fun _ => fun _ _ _ => False) σ) := fun σ pins H s er t I z => passLF (X := X) pins σ H s er t I z
end
/-! ### sum, max, min of a tuple -/
section
variable {prog : Program} {w : World} {A : Around} {E : Value → Shared → Prop} {s : Shared} {l : Addr} {xs : Array (Int × Tok)} {its : List Value} {ns : List Int}
theorem iter_ints {Q : Value → Shared → Prop} (hl : s.heap.IsTuple l (intItems xs))
    (h : ∀ t : Shared, t = { s with heap := s.heap.push { cls := .type "tuple_iterator", data := .fields #[.ref l, .int 0 0] } } → (t.heap.IsTupleIter s.heap.objs.size l 0 ∧ t.heap.IsTuple l (intItems xs)) → (∀ b ∈ [s.heap.objs.size, l], b < t.heap.objs.size) → l ≠ s.heap.objs.size → (∀ b o, s.heap.get? b = some o → b ∉ [s.heap.objs.size] ∧ t.heap.get? b = some o) → Q (.ref s.heap.objs.size) t) : wpAny (model prog w) A (pyIter (.ref l)) Q E s := by
  have below : l < s.heap.objs.size := by obtain ⟨_, e, _⟩ := hl; exact Heap.lt_size e
  refine wpAny_pyIter_tuple hl (h _ rfl ⟨⟨_, Heap.get?_push_size _ rfl, rfl, rfl⟩, hl.push _⟩ (fun b hb => ?_) (Nat.ne_of_lt below) fun b o e => ⟨fun z => ?_, Heap.get?_push_of_some _ e⟩)
  · show b < (s.heap.push _).objs.size
    rw [Heap.size_push]
    rcases List.mem_cons.mp hb with z | z
    · rw [z]; exact Nat.lt_succ_self _
    · rw [List.mem_singleton.mp z]; exact Nat.lt_succ_of_lt below
  · exact Nat.ne_of_lt (Heap.lt_size e) (List.mem_singleton.mp z)
theorem sum_tup {Q : Value → Shared → Prop} (hh : A.handled = none) (hl : s.heap.IsTuple l its.toArray) (hi : IntsAre its ns) (h : ∀ h' tk t', (∀ b o, s.heap.get? b = some o → h'.get? b = some o) → Q (.int ns.sum t') { s with heap := h', toks := tk }) : wpAny (model prog w) A (call (.builtin "sum") [.ref l]) Q E s := by
  obtain ⟨xs, e⟩ := hi.allInts.items
  have hn : numsOf (intItems xs).toList = ns := by rw [← e]; exact hi.numsOf
  rw [nums_intItems] at hn
  rw [e] at hl
  refine call_sum_walkG (iter_ints hl fun t et st below ne old => ?_)
  subst et
  refine ⟨_, _, _, _, _, _, numAt xs, rfl, Walks.tuple (A := A.in1) hh _ l ne (intItems xs), st, below, (fun _ _ => intItems_at), fun h' tk t' hk => ?_⟩
  have z := h h' tk t' fun b o eb => hk b o (old b o eb).1 (old b o eb).2
  have es : preSum (numAt xs) (intItems xs).size = ns.sum := by rw [← hn, show (intItems xs).size = xs.size by simp [intItems], preSum_eq, List.take_of_length_le (by simp)]
  rw [es]
  exact z
end
section
variable {X : Cx}
def rSumT (K : PySem.W.Frag) : List V → Hp → VK → Prop := fun vs H Q => ∃ (a : Addr) (ns : List Int), vs = [V.ref a] ∧ SqT K H a (ns.map V.int) ∧ Q (.int ns.sum) H
theorem cr_sumT (hc : X.calm = true) : CallR X (.builtin "sum") (rSumT X.K) := by
  rintro pins s σ H vs us Q I r ⟨a, ns, rfl, hs, q⟩
  obtain ⟨its, rv, hl, _⟩ := I.tuple hs
  rw [Vals.ref1 r]
  exact sum_tup (I.ok.hd hc) hl rv.ints fun h' tk t' hk => ⟨.int _, H, I.kept hk, ⟨_, rfl⟩, q⟩
def rSumU (K : PySem.W.Frag) : List V → Hp → VK → Prop := fun vs H Q => rSum K vs H Q ∨ rSumT K vs H Q
theorem cr_sumUK (K : PySem.W.Frag) (hc : X.calm = true) (h : X.K = K := by rfl) : CallR X (.builtin "sum") (rSumU K) := h ▸ CallR.or (cr_sum hc) (cr_sumT hc)
end
end EL
namespace EL
open PySem PySem.Spec PyProof.Rows L2
theorem ps_fldK {X : Cx} {o value : Expr} {f : Str} {pos pos' : Pos} {ta tv : TE} (K : PySem.W.Frag) (ha : PE X o ta) (hv : PE X value tv) (hs : swapsWith value (some (.Attribute o f pos')) pos.line X.env = pure false) (h : X.K = K := by rfl) : PS X (.Assign [.Attribute o f pos'] value pos) (sFld K ta tv f) := h ▸ ps_fld ha hv hs
end EL

namespace EL
open PySem PySem.Spec PyProof.Rows L2 Px
/-! ### instances of own classes -/
structure OwnC (K : PySem.W.Frag) (C : Addr) : Prop where
  cl : Cls K C
  ha : PySem.W.findIn K (.ref C) "__class__" = some (some (.builtin "object.__class__"))
  hn : PySem.W.specialIn K (.builtin "object.__class__") "__get__" = some (some (.builtin "getset_descriptor.__get__"))
  ht : PySem.W.takesIn K (.builtin "object.__class__") = some true
  hm : PySem.W.mroIn K C (.type "object") = some true
  self : PySem.W.kitOne K (.ref C) (.ref C) = some true
/-- its fields by name -/
def pIns (C : Addr) (names : List Str) {τ : Type} (r : PRow τ) : PTy τ :=
  ⟨fun H v d => ∃ (a dx : Addr) (fs : List (Str × V)), v = .ref a ∧ H a = some (.ins C dx fs) ∧ fs.map (fun z => z.1) = names ∧ r.rep H (fs.map (fun z => z.2)) d, fun {H H' v d} s h => by
    obtain ⟨a, dx, fs, e, h, n, q⟩ := h
    exact ⟨a, dx, fs, e, s _ _ h, n, r.mono s q⟩⟩
theorem lookup_at {f : Str} : ∀ {fs : List (Str × V)} {names : List Str} {j : Nat}, fs.map (·.1) = names → names.findIdx? (· == f) = some j → fs.lookup f = (fs.map (·.2))[j]?
  | [], _, j, h, hj => by
    subst h
    simp at hj
  | (g, x) :: r, _, j, h, hj => by
    subst h
    rw [List.map_cons, List.findIdx?_cons] at hj
    by_cases c : (g == f) = true
    · rw [if_pos c] at hj
      cases hj
      have c2 : (f == g) = true := by
        have := beq_iff_eq.mp c
        subst this
        exact beq_self_eq_true g
      rw [List.lookup_cons, c2]
      rfl
    · rw [if_neg c] at hj
      have c2 : (f == g) = false := by
        rw [Bool.eq_false_iff]
        intro z
        have := beq_iff_eq.mp z
        subst this
        exact c (beq_self_eq_true f)
      obtain ⟨i, hi, rfl⟩ := Option.map_eq_some_iff.mp hj
      rw [List.lookup_cons, c2, lookup_at rfl hi]
      rfl
theorem lookup_no {f : Str} : ∀ {fs : List (Str × V)} {names : List Str}, fs.map (·.1) = names → names.any (· == f) = false → fs.lookup f = none
  | [], _, _, _ => rfl
  | (g, x) :: r, _, h, hj => by
    subst h
    rw [List.map_cons, List.any_cons, Bool.or_eq_false_iff] at hj
    have c2 : (f == g) = false := by
      rw [Bool.eq_false_iff]
      intro z
      have := beq_iff_eq.mp z
      subst this
      rw [beq_self_eq_true] at hj
      cases hj.1
    rw [List.lookup_cons, c2]
    exact lookup_no rfl hj.2
def FldV (K : PySem.W.Frag) (f : Str) (x : V) (H1 : Hp) (Q : VK) : Prop := ∃ a C dx fs v, x = .ref a ∧ H1 a = some (.ins C dx fs) ∧ Cls K C ∧ NoAttr K C f ∧ fs.lookup f = some v ∧ Q v H1
def MthV (C : Addr) (m : Str) (y : V) (H1 : Hp) (A : Prop) : Prop := ∃ a dx fs, y = .ref a ∧ H1 a = some (.ins C dx fs) ∧ fs.lookup m = none ∧ A
def MakV (C : Addr) (sp : Sp) (E : XK) (ys : List V) (H1 : Hp) (Q : VK) : Prop := ∀ n dn, H1 n = none → H1 dn = none → dn ≠ n →
  sp (.ref n :: ys) (upd (upd H1 dn (.own n)) n (.ins C dn [])) (fun v H2 => v = .non ∧ Q (.ref n) H2) E
def SetF (K : PySem.W.Frag) (f : Str) (x y : V) (H2 : Hp) (R : Hp → Prop) : Prop := ∃ a C dx fs, x = .ref a ∧ H2 a = some (.ins C dx fs) ∧ Cls K C ∧ NoAttr K C f ∧ fs.length < 1000 ∧ R (upd H2 a (.ins C dx (putF f y fs)))
section
variable {K : PySem.W.Frag} {σ : L2.St} {H W : Hp} {Q : VK} {te tv : TE} {ts : TA} {C : Addr} {m f : Str} {sp : Sp} {We : L2.St → XK} {E : XK} {x y v : V} {names : List Str} {τ α : Type} {r : PRow τ} {d : τ} {p : PTy α} {g : τ → α} {j : Nat} {ys : List V}
theorem tFld_i (h : te σ H fun x H1 => FldV K f x H1 Q) : tFld K te f σ H Q := h
theorem tMth_i (h : te σ H fun y H1 => MthV C m y H1 (ts σ H1 fun ys H2 => sp (y :: ys) H2 Q (We σ))) : tMth C m sp We te ts σ H Q := by
  refine (congrFun (congrFun (congrFun (show tMth C m sp We te ts = fun σ H Q => te σ H fun y H1 => MthV C m y H1 (ts σ H1 fun ys H2 => sp (y :: ys) H2 Q (We σ)) from ?_) σ) H) Q).mpr h
  rfl
theorem tMak_i (h : ts σ H fun ys H1 => MakV C sp (We σ) ys H1 Q) : tMak C sp We ts σ H Q := h
theorem sFld_j {N : L2.St → Hp → Prop} {Rt : VK} {Bk Ct : L2.St → Hp → Prop} (h : tv σ H fun y H1 => te σ H1 fun x H2 => SetF K f x y H2 (N σ)) : sFld K te tv f ⟨N, Rt, Bk, Ct⟩ σ H := h
theorem fldS (h : (pIns C names r).rep W v d) (s : Same W H) (c : Cls K C) (n : NoAttr K C f) (hg : RGet r j p g) (hj : names.findIdx? (· == f) = some j) (k : ∀ u, p.rep W u (g d) → Q u H) : FldV K f v H Q := by
  obtain ⟨a, dx, fs, rfl, e, hn, hr⟩ := h
  obtain ⟨u, hu, ru⟩ := hg W _ d hr
  exact ⟨a, C, dx, fs, u, rfl, s _ _ e, c, n, (lookup_at hn hj).trans hu, k u ru⟩
theorem fldI {fv : α → V} (h : (pIns C names r).rep W v d) (s : Same W H) (c : Cls K C) (n : NoAttr K C f) (hg : RGet r j (pI fv) g) (hj : names.findIdx? (· == f) = some j) (k : Q (fv (g d)) H) : FldV K f v H Q :=
  fldS h s c n hg hj fun u hu => by rw [show u = fv (g d) from hu]; exact k
theorem mthS {A : Prop} (h : (pIns C names r).rep W v d) (s : Same W H) (hm : names.any (· == m) = false) (k : A) : MthV C m v H A := by
  obtain ⟨a, dx, fs, rfl, e, hn, _⟩ := h
  exact ⟨a, dx, fs, rfl, s _ _ e, lookup_no hn hm, k⟩
theorem makS (h : ∀ n dn H2, H n = none → Same H H2 → Same H (del H2 n) → H2 n = some (.ins C dn []) → sp (.ref n :: ys) H2 (fun v H3 => v = .non ∧ Q (.ref n) H3) E) : MakV C sp E ys H Q := fun n dn hn hd ne => by
  refine h n dn _ hn (Same.upd (Same.new hd) hn) (fun b u e => ?_) upd_same
  have hb : b ≠ n := ne_of_none e hn
  rw [del_ne hb, upd_ne hb, upd_ne (ne_of_none e hd)]
  exact e
theorem setF_i {a dx : Addr} {fs fs' : List (Str × V)} {R : Hp → Prop} (e : H a = some (.ins C dx fs)) (c : Cls K C) (n : NoAttr K C f) (hp : putF f y fs = fs') (hl : fs.length < 1000) (h : ∀ H', Off a H H' → H' a = some (.ins C dx fs') → R H') : SetF K f (.ref a) y H R :=
  ⟨a, C, dx, fs, rfl, e, c, n, hl, h _ off_upd (by rw [upd_same, hp])⟩
theorem isiC (h : (pIns C names r).rep W v d) (s : Same W H) (o : OwnC K C) (k : Q (.bl true) H) : rIsiU K [v, .ref C] H Q := by
  obtain ⟨a, dx, fs, rfl, e, _, _⟩ := h
  exact .inl ⟨_, _, _, _, true, rfl, .own C, .base (.ins (s _ _ e) o.cl o.ha o.hn o.ht o.hm), o.self, k⟩
/-- what a constructor gives -/
def RetF (ps : List Addr) (C : Addr) (dx n : Addr) (names : List Str) (r : PRow τ) (H : Hp) (Q : VK) (d : τ) : Prop := ∀ H' fs, Same (del H n) H' → H' n = some (.ins C dx fs) → fs.map (·.1) = names → r.rep (dels H' ps) (fs.map (·.2)) d → Q .non H'
end
/-! ### None or a thing -/
def optG {α : Type} [Inhabited α] (o : Option α) : α := o.getD default
section
variable {K : PySem.W.Frag} {H W : Hp} {Q : VK} {v : V} {α β : Type} {p : PTy α} {r : PRow β} {o : Option α} {d : α}
theorem optNone : (pOpt p).rep H .non none := rfl
theorem optSome (h : p.rep H v d) (n : v ≠ .non) : (pOpt p).rep H v (some d) := ⟨h, n⟩
theorem tupNe {d : β} (h : (pTup K r).rep H v d) : v ≠ .non := by obtain ⟨a, vs, rfl, _⟩ := h; exact fun z => nomatch z
theorem listNe {xs : List α} (h : (pList p).rep H v xs) : v ≠ .non := by obtain ⟨a, vs, rfl, _⟩ := h; exact fun z => nomatch z
theorem froNe {xs : List α} (h : (pFro K p).rep H v xs) : v ≠ .non := by obtain ⟨a, vs, rfl, _⟩ := h; exact fun z => nomatch z
theorem vtNe {xs : List α} (h : (pVt K p).rep H v xs) : v ≠ .non := by obtain ⟨a, vs, rfl, _⟩ := h; exact fun z => nomatch z
theorem insNe {C : Addr} {names : List Str} {d : β} (h : (pIns C names r).rep H v d) : v ≠ .non := by obtain ⟨a, dx, fs, rfl, _⟩ := h; exact fun z => nomatch z
theorem optGet [Inhabited α] (h : (pOpt p).rep W v o) (hc : o.isSome = true) : p.rep W v (optG o) := by
  cases o with
  | none => cases hc
  | some d => exact h.1
theorem optIs (h : (pOpt p).rep W v o) : decide (v = .non) = o.isNone := by
  cases o with
  | none => rw [show v = .non from h]; rfl
  | some d => exact decide_eq_false h.2
theorem isN_p (h : (pOpt p).rep W v o) (k : Q (.bl o.isNone) H) : rIsN v .non H Q := rIsN_i (by rw [optIs h]; exact k)
theorem notN_p (h : (pOpt p).rep W v o) (k : Q (.bl (!o.isNone)) H) : rNotN v .non H Q := rNotN_i (by rw [optIs h]; exact k)
theorem isiT {d : β} (s : Same W H) (h : (pTup K r).rep W v d) (k : Q (.bl true) H) : rIsiU K [v, .ty "tuple"] H Q := by
  obtain ⟨a, vs, rfl, hs, _⟩ := h
  exact isi_tupS (s.seqT (SqT.of hs)) k
theorem isiVt {xs : List α} (s : Same W H) (h : (pVt K p).rep W v xs) (k : Q (.bl true) H) : rIsiU K [v, .ty "tuple"] H Q := by
  obtain ⟨a, vs, rfl, hs, _⟩ := h
  exact isi_tupS (s.seqT hs) k
theorem isi_non_tup (h : Q (.bl false) H) : rIsiU K [.non, .ty "tuple"] H Q := isi_ty (.base .non) (by decide +kernel) h
theorem isi_str_str {x : Str} (h : Q (.bl true) H) : rIsiU K [.str x, .ty "str"] H Q := isi_ty (.base (.str x)) (by decide +kernel) h
theorem isiOT {o : Option β} (s : Same W H) (h : (pOpt (pTup K r)).rep W v o) (k : Q (.bl o.isSome) H) : rIsiU K [v, .ty "tuple"] H Q := by
  cases o with
  | none => rw [show v = .non from h]; exact isi_non_tup k
  | some d => exact isiT s h.1 k
end
/-! ### lists unpacked; greatest, least, sums -/
theorem gLst_i {K : PySem.W.Frag} {σ : L2.St} {H W : Hp} {R : L2.St → Hp → Prop} {n : Nat} {t : TGs} {α : Type} {p : PTy α} {v : V} {xs : List α} (hq : Sl K p H W v xs) (k : ∀ vs, AllR p W vs xs → vs.length = n ∧ t vs σ H R) : gLst K n t v σ H R := by
  obtain ⟨a, vs, rfl, hs, hr, _⟩ := hq
  obtain ⟨h1, h2⟩ := k vs hr
  exact ⟨a, vs, rfl, hs, h1, h2⟩
def maxL (xs : List Int) : Int := xs.max?.getD 0
def minL (xs : List Int) : Int := xs.min?.getD 0
section
variable {K : PySem.W.Frag} {H W : Hp} {Q : VK} {v : V} {ns : List Int}
theorem maxS (hq : Sl K pInt H W v ns) (hn : 0 < ns.length) (h : Q (.int (maxL ns)) H) : rMax K [v] H Q := by
  obtain ⟨a, vs, rfl, hs, hr, _⟩ := hq
  rw [hr.imm] at hs
  refine ⟨a, ns, rfl, hs, hn, fun m hm ha => ?_⟩
  have e : ns.max? = some m := List.max?_eq_some_iff.mpr ⟨hm, ha⟩
  unfold maxL at h
  rw [e] at h
  exact h
theorem minS (hq : Sl K pInt H W v ns) (hn : 0 < ns.length) (h : Q (.int (minL ns)) H) : rMin K [v] H Q := by
  obtain ⟨a, vs, rfl, hs, hr, _⟩ := hq
  rw [hr.imm] at hs
  refine ⟨a, ns, rfl, hs, hn, fun m hm ha => ?_⟩
  have e : ns.min? = some m := List.min?_eq_some_iff.mpr ⟨hm, ha⟩
  unfold minL at h
  rw [e] at h
  exact h
theorem sumU (ns : List Int) (hq : Sl K pInt H W v ns) (h : Q (.int ns.sum) H) : rSumU K [v] H Q := .inl (sumS ns hq h)
theorem sumUT (ns : List Int) (hq : St' K pInt H W v ns) (h : Q (.int ns.sum) H) : rSumU K [v] H Q := by
  obtain ⟨a, vs, rfl, hs, hr, _⟩ := hq
  rw [hr.imm] at hs
  exact .inr ⟨a, ns, rfl, hs, h⟩
theorem rgS' {n : Int} (hn : 0 ≤ n ∧ n ≤ 1000000) (h : ∀ q H', H q = none → Same H H' → ∀ us, H' q = some (.lst us) → AllR pInt W us (rangeL 0 n) → (rangeL 0 n).length ≤ LIM → Q (.ref q) H') : Rg1v (.int n) H Q := by
  refine rg1_i hn fun q H' nq s e => ?_
  have e2 : rgV 0 n = (rangeL 0 n).map V.int := by unfold rgV rangeL; rw [List.map_map]; rfl
  rw [e2] at e
  refine h q H' nq s _ e (AllR.ofImm _) ?_
  rw [rangeL_len]
  exact Nat.le_trans (by omega : _ ≤ 1000000) (Nat.le_of_ble_eq_true rfl)
end
/-! ### a op b op c -/
section
variable {K : PySem.W.Frag} {σ : L2.St} {H : Hp} {Q : VK}
/-- the third part pure -/
theorem chainP {r1 r2 : R2} {ta tb tc : TE} {x y : V} {b c : Bool} (h1 : ∀ R : VK, R x H → ta σ H R) (h2 : ∀ R : VK, R y H → tb σ H R) (h3 : ∀ R : VK, R (.bl b) H → r1 x y H R)
    (h4 : b = true → ∀ R : VK, R (.bl c) H → tc σ H fun w H4 => r2 y w H4 R) (h : Q (.bl (b && c)) H) : tChain r1 r2 ta tb tc σ H Q := by
  refine tChain_i (h1 _ (h2 _ (h3 _ (IsBl_i ?_))))
  cases b
  · exact Br_f h
  · exact Br_t (h4 rfl _ h)
end
end EL

namespace EL
open PySem PySem.Spec PyProof.Rows L2 Px
/-! ### one of two kinds -/
section
variable {K : PySem.W.Frag} {σ : L2.St} {H W : Hp} {Q : VK} {v : V} {α β γ δ : Type} {p : PTy α} {q : PTy β} {p' : PTy γ} {q' : PTy δ} {a : α} {b : β} {d : α ⊕ β}
def pSum (p : PTy α) (q : PTy β) : PTy (α ⊕ β) := ⟨fun H v d => Sum.elim (p.rep H v) (q.rep H v) d, fun {H H' v d} s h => by
  cases d with
  | inl a => exact p.mono s h
  | inr b => exact q.mono s h⟩
theorem sumL (h : p.rep H v a) : (pSum p q).rep H v (.inl a) := h
theorem sumR (h : q.rep H v b) : (pSum p q).rep H v (.inr b) := h
def sGL [Inhabited α] (d : α ⊕ β) : α := Sum.elim id (fun _ => default) d
def sGR [Inhabited β] (d : α ⊕ β) : β := Sum.elim (fun _ => default) id d
theorem sumGL [Inhabited α] (h : (pSum p q).rep W v d) (c : d.isLeft = true) : p.rep W v (sGL d) := by
  cases d with
  | inl a => exact h
  | inr b => cases c
theorem sumGR [Inhabited β] (h : (pSum p q).rep W v d) (c : d.isRight = true) : q.rep W v (sGR d) := by
  cases d with
  | inl a => cases c
  | inr b => exact h
theorem cvSL {g : γ → α} (c : Cv p' p g) : Cv p' (pSum p q) (fun d => Sum.inl (g d)) := fun _ _ _ h => c _ _ _ h
theorem cvSR {g : γ → β} (c : Cv p' q g) : Cv p' (pSum p q) (fun d => Sum.inr (g d)) := fun _ _ _ h => c _ _ _ h
theorem cvSE {g : α → γ} {f : β → γ} (c1 : Cv p p' g) (c2 : Cv q p' f) : Cv (pSum p q) p' (Sum.elim g f) := fun H v d h => by
  cases d with
  | inl a => exact c1 H v a h
  | inr b => exact c2 H v b h
theorem sok {P : α → Prop} {R : β → Prop} {d : α ⊕ β} (h1 : ∀ a, P a) (h2 : ∀ b, R b) : Sum.elim P R d := by
  cases d with
  | inl a => exact h1 a
  | inr b => exact h2 b
variable (K)
def datSum [DecidableEq α] [DecidableEq β] (D : PDat K p) (E : PDat K q) (h12 : ∀ a b, PyData.eqv (D.dat a) (E.dat b) = false) (h21 : ∀ a b, PyData.eqv (E.dat b) (D.dat a) = false) : PDat K (pSum p q) :=
  ⟨fun d => Sum.elim D.dat E.dat d, max D.n E.n, fun d => Sum.elim D.ok E.ok d, fun {H v d} h => by
    cases d with
    | inl a => exact D.dp h
    | inr b => exact E.dp h, fun {d} h => by
    cases d with
    | inl a => exact (D.sh h).le (Nat.le_max_left ..)
    | inr b => exact (E.sh h).le (Nat.le_max_right ..), fun x y => by
    cases x with
    | inl a =>
      cases y with
      | inl c => show PyData.eqv (D.dat a) (D.dat c) = _; rw [D.inj, Bool.eq_iff_iff]; simp
      | inr c => show PyData.eqv (D.dat a) (E.dat c) = _; rw [h12, Bool.eq_iff_iff]; simp
    | inr b =>
      cases y with
      | inl c => show PyData.eqv (E.dat b) (D.dat c) = _; rw [h21, Bool.eq_iff_iff]; simp
      | inr c => show PyData.eqv (E.dat b) (E.dat c) = _; rw [E.inj, Bool.eq_iff_iff]; simp⟩
end
/-! ### pairs put in order -/
abbrev ltQ (x y : Int × Int) : Bool := SrtO.lexB x y
def SortedQ (xs : List (Int × Int)) : Prop := xs.Pairwise fun x y => ltQ y x = false
section
variable {K : PySem.W.Frag} {H W : Hp} {Q : VK} {v : V} {ds : List (Int × Int)}
def keyQ (H : Hp) (v : V) : Int × Int := match v with
  | .ref t => match H t with
    | some (.tup [.int i, .int j]) => (i, j)
    | _ => (0, 0)
  | _ => (0, 0)
theorem keyQ_of {d : Int × Int} (s : Same W H) (h : (pTup K (rCons pInt (rOne pInt))).rep W v d) : (∃ t, v = .ref t ∧ H t = some (.tup [.int (keyQ H v).1, .int (keyQ H v).2])) ∧ keyQ H v = d := by
  obtain ⟨a, vs, rfl, e, u, ws, rfl, h1, w, rfl, h2⟩ := h
  have e := s _ _ e
  have h1 : u = .int d.1 := h1
  have h2 : w = .int d.2 := h2
  subst h1 h2
  have k : keyQ H (.ref a) = d := by
    unfold keyQ
    simp only [e]
  rw [k]
  exact ⟨⟨a, rfl, e⟩, rfl⟩
theorem allR_map {vs : List V} (s : Same W H) (h : AllR (pTup K (rCons pInt (rOne pInt))) W vs ds) : (∀ x ∈ vs, ∃ t, x = V.ref t ∧ H t = some (.tup [.int (keyQ H x).1, .int (keyQ H x).2])) ∧ vs.map (keyQ H) = ds := by
  induction h with
  | nil => exact ⟨(fun x hx => nomatch hx), rfl⟩
  | cons h _ ih =>
    have k := keyQ_of s h
    refine ⟨fun x hx => ?_, by rw [List.map_cons, k.2, ih.2]⟩
    rcases List.mem_cons.mp hx with z | z
    · rw [z]; exact k.1
    · exact ih.1 x z
theorem allR_perm {α : Type} {p : PTy α} {vs us : List V} {ds : List α} {f : V → α} (hf : ∀ x d, p.rep W x d → f x = d) (h : AllR p W vs ds) (e : us.Perm vs) : AllR p W us (us.map f) := by
  have all : ∀ x ∈ vs, p.rep W x (f x) := by
    clear e
    induction h with
    | nil => exact fun x hx => nomatch hx
    | cons h _ ih =>
      intro x hx
      rcases List.mem_cons.mp hx with z | z
      · rw [z, hf _ _ h]; exact h
      · exact ih x z
  have all2 : ∀ x ∈ us, p.rep W x (f x) := fun x hx => all x (e.mem_iff.mp hx)
  clear all e
  induction us with
  | nil => exact .nil
  | cons x us ih => exact .cons (all2 x (List.mem_cons_self ..)) (ih fun y hy => all2 y (List.mem_cons_of_mem _ hy))
theorem sortP (hq : Sl K (pTup K (rCons pInt (rOne pInt))) H W v ds) (hw : Same W H) (h : ∀ es : List (Int × Int), es.Perm ds → SortedQ es → ∀ q H', H q = none → Same H H' → ∀ us, H' q = some (.lst us) → AllR (pTup K (rCons pInt (rOne pInt))) W us es → es.length ≤ LIM → Q (.ref q) H') : rSortedPO K [v] H Q := by
  obtain ⟨a, vs, rfl, hs, hr, hl⟩ := hq
  have k := allR_map hw hr
  refine ⟨a, vs, keyQ H, rfl, hs, k.1, fun ys q hy hst hn => ?_⟩
  have pm : (ys.map (keyQ H)).Perm ds := by rw [← k.2]; exact hst.perm.map _
  refine h (ys.map (keyQ H)) pm ?_ q _ hn (Same.new hn) ys upd_same (allR_perm (fun x d hx => (keyQ_of hw hx).2) hr hst.perm) (by rw [pm.length_eq]; exact hl)
  unfold SortedQ
  rw [List.pairwise_map]
  exact hy
end
end EL
namespace EL
open PySem PySem.Spec PyProof.Rows L2 Px
section
variable {X : Cx} {K : PySem.W.Frag} {H W : Hp} {Q : VK} {v : V}
def rSortU (K : PySem.W.Frag) : List V → Hp → VK → Prop := fun vs H Q => rSortedPO K vs H Q ∨ rSortedI K vs H Q
theorem cr_sortU (K : PySem.W.Frag) (h : X.K = K := by rfl) : CallR X (.builtin "sorted") (rSortU K) := h ▸ CallR.or cr_sortedPO cr_sortedI
theorem sortU {ds : List (Int × Int)} (hq : Sl K (pTup K (rCons pInt (rOne pInt))) H W v ds) (hw : Same W H) (h : ∀ es : List (Int × Int), es.Perm ds → SortedQ es → ∀ q H', H q = none → Same H H' → ∀ us, H' q = some (.lst us) → AllR (pTup K (rCons pInt (rOne pInt))) W us es → es.length ≤ LIM → Q (.ref q) H') : rSortU K [v] H Q := .inl (sortP hq hw h)
theorem tupTT {β : Type} {r : PRow β} {d : β} (s : Same W H) (h : (pTup K r).rep W v d) (k : Q v H) : rTupleOf K [v] H Q := by
  obtain ⟨a, vs, rfl, e, _⟩ := h
  exact ⟨a, vs, rfl, .inr ⟨s.seqT (SqT.of e), k⟩⟩
theorem tupTV {α : Type} {p : PTy α} {ds : List α} (s : Same W H) (h : (pVt K p).rep W v ds) (k : Q v H) : rTupleOf K [v] H Q := by
  obtain ⟨a, vs, rfl, e, _⟩ := h
  exact ⟨a, vs, rfl, .inr ⟨s.seqT e, k⟩⟩
end
end EL

namespace Nm
/-! ### primes by trial -/
def noDiv : Nat → Nat → Nat → Bool
  | 0, _, _ => true
  | f + 1, d, n => if n < d * d then true else if n % d = 0 then false else noDiv f (d + 2) n
def isPN (n : Nat) : Bool := decide (3 ≤ n) && (decide (n % 2 = 1) && noDiv n 3 n)
def isP (n : Int) : Bool := isPN n.toNat
theorem noDiv_big {f d n : Nat} (h : n < d * d) : noDiv f d n = true := by
  cases f with
  | zero => rfl
  | succ f => unfold noDiv; rw [if_pos h]
theorem noDiv_hit {f d n : Nat} (h : d * d ≤ n) (h2 : n % d = 0) : noDiv (f + 1) d n = false := by
  unfold noDiv
  rw [if_neg (by omega), if_pos h2]
theorem noDiv_go {f d n : Nat} (h : d * d ≤ n) (h2 : n % d ≠ 0) : noDiv (f + 1) d n = noDiv f (d + 2) n := by
  rw [noDiv, if_neg (by omega), if_neg h2]
/-- no divisor from d on in steps of two, up to the root -/
theorem noDiv_all : ∀ {f d n : Nat}, noDiv f d n = true → n < d + 2 * f → ∀ k, (d + 2 * k) * (d + 2 * k) ≤ n → n % (d + 2 * k) ≠ 0
  | 0, d, n, _, hf, k, hk => by
    have : d + 2 * k ≤ (d + 2 * k) * (d + 2 * k) := Nat.le_mul_self _
    omega
  | f + 1, d, n, h, hf, k, hk => by
    by_cases hb : n < d * d
    · exfalso
      have : d * d ≤ (d + 2 * k) * (d + 2 * k) := Nat.mul_le_mul (by omega) (by omega)
      omega
    · by_cases hm : n % d = 0
      · rw [noDiv_hit (by omega) hm] at h
        cases h
      · rw [noDiv_go (by omega) hm] at h
        cases k with
        | zero => simpa using hm
        | succ k =>
          have e : d + 2 * (k + 1) = (d + 2) + 2 * k := by omega
          rw [e] at hk ⊢
          exact noDiv_all h (by omega) k hk
theorem mod_of_dvd_lt {n d : Nat} (h : n % d = 0) : d ∣ n := Nat.dvd_of_mod_eq_zero h
/-- a number that the trial lets has no divisor but 1 and itself -/
theorem isPN_prime {n : Nat} (h : isPN n = true) : 3 ≤ n ∧ n % 2 = 1 ∧ ∀ d, 1 < d → d < n → n % d ≠ 0 := by
  unfold isPN at h
  simp only [Bool.and_eq_true, decide_eq_true_eq] at h
  obtain ⟨h3, h2, hn⟩ := h
  refine ⟨h3, h2, ?_⟩
  -- no small divisor
  have small : ∀ d, 1 < d → d * d ≤ n → n % d ≠ 0 := by
    intro d hd hdd hm
    have hdv : d ∣ n := Nat.dvd_of_mod_eq_zero hm
    by_cases ho : d % 2 = 0
    · have : 2 ∣ n := Nat.dvd_trans (Nat.dvd_of_mod_eq_zero ho) hdv
      have := Nat.mod_eq_zero_of_dvd this
      omega
    · have e : d = 3 + 2 * ((d - 3) / 2) := by omega
      have q := noDiv_all hn (by omega) ((d - 3) / 2)
      rw [← e] at q
      exact q hdd hm
  intro d hd hlt hm
  have hdv : d ∣ n := Nat.dvd_of_mod_eq_zero hm
  obtain ⟨c, hc⟩ := hdv
  by_cases hdd : d * d ≤ n
  · exact small d hd hdd hm
  · have hcd : c < d := by
      apply Nat.lt_of_mul_lt_mul_left (a := d)
      omega
    have hc1 : 1 < c := by
      rcases Nat.lt_or_ge 1 c with z | z
      · exact z
      · exfalso
        have : c = 0 ∨ c = 1 := by omega
        rcases this with rfl | rfl
        · omega
        · omega
    have hcc : c * c ≤ n := by
      rw [hc]
      exact Nat.mul_le_mul_right c (by omega)
    refine small c hc1 hcc ?_
    rw [hc]
    exact Nat.mul_mod_left d c
end Nm

namespace Nm
/-! ### residues -/
theorem mul_mod_r (x y p : Int) : x * (y % p) % p = x * y % p := by rw [Int.mul_emod, Int.emod_emod, ← Int.mul_emod]
theorem mul_mod_l (x y p : Int) : (x % p) * y % p = x * y % p := by rw [Int.mul_emod, Int.emod_emod, ← Int.mul_emod]
theorem mod_of_eq {a b p k : Int} (h : a = b + p * k) : a % p = b % p := by rw [h, Int.add_mul_emod_self_left]
theorem eq_of_mod {a b p : Int} (h : a % p = b % p) : ∃ k, a = b + p * k := ⟨a / p - b / p, by
  have h1 := Int.mul_ediv_add_emod a p
  have h2 := Int.mul_ediv_add_emod b p
  grind⟩
theorem mod_self {a p : Int} (h : 0 ≤ a ∧ a < p) : a % p = a := Int.emod_eq_of_lt h.1 h.2
theorem inv_unique {p x y z : Int} (hy : 0 ≤ y ∧ y < p) (hz : 0 ≤ z ∧ z < p) (h1 : x * y % p = 1) (h2 : x * z % p = 1) : y = z := by
  have h3 : x * y % p = x * z % p := h1.trans h2.symm
  obtain ⟨a, ha⟩ := eq_of_mod h3
  have e := Int.mul_ediv_add_emod (x * y) p
  have q : y % p = z % p := by
    refine mod_of_eq (k := y * a - (x * y / p) * (y - z)) ?_
    rw [h1] at e
    grind
  rw [mod_self hy, mod_self hz] at q
  exact q
/-- the residue whose product with x is 1 (0 if there is none) -/
def inv (p x : Int) : Int := (((List.range p.toNat).find? fun (y : Nat) => decide (x * (y : Int) % p = 1)).getD 0 : Nat)
theorem inv_eq {p x y : Int} (hy : 0 ≤ y ∧ y < p) (h : x * y % p = 1) : inv p x = y := by
  unfold inv
  have hm : y.toNat ∈ List.range p.toNat := List.mem_range.mpr (by omega)
  cases e : (List.range p.toNat).find? fun (y : Nat) => decide (x * (y : Int) % p = 1) with
  | none =>
    have q := List.find?_eq_none.mp e _ hm
    rw [Int.toNat_of_nonneg hy.1] at q
    simp [h] at q
  | some z =>
    have q := List.find?_some e
    have q2 := List.mem_of_find?_eq_some e
    have hz := List.mem_range.mp q2
    simp only [decide_eq_true_eq] at q
    show ((z : Nat) : Int) = y
    exact inv_unique ⟨by omega, by omega⟩ hy q h
/-- a common divisor of an odd prime and a smaller number is 1 -/
theorem gcd_prime {p x : Nat} (h : isPN p = true) (h1 : 1 ≤ x) (h2 : x < p) : Nat.gcd x p = 1 := by
  have hp := (isPN_prime h).2.2 (Nat.gcd x p)
  have d1 : Nat.gcd x p ∣ x := Nat.gcd_dvd_left x p
  have d2 : Nat.gcd x p ∣ p := Nat.gcd_dvd_right x p
  have l1 : Nat.gcd x p ≤ x := Nat.le_of_dvd (by omega) d1
  have l2 : 0 < Nat.gcd x p := Nat.gcd_pos_of_pos_left _ (by omega)
  rcases Nat.lt_or_ge 1 (Nat.gcd x p) with z | z
  · exact absurd (Nat.mod_eq_zero_of_dvd d2) (hp z (by omega))
  · omega
theorem isP_nat {p : Int} (h : isP p = true) : isPN p.toNat = true ∧ 3 ≤ p := by
  have h' : isPN p.toNat = true := h
  have := (isPN_prime h').1
  exact ⟨h', by omega⟩
/-- the word of the loop that finds the inverse -/
structure InvAt (p x r o f l : Int) : Prop where
  r0 : 0 < r
  rb : r < p
  o0 : 0 ≤ o
  ob : o ≤ p
  g : Nat.gcd r.toNat o.toNat = 1
  hf : ∃ k, f * x = r + p * k
  hl : ∃ k, l * x = o + p * k
theorem invAt_start {p x : Int} (hp : isP p = true) (h1 : 1 ≤ x) (h2 : x ≤ p - 1) : InvAt p x x p 1 0 := by
  have hq := isP_nat hp
  exact ⟨by omega, by omega, by omega, by omega, gcd_prime hq.1 (by omega) (by omega), ⟨0, by grind⟩, ⟨-1, by grind⟩⟩
theorem invAt_step {p x r o f l : Int} (h : InvAt p x r o f l) (hr : 1 < r) : InvAt p x (o - o / r * r) r (l - o / r * f) f ∧ o - o / r * r < r ∧ 0 ≤ o / r ∧ o / r ≤ o := by
  have e : o - o / r * r = o % r := by
    have := Int.mul_ediv_add_emod o r
    grind
  have hm0 : 0 ≤ o % r := Int.emod_nonneg _ (by omega)
  have hm1 : o % r < r := Int.emod_lt_of_pos _ (by omega)
  have hg : Nat.gcd (o % r).toNat r.toNat = 1 := by
    have e2 : (o % r).toNat = o.toNat % r.toNat := Int.toNat_emod h.o0 (by omega)
    rw [e2]
    have q2 := h.g
    rw [Nat.gcd_rec] at q2
    exact q2
  have hpos : 0 < o % r := by
    rcases Int.lt_or_eq_of_le hm0 with z | z
    · exact z
    · exfalso
      rw [← z] at hg
      simp at hg
      omega
  obtain ⟨k1, h1⟩ := h.hf
  obtain ⟨k2, h2⟩ := h.hl
  refine ⟨⟨by rw [e]; exact hpos, by rw [e]; have := h.rb; omega, by omega, by have := h.rb; omega, by rw [e]; exact hg, ⟨k2 - o / r * k1, by grind⟩, ⟨k1, h1⟩⟩, by rw [e]; exact hm1, ?_, ?_⟩
  · exact Int.ediv_nonneg h.o0 (by omega)
  · exact Int.ediv_le_self _ h.o0
theorem invAt_end {p x r o f l : Int} (h : InvAt p x r o f l) (hr : ¬ 1 < r) : x * (f % p) % p = 1 ∧ 0 ≤ f % p ∧ f % p < p ∧ inv p x = f % p := by
  have h0 := h.r0
  have hb := h.rb
  have e : r = 1 := by omega
  obtain ⟨k, hk⟩ := h.hf
  have q : x * (f % p) % p = 1 := by
    rw [mul_mod_r, mod_of_eq (b := 1) (k := k) (by grind), Int.emod_eq_of_lt (by omega) (by omega)]
  have b0 : 0 ≤ f % p := Int.emod_nonneg _ (by omega)
  have b1 : f % p < p := Int.emod_lt_of_pos _ (by omega)
  exact ⟨q, b0, b1, inv_eq ⟨b0, b1⟩ q⟩
theorem inv_of_word {p x : Int} : ∀ (n : Nat) (r o f l : Int), InvAt p x r o f l → r.toNat ≤ n → x * inv p x % p = 1 ∧ 0 ≤ inv p x ∧ inv p x < p
  | 0, r, o, f, l, h, hn => by
    have := h.r0
    omega
  | n + 1, r, o, f, l, h, hn => by
    by_cases hr : 1 < r
    · obtain ⟨h2, hlt, _, _⟩ := invAt_step h hr
      exact inv_of_word n _ _ _ _ h2 (by have := h2.r0; omega)
    · obtain ⟨h1, h2, h3, h4⟩ := invAt_end h hr
      rw [h4]
      exact ⟨h1, h2, h3⟩
theorem inv_spec {p x : Int} (hp : isP p = true) (h1 : 1 ≤ x) (h2 : x ≤ p - 1) : x * inv p x % p = 1 ∧ 0 ≤ inv p x ∧ inv p x < p :=
  inv_of_word x.toNat _ _ _ _ (invAt_start hp h1 h2) (Nat.le_refl _)
/-- the one k with a k = b -/
theorem quot_hit {p a b : Int} (hp : isP p = true) (h1 : 1 ≤ a) (h2 : a ≤ p - 1) (hb : 0 ≤ b ∧ b < p) : a * (b * inv p a % p) % p = b := by
  have q := (inv_spec hp h1 h2).1
  rw [mul_mod_r]
  have e : a * (b * inv p a) = b * (a * inv p a) := by grind
  rw [e, Int.mul_emod, q, Int.mul_one, Int.emod_emod, mod_self hb]
theorem quot_unique {p a b k : Int} (hp : isP p = true) (h1 : 1 ≤ a) (h2 : a ≤ p - 1) (hk : 0 ≤ k ∧ k < p) (h : a * k % p = b) : k = b * inv p a % p := by
  have q := (inv_spec hp h1 h2).1
  rw [← h, mul_mod_l]
  have e : a * k * inv p a = k * (a * inv p a) := by grind
  rw [e, Int.mul_emod, q, Int.mul_one, Int.emod_emod, mod_self hk]
end Nm

namespace Nm
/-! ### lists over a range -/
theorem filt_succ {f : Nat → Int} {P : Int → Bool} {i : Nat} :
    ((List.range (i + 1)).map f).filter P = ((List.range i).map f).filter P ++ (if P (f i) = true then [f i] else []) := by
  rw [List.range_succ, List.map_append, List.filter_append]
  congr 1
  rw [List.map_singleton, List.filter_cons, List.filter_nil]
/-- the number of values below n that a list holds is at most its length -/
theorem pigeon : ∀ (n : Nat) (L : List Int), (∀ k : Nat, k < n → (k : Int) ∈ L) → n ≤ L.length
  | 0, _, _ => Nat.zero_le _
  | n + 1, L, h => by
    have q := pigeon n (L.erase (n : Int)) fun k hk => by
      refine (List.mem_erase_of_ne (by omega)).mpr (h k (by omega))
    have hm := h n (by omega)
    have e := List.length_erase_of_mem hm
    have : 0 < L.length := List.length_pos_of_mem hm
    omega
/-! ### primes -/
theorem noDiv_of {n : Nat} (h : ∀ d, 1 < d → d < n → n % d ≠ 0) : ∀ (f d : Nat), 1 < d → noDiv f d n = true
  | 0, _, _ => rfl
  | f + 1, d, hd => by
    by_cases c : n < d * d
    · exact noDiv_big c
    · have hlt : d < n := by
        rcases Nat.lt_or_ge d n with z | z
        · exact z
        · exfalso
          have : 2 * d ≤ d * d := Nat.mul_le_mul_right d hd
          omega
      rw [noDiv_go (by omega) (h d hd hlt)]
      exact noDiv_of h f (d + 2) (by omega)
theorem isPN_of {n : Nat} (h3 : 3 ≤ n) (ho : n % 2 = 1) (h : ∀ d, 1 < d → d < n → n % d ≠ 0) : isPN n = true := by
  unfold isPN
  rw [decide_eq_true h3, decide_eq_true ho, noDiv_of h _ _ (by omega)]
  rfl
/-- an odd number that is no prime has a prime divisor up to its root -/
theorem small_div {n : Nat} (h3 : 3 ≤ n) (ho : n % 2 = 1) (h : isPN n = false) : ∃ q, isPN q = true ∧ q * q ≤ n ∧ n % q = 0 := by
  -- some divisor, then the least
  have ex : ∃ d, 1 < d ∧ d < n ∧ n % d = 0 := by
    rcases Classical.em (∃ d, 1 < d ∧ d < n ∧ n % d = 0) with z | z
    · exact z
    · exfalso
      have := isPN_of h3 ho fun d h1 h2 h3 => z ⟨d, h1, h2, h3⟩
      rw [h] at this
      cases this
  have least : ∀ k, (∃ d, d ≤ k ∧ 1 < d ∧ d < n ∧ n % d = 0) → ∃ d, (1 < d ∧ d < n ∧ n % d = 0) ∧ ∀ e, 1 < e → e < d → n % e ≠ 0 := by
    intro k
    induction k with
    | zero =>
      rintro ⟨d, h1, h2, _⟩
      omega
    | succ k ih =>
      rintro ⟨d, h1, h2⟩
      rcases Classical.em (∃ d, d ≤ k ∧ 1 < d ∧ d < n ∧ n % d = 0) with z | z
      · exact ih z
      · refine ⟨d, h2, fun e he1 he2 hz => z ⟨e, by omega, he1, by omega, hz⟩⟩
  obtain ⟨d0, hd0⟩ := ex
  obtain ⟨d, ⟨d1, d2, d3⟩, dl⟩ := least d0 ⟨d0, Nat.le_refl _, hd0⟩
  have dv : d ∣ n := Nat.dvd_of_mod_eq_zero d3
  have dodd : d % 2 = 1 := by
    rcases Nat.mod_two_eq_zero_or_one d with z | z
    · exfalso
      have : 2 ∣ n := Nat.dvd_trans (Nat.dvd_of_mod_eq_zero z) dv
      have := Nat.mod_eq_zero_of_dvd this
      omega
    · exact z
  refine ⟨d, isPN_of (by omega) dodd fun e he1 he2 hz => ?_, ?_, d3⟩
  · exact dl e he1 he2 (Nat.mod_eq_zero_of_dvd (Nat.dvd_trans (Nat.dvd_of_mod_eq_zero hz) dv))
  · obtain ⟨c, hc⟩ := dv
    have c1 : 1 < c := by
      rcases Nat.lt_or_ge 1 c with z | z
      · exact z
      · exfalso
        have : c = 0 ∨ c = 1 := by omega
        rcases this with rfl | rfl <;> omega
    rcases Nat.lt_or_ge c d with z | z
    · exfalso
      exact dl c c1 z (by rw [hc]; exact Nat.mul_mod_left d c)
    · rw [hc]
      exact Nat.mul_le_mul_left d z
def primesTo (m : Int) : List Int := ((List.range (m - 2).toNat).map fun (i : Nat) => 3 + (i : Int)).filter isP
theorem mem_primes {m q : Int} : q ∈ primesTo m ↔ isP q = true ∧ q ≤ m := by
  unfold primesTo
  rw [List.mem_filter, List.mem_map]
  constructor
  · rintro ⟨⟨i, hi, rfl⟩, h⟩
    have := List.mem_range.mp hi
    exact ⟨h, by omega⟩
  · rintro ⟨h, hq⟩
    have := (isP_nat h).2
    exact ⟨⟨(q - 3).toNat, List.mem_range.mpr (by omega), by omega⟩, h⟩
theorem primes_up (m : Int) : (primesTo m).Pairwise (· < ·) := by
  unfold primesTo
  refine List.Pairwise.filter _ ?_
  rw [List.pairwise_map]
  exact List.pairwise_lt_range.imp fun h => by omega
theorem primes_len (m : Int) : (primesTo m).length ≤ (m - 2).toNat := by
  unfold primesTo
  refine Nat.le_trans (List.length_filter_le _ _) ?_
  rw [List.length_map, List.length_range]
  exact Nat.le_refl _
theorem primes_succ {i : Nat} : primesTo (2 + ((i + 1 : Nat) : Int)) = primesTo (2 + (i : Nat)) ++ (if isP (3 + (i : Int)) = true then [3 + (i : Int)] else []) := by
  unfold primesTo
  have e1 : (2 + ((i + 1 : Nat) : Int) - 2).toNat = i + 1 := by omega
  have e2 : (2 + (i : Int) - 2).toNat = i := by omega
  rw [e1, e2]
  exact filt_succ
theorem primes_cut {m n : Int} (h : m ≤ n) : (primesTo n).filter (fun q => decide (q ≤ m)) = primesTo m := by
  unfold primesTo
  rw [List.filter_filter]
  obtain ⟨d, hd⟩ : ∃ d, (n - 2).toNat = (m - 2).toNat + d := ⟨(n - 2).toNat - (m - 2).toNat, by omega⟩
  rw [hd, List.range_add, List.map_append, List.filter_append]
  have h2 : (List.map (fun i : Nat => 3 + (i : Int)) ((List.range d).map fun x => (m - 2).toNat + x)).filter (fun a => decide (a ≤ m) && isP a) = [] := by
    rw [List.filter_eq_nil_iff]
    intro a ha
    obtain ⟨i, hi, rfl⟩ := List.mem_map.mp ha
    obtain ⟨j, _, rfl⟩ := List.mem_map.mp hi
    simp only [Bool.and_eq_true, decide_eq_true_eq, not_and]
    intro h1 h2
    have := (isP_nat h2).2
    omega
  rw [h2, List.append_nil]
  refine List.filter_congr fun a ha => ?_
  obtain ⟨i, hi, rfl⟩ := List.mem_map.mp ha
  have := List.mem_range.mp hi
  rw [decide_eq_true (by omega : 3 + (i : Int) ≤ m)]
  rfl
/-- the sieve's word: the numbers of a cut of the primes below n do not divide it, the rest are too large -/
theorem sieve {n : Int} {j : Nat} (h3 : 3 ≤ n) (hb : ∀ i (q : Int), j ≤ i → (primesTo (n - 1))[i]? = some q → n < q * q) :
    isP n = (decide (n % 2 = 1) && ((primesTo (n - 1)).take j).all fun q => decide (n % q ≠ 0)) := by
  obtain ⟨N, rfl⟩ : ∃ N : Nat, n = (N : Int) := ⟨n.toNat, by omega⟩
  have eP : isP (N : Int) = isPN N := by unfold isP; rw [Int.toNat_natCast]
  rw [eP]
  by_cases ho : N % 2 = 1
  · rw [decide_eq_true (by omega : (N : Int) % 2 = 1), Bool.true_and]
    cases hp : isPN N with
    | true =>
      symm
      rw [List.all_eq_true]
      intro q hq
      have hq2 := mem_primes.mp (List.mem_of_mem_take hq)
      have h4 := isP_nat hq2.1
      have h5 := (isPN_prime hp).2.2 q.toNat (by omega) (by omega)
      refine decide_eq_true fun z => h5 ?_
      have : ((N % q.toNat : Nat) : Int) = (N : Int) % q := by
        rw [Int.natCast_emod, Int.toNat_of_nonneg (by omega)]
      omega
    | false =>
      symm
      rw [Bool.eq_false_iff]
      intro hall
      rw [List.all_eq_true] at hall
      obtain ⟨q, hq, hqq, hdv⟩ := small_div (by omega) ho hp
      have q3 := (isPN_prime hq).1
      have qlt : q < N := by
        have : 3 * q ≤ q * q := Nat.mul_le_mul_right q q3
        omega
      have hm : (q : Int) ∈ primesTo ((N : Int) - 1) := mem_primes.mpr ⟨by unfold isP; rw [Int.toNat_natCast]; exact hq, by omega⟩
      obtain ⟨i, hi⟩ := List.getElem?_of_mem hm
      have hij : i < j := by
        rcases Nat.lt_or_ge i j with z | z
        · exact z
        · exfalso
          have := hb i _ z hi
          have : ((q * q : Nat) : Int) = (q : Int) * q := Int.natCast_mul q q
          omega
      have ht : (q : Int) ∈ (primesTo ((N : Int) - 1)).take j := by
        refine List.mem_of_getElem? (i := i) ?_
        rw [List.getElem?_take, if_pos hij]
        exact hi
      have := of_decide_eq_true (hall _ ht)
      have e2 : ((N % q : Nat) : Int) = (N : Int) % q := Int.natCast_emod _ _
      omega
  · rw [decide_eq_false (by omega : ¬ (N : Int) % 2 = 1), Bool.false_and]
    unfold isPN
    rw [decide_eq_false ho]
    simp
/-! ### squares -/
def sqL (p : Int) : List Int := (List.range p.toNat).map fun (y : Nat) => (y : Int) * y % p
def isSq (p k : Int) : Bool := decide (k ∈ sqL p)
def lnsF (p : Int) : Nat → Int → Int
  | 0, n => n
  | f + 1, n => if isSq p n = true then lnsF p f (n + 1) else n
/-- the least number from 2 on that is no square -/
def lns (p : Int) : Int := lnsF p p.toNat 2
theorem sq_lt {p k : Int} (hp : 0 < p) (h : isSq p k = true) : 0 ≤ k ∧ k < p := by
  unfold isSq sqL at h
  obtain ⟨y, _, rfl⟩ := List.mem_map.mp (of_decide_eq_true h)
  exact ⟨Int.emod_nonneg _ (by omega), Int.emod_lt_of_pos _ hp⟩
theorem sq_mod {p y : Int} (hp : 0 < p) : isSq p (y * y % p) = true := by
  unfold isSq sqL
  refine decide_eq_true (List.mem_map.mpr ⟨(y % p).toNat, ?_, ?_⟩)
  · have := Int.emod_lt_of_pos y hp
    have := Int.emod_nonneg y (show p ≠ 0 by omega)
    exact List.mem_range.mpr (by omega)
  · have := Int.emod_nonneg y (show p ≠ 0 by omega)
    rw [Int.toNat_of_nonneg this, ← Int.mul_emod]
/-- half of the numbers give all squares -/
theorem sq_half {p k : Int} (hp : 0 < p) (h : isSq p k = true) : ∃ y : Nat, y ≤ p.toNat / 2 ∧ (y : Int) * y % p = k := by
  unfold isSq sqL at h
  obtain ⟨y, hy, rfl⟩ := List.mem_map.mp (of_decide_eq_true h)
  have hy := List.mem_range.mp hy
  by_cases c : y ≤ p.toNat / 2
  · exact ⟨y, c, rfl⟩
  · refine ⟨p.toNat - y, by omega, ?_⟩
    have e : ((p.toNat - y : Nat) : Int) = p - y := by omega
    rw [e]
    exact mod_of_eq (k := p - 2 * y) (by grind)
theorem has_nonsq {p : Int} (hp : isP p = true) : ∃ k : Int, 2 ≤ k ∧ k < p ∧ isSq p k = false := by
  have h3 := (isP_nat hp).2
  rcases Classical.em (∃ k : Int, 2 ≤ k ∧ k < p ∧ isSq p k = false) with z | z
  · exact z
  · exfalso
    have all : ∀ k : Nat, k < p.toNat → (k : Int) ∈ ((List.range (p.toNat / 2 + 1)).map fun (y : Nat) => (y : Int) * y % p) := by
      intro k hk
      have hs : isSq p k = true := by
        by_cases c : k < 2
        · have q := sq_mod (p := p) (y := k) (by omega)
          have e : (k : Int) * k % p = k := by
            have : k = 0 ∨ k = 1 := by omega
            rcases this with rfl | rfl
            · simp
            · exact Int.emod_eq_of_lt (by omega) (by omega)
          rw [e] at q
          exact q
        · cases e : isSq p k with
          | true => rfl
          | false => exact absurd ⟨(k : Int), by omega, by omega, e⟩ z
      obtain ⟨y, h1, h2⟩ := sq_half (by omega) hs
      exact List.mem_map.mpr ⟨y, List.mem_range.mpr (by omega), h2⟩
    have := pigeon _ _ all
    rw [List.length_map, List.length_range] at this
    omega
theorem lnsF_spec {p : Int} (hp : isP p = true) : ∀ (f : Nat) (n : Int), (∃ k : Int, n ≤ k ∧ k < p ∧ k ≤ n + f ∧ isSq p k = false) → 2 ≤ n → (∀ k, 2 ≤ k → k < n → isSq p k = true) →
    2 ≤ lnsF p f n ∧ lnsF p f n < p ∧ isSq p (lnsF p f n) = false ∧ ∀ k, 2 ≤ k → k < lnsF p f n → isSq p k = true
  | 0, n, ⟨k, h1, h2, h3, h4⟩, hn, hb => by
    have : k = n := by omega
    subst this
    exact ⟨hn, h2, h4, hb⟩
  | f + 1, n, ⟨k, h1, h2, h3, h4⟩, hn, hb => by
    unfold lnsF
    split
    · rename_i c
      refine lnsF_spec hp f (n + 1) ⟨k, ?_, h2, by omega, h4⟩ (by omega) fun j j1 j2 => ?_
      · rcases Int.lt_or_le n k with z | z
        · omega
        · have : k = n := by omega
          subst this
          rw [c] at h4
          cases h4
      · rcases Int.lt_or_le j n with z | z
        · exact hb j j1 z
        · have : j = n := by omega
          subst this
          exact c
    · rename_i c
      refine ⟨hn, by omega, by simpa using c, hb⟩
theorem lns_spec {p : Int} (hp : isP p = true) : 2 ≤ lns p ∧ lns p < p ∧ isSq p (lns p) = false ∧ ∀ k, 2 ≤ k → k < lns p → isSq p k = true := by
  obtain ⟨k, h1, h2, h3⟩ := has_nonsq hp
  exact lnsF_spec hp _ _ ⟨k, h1, h2, by omega, h3⟩ (by omega) fun j h1 h2 => by omega
/-! ### powers -/
def pwF (p : Int) : Nat → Int → Int → Int → Int
  | 0, r, _, _ => r
  | f + 1, r, s, l => if 0 < l then pwF p f (if l % 2 = 1 then r * s % p else r) (s * s % p) (l / 2) else r
def pw (p x e : Int) : Int := pwF p e.toNat 1 x e
theorem pwF_zero {p : Int} : ∀ (f : Nat) (r s l : Int), l ≤ 0 → pwF p f r s l = r
  | 0, _, _, _, _ => rfl
  | f + 1, r, s, l, h => by unfold pwF; rw [if_neg (by omega)]
theorem pwF_null {p : Int} : ∀ (f : Nat) (r l : Int), l.toNat ≤ f → 0 < l ∨ r = 0 → pwF p f r 0 l = 0
  | 0, r, l, h, h2 => by
    rcases h2 with z | z
    · omega
    · exact z
  | f + 1, r, l, h, h2 => by
    unfold pwF
    split
    · rename_i c
      have e : (0 : Int) * 0 % p = 0 := by simp
      rw [e]
      refine pwF_null f _ _ (by omega) ?_
      by_cases c2 : l % 2 = 1
      · rw [if_pos c2]
        exact .inr (by simp)
      · rw [if_neg c2]
        rcases h2 with z | z
        · exact .inl (by omega)
        · exact .inr z
    · rename_i c
      rcases h2 with z | z
      · omega
      · exact z
theorem pw_null {p e : Int} (h : 0 < e) : pw p 0 e = 0 := pwF_null _ _ _ (Nat.le_refl _) (.inl h)
theorem pw_two {p x : Int} : pw p x 2 = x * x % p := by
  show pwF p 2 1 x 2 = _
  simp only [pwF]
  simp
end Nm

namespace Nm
theorem find_at {P : Nat → Bool} : ∀ {n i : Nat}, i < n → P i = true → (∀ j, j < i → P j = false) → (List.range n).find? P = some i := by
  intro n i hi hp hb
  obtain ⟨d, rfl⟩ : ∃ d, n = i + (d + 1) := ⟨n - i - 1, by omega⟩
  rw [List.range_add, List.find?_append]
  have e : (List.range i).find? P = none := List.find?_eq_none.mpr fun x hx => by rw [hb x (List.mem_range.mp hx)]; simp
  rw [e, List.range_succ_eq_map, List.map_cons, List.find?_cons]
  simp [hp]
theorem find_no {P : Nat → Bool} {n : Nat} (h : ∀ j, j < n → P j = false) : (List.range n).find? P = none :=
  List.find?_eq_none.mpr fun x hx => by rw [h x (List.mem_range.mp hx)]; simp
def rtP (p x : Int) (y : Nat) : Bool := decide ((y : Int) * y % p = x)
def rt (p x : Int) : Option Nat := (List.range ((p + 1) / 2).toNat).find? (rtP p x)
theorem rt_all {p x : Int} (hp : isP p = true) : rt p x = (List.range p.toNat).find? (rtP p x) := by
  have h3 := (isP_nat hp).2
  have ho := (isPN_prime (isP_nat hp).1).2.1
  unfold rt
  obtain ⟨d, hd⟩ : ∃ d, p.toNat = ((p + 1) / 2).toNat + d := ⟨p.toNat - ((p + 1) / 2).toNat, by omega⟩
  have e0 := hd
  rw [hd, List.range_add, List.find?_append]
  cases e : (List.range ((p + 1) / 2).toNat).find? (rtP p x) with
  | some y => rfl
  | none =>
    symm
    rw [Option.none_or, List.find?_eq_none]
    intro z hz
    obtain ⟨j, hj, rfl⟩ := List.mem_map.mp hz
    have hj := List.mem_range.mp hj
    have q := List.find?_eq_none.mp e (p.toNat - (((p + 1) / 2).toNat + j)) (List.mem_range.mpr (by omega))
    intro c
    refine q ?_
    unfold rtP at c ⊢
    rw [← of_decide_eq_true c]
    refine decide_eq_true ?_
    have e1 : ((p.toNat - (((p + 1) / 2).toNat + j) : Nat) : Int) = p - ((((p + 1) / 2).toNat + j : Nat) : Int) := by omega
    rw [e1]
    refine mod_of_eq (k := p - 2 * ((((p + 1) / 2).toNat + j : Nat) : Int)) (by grind)
/-- the values y below p at which P holds, in the order -/
def ys (p : Int) (P : Nat → Bool) : List Int := ((List.range p.toNat).filter P).map fun (y : Nat) => (y : Int)
theorem ys_head {p : Int} {P : Nat → Bool} : (ys p P)[0]? = ((List.range p.toNat).find? P).map fun (y : Nat) => (y : Int) := by
  unfold ys
  rw [List.getElem?_map, ← List.head?_eq_getElem?, List.head?_filter]
theorem ys_succ {P : Nat → Bool} {i : Nat} : ((List.range (i + 1)).filter P).map (fun (y : Nat) => (y : Int)) = ((List.range i).filter P).map (fun (y : Nat) => (y : Int)) ++ (if P i = true then [(i : Int)] else []) := by
  rw [List.range_succ, List.filter_append, List.map_append]
  congr 1
  rw [List.filter_cons, List.filter_nil]
  split <;> rfl
def ivP (p x : Int) (y : Nat) : Bool := decide (x * y % p = 1)
theorem iv_head {p x : Int} (hp : isP p = true) (h1 : 1 ≤ x) (h2 : x ≤ p - 1) : (ys p (ivP p x))[0]? = some (inv p x) := by
  obtain ⟨q1, q2, q3⟩ := inv_spec hp h1 h2
  rw [ys_head]
  have hf : (List.range p.toNat).find? (ivP p x) = some (inv p x).toNat := by
    refine find_at (by omega) ?_ fun j hj => ?_
    · unfold ivP
      rw [Int.toNat_of_nonneg q2]
      exact decide_eq_true q1
    · unfold ivP
      refine decide_eq_false fun z => ?_
      have := inv_unique (p := p) (x := x) (y := j) (z := inv p x) ⟨by omega, by omega⟩ ⟨q2, q3⟩ z q1
      omega
  rw [hf]
  show some (((inv p x).toNat : Nat) : Int) = _
  rw [Int.toNat_of_nonneg q2]
/-! the least number that is no square, from 0 on -/
theorem lns_find {p : Int} (hp : isP p = true) : (List.range p.toNat).find? (fun (x : Nat) => !isSq p (x : Int)) = some (lns p).toNat := by
  obtain ⟨h1, h2, h3, h4⟩ := lns_spec hp
  refine find_at (by omega) ?_ fun j hj => ?_
  · rw [Int.toNat_of_nonneg (by omega), h3]
    rfl
  · have : isSq p (j : Int) = true := by
      by_cases c : 2 ≤ j
      · exact h4 j (by omega) (by omega)
      · have q := sq_mod (p := p) (y := (j : Int)) (by omega)
        have e : (j : Int) * j % p = j := by
          have : j = 0 ∨ j = 1 := by omega
          rcases this with rfl | rfl
          · simp
          · exact Int.emod_eq_of_lt (by omega) (by omega)
        rw [e] at q
        exact q
    rw [this]
    rfl
def pwL (p e : Int) : List Int := (List.range p.toNat).map fun (y : Nat) => pw p (y : Int) e
def roP (p e x : Int) (y : Nat) : Bool := decide (pw p (y : Int) e = x)
/-- the roots from 1 on are those from 0 on -/
theorem roots_all {p e x : Int} (hp : isP p = true) (he : 0 < e) (hx : x ≠ 0) :
    (((List.range (p - 1).toNat).map fun (i : Nat) => 1 + (i : Int)).filter fun r => decide (pw p r e = x)) = ys p (roP p e x) := by
  have h3 := (isP_nat hp).2
  unfold ys
  have hn : p.toNat = (p - 1).toNat + 1 := by omega
  rw [hn, List.range_succ_eq_map, List.filter_cons, if_neg (by unfold roP; rw [show (((0 : Nat) : Int)) = 0 from rfl, pw_null he]; simpa using fun z => hx z.symm)]
  rw [List.filter_map, List.filter_map, List.map_map]
  have hc : ∀ i : Nat, 1 + (i : Int) = ((i + 1 : Nat) : Int) := fun i => by omega
  congr 1
  · funext i
    exact hc i
  · refine List.filter_congr fun i _ => ?_
    show decide (pw p (1 + (i : Int)) e = x) = roP p e x (i + 1)
    rw [hc]
    rfl
theorem roots_two {p : Int} (hp : isP p = true) : ys p (roP p 2 (lns p)) = [] := by
  obtain ⟨h1, h2, h3, _⟩ := lns_spec hp
  unfold ys
  rw [List.map_eq_nil_iff, List.filter_eq_nil_iff]
  intro y hy hz
  unfold roP at hz
  have hz := of_decide_eq_true hz
  rw [pw_two] at hz
  have := sq_mod (p := p) (y := (y : Int)) (by omega)
  rw [hz, h3] at this
  cases this
end Nm

namespace Nm
/-! ### residues as Fin p, where grind knows the rings -/
section
variable {p : Nat} [NeZero p]
def fz (p : Nat) [NeZero p] (x : Int) : Fin p := Fin.ofNat p (x % (p : Int)).toNat
theorem p_pos : 0 < p := Nat.pos_of_ne_zero (NeZero.ne p)
theorem fz_val (x : Int) : ((fz p x).val : Int) = x % (p : Int) := by
  have h0 := p_pos (p := p)
  have h1 := Int.emod_nonneg x (show (p : Int) ≠ 0 by omega)
  have h2 := Int.emod_lt_of_pos x (show (0 : Int) < p by omega)
  unfold fz
  rw [Fin.val_ofNat, Nat.mod_eq_of_lt (by omega)]
  omega
theorem fz_eq {x y : Int} (h : x % (p : Int) = y % (p : Int)) : fz p x = fz p y := by
  unfold fz
  rw [h]
theorem fz_inj {x y : Int} (h : fz p x = fz p y) : x % (p : Int) = y % (p : Int) := by
  rw [← fz_val (p := p) x, ← fz_val (p := p) y, h]
theorem fz_mod (x : Int) : fz p (x % (p : Int)) = fz p x := fz_eq (Int.emod_emod _ _)
theorem fz_of_val {x : Int} {a : Fin p} (h : (a.val : Int) = x % (p : Int)) : fz p x = a := by
  apply Fin.ext
  have := fz_val (p := p) x
  omega
theorem fz_add (x y : Int) : fz p (x + y) = fz p x + fz p y := by
  refine fz_of_val ?_
  rw [Fin.val_add, Int.natCast_emod, Int.natCast_add, fz_val, fz_val, ← Int.add_emod]
theorem fz_mul (x y : Int) : fz p (x * y) = fz p x * fz p y := by
  refine fz_of_val ?_
  rw [Fin.val_mul, Int.natCast_emod, Int.natCast_mul, fz_val, fz_val, ← Int.mul_emod]
theorem fz_zero : fz p 0 = 0 := fz_of_val (by simp)
theorem fz_one : fz p 1 = 1 := fz_of_val (show (((1 % p : Nat)) : Int) = (1 : Int) % (p : Int) from Int.natCast_emod 1 p)
theorem fz_neg (x : Int) : fz p (-x) = - fz p x := by
  have e : fz p (-x) + fz p x = 0 := by
    rw [← fz_add, Int.add_left_neg, fz_zero]
  grind
theorem fz_sub (x y : Int) : fz p (x - y) = fz p x - fz p y := by
  rw [Int.sub_eq_add_neg, fz_add, fz_neg]
  grind
theorem fz_nat (n : Nat) (h : n < p) : fz p (n : Int) = ⟨n, h⟩ := by
  refine fz_of_val ?_
  rw [Int.emod_eq_of_lt (by omega) (by omega)]
theorem fz_null {x : Int} (h : fz p x = 0) : x % (p : Int) = 0 := by
  rw [← fz_zero (p := p)] at h
  rw [fz_inj h]
  simp
theorem fz_null_iff {x : Int} : x % (p : Int) = 0 ↔ fz p x = 0 :=
  ⟨fun h => by rw [← fz_zero]; exact fz_eq (by simpa using h), fz_null⟩
end
/-! no divisors of zero -/
theorem prime_dvd {p : Nat} (hp : isPN p = true) {a b : Nat} (h : p ∣ a * b) (ha : ¬ p ∣ a) : p ∣ b := by
  have hc : Nat.Coprime p a := by
    have h3 := isPN_prime hp
    have d1 : Nat.gcd p a ∣ p := Nat.gcd_dvd_left p a
    have d2 : Nat.gcd p a ∣ a := Nat.gcd_dvd_right p a
    have l1 : Nat.gcd p a ≤ p := Nat.le_of_dvd (by omega) d1
    have l0 : 0 < Nat.gcd p a := Nat.gcd_pos_of_pos_left _ (by omega)
    rcases Nat.lt_or_ge (Nat.gcd p a) 2 with z | z
    · show Nat.gcd p a = 1
      omega
    · rcases Nat.lt_or_ge (Nat.gcd p a) p with y | y
      · exact absurd (Nat.mod_eq_zero_of_dvd d1) (h3.2.2 _ (by omega) y)
      · exfalso
        have : Nat.gcd p a = p := by omega
        rw [this] at d2
        exact ha d2
  exact hc.dvd_of_dvd_mul_left h
theorem fin_dom {p : Nat} [NeZero p] (hp : isPN p = true) {a b : Fin p} (h : a * b = 0) : a = 0 ∨ b = 0 := by
  have h3 := (isPN_prime hp).1
  have e : (a.val * b.val) % p = 0 := by
    have := congrArg Fin.val h
    rw [Fin.val_mul] at this
    simpa using this
  have d := Nat.dvd_of_mod_eq_zero e
  by_cases ha : p ∣ a.val
  · refine .inl (Fin.ext ?_)
    have := Nat.eq_zero_of_dvd_of_lt ha a.isLt
    simpa using this
  · refine .inr (Fin.ext ?_)
    have := Nat.eq_zero_of_dvd_of_lt (prime_dvd hp d ha) b.isLt
    simpa using this
theorem fin_inv {p : Nat} [NeZero p] (hp : isPN p = true) {a : Fin p} (h : a ≠ 0) : ∃ b : Fin p, a * b = 1 := by
  have hP : isP (p : Int) = true := by
    unfold isP
    rw [Int.toNat_natCast]
    exact hp
  have ha : a.val ≠ 0 := fun z => h (Fin.ext (by simpa using z))
  have hl := a.isLt
  obtain ⟨q1, q2, q3⟩ := inv_spec hP (x := (a.val : Int)) (by omega) (by omega)
  refine ⟨fz p (inv p (a.val : Int)), ?_⟩
  have e : fz p (a.val : Int) = a := fz_nat _ hl
  rw [← e, ← fz_mul, ← fz_one (p := p)]
  refine fz_eq ?_
  rw [e] at *
  rw [q1]
  have h3 := (isPN_prime hp).1
  exact (Int.emod_eq_of_lt (by omega) (by omega)).symm
end Nm

namespace Nm
theorem sub_len {α : Type} [DecidableEq α] : ∀ {l m : List α}, l.Nodup → (∀ x, x ∈ l → x ∈ m) → l.length ≤ m.length
  | [], _, _, _ => Nat.zero_le _
  | a :: l, m, h, hs => by
    have hn := List.nodup_cons.mp h
    have ha := hs a (List.mem_cons_self ..)
    have q := sub_len (l := l) (m := m.erase a) hn.2 fun x hx => by
      refine (List.mem_erase_of_ne fun z => ?_).mpr (hs x (List.mem_cons_of_mem _ hx))
      rw [z] at hx
      exact hn.1 hx
    have e := List.length_erase_of_mem ha
    have : 0 < m.length := List.length_pos_of_mem ha
    rw [List.length_cons]
    omega
/-! ### the numbers of norm one -/
section
variable {R : Type} [Lean.Grind.CommRing R] [DecidableEq R]
def onesF (all : List R) (u : R) : List (R × R) := all.flatMap fun a => (all.filter fun b => decide (u * b * b = a * a - 1)).map fun b => (a, b)
variable {all : List R} {u : R}
theorem mem_ones (mem : ∀ a : R, a ∈ all) {a b : R} : (a, b) ∈ onesF all u ↔ u * b * b = a * a - 1 := by
  unfold onesF
  rw [List.mem_flatMap]
  constructor
  · rintro ⟨x, _, hx⟩
    obtain ⟨y, hy, e⟩ := List.mem_map.mp hx
    cases e
    exact of_decide_eq_true (List.mem_filter.mp hy).2
  · intro h
    exact ⟨a, mem a, List.mem_map.mpr ⟨b, List.mem_filter.mpr ⟨mem b, decide_eq_true h⟩, rfl⟩⟩
theorem ones_nodup (nd : all.Nodup) : (onesF all u).Nodup := by
  unfold onesF
  refine List.pairwise_flatMap.mpr ⟨fun a _ => ?_, ?_⟩
  · refine List.pairwise_map.mpr ?_
    refine (List.Pairwise.filter _ nd).imp fun {x y} h z => h ?_
    cases z
    rfl
  · refine List.Pairwise.imp (fun {a b} h x hx y hy z => h ?_) nd
    obtain ⟨_, _, rfl⟩ := List.mem_map.mp hx
    obtain ⟨_, _, rfl⟩ := List.mem_map.mp hy
    cases z
    rfl
theorem g_den {t s : R} (z : 1 - u * t * t = 0) (hs : t * s = 1) : s * s = u := by grind
theorem g_den0 (z : 1 - u * 0 * 0 = 0) : (1 : R) = 0 := by grind
theorem g_top {t w : R} (e : (1 - u * t * t) * w = 1) (z : 1 + (1 + u * t * t) * w = 0) : 2 * w = 0 := by grind
theorem g_top0 {d : R} (e : d * 0 = 1) : (1 : R) = 0 := by grind
theorem g_neg : (1 : R) + -1 = 0 := by grind
theorem g_inj {a b x y : R} (e1 : (1 - u * a * a) * x = 1) (e2 : (1 - u * b * b) * y = 1) (z1 : (1 + u * a * a) * x = (1 + u * b * b) * y) (z2 : 2 * a * x = 2 * b * y) :
    (a - b) * (1 + (1 + u * a * a) * x) = 0 := by grind
theorem g_eq {a b : R} (h : a - b = 0) : a = b := by grind
theorem g_ub {a b : R} (h : u * b * b = a * a - 1) (z : 1 + a = 0) : u * (b * b) = 0 := by grind
theorem g_m1 {a : R} (z : 1 + a = 0) : a = -1 := by grind
theorem g_fst {a b s w : R} (h : u * b * b = a * a - 1) (hs : (1 + a) * s = 1) (e : (1 - u * (b * s) * (b * s)) * w = 1) : (1 + u * (b * s) * (b * s)) * w = a := by grind
theorem g_snd {a b s w : R} (h : u * b * b = a * a - 1) (hs : (1 + a) * s = 1) (e : (1 - u * (b * s) * (b * s)) * w = 1) : 2 * (b * s) * w = b := by grind
theorem g_on0 : u * 0 * 0 = (-1 : R) * -1 - 1 := by grind
theorem g_on {t w : R} (e : (1 - u * t * t) * w = 1) : u * (2 * t * w) * (2 * t * w) = (1 + u * t * t) * w * ((1 + u * t * t) * w) - 1 := by grind
theorem norm_count (mem : ∀ a : R, a ∈ all) (nd : all.Nodup) (dom : ∀ a b : R, a * b = 0 → a = 0 ∨ b = 0) (inv : ∀ a : R, a ≠ 0 → ∃ b, a * b = 1) (one : (1 : R) ≠ 0) (two : (2 : R) ≠ 0) (u0 : u ≠ 0)
    (hu : ∀ y : R, y * y ≠ u) : (onesF all u).length = all.length + 1 := by
  have den : ∀ t : R, 1 - u * t * t ≠ 0 := by
    intro t z
    have t0 : t ≠ 0 := by
      intro e
      rw [e] at z
      exact one (g_den0 z)
    obtain ⟨s, hs⟩ := inv t t0
    exact hu s (g_den z hs)
  obtain ⟨w, hw⟩ : ∃ w : R → R, ∀ t, (1 - u * t * t) * w t = 1 := ⟨fun t => (inv _ (den t)).choose, fun t => (inv _ (den t)).choose_spec⟩
  obtain ⟨f, hf⟩ : ∃ f : R → R × R, ∀ t, f t = ((1 + u * t * t) * w t, 2 * t * w t) := ⟨_, fun t => rfl⟩
  have top : ∀ t, 1 + (1 + u * t * t) * w t ≠ 0 := by
    intro t z
    have e := hw t
    rcases dom _ _ (g_top e z) with q | q
    · exact two q
    · rw [q] at e
      exact one (g_top0 e)
  have fn : ((-1, 0) :: all.map f).Nodup := by
    refine List.nodup_cons.mpr ⟨fun z => ?_, ?_⟩
    · obtain ⟨t, _, e⟩ := List.mem_map.mp z
      have q := top t
      rw [hf] at e
      have e1 : (1 + u * t * t) * w t = -1 := congrArg Prod.fst e
      rw [e1] at q
      exact q g_neg
    · refine List.pairwise_map.mpr (List.Pairwise.imp (fun {a b} h z => h ?_) nd)
      rw [hf, hf] at z
      rcases dom _ _ (g_inj (hw a) (hw b) (congrArg Prod.fst z) (congrArg Prod.snd z)) with q | q
      · exact g_eq q
      · exact absurd q (top a)
  have l1 : (onesF all u).length ≤ ((-1, 0) :: all.map f).length := by
    refine sub_len (ones_nodup nd) fun x hx => ?_
    obtain ⟨a, b⟩ := x
    have hx := (mem_ones mem).mp hx
    by_cases ha : 1 + a = 0
    · have b0 : b = 0 := by
        rcases dom _ _ (g_ub hx ha) with q | q
        · exact absurd q u0
        · rcases dom _ _ q with q | q <;> exact q
      rw [b0, g_m1 ha]
      exact List.mem_cons_self ..
    · obtain ⟨s, hs⟩ := inv _ ha
      refine List.mem_cons_of_mem _ (List.mem_map.mpr ⟨b * s, mem _, ?_⟩)
      rw [hf, g_fst hx hs (hw (b * s)), g_snd hx hs (hw (b * s))]
  have l2 : ((-1, 0) :: all.map f).length ≤ (onesF all u).length := by
    refine sub_len fn fun x hx => ?_
    rcases List.mem_cons.mp hx with rfl | hx
    · exact (mem_ones mem).mpr g_on0
    · obtain ⟨t, _, rfl⟩ := List.mem_map.mp hx
      rw [hf]
      exact (mem_ones mem).mpr (g_on (hw t))
  have l3 : ((-1, 0) :: all.map f).length = all.length + 1 := by rw [List.length_cons, List.length_map]
  omega
end
section
variable {P : Nat} [NeZero P]
def fins (P : Nat) [NeZero P] : List (Fin P) := (List.range P).map fun (n : Nat) => fz P (n : Int)
theorem mem_fins (a : Fin P) : a ∈ fins P := List.mem_map.mpr ⟨a.val, List.mem_range.mpr a.isLt, by rw [fz_nat _ a.isLt]⟩
theorem fins_nodup : (fins P).Nodup := by
  unfold fins
  refine List.pairwise_map.mpr ?_
  refine List.Pairwise.imp_of_mem (fun {a b} ha hb hlt => ?_) List.pairwise_lt_range
  have ha := List.mem_range.mp ha
  have hb := List.mem_range.mp hb
  rw [fz_nat _ ha, fz_nat _ hb]
  intro z
  have := congrArg Fin.val z
  simp at this
  omega
theorem fin_one (hp : isPN P = true) : (1 : Fin P) ≠ 0 := by
  have h3 := (isPN_prime hp).1
  intro z
  rw [← fz_one (p := P)] at z
  have := fz_null z
  rw [Int.emod_eq_of_lt (by omega) (by omega)] at this
  omega
theorem fin_two (hp : isPN P = true) : (2 : Fin P) ≠ 0 := by
  have h3 := (isPN_prime hp).1
  intro z
  have e : fz P 2 = 0 := by
    have q : (2 : Int) = 1 + 1 := rfl
    rw [q, fz_add, fz_one]
    have q2 : (1 : Fin P) + 1 = 2 := by
      clear z
      grind
    rw [q2]
    exact z
  have := fz_null e
  rw [Int.emod_eq_of_lt (by omega) (by omega)] at this
  omega
theorem ones_count (hp : isPN P = true) {u : Fin P} (hu : ∀ y : Fin P, y * y ≠ u) : (onesF (fins P) u).length = P + 1 := by
  have z0 : (0 : Fin P) * 0 = 0 := by grind
  rw [norm_count mem_fins fins_nodup (fun a b => fin_dom hp) (fun a => fin_inv hp) (fin_one hp) (fin_two hp) (fun z => hu 0 (by rw [z, z0])) hu]
  unfold fins
  rw [List.length_map, List.length_range]
end
def bk (p u i : Int) (n : Nat) : List Int := ((List.range n).filter fun (b : Nat) => decide (u * (b : Int) * (b : Int) % p = i)).map fun (b : Nat) => (b : Int)
def onesL (p u : Int) (n : Nat) : List (Int × Int) := (List.range n).flatMap fun (a : Nat) => (bk p u (((a : Int) * (a : Int) - 1) % p) p.toNat).map fun b => ((a : Int), b)
theorem ones_len {p : Int} (hp : isP p = true) : (onesL p (lns p) p.toNat).length = p.toNat + 1 := by
  have hq := isP_nat hp
  obtain ⟨l1, l2, l3, _⟩ := lns_spec hp
  generalize hP : p.toNat = P at hq
  have : NeZero P := ⟨by omega⟩
  have ep : p = (P : Int) := by omega
  subst ep
  rw [← ones_count (P := P) hq.1 (u := fz P (lns (P : Int))) fun y z => ?_]
  · unfold onesL onesF fins bk
    rw [List.length_flatMap, List.flatMap_map, List.length_flatMap, hP]
    congr 1
    refine List.map_congr_left fun a ha => ?_
    rw [List.length_map, List.length_map, List.length_map, List.filter_map, List.length_map]
    congr 1
    refine List.filter_congr fun b _ => ?_
    refine decide_eq_decide.mpr ?_
    show _ ↔ fz P (lns (P : Int)) * fz P (b : Int) * fz P (b : Int) = fz P (a : Int) * fz P (a : Int) - 1
    rw [← fz_mul, ← fz_mul, ← fz_mul, ← fz_one (p := P), ← fz_sub]
    exact ⟨fun h => fz_eq h, fun h => fz_inj h⟩
  · have hy : fz P (y.val : Int) = y := fz_nat _ y.isLt
    rw [← hy, ← fz_mul] at z
    have := fz_inj z
    rw [Int.emod_eq_of_lt (by omega) (by omega : lns (P : Int) < P)] at this
    have q := sq_mod (p := (P : Int)) (y := (y.val : Int)) (by omega)
    rw [this, l3] at q
    cases q
end Nm

namespace Nm
/-! ### the laws of pairs of a table that tells a lot by its size alone -/
def pop (n x : Nat) : Nat := ((List.range n).map fun i => (x >>> i) % 2).sum
abbrev Tm := Int × Nat × Nat
def tmS (n one two : Nat) : Nat → List Tm × Int
  | 0 => ([], 1)
  | k + 1 => if ((one ^^^ two) >>> k) % 2 = 1 then
      ((tmS n one two k).1 ++ [((tmS n one two k).2, pop n (one ^^^ (1 <<< k)), pop n (two ^^^ (1 <<< k)))], -(tmS n one two k).2)
    else tmS n one two k
def tm (n one two : Nat) : List Tm := (tmS n one two n).1
def ev (c : Nat → Int) (T : List Tm) : Int := (T.map fun t => t.1 * c t.2.1 * c t.2.2).sum
theorem ev_app {c : Nat → Int} {T U : List Tm} : ev c (T ++ U) = ev c T + ev c U := by
  unfold ev
  rw [List.map_append, List.sum_append]
def oddT (T : List Tm) : Bool := T.all fun t => decide ((t.2.1 + t.2.2) % 2 = 1)
def evenT (n : Nat) (T : List Tm) : Bool := match T with
  | [] => true
  | t0 :: _ => (T.all fun t => decide (t.2.1 ≤ n) && (decide (t.2.2 ≤ n) && (decide (t.2.1 + t.2.2 = t0.2.1 + t0.2.2) && (decide (t.2.1 = t0.2.1) || (decide (t.2.1 = t0.2.1 + 2) || decide (t.2.1 + 2 = t0.2.1)))))) && decide ((T.map fun t => t.1).sum = 0)
def backOk : Bool := (List.range 6).all fun n => (List.range (2 ^ n)).all fun one => (List.range (2 ^ n)).all fun two => (oddT (tm n one two) && (tm n one two).all fun t => decide (t.2.1 ≤ n) && decide (t.2.2 ≤ n)) || evenT n (tm n one two)
theorem back_ok : backOk = true := by decide +kernel
/-- where one term stands alone: (i + 1, i), and where the rest is one product, s times -/
def restT (T : List Tm) (i j u v : Nat) (s : Int) : Bool := match T with
  | [] => false
  | t0 :: R => decide (t0 = (1, i, j)) && ((R.all fun t => decide (t.2 = (u, v))) && decide ((R.map fun t => t.1).sum = s))
def mask (lo hi : Nat) : Nat := 2 ^ (hi + 1) - 2 ^ lo
/-- the two lots: b lots of the second alone, m of both -/
def lotA (b m : Nat) : Nat := 1 + mask (b + 1) (b + m)
def lotB (b m : Nat) : Nat := mask 1 b + mask (b + 1) (b + m)
def fwdOk : Bool := (List.range 6).all fun n => ((List.range n).all fun i => restT (tm n (lotB 0 i) (lotA 0 i)) (i + 1) i 0 0 0) &&
  (((List.range n).all fun i => (List.range (n + 1)).all fun j => !(decide (i + 2 ≤ j) && decide ((i + j) % 2 = 1)) || restT (tm n (lotA (j - i - 1) i) (lotB (j - i - 1) i)) i j (i + 2) (j - 2) 0) &&
  ((List.range n).all fun k => (List.range n).all fun m => !(decide (k < m) && (decide (m + 2 ≤ n) && decide ((k + m) % 2 = 0))) || restT (tm n (lotA (m - k + 1) k) (lotB (m - k + 1) k)) k (m + 2) (k + 2) m (-1)))
theorem fwd_ok : fwdOk = true := by decide +kernel
def ltOk : Bool := (List.range 6).all fun n => ((List.range n).all fun i => decide (lotB 0 i < lotA 0 i) && decide (lotA 0 i < 2 ^ n)) &&
  ((List.range n).all fun i => (List.range n).all fun b => !(decide (1 ≤ b) && decide (1 + b + i ≤ n)) || (decide (lotA b i < lotB b i) && decide (lotB b i < 2 ^ n)))
theorem lt_ok : ltOk = true := by decide +kernel
theorem rest_ev {c : Nat → Int} {T : List Tm} {i j u v : Nat} {s : Int} (h : restT T i j u v s = true) : ev c T = c i * c j + s * (c u * c v) := by
  cases T with
  | nil => cases h
  | cons t0 R =>
    unfold restT at h
    simp only [Bool.and_eq_true, decide_eq_true_eq, List.all_eq_true] at h
    obtain ⟨rfl, h1, rfl⟩ := h
    have e : ev c ((1, i, j) :: R) = 1 * c i * c j + ev c R := rfl
    rw [e]
    have q : ∀ R : List Tm, (∀ t, t ∈ R → t.2 = (u, v)) → ev c R = (R.map fun t => t.1).sum * (c u * c v) := by
      intro R
      induction R with
      | nil => intro _; simp [ev]
      | cons t R ih =>
        intro hR
        have e1 := hR t (List.mem_cons_self ..)
        have e2 := ih fun x hx => hR x (List.mem_cons_of_mem _ hx)
        have e3 : ev c (t :: R) = t.1 * c t.2.1 * c t.2.2 + ev c R := rfl
        rw [e3, e2, e1, List.map_cons, List.sum_cons]
        grind
    rw [q R h1]
    grind
end Nm

namespace Nm
theorem dom_int {p x y : Int} (hp : isP p = true) (hx : 0 ≤ x ∧ x < p) (hy : 0 ≤ y ∧ y < p) (h : x * y % p = 0) : x = 0 ∨ y = 0 := by
  obtain ⟨P, rfl⟩ : ∃ P : Nat, p = (P : Int) := ⟨p.toNat, by omega⟩
  have hq := (isP_nat hp).1
  rw [Int.toNat_natCast] at hq
  have : NeZero P := ⟨by omega⟩
  have e := fz_null_iff (p := P).mp h
  rw [fz_mul] at e
  rcases fin_dom hq e with z | z
  · refine .inl ?_
    have := fz_null z
    rw [Int.emod_eq_of_lt hx.1 hx.2] at this
    exact this
  · refine .inr ?_
    have := fz_null z
    rw [Int.emod_eq_of_lt hy.1 hy.2] at this
    exact this
def MGI (n : Nat) (c : Nat → Int) (p : Int) : Prop := ∀ one two, one < two → two < 2 ^ n → ev c (tm n one two) % p = 0
def PAR (n : Nat) (c : Nat → Int) : Prop := ∀ i j, i ≤ n → j ≤ n → (i + j) % 2 = 1 → c i = 0 ∨ c j = 0
def CRS (n : Nat) (c : Nat → Int) (p : Int) : Prop := ∀ k m, k + 2 ≤ n → m + 2 ≤ n → (c k * c (m + 2) - c (k + 2) * c m) % p = 0
theorem ev_cong {c : Nat → Int} {p v : Int} : ∀ {T : List Tm}, (∀ t, t ∈ T → ∃ k, c t.2.1 * c t.2.2 = v + p * k) → ∃ k, ev c T = (T.map fun t => t.1).sum * v + p * k
  | [], _ => ⟨0, by simp [ev]⟩
  | t :: T, h => by
    obtain ⟨k1, h1⟩ := h t (List.mem_cons_self ..)
    obtain ⟨k2, h2⟩ := ev_cong (T := T) fun x hx => h x (List.mem_cons_of_mem _ hx)
    refine ⟨t.1 * k1 + k2, ?_⟩
    have e3 : ev c (t :: T) = t.1 * c t.2.1 * c t.2.2 + ev c T := rfl
    rw [e3, h2, List.map_cons, List.sum_cons]
    grind
theorem mgi_of {n : Nat} {c : Nat → Int} {p : Int} (hn : n < 6) (h1 : PAR n c) (h2 : CRS n c p) : MGI n c p := by
  intro one two hlt hb
  have q := back_ok
  unfold backOk at q
  have q := List.all_eq_true.mp (List.all_eq_true.mp (List.all_eq_true.mp q n (List.mem_range.mpr hn)) one (List.mem_range.mpr (by omega))) two (List.mem_range.mpr hb)
  generalize tm n one two = T at q
  rcases Bool.or_eq_true_iff.mp q with q | q
  · have q := Bool.and_eq_true_iff.mp q
    have a1 := List.all_eq_true.mp (show T.all _ = true from q.1)
    have a2 := List.all_eq_true.mp q.2
    obtain ⟨k, hk⟩ := ev_cong (c := c) (p := 0) (v := 0) (T := T) fun t ht => by
      have b1 := of_decide_eq_true (a1 t ht)
      have b2 := Bool.and_eq_true_iff.mp (a2 t ht)
      refine ⟨0, ?_⟩
      rcases h1 t.2.1 t.2.2 (of_decide_eq_true b2.1) (of_decide_eq_true b2.2) b1 with z | z <;> rw [z] <;> simp
    rw [hk]
    simp
  · cases T with
    | nil => simp [ev]
    | cons t0 R =>
      unfold evenT at q
      have q := Bool.and_eq_true_iff.mp q
      have a := List.all_eq_true.mp q.1
      have s := of_decide_eq_true q.2
      obtain ⟨k, hk⟩ := ev_cong (c := c) (p := p) (v := c t0.2.1 * c t0.2.2) (T := t0 :: R) fun t ht => by
        have b := a t ht
        have b0 := a t0 (List.mem_cons_self ..)
        simp only [Bool.and_eq_true, Bool.or_eq_true, decide_eq_true_eq] at b b0
        obtain ⟨l1, l2, es, e⟩ := b
        rcases e with e | e | e
        · have e2 : t.2.2 = t0.2.2 := by omega
          exact ⟨0, by rw [e, e2]; simp⟩
        · obtain ⟨k, hk⟩ := eq_of_mod (a := c t0.2.1 * c (t.2.2 + 2) - c (t0.2.1 + 2) * c t.2.2) (b := 0) (p := p) (by rw [h2 _ _ (by omega) (by omega)]; simp)
          have e2 : t0.2.2 = t.2.2 + 2 := by omega
          exact ⟨-k, by rw [e, e2]; grind⟩
        · obtain ⟨k, hk⟩ := eq_of_mod (a := c t.2.1 * c (t0.2.2 + 2) - c (t.2.1 + 2) * c t0.2.2) (b := 0) (p := p) (by rw [h2 _ _ (by omega) (by omega)]; simp)
          have e2 : t.2.2 = t0.2.2 + 2 := by omega
          have e3 : t0.2.1 = t.2.1 + 2 := by omega
          exact ⟨k, by rw [e2, e3]; grind⟩
      rw [hk, s, Int.zero_mul, Int.zero_add]
      exact Int.mul_emod_right _ _
theorem of_mgi {n : Nat} {c : Nat → Int} {p : Int} (hp : isP p = true) (hn : n < 6) (hc : ∀ i, i ≤ n → 0 ≤ c i ∧ c i < p) (h : MGI n c p) : PAR n c ∧ CRS n c p := by
  have f := fwd_ok
  unfold fwdOk at f
  have f := List.all_eq_true.mp f n (List.mem_range.mpr hn)
  have f := Bool.and_eq_true_iff.mp f
  have f1 := List.all_eq_true.mp f.1
  have f2 := Bool.and_eq_true_iff.mp f.2
  have f3 := List.all_eq_true.mp f2.1
  have f4 := List.all_eq_true.mp f2.2
  have l := lt_ok
  unfold ltOk at l
  have l := List.all_eq_true.mp l n (List.mem_range.mpr hn)
  have l := Bool.and_eq_true_iff.mp l
  have l1 := List.all_eq_true.mp l.1
  have l2 := List.all_eq_true.mp l.2
  have par : ∀ i j, i < j → j ≤ n → (i + j) % 2 = 1 → c i = 0 ∨ c j = 0 := by
    intro i j hij hj ho
    by_cases c1 : j = i + 1
    · subst c1
      have a := f1 i (List.mem_range.mpr (by omega))
      have b := l1 i (List.mem_range.mpr (by omega))
      simp only [Bool.and_eq_true, decide_eq_true_eq] at b
      have z := h _ _ b.1 b.2
      rw [rest_ev a] at z
      have z2 : c (i + 1) * c i % p = 0 := by simpa using z
      exact (dom_int hp (hc _ hj) (hc _ (by omega)) z2).symm
    · have a := List.all_eq_true.mp (f3 i (List.mem_range.mpr (by omega))) j (List.mem_range.mpr (by omega))
      rw [decide_eq_true (by omega : i + 2 ≤ j), decide_eq_true ho] at a
      have b := List.all_eq_true.mp (l2 i (List.mem_range.mpr (by omega))) (j - i - 1) (List.mem_range.mpr (by omega))
      rw [decide_eq_true (by omega : 1 ≤ j - i - 1), decide_eq_true (by omega : 1 + (j - i - 1) + i ≤ n)] at b
      have b : decide (lotA (j - i - 1) i < lotB (j - i - 1) i) = true ∧ decide (lotB (j - i - 1) i < 2 ^ n) = true := Bool.and_eq_true_iff.mp (by simpa using b)
      have z := h _ _ (of_decide_eq_true b.1) (of_decide_eq_true b.2)
      rw [rest_ev (i := i) (j := j) (u := i + 2) (v := j - 2) (s := 0) (by simpa using a)] at z
      have z2 : c i * c j % p = 0 := by simpa using z
      exact dom_int hp (hc _ (by omega)) (hc _ hj) z2
  have hpar : PAR n c := by
    intro i j hi hj ho
    rcases Nat.lt_trichotomy i j with z | z | z
    · exact par i j z hj ho
    · omega
    · exact (par j i z hi (by omega)).symm
  have crs : ∀ k m, k < m → m + 2 ≤ n → (k + m) % 2 = 0 → (c k * c (m + 2) - c (k + 2) * c m) % p = 0 := by
    intro k m hkm hm he
    have a := List.all_eq_true.mp (f4 k (List.mem_range.mpr (by omega))) m (List.mem_range.mpr (by omega))
    rw [decide_eq_true hkm, decide_eq_true hm, decide_eq_true he] at a
    have b := List.all_eq_true.mp (l2 k (List.mem_range.mpr (by omega))) (m - k + 1) (List.mem_range.mpr (by omega))
    rw [decide_eq_true (by omega : 1 ≤ m - k + 1), decide_eq_true (by omega : 1 + (m - k + 1) + k ≤ n)] at b
    have b : decide (lotA (m - k + 1) k < lotB (m - k + 1) k) = true ∧ decide (lotB (m - k + 1) k < 2 ^ n) = true := Bool.and_eq_true_iff.mp (by simpa using b)
    have z := h _ _ (of_decide_eq_true b.1) (of_decide_eq_true b.2)
    rw [rest_ev (i := k) (j := m + 2) (u := k + 2) (v := m) (s := -1) (by simpa using a)] at z
    have e : c k * c (m + 2) - c (k + 2) * c m = c k * c (m + 2) + -1 * (c (k + 2) * c m) := by grind
    rw [e]
    exact z
  refine ⟨hpar, fun k m hk hm => ?_⟩
  rcases Nat.mod_two_eq_zero_or_one (k + m) with e | e
  · rcases Nat.lt_trichotomy k m with z | z | z
    · exact crs k m z hm e
    · subst z
      have : c k * c (k + 2) - c (k + 2) * c k = 0 := by grind
      rw [this]
      simp
    · have q := crs m k z hk (by omega)
      obtain ⟨w, hw⟩ := eq_of_mod (a := c m * c (k + 2) - c (m + 2) * c k) (b := 0) (p := p) (by rw [q]; simp)
      have : c k * c (m + 2) - c (k + 2) * c m = p * -w := by grind
      rw [this]
      exact Int.mul_emod_right _ _
  · have a1 : c k * c (m + 2) = 0 := by
      rcases hpar k (m + 2) (by omega) hm (by omega) with z | z <;> rw [z] <;> simp
    have a2 : c (k + 2) * c m = 0 := by
      rcases hpar (k + 2) m hk (by omega) (by omega) with z | z <;> rw [z] <;> simp
    rw [a1, a2]
    simp
end Nm

namespace Nm
def CRSN (N : Nat) (c : Nat → Int) (p : Int) : Prop := ∀ k m, k < N → m < N → (c k * c (m + 2) - c (k + 2) * c m) % p = 0
section
variable {R : Type} [Lean.Grind.CommRing R]
theorem g_c1 {lo hi a b x y : R} (h1 : lo * b - hi * a = 0) (h2 : lo * y - hi * x = 0) : lo * (a * y - b * x) = 0 := by grind
theorem g_c2 {lo hi a b x y : R} (h1 : lo * b - hi * a = 0) (h2 : lo * y - hi * x = 0) : hi * (a * y - b * x) = 0 := by grind
theorem g_c3 {v a b x y : R} (h1 : a - v * b = 0) (h2 : x - v * y = 0) : a * y - b * x = 0 := by grind
theorem g_c4 {a b x y w : R} (h : a * y - b * x = 0) (hw : y * w = 1) : a - x * w * b = 0 := by grind
end
/-- one pair that is not (0, 0) leads all of them -/
theorem crs_of_lead {N : Nat} {c : Nat → Int} {p lo hi : Int} (hp : isP p = true) (h0 : (0 ≤ lo ∧ lo < p) ∧ (0 ≤ hi ∧ hi < p)) (hne : lo ≠ 0 ∨ hi ≠ 0) (h : ∀ k, k < N → (lo * c (k + 2) - hi * c k) % p = 0) : CRSN N c p := by
  obtain ⟨P, rfl⟩ : ∃ P : Nat, p = (P : Int) := ⟨p.toNat, by omega⟩
  have hq := (isP_nat hp).1
  rw [Int.toNat_natCast] at hq
  have : NeZero P := ⟨by omega⟩
  intro k m hk hm
  have a1 := fz_null_iff (p := P).mp (h k hk)
  have a2 := fz_null_iff (p := P).mp (h m hm)
  rw [fz_sub, fz_mul, fz_mul] at a1 a2
  refine fz_null_iff.mpr ?_
  rw [fz_sub, fz_mul, fz_mul]
  rcases hne with z | z
  · rcases fin_dom hq (g_c1 a1 a2) with q | q
    · have := fz_null q
      rw [Int.emod_eq_of_lt h0.1.1 h0.1.2] at this
      exact absurd this z
    · exact q
  · rcases fin_dom hq (g_c2 a1 a2) with q | q
    · have := fz_null q
      rw [Int.emod_eq_of_lt h0.2.1 h0.2.2] at this
      exact absurd this z
    · exact q
def fitsP (N : Nat) (c : Nat → Int) (p u v : Int) : Prop := ∀ k, k < N → (u * c k - v * c (k + 2)) % p = 0
theorem crs_of_fits {N : Nat} {c : Nat → Int} {p v : Int} (hp : 0 < p) (h : fitsP N c p 1 v) : CRSN N c p := by
  obtain ⟨P, rfl⟩ : ∃ P : Nat, p = (P : Int) := ⟨p.toNat, by omega⟩
  have : NeZero P := ⟨by omega⟩
  intro k m hk hm
  have a1 := fz_null_iff (p := P).mp (h k hk)
  have a2 := fz_null_iff (p := P).mp (h m hm)
  rw [Int.one_mul, fz_sub, fz_mul] at a1 a2
  refine fz_null_iff.mpr ?_
  rw [fz_sub, fz_mul, fz_mul]
  exact g_c3 a1 a2
theorem crs_of_fits0 {N : Nat} {c : Nat → Int} {p : Int} (h : fitsP N c p 0 1) : CRSN N c p := by
  intro k m hk hm
  have a1 := h k hk
  have a2 := h m hm
  rw [Int.zero_mul, Int.one_mul, Int.zero_sub] at a1 a2
  obtain ⟨x, hx⟩ := eq_of_mod (a := -c (k + 2)) (b := 0) (p := p) (by rw [a1]; simp)
  obtain ⟨y, hy⟩ := eq_of_mod (a := -c (m + 2)) (b := 0) (p := p) (by rw [a2]; simp)
  have : c k * c (m + 2) - c (k + 2) * c m = p * (-(c k * y) + x * c m) := by grind
  rw [this]
  exact Int.mul_emod_right _ _
theorem fits_of_crs {N : Nat} {c : Nat → Int} {p : Int} (hp : isP p = true) (hc : ∀ k, 0 ≤ c k ∧ c k < p) (h : CRSN N c p) : (∃ v : Nat, (v : Int) < p ∧ fitsP N c p 1 v) ∨ fitsP N c p 0 1 := by
  obtain ⟨P, rfl⟩ : ∃ P : Nat, p = (P : Int) := ⟨p.toNat, by have := (isP_nat hp).2; omega⟩
  have hq := (isP_nat hp).1
  have hp3 := (isP_nat hp).2
  rw [Int.toNat_natCast] at hq
  have : NeZero P := ⟨by omega⟩
  rcases Classical.em (∃ m, m < N ∧ c (m + 2) ≠ 0) with ⟨m, hm, hne⟩ | z
  · left
    have hy : fz P (c (m + 2)) ≠ 0 := fun z => by
      have := fz_null z
      rw [Int.emod_eq_of_lt (hc _).1 (hc _).2] at this
      exact hne this
    obtain ⟨w, hw⟩ := fin_inv hq hy
    refine ⟨(fz P (c m) * w).val, by have := (fz P (c m) * w).isLt; omega, fun k hk => ?_⟩
    refine fz_null_iff.mpr ?_
    have a := fz_null_iff (p := P).mp (h k m hk hm)
    rw [fz_sub, fz_mul, fz_mul] at a
    rw [Int.one_mul, fz_sub, fz_mul]
    have e : fz P (((fz P (c m) * w).val : Nat) : Int) = fz P (c m) * w := fz_nat _ _
    rw [e]
    exact g_c4 a hw
  · right
    intro k hk
    have e : c (k + 2) = 0 := by
      rcases Classical.em (c (k + 2) = 0) with y | y
      · exact y
      · exact absurd ⟨k, hk, y⟩ z
    rw [e]
    simp
/-! the row as a list -/
def cv (L : List Int) (i : Nat) : Int := (L[i]?).getD 0
theorem cv_at {L : List Int} {i : Nat} {x : Int} (h : L[i]? = some x) : cv L i = x := by
  unfold cv
  rw [h]
  rfl
theorem cv_out {L : List Int} {i : Nat} (h : L.length ≤ i) : cv L i = 0 := by
  unfold cv
  rw [List.getElem?_eq_none h]
  rfl
theorem cv_ok {L : List Int} {p : Int} (hp : 0 < p) (h : ∀ x, x ∈ L → 0 ≤ x ∧ x < p) (i : Nat) : 0 ≤ cv L i ∧ cv L i < p := by
  unfold cv
  cases e : L[i]? with
  | none => exact ⟨Int.le_refl _, hp⟩
  | some x => exact h x (List.mem_of_getElem? e)
def hasPar (L : List Int) (z : Nat) (n : Nat) : Bool := (List.range n).any fun i => decide (i % 2 = z) && decide (cv L i ≠ 0)
theorem hasPar_succ {L : List Int} {z n : Nat} : hasPar L z (n + 1) = (hasPar L z n || (decide (n % 2 = z) && decide (cv L n ≠ 0))) := by
  unfold hasPar
  rw [List.range_succ, List.any_append, List.any_cons, List.any_nil, Bool.or_false]
def mixed (L : List Int) : Bool := hasPar L 0 L.length && hasPar L 1 L.length
theorem par_iff {L : List Int} {n : Nat} (hn : L.length = n + 1) : PAR n (cv L) ↔ mixed L = false := by
  unfold mixed hasPar
  constructor
  · intro h
    rw [Bool.eq_false_iff]
    intro z
    have z := Bool.and_eq_true_iff.mp z
    obtain ⟨i, hi, ei⟩ := List.any_eq_true.mp z.1
    obtain ⟨j, hj, ej⟩ := List.any_eq_true.mp z.2
    have hi := List.mem_range.mp hi
    have hj := List.mem_range.mp hj
    simp only [Bool.and_eq_true, decide_eq_true_eq] at ei ej
    rcases h i j (by omega) (by omega) (by omega) with q | q
    · exact ei.2 q
    · exact ej.2 q
  · intro h i j hi hj ho
    rcases Classical.em (cv L i = 0 ∨ cv L j = 0) with z | z
    · exact z
    · exfalso
      have zi : cv L i ≠ 0 := fun q => z (.inl q)
      have zj : cv L j ≠ 0 := fun q => z (.inr q)
      have mk : ∀ a b, a < L.length → b < L.length → a % 2 = 0 → b % 2 = 1 → cv L a ≠ 0 → cv L b ≠ 0 → False := by
        intro a b ha hb a0 b1 ca cb
        have q1 : ((List.range L.length).any fun i => decide (i % 2 = 0) && decide (cv L i ≠ 0)) = true := List.any_eq_true.mpr ⟨a, List.mem_range.mpr ha, by simp [a0, ca]⟩
        have q2 : ((List.range L.length).any fun i => decide (i % 2 = 1) && decide (cv L i ≠ 0)) = true := List.any_eq_true.mpr ⟨b, List.mem_range.mpr hb, by simp [b1, cb]⟩
        rw [q1, q2] at h
        cases h
      rcases Nat.mod_two_eq_zero_or_one i with e | e
      · exact mk i j (by omega) (by omega) e (by omega) zi zj
      · exact mk j i (by omega) (by omega) (by omega) e zj zi
theorem crs_iff {L : List Int} {n : Nat} {p : Int} (hn : L.length = n + 1) : CRS n (cv L) p ↔ CRSN (L.length - 2) (cv L) p :=
  ⟨fun h k m hk hm => h k m (by omega) (by omega), fun h k m hk hm => h k m (by omega) (by omega)⟩
/-- the law's word on a row -/
def Told (p : Int) (L : List Int) : Prop := mixed L = false ∧ CRSN (L.length - 2) (cv L) p
end Nm

/-! ### plain words: how they are shown -/
namespace Px
open PySem L2 EL
section
variable {α β S : Type} {xs : List α} {f : α → (Option β → Prop) → Prop} {k : List β → Prop}
theorem Br_i {b : Bool} {A B : Prop} (h1 : b = true → A) (h2 : b = false → B) : Br b A B := Br_b h1 h2
theorem Br_y {b : Bool} {A B : Prop} (h : b = true) (h1 : A) : Br b A B := by rw [h]; exact Br_t h1
theorem Br_x {b : Bool} {A B : Prop} (h : b = false) (h1 : B) : Br b A B := by rw [h]; exact Br_f h1
theorem Br_p {P : Prop} [Decidable P] {A B : Prop} (h1 : P → A) (h2 : ¬ P → B) : Br (decide P) A B := Br_d h1 h2
theorem wLet_i {v : α} {k : α → Prop} (h : k v) : wLet v k := h
theorem wJoin_i {f : (α → Prop) → Prop} {k : α → Prop} (h : f k) : wJoin f k := h
/-- a part that may give any of the values that P names -/
theorem wJoin_o {f : (α → Prop) → Prop} {k : α → Prop} (P : α → Prop) (h : ∀ j : α → Prop, (∀ x, P x → j x) → f j) (hk : ∀ x, P x → k x) : wJoin f k := h k hk
theorem wComp_fm (h : α → Option β) (hf : ∀ x, x ∈ xs → ∀ nx : Option β → Prop, nx (h x) → f x nx) (hk : k (xs.filterMap h)) : wComp xs f k := by
  induction xs generalizing k with
  | nil => exact hk
  | cons x xs ih =>
    refine hf x (List.mem_cons_self ..) _ (ih (fun y hy => hf y (List.mem_cons_of_mem _ hy)) ?_)
    rw [List.filterMap_cons] at hk
    cases e : h x with
    | none => rw [e] at hk; simpa using hk
    | some y => rw [e] at hk; simpa using hk
theorem wComp_map (h : α → β) (hf : ∀ x, x ∈ xs → ∀ nx : Option β → Prop, nx (some (h x)) → f x nx) (hk : k (xs.map h)) : wComp xs f k :=
  wComp_fm (fun x => some (h x)) hf (by rwa [List.filterMap_eq_map'])
theorem wComp_flt {f : α → (Option α → Prop) → Prop} {k : List α → Prop} (h : α → Bool) (hf : ∀ x, x ∈ xs → ∀ nx : Option α → Prop, (h x = true → nx (some x)) → (h x = false → nx none) → f x nx) (hk : k (xs.filter h)) : wComp xs f k := by
  induction xs generalizing k with
  | nil => exact hk
  | cons x xs ih =>
    have ih' := fun (k : List α → Prop) => ih (k := k) (fun y hy => hf y (List.mem_cons_of_mem _ hy))
    refine hf x (List.mem_cons_self ..) _ (fun e => ?_) fun e => ?_
    · refine ih' _ ?_
      rw [List.filter_cons, if_pos e] at hk
      exact hk
    · refine ih' _ ?_
      rw [List.filter_cons, if_neg (by rw [e]; simp)] at hk
      exact hk
/-- any list of the right length whose members P knows -/
theorem wComp_all (P : β → Prop) (hf : ∀ x, x ∈ xs → ∀ nx : Option β → Prop, (∀ y, P y → nx (some y)) → f x nx) (hk : ∀ ys : List β, ys.length = xs.length → (∀ y, y ∈ ys → P y) → k ys) : wComp xs f k := by
  induction xs generalizing k with
  | nil => exact hk [] rfl (fun _ h => nomatch h)
  | cons x xs ih =>
    refine hf x (List.mem_cons_self ..) _ fun y hy => ih (fun z hz => hf z (List.mem_cons_of_mem _ hz)) fun ys hl hp => ?_
    refine hk (y :: ys) (by simp [hl]) fun z hz => ?_
    rcases List.mem_cons.mp hz with e | e
    · rw [e]; exact hy
    · exact hp z e
theorem wFor_inv {s : S} {f : α → S → (S → Prop) → (S → Prop) → Prop} {k : S → Prop} (I : List α → S → Prop) (h0 : I [] s)
    (hs : ∀ pre x post s (nx : S → Prop), xs = pre ++ x :: post → I pre s → (∀ s', I (pre ++ [x]) s' → nx s') → f x s nx k) (hd : ∀ s, I xs s → k s) : wFor xs s f k := by
  suffices h : ∀ post pre s, xs = pre ++ post → I pre s → wFor post s f k from h xs [] s rfl h0
  intro post
  induction post with
  | nil =>
    intro pre s e i
    rw [List.append_nil] at e
    subst e
    exact hd s i
  | cons x post ih =>
    intro pre s e i
    refine hs pre x post s _ e i fun s' i' => ih (pre ++ [x]) s' (by rw [e]; simp) i'
theorem wFor_unit {f : α → Unit → (Unit → Prop) → (Unit → Prop) → Prop} {k : Unit → Prop} (hs : ∀ x, x ∈ xs → ∀ nx : Unit → Prop, nx () → f x () nx k) (hd : k ()) : wFor xs () f k :=
  wFor_inv (fun _ _ => True) trivial (fun pre x post s nx e _ h => hs x (by rw [e]; simp) nx (h () trivial)) fun _ _ => hd
/-- over a range, by the number of the turn -/
theorem wFor_rng {lo hi : Int} {s : S} {f : Int → S → (S → Prop) → (S → Prop) → Prop} {k : S → Prop} (I : Int → S → Prop) (hlh : lo ≤ hi) (h0 : I lo s)
    (hs : ∀ i s (nx : S → Prop), lo ≤ i → i < hi → I i s → (∀ s', I (i + 1) s' → nx s') → f i s nx k) (hd : ∀ s, I hi s → k s) : wFor (rangeL lo hi) s f k := by
  suffices h : ∀ (n : Nat) (i : Int) s, i + n = hi → lo ≤ i → I i s → wFor ((List.range n).map fun (j : Nat) => i + (j : Int)) s f k by
    unfold rangeL
    exact h (hi - lo).toNat lo s (by omega) (by omega) h0
  intro n
  induction n with
  | zero =>
    intro i s e _ h
    have : i = hi := by omega
    subst this
    exact hd s h
  | succ n ih =>
    intro i s e hl h
    rw [List.range_succ_eq_map, List.map_cons, List.map_map]
    have e2 : ((fun (j : Nat) => i + (j : Int)) ∘ Nat.succ) = fun (j : Nat) => (i + 1) + (j : Int) := by
      funext j
      show i + ((j + 1 : Nat) : Int) = _
      omega
    have e3 : i + ((0 : Nat) : Int) = i := by omega
    rw [e2, e3]
    exact hs i s _ hl (by omega) h fun s' h' => ih (i + 1) s' (by omega) (by omega) h'
theorem wWhile_m {s : S} {f : S → (S → Prop) → (S → Prop) → Prop} {k : S → Prop} (I : S → Prop) (m : S → Nat) (h0 : I s) (hs : ∀ s (nx : S → Prop), I s → (∀ s', I s' → m s' < m s → nx s') → f s nx k) : wWhile s f k :=
  ⟨fun n s => I s ∧ m s = n, ⟨_, h0, rfl⟩, fun n s ⟨hi, hm⟩ => hs s _ hi fun s' i' l => ⟨m s', by omega, i', rfl⟩⟩
end
/-! lists -/
section
variable {α : Type} [Inhabited α] {xs : List α} {i : Int}
theorem inB_nat {n : Nat} (h : n < xs.length) : inB xs (n : Int) := ⟨by omega, by omega⟩
theorem inB_of (h0 : 0 ≤ i) (h : i < xs.length) : inB xs i := ⟨by omega, h⟩
theorem ixG_nat {n : Nat} : ixG xs (n : Int) = (xs[n]?).getD default := by
  unfold ixG atI ixN
  rw [if_pos (by omega)]
  by_cases c : (n : Int) < xs.length
  · rw [if_pos c]
    simp
  · rw [if_neg c, List.getElem?_eq_none (by omega)]
    rfl
theorem ixG_at {n : Nat} {x : α} (h : xs[n]? = some x) : ixG xs (n : Int) = x := by rw [ixG_nat, h]; rfl
theorem ixG_of {n : Nat} {x : α} (e : i = (n : Int)) (h : xs[n]? = some x) : ixG xs i = x := by rw [e]; exact ixG_at h
theorem ixG_mem (h0 : 0 ≤ i) (h : i < xs.length) : ixG xs i ∈ xs := by
  obtain ⟨n, rfl⟩ : ∃ n : Nat, i = n := ⟨i.toNat, by omega⟩
  have hn : n < xs.length := by omega
  rw [ixG_at (List.getElem?_eq_getElem hn)]
  exact List.getElem_mem hn
theorem setG_nat {n : Nat} {y : α} : setG xs (n : Int) y = xs.set n y := by
  unfold setG ixN
  rw [if_pos (by omega)]
  by_cases c : (n : Int) < xs.length
  · rw [if_pos c]
    simp
  · rw [if_neg c, List.set_eq_of_length_le (by omega)]
theorem setG_of {n : Nat} {y : α} (e : i = (n : Int)) : setG xs i y = xs.set n y := by rw [e]; exact setG_nat
theorem setG_mem {y z : α} (h : z ∈ setG xs i y) : z ∈ xs ∨ z = y := by
  unfold setG at h
  split at h
  · exact List.mem_or_eq_of_mem_set h
  · exact .inl h
end
theorem mem_rangeL {lo hi x : Int} : x ∈ rangeL lo hi ↔ lo ≤ x ∧ x < hi := by
  unfold rangeL
  rw [List.mem_map]
  constructor
  · rintro ⟨n, hn, rfl⟩
    have := List.mem_range.mp hn
    omega
  · intro h
    exact ⟨(x - lo).toNat, List.mem_range.mpr (by omega), by omega⟩
theorem lim_le {n : Nat} (h : n ≤ 1000000) : n ≤ LIM := Nat.le_trans h (Nat.le_of_ble_eq_true rfl)
theorem lim_lt {n : Nat} (h : n < 1000000) : n < LIM := Nat.lt_of_lt_of_le h (Nat.le_of_ble_eq_true rfl)
theorem rg_ok {lo hi : Int} (h : -1000000000 ≤ lo ∧ lo ≤ 1000000000 ∧ -1000000000 ≤ hi ∧ hi ≤ 1000000000) : rgOk lo hi := by unfold rgOk; omega
theorem cmul_l {i j : Int} (h : -1000000000 ≤ i ∧ i ≤ 1000000000) : CMul i j := .inl (by omega)
theorem cmul_r {i j : Int} (h : -1000000000 ≤ j ∧ j ≤ 1000000000) : CMul i j := .inr (by omega)
theorem scan_ok {n : Nat} (h : n ≤ 1000) : n + 1 < scanBound := Nat.lt_of_le_of_lt (Nat.succ_le_succ h) (Nat.lt_of_lt_of_le (Nat.lt_succ_self 1001) (Nat.le_of_ble_eq_true rfl))
/-! errors -/
def NumE (n : Int) : PErr := ⟨2, [("number", .int n)]⟩
def SizeE (n : Int) : PErr := ⟨1, [("count", .int n)]⟩
end Px

namespace Nm
open PySem
/-! ### bits -/
theorem band_nat (a b : Nat) : Builtin.bitAnd (a : Int) (b : Int) = ((a &&& b : Nat) : Int) := rfl
theorem xor_add : ∀ (n a b : Nat), a < n → (a ^^^ b) + 2 * (a &&& b) = a + b := by
  intro n
  induction n with
  | zero => intro a b h; omega
  | succ n ih =>
    intro a b h
    by_cases c : a = 0
    · subst c
      simp
    · have q := ih (a / 2) (b / 2) (by omega)
      have x1 : (a ^^^ b) / 2 = a / 2 ^^^ b / 2 := Nat.xor_div_two
      have x2 : (a &&& b) / 2 = a / 2 &&& b / 2 := Nat.and_div_two
      have y1 : (a ^^^ b) % 2 = 1 ↔ ¬ ((a % 2 = 1) ↔ (b % 2 = 1)) := Nat.xor_mod_two_eq_one
      have y2 : (a &&& b) % 2 = 1 ↔ a % 2 = 1 ∧ b % 2 = 1 := Nat.and_mod_two_eq_one
      rw [← x1, ← x2] at q
      omega
theorem bxor_nat (a b : Nat) : Builtin.bitXor (a : Int) (b : Int) = ((a ^^^ b : Nat) : Int) := by
  rw [PyProof.Rows.bitXor_and, band_nat]
  have := xor_add (a + 1) a b (by omega)
  omega
theorem bshr_nat (a n : Nat) : (a : Int) / (2 : Int) ^ n = ((a >>> n : Nat) : Int) := by
  rw [Nat.shiftRight_eq_div_pow, Int.natCast_ediv, Int.natCast_pow]
  rfl
theorem bshl_nat (n : Nat) : (1 : Int) * (2 : Int) ^ n = ((1 <<< n : Nat) : Int) := by
  rw [Nat.shiftLeft_eq, Int.natCast_mul, Int.natCast_pow]
  rfl
theorem band1_nat (a : Nat) : Builtin.bitAnd (a : Int) 1 = ((a % 2 : Nat) : Int) := by
  rw [show (1 : Int) = ((1 : Nat) : Int) from rfl, band_nat, Nat.and_one_is_mod]
theorem bit_at (a n : Nat) : Builtin.bitAnd ((a : Int) / (2 : Int) ^ n) 1 = (((a >>> n) % 2 : Nat) : Int) := by rw [bshr_nat, band1_nat]
theorem xor_lt {n a i : Nat} (h : a < 2 ^ n) (hi : i < n) : a ^^^ (1 <<< i) < 2 ^ n := by
  refine Nat.xor_lt_two_pow h ?_
  rw [Nat.shiftLeft_eq, Nat.one_mul]
  exact Nat.pow_lt_pow_right (by omega) hi
end Nm

namespace Nm
open PySem Px
/-! ### the bits of a lot -/
def bit (l k : Nat) : Bool := decide ((l >>> k) % 2 = 1)
def bits (n l : Nat) : List Nat := (List.range n).filter (bit l)
theorem bits_succ {n l : Nat} : bits (n + 1) l = bits n l ++ (if bit l n = true then [n] else []) := by
  unfold bits
  rw [List.range_succ, List.filter_append, List.filter_cons, List.filter_nil]
theorem mem_bits {n l k : Nat} : k ∈ bits n l ↔ k < n ∧ bit l k = true := by
  unfold bits
  rw [List.mem_filter, List.mem_range]
theorem shr_zero {l n : Nat} (h : l < 2 ^ n) : l >>> n = 0 := by rw [Nat.shiftRight_eq_div_pow]; exact Nat.div_eq_of_lt h
theorem bits_top {l t : Nat} : ∀ {n : Nat}, t ≤ n → l >>> t = 0 → bits n l = bits t l := by
  intro n
  induction n with
  | zero => intro h _; rw [show t = 0 by omega]
  | succ n ih =>
    intro h z
    by_cases c : t = n + 1
    · rw [c]
    · rw [bits_succ, ih (by omega) z]
      have : bit l n = false := by
        unfold bit
        have e : l >>> n = 0 := by
          rw [show n = t + (n - t) by omega, Nat.shiftRight_add, z, Nat.zero_shiftRight]
        rw [e]
        rfl
      rw [this]
      simp
theorem bit_test {m k : Nat} : bit m k = m.testBit k := by
  unfold bit
  rw [Nat.testBit_eq_decide_div_mod_eq, Nat.shiftRight_eq_div_pow]
theorem two_bits {m a b : Nat} (ha : bit m a = true) (hb : bit m b = true) (h : a < b) : 2 ^ a + 2 ^ b ≤ m := by
  have h1 : 2 ^ a ≤ m % 2 ^ b := Nat.ge_two_pow_of_testBit (by rw [Nat.testBit_mod_two_pow, decide_eq_true h, ← bit_test, ha]; rfl)
  have h2 : 1 ≤ m / 2 ^ b := by
    unfold bit at hb
    rw [Nat.shiftRight_eq_div_pow, decide_eq_true_eq] at hb
    generalize m / 2 ^ b = q at hb ⊢
    omega
  have h3 := Nat.div_add_mod m (2 ^ b)
  have h4 := Nat.mul_le_mul_left (2 ^ b) h2
  rw [Nat.mul_one] at h4
  generalize 2 ^ b * (m / 2 ^ b) = q at h3 h4
  generalize m % 2 ^ b = r at h1 h3
  generalize 2 ^ a = x at h1 ⊢
  generalize 2 ^ b = y at h4 ⊢
  omega
theorem bits_sorted {n m : Nat} : (bits n m).Pairwise (· < ·) := List.Pairwise.filter _ (List.pairwise_lt_range)
/-! ### polynomials, to be counted out -/
def evM (r : Nat → Int) : List Nat → Int
  | [] => 1
  | v :: m => r v * evM r m
def insV (v : Nat) : List Nat → List Nat
  | [] => [v]
  | w :: m => if v ≤ w then v :: w :: m else w :: insV v m
theorem evM_ins {r : Nat → Int} {v : Nat} : ∀ m, evM r (insV v m) = r v * evM r m
  | [] => rfl
  | w :: m => by
    unfold insV
    split
    · rfl
    · show r w * evM r (insV v m) = r v * (r w * evM r m)
      rw [evM_ins m, ← Int.mul_assoc, ← Int.mul_assoc, Int.mul_comm (r w)]
def mulM (a b : List Nat) : List Nat := a.foldr insV b
theorem evM_mul {r : Nat → Int} {b : List Nat} : ∀ a, evM r (mulM a b) = evM r a * evM r b
  | [] => by show evM r b = 1 * evM r b; rw [Int.one_mul]
  | v :: a => by
    show evM r (insV v (mulM a b)) = r v * evM r a * evM r b
    rw [evM_ins, evM_mul a, Int.mul_assoc]
abbrev Ply := List (Int × List Nat)
def evP (r : Nat → Int) : Ply → Int
  | [] => 0
  | t :: P => t.1 * evM r t.2 + evP r P
def addT (c : Int) (m : List Nat) : Ply → Ply
  | [] => [(c, m)]
  | t :: P => if t.2 = m then (t.1 + c, t.2) :: P else t :: addT c m P
theorem evP_addT {r : Nat → Int} {c : Int} {m : List Nat} : ∀ P, evP r (addT c m P) = c * evM r m + evP r P
  | [] => rfl
  | t :: P => by
    unfold addT
    split
    · rename_i h
      show (t.1 + c) * evM r t.2 + evP r P = _ + (t.1 * evM r t.2 + evP r P)
      rw [h, Int.add_mul]
      omega
    · show t.1 * evM r t.2 + evP r (addT c m P) = _ + (t.1 * evM r t.2 + evP r P)
      rw [evP_addT P]
      omega
def addP (P Q : Ply) : Ply := P.foldr (fun t a => addT t.1 t.2 a) Q
theorem evP_add {r : Nat → Int} {Q : Ply} : ∀ P, evP r (addP P Q) = evP r P + evP r Q
  | [] => by show evP r Q = 0 + evP r Q; omega
  | t :: P => by
    show evP r (addT t.1 t.2 (addP P Q)) = t.1 * evM r t.2 + evP r P + evP r Q
    rw [evP_addT, evP_add P]
    omega
def mulT (c : Int) (m : List Nat) (Q : Ply) : Ply := Q.map fun t => (c * t.1, mulM m t.2)
theorem evP_mulT {r : Nat → Int} {c : Int} {m : List Nat} : ∀ Q, evP r (mulT c m Q) = c * evM r m * evP r Q
  | [] => by show (0 : Int) = _ * 0; rw [Int.mul_zero]
  | t :: Q => by
    show c * t.1 * evM r (mulM m t.2) + evP r (mulT c m Q) = c * evM r m * (t.1 * evM r t.2 + evP r Q)
    rw [evP_mulT Q, evM_mul, Int.mul_add]
    congr 1
    grind
def mulP (P Q : Ply) : Ply := P.foldr (fun t a => addP (mulT t.1 t.2 Q) a) []
theorem evP_mul {r : Nat → Int} {Q : Ply} : ∀ P, evP r (mulP P Q) = evP r P * evP r Q
  | [] => by show (0 : Int) = 0 * _; rw [Int.zero_mul]
  | t :: P => by
    show evP r (addP (mulT t.1 t.2 Q) (mulP P Q)) = (t.1 * evM r t.2 + evP r P) * evP r Q
    rw [evP_add, evP_mulT, evP_mul P, Int.add_mul]
def isZ (P : Ply) : Bool := P.all fun t => decide (t.1 = 0)
theorem evP_z {r : Nat → Int} : ∀ {P : Ply}, isZ P = true → evP r P = 0
  | [], _ => rfl
  | t :: P, h => by
    unfold isZ at h
    rw [List.all_cons, Bool.and_eq_true, decide_eq_true_eq] at h
    show t.1 * evM r t.2 + evP r P = 0
    rw [h.1, evP_z (P := P) h.2]
    omega
/-! ### roots (Pfaffians) -/
def altS (g : Nat → Int) : Int → List Nat → Int
  | _, [] => 0
  | s, b :: r => s * g b + altS g (-s) r
def altP (g : Nat → Ply) : Int → List Nat → Ply
  | _, [] => []
  | s, b :: r => addP (mulT s [] (g b)) (altP g (-s) r)
theorem alt_ev {r : Nat → Int} {g : Nat → Ply} {h : Nat → Int} : ∀ (L : List Nat) (s : Int), (∀ b, b ∈ L → evP r (g b) = h b) → evP r (altP g s L) = altS h s L
  | [], s, _ => rfl
  | b :: L, s, e => by
    show evP r (addP (mulT s [] (g b)) (altP g (-s) L)) = s * h b + altS h (-s) L
    rw [evP_add, evP_mulT, alt_ev L (-s) (fun c hc => e c (List.mem_cons_of_mem _ hc)), e b (List.mem_cons_self ..)]
    show s * 1 * h b + _ = _
    rw [Int.mul_one]
def pfF (l : Nat → Nat → Int) : Nat → Nat → Int
  | 0, _ => 0
  | f + 1, m => match bits 6 m with
    | [] => 1
    | a :: r => altS (fun b => l a b * pfF l f (m - 2 ^ a - 2 ^ b)) 1 r
def pfP : Nat → Nat → Ply
  | 0, _ => []
  | f + 1, m => match bits 6 m with
    | [] => [(1, [])]
    | a :: r => altP (fun b => mulT 1 [6 * a + b] (pfP f (m - 2 ^ a - 2 ^ b))) 1 r
theorem pf_ev {l : Nat → Nat → Int} {r : Nat → Int} (hr : ∀ a b, a < 6 → b < 6 → r (6 * a + b) = l a b) : ∀ f m, evP r (pfP f m) = pfF l f m
  | 0, _ => rfl
  | f + 1, m => by
    unfold pfP pfF
    split
    · show 1 * 1 + 0 = (1 : Int)
      rfl
    · rename_i a L e
      refine alt_ev L 1 fun b hb => ?_
      have ha : a < 6 := (mem_bits.mp (show a ∈ bits 6 m by rw [e]; exact List.mem_cons_self ..)).1
      have hb : b < 6 := (mem_bits.mp (show b ∈ bits 6 m by rw [e]; exact List.mem_cons_of_mem _ hb)).1
      rw [evP_mulT, pf_ev hr f]
      show 1 * (r (6 * a + b) * 1) * _ = _
      rw [hr a b ha hb, Int.one_mul, Int.mul_one]
theorem altS_ext {g h : Nat → Int} : ∀ (L : List Nat) (s : Int), (∀ b, b ∈ L → g b = h b) → altS g s L = altS h s L
  | [], _, _ => rfl
  | b :: L, s, e => by
    show s * g b + altS g (-s) L = s * h b + altS h (-s) L
    rw [e b (List.mem_cons_self ..), altS_ext L (-s) fun c hc => e c (List.mem_cons_of_mem _ hc)]
/-- enough fuel is enough -/
theorem pf_fuel {l : Nat → Nat → Int} : ∀ (f g m : Nat), m < f → m < g → pfF l f m = pfF l g m
  | 0, _, _, h, _ => by omega
  | _ + 1, 0, _, _, h => by omega
  | f + 1, g + 1, m, h1, h2 => by
    unfold pfF
    split
    · rfl
    · rename_i a L e
      refine altS_ext L 1 fun b hb => ?_
      have sa := mem_bits.mp (show a ∈ bits 6 m by rw [e]; exact List.mem_cons_self ..)
      have hm : 1 ≤ m := by
        rcases Nat.eq_zero_or_pos m with z | z
        · rw [z] at sa
          have : bit 0 a = false := by unfold bit; rw [Nat.zero_shiftRight]; rfl
          rw [this] at sa
          cases sa.2
        · exact z
      have p1 := Nat.one_le_two_pow (n := a)
      have lt : m - 2 ^ a - 2 ^ b < m := by
        generalize 2 ^ a = u at p1 ⊢
        generalize 2 ^ b = v
        omega
      generalize m - 2 ^ a - 2 ^ b = q at lt ⊢
      rw [pf_fuel f g q (by omega) (by omega)]
def pf (l : Nat → Nat → Int) (m : Nat) : Int := pfF l (m + 1) m
def lawP (s t : Nat) : Ply := altP (fun k => mulP (pfP 33 (s ^^^ 1 <<< k)) (pfP 33 (t ^^^ 1 <<< k))) 1 (bits 6 (s ^^^ t))
theorem law_ok : ((List.range 32).all fun s => (List.range 32).all fun t => isZ (lawP s t)) = true := by decide +kernel
theorem pf_law {l : Nat → Nat → Int} {s t : Nat} (hs : s < 32) (ht : t < 32) : altS (fun k => pf l (s ^^^ 1 <<< k) * pf l (t ^^^ 1 <<< k)) 1 (bits 6 (s ^^^ t)) = 0 := by
  have z := List.all_eq_true.mp (List.all_eq_true.mp law_ok s (List.mem_range.mpr hs)) t (List.mem_range.mpr ht)
  have e := evP_z (r := fun v => l (v / 6) (v % 6)) z
  rw [← e]
  symm
  have hr : ∀ a b, a < 6 → b < 6 → (fun v => l (v / 6) (v % 6)) (6 * a + b) = l a b := fun a b _ hb => by
    show l ((6 * a + b) / 6) ((6 * a + b) % 6) = l a b
    rw [show (6 * a + b) / 6 = a by omega, show (6 * a + b) % 6 = b by omega]
  refine alt_ev _ 1 fun k hk => ?_
  have hd : s ^^^ t < 2 ^ 5 := Nat.xor_lt_two_pow hs ht
  have hk5 : k < 5 := by
    rw [bits_top (t := 5) (by omega) (shr_zero hd)] at hk
    exact (mem_bits.mp hk).1
  have x1 : s ^^^ 1 <<< k < 2 ^ 5 := xor_lt hs hk5
  have x2 : t ^^^ 1 <<< k < 2 ^ 5 := xor_lt ht hk5
  rw [evP_mul, pf_ev hr, pf_ev hr]
  unfold pf
  rw [pf_fuel 33 ((s ^^^ 1 <<< k) + 1) (s ^^^ 1 <<< k) (by omega) (by omega), pf_fuel 33 ((t ^^^ 1 <<< k) + 1) (t ^^^ 1 <<< k) (by omega) (by omega)]
end Nm

namespace Lw
open PySem L2 EL Px
def w_ulaw_draws (x_script : List Int) (x_count : Int) (k : Unit → Prop) (e : PErr → Prop) : Prop := (0 < x_count ∧ x_count ≤ 10000) ∧ x_script.length ≤ 63 ∧ k ()
def w_ulaw_next (x_dr x_at : Unit) (x_many : Int) (k : Int → Prop) (e : PErr → Prop) : Prop := 0 < x_many ∧ ∀ n : Int, 0 ≤ n → n < x_many → k n
def w_ulaw_upward (x_p : Int) (k : Int → Prop) (e : PErr → Prop) : Prop :=
  ((rgOk (0 : Int) (12 : Int)) ∧ (wFor (rangeL (0 : Int) (12 : Int)) (x_p) (fun (d100 : Int) (s91 : Int) (nx98 bk99 : (Int) → Prop) => (wComp [((3 : Int), (5 : Int), (7 : Int), (11 : Int), (13 : Int), (17 : Int), (19 : Int), (23 : Int), (29 : Int), (31 : Int)).1, ((3 : Int), (5 : Int), (7 : Int), (11 : Int), (13 : Int), (17 : Int), (19 : Int), (23 : Int), (29 : Int), (31 : Int)).2.1, ((3 : Int), (5 : Int), (7 : Int), (11 : Int), (13 : Int), (17 : Int), (19 : Int), (23 : Int), (29 : Int), (31 : Int)).2.2.1, ((3 : Int), (5 : Int), (7 : Int), (11 : Int), (13 : Int), (17 : Int), (19 : Int), (23 : Int), (29 : Int), (31 : Int)).2.2.2.1, ((3 : Int), (5 : Int), (7 : Int), (11 : Int), (13 : Int), (17 : Int), (19 : Int), (23 : Int), (29 : Int), (31 : Int)).2.2.2.2.1, ((3 : Int), (5 : Int), (7 : Int), (11 : Int), (13 : Int), (17 : Int), (19 : Int), (23 : Int), (29 : Int), (31 : Int)).2.2.2.2.2.1, ((3 : Int), (5 : Int), (7 : Int), (11 : Int), (13 : Int), (17 : Int), (19 : Int), (23 : Int), (29 : Int), (31 : Int)).2.2.2.2.2.2.1, ((3 : Int), (5 : Int), (7 : Int), (11 : Int), (13 : Int), (17 : Int), (19 : Int), (23 : Int), (29 : Int), (31 : Int)).2.2.2.2.2.2.2.1, ((3 : Int), (5 : Int), (7 : Int), (11 : Int), (13 : Int), (17 : Int), (19 : Int), (23 : Int), (29 : Int), (31 : Int)).2.2.2.2.2.2.2.2.1, ((3 : Int), (5 : Int), (7 : Int), (11 : Int), (13 : Int), (17 : Int), (19 : Int), (23 : Int), (29 : Int), (31 : Int)).2.2.2.2.2.2.2.2.2] (fun (d139 : Int) (nx148 : Option Bool → Prop) => ((0 < d139) ∧ (nx148 (some ((decide ((s91 % d139) > (0 : Int))) || (decide (s91 = d139))))))) (fun (zs178 : List Bool) => (Br (zs178.all id) (k s91) (wLet (s91 + (2 : Int)) fun (y194 : Int) => (nx98 (y194))))))) (fun (s104 : Int) => (k (997 : Int)))))
def w_ulaw_prime (x_cells : Unit) (x_at : Unit) (k : Int → Prop) (e : PErr → Prop) : Prop :=
  (w_ulaw_next x_cells x_at (8 : Int) (fun (r17 : Int) => ((inB ([(3 : Int), (5 : Int), (7 : Int), (11 : Int), (3 : Int), (7 : Int), (13 : Int), (0 : Int)] : List Int) r17) ∧ (wLet (ixG ([(3 : Int), (5 : Int), (7 : Int), (11 : Int), (3 : Int), (7 : Int), (13 : Int), (0 : Int)] : List Int) r17) fun (y23 : Int) => (Br (decide (y23 > (0 : Int))) (k y23) (w_ulaw_next x_cells x_at (498 : Int) (fun (r25 : Int) => ((CMul (2 : Int) r25) ∧ (w_ulaw_upward ((3 : Int) + ((2 : Int) * r25)) (fun (r31 : Int) => (k r31)) e))) e))))) e)
def w_ulaw_residue (x_cells : Unit) (x_at : Unit) (x_p : Int) (k : Int → Prop) (e : PErr → Prop) : Prop :=
  (w_ulaw_next x_cells x_at (4 : Int) (fun (r1 : Int) => (Br (decide (r1 = (0 : Int))) (k (0 : Int)) (w_ulaw_next x_cells x_at x_p (fun (r8 : Int) => (k r8)) e))) e)
def w_ulaw_base (x_cells : Unit) (x_at : Unit) (x_p : Int) (k : ((Int × Int) × (Int × Int)) → Prop) (e : PErr → Prop) : Prop :=
  (w_ulaw_residue x_cells x_at x_p (fun (r1 : Int) => (w_ulaw_residue x_cells x_at x_p (fun (r7 : Int) => (w_ulaw_residue x_cells x_at x_p (fun (r13 : Int) => (w_ulaw_residue x_cells x_at x_p (fun (r19 : Int) => (wJoin (fun (j29 : Int → Prop) => (Br ((decide (r1 = (0 : Int))) && (decide (r7 = (0 : Int)))) (j29 (1 : Int)) (j29 r1))) (fun (s28 : Int) => (wJoin (fun (j46 : (Int × Int) → Prop) => ((CMul s28 r19) ∧ ((CMul r7 r13) ∧ ((0 < x_p) ∧ (Br ((decide ((((s28 * r19) - (r7 * r13)) % x_p) = (0 : Int))) && (!(decide (s28 = (0 : Int))))) ((0 < x_p) ∧ (wLet ((r19 + (1 : Int)) % x_p) fun (y56 : Int) => (j46 (r13, y56)))) ((CMul s28 r19) ∧ ((CMul r7 r13) ∧ ((0 < x_p) ∧ (Br (decide ((((s28 * r19) - (r7 * r13)) % x_p) = (0 : Int))) ((0 < x_p) ∧ (wLet ((r13 + (1 : Int)) % x_p) fun (y58 : Int) => (j46 (y58, r19)))) (j46 (r13, r19))))))))))) (fun (s45 : Int × Int) => (k ((s28, r7), (s45.1, s45.2)))))))) e)) e)) e)) e)
def w_check_number (x_number : Int) (x_low : Int) (x_high : Int) (k : Unit → Prop) (e : PErr → Prop) : Prop :=
  (Br ((decide (x_number < x_low)) || (decide (x_number > x_high))) (e ⟨2, [("number", (.int x_number))]⟩) (k ()))
def w_is_odd_prime (x_number : Int) (k : Bool → Prop) (e : PErr → Prop) : Prop :=
  (w_check_number x_number (0 : Int) (997 : Int) (fun (r1 : Unit) => (((decide (x_number < (3 : Int))) = false → (0 < (2 : Int))) ∧ (Br ((decide (x_number < (3 : Int))) || (decide ((x_number % (2 : Int)) = (0 : Int)))) (k false) (wWhile ((3 : Int)) (fun (s17 : Int) (nx23 bk24 : (Int) → Prop) => ((CMul s17 s17) ∧ (Br (decide ((s17 * s17) ≤ x_number)) ((0 < s17) ∧ (Br (decide ((x_number % s17) = (0 : Int))) (k false) (wLet (s17 + (2 : Int)) fun (y29 : Int) => (nx23 (y29))))) (bk24 s17)))) (fun (s17 : Int) => (k true)))))) e)
def w_look_prime (x_prime : Int) (k : Unit → Prop) (e : PErr → Prop) : Prop :=
  (w_is_odd_prime x_prime (fun (r1 : Bool) => (Br (!r1) (e ⟨2, [("number", (.int x_prime))]⟩) (k ()))) e)
def w_look_residue (x_prime : Int) (x_number : Int) (k : Unit → Prop) (e : PErr → Prop) : Prop :=
  (Br ((decide (x_number < (0 : Int))) || (decide (x_number ≥ x_prime))) (e ⟨2, [("number", (.int x_number))]⟩) (k ()))
def w_look_pair (x_prime : Int) (x_pair : (Int × Int)) (k : Unit → Prop) (e : PErr → Prop) : Prop :=
  (wFor [x_pair.1, x_pair.2] (()) (fun (d28 : Int) (s19 : Unit) (nx26 bk27 : (Unit) → Prop) => (w_look_residue x_prime d28 (fun (r39 : Unit) => (nx26 (()))) e)) (fun (s32 : Unit) => (k ())))
def w_cross_product (x_prime : Int) (x_first : (Int × Int)) (x_second : (Int × Int)) (k : Int → Prop) (e : PErr → Prop) : Prop :=
  ((CMul x_first.1 x_second.2) ∧ ((CMul x_first.2 x_second.1) ∧ ((0 < x_prime) ∧ (k (((x_first.1 * x_second.2) - (x_first.2 * x_second.1)) % x_prime)))))
def w_Base_init (x_prime : Int) (x_first : (Int × Int)) (x_second : (Int × Int)) (k : (Int × (Int × Int) × (Int × Int)) → Prop) (e : PErr → Prop) : Prop :=
  (w_look_prime x_prime (fun (r1 : Unit) => (w_look_pair x_prime x_first (fun (r8 : Unit) => (w_look_pair x_prime x_second (fun (r15 : Unit) => (w_cross_product x_prime x_first x_second (fun (r22 : Int) => (Br (decide (r22 = (0 : Int))) (e ⟨21, []⟩) (k (x_prime, x_first, x_second)))) e)) e)) e)) e)
def w_ulaw_frames (x_p : Int) (k : (List (Int × Int)) → Prop) (e : PErr → Prop) : Prop :=
  (wLet ([] : List (Int × Int)) fun (y14 : List (Int × Int)) => ((rgOk (0 : Int) (x_p + (1 : Int))) ∧ (wFor (rangeL (0 : Int) (x_p + (1 : Int))) (y14) (fun (d236 : Int) (s220 : (List (Int × Int))) (nx234 bk235 : ((List (Int × Int))) → Prop) => ((rgOk (d236 + (1 : Int)) (x_p + (1 : Int))) ∧ ((Int.toNat ((x_p + (1 : Int)) - (d236 + (1 : Int))) ≤ LIM) ∧ (wComp (rangeL (d236 + (1 : Int)) (x_p + (1 : Int))) (fun (d255 : Int) (nx264 : Option (Int × Int) → Prop) => (nx264 (some (d236, d255)))) (fun (zs310 : List (Int × Int)) => ((s220.length + zs310.length ≤ LIM) ∧ (wLet (s220 ++ zs310) fun (y341 : List (Int × Int)) => (nx234 (y341))))))))) (fun (s240 : (List (Int × Int))) => (k s240)))))
def w_ulaw_some (x_cells : Unit) (x_at : Unit) (x_p : Int) (k : ((List Int) × (List (Int × Int))) → Prop) (e : PErr → Prop) : Prop :=
  (Br (decide (x_p < (8 : Int))) ((0 ≤ (x_p + (1 : Int)) ∧ (x_p + (1 : Int)) ≤ 1000000) ∧ (w_ulaw_frames x_p (fun (r19 : (List (Int × Int))) => (k ((rangeL (0 : Int) (x_p + (1 : Int))), r19))) e)) (wLet ([(0 : Int), (1 : Int), (x_p - (1 : Int)), x_p] : List Int) fun (y59 : List Int) => (wLet ([((0 : Int), x_p), ((0 : Int), (1 : Int)), ((x_p - (1 : Int)), x_p), ((1 : Int), (x_p - (1 : Int)))] : List (Int × Int)) fun (y116 : List (Int × Int)) => ((rgOk (0 : Int) (5 : Int)) ∧ (wFor (rangeL (0 : Int) (5 : Int)) ((y59, y116)) (fun (d267 : Int) (s249 : (List Int) × (List (Int × Int))) (nx265 bk266 : ((List Int) × (List (Int × Int))) → Prop) => (w_ulaw_next x_cells x_at x_p (fun (r287 : Int) => ((s249.1.length < LIM) ∧ (wLet (s249.1 ++ [r287]) fun (y305 : List Int) => (w_ulaw_next x_cells x_at (x_p - r287) (fun (r308 : Int) => ((s249.2.length < LIM) ∧ (wLet (s249.2 ++ [(r287, ((r287 + (1 : Int)) + r308))]) fun (y337 : List (Int × Int)) => (nx265 ((y305, y337)))))) e)))) e)) (fun (s271 : (List Int) × (List (Int × Int))) => (k (s271.1, s271.2))))))))
def w_look_number (x_number : Int) (x_low : Int) (x_high : Int) (k : Unit → Prop) (e : PErr → Prop) : Prop :=
  (Br ((decide (x_number < x_low)) || (decide (x_number > x_high))) (e ⟨2, [("number", (.int x_number))]⟩) (k ()))
def w_point_vector (x_prime : Int) (x_point : Int) (k : (Int × Int) → Prop) (e : PErr → Prop) : Prop :=
  (w_look_prime x_prime (fun (r1 : Unit) => (w_look_number x_point (0 : Int) x_prime (fun (r7 : Unit) => (Br (decide (x_point = x_prime)) (k ((0 : Int), (1 : Int))) (k ((1 : Int), x_point)))) e)) e)
def w_check_prime (x_prime : Int) (k : Unit → Prop) (e : PErr → Prop) : Prop :=
  (w_is_odd_prime x_prime (fun (r1 : Bool) => (Br (!r1) (e ⟨2, [("number", (.int x_prime))]⟩) (k ()))) e)
def w_inverse (x_prime : Int) (x_number : Int) (k : Int → Prop) (e : PErr → Prop) : Prop :=
  (w_check_prime x_prime (fun (r1 : Unit) => (w_check_number x_number (1 : Int) (x_prime - (1 : Int)) (fun (r7 : Unit) => (wWhile ((x_number, x_prime, ((1 : Int), (0 : Int)).1, ((1 : Int), (0 : Int)).2)) (fun (s37 : Int × Int × Int × Int) (nx44 bk45 : (Int × Int × Int × Int) → Prop) => (Br (decide (s37.1 > (1 : Int))) ((CDiv s37.2.1 s37.1) ∧ (wLet (s37.2.1 / s37.1) fun (y49 : Int) => ((CMul y49 s37.1) ∧ (wLet (s37.2.1 - (y49 * s37.1)) fun (y50 : Int) => (wLet s37.1 fun (y51 : Int) => ((CMul y49 s37.2.2.1) ∧ (wLet (s37.2.2.2 - (y49 * s37.2.2.1)) fun (y52 : Int) => (wLet s37.2.2.1 fun (y53 : Int) => (nx44 ((y50, y51, y52, y53))))))))))) (bk45 s37))) (fun (s37 : Int × Int × Int × Int) => ((0 < x_prime) ∧ (k (s37.2.2.1 % x_prime)))))) e)) e)
def w_point_of (x_prime : Int) (x_vector : (Int × Int)) (k : Int → Prop) (e : PErr → Prop) : Prop :=
  (w_look_prime x_prime (fun (r1 : Unit) => (w_look_pair x_prime x_vector (fun (r7 : Unit) => (Br (!(decide (x_vector.1 = (0 : Int)))) (w_inverse x_prime x_vector.1 (fun (r18 : Int) => ((CMul x_vector.2 r18) ∧ ((0 < x_prime) ∧ (k ((x_vector.2 * r18) % x_prime))))) e) (Br (decide (x_vector.2 = (0 : Int))) (e ⟨20, []⟩) (k x_prime)))) e)) e)
def w_crossed_point (x_prime : Int) (x_point : Int) (k : Int → Prop) (e : PErr → Prop) : Prop :=
  (w_look_prime x_prime (fun (r1 : Unit) => (w_look_number x_point (0 : Int) x_prime (fun (r7 : Unit) => (w_point_vector x_prime x_point (fun (r13 : (Int × Int)) => ((0 < x_prime) ∧ (w_point_of x_prime (((-r13.2) % x_prime), r13.1) (fun (r34 : Int) => (k r34)) e))) e)) e)) e)
def w_ulaw_whole (x_x : Int) (k : Bool → Prop) (e : PErr → Prop) : Prop :=
  (k (true && (!false)))
def w_ulaw_vector (x_p : Int) (x_point : Int) (k : (Int × Int) → Prop) (e : PErr → Prop) : Prop :=
  (wJoin (fun (j25 : (Int × Int) → Prop) => (Br (decide (x_point = x_p)) (j25 ((0 : Int), (1 : Int))) (j25 ((1 : Int), x_point)))) (fun (d26 : (Int × Int)) => (k d26)))
def w_ulaw_point (x_p : Int) (x_vector : (Int × Int)) (k : Int → Prop) (e : PErr → Prop) : Prop :=
  ((rgOk (0 : Int) x_p) ∧ (wFor (rangeL (0 : Int) x_p) (()) (fun (d23 : Int) (s14 : Unit) (nx21 bk22 : (Unit) → Prop) => (((!(decide (x_vector.1 = (0 : Int)))) = true → (CMul x_vector.1 d23)) ∧ (((!(decide (x_vector.1 = (0 : Int)))) = true → (0 < x_p)) ∧ (Br ((!(decide (x_vector.1 = (0 : Int)))) && (decide (((x_vector.1 * d23) % x_p) = x_vector.2))) (k d23) (nx21 (())))))) (fun (s27 : Unit) => (k x_p))))
def w_ulaw_crossed (x_p : Int) (x_point : Int) (k : Int → Prop) (e : PErr → Prop) : Prop :=
  (w_ulaw_vector x_p x_point (fun (r1 : (Int × Int)) => ((0 < x_p) ∧ (w_ulaw_point x_p ((((0 : Int) - r1.2) % x_p), r1.1) (fun (r22 : Int) => (k r22)) e))) e)
def w_look_frame (x_prime : Int) (x_frame : (Int × Int)) (k : Unit → Prop) (e : PErr → Prop) : Prop :=
  (wFor [x_frame.1, x_frame.2] (()) (fun (d28 : Int) (s19 : Unit) (nx26 bk27 : (Unit) → Prop) => (w_look_number d28 (0 : Int) x_prime (fun (r39 : Unit) => (nx26 (()))) e)) (fun (s32 : Unit) => (Br (decide (x_frame.2 ≤ x_frame.1)) (e ⟨2, [("number", (.int x_frame.2))]⟩) (k ()))))
def w_ordered (x_first : Int) (x_second : Int) (k : (Int × Int) → Prop) (e : PErr → Prop) : Prop :=
  (k ((minI x_first x_second), (maxI x_first x_second)))
def w_crossed_frame (x_prime : Int) (x_frame : (Int × Int)) (k : (Int × Int) → Prop) (e : PErr → Prop) : Prop :=
  (w_look_prime x_prime (fun (r1 : Unit) => (w_look_frame x_prime x_frame (fun (r7 : Unit) => (w_crossed_point x_prime x_frame.1 (fun (r13 : Int) => (w_crossed_point x_prime x_frame.2 (fun (r19 : Int) => (w_ordered r13 r19 (fun (r25 : (Int × Int)) => (k r25)) e)) e)) e)) e)) e)
def w_ulaw_pair (x_told : (Int × Int)) (x_due : (Int × Int)) (k : Bool → Prop) (e : PErr → Prop) : Prop :=
  (wJoin (fun (j1 : Bool → Prop) => (Br (!true) (j1 true) (wComp [x_told.1, x_told.2] (fun (d7 : Int) (nx16 : Option Bool → Prop) => (w_ulaw_whole d7 (fun (r50 : Bool) => (nx16 (some r50))) (fun _ => False))) (fun (zs62 : List Bool) => (j1 (!(zs62.all id))))))) (fun (b2 : Bool) => (Br b2 (k false) (k (decide (x_told = x_due))))))
def w_look_same_prime (x_prime : Int) (x_thing : (Int × (Int × Int) × (Int × Int))) (k : Unit → Prop) (e : PErr → Prop) : Prop :=
  (Br (!(decide (x_thing.1 = x_prime))) (e ⟨8, [("prime", (.int x_thing.1))]⟩) (k ()))
def w_Base_moved (x_self : (Int × (Int × Int) × (Int × Int))) (x_vector : (Int × Int)) (k : (Int × Int) → Prop) (e : PErr → Prop) : Prop :=
  (w_look_pair x_self.1 x_vector (fun (r1 : Unit) => ((CMul x_vector.1 x_self.2.1.1) ∧ ((CMul x_vector.2 x_self.2.2.1) ∧ ((0 < x_self.1) ∧ ((CMul x_vector.1 x_self.2.1.2) ∧ ((CMul x_vector.2 x_self.2.2.2) ∧ ((0 < x_self.1) ∧ (k ((((x_vector.1 * x_self.2.1.1) + (x_vector.2 * x_self.2.2.1)) % x_self.1), (((x_vector.1 * x_self.2.1.2) + (x_vector.2 * x_self.2.2.2)) % x_self.1)))))))))) e)
def w_moved_frame (x_prime : Int) (x_frame : (Int × Int)) (x_base : (Int × (Int × Int) × (Int × Int))) (k : (Int × Int) → Prop) (e : PErr → Prop) : Prop :=
  (w_look_prime x_prime (fun (r1 : Unit) => (w_look_frame x_prime x_frame (fun (r7 : Unit) => (w_look_same_prime x_prime x_base (fun (r13 : Unit) => (w_point_vector x_prime x_frame.1 (fun (r19 : (Int × Int)) => (w_Base_moved x_base r19 (fun (r27 : (Int × Int)) => (w_point_vector x_prime x_frame.2 (fun (r35 : (Int × Int)) => (w_Base_moved x_base r35 (fun (r43 : (Int × Int)) => (w_point_of x_prime r27 (fun (r51 : Int) => (w_point_of x_prime r43 (fun (r57 : Int) => (w_ordered r51 r57 (fun (r63 : (Int × Int)) => (k r63)) e)) e)) e)) e)) e)) e)) e)) e)) e)) e)
def w_ulaw_mixed (x_p : Int) (x_one : ((Int × Int) × (Int × Int))) (x_vector : (Int × Int)) (k : (Int × Int) → Prop) (e : PErr → Prop) : Prop :=
  ((CMul x_vector.1 x_one.1.1) ∧ ((CMul x_vector.2 x_one.2.1) ∧ ((0 < x_p) ∧ (wLet (((x_vector.1 * x_one.1.1) + (x_vector.2 * x_one.2.1)) % x_p) fun (y9 : Int) => ((CMul x_vector.1 x_one.1.2) ∧ ((CMul x_vector.2 x_one.2.2) ∧ ((0 < x_p) ∧ (k (y9, (((x_vector.1 * x_one.1.2) + (x_vector.2 * x_one.2.2)) % x_p))))))))))
def w_ulaw_moved (x_p : Int) (x_frame : (Int × Int)) (x_one : ((Int × Int) × (Int × Int))) (k : (Int × Int) → Prop) (e : PErr → Prop) : Prop :=
  (w_ulaw_vector x_p x_frame.1 (fun (r1 : (Int × Int)) => (w_ulaw_mixed x_p x_one r1 (fun (r9 : (Int × Int)) => (w_ulaw_point x_p r9 (fun (r17 : Int) => (w_ulaw_vector x_p x_frame.2 (fun (r23 : (Int × Int)) => (w_ulaw_mixed x_p x_one r23 (fun (r31 : (Int × Int)) => (w_ulaw_point x_p r31 (fun (r39 : Int) => (k ((minI r17 r39), (maxI r17 r39)))) e)) e)) e)) e)) e)) e)
def w_Base_back (x_self : (Int × (Int × Int) × (Int × Int))) (k : (Int × (Int × Int) × (Int × Int)) → Prop) (e : PErr → Prop) : Prop :=
  (w_cross_product x_self.1 x_self.2.1 x_self.2.2 (fun (r17 : Int) => (w_inverse x_self.1 r17 (fun (r23 : Int) => ((CMul x_self.2.2.2 r23) ∧ ((0 < x_self.1) ∧ ((CMul (-x_self.2.1.2) r23) ∧ ((0 < x_self.1) ∧ ((CMul (-x_self.2.2.1) r23) ∧ ((0 < x_self.1) ∧ ((CMul x_self.2.1.1 r23) ∧ ((0 < x_self.1) ∧ (w_Base_init x_self.1 (((x_self.2.2.2 * r23) % x_self.1), (((-x_self.2.1.2) * r23) % x_self.1)) ((((-x_self.2.2.1) * r23) % x_self.1), ((x_self.2.1.1 * r23) % x_self.1)) (fun (r56 : (Int × (Int × Int) × (Int × Int))) => (k r56)) e)))))))))) e)) e)
def w_ulaw_asked (x_which : Int) (x_p : Int) (x_thing : (Int ⊕ (Int × Int))) (x_base : (Int × (Int × Int) × (Int × Int))) (k : (Str × (Int ⊕ (List (Str × Int)) ⊕ (Int × Int))) → Prop) (e : PErr → Prop) : Prop :=
  (Br (decide (x_which = (0 : Int))) ((x_thing.isLeft = true) ∧ (w_crossed_point x_p (sGL x_thing) (fun (r2 : Int) => (k ((Str.ofString "told"), (Sum.inl r2 : (Int ⊕ (List (Str × Int)) ⊕ (Int × Int)))))) (fun (er5 : PErr) => (wLet ([] : List (Str × Int)) fun (y29 : List (Str × Int)) => (wJoin (fun (j58 : ((List (Str × Int))) → Prop) => (Br (decide (er5.cls = 2)) (∃ z70 : Int, er5 = (⟨2, [("number", .int z70)]⟩ : PErr) ∧ ((y29.length < LIM) ∧ (wLet (y29 ++ [((Str.ofString "number"), z70)]) fun (y91 : List (Str × Int)) => (j58 y91)))) (j58 y29))) (fun (s57 : (List (Str × Int))) => (wJoin (fun (j120 : ((List (Str × Int))) → Prop) => (Br (decide (er5.cls = 8)) (∃ z132 : Int, er5 = (⟨8, [("prime", .int z132)]⟩ : PErr) ∧ ((s57.length < LIM) ∧ (wLet (s57 ++ [((Str.ofString "prime"), z132)]) fun (y153 : List (Str × Int)) => (j120 y153)))) (j120 s57))) (fun (s119 : (List (Str × Int))) => (wJoin (fun (j185 : ((List (Str × Int))) → Prop) => (Br ((decide (er5.cls = 1)) || ((decide (er5.cls = 21)) || (!true))) ((s119.length < LIM) ∧ (wLet (s119 ++ [((Str.ofString "other"), (0 : Int))]) fun (y221 : List (Str × Int)) => (j185 y221))) (j185 s119))) (fun (s184 : (List (Str × Int))) => (k ((Str.ofString "refused"), (Sum.inr (Sum.inl s184 : ((List (Str × Int)) ⊕ (Int × Int))) : (Int ⊕ (List (Str × Int)) ⊕ (Int × Int))))))))))))))) (Br (decide (x_which = (1 : Int))) ((x_thing.isRight = true) ∧ (w_crossed_frame x_p (sGR x_thing) (fun (r249 : (Int × Int)) => (k ((Str.ofString "told"), (Sum.inr (Sum.inr r249 : ((List (Str × Int)) ⊕ (Int × Int))) : (Int ⊕ (List (Str × Int)) ⊕ (Int × Int)))))) (fun (er252 : PErr) => (wLet ([] : List (Str × Int)) fun (y276 : List (Str × Int)) => (wJoin (fun (j305 : ((List (Str × Int))) → Prop) => (Br (decide (er252.cls = 2)) (∃ z317 : Int, er252 = (⟨2, [("number", .int z317)]⟩ : PErr) ∧ ((y276.length < LIM) ∧ (wLet (y276 ++ [((Str.ofString "number"), z317)]) fun (y338 : List (Str × Int)) => (j305 y338)))) (j305 y276))) (fun (s304 : (List (Str × Int))) => (wJoin (fun (j367 : ((List (Str × Int))) → Prop) => (Br (decide (er252.cls = 8)) (∃ z379 : Int, er252 = (⟨8, [("prime", .int z379)]⟩ : PErr) ∧ ((s304.length < LIM) ∧ (wLet (s304 ++ [((Str.ofString "prime"), z379)]) fun (y400 : List (Str × Int)) => (j367 y400)))) (j367 s304))) (fun (s366 : (List (Str × Int))) => (wJoin (fun (j432 : ((List (Str × Int))) → Prop) => (Br ((decide (er252.cls = 1)) || ((decide (er252.cls = 21)) || (!true))) ((s366.length < LIM) ∧ (wLet (s366 ++ [((Str.ofString "other"), (0 : Int))]) fun (y468 : List (Str × Int)) => (j432 y468))) (j432 s366))) (fun (s431 : (List (Str × Int))) => (k ((Str.ofString "refused"), (Sum.inr (Sum.inl s431 : ((List (Str × Int)) ⊕ (Int × Int))) : (Int ⊕ (List (Str × Int)) ⊕ (Int × Int))))))))))))))) ((x_thing.isRight = true) ∧ (w_moved_frame x_p (sGR x_thing) x_base (fun (r497 : (Int × Int)) => (k ((Str.ofString "told"), (Sum.inr (Sum.inr r497 : ((List (Str × Int)) ⊕ (Int × Int))) : (Int ⊕ (List (Str × Int)) ⊕ (Int × Int)))))) (fun (er500 : PErr) => (wLet ([] : List (Str × Int)) fun (y524 : List (Str × Int)) => (wJoin (fun (j553 : ((List (Str × Int))) → Prop) => (Br (decide (er500.cls = 2)) (∃ z565 : Int, er500 = (⟨2, [("number", .int z565)]⟩ : PErr) ∧ ((y524.length < LIM) ∧ (wLet (y524 ++ [((Str.ofString "number"), z565)]) fun (y586 : List (Str × Int)) => (j553 y586)))) (j553 y524))) (fun (s552 : (List (Str × Int))) => (wJoin (fun (j615 : ((List (Str × Int))) → Prop) => (Br (decide (er500.cls = 8)) (∃ z627 : Int, er500 = (⟨8, [("prime", .int z627)]⟩ : PErr) ∧ ((s552.length < LIM) ∧ (wLet (s552 ++ [((Str.ofString "prime"), z627)]) fun (y648 : List (Str × Int)) => (j615 y648)))) (j615 s552))) (fun (s614 : (List (Str × Int))) => (wJoin (fun (j680 : ((List (Str × Int))) → Prop) => (Br ((decide (er500.cls = 1)) || ((decide (er500.cls = 21)) || (!true))) ((s614.length < LIM) ∧ (wLet (s614 ++ [((Str.ofString "other"), (0 : Int))]) fun (y716 : List (Str × Int)) => (j680 y716))) (j680 s614))) (fun (s679 : (List (Str × Int))) => (k ((Str.ofString "refused"), (Sum.inr (Sum.inl s679 : ((List (Str × Int)) ⊕ (Int × Int))) : (Int ⊕ (List (Str × Int)) ⊕ (Int × Int)))))))))))))))))
def w_ulaw_refused (x_cells : Unit) (x_at : Unit) (x_p : Int) (x_one : ((Int × Int) × (Int × Int))) (k : Bool → Prop) (e : PErr → Prop) : Prop :=
  (w_Base_init x_p x_one.1 x_one.2 (fun (r14 : (Int × (Int × Int) × (Int × Int))) => (w_ulaw_next x_cells x_at (11 : Int) (fun (r42 : Int) => ((inB ([(0 : Int), (1 : Int), (2 : Int), (4 : Int), (9 : Int), (49 : Int), (961 : Int), (998 : Int), (999 : Int), (1009 : Int), ((0 : Int) - (5 : Int))] : List Int) r42) ∧ (wLet (ixG ([(0 : Int), (1 : Int), (2 : Int), (4 : Int), (9 : Int), (49 : Int), (961 : Int), (998 : Int), (999 : Int), (1009 : Int), ((0 : Int) - (5 : Int))] : List Int) r42) fun (y48 : Int) => (w_ulaw_next x_cells x_at (99 : Int) (fun (r49 : Int) => (wLet ([(x_p + (1 : Int)), ((0 : Int) - (1 : Int)), ((x_p + (1 : Int)) + r49)] : List Int) fun (y71 : (List Int)) => (w_ulaw_next x_cells x_at (3 : Int) (fun (r73 : Int) => ((inB y71 r73) ∧ (wLet (ixG y71 r73) fun (y79 : Int) => (w_ulaw_next x_cells x_at (x_p + (1 : Int)) (fun (r80 : Int) => (w_ulaw_next x_cells x_at (r80 + (1 : Int)) (fun (r86 : Int) => (wLet (cond (decide (x_p = (3 : Int))) (7 : Int) (3 : Int)) fun (y94 : Int) => (w_Base_init y94 ((1 : Int), (0 : Int)) ((0 : Int), (1 : Int)) (fun (r122 : (Int × (Int × Int) × (Int × Int))) => (wLet ([((0 : Int), x_p, (Sum.inl y79 : (Int ⊕ (Int × Int))), ((Str.ofString "number"), y79)), ((0 : Int), y48, (Sum.inl y79 : (Int ⊕ (Int × Int))), ((Str.ofString "number"), y48))] : List (Int × Int × (Int ⊕ (Int × Int)) × (Str × Int))) fun (y183 : List (Int × Int × (Int ⊕ (Int × Int)) × (Str × Int))) => (wFor [((1 : Int), (2 : Int)).1, ((1 : Int), (2 : Int)).2] (y183) (fun (d628 : Int) (s615 : (List (Int × Int × (Int ⊕ (Int × Int)) × (Str × Int)))) (nx626 bk627 : ((List (Int × Int × (Int ⊕ (Int × Int)) × (Str × Int)))) → Prop) => ((s615.length < LIM) ∧ (wLet (s615 ++ [(d628, y48, (Sum.inr (r80, r86) : (Int ⊕ (Int × Int))), ((Str.ofString "number"), y48))]) fun (y682 : List (Int × Int × (Int ⊕ (Int × Int)) × (Str × Int))) => ((y682.length < LIM) ∧ (wLet (y682 ++ [(d628, x_p, (Sum.inr (r80, r86) : (Int ⊕ (Int × Int))), ((Str.ofString "number"), r86))]) fun (y724 : List (Int × Int × (Int ⊕ (Int × Int)) × (Str × Int))) => ((y724.length < LIM) ∧ (wLet (y724 ++ [(d628, x_p, (Sum.inr (y79, r86) : (Int ⊕ (Int × Int))), ((Str.ofString "number"), y79))]) fun (y766 : List (Int × Int × (Int ⊕ (Int × Int)) × (Str × Int))) => ((y766.length < LIM) ∧ (wLet (y766 ++ [(d628, x_p, (Sum.inr (r80, y79) : (Int ⊕ (Int × Int))), ((Str.ofString "number"), y79))]) fun (y808 : List (Int × Int × (Int ⊕ (Int × Int)) × (Str × Int))) => (nx626 (y808))))))))))) (fun (s632 : (List (Int × Int × (Int ⊕ (Int × Int)) × (Str × Int)))) => (wFor s632 (()) (fun (d938 : (Int × Int × (Int ⊕ (Int × Int)) × (Str × Int))) (s925 : Unit) (nx936 bk937 : (Unit) → Prop) => (w_ulaw_asked d938.1 d938.2.1 d938.2.2.1 r14 (fun (r965 : (Str × (Int ⊕ (List (Str × Int)) ⊕ (Int × Int)))) => ((((PyData.str r965.1).canLay0 = true) ∧ ((Sum.elim (fun z => True) (Sum.elim (fun z => (∀ x ∈ z, (((PyData.str x.1).canLay0 = true) ∧ True))) (fun z => (True ∧ True)))) r965.2)) ∧ ((((PyData.str ((fun d => ((fun d => d) d.1, (fun d => (Sum.inr (Sum.inl ((fun d => d) d) : ((List (Str × Int)) ⊕ (Int × Int))) : (Int ⊕ (List (Str × Int)) ⊕ (Int × Int)))) d.2)) ((Str.ofString "refused"), ([d938.2.2.2] : List (Str × Int)))).1).canLay0 = true) ∧ ((Sum.elim (fun z => True) (Sum.elim (fun z => (∀ x ∈ z, (((PyData.str x.1).canLay0 = true) ∧ True))) (fun z => (True ∧ True)))) ((fun d => ((fun d => d) d.1, (fun d => (Sum.inr (Sum.inl ((fun d => d) d) : ((List (Str × Int)) ⊕ (Int × Int))) : (Int ⊕ (List (Str × Int)) ⊕ (Int × Int)))) d.2)) ((Str.ofString "refused"), ([d938.2.2.2] : List (Str × Int)))).2)) ∧ (Br (!(decide (r965 = ((fun d => ((fun d => d) d.1, (fun d => (Sum.inr (Sum.inl ((fun d => d) d) : ((List (Str × Int)) ⊕ (Int × Int))) : (Int ⊕ (List (Str × Int)) ⊕ (Int × Int)))) d.2)) ((Str.ofString "refused"), ([d938.2.2.2] : List (Str × Int))))))) (k false) (wJoin (fun (j1002 : Bool → Prop) => (Br (decide (d938.1 = (2 : Int))) (w_ulaw_asked (2 : Int) d938.2.1 d938.2.2.1 r122 (fun (r1007 : (Str × (Int ⊕ (List (Str × Int)) ⊕ (Int × Int)))) => ((((PyData.str r1007.1).canLay0 = true) ∧ ((Sum.elim (fun z => True) (Sum.elim (fun z => (∀ x ∈ z, (((PyData.str x.1).canLay0 = true) ∧ True))) (fun z => (True ∧ True)))) r1007.2)) ∧ ((((PyData.str ((fun d => ((fun d => d) d.1, (fun d => (Sum.inr (Sum.inl ((fun d => d) d) : ((List (Str × Int)) ⊕ (Int × Int))) : (Int ⊕ (List (Str × Int)) ⊕ (Int × Int)))) d.2)) ((Str.ofString "refused"), ([d938.2.2.2] : List (Str × Int)))).1).canLay0 = true) ∧ ((Sum.elim (fun z => True) (Sum.elim (fun z => (∀ x ∈ z, (((PyData.str x.1).canLay0 = true) ∧ True))) (fun z => (True ∧ True)))) ((fun d => ((fun d => d) d.1, (fun d => (Sum.inr (Sum.inl ((fun d => d) d) : ((List (Str × Int)) ⊕ (Int × Int))) : (Int ⊕ (List (Str × Int)) ⊕ (Int × Int)))) d.2)) ((Str.ofString "refused"), ([d938.2.2.2] : List (Str × Int)))).2)) ∧ (j1002 (!(decide (r1007 = ((fun d => ((fun d => d) d.1, (fun d => (Sum.inr (Sum.inl ((fun d => d) d) : ((List (Str × Int)) ⊕ (Int × Int))) : (Int ⊕ (List (Str × Int)) ⊕ (Int × Int)))) d.2)) ((Str.ofString "refused"), ([d938.2.2.2] : List (Str × Int))))))))))) e) (j1002 false))) (fun (b1003 : Bool) => (Br b1003 (k false) (nx936 (()))))))))) e)) (fun (s942 : Unit) => (w_ulaw_asked (2 : Int) x_p (Sum.inr ((0 : Int), x_p) : (Int ⊕ (Int × Int))) r122 (fun (r1061 : (Str × (Int ⊕ (List (Str × Int)) ⊕ (Int × Int)))) => ((((PyData.str r1061.1).canLay0 = true) ∧ ((Sum.elim (fun z => True) (Sum.elim (fun z => (∀ x ∈ z, (((PyData.str x.1).canLay0 = true) ∧ True))) (fun z => (True ∧ True)))) r1061.2)) ∧ ((((PyData.str ((fun d => ((fun d => d) d.1, (fun d => (Sum.inr (Sum.inl ((fun d => d) d) : ((List (Str × Int)) ⊕ (Int × Int))) : (Int ⊕ (List (Str × Int)) ⊕ (Int × Int)))) d.2)) ((Str.ofString "refused"), ([((Str.ofString "prime"), y94)] : List (Str × Int)))).1).canLay0 = true) ∧ ((Sum.elim (fun z => True) (Sum.elim (fun z => (∀ x ∈ z, (((PyData.str x.1).canLay0 = true) ∧ True))) (fun z => (True ∧ True)))) ((fun d => ((fun d => d) d.1, (fun d => (Sum.inr (Sum.inl ((fun d => d) d) : ((List (Str × Int)) ⊕ (Int × Int))) : (Int ⊕ (List (Str × Int)) ⊕ (Int × Int)))) d.2)) ((Str.ofString "refused"), ([((Str.ofString "prime"), y94)] : List (Str × Int)))).2)) ∧ (k (decide (r1061 = ((fun d => ((fun d => d) d.1, (fun d => (Sum.inr (Sum.inl ((fun d => d) d) : ((List (Str × Int)) ⊕ (Int × Int))) : (Int ⊕ (List (Str × Int)) ⊕ (Int × Int)))) d.2)) ((Str.ofString "refused"), ([((Str.ofString "prime"), y94)] : List (Str × Int)))))))))) e))))))) e))) e)) e)))) e))) e)))) e)) e)
def w_law (x_script : (List Int)) (k : Bool → Prop) (e : PErr → Prop) : Prop :=
  (w_ulaw_draws x_script (80 : Int) (fun (r1 : Unit) => (w_ulaw_prime r1 () (fun (r18 : Int) => (w_ulaw_base r1 () r18 (fun (r24 : ((Int × Int) × (Int × Int))) => (w_Base_init r18 r24.1 r24.2 (fun (r45 : (Int × (Int × Int) × (Int × Int))) => (w_ulaw_some r1 () r18 (fun (r57 : ((List Int) × (List (Int × Int)))) => (wFor r57.1 (()) (fun (d132 : Int) (s122 : Unit) (nx130 bk131 : (Unit) → Prop) => (w_crossed_point r18 d132 (fun (r144 : Int) => (wJoin (fun (j150 : Bool → Prop) => (w_ulaw_whole r144 (fun (r154 : Bool) => (Br (!r154) (j150 true) (w_ulaw_crossed r18 d132 (fun (r162 : Int) => (j150 (!(decide (r144 = r162))))) e))) e)) (fun (b151 : Bool) => (Br b151 (k false) (w_crossed_point r18 r144 (fun (r173 : Int) => (Br (!(decide (r173 = d132))) (k false) (nx130 (())))) (fun _ => False)))))) e)) (fun (s136 : Unit) => (wLet ([] : List (Int × Int)) fun (y193 : List (Int × Int)) => (wLet ([] : List (Int × Int)) fun (y210 : List (Int × Int)) => (wFor r57.2 ((y193, y210)) (fun (d570 : (Int × Int)) (s551 : (List (Int × Int)) × (List (Int × Int))) (nx568 bk569 : ((List (Int × Int)) × (List (Int × Int))) → Prop) => (w_ulaw_crossed r18 d570.1 (fun (r591 : Int) => (w_ulaw_crossed r18 d570.2 (fun (r599 : Int) => (wLet ([r591, r599] : List Int) fun (y625 : (List Int)) => (w_crossed_frame r18 d570 (fun (r627 : (Int × Int)) => ((0 < y625.length) ∧ ((0 < y625.length) ∧ (w_ulaw_pair r627 ((minL y625), (maxL y625)) (fun (r648 : Bool) => (Br (!r648) (k false) (w_crossed_frame r18 r627 (fun (r657 : (Int × Int)) => (Br (!(decide (r657 = d570))) (k false) ((s551.1.length < LIM) ∧ (wLet (s551.1 ++ [r627]) fun (y678 : List (Int × Int)) => (w_moved_frame r18 d570 r45 (fun (r681 : (Int × Int)) => (w_ulaw_moved r18 d570 r24 (fun (r691 : (Int × Int)) => (w_ulaw_pair r681 r691 (fun (r701 : Bool) => (Br (!r701) (k false) (w_Base_back r45 (fun (r710 : (Int × (Int × Int) × (Int × Int))) => (w_moved_frame r18 r681 r710 (fun (r720 : (Int × Int)) => (Br (!(decide (r720 = d570))) (k false) ((s551.2.length < LIM) ∧ (wLet (s551.2 ++ [r681]) fun (y741 : List (Int × Int)) => (nx568 ((y678, y741))))))) (fun _ => False))) e))) e)) e)) e))))) (fun _ => False)))) e)))) e))) e)) e)) (fun (s574 : (List (Int × Int)) × (List (Int × Int))) => (wJoin (fun (j755 : Bool → Prop) => (Br (decide (r18 < (8 : Int))) (wJoin (fun (j771 : Bool → Prop) => (∀ es775 : List (Int × Int), es775.Perm s574.1 → SortedQ es775 → (Br (!(decide (es775 = r57.2))) (j771 true) (∀ es799 : List (Int × Int), es799.Perm s574.2 → SortedQ es799 → (j771 (!(decide (es799 = r57.2)))))))) (fun (b772 : Bool) => (j755 b772))) (j755 false))) (fun (b756 : Bool) => (Br b756 (k false) (w_ulaw_refused r1 () r18 r24 (fun (r834 : Bool) => (k r834)) e))))))))))) e)) e)) e)) e)) e)
end Lw
namespace Lw
open PySem L2 EL Nm Px
def okP (n : Int) : Prop := 0 ≤ n ∧ n ≤ 997 ∧ isP n = true
def firstBad (p : Int) : List Int → Option Int
  | [] => none
  | x :: r => if 0 ≤ x ∧ x < p then firstBad p r else some x
theorem firstBad_none {p : Int} {L : List Int} (h : firstBad p L = none) : ∀ x, x ∈ L → 0 ≤ x ∧ x < p := by
  induction L with
  | nil => intro x hx; cases hx
  | cons y r ih =>
    unfold firstBad at h
    split at h
    · rename_i c
      intro x hx
      rcases List.mem_cons.mp hx with z | z
      · rw [z]; exact c
      · exact ih h x z
    · cases h
theorem firstBad_ok {p : Int} {L : List Int} (h : ∀ x, x ∈ L → 0 ≤ x ∧ x < p) : firstBad p L = none := by
  induction L with
  | nil => rfl
  | cons y r ih =>
    unfold firstBad
    rw [if_pos (h y (List.mem_cons_self ..))]
    exact ih fun x hx => h x (List.mem_cons_of_mem _ hx)
theorem firstBad_app {p : Int} {L : List Int} {x : Int} {R : List Int} (h : ∀ x, x ∈ L → 0 ≤ x ∧ x < p) (hx : ¬ (0 ≤ x ∧ x < p)) : firstBad p (L ++ x :: R) = some x := by
  induction L with
  | nil =>
    show (if 0 ≤ x ∧ x < p then firstBad p R else some x) = some x
    rw [if_neg hx]
  | cons y r ih =>
    show (if 0 ≤ y ∧ y < p then firstBad p (r ++ x :: R) else some y) = some x
    rw [if_pos (h y (List.mem_cons_self ..))]
    exact ih fun x hx => h x (List.mem_cons_of_mem _ hx)
theorem p_check_number {n lo hi : Int} {k : Unit → Prop} {e : PErr → Prop} (h1 : lo ≤ n ∧ n ≤ hi → k ()) (h2 : ¬ (lo ≤ n ∧ n ≤ hi) → e (NumE n)) : w_check_number n lo hi k e := by
  unfold w_check_number
  refine Br_i (fun c => h2 ?_) fun c => h1 ?_
  · simp at c; omega
  · simp at c; omega
theorem p_look_number {n lo hi : Int} {k : Unit → Prop} {e : PErr → Prop} (h1 : lo ≤ n ∧ n ≤ hi → k ()) (h2 : ¬ (lo ≤ n ∧ n ≤ hi) → e (NumE n)) : w_look_number n lo hi k e := by
  unfold w_look_number
  refine Br_i (fun c => h2 ?_) fun c => h1 ?_
  · simp at c; omega
  · simp at c; omega
theorem p_is_odd_prime {n : Int} {k : Bool → Prop} {e : PErr → Prop} (h1 : 0 ≤ n ∧ n ≤ 997 → k (isP n)) (h2 : ¬ (0 ≤ n ∧ n ≤ 997) → e (NumE n)) : w_is_odd_prime n k e := by
  unfold w_is_odd_prime
  refine p_check_number (fun hn => ?_) h2
  have hk := h1 hn
  refine ⟨fun _ => by decide, ?_⟩
  obtain ⟨N, rfl⟩ : ∃ N : Nat, n = (N : Int) := ⟨n.toNat, by omega⟩
  have hN : isP (N : Int) = isPN N := by unfold isP; rw [Int.toNat_natCast]
  rw [hN] at hk
  refine Br_i (fun c => ?_) fun c => ?_
  · simp at c
    have z : isPN N = false := by
      unfold isPN
      rcases c with c | c
      · rw [decide_eq_false (by omega : ¬ 3 ≤ N)]; rfl
      · rw [decide_eq_false (by omega : ¬ N % 2 = 1)]; simp
    rw [z] at hk
    exact hk
  · simp at c
    have z : isPN N = noDiv N 3 N := by unfold isPN; rw [decide_eq_true (by omega : 3 ≤ N), decide_eq_true (by omega : N % 2 = 1)]; simp
    rw [z] at hk
    refine wWhile_m (fun s => ∃ f d : Nat, s = (d : Int) ∧ 3 ≤ d ∧ 2 * f + d = 2 * N + 3 ∧ noDiv N 3 N = noDiv f d N) (fun s => (2 * (N : Int) + 3 - s).toNat) ⟨N, 3, rfl, by omega, by omega, rfl⟩ ?_
    rintro s nx ⟨f, d, rfl, h3, hf, hd⟩ hnx
    have hc : ((d : Int) * (d : Int) ≤ (N : Int)) = (d * d ≤ N) := by rw [← Int.natCast_mul]; exact propext Int.ofNat_le
    have hl : d ≤ d * d := Nat.le_mul_self d
    refine ⟨cmul_l (by omega), Br_p (fun c4 => ?_) fun c4 => ?_⟩
    · rw [hc] at c4
      obtain ⟨f, rfl⟩ : ∃ f', f = f' + 1 := ⟨f - 1, by omega⟩
      refine ⟨by omega, Br_p (fun c5 => ?_) fun c5 => ?_⟩
      · rw [hd, noDiv_hit c4 (by omega)] at hk
        exact hk
      · refine hnx _ ⟨f, d + 2, rfl, by omega, by omega, ?_⟩ (by show (2 * (N : Int) + 3 - ((d : Int) + 2)).toNat < _; omega)
        rw [hd, noDiv_go c4 (by omega)]
    · rw [hc] at c4
      rw [hd, noDiv_big (by omega)] at hk
      exact hk
theorem p_check_prime {n : Int} {k : Unit → Prop} {e : PErr → Prop} (h1 : okP n → k ()) (h2 : ¬ okP n → e (NumE n)) : w_check_prime n k e := by
  unfold w_check_prime
  refine p_is_odd_prime (fun hn => ?_) fun hn => h2 fun z => hn ⟨z.1, z.2.1⟩
  refine Br_i (fun c => h2 fun z => ?_) fun c => h1 ⟨hn.1, hn.2, by simpa using c⟩
  rw [z.2.2] at c
  cases c
theorem p_look_prime {n : Int} {k : Unit → Prop} {e : PErr → Prop} (h1 : okP n → k ()) (h2 : ¬ okP n → e (NumE n)) : w_look_prime n k e := by
  unfold w_look_prime
  refine p_is_odd_prime (fun hn => ?_) fun hn => h2 fun z => hn ⟨z.1, z.2.1⟩
  refine Br_i (fun c => h2 fun z => ?_) fun c => h1 ⟨hn.1, hn.2, by simpa using c⟩
  rw [z.2.2] at c
  cases c
theorem p_look_residue {p n : Int} {k : Unit → Prop} {e : PErr → Prop} (h1 : 0 ≤ n ∧ n < p → k ()) (h2 : ¬ (0 ≤ n ∧ n < p) → e (NumE n)) : w_look_residue p n k e := by
  unfold w_look_residue
  refine Br_i (fun c => h2 ?_) fun c => h1 ?_
  · simp at c; omega
  · simp at c; omega
theorem p_next {u v : Unit} {m : Int} {k : Int → Prop} {e : PErr → Prop} (hm : 0 < m) (h : ∀ n : Int, 0 ≤ n → n < m → k n) : w_ulaw_next u v m k e := ⟨hm, h⟩
theorem p_draws {L : List Int} {c : Int} {k : Unit → Prop} {e : PErr → Prop} (hc : 0 < c ∧ c ≤ 10000) (hl : L.length ≤ 63) (h : k ()) : w_ulaw_draws L c k e := ⟨hc, hl, h⟩
theorem p_ulaw_residue {u v : Unit} {p : Int} {k : Int → Prop} {e : PErr → Prop} (hp : 0 < p) (h : ∀ n, 0 ≤ n ∧ n < p → k n) : w_ulaw_residue u v p k e := by
  unfold w_ulaw_residue
  exact p_next (by decide) fun n n0 n1 => Br_p (fun c => h 0 ⟨by omega, hp⟩) fun c => p_next hp fun m m0 m1 => h m ⟨m0, m1⟩
/-- a row of residues -/
def Rw (p n : Int) (L : List Int) : Prop := (L.length : Int) = n ∧ ∀ x, x ∈ L → 0 ≤ x ∧ x < p
theorem rw_set {p n i y : Int} {L : List Int} (h : Rw p n L) (hy : 0 ≤ y ∧ y < p) : Rw p n (setG L i y) :=
  ⟨by rw [setG_len]; exact h.1, fun x hx => (setG_mem hx).elim (h.2 x) fun z => by rw [z]; exact hy⟩
theorem zeros_len {n : Int} (hn : 0 ≤ n) : (((rangeL 0 n).map fun _ => (0 : Int)).length : Int) = n := by
  rw [List.length_map, rangeL_len]; omega
theorem rw_zero {p n : Int} (hp : 0 < p) (hn : 0 ≤ n) : Rw p n ((rangeL 0 n).map fun _ => (0 : Int)) :=
  ⟨zeros_len hn, fun x hx => by obtain ⟨_, _, rfl⟩ := List.mem_map.mp hx; omega⟩
theorem not_prod {a b : Int} (ha : 3 ≤ a) (hb : 3 ≤ b) : isP (a * b) = false := by
  rw [Bool.eq_false_iff]
  intro h
  have h2 := isPN_prime (isP_nat h).1
  have e : (a * b).toNat = a.toNat * b.toNat := by
    have : ((a.toNat * b.toNat : Nat) : Int) = a * b := by rw [Int.natCast_mul, Int.toNat_of_nonneg (by omega), Int.toNat_of_nonneg (by omega)]
    omega
  rw [e] at h2
  have hlt : a.toNat < a.toNat * b.toNat := by
    have := Nat.mul_le_mul_left a.toNat (show 2 ≤ b.toNat by omega)
    omega
  exact h2.2.2 a.toNat (by omega) hlt (Nat.mul_mod_right _ _)
theorem firstBad_set {p y : Int} {L : List Int} {n : Nat} (h : ∀ x, x ∈ L → 0 ≤ x ∧ x < p) (hn : n < L.length) (hy : ¬ (0 ≤ y ∧ y < p)) : firstBad p (L.set n y) = some y := by
  rw [List.set_eq_take_append_cons_drop, if_pos hn]
  exact firstBad_app (fun x hx => h x (List.mem_of_mem_take hx)) hy
def ten : List Int := [3, 5, 7, 11, 13, 17, 19, 23, 29, 31]
def okUp (p : Int) : Bool := ten.all fun k => decide (p % k > 0) || decide (p = k)
def upF : Nat → Int → Int
  | 0, _ => 997
  | f + 1, p => if okUp p = true then p else upF f (p + 2)
theorem up_all : (List.range 498).all (fun n => isP (upF 12 (3 + 2 * (n : Int))) && (decide (3 + 2 * (n : Int) ≤ upF 12 (3 + 2 * (n : Int))) && decide (upF 12 (3 + 2 * (n : Int)) ≤ 997))) = true := by decide +kernel
theorem up_ok {n : Int} (h0 : 0 ≤ n) (h9 : n < 498) : isP (upF 12 (3 + 2 * n)) = true ∧ upF 12 (3 + 2 * n) ≤ 997 := by
  have q := List.all_eq_true.mp up_all n.toNat (List.mem_range.mpr (by omega))
  have e : ((n.toNat : Nat) : Int) = n := by omega
  rw [e] at q
  simp only [Bool.and_eq_true, decide_eq_true_eq] at q
  exact ⟨q.1, q.2.2⟩
abbrev Vc := Int × Int
/-- a residue; a vector of residues -/
def Rs (p x : Int) : Prop := 0 ≤ x ∧ x < p
def Rv (p : Int) (v : Vc) : Prop := Rs p v.1 ∧ Rs p v.2
/-- the vector of a point, the point of a vector -/
def vec (p k : Int) : Vc := if k = p then (0, 1) else (1, k)
def pt (p : Int) (v : Vc) : Int := if v.1 = 0 then p else v.2 * inv p v.1 % p
def NZ (v : Vc) : Prop := ¬ (v.1 = 0 ∧ v.2 = 0)
def Par (p : Int) (v w : Vc) : Prop := p ∣ v.1 * w.2 - v.2 * w.1
section
variable {p : Int}
theorem dvd0 {x : Int} (h : p ∣ x) (b : -p < x ∧ x < p) : x = 0 := Int.eq_zero_of_dvd_of_natAbs_lt_natAbs h (by omega)
theorem dvd_mul {x y : Int} (hp : isP p = true) (h : p ∣ x * y) : p ∣ x ∨ p ∣ y := by
  have hp3 := (isP_nat hp).2
  have z := Int.emod_eq_zero_of_dvd h
  rw [Int.mul_emod] at z
  rcases dom_int hp ⟨Int.emod_nonneg _ (by omega), Int.emod_lt_of_pos _ (by omega)⟩ ⟨Int.emod_nonneg _ (by omega), Int.emod_lt_of_pos _ (by omega)⟩ z with q | q
  · exact Or.inl (Int.dvd_of_emod_eq_zero q)
  · exact Or.inr (Int.dvd_of_emod_eq_zero q)
theorem vec_ok (hp : isP p = true) {k : Int} (hk : 0 ≤ k ∧ k ≤ p) : Rv p (vec p k) ∧ NZ (vec p k) := by
  have hp3 := (isP_nat hp).2
  unfold vec Rv Rs NZ
  split
  · exact ⟨⟨by simp only; omega, by simp only; omega⟩, by simp⟩
  · exact ⟨⟨by simp only; omega, by simp only; omega⟩, by simp⟩
theorem pt_ok (hp : isP p = true) {v : Vc} (hv : Rv p v) (nz : NZ v) : (0 ≤ pt p v ∧ pt p v ≤ p) ∧ Par p v (vec p (pt p v)) := by
  have hp3 := (isP_nat hp).2
  unfold Rv Rs at hv
  unfold NZ at nz
  unfold pt Par
  by_cases c : v.1 = 0
  · rw [if_pos c]
    unfold vec
    rw [if_pos rfl, c]
    exact ⟨⟨by omega, by omega⟩, by simp⟩
  · rw [if_neg c]
    have r0 := Int.emod_nonneg (v.2 * inv p v.1) (show p ≠ 0 by omega)
    have r1 := Int.emod_lt_of_pos (v.2 * inv p v.1) (show 0 < p by omega)
    unfold vec
    rw [if_neg (by omega)]
    refine ⟨⟨r0, by omega⟩, ?_⟩
    have q := quot_hit hp (a := v.1) (b := v.2) (by omega) (by omega) hv.2
    simp only
    refine Int.dvd_of_emod_eq_zero ?_
    rw [Int.mul_one, Int.sub_emod, q, Int.emod_eq_of_lt hv.2.1 hv.2.2, Int.sub_self]
    exact Int.zero_emod _
theorem pt_one (hp : isP p = true) {v : Vc} (hv : Rv p v) (nz : NZ v) {k k' : Int} (hk : 0 ≤ k ∧ k ≤ p) (hk' : 0 ≤ k' ∧ k' ≤ p) (h : Par p v (vec p k)) (h' : Par p v (vec p k')) : k = k' := by
  have hp3 := (isP_nat hp).2
  unfold Rv Rs at hv
  unfold NZ at nz
  have key : ∀ j : Int, 0 ≤ j ∧ j ≤ p → Par p v (vec p p) → Par p v (vec p j) → j = p := fun j hj h h' => by
    unfold Par vec at h h'
    rw [if_pos rfl] at h
    simp only [Int.mul_one, Int.mul_zero, Int.sub_zero] at h
    have z := dvd0 h (by omega)
    by_cases c : j = p
    · exact c
    · rw [if_neg c] at h'
      simp only [Int.mul_one, z, Int.zero_mul, Int.zero_sub] at h'
      have z2 := dvd0 h' (by omega)
      omega
  by_cases c : k = p
  · subst c
    exact (key k' hk' h h').symm
  by_cases c' : k' = p
  · subst c'
    exact key k hk h' h
  unfold Par vec at h h'
  rw [if_neg c] at h
  rw [if_neg c'] at h'
  simp only [Int.mul_one] at h h'
  have d := Int.dvd_sub h h'
  have e : v.1 * k - v.2 - (v.1 * k' - v.2) = v.1 * (k - k') := by grind
  rw [e] at d
  rcases dvd_mul hp d with q | q
  · have z := dvd0 q (by omega)
    rw [z, Int.zero_mul, Int.zero_sub] at h
    have z2 := dvd0 h (by omega)
    omega
  · have z := dvd0 q (by omega)
    omega
theorem pt_is (hp : isP p = true) {v : Vc} (hv : Rv p v) (nz : NZ v) {k : Int} (hk : 0 ≤ k ∧ k ≤ p) (h : Par p v (vec p k)) : pt p v = k :=
  pt_one hp hv nz (pt_ok hp hv nz).1 hk (pt_ok hp hv nz).2 h
/-- independent vectors -/
def Ind (p : Int) (a b : Vc) : Prop := Rv p a ∧ Rv p b ∧ ¬ Par p a b
def mv (p : Int) (a b v : Vc) : Vc := ((v.1 * a.1 + v.2 * b.1) % p, (v.1 * a.2 + v.2 * b.2) % p)
theorem rv_mod (hp : 0 < p) {x y : Int} : Rv p (x % p, y % p) := ⟨⟨Int.emod_nonneg _ (by omega), Int.emod_lt_of_pos _ hp⟩, Int.emod_nonneg _ (by omega), Int.emod_lt_of_pos _ hp⟩
theorem mv_nz (hp : isP p = true) {a b v : Vc} (hi : Ind p a b) (hv : Rv p v) (nz : NZ v) : NZ (mv p a b v) := by
  rintro ⟨z1, z2⟩
  have d1 : p ∣ v.1 * a.1 + v.2 * b.1 := Int.dvd_of_emod_eq_zero z1
  have d2 : p ∣ v.1 * a.2 + v.2 * b.2 := Int.dvd_of_emod_eq_zero z2
  obtain ⟨q1, y1⟩ := d1
  obtain ⟨q2, y2⟩ := d2
  have e1 : p ∣ v.1 * (a.1 * b.2 - a.2 * b.1) := ⟨q1 * b.2 - q2 * b.1, by
    rw [show p * (q1 * b.2 - q2 * b.1) = p * q1 * b.2 - p * q2 * b.1 by grind, ← y1, ← y2]
    grind⟩
  have e2 : p ∣ v.2 * (a.1 * b.2 - a.2 * b.1) := ⟨q2 * a.1 - q1 * a.2, by
    rw [show p * (q2 * a.1 - q1 * a.2) = p * q2 * a.1 - p * q1 * a.2 by grind, ← y1, ← y2]
    grind⟩
  unfold Rv Rs at hv
  rcases dvd_mul hp e1 with q | q
  · rcases dvd_mul hp e2 with q2 | q2
    · exact nz ⟨dvd0 q (by omega), dvd0 q2 (by omega)⟩
    · exact hi.2.2 q2
  · exact hi.2.2 q
/-- the moved point -/
def mvp (p : Int) (a b : Vc) (k : Int) : Int := pt p (mv p a b (vec p k))
theorem mvp_ok (hp : isP p = true) {a b : Vc} (hi : Ind p a b) {k : Int} (hk : 0 ≤ k ∧ k ≤ p) : 0 ≤ mvp p a b k ∧ mvp p a b k ≤ p := by
  have hp3 := (isP_nat hp).2
  have v := vec_ok hp hk
  exact (pt_ok hp (rv_mod (by omega)) (mv_nz hp hi v.1 v.2)).1
theorem par_mod {x y : Int} {w : Vc} : Par p (x % p, y % p) w ↔ Par p (x, y) w := by
  unfold Par
  have e1 := Int.mul_ediv_add_emod x p
  have e2 := Int.mul_ediv_add_emod y p
  have e3 : x * w.2 - y * w.1 = (x % p * w.2 - y % p * w.1) + p * (x / p * w.2 - y / p * w.1) := by grind
  simp only
  rw [e3]
  exact (Int.dvd_add_left (Int.dvd_mul_right ..)).symm
/-- led back: what (c, d) does, (a, b) undoes -/
def Undo (p : Int) (a b c d : Vc) : Prop := (p ∣ c.1 * a.1 + c.2 * b.1 - 1 ∧ p ∣ c.1 * a.2 + c.2 * b.2) ∧ p ∣ d.1 * a.1 + d.2 * b.1 ∧ p ∣ d.1 * a.2 + d.2 * b.2 - 1
theorem undo_alg {a1 a2 b1 b2 c1 c2 d1 d2 u1 u2 w1 w2 q11 q12 q21 q22 q : Int} (e11 : c1 * a1 + c2 * b1 - 1 = p * q11) (e12 : c1 * a2 + c2 * b2 = p * q12) (e21 : d1 * a1 + d2 * b1 = p * q21) (e22 : d1 * a2 + d2 * b2 - 1 = p * q22) (e : (u1 * c1 + u2 * d1) * w2 - (u1 * c2 + u2 * d2) * w1 = p * q) :
    (w1 * a1 + w2 * b1) * u2 - (w1 * a2 + w2 * b2) * u1 = p * (0 - (w1 * a1 + w2 * b1) * (u1 * q12 + u2 * q22) + (w1 * a2 + w2 * b2) * (u1 * q11 + u2 * q21) - q * (a1 * b2 - a2 * b1)) := by
  have r1 : (u1 * c1 + u2 * d1) * a1 + (u1 * c2 + u2 * d2) * b1 = u1 + p * (u1 * q11 + u2 * q21) := by
    have : (u1 * c1 + u2 * d1) * a1 + (u1 * c2 + u2 * d2) * b1 = u1 * (c1 * a1 + c2 * b1 - 1) + u2 * (d1 * a1 + d2 * b1) + u1 := by grind
    rw [this, e11, e21]
    grind
  have r2 : (u1 * c1 + u2 * d1) * a2 + (u1 * c2 + u2 * d2) * b2 = u2 + p * (u1 * q12 + u2 * q22) := by
    have : (u1 * c1 + u2 * d1) * a2 + (u1 * c2 + u2 * d2) * b2 = u1 * (c1 * a2 + c2 * b2) + u2 * (d1 * a2 + d2 * b2 - 1) + u2 := by grind
    rw [this, e12, e22]
    grind
  generalize u1 * c1 + u2 * d1 = n1 at e r1 r2
  generalize u1 * c2 + u2 * d2 = n2 at e r1 r2
  generalize u1 * q11 + u2 * q21 = s1 at r1 ⊢
  generalize u1 * q12 + u2 * q22 = s2 at r2 ⊢
  have h1 : u1 = n1 * a1 + n2 * b1 - p * s1 := by omega
  have h2 : u2 = n1 * a2 + n2 * b2 - p * s2 := by omega
  rw [h1, h2]
  have : p * (0 - (w1 * a1 + w2 * b1) * s2 + (w1 * a2 + w2 * b2) * s1 - q * (a1 * b2 - a2 * b1)) = 0 - p * ((w1 * a1 + w2 * b1) * s2) + p * ((w1 * a2 + w2 * b2) * s1) - p * q * (a1 * b2 - a2 * b1) := by grind
  rw [this, ← e]
  grind
theorem mvp_back (hp : isP p = true) {a b c d : Vc} (hi : Ind p a b) (hj : Ind p c d) (h : Undo p a b c d) {k : Int} (hk : 0 ≤ k ∧ k ≤ p) : mvp p a b (mvp p c d k) = k := by
  have hp3 := (isP_nat hp).2
  have hu := vec_ok hp hk
  have hk' := mvp_ok hp hj hk
  have hu' := vec_ok hp hk'
  have par' : Par p (mv p c d (vec p k)) (vec p (mvp p c d k)) := (pt_ok hp (rv_mod (by omega)) (mv_nz hp hj hu.1 hu.2)).2
  refine pt_is hp (rv_mod (by omega)) (mv_nz hp hi hu'.1 hu'.2) hk ?_
  unfold mv at par'
  rw [par_mod] at par' ⊢
  generalize vec p k = u at par' ⊢
  generalize vec p (mvp p c d k) = w at par' ⊢
  obtain ⟨⟨⟨q11, e11⟩, ⟨q12, e12⟩⟩, ⟨q21, e21⟩, ⟨q22, e22⟩⟩ := h
  obtain ⟨q, e⟩ := par'
  exact ⟨_, undo_alg e11 e12 e21 e22 e⟩
/-- the crossed point -/
def crp (p k : Int) : Int := pt p (-(vec p k).2 % p, (vec p k).1)
theorem neg_nz {v : Vc} (hv : Rv p v) (nz : NZ v) : NZ (-v.2 % p, v.1) := by
  rintro ⟨z1, z2⟩
  unfold Rv Rs at hv
  have d : p ∣ v.2 := by
    have := Int.dvd_of_emod_eq_zero (show -v.2 % p = 0 from z1)
    exact (Int.dvd_neg).mp this
  exact nz ⟨z2, dvd0 d (by omega)⟩
theorem neg_rv (hp : 0 < p) {v : Vc} (hv : Rv p v) : Rv p (-v.2 % p, v.1) := ⟨⟨Int.emod_nonneg _ (by omega), Int.emod_lt_of_pos _ hp⟩, hv.1⟩
theorem crp_ok (hp : isP p = true) {k : Int} (hk : 0 ≤ k ∧ k ≤ p) : 0 ≤ crp p k ∧ crp p k ≤ p := by
  have hp3 := (isP_nat hp).2
  have v := vec_ok hp hk
  exact (pt_ok hp (neg_rv (by omega) v.1) (neg_nz v.1 v.2)).1
theorem crp_two (hp : isP p = true) {k : Int} (hk : 0 ≤ k ∧ k ≤ p) : crp p (crp p k) = k := by
  have hp3 := (isP_nat hp).2
  have hu := vec_ok hp hk
  have hk' := crp_ok hp hk
  have hu' := vec_ok hp hk'
  have par' : Par p (-(vec p k).2 % p, (vec p k).1) (vec p (crp p k)) := (pt_ok hp (neg_rv (by omega) hu.1) (neg_nz hu.1 hu.2)).2
  refine pt_is hp (neg_rv (by omega) hu'.1) (neg_nz hu'.1 hu'.2) hk ?_
  have one : ∀ v : Vc, Rv p v → (-v.2 % p, v.1) = ((-v.2 % p, v.1 % p) : Vc) := fun v hv => by rw [Int.emod_eq_of_lt hv.1.1 hv.1.2]
  rw [one _ hu.1, par_mod] at par'
  rw [one _ hu'.1, par_mod]
  unfold Par at par' ⊢
  simp only at par' ⊢
  generalize vec p k = u at par' ⊢
  generalize vec p (crp p k) = w at par' ⊢
  rw [show -w.2 * u.2 - w.1 * u.1 = -u.2 * w.2 - u.1 * w.1 by grind]
  exact par'
/-- frames -/
def Fr (p : Int) (f : Vc) : Prop := 0 ≤ f.1 ∧ f.1 < f.2 ∧ f.2 ≤ p
def fr2 (x y : Int) : Vc := (minI x y, maxI x y)
theorem fr2_ok {x y : Int} (hx : 0 ≤ x ∧ x ≤ p) (hy : 0 ≤ y ∧ y ≤ p) (ne : x ≠ y) : Fr p (fr2 x y) := by
  unfold Fr fr2 minI maxI
  simp only
  split <;> split <;> omega
/-- a map of points that is undone, on frames -/
theorem fr2_back {g h : Int → Int} (hb : ∀ k, 0 ≤ k → k ≤ p → h (g k) = k) {f : Vc} (hf : Fr p f) : fr2 (h (fr2 (g f.1) (g f.2)).1) (h (fr2 (g f.1) (g f.2)).2) = f := by
  unfold Fr at hf
  have e1 := hb f.1 hf.1 (by omega)
  have e2 := hb f.2 (by omega) hf.2.2
  have main : ∀ x y : Int, fr2 x y = (x, y) ∨ fr2 x y = (y, x) := fun x y => by
    unfold fr2 minI maxI
    by_cases c : y < x
    · rw [if_pos c, if_neg (by omega)]
      exact Or.inr rfl
    · rw [if_neg c]
      by_cases c2 : y > x
      · rw [if_pos c2]; exact Or.inl rfl
      · rw [if_neg c2]
        have : x = y := by omega
        subst this
        exact Or.inl rfl
  have fin : fr2 f.1 f.2 = f ∧ fr2 f.2 f.1 = f := by
    unfold fr2 minI maxI
    rw [if_neg (by omega), if_pos (by omega), if_pos (by omega), if_neg (by omega)]
    exact ⟨rfl, rfl⟩
  rcases main (g f.1) (g f.2) with z | z
  · rw [z]
    simp only
    rw [e1, e2]
    exact fin.1
  · rw [z]
    simp only
    rw [e1, e2]
    exact fin.2
theorem fr2_map {g h : Int → Int} (hg : ∀ k, 0 ≤ k → k ≤ p → 0 ≤ g k ∧ g k ≤ p) (hb : ∀ k, 0 ≤ k → k ≤ p → h (g k) = k) {f : Vc} (hf : Fr p f) : Fr p (fr2 (g f.1) (g f.2)) := by
  unfold Fr at hf
  refine fr2_ok (hg _ hf.1 (by omega)) (hg _ (by omega) hf.2.2) fun e => ?_
  have e1 := hb f.1 hf.1 (by omega)
  have e2 := hb f.2 (by omega) hf.2.2
  rw [e, e2] at e1
  omega
theorem minL_two {x y : Int} : minL [x, y] = minI x y := by
  unfold minL minI
  show (some (min x y)).getD 0 = _
  rw [Option.getD_some, Int.min_def]
  split <;> split <;> omega
theorem maxL_two {x y : Int} : maxL [x, y] = maxI x y := by
  unfold maxL maxI
  show (some (max x y)).getD 0 = _
  rw [Option.getD_some, Int.max_def]
  split <;> split <;> omega
/-- all frames in order -/
def AllFr (p : Int) (R : List Vc) : Prop := (∀ f, f ∈ R ↔ Fr p f) ∧ R.Pairwise (fun x y => ltQ x y = true)
theorem ltQ_tr {x y : Vc} (h : ltQ x y = true) : ltQ y x = false ∧ x ≠ y := by
  have := SrtO.lexB_iff.mp h
  refine ⟨SrtO.lexB_no.mpr (by omega), fun e => ?_⟩
  subst e
  omega
theorem sort_uniq : ∀ {A B : List Vc}, A.Pairwise (fun x y => ltQ x y = true) → B.Pairwise (fun x y => ltQ x y = true) → (∀ f, f ∈ A ↔ f ∈ B) → A = B
  | [], [], _, _, _ => rfl
  | [], y :: B, _, _, h => by have := (h y).mpr (List.mem_cons_self ..); simp at this
  | x :: A, [], _, _, h => by have := (h x).mp (List.mem_cons_self ..); simp at this
  | x :: A, y :: B, ha, hb, h => by
    have ha' := List.pairwise_cons.mp ha
    have hb' := List.pairwise_cons.mp hb
    have e : x = y := by
      rcases List.mem_cons.mp ((h x).mp (List.mem_cons_self ..)) with z | z
      · exact z
      · rcases List.mem_cons.mp ((h y).mpr (List.mem_cons_self ..)) with z2 | z2
        · exact z2.symm
        · have l1 := ltQ_tr (hb'.1 x z)
          have l2 := ha'.1 y z2
          rw [l2] at l1
          exact absurd l1.1 (by decide)
    subst e
    rw [sort_uniq ha'.2 hb'.2 fun f => ?_]
    constructor
    · intro hf
      rcases List.mem_cons.mp ((h f).mp (List.mem_cons_of_mem _ hf)) with z | z
      · exact absurd z.symm (ltQ_tr (ha'.1 f hf)).2
      · exact z
    · intro hf
      rcases List.mem_cons.mp ((h f).mpr (List.mem_cons_of_mem _ hf)) with z | z
      · exact absurd z.symm (ltQ_tr (hb'.1 f hf)).2
      · exact z
/-- all frames, moved and put in order, are all frames -/
theorem all_sorted {R E : List Vc} {F G : Vc → Vc} (hR : AllFr p R) (hF : ∀ f, Fr p f → Fr p (F f) ∧ Fr p (G f) ∧ F (G f) = f ∧ G (F f) = f) (pm : E.Perm (R.map F)) (so : SortedQ E) : E = R := by
  have nd : E.Pairwise (fun x y => x ≠ y) := by
    refine (pm.pairwise_iff fun h => Ne.symm h).mpr ?_
    rw [List.pairwise_map]
    refine List.Pairwise.imp_of_mem (fun {x y} hx hy hl => ?_) hR.2
    intro e
    have gx := (hF x ((hR.1 x).mp hx)).2.2.2
    have gy := (hF y ((hR.1 y).mp hy)).2.2.2
    rw [e, gy] at gx
    exact (ltQ_tr hl).2 gx.symm
  refine sort_uniq ?_ hR.2 fun f => ?_
  · have both := List.Pairwise.and so nd
    refine List.Pairwise.imp (fun {x y} h => ?_) both
    have h1 := SrtO.lexB_no.mp h.1
    refine SrtO.lexB_iff.mpr ?_
    have : ¬ (x.1 = y.1 ∧ x.2 = y.2) := fun z => h.2 (Prod.ext z.1 z.2)
    omega
  · rw [pm.mem_iff, List.mem_map, hR.1]
    constructor
    · rintro ⟨x, hx, rfl⟩
      exact (hF x ((hR.1 x).mp hx)).1
    · intro hf
      have := hF f hf
      exact ⟨G f, (hR.1 _).mpr this.2.1, this.2.2.1⟩
end
theorem p_inverse {p x : Int} {k : Int → Prop} {e : PErr → Prop} (hp : okP p) (hx : 1 ≤ x ∧ x < p) (h : k (inv p x)) : w_inverse p x k e := by
  unfold w_inverse
  refine p_check_prime (fun _ => p_check_number (fun _ => ?_) fun z => absurd ⟨hx.1, by omega⟩ z) fun z => absurd hp z
  have hp9 := hp.2.1
  refine wWhile_m (fun s : Int × Int × Int × Int => InvAt p x s.1 s.2.1 s.2.2.1 s.2.2.2) (fun s => s.1.toNat) (invAt_start hp.2.2 hx.1 (by omega)) fun s nx i hn => ?_
  obtain ⟨r, o, f, l⟩ := s
  simp only at i hn ⊢
  have i' := i
  obtain ⟨r0, rb, o0, ob, _, _, _⟩ := i'
  refine Br_p (fun c => ?_) fun c => ?_
  · obtain ⟨h2, hlt, q0, q1⟩ := invAt_step i (by omega)
    refine ⟨⟨by omega, by omega⟩, wLet_i ⟨cmul_l (by omega), wLet_i (wLet_i ⟨cmul_l (by omega), wLet_i (wLet_i (hn _ h2 ?_))⟩)⟩⟩
    simp only
    omega
  · have z := invAt_end i c
    rw [← z.2.2.2]
    exact ⟨by omega, h⟩
theorem p_upward {n : Int} {k : Int → Prop} {e : PErr → Prop} (h0 : 0 ≤ n ∧ n < 498) (h : ∀ p, isP p = true → p ≤ 997 → k p) : w_ulaw_upward (3 + 2 * n) k e := by
  have u := up_ok h0.1 h0.2
  unfold w_ulaw_upward
  refine ⟨rg_ok (by omega), ?_⟩
  generalize 3 + 2 * n = s0 at u
  refine wFor_rng (fun i s => isP (upF (12 - i).toNat s) = true ∧ upF (12 - i).toNat s ≤ 997) (by omega) u ?_ fun s i => h 997 (by decide +kernel) (by omega)
  rintro i s nx i0 i1 hi hn
  refine wComp_map (fun d => decide (s % d > 0) || decide (s = d)) (fun d hd nx hx => ⟨?_, hx⟩) ?_
  · have hd2 : d ∈ ten := hd
    unfold ten at hd2
    simp only [List.mem_cons, List.not_mem_nil, or_false] at hd2
    omega
  · have e1 : ((ten.map fun d => decide (s % d > 0) || decide (s = d)).all id) = okUp s := by
      rw [List.all_map]
      rfl
    have ef : (12 - i).toNat = (12 - (i + 1)).toNat + 1 := by omega
    rw [ef] at hi
    have es : upF ((12 - (i + 1)).toNat + 1) s = if okUp s = true then s else upF (12 - (i + 1)).toNat (s + 2) := rfl
    rw [es] at hi
    refine Br_i (fun c => ?_) fun c => wLet_i (hn _ ?_)
    · have c' : okUp s = true := e1 ▸ c
      rw [if_pos c'] at hi
      exact h s hi.1 hi.2
    · have c' : okUp s = false := e1 ▸ c
      rw [if_neg (by rw [c']; decide)] at hi
      exact hi
theorem p_ulaw_primeB {u v : Unit} {k : Int → Prop} {e : PErr → Prop} (h : ∀ p, isP p = true → p ≤ 997 → k p) : w_ulaw_prime u v k e := by
  unfold w_ulaw_prime
  refine p_next (by decide) fun n n0 n1 => ⟨inB_of n0 (by simpa using n1), wLet_i (Br_p (fun c => ?_) fun _ => p_next (by decide) fun m m0 m1 => ⟨cmul_l (by omega), p_upward ⟨m0, m1⟩ h⟩)⟩
  have hm := ixG_mem (xs := ([(3 : Int), 5, 7, 11, 3, 7, 13, 0] : List Int)) n0 (by simpa using n1)
  have : ∀ x, x ∈ ([(3 : Int), 5, 7, 11, 3, 7, 13, 0] : List Int) → x > 0 → isP x = true ∧ x ≤ 997 := by decide +kernel
  have hx := this _ hm c
  exact h _ hx.1 hx.2
theorem p_ulaw_base {u v : Unit} {p : Int} {k : (Vc × Vc) → Prop} {e : PErr → Prop} (hp : isP p = true) (hp9 : p ≤ 997) (h : ∀ a b : Vc, Ind p a b → k (a, b)) : w_ulaw_base u v p k e := by
  have hp3 := (isP_nat hp).2
  have hp0 : 0 < p := by omega
  have R : ∀ x : Int, Rs p (x % p) := fun x => ⟨Int.emod_nonneg _ (by omega), Int.emod_lt_of_pos _ hp0⟩
  unfold w_ulaw_base
  refine p_ulaw_residue hp0 fun a0 ha0 => p_ulaw_residue hp0 fun b hb => p_ulaw_residue hp0 fun c hc => p_ulaw_residue hp0 fun d hd => ?_
  refine wJoin_o (fun a => Rs p a ∧ NZ (a, b)) (fun j hj => Br_i (fun z => hj _ ⟨⟨by omega, by omega⟩, fun w => by simp at w⟩) fun z => hj _ ⟨ha0, fun w => ?_⟩) fun a ha => ?_
  · rw [Bool.and_eq_false_iff, decide_eq_false_iff_not, decide_eq_false_iff_not] at z
    simp only at w
    omega
  obtain ⟨ha, nz⟩ := ha
  unfold Rs at ha
  unfold NZ at nz
  simp only at nz
  refine wJoin_o (fun s : Vc => Rv p s ∧ ¬ Par p (a, b) s) (fun j hj => ⟨cmul_l (by omega), cmul_l (by omega), hp0, Br_i (fun z => ⟨hp0, wLet_i (hj _ ⟨⟨hc, R _⟩, fun w => ?_⟩)⟩) fun z => ⟨cmul_l (by omega), cmul_l (by omega), hp0, Br_p (fun z2 => ⟨hp0, wLet_i (hj _ ⟨⟨R _, hd⟩, fun w => ?_⟩)⟩) fun z2 => hj _ ⟨⟨hc, hd⟩, fun w => ?_⟩⟩⟩) fun s hs => h _ _ ⟨⟨ha, hb⟩, hs.1, hs.2⟩
  · rw [Bool.and_eq_true, decide_eq_true_eq, Bool.not_eq_true', decide_eq_false_iff_not] at z
    have d1 := Int.dvd_of_emod_eq_zero z.1
    have w : p ∣ a * ((d + 1) % p) - b * c := w
    have dm := Int.mul_ediv_add_emod (d + 1) p
    have e1 : a * ((d + 1) % p) - b * c = (a * d - b * c) + (a - p * (a * ((d + 1) / p))) := by grind
    rw [e1] at w
    have w2 := (Int.dvd_add_right d1).mp w
    have w3 := (Int.dvd_iff_dvd_of_dvd_sub (show p ∣ (a - p * (a * ((d + 1) / p))) - a from ⟨-(a * ((d + 1) / p)), by grind⟩)).mp w2
    exact z.2 (dvd0 w3 (by omega))
  · have d1 := Int.dvd_of_emod_eq_zero z2
    have a0 : a = 0 := by
      rw [Bool.and_eq_false_iff, decide_eq_false_iff_not] at z
      rcases z with z | z
      · exact absurd z2 z
      · simpa using z
    subst a0
    have w : p ∣ 0 * d - b * ((c + 1) % p) := w
    have dm := Int.mul_ediv_add_emod (c + 1) p
    have e1 : 0 * d - b * ((c + 1) % p) = (0 * d - b * c) + (p * (b * ((c + 1) / p)) - b) := by grind
    rw [e1] at w
    have w2 := (Int.dvd_add_right d1).mp w
    have w3 := (Int.dvd_iff_dvd_of_dvd_sub (show p ∣ (p * (b * ((c + 1) / p)) - b) - (-b) from ⟨b * ((c + 1) / p), by grind⟩)).mp w2
    have := dvd0 ((Int.dvd_neg).mp w3) (by omega)
    omega
  · exact z2 (Int.emod_eq_zero_of_dvd w)
theorem p_look_pair {p : Int} {v : Vc} {k : Unit → Prop} {e : PErr → Prop} (hv : Rv p v) (h : k ()) : w_look_pair p v k e := by
  unfold w_look_pair
  refine wFor_unit (fun x hx nx hn => p_look_residue (fun _ => hn) fun z => absurd ?_ z) h
  simp only [List.mem_cons, List.not_mem_nil, or_false] at hx
  rcases hx with z | z
  · rw [z]; exact hv.1
  · rw [z]; exact hv.2
theorem p_cross {p : Int} {a b : Vc} {k : Int → Prop} {e : PErr → Prop} (hp : 0 < p ∧ p ≤ 997) (ha : Rv p a) (hb : Rv p b) (h : k ((a.1 * b.2 - a.2 * b.1) % p)) : w_cross_product p a b k e := by
  unfold w_cross_product
  unfold Rv Rs at ha hb
  exact ⟨cmul_l (by omega), cmul_l (by omega), hp.1, h⟩
theorem p_Base_init {p : Int} {a b : Vc} {k : Int × Vc × Vc → Prop} {e : PErr → Prop} (hp : okP p) (hi : Ind p a b) (h : k (p, a, b)) : w_Base_init p a b k e := by
  have hp3 := (isP_nat hp.2.2).2
  unfold w_Base_init
  refine p_look_prime (fun _ => p_look_pair hi.1 (p_look_pair hi.2.1 (p_cross ⟨by omega, hp.2.1⟩ hi.1 hi.2.1 (Br_p (fun z => absurd (Int.dvd_of_emod_eq_zero z) hi.2.2) fun _ => h)))) fun z => absurd hp z
theorem p_point_vector {p x : Int} {k : Vc → Prop} {e : PErr → Prop} (hp : okP p) (hx : 0 ≤ x ∧ x ≤ p) (h : k (vec p x)) : w_point_vector p x k e := by
  unfold w_point_vector
  unfold vec at h
  refine p_look_prime (fun _ => p_look_number (fun _ => Br_p (fun c => ?_) fun c => ?_) fun z => absurd hx z) fun z => absurd hp z
  · rw [if_pos c] at h; exact h
  · rw [if_neg c] at h; exact h
theorem p_point_of {p : Int} {v : Vc} {k : Int → Prop} {e : PErr → Prop} (hp : okP p) (hv : Rv p v) (nz : NZ v) (h : k (pt p v)) : w_point_of p v k e := by
  have hp3 := (isP_nat hp.2.2).2
  have hp9 := hp.2.1
  unfold w_point_of
  unfold pt at h
  have hv' := hv
  unfold Rv Rs at hv'
  refine p_look_prime (fun _ => p_look_pair hv (Br_i (fun c => ?_) fun c => ?_)) fun z => absurd hp z
  · rw [Bool.not_eq_true', decide_eq_false_iff_not] at c
    rw [if_neg c] at h
    exact p_inverse hp (by omega) ⟨cmul_l (by omega), by omega, h⟩
  · rw [Bool.not_eq_false', decide_eq_true_eq] at c
    rw [if_pos c] at h
    exact Br_p (fun z => absurd ⟨c, z⟩ nz) fun _ => h
theorem p_crossed_point {p x : Int} {k : Int → Prop} {e : PErr → Prop} (h0 : ¬ okP p → e (NumE p)) (h1 : okP p → ¬ (0 ≤ x ∧ x ≤ p) → e (NumE x)) (h : okP p → (0 ≤ x ∧ x ≤ p) → k (crp p x)) : w_crossed_point p x k e := by
  unfold w_crossed_point
  refine p_look_prime (fun hp => p_look_number (fun hx => ?_) fun z => h1 hp z) h0
  have hp3 := (isP_nat hp.2.2).2
  have v := vec_ok hp.2.2 hx
  exact p_point_vector hp hx ⟨by omega, p_point_of hp (neg_rv (by omega) v.1) (neg_nz v.1 v.2) (h hp hx)⟩
theorem p_look_frame {p : Int} {f : Vc} {k : Unit → Prop} {e : PErr → Prop} (h1 : ¬ (0 ≤ f.1 ∧ f.1 ≤ p) → e (NumE f.1)) (h2 : (0 ≤ f.1 ∧ f.1 ≤ p) → ¬ (0 ≤ f.2 ∧ f.2 ≤ p) → e (NumE f.2)) (h3 : (0 ≤ f.1 ∧ f.1 ≤ p) → (0 ≤ f.2 ∧ f.2 ≤ p) → f.2 ≤ f.1 → e (NumE f.2)) (h : Fr p f → k ()) : w_look_frame p f k e := by
  unfold w_look_frame
  show w_look_number f.1 0 p (fun _ => w_look_number f.2 0 p (fun _ => Br (decide (f.2 ≤ f.1)) (e ⟨2, [("number", .int f.2)]⟩) (k ())) e) e
  exact p_look_number (fun a => p_look_number (fun b => Br_p (fun c => h3 a b c) fun c => h ⟨a.1, by omega, b.2⟩) fun z => h2 a z) h1
theorem p_ordered {x y : Int} {k : Vc → Prop} {e : PErr → Prop} (h : k (fr2 x y)) : w_ordered x y k e := h
def crF (p : Int) (f : Vc) : Vc := fr2 (crp p f.1) (crp p f.2)
theorem p_crossed_frame {p : Int} {f : Vc} {k : Vc → Prop} {e : PErr → Prop} (h0 : ¬ okP p → e (NumE p)) (h1 : okP p → ¬ (0 ≤ f.1 ∧ f.1 ≤ p) → e (NumE f.1)) (h2 : okP p → (0 ≤ f.1 ∧ f.1 ≤ p) → ¬ (0 ≤ f.2 ∧ f.2 ≤ p) → e (NumE f.2)) (h3 : okP p → (0 ≤ f.1 ∧ f.1 ≤ p) → (0 ≤ f.2 ∧ f.2 ≤ p) → f.2 ≤ f.1 → e (NumE f.2)) (h : okP p → Fr p f → k (crF p f)) : w_crossed_frame p f k e := by
  unfold w_crossed_frame
  refine p_look_prime (fun hp => p_look_frame (h1 hp) (h2 hp) (h3 hp) fun hf => ?_) h0
  have hf' := hf
  unfold Fr at hf'
  refine p_crossed_point (fun z => absurd hp z) (fun _ z => absurd ⟨hf'.1, by omega⟩ z) fun _ _ => ?_
  exact p_crossed_point (fun z => absurd hp z) (fun _ z => absurd ⟨by omega, hf'.2.2⟩ z) fun _ _ => h hp hf
theorem p_moved {p : Int} {a b v : Vc} {k : Vc → Prop} {e : PErr → Prop} (hp : 0 < p ∧ p ≤ 997) (ha : Rv p a) (hb : Rv p b) (hv : Rv p v) (h : k (mv p a b v)) : w_Base_moved (p, a, b) v k e := by
  have hv' := hv
  unfold Rv Rs at hv' ha hb
  unfold w_Base_moved
  refine p_look_pair hv ?_
  simp only
  exact ⟨cmul_l (by omega), cmul_l (by omega), hp.1, cmul_l (by omega), cmul_l (by omega), hp.1, h⟩
theorem p_same_prime {p q : Int} {s : Vc × Vc} {k : Unit → Prop} {e : PErr → Prop} (h1 : q = p → k ()) (h2 : q ≠ p → e ⟨8, [("prime", .int q)]⟩) : w_look_same_prime p (q, s) k e := by
  unfold w_look_same_prime
  refine Br_i (fun c => h2 ?_) fun c => h1 ?_
  · simpa using c
  · simpa using c
def mvF (p : Int) (a b f : Vc) : Vc := fr2 (mvp p a b f.1) (mvp p a b f.2)
theorem p_moved_frame {p q : Int} {a b f : Vc} {k : Vc → Prop} {e : PErr → Prop} (h0 : ¬ okP p → e (NumE p)) (h1 : okP p → ¬ (0 ≤ f.1 ∧ f.1 ≤ p) → e (NumE f.1)) (h2 : okP p → (0 ≤ f.1 ∧ f.1 ≤ p) → ¬ (0 ≤ f.2 ∧ f.2 ≤ p) → e (NumE f.2)) (h3 : okP p → (0 ≤ f.1 ∧ f.1 ≤ p) → (0 ≤ f.2 ∧ f.2 ≤ p) → f.2 ≤ f.1 → e (NumE f.2)) (h4 : okP p → Fr p f → q ≠ p → e ⟨8, [("prime", .int q)]⟩) (h : okP p → Fr p f → q = p → Ind p a b ∧ k (mvF p a b f)) : w_moved_frame p f (q, a, b) k e := by
  unfold w_moved_frame
  refine p_look_prime (fun hp => p_look_frame (h1 hp) (h2 hp) (h3 hp) fun hf => p_same_prime (fun eq => ?_) fun z => h4 hp hf z) h0
  obtain ⟨hi, hk⟩ := h hp hf eq
  subst eq
  have hp3 := (isP_nat hp.2.2).2
  have hp9 := hp.2.1
  have hf' := hf
  unfold Fr at hf'
  have v1 := vec_ok hp.2.2 (k := f.1) ⟨hf'.1, by omega⟩
  have v2 := vec_ok hp.2.2 (k := f.2) ⟨by omega, hf'.2.2⟩
  refine p_point_vector hp ⟨hf'.1, by omega⟩ (p_moved ⟨by omega, hp9⟩ hi.1 hi.2.1 v1.1 (p_point_vector hp ⟨by omega, hf'.2.2⟩ (p_moved ⟨by omega, hp9⟩ hi.1 hi.2.1 v2.1 ?_)))
  exact p_point_of hp (rv_mod (by omega)) (mv_nz hp.2.2 hi v1.1 v1.2) (p_point_of hp (rv_mod (by omega)) (mv_nz hp.2.2 hi v2.1 v2.2) hk)
/-- the base that leads back -/
def bkA (p : Int) (a b : Vc) : Vc := ((b.2 * inv p ((a.1 * b.2 - a.2 * b.1) % p)) % p, ((-a.2) * inv p ((a.1 * b.2 - a.2 * b.1) % p)) % p)
def bkB (p : Int) (a b : Vc) : Vc := (((-b.1) * inv p ((a.1 * b.2 - a.2 * b.1) % p)) % p, (a.1 * inv p ((a.1 * b.2 - a.2 * b.1) % p)) % p)
theorem bk_alg {p a1 a2 b1 b2 s t q c1 c2 d1 d2 m1 m2 m3 m4 : Int} (hs : (a1 * b2 - a2 * b1 - p * q) * s = 1 + p * t) (e1 : b2 * s = p * m1 + c1) (e2 : -a2 * s = p * m2 + c2) (e3 : -b1 * s = p * m3 + d1) (e4 : a1 * s = p * m4 + d2) :
    ((c1 * a1 + c2 * b1 - 1 = p * (t + q * s - m1 * a1 - m2 * b1)) ∧ (c1 * a2 + c2 * b2 = p * (0 - m1 * a2 - m2 * b2)) ∧ (d1 * a1 + d2 * b1 = p * (0 - m3 * a1 - m4 * b1)) ∧ (d1 * a2 + d2 * b2 - 1 = p * (t + q * s - m3 * a2 - m4 * b2))) ∧ ((a1 * c1 + a2 * d1 - 1 = p * (t + q * s - m1 * a1 - m3 * a2)) ∧ (a1 * c2 + a2 * d2 = p * (0 - m2 * a1 - m4 * a2)) ∧ (b1 * c1 + b2 * d1 = p * (0 - m1 * b1 - m3 * b2)) ∧ (b1 * c2 + b2 * d2 - 1 = p * (t + q * s - m2 * b1 - m4 * b2))) := by
  have h1 : c1 = b2 * s - p * m1 := by omega
  have h2 : c2 = -a2 * s - p * m2 := by omega
  have h3 : d1 = -b1 * s - p * m3 := by omega
  have h4 : d2 = a1 * s - p * m4 := by omega
  subst h1 h2 h3 h4
  have hs2 : p * t = a1 * b2 * s - a2 * b1 * s - p * q * s - 1 := by grind
  have d1 : ∀ x y z w : Int, p * (t + q * s - x * y - z * w) = p * t + p * q * s - p * x * y - p * z * w := fun x y z w => by grind
  have d0 : ∀ x y z w : Int, p * (0 - x * y - z * w) = 0 - p * x * y - p * z * w := fun x y z w => by grind
  simp only [d1, d0, hs2]
  refine ⟨⟨?_, ?_, ?_, ?_⟩, ?_, ?_, ?_, ?_⟩ <;> grind
theorem bk_ok {p : Int} (hp : isP p = true) {a b : Vc} (hi : Ind p a b) : Ind p (bkA p a b) (bkB p a b) ∧ Undo p a b (bkA p a b) (bkB p a b) ∧ Undo p (bkA p a b) (bkB p a b) a b := by
  have hp3 := (isP_nat hp).2
  have hp0 : 0 < p := by omega
  have r0 := Int.emod_nonneg (a.1 * b.2 - a.2 * b.1) (show p ≠ 0 by omega)
  have r1 := Int.emod_lt_of_pos (a.1 * b.2 - a.2 * b.1) hp0
  have rn : (a.1 * b.2 - a.2 * b.1) % p ≠ 0 := fun z => hi.2.2 (Int.dvd_of_emod_eq_zero z)
  have sp := (inv_spec hp (x := (a.1 * b.2 - a.2 * b.1) % p) (by omega) (by omega)).1
  have rA : Rv p (bkA p a b) := rv_mod hp0
  have rB : Rv p (bkB p a b) := rv_mod hp0
  have key : Undo p a b (bkA p a b) (bkB p a b) ∧ Undo p (bkA p a b) (bkB p a b) a b := by
    unfold bkA bkB
    have dm := Int.mul_ediv_add_emod (a.1 * b.2 - a.2 * b.1) p
    have sm := Int.mul_ediv_add_emod ((a.1 * b.2 - a.2 * b.1) % p * inv p ((a.1 * b.2 - a.2 * b.1) % p)) p
    rw [sp] at sm
    generalize (a.1 * b.2 - a.2 * b.1) % p * inv p ((a.1 * b.2 - a.2 * b.1) % p) / p = t at sm
    generalize inv p ((a.1 * b.2 - a.2 * b.1) % p) = s at sm ⊢
    have e1 := Int.mul_ediv_add_emod (b.2 * s) p
    have e2 := Int.mul_ediv_add_emod (-a.2 * s) p
    have e3 := Int.mul_ediv_add_emod (-b.1 * s) p
    have e4 := Int.mul_ediv_add_emod (a.1 * s) p
    have hs : (a.1 * b.2 - a.2 * b.1 - p * ((a.1 * b.2 - a.2 * b.1) / p)) * s = 1 + p * t := by
      rw [show a.1 * b.2 - a.2 * b.1 - p * ((a.1 * b.2 - a.2 * b.1) / p) = (a.1 * b.2 - a.2 * b.1) % p by omega]
      omega
    have z := bk_alg hs e1.symm e2.symm e3.symm e4.symm
    exact ⟨⟨⟨⟨_, z.1.1⟩, ⟨_, z.1.2.1⟩⟩, ⟨_, z.1.2.2.1⟩, ⟨_, z.1.2.2.2⟩⟩, ⟨⟨_, z.2.1⟩, ⟨_, z.2.2.1⟩⟩, ⟨_, z.2.2.2.1⟩, ⟨_, z.2.2.2.2⟩⟩
  refine ⟨⟨rA, rB, fun par => ?_⟩, key⟩
  -- dependent vectors lead nothing back
  obtain ⟨⟨⟨q11, y11⟩, ⟨q12, y12⟩⟩, ⟨q21, y21⟩, ⟨q22, y22⟩⟩ := key.2
  obtain ⟨q, y⟩ := par
  generalize bkA p a b = c at y11 y12 y21 y22 y
  generalize bkB p a b = d at y11 y12 y21 y22 y
  have f1 : a.1 * c.1 + a.2 * d.1 = 1 + p * q11 := by omega
  have f2 : b.1 * c.2 + b.2 * d.2 = 1 + p * q22 := by omega
  have f : (a.1 * b.2 - a.2 * b.1) * (c.1 * d.2 - c.2 * d.1) = 1 + p * (q11 + q22 + p * q11 * q22 - p * q12 * q21) := by
    have g : (a.1 * b.2 - a.2 * b.1) * (c.1 * d.2 - c.2 * d.1) = (a.1 * c.1 + a.2 * d.1) * (b.1 * c.2 + b.2 * d.2) - (a.1 * c.2 + a.2 * d.2) * (b.1 * c.1 + b.2 * d.1) := by grind
    rw [g, f1, f2, y12, y21]
    grind
  rw [y] at f
  have d1 : p ∣ 1 := ⟨(a.1 * b.2 - a.2 * b.1) * q - (q11 + q22 + p * q11 * q22 - p * q12 * q21), by
    have : p * ((a.1 * b.2 - a.2 * b.1) * q - (q11 + q22 + p * q11 * q22 - p * q12 * q21)) = (a.1 * b.2 - a.2 * b.1) * (p * q) - p * (q11 + q22 + p * q11 * q22 - p * q12 * q21) := by grind
    rw [this, f]
    omega⟩
  exact absurd (dvd0 d1 (by omega)) (by decide)
theorem p_back {p : Int} {a b : Vc} {k : Int × Vc × Vc → Prop} {e : PErr → Prop} (hp : okP p) (hi : Ind p a b) (h : k (p, bkA p a b, bkB p a b)) : w_Base_back (p, a, b) k e := by
  have hp3 := (isP_nat hp.2.2).2
  have hp9 := hp.2.1
  have hp0 : 0 < p := by omega
  have ab := bk_ok hp.2.2 hi
  have r0 := Int.emod_nonneg (a.1 * b.2 - a.2 * b.1) (show p ≠ 0 by omega)
  have r1 := Int.emod_lt_of_pos (a.1 * b.2 - a.2 * b.1) hp0
  have rn : (a.1 * b.2 - a.2 * b.1) % p ≠ 0 := fun z => hi.2.2 (Int.dvd_of_emod_eq_zero z)
  unfold w_Base_back
  refine p_cross ⟨hp0, hp9⟩ hi.1 hi.2.1 (p_inverse hp (by simp only; omega) ?_)
  have hi' := hi
  unfold Ind Rv Rs at hi'
  simp only
  exact ⟨cmul_l (by omega), hp0, cmul_l (by omega), hp0, cmul_l (by omega), hp0, cmul_l (by omega), hp0, p_Base_init hp ab.1 h⟩
theorem p_law_vector {p x : Int} {k : Vc → Prop} {e : PErr → Prop} (h : k (vec p x)) : w_ulaw_vector p x k e := by
  unfold w_ulaw_vector
  unfold vec at h
  refine wJoin_i (Br_p (fun c => ?_) fun c => ?_)
  · rw [if_pos c] at h; exact h
  · rw [if_neg c] at h; exact h
theorem p_law_point {p : Int} {v : Vc} {k : Int → Prop} {e : PErr → Prop} (hp : okP p) (hv : Rv p v) (h : k (pt p v)) : w_ulaw_point p v k e := by
  have hp3 := (isP_nat hp.2.2).2
  have hp9 := hp.2.1
  unfold w_ulaw_point
  unfold pt at h
  have hv' := hv
  unfold Rv Rs at hv'
  have step : ∀ d : Int, 0 ≤ d → d < p → v.1 ≠ 0 → v.1 * d % p = v.2 → k d := fun d d0 d1 c z => by
    rw [if_neg c] at h
    rw [quot_unique hp.2.2 (a := v.1) (b := v.2) (k := d) (by omega) (by omega) ⟨d0, d1⟩ z]
    exact h
  refine ⟨rg_ok (by omega), wFor_rng (fun i _ => ∀ d : Int, 0 ≤ d → d < i → ¬ (v.1 ≠ 0 ∧ v.1 * d % p = v.2)) (by omega) (fun d d0 d1 => by omega) (fun i s nx i0 i1 hi hn => ⟨fun _ => cmul_l (by omega), fun _ => by omega, Br_i (fun c => ?_) fun c => hn _ fun d d0 d1 => ?_⟩) fun s hi => ?_⟩
  · rw [Bool.and_eq_true, Bool.not_eq_true', decide_eq_false_iff_not, decide_eq_true_eq] at c
    exact step i i0 i1 c.1 c.2
  · by_cases z : d = i
    · subst z
      intro w
      rw [Bool.and_eq_false_iff] at c
      rcases c with c | c
      · simp at c; exact w.1 c
      · exact (of_decide_eq_false c) w.2
    · exact hi d d0 (by omega)
  · by_cases c : v.1 = 0
    · rw [if_pos c] at h; exact h
    · exfalso
      have q := quot_hit hp.2.2 (a := v.1) (b := v.2) (by omega) (by omega) hv.2
      exact hi _ (Int.emod_nonneg _ (by omega)) (Int.emod_lt_of_pos _ (by omega)) ⟨c, q⟩
theorem p_law_crossed {p x : Int} {k : Int → Prop} {e : PErr → Prop} (hp : okP p) (hx : 0 ≤ x ∧ x ≤ p) (h : k (crp p x)) : w_ulaw_crossed p x k e := by
  have hp3 := (isP_nat hp.2.2).2
  have v := vec_ok hp.2.2 hx
  unfold w_ulaw_crossed
  refine p_law_vector ⟨by omega, ?_⟩
  rw [Int.zero_sub]
  exact p_law_point hp (neg_rv (by omega) v.1) h
theorem p_law_mixed {p : Int} {a b v : Vc} {k : Vc → Prop} {e : PErr → Prop} (hp : 0 < p ∧ p ≤ 997) (ha : Rv p a) (hb : Rv p b) (hv : Rv p v) (h : k (mv p a b v)) : w_ulaw_mixed p (a, b) v k e := by
  unfold Rv Rs at hv ha hb
  unfold w_ulaw_mixed
  simp only
  exact ⟨cmul_l (by omega), cmul_l (by omega), hp.1, wLet_i ⟨cmul_l (by omega), cmul_l (by omega), hp.1, h⟩⟩
theorem p_law_moved {p : Int} {a b f : Vc} {k : Vc → Prop} {e : PErr → Prop} (hp : okP p) (hi : Ind p a b) (hf : Fr p f) (h : k (mvF p a b f)) : w_ulaw_moved p f (a, b) k e := by
  have hp3 := (isP_nat hp.2.2).2
  have hp9 := hp.2.1
  unfold Fr at hf
  have v1 := vec_ok hp.2.2 (k := f.1) ⟨hf.1, by omega⟩
  have v2 := vec_ok hp.2.2 (k := f.2) ⟨by omega, hf.2.2⟩
  unfold w_ulaw_moved
  exact p_law_vector (p_law_mixed ⟨by omega, hp9⟩ hi.1 hi.2.1 v1.1 (p_law_point hp (rv_mod (by omega)) (p_law_vector (p_law_mixed ⟨by omega, hp9⟩ hi.1 hi.2.1 v2.1 (p_law_point hp (rv_mod (by omega)) h)))))
theorem p_law_pair {v : Vc} {k : Bool → Prop} {e : PErr → Prop} (h : k true) : w_ulaw_pair v v k e := by
  unfold w_ulaw_pair
  refine wJoin_i (Br_x rfl (wComp_map (fun _ => true) (fun x _ nx hx => hx) (Br_x rfl ?_)))
  rw [decide_eq_true rfl]
  exact h
theorem p_frames {p : Int} {k : List Vc → Prop} {e : PErr → Prop} (hp : 0 < p ∧ p ≤ 997) (h : ∀ R : List Vc, AllFr p R → (R.length : Int) ≤ (p + 1) * 1000 → k R) : w_ulaw_frames p k e := by
  unfold w_ulaw_frames
  refine wLet_i ⟨rg_ok (by omega), ?_⟩
  refine wFor_rng (fun i R => ((∀ f : Vc, f ∈ R ↔ (Fr p f ∧ f.1 < i)) ∧ R.Pairwise (fun x y => ltQ x y = true)) ∧ (R.length : Int) ≤ i * 1000) (by omega) ⟨⟨fun f => ⟨fun z => (nomatch z), fun z => ?_⟩, .nil⟩, by simp⟩ ?_ fun R hR => h R ⟨fun f => ?_, hR.1.2⟩ hR.2
  · have := z.1.1
    omega
  · rintro i R nx i0 i1 ⟨⟨hm, hs⟩, hl⟩ hn
    refine ⟨rg_ok (by omega), lim_le (by omega), wComp_map (fun d => (i, d)) (fun d _ nx hx => hx) ⟨lim_le (by rw [List.length_map, rangeL_len]; omega), wLet_i (hn _ ⟨⟨fun f => ?_, ?_⟩, ?_⟩)⟩⟩
    · rw [List.mem_append, hm, List.mem_map]
      constructor
      · rintro (z | ⟨d, hd, rfl⟩)
        · exact ⟨z.1, by omega⟩
        · have := mem_rangeL.mp hd
          exact ⟨⟨i0, by simp only; omega, by simp only; omega⟩, by simp only; omega⟩
      · rintro ⟨z, zi⟩
        by_cases c : f.1 < i
        · exact Or.inl ⟨z, c⟩
        · unfold Fr at z
          have e1 : f.1 = i := by omega
          exact Or.inr ⟨f.2, mem_rangeL.mpr (by omega), Prod.ext e1.symm rfl⟩
    · refine List.pairwise_append.mpr ⟨hs, ?_, fun x hx y hy => ?_⟩
      · rw [List.pairwise_map]
        unfold rangeL
        rw [List.pairwise_map]
        refine List.Pairwise.imp (fun {a b} hab => ?_) List.pairwise_lt_range
        exact SrtO.lexB_iff.mpr (Or.inr ⟨rfl, by simp only; omega⟩)
      · obtain ⟨d, _, rfl⟩ := List.mem_map.mp hy
        have := ((hm x).mp hx).2
        exact SrtO.lexB_iff.mpr (Or.inl (by simp only; omega))
    · rw [List.length_append, List.length_map, rangeL_len]
      omega
  · rw [hR.1.1]
    unfold Fr
    constructor
    · exact fun z => z.1
    · exact fun z => ⟨z, by omega⟩
theorem p_some {u v : Unit} {p : Int} {k : (List Int × List Vc) → Prop} {e : PErr → Prop} (hp : 3 ≤ p ∧ p ≤ 997) (h : ∀ (L : List Int) (R : List Vc), (∀ x, x ∈ L → 0 ≤ x ∧ x ≤ p) → (∀ f, f ∈ R → Fr p f) → R.length ≤ 9000 → (p < 8 → AllFr p R) → k (L, R)) : w_ulaw_some u v p k e := by
  unfold w_ulaw_some
  refine Br_p (fun c => ⟨by omega, p_frames ⟨by omega, hp.2⟩ fun R hR hl => h _ R (fun x hx => ?_) (fun f hf => (hR.1 f).mp hf) (by omega) fun _ => hR⟩) fun c => ?_
  · have := mem_rangeL.mp hx
    omega
  refine wLet_i (wLet_i ⟨rg_ok (by omega), wFor_rng (fun i s => (∀ x, x ∈ s.1 → 0 ≤ x ∧ x ≤ p) ∧ (∀ f : Vc, f ∈ s.2 → Fr p f) ∧ ((s.1.length : Int) ≤ 10 + i ∧ (s.2.length : Int) ≤ 10 + i)) (by omega) ⟨fun x hx => ?_, fun f hf => ?_, by simp⟩ ?_ fun s i => h _ _ i.1 i.2.1 (by have := i.2.2; omega) fun z => absurd z c⟩)
  · simp only [List.mem_cons, List.not_mem_nil, or_false] at hx
    omega
  · simp only [List.mem_cons, List.not_mem_nil, or_false] at hf
    unfold Fr
    rcases hf with rfl | rfl | rfl | rfl <;> simp only <;> omega
  · rintro i ⟨L, R⟩ nx i0 i1 ⟨h1, h2, h3⟩ hn
    simp only at h1 h2 h3 ⊢
    refine p_next (by omega) fun x x0 x1 => ⟨lim_lt (by omega), wLet_i (p_next (by omega) fun y y0 y1 => ⟨lim_lt (by omega), wLet_i (hn _ ⟨fun z hz => ?_, fun f hf => ?_, ?_⟩)⟩)⟩
    · rcases List.mem_append.mp hz with q | q
      · exact h1 z q
      · rw [List.mem_singleton.mp q]; omega
    · rcases List.mem_append.mp hf with q | q
      · exact h2 f q
      · rw [List.mem_singleton.mp q]
        exact ⟨by simp only; omega, by simp only; omega, by simp only; omega⟩
    · simp only [List.length_append, List.length_singleton]
      omega
theorem pa0 {p x z : Int} {b : Int × Vc × Vc} {k : (Str × (Int ⊕ (List (Str × Int)) ⊕ Vc)) → Prop} {e : PErr → Prop} (hd : ∀ (k : Int → Prop) (e : PErr → Prop), e (NumE z) → w_crossed_point p x k e) (h : k (Str.ofString "refused", .inr (.inl [(Str.ofString "number", z)]))) : w_ulaw_asked 0 p (.inl x) b k e :=
  Br_y rfl ⟨rfl, hd _ _ (wLet_i (wJoin_i (Br_y rfl ⟨z, rfl, lim_lt (by decide), wLet_i (wJoin_i (Br_x rfl (wJoin_i (Br_x rfl h))))⟩)))⟩
theorem pa1 {p z : Int} {f : Vc} {b : Int × Vc × Vc} {k : (Str × (Int ⊕ (List (Str × Int)) ⊕ Vc)) → Prop} {e : PErr → Prop} (hd : ∀ (k : Vc → Prop) (e : PErr → Prop), e (NumE z) → w_crossed_frame p f k e) (h : k (Str.ofString "refused", .inr (.inl [(Str.ofString "number", z)]))) : w_ulaw_asked 1 p (.inr f) b k e :=
  Br_x rfl (Br_y rfl ⟨rfl, hd _ _ (wLet_i (wJoin_i (Br_y rfl ⟨z, rfl, lim_lt (by decide), wLet_i (wJoin_i (Br_x rfl (wJoin_i (Br_x rfl h))))⟩)))⟩)
theorem pa2 {p z : Int} {f : Vc} {b : Int × Vc × Vc} {k : (Str × (Int ⊕ (List (Str × Int)) ⊕ Vc)) → Prop} {e : PErr → Prop} (hd : ∀ (k : Vc → Prop) (e : PErr → Prop), e (NumE z) → w_moved_frame p f b k e) (h : k (Str.ofString "refused", .inr (.inl [(Str.ofString "number", z)]))) : w_ulaw_asked 2 p (.inr f) b k e :=
  Br_x rfl (Br_x rfl ⟨rfl, hd _ _ (wLet_i (wJoin_i (Br_y rfl ⟨z, rfl, lim_lt (by decide), wLet_i (wJoin_i (Br_x rfl (wJoin_i (Br_x rfl h))))⟩)))⟩)
theorem pa2p {p z : Int} {f : Vc} {b : Int × Vc × Vc} {k : (Str × (Int ⊕ (List (Str × Int)) ⊕ Vc)) → Prop} {e : PErr → Prop} (hd : ∀ (k : Vc → Prop) (e : PErr → Prop), e ⟨8, [("prime", .int z)]⟩ → w_moved_frame p f b k e) (h : k (Str.ofString "refused", .inr (.inl [(Str.ofString "prime", z)]))) : w_ulaw_asked 2 p (.inr f) b k e :=
  Br_x rfl (Br_x rfl ⟨rfl, hd _ _ (wLet_i (wJoin_i (Br_x rfl (wJoin_i (Br_y rfl ⟨z, rfl, lim_lt (by decide), wLet_i (wJoin_i (Br_x rfl h))⟩)))))⟩)
abbrev Ask := Int × Int × (Int ⊕ Vc) × (Str × Int)
def OkA (q : Ask) : Prop := ∃ z : Int, q.2.2.2 = (Str.ofString "number", z) ∧ ((q.1 = 0 ∧ ∃ x, q.2.2.1 = .inl x ∧ ∀ (k : Int → Prop) (e : PErr → Prop), e (NumE z) → w_crossed_point q.2.1 x k e) ∨
  (q.1 = 1 ∧ ∃ f, q.2.2.1 = .inr f ∧ ∀ (k : Vc → Prop) (e : PErr → Prop), e (NumE z) → w_crossed_frame q.2.1 f k e) ∨
  (q.1 = 2 ∧ ∃ f, q.2.2.1 = .inr f ∧ ∀ (b : Int × Vc × Vc) (k : Vc → Prop) (e : PErr → Prop), e (NumE z) → w_moved_frame q.2.1 f b k e))
theorem lay_num : (PyData.str (Str.ofString "number")).canLay0 = true := by decide +kernel
theorem lay_ref : (PyData.str (Str.ofString "refused")).canLay0 = true := by decide +kernel
theorem lay_prime : (PyData.str (Str.ofString "prime")).canLay0 = true := by decide +kernel
theorem p_refused {u v : Unit} {p : Int} {a b : Vc} {k : Bool → Prop} {e : PErr → Prop} (hp : okP p) (hi : Ind p a b) (h : k true) : w_ulaw_refused u v p (a, b) k e := by
  have hp3 := (isP_nat hp.2.2).2
  have hp9 := hp.2.1
  unfold w_ulaw_refused
  refine p_Base_init hp hi (p_next (by decide) fun n n0 n1 => ⟨inB_of n0 (by simpa using n1), wLet_i ?_⟩)
  have hodd : ¬ okP (ixG ([(0 : Int), 1, 2, 4, 9, 49, 961, 998, 999, 1009, 0 - 5] : List Int) n) := by
    have hm := ixG_mem (xs := ([(0 : Int), 1, 2, 4, 9, 49, 961, 998, 999, 1009, 0 - 5] : List Int)) n0 (by simpa using n1)
    have : ∀ x, x ∈ ([(0 : Int), 1, 2, 4, 9, 49, 961, 998, 999, 1009, 0 - 5] : List Int) → ¬ (0 ≤ x ∧ x ≤ 997 ∧ isP x = true) := by decide +kernel
    exact this _ hm
  generalize ixG ([(0 : Int), 1, 2, 4, 9, 49, 961, 998, 999, 1009, 0 - 5] : List Int) n = odd at hodd ⊢
  refine p_next (by decide) fun m m0 m1 => wLet_i (p_next (by decide) fun i i0 i1 => ⟨inB_of i0 (by simpa using i1), wLet_i ?_⟩)
  have hfar : ¬ (0 ≤ ixG ([p + 1, 0 - 1, p + 1 + m] : List Int) i ∧ ixG ([p + 1, 0 - 1, p + 1 + m] : List Int) i ≤ p) := by
    have hm := ixG_mem (xs := ([p + 1, 0 - 1, p + 1 + m] : List Int)) i0 (by simpa using i1)
    simp only [List.mem_cons, List.not_mem_nil, or_false] at hm
    omega
  generalize ixG ([p + 1, 0 - 1, p + 1 + m] : List Int) i = far at hfar ⊢
  refine p_next (by omega) fun j j0 j1 => p_next (by omega) fun l l0 l1 => wLet_i ?_
  have hq : ∃ q : Int, cond (decide (p = 3)) 7 3 = q ∧ okP q ∧ q ≠ p := by
    by_cases c : p = 3
    · rw [decide_eq_true c]
      exact ⟨7, rfl, ⟨by omega, by omega, by decide +kernel⟩, by omega⟩
    · rw [decide_eq_false c]
      exact ⟨3, rfl, ⟨by omega, by omega, by decide +kernel⟩, by omega⟩
  obtain ⟨q, eq, hqp, hne⟩ := hq
  rw [eq]
  have hq3 := (isP_nat hqp.2.2).2
  refine p_Base_init hqp ⟨⟨⟨by simp only; omega, by simp only; omega⟩, by simp only; omega, by simp only; omega⟩, ⟨⟨by simp only; omega, by simp only; omega⟩, by simp only; omega, by simp only; omega⟩, fun w => by have := dvd0 w (by simp only; omega); simp at this⟩ (wLet_i ?_)
  have askN : ∀ (q : Ask), OkA q → ∀ (b : Int × Vc × Vc) {k : (Str × (Int ⊕ (List (Str × Int)) ⊕ Vc)) → Prop} {e : PErr → Prop}, (∀ z, q.2.2.2 = (Str.ofString "number", z) → k (Str.ofString "refused", .inr (.inl [(Str.ofString "number", z)]))) → w_ulaw_asked q.1 q.2.1 q.2.2.1 b k e := by
    rintro ⟨w, x, t, d⟩ ⟨z, hz, hq⟩ b k e hk
    simp only at hz hq hk ⊢
    have hk := hk z hz
    rcases hq with ⟨rfl, y, rfl, hd⟩ | ⟨rfl, y, rfl, hd⟩ | ⟨rfl, y, rfl, hd⟩
    · exact pa0 hd hk
    · exact pa1 hd hk
    · exact pa2 (hd b) hk
  have cO : ∀ x (k : Int → Prop) (e : PErr → Prop), e (NumE odd) → w_crossed_point odd x k e := fun x k e he => p_crossed_point (fun _ => he) (fun z => absurd z hodd) fun z => absurd z hodd
  have fO : ∀ f (k : Vc → Prop) (e : PErr → Prop), e (NumE odd) → w_crossed_frame odd f k e := fun f k e he => p_crossed_frame (fun _ => he) (fun z => absurd z hodd) (fun z => absurd z hodd) (fun z => absurd z hodd) fun z => absurd z hodd
  have mO : ∀ f (b : Int × Vc × Vc) (k : Vc → Prop) (e : PErr → Prop), e (NumE odd) → w_moved_frame odd f b k e := fun f b k e he => p_moved_frame (fun _ => he) (fun z => absurd z hodd) (fun z => absurd z hodd) (fun z => absurd z hodd) (fun z => absurd z hodd) fun z => absurd z hodd
  -- the frames that are none, each with its number
  have bad : ∀ f z, (f = (j, l) ∧ z = l) ∨ (f = (far, l) ∧ z = far) ∨ (f = (j, far) ∧ z = far) → (∀ (k : Vc → Prop) (e : PErr → Prop), e (NumE z) → w_crossed_frame p f k e) ∧ ∀ (b : Int × Vc × Vc) (k : Vc → Prop) (e : PErr → Prop), e (NumE z) → w_moved_frame p f b k e := by
    rintro f z (⟨rfl, rfl⟩ | ⟨rfl, rfl⟩ | ⟨rfl, rfl⟩)
    · exact ⟨fun k e he => p_crossed_frame (fun w => absurd hp w) (fun _ w => absurd ⟨by simp only; omega, by simp only; omega⟩ w) (fun _ _ w => absurd ⟨by simp only; omega, by simp only; omega⟩ w) (fun _ _ _ _ => he) fun _ w => absurd w.2.1 (by simp only; omega), fun b k e he => p_moved_frame (fun w => absurd hp w) (fun _ w => absurd ⟨by simp only; omega, by simp only; omega⟩ w) (fun _ _ w => absurd ⟨by simp only; omega, by simp only; omega⟩ w) (fun _ _ _ _ => he) (fun _ w => absurd w.2.1 (by simp only; omega)) fun _ w => absurd w.2.1 (by simp only; omega)⟩
    · exact ⟨fun k e he => p_crossed_frame (fun w => absurd hp w) (fun _ _ => he) (fun _ w => absurd w hfar) (fun _ w => absurd w hfar) fun _ w => absurd ⟨w.1, by have := w.2; simp only at this; omega⟩ hfar, fun b k e he => p_moved_frame (fun w => absurd hp w) (fun _ _ => he) (fun _ w => absurd w hfar) (fun _ w => absurd w hfar) (fun _ w => absurd ⟨w.1, by have := w.2; simp only at this; omega⟩ hfar) fun _ w => absurd ⟨w.1, by have := w.2; simp only at this; omega⟩ hfar⟩
    · exact ⟨fun k e he => p_crossed_frame (fun w => absurd hp w) (fun _ w => absurd ⟨by simp only; omega, by simp only; omega⟩ w) (fun _ _ _ => he) (fun _ _ w => absurd w hfar) fun _ w => absurd ⟨by have := w.1; have := w.2.1; simp only at *; omega, w.2.2⟩ hfar, fun b k e he => p_moved_frame (fun w => absurd hp w) (fun _ w => absurd ⟨by simp only; omega, by simp only; omega⟩ w) (fun _ _ _ => he) (fun _ _ w => absurd w hfar) (fun _ w => absurd ⟨by have := w.1; have := w.2.1; simp only at *; omega, w.2.2⟩ hfar) fun _ w => absurd ⟨by have := w.1; have := w.2.1; simp only at *; omega, w.2.2⟩ hfar⟩
  have okF : ∀ w f z, (w = 1 ∨ w = 2) → ((f = (j, l) ∧ z = l) ∨ (f = (far, l) ∧ z = far) ∨ (f = (j, far) ∧ z = far)) → OkA (w, p, .inr f, (Str.ofString "number", z)) := fun w f z hw hf => ⟨z, rfl, by
    have := bad f z hf
    rcases hw with rfl | rfl
    · exact Or.inr (Or.inl ⟨rfl, f, rfl, this.1⟩)
    · exact Or.inr (Or.inr ⟨rfl, f, rfl, this.2⟩)⟩
  have okO : ∀ w f, (w = 1 ∨ w = 2) → OkA (w, odd, .inr f, (Str.ofString "number", odd)) := fun w f hw => ⟨odd, rfl, by
    rcases hw with rfl | rfl
    · exact Or.inr (Or.inl ⟨rfl, f, rfl, fO f⟩)
    · exact Or.inr (Or.inr ⟨rfl, f, rfl, mO f⟩)⟩
  refine wFor_inv (fun pre (s : List Ask) => s.length ≤ 10 + 10 * pre.length ∧ ∀ q, q ∈ s → OkA q) ⟨by simp, fun q hq => ?_⟩ (fun pre w post s nx e i hn => ?_) fun s i => ?_
  · simp only [List.mem_cons, List.not_mem_nil, or_false] at hq
    rcases hq with rfl | rfl
    · exact ⟨far, rfl, Or.inl ⟨rfl, far, rfl, fun k e he => p_crossed_point (fun w => absurd hp w) (fun _ _ => he) fun _ w => absurd w hfar⟩⟩
    · exact ⟨odd, rfl, Or.inl ⟨rfl, far, rfl, cO far⟩⟩
  · have hw : w = 1 ∨ w = 2 := by
      have : w ∈ ([1, 2] : List Int) := by
        have hm : w ∈ [((1 : Int), (2 : Int)).1, ((1 : Int), (2 : Int)).2] := by rw [e]; simp
        exact hm
      simpa using this
    have hl : pre.length ≤ 2 := by
      have := congrArg List.length e
      simp at this
      omega
    refine ⟨lim_lt (by omega), wLet_i ⟨lim_lt (by simp; omega), wLet_i ⟨lim_lt (by simp; omega), wLet_i ⟨lim_lt (by simp; omega), wLet_i (hn _ ⟨by simp; omega, fun q hq => ?_⟩)⟩⟩⟩⟩
    simp only [List.mem_append, List.mem_singleton] at hq
    rcases hq with (((z | z) | z) | z) | z
    · exact i.2 q z
    · rw [z]; exact okO w _ hw
    · rw [z]; exact okF w _ _ hw (Or.inl ⟨rfl, rfl⟩)
    · rw [z]; exact okF w _ _ hw (Or.inr (Or.inl ⟨rfl, rfl⟩))
    · rw [z]; exact okF w _ _ hw (Or.inr (Or.inr ⟨rfl, rfl⟩))
  · have okk : ∀ z : Int, (∀ x ∈ ([(Str.ofString "number", z)] : List (Str × Int)), (PyData.str x.1).canLay0 = true ∧ True) := fun z x hx => by rw [List.mem_singleton.mp hx]; exact ⟨lay_num, trivial⟩
    refine wFor_unit (fun q hq nx hx => ?_) ?_
    · have ok := i.2 q hq
      obtain ⟨z, hz, hd⟩ := ok
      have ok := i.2 q hq
      have lst : ([q.2.2.2] : List (Str × Int)) = [(Str.ofString "number", z)] := by rw [hz]
      rw [lst]
      refine askN q ok _ fun z' hz' => ?_
      have : z = z' := by rw [hz] at hz'; exact (Prod.mk.inj hz').2
      subst this
      refine ⟨⟨lay_ref, okk z⟩, ⟨lay_ref, okk z⟩, Br_x (by rw [decide_eq_true rfl]; rfl) (wJoin_i (Br_p (fun c => ?_) fun _ => Br_x rfl hx))⟩
      have a2 := fun (b : Int × Vc × Vc) {k : (Str × (Int ⊕ (List (Str × Int)) ⊕ Vc)) → Prop} {e : PErr → Prop} => @askN q ok b k e
      rw [c] at a2
      refine a2 _ fun z' hz' => ?_
      have : z = z' := by rw [hz] at hz'; exact (Prod.mk.inj hz').2
      subst this
      exact ⟨⟨lay_ref, okk z⟩, ⟨lay_ref, okk z⟩, Br_x (by rw [decide_eq_true rfl]; rfl) hx⟩
    · refine pa2p (z := q) (fun k e he => p_moved_frame (fun w => absurd hp w) (fun _ w => absurd ⟨by simp only; omega, by simp only; omega⟩ w) (fun _ _ w => absurd ⟨by simp only; omega, by simp only; omega⟩ w) (fun _ _ _ w => absurd w (by simp only; omega)) (fun _ _ _ => he) fun _ _ w => absurd w hne) ?_
      have okp : ∀ x ∈ ([(Str.ofString "prime", q)] : List (Str × Int)), (PyData.str x.1).canLay0 = true ∧ True := fun x hx => by rw [List.mem_singleton.mp hx]; exact ⟨lay_prime, trivial⟩
      refine ⟨⟨lay_ref, okp⟩, ⟨lay_ref, okp⟩, ?_⟩
      rw [decide_eq_true rfl]
      exact h
theorem pure_law (ns : List Int) (hl : ns.length ≤ 63) : w_law ns (fun b => b = true) (fun _ => False) := by
  unfold w_law
  refine p_draws (by omega) hl (p_ulaw_primeB fun p hp hp9 => ?_)
  have hp3 := (isP_nat hp).2
  have ok : okP p := ⟨by omega, hp9, hp⟩
  refine p_ulaw_base hp hp9 fun a b hi => p_Base_init ok hi (p_some ⟨hp3, hp9⟩ fun L R hL hR hl2 hall => ?_)
  have bk := bk_ok hp hi
  have cr := fun k (h0 : 0 ≤ k) (h1 : k ≤ p) => crp_ok hp (k := k) ⟨h0, h1⟩
  have cr2 := fun k (h0 : 0 ≤ k) (h1 : k ≤ p) => crp_two hp (k := k) ⟨h0, h1⟩
  have mv1 := fun k (h0 : 0 ≤ k) (h1 : k ≤ p) => mvp_ok hp hi (k := k) ⟨h0, h1⟩
  have mv2 := fun k (h0 : 0 ≤ k) (h1 : k ≤ p) => mvp_ok hp bk.1 (k := k) ⟨h0, h1⟩
  have un1 := fun k (h0 : 0 ≤ k) (h1 : k ≤ p) => mvp_back hp bk.1 hi bk.2.2 (k := k) ⟨h0, h1⟩
  have un2 := fun k (h0 : 0 ≤ k) (h1 : k ≤ p) => mvp_back hp hi bk.1 bk.2.1 (k := k) ⟨h0, h1⟩
  have cF : ∀ f, Fr p f → Fr p (crF p f) ∧ crF p (crF p f) = f := fun f hf => ⟨fr2_map cr cr2 hf, fr2_back cr2 hf⟩
  have mF : ∀ f, Fr p f → Fr p (mvF p a b f) ∧ mvF p (bkA p a b) (bkB p a b) (mvF p a b f) = f := fun f hf => ⟨fr2_map mv1 un1 hf, fr2_back un1 hf⟩
  have mG : ∀ f, Fr p f → Fr p (mvF p (bkA p a b) (bkB p a b) f) ∧ mvF p a b (mvF p (bkA p a b) (bkB p a b) f) = f := fun f hf => ⟨fr2_map mv2 un2 hf, fr2_back un2 hf⟩
  have cP : ∀ {x : Int} {k : Int → Prop} {e : PErr → Prop}, 0 ≤ x ∧ x ≤ p → k (crp p x) → w_crossed_point p x k e := fun hx hk => p_crossed_point (fun z => absurd ok z) (fun _ z => absurd hx z) fun _ _ => hk
  have cFr : ∀ {f : Vc} {k : Vc → Prop} {e : PErr → Prop}, Fr p f → k (crF p f) → w_crossed_frame p f k e := fun hf hk => p_crossed_frame (fun z => absurd ok z) (fun _ z => absurd ⟨hf.1, by have := hf.2; omega⟩ z) (fun _ _ z => absurd ⟨by have := hf.1; have := hf.2; omega, hf.2.2⟩ z) (fun _ _ _ z => absurd z (by have := hf.2.1; omega)) fun _ _ => hk
  have mFr : ∀ {f c d : Vc} {k : Vc → Prop} {e : PErr → Prop}, Ind p c d → Fr p f → k (mvF p c d f) → w_moved_frame p f (p, c, d) k e := fun hcd hf hk => p_moved_frame (fun z => absurd ok z) (fun _ z => absurd ⟨hf.1, by have := hf.2; omega⟩ z) (fun _ _ z => absurd ⟨by have := hf.1; have := hf.2; omega, hf.2.2⟩ z) (fun _ _ _ z => absurd z (by have := hf.2.1; omega)) (fun _ _ z => absurd rfl z) fun _ _ _ => ⟨hcd, hk⟩
  refine wFor_unit (fun x hx nx hn => ?_) (wLet_i (wLet_i ?_))
  · have hx := hL x hx
    refine cP hx (wJoin_i (Br_x rfl (p_law_crossed ok hx ?_)))
    rw [decide_eq_true rfl]
    refine Br_x rfl (cP (cr x hx.1 hx.2) ?_)
    rw [cr2 x hx.1 hx.2, decide_eq_true rfl]
    exact Br_x rfl hn
  refine wFor_inv (fun pre (s : List Vc × List Vc) => s.1 = pre.map (crF p) ∧ s.2 = pre.map (mvF p a b)) ⟨rfl, rfl⟩ (fun pre f post s nx e i hn => ?_) fun s i => ?_
  · have hlen : pre.length < 9000 := by
      have := congrArg List.length e
      simp at this
      omega
    obtain ⟨s1, s2⟩ := s
    simp only at i ⊢
    obtain ⟨rfl, rfl⟩ := i
    have e : R = pre ++ f :: post := e
    have hf := hR f (by rw [e]; simp)
    have hf' := hf
    unfold Fr at hf'
    refine p_law_crossed ok ⟨hf'.1, by omega⟩ (p_law_crossed ok ⟨by omega, hf'.2.2⟩ (wLet_i (cFr hf ⟨by simp, by simp, ?_⟩)))
    rw [minL_two, maxL_two]
    refine p_law_pair (Br_x rfl (cFr (cF f hf).1 ?_))
    rw [(cF f hf).2, decide_eq_true rfl]
    refine Br_x rfl ⟨lim_lt (by rw [List.length_map]; omega), wLet_i (mFr hi hf (p_law_moved ok hi hf (p_law_pair (Br_x rfl (p_back ok hi (mFr bk.1 (mF f hf).1 ?_))))))⟩
    rw [(mF f hf).2, decide_eq_true rfl]
    exact Br_x rfl ⟨lim_lt (by rw [List.length_map]; omega), wLet_i (hn _ ⟨by rw [List.map_append]; rfl, by rw [List.map_append]; rfl⟩)⟩
  · obtain ⟨s1, s2⟩ := s
    simp only at i ⊢
    obtain ⟨rfl, rfl⟩ := i
    refine wJoin_o (fun x => x = false) (fun j hj => Br_p (fun c => wJoin_i fun es pm so => ?_) fun _ => hj _ rfl) fun x hx => ?_
    · have hA := hall c
      have e1 : es = R := all_sorted (F := crF p) (G := crF p) hA (fun f hf => ⟨(cF f hf).1, (cF f hf).1, (cF f hf).2, (cF f hf).2⟩) pm so
      rw [e1, decide_eq_true rfl]
      refine Br_x rfl fun es2 pm2 so2 => ?_
      have e2 : es2 = R := all_sorted (F := mvF p a b) (G := mvF p (bkA p a b) (bkB p a b)) hA (fun f hf => ⟨(mF f hf).1, (mG f hf).1, (mG f hf).2, (mF f hf).2⟩) pm2 so2
      rw [e2, decide_eq_true rfl]
      exact hj _ rfl
    · rw [hx]
      exact Br_x rfl (p_refused ok hi rfl)
end Lw
namespace Lw
open PySem PySem.Spec PyProof.Rows L2 EL Px
def topS (i : Nat) : Stmt := PySem.Challenge.pw_endsflat_k44_crossed_points.main.body.getD i (.Pass ⟨0, 0, 0, 0⟩)
abbrev s_SizeError_init : Stmt := inClass (topS 3) 0
abbrev s_NumberError_init : Stmt := inClass (topS 4) 0
abbrev s_PrimeError_init : Stmt := inClass (topS 5) 0
abbrev s_TextError_init : Stmt := inClass (topS 8) 0
abbrev s_check_number : Stmt := topS 11
abbrev s_is_odd_prime : Stmt := topS 12
abbrev s_check_prime : Stmt := topS 13
abbrev s_inverse : Stmt := topS 14
abbrev s_look_number : Stmt := topS 16
abbrev s_look_prime : Stmt := topS 17
abbrev s_look_same_prime : Stmt := topS 18
abbrev s_look_residue : Stmt := topS 19
abbrev s_look_pair : Stmt := topS 20
abbrev s_point_of : Stmt := topS 31
abbrev s_point_vector : Stmt := topS 32
abbrev s_look_frame : Stmt := topS 33
abbrev s_Base_init : Stmt := inClass (topS 35) 0
abbrev s_Base_moved : Stmt := inClass (topS 35) 4
abbrev s_Base_back : Stmt := inClass (topS 35) 5
abbrev s_cross_product : Stmt := topS 36
abbrev s_ordered : Stmt := topS 40
abbrev s_crossed_point : Stmt := topS 41
abbrev s_crossed_frame : Stmt := topS 42
abbrev s_moved_frame : Stmt := topS 43
abbrev s_ulaw_draws : Stmt := topS 45
abbrev s_ulaw_next : Stmt := topS 46
abbrev s_ulaw_upward : Stmt := topS 47
abbrev s_ulaw_prime : Stmt := topS 48
abbrev s_ulaw_residue : Stmt := topS 49
abbrev s_ulaw_whole : Stmt := topS 50
abbrev s_ulaw_base : Stmt := topS 51
abbrev s_ulaw_point : Stmt := topS 52
abbrev s_ulaw_mixed : Stmt := topS 53
abbrev s_ulaw_vector : Stmt := topS 54
abbrev s_ulaw_frames : Stmt := topS 55
abbrev s_ulaw_asked : Stmt := topS 56
abbrev s_ulaw_crossed : Stmt := topS 57
abbrev s_ulaw_moved : Stmt := topS 58
abbrev s_ulaw_pair : Stmt := topS 59
abbrev s_ulaw_some : Stmt := topS 60
abbrev s_ulaw_refused : Stmt := topS 61
abbrev s_law : Stmt := topS 62
theorem sc_SizeError_init : FnScope ["self", "count"] ["self", "count"] (defScope s_SizeError_init) := ⟨rfl, rfl, rfl, by decide +kernel, rfl, by decide +kernel, by decide +kernel⟩
theorem sc_NumberError_init : FnScope ["self", "number"] ["self", "number"] (defScope s_NumberError_init) := ⟨rfl, rfl, rfl, by decide +kernel, rfl, by decide +kernel, by decide +kernel⟩
theorem sc_PrimeError_init : FnScope ["self", "prime"] ["self", "prime"] (defScope s_PrimeError_init) := ⟨rfl, rfl, rfl, by decide +kernel, rfl, by decide +kernel, by decide +kernel⟩
theorem sc_TextError_init : FnScope ["self", "line"] ["self", "line"] (defScope s_TextError_init) := ⟨rfl, rfl, rfl, by decide +kernel, rfl, by decide +kernel, by decide +kernel⟩
theorem sc_check_number : FnScope ["number", "low", "high"] ["number", "low", "high"] (defScope s_check_number) := ⟨rfl, rfl, rfl, by decide +kernel, rfl, by decide +kernel, by decide +kernel⟩
theorem sc_is_odd_prime : FnScope ["number", "divisor"] ["number"] (defScope s_is_odd_prime) := ⟨rfl, rfl, rfl, by decide +kernel, rfl, by decide +kernel, by decide +kernel⟩
theorem sc_check_prime : FnScope ["prime"] ["prime"] (defScope s_check_prime) := ⟨rfl, rfl, rfl, by decide +kernel, rfl, by decide +kernel, by decide +kernel⟩
theorem sc_inverse : FnScope ["prime", "number", "rest", "other", "factor", "last", "quotient"] ["prime", "number"] (defScope s_inverse) := ⟨rfl, rfl, rfl, by decide +kernel, rfl, by decide +kernel, by decide +kernel⟩
theorem sc_look_number : FnScope ["number", "low", "high"] ["number", "low", "high"] (defScope s_look_number) := ⟨rfl, rfl, rfl, by decide +kernel, rfl, by decide +kernel, by decide +kernel⟩
theorem sc_look_prime : FnScope ["prime"] ["prime"] (defScope s_look_prime) := ⟨rfl, rfl, rfl, by decide +kernel, rfl, by decide +kernel, by decide +kernel⟩
theorem sc_look_same_prime : FnScope ["prime", "thing"] ["prime", "thing"] (defScope s_look_same_prime) := ⟨rfl, rfl, rfl, by decide +kernel, rfl, by decide +kernel, by decide +kernel⟩
theorem sc_look_residue : FnScope ["prime", "number"] ["prime", "number"] (defScope s_look_residue) := ⟨rfl, rfl, rfl, by decide +kernel, rfl, by decide +kernel, by decide +kernel⟩
theorem sc_look_pair : FnScope ["prime", "pair", "number"] ["prime", "pair"] (defScope s_look_pair) := ⟨rfl, rfl, rfl, by decide +kernel, rfl, by decide +kernel, by decide +kernel⟩
theorem sc_point_of : FnScope ["prime", "vector", "x", "y"] ["prime", "vector"] (defScope s_point_of) := ⟨rfl, rfl, rfl, by decide +kernel, rfl, by decide +kernel, by decide +kernel⟩
theorem sc_point_vector : FnScope ["prime", "point"] ["prime", "point"] (defScope s_point_vector) := ⟨rfl, rfl, rfl, by decide +kernel, rfl, by decide +kernel, by decide +kernel⟩
theorem sc_look_frame : FnScope ["prime", "frame", "point"] ["prime", "frame"] (defScope s_look_frame) := ⟨rfl, rfl, rfl, by decide +kernel, rfl, by decide +kernel, by decide +kernel⟩
theorem sc_Base_init : FnScope ["self", "prime", "first", "second"] ["self", "prime", "first", "second"] (defScope s_Base_init) := ⟨rfl, rfl, rfl, by decide +kernel, rfl, by decide +kernel, by decide +kernel⟩
theorem sc_Base_moved : FnScope ["self", "vector", "x", "y", "a", "b", "c", "d"] ["self", "vector"] (defScope s_Base_moved) := ⟨rfl, rfl, rfl, by decide +kernel, rfl, by decide +kernel, by decide +kernel⟩
theorem sc_Base_back : FnScope ["self", "prime", "a", "b", "c", "d", "share"] ["self"] (defScope s_Base_back) := ⟨rfl, rfl, rfl, by decide +kernel, rfl, by decide +kernel, by decide +kernel⟩
theorem sc_cross_product : FnScope ["prime", "first", "second"] ["prime", "first", "second"] (defScope s_cross_product) := ⟨rfl, rfl, rfl, by decide +kernel, rfl, by decide +kernel, by decide +kernel⟩
theorem sc_ordered : FnScope ["first", "second"] ["first", "second"] (defScope s_ordered) := ⟨rfl, rfl, rfl, by decide +kernel, rfl, by decide +kernel, by decide +kernel⟩
theorem sc_crossed_point : FnScope ["prime", "point", "a", "b"] ["prime", "point"] (defScope s_crossed_point) := ⟨rfl, rfl, rfl, by decide +kernel, rfl, by decide +kernel, by decide +kernel⟩
theorem sc_crossed_frame : FnScope ["prime", "frame"] ["prime", "frame"] (defScope s_crossed_frame) := ⟨rfl, rfl, rfl, by decide +kernel, rfl, by decide +kernel, by decide +kernel⟩
theorem sc_moved_frame : FnScope ["prime", "frame", "base", "first", "second"] ["prime", "frame", "base"] (defScope s_moved_frame) := ⟨rfl, rfl, rfl, by decide +kernel, rfl, by decide +kernel, by decide +kernel⟩
theorem sc_ulaw_draws : FnScope ["script", "count", "row", "k", "cell", "step", "mixed", "seed"] ["script", "count"] (defScope s_ulaw_draws) := ⟨rfl, rfl, rfl, by decide +kernel, rfl, by decide +kernel, by decide +kernel⟩
theorem sc_ulaw_next : FnScope ["cells", "at", "many"] ["cells", "at", "many"] (defScope s_ulaw_next) := ⟨rfl, rfl, rfl, by decide +kernel, rfl, by decide +kernel, by decide +kernel⟩
theorem sc_ulaw_upward : FnScope ["p", "step", "k"] ["p"] (defScope s_ulaw_upward) := ⟨rfl, rfl, rfl, by decide +kernel, rfl, by decide +kernel, by decide +kernel⟩
theorem sc_ulaw_prime : FnScope ["cells", "at", "p"] ["cells", "at"] (defScope s_ulaw_prime) := ⟨rfl, rfl, rfl, by decide +kernel, rfl, by decide +kernel, by decide +kernel⟩
theorem sc_ulaw_residue : FnScope ["cells", "at", "p"] ["cells", "at", "p"] (defScope s_ulaw_residue) := ⟨rfl, rfl, rfl, by decide +kernel, rfl, by decide +kernel, by decide +kernel⟩
theorem sc_ulaw_whole : FnScope ["x"] ["x"] (defScope s_ulaw_whole) := ⟨rfl, rfl, rfl, by decide +kernel, rfl, by decide +kernel, by decide +kernel⟩
theorem sc_ulaw_base : FnScope ["cells", "at", "p", "a", "b", "c", "d"] ["cells", "at", "p"] (defScope s_ulaw_base) := ⟨rfl, rfl, rfl, by decide +kernel, rfl, by decide +kernel, by decide +kernel⟩
theorem sc_ulaw_point : FnScope ["p", "vector", "a", "b", "k"] ["p", "vector"] (defScope s_ulaw_point) := ⟨rfl, rfl, rfl, by decide +kernel, rfl, by decide +kernel, by decide +kernel⟩
theorem sc_ulaw_mixed : FnScope ["p", "one", "vector", "x", "y", "left"] ["p", "one", "vector"] (defScope s_ulaw_mixed) := ⟨rfl, rfl, rfl, by decide +kernel, rfl, by decide +kernel, by decide +kernel⟩
theorem sc_ulaw_vector : FnScope ["p", "point"] ["p", "point"] (defScope s_ulaw_vector) := ⟨rfl, rfl, rfl, by decide +kernel, rfl, by decide +kernel, by decide +kernel⟩
theorem sc_ulaw_frames : FnScope ["p", "out", "j", "k"] ["p"] (defScope s_ulaw_frames) := ⟨rfl, rfl, rfl, by decide +kernel, rfl, by decide +kernel, by decide +kernel⟩
theorem sc_ulaw_asked : FnScope ["which", "p", "thing", "base", "told", "e", "out"] ["which", "p", "thing", "base"] (defScope s_ulaw_asked) := ⟨rfl, rfl, rfl, by decide +kernel, rfl, by decide +kernel, by decide +kernel⟩
theorem sc_ulaw_crossed : FnScope ["p", "point", "a", "b"] ["p", "point"] (defScope s_ulaw_crossed) := ⟨rfl, rfl, rfl, by decide +kernel, rfl, by decide +kernel, by decide +kernel⟩
theorem sc_ulaw_moved : FnScope ["p", "frame", "one", "first", "second"] ["p", "frame", "one"] (defScope s_ulaw_moved) := ⟨rfl, rfl, rfl, by decide +kernel, rfl, by decide +kernel, by decide +kernel⟩
theorem sc_ulaw_pair : FnScope ["told", "due", "x"] ["told", "due"] (defScope s_ulaw_pair) := ⟨rfl, rfl, rfl, by decide +kernel, rfl, by decide +kernel, by decide +kernel⟩
theorem sc_ulaw_some : FnScope ["cells", "at", "p", "points", "rows", "k", "j"] ["cells", "at", "p"] (defScope s_ulaw_some) := ⟨rfl, rfl, rfl, by decide +kernel, rfl, by decide +kernel, by decide +kernel⟩
theorem sc_ulaw_refused : FnScope ["cells", "at", "p", "one", "base", "odd", "far", "high", "j", "low", "q", "other", "asks", "which", "x", "thing", "due"] ["cells", "at", "p", "one"] (defScope s_ulaw_refused) := ⟨rfl, rfl, rfl, by decide +kernel, rfl, by decide +kernel, by decide +kernel⟩
theorem sc_law : FnScope ["script", "cells", "at", "p", "one", "base", "points", "rows", "k", "told", "crossed", "moved", "frame", "ends"] ["script"] (defScope s_law) := ⟨rfl, rfl, rfl, by decide +kernel, rfl, by decide +kernel, by decide +kernel⟩
def gk_crossed_point_0_point_prime {α : Type} (us ws : List α) : List α := match us, ws with
  | [], [w0, w1] => [w1, w0]
  | _, _ => []
def gk_crossed_frame_0_frame_prime {α : Type} (us ws : List α) : List α := match us, ws with
  | [], [w0, w1] => [w1, w0]
  | _, _ => []
def gk_moved_frame_0_base_frame_prime {α : Type} (us ws : List α) : List α := match us, ws with
  | [], [w0, w1, w2] => [w2, w1, w0]
  | _, _ => []
structure Tab where
  a_SizeError_init : Addr
  fd_SizeError_init : FuncData
  a_NumberError_init : Addr
  fd_NumberError_init : FuncData
  a_PrimeError_init : Addr
  fd_PrimeError_init : FuncData
  a_TextError_init : Addr
  fd_TextError_init : FuncData
  a_check_number : Addr
  fd_check_number : FuncData
  a_is_odd_prime : Addr
  fd_is_odd_prime : FuncData
  a_check_prime : Addr
  fd_check_prime : FuncData
  a_inverse : Addr
  fd_inverse : FuncData
  a_look_number : Addr
  fd_look_number : FuncData
  a_look_prime : Addr
  fd_look_prime : FuncData
  a_look_same_prime : Addr
  fd_look_same_prime : FuncData
  a_look_residue : Addr
  fd_look_residue : FuncData
  a_look_pair : Addr
  fd_look_pair : FuncData
  a_point_of : Addr
  fd_point_of : FuncData
  a_point_vector : Addr
  fd_point_vector : FuncData
  a_look_frame : Addr
  fd_look_frame : FuncData
  a_Base_init : Addr
  fd_Base_init : FuncData
  a_Base_moved : Addr
  fd_Base_moved : FuncData
  a_Base_back : Addr
  fd_Base_back : FuncData
  a_cross_product : Addr
  fd_cross_product : FuncData
  a_ordered : Addr
  fd_ordered : FuncData
  a_crossed_point : Addr
  fd_crossed_point : FuncData
  a_crossed_frame : Addr
  fd_crossed_frame : FuncData
  a_moved_frame : Addr
  fd_moved_frame : FuncData
  a_ulaw_draws : Addr
  fd_ulaw_draws : FuncData
  a_ulaw_next : Addr
  fd_ulaw_next : FuncData
  a_ulaw_upward : Addr
  fd_ulaw_upward : FuncData
  a_ulaw_prime : Addr
  fd_ulaw_prime : FuncData
  a_ulaw_residue : Addr
  fd_ulaw_residue : FuncData
  a_ulaw_whole : Addr
  fd_ulaw_whole : FuncData
  a_ulaw_base : Addr
  fd_ulaw_base : FuncData
  a_ulaw_point : Addr
  fd_ulaw_point : FuncData
  a_ulaw_mixed : Addr
  fd_ulaw_mixed : FuncData
  a_ulaw_vector : Addr
  fd_ulaw_vector : FuncData
  a_ulaw_frames : Addr
  fd_ulaw_frames : FuncData
  a_ulaw_asked : Addr
  fd_ulaw_asked : FuncData
  a_ulaw_crossed : Addr
  fd_ulaw_crossed : FuncData
  a_ulaw_moved : Addr
  fd_ulaw_moved : FuncData
  a_ulaw_pair : Addr
  fd_ulaw_pair : FuncData
  a_ulaw_some : Addr
  fd_ulaw_some : FuncData
  a_ulaw_refused : Addr
  fd_ulaw_refused : FuncData
  a_law : Addr
  fd_law : FuncData
  c_EndsError : Addr
  c_SizeError : Addr
  c_NumberError : Addr
  c_PrimeError : Addr
  c_ZeroVector : Addr
  c_DependentError : Addr
  c_TextError : Addr
  c_Base : Addr
  k_MOST : Tok
structure Txt (K : PySem.W.Frag) (mg : Str → Option Value) (t : Tab) : Prop where
  F_SizeError_init : Fun K "__init__" "SizeError.__init__" s_SizeError_init t.a_SizeError_init t.fd_SizeError_init
  b_SizeError_init : Binds K t.fd_SizeError_init ["self", "count"] []
  F_NumberError_init : Fun K "__init__" "NumberError.__init__" s_NumberError_init t.a_NumberError_init t.fd_NumberError_init
  b_NumberError_init : Binds K t.fd_NumberError_init ["self", "number"] []
  F_PrimeError_init : Fun K "__init__" "PrimeError.__init__" s_PrimeError_init t.a_PrimeError_init t.fd_PrimeError_init
  b_PrimeError_init : Binds K t.fd_PrimeError_init ["self", "prime"] []
  F_TextError_init : Fun K "__init__" "TextError.__init__" s_TextError_init t.a_TextError_init t.fd_TextError_init
  b_TextError_init : Binds K t.fd_TextError_init ["self", "line"] []
  g_check_number : mg "check_number" = some (.ref t.a_check_number)
  F_check_number : Fun K "check_number" "check_number" s_check_number t.a_check_number t.fd_check_number
  b_check_number : Binds K t.fd_check_number ["number", "low", "high"] []
  g_is_odd_prime : mg "is_odd_prime" = some (.ref t.a_is_odd_prime)
  F_is_odd_prime : Fun K "is_odd_prime" "is_odd_prime" s_is_odd_prime t.a_is_odd_prime t.fd_is_odd_prime
  b_is_odd_prime : Binds K t.fd_is_odd_prime ["number"] []
  g_check_prime : mg "check_prime" = some (.ref t.a_check_prime)
  F_check_prime : Fun K "check_prime" "check_prime" s_check_prime t.a_check_prime t.fd_check_prime
  b_check_prime : Binds K t.fd_check_prime ["prime"] []
  g_inverse : mg "inverse" = some (.ref t.a_inverse)
  F_inverse : Fun K "inverse" "inverse" s_inverse t.a_inverse t.fd_inverse
  b_inverse : Binds K t.fd_inverse ["prime", "number"] []
  g_look_number : mg "look_number" = some (.ref t.a_look_number)
  F_look_number : Fun K "look_number" "look_number" s_look_number t.a_look_number t.fd_look_number
  b_look_number : Binds K t.fd_look_number ["number", "low", "high"] []
  g_look_prime : mg "look_prime" = some (.ref t.a_look_prime)
  F_look_prime : Fun K "look_prime" "look_prime" s_look_prime t.a_look_prime t.fd_look_prime
  b_look_prime : Binds K t.fd_look_prime ["prime"] []
  g_look_same_prime : mg "look_same_prime" = some (.ref t.a_look_same_prime)
  F_look_same_prime : Fun K "look_same_prime" "look_same_prime" s_look_same_prime t.a_look_same_prime t.fd_look_same_prime
  b_look_same_prime : Binds K t.fd_look_same_prime ["prime", "thing"] []
  g_look_residue : mg "look_residue" = some (.ref t.a_look_residue)
  F_look_residue : Fun K "look_residue" "look_residue" s_look_residue t.a_look_residue t.fd_look_residue
  b_look_residue : Binds K t.fd_look_residue ["prime", "number"] []
  g_look_pair : mg "look_pair" = some (.ref t.a_look_pair)
  F_look_pair : Fun K "look_pair" "look_pair" s_look_pair t.a_look_pair t.fd_look_pair
  b_look_pair : Binds K t.fd_look_pair ["prime", "pair"] []
  g_point_of : mg "point_of" = some (.ref t.a_point_of)
  F_point_of : Fun K "point_of" "point_of" s_point_of t.a_point_of t.fd_point_of
  b_point_of : Binds K t.fd_point_of ["prime", "vector"] []
  g_point_vector : mg "point_vector" = some (.ref t.a_point_vector)
  F_point_vector : Fun K "point_vector" "point_vector" s_point_vector t.a_point_vector t.fd_point_vector
  b_point_vector : Binds K t.fd_point_vector ["prime", "point"] []
  g_look_frame : mg "look_frame" = some (.ref t.a_look_frame)
  F_look_frame : Fun K "look_frame" "look_frame" s_look_frame t.a_look_frame t.fd_look_frame
  b_look_frame : Binds K t.fd_look_frame ["prime", "frame"] []
  F_Base_init : Fun K "__init__" "Base.__init__" s_Base_init t.a_Base_init t.fd_Base_init
  b_Base_init : Binds K t.fd_Base_init ["self", "prime", "first", "second"] []
  F_Base_moved : Fun K "moved" "Base.moved" s_Base_moved t.a_Base_moved t.fd_Base_moved
  b_Base_moved : Binds K t.fd_Base_moved ["self", "vector"] []
  F_Base_back : Fun K "back" "Base.back" s_Base_back t.a_Base_back t.fd_Base_back
  b_Base_back : Binds K t.fd_Base_back ["self"] []
  g_cross_product : mg "cross_product" = some (.ref t.a_cross_product)
  F_cross_product : Fun K "cross_product" "cross_product" s_cross_product t.a_cross_product t.fd_cross_product
  b_cross_product : Binds K t.fd_cross_product ["prime", "first", "second"] []
  g_ordered : mg "ordered" = some (.ref t.a_ordered)
  F_ordered : Fun K "ordered" "ordered" s_ordered t.a_ordered t.fd_ordered
  b_ordered : Binds K t.fd_ordered ["first", "second"] []
  g_crossed_point : mg "crossed_point" = some (.ref t.a_crossed_point)
  F_crossed_point : Fun K "crossed_point" "crossed_point" s_crossed_point t.a_crossed_point t.fd_crossed_point
  b_crossed_point : Binds K t.fd_crossed_point ["prime", "point"] []
  g_crossed_frame : mg "crossed_frame" = some (.ref t.a_crossed_frame)
  F_crossed_frame : Fun K "crossed_frame" "crossed_frame" s_crossed_frame t.a_crossed_frame t.fd_crossed_frame
  b_crossed_frame : Binds K t.fd_crossed_frame ["prime", "frame"] []
  g_moved_frame : mg "moved_frame" = some (.ref t.a_moved_frame)
  F_moved_frame : Fun K "moved_frame" "moved_frame" s_moved_frame t.a_moved_frame t.fd_moved_frame
  b_moved_frame : Binds K t.fd_moved_frame ["prime", "frame", "base"] []
  g_ulaw_draws : mg "_law_draws" = some (.ref t.a_ulaw_draws)
  F_ulaw_draws : Fun K "_law_draws" "_law_draws" s_ulaw_draws t.a_ulaw_draws t.fd_ulaw_draws
  b_ulaw_draws : Binds K t.fd_ulaw_draws ["script", "count"] []
  g_ulaw_next : mg "_law_next" = some (.ref t.a_ulaw_next)
  F_ulaw_next : Fun K "_law_next" "_law_next" s_ulaw_next t.a_ulaw_next t.fd_ulaw_next
  b_ulaw_next : Binds K t.fd_ulaw_next ["cells", "at", "many"] []
  g_ulaw_upward : mg "_law_upward" = some (.ref t.a_ulaw_upward)
  F_ulaw_upward : Fun K "_law_upward" "_law_upward" s_ulaw_upward t.a_ulaw_upward t.fd_ulaw_upward
  b_ulaw_upward : Binds K t.fd_ulaw_upward ["p"] []
  g_ulaw_prime : mg "_law_prime" = some (.ref t.a_ulaw_prime)
  F_ulaw_prime : Fun K "_law_prime" "_law_prime" s_ulaw_prime t.a_ulaw_prime t.fd_ulaw_prime
  b_ulaw_prime : Binds K t.fd_ulaw_prime ["cells", "at"] []
  g_ulaw_residue : mg "_law_residue" = some (.ref t.a_ulaw_residue)
  F_ulaw_residue : Fun K "_law_residue" "_law_residue" s_ulaw_residue t.a_ulaw_residue t.fd_ulaw_residue
  b_ulaw_residue : Binds K t.fd_ulaw_residue ["cells", "at", "p"] []
  g_ulaw_whole : mg "_law_whole" = some (.ref t.a_ulaw_whole)
  F_ulaw_whole : Fun K "_law_whole" "_law_whole" s_ulaw_whole t.a_ulaw_whole t.fd_ulaw_whole
  b_ulaw_whole : Binds K t.fd_ulaw_whole ["x"] []
  g_ulaw_base : mg "_law_base" = some (.ref t.a_ulaw_base)
  F_ulaw_base : Fun K "_law_base" "_law_base" s_ulaw_base t.a_ulaw_base t.fd_ulaw_base
  b_ulaw_base : Binds K t.fd_ulaw_base ["cells", "at", "p"] []
  g_ulaw_point : mg "_law_point" = some (.ref t.a_ulaw_point)
  F_ulaw_point : Fun K "_law_point" "_law_point" s_ulaw_point t.a_ulaw_point t.fd_ulaw_point
  b_ulaw_point : Binds K t.fd_ulaw_point ["p", "vector"] []
  g_ulaw_mixed : mg "_law_mixed" = some (.ref t.a_ulaw_mixed)
  F_ulaw_mixed : Fun K "_law_mixed" "_law_mixed" s_ulaw_mixed t.a_ulaw_mixed t.fd_ulaw_mixed
  b_ulaw_mixed : Binds K t.fd_ulaw_mixed ["p", "one", "vector"] []
  g_ulaw_vector : mg "_law_vector" = some (.ref t.a_ulaw_vector)
  F_ulaw_vector : Fun K "_law_vector" "_law_vector" s_ulaw_vector t.a_ulaw_vector t.fd_ulaw_vector
  b_ulaw_vector : Binds K t.fd_ulaw_vector ["p", "point"] []
  g_ulaw_frames : mg "_law_frames" = some (.ref t.a_ulaw_frames)
  F_ulaw_frames : Fun K "_law_frames" "_law_frames" s_ulaw_frames t.a_ulaw_frames t.fd_ulaw_frames
  b_ulaw_frames : Binds K t.fd_ulaw_frames ["p"] []
  g_ulaw_asked : mg "_law_asked" = some (.ref t.a_ulaw_asked)
  F_ulaw_asked : Fun K "_law_asked" "_law_asked" s_ulaw_asked t.a_ulaw_asked t.fd_ulaw_asked
  b_ulaw_asked : Binds K t.fd_ulaw_asked ["which", "p", "thing", "base"] []
  g_ulaw_crossed : mg "_law_crossed" = some (.ref t.a_ulaw_crossed)
  F_ulaw_crossed : Fun K "_law_crossed" "_law_crossed" s_ulaw_crossed t.a_ulaw_crossed t.fd_ulaw_crossed
  b_ulaw_crossed : Binds K t.fd_ulaw_crossed ["p", "point"] []
  g_ulaw_moved : mg "_law_moved" = some (.ref t.a_ulaw_moved)
  F_ulaw_moved : Fun K "_law_moved" "_law_moved" s_ulaw_moved t.a_ulaw_moved t.fd_ulaw_moved
  b_ulaw_moved : Binds K t.fd_ulaw_moved ["p", "frame", "one"] []
  g_ulaw_pair : mg "_law_pair" = some (.ref t.a_ulaw_pair)
  F_ulaw_pair : Fun K "_law_pair" "_law_pair" s_ulaw_pair t.a_ulaw_pair t.fd_ulaw_pair
  b_ulaw_pair : Binds K t.fd_ulaw_pair ["told", "due"] []
  g_ulaw_some : mg "_law_some" = some (.ref t.a_ulaw_some)
  F_ulaw_some : Fun K "_law_some" "_law_some" s_ulaw_some t.a_ulaw_some t.fd_ulaw_some
  b_ulaw_some : Binds K t.fd_ulaw_some ["cells", "at", "p"] []
  g_ulaw_refused : mg "_law_refused" = some (.ref t.a_ulaw_refused)
  F_ulaw_refused : Fun K "_law_refused" "_law_refused" s_ulaw_refused t.a_ulaw_refused t.fd_ulaw_refused
  b_ulaw_refused : Binds K t.fd_ulaw_refused ["cells", "at", "p", "one"] []
  g_law : mg "law" = some (.ref t.a_law)
  F_law : Fun K "law" "law" s_law t.a_law t.fd_law
  b_law : Binds K t.fd_law ["script"] []
  g_EndsError : mg "EndsError" = some (.ref t.c_EndsError)
  X_EndsError : XCls K t.c_EndsError
  x_EndsError : XOwn K t.c_EndsError
  g_SizeError : mg "SizeError" = some (.ref t.c_SizeError)
  X_SizeError : XCls K t.c_SizeError
  x_SizeError : OexC K t.c_SizeError
  xi_SizeError : PySem.W.findIn K (.ref t.c_SizeError) "__init__" = some (some (.ref t.a_SizeError_init))
  xt_SizeError : PySem.W.typeIn K (.ref t.a_SizeError_init) = some (.type "function")
  xn_SizeError_count : PySem.W.findIn K (.ref t.c_SizeError) "count" = some none
  g_NumberError : mg "NumberError" = some (.ref t.c_NumberError)
  X_NumberError : XCls K t.c_NumberError
  x_NumberError : OexC K t.c_NumberError
  xi_NumberError : PySem.W.findIn K (.ref t.c_NumberError) "__init__" = some (some (.ref t.a_NumberError_init))
  xt_NumberError : PySem.W.typeIn K (.ref t.a_NumberError_init) = some (.type "function")
  xn_NumberError_number : PySem.W.findIn K (.ref t.c_NumberError) "number" = some none
  g_PrimeError : mg "PrimeError" = some (.ref t.c_PrimeError)
  X_PrimeError : XCls K t.c_PrimeError
  x_PrimeError : OexC K t.c_PrimeError
  xi_PrimeError : PySem.W.findIn K (.ref t.c_PrimeError) "__init__" = some (some (.ref t.a_PrimeError_init))
  xt_PrimeError : PySem.W.typeIn K (.ref t.a_PrimeError_init) = some (.type "function")
  xn_PrimeError_prime : PySem.W.findIn K (.ref t.c_PrimeError) "prime" = some none
  g_ZeroVector : mg "ZeroVector" = some (.ref t.c_ZeroVector)
  X_ZeroVector : XCls K t.c_ZeroVector
  x_ZeroVector : XOwn K t.c_ZeroVector
  g_DependentError : mg "DependentError" = some (.ref t.c_DependentError)
  X_DependentError : XCls K t.c_DependentError
  x_DependentError : XOwn K t.c_DependentError
  g_TextError : mg "TextError" = some (.ref t.c_TextError)
  X_TextError : XCls K t.c_TextError
  x_TextError : OexC K t.c_TextError
  xi_TextError : PySem.W.findIn K (.ref t.c_TextError) "__init__" = some (some (.ref t.a_TextError_init))
  xt_TextError : PySem.W.typeIn K (.ref t.a_TextError_init) = some (.type "function")
  xn_TextError_line : PySem.W.findIn K (.ref t.c_TextError) "line" = some none
  g_Base : mg "Base" = some (.ref t.c_Base)
  own_Base : OwnC K t.c_Base
  mk_Base : L2.Mk K t.c_Base t.a_Base_init
  na_Base_prime : NoAttr K t.c_Base "prime"
  na_Base_first : NoAttr K t.c_Base "first"
  na_Base_second : NoAttr K t.c_Base "second"
  mt_Base_moved : Meth K t.c_Base "moved" t.a_Base_moved
  mt_Base_back : Meth K t.c_Base "back" t.a_Base_back
  g_MOST : mg "MOST" = some (.int 997 t.k_MOST)
  n_ValueError : mg "ValueError" = none
  n_all : mg "all" = none
  n_bool : mg "bool" = none
  n_int : mg "int" = none
  n_isinstance : mg "isinstance" = none
  n_len : mg "len" = none
  n_list : mg "list" = none
  n_max : mg "max" = none
  n_min : mg "min" = none
  n_range : mg "range" = none
  n_sorted : mg "sorted" = none
  n_sum : mg "sum" = none
  n_tuple : mg "tuple" = none
  kt_NumberError_NumberError : PySem.W.kitOne K (.ref t.c_NumberError) (.ref t.c_NumberError) = some true
  kt_ZeroVector_NumberError : PySem.W.kitOne K (.ref t.c_ZeroVector) (.ref t.c_NumberError) = some false
  kt_NumberError_PrimeError : PySem.W.kitOne K (.ref t.c_NumberError) (.ref t.c_PrimeError) = some false
  kt_ZeroVector_PrimeError : PySem.W.kitOne K (.ref t.c_ZeroVector) (.ref t.c_PrimeError) = some false
  kt_NumberError_SizeError : PySem.W.kitOne K (.ref t.c_NumberError) (.ref t.c_SizeError) = some false
  kt_ZeroVector_SizeError : PySem.W.kitOne K (.ref t.c_ZeroVector) (.ref t.c_SizeError) = some false
  kt_NumberError_DependentError : PySem.W.kitOne K (.ref t.c_NumberError) (.ref t.c_DependentError) = some false
  kt_ZeroVector_DependentError : PySem.W.kitOne K (.ref t.c_ZeroVector) (.ref t.c_DependentError) = some false
  kt_NumberError_ValueError : PySem.W.kitOne K (.ref t.c_NumberError) (.type "ValueError") = some true
  kt_ZeroVector_ValueError : PySem.W.kitOne K (.ref t.c_ZeroVector) (.type "ValueError") = some true
  kt_PrimeError_NumberError : PySem.W.kitOne K (.ref t.c_PrimeError) (.ref t.c_NumberError) = some false
  kt_PrimeError_PrimeError : PySem.W.kitOne K (.ref t.c_PrimeError) (.ref t.c_PrimeError) = some true
  kt_PrimeError_SizeError : PySem.W.kitOne K (.ref t.c_PrimeError) (.ref t.c_SizeError) = some false
  kt_PrimeError_DependentError : PySem.W.kitOne K (.ref t.c_PrimeError) (.ref t.c_DependentError) = some false
  kt_PrimeError_ValueError : PySem.W.kitOne K (.ref t.c_PrimeError) (.type "ValueError") = some true
  em_EndsError_EndsError : PySem.W.exmOne K (.ref t.c_EndsError) (.ref t.c_EndsError) = some true
  em_SizeError_EndsError : PySem.W.exmOne K (.ref t.c_SizeError) (.ref t.c_EndsError) = some true
  em_NumberError_EndsError : PySem.W.exmOne K (.ref t.c_NumberError) (.ref t.c_EndsError) = some true
  em_PrimeError_EndsError : PySem.W.exmOne K (.ref t.c_PrimeError) (.ref t.c_EndsError) = some true
  em_ZeroVector_EndsError : PySem.W.exmOne K (.ref t.c_ZeroVector) (.ref t.c_EndsError) = some true
  em_DependentError_EndsError : PySem.W.exmOne K (.ref t.c_DependentError) (.ref t.c_EndsError) = some true
  em_TextError_EndsError : PySem.W.exmOne K (.ref t.c_TextError) (.ref t.c_EndsError) = some true
  kb_crossed_point_0_point_prime : KBinds K t.fd_crossed_point ["prime", "point"] ["point", "prime"] gk_crossed_point_0_point_prime gk_crossed_point_0_point_prime
  kb_crossed_frame_0_frame_prime : KBinds K t.fd_crossed_frame ["prime", "frame"] ["frame", "prime"] gk_crossed_frame_0_frame_prime gk_crossed_frame_0_frame_prime
  kb_moved_frame_0_base_frame_prime : KBinds K t.fd_moved_frame ["prime", "frame", "base"] ["base", "frame", "prime"] gk_moved_frame_0_base_frame_prime gk_moved_frame_0_base_frame_prime
def Tab.cl (t : Tab) : Nat → Addr
  | 1 => t.c_SizeError
  | 2 => t.c_NumberError
  | 8 => t.c_PrimeError
  | 20 => t.c_ZeroVector
  | 21 => t.c_DependentError
  | 35 => t.c_TextError
  | _ => t.c_EndsError
-- heap facts
local macro_rules | `(tactic| walk_at "hp") => `(tactic| first
  | assumption
  | with_reducible apply L2.Same.refl
  | ((with_reducible apply L2.SqL.of); assumption)
  | ((with_reducible apply L2.SqT.of); assumption)
  | ((with_reducible apply L2.Same.seq); assumption; walk_at "hp")
  | ((with_reducible apply L2.Same.seqT); assumption; walk_at "hp")
  | ((with_reducible apply L2.Same.dp); assumption; walk_at "hp")
  | ((with_reducible apply L2.Same.dpAll); assumption; walk_at "hp")
  | ((with_reducible apply L2.Same.draw); assumption; walk_at "hp")
  | ((with_reducible apply strans); assumption; walk_at "hp")
  | ((with_reducible apply same_at); assumption; walk_at "hp"))
local macro_rules | `(tactic| walk_at "side") => `(tactic| first | assumption | omega | decide | exact ⟨by omega, by omega⟩ | exact .inl ⟨by omega, by omega⟩ | exact .inr ⟨by omega, by omega⟩ | exact Nat.le_of_ble_eq_true rfl)
local macro_rules | `(tactic| walk_at "rd1") => `(tactic| first
  | with_reducible refine tSeq_i ?_
  | ((with_reducible refine' tVar_i ?h1 ?_); (case h1 => exact rfl))
  | with_reducible refine tOp_i ?_
  | with_reducible refine tC_i ?_
  | with_reducible refine tTest_i ?_
  | with_reducible refine IsBl_i ?_
  | with_reducible refine tIfS_i ?_
  | with_reducible refine tAsg_i ?_
  | with_reducible refine gName_i ?_
  | with_reducible refine rI0_i ?_
  | with_reducible refine rAddU_i ?_
  | with_reducible refine rEqU_i ?_
  | with_reducible refine rNeU_i ?_
  | ((with_reducible refine rMulU_i ?h1 ?_); (case h1 => walk_at "side"))
  | ((with_reducible refine rModP_i ?h1 ?_); (case h1 => walk_at "side"))
  | ((with_reducible refine rDivP_i ?h1 ?_); (case h1 => walk_at "side"))
  | with_reducible refine tDrop_i ?_
  | with_reducible refine tCallS_i ?_
  | with_reducible refine tCons_i ?_
  | with_reducible refine tNil_i ?_
  | with_reducible refine tRet_i ?_
  | with_reducible refine tNext_i ?_
  | with_reducible refine tOr_i ?_
  | with_reducible refine tAnd_i ?_
  | with_reducible refine tNot_i ?_
  | with_reducible refine Br_t ?_
  | with_reducible refine Br_f ?_
  | with_reducible refine Br_nt ?_
  | with_reducible refine Br_nf ?_
  | with_reducible refine Br_n ?_
  | with_reducible refine tCall_i ?_
  | with_reducible refine tCallK_i ?_
  | with_reducible refine tCallE_i ?_
  | with_reducible refine rEqU_b ?_
  | with_reducible refine rNeU_b ?_
  | with_reducible refine tCB_i ?_
  | with_reducible refine rInt1_i ?_
  | with_reducible refine tTup_i ?_
  | with_reducible refine tLst_i ?_
  | ((with_reducible refine new_i ?h1 ?_); (case h1 => walk_at "side"); intro _ _ _ _ _)
  | with_reducible refine tPar_i ?_
  | with_reducible refine Par2_i ?_
  | with_reducible refine tUn_i ?_
  | with_reducible refine rU_i ?_
  | ((with_reducible refine rI_i ?h1 ?_); (case h1 => walk_at "side"))
  | with_reducible refine tTruth_i ?_
  | with_reducible refine Tru_b ?_
  | with_reducible refine Tru_n ?_
  | with_reducible refine tIf_i ?_
  | with_reducible refine tAndV_i ?_
  | with_reducible refine tOrV_i ?_
  | with_reducible refine tNotV_i ?_
  | with_reducible refine tRetN_i ?_
  | with_reducible refine tBreak_i ?_
  | with_reducible refine tCont_i ?_
  | with_reducible refine tChain_i ?_
  | with_reducible refine rEqU_s ?_
  | with_reducible refine rNeU_s ?_
  | with_reducible refine rMin2_i ?_
  | with_reducible refine rMax2_i ?_
  | with_reducible refine rAbs_i ?_
  | with_reducible refine rIsN_i ?_
  | with_reducible refine rNotN_i ?_
  | ((with_reducible refine' rLen_l ?h1 ?_); (case h1 => walk_at "hp"))
  | ((with_reducible refine' rLen_t ?h1 ?_); (case h1 => walk_at "hp"))
  | ((with_reducible refine' rIxU_l ?h1 ?h2 ?_); (case h1 => walk_at "hp"); (case h2 => first | exact rfl | assumption))
  | ((with_reducible refine' rIxU_t ?h1 ?h2 ?_); (case h1 => walk_at "hp"); (case h2 => first | exact rfl | assumption))
  | with_reducible refine tBM_i ?_
  | ((with_reducible refine' tyL ?h1 ?_); (case h1 => walk_at "hp"))
  | with_reducible refine runS_cons ?_
  | with_reducible refine runS_nil ?_
  | ((with_reducible refine run_next ?h1 ?_); (case h1 => walk_at "hp"))
  | with_reducible refine tYes_i ?_
  | ((with_reducible refine wipe_i ?h1 ?_); (case h1 => exact rfl))
  | ((with_reducible refine' gTup_i ?h1 ?h2 ?_); (case h1 => walk_at "hp"); (case h2 => exact rfl))
  | with_reducible refine gCons_i ?_
  | with_reducible refine gNil_i ?_
  | with_reducible refine gSub_i ?_
  | with_reducible refine tXF_i ?_
  | ((with_reducible refine tCell_i ?_); intro _ _ _ _ _)
  | with_reducible refine tLstRg1_i ?_
  | with_reducible refine tSl_i ?_
  | with_reducible refine tNoPart_i ?_
  | with_reducible refine tPart_i ?_
  | with_reducible refine PartI_i ?_
  )
local macro_rules | `(tactic| walk_at "rd") => `(tactic| repeat walk_at "rd1")
local macro_rules | `(tactic| walk_at "br") => `(tactic| (refine Br_d (fun _ => ?_) (fun _ => ?_) <;> first | (exfalso; omega) | walk_at "rd"))

section
variable {P : Program} {w : World} {K : PySem.W.Frag} {mg : Str → Option Value} {base : Heap} {t : Tab}
def sp_SizeError_init (K : PySem.W.Frag) (t : Tab) : Sp := spI1 "count" K
theorem len_SizeError_init : ∀ vs H Q E, sp_SizeError_init K t vs H Q E → vs.length = ["self", "count"].length := fun _ _ _ _ h => spI1_len h
theorem ok_SizeError_init (T : Txt K mg t) : FnOk P w K mg base (L2.CX P w) 1 t.a_SizeError_init t.fd_SizeError_init ["self", "count"] (sp_SizeError_init K t) := by
  refine T.F_SizeError_init.okX sc_SizeError_init (len_SizeError_init) (fun cdv A outer s H vs Q E hr h => ?_)
  have nd := sc_SizeError_init.nd
  refine ⟨_, (pss_one (ps_ost (pv 0) (pv 1))), ?_⟩
  exact spI1_body h
def sp_NumberError_init (K : PySem.W.Frag) (t : Tab) : Sp := spI1 "number" K
theorem len_NumberError_init : ∀ vs H Q E, sp_NumberError_init K t vs H Q E → vs.length = ["self", "number"].length := fun _ _ _ _ h => spI1_len h
theorem ok_NumberError_init (T : Txt K mg t) : FnOk P w K mg base (L2.CX P w) 1 t.a_NumberError_init t.fd_NumberError_init ["self", "number"] (sp_NumberError_init K t) := by
  refine T.F_NumberError_init.okX sc_NumberError_init (len_NumberError_init) (fun cdv A outer s H vs Q E hr h => ?_)
  have nd := sc_NumberError_init.nd
  refine ⟨_, (pss_one (ps_ost (pv 0) (pv 1))), ?_⟩
  exact spI1_body h
def sp_PrimeError_init (K : PySem.W.Frag) (t : Tab) : Sp := spI1 "prime" K
theorem len_PrimeError_init : ∀ vs H Q E, sp_PrimeError_init K t vs H Q E → vs.length = ["self", "prime"].length := fun _ _ _ _ h => spI1_len h
theorem ok_PrimeError_init (T : Txt K mg t) : FnOk P w K mg base (L2.CX P w) 1 t.a_PrimeError_init t.fd_PrimeError_init ["self", "prime"] (sp_PrimeError_init K t) := by
  refine T.F_PrimeError_init.okX sc_PrimeError_init (len_PrimeError_init) (fun cdv A outer s H vs Q E hr h => ?_)
  have nd := sc_PrimeError_init.nd
  refine ⟨_, (pss_one (ps_ost (pv 0) (pv 1))), ?_⟩
  exact spI1_body h
def sp_TextError_init (K : PySem.W.Frag) (t : Tab) : Sp := spI1 "line" K
theorem len_TextError_init : ∀ vs H Q E, sp_TextError_init K t vs H Q E → vs.length = ["self", "line"].length := fun _ _ _ _ h => spI1_len h
theorem ok_TextError_init (T : Txt K mg t) : FnOk P w K mg base (L2.CX P w) 1 t.a_TextError_init t.fd_TextError_init ["self", "line"] (sp_TextError_init K t) := by
  refine T.F_TextError_init.okX sc_TextError_init (len_TextError_init) (fun cdv A outer s H vs Q E hr h => ?_)
  have nd := sc_TextError_init.nd
  refine ⟨_, (pss_one (ps_ost (pv 0) (pv 1))), ?_⟩
  exact spI1_body h
def sp_ulaw_draws (K : PySem.W.Frag) (t : Tab) : Sp := fun vs H Q E => ∃ (ps : List Addr) (x_script : (List Int)) (x_count : Int) (v_script : V), vs = [v_script, (.int x_count)] ∧ (∀ x ∈ ps, H x ≠ none) ∧ (pFro K pInt).rep (dels H ps) v_script x_script ∧ ∃ (k : Unit → Prop) (e : PErr → Prop), w_ulaw_draws x_script x_count k e ∧ (∀ r, k r → RetK ps (pDraw K) H Q r) ∧ (∀ er, er.cls ∈ ([] : List Nat) → e er → ErrK ps t.cl H E er)
theorem len_ulaw_draws : ∀ vs H Q E, sp_ulaw_draws K t vs H Q E → vs.length = (["script", "count"] : List Str).length := by
  rintro vs H Q E ⟨_, _, _, _, rfl, _⟩
  rfl
theorem ok_ulaw_draws (T : Txt K mg t) : FnOk P w K mg base (L2.CX P w) 1 t.a_ulaw_draws t.fd_ulaw_draws ["script", "count"] (sp_ulaw_draws K t) := by
  refine T.F_ulaw_draws.okX sc_ulaw_draws len_ulaw_draws (fun cdv A outer s H vs Q E hr h => ?_)
  have nd := sc_ulaw_draws.nd
  refine ⟨_, (pss_cons (ps_set (i := 2) nd rfl (Or.inl rfl) (pe_lst pa_nil))
    (pss_cons (ps_for (passes_of rfl) rfl (pi_range1 (by rfl) T.n_range (pa_cons (pe_callB (call_min2D rfl) (by rfl) T.n_min (by decide +kernel) (pa_cons (pe_callB (call_lenK K) (by rfl) T.n_len (by decide +kernel) (pa_cons (pv 0) pa_nil)) (pa_cons (pe_int) pa_nil))) pa_nil)) (pg_name (i := 3) nd rfl (Or.inl rfl))
    (pss_cons (ps_set (i := 4) nd rfl (Or.inl rfl) (pe_ix (ix_UK K) (pv 0) (pv 3) (fun _ _ => rfl)))
    (pss_one (ps_if (pt_cmpR op_ge (pv 4) (pe_op op_pow (pe_int) (pe_int)) (by first | exact nomark _ | rfl)) (pss_one (ps_for (passes_of rfl) rfl (pi_range1 (by rfl) T.n_range (pa_cons (pe_int) pa_nil)) (pg_name (i := 5) nd rfl (Or.inl rfl))
    (pss_one (ps_if (pt_cmpR op_gt (pv 4) (pe_int) (by first | exact nomark _ | rfl)) (pss_cons (ps_expr (pe_bmK K PySem.F.plainAttrs_list PySem.F.slot_list_append PySem.F.type_list_append mt_append (pv 2) (pa_cons (pe_op op_modP (pe_callTy call_int1D (by rfl) T.n_int (by decide +kernel) (pa_cons (pv 4) pa_nil)) (pe_int)) pa_nil)))
    (pss_one (ps_set (i := 4) nd rfl (Or.inl rfl) (pe_op op_fdivP (pv 4) (pe_int))))) pss_nil)))) (pss_cons (ps_set (i := 6) nd rfl (Or.inl rfl) (pe_op op_modP (pe_callTy call_int1D (by rfl) T.n_int (by decide +kernel) (pa_cons (pv 4) pa_nil)) (pe_int)))
    (pss_cons (ps_expr (pe_bmK K PySem.F.plainAttrs_list PySem.F.slot_list_append PySem.F.type_list_append mt_append (pv 2) (pa_cons (pe_op op_modP (pe_callTy call_int1D (by rfl) T.n_int (by decide +kernel) (pa_cons (pv 6) pa_nil)) (pe_int)) pa_nil)))
    (pss_one (ps_expr (pe_bmK K PySem.F.plainAttrs_list PySem.F.slot_list_append PySem.F.type_list_append mt_append (pv 2) (pa_cons (pe_op op_modP (pe_op op_fdivP (pe_op op_modP (pe_callTy call_int1D (by rfl) T.n_int (by decide +kernel) (pa_cons (pe_op (op_addUK K) (pe_op op_mulU (pv 6) (pe_int)) (pe_op op_mulU (pe_int) (pv 3))) pa_nil)) (pe_int)) (pe_int)) (pe_int)) pa_nil))))))))))
    (pss_cons (ps_set (i := 7) nd rfl (Or.inl rfl) (pe_op op_modP (pe_callTy call_int1D (by rfl) T.n_int (by decide +kernel) (pa_cons (pe_op (op_addUK K) (pe_op (op_addUK K) (pe_op op_mulU (pe_callB (cr_sumUK K rfl) (by rfl) T.n_sum (by decide +kernel) (pa_cons (pv 2) pa_nil)) (pe_int)) (pe_op op_mulU (pe_int) (pe_callB (call_lenK K) (by rfl) T.n_len (by decide +kernel) (pa_cons (pv 2) pa_nil)))) (pe_int)) pa_nil)) (pe_int)))
    (pss_cons (ps_for (passes_of rfl) rfl (pi_range1 (by rfl) T.n_range (pa_cons (pv 1) pa_nil)) (pg_name (i := 5) nd rfl (Or.inl rfl))
    (pss_cons (ps_set (i := 7) nd rfl (Or.inl rfl) (pe_op op_modP (pe_callTy call_int1D (by rfl) T.n_int (by decide +kernel) (pa_cons (pe_op (op_addUK K) (pe_op op_mulU (pv 7) (pe_int)) (pe_int)) pa_nil)) (pe_int)))
    (pss_one (ps_expr (pe_bmK K PySem.F.plainAttrs_list PySem.F.slot_list_append PySem.F.type_list_append mt_append (pv 2) (pa_cons (pe_op op_modP (pe_op op_fdivP (pv 7) (pe_int)) (pe_int)) pa_nil))))))
    (pss_one (ps_ret (pe_slice (sl_listK K) (pv 2) po_none (po_some (pv 1))))))))), ?_⟩
  obtain ⟨ps, ns, c, v_s, rfl, P0, hS0, k0, e0, hw, hk, he⟩ := h
  obtain ⟨⟨hc0', hc1⟩, hlen, hw⟩ := hw
  have hc0 : 0 ≤ c := by omega
  obtain ⟨a, vs0, rfl, hS1, hr0, _⟩ := hS0
  rw [hr0.imm] at hS1
  have hS := Same.seq Su hS1
  have k : ∀ H' p (xs : List Int), Same H H' → H p = none → H' p = some (.lst (xs.map V.int)) → (xs.length : Int) = c → Dg xs → Q (.ref p) H' := fun H' p xs s n e hl hd => hk () hw H' _ s ⟨p, rfl, xs, SqL.of (dels_at e (nin_of n P0)), by omega⟩
  refine tSeq_i (tAsg_i (tLst_i (tNil_i (new_i (by walk_at "side") fun r H1 nr s1 hr => ?_))))
  walk_at "rd"
  refine tFor_i (w1 ?_)
  walk_at "rd"
  refine W1_i (by split <;> simp <;> omega) ?_
  have hmin : (if (63 : Int) < ((ns.map V.int).length : Nat) then (63 : Int) else ((ns.map V.int).length : Nat)).toNat = ns.length := by
    rw [List.length_map]
    split <;> omega
  rw [hmin]
  refine forS srcR (fun i σ H' => ∃ (R : List Int) (v3 v4 v5 v6 : Option V), σ = [some (.ref a), some (.int c), some (.ref r), v3, v4, v5, v6, none] ∧ Same H H' ∧ H' r = some (.lst (R.map V.int)) ∧ R.length ≤ 60 * i ∧ Dg R) ⟨[], none, none, none, none, rfl, s1, hr, by simp, dg_nil⟩ (fun _ _ _ _ _ => trivial) ?_ ?_
  · rintro i σ H2 x H3 hi ⟨R, v3, v4, v5, v6, rfl, s2, hr2, hl, hd⟩ ⟨rfl, rfl⟩
    have hget : (ns.map V.int)[i]? = some (.int ns[i]) := by rw [List.getElem?_map, List.getElem?_eq_getElem hi]; rfl
    walk_at "rd"
    refine rIxU_l (s2.seq hS) (at_of (j := i) (by omega) hget) ?_
    walk_at "rd"
    refine Br_d (fun c1 => ?_) (fun c1 => ?_)
    · walk_at "rd"
      refine tFor_i (w1 ?_)
      walk_at "rd"
      refine W1_i (by omega) ?_
      refine forS srcR (fun j σ H' => ∃ (R : List Int) (z : Int) (v5 : Option V), σ = [some (.ref a), some (.int c), some (.ref r), some (.int (0 + (i : Nat))), some (.int z), v5, v6, none] ∧ Same H H' ∧ H' r = some (.lst (R.map V.int)) ∧ R.length ≤ 60 * i + j ∧ Dg R) ⟨R, ns[i], v5, rfl, s2, hr2, by omega, hd⟩ (fun _ _ _ _ _ => trivial) ?_ ?_
      · rintro j σ H4 x H5 hj ⟨R, z, v5, rfl, s4, hr4, hl, hd⟩ ⟨rfl, rfl⟩
        have hj' : j < 60 := hj
        walk_at "rd"
        refine Br_d (fun c2 => ?_) (fun c2 => ?_)
        · walk_at "rd"
          refine append_ints hr4 (by omega) fun H5 ch e s5 => ?_
          walk_at "rd"
          exact ⟨_, _, _, rfl, s5 _ s4 nr, e, by rw [List.length_append, List.length_singleton]; omega, dg_app hd (by omega)⟩
        · walk_at "rd"
          exact ⟨R, z, _, rfl, s4, hr4, by omega, hd⟩
      · rintro σ H4 ⟨R, z, v5, rfl, s4, hr4, hl, hd⟩
        have hl' : R.length ≤ 60 * i + 60 := hl
        exact ⟨R, _, _, _, _, rfl, s4, hr4, by omega, hd⟩
    · walk_at "rd"
      refine append_ints hr2 (by omega) fun H5 ch e s5 => ?_
      walk_at "rd"
      refine append_ints e (by rw [List.length_append, List.length_singleton]; omega) fun H6 ch6 e6 s6 => ?_
      exact ⟨_, _, _, _, _, rfl, s6 _ (s5 _ s2 nr) nr, e6, by rw [List.length_append, List.length_append, List.length_singleton, List.length_singleton]; omega, dg_app (dg_app hd (by omega)) (by omega)⟩
  · rintro σ H2 ⟨R, v3, v4, v5, v6, rfl, s2, hr2, hl, hd⟩
    walk_at "rd"
    refine .inl (rSum_i R (SqL.of hr2) ?_)
    walk_at "rd"
    refine tFor_i (w1 ?_)
    walk_at "rd"
    refine W1_i (by omega) ?_
    refine forS srcR (fun j σ H' => ∃ (R' : List Int) (z : Int) (v3 v4 v5 v6 : Option V), σ = [some (.ref a), some (.int c), some (.ref r), v3, v4, v5, v6, some (.int z)] ∧ Same H H' ∧ H' r = some (.lst (R'.map V.int)) ∧ R'.length = R.length + j ∧ Dg R') ⟨R, _, _, _, _, _, rfl, s2, hr2, by omega, hd⟩ (fun _ _ _ _ _ => trivial) ?_ ?_
    · rintro j σ H4 x H5 hj ⟨R', z, v3, v4, v5, v6, rfl, s4, hr4, hl4, hd4⟩ ⟨rfl, rfl⟩
      walk_at "rd"
      refine append_ints hr4 (by omega) fun H5 ch e s5 => ?_
      exact ⟨_, _, _, _, _, _, rfl, s5 _ s4 nr, e, by rw [List.length_append, List.length_singleton]; omega, dg_app hd4 (by omega)⟩
    · rintro σ H4 ⟨R', z, v3, v4, v5, v6, rfl, s4, hr4, hl4, hd4⟩
      walk_at "rd"
      refine rSlL_i (SqL.of hr4) fun p H5 np s5 e5 => ?_
      rw [cut_take hc0 (by omega)] at e5
      exact k H5 p _ (s4.trans s5) (s4.free np) e5 (by rw [List.length_take]; omega) (dg_take hd4)
def sp_ulaw_next (K : PySem.W.Frag) (t : Tab) : Sp := fun vs H Q E => ∃ (ps : List Addr) (x_cells : Unit) (x_at : Unit) (x_many : Int) (v_cells : V) (v_at : V), vs = [v_cells, v_at, (.int x_many)] ∧ (∀ x ∈ ps, H x ≠ none) ∧ (pDraw K).rep (dels H ps) v_cells x_cells ∧ pCell.rep (dels H ps) v_at x_at ∧ ∃ (k : Int → Prop) (e : PErr → Prop), w_ulaw_next x_cells x_at x_many k e ∧ (∀ r, k r → RetI V.int H Q r) ∧ (∀ er, er.cls ∈ ([] : List Nat) → e er → ErrK ps t.cl H E er)
theorem len_ulaw_next : ∀ vs H Q E, sp_ulaw_next K t vs H Q E → vs.length = (["cells", "at", "many"] : List Str).length := by
  rintro vs H Q E ⟨_, _, _, _, _, _, rfl, _⟩
  rfl
theorem ok_ulaw_next (T : Txt K mg t) : FnOk P w K mg base (L2.CX P w) 1 t.a_ulaw_next t.fd_ulaw_next ["cells", "at", "many"] (sp_ulaw_next K t) := by
  refine T.F_ulaw_next.okX sc_ulaw_next len_ulaw_next (fun cdv A outer s H vs Q E hr h => ?_)
  have nd := sc_ulaw_next.nd
  refine ⟨_, (pss_cons (ps_asg (pe_op (op_addUK K) (pe_ix (ix_UK K) (pv 1) (pe_int) (fun _ _ => rfl)) (pe_int)) (pg_sub (pv 1) (pe_int) set_U))
    (pss_one (ps_ret (pe_op op_modP (pe_callTy call_int1D (by rfl) T.n_int (by decide +kernel) (pa_cons (pe_ix (ix_UK K) (pv 0) (pe_op op_modP (pe_callTy call_int1D (by rfl) T.n_int (by decide +kernel) (pa_cons (pe_op op_sub (pe_ix (ix_UK K) (pv 1) (pe_int) (fun _ _ => rfl)) (pe_int)) pa_nil)) (pe_callB (call_lenK K) (by rfl) T.n_len (by decide +kernel) (pa_cons (pv 0) pa_nil))) (fun _ _ => rfl)) pa_nil)) (pv 2))))), ?_⟩
  obtain ⟨ps, x_dr, x_at, m, v_dr, v_at, rfl, P0, h_dr, h_at, k0, e, hw, hk, he⟩ := h
  obtain ⟨hm, hw⟩ := hw
  obtain ⟨c, a, rfl, rfl, ⟨⟨xs, h1, h2⟩, h3⟩⟩ := drawK Su h_dr h_at
  walk_at "rd"
  refine rIxU_c h3 fun n => ?_
  walk_at "rd"
  refine setC_i h3 ?_
  walk_at "rd"
  refine rIxU_c h3 fun n => ?_
  walk_at "rd"
  have hl : (0 : Int) < ((xs.map V.int).length : Nat) := by rw [List.length_map]; omega
  refine rModP_i hl ?_
  walk_at "rd"
  have b0 := Int.emod_nonneg (n - 1) (show (((xs.map V.int).length : Nat) : Int) ≠ 0 by omega)
  have b1 := Int.emod_lt_of_pos (n - 1) hl
  rw [List.length_map] at b0 b1 ⊢
  have hget : (xs.map V.int)[((n - 1) % (xs.length : Nat)).toNat]? = some (.int (xs[((n - 1) % (xs.length : Nat)).toNat]'(by omega))) := by
    rw [List.getElem?_map, List.getElem?_eq_getElem]; rfl
  refine rIxU_l h1 (at_of (by omega) hget) ?_
  walk_at "rd"
  exact hk _ (hw _ (Int.emod_nonneg _ (by omega)) (Int.emod_lt_of_pos _ hm)) _ (Same.refl _)
def sp_ulaw_upward (K : PySem.W.Frag) (t : Tab) : Sp := fun vs H Q E => ∃ (ps : List Addr) (x_p : Int), vs = [(.int x_p)] ∧ (∀ x ∈ ps, H x ≠ none) ∧ ∃ (k : Int → Prop) (e : PErr → Prop), w_ulaw_upward x_p k e ∧ (∀ r, k r → RetI V.int H Q r) ∧ (∀ er, er.cls ∈ ([] : List Nat) → e er → ErrK ps t.cl H E er)
theorem len_ulaw_upward : ∀ vs H Q E, sp_ulaw_upward K t vs H Q E → vs.length = (["p"] : List Str).length := by
  rintro vs H Q E ⟨_, _, rfl, _⟩
  rfl
theorem ok_ulaw_upward (T : Txt K mg t) : FnOk P w K mg base (L2.CX P w) 1 t.a_ulaw_upward t.fd_ulaw_upward ["p"] (sp_ulaw_upward K t) := by
  refine T.F_ulaw_upward.okX sc_ulaw_upward len_ulaw_upward (fun cdv A outer s H vs Q E hr h => ?_)
  have nd := sc_ulaw_upward.nd
  refine ⟨_, (pss_cons (ps_for (passes_of rfl) rfl (pi_range1 (by rfl) T.n_range (pa_cons (pe_int) pa_nil)) (pg_name (i := 1) nd rfl (Or.inl rfl))
    (pss_cons (ps_if (pt_truthK K (pe_callB (cr_allK K rfl) (by rfl) T.n_all (by decide +kernel) (pa_cons (pe_lc (own := [("k", 2)]) (g := gName 2) (tt := tYes) rfl nd (pi_UK K (pe_tup (pa_cons (pe_int) (pa_cons (pe_int) (pa_cons (pe_int) (pa_cons (pe_int) (pa_cons (pe_int) (pa_cons (pe_int) (pa_cons (pe_int) (pa_cons (pe_int) (pa_cons (pe_int) (pa_cons (pe_int) pa_nil)))))))))))) (blkOk_by (N := ["p", "step", "k"]) (sc := defScope s_ulaw_upward) (by decide +kernel)) (fun _ _ _ _ _ => (pg_name (i := 2) nd rfl (Or.inl rfl))) (fun _ _ _ _ _ => pts_nil) (fun _ _ _ _ _ => (pe_or (pe_cmpR op_gt (pe_op op_modP (pe_callTy call_int1D (by rfl) T.n_int (by decide +kernel) (pa_cons (pv 0) pa_nil)) (pv 2)) (pe_int) (by first | exact nomark _ | rfl)) (pe_one (pe_cmpR (op_eqUK K hr) (pv 0) (pv 2) (by first | exact nomark _ | rfl)))))) pa_nil))) (pss_one (ps_ret (pv 0))) pss_nil)
    (pss_one (ps_set (i := 0) nd rfl (Or.inr rfl) (pe_op (op_addUK K) (pv 0) (pe_int))))))
    (pss_one (ps_ret (pe_int)))), ?_⟩
  obtain ⟨ps, x_p, rfl, P0, k, e, hw, hk, he⟩ := h
  unfold w_ulaw_upward at hw
  refine tSeq_j (tFor_j (w1 (tCons_i (tC_i (tNil_i (rgW1 hw.1 (?_)))))))
  refine forR0 (s0 := x_p) hw.2 (fun (s91 : Int) (σ93 : L2.St) (H92 : Hp) => ∃ (j94 : Option V), σ93 = [some (.int s91), j94, none] ∧ Same (dels H ps) (dels H92 ps) ∧ (∀ x ∈ ps, H92 x ≠ none) ∧ Same H H92 ∧ True) ⟨_, rfl, (Same.refl _), P0, (Same.refl H), trivial⟩ (fun d100 s91 σ93 H92 nx98 hr hw => ?_) (fun s104 σ106 H105 hr hw => ?_)
  · obtain ⟨j94, rfl, S97, P95, T96, _⟩ := hr
    refine gN (σ' := [some (.int s91), some (.int d100), none]) rfl (tSeq_j (tIfS_j (tTruth_i (tCB_i (tCons_i (tLc_i (wT (tTup_i (tCons_i (tC_i (tCons_i (tC_i (tCons_i (tC_i (tCons_i (tC_i (tCons_i (tC_i (tCons_i (tC_i (tCons_i (tC_i (tCons_i (tC_i (tCons_i (tC_i (tCons_i (tC_i (tNil_i (new_i (Nat.le_of_ble_eq_true rfl) (fun q129 H130 n131 s132 e133 => ?_)))))))))))))))))))))))))))))))
    have P135 := dom_up s132 P95
    have T136 := Same.trans T96 s132
    have S137 : Same (dels H92 ps) (dels H130 ps) := Sd ps s132
    have h134 : (pTup K (rCons pInt (rCons pInt (rCons pInt (rCons pInt (rCons pInt (rCons pInt (rCons pInt (rCons pInt (rCons pInt (rOne pInt))))))))))).rep (dels H130 ps) (.ref q129) ((3 : Int), (5 : Int), (7 : Int), (11 : Int), (13 : Int), (17 : Int), (19 : Int), (23 : Int), (29 : Int), (31 : Int)) := tupR (dels_at e133 (nin_of n131 P95)) (rowC rfl (rowC rfl (rowC rfl (rowC rfl (rowC rfl (rowC rfl (rowC rfl (rowC rfl (rowC rfl (rowO rfl))))))))))
    obtain ⟨a153, us154, hv155, hS156, hr157, hl158⟩ := (tupVt h134 (raCons (raCons (raCons (raCons (raCons (raCons (raCons (raCons (raCons raOne))))))))) (Nat.le_of_ble_eq_true rfl))
    refine WT_v hv155 (Same.seqT Su hS156) (lcT (pb := pBl) (ps := ps) hw (Same.seqT Su hS156) hr157 hl158 P135 (fun q138 d139 x140 H141 n143 s144 ⟨acc145, e146⟩ hi147 nx148 hw Y149 N150 hY151 hN152 => ?_) (fun q175 H176 acc177 zs178 n179 s180 e181 r182 l183 hw => ?_))
    · have m167 := nin_of n143 P135
      have z168 := Same.free T136 n143
      have P169 := dom_up s144 P135
      have T170 := Same.trans T136 s144
      have P171 := dom_new e146 P169
      have S172 : Same (dels H130 ps) (dels H141 (q138 :: ps)) := Sn ps s144 n143
      obtain rfl : x140 = (.int d139) := hi147
      refine gN (σ' := [some (.int s91), some (.int d100), some (.int d139)]) rfl (wipe_i rfl (tYes_i (Br_t (tOrVP (b := (decide ((s91 % d139) > (0 : Int)))) (c := (decide (s91 = d139))) (fun R hR => tOp_i (tOp_i (tCB_i (tCons_i (tVar_i (v := (.int s91)) rfl (tNil_i (rInt1_i (tVar_i (v := (.int d139)) rfl (rModP_i hw.1 (tC_i (rI0_i (hR)))))))))))) (fun g174 R hR => tOp_i (tVar_i (v := (.int s91)) rfl (tVar_i (v := (.int d139)) rfl (rEqU_i (hR))))) (?_)))))
      exact hY151 ((decide ((s91 % d139) > (0 : Int))) || (decide (s91 = d139))) _ _ (Same.refl H141) rfl hw.2
    have m184 := nin_of n179 P135
    have z185 := Same.free T136 n179
    have P186 := dom_up s180 P135
    have T187 := Same.trans T136 s180
    have P188 := dom_new e181 P186
    have S189 : Same (dels H130 ps) (dels H176 (q175 :: ps)) := Sn ps s180 n179
    have h190 : (pList pBl).rep (dels H176 ps) (.ref q175) zs178 := oFrzG e181 m184 (ss_skip ss_refl) r182 l183
    have P191 := dom_ss (ss_skip ss_refl) P188
    have S192 : Same (dels H176 (q175 :: ps)) (dels H176 ps) := Ss (ss_skip ss_refl)
    refine tNil_i (allS zs178 (slL Su h190) (Tru_b (?_)))
    refine Br_two hw (fun c193 hw => ?_) (fun c193 hw => ?_)
    · refine tRet_j (tVar_i (v := (.int s91)) rfl (?_))
      exact hk _ hw _ T187
    · refine tNext_j (tAsg_j (tOp_i (tVar_i (v := (.int s91)) rfl (tC_i (rAddU_i (?_))))))
      refine asgIL (f := V.int) (e := (s91 + (2 : Int))) (g := fun y194 => [some (.int y194), some (.int d100), none]) hw (fun _ => rfl) (fun y194 hw => ?_)
      exact nxS_i (s := (y194)) ⟨_, rfl, (S97.trans (S137.trans (S189.trans S192))), P191, T187, trivial⟩ hw
  obtain ⟨j107, rfl, S110, P108, T109, _⟩ := hr
  refine tRet_j (tC_i (?_))
  exact hk _ hw _ T109
def sp_ulaw_prime (K : PySem.W.Frag) (t : Tab) : Sp := fun vs H Q E => ∃ (ps : List Addr) (x_cells : Unit) (x_at : Unit) (v_cells : V) (v_at : V), vs = [v_cells, v_at] ∧ (∀ x ∈ ps, H x ≠ none) ∧ (pDraw K).rep (dels H ps) v_cells x_cells ∧ pCell.rep (dels H ps) v_at x_at ∧ ∃ (k : Int → Prop) (e : PErr → Prop), w_ulaw_prime x_cells x_at k e ∧ (∀ r, k r → RetI V.int H Q r) ∧ (∀ er, er.cls ∈ ([] : List Nat) → e er → ErrK ps t.cl H E er)
theorem len_ulaw_prime : ∀ vs H Q E, sp_ulaw_prime K t vs H Q E → vs.length = (["cells", "at"] : List Str).length := by
  rintro vs H Q E ⟨_, _, _, _, _, rfl, _⟩
  rfl
theorem ok_ulaw_prime (T : Txt K mg t) : FnOk P w K mg base (L2.CX P w) 2 t.a_ulaw_prime t.fd_ulaw_prime ["cells", "at"] (sp_ulaw_prime K t) := by
  have G_ulaw_next := ok_ulaw_next (P := P) (w := w) (base := base) T
  have G_ulaw_upward := ok_ulaw_upward (P := P) (w := w) (base := base) T
  refine T.F_ulaw_prime.okX sc_ulaw_prime len_ulaw_prime (fun cdv A outer s H vs Q E hr h => ?_)
  have nd := sc_ulaw_prime.nd
  refine ⟨_, (pss_cons (ps_set (i := 2) nd rfl (Or.inl rfl) (pe_ix (ix_UK K) (pe_lst (pa_cons (pe_int) (pa_cons (pe_int) (pa_cons (pe_int) (pa_cons (pe_int) (pa_cons (pe_int) (pa_cons (pe_int) (pa_cons (pe_int) (pa_cons (pe_int) pa_nil))))))))) (pe_callS G_ulaw_next (hr.mono (by decide)) (by rfl) T.g_ulaw_next T.F_ulaw_next.kp T.b_ulaw_next (fun σ => passAt (takes_of rfl rfl rfl rfl) σ) (pa_cons (pv 0) (pa_cons (pv 1) (pa_cons (pe_int) pa_nil)))) (fun _ _ => rfl)))
    (pss_cons (ps_if (pt_cmpR op_gt (pv 2) (pe_int) (by first | exact nomark _ | rfl)) (pss_one (ps_ret (pv 2))) pss_nil)
    (pss_one (ps_ret (pe_callS G_ulaw_upward (hr.mono (by decide)) (by rfl) T.g_ulaw_upward T.F_ulaw_upward.kp T.b_ulaw_upward (fun σ => passAt (takes_of rfl rfl rfl rfl) σ) (pa_cons (pe_op (op_addUK K) (pe_int) (pe_op op_mulU (pe_int) (pe_callS G_ulaw_next (hr.mono (by decide)) (by rfl) T.g_ulaw_next T.F_ulaw_next.kp T.b_ulaw_next (fun σ => passAt (takes_of rfl rfl rfl rfl) σ) (pa_cons (pv 0) (pa_cons (pv 1) (pa_cons (pe_int) pa_nil)))))) pa_nil)))))), ?_⟩
  obtain ⟨ps, x_cells, x_at, v_cells, v_at, rfl, P0, h_cells, h_at, k, e, hw, hk, he⟩ := h
  unfold w_ulaw_prime at hw
  refine tSeq_j (tAsg_j (tOp_i (tLst_i (tCons_i (tC_i (tCons_i (tC_i (tCons_i (tC_i (tCons_i (tC_i (tCons_i (tC_i (tCons_i (tC_i (tCons_i (tC_i (tCons_i (tC_i (tNil_i (new_i (Nat.le_of_ble_eq_true rfl) (fun q1 H2 n3 s4 e5 => ?_))))))))))))))))))))))
  have r6 : AllR pInt (dels H ps) [(.int (3 : Int)), (.int (5 : Int)), (.int (7 : Int)), (.int (11 : Int)), (.int (3 : Int)), (.int (7 : Int)), (.int (13 : Int)), (.int (0 : Int))] ([(3 : Int), (5 : Int), (7 : Int), (11 : Int), (3 : Int), (7 : Int), (13 : Int), (0 : Int)] : List Int) := (.cons rfl (.cons rfl (.cons rfl (.cons rfl (.cons rfl (.cons rfl (.cons rfl (.cons rfl .nil))))))))
  have l7 : ([(3 : Int), (5 : Int), (7 : Int), (11 : Int), (3 : Int), (7 : Int), (13 : Int), (0 : Int)] : List Int).length ≤ LIM := (Nat.le_of_ble_eq_true rfl)
  have m8 := nin_of n3 P0
  have z9 := Same.free (Same.refl H) n3
  have P10 := dom_up s4 P0
  have T11 := Same.trans (Same.refl H) s4
  have P12 := dom_new e5 P10
  have S13 : Same (dels H ps) (dels H2 (q1 :: ps)) := Sn ps s4 n3
  have h14 : (pList pInt).rep (dels H2 ps) (.ref q1) ([(3 : Int), (5 : Int), (7 : Int), (11 : Int), (3 : Int), (7 : Int), (13 : Int), (0 : Int)] : List Int) := oFrzG e5 m8 (ss_skip ss_refl) (AllR.mono S13 r6) l7
  have P15 := dom_ss (ss_skip ss_refl) P12
  have S16 : Same (dels H2 (q1 :: ps)) (dels H2 ps) := Ss (ss_skip ss_refl)
  refine tCallS_i (tCons_i (tVar_i (v := v_cells) rfl (tCons_i (tVar_i (v := v_at) rfl (tCons_i (tC_i (tNil_i (?_))))))))
  refine ⟨ps, x_cells, x_at, (8 : Int), v_cells, v_at, rfl, P15, ((pDraw K).mono (S13.trans S16) h_cells), (pCell.mono (S13.trans S16) h_at), _, _, hw, fun r17 hw H18 s19 => ?_, (fun er hc hw => errUp T11 ss_refl (he er (absurd hc (List.not_mem_nil)) hw))⟩
  have P20 := dom_up s19 P15
  have T21 := Same.trans T11 s19
  have S22 : Same (dels H2 ps) (dels H18 ps) := Sd ps s19
  refine ixI (sqL (Same.trans S22 Su) h14) hw.1 (?_)
  refine asgIL (f := V.int) (e := (ixG ([(3 : Int), (5 : Int), (7 : Int), (11 : Int), (3 : Int), (7 : Int), (13 : Int), (0 : Int)] : List Int) r17)) (g := fun y23 => [some v_cells, some v_at, some (.int y23)]) hw.2 (fun _ => rfl) (fun y23 hw => ?_)
  refine tSeq_j (tIfS_j (tTest_i (tOp_i (tVar_i (v := (.int y23)) rfl (tC_i (rI0_i (IsBl_i (?_))))))))
  refine Br_two hw (fun c24 hw => ?_) (fun c24 hw => ?_)
  · refine tRet_j (tVar_i (v := (.int y23)) rfl (?_))
    exact hk _ hw _ T21
  · refine tNext_j (tRet_j (tCallS_i (tCons_i (tOp_i (tC_i (tOp_i (tC_i (tCallS_i (tCons_i (tVar_i (v := v_cells) rfl (tCons_i (tVar_i (v := v_at) rfl (tCons_i (tC_i (tNil_i (?_))))))))))))))))
    refine ⟨ps, x_cells, x_at, (498 : Int), v_cells, v_at, rfl, P20, ((pDraw K).mono (S13.trans (S16.trans S22)) h_cells), (pCell.mono (S13.trans (S16.trans S22)) h_at), _, _, hw, fun r25 hw H26 s27 => ?_, (fun er hc hw => errUp T21 ss_refl (he er (absurd hc (List.not_mem_nil)) hw))⟩
    have P28 := dom_up s27 P20
    have T29 := Same.trans T21 s27
    have S30 : Same (dels H18 ps) (dels H26 ps) := Sd ps s27
    refine rMulU_i hw.1 (rAddU_i (tNil_i (?_)))
    refine ⟨ps, ((3 : Int) + ((2 : Int) * r25)), rfl, P28, _, _, hw.2, fun r31 hw H32 s33 => ?_, (fun er hc hw => errUp T29 ss_refl (he er (absurd hc (List.not_mem_nil)) hw))⟩
    have P34 := dom_up s33 P28
    have T35 := Same.trans T29 s33
    have S36 : Same (dels H26 ps) (dels H32 ps) := Sd ps s33
    exact hk _ hw _ T35
def sp_ulaw_residue (K : PySem.W.Frag) (t : Tab) : Sp := fun vs H Q E => ∃ (ps : List Addr) (x_cells : Unit) (x_at : Unit) (x_p : Int) (v_cells : V) (v_at : V), vs = [v_cells, v_at, (.int x_p)] ∧ (∀ x ∈ ps, H x ≠ none) ∧ (pDraw K).rep (dels H ps) v_cells x_cells ∧ pCell.rep (dels H ps) v_at x_at ∧ ∃ (k : Int → Prop) (e : PErr → Prop), w_ulaw_residue x_cells x_at x_p k e ∧ (∀ r, k r → RetI V.int H Q r) ∧ (∀ er, er.cls ∈ ([] : List Nat) → e er → ErrK ps t.cl H E er)
theorem len_ulaw_residue : ∀ vs H Q E, sp_ulaw_residue K t vs H Q E → vs.length = (["cells", "at", "p"] : List Str).length := by
  rintro vs H Q E ⟨_, _, _, _, _, _, rfl, _⟩
  rfl
theorem ok_ulaw_residue (T : Txt K mg t) : FnOk P w K mg base (L2.CX P w) 2 t.a_ulaw_residue t.fd_ulaw_residue ["cells", "at", "p"] (sp_ulaw_residue K t) := by
  have G_ulaw_next := ok_ulaw_next (P := P) (w := w) (base := base) T
  refine T.F_ulaw_residue.okX sc_ulaw_residue len_ulaw_residue (fun cdv A outer s H vs Q E hr h => ?_)
  have nd := sc_ulaw_residue.nd
  refine ⟨_, (pss_cons (ps_if (pt_cmpR (op_eqUK K hr) (pe_callS G_ulaw_next (hr.mono (by decide)) (by rfl) T.g_ulaw_next T.F_ulaw_next.kp T.b_ulaw_next (fun σ => passAt (takes_of rfl rfl rfl rfl) σ) (pa_cons (pv 0) (pa_cons (pv 1) (pa_cons (pe_int) pa_nil)))) (pe_int) (by first | exact nomark _ | rfl)) (pss_one (ps_ret (pe_int))) pss_nil)
    (pss_one (ps_ret (pe_callS G_ulaw_next (hr.mono (by decide)) (by rfl) T.g_ulaw_next T.F_ulaw_next.kp T.b_ulaw_next (fun σ => passAt (takes_of rfl rfl rfl rfl) σ) (pa_cons (pv 0) (pa_cons (pv 1) (pa_cons (pv 2) pa_nil))))))), ?_⟩
  obtain ⟨ps, x_cells, x_at, x_p, v_cells, v_at, rfl, P0, h_cells, h_at, k, e, hw, hk, he⟩ := h
  unfold w_ulaw_residue at hw
  refine tSeq_j (tIfS_j (tTest_i (tOp_i (tCallS_i (tCons_i (tVar_i (v := v_cells) rfl (tCons_i (tVar_i (v := v_at) rfl (tCons_i (tC_i (tNil_i (?_))))))))))))
  refine ⟨ps, x_cells, x_at, (4 : Int), v_cells, v_at, rfl, P0, h_cells, h_at, _, _, hw, fun r1 hw H2 s3 => ?_, (fun er hc hw => errUp (Same.refl H) ss_refl (he er (absurd hc (List.not_mem_nil)) hw))⟩
  have P4 := dom_up s3 P0
  have T5 := Same.trans (Same.refl H) s3
  have S6 : Same (dels H ps) (dels H2 ps) := Sd ps s3
  refine tC_i (rEqU_i (IsBl_i (?_)))
  refine Br_two hw (fun c7 hw => ?_) (fun c7 hw => ?_)
  · refine tRet_j (tC_i (?_))
    exact hk _ hw _ T5
  · refine tNext_j (tRet_j (tCallS_i (tCons_i (tVar_i (v := v_cells) rfl (tCons_i (tVar_i (v := v_at) rfl (tCons_i (tVar_i (v := (.int x_p)) rfl (tNil_i (?_))))))))))
    refine ⟨ps, x_cells, x_at, x_p, v_cells, v_at, rfl, P4, ((pDraw K).mono S6 h_cells), (pCell.mono S6 h_at), _, _, hw, fun r8 hw H9 s10 => ?_, (fun er hc hw => errUp T5 ss_refl (he er (absurd hc (List.not_mem_nil)) hw))⟩
    have P11 := dom_up s10 P4
    have T12 := Same.trans T5 s10
    have S13 : Same (dels H2 ps) (dels H9 ps) := Sd ps s10
    exact hk _ hw _ T12
def sp_ulaw_base (K : PySem.W.Frag) (t : Tab) : Sp := fun vs H Q E => ∃ (ps : List Addr) (x_cells : Unit) (x_at : Unit) (x_p : Int) (v_cells : V) (v_at : V), vs = [v_cells, v_at, (.int x_p)] ∧ (∀ x ∈ ps, H x ≠ none) ∧ (pDraw K).rep (dels H ps) v_cells x_cells ∧ pCell.rep (dels H ps) v_at x_at ∧ ∃ (k : ((Int × Int) × (Int × Int)) → Prop) (e : PErr → Prop), w_ulaw_base x_cells x_at x_p k e ∧ (∀ r, k r → RetK ps (pTup K (rCons (pTup K (rCons pInt (rOne pInt))) (rOne (pTup K (rCons pInt (rOne pInt)))))) H Q r) ∧ (∀ er, er.cls ∈ ([] : List Nat) → e er → ErrK ps t.cl H E er)
theorem len_ulaw_base : ∀ vs H Q E, sp_ulaw_base K t vs H Q E → vs.length = (["cells", "at", "p"] : List Str).length := by
  rintro vs H Q E ⟨_, _, _, _, _, _, rfl, _⟩
  rfl
theorem ok_ulaw_base (T : Txt K mg t) : FnOk P w K mg base (L2.CX P w) 3 t.a_ulaw_base t.fd_ulaw_base ["cells", "at", "p"] (sp_ulaw_base K t) := by
  have G_ulaw_residue := ok_ulaw_residue (P := P) (w := w) (base := base) T
  refine T.F_ulaw_base.okX sc_ulaw_base len_ulaw_base (fun cdv A outer s H vs Q E hr h => ?_)
  have nd := sc_ulaw_base.nd
  refine ⟨_, (pss_cons (ps_set (i := 3) nd rfl (Or.inl rfl) (pe_callS G_ulaw_residue (hr.mono (by decide)) (by rfl) T.g_ulaw_residue T.F_ulaw_residue.kp T.b_ulaw_residue (fun σ => passAt (takes_of rfl rfl rfl rfl) σ) (pa_cons (pv 0) (pa_cons (pv 1) (pa_cons (pv 2) pa_nil)))))
    (pss_cons (ps_set (i := 4) nd rfl (Or.inl rfl) (pe_callS G_ulaw_residue (hr.mono (by decide)) (by rfl) T.g_ulaw_residue T.F_ulaw_residue.kp T.b_ulaw_residue (fun σ => passAt (takes_of rfl rfl rfl rfl) σ) (pa_cons (pv 0) (pa_cons (pv 1) (pa_cons (pv 2) pa_nil)))))
    (pss_cons (ps_set (i := 5) nd rfl (Or.inl rfl) (pe_callS G_ulaw_residue (hr.mono (by decide)) (by rfl) T.g_ulaw_residue T.F_ulaw_residue.kp T.b_ulaw_residue (fun σ => passAt (takes_of rfl rfl rfl rfl) σ) (pa_cons (pv 0) (pa_cons (pv 1) (pa_cons (pv 2) pa_nil)))))
    (pss_cons (ps_set (i := 6) nd rfl (Or.inl rfl) (pe_callS G_ulaw_residue (hr.mono (by decide)) (by rfl) T.g_ulaw_residue T.F_ulaw_residue.kp T.b_ulaw_residue (fun σ => passAt (takes_of rfl rfl rfl rfl) σ) (pa_cons (pv 0) (pa_cons (pv 1) (pa_cons (pv 2) pa_nil)))))
    (pss_cut (ps_if (PW.pt (pw_and (pt_cmpR (op_eqUK K hr) (pv 3) (pe_int) (by first | exact nomark _ | rfl)) (pw_and1 (pt_cmpR (op_eqUK K hr) (pv 4) (pe_int) (by first | exact nomark _ | rfl))))) (pss_one (ps_set (i := 3) nd rfl (Or.inl rfl) (pe_int))) pss_nil)
    (pss_cut (ps_if (PW.pt (pw_and (pt_cmpR (op_eqUK K hr) (pe_op op_modP (pe_callTy call_int1D (by rfl) T.n_int (by decide +kernel) (pa_cons (pe_op op_sub (pe_op op_mulU (pv 3) (pv 6)) (pe_op op_mulU (pv 4) (pv 5))) pa_nil)) (pv 2)) (pe_int) (by first | exact nomark _ | rfl)) (pw_and1 (pt_cmpR (op_neUK K hr) (pv 3) (pe_int) (by first | exact nomark _ | rfl))))) (pss_one (ps_set (i := 6) nd rfl (Or.inl rfl) (pe_op op_modP (pe_callTy call_int1D (by rfl) T.n_int (by decide +kernel) (pa_cons (pe_op (op_addUK K) (pv 6) (pe_int)) pa_nil)) (pv 2)))) (pss_one (ps_if (pt_cmpR (op_eqUK K hr) (pe_op op_modP (pe_callTy call_int1D (by rfl) T.n_int (by decide +kernel) (pa_cons (pe_op op_sub (pe_op op_mulU (pv 3) (pv 6)) (pe_op op_mulU (pv 4) (pv 5))) pa_nil)) (pv 2)) (pe_int) (by first | exact nomark _ | rfl)) (pss_one (ps_set (i := 5) nd rfl (Or.inl rfl) (pe_op op_modP (pe_callTy call_int1D (by rfl) T.n_int (by decide +kernel) (pa_cons (pe_op (op_addUK K) (pv 5) (pe_int)) pa_nil)) (pv 2)))) pss_nil)))
    (pss_one (ps_ret (pe_tup (pa_cons (pe_tup (pa_cons (pv 3) (pa_cons (pv 4) pa_nil))) (pa_cons (pe_tup (pa_cons (pv 5) (pa_cons (pv 6) pa_nil))) pa_nil))))))))))), ?_⟩
  obtain ⟨ps, x_cells, x_at, x_p, v_cells, v_at, rfl, P0, h_cells, h_at, k, e, hw, hk, he⟩ := h
  unfold w_ulaw_base at hw
  refine tSeq_j (tAsg_j (tCallS_i (tCons_i (tVar_i (v := v_cells) rfl (tCons_i (tVar_i (v := v_at) rfl (tCons_i (tVar_i (v := (.int x_p)) rfl (tNil_i (?_))))))))))
  refine ⟨ps, x_cells, x_at, x_p, v_cells, v_at, rfl, P0, h_cells, h_at, _, _, hw, fun r1 hw H2 s3 => ?_, (fun er hc hw => errUp (Same.refl H) ss_refl (he er (absurd hc (List.not_mem_nil)) hw))⟩
  have P4 := dom_up s3 P0
  have T5 := Same.trans (Same.refl H) s3
  have S6 : Same (dels H ps) (dels H2 ps) := Sd ps s3
  refine gN (σ' := [some v_cells, some v_at, some (.int x_p), some (.int r1), none, none, none]) rfl (tSeq_j (tAsg_j (tCallS_i (tCons_i (tVar_i (v := v_cells) rfl (tCons_i (tVar_i (v := v_at) rfl (tCons_i (tVar_i (v := (.int x_p)) rfl (tNil_i (?_)))))))))))
  refine ⟨ps, x_cells, x_at, x_p, v_cells, v_at, rfl, P4, ((pDraw K).mono S6 h_cells), (pCell.mono S6 h_at), _, _, hw, fun r7 hw H8 s9 => ?_, (fun er hc hw => errUp T5 ss_refl (he er (absurd hc (List.not_mem_nil)) hw))⟩
  have P10 := dom_up s9 P4
  have T11 := Same.trans T5 s9
  have S12 : Same (dels H2 ps) (dels H8 ps) := Sd ps s9
  refine gN (σ' := [some v_cells, some v_at, some (.int x_p), some (.int r1), some (.int r7), none, none]) rfl (tSeq_j (tAsg_j (tCallS_i (tCons_i (tVar_i (v := v_cells) rfl (tCons_i (tVar_i (v := v_at) rfl (tCons_i (tVar_i (v := (.int x_p)) rfl (tNil_i (?_)))))))))))
  refine ⟨ps, x_cells, x_at, x_p, v_cells, v_at, rfl, P10, ((pDraw K).mono (S6.trans S12) h_cells), (pCell.mono (S6.trans S12) h_at), _, _, hw, fun r13 hw H14 s15 => ?_, (fun er hc hw => errUp T11 ss_refl (he er (absurd hc (List.not_mem_nil)) hw))⟩
  have P16 := dom_up s15 P10
  have T17 := Same.trans T11 s15
  have S18 : Same (dels H8 ps) (dels H14 ps) := Sd ps s15
  refine gN (σ' := [some v_cells, some v_at, some (.int x_p), some (.int r1), some (.int r7), some (.int r13), none]) rfl (tSeq_j (tAsg_j (tCallS_i (tCons_i (tVar_i (v := v_cells) rfl (tCons_i (tVar_i (v := v_at) rfl (tCons_i (tVar_i (v := (.int x_p)) rfl (tNil_i (?_)))))))))))
  refine ⟨ps, x_cells, x_at, x_p, v_cells, v_at, rfl, P16, ((pDraw K).mono (S6.trans (S12.trans S18)) h_cells), (pCell.mono (S6.trans (S12.trans S18)) h_at), _, _, hw, fun r19 hw H20 s21 => ?_, (fun er hc hw => errUp T17 ss_refl (he er (absurd hc (List.not_mem_nil)) hw))⟩
  have P22 := dom_up s21 P16
  have T23 := Same.trans T17 s21
  have S24 : Same (dels H14 ps) (dels H20 ps) := Sd ps s21
  refine gN (σ' := [some v_cells, some v_at, some (.int x_p), some (.int r1), some (.int r7), some (.int r13), some (.int r19)]) rfl (?_)
  refine cutW (S := Int) hw (fun (s28 : Int) (σ31 : L2.St) (H30 : Hp) => σ31 = [some v_cells, some v_at, some (.int x_p), some (.int s28), some (.int r7), some (.int r13), some (.int r19)] ∧ Same (dels H20 ps) (dels H30 ps) ∧ (∀ x ∈ ps, H30 x ≠ none) ∧ Same H H30 ∧ True) (fun hw => ?_) (fun s28 σ31 H30 hr hw => ?_)
  · refine tIfS_j (tAndP (b := (decide (r1 = (0 : Int)))) (c := (decide (r7 = (0 : Int)))) (fun R hR => tTest_i (tOp_i (tVar_i (v := (.int r1)) rfl (tC_i (rEqU_i (IsBl_i (hR))))))) (fun g37 R hR => tTest_i (tOp_i (tVar_i (v := (.int r7)) rfl (tC_i (rEqU_i (IsBl_i (hR))))))) (?_))
    refine Br_two hw (fun c38 hw => ?_) (fun c38 hw => ?_)
    · refine tAsg_j (tC_i (gN (σ' := [some v_cells, some v_at, some (.int x_p), some (.int (1 : Int)), some (.int r7), some (.int r13), some (.int r19)]) rfl (?_)))
      exact ⟨(1 : Int), ⟨rfl, (Same.refl _), P22, T23, trivial⟩, hw⟩
    · refine tNext_j (?_)
      exact ⟨r1, ⟨rfl, (Same.refl _), P22, T23, trivial⟩, hw⟩
  obtain ⟨rfl, S34, P32, T33, _⟩ := hr
  refine cutW (S := Int × Int) hw (fun (s45 : Int × Int) (σ48 : L2.St) (H47 : Hp) => σ48 = [some v_cells, some v_at, some (.int x_p), some (.int s28), some (.int r7), some (.int s45.1), some (.int s45.2)] ∧ Same (dels H30 ps) (dels H47 ps) ∧ (∀ x ∈ ps, H47 x ≠ none) ∧ Same H H47 ∧ True) (fun hw => ?_) (fun s45 σ48 H47 hr hw => ?_)
  · refine tIfS_j (tAndP (b := (decide ((((s28 * r19) - (r7 * r13)) % x_p) = (0 : Int)))) (c := (!(decide (s28 = (0 : Int))))) (fun R hR => tTest_i (tOp_i (tOp_i (tCB_i (tCons_i (tOp_i (tOp_i (tVar_i (v := (.int s28)) rfl (tVar_i (v := (.int r19)) rfl (rMulU_i hw.1 (tOp_i (tVar_i (v := (.int r7)) rfl (tVar_i (v := (.int r13)) rfl (rMulU_i hw.2.1 (rI0_i (tNil_i (rInt1_i (tVar_i (v := (.int x_p)) rfl (rModP_i hw.2.2.1 (tC_i (rEqU_i (IsBl_i (hR))))))))))))))))))))))) (fun g54 R hR => tTest_i (tOp_i (tVar_i (v := (.int s28)) rfl (tC_i (rNeU_i (IsBl_i (hR))))))) (?_))
    refine Br_two hw.2.2.2 (fun c55 hw => ?_) (fun c55 hw => ?_)
    · refine tAsg_j (tOp_i (tCB_i (tCons_i (tOp_i (tVar_i (v := (.int r19)) rfl (tC_i (rAddU_i (tNil_i (rInt1_i (tVar_i (v := (.int x_p)) rfl (rModP_i hw.1 (?_))))))))))))
      refine asgIL (f := V.int) (e := ((r19 + (1 : Int)) % x_p)) (g := fun y56 => [some v_cells, some v_at, some (.int x_p), some (.int s28), some (.int r7), some (.int r13), some (.int y56)]) hw.2 (fun _ => rfl) (fun y56 hw => ?_)
      exact ⟨(r13, y56), ⟨rfl, (Same.refl _), P32, T33, trivial⟩, hw⟩
    · refine tIfS_j (tTest_i (tOp_i (tOp_i (tCB_i (tCons_i (tOp_i (tOp_i (tVar_i (v := (.int s28)) rfl (tVar_i (v := (.int r19)) rfl (rMulU_i hw.1 (tOp_i (tVar_i (v := (.int r7)) rfl (tVar_i (v := (.int r13)) rfl (rMulU_i hw.2.1 (rI0_i (tNil_i (rInt1_i (tVar_i (v := (.int x_p)) rfl (rModP_i hw.2.2.1 (tC_i (rEqU_i (IsBl_i (?_)))))))))))))))))))))))
      refine Br_two hw.2.2.2 (fun c57 hw => ?_) (fun c57 hw => ?_)
      · refine tAsg_j (tOp_i (tCB_i (tCons_i (tOp_i (tVar_i (v := (.int r13)) rfl (tC_i (rAddU_i (tNil_i (rInt1_i (tVar_i (v := (.int x_p)) rfl (rModP_i hw.1 (?_))))))))))))
        refine asgIL (f := V.int) (e := ((r13 + (1 : Int)) % x_p)) (g := fun y58 => [some v_cells, some v_at, some (.int x_p), some (.int s28), some (.int r7), some (.int y58), some (.int r19)]) hw.2 (fun _ => rfl) (fun y58 hw => ?_)
        exact ⟨(y58, r19), ⟨rfl, (Same.refl _), P32, T33, trivial⟩, hw⟩
      · refine tNext_j (?_)
        exact ⟨(r13, r19), ⟨rfl, (Same.refl _), P32, T33, trivial⟩, hw⟩
  obtain ⟨rfl, S51, P49, T50, _⟩ := hr
  refine tRet_j (tTup_i (tCons_i (tTup_i (tCons_i (tVar_i (v := (.int s28)) rfl (tCons_i (tVar_i (v := (.int r7)) rfl (tNil_i (new_i (Nat.le_of_ble_eq_true rfl) (fun q59 H60 n61 s62 e63 => ?_))))))))))
  have P65 := dom_up s62 P49
  have T66 := Same.trans T50 s62
  have S67 : Same (dels H47 ps) (dels H60 ps) := Sd ps s62
  have h64 : (pTup K (rCons pInt (rOne pInt))).rep (dels H60 ps) (.ref q59) (s28, r7) := tupR (dels_at e63 (nin_of n61 P49)) (rowC rfl (rowO rfl))
  refine tCons_i (tTup_i (tCons_i (tVar_i (v := (.int s45.1)) rfl (tCons_i (tVar_i (v := (.int s45.2)) rfl (tNil_i (new_i (Nat.le_of_ble_eq_true rfl) (fun q68 H69 n70 s71 e72 => ?_))))))))
  have P74 := dom_up s71 P65
  have T75 := Same.trans T66 s71
  have S76 : Same (dels H60 ps) (dels H69 ps) := Sd ps s71
  have h73 : (pTup K (rCons pInt (rOne pInt))).rep (dels H69 ps) (.ref q68) (s45.1, s45.2) := tupR (dels_at e72 (nin_of n70 P65)) (rowC rfl (rowO rfl))
  refine tNil_i (new_i (Nat.le_of_ble_eq_true rfl) (fun q77 H78 n79 s80 e81 => ?_))
  have P83 := dom_up s80 P74
  have T84 := Same.trans T75 s80
  have S85 : Same (dels H69 ps) (dels H78 ps) := Sd ps s80
  have h82 : (pTup K (rCons (pTup K (rCons pInt (rOne pInt))) (rOne (pTup K (rCons pInt (rOne pInt)))))).rep (dels H78 ps) (.ref q77) ((s28, r7), (s45.1, s45.2)) := tupR (dels_at e81 (nin_of n79 P74)) (rowC ((pTup K (rCons pInt (rOne pInt))).mono (S76.trans S85) h64) (rowO ((pTup K (rCons pInt (rOne pInt))).mono S85 h73)))
  exact hk _ hw _ _ T84 h82
def sp_check_number (K : PySem.W.Frag) (t : Tab) : Sp := fun vs H Q E => ∃ (ps : List Addr) (x_number : Int) (x_low : Int) (x_high : Int), vs = [(.int x_number), (.int x_low), (.int x_high)] ∧ (∀ x ∈ ps, H x ≠ none) ∧ ∃ (k : Unit → Prop) (e : PErr → Prop), w_check_number x_number x_low x_high k e ∧ (∀ r, k r → RetI (fun _ => V.non) H Q r) ∧ (∀ er, er.cls ∈ ([2] : List Nat) → e er → ErrK ps t.cl H E er)
theorem len_check_number : ∀ vs H Q E, sp_check_number K t vs H Q E → vs.length = (["number", "low", "high"] : List Str).length := by
  rintro vs H Q E ⟨_, _, _, _, rfl, _⟩
  rfl
theorem ok_check_number (T : Txt K mg t) : FnOk P w K mg base (L2.CX P w) 3 t.a_check_number t.fd_check_number ["number", "low", "high"] (sp_check_number K t) := by
  have G_NumberError_init := ok_NumberError_init (P := P) (w := w) (base := base) T
  refine T.F_check_number.okX sc_check_number len_check_number (fun cdv A outer s H vs Q E hr h => ?_)
  have nd := sc_check_number.nd
  refine ⟨_, (pss_one (ps_if (PW.pt (pw_or (pt_cmpR op_lt (pv 0) (pv 1) (by first | exact nomark _ | rfl)) (pw_or1 (pt_cmpR op_gt (pv 0) (pv 2) (by first | exact nomark _ | rfl))))) (pss_one (ps_raise rfl (takes_of rfl rfl rfl rfl) (pmk_oex T.x_NumberError T.xi_NumberError T.xt_NumberError G_NumberError_init (hr.mono (by decide)) T.b_NumberError_init .nil passLF (by rfl) T.g_NumberError (pa_cons (pv 0) pa_nil)))) pss_nil)), ?_⟩
  obtain ⟨ps, x_number, x_low, x_high, rfl, P0, k, e, hw, hk, he⟩ := h
  unfold w_check_number at hw
  refine tIfS_j (tOrP (b := (decide (x_number < x_low))) (c := (decide (x_number > x_high))) (fun R hR => tTest_i (tOp_i (tVar_i (v := (.int x_number)) rfl (tVar_i (v := (.int x_low)) rfl (rI0_i (IsBl_i (hR))))))) (fun g2 R hR => tTest_i (tOp_i (tVar_i (v := (.int x_number)) rfl (tVar_i (v := (.int x_high)) rfl (rI0_i (IsBl_i (hR))))))) (?_))
  refine Br_two hw (fun c3 hw => ?_) (fun c3 hw => ?_)
  · refine tMkO_i (tCons_i (tVar_i (v := (.int x_number)) rfl (tNil_i (?_))))
    exact mkO1n T.x_NumberError T.xn_NumberError_number (raiseK (he _ (by simp) hw) (Same.refl H) P0)
  · refine tNext_j (?_)
    exact hk _ hw _ (Same.refl H)
def sp_is_odd_prime (K : PySem.W.Frag) (t : Tab) : Sp := fun vs H Q E => ∃ (ps : List Addr) (x_number : Int), vs = [(.int x_number)] ∧ (∀ x ∈ ps, H x ≠ none) ∧ ∃ (k : Bool → Prop) (e : PErr → Prop), w_is_odd_prime x_number k e ∧ (∀ r, k r → RetI V.bl H Q r) ∧ (∀ er, er.cls ∈ ([2] : List Nat) → e er → ErrK ps t.cl H E er)
theorem len_is_odd_prime : ∀ vs H Q E, sp_is_odd_prime K t vs H Q E → vs.length = (["number"] : List Str).length := by
  rintro vs H Q E ⟨_, _, rfl, _⟩
  rfl
theorem ok_is_odd_prime (T : Txt K mg t) : FnOk P w K mg base (L2.CX P w) 4 t.a_is_odd_prime t.fd_is_odd_prime ["number"] (sp_is_odd_prime K t) := by
  have G_check_number := ok_check_number (P := P) (w := w) (base := base) T
  refine T.F_is_odd_prime.okX sc_is_odd_prime len_is_odd_prime (fun cdv A outer s H vs Q E hr h => ?_)
  have nd := sc_is_odd_prime.nd
  refine ⟨_, (pss_cons (ps_expr (pe_callS G_check_number (hr.mono (by decide)) (by rfl) T.g_check_number T.F_check_number.kp T.b_check_number (fun σ => passAt (takes_of rfl rfl rfl rfl) σ) (pa_cons (pv 0) (pa_cons (pe_int) (pa_cons (pe_glob (v := .int 997) (by rfl) T.g_MOST ⟨_, rfl⟩) pa_nil)))))
    (pss_cons (ps_if (PW.pt (pw_or (pt_cmpR op_lt (pv 0) (pe_int) (by first | exact nomark _ | rfl)) (pw_or1 (pt_cmpR (op_eqUK K hr) (pe_op op_modP (pv 0) (pe_int)) (pe_int) (by first | exact nomark _ | rfl))))) (pss_one (ps_ret (pe_bl))) pss_nil)
    (pss_cons (ps_set (i := 1) nd rfl (Or.inl rfl) (pe_int))
    (pss_cons (ps_while (passes_of rfl) (pt_cmpR op_le (pe_op op_mulU (pv 1) (pv 1)) (pv 0) (by first | exact nomark _ | rfl)) (pss_cons (ps_if (pt_cmpR (op_eqUK K hr) (pe_op op_modP (pv 0) (pv 1)) (pe_int) (by first | exact nomark _ | rfl)) (pss_one (ps_ret (pe_bl))) pss_nil)
    (pss_one (ps_set (i := 1) nd rfl (Or.inl rfl) (pe_op (op_addUK K) (pv 1) (pe_int))))))
    (pss_one (ps_ret (pe_bl))))))), ?_⟩
  obtain ⟨ps, x_number, rfl, P0, k, e, hw, hk, he⟩ := h
  unfold w_is_odd_prime at hw
  refine tSeq_j (tDrop_j (tCallS_i (tCons_i (tVar_i (v := (.int x_number)) rfl (tCons_i (tC_i (tCons_i (tC_i (tNil_i (?_))))))))))
  refine ⟨ps, x_number, (0 : Int), (997 : Int), rfl, P0, _, _, hw, fun r1 hw H2 s3 => ?_, (fun er hc hw => errUp (Same.refl H) ss_refl (he er (by simp only [List.mem_cons, List.not_mem_nil, or_false] at hc ⊢; omega) hw))⟩
  have P4 := dom_up s3 P0
  have T5 := Same.trans (Same.refl H) s3
  have S6 : Same (dels H ps) (dels H2 ps) := Sd ps s3
  refine tSeq_j (tIfS_j (tOrP (b := (decide (x_number < (3 : Int)))) (c := (decide ((x_number % (2 : Int)) = (0 : Int)))) (fun R hR => tTest_i (tOp_i (tVar_i (v := (.int x_number)) rfl (tC_i (rI0_i (IsBl_i (hR))))))) (fun g8 R hR => tTest_i (tOp_i (tOp_i (tVar_i (v := (.int x_number)) rfl (tC_i (rModP_i (hw.1 g8) (tC_i (rEqU_i (IsBl_i (hR)))))))))) (?_)))
  refine Br_two hw.2 (fun c9 hw => ?_) (fun c9 hw => ?_)
  · refine tRet_j (tC_i (?_))
    exact hk _ hw _ T5
  · refine tNext_j (tSeq_j (tAsg_j (tC_i (gN (σ' := [some (.int x_number), some (.int (3 : Int))]) rfl (tSeq_j (?_))))))
    refine whileW (s0 := ((3 : Int))) hw (fun (s17 : Int) (σ19 : L2.St) (H18 : Hp) => σ19 = [some (.int x_number), some (.int s17)] ∧ Same (dels H2 ps) (dels H18 ps) ∧ (∀ x ∈ ps, H18 x ≠ none) ∧ Same H H18 ∧ True) ⟨rfl, (Same.refl _), P4, T5, trivial⟩ (fun s17 σ19 H18 nx23 WB25 hr hw hWB26 => ?_)
    obtain ⟨rfl, S22, P20, T21, _⟩ := hr
    refine tTest_i (tOp_i (tOp_i (tVar_i (v := (.int s17)) rfl (tVar_i (v := (.int s17)) rfl (rMulU_i hw.1 (tVar_i (v := (.int x_number)) rfl (rI0_i (IsBl_i (?_)))))))))
    refine Br_two hw.2 (fun c27 hw => hWB26 _ _ ?_) (fun c27 hw => ?_)
    · refine tSeq_j (tIfS_j (tTest_i (tOp_i (tOp_i (tVar_i (v := (.int x_number)) rfl (tVar_i (v := (.int s17)) rfl (rModP_i hw.1 (tC_i (rEqU_i (IsBl_i (?_)))))))))))
      refine Br_two hw.2 (fun c28 hw => ?_) (fun c28 hw => ?_)
      · refine tRet_j (tC_i (?_))
        exact hk _ hw _ T21
      · refine tNext_j (tAsg_j (tOp_i (tVar_i (v := (.int s17)) rfl (tC_i (rAddU_i (?_))))))
        refine asgIL (f := V.int) (e := (s17 + (2 : Int))) (g := fun y29 => [some (.int x_number), some (.int y29)]) hw (fun _ => rfl) (fun y29 hw => ?_)
        exact nxS_i (s := (y29)) ⟨rfl, S22, P20, T21, trivial⟩ hw
    refine tRet_j (tC_i (?_))
    exact hk _ hw _ T21
def sp_look_prime (K : PySem.W.Frag) (t : Tab) : Sp := fun vs H Q E => ∃ (ps : List Addr) (x_prime : Int), vs = [(.int x_prime)] ∧ (∀ x ∈ ps, H x ≠ none) ∧ ∃ (k : Unit → Prop) (e : PErr → Prop), w_look_prime x_prime k e ∧ (∀ r, k r → RetI (fun _ => V.non) H Q r) ∧ (∀ er, er.cls ∈ ([2] : List Nat) → e er → ErrK ps t.cl H E er)
theorem len_look_prime : ∀ vs H Q E, sp_look_prime K t vs H Q E → vs.length = (["prime"] : List Str).length := by
  rintro vs H Q E ⟨_, _, rfl, _⟩
  rfl
theorem ok_look_prime (T : Txt K mg t) : FnOk P w K mg base (L2.CX P w) 5 t.a_look_prime t.fd_look_prime ["prime"] (sp_look_prime K t) := by
  have G_is_odd_prime := ok_is_odd_prime (P := P) (w := w) (base := base) T
  have G_NumberError_init := ok_NumberError_init (P := P) (w := w) (base := base) T
  refine T.F_look_prime.okX sc_look_prime len_look_prime (fun cdv A outer s H vs Q E hr h => ?_)
  have nd := sc_look_prime.nd
  refine ⟨_, (pss_one (ps_if (pt_not (pt_truthK K (pe_callS G_is_odd_prime (hr.mono (by decide)) (by rfl) T.g_is_odd_prime T.F_is_odd_prime.kp T.b_is_odd_prime (fun σ => passAt (takes_of rfl rfl rfl rfl) σ) (pa_cons (pv 0) pa_nil)))) (pss_one (ps_raise rfl (takes_of rfl rfl rfl rfl) (pmk_oex T.x_NumberError T.xi_NumberError T.xt_NumberError G_NumberError_init (hr.mono (by decide)) T.b_NumberError_init .nil passLF (by rfl) T.g_NumberError (pa_cons (pv 0) pa_nil)))) pss_nil)), ?_⟩
  obtain ⟨ps, x_prime, rfl, P0, k, e, hw, hk, he⟩ := h
  unfold w_look_prime at hw
  refine tIfS_j (tNot_i (tTruth_i (tCallS_i (tCons_i (tVar_i (v := (.int x_prime)) rfl (tNil_i (?_)))))))
  refine ⟨ps, x_prime, rfl, P0, _, _, hw, fun r1 hw H2 s3 => ?_, (fun er hc hw => errUp (Same.refl H) ss_refl (he er (by simp only [List.mem_cons, List.not_mem_nil, or_false] at hc ⊢; omega) hw))⟩
  have P4 := dom_up s3 P0
  have T5 := Same.trans (Same.refl H) s3
  have S6 : Same (dels H ps) (dels H2 ps) := Sd ps s3
  refine Tru_b (?_)
  refine Br_two hw (fun c7 hw => ?_) (fun c7 hw => ?_)
  · refine tMkO_i (tCons_i (tVar_i (v := (.int x_prime)) rfl (tNil_i (?_))))
    exact mkO1n T.x_NumberError T.xn_NumberError_number (raiseK (he _ (by simp) hw) T5 P4)
  · refine tNext_j (?_)
    exact hk _ hw _ T5
def sp_look_residue (K : PySem.W.Frag) (t : Tab) : Sp := fun vs H Q E => ∃ (ps : List Addr) (x_prime : Int) (x_number : Int), vs = [(.int x_prime), (.int x_number)] ∧ (∀ x ∈ ps, H x ≠ none) ∧ ∃ (k : Unit → Prop) (e : PErr → Prop), w_look_residue x_prime x_number k e ∧ (∀ r, k r → RetI (fun _ => V.non) H Q r) ∧ (∀ er, er.cls ∈ ([2] : List Nat) → e er → ErrK ps t.cl H E er)
theorem len_look_residue : ∀ vs H Q E, sp_look_residue K t vs H Q E → vs.length = (["prime", "number"] : List Str).length := by
  rintro vs H Q E ⟨_, _, _, rfl, _⟩
  rfl
theorem ok_look_residue (T : Txt K mg t) : FnOk P w K mg base (L2.CX P w) 3 t.a_look_residue t.fd_look_residue ["prime", "number"] (sp_look_residue K t) := by
  have G_NumberError_init := ok_NumberError_init (P := P) (w := w) (base := base) T
  refine T.F_look_residue.okX sc_look_residue len_look_residue (fun cdv A outer s H vs Q E hr h => ?_)
  have nd := sc_look_residue.nd
  refine ⟨_, (pss_one (ps_if (PW.pt (pw_or (pt_cmpR op_lt (pv 1) (pe_int) (by first | exact nomark _ | rfl)) (pw_or1 (pt_cmpR op_ge (pv 1) (pv 0) (by first | exact nomark _ | rfl))))) (pss_one (ps_raise rfl (takes_of rfl rfl rfl rfl) (pmk_oex T.x_NumberError T.xi_NumberError T.xt_NumberError G_NumberError_init (hr.mono (by decide)) T.b_NumberError_init .nil passLF (by rfl) T.g_NumberError (pa_cons (pv 1) pa_nil)))) pss_nil)), ?_⟩
  obtain ⟨ps, x_prime, x_number, rfl, P0, k, e, hw, hk, he⟩ := h
  unfold w_look_residue at hw
  refine tIfS_j (tOrP (b := (decide (x_number < (0 : Int)))) (c := (decide (x_number ≥ x_prime))) (fun R hR => tTest_i (tOp_i (tVar_i (v := (.int x_number)) rfl (tC_i (rI0_i (IsBl_i (hR))))))) (fun g2 R hR => tTest_i (tOp_i (tVar_i (v := (.int x_number)) rfl (tVar_i (v := (.int x_prime)) rfl (rI0_i (IsBl_i (hR))))))) (?_))
  refine Br_two hw (fun c3 hw => ?_) (fun c3 hw => ?_)
  · refine tMkO_i (tCons_i (tVar_i (v := (.int x_number)) rfl (tNil_i (?_))))
    exact mkO1n T.x_NumberError T.xn_NumberError_number (raiseK (he _ (by simp) hw) (Same.refl H) P0)
  · refine tNext_j (?_)
    exact hk _ hw _ (Same.refl H)
def sp_look_pair (K : PySem.W.Frag) (t : Tab) : Sp := fun vs H Q E => ∃ (ps : List Addr) (x_prime : Int) (x_pair : (Int × Int)) (v_pair : V), vs = [(.int x_prime), v_pair] ∧ (∀ x ∈ ps, H x ≠ none) ∧ (pTup K (rCons pInt (rOne pInt))).rep (dels H ps) v_pair x_pair ∧ ∃ (k : Unit → Prop) (e : PErr → Prop), w_look_pair x_prime x_pair k e ∧ (∀ r, k r → RetI (fun _ => V.non) H Q r) ∧ (∀ er, er.cls ∈ ([2] : List Nat) → e er → ErrK ps t.cl H E er)
theorem len_look_pair : ∀ vs H Q E, sp_look_pair K t vs H Q E → vs.length = (["prime", "pair"] : List Str).length := by
  rintro vs H Q E ⟨_, _, _, _, rfl, _⟩
  rfl
theorem ok_look_pair (T : Txt K mg t) : FnOk P w K mg base (L2.CX P w) 4 t.a_look_pair t.fd_look_pair ["prime", "pair"] (sp_look_pair K t) := by
  have G_look_residue := ok_look_residue (P := P) (w := w) (base := base) T
  refine T.F_look_pair.okX sc_look_pair len_look_pair (fun cdv A outer s H vs Q E hr h => ?_)
  have nd := sc_look_pair.nd
  refine ⟨_, (pss_one (ps_for (passes_of rfl) rfl (pi_UK K (pv 1)) (pg_name (i := 2) nd rfl (Or.inl rfl))
    (pss_one (ps_expr (pe_callS G_look_residue (hr.mono (by decide)) (by rfl) T.g_look_residue T.F_look_residue.kp T.b_look_residue (fun σ => passAt (takes_of rfl rfl rfl rfl) σ) (pa_cons (pv 0) (pa_cons (pv 2) pa_nil))))))), ?_⟩
  obtain ⟨ps, x_prime, x_pair, v_pair, rfl, P0, h_pair, k, e, hw, hk, he⟩ := h
  unfold w_look_pair at hw
  refine tFor_j (wT (tVar_i (v := v_pair) rfl (?_)))
  obtain ⟨a13, us14, hv15, hS16, hr17, hl18⟩ := (tupVt h_pair (raCons raOne) (Nat.le_of_ble_eq_true rfl))
  refine WT_v hv15 (Same.seqT Su hS16) (forT (s0 := ()) hw hr17 (fun (s19 : Unit) (σ21 : L2.St) (H20 : Hp) => ∃ (j22 : Option V), σ21 = [some (.int x_prime), some v_pair, j22] ∧ Same (dels H ps) (dels H20 ps) ∧ (∀ x ∈ ps, H20 x ≠ none) ∧ Same H H20 ∧ True) ⟨_, rfl, (Same.refl _), P0, (Same.refl H), trivial⟩ (fun s19 σ21 H20 ⟨j22, _, S25, P23, T24, _⟩ => (Same.seqT (Same.trans S25 Su) hS16)) (fun d28 s19 σ21 H20 x29 nx26 hr hi30 hw => ?_) (fun s32 σ34 H33 hr hw => ?_))
  · obtain ⟨j22, rfl, S25, P23, T24, _⟩ := hr
    obtain rfl : x29 = (.int d28) := hi30
    refine gN (σ' := [some (.int x_prime), some v_pair, some (.int d28)]) rfl (tDrop_j (tCallS_i (tCons_i (tVar_i (v := (.int x_prime)) rfl (tCons_i (tVar_i (v := (.int d28)) rfl (tNil_i (?_))))))))
    refine ⟨ps, x_prime, d28, rfl, P23, _, _, hw, fun r39 hw H40 s41 => ?_, (fun er hc hw => errUp T24 ss_refl (he er (by simp only [List.mem_cons, List.not_mem_nil, or_false] at hc ⊢; omega) hw))⟩
    have P42 := dom_up s41 P23
    have T43 := Same.trans T24 s41
    have S44 : Same (dels H20 ps) (dels H40 ps) := Sd ps s41
    exact nxS_i (s := (())) ⟨_, rfl, (S25.trans S44), P42, T43, trivial⟩ hw
  obtain ⟨j35, rfl, S38, P36, T37, _⟩ := hr
  exact hk _ hw _ T37
def sp_cross_product (K : PySem.W.Frag) (t : Tab) : Sp := fun vs H Q E => ∃ (ps : List Addr) (x_prime : Int) (x_first : (Int × Int)) (x_second : (Int × Int)) (v_first : V) (v_second : V), vs = [(.int x_prime), v_first, v_second] ∧ (∀ x ∈ ps, H x ≠ none) ∧ (pTup K (rCons pInt (rOne pInt))).rep (dels H ps) v_first x_first ∧ (pTup K (rCons pInt (rOne pInt))).rep (dels H ps) v_second x_second ∧ ∃ (k : Int → Prop) (e : PErr → Prop), w_cross_product x_prime x_first x_second k e ∧ (∀ r, k r → RetI V.int H Q r) ∧ (∀ er, er.cls ∈ ([] : List Nat) → e er → ErrK ps t.cl H E er)
theorem len_cross_product : ∀ vs H Q E, sp_cross_product K t vs H Q E → vs.length = (["prime", "first", "second"] : List Str).length := by
  rintro vs H Q E ⟨_, _, _, _, _, _, rfl, _⟩
  rfl
theorem ok_cross_product (T : Txt K mg t) : FnOk P w K mg base (L2.CX P w) 1 t.a_cross_product t.fd_cross_product ["prime", "first", "second"] (sp_cross_product K t) := by
  refine T.F_cross_product.okX sc_cross_product len_cross_product (fun cdv A outer s H vs Q E hr h => ?_)
  have nd := sc_cross_product.nd
  refine ⟨_, (pss_one (ps_ret (pe_op op_modP (pe_op op_sub (pe_op op_mulU (pe_ix (ix_UK K) (pv 1) (pe_int) (fun _ _ => rfl)) (pe_ix (ix_UK K) (pv 2) (pe_int) (fun _ _ => rfl))) (pe_op op_mulU (pe_ix (ix_UK K) (pv 1) (pe_int) (fun _ _ => rfl)) (pe_ix (ix_UK K) (pv 2) (pe_int) (fun _ _ => rfl)))) (pv 0)))), ?_⟩
  obtain ⟨ps, x_prime, x_first, x_second, v_first, v_second, rfl, P0, h_first, h_second, k, e, hw, hk, he⟩ := h
  unfold w_cross_product at hw
  refine tRet_j (tOp_i (tOp_i (tOp_i (tOp_i (tVar_i (v := v_first) rfl (tC_i (ixTI (j := 0) h_first Su rgZ rfl (tOp_i (tVar_i (v := v_second) rfl (tC_i (ixTI (j := 1) h_second Su (rgS rgOne) rfl (rMulU_i hw.1 (tOp_i (tOp_i (tVar_i (v := v_first) rfl (tC_i (ixTI (j := 1) h_first Su (rgS rgOne) rfl (tOp_i (tVar_i (v := v_second) rfl (tC_i (ixTI (j := 0) h_second Su rgZ rfl (rMulU_i hw.2.1 (rI0_i (tVar_i (v := (.int x_prime)) rfl (rModP_i hw.2.2.1 (?_))))))))))))))))))))))))))
  exact hk _ hw.2.2.2 _ (Same.refl H)
def sp_Base_init (K : PySem.W.Frag) (t : Tab) : Sp := fun vs H Q E => ∃ (ps : List Addr) (x_prime : Int) (x_first : (Int × Int)) (x_second : (Int × Int)) (n0 dx : Addr) (v_first : V) (v_second : V), vs = [.ref n0, (.int x_prime), v_first, v_second] ∧ (∀ x ∈ ps, H x ≠ none) ∧ n0 ∈ ps ∧ H n0 = some (.ins t.c_Base dx []) ∧ (pTup K (rCons pInt (rOne pInt))).rep (dels H ps) v_first x_first ∧ (pTup K (rCons pInt (rOne pInt))).rep (dels H ps) v_second x_second ∧ ∃ (k : (Int × (Int × Int) × (Int × Int)) → Prop) (e : PErr → Prop), w_Base_init x_prime x_first x_second k e ∧ (∀ r, k r → RetF ps t.c_Base dx n0 ["prime", "first", "second"] (rCons pInt (rCons (pTup K (rCons pInt (rOne pInt))) (rOne (pTup K (rCons pInt (rOne pInt)))))) H Q r) ∧ (∀ er, er.cls ∈ ([2, 21] : List Nat) → e er → ErrK ps t.cl (del H n0) E er)
theorem len_Base_init : ∀ vs H Q E, sp_Base_init K t vs H Q E → vs.length = (["self", "prime", "first", "second"] : List Str).length := by
  rintro vs H Q E ⟨_, _, _, _, _, _, _, _, rfl, _⟩
  rfl
theorem ok_Base_init (T : Txt K mg t) : FnOk P w K mg base (L2.CX P w) 6 t.a_Base_init t.fd_Base_init ["self", "prime", "first", "second"] (sp_Base_init K t) := by
  have G_look_prime := ok_look_prime (P := P) (w := w) (base := base) T
  have G_look_pair := ok_look_pair (P := P) (w := w) (base := base) T
  have G_cross_product := ok_cross_product (P := P) (w := w) (base := base) T
  refine T.F_Base_init.okX sc_Base_init len_Base_init (fun cdv A outer s H vs Q E hr h => ?_)
  have nd := sc_Base_init.nd
  refine ⟨_, (pss_cons (ps_expr (pe_callS G_look_prime (hr.mono (by decide)) (by rfl) T.g_look_prime T.F_look_prime.kp T.b_look_prime (fun σ => passAt (takes_of rfl rfl rfl rfl) σ) (pa_cons (pv 1) pa_nil)))
    (pss_cons (ps_expr (pe_callS G_look_pair (hr.mono (by decide)) (by rfl) T.g_look_pair T.F_look_pair.kp T.b_look_pair (fun σ => passAt (takes_of rfl rfl rfl rfl) σ) (pa_cons (pv 1) (pa_cons (pv 2) pa_nil))))
    (pss_cons (ps_expr (pe_callS G_look_pair (hr.mono (by decide)) (by rfl) T.g_look_pair T.F_look_pair.kp T.b_look_pair (fun σ => passAt (takes_of rfl rfl rfl rfl) σ) (pa_cons (pv 1) (pa_cons (pv 3) pa_nil))))
    (pss_cons (ps_if (pt_cmpR (op_eqUK K hr) (pe_callS G_cross_product (hr.mono (by decide)) (by rfl) T.g_cross_product T.F_cross_product.kp T.b_cross_product (fun σ => passAt (takes_of rfl rfl rfl rfl) σ) (pa_cons (pv 1) (pa_cons (pv 2) (pa_cons (pv 3) pa_nil)))) (pe_int) (by first | exact nomark _ | rfl)) (pss_one (ps_raise rfl (takes_of rfl rfl rfl rfl) (pmk_own0 T.x_DependentError T.g_DependentError))) pss_nil)
    (pss_cons (ps_fldK K (pv 0) (pv 1) rfl)
    (pss_cons (ps_fldK K (pv 0) (pe_callTy (call_tuple_ofK K) (by rfl) T.n_tuple (by decide +kernel) (pa_cons (pv 2) pa_nil)) rfl)
    (pss_one (ps_fldK K (pv 0) (pe_callTy (call_tuple_ofK K) (by rfl) T.n_tuple (by decide +kernel) (pa_cons (pv 3) pa_nil)) rfl)))))))), ?_⟩
  obtain ⟨ps, x_prime, x_first, x_second, n0, dx, v_first, v_second, rfl, P0, hmem, e0, h_first, h_second, k, e, hw, hk, he⟩ := h
  unfold w_Base_init at hw
  refine tSeq_j (tDrop_j (tCallS_i (tCons_i (tVar_i (v := (.int x_prime)) rfl (tNil_i (?_))))))
  refine ⟨ps, x_prime, rfl, P0, _, _, hw, fun r1 hw H2 s3 => ?_, (fun er hc hw => errUp (Same.undel (D := n0)) ss_refl (he er (by simp only [List.mem_cons, List.not_mem_nil, or_false] at hc ⊢; omega) hw))⟩
  have P4 := dom_up s3 P0
  have T5 := Same.trans (Same.undel (D := n0)) s3
  have e6 := s3 _ _ e0
  have S7 : Same (dels H ps) (dels H2 ps) := Sd ps s3
  refine tSeq_j (tDrop_j (tCallS_i (tCons_i (tVar_i (v := (.int x_prime)) rfl (tCons_i (tVar_i (v := v_first) rfl (tNil_i (?_))))))))
  refine ⟨ps, x_prime, x_first, v_first, rfl, P4, ((pTup K (rCons pInt (rOne pInt))).mono S7 h_first), _, _, hw, fun r8 hw H9 s10 => ?_, (fun er hc hw => errUp T5 ss_refl (he er (by simp only [List.mem_cons, List.not_mem_nil, or_false] at hc ⊢; omega) hw))⟩
  have P11 := dom_up s10 P4
  have T12 := Same.trans T5 s10
  have e13 := s10 _ _ e6
  have S14 : Same (dels H2 ps) (dels H9 ps) := Sd ps s10
  refine tSeq_j (tDrop_j (tCallS_i (tCons_i (tVar_i (v := (.int x_prime)) rfl (tCons_i (tVar_i (v := v_second) rfl (tNil_i (?_))))))))
  refine ⟨ps, x_prime, x_second, v_second, rfl, P11, ((pTup K (rCons pInt (rOne pInt))).mono (S7.trans S14) h_second), _, _, hw, fun r15 hw H16 s17 => ?_, (fun er hc hw => errUp T12 ss_refl (he er (by simp only [List.mem_cons, List.not_mem_nil, or_false] at hc ⊢; omega) hw))⟩
  have P18 := dom_up s17 P11
  have T19 := Same.trans T12 s17
  have e20 := s17 _ _ e13
  have S21 : Same (dels H9 ps) (dels H16 ps) := Sd ps s17
  refine tSeq_j (tIfS_j (tTest_i (tOp_i (tCallS_i (tCons_i (tVar_i (v := (.int x_prime)) rfl (tCons_i (tVar_i (v := v_first) rfl (tCons_i (tVar_i (v := v_second) rfl (tNil_i (?_))))))))))))
  refine ⟨ps, x_prime, x_first, x_second, v_first, v_second, rfl, P18, ((pTup K (rCons pInt (rOne pInt))).mono (S7.trans (S14.trans S21)) h_first), ((pTup K (rCons pInt (rOne pInt))).mono (S7.trans (S14.trans S21)) h_second), _, _, hw, fun r22 hw H23 s24 => ?_, (fun er hc hw => errUp T19 ss_refl (he er (absurd hc (List.not_mem_nil)) hw))⟩
  have P25 := dom_up s24 P18
  have T26 := Same.trans T19 s24
  have e27 := s24 _ _ e20
  have S28 : Same (dels H16 ps) (dels H23 ps) := Sd ps s24
  refine tC_i (rEqU_i (IsBl_i (?_)))
  refine Br_two hw (fun c29 hw => ?_) (fun c29 hw => ?_)
  · exact raise0 (he _ (by simp) hw) T26
  · refine tNext_j (tSeq_j (sFld_j (tVar_i (v := (.int x_prime)) rfl (tVar_i (v := (.ref n0)) rfl (?_)))))
    refine setF_i (fs' := [("prime", (.int x_prime))]) e27 T.own_Base.cl T.na_Base_prime (by first | rfl | simp [putF]) (Nat.lt_of_succ_le (Nat.le_of_ble_eq_true rfl)) (fun H30 f31 e32 => ?_)
    have P33 := dom_off f31 e32 P25
    have T34 := st_off T26 f31 del_same
    have S35 : Same (dels H23 ps) (dels H30 ps) := So hmem f31
    refine tSeq_j (sFld_j (tCB_i (tCons_i (tVar_i (v := v_first) rfl (tNil_i (tupTT (Same.trans (S7.trans (S14.trans (S21.trans (S28.trans S35)))) Su) h_first (tVar_i (v := (.ref n0)) rfl (?_))))))))
    refine setF_i (fs' := [("prime", (.int x_prime)), ("first", v_first)]) e32 T.own_Base.cl T.na_Base_first (by first | rfl | simp [putF]) (Nat.lt_of_succ_le (Nat.le_of_ble_eq_true rfl)) (fun H36 f37 e38 => ?_)
    have P39 := dom_off f37 e38 P33
    have T40 := st_off T34 f37 del_same
    have S41 : Same (dels H30 ps) (dels H36 ps) := So hmem f37
    refine sFld_j (tCB_i (tCons_i (tVar_i (v := v_second) rfl (tNil_i (tupTT (Same.trans (S7.trans (S14.trans (S21.trans (S28.trans (S35.trans S41))))) Su) h_second (tVar_i (v := (.ref n0)) rfl (?_)))))))
    refine setF_i (fs' := [("prime", (.int x_prime)), ("first", v_first), ("second", v_second)]) e38 T.own_Base.cl T.na_Base_second (by first | rfl | simp [putF]) (Nat.lt_of_succ_le (Nat.le_of_ble_eq_true rfl)) (fun H42 f43 e44 => ?_)
    have P45 := dom_off f43 e44 P39
    have T46 := st_off T40 f43 del_same
    have S47 : Same (dels H36 ps) (dels H42 ps) := So hmem f43
    exact hk _ hw _ _ T46 e44 rfl (rowC rfl (rowC ((pTup K (rCons pInt (rOne pInt))).mono (S7.trans (S14.trans (S21.trans (S28.trans (S35.trans (S41.trans S47)))))) h_first) (rowO ((pTup K (rCons pInt (rOne pInt))).mono (S7.trans (S14.trans (S21.trans (S28.trans (S35.trans (S41.trans S47)))))) h_second))))
def sp_ulaw_frames (K : PySem.W.Frag) (t : Tab) : Sp := fun vs H Q E => ∃ (ps : List Addr) (x_p : Int), vs = [(.int x_p)] ∧ (∀ x ∈ ps, H x ≠ none) ∧ ∃ (k : (List (Int × Int)) → Prop) (e : PErr → Prop), w_ulaw_frames x_p k e ∧ (∀ r, k r → RetO ps (pTup K (rCons pInt (rOne pInt))) H Q r) ∧ (∀ er, er.cls ∈ ([] : List Nat) → e er → ErrK ps t.cl H E er)
theorem len_ulaw_frames : ∀ vs H Q E, sp_ulaw_frames K t vs H Q E → vs.length = (["p"] : List Str).length := by
  rintro vs H Q E ⟨_, _, rfl, _⟩
  rfl
theorem ok_ulaw_frames (T : Txt K mg t) : FnOk P w K mg base (L2.CX P w) 1 t.a_ulaw_frames t.fd_ulaw_frames ["p"] (sp_ulaw_frames K t) := by
  refine T.F_ulaw_frames.okX sc_ulaw_frames len_ulaw_frames (fun cdv A outer s H vs Q E hr h => ?_)
  have nd := sc_ulaw_frames.nd
  refine ⟨_, (pss_cons (ps_set (i := 1) nd rfl (Or.inl rfl) (pe_lst pa_nil))
    (pss_cons (ps_for (passes_of rfl) rfl (pi_range1 (by rfl) T.n_range (pa_cons (pe_op (op_addUK K) (pv 0) (pe_int)) pa_nil)) (pg_name (i := 2) nd rfl (Or.inr rfl))
    (pss_one (ps_set (i := 1) nd rfl (Or.inl rfl) (pe_op (op_addUK K) (pv 1) (pe_lc (own := [("k", 3)]) (g := gName 3) (tt := tYes) rfl nd (pi_range2 (by rfl) T.n_range (pa_cons (pe_op (op_addUK K) (pv 2) (pe_int)) (pa_cons (pe_op (op_addUK K) (pv 0) (pe_int)) pa_nil))) (blkOk_by (N := ["p", "out", "j", "k"]) (sc := defScope s_ulaw_frames) (by decide +kernel)) (fun _ _ _ _ _ => (pg_name (i := 3) nd rfl (Or.inl rfl))) (fun _ _ _ _ _ => pts_nil) (fun _ _ _ _ _ => (pe_tup (pa_cons (pv 2) (pa_cons (pv 3) pa_nil)))))))))
    (pss_one (ps_ret (pv 1))))), ?_⟩
  obtain ⟨ps, x_p, rfl, P0, k, e, hw, hk, he⟩ := h
  unfold w_ulaw_frames at hw
  refine tSeq_j (tAsg_j (tLst_i (tNil_i (new_i (Nat.le_of_ble_eq_true rfl) (fun q1 H2 n3 s4 e5 => ?_)))))
  have r6 : AllR (pTup K (rCons pInt (rOne pInt))) (dels H ps) [] ([] : List (Int × Int)) := .nil
  have l7 : ([] : List (Int × Int)).length ≤ LIM := (Nat.le_of_ble_eq_true rfl)
  have m8 := nin_of n3 P0
  have z9 := Same.free (Same.refl H) n3
  have P10 := dom_up s4 P0
  have T11 := Same.trans (Same.refl H) s4
  have P12 := dom_new e5 P10
  have S13 : Same (dels H ps) (dels H2 (q1 :: ps)) := Sn ps s4 n3
  refine gN (σ' := [some (.int x_p), some (.ref q1), none, none]) rfl (?_)
  obtain ⟨y14, r15, l16, hw⟩ := letO hw r6 l7
  refine tSeq_j (tFor_j (w1 (tCons_i (tOp_i (tVar_i (v := (.int x_p)) rfl (tC_i (rAddU_i (tNil_i (rgW1 hw.1 (?_))))))))))
  refine forR0 (s0 := y14) hw.2 (fun (s220 : (List (Int × Int))) (σ222 : L2.St) (H221 : Hp) => ∃ (j223 : Option V) (q227 : Addr) (us228 : List V), σ222 = [some (.int x_p), some (.ref q227), j223, none] ∧ Same (dels H2 (q1 :: ps)) (dels H221 (q227 :: ps)) ∧ (∀ x ∈ (q227 :: ps), H221 x ≠ none) ∧ Same H H221 ∧ H221 q227 = some (.lst us228) ∧ AllR (pTup K (rCons pInt (rOne pInt))) (dels H221 (q227 :: ps)) us228 s220 ∧ (s220).length ≤ LIM ∧ q227 ∉ ps ∧ H q227 = none ∧ True) ⟨_, q1, [], rfl, (Same.refl _), P12, T11, e5, (AllR.mono S13 r15), l16, m8, z9, trivial⟩ (fun d236 s220 σ222 H221 nx234 hr hw => ?_) (fun s240 σ242 H241 hr hw => ?_)
  · obtain ⟨j223, q227, us228, rfl, S226, P224, T225, e229, r230, l231, m232, z233, _⟩ := hr
    refine gN (σ' := [some (.int x_p), some (.ref q227), some (.int d236), none]) rfl (tAsg_j (tOp_i (tVar_i (v := (.ref q227)) rfl (tLc_i (w2 (tCons_i (tOp_i (tVar_i (v := (.int d236)) rfl (tC_i (rAddU_i (tCons_i (tOp_i (tVar_i (v := (.int x_p)) rfl (tC_i (rAddU_i (tNil_i (rgW2 hw.1 (?_))))))))))))))))))
    refine lcR (pb := (pTup K (rCons pInt (rOne pInt)))) (ps := (q227 :: ps)) hw.2.2 hw.2.1 P224 (fun q254 d255 H257 n259 s260 ⟨acc261, e262⟩ nx264 hw Y265 N266 hY267 hN268 => ?_) (fun q307 H308 acc309 zs310 n311 s312 e313 r314 l315 hw => ?_)
    · have m288 := nin_of n259 P224
      have z289 := Same.free T225 n259
      have P290 := dom_up s260 P224
      have T291 := Same.trans T225 s260
      have e292 := s260 _ _ e229
      have P293 := dom_new e262 P290
      have S294 : Same (dels H221 (q227 :: ps)) (dels H257 (q254 :: q227 :: ps)) := Sn (q227 :: ps) s260 n259
      refine gN (σ' := [some (.int x_p), some (.ref q227), some (.int d236), some (.int d255)]) rfl (wipe_i rfl (tYes_i (Br_t (tTup_i (tCons_i (tVar_i (v := (.int d236)) rfl (tCons_i (tVar_i (v := (.int d255)) rfl (tNil_i (new_i (Nat.le_of_ble_eq_true rfl) (fun q295 H296 n297 s298 e299 => ?_)))))))))))
      have P301 := dom_up s298 P293
      have T302 := Same.trans T291 s298
      have sc303 := Same.trans (Same.refl H257) s298
      have e304 := s298 _ _ e292
      have e305 := s298 _ _ e262
      have S306 : Same (dels H257 (q254 :: q227 :: ps)) (dels H296 (q254 :: q227 :: ps)) := Sd (q254 :: q227 :: ps) s298
      have h300 : (pTup K (rCons pInt (rOne pInt))).rep (dels H296 (q254 :: q227 :: ps)) (.ref q295) (d236, d255) := tupR (dels_at e299 (nin_of n297 P293)) (rowC rfl (rowO rfl))
      exact hY267 (d236, d255) _ _ sc303 h300 hw
    have m316 := nin_of n311 P224
    have z317 := Same.free T225 n311
    have P318 := dom_up s312 P224
    have T319 := Same.trans T225 s312
    have e320 := s312 _ _ e229
    have P321 := dom_new e313 P318
    have S322 : Same (dels H221 (q227 :: ps)) (dels H308 (q307 :: q227 :: ps)) := Sn (q227 :: ps) s312 n311
    have h323 : (pList (pTup K (rCons pInt (rOne pInt)))).rep (dels H308 (q227 :: ps)) (.ref q307) zs310 := oFrzG e313 m316 (ss_skip ss_refl) r314 l315
    have P324 := dom_ss (ss_skip ss_refl) P321
    have S325 : Same (dels H308 (q307 :: q227 :: ps)) (dels H308 (q227 :: ps)) := Ss (ss_skip ss_refl)
    refine catS (p := (pTup K (rCons pInt (rOne pInt)))) (lwO e320 (AllR.mono (S322.trans S325) r230) l231) (lwL Su h323) hw.1 (fun q326 H327 n328 s329 us330 e331 r332 l333 => ?_)
    have m334 := nin_of n328 P324
    have z335 := Same.free T319 n328
    have P336 := dom_up s329 P324
    have T337 := Same.trans T319 s329
    have e338 := s329 _ _ e320
    have P339 := dom_new e331 P336
    have S340 : Same (dels H308 (q227 :: ps)) (dels H327 (q326 :: q227 :: ps)) := Sn (q227 :: ps) s329 n328
    refine gN (σ' := [some (.int x_p), some (.ref q326), some (.int d236), none]) rfl (?_)
    obtain ⟨y341, r342, l343, hw⟩ := letO hw.2 r332 l333
    have P344 := dom_ss (ss_keep (ss_skip ss_refl)) P339
    have S345 : Same (dels H327 (q326 :: q227 :: ps)) (dels H327 (q326 :: ps)) := Ss (ss_keep (ss_skip ss_refl))
    exact nxS_i (s := (y341)) ⟨_, q326, us330, rfl, (S226.trans (S322.trans (S325.trans (S340.trans S345)))), P344, T337, e331, (AllR.mono (S340.trans S345) r342), l343, (nin_ss m334 (ss_skip ss_refl)), z335, trivial⟩ hw
  obtain ⟨j243, q247, us248, rfl, S246, P244, T245, e249, r250, l251, m252, z253, _⟩ := hr
  refine tRet_j (tVar_i (v := (.ref q247)) rfl (?_))
  exact hk _ hw _ _ _ T245 z253 e249 r250 l251
def sp_ulaw_some (K : PySem.W.Frag) (t : Tab) : Sp := fun vs H Q E => ∃ (ps : List Addr) (x_cells : Unit) (x_at : Unit) (x_p : Int) (v_cells : V) (v_at : V), vs = [v_cells, v_at, (.int x_p)] ∧ (∀ x ∈ ps, H x ≠ none) ∧ (pDraw K).rep (dels H ps) v_cells x_cells ∧ pCell.rep (dels H ps) v_at x_at ∧ ∃ (k : ((List Int) × (List (Int × Int))) → Prop) (e : PErr → Prop), w_ulaw_some x_cells x_at x_p k e ∧ (∀ r, k r → RetK ps (pTup K (rCons (pList pInt) (rOne (pList (pTup K (rCons pInt (rOne pInt))))))) H Q r) ∧ (∀ er, er.cls ∈ ([] : List Nat) → e er → ErrK ps t.cl H E er)
theorem len_ulaw_some : ∀ vs H Q E, sp_ulaw_some K t vs H Q E → vs.length = (["cells", "at", "p"] : List Str).length := by
  rintro vs H Q E ⟨_, _, _, _, _, _, rfl, _⟩
  rfl
theorem ok_ulaw_some (T : Txt K mg t) : FnOk P w K mg base (L2.CX P w) 2 t.a_ulaw_some t.fd_ulaw_some ["cells", "at", "p"] (sp_ulaw_some K t) := by
  have G_ulaw_frames := ok_ulaw_frames (P := P) (w := w) (base := base) T
  have G_ulaw_next := ok_ulaw_next (P := P) (w := w) (base := base) T
  refine T.F_ulaw_some.okX sc_ulaw_some len_ulaw_some (fun cdv A outer s H vs Q E hr h => ?_)
  have nd := sc_ulaw_some.nd
  refine ⟨_, (pss_cons (ps_if (pt_cmpR op_lt (pv 2) (pe_int) (by first | exact nomark _ | rfl)) (pss_one (ps_ret (pe_tup (pa_cons (pe_listRg rfl (by rfl) T.n_list (prg_1 (by rfl) T.n_range (pe_op (op_addUK K) (pv 2) (pe_int)))) (pa_cons (pe_callS G_ulaw_frames (hr.mono (by decide)) (by rfl) T.g_ulaw_frames T.F_ulaw_frames.kp T.b_ulaw_frames (fun σ => passAt (takes_of rfl rfl rfl rfl) σ) (pa_cons (pv 2) pa_nil)) pa_nil))))) pss_nil)
    (pss_cons (ps_set (i := 3) nd rfl (Or.inl rfl) (pe_lst (pa_cons (pe_int) (pa_cons (pe_int) (pa_cons (pe_op op_sub (pv 2) (pe_int)) (pa_cons (pv 2) pa_nil))))))
    (pss_cons (ps_set (i := 4) nd rfl (Or.inl rfl) (pe_lst (pa_cons (pe_tup (pa_cons (pe_int) (pa_cons (pv 2) pa_nil))) (pa_cons (pe_tup (pa_cons (pe_int) (pa_cons (pe_int) pa_nil))) (pa_cons (pe_tup (pa_cons (pe_op op_sub (pv 2) (pe_int)) (pa_cons (pv 2) pa_nil))) (pa_cons (pe_tup (pa_cons (pe_int) (pa_cons (pe_op op_sub (pv 2) (pe_int)) pa_nil))) pa_nil))))))
    (pss_cons (ps_for (passes_of rfl) rfl (pi_range1 (by rfl) T.n_range (pa_cons (pe_int) pa_nil)) (pg_name (i := 5) nd rfl (Or.inl rfl))
    (pss_cons (ps_set (i := 6) nd rfl (Or.inl rfl) (pe_callS G_ulaw_next (hr.mono (by decide)) (by rfl) T.g_ulaw_next T.F_ulaw_next.kp T.b_ulaw_next (fun σ => passAt (takes_of rfl rfl rfl rfl) σ) (pa_cons (pv 0) (pa_cons (pv 1) (pa_cons (pv 2) pa_nil)))))
    (pss_cons (ps_expr (pe_bmK K PySem.F.plainAttrs_list PySem.F.slot_list_append PySem.F.type_list_append mt_append (pv 3) (pa_cons (pv 6) pa_nil)))
    (pss_one (ps_expr (pe_bmK K PySem.F.plainAttrs_list PySem.F.slot_list_append PySem.F.type_list_append mt_append (pv 4) (pa_cons (pe_tup (pa_cons (pv 6) (pa_cons (pe_op (op_addUK K) (pe_op (op_addUK K) (pv 6) (pe_int)) (pe_callS G_ulaw_next (hr.mono (by decide)) (by rfl) T.g_ulaw_next T.F_ulaw_next.kp T.b_ulaw_next (fun σ => passAt (takes_of rfl rfl rfl rfl) σ) (pa_cons (pv 0) (pa_cons (pv 1) (pa_cons (pe_op op_sub (pv 2) (pv 6)) pa_nil))))) pa_nil))) pa_nil)))))))
    (pss_one (ps_ret (pe_tup (pa_cons (pv 3) (pa_cons (pv 4) pa_nil))))))))), ?_⟩
  obtain ⟨ps, x_cells, x_at, x_p, v_cells, v_at, rfl, P0, h_cells, h_at, k, e, hw, hk, he⟩ := h
  unfold w_ulaw_some at hw
  refine tSeq_j (tIfS_j (tTest_i (tOp_i (tVar_i (v := (.int x_p)) rfl (tC_i (rI0_i (IsBl_i (?_))))))))
  refine Br_two hw (fun c1 hw => ?_) (fun c1 hw => ?_)
  · refine tRet_j (tTup_i (tCons_i (tLstRg1_i (tOp_i (tVar_i (v := (.int x_p)) rfl (tC_i (rAddU_i (rgS' (W := (dels H ps)) hw.1 (fun q2 H3 n4 s5 us6 e7 r8 l9 => ?_)))))))))
    have m10 := nin_of n4 P0
    have z11 := Same.free (Same.refl H) n4
    have P12 := dom_up s5 P0
    have T13 := Same.trans (Same.refl H) s5
    have P14 := dom_new e7 P12
    have S15 : Same (dels H ps) (dels H3 (q2 :: ps)) := Sn ps s5 n4
    have h16 : (pList pInt).rep (dels H3 ps) (.ref q2) (rangeL (0 : Int) (x_p + (1 : Int))) := oFrzG e7 m10 (ss_skip ss_refl) (AllR.mono S15 r8) l9
    have P17 := dom_ss (ss_skip ss_refl) P14
    have S18 : Same (dels H3 (q2 :: ps)) (dels H3 ps) := Ss (ss_skip ss_refl)
    refine tCons_i (tCallS_i (tCons_i (tVar_i (v := (.int x_p)) rfl (tNil_i (?_)))))
    refine ⟨ps, x_p, rfl, P17, _, _, hw.2, fun r19 hw H20 q22 us23 s21 n24 e25 r26 l27 => ?_, (fun er hc hw => errUp T13 ss_refl (he er (absurd hc (List.not_mem_nil)) hw))⟩
    have m28 := nin_of n24 P17
    have z29 := Same.free T13 n24
    have P30 := dom_up s21 P17
    have T31 := Same.trans T13 s21
    have P32 := dom_new e25 P30
    have S33 : Same (dels H3 ps) (dels H20 (q22 :: ps)) := Sn ps s21 n24
    have h34 : (pList (pTup K (rCons pInt (rOne pInt)))).rep (dels H20 ps) (.ref q22) r19 := oFrzG e25 m28 (ss_skip ss_refl) r26 l27
    have P35 := dom_ss (ss_skip ss_refl) P32
    have S36 : Same (dels H20 (q22 :: ps)) (dels H20 ps) := Ss (ss_skip ss_refl)
    refine tNil_i (new_i (Nat.le_of_ble_eq_true rfl) (fun q37 H38 n39 s40 e41 => ?_))
    have P43 := dom_up s40 P35
    have T44 := Same.trans T31 s40
    have S45 : Same (dels H20 ps) (dels H38 ps) := Sd ps s40
    have h42 : (pTup K (rCons (pList pInt) (rOne (pList (pTup K (rCons pInt (rOne pInt))))))).rep (dels H38 ps) (.ref q37) ((rangeL (0 : Int) (x_p + (1 : Int))), r19) := tupR (dels_at e41 (nin_of n39 P35)) (rowC ((pList pInt).mono (S33.trans (S36.trans S45)) h16) (rowO ((pList (pTup K (rCons pInt (rOne pInt)))).mono S45 h34)))
    exact hk _ hw _ _ T44 h42
  · refine tNext_j (tSeq_j (tAsg_j (tLst_i (tCons_i (tC_i (tCons_i (tC_i (tCons_i (tOp_i (tVar_i (v := (.int x_p)) rfl (tC_i (rI0_i (tCons_i (tVar_i (v := (.int x_p)) rfl (tNil_i (new_i (Nat.le_of_ble_eq_true rfl) (fun q46 H47 n48 s49 e50 => ?_)))))))))))))))))
    have r51 : AllR pInt (dels H ps) [(.int (0 : Int)), (.int (1 : Int)), (.int (x_p - (1 : Int))), (.int x_p)] ([(0 : Int), (1 : Int), (x_p - (1 : Int)), x_p] : List Int) := (.cons rfl (.cons rfl (.cons rfl (.cons rfl .nil))))
    have l52 : ([(0 : Int), (1 : Int), (x_p - (1 : Int)), x_p] : List Int).length ≤ LIM := (Nat.le_of_ble_eq_true rfl)
    have m53 := nin_of n48 P0
    have z54 := Same.free (Same.refl H) n48
    have P55 := dom_up s49 P0
    have T56 := Same.trans (Same.refl H) s49
    have P57 := dom_new e50 P55
    have S58 : Same (dels H ps) (dels H47 (q46 :: ps)) := Sn ps s49 n48
    refine gN (σ' := [some v_cells, some v_at, some (.int x_p), some (.ref q46), none, none, none]) rfl (?_)
    obtain ⟨y59, r60, l61, hw⟩ := letO hw r51 l52
    refine tSeq_j (tAsg_j (tLst_i (tCons_i (tTup_i (tCons_i (tC_i (tCons_i (tVar_i (v := (.int x_p)) rfl (tNil_i (new_i (Nat.le_of_ble_eq_true rfl) (fun q62 H63 n64 s65 e66 => ?_)))))))))))
    have P68 := dom_up s65 P57
    have T69 := Same.trans T56 s65
    have e70 := s65 _ _ e50
    have S71 : Same (dels H47 (q46 :: ps)) (dels H63 (q46 :: ps)) := Sd (q46 :: ps) s65
    have h67 : (pTup K (rCons pInt (rOne pInt))).rep (dels H63 (q46 :: ps)) (.ref q62) ((0 : Int), x_p) := tupR (dels_at e66 (nin_of n64 P57)) (rowC rfl (rowO rfl))
    refine tCons_i (tTup_i (tCons_i (tC_i (tCons_i (tC_i (tNil_i (new_i (Nat.le_of_ble_eq_true rfl) (fun q72 H73 n74 s75 e76 => ?_))))))))
    have P78 := dom_up s75 P68
    have T79 := Same.trans T69 s75
    have e80 := s75 _ _ e70
    have S81 : Same (dels H63 (q46 :: ps)) (dels H73 (q46 :: ps)) := Sd (q46 :: ps) s75
    have h77 : (pTup K (rCons pInt (rOne pInt))).rep (dels H73 (q46 :: ps)) (.ref q72) ((0 : Int), (1 : Int)) := tupR (dels_at e76 (nin_of n74 P68)) (rowC rfl (rowO rfl))
    refine tCons_i (tTup_i (tCons_i (tOp_i (tVar_i (v := (.int x_p)) rfl (tC_i (rI0_i (tCons_i (tVar_i (v := (.int x_p)) rfl (tNil_i (new_i (Nat.le_of_ble_eq_true rfl) (fun q82 H83 n84 s85 e86 => ?_)))))))))))
    have P88 := dom_up s85 P78
    have T89 := Same.trans T79 s85
    have e90 := s85 _ _ e80
    have S91 : Same (dels H73 (q46 :: ps)) (dels H83 (q46 :: ps)) := Sd (q46 :: ps) s85
    have h87 : (pTup K (rCons pInt (rOne pInt))).rep (dels H83 (q46 :: ps)) (.ref q82) ((x_p - (1 : Int)), x_p) := tupR (dels_at e86 (nin_of n84 P78)) (rowC rfl (rowO rfl))
    refine tCons_i (tTup_i (tCons_i (tC_i (tCons_i (tOp_i (tVar_i (v := (.int x_p)) rfl (tC_i (rI0_i (tNil_i (new_i (Nat.le_of_ble_eq_true rfl) (fun q92 H93 n94 s95 e96 => ?_)))))))))))
    have P98 := dom_up s95 P88
    have T99 := Same.trans T89 s95
    have e100 := s95 _ _ e90
    have S101 : Same (dels H83 (q46 :: ps)) (dels H93 (q46 :: ps)) := Sd (q46 :: ps) s95
    have h97 : (pTup K (rCons pInt (rOne pInt))).rep (dels H93 (q46 :: ps)) (.ref q92) ((1 : Int), (x_p - (1 : Int))) := tupR (dels_at e96 (nin_of n94 P88)) (rowC rfl (rowO rfl))
    refine tNil_i (new_i (Nat.le_of_ble_eq_true rfl) (fun q102 H103 n104 s105 e106 => ?_))
    have r107 : AllR (pTup K (rCons pInt (rOne pInt))) (dels H93 (q46 :: ps)) [(.ref q62), (.ref q72), (.ref q82), (.ref q92)] ([((0 : Int), x_p), ((0 : Int), (1 : Int)), ((x_p - (1 : Int)), x_p), ((1 : Int), (x_p - (1 : Int)))] : List (Int × Int)) := (.cons ((pTup K (rCons pInt (rOne pInt))).mono (S81.trans (S91.trans S101)) h67) (.cons ((pTup K (rCons pInt (rOne pInt))).mono (S91.trans S101) h77) (.cons ((pTup K (rCons pInt (rOne pInt))).mono S101 h87) (.cons h97 .nil))))
    have l108 : ([((0 : Int), x_p), ((0 : Int), (1 : Int)), ((x_p - (1 : Int)), x_p), ((1 : Int), (x_p - (1 : Int)))] : List (Int × Int)).length ≤ LIM := (Nat.le_of_ble_eq_true rfl)
    have m109 := nin_of n104 P98
    have z110 := Same.free T99 n104
    have P111 := dom_up s105 P98
    have T112 := Same.trans T99 s105
    have e113 := s105 _ _ e100
    have P114 := dom_new e106 P111
    have S115 : Same (dels H93 (q46 :: ps)) (dels H103 (q102 :: q46 :: ps)) := Sn (q46 :: ps) s105 n104
    refine gN (σ' := [some v_cells, some v_at, some (.int x_p), some (.ref q46), some (.ref q102), none, none]) rfl (?_)
    obtain ⟨y116, r117, l118, hw⟩ := letO hw r107 l108
    refine tSeq_j (tFor_j (w1 (tCons_i (tC_i (tNil_i (rgW1 hw.1 (?_)))))))
    refine forR0 (s0 := (y59, y116)) hw.2 (fun (s249 : (List Int) × (List (Int × Int))) (σ251 : L2.St) (H250 : Hp) => ∃ (j252 : Option V) (j253 : Option V) (us257 : List V) (us261 : List V), σ251 = [some v_cells, some v_at, some (.int x_p), some (.ref q46), some (.ref q102), j252, j253] ∧ Same (dels H103 (q102 :: q46 :: ps)) (dels H250 (q102 :: q46 :: ps)) ∧ (∀ x ∈ (q102 :: q46 :: ps), H250 x ≠ none) ∧ Same H H250 ∧ H250 q46 = some (.lst us257) ∧ AllR pInt (dels H250 (q102 :: q46 :: ps)) us257 s249.1 ∧ (s249.1).length ≤ LIM ∧ H250 q102 = some (.lst us261) ∧ AllR (pTup K (rCons pInt (rOne pInt))) (dels H250 (q102 :: q46 :: ps)) us261 s249.2 ∧ (s249.2).length ≤ LIM ∧ True) ⟨_, _, [(.int (0 : Int)), (.int (1 : Int)), (.int (x_p - (1 : Int))), (.int x_p)], [(.ref q62), (.ref q72), (.ref q82), (.ref q92)], rfl, (Same.refl _), P114, T112, e113, (AllR.mono (S58.trans (S71.trans (S81.trans (S91.trans (S101.trans S115))))) r60), l61, e106, (AllR.mono S115 r117), l118, trivial⟩ (fun d267 s249 σ251 H250 nx265 hr hw => ?_) (fun s271 σ273 H272 hr hw => ?_)
    · obtain ⟨j252, j253, us257, us261, rfl, S256, P254, T255, e258, r259, l260, e262, r263, l264, _⟩ := hr
      refine gN (σ' := [some v_cells, some v_at, some (.int x_p), some (.ref q46), some (.ref q102), some (.int d267), j253]) rfl (tSeq_j (tAsg_j (tCallS_i (tCons_i (tVar_i (v := v_cells) rfl (tCons_i (tVar_i (v := v_at) rfl (tCons_i (tVar_i (v := (.int x_p)) rfl (tNil_i (?_)))))))))))
      refine ⟨(q102 :: q46 :: ps), x_cells, x_at, x_p, v_cells, v_at, rfl, P254, ((pDraw K).mono (S58.trans (S71.trans (S81.trans (S91.trans (S101.trans (S115.trans S256)))))) h_cells), (pCell.mono (S58.trans (S71.trans (S81.trans (S91.trans (S101.trans (S115.trans S256)))))) h_at), _, _, hw, fun r287 hw H288 s289 => ?_, (fun er hc hw => errUp T255 (ss_skip (ss_skip ss_refl)) (he er (absurd hc (List.not_mem_nil)) hw))⟩
      have P290 := dom_up s289 P254
      have T291 := Same.trans T255 s289
      have e292 := s289 _ _ e258
      have e293 := s289 _ _ e262
      have S294 : Same (dels H250 (q102 :: q46 :: ps)) (dels H288 (q102 :: q46 :: ps)) := Sd (q102 :: q46 :: ps) s289
      refine gN (σ' := [some v_cells, some v_at, some (.int x_p), some (.ref q46), some (.ref q102), some (.int d267), some (.int r287)]) rfl (tSeq_j (tDrop_j (tBM_i (tVar_i (v := (.ref q46)) rfl (tyL (SqL.of e292) (tCons_i (tVar_i (v := (.int r287)) rfl (tNil_i (appO (p := pInt) (d := r287) e292 (AllR.mono S294 r259) hw.1 rfl (fun H295 f296 us297 e298 r299 l300 => ?_))))))))))
      have e301 := Off.at f296 e293 (Ne.symm (ne_nin m109 (List.mem_cons_self ..)))
      have P302 := dom_off f296 e298 P290
      have T303 := st_off T291 f296 z54
      have S304 : Same (dels H288 (q102 :: q46 :: ps)) (dels H295 (q102 :: q46 :: ps)) := So (List.mem_cons_of_mem _ (List.mem_cons_self ..)) f296
      obtain ⟨y305, r306, l307, hw⟩ := letO hw.2 r299 l300
      refine tDrop_j (tBM_i (tVar_i (v := (.ref q102)) rfl (tyL (SqL.of e301) (tCons_i (tTup_i (tCons_i (tVar_i (v := (.int r287)) rfl (tCons_i (tOp_i (tOp_i (tVar_i (v := (.int r287)) rfl (tC_i (rAddU_i (tCallS_i (tCons_i (tVar_i (v := v_cells) rfl (tCons_i (tVar_i (v := v_at) rfl (tCons_i (tOp_i (tVar_i (v := (.int x_p)) rfl (tVar_i (v := (.int r287)) rfl (rI0_i (tNil_i (?_)))))))))))))))))))))))))
      refine ⟨(q102 :: q46 :: ps), x_cells, x_at, (x_p - r287), v_cells, v_at, rfl, P302, ((pDraw K).mono (S58.trans (S71.trans (S81.trans (S91.trans (S101.trans (S115.trans (S256.trans (S294.trans S304)))))))) h_cells), (pCell.mono (S58.trans (S71.trans (S81.trans (S91.trans (S101.trans (S115.trans (S256.trans (S294.trans S304)))))))) h_at), _, _, hw, fun r308 hw H309 s310 => ?_, (fun er hc hw => errUp T303 (ss_skip (ss_skip ss_refl)) (he er (absurd hc (List.not_mem_nil)) hw))⟩
      have P311 := dom_up s310 P302
      have T312 := Same.trans T303 s310
      have e313 := s310 _ _ e298
      have e314 := s310 _ _ e301
      have S315 : Same (dels H295 (q102 :: q46 :: ps)) (dels H309 (q102 :: q46 :: ps)) := Sd (q102 :: q46 :: ps) s310
      refine rAddU_i (tNil_i (new_i (Nat.le_of_ble_eq_true rfl) (fun q316 H317 n318 s319 e320 => ?_)))
      have P322 := dom_up s319 P311
      have T323 := Same.trans T312 s319
      have e324 := s319 _ _ e313
      have e325 := s319 _ _ e314
      have S326 : Same (dels H309 (q102 :: q46 :: ps)) (dels H317 (q102 :: q46 :: ps)) := Sd (q102 :: q46 :: ps) s319
      have h321 : (pTup K (rCons pInt (rOne pInt))).rep (dels H317 (q102 :: q46 :: ps)) (.ref q316) (r287, ((r287 + (1 : Int)) + r308)) := tupR (dels_at e320 (nin_of n318 P311)) (rowC rfl (rowO rfl))
      refine tNil_i (appO (p := (pTup K (rCons pInt (rOne pInt)))) (d := (r287, ((r287 + (1 : Int)) + r308))) e325 (AllR.mono (S294.trans (S304.trans (S315.trans S326))) r263) hw.1 h321 (fun H327 f328 us329 e330 r331 l332 => ?_))
      have e333 := Off.at f328 e324 (ne_nin m109 (List.mem_cons_self ..))
      have P334 := dom_off f328 e330 P322
      have T335 := st_off T323 f328 z110
      have S336 : Same (dels H317 (q102 :: q46 :: ps)) (dels H327 (q102 :: q46 :: ps)) := So (List.mem_cons_self ..) f328
      obtain ⟨y337, r338, l339, hw⟩ := letO hw.2 r331 l332
      exact nxS_i (s := ((y305, y337))) ⟨_, _, us297, us329, rfl, (S256.trans (S294.trans (S304.trans (S315.trans (S326.trans S336))))), P334, T335, e333, (AllR.mono (S304.trans (S315.trans (S326.trans S336))) r306), l307, e330, (AllR.mono S336 r338), l339, trivial⟩ hw
    obtain ⟨j274, j275, us279, us283, rfl, S278, P276, T277, e280, r281, l282, e284, r285, l286, _⟩ := hr
    refine tRet_j (tTup_i (tCons_i (tVar_i (v := (.ref q46)) rfl (tCons_i (tVar_i (v := (.ref q102)) rfl (tNil_i (?_)))))))
    have h340 : (pList pInt).rep (dels H272 (q102 :: ps)) (.ref q46) s271.1 := oFrzG e280 (nin1 (ne_nin m109 (List.mem_cons_self ..)) m53) (ss_keep (ss_skip ss_refl)) r281 l282
    have P341 := dom_ss (ss_keep (ss_skip ss_refl)) P276
    have S342 : Same (dels H272 (q102 :: q46 :: ps)) (dels H272 (q102 :: ps)) := Ss (ss_keep (ss_skip ss_refl))
    have h343 : (pList (pTup K (rCons pInt (rOne pInt)))).rep (dels H272 ps) (.ref q102) s271.2 := oFrzG e284 (nin_ss m109 (ss_skip ss_refl)) (ss_skip ss_refl) (AllR.mono S342 r285) l286
    have P344 := dom_ss (ss_skip ss_refl) P341
    have S345 : Same (dels H272 (q102 :: ps)) (dels H272 ps) := Ss (ss_skip ss_refl)
    refine new_i (Nat.le_of_ble_eq_true rfl) (fun q346 H347 n348 s349 e350 => ?_)
    have P352 := dom_up s349 P344
    have T353 := Same.trans T277 s349
    have S354 : Same (dels H272 ps) (dels H347 ps) := Sd ps s349
    have h351 : (pTup K (rCons (pList pInt) (rOne (pList (pTup K (rCons pInt (rOne pInt))))))).rep (dels H347 ps) (.ref q346) (s271.1, s271.2) := tupR (dels_at e350 (nin_of n348 P344)) (rowC ((pList pInt).mono (S345.trans S354) h340) (rowO ((pList (pTup K (rCons pInt (rOne pInt)))).mono S354 h343)))
    exact hk _ hw _ _ T353 h351
def sp_look_number (K : PySem.W.Frag) (t : Tab) : Sp := fun vs H Q E => ∃ (ps : List Addr) (x_number : Int) (x_low : Int) (x_high : Int), vs = [(.int x_number), (.int x_low), (.int x_high)] ∧ (∀ x ∈ ps, H x ≠ none) ∧ ∃ (k : Unit → Prop) (e : PErr → Prop), w_look_number x_number x_low x_high k e ∧ (∀ r, k r → RetI (fun _ => V.non) H Q r) ∧ (∀ er, er.cls ∈ ([2] : List Nat) → e er → ErrK ps t.cl H E er)
theorem len_look_number : ∀ vs H Q E, sp_look_number K t vs H Q E → vs.length = (["number", "low", "high"] : List Str).length := by
  rintro vs H Q E ⟨_, _, _, _, rfl, _⟩
  rfl
theorem ok_look_number (T : Txt K mg t) : FnOk P w K mg base (L2.CX P w) 3 t.a_look_number t.fd_look_number ["number", "low", "high"] (sp_look_number K t) := by
  have G_NumberError_init := ok_NumberError_init (P := P) (w := w) (base := base) T
  refine T.F_look_number.okX sc_look_number len_look_number (fun cdv A outer s H vs Q E hr h => ?_)
  have nd := sc_look_number.nd
  refine ⟨_, (pss_one (ps_if (PW.pt (pw_or (pt_cmpR op_lt (pv 0) (pv 1) (by first | exact nomark _ | rfl)) (pw_or1 (pt_cmpR op_gt (pv 0) (pv 2) (by first | exact nomark _ | rfl))))) (pss_one (ps_raise rfl (takes_of rfl rfl rfl rfl) (pmk_oex T.x_NumberError T.xi_NumberError T.xt_NumberError G_NumberError_init (hr.mono (by decide)) T.b_NumberError_init .nil passLF (by rfl) T.g_NumberError (pa_cons (pv 0) pa_nil)))) pss_nil)), ?_⟩
  obtain ⟨ps, x_number, x_low, x_high, rfl, P0, k, e, hw, hk, he⟩ := h
  unfold w_look_number at hw
  refine tIfS_j (tOrP (b := (decide (x_number < x_low))) (c := (decide (x_number > x_high))) (fun R hR => tTest_i (tOp_i (tVar_i (v := (.int x_number)) rfl (tVar_i (v := (.int x_low)) rfl (rI0_i (IsBl_i (hR))))))) (fun g2 R hR => tTest_i (tOp_i (tVar_i (v := (.int x_number)) rfl (tVar_i (v := (.int x_high)) rfl (rI0_i (IsBl_i (hR))))))) (?_))
  refine Br_two hw (fun c3 hw => ?_) (fun c3 hw => ?_)
  · refine tMkO_i (tCons_i (tVar_i (v := (.int x_number)) rfl (tNil_i (?_))))
    exact mkO1n T.x_NumberError T.xn_NumberError_number (raiseK (he _ (by simp) hw) (Same.refl H) P0)
  · refine tNext_j (?_)
    exact hk _ hw _ (Same.refl H)
def sp_point_vector (K : PySem.W.Frag) (t : Tab) : Sp := fun vs H Q E => ∃ (ps : List Addr) (x_prime : Int) (x_point : Int), vs = [(.int x_prime), (.int x_point)] ∧ (∀ x ∈ ps, H x ≠ none) ∧ ∃ (k : (Int × Int) → Prop) (e : PErr → Prop), w_point_vector x_prime x_point k e ∧ (∀ r, k r → RetK ps (pTup K (rCons pInt (rOne pInt))) H Q r) ∧ (∀ er, er.cls ∈ ([2] : List Nat) → e er → ErrK ps t.cl H E er)
theorem len_point_vector : ∀ vs H Q E, sp_point_vector K t vs H Q E → vs.length = (["prime", "point"] : List Str).length := by
  rintro vs H Q E ⟨_, _, _, rfl, _⟩
  rfl
theorem ok_point_vector (T : Txt K mg t) : FnOk P w K mg base (L2.CX P w) 6 t.a_point_vector t.fd_point_vector ["prime", "point"] (sp_point_vector K t) := by
  have G_look_prime := ok_look_prime (P := P) (w := w) (base := base) T
  have G_look_number := ok_look_number (P := P) (w := w) (base := base) T
  refine T.F_point_vector.okX sc_point_vector len_point_vector (fun cdv A outer s H vs Q E hr h => ?_)
  have nd := sc_point_vector.nd
  refine ⟨_, (pss_cons (ps_expr (pe_callS G_look_prime (hr.mono (by decide)) (by rfl) T.g_look_prime T.F_look_prime.kp T.b_look_prime (fun σ => passAt (takes_of rfl rfl rfl rfl) σ) (pa_cons (pv 0) pa_nil)))
    (pss_cons (ps_expr (pe_callS G_look_number (hr.mono (by decide)) (by rfl) T.g_look_number T.F_look_number.kp T.b_look_number (fun σ => passAt (takes_of rfl rfl rfl rfl) σ) (pa_cons (pv 1) (pa_cons (pe_int) (pa_cons (pv 0) pa_nil)))))
    (pss_cons (ps_if (pt_cmpR (op_eqUK K hr) (pv 1) (pv 0) (by first | exact nomark _ | rfl)) (pss_one (ps_ret (pe_tup (pa_cons (pe_int) (pa_cons (pe_int) pa_nil))))) pss_nil)
    (pss_one (ps_ret (pe_tup (pa_cons (pe_int) (pa_cons (pv 1) pa_nil)))))))), ?_⟩
  obtain ⟨ps, x_prime, x_point, rfl, P0, k, e, hw, hk, he⟩ := h
  unfold w_point_vector at hw
  refine tSeq_j (tDrop_j (tCallS_i (tCons_i (tVar_i (v := (.int x_prime)) rfl (tNil_i (?_))))))
  refine ⟨ps, x_prime, rfl, P0, _, _, hw, fun r1 hw H2 s3 => ?_, (fun er hc hw => errUp (Same.refl H) ss_refl (he er (by simp only [List.mem_cons, List.not_mem_nil, or_false] at hc ⊢; omega) hw))⟩
  have P4 := dom_up s3 P0
  have T5 := Same.trans (Same.refl H) s3
  have S6 : Same (dels H ps) (dels H2 ps) := Sd ps s3
  refine tSeq_j (tDrop_j (tCallS_i (tCons_i (tVar_i (v := (.int x_point)) rfl (tCons_i (tC_i (tCons_i (tVar_i (v := (.int x_prime)) rfl (tNil_i (?_))))))))))
  refine ⟨ps, x_point, (0 : Int), x_prime, rfl, P4, _, _, hw, fun r7 hw H8 s9 => ?_, (fun er hc hw => errUp T5 ss_refl (he er (by simp only [List.mem_cons, List.not_mem_nil, or_false] at hc ⊢; omega) hw))⟩
  have P10 := dom_up s9 P4
  have T11 := Same.trans T5 s9
  have S12 : Same (dels H2 ps) (dels H8 ps) := Sd ps s9
  refine tSeq_j (tIfS_j (tTest_i (tOp_i (tVar_i (v := (.int x_point)) rfl (tVar_i (v := (.int x_prime)) rfl (rEqU_i (IsBl_i (?_))))))))
  refine Br_two hw (fun c13 hw => ?_) (fun c13 hw => ?_)
  · refine tRet_j (tTup_i (tCons_i (tC_i (tCons_i (tC_i (tNil_i (new_i (Nat.le_of_ble_eq_true rfl) (fun q14 H15 n16 s17 e18 => ?_))))))))
    have P20 := dom_up s17 P10
    have T21 := Same.trans T11 s17
    have S22 : Same (dels H8 ps) (dels H15 ps) := Sd ps s17
    have h19 : (pTup K (rCons pInt (rOne pInt))).rep (dels H15 ps) (.ref q14) ((0 : Int), (1 : Int)) := tupR (dels_at e18 (nin_of n16 P10)) (rowC rfl (rowO rfl))
    exact hk _ hw _ _ T21 h19
  · refine tNext_j (tRet_j (tTup_i (tCons_i (tC_i (tCons_i (tVar_i (v := (.int x_point)) rfl (tNil_i (new_i (Nat.le_of_ble_eq_true rfl) (fun q23 H24 n25 s26 e27 => ?_)))))))))
    have P29 := dom_up s26 P10
    have T30 := Same.trans T11 s26
    have S31 : Same (dels H8 ps) (dels H24 ps) := Sd ps s26
    have h28 : (pTup K (rCons pInt (rOne pInt))).rep (dels H24 ps) (.ref q23) ((1 : Int), x_point) := tupR (dels_at e27 (nin_of n25 P10)) (rowC rfl (rowO rfl))
    exact hk _ hw _ _ T30 h28
def sp_check_prime (K : PySem.W.Frag) (t : Tab) : Sp := fun vs H Q E => ∃ (ps : List Addr) (x_prime : Int), vs = [(.int x_prime)] ∧ (∀ x ∈ ps, H x ≠ none) ∧ ∃ (k : Unit → Prop) (e : PErr → Prop), w_check_prime x_prime k e ∧ (∀ r, k r → RetI (fun _ => V.non) H Q r) ∧ (∀ er, er.cls ∈ ([2] : List Nat) → e er → ErrK ps t.cl H E er)
theorem len_check_prime : ∀ vs H Q E, sp_check_prime K t vs H Q E → vs.length = (["prime"] : List Str).length := by
  rintro vs H Q E ⟨_, _, rfl, _⟩
  rfl
theorem ok_check_prime (T : Txt K mg t) : FnOk P w K mg base (L2.CX P w) 5 t.a_check_prime t.fd_check_prime ["prime"] (sp_check_prime K t) := by
  have G_is_odd_prime := ok_is_odd_prime (P := P) (w := w) (base := base) T
  have G_NumberError_init := ok_NumberError_init (P := P) (w := w) (base := base) T
  refine T.F_check_prime.okX sc_check_prime len_check_prime (fun cdv A outer s H vs Q E hr h => ?_)
  have nd := sc_check_prime.nd
  refine ⟨_, (pss_one (ps_if (pt_not (pt_truthK K (pe_callS G_is_odd_prime (hr.mono (by decide)) (by rfl) T.g_is_odd_prime T.F_is_odd_prime.kp T.b_is_odd_prime (fun σ => passAt (takes_of rfl rfl rfl rfl) σ) (pa_cons (pv 0) pa_nil)))) (pss_one (ps_raise rfl (takes_of rfl rfl rfl rfl) (pmk_oex T.x_NumberError T.xi_NumberError T.xt_NumberError G_NumberError_init (hr.mono (by decide)) T.b_NumberError_init .nil passLF (by rfl) T.g_NumberError (pa_cons (pv 0) pa_nil)))) pss_nil)), ?_⟩
  obtain ⟨ps, x_prime, rfl, P0, k, e, hw, hk, he⟩ := h
  unfold w_check_prime at hw
  refine tIfS_j (tNot_i (tTruth_i (tCallS_i (tCons_i (tVar_i (v := (.int x_prime)) rfl (tNil_i (?_)))))))
  refine ⟨ps, x_prime, rfl, P0, _, _, hw, fun r1 hw H2 s3 => ?_, (fun er hc hw => errUp (Same.refl H) ss_refl (he er (by simp only [List.mem_cons, List.not_mem_nil, or_false] at hc ⊢; omega) hw))⟩
  have P4 := dom_up s3 P0
  have T5 := Same.trans (Same.refl H) s3
  have S6 : Same (dels H ps) (dels H2 ps) := Sd ps s3
  refine Tru_b (?_)
  refine Br_two hw (fun c7 hw => ?_) (fun c7 hw => ?_)
  · refine tMkO_i (tCons_i (tVar_i (v := (.int x_prime)) rfl (tNil_i (?_))))
    exact mkO1n T.x_NumberError T.xn_NumberError_number (raiseK (he _ (by simp) hw) T5 P4)
  · refine tNext_j (?_)
    exact hk _ hw _ T5
def sp_inverse (K : PySem.W.Frag) (t : Tab) : Sp := fun vs H Q E => ∃ (ps : List Addr) (x_prime : Int) (x_number : Int), vs = [(.int x_prime), (.int x_number)] ∧ (∀ x ∈ ps, H x ≠ none) ∧ ∃ (k : Int → Prop) (e : PErr → Prop), w_inverse x_prime x_number k e ∧ (∀ r, k r → RetI V.int H Q r) ∧ (∀ er, er.cls ∈ ([2] : List Nat) → e er → ErrK ps t.cl H E er)
theorem len_inverse : ∀ vs H Q E, sp_inverse K t vs H Q E → vs.length = (["prime", "number"] : List Str).length := by
  rintro vs H Q E ⟨_, _, _, rfl, _⟩
  rfl
theorem ok_inverse (T : Txt K mg t) : FnOk P w K mg base (L2.CX P w) 6 t.a_inverse t.fd_inverse ["prime", "number"] (sp_inverse K t) := by
  have G_check_prime := ok_check_prime (P := P) (w := w) (base := base) T
  have G_check_number := ok_check_number (P := P) (w := w) (base := base) T
  refine T.F_inverse.okX sc_inverse len_inverse (fun cdv A outer s H vs Q E hr h => ?_)
  have nd := sc_inverse.nd
  refine ⟨_, (pss_cons (ps_expr (pe_callS G_check_prime (hr.mono (by decide)) (by rfl) T.g_check_prime T.F_check_prime.kp T.b_check_prime (fun σ => passAt (takes_of rfl rfl rfl rfl) σ) (pa_cons (pv 0) pa_nil)))
    (pss_cons (ps_expr (pe_callS G_check_number (hr.mono (by decide)) (by rfl) T.g_check_number T.F_check_number.kp T.b_check_number (fun σ => passAt (takes_of rfl rfl rfl rfl) σ) (pa_cons (pv 1) (pa_cons (pe_int) (pa_cons (pe_op op_sub (pv 0) (pe_int)) pa_nil)))))
    (pss_cons (ps_par (i := 2) (j := 3) rfl nd rfl rfl (by decide) rfl rfl (pa_cons (pv 1) (pa_cons (pv 0) pa_nil)) (by rfl))
    (pss_cons (ps_asg (pe_tup (pa_cons (pe_int) (pa_cons (pe_int) pa_nil))) (pg_tupK K 2 rfl (pgs_cons (pg_name (i := 4) nd rfl (Or.inl rfl)) (pgs_cons (pg_name (i := 5) nd rfl (Or.inl rfl)) pgs_nil))))
    (pss_cons (ps_while (passes_of rfl) (pt_cmpR op_gt (pv 2) (pe_int) (by first | exact nomark _ | rfl)) (pss_cons (ps_set (i := 6) nd rfl (Or.inl rfl) (pe_op op_fdivP (pv 3) (pv 2)))
    (pss_cons (ps_par (i := 2) (j := 3) rfl nd rfl rfl (by decide) rfl rfl (pa_cons (pe_op op_sub (pv 3) (pe_op op_mulU (pv 6) (pv 2))) (pa_cons (pv 2) pa_nil)) (by rfl))
    (pss_one (ps_par (i := 4) (j := 5) rfl nd rfl rfl (by decide) rfl rfl (pa_cons (pe_op op_sub (pv 5) (pe_op op_mulU (pv 6) (pv 4))) (pa_cons (pv 4) pa_nil)) (by rfl))))))
    (pss_one (ps_ret (pe_op op_modP (pv 4) (pv 0))))))))), ?_⟩
  obtain ⟨ps, x_prime, x_number, rfl, P0, k, e, hw, hk, he⟩ := h
  unfold w_inverse at hw
  refine tSeq_j (tDrop_j (tCallS_i (tCons_i (tVar_i (v := (.int x_prime)) rfl (tNil_i (?_))))))
  refine ⟨ps, x_prime, rfl, P0, _, _, hw, fun r1 hw H2 s3 => ?_, (fun er hc hw => errUp (Same.refl H) ss_refl (he er (by simp only [List.mem_cons, List.not_mem_nil, or_false] at hc ⊢; omega) hw))⟩
  have P4 := dom_up s3 P0
  have T5 := Same.trans (Same.refl H) s3
  have S6 : Same (dels H ps) (dels H2 ps) := Sd ps s3
  refine tSeq_j (tDrop_j (tCallS_i (tCons_i (tVar_i (v := (.int x_number)) rfl (tCons_i (tC_i (tCons_i (tOp_i (tVar_i (v := (.int x_prime)) rfl (tC_i (rI0_i (tNil_i (?_)))))))))))))
  refine ⟨ps, x_number, (1 : Int), (x_prime - (1 : Int)), rfl, P4, _, _, hw, fun r7 hw H8 s9 => ?_, (fun er hc hw => errUp T5 ss_refl (he er (by simp only [List.mem_cons, List.not_mem_nil, or_false] at hc ⊢; omega) hw))⟩
  have P10 := dom_up s9 P4
  have T11 := Same.trans T5 s9
  have S12 : Same (dels H2 ps) (dels H8 ps) := Sd ps s9
  refine tSeq_j (tParL (tCons_i (tVar_i (v := (.int x_number)) rfl (tCons_i (tVar_i (v := (.int x_prime)) rfl (tNil_i (Par2_i (setP (σ' := [some (.int x_prime), some (.int x_number), some (.int x_number), some (.int x_prime), none, none, none]) rfl (tSeq_j (tAsg_j (tTup_i (tCons_i (tC_i (tCons_i (tC_i (tNil_i (new_i (Nat.le_of_ble_eq_true rfl) (fun q13 H14 n15 s16 e17 => ?_))))))))))))))))))
  have P19 := dom_up s16 P10
  have T20 := Same.trans T11 s16
  have S21 : Same (dels H8 ps) (dels H14 ps) := Sd ps s16
  have h18 : (pTup K (rCons pInt (rOne pInt))).rep (dels H14 ps) (.ref q13) ((1 : Int), (0 : Int)) := tupR (dels_at e17 (nin_of n15 P10)) (rowC rfl (rowO rfl))
  refine gTupS h18 Su (fun vs22 hv23 => ?_)
  obtain ⟨ws25, rfl, hv24⟩ := rowCi hv23
  obtain rfl := rowOi hv24
  refine ⟨rfl, ?_⟩
  refine gCons_i (gN (σ' := [some (.int x_prime), some (.int x_number), some (.int x_number), some (.int x_prime), some (.int ((1 : Int), (0 : Int)).1), none, none]) rfl (gCons_i (gN (σ' := [some (.int x_prime), some (.int x_number), some (.int x_number), some (.int x_prime), some (.int ((1 : Int), (0 : Int)).1), some (.int ((1 : Int), (0 : Int)).2), none]) rfl (gNil_i (tSeq_j (?_))))))
  refine whileW (s0 := ((x_number, x_prime, ((1 : Int), (0 : Int)).1, ((1 : Int), (0 : Int)).2))) hw (fun (s37 : Int × Int × Int × Int) (σ39 : L2.St) (H38 : Hp) => ∃ (j40 : Option V), σ39 = [some (.int x_prime), some (.int x_number), some (.int s37.1), some (.int s37.2.1), some (.int s37.2.2.1), some (.int s37.2.2.2), j40] ∧ Same (dels H14 ps) (dels H38 ps) ∧ (∀ x ∈ ps, H38 x ≠ none) ∧ Same H H38 ∧ True) ⟨_, rfl, (Same.refl _), P19, T20, trivial⟩ (fun s37 σ39 H38 nx44 WB46 hr hw hWB47 => ?_)
  obtain ⟨j40, rfl, S43, P41, T42, _⟩ := hr
  refine tTest_i (tOp_i (tVar_i (v := (.int s37.1)) rfl (tC_i (rI0_i (IsBl_i (?_))))))
  refine Br_two hw (fun c48 hw => hWB47 _ _ ?_) (fun c48 hw => ?_)
  · refine tSeq_j (tAsg_j (tOp_i (tVar_i (v := (.int s37.2.1)) rfl (tVar_i (v := (.int s37.1)) rfl (rDivP_i hw.1 (?_))))))
    refine asgIL (f := V.int) (e := (s37.2.1 / s37.1)) (g := fun y49 => [some (.int x_prime), some (.int x_number), some (.int s37.1), some (.int s37.2.1), some (.int s37.2.2.1), some (.int s37.2.2.2), some (.int y49)]) hw.2 (fun _ => rfl) (fun y49 hw => ?_)
    refine tSeq_j (tParL (tCons_i (tOp_i (tVar_i (v := (.int s37.2.1)) rfl (tOp_i (tVar_i (v := (.int y49)) rfl (tVar_i (v := (.int s37.1)) rfl (rMulU_i hw.1 (rI0_i (tCons_i (tVar_i (v := (.int s37.1)) rfl (tNil_i (Par2_i (?_))))))))))))))
    refine setPI (fa := V.int) (fb := V.int) (a := (s37.2.1 - (y49 * s37.1))) (b := s37.1) (g := fun y50 y51 => [some (.int x_prime), some (.int x_number), some (.int y50), some (.int y51), some (.int s37.2.2.1), some (.int s37.2.2.2), some (.int y49)]) hw.2 (fun _ _ => rfl) (fun y50 y51 hw => ?_)
    refine tParL (tCons_i (tOp_i (tVar_i (v := (.int s37.2.2.2)) rfl (tOp_i (tVar_i (v := (.int y49)) rfl (tVar_i (v := (.int s37.2.2.1)) rfl (rMulU_i hw.1 (rI0_i (tCons_i (tVar_i (v := (.int s37.2.2.1)) rfl (tNil_i (Par2_i (?_)))))))))))))
    refine setPI (fa := V.int) (fb := V.int) (a := (s37.2.2.2 - (y49 * s37.2.2.1))) (b := s37.2.2.1) (g := fun y52 y53 => [some (.int x_prime), some (.int x_number), some (.int y50), some (.int y51), some (.int y52), some (.int y53), some (.int y49)]) hw.2 (fun _ _ => rfl) (fun y52 y53 hw => ?_)
    exact nxS_i (s := ((y50, y51, y52, y53))) ⟨_, rfl, S43, P41, T42, trivial⟩ hw
  refine tRet_j (tOp_i (tVar_i (v := (.int s37.2.2.1)) rfl (tVar_i (v := (.int x_prime)) rfl (rModP_i hw.1 (?_)))))
  exact hk _ hw.2 _ T42
def sp_point_of (K : PySem.W.Frag) (t : Tab) : Sp := fun vs H Q E => ∃ (ps : List Addr) (x_prime : Int) (x_vector : (Int × Int)) (v_vector : V), vs = [(.int x_prime), v_vector] ∧ (∀ x ∈ ps, H x ≠ none) ∧ (pTup K (rCons pInt (rOne pInt))).rep (dels H ps) v_vector x_vector ∧ ∃ (k : Int → Prop) (e : PErr → Prop), w_point_of x_prime x_vector k e ∧ (∀ r, k r → RetI V.int H Q r) ∧ (∀ er, er.cls ∈ ([2, 20] : List Nat) → e er → ErrK ps t.cl H E er)
theorem len_point_of : ∀ vs H Q E, sp_point_of K t vs H Q E → vs.length = (["prime", "vector"] : List Str).length := by
  rintro vs H Q E ⟨_, _, _, _, rfl, _⟩
  rfl
theorem ok_point_of (T : Txt K mg t) : FnOk P w K mg base (L2.CX P w) 7 t.a_point_of t.fd_point_of ["prime", "vector"] (sp_point_of K t) := by
  have G_look_prime := ok_look_prime (P := P) (w := w) (base := base) T
  have G_look_pair := ok_look_pair (P := P) (w := w) (base := base) T
  have G_inverse := ok_inverse (P := P) (w := w) (base := base) T
  refine T.F_point_of.okX sc_point_of len_point_of (fun cdv A outer s H vs Q E hr h => ?_)
  have nd := sc_point_of.nd
  refine ⟨_, (pss_cons (ps_expr (pe_callS G_look_prime (hr.mono (by decide)) (by rfl) T.g_look_prime T.F_look_prime.kp T.b_look_prime (fun σ => passAt (takes_of rfl rfl rfl rfl) σ) (pa_cons (pv 0) pa_nil)))
    (pss_cons (ps_expr (pe_callS G_look_pair (hr.mono (by decide)) (by rfl) T.g_look_pair T.F_look_pair.kp T.b_look_pair (fun σ => passAt (takes_of rfl rfl rfl rfl) σ) (pa_cons (pv 0) (pa_cons (pv 1) pa_nil))))
    (pss_cons (ps_asg (pv 1) (pg_tupK K 2 rfl (pgs_cons (pg_name (i := 2) nd rfl (Or.inl rfl)) (pgs_cons (pg_name (i := 3) nd rfl (Or.inl rfl)) pgs_nil))))
    (pss_cons (ps_if (pt_cmpR (op_neUK K hr) (pv 2) (pe_int) (by first | exact nomark _ | rfl)) (pss_one (ps_ret (pe_op op_modP (pe_op op_mulU (pv 3) (pe_callS G_inverse (hr.mono (by decide)) (by rfl) T.g_inverse T.F_inverse.kp T.b_inverse (fun σ => passAt (takes_of rfl rfl rfl rfl) σ) (pa_cons (pv 0) (pa_cons (pv 2) pa_nil)))) (pv 0)))) pss_nil)
    (pss_cons (ps_if (pt_cmpR (op_eqUK K hr) (pv 3) (pe_int) (by first | exact nomark _ | rfl)) (pss_one (ps_raise rfl (takes_of rfl rfl rfl rfl) (pmk_own0 T.x_ZeroVector T.g_ZeroVector))) pss_nil)
    (pss_one (ps_ret (pv 0)))))))), ?_⟩
  obtain ⟨ps, x_prime, x_vector, v_vector, rfl, P0, h_vector, k, e, hw, hk, he⟩ := h
  unfold w_point_of at hw
  refine tSeq_j (tDrop_j (tCallS_i (tCons_i (tVar_i (v := (.int x_prime)) rfl (tNil_i (?_))))))
  refine ⟨ps, x_prime, rfl, P0, _, _, hw, fun r1 hw H2 s3 => ?_, (fun er hc hw => errUp (Same.refl H) ss_refl (he er (by simp only [List.mem_cons, List.not_mem_nil, or_false] at hc ⊢; omega) hw))⟩
  have P4 := dom_up s3 P0
  have T5 := Same.trans (Same.refl H) s3
  have S6 : Same (dels H ps) (dels H2 ps) := Sd ps s3
  refine tSeq_j (tDrop_j (tCallS_i (tCons_i (tVar_i (v := (.int x_prime)) rfl (tCons_i (tVar_i (v := v_vector) rfl (tNil_i (?_))))))))
  refine ⟨ps, x_prime, x_vector, v_vector, rfl, P4, ((pTup K (rCons pInt (rOne pInt))).mono S6 h_vector), _, _, hw, fun r7 hw H8 s9 => ?_, (fun er hc hw => errUp T5 ss_refl (he er (by simp only [List.mem_cons, List.not_mem_nil, or_false] at hc ⊢; omega) hw))⟩
  have P10 := dom_up s9 P4
  have T11 := Same.trans T5 s9
  have S12 : Same (dels H2 ps) (dels H8 ps) := Sd ps s9
  refine tSeq_j (tAsg_j (tVar_i (v := v_vector) rfl (gTupS h_vector (Same.trans (S6.trans S12) Su) (fun vs13 hv14 => ?_))))
  obtain ⟨ws16, rfl, hv15⟩ := rowCi hv14
  obtain rfl := rowOi hv15
  refine ⟨rfl, ?_⟩
  refine gCons_i (gN (σ' := [some (.int x_prime), some v_vector, some (.int x_vector.1), none]) rfl (gCons_i (gN (σ' := [some (.int x_prime), some v_vector, some (.int x_vector.1), some (.int x_vector.2)]) rfl (gNil_i (tSeq_j (tIfS_j (tTest_i (tOp_i (tVar_i (v := (.int x_vector.1)) rfl (tC_i (rNeU_i (IsBl_i (?_)))))))))))))
  refine Br_two hw (fun c17 hw => ?_) (fun c17 hw => ?_)
  · refine tRet_j (tOp_i (tOp_i (tVar_i (v := (.int x_vector.2)) rfl (tCallS_i (tCons_i (tVar_i (v := (.int x_prime)) rfl (tCons_i (tVar_i (v := (.int x_vector.1)) rfl (tNil_i (?_))))))))))
    refine ⟨ps, x_prime, x_vector.1, rfl, P10, _, _, hw, fun r18 hw H19 s20 => ?_, (fun er hc hw => errUp T11 ss_refl (he er (by simp only [List.mem_cons, List.not_mem_nil, or_false] at hc ⊢; omega) hw))⟩
    have P21 := dom_up s20 P10
    have T22 := Same.trans T11 s20
    have S23 : Same (dels H8 ps) (dels H19 ps) := Sd ps s20
    refine rMulU_i hw.1 (tVar_i (v := (.int x_prime)) rfl (rModP_i hw.2.1 (?_)))
    exact hk _ hw.2.2 _ T22
  · refine tNext_j (tSeq_j (tIfS_j (tTest_i (tOp_i (tVar_i (v := (.int x_vector.2)) rfl (tC_i (rEqU_i (IsBl_i (?_)))))))))
    refine Br_two hw (fun c24 hw => ?_) (fun c24 hw => ?_)
    · exact raise0 (he _ (by simp) hw) T11
    · refine tNext_j (tRet_j (tVar_i (v := (.int x_prime)) rfl (?_)))
      exact hk _ hw _ T11
def sp_crossed_point (K : PySem.W.Frag) (t : Tab) : Sp := fun vs H Q E => ∃ (ps : List Addr) (x_prime : Int) (x_point : Int), vs = [(.int x_prime), (.int x_point)] ∧ (∀ x ∈ ps, H x ≠ none) ∧ ∃ (k : Int → Prop) (e : PErr → Prop), w_crossed_point x_prime x_point k e ∧ (∀ r, k r → RetI V.int H Q r) ∧ (∀ er, er.cls ∈ ([2, 20] : List Nat) → e er → ErrK ps t.cl H E er)
theorem len_crossed_point : ∀ vs H Q E, sp_crossed_point K t vs H Q E → vs.length = (["prime", "point"] : List Str).length := by
  rintro vs H Q E ⟨_, _, _, rfl, _⟩
  rfl
theorem ok_crossed_point (T : Txt K mg t) : FnOk P w K mg base (L2.CX P w) 8 t.a_crossed_point t.fd_crossed_point ["prime", "point"] (sp_crossed_point K t) := by
  have G_look_prime := ok_look_prime (P := P) (w := w) (base := base) T
  have G_look_number := ok_look_number (P := P) (w := w) (base := base) T
  have G_point_vector := ok_point_vector (P := P) (w := w) (base := base) T
  have G_point_of := ok_point_of (P := P) (w := w) (base := base) T
  refine T.F_crossed_point.okX sc_crossed_point len_crossed_point (fun cdv A outer s H vs Q E hr h => ?_)
  have nd := sc_crossed_point.nd
  refine ⟨_, (pss_cons (ps_expr (pe_callS G_look_prime (hr.mono (by decide)) (by rfl) T.g_look_prime T.F_look_prime.kp T.b_look_prime (fun σ => passAt (takes_of rfl rfl rfl rfl) σ) (pa_cons (pv 0) pa_nil)))
    (pss_cons (ps_expr (pe_callS G_look_number (hr.mono (by decide)) (by rfl) T.g_look_number T.F_look_number.kp T.b_look_number (fun σ => passAt (takes_of rfl rfl rfl rfl) σ) (pa_cons (pv 1) (pa_cons (pe_int) (pa_cons (pv 0) pa_nil)))))
    (pss_cons (ps_asg (pe_callS G_point_vector (hr.mono (by decide)) (by rfl) T.g_point_vector T.F_point_vector.kp T.b_point_vector (fun σ => passAt (takes_of rfl rfl rfl rfl) σ) (pa_cons (pv 0) (pa_cons (pv 1) pa_nil))) (pg_tupK K 2 rfl (pgs_cons (pg_name (i := 2) nd rfl (Or.inl rfl)) (pgs_cons (pg_name (i := 3) nd rfl (Or.inl rfl)) pgs_nil))))
    (pss_one (ps_ret (pe_callS G_point_of (hr.mono (by decide)) (by rfl) T.g_point_of T.F_point_of.kp T.b_point_of (fun σ => passAt (takes_of rfl rfl rfl rfl) σ) (pa_cons (pv 0) (pa_cons (pe_tup (pa_cons (pe_op op_modP (pe_un un_neg (pv 3)) (pv 0)) (pa_cons (pv 2) pa_nil))) pa_nil)))))))), ?_⟩
  obtain ⟨ps, x_prime, x_point, rfl, P0, k, e, hw, hk, he⟩ := h
  unfold w_crossed_point at hw
  refine tSeq_j (tDrop_j (tCallS_i (tCons_i (tVar_i (v := (.int x_prime)) rfl (tNil_i (?_))))))
  refine ⟨ps, x_prime, rfl, P0, _, _, hw, fun r1 hw H2 s3 => ?_, (fun er hc hw => errUp (Same.refl H) ss_refl (he er (by simp only [List.mem_cons, List.not_mem_nil, or_false] at hc ⊢; omega) hw))⟩
  have P4 := dom_up s3 P0
  have T5 := Same.trans (Same.refl H) s3
  have S6 : Same (dels H ps) (dels H2 ps) := Sd ps s3
  refine tSeq_j (tDrop_j (tCallS_i (tCons_i (tVar_i (v := (.int x_point)) rfl (tCons_i (tC_i (tCons_i (tVar_i (v := (.int x_prime)) rfl (tNil_i (?_))))))))))
  refine ⟨ps, x_point, (0 : Int), x_prime, rfl, P4, _, _, hw, fun r7 hw H8 s9 => ?_, (fun er hc hw => errUp T5 ss_refl (he er (by simp only [List.mem_cons, List.not_mem_nil, or_false] at hc ⊢; omega) hw))⟩
  have P10 := dom_up s9 P4
  have T11 := Same.trans T5 s9
  have S12 : Same (dels H2 ps) (dels H8 ps) := Sd ps s9
  refine tSeq_j (tAsg_j (tCallS_i (tCons_i (tVar_i (v := (.int x_prime)) rfl (tCons_i (tVar_i (v := (.int x_point)) rfl (tNil_i (?_))))))))
  refine ⟨ps, x_prime, x_point, rfl, P10, _, _, hw, fun r13 hw H14 v16 s15 h17 => ?_, (fun er hc hw => errUp T11 ss_refl (he er (by simp only [List.mem_cons, List.not_mem_nil, or_false] at hc ⊢; omega) hw))⟩
  have P18 := dom_up s15 P10
  have T19 := Same.trans T11 s15
  have S20 : Same (dels H8 ps) (dels H14 ps) := Sd ps s15
  refine gTupS h17 Su (fun vs21 hv22 => ?_)
  obtain ⟨ws24, rfl, hv23⟩ := rowCi hv22
  obtain rfl := rowOi hv23
  refine ⟨rfl, ?_⟩
  refine gCons_i (gN (σ' := [some (.int x_prime), some (.int x_point), some (.int r13.1), none]) rfl (gCons_i (gN (σ' := [some (.int x_prime), some (.int x_point), some (.int r13.1), some (.int r13.2)]) rfl (gNil_i (tRet_j (tCallS_i (tCons_i (tVar_i (v := (.int x_prime)) rfl (tCons_i (tTup_i (tCons_i (tOp_i (tUn_i (tVar_i (v := (.int r13.2)) rfl (rNeg_i (tVar_i (v := (.int x_prime)) rfl (rModP_i hw.1 (tCons_i (tVar_i (v := (.int r13.1)) rfl (tNil_i (new_i (Nat.le_of_ble_eq_true rfl) (fun q25 H26 n27 s28 e29 => ?_))))))))))))))))))))))
  have P31 := dom_up s28 P18
  have T32 := Same.trans T19 s28
  have S33 : Same (dels H14 ps) (dels H26 ps) := Sd ps s28
  have h30 : (pTup K (rCons pInt (rOne pInt))).rep (dels H26 ps) (.ref q25) (((-r13.2) % x_prime), r13.1) := tupR (dels_at e29 (nin_of n27 P18)) (rowC rfl (rowO rfl))
  refine tNil_i (?_)
  refine ⟨ps, x_prime, (((-r13.2) % x_prime), r13.1), (.ref q25), rfl, P31, h30, _, _, hw.2, fun r34 hw H35 s36 => ?_, (fun er hc hw => errUp T32 ss_refl (he er (by simp only [List.mem_cons, List.not_mem_nil, or_false] at hc ⊢; omega) hw))⟩
  have P37 := dom_up s36 P31
  have T38 := Same.trans T32 s36
  have S39 : Same (dels H26 ps) (dels H35 ps) := Sd ps s36
  exact hk _ hw _ T38
def sp_ulaw_whole (K : PySem.W.Frag) (t : Tab) : Sp := fun vs H Q E => ∃ (ps : List Addr) (x_x : Int), vs = [(.int x_x)] ∧ (∀ x ∈ ps, H x ≠ none) ∧ ∃ (k : Bool → Prop) (e : PErr → Prop), w_ulaw_whole x_x k e ∧ (∀ r, k r → RetI V.bl H Q r) ∧ (∀ er, er.cls ∈ ([] : List Nat) → e er → ErrK ps t.cl H E er)
theorem len_ulaw_whole : ∀ vs H Q E, sp_ulaw_whole K t vs H Q E → vs.length = (["x"] : List Str).length := by
  rintro vs H Q E ⟨_, _, rfl, _⟩
  rfl
theorem ok_ulaw_whole (T : Txt K mg t) : FnOk P w K mg base (L2.CX P w) 1 t.a_ulaw_whole t.fd_ulaw_whole ["x"] (sp_ulaw_whole K t) := by
  refine T.F_ulaw_whole.okX sc_ulaw_whole len_ulaw_whole (fun cdv A outer s H vs Q E hr h => ?_)
  have nd := sc_ulaw_whole.nd
  refine ⟨_, (pss_one (ps_ret (pe_and (pe_callB (call_isiUK K) (by rfl) T.n_isinstance (by decide +kernel) (pa_cons (pv 0) (pa_cons (pe_bltn (v := .ty "int") (by rfl) T.n_int (by decide +kernel) rfl) pa_nil))) (pe_one (pe_not (pe_callB (call_isiUK K) (by rfl) T.n_isinstance (by decide +kernel) (pa_cons (pv 0) (pa_cons (pe_bltn (v := .ty "bool") (by rfl) T.n_bool (by decide +kernel) rfl) pa_nil)))))))), ?_⟩
  obtain ⟨ps, x_x, rfl, P0, k, e, hw, hk, he⟩ := h
  unfold w_ulaw_whole at hw
  refine tRet_j (tAndVP (b := true) (c := (!false)) (fun R hR => tCB_i (tCons_i (tVar_i (v := (.int x_x)) rfl (tCons_i (tC_i (tNil_i (isi_int_int (hR)))))))) (fun g2 R hR => tNotV_i (tCB_i (tCons_i (tVar_i (v := (.int x_x)) rfl (tCons_i (tC_i (tNil_i (isi_int_bool (IsBl_i (hR)))))))))) (?_))
  exact hk _ hw _ (Same.refl H)
def sp_ulaw_vector (K : PySem.W.Frag) (t : Tab) : Sp := fun vs H Q E => ∃ (ps : List Addr) (x_p : Int) (x_point : Int), vs = [(.int x_p), (.int x_point)] ∧ (∀ x ∈ ps, H x ≠ none) ∧ ∃ (k : (Int × Int) → Prop) (e : PErr → Prop), w_ulaw_vector x_p x_point k e ∧ (∀ r, k r → RetK ps (pTup K (rCons pInt (rOne pInt))) H Q r) ∧ (∀ er, er.cls ∈ ([] : List Nat) → e er → ErrK ps t.cl H E er)
theorem len_ulaw_vector : ∀ vs H Q E, sp_ulaw_vector K t vs H Q E → vs.length = (["p", "point"] : List Str).length := by
  rintro vs H Q E ⟨_, _, _, rfl, _⟩
  rfl
theorem ok_ulaw_vector (T : Txt K mg t) : FnOk P w K mg base (L2.CX P w) 1 t.a_ulaw_vector t.fd_ulaw_vector ["p", "point"] (sp_ulaw_vector K t) := by
  refine T.F_ulaw_vector.okX sc_ulaw_vector len_ulaw_vector (fun cdv A outer s H vs Q E hr h => ?_)
  have nd := sc_ulaw_vector.nd
  refine ⟨_, (pss_one (ps_ret (pe_ifExp (pt_cmpR (op_eqUK K hr) (pv 1) (pv 0) (by first | exact nomark _ | rfl)) (pe_tup (pa_cons (pe_int) (pa_cons (pe_int) pa_nil))) (pe_tup (pa_cons (pe_int) (pa_cons (pv 1) pa_nil)))))), ?_⟩
  obtain ⟨ps, x_p, x_point, rfl, P0, k, e, hw, hk, he⟩ := h
  unfold w_ulaw_vector at hw
  refine tRet_j (?_)
  refine joinV (τ := (Int × Int)) hw (fun d v H' => (pTup K (rCons pInt (rOne pInt))).rep (dels H' ps) v d ∧ Same H H') (fun d26 v27 H29 hM31 hw => ?_) (fun hw hR => ?_)
  rotate_left 1
  · refine tIf_i (tTest_i (tOp_i (tVar_i (v := (.int x_point)) rfl (tVar_i (v := (.int x_p)) rfl (rEqU_i (IsBl_i (?_)))))))
    refine Br_two hw (fun c32 hw => ?_) (fun c32 hw => ?_)
    · refine tTup_i (tCons_i (tC_i (tCons_i (tC_i (tNil_i (new_i (Nat.le_of_ble_eq_true rfl) (fun q33 H34 n35 s36 e37 => ?_)))))))
      have P39 := dom_up s36 P0
      have T40 := Same.trans (Same.refl H) s36
      have sc41 := Same.trans (Same.refl H) s36
      have S42 : Same (dels H ps) (dels H34 ps) := Sd ps s36
      have h38 : (pTup K (rCons pInt (rOne pInt))).rep (dels H34 ps) (.ref q33) ((0 : Int), (1 : Int)) := tupR (dels_at e37 (nin_of n35 P0)) (rowC rfl (rowO rfl))
      exact hR _ _ _ ⟨h38, sc41⟩ hw
    · refine tTup_i (tCons_i (tC_i (tCons_i (tVar_i (v := (.int x_point)) rfl (tNil_i (new_i (Nat.le_of_ble_eq_true rfl) (fun q43 H44 n45 s46 e47 => ?_)))))))
      have P49 := dom_up s46 P0
      have T50 := Same.trans (Same.refl H) s46
      have sc51 := Same.trans (Same.refl H) s46
      have S52 : Same (dels H ps) (dels H44 ps) := Sd ps s46
      have h48 : (pTup K (rCons pInt (rOne pInt))).rep (dels H44 ps) (.ref q43) ((1 : Int), x_point) := tupR (dels_at e47 (nin_of n45 P0)) (rowC rfl (rowO rfl))
      exact hR _ _ _ ⟨h48, sc51⟩ hw
  obtain ⟨h28, s30⟩ := hM31
  have P53 := dom_up s30 P0
  have T54 := Same.trans (Same.refl H) s30
  have S55 : Same (dels H ps) (dels H29 ps) := Sd ps s30
  exact hk _ hw _ _ T54 h28
def sp_ulaw_point (K : PySem.W.Frag) (t : Tab) : Sp := fun vs H Q E => ∃ (ps : List Addr) (x_p : Int) (x_vector : (Int × Int)) (v_vector : V), vs = [(.int x_p), v_vector] ∧ (∀ x ∈ ps, H x ≠ none) ∧ (pTup K (rCons pInt (rOne pInt))).rep (dels H ps) v_vector x_vector ∧ ∃ (k : Int → Prop) (e : PErr → Prop), w_ulaw_point x_p x_vector k e ∧ (∀ r, k r → RetI V.int H Q r) ∧ (∀ er, er.cls ∈ ([] : List Nat) → e er → ErrK ps t.cl H E er)
theorem len_ulaw_point : ∀ vs H Q E, sp_ulaw_point K t vs H Q E → vs.length = (["p", "vector"] : List Str).length := by
  rintro vs H Q E ⟨_, _, _, _, rfl, _⟩
  rfl
theorem ok_ulaw_point (T : Txt K mg t) : FnOk P w K mg base (L2.CX P w) 1 t.a_ulaw_point t.fd_ulaw_point ["p", "vector"] (sp_ulaw_point K t) := by
  refine T.F_ulaw_point.okX sc_ulaw_point len_ulaw_point (fun cdv A outer s H vs Q E hr h => ?_)
  have nd := sc_ulaw_point.nd
  refine ⟨_, (pss_cons (ps_asg (pv 1) (pg_tupK K 2 rfl (pgs_cons (pg_name (i := 2) nd rfl (Or.inl rfl)) (pgs_cons (pg_name (i := 3) nd rfl (Or.inl rfl)) pgs_nil))))
    (pss_cons (ps_for (passes_of rfl) rfl (pi_range1 (by rfl) T.n_range (pa_cons (pv 0) pa_nil)) (pg_name (i := 4) nd rfl (Or.inl rfl))
    (pss_one (ps_if (PW.pt (pw_and (pt_cmpR (op_neUK K hr) (pv 2) (pe_int) (by first | exact nomark _ | rfl)) (pw_and1 (pt_cmpR (op_eqUK K hr) (pe_op op_modP (pe_callTy call_int1D (by rfl) T.n_int (by decide +kernel) (pa_cons (pe_op op_mulU (pv 2) (pv 4)) pa_nil)) (pv 0)) (pv 3) (by first | exact nomark _ | rfl))))) (pss_one (ps_ret (pv 4))) pss_nil)))
    (pss_one (ps_ret (pv 0))))), ?_⟩
  obtain ⟨ps, x_p, x_vector, v_vector, rfl, P0, h_vector, k, e, hw, hk, he⟩ := h
  unfold w_ulaw_point at hw
  refine tSeq_j (tAsg_j (tVar_i (v := v_vector) rfl (gTupS h_vector Su (fun vs1 hv2 => ?_))))
  obtain ⟨ws4, rfl, hv3⟩ := rowCi hv2
  obtain rfl := rowOi hv3
  refine ⟨rfl, ?_⟩
  refine gCons_i (gN (σ' := [some (.int x_p), some v_vector, some (.int x_vector.1), none, none]) rfl (gCons_i (gN (σ' := [some (.int x_p), some v_vector, some (.int x_vector.1), some (.int x_vector.2), none]) rfl (gNil_i (tSeq_j (tFor_j (w1 (tCons_i (tVar_i (v := (.int x_p)) rfl (tNil_i (rgW1 hw.1 (?_))))))))))))
  refine forR0 (s0 := ()) hw.2 (fun (s14 : Unit) (σ16 : L2.St) (H15 : Hp) => ∃ (j17 : Option V), σ16 = [some (.int x_p), some v_vector, some (.int x_vector.1), some (.int x_vector.2), j17] ∧ Same (dels H ps) (dels H15 ps) ∧ (∀ x ∈ ps, H15 x ≠ none) ∧ Same H H15 ∧ True) ⟨_, rfl, (Same.refl _), P0, (Same.refl H), trivial⟩ (fun d23 s14 σ16 H15 nx21 hr hw => ?_) (fun s27 σ29 H28 hr hw => ?_)
  · obtain ⟨j17, rfl, S20, P18, T19, _⟩ := hr
    refine gN (σ' := [some (.int x_p), some v_vector, some (.int x_vector.1), some (.int x_vector.2), some (.int d23)]) rfl (tIfS_j (tAndP (b := (!(decide (x_vector.1 = (0 : Int))))) (c := (decide (((x_vector.1 * d23) % x_p) = x_vector.2))) (fun R hR => tTest_i (tOp_i (tVar_i (v := (.int x_vector.1)) rfl (tC_i (rNeU_i (IsBl_i (hR))))))) (fun g35 R hR => tTest_i (tOp_i (tOp_i (tCB_i (tCons_i (tOp_i (tVar_i (v := (.int x_vector.1)) rfl (tVar_i (v := (.int d23)) rfl (rMulU_i (hw.1 g35) (tNil_i (rInt1_i (tVar_i (v := (.int x_p)) rfl (rModP_i (hw.2.1 g35) (tVar_i (v := (.int x_vector.2)) rfl (rEqU_i (IsBl_i (hR))))))))))))))))) (?_)))
    refine Br_two hw.2.2 (fun c36 hw => ?_) (fun c36 hw => ?_)
    · refine tRet_j (tVar_i (v := (.int d23)) rfl (?_))
      exact hk _ hw _ T19
    · refine tNext_j (?_)
      exact nxS_i (s := (())) ⟨_, rfl, S20, P18, T19, trivial⟩ hw
  obtain ⟨j30, rfl, S33, P31, T32, _⟩ := hr
  refine tRet_j (tVar_i (v := (.int x_p)) rfl (?_))
  exact hk _ hw _ T32
def sp_ulaw_crossed (K : PySem.W.Frag) (t : Tab) : Sp := fun vs H Q E => ∃ (ps : List Addr) (x_p : Int) (x_point : Int), vs = [(.int x_p), (.int x_point)] ∧ (∀ x ∈ ps, H x ≠ none) ∧ ∃ (k : Int → Prop) (e : PErr → Prop), w_ulaw_crossed x_p x_point k e ∧ (∀ r, k r → RetI V.int H Q r) ∧ (∀ er, er.cls ∈ ([] : List Nat) → e er → ErrK ps t.cl H E er)
theorem len_ulaw_crossed : ∀ vs H Q E, sp_ulaw_crossed K t vs H Q E → vs.length = (["p", "point"] : List Str).length := by
  rintro vs H Q E ⟨_, _, _, rfl, _⟩
  rfl
theorem ok_ulaw_crossed (T : Txt K mg t) : FnOk P w K mg base (L2.CX P w) 2 t.a_ulaw_crossed t.fd_ulaw_crossed ["p", "point"] (sp_ulaw_crossed K t) := by
  have G_ulaw_vector := ok_ulaw_vector (P := P) (w := w) (base := base) T
  have G_ulaw_point := ok_ulaw_point (P := P) (w := w) (base := base) T
  refine T.F_ulaw_crossed.okX sc_ulaw_crossed len_ulaw_crossed (fun cdv A outer s H vs Q E hr h => ?_)
  have nd := sc_ulaw_crossed.nd
  refine ⟨_, (pss_cons (ps_asg (pe_callS G_ulaw_vector (hr.mono (by decide)) (by rfl) T.g_ulaw_vector T.F_ulaw_vector.kp T.b_ulaw_vector (fun σ => passAt (takes_of rfl rfl rfl rfl) σ) (pa_cons (pv 0) (pa_cons (pv 1) pa_nil))) (pg_tupK K 2 rfl (pgs_cons (pg_name (i := 2) nd rfl (Or.inl rfl)) (pgs_cons (pg_name (i := 3) nd rfl (Or.inl rfl)) pgs_nil))))
    (pss_one (ps_ret (pe_callS G_ulaw_point (hr.mono (by decide)) (by rfl) T.g_ulaw_point T.F_ulaw_point.kp T.b_ulaw_point (fun σ => passAt (takes_of rfl rfl rfl rfl) σ) (pa_cons (pv 0) (pa_cons (pe_tup (pa_cons (pe_op op_modP (pe_callTy call_int1D (by rfl) T.n_int (by decide +kernel) (pa_cons (pe_op op_sub (pe_int) (pv 3)) pa_nil)) (pv 0)) (pa_cons (pv 2) pa_nil))) pa_nil)))))), ?_⟩
  obtain ⟨ps, x_p, x_point, rfl, P0, k, e, hw, hk, he⟩ := h
  unfold w_ulaw_crossed at hw
  refine tSeq_j (tAsg_j (tCallS_i (tCons_i (tVar_i (v := (.int x_p)) rfl (tCons_i (tVar_i (v := (.int x_point)) rfl (tNil_i (?_))))))))
  refine ⟨ps, x_p, x_point, rfl, P0, _, _, hw, fun r1 hw H2 v4 s3 h5 => ?_, (fun er hc hw => errUp (Same.refl H) ss_refl (he er (absurd hc (List.not_mem_nil)) hw))⟩
  have P6 := dom_up s3 P0
  have T7 := Same.trans (Same.refl H) s3
  have S8 : Same (dels H ps) (dels H2 ps) := Sd ps s3
  refine gTupS h5 Su (fun vs9 hv10 => ?_)
  obtain ⟨ws12, rfl, hv11⟩ := rowCi hv10
  obtain rfl := rowOi hv11
  refine ⟨rfl, ?_⟩
  refine gCons_i (gN (σ' := [some (.int x_p), some (.int x_point), some (.int r1.1), none]) rfl (gCons_i (gN (σ' := [some (.int x_p), some (.int x_point), some (.int r1.1), some (.int r1.2)]) rfl (gNil_i (tRet_j (tCallS_i (tCons_i (tVar_i (v := (.int x_p)) rfl (tCons_i (tTup_i (tCons_i (tOp_i (tCB_i (tCons_i (tOp_i (tC_i (tVar_i (v := (.int r1.2)) rfl (rI0_i (tNil_i (rInt1_i (tVar_i (v := (.int x_p)) rfl (rModP_i hw.1 (tCons_i (tVar_i (v := (.int r1.1)) rfl (tNil_i (new_i (Nat.le_of_ble_eq_true rfl) (fun q13 H14 n15 s16 e17 => ?_)))))))))))))))))))))))))))
  have P19 := dom_up s16 P6
  have T20 := Same.trans T7 s16
  have S21 : Same (dels H2 ps) (dels H14 ps) := Sd ps s16
  have h18 : (pTup K (rCons pInt (rOne pInt))).rep (dels H14 ps) (.ref q13) ((((0 : Int) - r1.2) % x_p), r1.1) := tupR (dels_at e17 (nin_of n15 P6)) (rowC rfl (rowO rfl))
  refine tNil_i (?_)
  refine ⟨ps, x_p, ((((0 : Int) - r1.2) % x_p), r1.1), (.ref q13), rfl, P19, h18, _, _, hw.2, fun r22 hw H23 s24 => ?_, (fun er hc hw => errUp T20 ss_refl (he er (absurd hc (List.not_mem_nil)) hw))⟩
  have P25 := dom_up s24 P19
  have T26 := Same.trans T20 s24
  have S27 : Same (dels H14 ps) (dels H23 ps) := Sd ps s24
  exact hk _ hw _ T26
def sp_look_frame (K : PySem.W.Frag) (t : Tab) : Sp := fun vs H Q E => ∃ (ps : List Addr) (x_prime : Int) (x_frame : (Int × Int)) (v_frame : V), vs = [(.int x_prime), v_frame] ∧ (∀ x ∈ ps, H x ≠ none) ∧ (pTup K (rCons pInt (rOne pInt))).rep (dels H ps) v_frame x_frame ∧ ∃ (k : Unit → Prop) (e : PErr → Prop), w_look_frame x_prime x_frame k e ∧ (∀ r, k r → RetI (fun _ => V.non) H Q r) ∧ (∀ er, er.cls ∈ ([2] : List Nat) → e er → ErrK ps t.cl H E er)
theorem len_look_frame : ∀ vs H Q E, sp_look_frame K t vs H Q E → vs.length = (["prime", "frame"] : List Str).length := by
  rintro vs H Q E ⟨_, _, _, _, rfl, _⟩
  rfl
theorem ok_look_frame (T : Txt K mg t) : FnOk P w K mg base (L2.CX P w) 4 t.a_look_frame t.fd_look_frame ["prime", "frame"] (sp_look_frame K t) := by
  have G_look_number := ok_look_number (P := P) (w := w) (base := base) T
  have G_NumberError_init := ok_NumberError_init (P := P) (w := w) (base := base) T
  refine T.F_look_frame.okX sc_look_frame len_look_frame (fun cdv A outer s H vs Q E hr h => ?_)
  have nd := sc_look_frame.nd
  refine ⟨_, (pss_cons (ps_for (passes_of rfl) rfl (pi_UK K (pv 1)) (pg_name (i := 2) nd rfl (Or.inl rfl))
    (pss_one (ps_expr (pe_callS G_look_number (hr.mono (by decide)) (by rfl) T.g_look_number T.F_look_number.kp T.b_look_number (fun σ => passAt (takes_of rfl rfl rfl rfl) σ) (pa_cons (pv 2) (pa_cons (pe_int) (pa_cons (pv 0) pa_nil)))))))
    (pss_one (ps_if (pt_cmpR op_le (pe_ix (ix_UK K) (pv 1) (pe_int) (fun _ _ => rfl)) (pe_ix (ix_UK K) (pv 1) (pe_int) (fun _ _ => rfl)) (by first | exact nomark _ | rfl)) (pss_one (ps_raise rfl (takes_of rfl rfl rfl rfl) (pmk_oex T.x_NumberError T.xi_NumberError T.xt_NumberError G_NumberError_init (hr.mono (by decide)) T.b_NumberError_init .nil passLF (by rfl) T.g_NumberError (pa_cons (pe_ix (ix_UK K) (pv 1) (pe_int) (fun _ _ => rfl)) pa_nil)))) pss_nil))), ?_⟩
  obtain ⟨ps, x_prime, x_frame, v_frame, rfl, P0, h_frame, k, e, hw, hk, he⟩ := h
  unfold w_look_frame at hw
  refine tSeq_j (tFor_j (wT (tVar_i (v := v_frame) rfl (?_))))
  obtain ⟨a13, us14, hv15, hS16, hr17, hl18⟩ := (tupVt h_frame (raCons raOne) (Nat.le_of_ble_eq_true rfl))
  refine WT_v hv15 (Same.seqT Su hS16) (forT (s0 := ()) hw hr17 (fun (s19 : Unit) (σ21 : L2.St) (H20 : Hp) => ∃ (j22 : Option V), σ21 = [some (.int x_prime), some v_frame, j22] ∧ Same (dels H ps) (dels H20 ps) ∧ (∀ x ∈ ps, H20 x ≠ none) ∧ Same H H20 ∧ True) ⟨_, rfl, (Same.refl _), P0, (Same.refl H), trivial⟩ (fun s19 σ21 H20 ⟨j22, _, S25, P23, T24, _⟩ => (Same.seqT (Same.trans S25 Su) hS16)) (fun d28 s19 σ21 H20 x29 nx26 hr hi30 hw => ?_) (fun s32 σ34 H33 hr hw => ?_))
  · obtain ⟨j22, rfl, S25, P23, T24, _⟩ := hr
    obtain rfl : x29 = (.int d28) := hi30
    refine gN (σ' := [some (.int x_prime), some v_frame, some (.int d28)]) rfl (tDrop_j (tCallS_i (tCons_i (tVar_i (v := (.int d28)) rfl (tCons_i (tC_i (tCons_i (tVar_i (v := (.int x_prime)) rfl (tNil_i (?_))))))))))
    refine ⟨ps, d28, (0 : Int), x_prime, rfl, P23, _, _, hw, fun r39 hw H40 s41 => ?_, (fun er hc hw => errUp T24 ss_refl (he er (by simp only [List.mem_cons, List.not_mem_nil, or_false] at hc ⊢; omega) hw))⟩
    have P42 := dom_up s41 P23
    have T43 := Same.trans T24 s41
    have S44 : Same (dels H20 ps) (dels H40 ps) := Sd ps s41
    exact nxS_i (s := (())) ⟨_, rfl, (S25.trans S44), P42, T43, trivial⟩ hw
  obtain ⟨j35, rfl, S38, P36, T37, _⟩ := hr
  refine tIfS_j (tTest_i (tOp_i (tOp_i (tVar_i (v := v_frame) rfl (tC_i (ixTI (j := 1) h_frame (Same.trans S38 Su) (rgS rgOne) rfl (tOp_i (tVar_i (v := v_frame) rfl (tC_i (ixTI (j := 0) h_frame (Same.trans S38 Su) rgZ rfl (rI0_i (IsBl_i (?_)))))))))))))
  refine Br_two hw (fun c45 hw => ?_) (fun c45 hw => ?_)
  · refine tMkO_i (tCons_i (tOp_i (tVar_i (v := v_frame) rfl (tC_i (ixTI (j := 1) h_frame (Same.trans S38 Su) (rgS rgOne) rfl (tNil_i (?_)))))))
    exact mkO1n T.x_NumberError T.xn_NumberError_number (raiseK (he _ (by simp) hw) T37 P36)
  · refine tNext_j (?_)
    exact hk _ hw _ T37
def sp_ordered (K : PySem.W.Frag) (t : Tab) : Sp := fun vs H Q E => ∃ (ps : List Addr) (x_first : Int) (x_second : Int), vs = [(.int x_first), (.int x_second)] ∧ (∀ x ∈ ps, H x ≠ none) ∧ ∃ (k : (Int × Int) → Prop) (e : PErr → Prop), w_ordered x_first x_second k e ∧ (∀ r, k r → RetK ps (pTup K (rCons pInt (rOne pInt))) H Q r) ∧ (∀ er, er.cls ∈ ([] : List Nat) → e er → ErrK ps t.cl H E er)
theorem len_ordered : ∀ vs H Q E, sp_ordered K t vs H Q E → vs.length = (["first", "second"] : List Str).length := by
  rintro vs H Q E ⟨_, _, _, rfl, _⟩
  rfl
theorem ok_ordered (T : Txt K mg t) : FnOk P w K mg base (L2.CX P w) 1 t.a_ordered t.fd_ordered ["first", "second"] (sp_ordered K t) := by
  refine T.F_ordered.okX sc_ordered len_ordered (fun cdv A outer s H vs Q E hr h => ?_)
  have nd := sc_ordered.nd
  refine ⟨_, (pss_one (ps_ret (pe_tup (pa_cons (pe_callB (call_min2D rfl) (by rfl) T.n_min (by decide +kernel) (pa_cons (pv 0) (pa_cons (pv 1) pa_nil))) (pa_cons (pe_callB (call_max2D rfl) (by rfl) T.n_max (by decide +kernel) (pa_cons (pv 0) (pa_cons (pv 1) pa_nil))) pa_nil))))), ?_⟩
  obtain ⟨ps, x_first, x_second, rfl, P0, k, e, hw, hk, he⟩ := h
  unfold w_ordered at hw
  refine tRet_j (tTup_i (tCons_i (tCB_i (tCons_i (tVar_i (v := (.int x_first)) rfl (tCons_i (tVar_i (v := (.int x_second)) rfl (tNil_i (rMin2_i (tCons_i (tCB_i (tCons_i (tVar_i (v := (.int x_first)) rfl (tCons_i (tVar_i (v := (.int x_second)) rfl (tNil_i (rMax2_i (tNil_i (new_i (Nat.le_of_ble_eq_true rfl) (fun q1 H2 n3 s4 e5 => ?_))))))))))))))))))))
  have P7 := dom_up s4 P0
  have T8 := Same.trans (Same.refl H) s4
  have S9 : Same (dels H ps) (dels H2 ps) := Sd ps s4
  have h6 : (pTup K (rCons pInt (rOne pInt))).rep (dels H2 ps) (.ref q1) ((minI x_first x_second), (maxI x_first x_second)) := tupR (dels_at e5 (nin_of n3 P0)) (rowC rfl (rowO rfl))
  exact hk _ hw _ _ T8 h6
def sp_crossed_frame (K : PySem.W.Frag) (t : Tab) : Sp := fun vs H Q E => ∃ (ps : List Addr) (x_prime : Int) (x_frame : (Int × Int)) (v_frame : V), vs = [(.int x_prime), v_frame] ∧ (∀ x ∈ ps, H x ≠ none) ∧ (pTup K (rCons pInt (rOne pInt))).rep (dels H ps) v_frame x_frame ∧ ∃ (k : (Int × Int) → Prop) (e : PErr → Prop), w_crossed_frame x_prime x_frame k e ∧ (∀ r, k r → RetK ps (pTup K (rCons pInt (rOne pInt))) H Q r) ∧ (∀ er, er.cls ∈ ([2, 20] : List Nat) → e er → ErrK ps t.cl H E er)
theorem len_crossed_frame : ∀ vs H Q E, sp_crossed_frame K t vs H Q E → vs.length = (["prime", "frame"] : List Str).length := by
  rintro vs H Q E ⟨_, _, _, _, rfl, _⟩
  rfl
theorem ok_crossed_frame (T : Txt K mg t) : FnOk P w K mg base (L2.CX P w) 9 t.a_crossed_frame t.fd_crossed_frame ["prime", "frame"] (sp_crossed_frame K t) := by
  have G_look_prime := ok_look_prime (P := P) (w := w) (base := base) T
  have G_look_frame := ok_look_frame (P := P) (w := w) (base := base) T
  have G_crossed_point := ok_crossed_point (P := P) (w := w) (base := base) T
  have G_ordered := ok_ordered (P := P) (w := w) (base := base) T
  refine T.F_crossed_frame.okX sc_crossed_frame len_crossed_frame (fun cdv A outer s H vs Q E hr h => ?_)
  have nd := sc_crossed_frame.nd
  refine ⟨_, (pss_cons (ps_expr (pe_callS G_look_prime (hr.mono (by decide)) (by rfl) T.g_look_prime T.F_look_prime.kp T.b_look_prime (fun σ => passAt (takes_of rfl rfl rfl rfl) σ) (pa_cons (pv 0) pa_nil)))
    (pss_cons (ps_expr (pe_callS G_look_frame (hr.mono (by decide)) (by rfl) T.g_look_frame T.F_look_frame.kp T.b_look_frame (fun σ => passAt (takes_of rfl rfl rfl rfl) σ) (pa_cons (pv 0) (pa_cons (pv 1) pa_nil))))
    (pss_one (ps_ret (pe_callS G_ordered (hr.mono (by decide)) (by rfl) T.g_ordered T.F_ordered.kp T.b_ordered (fun σ => passAt (takes_of rfl rfl rfl rfl) σ) (pa_cons (pe_callS G_crossed_point (hr.mono (by decide)) (by rfl) T.g_crossed_point T.F_crossed_point.kp T.b_crossed_point (fun σ => passAt (takes_of rfl rfl rfl rfl) σ) (pa_cons (pv 0) (pa_cons (pe_ix (ix_UK K) (pv 1) (pe_int) (fun _ _ => rfl)) pa_nil))) (pa_cons (pe_callS G_crossed_point (hr.mono (by decide)) (by rfl) T.g_crossed_point T.F_crossed_point.kp T.b_crossed_point (fun σ => passAt (takes_of rfl rfl rfl rfl) σ) (pa_cons (pv 0) (pa_cons (pe_ix (ix_UK K) (pv 1) (pe_int) (fun _ _ => rfl)) pa_nil))) pa_nil))))))), ?_⟩
  obtain ⟨ps, x_prime, x_frame, v_frame, rfl, P0, h_frame, k, e, hw, hk, he⟩ := h
  unfold w_crossed_frame at hw
  refine tSeq_j (tDrop_j (tCallS_i (tCons_i (tVar_i (v := (.int x_prime)) rfl (tNil_i (?_))))))
  refine ⟨ps, x_prime, rfl, P0, _, _, hw, fun r1 hw H2 s3 => ?_, (fun er hc hw => errUp (Same.refl H) ss_refl (he er (by simp only [List.mem_cons, List.not_mem_nil, or_false] at hc ⊢; omega) hw))⟩
  have P4 := dom_up s3 P0
  have T5 := Same.trans (Same.refl H) s3
  have S6 : Same (dels H ps) (dels H2 ps) := Sd ps s3
  refine tSeq_j (tDrop_j (tCallS_i (tCons_i (tVar_i (v := (.int x_prime)) rfl (tCons_i (tVar_i (v := v_frame) rfl (tNil_i (?_))))))))
  refine ⟨ps, x_prime, x_frame, v_frame, rfl, P4, ((pTup K (rCons pInt (rOne pInt))).mono S6 h_frame), _, _, hw, fun r7 hw H8 s9 => ?_, (fun er hc hw => errUp T5 ss_refl (he er (by simp only [List.mem_cons, List.not_mem_nil, or_false] at hc ⊢; omega) hw))⟩
  have P10 := dom_up s9 P4
  have T11 := Same.trans T5 s9
  have S12 : Same (dels H2 ps) (dels H8 ps) := Sd ps s9
  refine tRet_j (tCallS_i (tCons_i (tCallS_i (tCons_i (tVar_i (v := (.int x_prime)) rfl (tCons_i (tOp_i (tVar_i (v := v_frame) rfl (tC_i (ixTI (j := 0) h_frame (Same.trans (S6.trans S12) Su) rgZ rfl (tNil_i (?_))))))))))))
  refine ⟨ps, x_prime, x_frame.1, rfl, P10, _, _, hw, fun r13 hw H14 s15 => ?_, (fun er hc hw => errUp T11 ss_refl (he er (by simp only [List.mem_cons, List.not_mem_nil, or_false] at hc ⊢; omega) hw))⟩
  have P16 := dom_up s15 P10
  have T17 := Same.trans T11 s15
  have S18 : Same (dels H8 ps) (dels H14 ps) := Sd ps s15
  refine tCons_i (tCallS_i (tCons_i (tVar_i (v := (.int x_prime)) rfl (tCons_i (tOp_i (tVar_i (v := v_frame) rfl (tC_i (ixTI (j := 1) h_frame (Same.trans (S6.trans (S12.trans S18)) Su) (rgS rgOne) rfl (tNil_i (?_))))))))))
  refine ⟨ps, x_prime, x_frame.2, rfl, P16, _, _, hw, fun r19 hw H20 s21 => ?_, (fun er hc hw => errUp T17 ss_refl (he er (by simp only [List.mem_cons, List.not_mem_nil, or_false] at hc ⊢; omega) hw))⟩
  have P22 := dom_up s21 P16
  have T23 := Same.trans T17 s21
  have S24 : Same (dels H14 ps) (dels H20 ps) := Sd ps s21
  refine tNil_i (?_)
  refine ⟨ps, r13, r19, rfl, P22, _, _, hw, fun r25 hw H26 v28 s27 h29 => ?_, (fun er hc hw => errUp T23 ss_refl (he er (absurd hc (List.not_mem_nil)) hw))⟩
  have P30 := dom_up s27 P22
  have T31 := Same.trans T23 s27
  have S32 : Same (dels H20 ps) (dels H26 ps) := Sd ps s27
  exact hk _ hw _ _ T31 h29
def sp_ulaw_pair (K : PySem.W.Frag) (t : Tab) : Sp := fun vs H Q E => ∃ (ps : List Addr) (x_told : (Int × Int)) (x_due : (Int × Int)) (v_told : V) (v_due : V), vs = [v_told, v_due] ∧ (∀ x ∈ ps, H x ≠ none) ∧ (pTup K (rCons pInt (rOne pInt))).rep (dels H ps) v_told x_told ∧ (pTup K (rCons pInt (rOne pInt))).rep (dels H ps) v_due x_due ∧ ∃ (k : Bool → Prop) (e : PErr → Prop), w_ulaw_pair x_told x_due k e ∧ (∀ r, k r → RetI V.bl H Q r) ∧ (∀ er, er.cls ∈ ([] : List Nat) → e er → ErrK ps t.cl H E er)
theorem len_ulaw_pair : ∀ vs H Q E, sp_ulaw_pair K t vs H Q E → vs.length = (["told", "due"] : List Str).length := by
  rintro vs H Q E ⟨_, _, _, _, _, rfl, _⟩
  rfl
theorem ok_ulaw_pair (T : Txt K mg t) : FnOk P w K mg base (L2.CX P w) 2 t.a_ulaw_pair t.fd_ulaw_pair ["told", "due"] (sp_ulaw_pair K t) := by
  have G_ulaw_whole := ok_ulaw_whole (P := P) (w := w) (base := base) T
  refine T.F_ulaw_pair.okX sc_ulaw_pair len_ulaw_pair (fun cdv A outer s H vs Q E hr h => ?_)
  have nd := sc_ulaw_pair.nd
  refine ⟨_, (pss_cons (ps_if (PW.pt (pw_or (pt_not (pt_truthK K (pe_callB (call_isiUK K) (by rfl) T.n_isinstance (by decide +kernel) (pa_cons (pv 0) (pa_cons (pe_bltn (v := .ty "tuple") (by rfl) T.n_tuple (by decide +kernel) rfl) pa_nil))))) (pw_or1 (pt_not (pt_truthK K (pe_callB (cr_allK K rfl) (by rfl) T.n_all (by decide +kernel) (pa_cons (pe_lc (own := [("x", 2)]) (g := gName 2) (tt := tYes) rfl nd (pi_UK K (pv 0)) (blkOk_by (N := ["told", "due", "x"]) (sc := defScope s_ulaw_pair) (by decide +kernel)) (fun _ _ _ _ _ => (pg_name (i := 2) nd rfl (Or.inl rfl))) (fun _ _ _ _ _ => pts_nil) (fun _ _ _ _ _ => (pe_call G_ulaw_whole (hr.mono (by decide)) (by rfl) T.g_ulaw_whole T.F_ulaw_whole.kp T.b_ulaw_whole .nil passL (pa_cons (pv 2) pa_nil)))) pa_nil))))))) (pss_one (ps_ret (pe_bl))) pss_nil)
    (pss_one (ps_ret (pe_cmpR (op_eqUK K hr) (pv 0) (pv 1) (by first | exact nomark _ | rfl))))), ?_⟩
  obtain ⟨ps, x_told, x_due, v_told, v_due, rfl, P0, h_told, h_due, k, e, hw, hk, he⟩ := h
  unfold w_ulaw_pair at hw
  refine tSeq_j (tIfS_j (?_))
  refine joinT hw (fun H' => Same H H') (fun b2 H3 s4 hw => ?_) (fun hw hR => ?_)
  rotate_left 1
  · refine tOr_i (tNot_i (tTruth_i (tCB_i (tCons_i (tVar_i (v := v_told) rfl (tCons_i (tC_i (tNil_i (isiT Su h_told (Tru_b (?_)))))))))))
    refine Br_two hw (fun c5 hw => ?_) (fun c5 hw => ?_)
    · exact hR _ _ (Same.refl H) hw
    · refine tNot_i (tTruth_i (tCB_i (tCons_i (tLc_i (wT (tVar_i (v := v_told) rfl (?_)))))))
      obtain ⟨a21, us22, hv23, hS24, hr25, hl26⟩ := (tupVt h_told (raCons raOne) (Nat.le_of_ble_eq_true rfl))
      refine WT_v hv23 (Same.seqT Su hS24) (lcT (pb := pBl) (ps := ps) hw (Same.seqT Su hS24) hr25 hl26 P0 (fun q6 d7 x8 H9 n11 s12 ⟨acc13, e14⟩ hi15 nx16 hw Y17 N18 hY19 hN20 => ?_) (fun q59 H60 acc61 zs62 n63 s64 e65 r66 l67 hw => ?_))
      · have m43 := nin_of n11 P0
        have z44 := Same.free (Same.refl H) n11
        have P45 := dom_up s12 P0
        have T46 := Same.trans (Same.refl H) s12
        have sc47 := Same.trans (Same.refl H) s12
        have P48 := dom_new e14 P45
        have S49 : Same (dels H ps) (dels H9 (q6 :: ps)) := Sn ps s12 n11
        obtain rfl : x8 = (.int d7) := hi15
        refine gN (σ' := [some v_told, some v_due, some (.int d7)]) rfl (wipe_i rfl (tYes_i (Br_t (tCall_i (tCons_i (tVar_i (v := (.int d7)) rfl (tNil_i (?_))))))))
        refine ⟨(q6 :: ps), d7, rfl, P48, _, _, hw, fun r50 hw H51 s52 => ?_, (fun er _ hw => False.elim hw)⟩
        have P53 := dom_up s52 P48
        have T54 := Same.trans T46 s52
        have sc55 := Same.trans sc47 s52
        have sc56 := Same.trans (Same.refl H9) s52
        have e57 := s52 _ _ e14
        have S58 : Same (dels H9 (q6 :: ps)) (dels H51 (q6 :: ps)) := Sd (q6 :: ps) s52
        exact hY19 r50 _ _ sc56 rfl hw
      have m68 := nin_of n63 P0
      have z69 := Same.free (Same.refl H) n63
      have P70 := dom_up s64 P0
      have T71 := Same.trans (Same.refl H) s64
      have sc72 := Same.trans (Same.refl H) s64
      have P73 := dom_new e65 P70
      have S74 : Same (dels H ps) (dels H60 (q59 :: ps)) := Sn ps s64 n63
      have h75 : (pList pBl).rep (dels H60 ps) (.ref q59) zs62 := oFrzG e65 m68 (ss_skip ss_refl) r66 l67
      have P76 := dom_ss (ss_skip ss_refl) P73
      have S77 : Same (dels H60 (q59 :: ps)) (dels H60 ps) := Ss (ss_skip ss_refl)
      refine tNil_i (allS zs62 (slL Su h75) (Tru_b (?_)))
      exact hR _ _ sc72 hw
  have P78 := dom_up s4 P0
  have T79 := Same.trans (Same.refl H) s4
  have S80 : Same (dels H ps) (dels H3 ps) := Sd ps s4
  refine Br_two hw (fun c81 hw => ?_) (fun c81 hw => ?_)
  · refine tRet_j (tC_i (?_))
    exact hk _ hw _ T79
  · refine tNext_j (tRet_j (tOp_i (tVar_i (v := v_told) rfl (tVar_i (v := v_due) rfl (eqS (datTup K (rdCons K (datInt K) (rdOne K (datInt K)))) (((pTup K (rCons pInt (rOne pInt)))).mono Su ((pTup K (rCons pInt (rOne pInt))).mono S80 h_told)) (((pTup K (rCons pInt (rOne pInt)))).mono Su ((pTup K (rCons pInt (rOne pInt))).mono S80 h_due)) ⟨trivial, trivial⟩ ⟨trivial, trivial⟩ (?_))))))
    exact hk _ hw _ T79
def sp_look_same_prime (K : PySem.W.Frag) (t : Tab) : Sp := fun vs H Q E => ∃ (ps : List Addr) (x_prime : Int) (x_thing : (Int × (Int × Int) × (Int × Int))) (v_thing : V), vs = [(.int x_prime), v_thing] ∧ (∀ x ∈ ps, H x ≠ none) ∧ (pIns t.c_Base ["prime", "first", "second"] (rCons pInt (rCons (pTup K (rCons pInt (rOne pInt))) (rOne (pTup K (rCons pInt (rOne pInt))))))).rep (dels H ps) v_thing x_thing ∧ ∃ (k : Unit → Prop) (e : PErr → Prop), w_look_same_prime x_prime x_thing k e ∧ (∀ r, k r → RetI (fun _ => V.non) H Q r) ∧ (∀ er, er.cls ∈ ([8] : List Nat) → e er → ErrK ps t.cl H E er)
theorem len_look_same_prime : ∀ vs H Q E, sp_look_same_prime K t vs H Q E → vs.length = (["prime", "thing"] : List Str).length := by
  rintro vs H Q E ⟨_, _, _, _, rfl, _⟩
  rfl
theorem ok_look_same_prime (T : Txt K mg t) : FnOk P w K mg base (L2.CX P w) 3 t.a_look_same_prime t.fd_look_same_prime ["prime", "thing"] (sp_look_same_prime K t) := by
  have G_PrimeError_init := ok_PrimeError_init (P := P) (w := w) (base := base) T
  refine T.F_look_same_prime.okX sc_look_same_prime len_look_same_prime (fun cdv A outer s H vs Q E hr h => ?_)
  have nd := sc_look_same_prime.nd
  refine ⟨_, (pss_one (ps_if (pt_cmpR (op_neUK K hr) (pe_fldK K (pv 1) rfl) (pv 0) (by first | exact nomark _ | rfl)) (pss_one (ps_raise rfl (takes_of rfl rfl rfl rfl) (pmk_oex T.x_PrimeError T.xi_PrimeError T.xt_PrimeError G_PrimeError_init (hr.mono (by decide)) T.b_PrimeError_init .nil passLF (by rfl) T.g_PrimeError (pa_cons (pe_fldK K (pv 1) rfl) pa_nil)))) pss_nil)), ?_⟩
  obtain ⟨ps, x_prime, x_thing, v_thing, rfl, P0, h_thing, k, e, hw, hk, he⟩ := h
  unfold w_look_same_prime at hw
  refine tIfS_j (tTest_i (tOp_i (tFld_i (tVar_i (v := v_thing) rfl (fldI (j := 0) h_thing Su T.own_Base.cl T.na_Base_prime rgZ rfl (tVar_i (v := (.int x_prime)) rfl (rNeU_i (IsBl_i (?_)))))))))
  refine Br_two hw (fun c1 hw => ?_) (fun c1 hw => ?_)
  · refine tMkO_i (tCons_i (tFld_i (tVar_i (v := v_thing) rfl (fldI (j := 0) h_thing Su T.own_Base.cl T.na_Base_prime rgZ rfl (tNil_i (?_))))))
    exact mkO1n T.x_PrimeError T.xn_PrimeError_prime (raiseK (he _ (by simp) hw) (Same.refl H) P0)
  · refine tNext_j (?_)
    exact hk _ hw _ (Same.refl H)
def sp_Base_moved (K : PySem.W.Frag) (t : Tab) : Sp := fun vs H Q E => ∃ (ps : List Addr) (x_self : (Int × (Int × Int) × (Int × Int))) (x_vector : (Int × Int)) (v_self : V) (v_vector : V), vs = [v_self, v_vector] ∧ (∀ x ∈ ps, H x ≠ none) ∧ (pIns t.c_Base ["prime", "first", "second"] (rCons pInt (rCons (pTup K (rCons pInt (rOne pInt))) (rOne (pTup K (rCons pInt (rOne pInt))))))).rep (dels H ps) v_self x_self ∧ (pTup K (rCons pInt (rOne pInt))).rep (dels H ps) v_vector x_vector ∧ ∃ (k : (Int × Int) → Prop) (e : PErr → Prop), w_Base_moved x_self x_vector k e ∧ (∀ r, k r → RetK ps (pTup K (rCons pInt (rOne pInt))) H Q r) ∧ (∀ er, er.cls ∈ ([2] : List Nat) → e er → ErrK ps t.cl H E er)
theorem len_Base_moved : ∀ vs H Q E, sp_Base_moved K t vs H Q E → vs.length = (["self", "vector"] : List Str).length := by
  rintro vs H Q E ⟨_, _, _, _, _, rfl, _⟩
  rfl
theorem ok_Base_moved (T : Txt K mg t) : FnOk P w K mg base (L2.CX P w) 5 t.a_Base_moved t.fd_Base_moved ["self", "vector"] (sp_Base_moved K t) := by
  have G_look_pair := ok_look_pair (P := P) (w := w) (base := base) T
  refine T.F_Base_moved.okX sc_Base_moved len_Base_moved (fun cdv A outer s H vs Q E hr h => ?_)
  have nd := sc_Base_moved.nd
  refine ⟨_, (pss_cons (ps_expr (pe_callS G_look_pair (hr.mono (by decide)) (by rfl) T.g_look_pair T.F_look_pair.kp T.b_look_pair (fun σ => passAt (takes_of rfl rfl rfl rfl) σ) (pa_cons (pe_fldK K (pv 0) rfl) (pa_cons (pv 1) pa_nil))))
    (pss_cons (ps_asg (pv 1) (pg_tupK K 2 rfl (pgs_cons (pg_name (i := 2) nd rfl (Or.inl rfl)) (pgs_cons (pg_name (i := 3) nd rfl (Or.inl rfl)) pgs_nil))))
    (pss_cons (ps_asg (pe_fldK K (pv 0) rfl) (pg_tupK K 2 rfl (pgs_cons (pg_name (i := 4) nd rfl (Or.inl rfl)) (pgs_cons (pg_name (i := 5) nd rfl (Or.inl rfl)) pgs_nil))))
    (pss_cons (ps_asg (pe_fldK K (pv 0) rfl) (pg_tupK K 2 rfl (pgs_cons (pg_name (i := 6) nd rfl (Or.inl rfl)) (pgs_cons (pg_name (i := 7) nd rfl (Or.inl rfl)) pgs_nil))))
    (pss_one (ps_ret (pe_tup (pa_cons (pe_op op_modP (pe_op (op_addUK K) (pe_op op_mulU (pv 2) (pv 4)) (pe_op op_mulU (pv 3) (pv 6))) (pe_fldK K (pv 0) rfl)) (pa_cons (pe_op op_modP (pe_op (op_addUK K) (pe_op op_mulU (pv 2) (pv 5)) (pe_op op_mulU (pv 3) (pv 7))) (pe_fldK K (pv 0) rfl)) pa_nil))))))))), ?_⟩
  obtain ⟨ps, x_self, x_vector, v_self, v_vector, rfl, P0, h_self, h_vector, k, e, hw, hk, he⟩ := h
  unfold w_Base_moved at hw
  refine tSeq_j (tDrop_j (tCallS_i (tCons_i (tFld_i (tVar_i (v := v_self) rfl (fldI (j := 0) h_self Su T.own_Base.cl T.na_Base_prime rgZ rfl (tCons_i (tVar_i (v := v_vector) rfl (tNil_i (?_))))))))))
  refine ⟨ps, x_self.1, x_vector, v_vector, rfl, P0, h_vector, _, _, hw, fun r1 hw H2 s3 => ?_, (fun er hc hw => errUp (Same.refl H) ss_refl (he er (by simp only [List.mem_cons, List.not_mem_nil, or_false] at hc ⊢; omega) hw))⟩
  have P4 := dom_up s3 P0
  have T5 := Same.trans (Same.refl H) s3
  have S6 : Same (dels H ps) (dels H2 ps) := Sd ps s3
  refine tSeq_j (tAsg_j (tVar_i (v := v_vector) rfl (gTupS h_vector (Same.trans S6 Su) (fun vs7 hv8 => ?_))))
  obtain ⟨ws10, rfl, hv9⟩ := rowCi hv8
  obtain rfl := rowOi hv9
  refine ⟨rfl, ?_⟩
  refine gCons_i (gN (σ' := [some v_self, some v_vector, some (.int x_vector.1), none, none, none, none, none]) rfl (gCons_i (gN (σ' := [some v_self, some v_vector, some (.int x_vector.1), some (.int x_vector.2), none, none, none, none]) rfl (gNil_i (tSeq_j (tAsg_j (tFld_i (tVar_i (v := v_self) rfl (fldS (j := 1) h_self (Same.trans S6 Su) T.own_Base.cl T.na_Base_first (rgS rgZ) rfl (fun u11 h12 => gTupS h12 (Same.trans S6 Su) (fun vs13 hv14 => ?_)))))))))))
  obtain ⟨ws16, rfl, hv15⟩ := rowCi hv14
  obtain rfl := rowOi hv15
  refine ⟨rfl, ?_⟩
  refine gCons_i (gN (σ' := [some v_self, some v_vector, some (.int x_vector.1), some (.int x_vector.2), some (.int x_self.2.1.1), none, none, none]) rfl (gCons_i (gN (σ' := [some v_self, some v_vector, some (.int x_vector.1), some (.int x_vector.2), some (.int x_self.2.1.1), some (.int x_self.2.1.2), none, none]) rfl (gNil_i (tSeq_j (tAsg_j (tFld_i (tVar_i (v := v_self) rfl (fldS (j := 2) h_self (Same.trans S6 Su) T.own_Base.cl T.na_Base_second (rgS (rgS rgOne)) rfl (fun u17 h18 => gTupS h18 (Same.trans S6 Su) (fun vs19 hv20 => ?_)))))))))))
  obtain ⟨ws22, rfl, hv21⟩ := rowCi hv20
  obtain rfl := rowOi hv21
  refine ⟨rfl, ?_⟩
  refine gCons_i (gN (σ' := [some v_self, some v_vector, some (.int x_vector.1), some (.int x_vector.2), some (.int x_self.2.1.1), some (.int x_self.2.1.2), some (.int x_self.2.2.1), none]) rfl (gCons_i (gN (σ' := [some v_self, some v_vector, some (.int x_vector.1), some (.int x_vector.2), some (.int x_self.2.1.1), some (.int x_self.2.1.2), some (.int x_self.2.2.1), some (.int x_self.2.2.2)]) rfl (gNil_i (tRet_j (tTup_i (tCons_i (tOp_i (tOp_i (tOp_i (tVar_i (v := (.int x_vector.1)) rfl (tVar_i (v := (.int x_self.2.1.1)) rfl (rMulU_i hw.1 (tOp_i (tVar_i (v := (.int x_vector.2)) rfl (tVar_i (v := (.int x_self.2.2.1)) rfl (rMulU_i hw.2.1 (rAddU_i (tFld_i (tVar_i (v := v_self) rfl (fldI (j := 0) h_self (Same.trans S6 Su) T.own_Base.cl T.na_Base_prime rgZ rfl (rModP_i hw.2.2.1 (tCons_i (tOp_i (tOp_i (tOp_i (tVar_i (v := (.int x_vector.1)) rfl (tVar_i (v := (.int x_self.2.1.2)) rfl (rMulU_i hw.2.2.2.1 (tOp_i (tVar_i (v := (.int x_vector.2)) rfl (tVar_i (v := (.int x_self.2.2.2)) rfl (rMulU_i hw.2.2.2.2.1 (rAddU_i (tFld_i (tVar_i (v := v_self) rfl (fldI (j := 0) h_self (Same.trans S6 Su) T.own_Base.cl T.na_Base_prime rgZ rfl (rModP_i hw.2.2.2.2.2.1 (tNil_i (new_i (Nat.le_of_ble_eq_true rfl) (fun q23 H24 n25 s26 e27 => ?_)))))))))))))))))))))))))))))))))))))))))
  have P29 := dom_up s26 P4
  have T30 := Same.trans T5 s26
  have S31 : Same (dels H2 ps) (dels H24 ps) := Sd ps s26
  have h28 : (pTup K (rCons pInt (rOne pInt))).rep (dels H24 ps) (.ref q23) ((((x_vector.1 * x_self.2.1.1) + (x_vector.2 * x_self.2.2.1)) % x_self.1), (((x_vector.1 * x_self.2.1.2) + (x_vector.2 * x_self.2.2.2)) % x_self.1)) := tupR (dels_at e27 (nin_of n25 P4)) (rowC rfl (rowO rfl))
  exact hk _ hw.2.2.2.2.2.2 _ _ T30 h28
def sp_moved_frame (K : PySem.W.Frag) (t : Tab) : Sp := fun vs H Q E => ∃ (ps : List Addr) (x_prime : Int) (x_frame : (Int × Int)) (x_base : (Int × (Int × Int) × (Int × Int))) (v_frame : V) (v_base : V), vs = [(.int x_prime), v_frame, v_base] ∧ (∀ x ∈ ps, H x ≠ none) ∧ (pTup K (rCons pInt (rOne pInt))).rep (dels H ps) v_frame x_frame ∧ (pIns t.c_Base ["prime", "first", "second"] (rCons pInt (rCons (pTup K (rCons pInt (rOne pInt))) (rOne (pTup K (rCons pInt (rOne pInt))))))).rep (dels H ps) v_base x_base ∧ ∃ (k : (Int × Int) → Prop) (e : PErr → Prop), w_moved_frame x_prime x_frame x_base k e ∧ (∀ r, k r → RetK ps (pTup K (rCons pInt (rOne pInt))) H Q r) ∧ (∀ er, er.cls ∈ ([2, 8, 20] : List Nat) → e er → ErrK ps t.cl H E er)
theorem len_moved_frame : ∀ vs H Q E, sp_moved_frame K t vs H Q E → vs.length = (["prime", "frame", "base"] : List Str).length := by
  rintro vs H Q E ⟨_, _, _, _, _, _, rfl, _⟩
  rfl
theorem ok_moved_frame (T : Txt K mg t) : FnOk P w K mg base (L2.CX P w) 8 t.a_moved_frame t.fd_moved_frame ["prime", "frame", "base"] (sp_moved_frame K t) := by
  have G_look_prime := ok_look_prime (P := P) (w := w) (base := base) T
  have G_look_frame := ok_look_frame (P := P) (w := w) (base := base) T
  have G_look_same_prime := ok_look_same_prime (P := P) (w := w) (base := base) T
  have G_point_vector := ok_point_vector (P := P) (w := w) (base := base) T
  have G_Base_moved := ok_Base_moved (P := P) (w := w) (base := base) T
  have G_point_of := ok_point_of (P := P) (w := w) (base := base) T
  have G_ordered := ok_ordered (P := P) (w := w) (base := base) T
  refine T.F_moved_frame.okX sc_moved_frame len_moved_frame (fun cdv A outer s H vs Q E hr h => ?_)
  have nd := sc_moved_frame.nd
  refine ⟨_, (pss_cons (ps_expr (pe_callS G_look_prime (hr.mono (by decide)) (by rfl) T.g_look_prime T.F_look_prime.kp T.b_look_prime (fun σ => passAt (takes_of rfl rfl rfl rfl) σ) (pa_cons (pv 0) pa_nil)))
    (pss_cons (ps_expr (pe_callS G_look_frame (hr.mono (by decide)) (by rfl) T.g_look_frame T.F_look_frame.kp T.b_look_frame (fun σ => passAt (takes_of rfl rfl rfl rfl) σ) (pa_cons (pv 0) (pa_cons (pv 1) pa_nil))))
    (pss_cons (ps_expr (pe_callS G_look_same_prime (hr.mono (by decide)) (by rfl) T.g_look_same_prime T.F_look_same_prime.kp T.b_look_same_prime (fun σ => passAt (takes_of rfl rfl rfl rfl) σ) (pa_cons (pv 0) (pa_cons (pv 2) pa_nil))))
    (pss_cons (ps_set (i := 3) nd rfl (Or.inl rfl) (pe_mth (C := t.c_Base) (pv 2) T.own_Base.cl T.mt_Base_moved G_Base_moved (hr.mono (by decide)) T.b_Base_moved (fun σ => passAt (takes_of rfl rfl rfl rfl) σ) (pa_cons (pe_callS G_point_vector (hr.mono (by decide)) (by rfl) T.g_point_vector T.F_point_vector.kp T.b_point_vector (fun σ => passAt (takes_of rfl rfl rfl rfl) σ) (pa_cons (pv 0) (pa_cons (pe_ix (ix_UK K) (pv 1) (pe_int) (fun _ _ => rfl)) pa_nil))) pa_nil)))
    (pss_cons (ps_set (i := 4) nd rfl (Or.inl rfl) (pe_mth (C := t.c_Base) (pv 2) T.own_Base.cl T.mt_Base_moved G_Base_moved (hr.mono (by decide)) T.b_Base_moved (fun σ => passAt (takes_of rfl rfl rfl rfl) σ) (pa_cons (pe_callS G_point_vector (hr.mono (by decide)) (by rfl) T.g_point_vector T.F_point_vector.kp T.b_point_vector (fun σ => passAt (takes_of rfl rfl rfl rfl) σ) (pa_cons (pv 0) (pa_cons (pe_ix (ix_UK K) (pv 1) (pe_int) (fun _ _ => rfl)) pa_nil))) pa_nil)))
    (pss_one (ps_ret (pe_callS G_ordered (hr.mono (by decide)) (by rfl) T.g_ordered T.F_ordered.kp T.b_ordered (fun σ => passAt (takes_of rfl rfl rfl rfl) σ) (pa_cons (pe_callS G_point_of (hr.mono (by decide)) (by rfl) T.g_point_of T.F_point_of.kp T.b_point_of (fun σ => passAt (takes_of rfl rfl rfl rfl) σ) (pa_cons (pv 0) (pa_cons (pv 3) pa_nil))) (pa_cons (pe_callS G_point_of (hr.mono (by decide)) (by rfl) T.g_point_of T.F_point_of.kp T.b_point_of (fun σ => passAt (takes_of rfl rfl rfl rfl) σ) (pa_cons (pv 0) (pa_cons (pv 4) pa_nil))) pa_nil)))))))))), ?_⟩
  obtain ⟨ps, x_prime, x_frame, x_base, v_frame, v_base, rfl, P0, h_frame, h_base, k, e, hw, hk, he⟩ := h
  unfold w_moved_frame at hw
  refine tSeq_j (tDrop_j (tCallS_i (tCons_i (tVar_i (v := (.int x_prime)) rfl (tNil_i (?_))))))
  refine ⟨ps, x_prime, rfl, P0, _, _, hw, fun r1 hw H2 s3 => ?_, (fun er hc hw => errUp (Same.refl H) ss_refl (he er (by simp only [List.mem_cons, List.not_mem_nil, or_false] at hc ⊢; omega) hw))⟩
  have P4 := dom_up s3 P0
  have T5 := Same.trans (Same.refl H) s3
  have S6 : Same (dels H ps) (dels H2 ps) := Sd ps s3
  refine tSeq_j (tDrop_j (tCallS_i (tCons_i (tVar_i (v := (.int x_prime)) rfl (tCons_i (tVar_i (v := v_frame) rfl (tNil_i (?_))))))))
  refine ⟨ps, x_prime, x_frame, v_frame, rfl, P4, ((pTup K (rCons pInt (rOne pInt))).mono S6 h_frame), _, _, hw, fun r7 hw H8 s9 => ?_, (fun er hc hw => errUp T5 ss_refl (he er (by simp only [List.mem_cons, List.not_mem_nil, or_false] at hc ⊢; omega) hw))⟩
  have P10 := dom_up s9 P4
  have T11 := Same.trans T5 s9
  have S12 : Same (dels H2 ps) (dels H8 ps) := Sd ps s9
  refine tSeq_j (tDrop_j (tCallS_i (tCons_i (tVar_i (v := (.int x_prime)) rfl (tCons_i (tVar_i (v := v_base) rfl (tNil_i (?_))))))))
  refine ⟨ps, x_prime, x_base, v_base, rfl, P10, ((pIns t.c_Base ["prime", "first", "second"] (rCons pInt (rCons (pTup K (rCons pInt (rOne pInt))) (rOne (pTup K (rCons pInt (rOne pInt))))))).mono (S6.trans S12) h_base), _, _, hw, fun r13 hw H14 s15 => ?_, (fun er hc hw => errUp T11 ss_refl (he er (by simp only [List.mem_cons, List.not_mem_nil, or_false] at hc ⊢; omega) hw))⟩
  have P16 := dom_up s15 P10
  have T17 := Same.trans T11 s15
  have S18 : Same (dels H8 ps) (dels H14 ps) := Sd ps s15
  refine tSeq_j (tAsg_j (tMth_i (tVar_i (v := v_base) rfl (mthS h_base (Same.trans (S6.trans (S12.trans S18)) Su) (by decide +kernel) (tCons_i (tCallS_i (tCons_i (tVar_i (v := (.int x_prime)) rfl (tCons_i (tOp_i (tVar_i (v := v_frame) rfl (tC_i (ixTI (j := 0) h_frame (Same.trans (S6.trans (S12.trans S18)) Su) rgZ rfl (tNil_i (?_)))))))))))))))
  refine ⟨ps, x_prime, x_frame.1, rfl, P16, _, _, hw, fun r19 hw H20 v22 s21 h23 => ?_, (fun er hc hw => errUp T17 ss_refl (he er (by simp only [List.mem_cons, List.not_mem_nil, or_false] at hc ⊢; omega) hw))⟩
  have P24 := dom_up s21 P16
  have T25 := Same.trans T17 s21
  have S26 : Same (dels H14 ps) (dels H20 ps) := Sd ps s21
  refine tNil_i (?_)
  refine ⟨ps, x_base, r19, v_base, v22, rfl, P24, ((pIns t.c_Base ["prime", "first", "second"] (rCons pInt (rCons (pTup K (rCons pInt (rOne pInt))) (rOne (pTup K (rCons pInt (rOne pInt))))))).mono (S6.trans (S12.trans (S18.trans S26))) h_base), h23, _, _, hw, fun r27 hw H28 v30 s29 h31 => ?_, (fun er hc hw => errUp T25 ss_refl (he er (by simp only [List.mem_cons, List.not_mem_nil, or_false] at hc ⊢; omega) hw))⟩
  have P32 := dom_up s29 P24
  have T33 := Same.trans T25 s29
  have S34 : Same (dels H20 ps) (dels H28 ps) := Sd ps s29
  refine gN (σ' := [some (.int x_prime), some v_frame, some v_base, some v30, none]) rfl (tSeq_j (tAsg_j (tMth_i (tVar_i (v := v_base) rfl (mthS h_base (Same.trans (S6.trans (S12.trans (S18.trans (S26.trans S34)))) Su) (by decide +kernel) (tCons_i (tCallS_i (tCons_i (tVar_i (v := (.int x_prime)) rfl (tCons_i (tOp_i (tVar_i (v := v_frame) rfl (tC_i (ixTI (j := 1) h_frame (Same.trans (S6.trans (S12.trans (S18.trans (S26.trans S34)))) Su) (rgS rgOne) rfl (tNil_i (?_))))))))))))))))
  refine ⟨ps, x_prime, x_frame.2, rfl, P32, _, _, hw, fun r35 hw H36 v38 s37 h39 => ?_, (fun er hc hw => errUp T33 ss_refl (he er (by simp only [List.mem_cons, List.not_mem_nil, or_false] at hc ⊢; omega) hw))⟩
  have P40 := dom_up s37 P32
  have T41 := Same.trans T33 s37
  have S42 : Same (dels H28 ps) (dels H36 ps) := Sd ps s37
  refine tNil_i (?_)
  refine ⟨ps, x_base, r35, v_base, v38, rfl, P40, ((pIns t.c_Base ["prime", "first", "second"] (rCons pInt (rCons (pTup K (rCons pInt (rOne pInt))) (rOne (pTup K (rCons pInt (rOne pInt))))))).mono (S6.trans (S12.trans (S18.trans (S26.trans (S34.trans S42))))) h_base), h39, _, _, hw, fun r43 hw H44 v46 s45 h47 => ?_, (fun er hc hw => errUp T41 ss_refl (he er (by simp only [List.mem_cons, List.not_mem_nil, or_false] at hc ⊢; omega) hw))⟩
  have P48 := dom_up s45 P40
  have T49 := Same.trans T41 s45
  have S50 : Same (dels H36 ps) (dels H44 ps) := Sd ps s45
  refine gN (σ' := [some (.int x_prime), some v_frame, some v_base, some v30, some v46]) rfl (tRet_j (tCallS_i (tCons_i (tCallS_i (tCons_i (tVar_i (v := (.int x_prime)) rfl (tCons_i (tVar_i (v := v30) rfl (tNil_i (?_))))))))))
  refine ⟨ps, x_prime, r27, v30, rfl, P48, ((pTup K (rCons pInt (rOne pInt))).mono (S42.trans S50) h31), _, _, hw, fun r51 hw H52 s53 => ?_, (fun er hc hw => errUp T49 ss_refl (he er (by simp only [List.mem_cons, List.not_mem_nil, or_false] at hc ⊢; omega) hw))⟩
  have P54 := dom_up s53 P48
  have T55 := Same.trans T49 s53
  have S56 : Same (dels H44 ps) (dels H52 ps) := Sd ps s53
  refine tCons_i (tCallS_i (tCons_i (tVar_i (v := (.int x_prime)) rfl (tCons_i (tVar_i (v := v46) rfl (tNil_i (?_)))))))
  refine ⟨ps, x_prime, r43, v46, rfl, P54, ((pTup K (rCons pInt (rOne pInt))).mono S56 h47), _, _, hw, fun r57 hw H58 s59 => ?_, (fun er hc hw => errUp T55 ss_refl (he er (by simp only [List.mem_cons, List.not_mem_nil, or_false] at hc ⊢; omega) hw))⟩
  have P60 := dom_up s59 P54
  have T61 := Same.trans T55 s59
  have S62 : Same (dels H52 ps) (dels H58 ps) := Sd ps s59
  refine tNil_i (?_)
  refine ⟨ps, r51, r57, rfl, P60, _, _, hw, fun r63 hw H64 v66 s65 h67 => ?_, (fun er hc hw => errUp T61 ss_refl (he er (absurd hc (List.not_mem_nil)) hw))⟩
  have P68 := dom_up s65 P60
  have T69 := Same.trans T61 s65
  have S70 : Same (dels H58 ps) (dels H64 ps) := Sd ps s65
  exact hk _ hw _ _ T69 h67
def sp_ulaw_mixed (K : PySem.W.Frag) (t : Tab) : Sp := fun vs H Q E => ∃ (ps : List Addr) (x_p : Int) (x_one : ((Int × Int) × (Int × Int))) (x_vector : (Int × Int)) (v_one : V) (v_vector : V), vs = [(.int x_p), v_one, v_vector] ∧ (∀ x ∈ ps, H x ≠ none) ∧ (pTup K (rCons (pTup K (rCons pInt (rOne pInt))) (rOne (pTup K (rCons pInt (rOne pInt)))))).rep (dels H ps) v_one x_one ∧ (pTup K (rCons pInt (rOne pInt))).rep (dels H ps) v_vector x_vector ∧ ∃ (k : (Int × Int) → Prop) (e : PErr → Prop), w_ulaw_mixed x_p x_one x_vector k e ∧ (∀ r, k r → RetK ps (pTup K (rCons pInt (rOne pInt))) H Q r) ∧ (∀ er, er.cls ∈ ([] : List Nat) → e er → ErrK ps t.cl H E er)
theorem len_ulaw_mixed : ∀ vs H Q E, sp_ulaw_mixed K t vs H Q E → vs.length = (["p", "one", "vector"] : List Str).length := by
  rintro vs H Q E ⟨_, _, _, _, _, _, rfl, _⟩
  rfl
theorem ok_ulaw_mixed (T : Txt K mg t) : FnOk P w K mg base (L2.CX P w) 1 t.a_ulaw_mixed t.fd_ulaw_mixed ["p", "one", "vector"] (sp_ulaw_mixed K t) := by
  refine T.F_ulaw_mixed.okX sc_ulaw_mixed len_ulaw_mixed (fun cdv A outer s H vs Q E hr h => ?_)
  have nd := sc_ulaw_mixed.nd
  refine ⟨_, (pss_cons (ps_asg (pv 2) (pg_tupK K 2 rfl (pgs_cons (pg_name (i := 3) nd rfl (Or.inl rfl)) (pgs_cons (pg_name (i := 4) nd rfl (Or.inl rfl)) pgs_nil))))
    (pss_cons (ps_set (i := 5) nd rfl (Or.inl rfl) (pe_op op_modP (pe_callTy call_int1D (by rfl) T.n_int (by decide +kernel) (pa_cons (pe_op (op_addUK K) (pe_op op_mulU (pv 3) (pe_ix (ix_UK K) (pe_ix (ix_UK K) (pv 1) (pe_int) (fun _ _ => rfl)) (pe_int) (fun _ _ => rfl))) (pe_op op_mulU (pv 4) (pe_ix (ix_UK K) (pe_ix (ix_UK K) (pv 1) (pe_int) (fun _ _ => rfl)) (pe_int) (fun _ _ => rfl)))) pa_nil)) (pv 0)))
    (pss_one (ps_ret (pe_tup (pa_cons (pv 5) (pa_cons (pe_op op_modP (pe_callTy call_int1D (by rfl) T.n_int (by decide +kernel) (pa_cons (pe_op (op_addUK K) (pe_op op_mulU (pv 3) (pe_ix (ix_UK K) (pe_ix (ix_UK K) (pv 1) (pe_int) (fun _ _ => rfl)) (pe_int) (fun _ _ => rfl))) (pe_op op_mulU (pv 4) (pe_ix (ix_UK K) (pe_ix (ix_UK K) (pv 1) (pe_int) (fun _ _ => rfl)) (pe_int) (fun _ _ => rfl)))) pa_nil)) (pv 0)) pa_nil))))))), ?_⟩
  obtain ⟨ps, x_p, x_one, x_vector, v_one, v_vector, rfl, P0, h_one, h_vector, k, e, hw, hk, he⟩ := h
  unfold w_ulaw_mixed at hw
  refine tSeq_j (tAsg_j (tVar_i (v := v_vector) rfl (gTupS h_vector Su (fun vs1 hv2 => ?_))))
  obtain ⟨ws4, rfl, hv3⟩ := rowCi hv2
  obtain rfl := rowOi hv3
  refine ⟨rfl, ?_⟩
  refine gCons_i (gN (σ' := [some (.int x_p), some v_one, some v_vector, some (.int x_vector.1), none, none]) rfl (gCons_i (gN (σ' := [some (.int x_p), some v_one, some v_vector, some (.int x_vector.1), some (.int x_vector.2), none]) rfl (gNil_i (tSeq_j (tAsg_j (tOp_i (tCB_i (tCons_i (tOp_i (tOp_i (tVar_i (v := (.int x_vector.1)) rfl (tOp_i (tOp_i (tVar_i (v := v_one) rfl (tC_i (ixT (j := 0) h_one Su rgZ rfl (fun u5 h6 => tC_i (ixTI (j := 0) h6 Su rgZ rfl (rMulU_i hw.1 (tOp_i (tVar_i (v := (.int x_vector.2)) rfl (tOp_i (tOp_i (tVar_i (v := v_one) rfl (tC_i (ixT (j := 1) h_one Su (rgS rgOne) rfl (fun u7 h8 => tC_i (ixTI (j := 0) h8 Su rgZ rfl (rMulU_i hw.2.1 (rAddU_i (tNil_i (rInt1_i (tVar_i (v := (.int x_p)) rfl (rModP_i hw.2.2.1 (?_))))))))))))))))))))))))))))))))))))
  refine asgIL (f := V.int) (e := (((x_vector.1 * x_one.1.1) + (x_vector.2 * x_one.2.1)) % x_p)) (g := fun y9 => [some (.int x_p), some v_one, some v_vector, some (.int x_vector.1), some (.int x_vector.2), some (.int y9)]) hw.2.2.2 (fun _ => rfl) (fun y9 hw => ?_)
  refine tRet_j (tTup_i (tCons_i (tVar_i (v := (.int y9)) rfl (tCons_i (tOp_i (tCB_i (tCons_i (tOp_i (tOp_i (tVar_i (v := (.int x_vector.1)) rfl (tOp_i (tOp_i (tVar_i (v := v_one) rfl (tC_i (ixT (j := 0) h_one Su rgZ rfl (fun u10 h11 => tC_i (ixTI (j := 1) h11 Su (rgS rgOne) rfl (rMulU_i hw.1 (tOp_i (tVar_i (v := (.int x_vector.2)) rfl (tOp_i (tOp_i (tVar_i (v := v_one) rfl (tC_i (ixT (j := 1) h_one Su (rgS rgOne) rfl (fun u12 h13 => tC_i (ixTI (j := 1) h13 Su (rgS rgOne) rfl (rMulU_i hw.2.1 (rAddU_i (tNil_i (rInt1_i (tVar_i (v := (.int x_p)) rfl (rModP_i hw.2.2.1 (tNil_i (new_i (Nat.le_of_ble_eq_true rfl) (fun q14 H15 n16 s17 e18 => ?_))))))))))))))))))))))))))))))))))))
  have P20 := dom_up s17 P0
  have T21 := Same.trans (Same.refl H) s17
  have S22 : Same (dels H ps) (dels H15 ps) := Sd ps s17
  have h19 : (pTup K (rCons pInt (rOne pInt))).rep (dels H15 ps) (.ref q14) (y9, (((x_vector.1 * x_one.1.2) + (x_vector.2 * x_one.2.2)) % x_p)) := tupR (dels_at e18 (nin_of n16 P0)) (rowC rfl (rowO rfl))
  exact hk _ hw.2.2.2 _ _ T21 h19
def sp_ulaw_moved (K : PySem.W.Frag) (t : Tab) : Sp := fun vs H Q E => ∃ (ps : List Addr) (x_p : Int) (x_frame : (Int × Int)) (x_one : ((Int × Int) × (Int × Int))) (v_frame : V) (v_one : V), vs = [(.int x_p), v_frame, v_one] ∧ (∀ x ∈ ps, H x ≠ none) ∧ (pTup K (rCons pInt (rOne pInt))).rep (dels H ps) v_frame x_frame ∧ (pTup K (rCons (pTup K (rCons pInt (rOne pInt))) (rOne (pTup K (rCons pInt (rOne pInt)))))).rep (dels H ps) v_one x_one ∧ ∃ (k : (Int × Int) → Prop) (e : PErr → Prop), w_ulaw_moved x_p x_frame x_one k e ∧ (∀ r, k r → RetK ps (pTup K (rCons pInt (rOne pInt))) H Q r) ∧ (∀ er, er.cls ∈ ([] : List Nat) → e er → ErrK ps t.cl H E er)
theorem len_ulaw_moved : ∀ vs H Q E, sp_ulaw_moved K t vs H Q E → vs.length = (["p", "frame", "one"] : List Str).length := by
  rintro vs H Q E ⟨_, _, _, _, _, _, rfl, _⟩
  rfl
theorem ok_ulaw_moved (T : Txt K mg t) : FnOk P w K mg base (L2.CX P w) 2 t.a_ulaw_moved t.fd_ulaw_moved ["p", "frame", "one"] (sp_ulaw_moved K t) := by
  have G_ulaw_vector := ok_ulaw_vector (P := P) (w := w) (base := base) T
  have G_ulaw_mixed := ok_ulaw_mixed (P := P) (w := w) (base := base) T
  have G_ulaw_point := ok_ulaw_point (P := P) (w := w) (base := base) T
  refine T.F_ulaw_moved.okX sc_ulaw_moved len_ulaw_moved (fun cdv A outer s H vs Q E hr h => ?_)
  have nd := sc_ulaw_moved.nd
  refine ⟨_, (pss_cons (ps_set (i := 3) nd rfl (Or.inl rfl) (pe_callS G_ulaw_point (hr.mono (by decide)) (by rfl) T.g_ulaw_point T.F_ulaw_point.kp T.b_ulaw_point (fun σ => passAt (takes_of rfl rfl rfl rfl) σ) (pa_cons (pv 0) (pa_cons (pe_callS G_ulaw_mixed (hr.mono (by decide)) (by rfl) T.g_ulaw_mixed T.F_ulaw_mixed.kp T.b_ulaw_mixed (fun σ => passAt (takes_of rfl rfl rfl rfl) σ) (pa_cons (pv 0) (pa_cons (pv 2) (pa_cons (pe_callS G_ulaw_vector (hr.mono (by decide)) (by rfl) T.g_ulaw_vector T.F_ulaw_vector.kp T.b_ulaw_vector (fun σ => passAt (takes_of rfl rfl rfl rfl) σ) (pa_cons (pv 0) (pa_cons (pe_ix (ix_UK K) (pv 1) (pe_int) (fun _ _ => rfl)) pa_nil))) pa_nil)))) pa_nil))))
    (pss_cons (ps_set (i := 4) nd rfl (Or.inl rfl) (pe_callS G_ulaw_point (hr.mono (by decide)) (by rfl) T.g_ulaw_point T.F_ulaw_point.kp T.b_ulaw_point (fun σ => passAt (takes_of rfl rfl rfl rfl) σ) (pa_cons (pv 0) (pa_cons (pe_callS G_ulaw_mixed (hr.mono (by decide)) (by rfl) T.g_ulaw_mixed T.F_ulaw_mixed.kp T.b_ulaw_mixed (fun σ => passAt (takes_of rfl rfl rfl rfl) σ) (pa_cons (pv 0) (pa_cons (pv 2) (pa_cons (pe_callS G_ulaw_vector (hr.mono (by decide)) (by rfl) T.g_ulaw_vector T.F_ulaw_vector.kp T.b_ulaw_vector (fun σ => passAt (takes_of rfl rfl rfl rfl) σ) (pa_cons (pv 0) (pa_cons (pe_ix (ix_UK K) (pv 1) (pe_int) (fun _ _ => rfl)) pa_nil))) pa_nil)))) pa_nil))))
    (pss_one (ps_ret (pe_tup (pa_cons (pe_callB (call_min2D rfl) (by rfl) T.n_min (by decide +kernel) (pa_cons (pv 3) (pa_cons (pv 4) pa_nil))) (pa_cons (pe_callB (call_max2D rfl) (by rfl) T.n_max (by decide +kernel) (pa_cons (pv 3) (pa_cons (pv 4) pa_nil))) pa_nil))))))), ?_⟩
  obtain ⟨ps, x_p, x_frame, x_one, v_frame, v_one, rfl, P0, h_frame, h_one, k, e, hw, hk, he⟩ := h
  unfold w_ulaw_moved at hw
  refine tSeq_j (tAsg_j (tCallS_i (tCons_i (tVar_i (v := (.int x_p)) rfl (tCons_i (tCallS_i (tCons_i (tVar_i (v := (.int x_p)) rfl (tCons_i (tVar_i (v := v_one) rfl (tCons_i (tCallS_i (tCons_i (tVar_i (v := (.int x_p)) rfl (tCons_i (tOp_i (tVar_i (v := v_frame) rfl (tC_i (ixTI (j := 0) h_frame Su rgZ rfl (tNil_i (?_)))))))))))))))))))))
  refine ⟨ps, x_p, x_frame.1, rfl, P0, _, _, hw, fun r1 hw H2 v4 s3 h5 => ?_, (fun er hc hw => errUp (Same.refl H) ss_refl (he er (absurd hc (List.not_mem_nil)) hw))⟩
  have P6 := dom_up s3 P0
  have T7 := Same.trans (Same.refl H) s3
  have S8 : Same (dels H ps) (dels H2 ps) := Sd ps s3
  refine tNil_i (?_)
  refine ⟨ps, x_p, x_one, r1, v_one, v4, rfl, P6, ((pTup K (rCons (pTup K (rCons pInt (rOne pInt))) (rOne (pTup K (rCons pInt (rOne pInt)))))).mono S8 h_one), h5, _, _, hw, fun r9 hw H10 v12 s11 h13 => ?_, (fun er hc hw => errUp T7 ss_refl (he er (absurd hc (List.not_mem_nil)) hw))⟩
  have P14 := dom_up s11 P6
  have T15 := Same.trans T7 s11
  have S16 : Same (dels H2 ps) (dels H10 ps) := Sd ps s11
  refine tNil_i (?_)
  refine ⟨ps, x_p, r9, v12, rfl, P14, h13, _, _, hw, fun r17 hw H18 s19 => ?_, (fun er hc hw => errUp T15 ss_refl (he er (absurd hc (List.not_mem_nil)) hw))⟩
  have P20 := dom_up s19 P14
  have T21 := Same.trans T15 s19
  have S22 : Same (dels H10 ps) (dels H18 ps) := Sd ps s19
  refine gN (σ' := [some (.int x_p), some v_frame, some v_one, some (.int r17), none]) rfl (tSeq_j (tAsg_j (tCallS_i (tCons_i (tVar_i (v := (.int x_p)) rfl (tCons_i (tCallS_i (tCons_i (tVar_i (v := (.int x_p)) rfl (tCons_i (tVar_i (v := v_one) rfl (tCons_i (tCallS_i (tCons_i (tVar_i (v := (.int x_p)) rfl (tCons_i (tOp_i (tVar_i (v := v_frame) rfl (tC_i (ixTI (j := 1) h_frame (Same.trans (S8.trans (S16.trans S22)) Su) (rgS rgOne) rfl (tNil_i (?_))))))))))))))))))))))
  refine ⟨ps, x_p, x_frame.2, rfl, P20, _, _, hw, fun r23 hw H24 v26 s25 h27 => ?_, (fun er hc hw => errUp T21 ss_refl (he er (absurd hc (List.not_mem_nil)) hw))⟩
  have P28 := dom_up s25 P20
  have T29 := Same.trans T21 s25
  have S30 : Same (dels H18 ps) (dels H24 ps) := Sd ps s25
  refine tNil_i (?_)
  refine ⟨ps, x_p, x_one, r23, v_one, v26, rfl, P28, ((pTup K (rCons (pTup K (rCons pInt (rOne pInt))) (rOne (pTup K (rCons pInt (rOne pInt)))))).mono (S8.trans (S16.trans (S22.trans S30))) h_one), h27, _, _, hw, fun r31 hw H32 v34 s33 h35 => ?_, (fun er hc hw => errUp T29 ss_refl (he er (absurd hc (List.not_mem_nil)) hw))⟩
  have P36 := dom_up s33 P28
  have T37 := Same.trans T29 s33
  have S38 : Same (dels H24 ps) (dels H32 ps) := Sd ps s33
  refine tNil_i (?_)
  refine ⟨ps, x_p, r31, v34, rfl, P36, h35, _, _, hw, fun r39 hw H40 s41 => ?_, (fun er hc hw => errUp T37 ss_refl (he er (absurd hc (List.not_mem_nil)) hw))⟩
  have P42 := dom_up s41 P36
  have T43 := Same.trans T37 s41
  have S44 : Same (dels H32 ps) (dels H40 ps) := Sd ps s41
  refine gN (σ' := [some (.int x_p), some v_frame, some v_one, some (.int r17), some (.int r39)]) rfl (tRet_j (tTup_i (tCons_i (tCB_i (tCons_i (tVar_i (v := (.int r17)) rfl (tCons_i (tVar_i (v := (.int r39)) rfl (tNil_i (rMin2_i (tCons_i (tCB_i (tCons_i (tVar_i (v := (.int r17)) rfl (tCons_i (tVar_i (v := (.int r39)) rfl (tNil_i (rMax2_i (tNil_i (new_i (Nat.le_of_ble_eq_true rfl) (fun q45 H46 n47 s48 e49 => ?_)))))))))))))))))))))
  have P51 := dom_up s48 P42
  have T52 := Same.trans T43 s48
  have S53 : Same (dels H40 ps) (dels H46 ps) := Sd ps s48
  have h50 : (pTup K (rCons pInt (rOne pInt))).rep (dels H46 ps) (.ref q45) ((minI r17 r39), (maxI r17 r39)) := tupR (dels_at e49 (nin_of n47 P42)) (rowC rfl (rowO rfl))
  exact hk _ hw _ _ T52 h50
def sp_Base_back (K : PySem.W.Frag) (t : Tab) : Sp := fun vs H Q E => ∃ (ps : List Addr) (x_self : (Int × (Int × Int) × (Int × Int))) (v_self : V), vs = [v_self] ∧ (∀ x ∈ ps, H x ≠ none) ∧ (pIns t.c_Base ["prime", "first", "second"] (rCons pInt (rCons (pTup K (rCons pInt (rOne pInt))) (rOne (pTup K (rCons pInt (rOne pInt))))))).rep (dels H ps) v_self x_self ∧ ∃ (k : (Int × (Int × Int) × (Int × Int)) → Prop) (e : PErr → Prop), w_Base_back x_self k e ∧ (∀ r, k r → RetK ps (pIns t.c_Base ["prime", "first", "second"] (rCons pInt (rCons (pTup K (rCons pInt (rOne pInt))) (rOne (pTup K (rCons pInt (rOne pInt))))))) H Q r) ∧ (∀ er, er.cls ∈ ([2, 21] : List Nat) → e er → ErrK ps t.cl H E er)
theorem len_Base_back : ∀ vs H Q E, sp_Base_back K t vs H Q E → vs.length = (["self"] : List Str).length := by
  rintro vs H Q E ⟨_, _, _, rfl, _⟩
  rfl
theorem ok_Base_back (T : Txt K mg t) : FnOk P w K mg base (L2.CX P w) 8 t.a_Base_back t.fd_Base_back ["self"] (sp_Base_back K t) := by
  have G_cross_product := ok_cross_product (P := P) (w := w) (base := base) T
  have G_inverse := ok_inverse (P := P) (w := w) (base := base) T
  have G_Base_init := ok_Base_init (P := P) (w := w) (base := base) T
  refine T.F_Base_back.okX sc_Base_back len_Base_back (fun cdv A outer s H vs Q E hr h => ?_)
  have nd := sc_Base_back.nd
  refine ⟨_, (pss_cons (ps_set (i := 1) nd rfl (Or.inl rfl) (pe_fldK K (pv 0) rfl))
    (pss_cons (ps_asg (pe_fldK K (pv 0) rfl) (pg_tupK K 2 rfl (pgs_cons (pg_name (i := 2) nd rfl (Or.inl rfl)) (pgs_cons (pg_name (i := 3) nd rfl (Or.inl rfl)) pgs_nil))))
    (pss_cons (ps_asg (pe_fldK K (pv 0) rfl) (pg_tupK K 2 rfl (pgs_cons (pg_name (i := 4) nd rfl (Or.inl rfl)) (pgs_cons (pg_name (i := 5) nd rfl (Or.inl rfl)) pgs_nil))))
    (pss_cons (ps_set (i := 6) nd rfl (Or.inl rfl) (pe_callS G_inverse (hr.mono (by decide)) (by rfl) T.g_inverse T.F_inverse.kp T.b_inverse (fun σ => passAt (takes_of rfl rfl rfl rfl) σ) (pa_cons (pv 1) (pa_cons (pe_callS G_cross_product (hr.mono (by decide)) (by rfl) T.g_cross_product T.F_cross_product.kp T.b_cross_product (fun σ => passAt (takes_of rfl rfl rfl rfl) σ) (pa_cons (pv 1) (pa_cons (pe_fldK K (pv 0) rfl) (pa_cons (pe_fldK K (pv 0) rfl) pa_nil)))) pa_nil))))
    (pss_one (ps_ret (pe_mak T.mk_Base G_Base_init (hr.mono (by decide)) (by rfl) T.g_Base T.b_Base_init (fun σ => passAt (takes_of rfl rfl rfl rfl) σ) (pa_cons (pv 1) (pa_cons (pe_tup (pa_cons (pe_op op_modP (pe_op op_mulU (pv 5) (pv 6)) (pv 1)) (pa_cons (pe_op op_modP (pe_op op_mulU (pe_un un_neg (pv 3)) (pv 6)) (pv 1)) pa_nil))) (pa_cons (pe_tup (pa_cons (pe_op op_modP (pe_op op_mulU (pe_un un_neg (pv 4)) (pv 6)) (pv 1)) (pa_cons (pe_op op_modP (pe_op op_mulU (pv 2) (pv 6)) (pv 1)) pa_nil))) pa_nil)))))))))), ?_⟩
  obtain ⟨ps, x_self, v_self, rfl, P0, h_self, k, e, hw, hk, he⟩ := h
  unfold w_Base_back at hw
  refine tSeq_j (tAsg_j (tFld_i (tVar_i (v := v_self) rfl (fldI (j := 0) h_self Su T.own_Base.cl T.na_Base_prime rgZ rfl (gN (σ' := [some v_self, some (.int x_self.1), none, none, none, none, none]) rfl (tSeq_j (tAsg_j (tFld_i (tVar_i (v := v_self) rfl (fldS (j := 1) h_self Su T.own_Base.cl T.na_Base_first (rgS rgZ) rfl (fun u1 h2 => gTupS h2 Su (fun vs3 hv4 => ?_))))))))))))
  obtain ⟨ws6, rfl, hv5⟩ := rowCi hv4
  obtain rfl := rowOi hv5
  refine ⟨rfl, ?_⟩
  refine gCons_i (gN (σ' := [some v_self, some (.int x_self.1), some (.int x_self.2.1.1), none, none, none, none]) rfl (gCons_i (gN (σ' := [some v_self, some (.int x_self.1), some (.int x_self.2.1.1), some (.int x_self.2.1.2), none, none, none]) rfl (gNil_i (tSeq_j (tAsg_j (tFld_i (tVar_i (v := v_self) rfl (fldS (j := 2) h_self Su T.own_Base.cl T.na_Base_second (rgS (rgS rgOne)) rfl (fun u7 h8 => gTupS h8 Su (fun vs9 hv10 => ?_)))))))))))
  obtain ⟨ws12, rfl, hv11⟩ := rowCi hv10
  obtain rfl := rowOi hv11
  refine ⟨rfl, ?_⟩
  refine gCons_i (gN (σ' := [some v_self, some (.int x_self.1), some (.int x_self.2.1.1), some (.int x_self.2.1.2), some (.int x_self.2.2.1), none, none]) rfl (gCons_i (gN (σ' := [some v_self, some (.int x_self.1), some (.int x_self.2.1.1), some (.int x_self.2.1.2), some (.int x_self.2.2.1), some (.int x_self.2.2.2), none]) rfl (gNil_i (tSeq_j (tAsg_j (tCallS_i (tCons_i (tVar_i (v := (.int x_self.1)) rfl (tCons_i (tCallS_i (tCons_i (tVar_i (v := (.int x_self.1)) rfl (tCons_i (tFld_i (tVar_i (v := v_self) rfl (fldS (j := 1) h_self Su T.own_Base.cl T.na_Base_first (rgS rgZ) rfl (fun u13 h14 => tCons_i (tFld_i (tVar_i (v := v_self) rfl (fldS (j := 2) h_self Su T.own_Base.cl T.na_Base_second (rgS (rgS rgOne)) rfl (fun u15 h16 => tNil_i (?_)))))))))))))))))))))))
  refine ⟨ps, x_self.1, x_self.2.1, x_self.2.2, u13, u15, rfl, P0, h14, h16, _, _, hw, fun r17 hw H18 s19 => ?_, (fun er hc hw => errUp (Same.refl H) ss_refl (he er (absurd hc (List.not_mem_nil)) hw))⟩
  have P20 := dom_up s19 P0
  have T21 := Same.trans (Same.refl H) s19
  have S22 : Same (dels H ps) (dels H18 ps) := Sd ps s19
  refine tNil_i (?_)
  refine ⟨ps, x_self.1, r17, rfl, P20, _, _, hw, fun r23 hw H24 s25 => ?_, (fun er hc hw => errUp T21 ss_refl (he er (by simp only [List.mem_cons, List.not_mem_nil, or_false] at hc ⊢; omega) hw))⟩
  have P26 := dom_up s25 P20
  have T27 := Same.trans T21 s25
  have S28 : Same (dels H18 ps) (dels H24 ps) := Sd ps s25
  refine gN (σ' := [some v_self, some (.int x_self.1), some (.int x_self.2.1.1), some (.int x_self.2.1.2), some (.int x_self.2.2.1), some (.int x_self.2.2.2), some (.int r23)]) rfl (tRet_j (tMak_i (tCons_i (tVar_i (v := (.int x_self.1)) rfl (tCons_i (tTup_i (tCons_i (tOp_i (tOp_i (tVar_i (v := (.int x_self.2.2.2)) rfl (tVar_i (v := (.int r23)) rfl (rMulU_i hw.1 (tVar_i (v := (.int x_self.1)) rfl (rModP_i hw.2.1 (tCons_i (tOp_i (tOp_i (tUn_i (tVar_i (v := (.int x_self.2.1.2)) rfl (rNeg_i (tVar_i (v := (.int r23)) rfl (rMulU_i hw.2.2.1 (tVar_i (v := (.int x_self.1)) rfl (rModP_i hw.2.2.2.1 (tNil_i (new_i (Nat.le_of_ble_eq_true rfl) (fun q29 H30 n31 s32 e33 => ?_)))))))))))))))))))))))))))
  have P35 := dom_up s32 P26
  have T36 := Same.trans T27 s32
  have S37 : Same (dels H24 ps) (dels H30 ps) := Sd ps s32
  have h34 : (pTup K (rCons pInt (rOne pInt))).rep (dels H30 ps) (.ref q29) (((x_self.2.2.2 * r23) % x_self.1), (((-x_self.2.1.2) * r23) % x_self.1)) := tupR (dels_at e33 (nin_of n31 P26)) (rowC rfl (rowO rfl))
  refine tCons_i (tTup_i (tCons_i (tOp_i (tOp_i (tUn_i (tVar_i (v := (.int x_self.2.2.1)) rfl (rNeg_i (tVar_i (v := (.int r23)) rfl (rMulU_i hw.2.2.2.2.1 (tVar_i (v := (.int x_self.1)) rfl (rModP_i hw.2.2.2.2.2.1 (tCons_i (tOp_i (tOp_i (tVar_i (v := (.int x_self.2.1.1)) rfl (tVar_i (v := (.int r23)) rfl (rMulU_i hw.2.2.2.2.2.2.1 (tVar_i (v := (.int x_self.1)) rfl (rModP_i hw.2.2.2.2.2.2.2.1 (tNil_i (new_i (Nat.le_of_ble_eq_true rfl) (fun q38 H39 n40 s41 e42 => ?_))))))))))))))))))))))
  have P44 := dom_up s41 P35
  have T45 := Same.trans T36 s41
  have S46 : Same (dels H30 ps) (dels H39 ps) := Sd ps s41
  have h43 : (pTup K (rCons pInt (rOne pInt))).rep (dels H39 ps) (.ref q38) ((((-x_self.2.2.1) * r23) % x_self.1), ((x_self.2.1.1 * r23) % x_self.1)) := tupR (dels_at e42 (nin_of n40 P35)) (rowC rfl (rowO rfl))
  refine tNil_i (?_)
  refine makS (fun n47 dn48 H49 nn50 s51 s52 e53 => ?_)
  have S54 : Same (dels H39 ps) (dels H49 (n47 :: ps)) := Sn ps s51 nn50
  have P55 := dom_new e53 (dom_up s51 P44)
  refine ⟨(n47 :: ps), x_self.1, (((x_self.2.2.2 * r23) % x_self.1), (((-x_self.2.1.2) * r23) % x_self.1)), ((((-x_self.2.2.1) * r23) % x_self.1), ((x_self.2.1.1 * r23) % x_self.1)), n47, dn48, (.ref q29), (.ref q38), rfl, P55, (List.mem_cons_self ..), e53, ((pTup K (rCons pInt (rOne pInt))).mono S54 ((pTup K (rCons pInt (rOne pInt))).mono S46 h34)), ((pTup K (rCons pInt (rOne pInt))).mono S54 h43), _, _, hw.2.2.2.2.2.2.2.2, fun r56 hw H57 fs58 s59 e60 hn61 rr62 => ⟨rfl, ?_⟩, (fun er hc hw => errUp (Same.trans T45 s52) (ss_skip ss_refl) (he er (by simp only [List.mem_cons, List.not_mem_nil, or_false] at hc ⊢; omega) hw))⟩
  have s64 := Same.trans s52 s59
  have P65 := dom_up s64 P44
  have T66 := Same.trans T45 s64
  have S67 : Same (dels H39 ps) (dels H57 ps) := Sd ps s64
  have h63 : (pIns t.c_Base ["prime", "first", "second"] (rCons pInt (rCons (pTup K (rCons pInt (rOne pInt))) (rOne (pTup K (rCons pInt (rOne pInt))))))).rep (dels H57 ps) (.ref n47) r56 := ⟨_, _, fs58, rfl, dels_at e60 (nin_of nn50 P44), hn61, PRow.mono (rCons pInt (rCons (pTup K (rCons pInt (rOne pInt))) (rOne (pTup K (rCons pInt (rOne pInt)))))) (Ss (ss_skip ss_refl)) rr62⟩
  exact hk _ hw _ _ T66 h63
def sp_ulaw_asked (K : PySem.W.Frag) (t : Tab) : Sp := fun vs H Q E => ∃ (ps : List Addr) (x_which : Int) (x_p : Int) (x_thing : (Int ⊕ (Int × Int))) (x_base : (Int × (Int × Int) × (Int × Int))) (v_thing : V) (v_base : V), vs = [(.int x_which), (.int x_p), v_thing, v_base] ∧ (∀ x ∈ ps, H x ≠ none) ∧ (pSum pInt (pTup K (rCons pInt (rOne pInt)))).rep (dels H ps) v_thing x_thing ∧ (pIns t.c_Base ["prime", "first", "second"] (rCons pInt (rCons (pTup K (rCons pInt (rOne pInt))) (rOne (pTup K (rCons pInt (rOne pInt))))))).rep (dels H ps) v_base x_base ∧ ∃ (k : (Str × (Int ⊕ (List (Str × Int)) ⊕ (Int × Int))) → Prop) (e : PErr → Prop), w_ulaw_asked x_which x_p x_thing x_base k e ∧ (∀ r, k r → RetK ps (pTup K (rCons pStr (rOne (pSum pInt (pSum (pList (pTup K (rCons pStr (rOne pInt)))) (pTup K (rCons pInt (rOne pInt)))))))) H Q r) ∧ (∀ er, er.cls ∈ ([] : List Nat) → e er → ErrK ps t.cl H E er)
theorem len_ulaw_asked : ∀ vs H Q E, sp_ulaw_asked K t vs H Q E → vs.length = (["which", "p", "thing", "base"] : List Str).length := by
  rintro vs H Q E ⟨_, _, _, _, _, _, _, rfl, _⟩
  rfl
theorem ok_ulaw_asked (T : Txt K mg t) : FnOk P w K mg base (L2.CX P w) 10 t.a_ulaw_asked t.fd_ulaw_asked ["which", "p", "thing", "base"] (sp_ulaw_asked K t) := by
  have G_crossed_point := ok_crossed_point (P := P) (w := w) (base := base) T
  have G_crossed_frame := ok_crossed_frame (P := P) (w := w) (base := base) T
  have G_moved_frame := ok_moved_frame (P := P) (w := w) (base := base) T
  refine T.F_ulaw_asked.okX sc_ulaw_asked len_ulaw_asked (fun cdv A outer s H vs Q E hr h => ?_)
  have nd := sc_ulaw_asked.nd
  refine ⟨_, (pss_cons (ps_try_as (i := 5) rfl rfl nd rfl rfl ⟨rfl, by decide, .inl T.g_EndsError⟩ (takes_of rfl rfl rfl rfl) (fun W pn xe tk pw => (pss_one (ps_if (pt_cmpR (op_eqUK K hr) (pv 0) (pe_int) (by first | exact nomark _ | rfl)) (pss_one (ps_set (i := 4) nd rfl (Or.inl rfl) (pe_callS G_crossed_point (hr.mono (by decide)) (by rfl) T.g_crossed_point T.F_crossed_point.kp T.b_crossed_point (fun σ => passAt tk σ) (pa_cons (pv 1) (pa_cons (pv 2) pa_nil))))) (pss_one (ps_if (pt_cmpR (op_eqUK K hr) (pv 0) (pe_int) (by first | exact nomark _ | rfl)) (pss_one (ps_set (i := 4) nd rfl (Or.inl rfl) (pe_callS G_crossed_frame (hr.mono (by decide)) (by rfl) T.g_crossed_frame T.F_crossed_frame.kp T.b_crossed_frame (fun σ => passAt tk σ) (pa_cons (pv 1) (pa_cons (pv 2) pa_nil))))) (pss_one (ps_set (i := 4) nd rfl (Or.inl rfl) (pe_callS G_moved_frame (hr.mono (by decide)) (by rfl) T.g_moved_frame T.F_moved_frame.kp T.b_moved_frame (fun σ => passAt tk σ) (pa_cons (pv 1) (pa_cons (pv 2) (pa_cons (pv 3) pa_nil)))))))))))
    (fun a oe cls d pn hz hf => (pss_cons (ps_set (i := 6) nd rfl (Or.inl rfl) (pe_lst pa_nil))
    (pss_cut (ps_if (pt_truthK K (pe_callB (call_isXK K (xpin_suite hz hf)) (by rfl) T.n_isinstance (by decide +kernel) (pa_cons (pv 5) (pa_cons (pe_glob (v := .ref t.c_NumberError) (by rfl) T.g_NumberError rfl) pa_nil)))) (pss_one (ps_expr (pe_bmK K PySem.F.plainAttrs_list PySem.F.slot_list_append PySem.F.type_list_append mt_append (pv 6) (pa_cons (pe_tup (pa_cons (pe_str) (pa_cons (pe_xFK K (xpin_suite hz hf) (pv 5)) pa_nil))) pa_nil)))) pss_nil)
    (pss_cut (ps_if (pt_truthK K (pe_callB (call_isXK K (xpin_suite hz hf)) (by rfl) T.n_isinstance (by decide +kernel) (pa_cons (pv 5) (pa_cons (pe_glob (v := .ref t.c_PrimeError) (by rfl) T.g_PrimeError rfl) pa_nil)))) (pss_one (ps_expr (pe_bmK K PySem.F.plainAttrs_list PySem.F.slot_list_append PySem.F.type_list_append mt_append (pv 6) (pa_cons (pe_tup (pa_cons (pe_str) (pa_cons (pe_xFK K (xpin_suite hz hf) (pv 5)) pa_nil))) pa_nil)))) pss_nil)
    (pss_cut (ps_if (PW.pt (pw_or (pt_truthK K (pe_callB (call_isXK K (xpin_suite hz hf)) (by rfl) T.n_isinstance (by decide +kernel) (pa_cons (pv 5) (pa_cons (pe_glob (v := .ref t.c_SizeError) (by rfl) T.g_SizeError rfl) pa_nil)))) (pw_or (pt_truthK K (pe_callB (call_isXK K (xpin_suite hz hf)) (by rfl) T.n_isinstance (by decide +kernel) (pa_cons (pv 5) (pa_cons (pe_glob (v := .ref t.c_DependentError) (by rfl) T.g_DependentError rfl) pa_nil)))) (pw_or1 (pt_not (pt_truthK K (pe_callB (call_isXK K (xpin_suite hz hf)) (by rfl) T.n_isinstance (by decide +kernel) (pa_cons (pv 5) (pa_cons (pe_bltn (v := .ty "ValueError") (by rfl) T.n_ValueError (by decide +kernel) rfl) pa_nil))))))))) (pss_one (ps_expr (pe_bmK K PySem.F.plainAttrs_list PySem.F.slot_list_append PySem.F.type_list_append mt_append (pv 6) (pa_cons (pe_tup (pa_cons (pe_str) (pa_cons (pe_int) pa_nil))) pa_nil)))) pss_nil)
    (pss_one (ps_ret (pe_tup (pa_cons (pe_str) (pa_cons (pv 6) pa_nil)))))))))))
    (pss_one (ps_ret (pe_tup (pa_cons (pe_str) (pa_cons (pv 4) pa_nil)))))), ?_⟩
  obtain ⟨ps, x_which, x_p, x_thing, x_base, v_thing, v_base, rfl, P0, h_thing, h_base, k, e, hw, hk, he⟩ := h
  unfold w_ulaw_asked at hw
  refine tSeq_j (tIfS_j (tTest_i (tOp_i (tVar_i (v := (.int x_which)) rfl (tC_i (rEqU_i (IsBl_i (?_))))))))
  refine Br_two hw (fun c1 hw => ?_) (fun c1 hw => ?_)
  · refine tAsg_j (tCallS_i (tCons_i (tVar_i (v := (.int x_p)) rfl (tCons_i (tVar_i (v := v_thing) rfl (tNil_i (?_)))))))
    obtain rfl : v_thing = (.int (sGL x_thing)) := (sumGL h_thing hw.1)
    refine ⟨ps, x_p, (sGL x_thing), rfl, P0, _, _, hw.2, fun r2 hw H3 s4 => ?_, fun er5 hc hw => ?_⟩
    rotate_left 1
    · have em12 : ∀ c, c ∈ ([2, 20] : List Nat) → PySem.W.exmOne K (.ref (t.cl c)) (.ref t.c_EndsError) = some true := by
        intro c hc
        simp only [List.mem_cons, List.not_mem_nil, or_false] at hc
        rcases hc with rfl | rfl
        · exact T.em_NumberError_EndsError
        · exact T.em_ZeroVector_EndsError
      have hCR := hc
      intro H6 d7 s8 hX9
      have P13 := dom_up s8 P0
      have T14 := Same.trans (Same.refl H) s8
      have S15 : Same (dels H ps) (dels H6 ps) := Sd ps s8
      refine wasL (g := fun a10 => [some (.int x_which), some (.int x_p), some (.int (sGL x_thing)), some v_base, none, some (.ref a10), none]) (em12 _ hc) (fun _ => rfl) (fun a10 na11 => ?_)
      have XR : ∀ c, c ∈ ([2, 20] : List Nat) → XCls K (t.cl c) := by
        intro c hc
        simp only [List.mem_cons, List.not_mem_nil, or_false] at hc
        rcases hc with rfl | rfl
        · exact T.X_NumberError
        · exact T.X_ZeroVector
      have kt_NumberError : ∀ c, c ∈ ([2, 20] : List Nat) → PySem.W.kitOne K (.ref (t.cl c)) (.ref t.c_NumberError) = some (decide (c = 2)) := by
        intro c hc
        simp only [List.mem_cons, List.not_mem_nil, or_false] at hc
        rcases hc with rfl | rfl
        · exact T.kt_NumberError_NumberError
        · exact T.kt_ZeroVector_NumberError
      have kt_PrimeError : ∀ c, c ∈ ([2, 20] : List Nat) → PySem.W.kitOne K (.ref (t.cl c)) (.ref t.c_PrimeError) = some (decide (c = 8)) := by
        intro c hc
        simp only [List.mem_cons, List.not_mem_nil, or_false] at hc
        rcases hc with rfl | rfl
        · exact T.kt_NumberError_PrimeError
        · exact T.kt_ZeroVector_PrimeError
      have kt_SizeError : ∀ c, c ∈ ([2, 20] : List Nat) → PySem.W.kitOne K (.ref (t.cl c)) (.ref t.c_SizeError) = some (decide (c = 1)) := by
        intro c hc
        simp only [List.mem_cons, List.not_mem_nil, or_false] at hc
        rcases hc with rfl | rfl
        · exact T.kt_NumberError_SizeError
        · exact T.kt_ZeroVector_SizeError
      have kt_DependentError : ∀ c, c ∈ ([2, 20] : List Nat) → PySem.W.kitOne K (.ref (t.cl c)) (.ref t.c_DependentError) = some (decide (c = 21)) := by
        intro c hc
        simp only [List.mem_cons, List.not_mem_nil, or_false] at hc
        rcases hc with rfl | rfl
        · exact T.kt_NumberError_DependentError
        · exact T.kt_ZeroVector_DependentError
      have kt_ValueError : ∀ c, c ∈ ([2, 20] : List Nat) → PySem.W.kitOne K (.ref (t.cl c)) (.type "ValueError") = some (true) := by
        intro c hc
        simp only [List.mem_cons, List.not_mem_nil, or_false] at hc
        rcases hc with rfl | rfl
        · exact T.kt_NumberError_ValueError
        · exact T.kt_ZeroVector_ValueError
      refine tSeq_j (tAsg_j (tLst_i (tNil_i (new_i (Nat.le_of_ble_eq_true rfl) (fun q16 H17 n18 s19 e20 => ?_)))))
      have r21 : AllR (pTup K (rCons pStr (rOne pInt))) (dels H6 ps) [] ([] : List (Str × Int)) := .nil
      have l22 : ([] : List (Str × Int)).length ≤ LIM := (Nat.le_of_ble_eq_true rfl)
      have m23 := nin_of n18 P13
      have z24 := Same.free T14 n18
      have P25 := dom_up s19 P13
      have T26 := Same.trans T14 s19
      have P27 := dom_new e20 P25
      have S28 : Same (dels H6 ps) (dels H17 (q16 :: ps)) := Sn ps s19 n18
      refine gN (σ' := [some (.int x_which), some (.int x_p), some (.int (sGL x_thing)), some v_base, none, some (.ref a10), some (.ref q16)]) rfl (?_)
      obtain ⟨y29, r30, l31, hw⟩ := letO hw r21 l22
      refine cutW (S := (List (Str × Int))) hw (fun (s57 : (List (Str × Int))) (σ60 : L2.St) (H59 : Hp) => ∃ (us64 : List V), σ60 = [some (.int x_which), some (.int x_p), some (.int (sGL x_thing)), some v_base, none, some (.ref a10), some (.ref q16)] ∧ Same (dels H17 (q16 :: ps)) (dels H59 (q16 :: ps)) ∧ (∀ x ∈ (q16 :: ps), H59 x ≠ none) ∧ Same H H59 ∧ H59 q16 = some (.lst us64) ∧ AllR (pTup K (rCons pStr (rOne pInt))) (dels H59 (q16 :: ps)) us64 s57 ∧ (s57).length ≤ LIM ∧ True) (fun hw => ?_) (fun s57 σ60 H59 hr hw => ?_)
      · refine tIfS_j (tTruth_i (tCB_i (tCons_i (tVar_i (v := (.ref a10)) rfl (tCons_i (tC_i (tNil_i (isX_c (b := (decide (er5.cls = 2))) (XR _ hCR) er5.fs (XDict.same (Same.trans S28 Su) hX9) (kt_NumberError _ hCR) (Tru_b (?_))))))))))
        refine Br_two hw (fun c69 hw => ?_) (fun c69 hw => ?_)
        · refine tDrop_j (tBM_i (tVar_i (v := (.ref q16)) rfl (tyL (SqL.of e20) (tCons_i (tTup_i (tCons_i (tC_i (tCons_i (tXF_i (tVar_i (v := (.ref a10)) rfl (?_)))))))))))
          obtain ⟨z70, hz71, hw⟩ := hw
          refine xfP hz71 (XR _ hCR) (XDict.same (Same.trans S28 Su) hX9) (by rw [hz71]; exact T.xn_NumberError_number) (tNil_i (new_i (Nat.le_of_ble_eq_true rfl) (fun q72 H73 n74 s75 e76 => ?_)))
          have P78 := dom_up s75 P27
          have T79 := Same.trans T26 s75
          have e80 := s75 _ _ e20
          have S81 : Same (dels H17 (q16 :: ps)) (dels H73 (q16 :: ps)) := Sd (q16 :: ps) s75
          have h77 : (pTup K (rCons pStr (rOne pInt))).rep (dels H73 (q16 :: ps)) (.ref q72) ((Str.ofString "number"), z70) := tupR (dels_at e76 (nin_of n74 P27)) (rowC rfl (rowO rfl))
          refine tNil_i (appO (p := (pTup K (rCons pStr (rOne pInt)))) (d := ((Str.ofString "number"), z70)) e80 (AllR.mono (S28.trans S81) r30) hw.1 h77 (fun H82 f83 us84 e85 r86 l87 => ?_))
          have P88 := dom_off f83 e85 P78
          have T89 := st_off T79 f83 z24
          have S90 : Same (dels H73 (q16 :: ps)) (dels H82 (q16 :: ps)) := So (List.mem_cons_self ..) f83
          obtain ⟨y91, r92, l93, hw⟩ := letO hw.2 r86 l87
          exact ⟨y91, ⟨us84, rfl, (S81.trans S90), P88, T89, e85, (AllR.mono S90 r92), l93, trivial⟩, hw⟩
        · refine tNext_j (?_)
          exact ⟨y29, ⟨[], rfl, (Same.refl _), P27, T26, e20, (AllR.mono S28 r30), l31, trivial⟩, hw⟩
      obtain ⟨us64, rfl, S63, P61, T62, e65, r66, l67, _⟩ := hr
      refine cutW (S := (List (Str × Int))) hw (fun (s119 : (List (Str × Int))) (σ122 : L2.St) (H121 : Hp) => ∃ (us126 : List V), σ122 = [some (.int x_which), some (.int x_p), some (.int (sGL x_thing)), some v_base, none, some (.ref a10), some (.ref q16)] ∧ Same (dels H59 (q16 :: ps)) (dels H121 (q16 :: ps)) ∧ (∀ x ∈ (q16 :: ps), H121 x ≠ none) ∧ Same H H121 ∧ H121 q16 = some (.lst us126) ∧ AllR (pTup K (rCons pStr (rOne pInt))) (dels H121 (q16 :: ps)) us126 s119 ∧ (s119).length ≤ LIM ∧ True) (fun hw => ?_) (fun s119 σ122 H121 hr hw => ?_)
      · refine tIfS_j (tTruth_i (tCB_i (tCons_i (tVar_i (v := (.ref a10)) rfl (tCons_i (tC_i (tNil_i (isX_c (b := (decide (er5.cls = 8))) (XR _ hCR) er5.fs (XDict.same (Same.trans (S28.trans S63) Su) hX9) (kt_PrimeError _ hCR) (Tru_b (?_))))))))))
        refine Br_two hw (fun c131 hw => ?_) (fun c131 hw => ?_)
        · refine tDrop_j (tBM_i (tVar_i (v := (.ref q16)) rfl (tyL (SqL.of e65) (tCons_i (tTup_i (tCons_i (tC_i (tCons_i (tXF_i (tVar_i (v := (.ref a10)) rfl (?_)))))))))))
          obtain ⟨z132, hz133, hw⟩ := hw
          refine xfP hz133 (XR _ hCR) (XDict.same (Same.trans (S28.trans S63) Su) hX9) (by rw [hz133]; exact T.xn_PrimeError_prime) (tNil_i (new_i (Nat.le_of_ble_eq_true rfl) (fun q134 H135 n136 s137 e138 => ?_)))
          have P140 := dom_up s137 P61
          have T141 := Same.trans T62 s137
          have e142 := s137 _ _ e65
          have S143 : Same (dels H59 (q16 :: ps)) (dels H135 (q16 :: ps)) := Sd (q16 :: ps) s137
          have h139 : (pTup K (rCons pStr (rOne pInt))).rep (dels H135 (q16 :: ps)) (.ref q134) ((Str.ofString "prime"), z132) := tupR (dels_at e138 (nin_of n136 P61)) (rowC rfl (rowO rfl))
          refine tNil_i (appO (p := (pTup K (rCons pStr (rOne pInt)))) (d := ((Str.ofString "prime"), z132)) e142 (AllR.mono S143 r66) hw.1 h139 (fun H144 f145 us146 e147 r148 l149 => ?_))
          have P150 := dom_off f145 e147 P140
          have T151 := st_off T141 f145 z24
          have S152 : Same (dels H135 (q16 :: ps)) (dels H144 (q16 :: ps)) := So (List.mem_cons_self ..) f145
          obtain ⟨y153, r154, l155, hw⟩ := letO hw.2 r148 l149
          exact ⟨y153, ⟨us146, rfl, (S143.trans S152), P150, T151, e147, (AllR.mono S152 r154), l155, trivial⟩, hw⟩
        · refine tNext_j (?_)
          exact ⟨s57, ⟨us64, rfl, (Same.refl _), P61, T62, e65, r66, l67, trivial⟩, hw⟩
      obtain ⟨us126, rfl, S125, P123, T124, e127, r128, l129, _⟩ := hr
      refine cutW (S := (List (Str × Int))) hw (fun (s184 : (List (Str × Int))) (σ187 : L2.St) (H186 : Hp) => ∃ (us191 : List V), σ187 = [some (.int x_which), some (.int x_p), some (.int (sGL x_thing)), some v_base, none, some (.ref a10), some (.ref q16)] ∧ Same (dels H121 (q16 :: ps)) (dels H186 (q16 :: ps)) ∧ (∀ x ∈ (q16 :: ps), H186 x ≠ none) ∧ Same H H186 ∧ H186 q16 = some (.lst us191) ∧ AllR (pTup K (rCons pStr (rOne pInt))) (dels H186 (q16 :: ps)) us191 s184 ∧ (s184).length ≤ LIM ∧ True) (fun hw => ?_) (fun s184 σ187 H186 hr hw => ?_)
      · refine tIfS_j (tOrP (b := (decide (er5.cls = 1))) (c := ((decide (er5.cls = 21)) || (!true))) (fun R hR => tTruth_i (tCB_i (tCons_i (tVar_i (v := (.ref a10)) rfl (tCons_i (tC_i (tNil_i (isX_c (b := (decide (er5.cls = 1))) (XR _ hCR) er5.fs (XDict.same (Same.trans (S28.trans (S63.trans S125)) Su) hX9) (kt_SizeError _ hCR) (Tru_b (hR)))))))))) (fun g199 R hR => tOrP (b := (decide (er5.cls = 21))) (c := (!true)) (fun R hR => tTruth_i (tCB_i (tCons_i (tVar_i (v := (.ref a10)) rfl (tCons_i (tC_i (tNil_i (isX_c (b := (decide (er5.cls = 21))) (XR _ hCR) er5.fs (XDict.same (Same.trans (S28.trans (S63.trans S125)) Su) hX9) (kt_DependentError _ hCR) (Tru_b (hR)))))))))) (fun g200 R hR => tNot_i (tTruth_i (tCB_i (tCons_i (tVar_i (v := (.ref a10)) rfl (tCons_i (tC_i (tNil_i (isX_t (b := true) (XR _ hCR) er5.fs (XDict.same (Same.trans (S28.trans (S63.trans S125)) Su) hX9) (kt_ValueError _ hCR) (Tru_b (hR))))))))))) (hR)) (?_))
        refine Br_two hw (fun c201 hw => ?_) (fun c201 hw => ?_)
        · refine tDrop_j (tBM_i (tVar_i (v := (.ref q16)) rfl (tyL (SqL.of e127) (tCons_i (tTup_i (tCons_i (tC_i (tCons_i (tC_i (tNil_i (new_i (Nat.le_of_ble_eq_true rfl) (fun q202 H203 n204 s205 e206 => ?_))))))))))))
          have P208 := dom_up s205 P123
          have T209 := Same.trans T124 s205
          have e210 := s205 _ _ e127
          have S211 : Same (dels H121 (q16 :: ps)) (dels H203 (q16 :: ps)) := Sd (q16 :: ps) s205
          have h207 : (pTup K (rCons pStr (rOne pInt))).rep (dels H203 (q16 :: ps)) (.ref q202) ((Str.ofString "other"), (0 : Int)) := tupR (dels_at e206 (nin_of n204 P123)) (rowC rfl (rowO rfl))
          refine tNil_i (appO (p := (pTup K (rCons pStr (rOne pInt)))) (d := ((Str.ofString "other"), (0 : Int))) e210 (AllR.mono S211 r128) hw.1 h207 (fun H212 f213 us214 e215 r216 l217 => ?_))
          have P218 := dom_off f213 e215 P208
          have T219 := st_off T209 f213 z24
          have S220 : Same (dels H203 (q16 :: ps)) (dels H212 (q16 :: ps)) := So (List.mem_cons_self ..) f213
          obtain ⟨y221, r222, l223, hw⟩ := letO hw.2 r216 l217
          exact ⟨y221, ⟨us214, rfl, (S211.trans S220), P218, T219, e215, (AllR.mono S220 r222), l223, trivial⟩, hw⟩
        · refine tNext_j (?_)
          exact ⟨s119, ⟨us126, rfl, (Same.refl _), P123, T124, e127, r128, l129, trivial⟩, hw⟩
      obtain ⟨us191, rfl, S190, P188, T189, e192, r193, l194, _⟩ := hr
      refine tRet_j (tTup_i (tCons_i (tC_i (tCons_i (tVar_i (v := (.ref q16)) rfl (tNil_i (?_)))))))
      have h224 : (pList (pTup K (rCons pStr (rOne pInt)))).rep (dels H186 ps) (.ref q16) s184 := oFrzG e192 m23 (ss_skip ss_refl) r193 l194
      have P225 := dom_ss (ss_skip ss_refl) P188
      have S226 : Same (dels H186 (q16 :: ps)) (dels H186 ps) := Ss (ss_skip ss_refl)
      refine new_i (Nat.le_of_ble_eq_true rfl) (fun q227 H228 n229 s230 e231 => ?_)
      have P233 := dom_up s230 P225
      have T234 := Same.trans T189 s230
      have S235 : Same (dels H186 ps) (dels H228 ps) := Sd ps s230
      have h232 : (pTup K (rCons pStr (rOne (pSum pInt (pSum (pList (pTup K (rCons pStr (rOne pInt)))) (pTup K (rCons pInt (rOne pInt)))))))).rep (dels H228 ps) (.ref q227) ((Str.ofString "refused"), (Sum.inr (Sum.inl s184 : ((List (Str × Int)) ⊕ (Int × Int))) : (Int ⊕ (List (Str × Int)) ⊕ (Int × Int)))) := tupR (dels_at e231 (nin_of n229 P225)) (rowC rfl (rowO (sumR (q := (pSum (pList (pTup K (rCons pStr (rOne pInt)))) (pTup K (rCons pInt (rOne pInt))))) (sumL (p := (pList (pTup K (rCons pStr (rOne pInt))))) ((pList (pTup K (rCons pStr (rOne pInt)))).mono S235 h224)))))
      exact hk _ hw _ _ T234 h232
    have P236 := dom_up s4 P0
    have T237 := Same.trans (Same.refl H) s4
    have S238 : Same (dels H ps) (dels H3 ps) := Sd ps s4
    refine gN (σ' := [some (.int x_which), some (.int x_p), some (.int (sGL x_thing)), some v_base, some (.int r2), none, none]) rfl (tRet_j (tTup_i (tCons_i (tC_i (tCons_i (tVar_i (v := (.int r2)) rfl (tNil_i (new_i (Nat.le_of_ble_eq_true rfl) (fun q239 H240 n241 s242 e243 => ?_)))))))))
    have P245 := dom_up s242 P236
    have T246 := Same.trans T237 s242
    have S247 : Same (dels H3 ps) (dels H240 ps) := Sd ps s242
    have h244 : (pTup K (rCons pStr (rOne (pSum pInt (pSum (pList (pTup K (rCons pStr (rOne pInt)))) (pTup K (rCons pInt (rOne pInt)))))))).rep (dels H240 ps) (.ref q239) ((Str.ofString "told"), (Sum.inl r2 : (Int ⊕ (List (Str × Int)) ⊕ (Int × Int)))) := tupR (dels_at e243 (nin_of n241 P236)) (rowC rfl (rowO (sumL (p := pInt) rfl)))
    exact hk _ hw _ _ T246 h244
  · refine tIfS_j (tTest_i (tOp_i (tVar_i (v := (.int x_which)) rfl (tC_i (rEqU_i (IsBl_i (?_)))))))
    refine Br_two hw (fun c248 hw => ?_) (fun c248 hw => ?_)
    · refine tAsg_j (tCallS_i (tCons_i (tVar_i (v := (.int x_p)) rfl (tCons_i (tVar_i (v := v_thing) rfl (tNil_i (?_)))))))
      refine ⟨ps, x_p, (sGR x_thing), v_thing, rfl, P0, (sumGR h_thing hw.1), _, _, hw.2, fun r249 hw H250 v483 s251 h484 => ?_, fun er252 hc hw => ?_⟩
      rotate_left 1
      · have em259 : ∀ c, c ∈ ([2, 20] : List Nat) → PySem.W.exmOne K (.ref (t.cl c)) (.ref t.c_EndsError) = some true := by
          intro c hc
          simp only [List.mem_cons, List.not_mem_nil, or_false] at hc
          rcases hc with rfl | rfl
          · exact T.em_NumberError_EndsError
          · exact T.em_ZeroVector_EndsError
        have hCR := hc
        intro H253 d254 s255 hX256
        have P260 := dom_up s255 P0
        have T261 := Same.trans (Same.refl H) s255
        have S262 : Same (dels H ps) (dels H253 ps) := Sd ps s255
        refine wasL (g := fun a257 => [some (.int x_which), some (.int x_p), some v_thing, some v_base, none, some (.ref a257), none]) (em259 _ hc) (fun _ => rfl) (fun a257 na258 => ?_)
        have XR : ∀ c, c ∈ ([2, 20] : List Nat) → XCls K (t.cl c) := by
          intro c hc
          simp only [List.mem_cons, List.not_mem_nil, or_false] at hc
          rcases hc with rfl | rfl
          · exact T.X_NumberError
          · exact T.X_ZeroVector
        have kt_NumberError : ∀ c, c ∈ ([2, 20] : List Nat) → PySem.W.kitOne K (.ref (t.cl c)) (.ref t.c_NumberError) = some (decide (c = 2)) := by
          intro c hc
          simp only [List.mem_cons, List.not_mem_nil, or_false] at hc
          rcases hc with rfl | rfl
          · exact T.kt_NumberError_NumberError
          · exact T.kt_ZeroVector_NumberError
        have kt_PrimeError : ∀ c, c ∈ ([2, 20] : List Nat) → PySem.W.kitOne K (.ref (t.cl c)) (.ref t.c_PrimeError) = some (decide (c = 8)) := by
          intro c hc
          simp only [List.mem_cons, List.not_mem_nil, or_false] at hc
          rcases hc with rfl | rfl
          · exact T.kt_NumberError_PrimeError
          · exact T.kt_ZeroVector_PrimeError
        have kt_SizeError : ∀ c, c ∈ ([2, 20] : List Nat) → PySem.W.kitOne K (.ref (t.cl c)) (.ref t.c_SizeError) = some (decide (c = 1)) := by
          intro c hc
          simp only [List.mem_cons, List.not_mem_nil, or_false] at hc
          rcases hc with rfl | rfl
          · exact T.kt_NumberError_SizeError
          · exact T.kt_ZeroVector_SizeError
        have kt_DependentError : ∀ c, c ∈ ([2, 20] : List Nat) → PySem.W.kitOne K (.ref (t.cl c)) (.ref t.c_DependentError) = some (decide (c = 21)) := by
          intro c hc
          simp only [List.mem_cons, List.not_mem_nil, or_false] at hc
          rcases hc with rfl | rfl
          · exact T.kt_NumberError_DependentError
          · exact T.kt_ZeroVector_DependentError
        have kt_ValueError : ∀ c, c ∈ ([2, 20] : List Nat) → PySem.W.kitOne K (.ref (t.cl c)) (.type "ValueError") = some (true) := by
          intro c hc
          simp only [List.mem_cons, List.not_mem_nil, or_false] at hc
          rcases hc with rfl | rfl
          · exact T.kt_NumberError_ValueError
          · exact T.kt_ZeroVector_ValueError
        refine tSeq_j (tAsg_j (tLst_i (tNil_i (new_i (Nat.le_of_ble_eq_true rfl) (fun q263 H264 n265 s266 e267 => ?_)))))
        have r268 : AllR (pTup K (rCons pStr (rOne pInt))) (dels H253 ps) [] ([] : List (Str × Int)) := .nil
        have l269 : ([] : List (Str × Int)).length ≤ LIM := (Nat.le_of_ble_eq_true rfl)
        have m270 := nin_of n265 P260
        have z271 := Same.free T261 n265
        have P272 := dom_up s266 P260
        have T273 := Same.trans T261 s266
        have P274 := dom_new e267 P272
        have S275 : Same (dels H253 ps) (dels H264 (q263 :: ps)) := Sn ps s266 n265
        refine gN (σ' := [some (.int x_which), some (.int x_p), some v_thing, some v_base, none, some (.ref a257), some (.ref q263)]) rfl (?_)
        obtain ⟨y276, r277, l278, hw⟩ := letO hw r268 l269
        refine cutW (S := (List (Str × Int))) hw (fun (s304 : (List (Str × Int))) (σ307 : L2.St) (H306 : Hp) => ∃ (us311 : List V), σ307 = [some (.int x_which), some (.int x_p), some v_thing, some v_base, none, some (.ref a257), some (.ref q263)] ∧ Same (dels H264 (q263 :: ps)) (dels H306 (q263 :: ps)) ∧ (∀ x ∈ (q263 :: ps), H306 x ≠ none) ∧ Same H H306 ∧ H306 q263 = some (.lst us311) ∧ AllR (pTup K (rCons pStr (rOne pInt))) (dels H306 (q263 :: ps)) us311 s304 ∧ (s304).length ≤ LIM ∧ True) (fun hw => ?_) (fun s304 σ307 H306 hr hw => ?_)
        · refine tIfS_j (tTruth_i (tCB_i (tCons_i (tVar_i (v := (.ref a257)) rfl (tCons_i (tC_i (tNil_i (isX_c (b := (decide (er252.cls = 2))) (XR _ hCR) er252.fs (XDict.same (Same.trans S275 Su) hX256) (kt_NumberError _ hCR) (Tru_b (?_))))))))))
          refine Br_two hw (fun c316 hw => ?_) (fun c316 hw => ?_)
          · refine tDrop_j (tBM_i (tVar_i (v := (.ref q263)) rfl (tyL (SqL.of e267) (tCons_i (tTup_i (tCons_i (tC_i (tCons_i (tXF_i (tVar_i (v := (.ref a257)) rfl (?_)))))))))))
            obtain ⟨z317, hz318, hw⟩ := hw
            refine xfP hz318 (XR _ hCR) (XDict.same (Same.trans S275 Su) hX256) (by rw [hz318]; exact T.xn_NumberError_number) (tNil_i (new_i (Nat.le_of_ble_eq_true rfl) (fun q319 H320 n321 s322 e323 => ?_)))
            have P325 := dom_up s322 P274
            have T326 := Same.trans T273 s322
            have e327 := s322 _ _ e267
            have S328 : Same (dels H264 (q263 :: ps)) (dels H320 (q263 :: ps)) := Sd (q263 :: ps) s322
            have h324 : (pTup K (rCons pStr (rOne pInt))).rep (dels H320 (q263 :: ps)) (.ref q319) ((Str.ofString "number"), z317) := tupR (dels_at e323 (nin_of n321 P274)) (rowC rfl (rowO rfl))
            refine tNil_i (appO (p := (pTup K (rCons pStr (rOne pInt)))) (d := ((Str.ofString "number"), z317)) e327 (AllR.mono (S275.trans S328) r277) hw.1 h324 (fun H329 f330 us331 e332 r333 l334 => ?_))
            have P335 := dom_off f330 e332 P325
            have T336 := st_off T326 f330 z271
            have S337 : Same (dels H320 (q263 :: ps)) (dels H329 (q263 :: ps)) := So (List.mem_cons_self ..) f330
            obtain ⟨y338, r339, l340, hw⟩ := letO hw.2 r333 l334
            exact ⟨y338, ⟨us331, rfl, (S328.trans S337), P335, T336, e332, (AllR.mono S337 r339), l340, trivial⟩, hw⟩
          · refine tNext_j (?_)
            exact ⟨y276, ⟨[], rfl, (Same.refl _), P274, T273, e267, (AllR.mono S275 r277), l278, trivial⟩, hw⟩
        obtain ⟨us311, rfl, S310, P308, T309, e312, r313, l314, _⟩ := hr
        refine cutW (S := (List (Str × Int))) hw (fun (s366 : (List (Str × Int))) (σ369 : L2.St) (H368 : Hp) => ∃ (us373 : List V), σ369 = [some (.int x_which), some (.int x_p), some v_thing, some v_base, none, some (.ref a257), some (.ref q263)] ∧ Same (dels H306 (q263 :: ps)) (dels H368 (q263 :: ps)) ∧ (∀ x ∈ (q263 :: ps), H368 x ≠ none) ∧ Same H H368 ∧ H368 q263 = some (.lst us373) ∧ AllR (pTup K (rCons pStr (rOne pInt))) (dels H368 (q263 :: ps)) us373 s366 ∧ (s366).length ≤ LIM ∧ True) (fun hw => ?_) (fun s366 σ369 H368 hr hw => ?_)
        · refine tIfS_j (tTruth_i (tCB_i (tCons_i (tVar_i (v := (.ref a257)) rfl (tCons_i (tC_i (tNil_i (isX_c (b := (decide (er252.cls = 8))) (XR _ hCR) er252.fs (XDict.same (Same.trans (S275.trans S310) Su) hX256) (kt_PrimeError _ hCR) (Tru_b (?_))))))))))
          refine Br_two hw (fun c378 hw => ?_) (fun c378 hw => ?_)
          · refine tDrop_j (tBM_i (tVar_i (v := (.ref q263)) rfl (tyL (SqL.of e312) (tCons_i (tTup_i (tCons_i (tC_i (tCons_i (tXF_i (tVar_i (v := (.ref a257)) rfl (?_)))))))))))
            obtain ⟨z379, hz380, hw⟩ := hw
            refine xfP hz380 (XR _ hCR) (XDict.same (Same.trans (S275.trans S310) Su) hX256) (by rw [hz380]; exact T.xn_PrimeError_prime) (tNil_i (new_i (Nat.le_of_ble_eq_true rfl) (fun q381 H382 n383 s384 e385 => ?_)))
            have P387 := dom_up s384 P308
            have T388 := Same.trans T309 s384
            have e389 := s384 _ _ e312
            have S390 : Same (dels H306 (q263 :: ps)) (dels H382 (q263 :: ps)) := Sd (q263 :: ps) s384
            have h386 : (pTup K (rCons pStr (rOne pInt))).rep (dels H382 (q263 :: ps)) (.ref q381) ((Str.ofString "prime"), z379) := tupR (dels_at e385 (nin_of n383 P308)) (rowC rfl (rowO rfl))
            refine tNil_i (appO (p := (pTup K (rCons pStr (rOne pInt)))) (d := ((Str.ofString "prime"), z379)) e389 (AllR.mono S390 r313) hw.1 h386 (fun H391 f392 us393 e394 r395 l396 => ?_))
            have P397 := dom_off f392 e394 P387
            have T398 := st_off T388 f392 z271
            have S399 : Same (dels H382 (q263 :: ps)) (dels H391 (q263 :: ps)) := So (List.mem_cons_self ..) f392
            obtain ⟨y400, r401, l402, hw⟩ := letO hw.2 r395 l396
            exact ⟨y400, ⟨us393, rfl, (S390.trans S399), P397, T398, e394, (AllR.mono S399 r401), l402, trivial⟩, hw⟩
          · refine tNext_j (?_)
            exact ⟨s304, ⟨us311, rfl, (Same.refl _), P308, T309, e312, r313, l314, trivial⟩, hw⟩
        obtain ⟨us373, rfl, S372, P370, T371, e374, r375, l376, _⟩ := hr
        refine cutW (S := (List (Str × Int))) hw (fun (s431 : (List (Str × Int))) (σ434 : L2.St) (H433 : Hp) => ∃ (us438 : List V), σ434 = [some (.int x_which), some (.int x_p), some v_thing, some v_base, none, some (.ref a257), some (.ref q263)] ∧ Same (dels H368 (q263 :: ps)) (dels H433 (q263 :: ps)) ∧ (∀ x ∈ (q263 :: ps), H433 x ≠ none) ∧ Same H H433 ∧ H433 q263 = some (.lst us438) ∧ AllR (pTup K (rCons pStr (rOne pInt))) (dels H433 (q263 :: ps)) us438 s431 ∧ (s431).length ≤ LIM ∧ True) (fun hw => ?_) (fun s431 σ434 H433 hr hw => ?_)
        · refine tIfS_j (tOrP (b := (decide (er252.cls = 1))) (c := ((decide (er252.cls = 21)) || (!true))) (fun R hR => tTruth_i (tCB_i (tCons_i (tVar_i (v := (.ref a257)) rfl (tCons_i (tC_i (tNil_i (isX_c (b := (decide (er252.cls = 1))) (XR _ hCR) er252.fs (XDict.same (Same.trans (S275.trans (S310.trans S372)) Su) hX256) (kt_SizeError _ hCR) (Tru_b (hR)))))))))) (fun g446 R hR => tOrP (b := (decide (er252.cls = 21))) (c := (!true)) (fun R hR => tTruth_i (tCB_i (tCons_i (tVar_i (v := (.ref a257)) rfl (tCons_i (tC_i (tNil_i (isX_c (b := (decide (er252.cls = 21))) (XR _ hCR) er252.fs (XDict.same (Same.trans (S275.trans (S310.trans S372)) Su) hX256) (kt_DependentError _ hCR) (Tru_b (hR)))))))))) (fun g447 R hR => tNot_i (tTruth_i (tCB_i (tCons_i (tVar_i (v := (.ref a257)) rfl (tCons_i (tC_i (tNil_i (isX_t (b := true) (XR _ hCR) er252.fs (XDict.same (Same.trans (S275.trans (S310.trans S372)) Su) hX256) (kt_ValueError _ hCR) (Tru_b (hR))))))))))) (hR)) (?_))
          refine Br_two hw (fun c448 hw => ?_) (fun c448 hw => ?_)
          · refine tDrop_j (tBM_i (tVar_i (v := (.ref q263)) rfl (tyL (SqL.of e374) (tCons_i (tTup_i (tCons_i (tC_i (tCons_i (tC_i (tNil_i (new_i (Nat.le_of_ble_eq_true rfl) (fun q449 H450 n451 s452 e453 => ?_))))))))))))
            have P455 := dom_up s452 P370
            have T456 := Same.trans T371 s452
            have e457 := s452 _ _ e374
            have S458 : Same (dels H368 (q263 :: ps)) (dels H450 (q263 :: ps)) := Sd (q263 :: ps) s452
            have h454 : (pTup K (rCons pStr (rOne pInt))).rep (dels H450 (q263 :: ps)) (.ref q449) ((Str.ofString "other"), (0 : Int)) := tupR (dels_at e453 (nin_of n451 P370)) (rowC rfl (rowO rfl))
            refine tNil_i (appO (p := (pTup K (rCons pStr (rOne pInt)))) (d := ((Str.ofString "other"), (0 : Int))) e457 (AllR.mono S458 r375) hw.1 h454 (fun H459 f460 us461 e462 r463 l464 => ?_))
            have P465 := dom_off f460 e462 P455
            have T466 := st_off T456 f460 z271
            have S467 : Same (dels H450 (q263 :: ps)) (dels H459 (q263 :: ps)) := So (List.mem_cons_self ..) f460
            obtain ⟨y468, r469, l470, hw⟩ := letO hw.2 r463 l464
            exact ⟨y468, ⟨us461, rfl, (S458.trans S467), P465, T466, e462, (AllR.mono S467 r469), l470, trivial⟩, hw⟩
          · refine tNext_j (?_)
            exact ⟨s366, ⟨us373, rfl, (Same.refl _), P370, T371, e374, r375, l376, trivial⟩, hw⟩
        obtain ⟨us438, rfl, S437, P435, T436, e439, r440, l441, _⟩ := hr
        refine tRet_j (tTup_i (tCons_i (tC_i (tCons_i (tVar_i (v := (.ref q263)) rfl (tNil_i (?_)))))))
        have h471 : (pList (pTup K (rCons pStr (rOne pInt)))).rep (dels H433 ps) (.ref q263) s431 := oFrzG e439 m270 (ss_skip ss_refl) r440 l441
        have P472 := dom_ss (ss_skip ss_refl) P435
        have S473 : Same (dels H433 (q263 :: ps)) (dels H433 ps) := Ss (ss_skip ss_refl)
        refine new_i (Nat.le_of_ble_eq_true rfl) (fun q474 H475 n476 s477 e478 => ?_)
        have P480 := dom_up s477 P472
        have T481 := Same.trans T436 s477
        have S482 : Same (dels H433 ps) (dels H475 ps) := Sd ps s477
        have h479 : (pTup K (rCons pStr (rOne (pSum pInt (pSum (pList (pTup K (rCons pStr (rOne pInt)))) (pTup K (rCons pInt (rOne pInt)))))))).rep (dels H475 ps) (.ref q474) ((Str.ofString "refused"), (Sum.inr (Sum.inl s431 : ((List (Str × Int)) ⊕ (Int × Int))) : (Int ⊕ (List (Str × Int)) ⊕ (Int × Int)))) := tupR (dels_at e478 (nin_of n476 P472)) (rowC rfl (rowO (sumR (q := (pSum (pList (pTup K (rCons pStr (rOne pInt)))) (pTup K (rCons pInt (rOne pInt))))) (sumL (p := (pList (pTup K (rCons pStr (rOne pInt))))) ((pList (pTup K (rCons pStr (rOne pInt)))).mono S482 h471)))))
        exact hk _ hw _ _ T481 h479
      have P485 := dom_up s251 P0
      have T486 := Same.trans (Same.refl H) s251
      have S487 : Same (dels H ps) (dels H250 ps) := Sd ps s251
      refine gN (σ' := [some (.int x_which), some (.int x_p), some v_thing, some v_base, some v483, none, none]) rfl (tRet_j (tTup_i (tCons_i (tC_i (tCons_i (tVar_i (v := v483) rfl (tNil_i (new_i (Nat.le_of_ble_eq_true rfl) (fun q488 H489 n490 s491 e492 => ?_)))))))))
      have P494 := dom_up s491 P485
      have T495 := Same.trans T486 s491
      have S496 : Same (dels H250 ps) (dels H489 ps) := Sd ps s491
      have h493 : (pTup K (rCons pStr (rOne (pSum pInt (pSum (pList (pTup K (rCons pStr (rOne pInt)))) (pTup K (rCons pInt (rOne pInt)))))))).rep (dels H489 ps) (.ref q488) ((Str.ofString "told"), (Sum.inr (Sum.inr r249 : ((List (Str × Int)) ⊕ (Int × Int))) : (Int ⊕ (List (Str × Int)) ⊕ (Int × Int)))) := tupR (dels_at e492 (nin_of n490 P485)) (rowC rfl (rowO (sumR (q := (pSum (pList (pTup K (rCons pStr (rOne pInt)))) (pTup K (rCons pInt (rOne pInt))))) (sumR (q := (pTup K (rCons pInt (rOne pInt)))) ((pTup K (rCons pInt (rOne pInt))).mono S496 h484)))))
      exact hk _ hw _ _ T495 h493
    · refine tAsg_j (tCallS_i (tCons_i (tVar_i (v := (.int x_p)) rfl (tCons_i (tVar_i (v := v_thing) rfl (tCons_i (tVar_i (v := v_base) rfl (tNil_i (?_)))))))))
      refine ⟨ps, x_p, (sGR x_thing), x_base, v_thing, v_base, rfl, P0, (sumGR h_thing hw.1), h_base, _, _, hw.2, fun r497 hw H498 v731 s499 h732 => ?_, fun er500 hc hw => ?_⟩
      rotate_left 1
      · have em507 : ∀ c, c ∈ ([2, 8, 20] : List Nat) → PySem.W.exmOne K (.ref (t.cl c)) (.ref t.c_EndsError) = some true := by
          intro c hc
          simp only [List.mem_cons, List.not_mem_nil, or_false] at hc
          rcases hc with rfl | rfl | rfl
          · exact T.em_NumberError_EndsError
          · exact T.em_PrimeError_EndsError
          · exact T.em_ZeroVector_EndsError
        have hCR := hc
        intro H501 d502 s503 hX504
        have P508 := dom_up s503 P0
        have T509 := Same.trans (Same.refl H) s503
        have S510 : Same (dels H ps) (dels H501 ps) := Sd ps s503
        refine wasL (g := fun a505 => [some (.int x_which), some (.int x_p), some v_thing, some v_base, none, some (.ref a505), none]) (em507 _ hc) (fun _ => rfl) (fun a505 na506 => ?_)
        have XR : ∀ c, c ∈ ([2, 8, 20] : List Nat) → XCls K (t.cl c) := by
          intro c hc
          simp only [List.mem_cons, List.not_mem_nil, or_false] at hc
          rcases hc with rfl | rfl | rfl
          · exact T.X_NumberError
          · exact T.X_PrimeError
          · exact T.X_ZeroVector
        have kt_NumberError : ∀ c, c ∈ ([2, 8, 20] : List Nat) → PySem.W.kitOne K (.ref (t.cl c)) (.ref t.c_NumberError) = some (decide (c = 2)) := by
          intro c hc
          simp only [List.mem_cons, List.not_mem_nil, or_false] at hc
          rcases hc with rfl | rfl | rfl
          · exact T.kt_NumberError_NumberError
          · exact T.kt_PrimeError_NumberError
          · exact T.kt_ZeroVector_NumberError
        have kt_PrimeError : ∀ c, c ∈ ([2, 8, 20] : List Nat) → PySem.W.kitOne K (.ref (t.cl c)) (.ref t.c_PrimeError) = some (decide (c = 8)) := by
          intro c hc
          simp only [List.mem_cons, List.not_mem_nil, or_false] at hc
          rcases hc with rfl | rfl | rfl
          · exact T.kt_NumberError_PrimeError
          · exact T.kt_PrimeError_PrimeError
          · exact T.kt_ZeroVector_PrimeError
        have kt_SizeError : ∀ c, c ∈ ([2, 8, 20] : List Nat) → PySem.W.kitOne K (.ref (t.cl c)) (.ref t.c_SizeError) = some (decide (c = 1)) := by
          intro c hc
          simp only [List.mem_cons, List.not_mem_nil, or_false] at hc
          rcases hc with rfl | rfl | rfl
          · exact T.kt_NumberError_SizeError
          · exact T.kt_PrimeError_SizeError
          · exact T.kt_ZeroVector_SizeError
        have kt_DependentError : ∀ c, c ∈ ([2, 8, 20] : List Nat) → PySem.W.kitOne K (.ref (t.cl c)) (.ref t.c_DependentError) = some (decide (c = 21)) := by
          intro c hc
          simp only [List.mem_cons, List.not_mem_nil, or_false] at hc
          rcases hc with rfl | rfl | rfl
          · exact T.kt_NumberError_DependentError
          · exact T.kt_PrimeError_DependentError
          · exact T.kt_ZeroVector_DependentError
        have kt_ValueError : ∀ c, c ∈ ([2, 8, 20] : List Nat) → PySem.W.kitOne K (.ref (t.cl c)) (.type "ValueError") = some (true) := by
          intro c hc
          simp only [List.mem_cons, List.not_mem_nil, or_false] at hc
          rcases hc with rfl | rfl | rfl
          · exact T.kt_NumberError_ValueError
          · exact T.kt_PrimeError_ValueError
          · exact T.kt_ZeroVector_ValueError
        refine tSeq_j (tAsg_j (tLst_i (tNil_i (new_i (Nat.le_of_ble_eq_true rfl) (fun q511 H512 n513 s514 e515 => ?_)))))
        have r516 : AllR (pTup K (rCons pStr (rOne pInt))) (dels H501 ps) [] ([] : List (Str × Int)) := .nil
        have l517 : ([] : List (Str × Int)).length ≤ LIM := (Nat.le_of_ble_eq_true rfl)
        have m518 := nin_of n513 P508
        have z519 := Same.free T509 n513
        have P520 := dom_up s514 P508
        have T521 := Same.trans T509 s514
        have P522 := dom_new e515 P520
        have S523 : Same (dels H501 ps) (dels H512 (q511 :: ps)) := Sn ps s514 n513
        refine gN (σ' := [some (.int x_which), some (.int x_p), some v_thing, some v_base, none, some (.ref a505), some (.ref q511)]) rfl (?_)
        obtain ⟨y524, r525, l526, hw⟩ := letO hw r516 l517
        refine cutW (S := (List (Str × Int))) hw (fun (s552 : (List (Str × Int))) (σ555 : L2.St) (H554 : Hp) => ∃ (us559 : List V), σ555 = [some (.int x_which), some (.int x_p), some v_thing, some v_base, none, some (.ref a505), some (.ref q511)] ∧ Same (dels H512 (q511 :: ps)) (dels H554 (q511 :: ps)) ∧ (∀ x ∈ (q511 :: ps), H554 x ≠ none) ∧ Same H H554 ∧ H554 q511 = some (.lst us559) ∧ AllR (pTup K (rCons pStr (rOne pInt))) (dels H554 (q511 :: ps)) us559 s552 ∧ (s552).length ≤ LIM ∧ True) (fun hw => ?_) (fun s552 σ555 H554 hr hw => ?_)
        · refine tIfS_j (tTruth_i (tCB_i (tCons_i (tVar_i (v := (.ref a505)) rfl (tCons_i (tC_i (tNil_i (isX_c (b := (decide (er500.cls = 2))) (XR _ hCR) er500.fs (XDict.same (Same.trans S523 Su) hX504) (kt_NumberError _ hCR) (Tru_b (?_))))))))))
          refine Br_two hw (fun c564 hw => ?_) (fun c564 hw => ?_)
          · refine tDrop_j (tBM_i (tVar_i (v := (.ref q511)) rfl (tyL (SqL.of e515) (tCons_i (tTup_i (tCons_i (tC_i (tCons_i (tXF_i (tVar_i (v := (.ref a505)) rfl (?_)))))))))))
            obtain ⟨z565, hz566, hw⟩ := hw
            refine xfP hz566 (XR _ hCR) (XDict.same (Same.trans S523 Su) hX504) (by rw [hz566]; exact T.xn_NumberError_number) (tNil_i (new_i (Nat.le_of_ble_eq_true rfl) (fun q567 H568 n569 s570 e571 => ?_)))
            have P573 := dom_up s570 P522
            have T574 := Same.trans T521 s570
            have e575 := s570 _ _ e515
            have S576 : Same (dels H512 (q511 :: ps)) (dels H568 (q511 :: ps)) := Sd (q511 :: ps) s570
            have h572 : (pTup K (rCons pStr (rOne pInt))).rep (dels H568 (q511 :: ps)) (.ref q567) ((Str.ofString "number"), z565) := tupR (dels_at e571 (nin_of n569 P522)) (rowC rfl (rowO rfl))
            refine tNil_i (appO (p := (pTup K (rCons pStr (rOne pInt)))) (d := ((Str.ofString "number"), z565)) e575 (AllR.mono (S523.trans S576) r525) hw.1 h572 (fun H577 f578 us579 e580 r581 l582 => ?_))
            have P583 := dom_off f578 e580 P573
            have T584 := st_off T574 f578 z519
            have S585 : Same (dels H568 (q511 :: ps)) (dels H577 (q511 :: ps)) := So (List.mem_cons_self ..) f578
            obtain ⟨y586, r587, l588, hw⟩ := letO hw.2 r581 l582
            exact ⟨y586, ⟨us579, rfl, (S576.trans S585), P583, T584, e580, (AllR.mono S585 r587), l588, trivial⟩, hw⟩
          · refine tNext_j (?_)
            exact ⟨y524, ⟨[], rfl, (Same.refl _), P522, T521, e515, (AllR.mono S523 r525), l526, trivial⟩, hw⟩
        obtain ⟨us559, rfl, S558, P556, T557, e560, r561, l562, _⟩ := hr
        refine cutW (S := (List (Str × Int))) hw (fun (s614 : (List (Str × Int))) (σ617 : L2.St) (H616 : Hp) => ∃ (us621 : List V), σ617 = [some (.int x_which), some (.int x_p), some v_thing, some v_base, none, some (.ref a505), some (.ref q511)] ∧ Same (dels H554 (q511 :: ps)) (dels H616 (q511 :: ps)) ∧ (∀ x ∈ (q511 :: ps), H616 x ≠ none) ∧ Same H H616 ∧ H616 q511 = some (.lst us621) ∧ AllR (pTup K (rCons pStr (rOne pInt))) (dels H616 (q511 :: ps)) us621 s614 ∧ (s614).length ≤ LIM ∧ True) (fun hw => ?_) (fun s614 σ617 H616 hr hw => ?_)
        · refine tIfS_j (tTruth_i (tCB_i (tCons_i (tVar_i (v := (.ref a505)) rfl (tCons_i (tC_i (tNil_i (isX_c (b := (decide (er500.cls = 8))) (XR _ hCR) er500.fs (XDict.same (Same.trans (S523.trans S558) Su) hX504) (kt_PrimeError _ hCR) (Tru_b (?_))))))))))
          refine Br_two hw (fun c626 hw => ?_) (fun c626 hw => ?_)
          · refine tDrop_j (tBM_i (tVar_i (v := (.ref q511)) rfl (tyL (SqL.of e560) (tCons_i (tTup_i (tCons_i (tC_i (tCons_i (tXF_i (tVar_i (v := (.ref a505)) rfl (?_)))))))))))
            obtain ⟨z627, hz628, hw⟩ := hw
            refine xfP hz628 (XR _ hCR) (XDict.same (Same.trans (S523.trans S558) Su) hX504) (by rw [hz628]; exact T.xn_PrimeError_prime) (tNil_i (new_i (Nat.le_of_ble_eq_true rfl) (fun q629 H630 n631 s632 e633 => ?_)))
            have P635 := dom_up s632 P556
            have T636 := Same.trans T557 s632
            have e637 := s632 _ _ e560
            have S638 : Same (dels H554 (q511 :: ps)) (dels H630 (q511 :: ps)) := Sd (q511 :: ps) s632
            have h634 : (pTup K (rCons pStr (rOne pInt))).rep (dels H630 (q511 :: ps)) (.ref q629) ((Str.ofString "prime"), z627) := tupR (dels_at e633 (nin_of n631 P556)) (rowC rfl (rowO rfl))
            refine tNil_i (appO (p := (pTup K (rCons pStr (rOne pInt)))) (d := ((Str.ofString "prime"), z627)) e637 (AllR.mono S638 r561) hw.1 h634 (fun H639 f640 us641 e642 r643 l644 => ?_))
            have P645 := dom_off f640 e642 P635
            have T646 := st_off T636 f640 z519
            have S647 : Same (dels H630 (q511 :: ps)) (dels H639 (q511 :: ps)) := So (List.mem_cons_self ..) f640
            obtain ⟨y648, r649, l650, hw⟩ := letO hw.2 r643 l644
            exact ⟨y648, ⟨us641, rfl, (S638.trans S647), P645, T646, e642, (AllR.mono S647 r649), l650, trivial⟩, hw⟩
          · refine tNext_j (?_)
            exact ⟨s552, ⟨us559, rfl, (Same.refl _), P556, T557, e560, r561, l562, trivial⟩, hw⟩
        obtain ⟨us621, rfl, S620, P618, T619, e622, r623, l624, _⟩ := hr
        refine cutW (S := (List (Str × Int))) hw (fun (s679 : (List (Str × Int))) (σ682 : L2.St) (H681 : Hp) => ∃ (us686 : List V), σ682 = [some (.int x_which), some (.int x_p), some v_thing, some v_base, none, some (.ref a505), some (.ref q511)] ∧ Same (dels H616 (q511 :: ps)) (dels H681 (q511 :: ps)) ∧ (∀ x ∈ (q511 :: ps), H681 x ≠ none) ∧ Same H H681 ∧ H681 q511 = some (.lst us686) ∧ AllR (pTup K (rCons pStr (rOne pInt))) (dels H681 (q511 :: ps)) us686 s679 ∧ (s679).length ≤ LIM ∧ True) (fun hw => ?_) (fun s679 σ682 H681 hr hw => ?_)
        · refine tIfS_j (tOrP (b := (decide (er500.cls = 1))) (c := ((decide (er500.cls = 21)) || (!true))) (fun R hR => tTruth_i (tCB_i (tCons_i (tVar_i (v := (.ref a505)) rfl (tCons_i (tC_i (tNil_i (isX_c (b := (decide (er500.cls = 1))) (XR _ hCR) er500.fs (XDict.same (Same.trans (S523.trans (S558.trans S620)) Su) hX504) (kt_SizeError _ hCR) (Tru_b (hR)))))))))) (fun g694 R hR => tOrP (b := (decide (er500.cls = 21))) (c := (!true)) (fun R hR => tTruth_i (tCB_i (tCons_i (tVar_i (v := (.ref a505)) rfl (tCons_i (tC_i (tNil_i (isX_c (b := (decide (er500.cls = 21))) (XR _ hCR) er500.fs (XDict.same (Same.trans (S523.trans (S558.trans S620)) Su) hX504) (kt_DependentError _ hCR) (Tru_b (hR)))))))))) (fun g695 R hR => tNot_i (tTruth_i (tCB_i (tCons_i (tVar_i (v := (.ref a505)) rfl (tCons_i (tC_i (tNil_i (isX_t (b := true) (XR _ hCR) er500.fs (XDict.same (Same.trans (S523.trans (S558.trans S620)) Su) hX504) (kt_ValueError _ hCR) (Tru_b (hR))))))))))) (hR)) (?_))
          refine Br_two hw (fun c696 hw => ?_) (fun c696 hw => ?_)
          · refine tDrop_j (tBM_i (tVar_i (v := (.ref q511)) rfl (tyL (SqL.of e622) (tCons_i (tTup_i (tCons_i (tC_i (tCons_i (tC_i (tNil_i (new_i (Nat.le_of_ble_eq_true rfl) (fun q697 H698 n699 s700 e701 => ?_))))))))))))
            have P703 := dom_up s700 P618
            have T704 := Same.trans T619 s700
            have e705 := s700 _ _ e622
            have S706 : Same (dels H616 (q511 :: ps)) (dels H698 (q511 :: ps)) := Sd (q511 :: ps) s700
            have h702 : (pTup K (rCons pStr (rOne pInt))).rep (dels H698 (q511 :: ps)) (.ref q697) ((Str.ofString "other"), (0 : Int)) := tupR (dels_at e701 (nin_of n699 P618)) (rowC rfl (rowO rfl))
            refine tNil_i (appO (p := (pTup K (rCons pStr (rOne pInt)))) (d := ((Str.ofString "other"), (0 : Int))) e705 (AllR.mono S706 r623) hw.1 h702 (fun H707 f708 us709 e710 r711 l712 => ?_))
            have P713 := dom_off f708 e710 P703
            have T714 := st_off T704 f708 z519
            have S715 : Same (dels H698 (q511 :: ps)) (dels H707 (q511 :: ps)) := So (List.mem_cons_self ..) f708
            obtain ⟨y716, r717, l718, hw⟩ := letO hw.2 r711 l712
            exact ⟨y716, ⟨us709, rfl, (S706.trans S715), P713, T714, e710, (AllR.mono S715 r717), l718, trivial⟩, hw⟩
          · refine tNext_j (?_)
            exact ⟨s614, ⟨us621, rfl, (Same.refl _), P618, T619, e622, r623, l624, trivial⟩, hw⟩
        obtain ⟨us686, rfl, S685, P683, T684, e687, r688, l689, _⟩ := hr
        refine tRet_j (tTup_i (tCons_i (tC_i (tCons_i (tVar_i (v := (.ref q511)) rfl (tNil_i (?_)))))))
        have h719 : (pList (pTup K (rCons pStr (rOne pInt)))).rep (dels H681 ps) (.ref q511) s679 := oFrzG e687 m518 (ss_skip ss_refl) r688 l689
        have P720 := dom_ss (ss_skip ss_refl) P683
        have S721 : Same (dels H681 (q511 :: ps)) (dels H681 ps) := Ss (ss_skip ss_refl)
        refine new_i (Nat.le_of_ble_eq_true rfl) (fun q722 H723 n724 s725 e726 => ?_)
        have P728 := dom_up s725 P720
        have T729 := Same.trans T684 s725
        have S730 : Same (dels H681 ps) (dels H723 ps) := Sd ps s725
        have h727 : (pTup K (rCons pStr (rOne (pSum pInt (pSum (pList (pTup K (rCons pStr (rOne pInt)))) (pTup K (rCons pInt (rOne pInt)))))))).rep (dels H723 ps) (.ref q722) ((Str.ofString "refused"), (Sum.inr (Sum.inl s679 : ((List (Str × Int)) ⊕ (Int × Int))) : (Int ⊕ (List (Str × Int)) ⊕ (Int × Int)))) := tupR (dels_at e726 (nin_of n724 P720)) (rowC rfl (rowO (sumR (q := (pSum (pList (pTup K (rCons pStr (rOne pInt)))) (pTup K (rCons pInt (rOne pInt))))) (sumL (p := (pList (pTup K (rCons pStr (rOne pInt))))) ((pList (pTup K (rCons pStr (rOne pInt)))).mono S730 h719)))))
        exact hk _ hw _ _ T729 h727
      have P733 := dom_up s499 P0
      have T734 := Same.trans (Same.refl H) s499
      have S735 : Same (dels H ps) (dels H498 ps) := Sd ps s499
      refine gN (σ' := [some (.int x_which), some (.int x_p), some v_thing, some v_base, some v731, none, none]) rfl (tRet_j (tTup_i (tCons_i (tC_i (tCons_i (tVar_i (v := v731) rfl (tNil_i (new_i (Nat.le_of_ble_eq_true rfl) (fun q736 H737 n738 s739 e740 => ?_)))))))))
      have P742 := dom_up s739 P733
      have T743 := Same.trans T734 s739
      have S744 : Same (dels H498 ps) (dels H737 ps) := Sd ps s739
      have h741 : (pTup K (rCons pStr (rOne (pSum pInt (pSum (pList (pTup K (rCons pStr (rOne pInt)))) (pTup K (rCons pInt (rOne pInt)))))))).rep (dels H737 ps) (.ref q736) ((Str.ofString "told"), (Sum.inr (Sum.inr r497 : ((List (Str × Int)) ⊕ (Int × Int))) : (Int ⊕ (List (Str × Int)) ⊕ (Int × Int)))) := tupR (dels_at e740 (nin_of n738 P733)) (rowC rfl (rowO (sumR (q := (pSum (pList (pTup K (rCons pStr (rOne pInt)))) (pTup K (rCons pInt (rOne pInt))))) (sumR (q := (pTup K (rCons pInt (rOne pInt)))) ((pTup K (rCons pInt (rOne pInt))).mono S744 h732)))))
      exact hk _ hw _ _ T743 h741
def sp_ulaw_refused (K : PySem.W.Frag) (t : Tab) : Sp := fun vs H Q E => ∃ (ps : List Addr) (x_cells : Unit) (x_at : Unit) (x_p : Int) (x_one : ((Int × Int) × (Int × Int))) (v_cells : V) (v_at : V) (v_one : V), vs = [v_cells, v_at, (.int x_p), v_one] ∧ (∀ x ∈ ps, H x ≠ none) ∧ (pDraw K).rep (dels H ps) v_cells x_cells ∧ pCell.rep (dels H ps) v_at x_at ∧ (pTup K (rCons (pTup K (rCons pInt (rOne pInt))) (rOne (pTup K (rCons pInt (rOne pInt)))))).rep (dels H ps) v_one x_one ∧ ∃ (k : Bool → Prop) (e : PErr → Prop), w_ulaw_refused x_cells x_at x_p x_one k e ∧ (∀ r, k r → RetI V.bl H Q r) ∧ (∀ er, er.cls ∈ ([2, 21] : List Nat) → e er → ErrK ps t.cl H E er)
theorem len_ulaw_refused : ∀ vs H Q E, sp_ulaw_refused K t vs H Q E → vs.length = (["cells", "at", "p", "one"] : List Str).length := by
  rintro vs H Q E ⟨_, _, _, _, _, _, _, _, rfl, _⟩
  rfl
theorem ok_ulaw_refused (T : Txt K mg t) : FnOk P w K mg base (L2.CX P w) 11 t.a_ulaw_refused t.fd_ulaw_refused ["cells", "at", "p", "one"] (sp_ulaw_refused K t) := by
  have G_Base_init := ok_Base_init (P := P) (w := w) (base := base) T
  have G_ulaw_next := ok_ulaw_next (P := P) (w := w) (base := base) T
  have G_ulaw_asked := ok_ulaw_asked (P := P) (w := w) (base := base) T
  refine T.F_ulaw_refused.okX sc_ulaw_refused len_ulaw_refused (fun cdv A outer s H vs Q E hr h => ?_)
  have nd := sc_ulaw_refused.nd
  refine ⟨_, (pss_cons (ps_set (i := 4) nd rfl (Or.inl rfl) (pe_mak T.mk_Base G_Base_init (hr.mono (by decide)) (by rfl) T.g_Base T.b_Base_init (fun σ => passAt (takes_of rfl rfl rfl rfl) σ) (pa_cons (pv 2) (pa_cons (pe_ix (ix_UK K) (pv 3) (pe_int) (fun _ _ => rfl)) (pa_cons (pe_ix (ix_UK K) (pv 3) (pe_int) (fun _ _ => rfl)) pa_nil)))))
    (pss_cons (ps_set (i := 5) nd rfl (Or.inl rfl) (pe_ix (ix_UK K) (pe_lst (pa_cons (pe_int) (pa_cons (pe_int) (pa_cons (pe_int) (pa_cons (pe_int) (pa_cons (pe_int) (pa_cons (pe_int) (pa_cons (pe_int) (pa_cons (pe_int) (pa_cons (pe_int) (pa_cons (pe_int) (pa_cons (pe_op op_sub (pe_int) (pe_int)) pa_nil)))))))))))) (pe_callS G_ulaw_next (hr.mono (by decide)) (by rfl) T.g_ulaw_next T.F_ulaw_next.kp T.b_ulaw_next (fun σ => passAt (takes_of rfl rfl rfl rfl) σ) (pa_cons (pv 0) (pa_cons (pv 1) (pa_cons (pe_int) pa_nil)))) (fun _ _ => rfl)))
    (pss_cons (ps_set (i := 6) nd rfl (Or.inl rfl) (pe_lst (pa_cons (pe_op (op_addUK K) (pv 2) (pe_int)) (pa_cons (pe_op op_sub (pe_int) (pe_int)) (pa_cons (pe_op (op_addUK K) (pe_op (op_addUK K) (pv 2) (pe_int)) (pe_callS G_ulaw_next (hr.mono (by decide)) (by rfl) T.g_ulaw_next T.F_ulaw_next.kp T.b_ulaw_next (fun σ => passAt (takes_of rfl rfl rfl rfl) σ) (pa_cons (pv 0) (pa_cons (pv 1) (pa_cons (pe_int) pa_nil))))) pa_nil)))))
    (pss_cons (ps_set (i := 7) nd rfl (Or.inl rfl) (pe_ix (ix_UK K) (pv 6) (pe_callS G_ulaw_next (hr.mono (by decide)) (by rfl) T.g_ulaw_next T.F_ulaw_next.kp T.b_ulaw_next (fun σ => passAt (takes_of rfl rfl rfl rfl) σ) (pa_cons (pv 0) (pa_cons (pv 1) (pa_cons (pe_int) pa_nil)))) (fun _ _ => rfl)))
    (pss_cons (ps_set (i := 8) nd rfl (Or.inl rfl) (pe_callS G_ulaw_next (hr.mono (by decide)) (by rfl) T.g_ulaw_next T.F_ulaw_next.kp T.b_ulaw_next (fun σ => passAt (takes_of rfl rfl rfl rfl) σ) (pa_cons (pv 0) (pa_cons (pv 1) (pa_cons (pe_op (op_addUK K) (pv 2) (pe_int)) pa_nil)))))
    (pss_cons (ps_set (i := 9) nd rfl (Or.inl rfl) (pe_callS G_ulaw_next (hr.mono (by decide)) (by rfl) T.g_ulaw_next T.F_ulaw_next.kp T.b_ulaw_next (fun σ => passAt (takes_of rfl rfl rfl rfl) σ) (pa_cons (pv 0) (pa_cons (pv 1) (pa_cons (pe_op (op_addUK K) (pv 8) (pe_int)) pa_nil)))))
    (pss_cons (ps_set (i := 10) nd rfl (Or.inl rfl) (pe_ifExp (pt_cmpR (op_eqUK K hr) (pv 2) (pe_int) (by first | exact nomark _ | rfl)) (pe_int) (pe_int)))
    (pss_cons (ps_set (i := 11) nd rfl (Or.inl rfl) (pe_mak T.mk_Base G_Base_init (hr.mono (by decide)) (by rfl) T.g_Base T.b_Base_init (fun σ => passAt (takes_of rfl rfl rfl rfl) σ) (pa_cons (pv 10) (pa_cons (pe_tup (pa_cons (pe_int) (pa_cons (pe_int) pa_nil))) (pa_cons (pe_tup (pa_cons (pe_int) (pa_cons (pe_int) pa_nil))) pa_nil)))))
    (pss_cons (ps_set (i := 12) nd rfl (Or.inl rfl) (pe_lst (pa_cons (pe_tup (pa_cons (pe_int) (pa_cons (pv 2) (pa_cons (pv 7) (pa_cons (pe_tup (pa_cons (pe_str) (pa_cons (pv 7) pa_nil))) pa_nil))))) (pa_cons (pe_tup (pa_cons (pe_int) (pa_cons (pv 5) (pa_cons (pv 7) (pa_cons (pe_tup (pa_cons (pe_str) (pa_cons (pv 5) pa_nil))) pa_nil))))) pa_nil))))
    (pss_cons (ps_for (passes_of rfl) rfl (pi_UK K (pe_tup (pa_cons (pe_int) (pa_cons (pe_int) pa_nil)))) (pg_name (i := 13) nd rfl (Or.inl rfl))
    (pss_cons (ps_expr (pe_bmK K PySem.F.plainAttrs_list PySem.F.slot_list_append PySem.F.type_list_append mt_append (pv 12) (pa_cons (pe_tup (pa_cons (pv 13) (pa_cons (pv 5) (pa_cons (pe_tup (pa_cons (pv 8) (pa_cons (pv 9) pa_nil))) (pa_cons (pe_tup (pa_cons (pe_str) (pa_cons (pv 5) pa_nil))) pa_nil))))) pa_nil)))
    (pss_cons (ps_expr (pe_bmK K PySem.F.plainAttrs_list PySem.F.slot_list_append PySem.F.type_list_append mt_append (pv 12) (pa_cons (pe_tup (pa_cons (pv 13) (pa_cons (pv 2) (pa_cons (pe_tup (pa_cons (pv 8) (pa_cons (pv 9) pa_nil))) (pa_cons (pe_tup (pa_cons (pe_str) (pa_cons (pv 9) pa_nil))) pa_nil))))) pa_nil)))
    (pss_cons (ps_expr (pe_bmK K PySem.F.plainAttrs_list PySem.F.slot_list_append PySem.F.type_list_append mt_append (pv 12) (pa_cons (pe_tup (pa_cons (pv 13) (pa_cons (pv 2) (pa_cons (pe_tup (pa_cons (pv 7) (pa_cons (pv 9) pa_nil))) (pa_cons (pe_tup (pa_cons (pe_str) (pa_cons (pv 7) pa_nil))) pa_nil))))) pa_nil)))
    (pss_one (ps_expr (pe_bmK K PySem.F.plainAttrs_list PySem.F.slot_list_append PySem.F.type_list_append mt_append (pv 12) (pa_cons (pe_tup (pa_cons (pv 13) (pa_cons (pv 2) (pa_cons (pe_tup (pa_cons (pv 8) (pa_cons (pv 7) pa_nil))) (pa_cons (pe_tup (pa_cons (pe_str) (pa_cons (pv 7) pa_nil))) pa_nil))))) pa_nil))))))))
    (pss_cons (ps_for (passes_of rfl) rfl (pi_UK K (pv 12)) (pg_tupK K 4 rfl (pgs_cons (pg_name (i := 13) nd rfl (Or.inl rfl)) (pgs_cons (pg_name (i := 14) nd rfl (Or.inl rfl)) (pgs_cons (pg_name (i := 15) nd rfl (Or.inl rfl)) (pgs_cons (pg_name (i := 16) nd rfl (Or.inl rfl)) pgs_nil)))))
    (pss_cons (ps_if (pt_cmpR (op_neUK K hr) (pe_callS G_ulaw_asked (hr.mono (by decide)) (by rfl) T.g_ulaw_asked T.F_ulaw_asked.kp T.b_ulaw_asked (fun σ => passAt (takes_of rfl rfl rfl rfl) σ) (pa_cons (pv 13) (pa_cons (pv 14) (pa_cons (pv 15) (pa_cons (pv 4) pa_nil))))) (pe_tup (pa_cons (pe_str) (pa_cons (pe_lst (pa_cons (pv 16) pa_nil)) pa_nil))) (by first | exact nomark _ | rfl)) (pss_one (ps_ret (pe_bl))) pss_nil)
    (pss_one (ps_if (PW.pt (pw_and (pt_cmpR (op_eqUK K hr) (pv 13) (pe_int) (by first | exact nomark _ | rfl)) (pw_and1 (pt_cmpR (op_neUK K hr) (pe_callS G_ulaw_asked (hr.mono (by decide)) (by rfl) T.g_ulaw_asked T.F_ulaw_asked.kp T.b_ulaw_asked (fun σ => passAt (takes_of rfl rfl rfl rfl) σ) (pa_cons (pe_int) (pa_cons (pv 14) (pa_cons (pv 15) (pa_cons (pv 11) pa_nil))))) (pe_tup (pa_cons (pe_str) (pa_cons (pe_lst (pa_cons (pv 16) pa_nil)) pa_nil))) (by first | exact nomark _ | rfl))))) (pss_one (ps_ret (pe_bl))) pss_nil))))
    (pss_one (ps_ret (pe_cmpR (op_eqUK K hr) (pe_callS G_ulaw_asked (hr.mono (by decide)) (by rfl) T.g_ulaw_asked T.F_ulaw_asked.kp T.b_ulaw_asked (fun σ => passAt (takes_of rfl rfl rfl rfl) σ) (pa_cons (pe_int) (pa_cons (pv 2) (pa_cons (pe_tup (pa_cons (pe_int) (pa_cons (pv 2) pa_nil))) (pa_cons (pv 11) pa_nil))))) (pe_tup (pa_cons (pe_str) (pa_cons (pe_lst (pa_cons (pe_tup (pa_cons (pe_str) (pa_cons (pv 10) pa_nil))) pa_nil)) pa_nil))) (by first | exact nomark _ | rfl))))))))))))))), ?_⟩
  obtain ⟨ps, x_cells, x_at, x_p, x_one, v_cells, v_at, v_one, rfl, P0, h_cells, h_at, h_one, k, e, hw, hk, he⟩ := h
  unfold w_ulaw_refused at hw
  refine tSeq_j (tAsg_j (tMak_i (tCons_i (tVar_i (v := (.int x_p)) rfl (tCons_i (tOp_i (tVar_i (v := v_one) rfl (tC_i (ixT (j := 0) h_one Su rgZ rfl (fun u1 h2 => tCons_i (tOp_i (tVar_i (v := v_one) rfl (tC_i (ixT (j := 1) h_one Su (rgS rgOne) rfl (fun u3 h4 => tNil_i (?_))))))))))))))))
  refine makS (fun n5 dn6 H7 nn8 s9 s10 e11 => ?_)
  have S12 : Same (dels H ps) (dels H7 (n5 :: ps)) := Sn ps s9 nn8
  have P13 := dom_new e11 (dom_up s9 P0)
  refine ⟨(n5 :: ps), x_p, x_one.1, x_one.2, n5, dn6, u1, u3, rfl, P13, (List.mem_cons_self ..), e11, ((pTup K (rCons pInt (rOne pInt))).mono S12 h2), ((pTup K (rCons pInt (rOne pInt))).mono S12 h4), _, _, hw, fun r14 hw H15 fs16 s17 e18 hn19 rr20 => ⟨rfl, ?_⟩, (fun er hc hw => errUp (Same.trans (Same.refl H) s10) (ss_skip ss_refl) (he er (by simp only [List.mem_cons, List.not_mem_nil, or_false] at hc ⊢; omega) hw))⟩
  have s22 := Same.trans s10 s17
  have P23 := dom_up s22 P0
  have T24 := Same.trans (Same.refl H) s22
  have S25 : Same (dels H ps) (dels H15 ps) := Sd ps s22
  have h21 : (pIns t.c_Base ["prime", "first", "second"] (rCons pInt (rCons (pTup K (rCons pInt (rOne pInt))) (rOne (pTup K (rCons pInt (rOne pInt))))))).rep (dels H15 ps) (.ref n5) r14 := ⟨_, _, fs16, rfl, dels_at e18 (nin_of nn8 P0), hn19, PRow.mono (rCons pInt (rCons (pTup K (rCons pInt (rOne pInt))) (rOne (pTup K (rCons pInt (rOne pInt)))))) (Ss (ss_skip ss_refl)) rr20⟩
  refine gN (σ' := [some v_cells, some v_at, some (.int x_p), some v_one, some (.ref n5), none, none, none, none, none, none, none, none, none, none, none, none]) rfl (tSeq_j (tAsg_j (tOp_i (tLst_i (tCons_i (tC_i (tCons_i (tC_i (tCons_i (tC_i (tCons_i (tC_i (tCons_i (tC_i (tCons_i (tC_i (tCons_i (tC_i (tCons_i (tC_i (tCons_i (tC_i (tCons_i (tC_i (tCons_i (tOp_i (tC_i (tC_i (rI0_i (tNil_i (new_i (Nat.le_of_ble_eq_true rfl) (fun q26 H27 n28 s29 e30 => ?_))))))))))))))))))))))))))))))))
  have r31 : AllR pInt (dels H15 ps) [(.int (0 : Int)), (.int (1 : Int)), (.int (2 : Int)), (.int (4 : Int)), (.int (9 : Int)), (.int (49 : Int)), (.int (961 : Int)), (.int (998 : Int)), (.int (999 : Int)), (.int (1009 : Int)), (.int ((0 : Int) - (5 : Int)))] ([(0 : Int), (1 : Int), (2 : Int), (4 : Int), (9 : Int), (49 : Int), (961 : Int), (998 : Int), (999 : Int), (1009 : Int), ((0 : Int) - (5 : Int))] : List Int) := (.cons rfl (.cons rfl (.cons rfl (.cons rfl (.cons rfl (.cons rfl (.cons rfl (.cons rfl (.cons rfl (.cons rfl (.cons rfl .nil)))))))))))
  have l32 : ([(0 : Int), (1 : Int), (2 : Int), (4 : Int), (9 : Int), (49 : Int), (961 : Int), (998 : Int), (999 : Int), (1009 : Int), ((0 : Int) - (5 : Int))] : List Int).length ≤ LIM := (Nat.le_of_ble_eq_true rfl)
  have m33 := nin_of n28 P23
  have z34 := Same.free T24 n28
  have P35 := dom_up s29 P23
  have T36 := Same.trans T24 s29
  have P37 := dom_new e30 P35
  have S38 : Same (dels H15 ps) (dels H27 (q26 :: ps)) := Sn ps s29 n28
  have h39 : (pList pInt).rep (dels H27 ps) (.ref q26) ([(0 : Int), (1 : Int), (2 : Int), (4 : Int), (9 : Int), (49 : Int), (961 : Int), (998 : Int), (999 : Int), (1009 : Int), ((0 : Int) - (5 : Int))] : List Int) := oFrzG e30 m33 (ss_skip ss_refl) (AllR.mono S38 r31) l32
  have P40 := dom_ss (ss_skip ss_refl) P37
  have S41 : Same (dels H27 (q26 :: ps)) (dels H27 ps) := Ss (ss_skip ss_refl)
  refine tCallS_i (tCons_i (tVar_i (v := v_cells) rfl (tCons_i (tVar_i (v := v_at) rfl (tCons_i (tC_i (tNil_i (?_))))))))
  refine ⟨ps, x_cells, x_at, (11 : Int), v_cells, v_at, rfl, P40, ((pDraw K).mono (S25.trans (S38.trans S41)) h_cells), (pCell.mono (S25.trans (S38.trans S41)) h_at), _, _, hw, fun r42 hw H43 s44 => ?_, (fun er hc hw => errUp T36 ss_refl (he er (absurd hc (List.not_mem_nil)) hw))⟩
  have P45 := dom_up s44 P40
  have T46 := Same.trans T36 s44
  have S47 : Same (dels H27 ps) (dels H43 ps) := Sd ps s44
  refine ixI (sqL (Same.trans S47 Su) h39) hw.1 (?_)
  refine asgIL (f := V.int) (e := (ixG ([(0 : Int), (1 : Int), (2 : Int), (4 : Int), (9 : Int), (49 : Int), (961 : Int), (998 : Int), (999 : Int), (1009 : Int), ((0 : Int) - (5 : Int))] : List Int) r42)) (g := fun y48 => [some v_cells, some v_at, some (.int x_p), some v_one, some (.ref n5), some (.int y48), none, none, none, none, none, none, none, none, none, none, none]) hw.2 (fun _ => rfl) (fun y48 hw => ?_)
  refine tSeq_j (tAsg_j (tLst_i (tCons_i (tOp_i (tVar_i (v := (.int x_p)) rfl (tC_i (rAddU_i (tCons_i (tOp_i (tC_i (tC_i (rI0_i (tCons_i (tOp_i (tOp_i (tVar_i (v := (.int x_p)) rfl (tC_i (rAddU_i (tCallS_i (tCons_i (tVar_i (v := v_cells) rfl (tCons_i (tVar_i (v := v_at) rfl (tCons_i (tC_i (tNil_i (?_)))))))))))))))))))))))))))
  refine ⟨ps, x_cells, x_at, (99 : Int), v_cells, v_at, rfl, P45, ((pDraw K).mono (S25.trans (S38.trans (S41.trans S47))) h_cells), (pCell.mono (S25.trans (S38.trans (S41.trans S47))) h_at), _, _, hw, fun r49 hw H50 s51 => ?_, (fun er hc hw => errUp T46 ss_refl (he er (absurd hc (List.not_mem_nil)) hw))⟩
  have P52 := dom_up s51 P45
  have T53 := Same.trans T46 s51
  have S54 : Same (dels H43 ps) (dels H50 ps) := Sd ps s51
  refine rAddU_i (tNil_i (new_i (Nat.le_of_ble_eq_true rfl) (fun q55 H56 n57 s58 e59 => ?_)))
  have r60 : AllR pInt (dels H50 ps) [(.int (x_p + (1 : Int))), (.int ((0 : Int) - (1 : Int))), (.int ((x_p + (1 : Int)) + r49))] ([(x_p + (1 : Int)), ((0 : Int) - (1 : Int)), ((x_p + (1 : Int)) + r49)] : List Int) := (.cons rfl (.cons rfl (.cons rfl .nil)))
  have l61 : ([(x_p + (1 : Int)), ((0 : Int) - (1 : Int)), ((x_p + (1 : Int)) + r49)] : List Int).length ≤ LIM := (Nat.le_of_ble_eq_true rfl)
  have m62 := nin_of n57 P52
  have z63 := Same.free T53 n57
  have P64 := dom_up s58 P52
  have T65 := Same.trans T53 s58
  have P66 := dom_new e59 P64
  have S67 : Same (dels H50 ps) (dels H56 (q55 :: ps)) := Sn ps s58 n57
  have h68 : (pList pInt).rep (dels H56 ps) (.ref q55) ([(x_p + (1 : Int)), ((0 : Int) - (1 : Int)), ((x_p + (1 : Int)) + r49)] : List Int) := oFrzG e59 m62 (ss_skip ss_refl) (AllR.mono S67 r60) l61
  have P69 := dom_ss (ss_skip ss_refl) P66
  have S70 : Same (dels H56 (q55 :: ps)) (dels H56 ps) := Ss (ss_skip ss_refl)
  refine asgRL (p := (pList pInt)) (e := ([(x_p + (1 : Int)), ((0 : Int) - (1 : Int)), ((x_p + (1 : Int)) + r49)] : List Int)) (σ' := [some v_cells, some v_at, some (.int x_p), some v_one, some (.ref n5), some (.int y48), some (.ref q55), none, none, none, none, none, none, none, none, none, none]) hw h68 rfl (fun y71 h72 hw => ?_)
  refine tSeq_j (tAsg_j (tOp_i (tVar_i (v := (.ref q55)) rfl (tCallS_i (tCons_i (tVar_i (v := v_cells) rfl (tCons_i (tVar_i (v := v_at) rfl (tCons_i (tC_i (tNil_i (?_))))))))))))
  refine ⟨ps, x_cells, x_at, (3 : Int), v_cells, v_at, rfl, P69, ((pDraw K).mono (S25.trans (S38.trans (S41.trans (S47.trans (S54.trans (S67.trans S70)))))) h_cells), (pCell.mono (S25.trans (S38.trans (S41.trans (S47.trans (S54.trans (S67.trans S70)))))) h_at), _, _, hw, fun r73 hw H74 s75 => ?_, (fun er hc hw => errUp T65 ss_refl (he er (absurd hc (List.not_mem_nil)) hw))⟩
  have P76 := dom_up s75 P69
  have T77 := Same.trans T65 s75
  have S78 : Same (dels H56 ps) (dels H74 ps) := Sd ps s75
  refine ixI (sqL (Same.trans S78 Su) h72) hw.1 (?_)
  refine asgIL (f := V.int) (e := (ixG y71 r73)) (g := fun y79 => [some v_cells, some v_at, some (.int x_p), some v_one, some (.ref n5), some (.int y48), some (.ref q55), some (.int y79), none, none, none, none, none, none, none, none, none]) hw.2 (fun _ => rfl) (fun y79 hw => ?_)
  refine tSeq_j (tAsg_j (tCallS_i (tCons_i (tVar_i (v := v_cells) rfl (tCons_i (tVar_i (v := v_at) rfl (tCons_i (tOp_i (tVar_i (v := (.int x_p)) rfl (tC_i (rAddU_i (tNil_i (?_)))))))))))))
  refine ⟨ps, x_cells, x_at, (x_p + (1 : Int)), v_cells, v_at, rfl, P76, ((pDraw K).mono (S25.trans (S38.trans (S41.trans (S47.trans (S54.trans (S67.trans (S70.trans S78))))))) h_cells), (pCell.mono (S25.trans (S38.trans (S41.trans (S47.trans (S54.trans (S67.trans (S70.trans S78))))))) h_at), _, _, hw, fun r80 hw H81 s82 => ?_, (fun er hc hw => errUp T77 ss_refl (he er (absurd hc (List.not_mem_nil)) hw))⟩
  have P83 := dom_up s82 P76
  have T84 := Same.trans T77 s82
  have S85 : Same (dels H74 ps) (dels H81 ps) := Sd ps s82
  refine gN (σ' := [some v_cells, some v_at, some (.int x_p), some v_one, some (.ref n5), some (.int y48), some (.ref q55), some (.int y79), some (.int r80), none, none, none, none, none, none, none, none]) rfl (tSeq_j (tAsg_j (tCallS_i (tCons_i (tVar_i (v := v_cells) rfl (tCons_i (tVar_i (v := v_at) rfl (tCons_i (tOp_i (tVar_i (v := (.int r80)) rfl (tC_i (rAddU_i (tNil_i (?_))))))))))))))
  refine ⟨ps, x_cells, x_at, (r80 + (1 : Int)), v_cells, v_at, rfl, P83, ((pDraw K).mono (S25.trans (S38.trans (S41.trans (S47.trans (S54.trans (S67.trans (S70.trans (S78.trans S85)))))))) h_cells), (pCell.mono (S25.trans (S38.trans (S41.trans (S47.trans (S54.trans (S67.trans (S70.trans (S78.trans S85)))))))) h_at), _, _, hw, fun r86 hw H87 s88 => ?_, (fun er hc hw => errUp T84 ss_refl (he er (absurd hc (List.not_mem_nil)) hw))⟩
  have P89 := dom_up s88 P83
  have T90 := Same.trans T84 s88
  have S91 : Same (dels H81 ps) (dels H87 ps) := Sd ps s88
  refine gN (σ' := [some v_cells, some v_at, some (.int x_p), some v_one, some (.ref n5), some (.int y48), some (.ref q55), some (.int y79), some (.int r80), some (.int r86), none, none, none, none, none, none, none]) rfl (tSeq_j (tAsg_j (tIfP (f := V.int) (b := (decide (x_p = (3 : Int)))) (x := (7 : Int)) (y := (3 : Int)) (fun R hR => tTest_i (tOp_i (tVar_i (v := (.int x_p)) rfl (tC_i (rEqU_i (IsBl_i (hR))))))) (fun g93 R hR => tC_i (hR)) (fun g93 R hR => tC_i (hR)) (?_))))
  refine asgIL (f := V.int) (e := (cond (decide (x_p = (3 : Int))) (7 : Int) (3 : Int))) (g := fun y94 => [some v_cells, some v_at, some (.int x_p), some v_one, some (.ref n5), some (.int y48), some (.ref q55), some (.int y79), some (.int r80), some (.int r86), some (.int y94), none, none, none, none, none, none]) hw (fun _ => rfl) (fun y94 hw => ?_)
  refine tSeq_j (tAsg_j (tMak_i (tCons_i (tVar_i (v := (.int y94)) rfl (tCons_i (tTup_i (tCons_i (tC_i (tCons_i (tC_i (tNil_i (new_i (Nat.le_of_ble_eq_true rfl) (fun q95 H96 n97 s98 e99 => ?_)))))))))))))
  have P101 := dom_up s98 P89
  have T102 := Same.trans T90 s98
  have S103 : Same (dels H87 ps) (dels H96 ps) := Sd ps s98
  have h100 : (pTup K (rCons pInt (rOne pInt))).rep (dels H96 ps) (.ref q95) ((1 : Int), (0 : Int)) := tupR (dels_at e99 (nin_of n97 P89)) (rowC rfl (rowO rfl))
  refine tCons_i (tTup_i (tCons_i (tC_i (tCons_i (tC_i (tNil_i (new_i (Nat.le_of_ble_eq_true rfl) (fun q104 H105 n106 s107 e108 => ?_))))))))
  have P110 := dom_up s107 P101
  have T111 := Same.trans T102 s107
  have S112 : Same (dels H96 ps) (dels H105 ps) := Sd ps s107
  have h109 : (pTup K (rCons pInt (rOne pInt))).rep (dels H105 ps) (.ref q104) ((0 : Int), (1 : Int)) := tupR (dels_at e108 (nin_of n106 P101)) (rowC rfl (rowO rfl))
  refine tNil_i (?_)
  refine makS (fun n113 dn114 H115 nn116 s117 s118 e119 => ?_)
  have S120 : Same (dels H105 ps) (dels H115 (n113 :: ps)) := Sn ps s117 nn116
  have P121 := dom_new e119 (dom_up s117 P110)
  refine ⟨(n113 :: ps), y94, ((1 : Int), (0 : Int)), ((0 : Int), (1 : Int)), n113, dn114, (.ref q95), (.ref q104), rfl, P121, (List.mem_cons_self ..), e119, ((pTup K (rCons pInt (rOne pInt))).mono S120 ((pTup K (rCons pInt (rOne pInt))).mono S112 h100)), ((pTup K (rCons pInt (rOne pInt))).mono S120 h109), _, _, hw, fun r122 hw H123 fs124 s125 e126 hn127 rr128 => ⟨rfl, ?_⟩, (fun er hc hw => errUp (Same.trans T111 s118) (ss_skip ss_refl) (he er (by simp only [List.mem_cons, List.not_mem_nil, or_false] at hc ⊢; omega) hw))⟩
  have s130 := Same.trans s118 s125
  have P131 := dom_up s130 P110
  have T132 := Same.trans T111 s130
  have S133 : Same (dels H105 ps) (dels H123 ps) := Sd ps s130
  have h129 : (pIns t.c_Base ["prime", "first", "second"] (rCons pInt (rCons (pTup K (rCons pInt (rOne pInt))) (rOne (pTup K (rCons pInt (rOne pInt))))))).rep (dels H123 ps) (.ref n113) r122 := ⟨_, _, fs124, rfl, dels_at e126 (nin_of nn116 P110), hn127, PRow.mono (rCons pInt (rCons (pTup K (rCons pInt (rOne pInt))) (rOne (pTup K (rCons pInt (rOne pInt)))))) (Ss (ss_skip ss_refl)) rr128⟩
  refine gN (σ' := [some v_cells, some v_at, some (.int x_p), some v_one, some (.ref n5), some (.int y48), some (.ref q55), some (.int y79), some (.int r80), some (.int r86), some (.int y94), some (.ref n113), none, none, none, none, none]) rfl (tSeq_j (tAsg_j (tLst_i (tCons_i (tTup_i (tCons_i (tC_i (tCons_i (tVar_i (v := (.int x_p)) rfl (tCons_i (tVar_i (v := (.int y79)) rfl (tCons_i (tTup_i (tCons_i (tC_i (tCons_i (tVar_i (v := (.int y79)) rfl (tNil_i (new_i (Nat.le_of_ble_eq_true rfl) (fun q134 H135 n136 s137 e138 => ?_))))))))))))))))))))
  have P140 := dom_up s137 P131
  have T141 := Same.trans T132 s137
  have S142 : Same (dels H123 ps) (dels H135 ps) := Sd ps s137
  have h139 : (pTup K (rCons pStr (rOne pInt))).rep (dels H135 ps) (.ref q134) ((Str.ofString "number"), y79) := tupR (dels_at e138 (nin_of n136 P131)) (rowC rfl (rowO rfl))
  refine tNil_i (new_i (Nat.le_of_ble_eq_true rfl) (fun q143 H144 n145 s146 e147 => ?_))
  have P149 := dom_up s146 P140
  have T150 := Same.trans T141 s146
  have S151 : Same (dels H135 ps) (dels H144 ps) := Sd ps s146
  have h148 : (pTup K (rCons pInt (rCons pInt (rCons (pSum pInt (pTup K (rCons pInt (rOne pInt)))) (rOne (pTup K (rCons pStr (rOne pInt)))))))).rep (dels H144 ps) (.ref q143) ((0 : Int), x_p, (Sum.inl y79 : (Int ⊕ (Int × Int))), ((Str.ofString "number"), y79)) := tupR (dels_at e147 (nin_of n145 P140)) (rowC rfl (rowC rfl (rowC (sumL (p := pInt) rfl) (rowO ((pTup K (rCons pStr (rOne pInt))).mono S151 h139)))))
  refine tCons_i (tTup_i (tCons_i (tC_i (tCons_i (tVar_i (v := (.int y48)) rfl (tCons_i (tVar_i (v := (.int y79)) rfl (tCons_i (tTup_i (tCons_i (tC_i (tCons_i (tVar_i (v := (.int y48)) rfl (tNil_i (new_i (Nat.le_of_ble_eq_true rfl) (fun q152 H153 n154 s155 e156 => ?_))))))))))))))))
  have P158 := dom_up s155 P149
  have T159 := Same.trans T150 s155
  have S160 : Same (dels H144 ps) (dels H153 ps) := Sd ps s155
  have h157 : (pTup K (rCons pStr (rOne pInt))).rep (dels H153 ps) (.ref q152) ((Str.ofString "number"), y48) := tupR (dels_at e156 (nin_of n154 P149)) (rowC rfl (rowO rfl))
  refine tNil_i (new_i (Nat.le_of_ble_eq_true rfl) (fun q161 H162 n163 s164 e165 => ?_))
  have P167 := dom_up s164 P158
  have T168 := Same.trans T159 s164
  have S169 : Same (dels H153 ps) (dels H162 ps) := Sd ps s164
  have h166 : (pTup K (rCons pInt (rCons pInt (rCons (pSum pInt (pTup K (rCons pInt (rOne pInt)))) (rOne (pTup K (rCons pStr (rOne pInt)))))))).rep (dels H162 ps) (.ref q161) ((0 : Int), y48, (Sum.inl y79 : (Int ⊕ (Int × Int))), ((Str.ofString "number"), y48)) := tupR (dels_at e165 (nin_of n163 P158)) (rowC rfl (rowC rfl (rowC (sumL (p := pInt) rfl) (rowO ((pTup K (rCons pStr (rOne pInt))).mono S169 h157)))))
  refine tNil_i (new_i (Nat.le_of_ble_eq_true rfl) (fun q170 H171 n172 s173 e174 => ?_))
  have r175 : AllR (pTup K (rCons pInt (rCons pInt (rCons (pSum pInt (pTup K (rCons pInt (rOne pInt)))) (rOne (pTup K (rCons pStr (rOne pInt)))))))) (dels H162 ps) [(.ref q143), (.ref q161)] ([((0 : Int), x_p, (Sum.inl y79 : (Int ⊕ (Int × Int))), ((Str.ofString "number"), y79)), ((0 : Int), y48, (Sum.inl y79 : (Int ⊕ (Int × Int))), ((Str.ofString "number"), y48))] : List (Int × Int × (Int ⊕ (Int × Int)) × (Str × Int))) := (.cons ((pTup K (rCons pInt (rCons pInt (rCons (pSum pInt (pTup K (rCons pInt (rOne pInt)))) (rOne (pTup K (rCons pStr (rOne pInt)))))))).mono (S160.trans S169) h148) (.cons h166 .nil))
  have l176 : ([((0 : Int), x_p, (Sum.inl y79 : (Int ⊕ (Int × Int))), ((Str.ofString "number"), y79)), ((0 : Int), y48, (Sum.inl y79 : (Int ⊕ (Int × Int))), ((Str.ofString "number"), y48))] : List (Int × Int × (Int ⊕ (Int × Int)) × (Str × Int))).length ≤ LIM := (Nat.le_of_ble_eq_true rfl)
  have m177 := nin_of n172 P167
  have z178 := Same.free T168 n172
  have P179 := dom_up s173 P167
  have T180 := Same.trans T168 s173
  have P181 := dom_new e174 P179
  have S182 : Same (dels H162 ps) (dels H171 (q170 :: ps)) := Sn ps s173 n172
  refine gN (σ' := [some v_cells, some v_at, some (.int x_p), some v_one, some (.ref n5), some (.int y48), some (.ref q55), some (.int y79), some (.int r80), some (.int r86), some (.int y94), some (.ref n113), some (.ref q170), none, none, none, none]) rfl (?_)
  obtain ⟨y183, r184, l185, hw⟩ := letO hw r175 l176
  refine tSeq_j (tFor_j (wT (tTup_i (tCons_i (tC_i (tCons_i (tC_i (tNil_i (new_i (Nat.le_of_ble_eq_true rfl) (fun q599 H600 n601 s602 e603 => ?_))))))))))
  have P605 := dom_up s602 P181
  have T606 := Same.trans T180 s602
  have e607 := s602 _ _ e174
  have S608 : Same (dels H171 (q170 :: ps)) (dels H600 (q170 :: ps)) := Sd (q170 :: ps) s602
  have h604 : (pTup K (rCons pInt (rOne pInt))).rep (dels H600 (q170 :: ps)) (.ref q599) ((1 : Int), (2 : Int)) := tupR (dels_at e603 (nin_of n601 P181)) (rowC rfl (rowO rfl))
  obtain ⟨a609, us610, hv611, hS612, hr613, hl614⟩ := (tupVt h604 (raCons raOne) (Nat.le_of_ble_eq_true rfl))
  refine WT_v hv611 (Same.seqT Su hS612) (forT (s0 := y183) hw hr613 (fun (s615 : (List (Int × Int × (Int ⊕ (Int × Int)) × (Str × Int)))) (σ617 : L2.St) (H616 : Hp) => ∃ (j618 : Option V) (us622 : List V), σ617 = [some v_cells, some v_at, some (.int x_p), some v_one, some (.ref n5), some (.int y48), some (.ref q55), some (.int y79), some (.int r80), some (.int r86), some (.int y94), some (.ref n113), some (.ref q170), j618, none, none, none] ∧ Same (dels H600 (q170 :: ps)) (dels H616 (q170 :: ps)) ∧ (∀ x ∈ (q170 :: ps), H616 x ≠ none) ∧ Same H H616 ∧ H616 q170 = some (.lst us622) ∧ AllR (pTup K (rCons pInt (rCons pInt (rCons (pSum pInt (pTup K (rCons pInt (rOne pInt)))) (rOne (pTup K (rCons pStr (rOne pInt)))))))) (dels H616 (q170 :: ps)) us622 s615 ∧ (s615).length ≤ LIM ∧ True) ⟨_, [(.ref q143), (.ref q161)], rfl, (Same.refl _), P605, T606, e607, (AllR.mono (S182.trans S608) r184), l185, trivial⟩ (fun s615 σ617 H616 ⟨j618, us622, _, S621, P619, T620, e623, r624, l625, _⟩ => (Same.seqT (Same.trans S621 Su) hS612)) (fun d628 s615 σ617 H616 x629 nx626 hr hi630 hw => ?_) (fun s632 σ634 H633 hr hw => ?_))
  · obtain ⟨j618, us622, rfl, S621, P619, T620, e623, r624, l625, _⟩ := hr
    obtain rfl : x629 = (.int d628) := hi630
    refine gN (σ' := [some v_cells, some v_at, some (.int x_p), some v_one, some (.ref n5), some (.int y48), some (.ref q55), some (.int y79), some (.int r80), some (.int r86), some (.int y94), some (.ref n113), some (.ref q170), some (.int d628), none, none, none]) rfl (tSeq_j (tDrop_j (tBM_i (tVar_i (v := (.ref q170)) rfl (tyL (SqL.of e623) (tCons_i (tTup_i (tCons_i (tVar_i (v := (.int d628)) rfl (tCons_i (tVar_i (v := (.int y48)) rfl (tCons_i (tTup_i (tCons_i (tVar_i (v := (.int r80)) rfl (tCons_i (tVar_i (v := (.int r86)) rfl (tNil_i (new_i (Nat.le_of_ble_eq_true rfl) (fun q643 H644 n645 s646 e647 => ?_))))))))))))))))))))
    have P649 := dom_up s646 P619
    have T650 := Same.trans T620 s646
    have e651 := s646 _ _ e623
    have S652 : Same (dels H616 (q170 :: ps)) (dels H644 (q170 :: ps)) := Sd (q170 :: ps) s646
    have h648 : (pTup K (rCons pInt (rOne pInt))).rep (dels H644 (q170 :: ps)) (.ref q643) (r80, r86) := tupR (dels_at e647 (nin_of n645 P619)) (rowC rfl (rowO rfl))
    refine tCons_i (tTup_i (tCons_i (tC_i (tCons_i (tVar_i (v := (.int y48)) rfl (tNil_i (new_i (Nat.le_of_ble_eq_true rfl) (fun q653 H654 n655 s656 e657 => ?_))))))))
    have P659 := dom_up s656 P649
    have T660 := Same.trans T650 s656
    have e661 := s656 _ _ e651
    have S662 : Same (dels H644 (q170 :: ps)) (dels H654 (q170 :: ps)) := Sd (q170 :: ps) s656
    have h658 : (pTup K (rCons pStr (rOne pInt))).rep (dels H654 (q170 :: ps)) (.ref q653) ((Str.ofString "number"), y48) := tupR (dels_at e657 (nin_of n655 P649)) (rowC rfl (rowO rfl))
    refine tNil_i (new_i (Nat.le_of_ble_eq_true rfl) (fun q663 H664 n665 s666 e667 => ?_))
    have P669 := dom_up s666 P659
    have T670 := Same.trans T660 s666
    have e671 := s666 _ _ e661
    have S672 : Same (dels H654 (q170 :: ps)) (dels H664 (q170 :: ps)) := Sd (q170 :: ps) s666
    have h668 : (pTup K (rCons pInt (rCons pInt (rCons (pSum pInt (pTup K (rCons pInt (rOne pInt)))) (rOne (pTup K (rCons pStr (rOne pInt)))))))).rep (dels H664 (q170 :: ps)) (.ref q663) (d628, y48, (Sum.inr (r80, r86) : (Int ⊕ (Int × Int))), ((Str.ofString "number"), y48)) := tupR (dels_at e667 (nin_of n665 P659)) (rowC rfl (rowC rfl (rowC (sumR (q := (pTup K (rCons pInt (rOne pInt)))) ((pTup K (rCons pInt (rOne pInt))).mono (S662.trans S672) h648)) (rowO ((pTup K (rCons pStr (rOne pInt))).mono S672 h658)))))
    refine tNil_i (appO (p := (pTup K (rCons pInt (rCons pInt (rCons (pSum pInt (pTup K (rCons pInt (rOne pInt)))) (rOne (pTup K (rCons pStr (rOne pInt))))))))) (d := (d628, y48, (Sum.inr (r80, r86) : (Int ⊕ (Int × Int))), ((Str.ofString "number"), y48))) e671 (AllR.mono (S652.trans (S662.trans S672)) r624) hw.1 h668 (fun H673 f674 us675 e676 r677 l678 => ?_))
    have P679 := dom_off f674 e676 P669
    have T680 := st_off T670 f674 z178
    have S681 : Same (dels H664 (q170 :: ps)) (dels H673 (q170 :: ps)) := So (List.mem_cons_self ..) f674
    obtain ⟨y682, r683, l684, hw⟩ := letO hw.2 r677 l678
    refine tSeq_j (tDrop_j (tBM_i (tVar_i (v := (.ref q170)) rfl (tyL (SqL.of e676) (tCons_i (tTup_i (tCons_i (tVar_i (v := (.int d628)) rfl (tCons_i (tVar_i (v := (.int x_p)) rfl (tCons_i (tTup_i (tCons_i (tVar_i (v := (.int r80)) rfl (tCons_i (tVar_i (v := (.int r86)) rfl (tNil_i (new_i (Nat.le_of_ble_eq_true rfl) (fun q685 H686 n687 s688 e689 => ?_)))))))))))))))))))
    have P691 := dom_up s688 P679
    have T692 := Same.trans T680 s688
    have e693 := s688 _ _ e676
    have S694 : Same (dels H673 (q170 :: ps)) (dels H686 (q170 :: ps)) := Sd (q170 :: ps) s688
    have h690 : (pTup K (rCons pInt (rOne pInt))).rep (dels H686 (q170 :: ps)) (.ref q685) (r80, r86) := tupR (dels_at e689 (nin_of n687 P679)) (rowC rfl (rowO rfl))
    refine tCons_i (tTup_i (tCons_i (tC_i (tCons_i (tVar_i (v := (.int r86)) rfl (tNil_i (new_i (Nat.le_of_ble_eq_true rfl) (fun q695 H696 n697 s698 e699 => ?_))))))))
    have P701 := dom_up s698 P691
    have T702 := Same.trans T692 s698
    have e703 := s698 _ _ e693
    have S704 : Same (dels H686 (q170 :: ps)) (dels H696 (q170 :: ps)) := Sd (q170 :: ps) s698
    have h700 : (pTup K (rCons pStr (rOne pInt))).rep (dels H696 (q170 :: ps)) (.ref q695) ((Str.ofString "number"), r86) := tupR (dels_at e699 (nin_of n697 P691)) (rowC rfl (rowO rfl))
    refine tNil_i (new_i (Nat.le_of_ble_eq_true rfl) (fun q705 H706 n707 s708 e709 => ?_))
    have P711 := dom_up s708 P701
    have T712 := Same.trans T702 s708
    have e713 := s708 _ _ e703
    have S714 : Same (dels H696 (q170 :: ps)) (dels H706 (q170 :: ps)) := Sd (q170 :: ps) s708
    have h710 : (pTup K (rCons pInt (rCons pInt (rCons (pSum pInt (pTup K (rCons pInt (rOne pInt)))) (rOne (pTup K (rCons pStr (rOne pInt)))))))).rep (dels H706 (q170 :: ps)) (.ref q705) (d628, x_p, (Sum.inr (r80, r86) : (Int ⊕ (Int × Int))), ((Str.ofString "number"), r86)) := tupR (dels_at e709 (nin_of n707 P701)) (rowC rfl (rowC rfl (rowC (sumR (q := (pTup K (rCons pInt (rOne pInt)))) ((pTup K (rCons pInt (rOne pInt))).mono (S704.trans S714) h690)) (rowO ((pTup K (rCons pStr (rOne pInt))).mono S714 h700)))))
    refine tNil_i (appO (p := (pTup K (rCons pInt (rCons pInt (rCons (pSum pInt (pTup K (rCons pInt (rOne pInt)))) (rOne (pTup K (rCons pStr (rOne pInt))))))))) (d := (d628, x_p, (Sum.inr (r80, r86) : (Int ⊕ (Int × Int))), ((Str.ofString "number"), r86))) e713 (AllR.mono (S681.trans (S694.trans (S704.trans S714))) r683) hw.1 h710 (fun H715 f716 us717 e718 r719 l720 => ?_))
    have P721 := dom_off f716 e718 P711
    have T722 := st_off T712 f716 z178
    have S723 : Same (dels H706 (q170 :: ps)) (dels H715 (q170 :: ps)) := So (List.mem_cons_self ..) f716
    obtain ⟨y724, r725, l726, hw⟩ := letO hw.2 r719 l720
    refine tSeq_j (tDrop_j (tBM_i (tVar_i (v := (.ref q170)) rfl (tyL (SqL.of e718) (tCons_i (tTup_i (tCons_i (tVar_i (v := (.int d628)) rfl (tCons_i (tVar_i (v := (.int x_p)) rfl (tCons_i (tTup_i (tCons_i (tVar_i (v := (.int y79)) rfl (tCons_i (tVar_i (v := (.int r86)) rfl (tNil_i (new_i (Nat.le_of_ble_eq_true rfl) (fun q727 H728 n729 s730 e731 => ?_)))))))))))))))))))
    have P733 := dom_up s730 P721
    have T734 := Same.trans T722 s730
    have e735 := s730 _ _ e718
    have S736 : Same (dels H715 (q170 :: ps)) (dels H728 (q170 :: ps)) := Sd (q170 :: ps) s730
    have h732 : (pTup K (rCons pInt (rOne pInt))).rep (dels H728 (q170 :: ps)) (.ref q727) (y79, r86) := tupR (dels_at e731 (nin_of n729 P721)) (rowC rfl (rowO rfl))
    refine tCons_i (tTup_i (tCons_i (tC_i (tCons_i (tVar_i (v := (.int y79)) rfl (tNil_i (new_i (Nat.le_of_ble_eq_true rfl) (fun q737 H738 n739 s740 e741 => ?_))))))))
    have P743 := dom_up s740 P733
    have T744 := Same.trans T734 s740
    have e745 := s740 _ _ e735
    have S746 : Same (dels H728 (q170 :: ps)) (dels H738 (q170 :: ps)) := Sd (q170 :: ps) s740
    have h742 : (pTup K (rCons pStr (rOne pInt))).rep (dels H738 (q170 :: ps)) (.ref q737) ((Str.ofString "number"), y79) := tupR (dels_at e741 (nin_of n739 P733)) (rowC rfl (rowO rfl))
    refine tNil_i (new_i (Nat.le_of_ble_eq_true rfl) (fun q747 H748 n749 s750 e751 => ?_))
    have P753 := dom_up s750 P743
    have T754 := Same.trans T744 s750
    have e755 := s750 _ _ e745
    have S756 : Same (dels H738 (q170 :: ps)) (dels H748 (q170 :: ps)) := Sd (q170 :: ps) s750
    have h752 : (pTup K (rCons pInt (rCons pInt (rCons (pSum pInt (pTup K (rCons pInt (rOne pInt)))) (rOne (pTup K (rCons pStr (rOne pInt)))))))).rep (dels H748 (q170 :: ps)) (.ref q747) (d628, x_p, (Sum.inr (y79, r86) : (Int ⊕ (Int × Int))), ((Str.ofString "number"), y79)) := tupR (dels_at e751 (nin_of n749 P743)) (rowC rfl (rowC rfl (rowC (sumR (q := (pTup K (rCons pInt (rOne pInt)))) ((pTup K (rCons pInt (rOne pInt))).mono (S746.trans S756) h732)) (rowO ((pTup K (rCons pStr (rOne pInt))).mono S756 h742)))))
    refine tNil_i (appO (p := (pTup K (rCons pInt (rCons pInt (rCons (pSum pInt (pTup K (rCons pInt (rOne pInt)))) (rOne (pTup K (rCons pStr (rOne pInt))))))))) (d := (d628, x_p, (Sum.inr (y79, r86) : (Int ⊕ (Int × Int))), ((Str.ofString "number"), y79))) e755 (AllR.mono (S723.trans (S736.trans (S746.trans S756))) r725) hw.1 h752 (fun H757 f758 us759 e760 r761 l762 => ?_))
    have P763 := dom_off f758 e760 P753
    have T764 := st_off T754 f758 z178
    have S765 : Same (dels H748 (q170 :: ps)) (dels H757 (q170 :: ps)) := So (List.mem_cons_self ..) f758
    obtain ⟨y766, r767, l768, hw⟩ := letO hw.2 r761 l762
    refine tDrop_j (tBM_i (tVar_i (v := (.ref q170)) rfl (tyL (SqL.of e760) (tCons_i (tTup_i (tCons_i (tVar_i (v := (.int d628)) rfl (tCons_i (tVar_i (v := (.int x_p)) rfl (tCons_i (tTup_i (tCons_i (tVar_i (v := (.int r80)) rfl (tCons_i (tVar_i (v := (.int y79)) rfl (tNil_i (new_i (Nat.le_of_ble_eq_true rfl) (fun q769 H770 n771 s772 e773 => ?_))))))))))))))))))
    have P775 := dom_up s772 P763
    have T776 := Same.trans T764 s772
    have e777 := s772 _ _ e760
    have S778 : Same (dels H757 (q170 :: ps)) (dels H770 (q170 :: ps)) := Sd (q170 :: ps) s772
    have h774 : (pTup K (rCons pInt (rOne pInt))).rep (dels H770 (q170 :: ps)) (.ref q769) (r80, y79) := tupR (dels_at e773 (nin_of n771 P763)) (rowC rfl (rowO rfl))
    refine tCons_i (tTup_i (tCons_i (tC_i (tCons_i (tVar_i (v := (.int y79)) rfl (tNil_i (new_i (Nat.le_of_ble_eq_true rfl) (fun q779 H780 n781 s782 e783 => ?_))))))))
    have P785 := dom_up s782 P775
    have T786 := Same.trans T776 s782
    have e787 := s782 _ _ e777
    have S788 : Same (dels H770 (q170 :: ps)) (dels H780 (q170 :: ps)) := Sd (q170 :: ps) s782
    have h784 : (pTup K (rCons pStr (rOne pInt))).rep (dels H780 (q170 :: ps)) (.ref q779) ((Str.ofString "number"), y79) := tupR (dels_at e783 (nin_of n781 P775)) (rowC rfl (rowO rfl))
    refine tNil_i (new_i (Nat.le_of_ble_eq_true rfl) (fun q789 H790 n791 s792 e793 => ?_))
    have P795 := dom_up s792 P785
    have T796 := Same.trans T786 s792
    have e797 := s792 _ _ e787
    have S798 : Same (dels H780 (q170 :: ps)) (dels H790 (q170 :: ps)) := Sd (q170 :: ps) s792
    have h794 : (pTup K (rCons pInt (rCons pInt (rCons (pSum pInt (pTup K (rCons pInt (rOne pInt)))) (rOne (pTup K (rCons pStr (rOne pInt)))))))).rep (dels H790 (q170 :: ps)) (.ref q789) (d628, x_p, (Sum.inr (r80, y79) : (Int ⊕ (Int × Int))), ((Str.ofString "number"), y79)) := tupR (dels_at e793 (nin_of n791 P785)) (rowC rfl (rowC rfl (rowC (sumR (q := (pTup K (rCons pInt (rOne pInt)))) ((pTup K (rCons pInt (rOne pInt))).mono (S788.trans S798) h774)) (rowO ((pTup K (rCons pStr (rOne pInt))).mono S798 h784)))))
    refine tNil_i (appO (p := (pTup K (rCons pInt (rCons pInt (rCons (pSum pInt (pTup K (rCons pInt (rOne pInt)))) (rOne (pTup K (rCons pStr (rOne pInt))))))))) (d := (d628, x_p, (Sum.inr (r80, y79) : (Int ⊕ (Int × Int))), ((Str.ofString "number"), y79))) e797 (AllR.mono (S765.trans (S778.trans (S788.trans S798))) r767) hw.1 h794 (fun H799 f800 us801 e802 r803 l804 => ?_))
    have P805 := dom_off f800 e802 P795
    have T806 := st_off T796 f800 z178
    have S807 : Same (dels H790 (q170 :: ps)) (dels H799 (q170 :: ps)) := So (List.mem_cons_self ..) f800
    obtain ⟨y808, r809, l810, hw⟩ := letO hw.2 r803 l804
    exact nxS_i (s := (y808)) ⟨_, us801, rfl, (S621.trans (S652.trans (S662.trans (S672.trans (S681.trans (S694.trans (S704.trans (S714.trans (S723.trans (S736.trans (S746.trans (S756.trans (S765.trans (S778.trans (S788.trans (S798.trans S807)))))))))))))))), P805, T806, e802, (AllR.mono S807 r809), l810, trivial⟩ hw
  obtain ⟨j635, us639, rfl, S638, P636, T637, e640, r641, l642, _⟩ := hr
  refine tSeq_j (tFor_j (wL (tVar_i (v := (.ref q170)) rfl (?_))))
  refine WL_v rfl (SqL.of e640) (forL (s0 := ()) hw r641 (fun (s925 : Unit) (σ927 : L2.St) (H926 : Hp) => ∃ (j928 : Option V) (j929 : Option V) (j930 : Option V) (j931 : Option V), σ927 = [some v_cells, some v_at, some (.int x_p), some v_one, some (.ref n5), some (.int y48), some (.ref q55), some (.int y79), some (.int r80), some (.int r86), some (.int y94), some (.ref n113), some (.ref q170), j928, j929, j930, j931] ∧ Same (dels H633 (q170 :: ps)) (dels H926 (q170 :: ps)) ∧ (∀ x ∈ (q170 :: ps), H926 x ≠ none) ∧ Same H H926 ∧ H926 q170 = some (.lst us639) ∧ True) ⟨_, _, _, _, rfl, (Same.refl _), P636, T637, e640, trivial⟩ (fun s925 σ927 H926 ⟨j928, j929, j930, j931, _, S934, P932, T933, e935, _⟩ => (SqL.of e935)) (fun d938 s925 σ927 H926 x939 nx936 hr hi940 hw => ?_) (fun s942 σ944 H943 hr hw => ?_))
  · obtain ⟨j928, j929, j930, j931, rfl, S934, P932, T933, e935, _⟩ := hr
    refine gTupS hi940 (Same.trans S934 Su) (fun vs953 hv954 => ?_)
    obtain ⟨ws956, rfl, hv955⟩ := rowCi hv954
    obtain ⟨ws958, rfl, hv957⟩ := rowCi hv955
    obtain ⟨u959, ws962, rfl, h960, hv961⟩ := rowCx hv957
    obtain ⟨u963, rfl, h964⟩ := rowOx hv961
    refine ⟨rfl, ?_⟩
    refine gCons_i (gN (σ' := [some v_cells, some v_at, some (.int x_p), some v_one, some (.ref n5), some (.int y48), some (.ref q55), some (.int y79), some (.int r80), some (.int r86), some (.int y94), some (.ref n113), some (.ref q170), some (.int d938.1), j929, j930, j931]) rfl (gCons_i (gN (σ' := [some v_cells, some v_at, some (.int x_p), some v_one, some (.ref n5), some (.int y48), some (.ref q55), some (.int y79), some (.int r80), some (.int r86), some (.int y94), some (.ref n113), some (.ref q170), some (.int d938.1), some (.int d938.2.1), j930, j931]) rfl (gCons_i (gN (σ' := [some v_cells, some v_at, some (.int x_p), some v_one, some (.ref n5), some (.int y48), some (.ref q55), some (.int y79), some (.int r80), some (.int r86), some (.int y94), some (.ref n113), some (.ref q170), some (.int d938.1), some (.int d938.2.1), some u959, j931]) rfl (gCons_i (gN (σ' := [some v_cells, some v_at, some (.int x_p), some v_one, some (.ref n5), some (.int y48), some (.ref q55), some (.int y79), some (.int r80), some (.int r86), some (.int y94), some (.ref n113), some (.ref q170), some (.int d938.1), some (.int d938.2.1), some u959, some u963]) rfl (gNil_i (tSeq_j (tIfS_j (tTest_i (tOp_i (tCallS_i (tCons_i (tVar_i (v := (.int d938.1)) rfl (tCons_i (tVar_i (v := (.int d938.2.1)) rfl (tCons_i (tVar_i (v := u959) rfl (tCons_i (tVar_i (v := (.ref n5)) rfl (tNil_i (?_)))))))))))))))))))))))
    refine ⟨(q170 :: ps), d938.1, d938.2.1, d938.2.2.1, r14, u959, (.ref n5), rfl, P932, ((pSum pInt (pTup K (rCons pInt (rOne pInt)))).mono S934 h960), ((pIns t.c_Base ["prime", "first", "second"] (rCons pInt (rCons (pTup K (rCons pInt (rOne pInt))) (rOne (pTup K (rCons pInt (rOne pInt))))))).mono (S38.trans (S41.trans (S47.trans (S54.trans (S67.trans (S70.trans (S78.trans (S85.trans (S91.trans (S103.trans (S112.trans (S133.trans (S142.trans (S151.trans (S160.trans (S169.trans (S182.trans (S608.trans (S638.trans S934))))))))))))))))))) h21), _, _, hw, fun r965 hw H966 v968 s967 h969 => ?_, (fun er hc hw => errUp T933 (ss_skip ss_refl) (he er (absurd hc (List.not_mem_nil)) hw))⟩
    have P970 := dom_up s967 P932
    have T971 := Same.trans T933 s967
    have e972 := s967 _ _ e935
    have S973 : Same (dels H926 (q170 :: ps)) (dels H966 (q170 :: ps)) := Sd (q170 :: ps) s967
    refine tTup_i (tCons_i (tC_i (tCons_i (tLst_i (tCons_i (tVar_i (v := u963) rfl (tNil_i (new_i (Nat.le_of_ble_eq_true rfl) (fun q974 H975 n976 s977 e978 => ?_)))))))))
    have r979 : AllR (pTup K (rCons pStr (rOne pInt))) (dels H966 (q170 :: ps)) [u963] ([d938.2.2.2] : List (Str × Int)) := (.cons ((pTup K (rCons pStr (rOne pInt))).mono (S934.trans S973) h964) .nil)
    have l980 : ([d938.2.2.2] : List (Str × Int)).length ≤ LIM := (Nat.le_of_ble_eq_true rfl)
    have m981 := nin_of n976 P970
    have z982 := Same.free T971 n976
    have P983 := dom_up s977 P970
    have T984 := Same.trans T971 s977
    have e985 := s977 _ _ e972
    have P986 := dom_new e978 P983
    have S987 : Same (dels H966 (q170 :: ps)) (dels H975 (q974 :: q170 :: ps)) := Sn (q170 :: ps) s977 n976
    have h988 : (pList (pTup K (rCons pStr (rOne pInt)))).rep (dels H975 (q170 :: ps)) (.ref q974) ([d938.2.2.2] : List (Str × Int)) := oFrzG e978 m981 (ss_skip ss_refl) (AllR.mono S987 r979) l980
    have P989 := dom_ss (ss_skip ss_refl) P986
    have S990 : Same (dels H975 (q974 :: q170 :: ps)) (dels H975 (q170 :: ps)) := Ss (ss_skip ss_refl)
    refine tNil_i (new_i (Nat.le_of_ble_eq_true rfl) (fun q991 H992 n993 s994 e995 => ?_))
    have P997 := dom_up s994 P989
    have T998 := Same.trans T984 s994
    have e999 := s994 _ _ e985
    have S1000 : Same (dels H975 (q170 :: ps)) (dels H992 (q170 :: ps)) := Sd (q170 :: ps) s994
    have h996 : (pTup K (rCons pStr (rOne (pList (pTup K (rCons pStr (rOne pInt))))))).rep (dels H992 (q170 :: ps)) (.ref q991) ((Str.ofString "refused"), ([d938.2.2.2] : List (Str × Int))) := tupR (dels_at e995 (nin_of n993 P989)) (rowC rfl (rowO ((pList (pTup K (rCons pStr (rOne pInt)))).mono S1000 h988)))
    refine neS (datTup K (rdCons K (datStr K) (rdOne K (datSum K (datInt K) (datSum K (datList K (datTup K (rdCons K (datStr K) (rdOne K (datInt K))))) (datTup K (rdCons K (datInt K) (rdOne K (datInt K)))) (by intro a b; rcases b with b <;> rfl) (by intro a b; rcases b with b <;> rfl)) (by intro a b; rcases b with b | b <;> rfl) (by intro a b; rcases b with b | b <;> rfl))))) (((pTup K (rCons pStr (rOne (pSum pInt (pSum (pList (pTup K (rCons pStr (rOne pInt)))) (pTup K (rCons pInt (rOne pInt))))))))).mono Su ((pTup K (rCons pStr (rOne (pSum pInt (pSum (pList (pTup K (rCons pStr (rOne pInt)))) (pTup K (rCons pInt (rOne pInt)))))))).mono (S987.trans (S990.trans S1000)) h969)) ((cvTup (rcvCons cvId (rcvOne (cvSR (g := fun d => (Sum.inl ((fun d => d) d) : ((List (Str × Int)) ⊕ (Int × Int)))) (cvSL (g := (fun d => d)) cvId))))) _ _ _ (((pTup K (rCons pStr (rOne (pList (pTup K (rCons pStr (rOne pInt)))))))).mono Su h996)) hw.1 hw.2.1 (IsBl_i (?_))
    refine Br_two hw.2.2 (fun c1001 hw => ?_) (fun c1001 hw => ?_)
    · refine tRet_j (tC_i (?_))
      exact hk _ hw _ T998
    · refine tNext_j (tIfS_j (?_))
      refine joinT hw (fun H' => Same H992 H') (fun b1003 H1004 s1005 hw => ?_) (fun hw hR => ?_)
      rotate_left 1
      · refine tAnd_i (tTest_i (tOp_i (tVar_i (v := (.int d938.1)) rfl (tC_i (rEqU_i (IsBl_i (?_)))))))
        refine Br_two hw (fun c1006 hw => ?_) (fun c1006 hw => ?_)
        · refine tTest_i (tOp_i (tCallS_i (tCons_i (tC_i (tCons_i (tVar_i (v := (.int d938.2.1)) rfl (tCons_i (tVar_i (v := u959) rfl (tCons_i (tVar_i (v := (.ref n113)) rfl (tNil_i (?_))))))))))))
          refine ⟨(q170 :: ps), (2 : Int), d938.2.1, d938.2.2.1, r122, u959, (.ref n113), rfl, P997, ((pSum pInt (pTup K (rCons pInt (rOne pInt)))).mono (S934.trans (S973.trans (S987.trans (S990.trans S1000)))) h960), ((pIns t.c_Base ["prime", "first", "second"] (rCons pInt (rCons (pTup K (rCons pInt (rOne pInt))) (rOne (pTup K (rCons pInt (rOne pInt))))))).mono (S142.trans (S151.trans (S160.trans (S169.trans (S182.trans (S608.trans (S638.trans (S934.trans (S973.trans (S987.trans (S990.trans S1000))))))))))) h129), _, _, hw, fun r1007 hw H1008 v1010 s1009 h1011 => ?_, (fun er hc hw => errUp T998 (ss_skip ss_refl) (he er (absurd hc (List.not_mem_nil)) hw))⟩
          have P1012 := dom_up s1009 P997
          have T1013 := Same.trans T998 s1009
          have sc1014 := Same.trans (Same.refl H992) s1009
          have e1015 := s1009 _ _ e999
          have S1016 : Same (dels H992 (q170 :: ps)) (dels H1008 (q170 :: ps)) := Sd (q170 :: ps) s1009
          refine tTup_i (tCons_i (tC_i (tCons_i (tLst_i (tCons_i (tVar_i (v := u963) rfl (tNil_i (new_i (Nat.le_of_ble_eq_true rfl) (fun q1017 H1018 n1019 s1020 e1021 => ?_)))))))))
          have r1022 : AllR (pTup K (rCons pStr (rOne pInt))) (dels H1008 (q170 :: ps)) [u963] ([d938.2.2.2] : List (Str × Int)) := (.cons ((pTup K (rCons pStr (rOne pInt))).mono (S934.trans (S973.trans (S987.trans (S990.trans (S1000.trans S1016))))) h964) .nil)
          have l1023 : ([d938.2.2.2] : List (Str × Int)).length ≤ LIM := (Nat.le_of_ble_eq_true rfl)
          have m1024 := nin_of n1019 P1012
          have z1025 := Same.free T1013 n1019
          have P1026 := dom_up s1020 P1012
          have T1027 := Same.trans T1013 s1020
          have sc1028 := Same.trans sc1014 s1020
          have e1029 := s1020 _ _ e1015
          have P1030 := dom_new e1021 P1026
          have S1031 : Same (dels H1008 (q170 :: ps)) (dels H1018 (q1017 :: q170 :: ps)) := Sn (q170 :: ps) s1020 n1019
          have h1032 : (pList (pTup K (rCons pStr (rOne pInt)))).rep (dels H1018 (q170 :: ps)) (.ref q1017) ([d938.2.2.2] : List (Str × Int)) := oFrzG e1021 m1024 (ss_skip ss_refl) (AllR.mono S1031 r1022) l1023
          have P1033 := dom_ss (ss_skip ss_refl) P1030
          have S1034 : Same (dels H1018 (q1017 :: q170 :: ps)) (dels H1018 (q170 :: ps)) := Ss (ss_skip ss_refl)
          refine tNil_i (new_i (Nat.le_of_ble_eq_true rfl) (fun q1035 H1036 n1037 s1038 e1039 => ?_))
          have P1041 := dom_up s1038 P1033
          have T1042 := Same.trans T1027 s1038
          have sc1043 := Same.trans sc1028 s1038
          have e1044 := s1038 _ _ e1029
          have S1045 : Same (dels H1018 (q170 :: ps)) (dels H1036 (q170 :: ps)) := Sd (q170 :: ps) s1038
          have h1040 : (pTup K (rCons pStr (rOne (pList (pTup K (rCons pStr (rOne pInt))))))).rep (dels H1036 (q170 :: ps)) (.ref q1035) ((Str.ofString "refused"), ([d938.2.2.2] : List (Str × Int))) := tupR (dels_at e1039 (nin_of n1037 P1033)) (rowC rfl (rowO ((pList (pTup K (rCons pStr (rOne pInt)))).mono S1045 h1032)))
          refine neS (datTup K (rdCons K (datStr K) (rdOne K (datSum K (datInt K) (datSum K (datList K (datTup K (rdCons K (datStr K) (rdOne K (datInt K))))) (datTup K (rdCons K (datInt K) (rdOne K (datInt K)))) (by intro a b; rcases b with b <;> rfl) (by intro a b; rcases b with b <;> rfl)) (by intro a b; rcases b with b | b <;> rfl) (by intro a b; rcases b with b | b <;> rfl))))) (((pTup K (rCons pStr (rOne (pSum pInt (pSum (pList (pTup K (rCons pStr (rOne pInt)))) (pTup K (rCons pInt (rOne pInt))))))))).mono Su ((pTup K (rCons pStr (rOne (pSum pInt (pSum (pList (pTup K (rCons pStr (rOne pInt)))) (pTup K (rCons pInt (rOne pInt)))))))).mono (S1031.trans (S1034.trans S1045)) h1011)) ((cvTup (rcvCons cvId (rcvOne (cvSR (g := fun d => (Sum.inl ((fun d => d) d) : ((List (Str × Int)) ⊕ (Int × Int)))) (cvSL (g := (fun d => d)) cvId))))) _ _ _ (((pTup K (rCons pStr (rOne (pList (pTup K (rCons pStr (rOne pInt)))))))).mono Su h1040)) hw.1 hw.2.1 (IsBl_i (?_))
          exact hR _ _ sc1043 hw.2.2
        · exact hR _ _ (Same.refl H992) hw
      have P1046 := dom_up s1005 P997
      have T1047 := Same.trans T998 s1005
      have e1048 := s1005 _ _ e999
      have S1049 : Same (dels H992 (q170 :: ps)) (dels H1004 (q170 :: ps)) := Sd (q170 :: ps) s1005
      refine Br_two hw (fun c1050 hw => ?_) (fun c1050 hw => ?_)
      · refine tRet_j (tC_i (?_))
        exact hk _ hw _ T1047
      · refine tNext_j (?_)
        exact nxS_i (s := (())) ⟨_, _, _, _, rfl, (S934.trans (S973.trans (S987.trans (S990.trans (S1000.trans S1049))))), P1046, T1047, e1048, trivial⟩ hw
  obtain ⟨j945, j946, j947, j948, rfl, S951, P949, T950, e952, _⟩ := hr
  refine tRet_j (tOp_i (tCallS_i (tCons_i (tC_i (tCons_i (tVar_i (v := (.int x_p)) rfl (tCons_i (tTup_i (tCons_i (tC_i (tCons_i (tVar_i (v := (.int x_p)) rfl (tNil_i (new_i (Nat.le_of_ble_eq_true rfl) (fun q1051 H1052 n1053 s1054 e1055 => ?_)))))))))))))))
  have P1057 := dom_up s1054 P949
  have T1058 := Same.trans T950 s1054
  have e1059 := s1054 _ _ e952
  have S1060 : Same (dels H943 (q170 :: ps)) (dels H1052 (q170 :: ps)) := Sd (q170 :: ps) s1054
  have h1056 : (pTup K (rCons pInt (rOne pInt))).rep (dels H1052 (q170 :: ps)) (.ref q1051) ((0 : Int), x_p) := tupR (dels_at e1055 (nin_of n1053 P949)) (rowC rfl (rowO rfl))
  refine tCons_i (tVar_i (v := (.ref n113)) rfl (tNil_i (?_)))
  refine ⟨(q170 :: ps), (2 : Int), x_p, (Sum.inr ((0 : Int), x_p) : (Int ⊕ (Int × Int))), r122, (.ref q1051), (.ref n113), rfl, P1057, (sumR (q := (pTup K (rCons pInt (rOne pInt)))) h1056), ((pIns t.c_Base ["prime", "first", "second"] (rCons pInt (rCons (pTup K (rCons pInt (rOne pInt))) (rOne (pTup K (rCons pInt (rOne pInt))))))).mono (S142.trans (S151.trans (S160.trans (S169.trans (S182.trans (S608.trans (S638.trans (S951.trans S1060)))))))) h129), _, _, hw, fun r1061 hw H1062 v1064 s1063 h1065 => ?_, (fun er hc hw => errUp T1058 (ss_skip ss_refl) (he er (absurd hc (List.not_mem_nil)) hw))⟩
  have P1066 := dom_up s1063 P1057
  have T1067 := Same.trans T1058 s1063
  have e1068 := s1063 _ _ e1059
  have S1069 : Same (dels H1052 (q170 :: ps)) (dels H1062 (q170 :: ps)) := Sd (q170 :: ps) s1063
  refine tTup_i (tCons_i (tC_i (tCons_i (tLst_i (tCons_i (tTup_i (tCons_i (tC_i (tCons_i (tVar_i (v := (.int y94)) rfl (tNil_i (new_i (Nat.le_of_ble_eq_true rfl) (fun q1070 H1071 n1072 s1073 e1074 => ?_)))))))))))))
  have P1076 := dom_up s1073 P1066
  have T1077 := Same.trans T1067 s1073
  have e1078 := s1073 _ _ e1068
  have S1079 : Same (dels H1062 (q170 :: ps)) (dels H1071 (q170 :: ps)) := Sd (q170 :: ps) s1073
  have h1075 : (pTup K (rCons pStr (rOne pInt))).rep (dels H1071 (q170 :: ps)) (.ref q1070) ((Str.ofString "prime"), y94) := tupR (dels_at e1074 (nin_of n1072 P1066)) (rowC rfl (rowO rfl))
  refine tNil_i (new_i (Nat.le_of_ble_eq_true rfl) (fun q1080 H1081 n1082 s1083 e1084 => ?_))
  have r1085 : AllR (pTup K (rCons pStr (rOne pInt))) (dels H1071 (q170 :: ps)) [(.ref q1070)] ([((Str.ofString "prime"), y94)] : List (Str × Int)) := (.cons h1075 .nil)
  have l1086 : ([((Str.ofString "prime"), y94)] : List (Str × Int)).length ≤ LIM := (Nat.le_of_ble_eq_true rfl)
  have m1087 := nin_of n1082 P1076
  have z1088 := Same.free T1077 n1082
  have P1089 := dom_up s1083 P1076
  have T1090 := Same.trans T1077 s1083
  have e1091 := s1083 _ _ e1078
  have P1092 := dom_new e1084 P1089
  have S1093 : Same (dels H1071 (q170 :: ps)) (dels H1081 (q1080 :: q170 :: ps)) := Sn (q170 :: ps) s1083 n1082
  have h1094 : (pList (pTup K (rCons pStr (rOne pInt)))).rep (dels H1081 (q170 :: ps)) (.ref q1080) ([((Str.ofString "prime"), y94)] : List (Str × Int)) := oFrzG e1084 m1087 (ss_skip ss_refl) (AllR.mono S1093 r1085) l1086
  have P1095 := dom_ss (ss_skip ss_refl) P1092
  have S1096 : Same (dels H1081 (q1080 :: q170 :: ps)) (dels H1081 (q170 :: ps)) := Ss (ss_skip ss_refl)
  refine tNil_i (new_i (Nat.le_of_ble_eq_true rfl) (fun q1097 H1098 n1099 s1100 e1101 => ?_))
  have P1103 := dom_up s1100 P1095
  have T1104 := Same.trans T1090 s1100
  have e1105 := s1100 _ _ e1091
  have S1106 : Same (dels H1081 (q170 :: ps)) (dels H1098 (q170 :: ps)) := Sd (q170 :: ps) s1100
  have h1102 : (pTup K (rCons pStr (rOne (pList (pTup K (rCons pStr (rOne pInt))))))).rep (dels H1098 (q170 :: ps)) (.ref q1097) ((Str.ofString "refused"), ([((Str.ofString "prime"), y94)] : List (Str × Int))) := tupR (dels_at e1101 (nin_of n1099 P1095)) (rowC rfl (rowO ((pList (pTup K (rCons pStr (rOne pInt)))).mono S1106 h1094)))
  refine eqS (datTup K (rdCons K (datStr K) (rdOne K (datSum K (datInt K) (datSum K (datList K (datTup K (rdCons K (datStr K) (rdOne K (datInt K))))) (datTup K (rdCons K (datInt K) (rdOne K (datInt K)))) (by intro a b; rcases b with b <;> rfl) (by intro a b; rcases b with b <;> rfl)) (by intro a b; rcases b with b | b <;> rfl) (by intro a b; rcases b with b | b <;> rfl))))) (((pTup K (rCons pStr (rOne (pSum pInt (pSum (pList (pTup K (rCons pStr (rOne pInt)))) (pTup K (rCons pInt (rOne pInt))))))))).mono Su ((pTup K (rCons pStr (rOne (pSum pInt (pSum (pList (pTup K (rCons pStr (rOne pInt)))) (pTup K (rCons pInt (rOne pInt)))))))).mono (S1079.trans (S1093.trans (S1096.trans S1106))) h1065)) ((cvTup (rcvCons cvId (rcvOne (cvSR (g := fun d => (Sum.inl ((fun d => d) d) : ((List (Str × Int)) ⊕ (Int × Int)))) (cvSL (g := (fun d => d)) cvId))))) _ _ _ (((pTup K (rCons pStr (rOne (pList (pTup K (rCons pStr (rOne pInt)))))))).mono Su h1102)) hw.1 hw.2.1 (?_)
  exact hk _ hw.2.2 _ T1104
def sp_law (K : PySem.W.Frag) (t : Tab) : Sp := fun vs H Q E => ∃ (ps : List Addr) (x_script : (List Int)) (v_script : V), vs = [v_script] ∧ (∀ x ∈ ps, H x ≠ none) ∧ (pFro K pInt).rep (dels H ps) v_script x_script ∧ ∃ (k : Bool → Prop) (e : PErr → Prop), w_law x_script k e ∧ (∀ r, k r → RetI V.bl H Q r) ∧ (∀ er, er.cls ∈ ([2, 8, 20, 21] : List Nat) → e er → ErrK ps t.cl H E er)
theorem len_law : ∀ vs H Q E, sp_law K t vs H Q E → vs.length = (["script"] : List Str).length := by
  rintro vs H Q E ⟨_, _, _, rfl, _⟩
  rfl
theorem ok_law (T : Txt K mg t) : FnOk P w K mg base (L2.CX P w) 12 t.a_law t.fd_law ["script"] (sp_law K t) := by
  have G_ulaw_draws := ok_ulaw_draws (P := P) (w := w) (base := base) T
  have G_ulaw_prime := ok_ulaw_prime (P := P) (w := w) (base := base) T
  have G_ulaw_base := ok_ulaw_base (P := P) (w := w) (base := base) T
  have G_Base_init := ok_Base_init (P := P) (w := w) (base := base) T
  have G_ulaw_some := ok_ulaw_some (P := P) (w := w) (base := base) T
  have G_crossed_point := ok_crossed_point (P := P) (w := w) (base := base) T
  have G_ulaw_whole := ok_ulaw_whole (P := P) (w := w) (base := base) T
  have G_ulaw_crossed := ok_ulaw_crossed (P := P) (w := w) (base := base) T
  have G_crossed_frame := ok_crossed_frame (P := P) (w := w) (base := base) T
  have G_ulaw_pair := ok_ulaw_pair (P := P) (w := w) (base := base) T
  have G_moved_frame := ok_moved_frame (P := P) (w := w) (base := base) T
  have G_ulaw_moved := ok_ulaw_moved (P := P) (w := w) (base := base) T
  have G_Base_back := ok_Base_back (P := P) (w := w) (base := base) T
  have G_ulaw_refused := ok_ulaw_refused (P := P) (w := w) (base := base) T
  refine T.F_law.okX sc_law len_law (fun cdv A outer s H vs Q E hr h => ?_)
  have nd := sc_law.nd
  refine ⟨_, (pss_cons (ps_set (i := 1) nd rfl (Or.inl rfl) (pe_callS G_ulaw_draws (hr.mono (by decide)) (by rfl) T.g_ulaw_draws T.F_ulaw_draws.kp T.b_ulaw_draws (fun σ => passAt (takes_of rfl rfl rfl rfl) σ) (pa_cons (pv 0) (pa_cons (pe_int) pa_nil))))
    (pss_cons (ps_set (i := 2) nd rfl (Or.inl rfl) (pe_cell))
    (pss_cons (ps_set (i := 3) nd rfl (Or.inl rfl) (pe_callS G_ulaw_prime (hr.mono (by decide)) (by rfl) T.g_ulaw_prime T.F_ulaw_prime.kp T.b_ulaw_prime (fun σ => passAt (takes_of rfl rfl rfl rfl) σ) (pa_cons (pv 1) (pa_cons (pv 2) pa_nil))))
    (pss_cons (ps_set (i := 4) nd rfl (Or.inl rfl) (pe_callS G_ulaw_base (hr.mono (by decide)) (by rfl) T.g_ulaw_base T.F_ulaw_base.kp T.b_ulaw_base (fun σ => passAt (takes_of rfl rfl rfl rfl) σ) (pa_cons (pv 1) (pa_cons (pv 2) (pa_cons (pv 3) pa_nil)))))
    (pss_cons (ps_set (i := 5) nd rfl (Or.inl rfl) (pe_mak T.mk_Base G_Base_init (hr.mono (by decide)) (by rfl) T.g_Base T.b_Base_init (fun σ => passAt (takes_of rfl rfl rfl rfl) σ) (pa_cons (pv 3) (pa_cons (pe_ix (ix_UK K) (pv 4) (pe_int) (fun _ _ => rfl)) (pa_cons (pe_ix (ix_UK K) (pv 4) (pe_int) (fun _ _ => rfl)) pa_nil)))))
    (pss_cons (ps_asg (pe_callS G_ulaw_some (hr.mono (by decide)) (by rfl) T.g_ulaw_some T.F_ulaw_some.kp T.b_ulaw_some (fun σ => passAt (takes_of rfl rfl rfl rfl) σ) (pa_cons (pv 1) (pa_cons (pv 2) (pa_cons (pv 3) pa_nil)))) (pg_tupK K 2 rfl (pgs_cons (pg_name (i := 6) nd rfl (Or.inl rfl)) (pgs_cons (pg_name (i := 7) nd rfl (Or.inl rfl)) pgs_nil))))
    (pss_cons (ps_for (passes_of rfl) rfl (pi_UK K (pv 6)) (pg_name (i := 8) nd rfl (Or.inl rfl))
    (pss_cons (ps_set (i := 9) nd rfl (Or.inl rfl) (pe_callS G_crossed_point (hr.mono (by decide)) (by rfl) T.g_crossed_point T.F_crossed_point.kp T.b_crossed_point (fun σ => passAt (takes_of rfl rfl rfl rfl) σ) (pa_cons (pv 3) (pa_cons (pv 8) pa_nil))))
    (pss_cons (ps_if (PW.pt (pw_or (pt_not (pt_truthK K (pe_callS G_ulaw_whole (hr.mono (by decide)) (by rfl) T.g_ulaw_whole T.F_ulaw_whole.kp T.b_ulaw_whole (fun σ => passAt (takes_of rfl rfl rfl rfl) σ) (pa_cons (pv 9) pa_nil)))) (pw_or1 (pt_cmpR (op_neUK K hr) (pv 9) (pe_callS G_ulaw_crossed (hr.mono (by decide)) (by rfl) T.g_ulaw_crossed T.F_ulaw_crossed.kp T.b_ulaw_crossed (fun σ => passAt (takes_of rfl rfl rfl rfl) σ) (pa_cons (pv 3) (pa_cons (pv 8) pa_nil))) (by first | exact nomark _ | rfl))))) (pss_one (ps_ret (pe_bl))) pss_nil)
    (pss_one (ps_if (pt_cmpR (op_neUK K hr) (pe_callK0 G_crossed_point (hr.mono (by decide)) (by rfl) T.g_crossed_point T.F_crossed_point.kp T.kb_crossed_point_0_point_prime passL  (pk_cons (pv 9) (pk_cons (pv 3) pk_nil))) (pv 8) (by first | exact nomark _ | rfl)) (pss_one (ps_ret (pe_bl))) pss_nil)))))
    (pss_cons (ps_set (i := 10) nd rfl (Or.inl rfl) (pe_lst pa_nil))
    (pss_cons (ps_set (i := 11) nd rfl (Or.inl rfl) (pe_lst pa_nil))
    (pss_cons (ps_for (passes_of rfl) rfl (pi_UK K (pv 7)) (pg_name (i := 12) nd rfl (Or.inl rfl))
    (pss_cons (ps_set (i := 13) nd rfl (Or.inl rfl) (pe_lst (pa_cons (pe_callS G_ulaw_crossed (hr.mono (by decide)) (by rfl) T.g_ulaw_crossed T.F_ulaw_crossed.kp T.b_ulaw_crossed (fun σ => passAt (takes_of rfl rfl rfl rfl) σ) (pa_cons (pv 3) (pa_cons (pe_ix (ix_UK K) (pv 12) (pe_int) (fun _ _ => rfl)) pa_nil))) (pa_cons (pe_callS G_ulaw_crossed (hr.mono (by decide)) (by rfl) T.g_ulaw_crossed T.F_ulaw_crossed.kp T.b_ulaw_crossed (fun σ => passAt (takes_of rfl rfl rfl rfl) σ) (pa_cons (pv 3) (pa_cons (pe_ix (ix_UK K) (pv 12) (pe_int) (fun _ _ => rfl)) pa_nil))) pa_nil))))
    (pss_cons (ps_set (i := 9) nd rfl (Or.inl rfl) (pe_callS G_crossed_frame (hr.mono (by decide)) (by rfl) T.g_crossed_frame T.F_crossed_frame.kp T.b_crossed_frame (fun σ => passAt (takes_of rfl rfl rfl rfl) σ) (pa_cons (pv 3) (pa_cons (pv 12) pa_nil))))
    (pss_cons (ps_if (pt_not (pt_truthK K (pe_callS G_ulaw_pair (hr.mono (by decide)) (by rfl) T.g_ulaw_pair T.F_ulaw_pair.kp T.b_ulaw_pair (fun σ => passAt (takes_of rfl rfl rfl rfl) σ) (pa_cons (pv 9) (pa_cons (pe_tup (pa_cons (pe_callB (cr_minK K rfl) (by rfl) T.n_min (by decide +kernel) (pa_cons (pv 13) pa_nil)) (pa_cons (pe_callB (cr_maxK K rfl) (by rfl) T.n_max (by decide +kernel) (pa_cons (pv 13) pa_nil)) pa_nil))) pa_nil))))) (pss_one (ps_ret (pe_bl))) pss_nil)
    (pss_cons (ps_if (pt_cmpR (op_neUK K hr) (pe_callK0 G_crossed_frame (hr.mono (by decide)) (by rfl) T.g_crossed_frame T.F_crossed_frame.kp T.kb_crossed_frame_0_frame_prime passL  (pk_cons (pv 9) (pk_cons (pv 3) pk_nil))) (pv 12) (by first | exact nomark _ | rfl)) (pss_one (ps_ret (pe_bl))) pss_nil)
    (pss_cons (ps_expr (pe_bmK K PySem.F.plainAttrs_list PySem.F.slot_list_append PySem.F.type_list_append mt_append (pv 10) (pa_cons (pv 9) pa_nil)))
    (pss_cons (ps_set (i := 9) nd rfl (Or.inl rfl) (pe_callS G_moved_frame (hr.mono (by decide)) (by rfl) T.g_moved_frame T.F_moved_frame.kp T.b_moved_frame (fun σ => passAt (takes_of rfl rfl rfl rfl) σ) (pa_cons (pv 3) (pa_cons (pv 12) (pa_cons (pv 5) pa_nil)))))
    (pss_cons (ps_if (pt_not (pt_truthK K (pe_callS G_ulaw_pair (hr.mono (by decide)) (by rfl) T.g_ulaw_pair T.F_ulaw_pair.kp T.b_ulaw_pair (fun σ => passAt (takes_of rfl rfl rfl rfl) σ) (pa_cons (pv 9) (pa_cons (pe_callS G_ulaw_moved (hr.mono (by decide)) (by rfl) T.g_ulaw_moved T.F_ulaw_moved.kp T.b_ulaw_moved (fun σ => passAt (takes_of rfl rfl rfl rfl) σ) (pa_cons (pv 3) (pa_cons (pv 12) (pa_cons (pv 4) pa_nil)))) pa_nil))))) (pss_one (ps_ret (pe_bl))) pss_nil)
    (pss_cons (ps_if (pt_cmpR (op_neUK K hr) (pe_callK0 G_moved_frame (hr.mono (by decide)) (by rfl) T.g_moved_frame T.F_moved_frame.kp T.kb_moved_frame_0_base_frame_prime passL  (pk_cons (pe_mth0 (C := t.c_Base) (pv 5) T.own_Base.cl T.mt_Base_back G_Base_back (hr.mono (by decide)) T.b_Base_back (fun σ => passAt (takes_of rfl rfl rfl rfl) σ)) (pk_cons (pv 9) (pk_cons (pv 3) pk_nil)))) (pv 12) (by first | exact nomark _ | rfl)) (pss_one (ps_ret (pe_bl))) pss_nil)
    (pss_one (ps_expr (pe_bmK K PySem.F.plainAttrs_list PySem.F.slot_list_append PySem.F.type_list_append mt_append (pv 11) (pa_cons (pv 9) pa_nil)))))))))))))
    (pss_cons (ps_if (PW.pt (pw_and (pt_cmpR op_lt (pv 3) (pe_int) (by first | exact nomark _ | rfl)) (pw_and1 (PW.pt (pw_or (pt_cmpR (op_neUK K hr) (pe_callB (cr_sortU K rfl) (by rfl) T.n_sorted (by decide +kernel) (pa_cons (pv 10) pa_nil)) (pv 7) (by first | exact nomark _ | rfl)) (pw_or1 (pt_cmpR (op_neUK K hr) (pe_callB (cr_sortU K rfl) (by rfl) T.n_sorted (by decide +kernel) (pa_cons (pv 11) pa_nil)) (pv 7) (by first | exact nomark _ | rfl)))))))) (pss_one (ps_ret (pe_bl))) pss_nil)
    (pss_one (ps_ret (pe_callS G_ulaw_refused (hr.mono (by decide)) (by rfl) T.g_ulaw_refused T.F_ulaw_refused.kp T.b_ulaw_refused (fun σ => passAt (takes_of rfl rfl rfl rfl) σ) (pa_cons (pv 1) (pa_cons (pv 2) (pa_cons (pv 3) (pa_cons (pv 4) pa_nil)))))))))))))))))), ?_⟩
  obtain ⟨ps, x_script, v_script, rfl, P0, h_script, k, e, hw, hk, he⟩ := h
  unfold w_law at hw
  refine tSeq_j (tAsg_j (tCallS_i (tCons_i (tVar_i (v := v_script) rfl (tCons_i (tC_i (tNil_i (?_))))))))
  refine ⟨ps, x_script, (80 : Int), v_script, rfl, P0, h_script, _, _, hw, fun r1 hw H2 v4 s3 h5 => ?_, (fun er hc hw => errUp (Same.refl H) ss_refl (he er (absurd hc (List.not_mem_nil)) hw))⟩
  have P6 := dom_up s3 P0
  have T7 := Same.trans (Same.refl H) s3
  have S8 : Same (dels H ps) (dels H2 ps) := Sd ps s3
  refine gN (σ' := [some v_script, some v4, none, none, none, none, none, none, none, none, none, none, none, none]) rfl (tSeq_j (tAsg_j (tCell_i (fun p9 H10 n11 s12 e13 => ?_))))
  have P15 := dom_up s12 P6
  have T16 := Same.trans T7 s12
  have S17 : Same (dels H2 ps) (dels H10 ps) := Sd ps s12
  have h14 : pCell.rep (dels H10 ps) (.ref p9) () := ⟨_, rfl, dels_at e13 (nin_of n11 P6)⟩
  refine gN (σ' := [some v_script, some v4, some (.ref p9), none, none, none, none, none, none, none, none, none, none, none]) rfl (tSeq_j (tAsg_j (tCallS_i (tCons_i (tVar_i (v := v4) rfl (tCons_i (tVar_i (v := (.ref p9)) rfl (tNil_i (?_)))))))))
  refine ⟨ps, r1, (), v4, (.ref p9), rfl, P15, ((pDraw K).mono S17 h5), h14, _, _, hw, fun r18 hw H19 s20 => ?_, (fun er hc hw => errUp T16 ss_refl (he er (absurd hc (List.not_mem_nil)) hw))⟩
  have P21 := dom_up s20 P15
  have T22 := Same.trans T16 s20
  have S23 : Same (dels H10 ps) (dels H19 ps) := Sd ps s20
  refine gN (σ' := [some v_script, some v4, some (.ref p9), some (.int r18), none, none, none, none, none, none, none, none, none, none]) rfl (tSeq_j (tAsg_j (tCallS_i (tCons_i (tVar_i (v := v4) rfl (tCons_i (tVar_i (v := (.ref p9)) rfl (tCons_i (tVar_i (v := (.int r18)) rfl (tNil_i (?_)))))))))))
  refine ⟨ps, r1, (), r18, v4, (.ref p9), rfl, P21, ((pDraw K).mono (S17.trans S23) h5), (pCell.mono S23 h14), _, _, hw, fun r24 hw H25 v27 s26 h28 => ?_, (fun er hc hw => errUp T22 ss_refl (he er (absurd hc (List.not_mem_nil)) hw))⟩
  have P29 := dom_up s26 P21
  have T30 := Same.trans T22 s26
  have S31 : Same (dels H19 ps) (dels H25 ps) := Sd ps s26
  refine gN (σ' := [some v_script, some v4, some (.ref p9), some (.int r18), some v27, none, none, none, none, none, none, none, none, none]) rfl (tSeq_j (tAsg_j (tMak_i (tCons_i (tVar_i (v := (.int r18)) rfl (tCons_i (tOp_i (tVar_i (v := v27) rfl (tC_i (ixT (j := 0) h28 Su rgZ rfl (fun u32 h33 => tCons_i (tOp_i (tVar_i (v := v27) rfl (tC_i (ixT (j := 1) h28 Su (rgS rgOne) rfl (fun u34 h35 => tNil_i (?_)))))))))))))))))
  refine makS (fun n36 dn37 H38 nn39 s40 s41 e42 => ?_)
  have S43 : Same (dels H25 ps) (dels H38 (n36 :: ps)) := Sn ps s40 nn39
  have P44 := dom_new e42 (dom_up s40 P29)
  refine ⟨(n36 :: ps), r18, r24.1, r24.2, n36, dn37, u32, u34, rfl, P44, (List.mem_cons_self ..), e42, ((pTup K (rCons pInt (rOne pInt))).mono S43 h33), ((pTup K (rCons pInt (rOne pInt))).mono S43 h35), _, _, hw, fun r45 hw H46 fs47 s48 e49 hn50 rr51 => ⟨rfl, ?_⟩, (fun er hc hw => errUp (Same.trans T30 s41) (ss_skip ss_refl) (he er (by simp only [List.mem_cons, List.not_mem_nil, or_false] at hc ⊢; omega) hw))⟩
  have s53 := Same.trans s41 s48
  have P54 := dom_up s53 P29
  have T55 := Same.trans T30 s53
  have S56 : Same (dels H25 ps) (dels H46 ps) := Sd ps s53
  have h52 : (pIns t.c_Base ["prime", "first", "second"] (rCons pInt (rCons (pTup K (rCons pInt (rOne pInt))) (rOne (pTup K (rCons pInt (rOne pInt))))))).rep (dels H46 ps) (.ref n36) r45 := ⟨_, _, fs47, rfl, dels_at e49 (nin_of nn39 P29), hn50, PRow.mono (rCons pInt (rCons (pTup K (rCons pInt (rOne pInt))) (rOne (pTup K (rCons pInt (rOne pInt)))))) (Ss (ss_skip ss_refl)) rr51⟩
  refine gN (σ' := [some v_script, some v4, some (.ref p9), some (.int r18), some v27, some (.ref n36), none, none, none, none, none, none, none, none]) rfl (tSeq_j (tAsg_j (tCallS_i (tCons_i (tVar_i (v := v4) rfl (tCons_i (tVar_i (v := (.ref p9)) rfl (tCons_i (tVar_i (v := (.int r18)) rfl (tNil_i (?_)))))))))))
  refine ⟨ps, r1, (), r18, v4, (.ref p9), rfl, P54, ((pDraw K).mono (S17.trans (S23.trans (S31.trans S56))) h5), (pCell.mono (S23.trans (S31.trans S56)) h14), _, _, hw, fun r57 hw H58 v60 s59 h61 => ?_, (fun er hc hw => errUp T55 ss_refl (he er (absurd hc (List.not_mem_nil)) hw))⟩
  have P62 := dom_up s59 P54
  have T63 := Same.trans T55 s59
  have S64 : Same (dels H46 ps) (dels H58 ps) := Sd ps s59
  refine gTupS h61 Su (fun vs65 hv66 => ?_)
  obtain ⟨u67, ws70, rfl, h68, hv69⟩ := rowCx hv66
  obtain ⟨u71, rfl, h72⟩ := rowOx hv69
  refine ⟨rfl, ?_⟩
  refine gCons_i (gN (σ' := [some v_script, some v4, some (.ref p9), some (.int r18), some v27, some (.ref n36), some u67, none, none, none, none, none, none, none]) rfl (gCons_i (gN (σ' := [some v_script, some v4, some (.ref p9), some (.int r18), some v27, some (.ref n36), some u67, some u71, none, none, none, none, none, none]) rfl (gNil_i (tSeq_j (tFor_j (wL (tVar_i (v := u67) rfl (?_)))))))))
  obtain ⟨a116, us117, hv118, hS119, hr120, hl121⟩ := (lFro (K := K) h68)
  refine WL_v hv118 (Same.seq Su hS119) (forL (s0 := ()) hw hr120 (fun (s122 : Unit) (σ124 : L2.St) (H123 : Hp) => ∃ (j125 : Option V) (j126 : Option V), σ124 = [some v_script, some v4, some (.ref p9), some (.int r18), some v27, some (.ref n36), some u67, some u71, j125, j126, none, none, none, none] ∧ Same (dels H58 ps) (dels H123 ps) ∧ (∀ x ∈ ps, H123 x ≠ none) ∧ Same H H123 ∧ True) ⟨_, _, rfl, (Same.refl _), P62, T63, trivial⟩ (fun s122 σ124 H123 ⟨j125, j126, _, S129, P127, T128, _⟩ => (Same.seq (Same.trans S129 Su) hS119)) (fun d132 s122 σ124 H123 x133 nx130 hr hi134 hw => ?_) (fun s136 σ138 H137 hr hw => ?_))
  · obtain ⟨j125, j126, rfl, S129, P127, T128, _⟩ := hr
    obtain rfl : x133 = (.int d132) := hi134
    refine gN (σ' := [some v_script, some v4, some (.ref p9), some (.int r18), some v27, some (.ref n36), some u67, some u71, some (.int d132), j126, none, none, none, none]) rfl (tSeq_j (tAsg_j (tCallS_i (tCons_i (tVar_i (v := (.int r18)) rfl (tCons_i (tVar_i (v := (.int d132)) rfl (tNil_i (?_)))))))))
    refine ⟨ps, r18, d132, rfl, P127, _, _, hw, fun r144 hw H145 s146 => ?_, (fun er hc hw => errUp T128 ss_refl (he er (by simp only [List.mem_cons, List.not_mem_nil, or_false] at hc ⊢; omega) hw))⟩
    have P147 := dom_up s146 P127
    have T148 := Same.trans T128 s146
    have S149 : Same (dels H123 ps) (dels H145 ps) := Sd ps s146
    refine gN (σ' := [some v_script, some v4, some (.ref p9), some (.int r18), some v27, some (.ref n36), some u67, some u71, some (.int d132), some (.int r144), none, none, none, none]) rfl (tSeq_j (tIfS_j (?_)))
    refine joinT hw (fun H' => Same H145 H') (fun b151 H152 s153 hw => ?_) (fun hw hR => ?_)
    rotate_left 1
    · refine tOr_i (tNot_i (tTruth_i (tCallS_i (tCons_i (tVar_i (v := (.int r144)) rfl (tNil_i (?_)))))))
      refine ⟨ps, r144, rfl, P147, _, _, hw, fun r154 hw H155 s156 => ?_, (fun er hc hw => errUp T148 ss_refl (he er (absurd hc (List.not_mem_nil)) hw))⟩
      have P157 := dom_up s156 P147
      have T158 := Same.trans T148 s156
      have sc159 := Same.trans (Same.refl H145) s156
      have S160 : Same (dels H145 ps) (dels H155 ps) := Sd ps s156
      refine Tru_b (?_)
      refine Br_two hw (fun c161 hw => ?_) (fun c161 hw => ?_)
      · exact hR _ _ sc159 hw
      · refine tTest_i (tOp_i (tVar_i (v := (.int r144)) rfl (tCallS_i (tCons_i (tVar_i (v := (.int r18)) rfl (tCons_i (tVar_i (v := (.int d132)) rfl (tNil_i (?_)))))))))
        refine ⟨ps, r18, d132, rfl, P157, _, _, hw, fun r162 hw H163 s164 => ?_, (fun er hc hw => errUp T158 ss_refl (he er (absurd hc (List.not_mem_nil)) hw))⟩
        have P165 := dom_up s164 P157
        have T166 := Same.trans T158 s164
        have sc167 := Same.trans sc159 s164
        have S168 : Same (dels H155 ps) (dels H163 ps) := Sd ps s164
        refine rNeU_i (IsBl_i (?_))
        exact hR _ _ sc167 hw
    have P169 := dom_up s153 P147
    have T170 := Same.trans T148 s153
    have S171 : Same (dels H145 ps) (dels H152 ps) := Sd ps s153
    refine Br_two hw (fun c172 hw => ?_) (fun c172 hw => ?_)
    · refine tRet_j (tC_i (?_))
      exact hk _ hw _ T170
    · refine tNext_j (tIfS_j (tTest_i (tOp_i (tCallK_i (tNil_i (tCons_i (tVar_i (v := (.int r144)) rfl (tCons_i (tVar_i (v := (.int r18)) rfl (tNil_i (?_)))))))))))
      refine ⟨ps, r18, r144, rfl, P169, _, _, hw, fun r173 hw H174 s175 => ?_, (fun er _ hw => False.elim hw)⟩
      have P176 := dom_up s175 P169
      have T177 := Same.trans T170 s175
      have S178 : Same (dels H152 ps) (dels H174 ps) := Sd ps s175
      refine tVar_i (v := (.int d132)) rfl (rNeU_i (IsBl_i (?_)))
      refine Br_two hw (fun c179 hw => ?_) (fun c179 hw => ?_)
      · refine tRet_j (tC_i (?_))
        exact hk _ hw _ T177
      · refine tNext_j (?_)
        exact nxS_i (s := (())) ⟨_, _, rfl, (S129.trans (S149.trans (S171.trans S178))), P176, T177, trivial⟩ hw
  obtain ⟨j139, j140, rfl, S143, P141, T142, _⟩ := hr
  refine tSeq_j (tAsg_j (tLst_i (tNil_i (new_i (Nat.le_of_ble_eq_true rfl) (fun q180 H181 n182 s183 e184 => ?_)))))
  have r185 : AllR (pTup K (rCons pInt (rOne pInt))) (dels H137 ps) [] ([] : List (Int × Int)) := .nil
  have l186 : ([] : List (Int × Int)).length ≤ LIM := (Nat.le_of_ble_eq_true rfl)
  have m187 := nin_of n182 P141
  have z188 := Same.free T142 n182
  have P189 := dom_up s183 P141
  have T190 := Same.trans T142 s183
  have P191 := dom_new e184 P189
  have S192 : Same (dels H137 ps) (dels H181 (q180 :: ps)) := Sn ps s183 n182
  refine gN (σ' := [some v_script, some v4, some (.ref p9), some (.int r18), some v27, some (.ref n36), some u67, some u71, j139, j140, some (.ref q180), none, none, none]) rfl (?_)
  obtain ⟨y193, r194, l195, hw⟩ := letO hw r185 l186
  refine tSeq_j (tAsg_j (tLst_i (tNil_i (new_i (Nat.le_of_ble_eq_true rfl) (fun q196 H197 n198 s199 e200 => ?_)))))
  have r201 : AllR (pTup K (rCons pInt (rOne pInt))) (dels H181 (q180 :: ps)) [] ([] : List (Int × Int)) := .nil
  have l202 : ([] : List (Int × Int)).length ≤ LIM := (Nat.le_of_ble_eq_true rfl)
  have m203 := nin_of n198 P191
  have z204 := Same.free T190 n198
  have P205 := dom_up s199 P191
  have T206 := Same.trans T190 s199
  have e207 := s199 _ _ e184
  have P208 := dom_new e200 P205
  have S209 : Same (dels H181 (q180 :: ps)) (dels H197 (q196 :: q180 :: ps)) := Sn (q180 :: ps) s199 n198
  refine gN (σ' := [some v_script, some v4, some (.ref p9), some (.int r18), some v27, some (.ref n36), some u67, some u71, j139, j140, some (.ref q180), some (.ref q196), none, none]) rfl (?_)
  obtain ⟨y210, r211, l212, hw⟩ := letO hw r201 l202
  refine tSeq_j (tFor_j (wL (tVar_i (v := u71) rfl (?_))))
  obtain ⟨a545, us546, hv547, hS548, hr549, hl550⟩ := (lFro (K := K) ((pList (pTup K (rCons pInt (rOne pInt)))).mono (S143.trans (S192.trans S209)) h72))
  refine WL_v hv547 (Same.seq Su hS548) (forL (s0 := (y193, y210)) hw hr549 (fun (s551 : (List (Int × Int)) × (List (Int × Int))) (σ553 : L2.St) (H552 : Hp) => ∃ (j554 : Option V) (j555 : Option V) (j556 : Option V) (us560 : List V) (us564 : List V), σ553 = [some v_script, some v4, some (.ref p9), some (.int r18), some v27, some (.ref n36), some u67, some u71, j139, j554, some (.ref q180), some (.ref q196), j555, j556] ∧ Same (dels H197 (q196 :: q180 :: ps)) (dels H552 (q196 :: q180 :: ps)) ∧ (∀ x ∈ (q196 :: q180 :: ps), H552 x ≠ none) ∧ Same H H552 ∧ H552 q180 = some (.lst us560) ∧ AllR (pTup K (rCons pInt (rOne pInt))) (dels H552 (q196 :: q180 :: ps)) us560 s551.1 ∧ (s551.1).length ≤ LIM ∧ H552 q196 = some (.lst us564) ∧ AllR (pTup K (rCons pInt (rOne pInt))) (dels H552 (q196 :: q180 :: ps)) us564 s551.2 ∧ (s551.2).length ≤ LIM ∧ True) ⟨_, _, _, [], [], rfl, (Same.refl _), P208, T206, e207, (AllR.mono (S192.trans S209) r194), l195, e200, (AllR.mono S209 r211), l212, trivial⟩ (fun s551 σ553 H552 ⟨j554, j555, j556, us560, us564, _, S559, P557, T558, e561, r562, l563, e565, r566, l567, _⟩ => (Same.seq (Same.trans S559 Su) hS548)) (fun d570 s551 σ553 H552 x571 nx568 hr hi572 hw => ?_) (fun s574 σ576 H575 hr hw => ?_))
  · obtain ⟨j554, j555, j556, us560, us564, rfl, S559, P557, T558, e561, r562, l563, e565, r566, l567, _⟩ := hr
    refine gN (σ' := [some v_script, some v4, some (.ref p9), some (.int r18), some v27, some (.ref n36), some u67, some u71, j139, j554, some (.ref q180), some (.ref q196), some x571, j556]) rfl (tSeq_j (tAsg_j (tLst_i (tCons_i (tCallS_i (tCons_i (tVar_i (v := (.int r18)) rfl (tCons_i (tOp_i (tVar_i (v := x571) rfl (tC_i (ixTI (j := 0) hi572 (Same.trans S559 Su) rgZ rfl (tNil_i (?_))))))))))))))
    refine ⟨(q196 :: q180 :: ps), r18, d570.1, rfl, P557, _, _, hw, fun r591 hw H592 s593 => ?_, (fun er hc hw => errUp T558 (ss_skip (ss_skip ss_refl)) (he er (absurd hc (List.not_mem_nil)) hw))⟩
    have P594 := dom_up s593 P557
    have T595 := Same.trans T558 s593
    have e596 := s593 _ _ e561
    have e597 := s593 _ _ e565
    have S598 : Same (dels H552 (q196 :: q180 :: ps)) (dels H592 (q196 :: q180 :: ps)) := Sd (q196 :: q180 :: ps) s593
    refine tCons_i (tCallS_i (tCons_i (tVar_i (v := (.int r18)) rfl (tCons_i (tOp_i (tVar_i (v := x571) rfl (tC_i (ixTI (j := 1) hi572 (Same.trans (S559.trans S598) Su) (rgS rgOne) rfl (tNil_i (?_))))))))))
    refine ⟨(q196 :: q180 :: ps), r18, d570.2, rfl, P594, _, _, hw, fun r599 hw H600 s601 => ?_, (fun er hc hw => errUp T595 (ss_skip (ss_skip ss_refl)) (he er (absurd hc (List.not_mem_nil)) hw))⟩
    have P602 := dom_up s601 P594
    have T603 := Same.trans T595 s601
    have e604 := s601 _ _ e596
    have e605 := s601 _ _ e597
    have S606 : Same (dels H592 (q196 :: q180 :: ps)) (dels H600 (q196 :: q180 :: ps)) := Sd (q196 :: q180 :: ps) s601
    refine tNil_i (new_i (Nat.le_of_ble_eq_true rfl) (fun q607 H608 n609 s610 e611 => ?_))
    have r612 : AllR pInt (dels H600 (q196 :: q180 :: ps)) [(.int r591), (.int r599)] ([r591, r599] : List Int) := (.cons rfl (.cons rfl .nil))
    have l613 : ([r591, r599] : List Int).length ≤ LIM := (Nat.le_of_ble_eq_true rfl)
    have m614 := nin_of n609 P602
    have z615 := Same.free T603 n609
    have P616 := dom_up s610 P602
    have T617 := Same.trans T603 s610
    have e618 := s610 _ _ e604
    have e619 := s610 _ _ e605
    have P620 := dom_new e611 P616
    have S621 : Same (dels H600 (q196 :: q180 :: ps)) (dels H608 (q607 :: q196 :: q180 :: ps)) := Sn (q196 :: q180 :: ps) s610 n609
    have h622 : (pList pInt).rep (dels H608 (q196 :: q180 :: ps)) (.ref q607) ([r591, r599] : List Int) := oFrzG e611 m614 (ss_skip ss_refl) (AllR.mono S621 r612) l613
    have P623 := dom_ss (ss_skip ss_refl) P620
    have S624 : Same (dels H608 (q607 :: q196 :: q180 :: ps)) (dels H608 (q196 :: q180 :: ps)) := Ss (ss_skip ss_refl)
    refine asgRL (p := (pList pInt)) (e := ([r591, r599] : List Int)) (σ' := [some v_script, some v4, some (.ref p9), some (.int r18), some v27, some (.ref n36), some u67, some u71, j139, j554, some (.ref q180), some (.ref q196), some x571, some (.ref q607)]) hw h622 rfl (fun y625 h626 hw => ?_)
    refine tSeq_j (tAsg_j (tCallS_i (tCons_i (tVar_i (v := (.int r18)) rfl (tCons_i (tVar_i (v := x571) rfl (tNil_i (?_))))))))
    refine ⟨(q196 :: q180 :: ps), r18, d570, x571, rfl, P623, ((pTup K (rCons pInt (rOne pInt))).mono (S559.trans (S598.trans (S606.trans (S621.trans S624)))) hi572), _, _, hw, fun r627 hw H628 v630 s629 h631 => ?_, (fun er hc hw => errUp T617 (ss_skip (ss_skip ss_refl)) (he er (by simp only [List.mem_cons, List.not_mem_nil, or_false] at hc ⊢; omega) hw))⟩
    have P632 := dom_up s629 P623
    have T633 := Same.trans T617 s629
    have e634 := s629 _ _ e618
    have e635 := s629 _ _ e619
    have S636 : Same (dels H608 (q196 :: q180 :: ps)) (dels H628 (q196 :: q180 :: ps)) := Sd (q196 :: q180 :: ps) s629
    refine gN (σ' := [some v_script, some v4, some (.ref p9), some (.int r18), some v27, some (.ref n36), some u67, some u71, j139, some v630, some (.ref q180), some (.ref q196), some x571, some (.ref q607)]) rfl (tSeq_j (tIfS_j (tNot_i (tTruth_i (tCallS_i (tCons_i (tVar_i (v := v630) rfl (tCons_i (tTup_i (tCons_i (tCB_i (tCons_i (tVar_i (v := (.ref q607)) rfl (tNil_i (minS (slL (Same.trans S636 Su) h626) hw.1 (tCons_i (tCB_i (tCons_i (tVar_i (v := (.ref q607)) rfl (tNil_i (maxS (slL (Same.trans S636 Su) h626) hw.2.1 (tNil_i (new_i (Nat.le_of_ble_eq_true rfl) (fun q637 H638 n639 s640 e641 => ?_))))))))))))))))))))))))
    have P643 := dom_up s640 P632
    have T644 := Same.trans T633 s640
    have e645 := s640 _ _ e634
    have e646 := s640 _ _ e635
    have S647 : Same (dels H628 (q196 :: q180 :: ps)) (dels H638 (q196 :: q180 :: ps)) := Sd (q196 :: q180 :: ps) s640
    have h642 : (pTup K (rCons pInt (rOne pInt))).rep (dels H638 (q196 :: q180 :: ps)) (.ref q637) ((minL y625), (maxL y625)) := tupR (dels_at e641 (nin_of n639 P632)) (rowC rfl (rowO rfl))
    refine tNil_i (?_)
    refine ⟨(q196 :: q180 :: ps), r627, ((minL y625), (maxL y625)), v630, (.ref q637), rfl, P643, ((pTup K (rCons pInt (rOne pInt))).mono S647 h631), h642, _, _, hw.2.2, fun r648 hw H649 s650 => ?_, (fun er hc hw => errUp T644 (ss_skip (ss_skip ss_refl)) (he er (absurd hc (List.not_mem_nil)) hw))⟩
    have P651 := dom_up s650 P643
    have T652 := Same.trans T644 s650
    have e653 := s650 _ _ e645
    have e654 := s650 _ _ e646
    have S655 : Same (dels H638 (q196 :: q180 :: ps)) (dels H649 (q196 :: q180 :: ps)) := Sd (q196 :: q180 :: ps) s650
    refine Tru_b (?_)
    refine Br_two hw (fun c656 hw => ?_) (fun c656 hw => ?_)
    · refine tRet_j (tC_i (?_))
      exact hk _ hw _ T652
    · refine tNext_j (tSeq_j (tIfS_j (tTest_i (tOp_i (tCallK_i (tNil_i (tCons_i (tVar_i (v := v630) rfl (tCons_i (tVar_i (v := (.int r18)) rfl (tNil_i (?_))))))))))))
      refine ⟨(q196 :: q180 :: ps), r18, r627, v630, rfl, P651, ((pTup K (rCons pInt (rOne pInt))).mono (S647.trans S655) h631), _, _, hw, fun r657 hw H658 v660 s659 h661 => ?_, (fun er _ hw => False.elim hw)⟩
      have P662 := dom_up s659 P651
      have T663 := Same.trans T652 s659
      have e664 := s659 _ _ e653
      have e665 := s659 _ _ e654
      have S666 : Same (dels H649 (q196 :: q180 :: ps)) (dels H658 (q196 :: q180 :: ps)) := Sd (q196 :: q180 :: ps) s659
      refine tVar_i (v := x571) rfl (neS (datTup K (rdCons K (datInt K) (rdOne K (datInt K)))) (((pTup K (rCons pInt (rOne pInt)))).mono Su h661) (((pTup K (rCons pInt (rOne pInt)))).mono Su ((pTup K (rCons pInt (rOne pInt))).mono (S559.trans (S598.trans (S606.trans (S621.trans (S624.trans (S636.trans (S647.trans (S655.trans S666)))))))) hi572)) ⟨trivial, trivial⟩ ⟨trivial, trivial⟩ (IsBl_i (?_)))
      refine Br_two hw (fun c667 hw => ?_) (fun c667 hw => ?_)
      · refine tRet_j (tC_i (?_))
        exact hk _ hw _ T663
      · refine tNext_j (tSeq_j (tDrop_j (tBM_i (tVar_i (v := (.ref q180)) rfl (tyL (SqL.of e664) (tCons_i (tVar_i (v := v630) rfl (tNil_i (appO (p := (pTup K (rCons pInt (rOne pInt)))) (d := r627) e664 (AllR.mono (S598.trans (S606.trans (S621.trans (S624.trans (S636.trans (S647.trans (S655.trans S666))))))) r562) hw.1 ((pTup K (rCons pInt (rOne pInt))).mono (S647.trans (S655.trans S666)) h631) (fun H668 f669 us670 e671 r672 l673 => ?_))))))))))
        have e674 := Off.at f669 e665 (Ne.symm (ne_nin m203 (List.mem_cons_self ..)))
        have P675 := dom_off f669 e671 P662
        have T676 := st_off T663 f669 z188
        have S677 : Same (dels H658 (q196 :: q180 :: ps)) (dels H668 (q196 :: q180 :: ps)) := So (List.mem_cons_of_mem _ (List.mem_cons_self ..)) f669
        obtain ⟨y678, r679, l680, hw⟩ := letO hw.2 r672 l673
        refine tSeq_j (tAsg_j (tCallS_i (tCons_i (tVar_i (v := (.int r18)) rfl (tCons_i (tVar_i (v := x571) rfl (tCons_i (tVar_i (v := (.ref n36)) rfl (tNil_i (?_))))))))))
        refine ⟨(q196 :: q180 :: ps), r18, d570, r45, x571, (.ref n36), rfl, P675, ((pTup K (rCons pInt (rOne pInt))).mono (S559.trans (S598.trans (S606.trans (S621.trans (S624.trans (S636.trans (S647.trans (S655.trans (S666.trans S677))))))))) hi572), ((pIns t.c_Base ["prime", "first", "second"] (rCons pInt (rCons (pTup K (rCons pInt (rOne pInt))) (rOne (pTup K (rCons pInt (rOne pInt))))))).mono (S64.trans (S143.trans (S192.trans (S209.trans (S559.trans (S598.trans (S606.trans (S621.trans (S624.trans (S636.trans (S647.trans (S655.trans (S666.trans S677))))))))))))) h52), _, _, hw, fun r681 hw H682 v684 s683 h685 => ?_, (fun er hc hw => errUp T676 (ss_skip (ss_skip ss_refl)) (he er (by simp only [List.mem_cons, List.not_mem_nil, or_false] at hc ⊢; omega) hw))⟩
        have P686 := dom_up s683 P675
        have T687 := Same.trans T676 s683
        have e688 := s683 _ _ e671
        have e689 := s683 _ _ e674
        have S690 : Same (dels H668 (q196 :: q180 :: ps)) (dels H682 (q196 :: q180 :: ps)) := Sd (q196 :: q180 :: ps) s683
        refine gN (σ' := [some v_script, some v4, some (.ref p9), some (.int r18), some v27, some (.ref n36), some u67, some u71, j139, some v684, some (.ref q180), some (.ref q196), some x571, some (.ref q607)]) rfl (tSeq_j (tIfS_j (tNot_i (tTruth_i (tCallS_i (tCons_i (tVar_i (v := v684) rfl (tCons_i (tCallS_i (tCons_i (tVar_i (v := (.int r18)) rfl (tCons_i (tVar_i (v := x571) rfl (tCons_i (tVar_i (v := v27) rfl (tNil_i (?_)))))))))))))))))
        refine ⟨(q196 :: q180 :: ps), r18, d570, r24, x571, v27, rfl, P686, ((pTup K (rCons pInt (rOne pInt))).mono (S559.trans (S598.trans (S606.trans (S621.trans (S624.trans (S636.trans (S647.trans (S655.trans (S666.trans (S677.trans S690)))))))))) hi572), ((pTup K (rCons (pTup K (rCons pInt (rOne pInt))) (rOne (pTup K (rCons pInt (rOne pInt)))))).mono (S56.trans (S64.trans (S143.trans (S192.trans (S209.trans (S559.trans (S598.trans (S606.trans (S621.trans (S624.trans (S636.trans (S647.trans (S655.trans (S666.trans (S677.trans S690))))))))))))))) h28), _, _, hw, fun r691 hw H692 v694 s693 h695 => ?_, (fun er hc hw => errUp T687 (ss_skip (ss_skip ss_refl)) (he er (absurd hc (List.not_mem_nil)) hw))⟩
        have P696 := dom_up s693 P686
        have T697 := Same.trans T687 s693
        have e698 := s693 _ _ e688
        have e699 := s693 _ _ e689
        have S700 : Same (dels H682 (q196 :: q180 :: ps)) (dels H692 (q196 :: q180 :: ps)) := Sd (q196 :: q180 :: ps) s693
        refine tNil_i (?_)
        refine ⟨(q196 :: q180 :: ps), r681, r691, v684, v694, rfl, P696, ((pTup K (rCons pInt (rOne pInt))).mono S700 h685), h695, _, _, hw, fun r701 hw H702 s703 => ?_, (fun er hc hw => errUp T697 (ss_skip (ss_skip ss_refl)) (he er (absurd hc (List.not_mem_nil)) hw))⟩
        have P704 := dom_up s703 P696
        have T705 := Same.trans T697 s703
        have e706 := s703 _ _ e698
        have e707 := s703 _ _ e699
        have S708 : Same (dels H692 (q196 :: q180 :: ps)) (dels H702 (q196 :: q180 :: ps)) := Sd (q196 :: q180 :: ps) s703
        refine Tru_b (?_)
        refine Br_two hw (fun c709 hw => ?_) (fun c709 hw => ?_)
        · refine tRet_j (tC_i (?_))
          exact hk _ hw _ T705
        · refine tNext_j (tSeq_j (tIfS_j (tTest_i (tOp_i (tCallK_i (tNil_i (tCons_i (tMth_i (tVar_i (v := (.ref n36)) rfl (mthS h52 (Same.trans (S64.trans (S143.trans (S192.trans (S209.trans (S559.trans (S598.trans (S606.trans (S621.trans (S624.trans (S636.trans (S647.trans (S655.trans (S666.trans (S677.trans (S690.trans (S700.trans S708)))))))))))))))) Su) (by decide +kernel) (tNil_i (?_))))))))))))
          refine ⟨(q196 :: q180 :: ps), r45, (.ref n36), rfl, P704, ((pIns t.c_Base ["prime", "first", "second"] (rCons pInt (rCons (pTup K (rCons pInt (rOne pInt))) (rOne (pTup K (rCons pInt (rOne pInt))))))).mono (S64.trans (S143.trans (S192.trans (S209.trans (S559.trans (S598.trans (S606.trans (S621.trans (S624.trans (S636.trans (S647.trans (S655.trans (S666.trans (S677.trans (S690.trans (S700.trans S708)))))))))))))))) h52), _, _, hw, fun r710 hw H711 v713 s712 h714 => ?_, (fun er hc hw => errUp T705 (ss_skip (ss_skip ss_refl)) (he er (by simp only [List.mem_cons, List.not_mem_nil, or_false] at hc ⊢; omega) hw))⟩
          have P715 := dom_up s712 P704
          have T716 := Same.trans T705 s712
          have e717 := s712 _ _ e706
          have e718 := s712 _ _ e707
          have S719 : Same (dels H702 (q196 :: q180 :: ps)) (dels H711 (q196 :: q180 :: ps)) := Sd (q196 :: q180 :: ps) s712
          refine tCons_i (tVar_i (v := v684) rfl (tCons_i (tVar_i (v := (.int r18)) rfl (tNil_i (?_)))))
          refine ⟨(q196 :: q180 :: ps), r18, r681, r710, v684, v713, rfl, P715, ((pTup K (rCons pInt (rOne pInt))).mono (S700.trans (S708.trans S719)) h685), h714, _, _, hw, fun r720 hw H721 v723 s722 h724 => ?_, (fun er _ hw => False.elim hw)⟩
          have P725 := dom_up s722 P715
          have T726 := Same.trans T716 s722
          have e727 := s722 _ _ e717
          have e728 := s722 _ _ e718
          have S729 : Same (dels H711 (q196 :: q180 :: ps)) (dels H721 (q196 :: q180 :: ps)) := Sd (q196 :: q180 :: ps) s722
          refine tVar_i (v := x571) rfl (neS (datTup K (rdCons K (datInt K) (rdOne K (datInt K)))) (((pTup K (rCons pInt (rOne pInt)))).mono Su h724) (((pTup K (rCons pInt (rOne pInt)))).mono Su ((pTup K (rCons pInt (rOne pInt))).mono (S559.trans (S598.trans (S606.trans (S621.trans (S624.trans (S636.trans (S647.trans (S655.trans (S666.trans (S677.trans (S690.trans (S700.trans (S708.trans (S719.trans S729)))))))))))))) hi572)) ⟨trivial, trivial⟩ ⟨trivial, trivial⟩ (IsBl_i (?_)))
          refine Br_two hw (fun c730 hw => ?_) (fun c730 hw => ?_)
          · refine tRet_j (tC_i (?_))
            exact hk _ hw _ T726
          · refine tNext_j (tDrop_j (tBM_i (tVar_i (v := (.ref q196)) rfl (tyL (SqL.of e728) (tCons_i (tVar_i (v := v684) rfl (tNil_i (appO (p := (pTup K (rCons pInt (rOne pInt)))) (d := r681) e728 (AllR.mono (S598.trans (S606.trans (S621.trans (S624.trans (S636.trans (S647.trans (S655.trans (S666.trans (S677.trans (S690.trans (S700.trans (S708.trans (S719.trans S729))))))))))))) r566) hw.1 ((pTup K (rCons pInt (rOne pInt))).mono (S700.trans (S708.trans (S719.trans S729))) h685) (fun H731 f732 us733 e734 r735 l736 => ?_)))))))))
            have e737 := Off.at f732 e727 (ne_nin m203 (List.mem_cons_self ..))
            have P738 := dom_off f732 e734 P725
            have T739 := st_off T726 f732 z204
            have S740 : Same (dels H721 (q196 :: q180 :: ps)) (dels H731 (q196 :: q180 :: ps)) := So (List.mem_cons_self ..) f732
            obtain ⟨y741, r742, l743, hw⟩ := letO hw.2 r735 l736
            exact nxS_i (s := ((y678, y741))) ⟨_, _, _, us670, us733, rfl, (S559.trans (S598.trans (S606.trans (S621.trans (S624.trans (S636.trans (S647.trans (S655.trans (S666.trans (S677.trans (S690.trans (S700.trans (S708.trans (S719.trans (S729.trans S740))))))))))))))), P738, T739, e737, (AllR.mono (S677.trans (S690.trans (S700.trans (S708.trans (S719.trans (S729.trans S740)))))) r679), l680, e734, (AllR.mono S740 r742), l743, trivial⟩ hw
  obtain ⟨j577, j578, j579, us583, us587, rfl, S582, P580, T581, e584, r585, l586, e588, r589, l590, _⟩ := hr
  refine tSeq_j (tIfS_j (?_))
  refine joinT hw (fun H' => Same H575 H') (fun b756 H757 s758 hw => ?_) (fun hw hR => ?_)
  rotate_left 1
  · refine tAnd_i (tTest_i (tOp_i (tVar_i (v := (.int r18)) rfl (tC_i (rI0_i (IsBl_i (?_)))))))
    refine Br_two hw (fun c759 hw => ?_) (fun c759 hw => ?_)
    · refine joinT hw (fun H' => Same H575 H') (fun b772 H773 s774 hw => ?_) (fun hw hR => ?_)
      rotate_left 1
      · refine tOr_i (tTest_i (tOp_i (tCB_i (tCons_i (tVar_i (v := (.ref q180)) rfl (tNil_i (sortU (slO e584 r585 l586) Su (fun es775 pm776 so777 q778 H779 n780 s781 us782 e783 r784 l785 => ?_))))))))
        have hw := hw es775 pm776 so777
        have m786 := nin_of n780 P580
        have z787 := Same.free T581 n780
        have P788 := dom_up s781 P580
        have T789 := Same.trans T581 s781
        have sc790 := Same.trans (Same.refl H575) s781
        have e791 := s781 _ _ e584
        have e792 := s781 _ _ e588
        have P793 := dom_new e783 P788
        have S794 : Same (dels H575 (q196 :: q180 :: ps)) (dels H779 (q778 :: q196 :: q180 :: ps)) := Sn (q196 :: q180 :: ps) s781 n780
        have h795 : (pList (pTup K (rCons pInt (rOne pInt)))).rep (dels H779 (q196 :: q180 :: ps)) (.ref q778) es775 := oFrzG e783 m786 (ss_skip ss_refl) (AllR.mono S794 r784) l785
        have P796 := dom_ss (ss_skip ss_refl) P793
        have S797 : Same (dels H779 (q778 :: q196 :: q180 :: ps)) (dels H779 (q196 :: q180 :: ps)) := Ss (ss_skip ss_refl)
        refine tVar_i (v := u71) rfl (neS (datList K (datTup K (rdCons K (datInt K) (rdOne K (datInt K))))) (((pList (pTup K (rCons pInt (rOne pInt))))).mono Su h795) (((pList (pTup K (rCons pInt (rOne pInt))))).mono Su ((pList (pTup K (rCons pInt (rOne pInt)))).mono (S143.trans (S192.trans (S209.trans (S582.trans (S794.trans S797))))) h72)) (fun _ _ => ⟨trivial, trivial⟩) (fun _ _ => ⟨trivial, trivial⟩) (IsBl_i (?_)))
        refine Br_two hw (fun c798 hw => ?_) (fun c798 hw => ?_)
        · exact hR _ _ sc790 hw
        · refine tTest_i (tOp_i (tCB_i (tCons_i (tVar_i (v := (.ref q196)) rfl (tNil_i (sortU (slO e792 r589 l590) (Same.trans (S794.trans S797) Su) (fun es799 pm800 so801 q802 H803 n804 s805 us806 e807 r808 l809 => ?_)))))))
          have hw := hw es799 pm800 so801
          have m810 := nin_of n804 P796
          have z811 := Same.free T789 n804
          have P812 := dom_up s805 P796
          have T813 := Same.trans T789 s805
          have sc814 := Same.trans sc790 s805
          have e815 := s805 _ _ e791
          have e816 := s805 _ _ e792
          have P817 := dom_new e807 P812
          have S818 : Same (dels H779 (q196 :: q180 :: ps)) (dels H803 (q802 :: q196 :: q180 :: ps)) := Sn (q196 :: q180 :: ps) s805 n804
          have h819 : (pList (pTup K (rCons pInt (rOne pInt)))).rep (dels H803 (q196 :: q180 :: ps)) (.ref q802) es799 := oFrzG e807 m810 (ss_skip ss_refl) (AllR.mono (S794.trans (S797.trans S818)) r808) l809
          have P820 := dom_ss (ss_skip ss_refl) P817
          have S821 : Same (dels H803 (q802 :: q196 :: q180 :: ps)) (dels H803 (q196 :: q180 :: ps)) := Ss (ss_skip ss_refl)
          refine tVar_i (v := u71) rfl (neS (datList K (datTup K (rdCons K (datInt K) (rdOne K (datInt K))))) (((pList (pTup K (rCons pInt (rOne pInt))))).mono Su h819) (((pList (pTup K (rCons pInt (rOne pInt))))).mono Su ((pList (pTup K (rCons pInt (rOne pInt)))).mono (S143.trans (S192.trans (S209.trans (S582.trans (S794.trans (S797.trans (S818.trans S821))))))) h72)) (fun _ _ => ⟨trivial, trivial⟩) (fun _ _ => ⟨trivial, trivial⟩) (IsBl_i (?_)))
          exact hR _ _ sc814 hw
      have P822 := dom_up s774 P580
      have T823 := Same.trans T581 s774
      have sc824 := Same.trans (Same.refl H575) s774
      have e825 := s774 _ _ e584
      have e826 := s774 _ _ e588
      have S827 : Same (dels H575 (q196 :: q180 :: ps)) (dels H773 (q196 :: q180 :: ps)) := Sd (q196 :: q180 :: ps) s774
      exact hR _ _ sc824 hw
    · exact hR _ _ (Same.refl H575) hw
  have P828 := dom_up s758 P580
  have T829 := Same.trans T581 s758
  have e830 := s758 _ _ e584
  have e831 := s758 _ _ e588
  have S832 : Same (dels H575 (q196 :: q180 :: ps)) (dels H757 (q196 :: q180 :: ps)) := Sd (q196 :: q180 :: ps) s758
  refine Br_two hw (fun c833 hw => ?_) (fun c833 hw => ?_)
  · refine tRet_j (tC_i (?_))
    exact hk _ hw _ T829
  · refine tNext_j (tRet_j (tCallS_i (tCons_i (tVar_i (v := v4) rfl (tCons_i (tVar_i (v := (.ref p9)) rfl (tCons_i (tVar_i (v := (.int r18)) rfl (tCons_i (tVar_i (v := v27) rfl (tNil_i (?_))))))))))))
    refine ⟨(q196 :: q180 :: ps), r1, (), r18, r24, v4, (.ref p9), v27, rfl, P828, ((pDraw K).mono (S17.trans (S23.trans (S31.trans (S56.trans (S64.trans (S143.trans (S192.trans (S209.trans (S582.trans S832))))))))) h5), (pCell.mono (S23.trans (S31.trans (S56.trans (S64.trans (S143.trans (S192.trans (S209.trans (S582.trans S832)))))))) h14), ((pTup K (rCons (pTup K (rCons pInt (rOne pInt))) (rOne (pTup K (rCons pInt (rOne pInt)))))).mono (S56.trans (S64.trans (S143.trans (S192.trans (S209.trans (S582.trans S832)))))) h28), _, _, hw, fun r834 hw H835 s836 => ?_, (fun er hc hw => errUp T829 (ss_skip (ss_skip ss_refl)) (he er (by simp only [List.mem_cons, List.not_mem_nil, or_false] at hc ⊢; omega) hw))⟩
    have P837 := dom_up s836 P828
    have T838 := Same.trans T829 s836
    have e839 := s836 _ _ e830
    have e840 := s836 _ _ e831
    have S841 : Same (dels H757 (q196 :: q180 :: ps)) (dels H835 (q196 :: q180 :: ps)) := Sd (q196 :: q180 :: ps) s836
    exact hk _ hw _ T838
end
theorem sp_weak {P : Program} {w : World} {K : PySem.W.Frag} {mg : Str → Option Value} {base : Heap} {CX : CXT} {n : Nat} {a : Addr} {fd : FuncData} {ps : List Str} {sp sp' : Sp} (h : FnOk P w K mg base CX n a fd ps sp) (hs : ∀ vs H Q E, sp' vs H Q E → sp vs H Q E) : FnOk P w K mg base CX n a fd ps sp' :=
  ⟨fun vs H Q E z => h.len vs H Q E (hs vs H Q E z), fun A outer s H args us vs Q E hr e0 hb r z => h.run A outer s H args us vs Q E hr e0 hb r (hs vs H Q E z)⟩
theorem law_ok {P : Program} {w : World} {K : PySem.W.Frag} {mg : Str → Option Value} {base : Heap} {t : Tab} (T : Txt K mg t) : FnOk P w K mg base (L2.CX P w) 12 t.a_law t.fd_law ["script"] (spLaw K) := by
  refine sp_weak (ok_law T) fun vs H Q E h => ?_
  obtain ⟨a, ns, rfl, hS, hl, hQ⟩ := h
  exact ⟨[], ns, .ref a, rfl, (fun x hx => nomatch hx), ⟨a, ns.map V.int, rfl, hS, AllR.ofImm ns, lim_le (by omega)⟩, fun b => b = true, fun _ => False, pure_law ns hl, (fun r hr H' s => by rw [show r = true from hr]; exact hQ H'), (fun er _ z => False.elim z)⟩

theorem kbind_crossed_point_0_point_prime {K : PySem.W.Frag} {a : Addr} {fd : FuncData} (F : Fun K "crossed_point" "crossed_point" s_crossed_point a fd) : KBinds K fd ["prime", "point"] ["point", "prime"] gk_crossed_point_0_point_prime gk_crossed_point_0_point_prime := by
  obtain ⟨oc, od, kV, doc, pm, an, cdv, ct, osl, rfl, lk, hcd⟩ := F.ex
  refine ⟨fun s us ws _ hl => .of_eq ?_, fun {vs us zs ws} r rz => ?_⟩
  · revert hl
    unfold gk_crossed_point_0_point_prime
    split
    · intro hl
      rfl
    · intro hl
      cases hl
  · unfold gk_crossed_point_0_point_prime
    have hr := r.length
    have hz := rz.length
    split
    · match us, ws, r, rz with
      | _, _, .nil, .cons z0 (.cons z1 (.nil)) => exact .cons z1 (.cons z0 (.nil))
    · rename_i hn
      split
      · match vs, zs, r, rz with
        | _, _, .nil, .cons z0 (.cons z1 (.nil)) => exact (hn _ _ rfl rfl).elim
      · exact .nil
theorem kbind_crossed_frame_0_frame_prime {K : PySem.W.Frag} {a : Addr} {fd : FuncData} (F : Fun K "crossed_frame" "crossed_frame" s_crossed_frame a fd) : KBinds K fd ["prime", "frame"] ["frame", "prime"] gk_crossed_frame_0_frame_prime gk_crossed_frame_0_frame_prime := by
  obtain ⟨oc, od, kV, doc, pm, an, cdv, ct, osl, rfl, lk, hcd⟩ := F.ex
  refine ⟨fun s us ws _ hl => .of_eq ?_, fun {vs us zs ws} r rz => ?_⟩
  · revert hl
    unfold gk_crossed_frame_0_frame_prime
    split
    · intro hl
      rfl
    · intro hl
      cases hl
  · unfold gk_crossed_frame_0_frame_prime
    have hr := r.length
    have hz := rz.length
    split
    · match us, ws, r, rz with
      | _, _, .nil, .cons z0 (.cons z1 (.nil)) => exact .cons z1 (.cons z0 (.nil))
    · rename_i hn
      split
      · match vs, zs, r, rz with
        | _, _, .nil, .cons z0 (.cons z1 (.nil)) => exact (hn _ _ rfl rfl).elim
      · exact .nil
theorem kbind_moved_frame_0_base_frame_prime {K : PySem.W.Frag} {a : Addr} {fd : FuncData} (F : Fun K "moved_frame" "moved_frame" s_moved_frame a fd) : KBinds K fd ["prime", "frame", "base"] ["base", "frame", "prime"] gk_moved_frame_0_base_frame_prime gk_moved_frame_0_base_frame_prime := by
  obtain ⟨oc, od, kV, doc, pm, an, cdv, ct, osl, rfl, lk, hcd⟩ := F.ex
  refine ⟨fun s us ws _ hl => .of_eq ?_, fun {vs us zs ws} r rz => ?_⟩
  · revert hl
    unfold gk_moved_frame_0_base_frame_prime
    split
    · intro hl
      rfl
    · intro hl
      cases hl
  · unfold gk_moved_frame_0_base_frame_prime
    have hr := r.length
    have hz := rz.length
    split
    · match us, ws, r, rz with
      | _, _, .nil, .cons z0 (.cons z1 (.cons z2 (.nil))) => exact .cons z2 (.cons z1 (.cons z0 (.nil)))
    · rename_i hn
      split
      · match vs, zs, r, rz with
        | _, _, .nil, .cons z0 (.cons z1 (.cons z2 (.nil))) => exact (hn _ _ _ rfl rfl).elim
      · exact .nil
theorem all_mk {l : PySem.W.OpenLaw} {w : World} {K : PySem.W.Frag} {h : Heap} {mg : Str → Option Value} {fa : Addr} (X : K.In h) (G : h.Ns mainGlobals mg) (hfa : mg "law" = some (.ref fa))
    {C_EndsError C_SizeError C_NumberError C_PrimeError C_ZeroVector C_DependentError C_TextError C_Base f_SizeError_init f_NumberError_init f_PrimeError_init f_TextError_init f_check_number f_is_odd_prime f_check_prime f_inverse f_look_number f_look_prime f_look_same_prime f_look_residue f_look_pair f_point_of f_point_vector f_look_frame f_Base_init f_Base_moved f_Base_back f_cross_product f_ordered f_crossed_point f_crossed_frame f_moved_frame f_ulaw_draws f_ulaw_next f_ulaw_upward f_ulaw_prime f_ulaw_residue f_ulaw_whole f_ulaw_base f_ulaw_point f_ulaw_mixed f_ulaw_vector f_ulaw_frames f_ulaw_asked f_ulaw_crossed f_ulaw_moved f_ulaw_pair f_ulaw_some f_ulaw_refused f_law : Addr} {oc_SizeError_init kV_SizeError_init dc_SizeError_init pm_SizeError_init cd_SizeError_init ct_SizeError_init oc_NumberError_init kV_NumberError_init dc_NumberError_init pm_NumberError_init cd_NumberError_init ct_NumberError_init oc_PrimeError_init kV_PrimeError_init dc_PrimeError_init pm_PrimeError_init cd_PrimeError_init ct_PrimeError_init oc_TextError_init kV_TextError_init dc_TextError_init pm_TextError_init cd_TextError_init ct_TextError_init oc_check_number kV_check_number dc_check_number pm_check_number cd_check_number ct_check_number oc_is_odd_prime kV_is_odd_prime dc_is_odd_prime pm_is_odd_prime cd_is_odd_prime ct_is_odd_prime oc_check_prime kV_check_prime dc_check_prime pm_check_prime cd_check_prime ct_check_prime oc_inverse kV_inverse dc_inverse pm_inverse cd_inverse ct_inverse oc_look_number kV_look_number dc_look_number pm_look_number cd_look_number ct_look_number oc_look_prime kV_look_prime dc_look_prime pm_look_prime cd_look_prime ct_look_prime oc_look_same_prime kV_look_same_prime dc_look_same_prime pm_look_same_prime cd_look_same_prime ct_look_same_prime oc_look_residue kV_look_residue dc_look_residue pm_look_residue cd_look_residue ct_look_residue oc_look_pair kV_look_pair dc_look_pair pm_look_pair cd_look_pair ct_look_pair oc_point_of kV_point_of dc_point_of pm_point_of cd_point_of ct_point_of oc_point_vector kV_point_vector dc_point_vector pm_point_vector cd_point_vector ct_point_vector oc_look_frame kV_look_frame dc_look_frame pm_look_frame cd_look_frame ct_look_frame oc_Base_init kV_Base_init dc_Base_init pm_Base_init cd_Base_init ct_Base_init oc_Base_moved kV_Base_moved dc_Base_moved pm_Base_moved cd_Base_moved ct_Base_moved oc_Base_back kV_Base_back dc_Base_back pm_Base_back cd_Base_back ct_Base_back oc_cross_product kV_cross_product dc_cross_product pm_cross_product cd_cross_product ct_cross_product oc_ordered kV_ordered dc_ordered pm_ordered cd_ordered ct_ordered oc_crossed_point kV_crossed_point dc_crossed_point pm_crossed_point cd_crossed_point ct_crossed_point oc_crossed_frame kV_crossed_frame dc_crossed_frame pm_crossed_frame cd_crossed_frame ct_crossed_frame oc_moved_frame kV_moved_frame dc_moved_frame pm_moved_frame cd_moved_frame ct_moved_frame oc_ulaw_draws kV_ulaw_draws dc_ulaw_draws pm_ulaw_draws cd_ulaw_draws ct_ulaw_draws oc_ulaw_next kV_ulaw_next dc_ulaw_next pm_ulaw_next cd_ulaw_next ct_ulaw_next oc_ulaw_upward kV_ulaw_upward dc_ulaw_upward pm_ulaw_upward cd_ulaw_upward ct_ulaw_upward oc_ulaw_prime kV_ulaw_prime dc_ulaw_prime pm_ulaw_prime cd_ulaw_prime ct_ulaw_prime oc_ulaw_residue kV_ulaw_residue dc_ulaw_residue pm_ulaw_residue cd_ulaw_residue ct_ulaw_residue oc_ulaw_whole kV_ulaw_whole dc_ulaw_whole pm_ulaw_whole cd_ulaw_whole ct_ulaw_whole oc_ulaw_base kV_ulaw_base dc_ulaw_base pm_ulaw_base cd_ulaw_base ct_ulaw_base oc_ulaw_point kV_ulaw_point dc_ulaw_point pm_ulaw_point cd_ulaw_point ct_ulaw_point oc_ulaw_mixed kV_ulaw_mixed dc_ulaw_mixed pm_ulaw_mixed cd_ulaw_mixed ct_ulaw_mixed oc_ulaw_vector kV_ulaw_vector dc_ulaw_vector pm_ulaw_vector cd_ulaw_vector ct_ulaw_vector oc_ulaw_frames kV_ulaw_frames dc_ulaw_frames pm_ulaw_frames cd_ulaw_frames ct_ulaw_frames oc_ulaw_asked kV_ulaw_asked dc_ulaw_asked pm_ulaw_asked cd_ulaw_asked ct_ulaw_asked oc_ulaw_crossed kV_ulaw_crossed dc_ulaw_crossed pm_ulaw_crossed cd_ulaw_crossed ct_ulaw_crossed oc_ulaw_moved kV_ulaw_moved dc_ulaw_moved pm_ulaw_moved cd_ulaw_moved ct_ulaw_moved oc_ulaw_pair kV_ulaw_pair dc_ulaw_pair pm_ulaw_pair cd_ulaw_pair ct_ulaw_pair oc_ulaw_some kV_ulaw_some dc_ulaw_some pm_ulaw_some cd_ulaw_some ct_ulaw_some oc_ulaw_refused kV_ulaw_refused dc_ulaw_refused pm_ulaw_refused cd_ulaw_refused ct_ulaw_refused oc_law kV_law dc_law pm_law cd_law ct_law : Value} {od_SizeError_init an_SizeError_init od_NumberError_init an_NumberError_init od_PrimeError_init an_PrimeError_init od_TextError_init an_TextError_init od_check_number an_check_number od_is_odd_prime an_is_odd_prime od_check_prime an_check_prime od_inverse an_inverse od_look_number an_look_number od_look_prime an_look_prime od_look_same_prime an_look_same_prime od_look_residue an_look_residue od_look_pair an_look_pair od_point_of an_point_of od_point_vector an_point_vector od_look_frame an_look_frame od_Base_init an_Base_init od_Base_moved an_Base_moved od_Base_back an_Base_back od_cross_product an_cross_product od_ordered an_ordered od_crossed_point an_crossed_point od_crossed_frame an_crossed_frame od_moved_frame an_moved_frame od_ulaw_draws an_ulaw_draws od_ulaw_next an_ulaw_next od_ulaw_upward an_ulaw_upward od_ulaw_prime an_ulaw_prime od_ulaw_residue an_ulaw_residue od_ulaw_whole an_ulaw_whole od_ulaw_base an_ulaw_base od_ulaw_point an_ulaw_point od_ulaw_mixed an_ulaw_mixed od_ulaw_vector an_ulaw_vector od_ulaw_frames an_ulaw_frames od_ulaw_asked an_ulaw_asked od_ulaw_crossed an_ulaw_crossed od_ulaw_moved an_ulaw_moved od_ulaw_pair an_ulaw_pair od_ulaw_some an_ulaw_some od_ulaw_refused an_ulaw_refused od_law an_law : Option Addr} {sl_SizeError_init sl_NumberError_init sl_PrimeError_init sl_TextError_init sl_check_number sl_is_odd_prime sl_check_prime sl_inverse sl_look_number sl_look_prime sl_look_same_prime sl_look_residue sl_look_pair sl_point_of sl_point_vector sl_look_frame sl_Base_init sl_Base_moved sl_Base_back sl_cross_product sl_ordered sl_crossed_point sl_crossed_frame sl_moved_frame sl_ulaw_draws sl_ulaw_next sl_ulaw_upward sl_ulaw_prime sl_ulaw_residue sl_ulaw_whole sl_ulaw_base sl_ulaw_point sl_ulaw_mixed sl_ulaw_vector sl_ulaw_frames sl_ulaw_asked sl_ulaw_crossed sl_ulaw_moved sl_ulaw_pair sl_ulaw_some sl_ulaw_refused sl_law : Array (Option Value)} {k_MOST : Tok} {nm_SizeError q_SizeError : Str} {N_SizeError : Addr} {bs_SizeError bm_SizeError su_SizeError : List Value} {sn_SizeError : List Str} {ab_SizeError : Bool} {co_SizeError : Option Bool} {dd_SizeError : Option Addr} {k0_SizeError k1_SizeError k2_SizeError k3_SizeError k5_SizeError : Option Value} {nm_NumberError q_NumberError : Str} {N_NumberError : Addr} {bs_NumberError bm_NumberError su_NumberError : List Value} {sn_NumberError : List Str} {ab_NumberError : Bool} {co_NumberError : Option Bool} {dd_NumberError : Option Addr} {k0_NumberError k1_NumberError k2_NumberError k3_NumberError k5_NumberError : Option Value} {nm_PrimeError q_PrimeError : Str} {N_PrimeError : Addr} {bs_PrimeError bm_PrimeError su_PrimeError : List Value} {sn_PrimeError : List Str} {ab_PrimeError : Bool} {co_PrimeError : Option Bool} {dd_PrimeError : Option Addr} {k0_PrimeError k1_PrimeError k2_PrimeError k3_PrimeError k5_PrimeError : Option Value} {nm_TextError q_TextError : Str} {N_TextError : Addr} {bs_TextError bm_TextError su_TextError : List Value} {sn_TextError : List Str} {ab_TextError : Bool} {co_TextError : Option Bool} {dd_TextError : Option Addr} {k0_TextError k1_TextError k2_TextError k3_TextError k5_TextError : Option Value}
    (a_EndsError : PySem.W.nsIn K mainGlobals "EndsError" = some (some (.ref C_EndsError)))
    (hc_EndsError : PySem.W.isClsIn K C_EndsError = true)
    (hg_EndsError : PySem.W.findIn K (.ref C_EndsError) "__getattribute__" = some (some (.builtin "BaseException.__getattribute__")))
    (hk_EndsError : PySem.W.findIn K (.ref C_EndsError) "__getattr__" = some none)
    (hs_EndsError : PySem.W.subIn K (.ref C_EndsError) (.type "BaseException") = some true)
    (hd_EndsError : PySem.W.hasDictIn K C_EndsError = true)
    (ha_EndsError : PySem.W.findIn K (.ref C_EndsError) "__class__" = some (some (.builtin "object.__class__")))
    (hm_EndsError : PySem.W.mroIn K C_EndsError (.type "object") = some true)
    (ty_EndsError : PySem.W.typeIn K (.ref C_EndsError) = some (.type "type"))
    (kc_EndsError : PySem.W.keepIn K (.ref C_EndsError) = true)
    (ex_EndsError : PySem.W.excIn K C_EndsError [.type "ValueError", .type "Exception", .type "BaseException", .type "object"] "ValueError.__new__" = true)
    (a_SizeError : PySem.W.nsIn K mainGlobals "SizeError" = some (some (.ref C_SizeError)))
    (hc_SizeError : PySem.W.isClsIn K C_SizeError = true)
    (hg_SizeError : PySem.W.findIn K (.ref C_SizeError) "__getattribute__" = some (some (.builtin "BaseException.__getattribute__")))
    (hk_SizeError : PySem.W.findIn K (.ref C_SizeError) "__getattr__" = some none)
    (hs_SizeError : PySem.W.subIn K (.ref C_SizeError) (.type "BaseException") = some true)
    (hd_SizeError : PySem.W.hasDictIn K C_SizeError = true)
    (ha_SizeError : PySem.W.findIn K (.ref C_SizeError) "__class__" = some (some (.builtin "object.__class__")))
    (hm_SizeError : PySem.W.mroIn K C_SizeError (.type "object") = some true)
    (ty_SizeError : PySem.W.typeIn K (.ref C_SizeError) = some (.type "type"))
    (kc_SizeError : PySem.W.keepIn K (.ref C_SizeError) = true)
    (i_SizeError : PySem.W.findIn K (.ref C_SizeError) "__init__" = some (some (.ref f_SizeError_init)))
    (xl_SizeError : K.lookup C_SizeError = some (excClassObj nm_SizeError q_SizeError C_SizeError N_SizeError bs_SizeError bm_SizeError true sn_SizeError su_SizeError ab_SizeError co_SizeError dd_SizeError k0_SizeError k1_SizeError k2_SizeError k3_SizeError k5_SizeError "ValueError.__new__"))
    (xr_SizeError : PySem.HandSPX.refsVE bm_SizeError = true)
    (sa_SizeError : PySem.W.findIn K (.ref C_SizeError) "__setattr__" = some (some (.builtin "object.__setattr__")))
    (xn_SizeError_count : PySem.W.findIn K (.ref C_SizeError) "count" = some none)
    (a_NumberError : PySem.W.nsIn K mainGlobals "NumberError" = some (some (.ref C_NumberError)))
    (hc_NumberError : PySem.W.isClsIn K C_NumberError = true)
    (hg_NumberError : PySem.W.findIn K (.ref C_NumberError) "__getattribute__" = some (some (.builtin "BaseException.__getattribute__")))
    (hk_NumberError : PySem.W.findIn K (.ref C_NumberError) "__getattr__" = some none)
    (hs_NumberError : PySem.W.subIn K (.ref C_NumberError) (.type "BaseException") = some true)
    (hd_NumberError : PySem.W.hasDictIn K C_NumberError = true)
    (ha_NumberError : PySem.W.findIn K (.ref C_NumberError) "__class__" = some (some (.builtin "object.__class__")))
    (hm_NumberError : PySem.W.mroIn K C_NumberError (.type "object") = some true)
    (ty_NumberError : PySem.W.typeIn K (.ref C_NumberError) = some (.type "type"))
    (kc_NumberError : PySem.W.keepIn K (.ref C_NumberError) = true)
    (i_NumberError : PySem.W.findIn K (.ref C_NumberError) "__init__" = some (some (.ref f_NumberError_init)))
    (xl_NumberError : K.lookup C_NumberError = some (excClassObj nm_NumberError q_NumberError C_NumberError N_NumberError bs_NumberError bm_NumberError true sn_NumberError su_NumberError ab_NumberError co_NumberError dd_NumberError k0_NumberError k1_NumberError k2_NumberError k3_NumberError k5_NumberError "ValueError.__new__"))
    (xr_NumberError : PySem.HandSPX.refsVE bm_NumberError = true)
    (sa_NumberError : PySem.W.findIn K (.ref C_NumberError) "__setattr__" = some (some (.builtin "object.__setattr__")))
    (xn_NumberError_number : PySem.W.findIn K (.ref C_NumberError) "number" = some none)
    (a_PrimeError : PySem.W.nsIn K mainGlobals "PrimeError" = some (some (.ref C_PrimeError)))
    (hc_PrimeError : PySem.W.isClsIn K C_PrimeError = true)
    (hg_PrimeError : PySem.W.findIn K (.ref C_PrimeError) "__getattribute__" = some (some (.builtin "BaseException.__getattribute__")))
    (hk_PrimeError : PySem.W.findIn K (.ref C_PrimeError) "__getattr__" = some none)
    (hs_PrimeError : PySem.W.subIn K (.ref C_PrimeError) (.type "BaseException") = some true)
    (hd_PrimeError : PySem.W.hasDictIn K C_PrimeError = true)
    (ha_PrimeError : PySem.W.findIn K (.ref C_PrimeError) "__class__" = some (some (.builtin "object.__class__")))
    (hm_PrimeError : PySem.W.mroIn K C_PrimeError (.type "object") = some true)
    (ty_PrimeError : PySem.W.typeIn K (.ref C_PrimeError) = some (.type "type"))
    (kc_PrimeError : PySem.W.keepIn K (.ref C_PrimeError) = true)
    (i_PrimeError : PySem.W.findIn K (.ref C_PrimeError) "__init__" = some (some (.ref f_PrimeError_init)))
    (xl_PrimeError : K.lookup C_PrimeError = some (excClassObj nm_PrimeError q_PrimeError C_PrimeError N_PrimeError bs_PrimeError bm_PrimeError true sn_PrimeError su_PrimeError ab_PrimeError co_PrimeError dd_PrimeError k0_PrimeError k1_PrimeError k2_PrimeError k3_PrimeError k5_PrimeError "ValueError.__new__"))
    (xr_PrimeError : PySem.HandSPX.refsVE bm_PrimeError = true)
    (sa_PrimeError : PySem.W.findIn K (.ref C_PrimeError) "__setattr__" = some (some (.builtin "object.__setattr__")))
    (xn_PrimeError_prime : PySem.W.findIn K (.ref C_PrimeError) "prime" = some none)
    (a_ZeroVector : PySem.W.nsIn K mainGlobals "ZeroVector" = some (some (.ref C_ZeroVector)))
    (hc_ZeroVector : PySem.W.isClsIn K C_ZeroVector = true)
    (hg_ZeroVector : PySem.W.findIn K (.ref C_ZeroVector) "__getattribute__" = some (some (.builtin "BaseException.__getattribute__")))
    (hk_ZeroVector : PySem.W.findIn K (.ref C_ZeroVector) "__getattr__" = some none)
    (hs_ZeroVector : PySem.W.subIn K (.ref C_ZeroVector) (.type "BaseException") = some true)
    (hd_ZeroVector : PySem.W.hasDictIn K C_ZeroVector = true)
    (ha_ZeroVector : PySem.W.findIn K (.ref C_ZeroVector) "__class__" = some (some (.builtin "object.__class__")))
    (hm_ZeroVector : PySem.W.mroIn K C_ZeroVector (.type "object") = some true)
    (ty_ZeroVector : PySem.W.typeIn K (.ref C_ZeroVector) = some (.type "type"))
    (kc_ZeroVector : PySem.W.keepIn K (.ref C_ZeroVector) = true)
    (ex_ZeroVector : PySem.W.excIn K C_ZeroVector [.type "ValueError", .type "Exception", .type "BaseException", .type "object"] "ValueError.__new__" = true)
    (a_DependentError : PySem.W.nsIn K mainGlobals "DependentError" = some (some (.ref C_DependentError)))
    (hc_DependentError : PySem.W.isClsIn K C_DependentError = true)
    (hg_DependentError : PySem.W.findIn K (.ref C_DependentError) "__getattribute__" = some (some (.builtin "BaseException.__getattribute__")))
    (hk_DependentError : PySem.W.findIn K (.ref C_DependentError) "__getattr__" = some none)
    (hs_DependentError : PySem.W.subIn K (.ref C_DependentError) (.type "BaseException") = some true)
    (hd_DependentError : PySem.W.hasDictIn K C_DependentError = true)
    (ha_DependentError : PySem.W.findIn K (.ref C_DependentError) "__class__" = some (some (.builtin "object.__class__")))
    (hm_DependentError : PySem.W.mroIn K C_DependentError (.type "object") = some true)
    (ty_DependentError : PySem.W.typeIn K (.ref C_DependentError) = some (.type "type"))
    (kc_DependentError : PySem.W.keepIn K (.ref C_DependentError) = true)
    (ex_DependentError : PySem.W.excIn K C_DependentError [.type "ValueError", .type "Exception", .type "BaseException", .type "object"] "ValueError.__new__" = true)
    (a_TextError : PySem.W.nsIn K mainGlobals "TextError" = some (some (.ref C_TextError)))
    (hc_TextError : PySem.W.isClsIn K C_TextError = true)
    (hg_TextError : PySem.W.findIn K (.ref C_TextError) "__getattribute__" = some (some (.builtin "BaseException.__getattribute__")))
    (hk_TextError : PySem.W.findIn K (.ref C_TextError) "__getattr__" = some none)
    (hs_TextError : PySem.W.subIn K (.ref C_TextError) (.type "BaseException") = some true)
    (hd_TextError : PySem.W.hasDictIn K C_TextError = true)
    (ha_TextError : PySem.W.findIn K (.ref C_TextError) "__class__" = some (some (.builtin "object.__class__")))
    (hm_TextError : PySem.W.mroIn K C_TextError (.type "object") = some true)
    (ty_TextError : PySem.W.typeIn K (.ref C_TextError) = some (.type "type"))
    (kc_TextError : PySem.W.keepIn K (.ref C_TextError) = true)
    (i_TextError : PySem.W.findIn K (.ref C_TextError) "__init__" = some (some (.ref f_TextError_init)))
    (xl_TextError : K.lookup C_TextError = some (excClassObj nm_TextError q_TextError C_TextError N_TextError bs_TextError bm_TextError true sn_TextError su_TextError ab_TextError co_TextError dd_TextError k0_TextError k1_TextError k2_TextError k3_TextError k5_TextError "ValueError.__new__"))
    (xr_TextError : PySem.HandSPX.refsVE bm_TextError = true)
    (sa_TextError : PySem.W.findIn K (.ref C_TextError) "__setattr__" = some (some (.builtin "object.__setattr__")))
    (xn_TextError_line : PySem.W.findIn K (.ref C_TextError) "line" = some none)
    (a_Base : PySem.W.nsIn K mainGlobals "Base" = some (some (.ref C_Base)))
    (pg_Base : PySem.W.plainGet K C_Base Str.empty = true)
    (hd_Base : PySem.W.hasDictIn K C_Base = true)
    (po_Base : PySem.W.plainOver K C_Base = true)
    (sa_Base : PySem.W.findIn K (.ref C_Base) "__setattr__" = some (some (.builtin "object.__setattr__")))
    (mk_Base : PySem.W.makesIn K C_Base = true)
    (kc_Base : PySem.W.keepIn K (.ref C_Base) = true)
    (ha_Base : PySem.W.findIn K (.ref C_Base) "__class__" = some (some (.builtin "object.__class__")))
    (hm_Base : PySem.W.mroIn K C_Base (.type "object") = some true)
    (ks_Base : PySem.W.kitOne K (.ref C_Base) (.ref C_Base) = some true)
    (na_Base_prime : PySem.W.findIn K (.ref C_Base) "prime" = some none)
    (na_Base_first : PySem.W.findIn K (.ref C_Base) "first" = some none)
    (na_Base_second : PySem.W.findIn K (.ref C_Base) "second" = some none)
    (m_Base_init : PySem.W.findIn K (.ref C_Base) "__init__" = some (some (.ref f_Base_init)))
    (fn_Base_init : PySem.W.isFn K (.ref f_Base_init) = true)
    (m_Base_moved : PySem.W.findIn K (.ref C_Base) "moved" = some (some (.ref f_Base_moved)))
    (fn_Base_moved : PySem.W.isFn K (.ref f_Base_moved) = true)
    (m_Base_back : PySem.W.findIn K (.ref C_Base) "back" = some (some (.ref f_Base_back)))
    (fn_Base_back : PySem.W.isFn K (.ref f_Base_back) = true)
    (hnD : PySem.W.specialIn K (.builtin "object.__class__") "__get__" = some (some (.builtin "getset_descriptor.__get__")))
    (htD : PySem.W.takesIn K (.builtin "object.__class__") = some true)
    (l_SizeError_init : K.lookup f_SizeError_init = some ⟨oc_SizeError_init, od_SizeError_init, .func (PySem.W.fnOf "__init__" "SizeError.__init__" (defArgs s_SizeError_init) (defBody s_SizeError_init) (defScope s_SizeError_init) .none kV_SizeError_init dc_SizeError_init pm_SizeError_init an_SizeError_init cd_SizeError_init ct_SizeError_init), sl_SizeError_init⟩)
    (c_SizeError_init : PySem.W.codeIn K cd_SizeError_init "SizeError.__init__" = true)
    (k_SizeError_init : PySem.W.keepIn K (.ref f_SizeError_init) = true)
    (t_SizeError_init : PySem.W.typeIn K (.ref f_SizeError_init) = some (.type "function"))
    (l_NumberError_init : K.lookup f_NumberError_init = some ⟨oc_NumberError_init, od_NumberError_init, .func (PySem.W.fnOf "__init__" "NumberError.__init__" (defArgs s_NumberError_init) (defBody s_NumberError_init) (defScope s_NumberError_init) .none kV_NumberError_init dc_NumberError_init pm_NumberError_init an_NumberError_init cd_NumberError_init ct_NumberError_init), sl_NumberError_init⟩)
    (c_NumberError_init : PySem.W.codeIn K cd_NumberError_init "NumberError.__init__" = true)
    (k_NumberError_init : PySem.W.keepIn K (.ref f_NumberError_init) = true)
    (t_NumberError_init : PySem.W.typeIn K (.ref f_NumberError_init) = some (.type "function"))
    (l_PrimeError_init : K.lookup f_PrimeError_init = some ⟨oc_PrimeError_init, od_PrimeError_init, .func (PySem.W.fnOf "__init__" "PrimeError.__init__" (defArgs s_PrimeError_init) (defBody s_PrimeError_init) (defScope s_PrimeError_init) .none kV_PrimeError_init dc_PrimeError_init pm_PrimeError_init an_PrimeError_init cd_PrimeError_init ct_PrimeError_init), sl_PrimeError_init⟩)
    (c_PrimeError_init : PySem.W.codeIn K cd_PrimeError_init "PrimeError.__init__" = true)
    (k_PrimeError_init : PySem.W.keepIn K (.ref f_PrimeError_init) = true)
    (t_PrimeError_init : PySem.W.typeIn K (.ref f_PrimeError_init) = some (.type "function"))
    (l_TextError_init : K.lookup f_TextError_init = some ⟨oc_TextError_init, od_TextError_init, .func (PySem.W.fnOf "__init__" "TextError.__init__" (defArgs s_TextError_init) (defBody s_TextError_init) (defScope s_TextError_init) .none kV_TextError_init dc_TextError_init pm_TextError_init an_TextError_init cd_TextError_init ct_TextError_init), sl_TextError_init⟩)
    (c_TextError_init : PySem.W.codeIn K cd_TextError_init "TextError.__init__" = true)
    (k_TextError_init : PySem.W.keepIn K (.ref f_TextError_init) = true)
    (t_TextError_init : PySem.W.typeIn K (.ref f_TextError_init) = some (.type "function"))
    (a_check_number : PySem.W.nsIn K mainGlobals "check_number" = some (some (.ref f_check_number)))
    (l_check_number : K.lookup f_check_number = some ⟨oc_check_number, od_check_number, .func (PySem.W.fnOf "check_number" "check_number" (defArgs s_check_number) (defBody s_check_number) (defScope s_check_number) .none kV_check_number dc_check_number pm_check_number an_check_number cd_check_number ct_check_number), sl_check_number⟩)
    (c_check_number : PySem.W.codeIn K cd_check_number "check_number" = true)
    (k_check_number : PySem.W.keepIn K (.ref f_check_number) = true)
    (a_is_odd_prime : PySem.W.nsIn K mainGlobals "is_odd_prime" = some (some (.ref f_is_odd_prime)))
    (l_is_odd_prime : K.lookup f_is_odd_prime = some ⟨oc_is_odd_prime, od_is_odd_prime, .func (PySem.W.fnOf "is_odd_prime" "is_odd_prime" (defArgs s_is_odd_prime) (defBody s_is_odd_prime) (defScope s_is_odd_prime) .none kV_is_odd_prime dc_is_odd_prime pm_is_odd_prime an_is_odd_prime cd_is_odd_prime ct_is_odd_prime), sl_is_odd_prime⟩)
    (c_is_odd_prime : PySem.W.codeIn K cd_is_odd_prime "is_odd_prime" = true)
    (k_is_odd_prime : PySem.W.keepIn K (.ref f_is_odd_prime) = true)
    (a_check_prime : PySem.W.nsIn K mainGlobals "check_prime" = some (some (.ref f_check_prime)))
    (l_check_prime : K.lookup f_check_prime = some ⟨oc_check_prime, od_check_prime, .func (PySem.W.fnOf "check_prime" "check_prime" (defArgs s_check_prime) (defBody s_check_prime) (defScope s_check_prime) .none kV_check_prime dc_check_prime pm_check_prime an_check_prime cd_check_prime ct_check_prime), sl_check_prime⟩)
    (c_check_prime : PySem.W.codeIn K cd_check_prime "check_prime" = true)
    (k_check_prime : PySem.W.keepIn K (.ref f_check_prime) = true)
    (a_inverse : PySem.W.nsIn K mainGlobals "inverse" = some (some (.ref f_inverse)))
    (l_inverse : K.lookup f_inverse = some ⟨oc_inverse, od_inverse, .func (PySem.W.fnOf "inverse" "inverse" (defArgs s_inverse) (defBody s_inverse) (defScope s_inverse) .none kV_inverse dc_inverse pm_inverse an_inverse cd_inverse ct_inverse), sl_inverse⟩)
    (c_inverse : PySem.W.codeIn K cd_inverse "inverse" = true)
    (k_inverse : PySem.W.keepIn K (.ref f_inverse) = true)
    (a_look_number : PySem.W.nsIn K mainGlobals "look_number" = some (some (.ref f_look_number)))
    (l_look_number : K.lookup f_look_number = some ⟨oc_look_number, od_look_number, .func (PySem.W.fnOf "look_number" "look_number" (defArgs s_look_number) (defBody s_look_number) (defScope s_look_number) .none kV_look_number dc_look_number pm_look_number an_look_number cd_look_number ct_look_number), sl_look_number⟩)
    (c_look_number : PySem.W.codeIn K cd_look_number "look_number" = true)
    (k_look_number : PySem.W.keepIn K (.ref f_look_number) = true)
    (a_look_prime : PySem.W.nsIn K mainGlobals "look_prime" = some (some (.ref f_look_prime)))
    (l_look_prime : K.lookup f_look_prime = some ⟨oc_look_prime, od_look_prime, .func (PySem.W.fnOf "look_prime" "look_prime" (defArgs s_look_prime) (defBody s_look_prime) (defScope s_look_prime) .none kV_look_prime dc_look_prime pm_look_prime an_look_prime cd_look_prime ct_look_prime), sl_look_prime⟩)
    (c_look_prime : PySem.W.codeIn K cd_look_prime "look_prime" = true)
    (k_look_prime : PySem.W.keepIn K (.ref f_look_prime) = true)
    (a_look_same_prime : PySem.W.nsIn K mainGlobals "look_same_prime" = some (some (.ref f_look_same_prime)))
    (l_look_same_prime : K.lookup f_look_same_prime = some ⟨oc_look_same_prime, od_look_same_prime, .func (PySem.W.fnOf "look_same_prime" "look_same_prime" (defArgs s_look_same_prime) (defBody s_look_same_prime) (defScope s_look_same_prime) .none kV_look_same_prime dc_look_same_prime pm_look_same_prime an_look_same_prime cd_look_same_prime ct_look_same_prime), sl_look_same_prime⟩)
    (c_look_same_prime : PySem.W.codeIn K cd_look_same_prime "look_same_prime" = true)
    (k_look_same_prime : PySem.W.keepIn K (.ref f_look_same_prime) = true)
    (a_look_residue : PySem.W.nsIn K mainGlobals "look_residue" = some (some (.ref f_look_residue)))
    (l_look_residue : K.lookup f_look_residue = some ⟨oc_look_residue, od_look_residue, .func (PySem.W.fnOf "look_residue" "look_residue" (defArgs s_look_residue) (defBody s_look_residue) (defScope s_look_residue) .none kV_look_residue dc_look_residue pm_look_residue an_look_residue cd_look_residue ct_look_residue), sl_look_residue⟩)
    (c_look_residue : PySem.W.codeIn K cd_look_residue "look_residue" = true)
    (k_look_residue : PySem.W.keepIn K (.ref f_look_residue) = true)
    (a_look_pair : PySem.W.nsIn K mainGlobals "look_pair" = some (some (.ref f_look_pair)))
    (l_look_pair : K.lookup f_look_pair = some ⟨oc_look_pair, od_look_pair, .func (PySem.W.fnOf "look_pair" "look_pair" (defArgs s_look_pair) (defBody s_look_pair) (defScope s_look_pair) .none kV_look_pair dc_look_pair pm_look_pair an_look_pair cd_look_pair ct_look_pair), sl_look_pair⟩)
    (c_look_pair : PySem.W.codeIn K cd_look_pair "look_pair" = true)
    (k_look_pair : PySem.W.keepIn K (.ref f_look_pair) = true)
    (a_point_of : PySem.W.nsIn K mainGlobals "point_of" = some (some (.ref f_point_of)))
    (l_point_of : K.lookup f_point_of = some ⟨oc_point_of, od_point_of, .func (PySem.W.fnOf "point_of" "point_of" (defArgs s_point_of) (defBody s_point_of) (defScope s_point_of) .none kV_point_of dc_point_of pm_point_of an_point_of cd_point_of ct_point_of), sl_point_of⟩)
    (c_point_of : PySem.W.codeIn K cd_point_of "point_of" = true)
    (k_point_of : PySem.W.keepIn K (.ref f_point_of) = true)
    (a_point_vector : PySem.W.nsIn K mainGlobals "point_vector" = some (some (.ref f_point_vector)))
    (l_point_vector : K.lookup f_point_vector = some ⟨oc_point_vector, od_point_vector, .func (PySem.W.fnOf "point_vector" "point_vector" (defArgs s_point_vector) (defBody s_point_vector) (defScope s_point_vector) .none kV_point_vector dc_point_vector pm_point_vector an_point_vector cd_point_vector ct_point_vector), sl_point_vector⟩)
    (c_point_vector : PySem.W.codeIn K cd_point_vector "point_vector" = true)
    (k_point_vector : PySem.W.keepIn K (.ref f_point_vector) = true)
    (a_look_frame : PySem.W.nsIn K mainGlobals "look_frame" = some (some (.ref f_look_frame)))
    (l_look_frame : K.lookup f_look_frame = some ⟨oc_look_frame, od_look_frame, .func (PySem.W.fnOf "look_frame" "look_frame" (defArgs s_look_frame) (defBody s_look_frame) (defScope s_look_frame) .none kV_look_frame dc_look_frame pm_look_frame an_look_frame cd_look_frame ct_look_frame), sl_look_frame⟩)
    (c_look_frame : PySem.W.codeIn K cd_look_frame "look_frame" = true)
    (k_look_frame : PySem.W.keepIn K (.ref f_look_frame) = true)
    (l_Base_init : K.lookup f_Base_init = some ⟨oc_Base_init, od_Base_init, .func (PySem.W.fnOf "__init__" "Base.__init__" (defArgs s_Base_init) (defBody s_Base_init) (defScope s_Base_init) .none kV_Base_init dc_Base_init pm_Base_init an_Base_init cd_Base_init ct_Base_init), sl_Base_init⟩)
    (c_Base_init : PySem.W.codeIn K cd_Base_init "Base.__init__" = true)
    (k_Base_init : PySem.W.keepIn K (.ref f_Base_init) = true)
    (l_Base_moved : K.lookup f_Base_moved = some ⟨oc_Base_moved, od_Base_moved, .func (PySem.W.fnOf "moved" "Base.moved" (defArgs s_Base_moved) (defBody s_Base_moved) (defScope s_Base_moved) .none kV_Base_moved dc_Base_moved pm_Base_moved an_Base_moved cd_Base_moved ct_Base_moved), sl_Base_moved⟩)
    (c_Base_moved : PySem.W.codeIn K cd_Base_moved "Base.moved" = true)
    (k_Base_moved : PySem.W.keepIn K (.ref f_Base_moved) = true)
    (l_Base_back : K.lookup f_Base_back = some ⟨oc_Base_back, od_Base_back, .func (PySem.W.fnOf "back" "Base.back" (defArgs s_Base_back) (defBody s_Base_back) (defScope s_Base_back) .none kV_Base_back dc_Base_back pm_Base_back an_Base_back cd_Base_back ct_Base_back), sl_Base_back⟩)
    (c_Base_back : PySem.W.codeIn K cd_Base_back "Base.back" = true)
    (k_Base_back : PySem.W.keepIn K (.ref f_Base_back) = true)
    (a_cross_product : PySem.W.nsIn K mainGlobals "cross_product" = some (some (.ref f_cross_product)))
    (l_cross_product : K.lookup f_cross_product = some ⟨oc_cross_product, od_cross_product, .func (PySem.W.fnOf "cross_product" "cross_product" (defArgs s_cross_product) (defBody s_cross_product) (defScope s_cross_product) .none kV_cross_product dc_cross_product pm_cross_product an_cross_product cd_cross_product ct_cross_product), sl_cross_product⟩)
    (c_cross_product : PySem.W.codeIn K cd_cross_product "cross_product" = true)
    (k_cross_product : PySem.W.keepIn K (.ref f_cross_product) = true)
    (a_ordered : PySem.W.nsIn K mainGlobals "ordered" = some (some (.ref f_ordered)))
    (l_ordered : K.lookup f_ordered = some ⟨oc_ordered, od_ordered, .func (PySem.W.fnOf "ordered" "ordered" (defArgs s_ordered) (defBody s_ordered) (defScope s_ordered) .none kV_ordered dc_ordered pm_ordered an_ordered cd_ordered ct_ordered), sl_ordered⟩)
    (c_ordered : PySem.W.codeIn K cd_ordered "ordered" = true)
    (k_ordered : PySem.W.keepIn K (.ref f_ordered) = true)
    (a_crossed_point : PySem.W.nsIn K mainGlobals "crossed_point" = some (some (.ref f_crossed_point)))
    (l_crossed_point : K.lookup f_crossed_point = some ⟨oc_crossed_point, od_crossed_point, .func (PySem.W.fnOf "crossed_point" "crossed_point" (defArgs s_crossed_point) (defBody s_crossed_point) (defScope s_crossed_point) .none kV_crossed_point dc_crossed_point pm_crossed_point an_crossed_point cd_crossed_point ct_crossed_point), sl_crossed_point⟩)
    (c_crossed_point : PySem.W.codeIn K cd_crossed_point "crossed_point" = true)
    (k_crossed_point : PySem.W.keepIn K (.ref f_crossed_point) = true)
    (a_crossed_frame : PySem.W.nsIn K mainGlobals "crossed_frame" = some (some (.ref f_crossed_frame)))
    (l_crossed_frame : K.lookup f_crossed_frame = some ⟨oc_crossed_frame, od_crossed_frame, .func (PySem.W.fnOf "crossed_frame" "crossed_frame" (defArgs s_crossed_frame) (defBody s_crossed_frame) (defScope s_crossed_frame) .none kV_crossed_frame dc_crossed_frame pm_crossed_frame an_crossed_frame cd_crossed_frame ct_crossed_frame), sl_crossed_frame⟩)
    (c_crossed_frame : PySem.W.codeIn K cd_crossed_frame "crossed_frame" = true)
    (k_crossed_frame : PySem.W.keepIn K (.ref f_crossed_frame) = true)
    (a_moved_frame : PySem.W.nsIn K mainGlobals "moved_frame" = some (some (.ref f_moved_frame)))
    (l_moved_frame : K.lookup f_moved_frame = some ⟨oc_moved_frame, od_moved_frame, .func (PySem.W.fnOf "moved_frame" "moved_frame" (defArgs s_moved_frame) (defBody s_moved_frame) (defScope s_moved_frame) .none kV_moved_frame dc_moved_frame pm_moved_frame an_moved_frame cd_moved_frame ct_moved_frame), sl_moved_frame⟩)
    (c_moved_frame : PySem.W.codeIn K cd_moved_frame "moved_frame" = true)
    (k_moved_frame : PySem.W.keepIn K (.ref f_moved_frame) = true)
    (a_ulaw_draws : PySem.W.nsIn K mainGlobals "_law_draws" = some (some (.ref f_ulaw_draws)))
    (l_ulaw_draws : K.lookup f_ulaw_draws = some ⟨oc_ulaw_draws, od_ulaw_draws, .func (PySem.W.fnOf "_law_draws" "_law_draws" (defArgs s_ulaw_draws) (defBody s_ulaw_draws) (defScope s_ulaw_draws) .none kV_ulaw_draws dc_ulaw_draws pm_ulaw_draws an_ulaw_draws cd_ulaw_draws ct_ulaw_draws), sl_ulaw_draws⟩)
    (c_ulaw_draws : PySem.W.codeIn K cd_ulaw_draws "_law_draws" = true)
    (k_ulaw_draws : PySem.W.keepIn K (.ref f_ulaw_draws) = true)
    (a_ulaw_next : PySem.W.nsIn K mainGlobals "_law_next" = some (some (.ref f_ulaw_next)))
    (l_ulaw_next : K.lookup f_ulaw_next = some ⟨oc_ulaw_next, od_ulaw_next, .func (PySem.W.fnOf "_law_next" "_law_next" (defArgs s_ulaw_next) (defBody s_ulaw_next) (defScope s_ulaw_next) .none kV_ulaw_next dc_ulaw_next pm_ulaw_next an_ulaw_next cd_ulaw_next ct_ulaw_next), sl_ulaw_next⟩)
    (c_ulaw_next : PySem.W.codeIn K cd_ulaw_next "_law_next" = true)
    (k_ulaw_next : PySem.W.keepIn K (.ref f_ulaw_next) = true)
    (a_ulaw_upward : PySem.W.nsIn K mainGlobals "_law_upward" = some (some (.ref f_ulaw_upward)))
    (l_ulaw_upward : K.lookup f_ulaw_upward = some ⟨oc_ulaw_upward, od_ulaw_upward, .func (PySem.W.fnOf "_law_upward" "_law_upward" (defArgs s_ulaw_upward) (defBody s_ulaw_upward) (defScope s_ulaw_upward) .none kV_ulaw_upward dc_ulaw_upward pm_ulaw_upward an_ulaw_upward cd_ulaw_upward ct_ulaw_upward), sl_ulaw_upward⟩)
    (c_ulaw_upward : PySem.W.codeIn K cd_ulaw_upward "_law_upward" = true)
    (k_ulaw_upward : PySem.W.keepIn K (.ref f_ulaw_upward) = true)
    (a_ulaw_prime : PySem.W.nsIn K mainGlobals "_law_prime" = some (some (.ref f_ulaw_prime)))
    (l_ulaw_prime : K.lookup f_ulaw_prime = some ⟨oc_ulaw_prime, od_ulaw_prime, .func (PySem.W.fnOf "_law_prime" "_law_prime" (defArgs s_ulaw_prime) (defBody s_ulaw_prime) (defScope s_ulaw_prime) .none kV_ulaw_prime dc_ulaw_prime pm_ulaw_prime an_ulaw_prime cd_ulaw_prime ct_ulaw_prime), sl_ulaw_prime⟩)
    (c_ulaw_prime : PySem.W.codeIn K cd_ulaw_prime "_law_prime" = true)
    (k_ulaw_prime : PySem.W.keepIn K (.ref f_ulaw_prime) = true)
    (a_ulaw_residue : PySem.W.nsIn K mainGlobals "_law_residue" = some (some (.ref f_ulaw_residue)))
    (l_ulaw_residue : K.lookup f_ulaw_residue = some ⟨oc_ulaw_residue, od_ulaw_residue, .func (PySem.W.fnOf "_law_residue" "_law_residue" (defArgs s_ulaw_residue) (defBody s_ulaw_residue) (defScope s_ulaw_residue) .none kV_ulaw_residue dc_ulaw_residue pm_ulaw_residue an_ulaw_residue cd_ulaw_residue ct_ulaw_residue), sl_ulaw_residue⟩)
    (c_ulaw_residue : PySem.W.codeIn K cd_ulaw_residue "_law_residue" = true)
    (k_ulaw_residue : PySem.W.keepIn K (.ref f_ulaw_residue) = true)
    (a_ulaw_whole : PySem.W.nsIn K mainGlobals "_law_whole" = some (some (.ref f_ulaw_whole)))
    (l_ulaw_whole : K.lookup f_ulaw_whole = some ⟨oc_ulaw_whole, od_ulaw_whole, .func (PySem.W.fnOf "_law_whole" "_law_whole" (defArgs s_ulaw_whole) (defBody s_ulaw_whole) (defScope s_ulaw_whole) .none kV_ulaw_whole dc_ulaw_whole pm_ulaw_whole an_ulaw_whole cd_ulaw_whole ct_ulaw_whole), sl_ulaw_whole⟩)
    (c_ulaw_whole : PySem.W.codeIn K cd_ulaw_whole "_law_whole" = true)
    (k_ulaw_whole : PySem.W.keepIn K (.ref f_ulaw_whole) = true)
    (a_ulaw_base : PySem.W.nsIn K mainGlobals "_law_base" = some (some (.ref f_ulaw_base)))
    (l_ulaw_base : K.lookup f_ulaw_base = some ⟨oc_ulaw_base, od_ulaw_base, .func (PySem.W.fnOf "_law_base" "_law_base" (defArgs s_ulaw_base) (defBody s_ulaw_base) (defScope s_ulaw_base) .none kV_ulaw_base dc_ulaw_base pm_ulaw_base an_ulaw_base cd_ulaw_base ct_ulaw_base), sl_ulaw_base⟩)
    (c_ulaw_base : PySem.W.codeIn K cd_ulaw_base "_law_base" = true)
    (k_ulaw_base : PySem.W.keepIn K (.ref f_ulaw_base) = true)
    (a_ulaw_point : PySem.W.nsIn K mainGlobals "_law_point" = some (some (.ref f_ulaw_point)))
    (l_ulaw_point : K.lookup f_ulaw_point = some ⟨oc_ulaw_point, od_ulaw_point, .func (PySem.W.fnOf "_law_point" "_law_point" (defArgs s_ulaw_point) (defBody s_ulaw_point) (defScope s_ulaw_point) .none kV_ulaw_point dc_ulaw_point pm_ulaw_point an_ulaw_point cd_ulaw_point ct_ulaw_point), sl_ulaw_point⟩)
    (c_ulaw_point : PySem.W.codeIn K cd_ulaw_point "_law_point" = true)
    (k_ulaw_point : PySem.W.keepIn K (.ref f_ulaw_point) = true)
    (a_ulaw_mixed : PySem.W.nsIn K mainGlobals "_law_mixed" = some (some (.ref f_ulaw_mixed)))
    (l_ulaw_mixed : K.lookup f_ulaw_mixed = some ⟨oc_ulaw_mixed, od_ulaw_mixed, .func (PySem.W.fnOf "_law_mixed" "_law_mixed" (defArgs s_ulaw_mixed) (defBody s_ulaw_mixed) (defScope s_ulaw_mixed) .none kV_ulaw_mixed dc_ulaw_mixed pm_ulaw_mixed an_ulaw_mixed cd_ulaw_mixed ct_ulaw_mixed), sl_ulaw_mixed⟩)
    (c_ulaw_mixed : PySem.W.codeIn K cd_ulaw_mixed "_law_mixed" = true)
    (k_ulaw_mixed : PySem.W.keepIn K (.ref f_ulaw_mixed) = true)
    (a_ulaw_vector : PySem.W.nsIn K mainGlobals "_law_vector" = some (some (.ref f_ulaw_vector)))
    (l_ulaw_vector : K.lookup f_ulaw_vector = some ⟨oc_ulaw_vector, od_ulaw_vector, .func (PySem.W.fnOf "_law_vector" "_law_vector" (defArgs s_ulaw_vector) (defBody s_ulaw_vector) (defScope s_ulaw_vector) .none kV_ulaw_vector dc_ulaw_vector pm_ulaw_vector an_ulaw_vector cd_ulaw_vector ct_ulaw_vector), sl_ulaw_vector⟩)
    (c_ulaw_vector : PySem.W.codeIn K cd_ulaw_vector "_law_vector" = true)
    (k_ulaw_vector : PySem.W.keepIn K (.ref f_ulaw_vector) = true)
    (a_ulaw_frames : PySem.W.nsIn K mainGlobals "_law_frames" = some (some (.ref f_ulaw_frames)))
    (l_ulaw_frames : K.lookup f_ulaw_frames = some ⟨oc_ulaw_frames, od_ulaw_frames, .func (PySem.W.fnOf "_law_frames" "_law_frames" (defArgs s_ulaw_frames) (defBody s_ulaw_frames) (defScope s_ulaw_frames) .none kV_ulaw_frames dc_ulaw_frames pm_ulaw_frames an_ulaw_frames cd_ulaw_frames ct_ulaw_frames), sl_ulaw_frames⟩)
    (c_ulaw_frames : PySem.W.codeIn K cd_ulaw_frames "_law_frames" = true)
    (k_ulaw_frames : PySem.W.keepIn K (.ref f_ulaw_frames) = true)
    (a_ulaw_asked : PySem.W.nsIn K mainGlobals "_law_asked" = some (some (.ref f_ulaw_asked)))
    (l_ulaw_asked : K.lookup f_ulaw_asked = some ⟨oc_ulaw_asked, od_ulaw_asked, .func (PySem.W.fnOf "_law_asked" "_law_asked" (defArgs s_ulaw_asked) (defBody s_ulaw_asked) (defScope s_ulaw_asked) .none kV_ulaw_asked dc_ulaw_asked pm_ulaw_asked an_ulaw_asked cd_ulaw_asked ct_ulaw_asked), sl_ulaw_asked⟩)
    (c_ulaw_asked : PySem.W.codeIn K cd_ulaw_asked "_law_asked" = true)
    (k_ulaw_asked : PySem.W.keepIn K (.ref f_ulaw_asked) = true)
    (a_ulaw_crossed : PySem.W.nsIn K mainGlobals "_law_crossed" = some (some (.ref f_ulaw_crossed)))
    (l_ulaw_crossed : K.lookup f_ulaw_crossed = some ⟨oc_ulaw_crossed, od_ulaw_crossed, .func (PySem.W.fnOf "_law_crossed" "_law_crossed" (defArgs s_ulaw_crossed) (defBody s_ulaw_crossed) (defScope s_ulaw_crossed) .none kV_ulaw_crossed dc_ulaw_crossed pm_ulaw_crossed an_ulaw_crossed cd_ulaw_crossed ct_ulaw_crossed), sl_ulaw_crossed⟩)
    (c_ulaw_crossed : PySem.W.codeIn K cd_ulaw_crossed "_law_crossed" = true)
    (k_ulaw_crossed : PySem.W.keepIn K (.ref f_ulaw_crossed) = true)
    (a_ulaw_moved : PySem.W.nsIn K mainGlobals "_law_moved" = some (some (.ref f_ulaw_moved)))
    (l_ulaw_moved : K.lookup f_ulaw_moved = some ⟨oc_ulaw_moved, od_ulaw_moved, .func (PySem.W.fnOf "_law_moved" "_law_moved" (defArgs s_ulaw_moved) (defBody s_ulaw_moved) (defScope s_ulaw_moved) .none kV_ulaw_moved dc_ulaw_moved pm_ulaw_moved an_ulaw_moved cd_ulaw_moved ct_ulaw_moved), sl_ulaw_moved⟩)
    (c_ulaw_moved : PySem.W.codeIn K cd_ulaw_moved "_law_moved" = true)
    (k_ulaw_moved : PySem.W.keepIn K (.ref f_ulaw_moved) = true)
    (a_ulaw_pair : PySem.W.nsIn K mainGlobals "_law_pair" = some (some (.ref f_ulaw_pair)))
    (l_ulaw_pair : K.lookup f_ulaw_pair = some ⟨oc_ulaw_pair, od_ulaw_pair, .func (PySem.W.fnOf "_law_pair" "_law_pair" (defArgs s_ulaw_pair) (defBody s_ulaw_pair) (defScope s_ulaw_pair) .none kV_ulaw_pair dc_ulaw_pair pm_ulaw_pair an_ulaw_pair cd_ulaw_pair ct_ulaw_pair), sl_ulaw_pair⟩)
    (c_ulaw_pair : PySem.W.codeIn K cd_ulaw_pair "_law_pair" = true)
    (k_ulaw_pair : PySem.W.keepIn K (.ref f_ulaw_pair) = true)
    (a_ulaw_some : PySem.W.nsIn K mainGlobals "_law_some" = some (some (.ref f_ulaw_some)))
    (l_ulaw_some : K.lookup f_ulaw_some = some ⟨oc_ulaw_some, od_ulaw_some, .func (PySem.W.fnOf "_law_some" "_law_some" (defArgs s_ulaw_some) (defBody s_ulaw_some) (defScope s_ulaw_some) .none kV_ulaw_some dc_ulaw_some pm_ulaw_some an_ulaw_some cd_ulaw_some ct_ulaw_some), sl_ulaw_some⟩)
    (c_ulaw_some : PySem.W.codeIn K cd_ulaw_some "_law_some" = true)
    (k_ulaw_some : PySem.W.keepIn K (.ref f_ulaw_some) = true)
    (a_ulaw_refused : PySem.W.nsIn K mainGlobals "_law_refused" = some (some (.ref f_ulaw_refused)))
    (l_ulaw_refused : K.lookup f_ulaw_refused = some ⟨oc_ulaw_refused, od_ulaw_refused, .func (PySem.W.fnOf "_law_refused" "_law_refused" (defArgs s_ulaw_refused) (defBody s_ulaw_refused) (defScope s_ulaw_refused) .none kV_ulaw_refused dc_ulaw_refused pm_ulaw_refused an_ulaw_refused cd_ulaw_refused ct_ulaw_refused), sl_ulaw_refused⟩)
    (c_ulaw_refused : PySem.W.codeIn K cd_ulaw_refused "_law_refused" = true)
    (k_ulaw_refused : PySem.W.keepIn K (.ref f_ulaw_refused) = true)
    (a_law : PySem.W.nsIn K mainGlobals "law" = some (some (.ref f_law)))
    (l_law : K.lookup f_law = some ⟨oc_law, od_law, .func (PySem.W.fnOf "law" "law" (defArgs s_law) (defBody s_law) (defScope s_law) .none kV_law dc_law pm_law an_law cd_law ct_law), sl_law⟩)
    (c_law : PySem.W.codeIn K cd_law "law" = true)
    (k_law : PySem.W.keepIn K (.ref f_law) = true)
    (a_MOST : PySem.W.nsIn K mainGlobals "MOST" = some (some (.int 997 k_MOST)))
    (z_ValueError : PySem.W.nsIn K mainGlobals "ValueError" = some none)
    (z_all : PySem.W.nsIn K mainGlobals "all" = some none)
    (z_bool : PySem.W.nsIn K mainGlobals "bool" = some none)
    (z_int : PySem.W.nsIn K mainGlobals "int" = some none)
    (z_isinstance : PySem.W.nsIn K mainGlobals "isinstance" = some none)
    (z_len : PySem.W.nsIn K mainGlobals "len" = some none)
    (z_list : PySem.W.nsIn K mainGlobals "list" = some none)
    (z_max : PySem.W.nsIn K mainGlobals "max" = some none)
    (z_min : PySem.W.nsIn K mainGlobals "min" = some none)
    (z_range : PySem.W.nsIn K mainGlobals "range" = some none)
    (z_sorted : PySem.W.nsIn K mainGlobals "sorted" = some none)
    (z_sum : PySem.W.nsIn K mainGlobals "sum" = some none)
    (z_tuple : PySem.W.nsIn K mainGlobals "tuple" = some none)
    (kt_NumberError_NumberError : PySem.W.kitOne K (.ref C_NumberError) (.ref C_NumberError) = some true)
    (kt_ZeroVector_NumberError : PySem.W.kitOne K (.ref C_ZeroVector) (.ref C_NumberError) = some false)
    (kt_NumberError_PrimeError : PySem.W.kitOne K (.ref C_NumberError) (.ref C_PrimeError) = some false)
    (kt_ZeroVector_PrimeError : PySem.W.kitOne K (.ref C_ZeroVector) (.ref C_PrimeError) = some false)
    (kt_NumberError_SizeError : PySem.W.kitOne K (.ref C_NumberError) (.ref C_SizeError) = some false)
    (kt_ZeroVector_SizeError : PySem.W.kitOne K (.ref C_ZeroVector) (.ref C_SizeError) = some false)
    (kt_NumberError_DependentError : PySem.W.kitOne K (.ref C_NumberError) (.ref C_DependentError) = some false)
    (kt_ZeroVector_DependentError : PySem.W.kitOne K (.ref C_ZeroVector) (.ref C_DependentError) = some false)
    (kt_NumberError_ValueError : PySem.W.kitOne K (.ref C_NumberError) (.type "ValueError") = some true)
    (kt_ZeroVector_ValueError : PySem.W.kitOne K (.ref C_ZeroVector) (.type "ValueError") = some true)
    (kt_PrimeError_NumberError : PySem.W.kitOne K (.ref C_PrimeError) (.ref C_NumberError) = some false)
    (kt_PrimeError_PrimeError : PySem.W.kitOne K (.ref C_PrimeError) (.ref C_PrimeError) = some true)
    (kt_PrimeError_SizeError : PySem.W.kitOne K (.ref C_PrimeError) (.ref C_SizeError) = some false)
    (kt_PrimeError_DependentError : PySem.W.kitOne K (.ref C_PrimeError) (.ref C_DependentError) = some false)
    (kt_PrimeError_ValueError : PySem.W.kitOne K (.ref C_PrimeError) (.type "ValueError") = some true)
    (su_EndsError_EndsError : PySem.W.subIn K (.ref C_EndsError) (.ref C_EndsError) = some true)
    (su_SizeError_EndsError : PySem.W.subIn K (.ref C_SizeError) (.ref C_EndsError) = some true)
    (su_NumberError_EndsError : PySem.W.subIn K (.ref C_NumberError) (.ref C_EndsError) = some true)
    (su_PrimeError_EndsError : PySem.W.subIn K (.ref C_PrimeError) (.ref C_EndsError) = some true)
    (su_ZeroVector_EndsError : PySem.W.subIn K (.ref C_ZeroVector) (.ref C_EndsError) = some true)
    (su_DependentError_EndsError : PySem.W.subIn K (.ref C_DependentError) (.ref C_EndsError) = some true)
    (su_TextError_EndsError : PySem.W.subIn K (.ref C_TextError) (.ref C_EndsError) = some true)
    : ∃ fd : FuncData, (∀ (s : Shared) (u : Value), BindsTo s fd ⟨[u], []⟩ [("script", u)]) ∧ ∀ base : Heap, K.In base → base.Ns mainGlobals mg → FnOk l.prog w K mg base (L2.CX l.prog w) 12 fa fd ["script"] (spLaw K) := by
  have e := hfa.symm.trans (PySem.W.mg_of X G a_law)
  have e2 : f_law = fa := by
    cases e
    rfl
  subst e2
  have F_SizeError_init := fun_mk (st := s_SizeError_init) l_SizeError_init c_SizeError_init k_SizeError_init
  have b_SizeError_init := F_SizeError_init.binds (ps := ["self", "count"]) fun _ _ _ _ _ _ us hl => match us, hl with | [_, _], _ => rfl
  have F_NumberError_init := fun_mk (st := s_NumberError_init) l_NumberError_init c_NumberError_init k_NumberError_init
  have b_NumberError_init := F_NumberError_init.binds (ps := ["self", "number"]) fun _ _ _ _ _ _ us hl => match us, hl with | [_, _], _ => rfl
  have F_PrimeError_init := fun_mk (st := s_PrimeError_init) l_PrimeError_init c_PrimeError_init k_PrimeError_init
  have b_PrimeError_init := F_PrimeError_init.binds (ps := ["self", "prime"]) fun _ _ _ _ _ _ us hl => match us, hl with | [_, _], _ => rfl
  have F_TextError_init := fun_mk (st := s_TextError_init) l_TextError_init c_TextError_init k_TextError_init
  have b_TextError_init := F_TextError_init.binds (ps := ["self", "line"]) fun _ _ _ _ _ _ us hl => match us, hl with | [_, _], _ => rfl
  have F_check_number := fun_mk (st := s_check_number) l_check_number c_check_number k_check_number
  have b_check_number := F_check_number.binds (ps := ["number", "low", "high"]) fun _ _ _ _ _ _ us hl => match us, hl with | [_, _, _], _ => rfl
  have F_is_odd_prime := fun_mk (st := s_is_odd_prime) l_is_odd_prime c_is_odd_prime k_is_odd_prime
  have b_is_odd_prime := F_is_odd_prime.binds (ps := ["number"]) fun _ _ _ _ _ _ us hl => match us, hl with | [_], _ => rfl
  have F_check_prime := fun_mk (st := s_check_prime) l_check_prime c_check_prime k_check_prime
  have b_check_prime := F_check_prime.binds (ps := ["prime"]) fun _ _ _ _ _ _ us hl => match us, hl with | [_], _ => rfl
  have F_inverse := fun_mk (st := s_inverse) l_inverse c_inverse k_inverse
  have b_inverse := F_inverse.binds (ps := ["prime", "number"]) fun _ _ _ _ _ _ us hl => match us, hl with | [_, _], _ => rfl
  have F_look_number := fun_mk (st := s_look_number) l_look_number c_look_number k_look_number
  have b_look_number := F_look_number.binds (ps := ["number", "low", "high"]) fun _ _ _ _ _ _ us hl => match us, hl with | [_, _, _], _ => rfl
  have F_look_prime := fun_mk (st := s_look_prime) l_look_prime c_look_prime k_look_prime
  have b_look_prime := F_look_prime.binds (ps := ["prime"]) fun _ _ _ _ _ _ us hl => match us, hl with | [_], _ => rfl
  have F_look_same_prime := fun_mk (st := s_look_same_prime) l_look_same_prime c_look_same_prime k_look_same_prime
  have b_look_same_prime := F_look_same_prime.binds (ps := ["prime", "thing"]) fun _ _ _ _ _ _ us hl => match us, hl with | [_, _], _ => rfl
  have F_look_residue := fun_mk (st := s_look_residue) l_look_residue c_look_residue k_look_residue
  have b_look_residue := F_look_residue.binds (ps := ["prime", "number"]) fun _ _ _ _ _ _ us hl => match us, hl with | [_, _], _ => rfl
  have F_look_pair := fun_mk (st := s_look_pair) l_look_pair c_look_pair k_look_pair
  have b_look_pair := F_look_pair.binds (ps := ["prime", "pair"]) fun _ _ _ _ _ _ us hl => match us, hl with | [_, _], _ => rfl
  have F_point_of := fun_mk (st := s_point_of) l_point_of c_point_of k_point_of
  have b_point_of := F_point_of.binds (ps := ["prime", "vector"]) fun _ _ _ _ _ _ us hl => match us, hl with | [_, _], _ => rfl
  have F_point_vector := fun_mk (st := s_point_vector) l_point_vector c_point_vector k_point_vector
  have b_point_vector := F_point_vector.binds (ps := ["prime", "point"]) fun _ _ _ _ _ _ us hl => match us, hl with | [_, _], _ => rfl
  have F_look_frame := fun_mk (st := s_look_frame) l_look_frame c_look_frame k_look_frame
  have b_look_frame := F_look_frame.binds (ps := ["prime", "frame"]) fun _ _ _ _ _ _ us hl => match us, hl with | [_, _], _ => rfl
  have F_Base_init := fun_mk (st := s_Base_init) l_Base_init c_Base_init k_Base_init
  have b_Base_init := F_Base_init.binds (ps := ["self", "prime", "first", "second"]) fun _ _ _ _ _ _ us hl => match us, hl with | [_, _, _, _], _ => rfl
  have F_Base_moved := fun_mk (st := s_Base_moved) l_Base_moved c_Base_moved k_Base_moved
  have b_Base_moved := F_Base_moved.binds (ps := ["self", "vector"]) fun _ _ _ _ _ _ us hl => match us, hl with | [_, _], _ => rfl
  have F_Base_back := fun_mk (st := s_Base_back) l_Base_back c_Base_back k_Base_back
  have b_Base_back := F_Base_back.binds (ps := ["self"]) fun _ _ _ _ _ _ us hl => match us, hl with | [_], _ => rfl
  have F_cross_product := fun_mk (st := s_cross_product) l_cross_product c_cross_product k_cross_product
  have b_cross_product := F_cross_product.binds (ps := ["prime", "first", "second"]) fun _ _ _ _ _ _ us hl => match us, hl with | [_, _, _], _ => rfl
  have F_ordered := fun_mk (st := s_ordered) l_ordered c_ordered k_ordered
  have b_ordered := F_ordered.binds (ps := ["first", "second"]) fun _ _ _ _ _ _ us hl => match us, hl with | [_, _], _ => rfl
  have F_crossed_point := fun_mk (st := s_crossed_point) l_crossed_point c_crossed_point k_crossed_point
  have b_crossed_point := F_crossed_point.binds (ps := ["prime", "point"]) fun _ _ _ _ _ _ us hl => match us, hl with | [_, _], _ => rfl
  have F_crossed_frame := fun_mk (st := s_crossed_frame) l_crossed_frame c_crossed_frame k_crossed_frame
  have b_crossed_frame := F_crossed_frame.binds (ps := ["prime", "frame"]) fun _ _ _ _ _ _ us hl => match us, hl with | [_, _], _ => rfl
  have F_moved_frame := fun_mk (st := s_moved_frame) l_moved_frame c_moved_frame k_moved_frame
  have b_moved_frame := F_moved_frame.binds (ps := ["prime", "frame", "base"]) fun _ _ _ _ _ _ us hl => match us, hl with | [_, _, _], _ => rfl
  have F_ulaw_draws := fun_mk (st := s_ulaw_draws) l_ulaw_draws c_ulaw_draws k_ulaw_draws
  have b_ulaw_draws := F_ulaw_draws.binds (ps := ["script", "count"]) fun _ _ _ _ _ _ us hl => match us, hl with | [_, _], _ => rfl
  have F_ulaw_next := fun_mk (st := s_ulaw_next) l_ulaw_next c_ulaw_next k_ulaw_next
  have b_ulaw_next := F_ulaw_next.binds (ps := ["cells", "at", "many"]) fun _ _ _ _ _ _ us hl => match us, hl with | [_, _, _], _ => rfl
  have F_ulaw_upward := fun_mk (st := s_ulaw_upward) l_ulaw_upward c_ulaw_upward k_ulaw_upward
  have b_ulaw_upward := F_ulaw_upward.binds (ps := ["p"]) fun _ _ _ _ _ _ us hl => match us, hl with | [_], _ => rfl
  have F_ulaw_prime := fun_mk (st := s_ulaw_prime) l_ulaw_prime c_ulaw_prime k_ulaw_prime
  have b_ulaw_prime := F_ulaw_prime.binds (ps := ["cells", "at"]) fun _ _ _ _ _ _ us hl => match us, hl with | [_, _], _ => rfl
  have F_ulaw_residue := fun_mk (st := s_ulaw_residue) l_ulaw_residue c_ulaw_residue k_ulaw_residue
  have b_ulaw_residue := F_ulaw_residue.binds (ps := ["cells", "at", "p"]) fun _ _ _ _ _ _ us hl => match us, hl with | [_, _, _], _ => rfl
  have F_ulaw_whole := fun_mk (st := s_ulaw_whole) l_ulaw_whole c_ulaw_whole k_ulaw_whole
  have b_ulaw_whole := F_ulaw_whole.binds (ps := ["x"]) fun _ _ _ _ _ _ us hl => match us, hl with | [_], _ => rfl
  have F_ulaw_base := fun_mk (st := s_ulaw_base) l_ulaw_base c_ulaw_base k_ulaw_base
  have b_ulaw_base := F_ulaw_base.binds (ps := ["cells", "at", "p"]) fun _ _ _ _ _ _ us hl => match us, hl with | [_, _, _], _ => rfl
  have F_ulaw_point := fun_mk (st := s_ulaw_point) l_ulaw_point c_ulaw_point k_ulaw_point
  have b_ulaw_point := F_ulaw_point.binds (ps := ["p", "vector"]) fun _ _ _ _ _ _ us hl => match us, hl with | [_, _], _ => rfl
  have F_ulaw_mixed := fun_mk (st := s_ulaw_mixed) l_ulaw_mixed c_ulaw_mixed k_ulaw_mixed
  have b_ulaw_mixed := F_ulaw_mixed.binds (ps := ["p", "one", "vector"]) fun _ _ _ _ _ _ us hl => match us, hl with | [_, _, _], _ => rfl
  have F_ulaw_vector := fun_mk (st := s_ulaw_vector) l_ulaw_vector c_ulaw_vector k_ulaw_vector
  have b_ulaw_vector := F_ulaw_vector.binds (ps := ["p", "point"]) fun _ _ _ _ _ _ us hl => match us, hl with | [_, _], _ => rfl
  have F_ulaw_frames := fun_mk (st := s_ulaw_frames) l_ulaw_frames c_ulaw_frames k_ulaw_frames
  have b_ulaw_frames := F_ulaw_frames.binds (ps := ["p"]) fun _ _ _ _ _ _ us hl => match us, hl with | [_], _ => rfl
  have F_ulaw_asked := fun_mk (st := s_ulaw_asked) l_ulaw_asked c_ulaw_asked k_ulaw_asked
  have b_ulaw_asked := F_ulaw_asked.binds (ps := ["which", "p", "thing", "base"]) fun _ _ _ _ _ _ us hl => match us, hl with | [_, _, _, _], _ => rfl
  have F_ulaw_crossed := fun_mk (st := s_ulaw_crossed) l_ulaw_crossed c_ulaw_crossed k_ulaw_crossed
  have b_ulaw_crossed := F_ulaw_crossed.binds (ps := ["p", "point"]) fun _ _ _ _ _ _ us hl => match us, hl with | [_, _], _ => rfl
  have F_ulaw_moved := fun_mk (st := s_ulaw_moved) l_ulaw_moved c_ulaw_moved k_ulaw_moved
  have b_ulaw_moved := F_ulaw_moved.binds (ps := ["p", "frame", "one"]) fun _ _ _ _ _ _ us hl => match us, hl with | [_, _, _], _ => rfl
  have F_ulaw_pair := fun_mk (st := s_ulaw_pair) l_ulaw_pair c_ulaw_pair k_ulaw_pair
  have b_ulaw_pair := F_ulaw_pair.binds (ps := ["told", "due"]) fun _ _ _ _ _ _ us hl => match us, hl with | [_, _], _ => rfl
  have F_ulaw_some := fun_mk (st := s_ulaw_some) l_ulaw_some c_ulaw_some k_ulaw_some
  have b_ulaw_some := F_ulaw_some.binds (ps := ["cells", "at", "p"]) fun _ _ _ _ _ _ us hl => match us, hl with | [_, _, _], _ => rfl
  have F_ulaw_refused := fun_mk (st := s_ulaw_refused) l_ulaw_refused c_ulaw_refused k_ulaw_refused
  have b_ulaw_refused := F_ulaw_refused.binds (ps := ["cells", "at", "p", "one"]) fun _ _ _ _ _ _ us hl => match us, hl with | [_, _, _, _], _ => rfl
  have F_law := fun_mk (st := s_law) l_law c_law k_law
  have b_law := F_law.binds (ps := ["script"]) fun _ _ _ _ _ _ us hl => match us, hl with | [_], _ => rfl
  have T : Txt K mg { a_SizeError_init := f_SizeError_init, fd_SizeError_init := PySem.W.fnOf "__init__" "SizeError.__init__" (defArgs s_SizeError_init) (defBody s_SizeError_init) (defScope s_SizeError_init) .none kV_SizeError_init dc_SizeError_init pm_SizeError_init an_SizeError_init cd_SizeError_init ct_SizeError_init, a_NumberError_init := f_NumberError_init, fd_NumberError_init := PySem.W.fnOf "__init__" "NumberError.__init__" (defArgs s_NumberError_init) (defBody s_NumberError_init) (defScope s_NumberError_init) .none kV_NumberError_init dc_NumberError_init pm_NumberError_init an_NumberError_init cd_NumberError_init ct_NumberError_init, a_PrimeError_init := f_PrimeError_init, fd_PrimeError_init := PySem.W.fnOf "__init__" "PrimeError.__init__" (defArgs s_PrimeError_init) (defBody s_PrimeError_init) (defScope s_PrimeError_init) .none kV_PrimeError_init dc_PrimeError_init pm_PrimeError_init an_PrimeError_init cd_PrimeError_init ct_PrimeError_init, a_TextError_init := f_TextError_init, fd_TextError_init := PySem.W.fnOf "__init__" "TextError.__init__" (defArgs s_TextError_init) (defBody s_TextError_init) (defScope s_TextError_init) .none kV_TextError_init dc_TextError_init pm_TextError_init an_TextError_init cd_TextError_init ct_TextError_init, a_check_number := f_check_number, fd_check_number := PySem.W.fnOf "check_number" "check_number" (defArgs s_check_number) (defBody s_check_number) (defScope s_check_number) .none kV_check_number dc_check_number pm_check_number an_check_number cd_check_number ct_check_number, a_is_odd_prime := f_is_odd_prime, fd_is_odd_prime := PySem.W.fnOf "is_odd_prime" "is_odd_prime" (defArgs s_is_odd_prime) (defBody s_is_odd_prime) (defScope s_is_odd_prime) .none kV_is_odd_prime dc_is_odd_prime pm_is_odd_prime an_is_odd_prime cd_is_odd_prime ct_is_odd_prime, a_check_prime := f_check_prime, fd_check_prime := PySem.W.fnOf "check_prime" "check_prime" (defArgs s_check_prime) (defBody s_check_prime) (defScope s_check_prime) .none kV_check_prime dc_check_prime pm_check_prime an_check_prime cd_check_prime ct_check_prime, a_inverse := f_inverse, fd_inverse := PySem.W.fnOf "inverse" "inverse" (defArgs s_inverse) (defBody s_inverse) (defScope s_inverse) .none kV_inverse dc_inverse pm_inverse an_inverse cd_inverse ct_inverse, a_look_number := f_look_number, fd_look_number := PySem.W.fnOf "look_number" "look_number" (defArgs s_look_number) (defBody s_look_number) (defScope s_look_number) .none kV_look_number dc_look_number pm_look_number an_look_number cd_look_number ct_look_number, a_look_prime := f_look_prime, fd_look_prime := PySem.W.fnOf "look_prime" "look_prime" (defArgs s_look_prime) (defBody s_look_prime) (defScope s_look_prime) .none kV_look_prime dc_look_prime pm_look_prime an_look_prime cd_look_prime ct_look_prime, a_look_same_prime := f_look_same_prime, fd_look_same_prime := PySem.W.fnOf "look_same_prime" "look_same_prime" (defArgs s_look_same_prime) (defBody s_look_same_prime) (defScope s_look_same_prime) .none kV_look_same_prime dc_look_same_prime pm_look_same_prime an_look_same_prime cd_look_same_prime ct_look_same_prime, a_look_residue := f_look_residue, fd_look_residue := PySem.W.fnOf "look_residue" "look_residue" (defArgs s_look_residue) (defBody s_look_residue) (defScope s_look_residue) .none kV_look_residue dc_look_residue pm_look_residue an_look_residue cd_look_residue ct_look_residue, a_look_pair := f_look_pair, fd_look_pair := PySem.W.fnOf "look_pair" "look_pair" (defArgs s_look_pair) (defBody s_look_pair) (defScope s_look_pair) .none kV_look_pair dc_look_pair pm_look_pair an_look_pair cd_look_pair ct_look_pair, a_point_of := f_point_of, fd_point_of := PySem.W.fnOf "point_of" "point_of" (defArgs s_point_of) (defBody s_point_of) (defScope s_point_of) .none kV_point_of dc_point_of pm_point_of an_point_of cd_point_of ct_point_of, a_point_vector := f_point_vector, fd_point_vector := PySem.W.fnOf "point_vector" "point_vector" (defArgs s_point_vector) (defBody s_point_vector) (defScope s_point_vector) .none kV_point_vector dc_point_vector pm_point_vector an_point_vector cd_point_vector ct_point_vector, a_look_frame := f_look_frame, fd_look_frame := PySem.W.fnOf "look_frame" "look_frame" (defArgs s_look_frame) (defBody s_look_frame) (defScope s_look_frame) .none kV_look_frame dc_look_frame pm_look_frame an_look_frame cd_look_frame ct_look_frame, a_Base_init := f_Base_init, fd_Base_init := PySem.W.fnOf "__init__" "Base.__init__" (defArgs s_Base_init) (defBody s_Base_init) (defScope s_Base_init) .none kV_Base_init dc_Base_init pm_Base_init an_Base_init cd_Base_init ct_Base_init, a_Base_moved := f_Base_moved, fd_Base_moved := PySem.W.fnOf "moved" "Base.moved" (defArgs s_Base_moved) (defBody s_Base_moved) (defScope s_Base_moved) .none kV_Base_moved dc_Base_moved pm_Base_moved an_Base_moved cd_Base_moved ct_Base_moved, a_Base_back := f_Base_back, fd_Base_back := PySem.W.fnOf "back" "Base.back" (defArgs s_Base_back) (defBody s_Base_back) (defScope s_Base_back) .none kV_Base_back dc_Base_back pm_Base_back an_Base_back cd_Base_back ct_Base_back, a_cross_product := f_cross_product, fd_cross_product := PySem.W.fnOf "cross_product" "cross_product" (defArgs s_cross_product) (defBody s_cross_product) (defScope s_cross_product) .none kV_cross_product dc_cross_product pm_cross_product an_cross_product cd_cross_product ct_cross_product, a_ordered := f_ordered, fd_ordered := PySem.W.fnOf "ordered" "ordered" (defArgs s_ordered) (defBody s_ordered) (defScope s_ordered) .none kV_ordered dc_ordered pm_ordered an_ordered cd_ordered ct_ordered, a_crossed_point := f_crossed_point, fd_crossed_point := PySem.W.fnOf "crossed_point" "crossed_point" (defArgs s_crossed_point) (defBody s_crossed_point) (defScope s_crossed_point) .none kV_crossed_point dc_crossed_point pm_crossed_point an_crossed_point cd_crossed_point ct_crossed_point, a_crossed_frame := f_crossed_frame, fd_crossed_frame := PySem.W.fnOf "crossed_frame" "crossed_frame" (defArgs s_crossed_frame) (defBody s_crossed_frame) (defScope s_crossed_frame) .none kV_crossed_frame dc_crossed_frame pm_crossed_frame an_crossed_frame cd_crossed_frame ct_crossed_frame, a_moved_frame := f_moved_frame, fd_moved_frame := PySem.W.fnOf "moved_frame" "moved_frame" (defArgs s_moved_frame) (defBody s_moved_frame) (defScope s_moved_frame) .none kV_moved_frame dc_moved_frame pm_moved_frame an_moved_frame cd_moved_frame ct_moved_frame, a_ulaw_draws := f_ulaw_draws, fd_ulaw_draws := PySem.W.fnOf "_law_draws" "_law_draws" (defArgs s_ulaw_draws) (defBody s_ulaw_draws) (defScope s_ulaw_draws) .none kV_ulaw_draws dc_ulaw_draws pm_ulaw_draws an_ulaw_draws cd_ulaw_draws ct_ulaw_draws, a_ulaw_next := f_ulaw_next, fd_ulaw_next := PySem.W.fnOf "_law_next" "_law_next" (defArgs s_ulaw_next) (defBody s_ulaw_next) (defScope s_ulaw_next) .none kV_ulaw_next dc_ulaw_next pm_ulaw_next an_ulaw_next cd_ulaw_next ct_ulaw_next, a_ulaw_upward := f_ulaw_upward, fd_ulaw_upward := PySem.W.fnOf "_law_upward" "_law_upward" (defArgs s_ulaw_upward) (defBody s_ulaw_upward) (defScope s_ulaw_upward) .none kV_ulaw_upward dc_ulaw_upward pm_ulaw_upward an_ulaw_upward cd_ulaw_upward ct_ulaw_upward, a_ulaw_prime := f_ulaw_prime, fd_ulaw_prime := PySem.W.fnOf "_law_prime" "_law_prime" (defArgs s_ulaw_prime) (defBody s_ulaw_prime) (defScope s_ulaw_prime) .none kV_ulaw_prime dc_ulaw_prime pm_ulaw_prime an_ulaw_prime cd_ulaw_prime ct_ulaw_prime, a_ulaw_residue := f_ulaw_residue, fd_ulaw_residue := PySem.W.fnOf "_law_residue" "_law_residue" (defArgs s_ulaw_residue) (defBody s_ulaw_residue) (defScope s_ulaw_residue) .none kV_ulaw_residue dc_ulaw_residue pm_ulaw_residue an_ulaw_residue cd_ulaw_residue ct_ulaw_residue, a_ulaw_whole := f_ulaw_whole, fd_ulaw_whole := PySem.W.fnOf "_law_whole" "_law_whole" (defArgs s_ulaw_whole) (defBody s_ulaw_whole) (defScope s_ulaw_whole) .none kV_ulaw_whole dc_ulaw_whole pm_ulaw_whole an_ulaw_whole cd_ulaw_whole ct_ulaw_whole, a_ulaw_base := f_ulaw_base, fd_ulaw_base := PySem.W.fnOf "_law_base" "_law_base" (defArgs s_ulaw_base) (defBody s_ulaw_base) (defScope s_ulaw_base) .none kV_ulaw_base dc_ulaw_base pm_ulaw_base an_ulaw_base cd_ulaw_base ct_ulaw_base, a_ulaw_point := f_ulaw_point, fd_ulaw_point := PySem.W.fnOf "_law_point" "_law_point" (defArgs s_ulaw_point) (defBody s_ulaw_point) (defScope s_ulaw_point) .none kV_ulaw_point dc_ulaw_point pm_ulaw_point an_ulaw_point cd_ulaw_point ct_ulaw_point, a_ulaw_mixed := f_ulaw_mixed, fd_ulaw_mixed := PySem.W.fnOf "_law_mixed" "_law_mixed" (defArgs s_ulaw_mixed) (defBody s_ulaw_mixed) (defScope s_ulaw_mixed) .none kV_ulaw_mixed dc_ulaw_mixed pm_ulaw_mixed an_ulaw_mixed cd_ulaw_mixed ct_ulaw_mixed, a_ulaw_vector := f_ulaw_vector, fd_ulaw_vector := PySem.W.fnOf "_law_vector" "_law_vector" (defArgs s_ulaw_vector) (defBody s_ulaw_vector) (defScope s_ulaw_vector) .none kV_ulaw_vector dc_ulaw_vector pm_ulaw_vector an_ulaw_vector cd_ulaw_vector ct_ulaw_vector, a_ulaw_frames := f_ulaw_frames, fd_ulaw_frames := PySem.W.fnOf "_law_frames" "_law_frames" (defArgs s_ulaw_frames) (defBody s_ulaw_frames) (defScope s_ulaw_frames) .none kV_ulaw_frames dc_ulaw_frames pm_ulaw_frames an_ulaw_frames cd_ulaw_frames ct_ulaw_frames, a_ulaw_asked := f_ulaw_asked, fd_ulaw_asked := PySem.W.fnOf "_law_asked" "_law_asked" (defArgs s_ulaw_asked) (defBody s_ulaw_asked) (defScope s_ulaw_asked) .none kV_ulaw_asked dc_ulaw_asked pm_ulaw_asked an_ulaw_asked cd_ulaw_asked ct_ulaw_asked, a_ulaw_crossed := f_ulaw_crossed, fd_ulaw_crossed := PySem.W.fnOf "_law_crossed" "_law_crossed" (defArgs s_ulaw_crossed) (defBody s_ulaw_crossed) (defScope s_ulaw_crossed) .none kV_ulaw_crossed dc_ulaw_crossed pm_ulaw_crossed an_ulaw_crossed cd_ulaw_crossed ct_ulaw_crossed, a_ulaw_moved := f_ulaw_moved, fd_ulaw_moved := PySem.W.fnOf "_law_moved" "_law_moved" (defArgs s_ulaw_moved) (defBody s_ulaw_moved) (defScope s_ulaw_moved) .none kV_ulaw_moved dc_ulaw_moved pm_ulaw_moved an_ulaw_moved cd_ulaw_moved ct_ulaw_moved, a_ulaw_pair := f_ulaw_pair, fd_ulaw_pair := PySem.W.fnOf "_law_pair" "_law_pair" (defArgs s_ulaw_pair) (defBody s_ulaw_pair) (defScope s_ulaw_pair) .none kV_ulaw_pair dc_ulaw_pair pm_ulaw_pair an_ulaw_pair cd_ulaw_pair ct_ulaw_pair, a_ulaw_some := f_ulaw_some, fd_ulaw_some := PySem.W.fnOf "_law_some" "_law_some" (defArgs s_ulaw_some) (defBody s_ulaw_some) (defScope s_ulaw_some) .none kV_ulaw_some dc_ulaw_some pm_ulaw_some an_ulaw_some cd_ulaw_some ct_ulaw_some, a_ulaw_refused := f_ulaw_refused, fd_ulaw_refused := PySem.W.fnOf "_law_refused" "_law_refused" (defArgs s_ulaw_refused) (defBody s_ulaw_refused) (defScope s_ulaw_refused) .none kV_ulaw_refused dc_ulaw_refused pm_ulaw_refused an_ulaw_refused cd_ulaw_refused ct_ulaw_refused, a_law := f_law, fd_law := PySem.W.fnOf "law" "law" (defArgs s_law) (defBody s_law) (defScope s_law) .none kV_law dc_law pm_law an_law cd_law ct_law, c_EndsError := C_EndsError, c_SizeError := C_SizeError, c_NumberError := C_NumberError, c_PrimeError := C_PrimeError, c_ZeroVector := C_ZeroVector, c_DependentError := C_DependentError, c_TextError := C_TextError, c_Base := C_Base, k_MOST := k_MOST } :=
    { F_SizeError_init := F_SizeError_init,
      b_SizeError_init := b_SizeError_init,
      F_NumberError_init := F_NumberError_init,
      b_NumberError_init := b_NumberError_init,
      F_PrimeError_init := F_PrimeError_init,
      b_PrimeError_init := b_PrimeError_init,
      F_TextError_init := F_TextError_init,
      b_TextError_init := b_TextError_init,
      g_check_number := PySem.W.mg_of X G a_check_number,
      F_check_number := F_check_number,
      b_check_number := b_check_number,
      g_is_odd_prime := PySem.W.mg_of X G a_is_odd_prime,
      F_is_odd_prime := F_is_odd_prime,
      b_is_odd_prime := b_is_odd_prime,
      g_check_prime := PySem.W.mg_of X G a_check_prime,
      F_check_prime := F_check_prime,
      b_check_prime := b_check_prime,
      g_inverse := PySem.W.mg_of X G a_inverse,
      F_inverse := F_inverse,
      b_inverse := b_inverse,
      g_look_number := PySem.W.mg_of X G a_look_number,
      F_look_number := F_look_number,
      b_look_number := b_look_number,
      g_look_prime := PySem.W.mg_of X G a_look_prime,
      F_look_prime := F_look_prime,
      b_look_prime := b_look_prime,
      g_look_same_prime := PySem.W.mg_of X G a_look_same_prime,
      F_look_same_prime := F_look_same_prime,
      b_look_same_prime := b_look_same_prime,
      g_look_residue := PySem.W.mg_of X G a_look_residue,
      F_look_residue := F_look_residue,
      b_look_residue := b_look_residue,
      g_look_pair := PySem.W.mg_of X G a_look_pair,
      F_look_pair := F_look_pair,
      b_look_pair := b_look_pair,
      g_point_of := PySem.W.mg_of X G a_point_of,
      F_point_of := F_point_of,
      b_point_of := b_point_of,
      g_point_vector := PySem.W.mg_of X G a_point_vector,
      F_point_vector := F_point_vector,
      b_point_vector := b_point_vector,
      g_look_frame := PySem.W.mg_of X G a_look_frame,
      F_look_frame := F_look_frame,
      b_look_frame := b_look_frame,
      F_Base_init := F_Base_init,
      b_Base_init := b_Base_init,
      F_Base_moved := F_Base_moved,
      b_Base_moved := b_Base_moved,
      F_Base_back := F_Base_back,
      b_Base_back := b_Base_back,
      g_cross_product := PySem.W.mg_of X G a_cross_product,
      F_cross_product := F_cross_product,
      b_cross_product := b_cross_product,
      g_ordered := PySem.W.mg_of X G a_ordered,
      F_ordered := F_ordered,
      b_ordered := b_ordered,
      g_crossed_point := PySem.W.mg_of X G a_crossed_point,
      F_crossed_point := F_crossed_point,
      b_crossed_point := b_crossed_point,
      g_crossed_frame := PySem.W.mg_of X G a_crossed_frame,
      F_crossed_frame := F_crossed_frame,
      b_crossed_frame := b_crossed_frame,
      g_moved_frame := PySem.W.mg_of X G a_moved_frame,
      F_moved_frame := F_moved_frame,
      b_moved_frame := b_moved_frame,
      g_ulaw_draws := PySem.W.mg_of X G a_ulaw_draws,
      F_ulaw_draws := F_ulaw_draws,
      b_ulaw_draws := b_ulaw_draws,
      g_ulaw_next := PySem.W.mg_of X G a_ulaw_next,
      F_ulaw_next := F_ulaw_next,
      b_ulaw_next := b_ulaw_next,
      g_ulaw_upward := PySem.W.mg_of X G a_ulaw_upward,
      F_ulaw_upward := F_ulaw_upward,
      b_ulaw_upward := b_ulaw_upward,
      g_ulaw_prime := PySem.W.mg_of X G a_ulaw_prime,
      F_ulaw_prime := F_ulaw_prime,
      b_ulaw_prime := b_ulaw_prime,
      g_ulaw_residue := PySem.W.mg_of X G a_ulaw_residue,
      F_ulaw_residue := F_ulaw_residue,
      b_ulaw_residue := b_ulaw_residue,
      g_ulaw_whole := PySem.W.mg_of X G a_ulaw_whole,
      F_ulaw_whole := F_ulaw_whole,
      b_ulaw_whole := b_ulaw_whole,
      g_ulaw_base := PySem.W.mg_of X G a_ulaw_base,
      F_ulaw_base := F_ulaw_base,
      b_ulaw_base := b_ulaw_base,
      g_ulaw_point := PySem.W.mg_of X G a_ulaw_point,
      F_ulaw_point := F_ulaw_point,
      b_ulaw_point := b_ulaw_point,
      g_ulaw_mixed := PySem.W.mg_of X G a_ulaw_mixed,
      F_ulaw_mixed := F_ulaw_mixed,
      b_ulaw_mixed := b_ulaw_mixed,
      g_ulaw_vector := PySem.W.mg_of X G a_ulaw_vector,
      F_ulaw_vector := F_ulaw_vector,
      b_ulaw_vector := b_ulaw_vector,
      g_ulaw_frames := PySem.W.mg_of X G a_ulaw_frames,
      F_ulaw_frames := F_ulaw_frames,
      b_ulaw_frames := b_ulaw_frames,
      g_ulaw_asked := PySem.W.mg_of X G a_ulaw_asked,
      F_ulaw_asked := F_ulaw_asked,
      b_ulaw_asked := b_ulaw_asked,
      g_ulaw_crossed := PySem.W.mg_of X G a_ulaw_crossed,
      F_ulaw_crossed := F_ulaw_crossed,
      b_ulaw_crossed := b_ulaw_crossed,
      g_ulaw_moved := PySem.W.mg_of X G a_ulaw_moved,
      F_ulaw_moved := F_ulaw_moved,
      b_ulaw_moved := b_ulaw_moved,
      g_ulaw_pair := PySem.W.mg_of X G a_ulaw_pair,
      F_ulaw_pair := F_ulaw_pair,
      b_ulaw_pair := b_ulaw_pair,
      g_ulaw_some := PySem.W.mg_of X G a_ulaw_some,
      F_ulaw_some := F_ulaw_some,
      b_ulaw_some := b_ulaw_some,
      g_ulaw_refused := PySem.W.mg_of X G a_ulaw_refused,
      F_ulaw_refused := F_ulaw_refused,
      b_ulaw_refused := b_ulaw_refused,
      g_law := PySem.W.mg_of X G a_law,
      F_law := F_law,
      b_law := b_law,
      g_EndsError := PySem.W.mg_of X G a_EndsError,
      X_EndsError := ⟨hc_EndsError, hg_EndsError, hk_EndsError, hs_EndsError, hd_EndsError, ha_EndsError, hnD, htD, hm_EndsError⟩,
      x_EndsError := ⟨ex_EndsError, kc_EndsError, hs_EndsError, ty_EndsError⟩,
      g_SizeError := PySem.W.mg_of X G a_SizeError,
      X_SizeError := ⟨hc_SizeError, hg_SizeError, hk_SizeError, hs_SizeError, hd_SizeError, ha_SizeError, hnD, htD, hm_SizeError⟩,
      x_SizeError := ⟨⟨_, _, _, _, _, _, _, _, _, _, _, _, _, _, _, xl_SizeError, xr_SizeError⟩, sa_SizeError, hs_SizeError, ty_SizeError, kc_SizeError⟩,
      xi_SizeError := i_SizeError,
      xt_SizeError := t_SizeError_init,
      xn_SizeError_count := xn_SizeError_count,
      g_NumberError := PySem.W.mg_of X G a_NumberError,
      X_NumberError := ⟨hc_NumberError, hg_NumberError, hk_NumberError, hs_NumberError, hd_NumberError, ha_NumberError, hnD, htD, hm_NumberError⟩,
      x_NumberError := ⟨⟨_, _, _, _, _, _, _, _, _, _, _, _, _, _, _, xl_NumberError, xr_NumberError⟩, sa_NumberError, hs_NumberError, ty_NumberError, kc_NumberError⟩,
      xi_NumberError := i_NumberError,
      xt_NumberError := t_NumberError_init,
      xn_NumberError_number := xn_NumberError_number,
      g_PrimeError := PySem.W.mg_of X G a_PrimeError,
      X_PrimeError := ⟨hc_PrimeError, hg_PrimeError, hk_PrimeError, hs_PrimeError, hd_PrimeError, ha_PrimeError, hnD, htD, hm_PrimeError⟩,
      x_PrimeError := ⟨⟨_, _, _, _, _, _, _, _, _, _, _, _, _, _, _, xl_PrimeError, xr_PrimeError⟩, sa_PrimeError, hs_PrimeError, ty_PrimeError, kc_PrimeError⟩,
      xi_PrimeError := i_PrimeError,
      xt_PrimeError := t_PrimeError_init,
      xn_PrimeError_prime := xn_PrimeError_prime,
      g_ZeroVector := PySem.W.mg_of X G a_ZeroVector,
      X_ZeroVector := ⟨hc_ZeroVector, hg_ZeroVector, hk_ZeroVector, hs_ZeroVector, hd_ZeroVector, ha_ZeroVector, hnD, htD, hm_ZeroVector⟩,
      x_ZeroVector := ⟨ex_ZeroVector, kc_ZeroVector, hs_ZeroVector, ty_ZeroVector⟩,
      g_DependentError := PySem.W.mg_of X G a_DependentError,
      X_DependentError := ⟨hc_DependentError, hg_DependentError, hk_DependentError, hs_DependentError, hd_DependentError, ha_DependentError, hnD, htD, hm_DependentError⟩,
      x_DependentError := ⟨ex_DependentError, kc_DependentError, hs_DependentError, ty_DependentError⟩,
      g_TextError := PySem.W.mg_of X G a_TextError,
      X_TextError := ⟨hc_TextError, hg_TextError, hk_TextError, hs_TextError, hd_TextError, ha_TextError, hnD, htD, hm_TextError⟩,
      x_TextError := ⟨⟨_, _, _, _, _, _, _, _, _, _, _, _, _, _, _, xl_TextError, xr_TextError⟩, sa_TextError, hs_TextError, ty_TextError, kc_TextError⟩,
      xi_TextError := i_TextError,
      xt_TextError := t_TextError_init,
      xn_TextError_line := xn_TextError_line,
      g_Base := PySem.W.mg_of X G a_Base,
      own_Base := ⟨⟨pg_Base, hd_Base, po_Base, sa_Base⟩, ha_Base, hnD, htD, hm_Base, ks_Base⟩,
      mk_Base := ⟨mk_Base, m_Base_init, fn_Base_init, kc_Base⟩,
      na_Base_prime := na_Base_prime,
      na_Base_first := na_Base_first,
      na_Base_second := na_Base_second,
      mt_Base_moved := ⟨m_Base_moved, fn_Base_moved, k_Base_moved⟩,
      mt_Base_back := ⟨m_Base_back, fn_Base_back, k_Base_back⟩,
      g_MOST := PySem.W.mg_of X G a_MOST,
      n_ValueError := PySem.W.mg_none_of X G z_ValueError,
      n_all := PySem.W.mg_none_of X G z_all,
      n_bool := PySem.W.mg_none_of X G z_bool,
      n_int := PySem.W.mg_none_of X G z_int,
      n_isinstance := PySem.W.mg_none_of X G z_isinstance,
      n_len := PySem.W.mg_none_of X G z_len,
      n_list := PySem.W.mg_none_of X G z_list,
      n_max := PySem.W.mg_none_of X G z_max,
      n_min := PySem.W.mg_none_of X G z_min,
      n_range := PySem.W.mg_none_of X G z_range,
      n_sorted := PySem.W.mg_none_of X G z_sorted,
      n_sum := PySem.W.mg_none_of X G z_sum,
      n_tuple := PySem.W.mg_none_of X G z_tuple,
      kt_NumberError_NumberError := kt_NumberError_NumberError,
      kt_ZeroVector_NumberError := kt_ZeroVector_NumberError,
      kt_NumberError_PrimeError := kt_NumberError_PrimeError,
      kt_ZeroVector_PrimeError := kt_ZeroVector_PrimeError,
      kt_NumberError_SizeError := kt_NumberError_SizeError,
      kt_ZeroVector_SizeError := kt_ZeroVector_SizeError,
      kt_NumberError_DependentError := kt_NumberError_DependentError,
      kt_ZeroVector_DependentError := kt_ZeroVector_DependentError,
      kt_NumberError_ValueError := kt_NumberError_ValueError,
      kt_ZeroVector_ValueError := kt_ZeroVector_ValueError,
      kt_PrimeError_NumberError := kt_PrimeError_NumberError,
      kt_PrimeError_PrimeError := kt_PrimeError_PrimeError,
      kt_PrimeError_SizeError := kt_PrimeError_SizeError,
      kt_PrimeError_DependentError := kt_PrimeError_DependentError,
      kt_PrimeError_ValueError := kt_PrimeError_ValueError,
      em_EndsError_EndsError := PySem.W.exm_ref hs_EndsError hd_EndsError ty_EndsError su_EndsError_EndsError,
      em_SizeError_EndsError := PySem.W.exm_ref hs_EndsError hd_EndsError ty_EndsError su_SizeError_EndsError,
      em_NumberError_EndsError := PySem.W.exm_ref hs_EndsError hd_EndsError ty_EndsError su_NumberError_EndsError,
      em_PrimeError_EndsError := PySem.W.exm_ref hs_EndsError hd_EndsError ty_EndsError su_PrimeError_EndsError,
      em_ZeroVector_EndsError := PySem.W.exm_ref hs_EndsError hd_EndsError ty_EndsError su_ZeroVector_EndsError,
      em_DependentError_EndsError := PySem.W.exm_ref hs_EndsError hd_EndsError ty_EndsError su_DependentError_EndsError,
      em_TextError_EndsError := PySem.W.exm_ref hs_EndsError hd_EndsError ty_EndsError su_TextError_EndsError,
      kb_crossed_point_0_point_prime := kbind_crossed_point_0_point_prime F_crossed_point,
      kb_crossed_frame_0_frame_prime := kbind_crossed_frame_0_frame_prime F_crossed_frame,
      kb_moved_frame_0_base_frame_prime := kbind_moved_frame_0_base_frame_prime F_moved_frame }
  exact ⟨_, fun s v => .of_eq rfl, fun base _ _ => law_ok T⟩
theorem walk {l : PySem.W.OpenLaw} {q : Program} {loose : List Str} {XP : (Str → Option Value) → Heap → Prop} {YP : World → Heap → Prop} {d : DefRec} {K : Params → PySem.W.Frag} (hn : l.most = some 63) (hdf : d.params.defaults = [])
    (hY : ∀ (w : World) (h : Heap), YP w h → (K w.params).In h)
    (F : ∀ (w : World) (mg : Str → Option Value) (fa : Addr) (h : Heap), (K w.params).In h → h.Ns mainGlobals mg → mg d.name = some (.ref fa) → ∃ fd : FuncData, (∀ (s : Shared) (u : Value), BindsTo s fd ⟨[u], []⟩ [("script", u)]) ∧
      ∀ base : Heap, (K w.params).In base → base.Ns mainGlobals mg → FnOk l.prog w (K w.params) mg base (L2.CX l.prog w) 12 fa fd ["script"] (spLaw (K w.params))) :
    PySem.W.WalkO q loose XP YP l.row.toRowW d [] (fun f vs => PySem.call f vs) :=
  L2.walk_of (n := 63) (k := 12) (x := "script") (CX := fun w => L2.CX l.prog w) (sp := fun w => spLaw (K w.params)) hn (by decide) hdf ⟨rfl, by decide, by decide⟩ hY F (fun _ _ a ns hl _ hS => ⟨a, ns, rfl, hS, hl, fun _ => rfl⟩) noX
end Lw
set_option pp.maxSteps 300 in
open PySem PySem.W PyProof.Rows in
set_option maxRecDepth 100000 in
set_option maxHeartbeats 0 in
theorem PySem.Challenge.cw_endsflat_k44_crossed_points_holds : PySem.Challenge.rw_endsflat_k44_crossed_points.Holds := by
  w_on; o_law; k_head; (case hw => w_witness2)
  k_fill
  refine Lw.walk (l := PySem.Challenge.rw_endsflat_k44_crossed_points) rfl rfl (fun w h Y => PySem.W.kIn_of Y) ?F
  case F =>
    intro w mg fa h KX G hmg
    refine' Lw.all_mk KX G hmg ?a_EndsError ?hc_EndsError ?hg_EndsError ?hk_EndsError ?hs_EndsError ?hd_EndsError ?ha_EndsError ?hm_EndsError ?ty_EndsError ?kc_EndsError ?ex_EndsError ?a_SizeError ?hc_SizeError ?hg_SizeError ?hk_SizeError ?hs_SizeError ?hd_SizeError ?ha_SizeError ?hm_SizeError ?ty_SizeError ?kc_SizeError ?i_SizeError ?xl_SizeError ?xr_SizeError ?sa_SizeError ?xn_SizeError_count ?a_NumberError ?hc_NumberError ?hg_NumberError ?hk_NumberError ?hs_NumberError ?hd_NumberError ?ha_NumberError ?hm_NumberError ?ty_NumberError ?kc_NumberError ?i_NumberError ?xl_NumberError ?xr_NumberError ?sa_NumberError ?xn_NumberError_number ?a_PrimeError ?hc_PrimeError ?hg_PrimeError ?hk_PrimeError ?hs_PrimeError ?hd_PrimeError ?ha_PrimeError ?hm_PrimeError ?ty_PrimeError ?kc_PrimeError ?i_PrimeError ?xl_PrimeError ?xr_PrimeError ?sa_PrimeError ?xn_PrimeError_prime ?a_ZeroVector ?hc_ZeroVector ?hg_ZeroVector ?hk_ZeroVector ?hs_ZeroVector ?hd_ZeroVector ?ha_ZeroVector ?hm_ZeroVector ?ty_ZeroVector ?kc_ZeroVector ?ex_ZeroVector ?a_DependentError ?hc_DependentError ?hg_DependentError ?hk_DependentError ?hs_DependentError ?hd_DependentError ?ha_DependentError ?hm_DependentError ?ty_DependentError ?kc_DependentError ?ex_DependentError ?a_TextError ?hc_TextError ?hg_TextError ?hk_TextError ?hs_TextError ?hd_TextError ?ha_TextError ?hm_TextError ?ty_TextError ?kc_TextError ?i_TextError ?xl_TextError ?xr_TextError ?sa_TextError ?xn_TextError_line ?a_Base ?pg_Base ?hd_Base ?po_Base ?sa_Base ?mk_Base ?kc_Base ?ha_Base ?hm_Base ?ks_Base ?na_Base_prime ?na_Base_first ?na_Base_second ?m_Base_init ?fn_Base_init ?m_Base_moved ?fn_Base_moved ?m_Base_back ?fn_Base_back ?hnD ?htD ?l_SizeError_init ?c_SizeError_init ?k_SizeError_init ?t_SizeError_init ?l_NumberError_init ?c_NumberError_init ?k_NumberError_init ?t_NumberError_init ?l_PrimeError_init ?c_PrimeError_init ?k_PrimeError_init ?t_PrimeError_init ?l_TextError_init ?c_TextError_init ?k_TextError_init ?t_TextError_init ?a_check_number ?l_check_number ?c_check_number ?k_check_number ?a_is_odd_prime ?l_is_odd_prime ?c_is_odd_prime ?k_is_odd_prime ?a_check_prime ?l_check_prime ?c_check_prime ?k_check_prime ?a_inverse ?l_inverse ?c_inverse ?k_inverse ?a_look_number ?l_look_number ?c_look_number ?k_look_number ?a_look_prime ?l_look_prime ?c_look_prime ?k_look_prime ?a_look_same_prime ?l_look_same_prime ?c_look_same_prime ?k_look_same_prime ?a_look_residue ?l_look_residue ?c_look_residue ?k_look_residue ?a_look_pair ?l_look_pair ?c_look_pair ?k_look_pair ?a_point_of ?l_point_of ?c_point_of ?k_point_of ?a_point_vector ?l_point_vector ?c_point_vector ?k_point_vector ?a_look_frame ?l_look_frame ?c_look_frame ?k_look_frame ?l_Base_init ?c_Base_init ?k_Base_init ?l_Base_moved ?c_Base_moved ?k_Base_moved ?l_Base_back ?c_Base_back ?k_Base_back ?a_cross_product ?l_cross_product ?c_cross_product ?k_cross_product ?a_ordered ?l_ordered ?c_ordered ?k_ordered ?a_crossed_point ?l_crossed_point ?c_crossed_point ?k_crossed_point ?a_crossed_frame ?l_crossed_frame ?c_crossed_frame ?k_crossed_frame ?a_moved_frame ?l_moved_frame ?c_moved_frame ?k_moved_frame ?a_ulaw_draws ?l_ulaw_draws ?c_ulaw_draws ?k_ulaw_draws ?a_ulaw_next ?l_ulaw_next ?c_ulaw_next ?k_ulaw_next ?a_ulaw_upward ?l_ulaw_upward ?c_ulaw_upward ?k_ulaw_upward ?a_ulaw_prime ?l_ulaw_prime ?c_ulaw_prime ?k_ulaw_prime ?a_ulaw_residue ?l_ulaw_residue ?c_ulaw_residue ?k_ulaw_residue ?a_ulaw_whole ?l_ulaw_whole ?c_ulaw_whole ?k_ulaw_whole ?a_ulaw_base ?l_ulaw_base ?c_ulaw_base ?k_ulaw_base ?a_ulaw_point ?l_ulaw_point ?c_ulaw_point ?k_ulaw_point ?a_ulaw_mixed ?l_ulaw_mixed ?c_ulaw_mixed ?k_ulaw_mixed ?a_ulaw_vector ?l_ulaw_vector ?c_ulaw_vector ?k_ulaw_vector ?a_ulaw_frames ?l_ulaw_frames ?c_ulaw_frames ?k_ulaw_frames ?a_ulaw_asked ?l_ulaw_asked ?c_ulaw_asked ?k_ulaw_asked ?a_ulaw_crossed ?l_ulaw_crossed ?c_ulaw_crossed ?k_ulaw_crossed ?a_ulaw_moved ?l_ulaw_moved ?c_ulaw_moved ?k_ulaw_moved ?a_ulaw_pair ?l_ulaw_pair ?c_ulaw_pair ?k_ulaw_pair ?a_ulaw_some ?l_ulaw_some ?c_ulaw_some ?k_ulaw_some ?a_ulaw_refused ?l_ulaw_refused ?c_ulaw_refused ?k_ulaw_refused ?a_law ?l_law ?c_law ?k_law ?a_MOST ?z_ValueError ?z_all ?z_bool ?z_int ?z_isinstance ?z_len ?z_list ?z_max ?z_min ?z_range ?z_sorted ?z_sum ?z_tuple ?kt_NumberError_NumberError ?kt_ZeroVector_NumberError ?kt_NumberError_PrimeError ?kt_ZeroVector_PrimeError ?kt_NumberError_SizeError ?kt_ZeroVector_SizeError ?kt_NumberError_DependentError ?kt_ZeroVector_DependentError ?kt_NumberError_ValueError ?kt_ZeroVector_ValueError ?kt_PrimeError_NumberError ?kt_PrimeError_PrimeError ?kt_PrimeError_SizeError ?kt_PrimeError_DependentError ?kt_PrimeError_ValueError ?su_EndsError_EndsError ?su_SizeError_EndsError ?su_NumberError_EndsError ?su_PrimeError_EndsError ?su_ZeroVector_EndsError ?su_DependentError_EndsError ?su_TextError_EndsError
    (case a_EndsError => k_is)
    (case hc_EndsError => k_is)
    (case hg_EndsError => k_is)
    (case hk_EndsError => k_is)
    (case hs_EndsError => k_is)
    (case hd_EndsError => k_is)
    (case ha_EndsError => k_is)
    (case hm_EndsError => k_is)
    (case ty_EndsError => k_is)
    (case kc_EndsError => k_is)
    (case ex_EndsError => k_exc)
    (case a_SizeError => k_is)
    (case hc_SizeError => k_is)
    (case hg_SizeError => k_is)
    (case hk_SizeError => k_is)
    (case hs_SizeError => k_is)
    (case hd_SizeError => k_is)
    (case ha_SizeError => k_is)
    (case hm_SizeError => k_is)
    (case ty_SizeError => k_is)
    (case kc_SizeError => k_is)
    (case i_SizeError => k_is)
    (case xl_SizeError => k_is)
    (case xr_SizeError => decide +kernel)
    (case sa_SizeError => k_is)
    (case xn_SizeError_count => k_is)
    (case a_NumberError => k_is)
    (case hc_NumberError => k_is)
    (case hg_NumberError => k_is)
    (case hk_NumberError => k_is)
    (case hs_NumberError => k_is)
    (case hd_NumberError => k_is)
    (case ha_NumberError => k_is)
    (case hm_NumberError => k_is)
    (case ty_NumberError => k_is)
    (case kc_NumberError => k_is)
    (case i_NumberError => k_is)
    (case xl_NumberError => k_is)
    (case xr_NumberError => decide +kernel)
    (case sa_NumberError => k_is)
    (case xn_NumberError_number => k_is)
    (case a_PrimeError => k_is)
    (case hc_PrimeError => k_is)
    (case hg_PrimeError => k_is)
    (case hk_PrimeError => k_is)
    (case hs_PrimeError => k_is)
    (case hd_PrimeError => k_is)
    (case ha_PrimeError => k_is)
    (case hm_PrimeError => k_is)
    (case ty_PrimeError => k_is)
    (case kc_PrimeError => k_is)
    (case i_PrimeError => k_is)
    (case xl_PrimeError => k_is)
    (case xr_PrimeError => decide +kernel)
    (case sa_PrimeError => k_is)
    (case xn_PrimeError_prime => k_is)
    (case a_ZeroVector => k_is)
    (case hc_ZeroVector => k_is)
    (case hg_ZeroVector => k_is)
    (case hk_ZeroVector => k_is)
    (case hs_ZeroVector => k_is)
    (case hd_ZeroVector => k_is)
    (case ha_ZeroVector => k_is)
    (case hm_ZeroVector => k_is)
    (case ty_ZeroVector => k_is)
    (case kc_ZeroVector => k_is)
    (case ex_ZeroVector => k_exc)
    (case a_DependentError => k_is)
    (case hc_DependentError => k_is)
    (case hg_DependentError => k_is)
    (case hk_DependentError => k_is)
    (case hs_DependentError => k_is)
    (case hd_DependentError => k_is)
    (case ha_DependentError => k_is)
    (case hm_DependentError => k_is)
    (case ty_DependentError => k_is)
    (case kc_DependentError => k_is)
    (case ex_DependentError => k_exc)
    (case a_TextError => k_is)
    (case hc_TextError => k_is)
    (case hg_TextError => k_is)
    (case hk_TextError => k_is)
    (case hs_TextError => k_is)
    (case hd_TextError => k_is)
    (case ha_TextError => k_is)
    (case hm_TextError => k_is)
    (case ty_TextError => k_is)
    (case kc_TextError => k_is)
    (case i_TextError => k_is)
    (case xl_TextError => k_is)
    (case xr_TextError => decide +kernel)
    (case sa_TextError => k_is)
    (case xn_TextError_line => k_is)
    (case a_Base => k_is)
    (case pg_Base => k_is)
    (case hd_Base => k_is)
    (case po_Base => k_is)
    (case sa_Base => k_is)
    (case mk_Base => k_is)
    (case kc_Base => k_is)
    (case ha_Base => k_is)
    (case hm_Base => k_is)
    (case ks_Base => first | rfl | k_is)
    (case na_Base_prime => k_is)
    (case na_Base_first => k_is)
    (case na_Base_second => k_is)
    (case m_Base_init => k_is)
    (case fn_Base_init => k_is)
    (case m_Base_moved => k_is)
    (case fn_Base_moved => k_is)
    (case m_Base_back => k_is)
    (case fn_Base_back => k_is)
    (case hnD => k_is)
    (case htD => k_is)
    (case l_SizeError_init => k_is)
    (case c_SizeError_init => k_is)
    (case k_SizeError_init => k_is)
    (case t_SizeError_init => k_is)
    (case l_NumberError_init => k_is)
    (case c_NumberError_init => k_is)
    (case k_NumberError_init => k_is)
    (case t_NumberError_init => k_is)
    (case l_PrimeError_init => k_is)
    (case c_PrimeError_init => k_is)
    (case k_PrimeError_init => k_is)
    (case t_PrimeError_init => k_is)
    (case l_TextError_init => k_is)
    (case c_TextError_init => k_is)
    (case k_TextError_init => k_is)
    (case t_TextError_init => k_is)
    (case a_check_number => k_is)
    (case l_check_number => k_is)
    (case c_check_number => k_is)
    (case k_check_number => k_is)
    (case a_is_odd_prime => k_is)
    (case l_is_odd_prime => k_is)
    (case c_is_odd_prime => k_is)
    (case k_is_odd_prime => k_is)
    (case a_check_prime => k_is)
    (case l_check_prime => k_is)
    (case c_check_prime => k_is)
    (case k_check_prime => k_is)
    (case a_inverse => k_is)
    (case l_inverse => k_is)
    (case c_inverse => k_is)
    (case k_inverse => k_is)
    (case a_look_number => k_is)
    (case l_look_number => k_is)
    (case c_look_number => k_is)
    (case k_look_number => k_is)
    (case a_look_prime => k_is)
    (case l_look_prime => k_is)
    (case c_look_prime => k_is)
    (case k_look_prime => k_is)
    (case a_look_same_prime => k_is)
    (case l_look_same_prime => k_is)
    (case c_look_same_prime => k_is)
    (case k_look_same_prime => k_is)
    (case a_look_residue => k_is)
    (case l_look_residue => k_is)
    (case c_look_residue => k_is)
    (case k_look_residue => k_is)
    (case a_look_pair => k_is)
    (case l_look_pair => k_is)
    (case c_look_pair => k_is)
    (case k_look_pair => k_is)
    (case a_point_of => k_is)
    (case l_point_of => k_is)
    (case c_point_of => k_is)
    (case k_point_of => k_is)
    (case a_point_vector => k_is)
    (case l_point_vector => k_is)
    (case c_point_vector => k_is)
    (case k_point_vector => k_is)
    (case a_look_frame => k_is)
    (case l_look_frame => k_is)
    (case c_look_frame => k_is)
    (case k_look_frame => k_is)
    (case l_Base_init => k_is)
    (case c_Base_init => k_is)
    (case k_Base_init => k_is)
    (case l_Base_moved => k_is)
    (case c_Base_moved => k_is)
    (case k_Base_moved => k_is)
    (case l_Base_back => k_is)
    (case c_Base_back => k_is)
    (case k_Base_back => k_is)
    (case a_cross_product => k_is)
    (case l_cross_product => k_is)
    (case c_cross_product => k_is)
    (case k_cross_product => k_is)
    (case a_ordered => k_is)
    (case l_ordered => k_is)
    (case c_ordered => k_is)
    (case k_ordered => k_is)
    (case a_crossed_point => k_is)
    (case l_crossed_point => k_is)
    (case c_crossed_point => k_is)
    (case k_crossed_point => k_is)
    (case a_crossed_frame => k_is)
    (case l_crossed_frame => k_is)
    (case c_crossed_frame => k_is)
    (case k_crossed_frame => k_is)
    (case a_moved_frame => k_is)
    (case l_moved_frame => k_is)
    (case c_moved_frame => k_is)
    (case k_moved_frame => k_is)
    (case a_ulaw_draws => k_is)
    (case l_ulaw_draws => k_is)
    (case c_ulaw_draws => k_is)
    (case k_ulaw_draws => k_is)
    (case a_ulaw_next => k_is)
    (case l_ulaw_next => k_is)
    (case c_ulaw_next => k_is)
    (case k_ulaw_next => k_is)
    (case a_ulaw_upward => k_is)
    (case l_ulaw_upward => k_is)
    (case c_ulaw_upward => k_is)
    (case k_ulaw_upward => k_is)
    (case a_ulaw_prime => k_is)
    (case l_ulaw_prime => k_is)
    (case c_ulaw_prime => k_is)
    (case k_ulaw_prime => k_is)
    (case a_ulaw_residue => k_is)
    (case l_ulaw_residue => k_is)
    (case c_ulaw_residue => k_is)
    (case k_ulaw_residue => k_is)
    (case a_ulaw_whole => k_is)
    (case l_ulaw_whole => k_is)
    (case c_ulaw_whole => k_is)
    (case k_ulaw_whole => k_is)
    (case a_ulaw_base => k_is)
    (case l_ulaw_base => k_is)
    (case c_ulaw_base => k_is)
    (case k_ulaw_base => k_is)
    (case a_ulaw_point => k_is)
    (case l_ulaw_point => k_is)
    (case c_ulaw_point => k_is)
    (case k_ulaw_point => k_is)
    (case a_ulaw_mixed => k_is)
    (case l_ulaw_mixed => k_is)
    (case c_ulaw_mixed => k_is)
    (case k_ulaw_mixed => k_is)
    (case a_ulaw_vector => k_is)
    (case l_ulaw_vector => k_is)
    (case c_ulaw_vector => k_is)
    (case k_ulaw_vector => k_is)
    (case a_ulaw_frames => k_is)
    (case l_ulaw_frames => k_is)
    (case c_ulaw_frames => k_is)
    (case k_ulaw_frames => k_is)
    (case a_ulaw_asked => k_is)
    (case l_ulaw_asked => k_is)
    (case c_ulaw_asked => k_is)
    (case k_ulaw_asked => k_is)
    (case a_ulaw_crossed => k_is)
    (case l_ulaw_crossed => k_is)
    (case c_ulaw_crossed => k_is)
    (case k_ulaw_crossed => k_is)
    (case a_ulaw_moved => k_is)
    (case l_ulaw_moved => k_is)
    (case c_ulaw_moved => k_is)
    (case k_ulaw_moved => k_is)
    (case a_ulaw_pair => k_is)
    (case l_ulaw_pair => k_is)
    (case c_ulaw_pair => k_is)
    (case k_ulaw_pair => k_is)
    (case a_ulaw_some => k_is)
    (case l_ulaw_some => k_is)
    (case c_ulaw_some => k_is)
    (case k_ulaw_some => k_is)
    (case a_ulaw_refused => k_is)
    (case l_ulaw_refused => k_is)
    (case c_ulaw_refused => k_is)
    (case k_ulaw_refused => k_is)
    (case a_law => k_is)
    (case l_law => k_is)
    (case c_law => k_is)
    (case k_law => k_is)
    (case a_MOST => k_is)
    (case z_ValueError => k_is)
    (case z_all => k_is)
    (case z_bool => k_is)
    (case z_int => k_is)
    (case z_isinstance => k_is)
    (case z_len => k_is)
    (case z_list => k_is)
    (case z_max => k_is)
    (case z_min => k_is)
    (case z_range => k_is)
    (case z_sorted => k_is)
    (case z_sum => k_is)
    (case z_tuple => k_is)
    (case kt_NumberError_NumberError => first | rfl | k_is)
    (case kt_ZeroVector_NumberError => first | rfl | k_is)
    (case kt_NumberError_PrimeError => first | rfl | k_is)
    (case kt_ZeroVector_PrimeError => first | rfl | k_is)
    (case kt_NumberError_SizeError => first | rfl | k_is)
    (case kt_ZeroVector_SizeError => first | rfl | k_is)
    (case kt_NumberError_DependentError => first | rfl | k_is)
    (case kt_ZeroVector_DependentError => first | rfl | k_is)
    (case kt_NumberError_ValueError => first | rfl | k_is)
    (case kt_ZeroVector_ValueError => first | rfl | k_is)
    (case kt_PrimeError_NumberError => first | rfl | k_is)
    (case kt_PrimeError_PrimeError => first | rfl | k_is)
    (case kt_PrimeError_SizeError => first | rfl | k_is)
    (case kt_PrimeError_DependentError => first | rfl | k_is)
    (case kt_PrimeError_ValueError => first | rfl | k_is)
    (case su_EndsError_EndsError => first | rfl | k_is)
    (case su_SizeError_EndsError => first | rfl | k_is)
    (case su_NumberError_EndsError => first | rfl | k_is)
    (case su_PrimeError_EndsError => first | rfl | k_is)
    (case su_ZeroVector_EndsError => first | rfl | k_is)
    (case su_DependentError_EndsError => first | rfl | k_is)
    (case su_TextError_EndsError => first | rfl | k_is)