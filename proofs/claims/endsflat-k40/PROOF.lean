import PyProof.Rows.All
import Wide.All
import OpenK.AllK
import Wide.FinOn
import HandS.ForMost
import HandS.ExcIs
import HandS.Exc
import HandS.TryOnly
import HandS.ExcOwn
import HandS.ExcInit
import HandS.ExcField
import HandS.HotCalls
import HandS.IsInst
import HandS.Conv
import HandS.Flow
import HandS.TupAny
import HandS.Style
import HandS.SetFor
import HandS.WordsExc
import KE.KExcIs
import HandS.Zip
import PySem.Challenge.RW_endsflat_k40_points_and_frames
set_option Elab.async false
set_option linter.all false
set_option maxRecDepth 100000
set_option maxHeartbeats 4000000

namespace EL
open PySem PySem.Spec PyProof.Rows L2
abbrev St := L2.St

/-! ### unions of rules -/
section
variable {X : Cx}
theorem piOr {tg it : Expr} {w1 w2 : TI} (h1 : PI X tg it w1) (h2 : PI X tg it w2) : PI X tg it (fun σ H R => w1 σ H R ∨ w2 σ H R) :=
  ⟨fun pins s σ H R I h => h.elim (h1.run pins s σ H R I) (h2.run pins s σ H R I)⟩
def iU (K : PySem.W.Frag) (tl : TE) : TI := fun σ H R => iList K tl σ H R ∨ iTup K tl σ H R
theorem pi_U {tg l : Expr} {tl : TE} (hl : PE X l tl) : PI X tg l (iU X.K tl) := piOr (pi_list hl) (pi_tup hl)
def rAddI : R2 := rI0 fun i j => .int (i + j)
def rAddS : R2 := fun x y H Q => ∃ i j, x = .str i ∧ y = .str j ∧ i.length + j.length ≤ sizeLine ∧ Q (.str (i ++ j)) H
def rAddU (K : PySem.W.Frag) : R2 := fun x y H Q => rAddI x y H Q ∨ rCat x y H Q ∨ rCatA K x y H Q ∨ rAddS x y H Q
theorem op_addU : OpR X (binaryOp .Add) (rAddU X.K) := OpR.or op_add (OpR.or op_cat (OpR.or op_catA op_add_str))
def rMulI : R2 := rI CMul fun i j => .int (i * j)
def rMulU : R2 := fun x y H Q => rMulI x y H Q ∨ rRep x y H Q
theorem op_mulU : OpR X (binaryOp .Mult) rMulU := OpR.or op_mul op_rep
def rModP : R2 := rI (fun _ j => 0 < j) fun i j => .int (i % j)
theorem op_modP : OpR X (binaryOp .Mod) rModP := op_mod
def rDivP : R2 := rI CDiv fun i j => .int (i / j)
theorem op_fdivP : OpR X (binaryOp .FloorDiv) rDivP := op_fdiv
def rEqU (K : PySem.W.Frag) : R2 := fun x y H Q => rEq x y H Q ∨ rEqD K x y H Q
def rNeU (K : PySem.W.Frag) : R2 := fun x y H Q => rNe x y H Q ∨ rNeD K x y H Q
theorem op_eqU {k : Nat} (hr : Room k X.A) : OpR X (compareOp .Eq) (rEqU X.K) := OpR.or op_eq (op_eqD hr.units)
theorem op_neU {k : Nat} (hr : Room k X.A) : OpR X (compareOp .NotEq) (rNeU X.K) := OpR.or op_ne (op_neD hr.units)
def rIsiU (K : PySem.W.Frag) : List V → Hp → VK → Prop := fun xs H Q => rIsi K xs H Q ∨ rIsiT K xs H Q
theorem call_isiU : CallR X (.builtin "isinstance") (rIsiU X.K) := CallR.or call_isi call_isiT
end

/-! ### the counter of the draws: a list of one int, which is not told -/
def cellO (a : Addr) : HO := .ext fun h => ∃ (i : Int) (t : Tok) (n : Nat), h.get? a = some { cls := .type "list", data := .seq #[.int i t] n }
section
variable {X : Cx} {pins : List (Addr × Obj)} {σ : St} {H : Hp} {s : Shared} {a : Addr}
theorem cell_close {i : Int} (I : Inv X pins σ H s) (h : H a = some (.lst [.int i])) : Inv X pins σ (upd H a (cellO a)) s := by
  obtain ⟨its, n, r, ho, hz⟩ := I.lst h
  cases r with
  | cons r1 r2 =>
    cases r2
    obtain ⟨t, rfl⟩ := r1
    refine I.write (x := a) (e := a) (t' := s.toks) (h' := s.heap) (by rw [h]; trivial) (.inl rfl) (fun b u _ q => q) ⟨_, ho⟩ ?_
    exact ⟨⟨i, t, n, ho⟩, ⟨_, ho⟩, fun h1 h2 q k => by
      obtain ⟨i', t', n', e⟩ := q
      exact ⟨i', t', n', k _ e⟩⟩
theorem cell_open (I : Inv X pins σ H s) (h : H a = some (cellO a)) : ∃ i : Int, Inv X pins σ (upd H a (.lst [.int i])) s := by
  obtain ⟨⟨i, t, n, e⟩, _, _⟩ := I.hok a _ h
  refine ⟨i, I.write (x := a) (e := a) (t' := s.toks) (h' := s.heap) (by rw [h]; trivial) (.inl rfl) (fun b u _ q => q) ⟨_, e⟩ ?_⟩
  exact ⟨by show 1 ≤ sizeLine; rw [sizeLine_eq]; omega, [.int i t], n, .cons ⟨t, rfl⟩ .nil, e⟩
theorem upd_id {o : HO} (h : H a = some o) : upd H a o = H := by
  funext b
  by_cases hb : b = a
  · rw [hb, upd_same, h]
  · rw [upd_ne hb]
theorem cell_back {i : Int} {o : HO} (h : H a = some (cellO a)) (I : Inv X pins σ (upd H a (.lst [.int i])) s) : Inv X pins σ H s := by
  have J := cell_close (a := a) I upd_same
  rw [upd_upd, upd_id h] at J
  exact J
end
section
variable {X : Cx}
def rIxC : R2 := fun x y H Q => ∃ a, x = .ref a ∧ y = .int 0 ∧ H a = some (cellO a) ∧ ∀ n, Q (.int n) H
theorem ix_cell : IxR X rIxC := by
  intro value slice pins s σ H x y v u Q I rx ry h hs
  obtain ⟨a, rfl, rfl, ha, q⟩ := h
  obtain ⟨i, J⟩ := cell_open I ha
  refine thn (ix_list value slice pins s σ _ _ _ v u (fun w H' => H' = upd H a (.lst [.int i]) ∧ w = .int i) J rx ry ⟨a, [.int i], 0, .int i, rfl, rfl, SqL.of upd_same, rfl, rfl, rfl⟩ hs) fun w s1 hh => ?_
  obtain ⟨z, H', J', r', rfl, rfl⟩ := hh
  exact ⟨_, H, cell_back (o := cellO a) ha J', r', q i⟩
def rIxU (K : PySem.W.Frag) : R2 := fun x y H Q => rIxL K x y H Q ∨ rIxT K x y H Q ∨ rIxC x y H Q ∨ rIxS x y H Q
theorem ix_U : IxR X (rIxU X.K) := ix_list.or (ix_tup.or (ix_cell.or ix_str))
def rSetC : V → V → V → Hp → (Hp → Prop) → Prop := fun o i v H Q => ∃ a n, o = .ref a ∧ i = .int 0 ∧ v = .int n ∧ H a = some (cellO a) ∧ Q H
theorem set_cell : PSet X rSetC := by
  intro pins s σ H o i v ov iv u Q I ro ri rv h
  obtain ⟨a, n, rfl, rfl, rfl, ha, q⟩ := h
  obtain ⟨j, J⟩ := cell_open I ha
  refine thn (set_list pins s σ _ _ _ _ ov iv u (fun H' => H' = upd H a (.lst [.int n])) J ro ri rv ⟨a, [.int j], 0, 0, rfl, rfl, upd_same, rfl, upd_upd⟩) fun w s1 hh => ?_
  obtain ⟨H', J', rfl⟩ := hh
  exact ⟨H, cell_back (o := cellO a) ha J', q⟩
def rSetU : V → V → V → Hp → (Hp → Prop) → Prop := fun o i v H Q => rSetL o i v H Q ∨ rSetC o i v H Q
theorem set_U : PSet X rSetU := by
  intro pins s σ H o i v ov iv u Q I ro ri rv h
  rcases h with h | h
  · exact set_list pins s σ H o i v ov iv u Q I ro ri rv h
  · exact set_cell pins s σ H o i v ov iv u Q I ro ri rv h
/-- [0]: the counter is laid -/
def tCell : TE := fun _ H Q => ∀ p, H p = none → Q (.ref p) (upd H p (cellO p))
theorem pe_cell {i : Int} {k : Nat} {p1 p2 : Pos} : PE X (.List [.Constant (.int i) k p1] p2) tCell := by
  refine ⟨fun pins s σ H Q I h => ?_⟩
  have ha : PE X (.List [.Constant (.int i) k p1] p2) _ := pe_lst (pa_cons pe_int pa_nil)
  refine thn (ha.run pins s σ H (fun v H' => ∃ p, v = .ref p ∧ H p = none ∧ H' = upd H p (.lst [.int i])) I ?_) fun w s1 hh => ?_
  · exact ⟨by show 1 ≤ sizeLine; rw [sizeLine_eq]; omega, fun p hp => ⟨p, rfl, hp, rfl⟩⟩
  · obtain ⟨v, H', J, r, p, rfl, hp, rfl⟩ := hh
    have J' := cell_close (a := p) J upd_same
    rw [upd_upd] at J'
    exact ⟨_, _, J', r, h p hp⟩
end

/-! ### the rules with the written part named -/
section
variable {X : Cx} {a b c e o : Expr} {es : List Expr} {ta tb te to : TE} {t : TA} {pos apos : Pos}
theorem pi_UK (K : PySem.W.Frag) {tg l : Expr} {tl : TE} (hl : PE X l tl) (h : X.K = K := by rfl) : PI X tg l (iU K tl) := h ▸ pi_U hl
theorem op_addUK (K : PySem.W.Frag) (h : X.K = K := by rfl) : OpR X (binaryOp .Add) (rAddU K) := h ▸ op_addU
theorem op_eqUK (K : PySem.W.Frag) {k : Nat} (hr : Room k X.A) (h : X.K = K := by rfl) : OpR X (compareOp .Eq) (rEqU K) := h ▸ op_eqU hr
theorem op_neUK (K : PySem.W.Frag) {k : Nat} (hr : Room k X.A) (h : X.K = K := by rfl) : OpR X (compareOp .NotEq) (rNeU K) := h ▸ op_neU hr
theorem op_inK (K : PySem.W.Frag) (h : X.K = K := by rfl) : OpR X (compareOp .In) (rIn K false) := h ▸ op_in_seq
theorem op_notInK (K : PySem.W.Frag) (h : X.K = K := by rfl) : OpR X (compareOp .NotIn) (rIn K true) := h ▸ op_notIn_seq
theorem ix_UK (K : PySem.W.Frag) (h : X.K = K := by rfl) : IxR X (rIxU K) := h ▸ ix_U
theorem sl_listK (K : PySem.W.Frag) (h : X.K = K := by rfl) : SlR X (rSlL K) := h ▸ sl_list
def rLen (K : PySem.W.Frag) : List V → Hp → VK → Prop := fun xs H Q => ∃ x n, xs = [x] ∧ LenV K x H n ∧ Q (.int n) H
theorem call_lenK (K : PySem.W.Frag) (h : X.K = K := by rfl) : CallR X (.builtin "len") (rLen K) := h ▸ call_len
theorem cr_sumK (K : PySem.W.Frag) (hc : X.calm = true) (h : X.K = K := by rfl) : CallR X (.builtin "sum") (rSum K) := h ▸ cr_sum hc
theorem cr_maxK (K : PySem.W.Frag) (hc : X.calm = true) (h : X.K = K := by rfl) : CallR X (.builtin "max") (rMax K) := h ▸ cr_max hc
theorem cr_minK (K : PySem.W.Frag) (hc : X.calm = true) (h : X.K = K := by rfl) : CallR X (.builtin "min") (rMin K) := h ▸ cr_min hc
theorem cr_allK (K : PySem.W.Frag) (hc : X.calm = true) (h : X.K = K := by rfl) : CallR X (.builtin "all") (rAll K) := h ▸ cr_all hc
theorem cr_anyK (K : PySem.W.Frag) (hc : X.calm = true) (h : X.K = K := by rfl) : CallR X (.builtin "any") (rAny K) := h ▸ cr_any hc
def rListOf (K : PySem.W.Frag) : List V → Hp → VK → Prop := fun xs H Q => ∃ p ys, xs = [.ref p] ∧ (SqL K H p ys ∨ SqT K H p ys) ∧ ∀ l, H l = none → Q (.ref l) (upd H l (.lst ys))
theorem call_list_ofK (K : PySem.W.Frag) (h : X.K = K := by rfl) : CallR X (.type "list") (rListOf K) := h ▸ call_list_of
def rInt1 : List V → Hp → VK → Prop := fun xs H Q => (∃ i, xs = [.int i] ∧ Q (.int i) H) ∨ ∃ k, xs = [.bl k] ∧ Q (.int (if k then 1 else 0)) H
theorem call_int1D : CallR X (.type "int") rInt1 := call_int1
def rMin2 : List V → Hp → VK → Prop := fun xs H Q => ∃ i j, xs = [.int i, .int j] ∧ Q (.int (if j < i then j else i)) H
theorem call_min2D (hc : X.calm = true) : CallR X (.builtin "min") rMin2 := call_min2 hc
def rMax2 : List V → Hp → VK → Prop := fun xs H Q => ∃ i j, xs = [.int i, .int j] ∧ Q (.int (if j > i then j else i)) H
theorem call_max2D (hc : X.calm = true) : CallR X (.builtin "max") rMax2 := call_max2 hc
def rAbs : List V → Hp → VK → Prop := fun xs H Q => ∃ i, xs = [.int i] ∧ Q (.int (if i < 0 then -i else i)) H
theorem call_absD : CallR X (.builtin "abs") rAbs := call_abs
def rIsN : R2 := fun x y H Q => y = .non ∧ Q (.bl (decide (x = .non))) H
theorem op_isND : OpR X (compareOp .Is) rIsN := op_isN
def rNotN : R2 := fun x y H Q => y = .non ∧ Q (.bl (!decide (x = .non))) H
theorem op_notND : OpR X (compareOp .IsNot) rNotN := op_notN
def rTupleOf (K : PySem.W.Frag) : List V → Hp → VK → Prop := fun xs H Q => ∃ p ys, xs = [.ref p] ∧ ((SqL K H p ys ∧ ∀ l, H l = none → Q (.ref l) (upd H l (.tup ys))) ∨ (SqT K H p ys ∧ Q (.ref p) H))
theorem call_tuple_ofK (K : PySem.W.Frag) (h : X.K = K := by rfl) : CallR X (.type "tuple") (rTupleOf K) := h ▸ call_tuple_of
theorem call_isiUK (K : PySem.W.Frag) (h : X.K = K := by rfl) : CallR X (.builtin "isinstance") (rIsiU K) := h ▸ call_isiU
def tTruth (K : PySem.W.Frag) (ta : TE) : TT := fun σ H Q => ta σ H fun x H1 => ∃ k, TruV K x H1 k ∧ Q k H1
theorem pt_truthK (K : PySem.W.Frag) (ha : PE X a ta) (he : ∀ whole, isTrue a X.env whole = (do let v ← whole; standAt a.pos; holding [v] (truthy v)) := by intro _; rfl) (h : X.K = K := by rfl) : PT X a (tTruth K ta) := h ▸ pt_truth ha he
theorem pg_tupK (K : PySem.W.Frag) (n : Nat) {k : Nat} {t : TGs} (hc : X.calm = true) (hg : PGs X es t)
    (hn : (assignEach es X.env).length = n := by rfl) (hst : (assignEach es X.env).findIdx? (·.1) = none := by rfl) (h : X.K = K := by rfl) : PG X (.Tuple es k pos) (gTup K n t) := h ▸ pg_tup hc hg hn hst
theorem pe_fldK (K : PySem.W.Frag) {f : Str} (he : PE X e ta) (hb : attributeBase e f X.env (eval e X.env) = eval e X.env) (h : X.K = K := by rfl) : PE X (.Attribute e f pos) (tFld K ta f) := h ▸ pe_fld he hb
theorem pe_revLK (K : PySem.W.Frag) {k : Nat} {p1 p2 p3 : Pos} (he : PE X e te) (h : X.K = K := by rfl) : PE X (.Subscript e (.Slice none none (some (.UnaryOp .USub (.Constant (.int 1) k p1) p2)) p3) pos) (tRevL K te) := h ▸ pe_revL he
section
variable {T id : String} {name : Str} {r : V → List V → Hp → VK → Prop}
theorem pe_bm0K (K : PySem.W.Frag) {cpos : Pos} (pa : PlainAttrs T) (slot : Slot T name id) (hty : typeOf (.builtin id) = pure (.type "method_descriptor")) (hm : MtR X id r) (ho : PE X o to)
    (hb : attributeBase o name X.env (eval o X.env) = eval o X.env := by rfl) (hl : (apos.endLine == cpos.line) = true := by rfl) (h : X.K = K := by rfl) : PE X (.Call (.Attribute o name apos) [] [] cpos) (tBM0 K T r to) := h ▸ pe_bm0 pa slot hty hm ho hb hl
theorem pe_bmK (K : PySem.W.Frag) {cpos : Pos} (pa : PlainAttrs T) (slot : Slot T name id) (hty : typeOf (.builtin id) = pure (.type "method_descriptor")) (hm : MtR X id r) (ho : PE X o to) (ha : PA X (e :: es) t)
    (hb : attributeBase o name X.env (eval o X.env) = eval o X.env := by rfl)
    (hf : ((backTo cpos (starEach (e :: es) X.env)).all (fun x => !x.1) && (backToKw cpos (keywordEach [] X.env)).all (fun x => x.1.isSome) && decide ((e :: es).length + ([] : List Keyword).length + (if ([] : List Keyword).isEmpty then 0 else 1) < 30)) = true := by rfl)
    (hl : (apos.endLine == cpos.line) = true := by rfl) (hs : starEach (e :: es) X.env = (false, eval e X.env) :: starEach es X.env := by rfl) (hp : (backTo cpos (starEach es X.env)).any (·.1) = false := by rfl) (h : X.K = K := by rfl) :
    PE X (.Call (.Attribute o name apos) (e :: es) [] cpos) (tBM K T r to t) := h ▸ pe_bm pa slot hty hm ho ha hb hf hl hs hp
theorem mt_lcountK (K : PySem.W.Frag) (h : X.K = K := by rfl) : MtR X "list.count" (rCntI K) := h ▸ mt_lcount
theorem mt_indexK (K : PySem.W.Frag) (h : X.K = K := by rfl) : MtR X "list.index" (rIndex K) := h ▸ mt_index
end
end
/-- two statements with a word between: the ways of the first are joined -/
def tCut (t u : TS) : TS := fun D σ H => ∃ M : St → Hp → Prop, t { D with nx := M } σ H ∧ ∀ σ' H', M σ' H' → u D σ' H'
theorem pss_cut {X : Cx} {st : Stmt} {rest : List Stmt} {t u : TS} (h1 : PS X st t) (h2 : PSs X rest u) : PSs X (st :: rest) (tCut t u) := by
  refine ⟨fun pins s σ H D I h => ?_⟩
  obtain ⟨M, h, k⟩ := h
  refine wpAny_execs_cons (thn (h1.run pins s σ H { D with nx := M } I h) fun f s1 z => ?_)
  cases f with
  | next => exact let ⟨σ1, H1, I1, z1⟩ := z; h2.run pins s1 σ1 H1 D I1 (k _ _ z1)
  | ret v => exact z
  | brk => exact z
  | cont => exact z
/-! ### calls -/
section
variable {X : Cx} {CX : CXT} {k : Nat} {f C : Addr} {fd : FuncData} {ps ks : List Str} {sp : Sp} {E : XK} {x m : Str} {p pos apos kpos : Pos} {e o : Expr} {es : List Expr} {kws : List Keyword} {te ta : TE} {t tk : TA} {g : List Value → List Value → List Value} {gV : List V → List V → List V}
/-- f(k = v, ..) -/
theorem pe_callK0 (F : FnOk X.prog X.w X.K X.mg X.base CX k f fd ps sp) (hr : Room k X.A) (hg : Gl X x) (hm : X.mg x = some (.ref f)) (hk : PySem.W.keepIn X.K (.ref f) = true)
    (hb : KBinds X.K fd ps ks g gV) (hx : Passes CX X E) (hkw : PK X kws tk)
    (hall : (backToKw pos (keywordEach kws X.env)).all (·.1.isSome) = true := by rfl) (hks : (backToKw pos (keywordEach kws X.env)).filterMap (·.1) = ks := by rfl)
    (hdb : (x == ("__debug__" : Str)) = false := by decide)
    (hpl : ((backTo pos (starEach [] X.env)).any (·.1) || (backToKw pos (keywordEach kws X.env)).any (·.1.isNone)) = false := by rfl) :
    PE X (.Call (.Name x p) [] kws pos) (tCallK sp gV E tNil tk) := by
  refine ⟨fun pins s σ H Q I h => wpAny_Call_Name_kw (ld_glob I hg hm ?_ hdb)⟩
  refine PySem.W.callWith_KW0 (h₀ := X.base) I.ok.mod.kin hk hall ?_ hpl
  refine thn (hkw.run pos pins s σ H _ I h) fun ws s2 ⟨zs, H2, I2, rz, q2⟩ => ⟨I2.kIn, ?_⟩
  rw [hks]
  exact run_fnk (us := []) F hr hb hx I2 .nil rz q2
theorem passLF : Passes (L2.CX X.prog X.w) X (fun _ _ _ => False) := passL
end

/-! ### exceptions of the program's own classes -/
/-- X(), a class without an __init__ of its own -/
structure XOwn (K : PySem.W.Frag) (C : Addr) : Prop where
  ex : PySem.W.excIn K C [.type "ValueError", .type "Exception", .type "BaseException", .type "object"] "ValueError.__new__" = true
  kp : PySem.W.keepIn K (.ref C) = true
  sb : PySem.W.subIn K (.ref C) (.type "BaseException") = some true
  ty : PySem.W.typeIn K (.ref C) = some (.type "type")
theorem pmk_own0 {X : Cx} {x : Str} {C : Addr} {p pos : Pos} (q : XOwn X.K C) (gC : X.mg x = some (.ref C)) (hg : Gl X x := by rfl)
    (hdb : (x == ("__debug__" : Str)) = false := by decide) : PMk X (.Call (.Name x p) [] [] pos) (fun _ H Q => Q (.ref C) none H) := by
  intro pins s σ H Q I h
  refine wpAny_Call_Name_kw (ld_glob I hg gC ?_ hdb)
  refine PySem.W.callWith_K0 I.kIn q.kp ?_
  obtain ⟨bm, N, nm, qn, bs, hdct, sn, sub, ab, col, dd, k0, k1, k2, k3, k5, mN, hC, hN, hni, T⟩ := exc_obj I.kIn q.ex
  refine wpAny_call_exc_subT PySem.F.excBase_ValueError T hC hN hni (fun h' e hm => ?_) (by show 0 ≤ sizeLine; omega)
  exact mk_of I hm (raises_own q.sb q.ty) h (I.hok.gone hm.new)
/-- the exception at a stands in the context -/
structure XPin (X : Cx) (a : Addr) (cls : Value) (d : Option Addr) : Prop where
  ex : ∃ (oe : Obj) (vs : Array Value), (a, oe) ∈ X.pn ∧ Zc cls d oe ∧ oe.data = .fields vs
theorem xpin_suite {X : Cx} {a : Addr} {oe : Obj} {cls : Value} {d : Option Addr} {pn : List (Addr × Obj)} (hz : Zc cls d oe) (hf : ∃ vs, oe.data = .fields vs) : XPin (X.suite a ((a, oe) :: pn)) a cls d := by
  obtain ⟨vs, hv⟩ := hf
  exact ⟨oe, vs, List.mem_cons_self, hz, hv⟩
/-- what the class says, that isinstance and the fields are read rightly -/
structure XCls (K : PySem.W.Frag) (D : Addr) : Prop where
  hc : (PySem.W.clsIn K D).isSome = true
  hg : PySem.W.findIn K (.ref D) "__getattribute__" = some (some (.builtin "BaseException.__getattribute__"))
  hk : PySem.W.findIn K (.ref D) "__getattr__" = some none
  hs : PySem.W.subIn K (.ref D) (.type "BaseException") = some true
  hd : PySem.W.hasDictIn K D = true
  ha : PySem.W.findIn K (.ref D) "__class__" = some (some (.builtin "object.__class__"))
  hn : PySem.W.specialIn K (.builtin "object.__class__") "__get__" = some (some (.builtin "getset_descriptor.__get__"))
  ht : PySem.W.takesIn K (.builtin "object.__class__") = some true
  hm : PySem.W.mroIn K D (.type "object") = some true
/-- the exception's own dict, as H tells it -/
def XDict (H : Hp) (d : Option Addr) (fs : List (Str × V)) : Prop := (d = none ∧ fs = []) ∨ ∃ dd, d = some dd ∧ H dd = some (.xd fs)
section
variable {X : Cx} {a : Addr} {cls : Value} {d : Option Addr} {pins : List (Addr × Obj)} {σ : St} {H : Hp} {s : Shared}
theorem XPin.inst {D : Addr} {fs : List (Str × V)} (p : XPin X a cls d) (I : Inv X pins σ H s) (hc : cls = .ref D) (hd : XDict H d fs) : ∃ (ox : Obj) (od : Option Obj), PySem.W.InstAt s.heap a ox D od ∧
    (∀ dd, d = some dd → ∃ o, od = some o ∧ ∃ mA : Str → Option Value, (∀ name : Str, PySem.W.lookIn name o = some (mA name)) ∧ ∀ f : Str, RelO (fs.lookup f) (mA f)) := by
  obtain ⟨⟨oc, odd, dat, sl⟩, vs, hp, ⟨h1, h2⟩, hv⟩ := p.ex
  dsimp only at h1 h2 hv
  subst hc
  subst hv
  obtain ⟨hget, _⟩ := I.pin _ (List.mem_append_left _ hp)
  rcases hd with ⟨rfl, _⟩ | ⟨dd, rfl, hd⟩
  · subst h1 h2
    exact ⟨_, none, ⟨hget, rfl, rfl, trivial⟩, fun dd z => nomatch z⟩
  · have hx : ObjOk X.prog X.w H s.heap dd (.xd fs) := I.hok dd _ hd
    obtain ⟨mA, hns, hr⟩ := hx
    obtain ⟨od, ho, hl⟩ := lookIn_ns hns
    subst h1 h2
    exact ⟨_, some od, ⟨hget, rfl, rfl, ho⟩, fun dd' z => ⟨od, rfl, mA, hl, hr⟩⟩
/-- isinstance(e, C), isinstance(e, (C, ..)) -/
def rIsX (K : PySem.W.Frag) (a : Addr) (cls : Value) (d : Option Addr) : List V → Hp → VK → Prop := fun xs H Q => ∃ (D : Addr) (fs : List (Str × V)) (c : V) (b : Bool), xs = [.ref a, c] ∧ cls = .ref D ∧ XCls K D ∧ XDict H d fs ∧
  ((∃ u, ClsV c u ∧ PySem.W.kitOne K (.ref D) u = some b) ∨ ∃ tp cs us, c = .ref tp ∧ H tp = some (.tup cs) ∧ Paired ClsV cs us ∧ PySem.W.kitAny K (.ref D) us = some b) ∧ Q (.bl b) H
theorem call_isX (p : XPin X a cls d) : CallR X (.builtin "isinstance") (rIsX X.K a cls d) := by
  intro pins s σ H xs us Q I r h
  obtain ⟨D, fs, c, b, rfl, hc, C, hd, hh, q⟩ := h
  obtain ⟨ox, od, J, _⟩ := p.inst I hc hd
  obtain ⟨u1, u2, rfl, r1, r2⟩ := vals2 r
  cases (show u1 = Value.ref a from r1)
  have Z := PySem.W.kitx_exc (x := a) (ox := ox) (od := od) C.hc C.hg C.hk C.hs C.ha C.hn C.ht C.hm
  rcases hh with ⟨u, k, e⟩ | ⟨tp, cs, ws, rfl, hT, k, e⟩
  · have e2 := k.eq r2
    subst e2
    exact PySem.W.kia_one Z I.kIn J e (fun z => nomatch z) fun tk => ⟨.bl b, H, I.tok tk, rfl, q⟩
  · cases (show u2 = Value.ref tp from r2)
    obtain ⟨_, its, rv, o, h1, h2, n, h3⟩ := (show ObjOk X.prog X.w H s.heap tp (.tup cs) from I.hok tp _ hT)
    have e3 := ClsV.all k rv
    subst e3
    obtain ⟨oc, od2, dt, sl⟩ := o
    simp only at h2 h3
    subst h2 h3
    exact PySem.W.kia_tup Z I.kIn J h1 e (fun z => nomatch z) fun tk => ⟨.bl b, H, I.tok tk, rfl, q⟩
/-- e.f -/
def tXF (K : PySem.W.Frag) (a : Addr) (cls : Value) (d : Option Addr) (f : Str) (te : TE) : TE := fun σ H Q => te σ H fun x H1 => ∃ (D dd : Addr) (fs : List (Str × V)) (v : V), x = .ref a ∧ cls = .ref D ∧ XCls K D ∧ d = some dd ∧ H1 dd = some (.xd fs) ∧
  PySem.W.findIn K (.ref D) f = some none ∧ fs.lookup f = some v ∧ Q v H1
theorem pe_xF {e : Expr} {te : TE} {pos : Pos} {f : Str} (p : XPin X a cls d) (he : PE X e te) (hb : attributeBase e f X.env (eval e X.env) = eval e X.env := by rfl) : PE X (.Attribute e f pos) (tXF X.K a cls d f te) := by
  refine ⟨fun pins s σ H Q I h => ?_⟩
  refine attr_of hb (thn (he.run pins s σ H _ I h) fun u s1 hh => ?_)
  obtain ⟨x, H1, I1, rx, D, dd, fs, v, ex, hc, C, rfl, ea, hno, l, q⟩ := hh
  subst ex
  obtain rfl : u = Value.ref a := rx
  obtain ⟨ox, od, J, hq⟩ := p.inst I1 hc (.inr ⟨dd, rfl, ea⟩)
  obtain ⟨o, rfl, mA, hl, hr⟩ := hq dd rfl
  obtain ⟨u, hu, ru⟩ := RelO.some_of (v := v) (o := mA f) (by rw [← l]; exact hr f)
  exact HandSPX.exc_get I1.kIn J C.hg C.hk C.hs (PySem.W.findObj_own C.hd hno rfl (by rw [hl, hu])) (handed_of ru) ⟨v, H1, I1.tok _, ru, q⟩
end
theorem call_isXK {X : Cx} (K : PySem.W.Frag) {a : Addr} {cls : Value} {d : Option Addr} (p : XPin X a cls d) (h : X.K = K := by rfl) : CallR X (.builtin "isinstance") (rIsX K a cls d) := h ▸ call_isX p
theorem pe_xFK {X : Cx} (K : PySem.W.Frag) {a : Addr} {cls : Value} {d : Option Addr} {e : Expr} {te : TE} {pos : Pos} {f : Str} (p : XPin X a cls d) (he : PE X e te) (hb : attributeBase e f X.env (eval e X.env) = eval e X.env := by rfl) (h : X.K = K := by rfl) : PE X (.Attribute e f pos) (tXF K a cls d f te) := h ▸ pe_xF p he hb
/-! a def that is called in a suite with the exception that is handled there -/
abbrev SpX := Addr → Value → Option Addr → Sp
structure FnE (P : Program) (w : World) (K : PySem.W.Frag) (mg : Str → Option Value) (base : Heap) (k : Nat) (f : Addr) (fd : FuncData) (ps : List Str) (sp : SpX) : Prop where
  len : ∀ a cls d vs H Q E, sp a cls d vs H Q E → vs.length = ps.length
  run : ∀ (A : Around) (outer : List Env) (s : Shared) (H : Hp) (args : Args) (us : List Value) (vs : List V) (Q : VK) (a : Addr) (oe : Obj) (cls : Value) (d : Option Addr), L2H.RoomH k A → Zc cls d oe → (∃ v, oe.data = .fields v) → L2H.PinOk outer H s (a, oe) →
    Env0 P w K mg base A outer s H → BindsTo s fd args (ps.zip us) → Vals vs us → sp a cls d vs H Q (fun _ _ _ => False) → codeAny (model P w) A (.call (.ref f) args) (CR (L2.CX P w) outer P w H s Q (fun _ _ _ => False)) s
abbrev cxE (P : Program) (w : World) (K : PySem.W.Frag) (mg : Str → Option Value) (base : Heap) (N : List Str) (qual : Str) (scope : Scope) (f : Addr) (cd : Value) (A : Around) (outer : List Env) (s : Shared) (H : Hp) (p : Addr × Obj) : Cx :=
  L2H.cxH (L2.CX P w) P w K mg base N qual scope f cd A outer s H (fun _ _ _ => False) p
theorem Fun.okE {P : Program} {w : World} {K : PySem.W.Frag} {mg : Str → Option Value} {base : Heap} {x qual : Str} {st : Stmt} {f : Addr} {fd : FuncData} {N ps : List Str} {k : Nat} {sp : SpX} (F : Fun K x qual st f fd) (S : FnScope N ps (defScope st))
    (len : ∀ a cls d vs H Q E, sp a cls d vs H Q E → vs.length = ps.length)
    (hbody : ∀ (cdv : Value) (A : Around) (outer : List Env) (s : Shared) (H : Hp) (vs : List V) (Q : VK) (a : Addr) (oe : Obj) (cls : Value) (d : Option Addr), Zc cls d oe → (∃ v, oe.data = .fields v) → L2H.RoomH k (A.deeper (envOfC qual (defScope st) s.heap.objs.size f cdv)) →
      sp a cls d vs H Q (fun _ _ _ => False) → ∃ t, PSs (cxE P w K mg base N qual (defScope st) f cdv A outer s H (a, oe)).nox (defBody st) t ∧ t { nx := fun _ H' => Q .non H', rt := Q } (start N vs) H) : FnE P w K mg base (k + 1) f fd ps sp := by
  obtain ⟨oc, od, kV, doc, pm, an, cdv, ct, osl, rfl, lk, hcd⟩ := F.ex
  refine ⟨len, fun A outer s H args us vs Q a oe cls d hr hz hf hpin e0 hb r hsp => ?_⟩
  have hl := len _ _ _ _ _ _ _ hsp
  have KX : K.In s.heap := e0.mod.kin.keeps fun b o e => (e0.bs b o e).1
  have lim : s.heap.NoLimit := e0.mod.nolimit.keeps fun b o e => (e0.bs b o e).1
  have hk : ∀ y ∈ ps.zip us, (defScope st).names.lookup y.1 = some .local ∨ ((defScope st).names.lookup y.1 = some .cell ∧ ((cellsFrom (s.heap.objs.size + 1) (defScope st).names []).lookup y.1).isSome = true) := fun ⟨n, v⟩ hy =>
    (S.par n (List.of_mem_zip hy).1).elim .inl fun z => .inr ⟨z, PySem.W.cellsFrom_some _ _ _ (.inl z)⟩
  refine codeAny_call_function hr.depth (KX _ _ lk) rfl S.co S.gen rfl (PySem.W.codeRec_of KX hcd) (hb _ _ _ _ (wpAny_newFunctionEnv_cells S.kind hk fun env he s1 x => ?_))
  subst he
  refine ⟨lim.keeps x.toInCall.keep, codeAny_func ?_⟩
  obtain ⟨t, ht, hq⟩ := hbody cdv A outer s H vs Q a oe cls d hz hf (hr.deeper _) hsp
  have I := (L2H.inv_startH (CX := L2.CX P w) (E := fun _ _ _ => False) (qual := qual) (f := f) (cd := cdv) S hpin e0 hl r x)
  refine wpAny_mono (ht.nox.run [] s1 (start N vs) H _ I hq) (fun fl s' hs => ?_) fun e s' hs => hs
  cases fl with
  | ret u => exact let ⟨v, σ', H', J, rv, z⟩ := hs; ⟨v, H', J.os, J.bare, J.base, J.hok, rv, z⟩
  | next => exact let ⟨σ', H', J, z⟩ := hs; ⟨V.non, H', J.os, J.bare, J.base, J.hok, rfl, z⟩
  | brk => exact let ⟨_, _, _, z⟩ := hs; False.elim z
  | cont => exact let ⟨_, _, _, z⟩ := hs; False.elim z
theorem xpin_def {P : Program} {w : World} {K : PySem.W.Frag} {mg : Str → Option Value} {base : Heap} {N : List Str} {qual : Str} {scope : Scope} {f : Addr} {cd : Value} {A : Around} {outer : List Env} {s : Shared} {H : Hp} {a : Addr} {oe : Obj} {cls : Value} {d : Option Addr} (hz : Zc cls d oe) (hf : ∃ vs, oe.data = .fields vs) :
    XPin (cxE P w K mg base N qual scope f cd A outer s H (a, oe)).nox a cls d := by
  obtain ⟨vs, hv⟩ := hf
  exact ⟨oe, vs, List.mem_cons_self, hz, hv⟩
section
variable {X : Cx} {k : Nat} {f a : Addr} {fd : FuncData} {ps : List Str} {sp : SpX} {x : Str} {p pos : Pos} {e : Expr} {es : List Expr} {t : TA} {cls : Value} {d : Option Addr}
def tCallE (sp : SpX) (a : Addr) (cls : Value) (d : Option Addr) (t : TA) : TE := fun σ H Q => t σ H fun vs H1 => sp a cls d vs H1 Q (fun _ _ _ => False)
theorem pe_callE (F : FnE X.prog X.w X.K X.mg X.base k f fd ps sp) (hr : L2H.RoomH k X.A) (xp : XPin X a cls d) (hg : Gl X x) (hm : X.mg x = some (.ref f)) (hk : PySem.W.keepIn X.K (.ref f) = true) (hb : Binds X.K fd ps [])
    (ha : PA X (e :: es) t) (hdb : (x == ("__debug__" : Str)) = false := by decide) (he : starEach (e :: es) X.env = (false, eval e X.env) :: starEach es X.env := by rfl) (hpl : (backTo pos (starEach es X.env)).any (·.1) = false := by rfl) :
    PE X (.Call (.Name x p) (e :: es) [] pos) (tCallE sp a cls d t) := by
  refine ⟨fun pins s σ H Q I h => wpAny_Call_Name_kw (ld_glob I hg hm ?_ hdb)⟩
  refine PySem.W.callWith_K (h₀ := X.base) I.ok.mod.kin hk (thn (ha.run pos pins s σ H _ I h) fun us s1 ⟨vs, H1, I1, r, hs⟩ => ⟨I1.kIn, ?_⟩) he hpl
  obtain ⟨oe, v, hp, hz, hv⟩ := xp.ex
  have hl : us.length = ps.length := by rw [← r.length]; exact F.len _ _ _ _ _ _ _ hs
  have b := hb s1 us I1.kIn (by rw [List.append_nil]; exact hl)
  rw [List.append_nil] at b
  have P1 := I1.pin (a, oe) (List.mem_append_left _ hp)
  have hpin : L2H.PinOk X.stack H1 s1 (a, oe) := ⟨P1.1, P1.2.1, fun hm => (List.mem_cons.mp (I1.stkSub a hm)).elim P1.2.2.1 P1.2.2.2.1, P1.2.2.2.2⟩
  refine wpAny_call (codeAny_mono (F.run X.A X.stack s1 H1 ⟨us, []⟩ us vs Q a oe cls d hr hz ⟨v, hv⟩ hpin I1.env0 b r hs) fun r s' hq => ?_)
  cases r with
  | error er => exact (passLF (X := X)) pins σ H1 s1 er s' I1 hq
  | ok fl =>
    cases fl with
    | ret u => exact I1.after hq
    | next => exact False.elim hq
    | brk => exact False.elim hq
    | cont => exact False.elim hq
end
end EL

namespace EL
open PySem PySem.Spec PyProof.Rows L2

/-! ### heaps that grow -/
theorem _root_.L2.Same.upd {H H' : Hp} {p : Addr} {o : HO} (h : Same H H') (n : H p = none) : Same H (L2.upd H' p o) := fun b u e => by
  rw [upd_ne (ne_of_none e n)]
  exact h b u e
theorem _root_.L2.Same.new {H : Hp} {p : Addr} {o : HO} (n : H p = none) : Same H (L2.upd H p o) := Same.upd (Same.refl H) n
theorem _root_.L2.Same.rd {H H' : Hp} {a : Addr} {u : HO} (e : Same H H') (h : Rd H a u) : Rd H' a u := h.elim (fun z => .inl (e _ _ z)) fun ⟨o, z⟩ => .inr ⟨o, e _ _ z⟩
theorem _root_.L2.Same.seqT {K : PySem.W.Frag} {H H' : Hp} {a : Addr} {xs : List V} (e : Same H H') (h : SqT K H a xs) : SqT K H' a xs := h.elim (fun z => .inl (e.rd z)) .inr
mutual
theorem dpSame {K : PySem.W.Frag} {H H' : Hp} (e : Same H H') : ∀ {d : PyData} {v : V}, Dp K H v d → Dp K H' v d
  | .none, _, h => by cases h; exact .non
  | .bool b, _, h => by cases h; exact .bl b
  | .int i, _, h => by cases h; exact .int i
  | .str x, _, h => by cases h; exact .str x
  | .list ds, _, h => by
    cases h with
    | lst hs ha => exact .lst (e.seq hs) (dpAllSame e ha)
  | .tuple ds, _, h => by
    cases h with
    | tup hs ha => exact .tup (e.seqT hs) (dpAllSame e ha)
  | .dict _, _, h => by cases h
theorem dpAllSame {K : PySem.W.Frag} {H H' : Hp} (e : Same H H') : ∀ {ds : List PyData} {vs : List V}, DpAll K H vs ds → DpAll K H' vs ds
  | [], _, h => by cases h; exact .nil
  | d :: ds, _, h => by
    cases h with
    | cons h1 h2 => exact .cons (dpSame e h1) (dpAllSame e h2)
end
theorem _root_.L2.Same.dp {K : PySem.W.Frag} {H H' : Hp} (e : Same H H') {d : PyData} {v : V} (h : Dp K H v d) : Dp K H' v d := dpSame e h
theorem _root_.L2.Same.dpAll {K : PySem.W.Frag} {H H' : Hp} (e : Same H H') {d : List PyData} {v : List V} (h : DpAll K H v d) : DpAll K H' v d := dpAllSame e h
theorem dpInts {K : PySem.W.Frag} {H : Hp} : ∀ xs : List Int, DpAll K H (xs.map V.int) (xs.map PyData.int)
  | [] => .nil
  | x :: xs => .cons (.int x) (dpInts xs)

theorem strans {H H1 H2 : Hp} (b : Same H1 H2) (a : Same H H1) : Same H H2 := a.trans b
theorem same_at {H H' : Hp} {a : Addr} {o : HO} (s : Same H H') (e : H a = some o) : H' a = some o := s _ _ e
/-! ### what a call gives -/
inductive Out where
  | ret (v : V)
  | err (C : Addr) (f : Str) (v : V)
  | err0 (C : Addr)
  | tup (xs : List V)
  | lst (R : Hp → List V → Prop)
def Gives (H : Hp) (Q : VK) (E : XK) : Out → Prop
  | .ret v => ∀ H', Same H H' → Q v H'
  | .err C f v => ∀ H' d, Same H H' → H' d = some (.xd [(f, v)]) → E (.ref C) (some d) H'
  | .err0 C => ∀ H', Same H H' → E (.ref C) none H'
  | .tup xs => ∀ H' p, Same H H' → H' p = some (.tup xs) → Q (.ref p) H'
  | .lst R => ∀ H' p vs, Same H H' → H p = none → H' p = some (.lst vs) → R H' vs → Q (.ref p) H'
theorem Gives.mono {H H' : Hp} {Q : VK} {E : XK} {o : Out} (h : Gives H Q E o) (s : Same H H') : Gives H' Q E o := by
  cases o with
  | ret v => exact fun H2 s2 => h H2 (s.trans s2)
  | err C f v => exact fun H2 d s2 e => h H2 d (s.trans s2) e
  | err0 C => exact fun H2 s2 => h H2 (s.trans s2)
  | tup xs => exact fun H2 p s2 e => h H2 p (s.trans s2) e
  | lst R => exact fun H2 p vs s2 n e r => h H2 p vs (s.trans s2) (s.free n) e r

theorem gret {H : Hp} {Q : VK} {E : XK} {o : Out} {v : V} (e : o = .ret v) (k : ∀ H', Same H H' → Q v H') : Gives H Q E o := by
  subst e
  exact k
theorem gerr {H : Hp} {Q : VK} {E : XK} {o : Out} {C : Addr} {f : Str} {v : V} (e : o = .err C f v) (k : ∀ H' d, Same H H' → H' d = some (.xd [(f, v)]) → E (.ref C) (some d) H') : Gives H Q E o := by
  subst e
  exact k
theorem gerr0 {H : Hp} {Q : VK} {E : XK} {o : Out} {C : Addr} (e : o = .err0 C) (k : ∀ H', Same H H' → E (.ref C) none H') : Gives H Q E o := by
  subst e
  exact k
/-! ### the readings, step by step -/
def Tru (K : PySem.W.Frag) (x : V) (H : Hp) (R : Bool → Prop) : Prop := ∃ k, TruV K x H k ∧ R k
def IsBl (x : V) (R : Bool → Prop) : Prop := ∃ k, x = .bl k ∧ R k
def Br (b : Bool) (A B : Prop) : Prop := if b = true then A else B
def NewO (o : HO) (n : Nat) (H : Hp) (Q : VK) : Prop := n ≤ sizeLine ∧ ∀ p, H p = none → Q (.ref p) (upd H p o)
def Par2 (vs : List V) (R : V → V → Prop) : Prop := ∃ v w, vs = [v, w] ∧ R v w
section
variable {D : Ends} {σ : St} {H : Hp} {Q : VK} {K : PySem.W.Frag} {ta tb tc te : TE} {t u : TS} {c c' : TT} {r : R2} {g : TG}
theorem tSeq_i (h : t { D with nx := u D } σ H) : tSeq t u D σ H := h
theorem tNext_i (h : D.nx σ H) : tNext D σ H := h
theorem tBreak_i (h : D.bk σ H) : tBreak D σ H := h
theorem tCont_i (h : D.ct σ H) : tCont D σ H := h
theorem tAsg_i (h : te σ H (fun x H1 => g x σ H1 D.nx)) : tAsg te g D σ H := h
theorem tDrop_i (h : te σ H fun _ H1 => D.nx σ H1) : tDrop te D σ H := h
theorem tRet_i (h : te σ H D.rt) : tRet te D σ H := h
theorem tRetN_i (h : D.rt .non H) : tRetN D σ H := h
theorem tIfS_i (h : c σ H fun b H1 => Br b (t D σ H1) (u D σ H1)) : tIfS c t u D σ H := h
theorem gName_i {i : Nat} {v : V} {R : St → Hp → Prop} (h : R (σ.set i (some v)) H) : gName i v σ H R := h
theorem tVar_i {i : Nat} {v : V} (e : σ[i]? = some (some v)) (h : Q v H) : tVar i σ H Q := ⟨v, e, h⟩
theorem tC_i {v : V} (h : Q v H) : tC v σ H Q := h
theorem tOp_i (h : ta σ H fun x H1 => tb σ H1 fun y H2 => r x y H2 Q) : tOp r ta tb σ H Q := h
theorem tUn_i {r : V → Hp → VK → Prop} (h : ta σ H fun x H1 => r x H1 Q) : tUn r ta σ H Q := h
theorem tNil_i {R : List V → Hp → Prop} (h : R [] H) : tNil σ H R := h
theorem tCons_i {tr : TA} {R : List V → Hp → Prop} (h : ta σ H fun x H1 => tr σ H1 fun xs H2 => R (x :: xs) H2) : tCons ta tr σ H R := h
theorem tTest_i {R : Bool → Hp → Prop} (h : te σ H fun x H' => IsBl x fun k => R k H') : tTest te σ H R := h
theorem tTruth_i {R : Bool → Hp → Prop} (h : te σ H fun x H1 => Tru K x H1 fun k => R k H1) : tTruth K te σ H R := h
theorem tAnd_i {R : Bool → Hp → Prop} (h : c σ H fun b H1 => Br b (c' σ H1 R) (R false H1)) : tAnd c c' σ H R := h
theorem tOr_i {R : Bool → Hp → Prop} (h : c σ H fun b H1 => Br b (R true H1) (c' σ H1 R)) : tOr c c' σ H R := h
theorem tNot_i {R : Bool → Hp → Prop} (h : c σ H fun b H1 => R (!b) H1) : tNot c σ H R := h
theorem tAndV_i (h : ta σ H fun x H1 => IsBl x fun b => Br b (tb σ H1 Q) (Q (.bl false) H1)) : tAndV ta tb σ H Q := h
theorem tOrV_i (h : ta σ H fun x H1 => IsBl x fun b => Br b (Q (.bl true) H1) (tb σ H1 Q)) : tOrV ta tb σ H Q := h
theorem tNotV_i (h : ta σ H fun x H1 => IsBl x fun b => Q (.bl (!b)) H1) : tNotV ta σ H Q := h
theorem tIf_i (h : c σ H fun b H1 => Br b (ta σ H1 Q) (tb σ H1 Q)) : tIf c ta tb σ H Q := h
theorem tCB_i {r : List V → Hp → VK → Prop} {ts : TA} (h : ts σ H fun vs H1 => r vs H1 Q) : tCB r ts σ H Q := h
theorem tCallS_i {sp : Sp} {E : St → XK} {ts : TA} (h : ts σ H fun vs H1 => sp vs H1 Q (E σ)) : tCallS sp E ts σ H Q := h
theorem tCall_i {sp : Sp} {dvs : List V} {E : XK} {ts : TA} (h : ts σ H fun vs H1 => sp (vs ++ dvs) H1 Q E) : tCall sp dvs E ts σ H Q := h
theorem tCallK_i {sp : Sp} {gV : List V → List V → List V} {E : XK} {ts tk : TA} (h : ts σ H fun vs H1 => tk σ H1 fun zs H2 => sp (gV vs zs) H2 Q E) : tCallK sp gV E ts tk σ H Q := h
theorem tChain_i {r' : R2} (h : ta σ H fun x H1 => tb σ H1 fun y H2 => r x y H2 fun z H3 => IsBl z fun k => Br k (tc σ H3 fun w H4 => r' y w H4 Q) (Q (.bl false) H3)) : tChain r r' ta tb tc σ H Q := h
theorem tTup_i {ts : TA} (h : ts σ H fun xs H1 => NewO (.tup xs) xs.length H1 Q) : tTup ts σ H Q := h
theorem tLst_i {ts : TA} (h : ts σ H fun xs H1 => NewO (.lst xs) xs.length H1 Q) : tLst ts σ H Q := h
theorem tPar_i {i j : Nat} {ts : TA} (h : ts σ H fun vs H1 => Par2 vs fun v w => D.nx ((σ.set i (some v)).set j (some w)) H1) : tPar i j ts D σ H := h
theorem Par2_i {v w : V} {R : V → V → Prop} (h : R v w) : Par2 [v, w] R := ⟨v, w, rfl, h⟩
theorem IsBl_i {b : Bool} {R : Bool → Prop} (h : R b) : IsBl (.bl b) R := ⟨b, rfl, h⟩
theorem new_i {n : Nat} {o : HO} (hn : n ≤ sizeLine) (h : ∀ p H', H p = none → Same H H' → H' p = some o → Q (.ref p) H') : NewO o n H Q :=
  ⟨hn, fun p hp => h p _ hp (Same.new hp) upd_same⟩
theorem Br_t {A B : Prop} (h : A) : Br true A B := iteT h
theorem Br_f {A B : Prop} (h : B) : Br false A B := iteF h
theorem Br_nt {A B : Prop} (h : B) : Br (!true) A B := iteF h
theorem Br_nf {A B : Prop} (h : A) : Br (!false) A B := iteT h
theorem Br_b {b : Bool} {A B : Prop} (h1 : b = true → A) (h2 : b = false → B) : Br b A B := by
  cases b
  · exact iteF (h2 rfl)
  · exact iteT (h1 rfl)
theorem Br_n {b : Bool} {A B : Prop} (h : Br b B A) : Br (!b) A B := by
  cases b
  · exact iteT (show A from h)
  · exact iteF (show B from h)
theorem Br_d {p : Prop} [Decidable p] {A B : Prop} (h1 : p → A) (h2 : ¬ p → B) : Br (decide p) A B :=
  Br_b (fun h => h1 (of_decide_eq_true h)) fun h => h2 (of_decide_eq_false h)
theorem Br_dt {p : Prop} [Decidable p] {A B : Prop} (hp : p) (h : A) : Br (decide p) A B := Br_d (fun _ => h) fun z => absurd hp z
theorem Br_df {p : Prop} [Decidable p] {A B : Prop} (hp : ¬ p) (h : B) : Br (decide p) A B := Br_d (fun z => absurd z hp) fun _ => h
/-! values -/
theorem rI0_i {f : Int → Int → V} {i j : Int} (h : Q (f i j) H) : rI0 f (.int i) (.int j) H Q := ⟨i, j, rfl, rfl, h⟩
theorem rI_i {C : Int → Int → Prop} {f : Int → Int → V} {i j : Int} (hc : C i j) (h : Q (f i j) H) : rI C f (.int i) (.int j) H Q := ⟨i, j, rfl, rfl, hc, h⟩
theorem rU_i {f : Int → V} {i : Int} (h : Q (f i) H) : rU f (.int i) H Q := ⟨i, rfl, h⟩
theorem rAddU_i {i j : Int} (h : Q (.int (i + j)) H) : rAddU K (.int i) (.int j) H Q := .inl ⟨i, j, rfl, rfl, h⟩
theorem rMulU_i {i j : Int} (hc : CMul i j) (h : Q (.int (i * j)) H) : rMulU (.int i) (.int j) H Q := .inl ⟨i, j, rfl, rfl, hc, h⟩
theorem rModP_i {i j : Int} (hc : 0 < j) (h : Q (.int (i % j)) H) : rModP (.int i) (.int j) H Q := ⟨i, j, rfl, rfl, hc, h⟩
theorem rDivP_i {i j : Int} (hc : CDiv i j) (h : Q (.int (i / j)) H) : rDivP (.int i) (.int j) H Q := ⟨i, j, rfl, rfl, hc, h⟩
theorem int_eq {i j : Int} : decide (V.int i = V.int j) = decide (i = j) := by rw [dec_int, Bool.beq_eq_decide_eq]
theorem str_eq {i j : Str} : decide (V.str i = V.str j) = decide (i = j) := by rw [dec_str, Bool.beq_eq_decide_eq]
theorem rEqU_i {i j : Int} (h : Q (.bl (decide (i = j))) H) : rEqU K (.int i) (.int j) H Q := .inl ⟨rfl, by rw [int_eq]; exact h⟩
theorem rNeU_i {i j : Int} (h : Q (.bl (!decide (i = j))) H) : rNeU K (.int i) (.int j) H Q := .inl ⟨rfl, by rw [int_eq]; exact h⟩
theorem rEqU_s {i j : Str} (h : Q (.bl (decide (i = j))) H) : rEqU K (.str i) (.str j) H Q := .inl ⟨rfl, by rw [str_eq]; exact h⟩
theorem rNeU_s {i j : Str} (h : Q (.bl (!decide (i = j))) H) : rNeU K (.str i) (.str j) H Q := .inl ⟨rfl, by rw [str_eq]; exact h⟩
theorem rIxU_l {p : Addr} {xs : List V} {i : Int} {v : V} (hs : SqL K H p xs) (ha : atI xs i = some v) (h : Q v H) : rIxU K (.ref p) (.int i) H Q := .inl ⟨p, xs, i, v, rfl, rfl, hs, ha, h⟩
theorem rIxU_t {p : Addr} {xs : List V} {i : Int} {v : V} (hs : SqT K H p xs) (ha : atI xs i = some v) (h : Q v H) : rIxU K (.ref p) (.int i) H Q := .inr (.inl ⟨p, xs, i, v, rfl, rfl, hs, ha, h⟩)
theorem isN_i {x : V} {R : VK} (h : R (.bl (decide (x = .non))) H) : V.non = V.non ∧ R (.bl (decide (x = .non))) H := ⟨rfl, h⟩
theorem call_int_i {i : Int} (h : Q (.int i) H) : (∃ j, [V.int i] = [V.int j] ∧ Q (.int j) H) ∨ ∃ k, [V.int i] = [V.bl k] ∧ Q (.int (if k then 1 else 0)) H := .inl ⟨i, rfl, h⟩
theorem rLen_l {p : Addr} {xs : List V} (hs : SqL K H p xs) (h : Q (.int xs.length) H) : rLen K [.ref p] H Q := ⟨_, _, rfl, .inl ⟨xs, hs, rfl⟩, h⟩
theorem rLen_t {p : Addr} {xs : List V} (hs : SqT K H p xs) (h : Q (.int xs.length) H) : rLen K [.ref p] H Q := ⟨_, _, rfl, .inr ⟨xs, hs, rfl⟩, h⟩
theorem and_pure {p : Prop} {q : Prop} (h1 : p) (h2 : q) : p ∧ q := ⟨h1, h2⟩
/-! new objects by values -/
theorem rSlL_i {a : Addr} {xs : List V} {lo hi : Option Int} (hS : SqL K H a xs) (h : ∀ p H', H p = none → Same H H' → H' p = some (.lst (cutV xs lo hi)) → Q (.ref p) H') : rSlL K (.ref a) lo hi H Q :=
  ⟨a, xs, rfl, hS, fun p hp => h p _ hp (Same.new hp) upd_same⟩
theorem rListOf_l {a : Addr} {xs : List V} (hS : SqL K H a xs) (h : ∀ p H', H p = none → Same H H' → H' p = some (.lst xs) → Q (.ref p) H') : rListOf K [.ref a] H Q :=
  ⟨a, xs, rfl, .inl hS, fun p hp => h p _ hp (Same.new hp) upd_same⟩
theorem rListOf_t {a : Addr} {xs : List V} (hS : SqT K H a xs) (h : ∀ p H', H p = none → Same H H' → H' p = some (.lst xs) → Q (.ref p) H') : rListOf K [.ref a] H Q :=
  ⟨a, xs, rfl, .inr hS, fun p hp => h p _ hp (Same.new hp) upd_same⟩
theorem rTupleOf_l {a : Addr} {xs : List V} (hS : SqL K H a xs) (h : ∀ p H', H p = none → Same H H' → H' p = some (.tup xs) → Q (.ref p) H') : rTupleOf K [.ref a] H Q :=
  ⟨a, xs, rfl, .inl ⟨hS, fun p hp => h p _ hp (Same.new hp) upd_same⟩⟩
theorem rAddU_l {a b : Addr} {xs ys : List V} (ha : H a = some (.lst xs)) (hb : H b = some (.lst ys)) (hn : xs.length + ys.length ≤ sizeLine) (h : ∀ p H', H p = none → Same H H' → H' p = some (.lst (xs ++ ys)) → Q (.ref p) H') : rAddU K (.ref a) (.ref b) H Q :=
  .inr (.inl ⟨a, b, xs, ys, rfl, rfl, ha, hb, hn, fun p hp => h p _ hp (Same.new hp) upd_same⟩)
theorem eqD_i {x y : V} {d e : PyData} (hx : Dp K H x d) (hy : Dp K H y e) (sd : SeqAt.shaped d = true) (se : SeqAt.shaped e = true) (h : Q (.bl (PyData.eqv d e)) H) : rEqU K x y H Q := .inr ⟨d, e, hx, hy, sd, se, h⟩
theorem neD_i {x y : V} {d e : PyData} (hx : Dp K H x d) (hy : Dp K H y e) (sd : SeqAt.shaped d = true) (se : SeqAt.shaped e = true) (h : Q (.bl (!PyData.eqv d e)) H) : rNeU K x y H Q := .inr ⟨d, e, hx, hy, sd, se, h⟩
/-! an append -/
theorem del_upd {H : Hp} {D : Addr} {o : HO} : del (upd H D o) D = del H D := by
  funext b
  by_cases hb : b = D
  · rw [hb, del_same, del_same]
  · rw [del_ne hb, upd_ne hb, del_ne hb]
def Chg (o : Addr) (H H' : Hp) : Prop := ∀ b u, b ≠ o → H b = some u → H' b = some u
theorem append_i {l : Addr} {xs : List V} {y : V} (hl : H l = some (.lst xs)) (hn : xs.length < sizeLine) (h : ∀ H', Chg l H H' → H' l = some (.lst (xs ++ [y])) → ((∀ H0, Same H0 H → H0 l = none → Same H0 H') ∧ del H' l = del H l) → Q .non H') : rAppend (.ref l) [y] H Q :=
  ⟨l, xs, y, rfl, rfl, hl, hn, h _ (fun b u hb e => by rw [upd_ne hb]; exact e) upd_same ⟨fun H0 s0 n => Same.upd s0 n, del_upd⟩⟩
theorem append_ints {l : Addr} {xs : List Int} {y : Int} (hl : H l = some (.lst (xs.map V.int))) (hn : xs.length < 1000000) (h : ∀ H', Chg l H H' → H' l = some (.lst ((xs ++ [y]).map V.int)) → (∀ H0, Same H0 H → H0 l = none → Same H0 H') → Q .non H') : rAppend (.ref l) [.int y] H Q :=
  append_i hl (by rw [List.length_map]; exact Nat.lt_trans hn (by decide)) fun H' c e s => h H' c (by rw [List.map_append]; exact e) s.1
def Dg (xs : List Int) : Prop := ∀ x ∈ xs, 0 ≤ x ∧ x < 1000
theorem dg_nil : Dg [] := fun _ h => nomatch h
theorem dg_app {xs : List Int} {y : Int} (h : Dg xs) (hy : 0 ≤ y ∧ y < 1000) : Dg (xs ++ [y]) := fun x hx => (List.mem_append.mp hx).elim (h x) fun z => by
  rw [List.mem_singleton.mp z]
  exact hy
theorem dg_mod {z : Int} : 0 ≤ z % 1000 ∧ z % 1000 < 1000 := by omega
theorem dg_take {xs : List Int} {n : Nat} (h : Dg xs) : Dg (xs.take n) := fun x hx => h x (List.mem_of_mem_take hx)
theorem cut_take {xs : List Int} {c : Int} (h0 : 0 ≤ c) (h1 : c ≤ xs.length) : cutV (xs.map V.int) none (some c) = (xs.take c.toNat).map V.int := by
  unfold cutV
  obtain ⟨n, rfl⟩ : ∃ n : Nat, c = (n : Int) := ⟨c.toNat, by omega⟩
  rw [HT.sIx_none, HT.sIx_nat, List.drop_zero, Nat.sub_zero, List.length_map, Nat.min_eq_left (by omega), Int.toNat_natCast, List.map_take]
/-- the drawn numbers and the counter -/
def Draw (K : PySem.W.Frag) (H : Hp) (c a : Addr) : Prop := (∃ xs : List Int, SqL K H c (xs.map V.int) ∧ 0 < xs.length) ∧ H a = some (cellO a)
theorem _root_.L2.Same.draw {K : PySem.W.Frag} {H H' : Hp} {c a : Addr} (s : Same H H') (h : Draw K H c a) : Draw K H' c a := by
  obtain ⟨⟨xs, h1, h2⟩, h3⟩ := h
  exact ⟨⟨xs, s.seq h1, h2⟩, s _ _ h3⟩
theorem tBM_i {T : String} {r : V → List V → Hp → VK → Prop} {to : TE} {ts : TA} (h : to σ H fun x H1 => tyV K T x H1 ∧ ts σ H1 fun xs H2 => r x xs H2 Q) : tBM K T r to ts σ H Q := h
theorem tyL {a : Addr} {xs : List V} {A : Prop} (hS : SqL K H a xs) (h : A) : tyV K "list" (.ref a) H ∧ A := ⟨.inl ⟨rfl, xs, hS⟩, h⟩
theorem tSl_i {r : V → Option Int → Option Int → Hp → VK → Prop} {tl th : TO} (h : te σ H fun x H1 => tl σ H1 fun l H2 => th σ H2 fun u H3 => r x l u H3 Q) : tSl r te tl th σ H Q := h
theorem tNoPart_i {R : Option Int → Hp → Prop} (h : R none H) : tNoPart σ H R := h
def PartI (x : V) (R : Option Int → Prop) : Prop := ∃ i, x = .int i ∧ R (some i)
theorem PartI_i {i : Int} {R : Option Int → Prop} (h : R (some i)) : PartI (.int i) R := ⟨i, rfl, h⟩
theorem tPart_i {R : Option Int → Hp → Prop} (h : te σ H fun x H1 => PartI x fun o => R o H1) : tPart te σ H R := h
theorem rInt1_i {i : Int} (h : Q (.int i) H) : rInt1 [.int i] H Q := .inl ⟨i, rfl, h⟩
theorem rInt1_b {k : Bool} (h : Q (.int (if k then 1 else 0)) H) : rInt1 [.bl k] H Q := .inr ⟨k, rfl, h⟩
theorem rMin2_i {i j : Int} (h : Q (.int (if j < i then j else i)) H) : rMin2 [.int i, .int j] H Q := ⟨i, j, rfl, h⟩
theorem rMax2_i {i j : Int} (h : Q (.int (if j > i then j else i)) H) : rMax2 [.int i, .int j] H Q := ⟨i, j, rfl, h⟩
theorem rAbs_i {i : Int} (h : Q (.int (if i < 0 then -i else i)) H) : rAbs [.int i] H Q := ⟨i, rfl, h⟩
theorem Tru_b {b : Bool} {R : Bool → Prop} (h : R b) : Tru K (.bl b) H R := ⟨b, rfl, h⟩
theorem Tru_i {i : Int} {R : Bool → Prop} (h : R (i != 0)) : Tru K (.int i) H R := ⟨_, rfl, h⟩
theorem Tru_n {R : Bool → Prop} (h : R false) : Tru K .non H R := ⟨_, rfl, h⟩
theorem rIsN_i {x : V} (h : Q (.bl (decide (x = .non))) H) : rIsN x .non H Q := ⟨rfl, h⟩
theorem rNotN_i {x : V} (h : Q (.bl (!decide (x = .non))) H) : rNotN x .non H Q := ⟨rfl, h⟩
theorem rSum_i {a : Addr} (ns : List Int) (hS : SqL K H a (ns.map V.int)) (h : Q (.int ns.sum) H) : rSum K [.ref a] H Q := ⟨a, ns, rfl, hS, h⟩
theorem rAll_i {a : Addr} (bs : List Bool) (hS : SqL K H a (bs.map V.bl)) (h : Q (.bl (bs.all id)) H) : rAll K [.ref a] H Q := ⟨a, bs, rfl, hS, h⟩
/-! raising -/
def spI1 (f : Str) (K : PySem.W.Frag) : Sp := fun vs H Q _ => ∃ (a C : Addr) (v : V), vs = [.ref a, v] ∧ OexC K C ∧ PySem.W.findIn K (.ref C) f = some none ∧ H a = some (exo a C none) ∧
  ∀ dx, H dx = none → dx ≠ a → Q .non (upd (upd H dx (exd dx [(f, v)])) a (exo a C (some dx)))
theorem spI1_len {f : Str} {vs : List V} {E : XK} (h : spI1 f K vs H Q E) : vs.length = 2 := by
  obtain ⟨a, C, v, rfl, _⟩ := h
  rfl
theorem spI1_body {f : Str} {N : List Str} {vs : List V} {E : XK} (h : spI1 f K vs H Q E) : tOst K f (tVar 0) (tVar 1) { nx := fun _ H' => Q .non H', rt := Q } (start N vs) H := by
  obtain ⟨a, C, v, rfl, T, hn, ha, k⟩ := h
  exact ⟨v, rfl, .ref a, rfl, a, C, rfl, T, hn, .inl ⟨ha, k⟩⟩
def MkO1 (C : Addr) (sp : Sp) (vs : List V) (H1 : Hp) (R : XK) : Prop := vs.length ≤ 1000 ∧ ∀ a, H1 a = none → sp (.ref a :: (vs ++ [])) (upd H1 a (exo a C none))
  (fun v H2 => v = .non ∧ ∃ (d : Addr) (fs : List (Str × V)), H2 a = some (exo a C (some d)) ∧ H2 d = some (exd d fs) ∧ H1 d = none ∧ R (.ref C) (some d) (upd (del H2 a) d (.xd fs))) (fun _ _ _ => False)
theorem tMkO_i {C : Addr} {sp : Sp} {ts : TA} {R : XK} (h : ts σ H fun vs H1 => MkO1 C sp vs H1 R) : tMkO C sp [] ts σ H R := h
theorem mkO1 {C : Addr} {f : Str} {v : V} {R : XK} (T : OexC K C) (hn : PySem.W.findIn K (.ref C) f = some none) (k : ∀ H' d, Same H H' → H' d = some (.xd [(f, v)]) → R (.ref C) (some d) H') : MkO1 C (spI1 f K) [v] H R := by
  refine ⟨by show 1 ≤ 1000; omega, fun a ha => ⟨a, C, v, rfl, T, hn, upd_same, fun dx hd hne => ⟨rfl, dx, [(f, v)], upd_same, ?_, ?_, k _ dx ?_ upd_same⟩⟩⟩
  · rw [upd_ne hne, upd_same]
  · rw [upd_ne hne] at hd
    exact hd
  · rw [upd_ne hne] at hd
    intro b u e
    have hb : b ≠ a := ne_of_none e ha
    rw [upd_ne (ne_of_none e hd), del_ne hb, upd_ne hb, upd_ne (ne_of_none e hd), upd_ne hb]
    exact e
/-! while -/
theorem while_w (W : Nat → St → Hp → Prop) (m : Nat) (h0 : W m σ H)
    (hs : ∀ m σ H, W m σ H → c σ H fun b H1 => Br b (∃ N : St → Hp → Prop, (∀ σ' H', N σ' H' → ∃ m', m' < m ∧ W m' σ' H') ∧ t { D with nx := N, ct := N, bk := D.nx } σ H1) (D.nx σ H1)) : tWhile c t D σ H := ⟨W, ⟨m, h0⟩, hs⟩
theorem turn_w {W : Nat → St → Hp → Prop} {m : Nat} (h : t { D with nx := fun σ' H' => ∃ m', m' < m ∧ W m' σ' H', ct := fun σ' H' => ∃ m', m' < m ∧ W m' σ' H', bk := D.nx } σ H) :
    ∃ N : St → Hp → Prop, (∀ σ' H', N σ' H' → ∃ m', m' < m ∧ W m' σ' H') ∧ t { D with nx := N, ct := N, bk := D.nx } σ H := ⟨_, fun _ _ z => z, h⟩
end
end EL

namespace EL
open PySem PySem.Spec PyProof.Rows L2

/-! ### sources: what an iterator gives while the heap says ok -/
structure Src (J : It) (n : Nat) (ok : Hp → Prop) (itm : Nat → V → Hp → Hp → Prop) : Prop where
  go : ∀ i H, ok H → i < n → J.go i H
  stop : ∀ i H, ok H → n ≤ i → J.stop i H
  yld : ∀ i H x H', ok H → i < n → J.yld i H x H' → itm i x H H'
def itmL (xs : List V) : Nat → V → Hp → Hp → Prop := fun i x H H' => H' = H ∧ xs[i]? = some x
def itmR (lo : Int) : Nat → V → Hp → Hp → Prop := fun i x H H' => H' = H ∧ x = .int (lo + (i : Nat))
def itmE (xs : List V) : Nat → V → Hp → Hp → Prop := fun i x H H' => ∃ p y, x = .ref p ∧ H p = none ∧ Same H H' ∧ H' p = some (.tup [.int (i : Nat), y]) ∧ xs[i]? = some y
def itmZ (xs ys : List V) : Nat → V → Hp → Hp → Prop := fun i x H H' => ∃ p y z, x = .ref p ∧ H p = none ∧ Same H H' ∧ H' p = some (.tup [y, z]) ∧ xs[i]? = some y ∧ ys[i]? = some z
section
variable {K : PySem.W.Frag} {a b : Addr} {xs ys : List V}
theorem srcL : Src (Itl K a) xs.length (fun H => SqL K H a xs) (itmL xs) where
  go := fun i H h hi => ⟨xs, xs[i], h, by simp [hi]⟩
  stop := fun i H h hi => ⟨xs, h, hi⟩
  yld := fun i H x H' h _ ⟨e, y⟩ => ⟨e, y xs h⟩
theorem srcT : Src (Itt K a) xs.length (fun H => SqT K H a xs) (itmL xs) where
  go := fun i H h hi => ⟨xs, xs[i], h, by simp [hi]⟩
  stop := fun i H h hi => ⟨xs, h, hi⟩
  yld := fun i H x H' h _ ⟨e, y⟩ => ⟨e, y xs h⟩
theorem srcR {lo : Int} {n : Nat} : Src (Itr lo n) n (fun _ => True) (itmR lo) where
  go := fun i H h hi => hi
  stop := fun i H h hi => hi
  yld := fun i H x H' h _ y => y
theorem srcE : Src (Ite K a) xs.length (fun H => SqL K H a xs) (itmE xs) where
  go := fun i H h hi => ⟨xs, xs[i], h, by simp [hi]⟩
  stop := fun i H h hi => ⟨xs, h, hi⟩
  yld := fun i H x H' h _ ⟨p, y, e1, e2, e3, e4⟩ => ⟨p, y, e1, e2, e3 ▸ Same.new e2, e3 ▸ upd_same, e4 xs h⟩
theorem srcZ : Src (Itz K a b) (min xs.length ys.length) (fun H => SqL K H a xs ∧ SqL K H b ys) (itmZ xs ys) where
  go := fun i H h hi => ⟨xs, ys, xs[i]'(by omega), ys[i]'(by omega), h.1, h.2, by simp, by simp⟩
  stop := fun i H h hi => ⟨xs, ys, h.1, h.2, by omega⟩
  yld := fun i H x H' h _ ⟨p, y, z, e1, e2, e3, e4, e5⟩ => ⟨p, y, z, e1, e2, e3 ▸ Same.new e2, e3 ▸ upd_same, e4 xs h.1, e5 ys h.2⟩
theorem srcZT : Src (RZ.ItzT K a b) (min xs.length ys.length) (fun H => SqT K H a xs ∧ SqT K H b ys) (itmZ xs ys) where
  go := fun i H h hi => ⟨xs, ys, xs[i]'(by omega), ys[i]'(by omega), h.1, h.2, by simp, by simp⟩
  stop := fun i H h hi => ⟨xs, ys, h.1, h.2, by omega⟩
  yld := fun i H x H' h _ ⟨p, y, z, e1, e2, e3, e4, e5⟩ => ⟨p, y, z, e1, e2, e3 ▸ Same.new e2, e3 ▸ upd_same, e4 xs h.1, e5 ys h.2⟩
end
/-! how a source begins: R is what is wanted of the iterator and of the heap -/
section
variable {σ : St} {H : Hp} {K : PySem.W.Frag} {te : TE} {ts : TA} {R : It → Hp → Prop}
def WL (K : PySem.W.Frag) (R : It → Hp → Prop) (x : V) (H : Hp) : Prop := ∃ a, x = .ref a ∧ (∃ xs, SqL K H a xs) ∧ R (Itl K a) H
def WT (K : PySem.W.Frag) (R : It → Hp → Prop) (x : V) (H : Hp) : Prop := ∃ a, x = .ref a ∧ (∃ xs, SqT K H a xs) ∧ R (Itt K a) H
def W1 (R : It → Hp → Prop) (vs : List V) (H : Hp) : Prop := ∃ j : Int, vs = [.int j] ∧ -(2 ^ 62) ≤ j ∧ j < 2 ^ 62 ∧ R (Itr 0 j.toNat) H
def W2 (R : It → Hp → Prop) (vs : List V) (H : Hp) : Prop := ∃ i j : Int, vs = [.int i, .int j] ∧ (-(2 ^ 62) ≤ i ∧ i < 2 ^ 62 ∧ -(2 ^ 62) ≤ j ∧ j < 2 ^ 62) ∧ R (Itr i (j - i).toNat) H
def WE (K : PySem.W.Frag) (R : It → Hp → Prop) (vs : List V) (H : Hp) : Prop := ∃ a xs, vs = [.ref a] ∧ SqL K H a xs ∧ R (Ite K a) H
def WZ (K : PySem.W.Frag) (R : It → Hp → Prop) (vs : List V) (H : Hp) : Prop := ∃ a b xs ys, vs = [.ref a, .ref b] ∧ SqL K H a xs ∧ SqL K H b ys ∧ R (Itz K a b) H
theorem wL (h : te σ H (WL K R)) : iU K te σ H R := .inl h
theorem wT (h : te σ H (WT K R)) : iU K te σ H R := .inr h
theorem w1 (h : ts σ H (W1 R)) : iRng1 ts σ H R := h
theorem w2 (h : ts σ H (W2 R)) : iRng2 ts σ H R := h
theorem wE (h : ts σ H (WE K R)) : iEnum K ts σ H R := h
theorem wZ (h : ts σ H (WZ K R)) : iZip K ts σ H R := h
theorem WL_i {a : Addr} (xs : List V) (hS : SqL K H a xs) (h : R (Itl K a) H) : WL K R (.ref a) H := ⟨a, rfl, ⟨xs, hS⟩, h⟩
theorem WT_i {a : Addr} (xs : List V) (hS : SqT K H a xs) (h : R (Itt K a) H) : WT K R (.ref a) H := ⟨a, rfl, ⟨xs, hS⟩, h⟩
theorem W1_i {j : Int} (h1 : -(2 ^ 62) ≤ j ∧ j < 2 ^ 62) (h : R (Itr 0 j.toNat) H) : W1 R [.int j] H := ⟨j, rfl, h1.1, h1.2, h⟩
theorem W2_i {i j : Int} (h1 : -(2 ^ 62) ≤ i ∧ i < 2 ^ 62 ∧ -(2 ^ 62) ≤ j ∧ j < 2 ^ 62) (h : R (Itr i (j - i).toNat) H) : W2 R [.int i, .int j] H := ⟨i, j, rfl, h1, h⟩
theorem WE_i {a : Addr} (xs : List V) (hS : SqL K H a xs) (h : R (Ite K a) H) : WE K R [.ref a] H := ⟨a, xs, rfl, hS, h⟩
theorem WZ_i {a b : Addr} (xs ys : List V) (hS : SqL K H a xs) (hT : SqL K H b ys) (h : R (Itz K a b) H) : WZ K R [.ref a, .ref b] H := ⟨a, b, xs, ys, rfl, hS, hT, h⟩
end

/-! ### for -/
def ForB (g : TG) (tb : TS) (D : Ends) (σ : St) (J : It) (H : Hp) : Prop := ∃ W : Nat → Nat → St → Hp → Prop, (∃ m, W 0 m σ H) ∧ ∀ i m σ H, W i m σ H →
  (J.stop i H ∧ D.nx σ H) ∨ (J.go i H ∧ ∃ N : St → Hp → Prop, (∀ σ' H', N σ' H' → ∃ m', m' < m ∧ W (i + 1) m' σ' H') ∧ ∀ x H', J.yld i H x H' → g x σ H' fun σ2 H2 => tb { D with nx := N, ct := N, bk := D.nx } σ2 H2)
section
variable {σ : St} {H : Hp} {wi : TI} {g : TG} {tb : TS} {D : Ends} {J : It} {n : Nat} {ok : Hp → Prop} {itm : Nat → V → Hp → Hp → Prop}
theorem tFor_i (h : wi σ H (ForB g tb D σ)) : tFor wi g tb D σ H := h
theorem forS (S : Src J n ok itm) (Pv : Nat → St → Hp → Prop) (h0 : Pv 0 σ H) (hok : ∀ i σ H, i ≤ n → Pv i σ H → ok H)
    (hs : ∀ i σ H x H', i < n → Pv i σ H → itm i x H H' → g x σ H' fun σ2 H2 => tb { D with nx := Pv (i + 1), ct := Pv (i + 1), bk := D.nx } σ2 H2) (hd : ∀ σ H, Pv n σ H → D.nx σ H) : ForB g tb D σ J H := by
  refine ⟨fun i m σ H => m = n - i ∧ i ≤ n ∧ Pv i σ H, ⟨n, by simp, Nat.zero_le _, h0⟩, ?_⟩
  rintro i m σ H ⟨rfl, hi, p⟩
  have q := hok i σ H hi p
  by_cases hlt : i < n
  · exact .inr ⟨S.go i H q hlt, Pv (i + 1), fun σ' H' p' => ⟨n - (i + 1), by omega, rfl, hlt, p'⟩, fun x H' y => hs i σ H x H' hlt p (S.yld i H x H' q hlt y)⟩
  · have e : i = n := by omega
    subst e
    exact .inl ⟨S.stop i H q (Nat.le_refl _), hd σ H p⟩
/-- turn by turn -/
def AndR (A B : Prop) : Prop := A ∧ B
def runS (ok : Hp → Prop) (g : TG) (tb : TS) (D : Ends) : List V → St → Hp → Prop
  | [], σ, H => D.nx σ H
  | x :: r, σ, H => g x σ H fun σ2 H2 => tb { D with nx := fun σ' H' => AndR (ok H') (runS ok g tb D r σ' H'), ct := fun σ' H' => AndR (ok H') (runS ok g tb D r σ' H'), bk := D.nx } σ2 H2
theorem forRun {xs : List V} (S : Src J xs.length ok (itmL xs)) (hS : ok H) (h : runS ok g tb D xs σ H) : ForB g tb D σ J H := by
  refine forS S (fun i σ H => ok H ∧ runS ok g tb D (xs.drop i) σ H) ⟨hS, by rw [List.drop_zero]; exact h⟩ (fun i σ H _ z => z.1) (fun i σ H x H' hi z hx => ?_) (fun σ H z => ?_)
  · obtain ⟨rfl, hx⟩ := hx
    have z2 := z.2
    obtain ⟨hi, e⟩ := List.getElem?_eq_some_iff.mp hx
    rw [List.drop_eq_getElem_cons hi, e] at z2
    exact z2
  · have z2 := z.2
    rw [List.drop_length] at z2
    exact z2
theorem runS_cons {x : V} {r : List V} (h : g x σ H fun σ2 H2 => tb { D with nx := fun σ' H' => AndR (ok H') (runS ok g tb D r σ' H'), ct := fun σ' H' => AndR (ok H') (runS ok g tb D r σ' H'), bk := D.nx } σ2 H2) : runS ok g tb D (x :: r) σ H := h
theorem run_next {A B : Prop} (h1 : A) (h2 : B) : AndR A B := ⟨h1, h2⟩
theorem runS_nil (h : D.nx σ H) : runS ok g tb D [] σ H := h
end

theorem tCell_i {σ : St} {H : Hp} {Q : VK} (h : ∀ p H', H p = none → Same H H' → H' p = some (cellO p) → Q (.ref p) H') : tCell σ H Q := fun p hp => h p _ hp (Same.new hp) upd_same
theorem cut_i {t u : TS} {D : Ends} {σ : St} {H : Hp} (M : St → Hp → Prop) (h : t { D with nx := M } σ H) (k : ∀ σ' H', M σ' H' → u D σ' H') : tCut t u D σ H := ⟨M, h, k⟩
theorem cut_s {t u : TS} {D : Ends} {σ : St} {H : Hp} (h : t { D with nx := u D } σ H) : tCut t u D σ H := ⟨u D, h, fun _ _ z => z⟩
/-! ### targets -/
section
variable {σ : St} {H : Hp} {K : PySem.W.Frag} {R : St → Hp → Prop} {t : TG} {u : TGs}
theorem gTup_i {n : Nat} {a : Addr} {xs : List V} (hS : SqT K H a xs) (hl : xs.length = n) (h : u xs σ H R) : gTup K n u (.ref a) σ H R := ⟨a, xs, rfl, hS, hl, h⟩
theorem gCons_i {v : V} {r : List V} (h : t v σ H fun σ' H' => u r σ' H' R) : gCons t u (v :: r) σ H R := ⟨v, r, rfl, h⟩
theorem gNil_i (h : R σ H) : gNil [] σ H R := ⟨rfl, h⟩
def SubE (s : TSet) (o i v : V) (H : Hp) (R : Hp → Prop) : Prop := s o i v H R
theorem gSub_i {to ti : TE} {s : TSet} {v : V} (h : to σ H fun o H1 => ti σ H1 fun i H2 => SubE s o i v H2 fun H3 => R σ H3) : gSub to ti s v σ H R := h
theorem setL_i {p : Addr} {xs : List V} {k : Int} {j : Nat} {v : V} {R : Hp → Prop} (hp : H p = some (.lst xs)) (hj : ixN xs.length k = some j)
    (h : ∀ H', Chg p H H' → H' p = some (.lst (xs.set j v)) → (∀ H0, Same H0 H → H0 p = none → Same H0 H') → R H') : SubE rSetU (.ref p) (.int k) v H R :=
  .inl ⟨p, xs, k, j, rfl, rfl, hp, hj, h _ (fun b u hb e => by rw [upd_ne hb]; exact e) upd_same fun H0 s0 n => Same.upd s0 n⟩
theorem setC_i {p : Addr} {n : Int} {R : Hp → Prop} (hp : H p = some (cellO p)) (h : R H) : SubE rSetU (.ref p) (.int 0) (.int n) H R := .inr ⟨p, n, rfl, rfl, rfl, hp, h⟩
theorem rIxU_c {K : PySem.W.Frag} {p : Addr} {Q : VK} (hp : H p = some (cellO p)) (h : ∀ n, Q (.int n) H) : rIxU K (.ref p) (.int 0) H Q := .inr (.inr (.inl ⟨p, rfl, rfl, hp, h⟩))
end

/-! ### comprehensions: the new list at D aside -/
theorem del_id {H : Hp} {D : Addr} (h : H D = none) : del H D = H := by
  funext b
  by_cases hb : b = D
  · rw [hb, del_same, h]
  · rw [del_ne hb]
theorem _root_.L2.Same.del {H H' : Hp} {D : Addr} (h : Same H H') : Same (L2.del H D) (L2.del H' D) := fun b o e => by
  by_cases hb : b = D
  · rw [hb, del_same] at e
    cases e
  · rw [del_ne hb] at e
    rw [del_ne hb]
    exact h b o e
theorem _root_.L2.Same.undel {H : Hp} {D : Addr} : Same (L2.del H D) H := fun b o e => by
  by_cases hb : b = D
  · rw [hb, del_same] at e
    cases e
  · rw [del_ne hb] at e
    exact e
theorem _root_.L2.Same.todel {H H' : Hp} {D : Addr} (h : Same H H') (n : H D = none) : Same H (L2.del H' D) := by
  have q := h.del (D := D)
  rw [del_id n] at q
  exact q
theorem del_at {H : Hp} {D p : Addr} {o : HO} (h : H p = some o) (ne : p ≠ D) : del H D p = some o := by rw [del_ne ne]; exact h
theorem del_new {H H' : Hp} {D p : Addr} {o o' : HO} (h : H' p = some o) (np : H p = none) (hD : H D = some o') : del H' D p = some o := del_at h fun e => by
  rw [e, hD] at np
  cases np
def LcB (g : TG) (tt : TT) (te : TE) (vs : List Nat) (σ : St) (Q : VK) (J : It) (H1 : Hp) : Prop := ∀ D, H1 D = none → ∃ W : Nat → Nat → Hp → Prop, (∃ m, W 0 m (upd H1 D (.lst []))) ∧ ∀ i m H, W i m H →
  (J.stop i H ∧ Q (.ref D) H) ∨ (J.go i H ∧ ∃ Nx : Hp → Prop, (∀ H', Nx H' → ∃ m', m' < m ∧ W (i + 1) m' H') ∧ ∀ x H', J.yld i H x H' → g x (wipe σ vs) H' fun σ2 H2 => wipe σ2 vs = wipe σ vs ∧ tt σ2 H2 fun b H3 =>
    if b = true then te σ2 H3 fun y H4 => ∃ acc, H4 D = some (.lst acc) ∧ acc.length < sizeLine ∧ Nx (upd H4 D (.lst (acc ++ [y]))) else Nx H3)
/-- what a turn of the comprehension must reach -/
def LcP (H0 : Hp) (D : Addr) (J : Nat → Hp → List V → Prop) (i : Nat) (H : Hp) : Prop := ∃ acc, Same H0 H ∧ H D = some (.lst acc) ∧ J i (del H D) acc
def LcY (D : Addr) (N : Hp → Prop) (y : V) (H4 : Hp) : Prop := ∃ acc, H4 D = some (.lst acc) ∧ acc.length < sizeLine ∧ N (upd H4 D (.lst (acc ++ [y])))
section
variable {σ : St} {H : Hp} {wi : TI} {g : TG} {tt : TT} {te : TE} {J : It} {n : Nat} {ok : Hp → Prop} {itm : Nat → V → Hp → Hp → Prop} {vs : List Nat} {Q : VK}
theorem tLc_i (h : wi σ H (LcB g tt te vs σ Q)) : tLc wi g tt te vs σ H Q := h
/-- C: what is known of the i items so far, the new list's entries and the heap without the new list -/
theorem lcS (S : Src J n ok itm) (C : Nat → Hp → List V → Prop) (hok : ∀ H', Same H H' → ok H') (h0 : C 0 H [])
    (hs : ∀ D i acc H1 x H2, i < n → H D = none → Same H H1 → H1 D = some (.lst acc) → C i (del H1 D) acc → itm i x H1 H2 → g x (wipe σ vs) H2 fun σ2 H2 => wipe σ2 vs = wipe σ vs ∧ tt σ2 H2 fun b H3 =>
      Br b (te σ2 H3 (LcY D (LcP H D C (i + 1)))) (LcP H D C (i + 1) H3))
    (hd : ∀ D acc H1, H D = none → Same H H1 → H1 D = some (.lst acc) → C n (del H1 D) acc → Q (.ref D) H1) : LcB g tt te vs σ Q J H := by
  intro D hD
  refine ⟨fun i m H' => m = n - i ∧ i ≤ n ∧ LcP H D C i H', ⟨n, by simp, Nat.zero_le _, [], Same.new hD, upd_same, by rw [del_upd, del_id hD]; exact h0⟩, ?_⟩
  rintro i m H1 ⟨rfl, hi, p⟩
  obtain ⟨acc, s1, e1, j1⟩ := id p
  have q := hok _ s1
  by_cases hlt : i < n
  · exact .inr ⟨S.go i H1 q hlt, LcP H D C (i + 1), fun H' p' => ⟨n - (i + 1), by omega, rfl, hlt, p'⟩, fun x H' y => hs D i acc H1 x H' hlt hD s1 e1 j1 (S.yld i H1 x H' q hlt y)⟩
  · have e : i = n := by omega
    subst e
    exact .inl ⟨S.stop i H1 q (Nat.le_refl _), hd D acc H1 hD s1 e1 j1⟩
theorem wipe_i {σ2 : St} {A : Prop} (h1 : wipe σ2 vs = wipe σ vs) (h2 : A) : wipe σ2 vs = wipe σ vs ∧ A := ⟨h1, h2⟩
theorem tYes_i {R : Bool → Hp → Prop} (h : R true H) : tYes σ H R := h
theorem lcY {D : Addr} {H0 : Hp} {C : Nat → Hp → List V → Prop} {i : Nat} {acc : List V} {y : V} (nD : H0 D = none) (s : Same H0 H) (e : H D = some (.lst acc)) (hl : acc.length < sizeLine) (j : C i (del H D) (acc ++ [y])) : LcY D (LcP H0 D C i) y H :=
  ⟨acc, e, hl, acc ++ [y], Same.upd s nD, upd_same, by rw [del_upd]; exact j⟩
theorem lcN {D : Addr} {H0 : Hp} {C : Nat → Hp → List V → Prop} {i : Nat} {acc : List V} (s : Same H0 H) (e : H D = some (.lst acc)) (j : C i (del H D) acc) : LcP H0 D C i H := ⟨acc, s, e, j⟩
end
/-! two clauses -/
def LcB2 (g : TG) (tt : TT) (wi1 : TI) (g1 : TG) (tt1 : TT) (te : TE) (vs vs1 : List Nat) (σ : St) (Q : VK) (J : It) (H1 : Hp) : Prop := ∀ D, H1 D = none → ∃ W : Nat → Nat → Hp → Prop, (∃ m, W 0 m (upd H1 D (.lst []))) ∧ ∀ i m H, W i m H →
  (J.stop i H ∧ Q (.ref D) H) ∨ (J.go i H ∧ ∃ Nx : Hp → Prop, (∀ H', Nx H' → ∃ m', m' < m ∧ W (i + 1) m' H') ∧ ∀ x H', J.yld i H x H' → g x (wipe σ vs) H' fun σ2 H2 => wipe σ2 vs = wipe σ vs ∧ tt σ2 H2 fun b H3 =>
    if b = true then wi1 σ2 H3 fun J1 H4 => ∃ W1 : Nat → Nat → Hp → Prop, (∃ m, W1 0 m H4) ∧ ∀ j k H, W1 j k H →
      (J1.stop j H ∧ Nx H) ∨ (J1.go j H ∧ ∃ Nx1 : Hp → Prop, (∀ H', Nx1 H' → ∃ k', k' < k ∧ W1 (j + 1) k' H') ∧ ∀ x H', J1.yld j H x H' → g1 x (wipe σ2 vs1) H' fun σ3 H5 => wipe σ3 vs1 = wipe σ2 vs1 ∧ tt1 σ3 H5 fun b H6 =>
        if b = true then te σ3 H6 fun y H7 => ∃ acc, H7 D = some (.lst acc) ∧ acc.length < sizeLine ∧ Nx1 (upd H7 D (.lst (acc ++ [y]))) else Nx1 H6)
    else Nx H3)
def LcIn (D : Addr) (N : Hp → Prop) (g1 : TG) (tt1 : TT) (te : TE) (vs1 : List Nat) (σ2 : St) (J1 : It) (H4 : Hp) : Prop := ∃ W1 : Nat → Nat → Hp → Prop, (∃ m, W1 0 m H4) ∧ ∀ j k H, W1 j k H →
      (J1.stop j H ∧ N H) ∨ (J1.go j H ∧ ∃ Nx1 : Hp → Prop, (∀ H', Nx1 H' → ∃ k', k' < k ∧ W1 (j + 1) k' H') ∧ ∀ x H', J1.yld j H x H' → g1 x (wipe σ2 vs1) H' fun σ3 H5 => wipe σ3 vs1 = wipe σ2 vs1 ∧ tt1 σ3 H5 fun b H6 =>
        if b = true then te σ3 H6 fun y H7 => ∃ acc, H7 D = some (.lst acc) ∧ acc.length < sizeLine ∧ Nx1 (upd H7 D (.lst (acc ++ [y]))) else Nx1 H6)
section
variable {σ : St} {H : Hp} {wi wi1 : TI} {g g1 : TG} {tt tt1 : TT} {te : TE} {J J1 : It} {n : Nat} {ok : Hp → Prop} {itm : Nat → V → Hp → Hp → Prop} {vs vs1 : List Nat} {Q : VK}
theorem tLc2_i (h : wi σ H (LcB2 g tt wi1 g1 tt1 te vs vs1 σ Q)) : tLc2 wi g tt wi1 g1 tt1 te vs vs1 σ H Q := h
theorem lc2S (S : Src J n ok itm) (C : Nat → Hp → List V → Prop) (hok : ∀ H', Same H H' → ok H') (h0 : C 0 H [])
    (hs : ∀ D i acc H1 x H2, i < n → H D = none → Same H H1 → H1 D = some (.lst acc) → C i (del H1 D) acc → itm i x H1 H2 → g x (wipe σ vs) H2 fun σ2 H2 => wipe σ2 vs = wipe σ vs ∧ tt σ2 H2 fun b H3 =>
      Br b (wi1 σ2 H3 (LcIn D (LcP H D C (i + 1)) g1 tt1 te vs1 σ2)) (LcP H D C (i + 1) H3))
    (hd : ∀ D acc H1, H D = none → Same H H1 → H1 D = some (.lst acc) → C n (del H1 D) acc → Q (.ref D) H1) : LcB2 g tt wi1 g1 tt1 te vs vs1 σ Q J H := by
  intro D hD
  refine ⟨fun i m H' => m = n - i ∧ i ≤ n ∧ LcP H D C i H', ⟨n, by simp, Nat.zero_le _, [], Same.new hD, upd_same, by rw [del_upd, del_id hD]; exact h0⟩, ?_⟩
  rintro i m H1 ⟨rfl, hi, p⟩
  obtain ⟨acc, s1, e1, j1⟩ := id p
  have q := hok _ s1
  by_cases hlt : i < n
  · exact .inr ⟨S.go i H1 q hlt, LcP H D C (i + 1), fun H' p' => ⟨n - (i + 1), by omega, rfl, hlt, p'⟩, fun x H' y => hs D i acc H1 x H' hlt hD s1 e1 j1 (S.yld i H1 x H' q hlt y)⟩
  · have e : i = n := by omega
    subst e
    exact .inl ⟨S.stop i H1 q (Nat.le_refl _), hd D acc H1 hD s1 e1 j1⟩
theorem lcIn (S : Src J1 n ok itm) {H0 : Hp} {D : Addr} {N : Hp → Prop} (C : Nat → Hp → List V → Prop) (hok : ∀ H', Same H0 H' → ok H') (h0 : LcP H0 D C 0 H)
    (hs : ∀ i acc H1 x H2, i < n → Same H0 H1 → H1 D = some (.lst acc) → C i (del H1 D) acc → itm i x H1 H2 → g1 x (wipe σ vs1) H2 fun σ2 H2 => wipe σ2 vs1 = wipe σ vs1 ∧ tt1 σ2 H2 fun b H3 =>
      Br b (te σ2 H3 (LcY D (LcP H0 D C (i + 1)))) (LcP H0 D C (i + 1) H3))
    (hd : ∀ H1, LcP H0 D C n H1 → N H1) : LcIn D N g1 tt1 te vs1 σ J1 H := by
  refine ⟨fun i m H' => m = n - i ∧ i ≤ n ∧ LcP H0 D C i H', ⟨n, by simp, Nat.zero_le _, h0⟩, ?_⟩
  rintro i m H1 ⟨rfl, hi, p⟩
  obtain ⟨acc, s1, e1, j1⟩ := id p
  have q := hok _ s1
  by_cases hlt : i < n
  · exact .inr ⟨S.go i H1 q hlt, LcP H0 D C (i + 1), fun H' p' => ⟨n - (i + 1), by omega, rfl, hlt, p'⟩, fun x H' y => hs i acc H1 x H' hlt s1 e1 j1 (S.yld i H1 x H' q hlt y)⟩
  · have e : i = n := by omega
    subst e
    exact .inl ⟨S.stop i H1 q (Nat.le_refl _), hd H1 p⟩
end
end EL

namespace EL
open PySem PySem.Spec PyProof.Rows L2
/-! ### data -/
def Sh (n : Nat) (d : PyData) : Prop := d.canLay0 = true ∧ d.depth ≤ n
def ShA (n : Nat) (ds : List PyData) : Prop := PyData.canLayAll0 ds = true ∧ PyData.depthAll ds ≤ n
theorem sh_int {n : Nat} {i : Int} : Sh n (.int i) := ⟨rfl, by simp [PyData.depth]⟩
theorem sh_str {n : Nat} {x : Str} (h : (PyData.str x).canLay0 = true) : Sh n (.str x) := ⟨h, by simp [PyData.depth]⟩
theorem sh_bool {n : Nat} {b : Bool} : Sh n (.bool b) := ⟨rfl, by simp [PyData.depth]⟩
theorem sh_none {n : Nat} : Sh n .none := ⟨rfl, by simp [PyData.depth]⟩
theorem shA_nil {n : Nat} : ShA n [] := ⟨rfl, by simp [PyData.depthAll]⟩
theorem shA_cons {n : Nat} {d : PyData} {ds : List PyData} (h : Sh n d) (h2 : ShA n ds) : ShA n (d :: ds) :=
  ⟨by rw [PyData.canLayAll0, h.1, h2.1]; rfl, by rw [PyData.depthAll]; exact Nat.max_le.mpr ⟨h.2, h2.2⟩⟩
theorem shA_all {n : Nat} : ∀ {ds : List PyData}, (∀ d ∈ ds, Sh n d) → ShA n ds
  | [], _ => shA_nil
  | d :: ds, h => shA_cons (h d (List.mem_cons_self ..)) (shA_all fun x hx => h x (List.mem_cons_of_mem _ hx))
theorem sh_lst {n : Nat} {ds : List PyData} (h : ShA n ds) : Sh (n + 1) (.list ds) := ⟨h.1, by rw [PyData.depth]; exact Nat.succ_le_succ h.2⟩
theorem sh_tup {n : Nat} {ds : List PyData} (h : ShA n ds) : Sh (n + 1) (.tuple ds) := ⟨h.1, by rw [PyData.depth]; exact Nat.succ_le_succ h.2⟩
theorem Sh.shaped {n : Nat} {d : PyData} (h : Sh n d) (hn : n ≤ 64 := by decide) : SeqAt.shaped d = true := Bool.and_eq_true_iff.mpr ⟨h.1, decide_eq_true (Nat.le_trans h.2 hn)⟩
theorem shA_ints {n : Nat} (xs : List Int) : ShA n (xs.map PyData.int) := shA_all fun d hd => by
  obtain ⟨x, _, rfl⟩ := List.mem_map.mp hd
  exact sh_int
theorem eqv_self {n : Nat} {d : PyData} (h : Sh n d) : PyData.eqv d d = true := SeqAt.eqv_refl d h.1
theorem eqvAll_ints : ∀ xs ys : List Int, PyData.eqvAll (xs.map PyData.int) (ys.map PyData.int) = decide (xs = ys)
  | [], [] => rfl
  | [], _ :: _ => by simp [PyData.eqvAll]
  | _ :: _, [] => by simp [PyData.eqvAll]
  | x :: xs, y :: ys => by
    rw [List.map_cons, List.map_cons, PyData.eqvAll, eqvAll_ints xs ys]
    show (x == y && decide (xs = ys)) = _
    by_cases h : x = y
    · subst h
      simp
    · simp [h]
theorem DpAll.app {K : PySem.W.Frag} {H : Hp} : ∀ {vs ws : List V} {ds es : List PyData}, DpAll K H vs ds → DpAll K H ws es → DpAll K H (vs ++ ws) (ds ++ es)
  | [], _, _, _, .nil, h => h
  | _ :: _, _, _, _, .cons a b, h => .cons a (DpAll.app b h)
theorem DpAll.one {K : PySem.W.Frag} {H : Hp} {v : V} {d : PyData} (h : Dp K H v d) : DpAll K H [v] [d] := .cons h .nil
theorem DpAll.len {K : PySem.W.Frag} {H : Hp} : ∀ {vs : List V} {ds : List PyData}, DpAll K H vs ds → vs.length = ds.length
  | [], _, .nil => rfl
  | _ :: _, _, .cons _ b => congrArg Nat.succ (DpAll.len b)
theorem DpAll.get {K : PySem.W.Frag} {H : Hp} : ∀ {vs : List V} {ds : List PyData} {i : Nat} {v : V}, DpAll K H vs ds → vs[i]? = some v → ∃ d, ds[i]? = some d ∧ Dp K H v d
  | _, _, _, _, .nil, e => by simp at e
  | _, _, 0, _, .cons r _, e => by simp at e; subst e; exact ⟨_, rfl, r⟩
  | _, _, i + 1, v, .cons _ t, e => by
    obtain ⟨u, h1, h2⟩ := DpAll.get (i := i) (v := v) t (by simpa using e)
    exact ⟨u, by simpa using h1, h2⟩
theorem DpAll.ints {K : PySem.W.Frag} {H : Hp} : ∀ {xs : List Int} {vs : List V}, DpAll K H vs (xs.map PyData.int) → vs = xs.map V.int
  | [], _, h => by cases h; rfl
  | x :: xs, _, h => by
    cases h with
    | cons a b =>
      cases a
      rw [DpAll.ints b]
      rfl
/-! ### isinstance -/
section
variable {K : PySem.W.Frag} {H : Hp} {Q : VK}
theorem isi_ty {x : V} {a b : String} {k : Bool} (ty : TyX K H x (.type a)) (e : kitB a b = some k) (h : Q (.bl k) H) : rIsiU K [x, .ty b] H Q := .inl ⟨x, .ty b, .type a, .type b, k, rfl, .ty b, ty, kit_ty e, h⟩
theorem isi_int_int {i : Int} (h : Q (.bl true) H) : rIsiU K [.int i, .ty "int"] H Q := isi_ty (.base (.int i)) (by decide +kernel) h
theorem isi_int_bool {i : Int} (h : Q (.bl false) H) : rIsiU K [.int i, .ty "bool"] H Q := isi_ty (.base (.int i)) (by decide +kernel) h
theorem isi_bool_bool {b : Bool} (h : Q (.bl true) H) : rIsiU K [.bl b, .ty "bool"] H Q := isi_ty (.base (.bl b)) (by decide +kernel) h
theorem isi_bool_int {b : Bool} (h : Q (.bl true) H) : rIsiU K [.bl b, .ty "int"] H Q := isi_ty (.base (.bl b)) (by decide +kernel) h
theorem isi_non_int (h : Q (.bl false) H) : rIsiU K [.non, .ty "int"] H Q := isi_ty (.base .non) (by decide +kernel) h
theorem isi_lst_lst {a : Addr} {xs : List V} (e : H a = some (.lst xs)) (h : Q (.bl true) H) : rIsiU K [.ref a, .ty "list"] H Q := isi_ty (.base (.lst e)) (by decide +kernel) h
theorem isi_tup_tup {a : Addr} {xs : List V} (e : H a = some (.tup xs)) (h : Q (.bl true) H) : rIsiU K [.ref a, .ty "tuple"] H Q := isi_ty (.base (.tup e)) (by decide +kernel) h
end
/-! ### a handled exception -/
section
variable {K : PySem.W.Frag} {H : Hp} {Q : VK} {σ : St}
theorem was_i {c cls : Value} {i : Nat} {ts : Addr → Value → Option Addr → TS} {Wout : WX} {D : Ends} {d : Option Addr} (em : PySem.W.exmOne K cls c = some true)
    (h : ∀ a, H a = none → ts a cls d { nx := fun σ' H' => D.nx (σ'.set i none) H', rt := D.rt, bk := fun σ' H' => D.bk (σ'.set i none) H', ct := fun σ' H' => D.ct (σ'.set i none) H' } (σ.set i (some (.ref a))) H) : L2.WE (wAs K c i ts Wout D) σ cls d H :=
  ⟨true, em, fun _ => h, fun z => Bool.noConfusion z⟩
theorem isX_c {a D C : Addr} {d : Option Addr} {b : Bool} (X : XCls K D) (fs : List (Str × V)) (hd : XDict H d fs) (e : PySem.W.kitOne K (.ref D) (.ref C) = some b) (h : Q (.bl b) H) : rIsX K a (.ref D) d [.ref a, .ref C] H Q :=
  ⟨D, fs, .ref C, b, rfl, rfl, X, hd, .inl ⟨_, .own C, e⟩, h⟩
theorem isX_t {a D : Addr} {d : Option Addr} {b : Bool} {n : String} (X : XCls K D) (fs : List (Str × V)) (hd : XDict H d fs) (e : PySem.W.kitOne K (.ref D) (.type n) = some b) (h : Q (.bl b) H) : rIsX K a (.ref D) d [.ref a, .ty n] H Q :=
  ⟨D, fs, .ty n, b, rfl, rfl, X, hd, .inl ⟨_, .ty n, e⟩, h⟩
def XFv (K : PySem.W.Frag) (a : Addr) (cls : Value) (d : Option Addr) (f : Str) (x : V) (H1 : Hp) (Q : VK) : Prop := ∃ (D dd : Addr) (fs : List (Str × V)) (v : V), x = .ref a ∧ cls = .ref D ∧ XCls K D ∧ d = some dd ∧ H1 dd = some (.xd fs) ∧
  PySem.W.findIn K (.ref D) f = some none ∧ fs.lookup f = some v ∧ Q v H1
theorem tXF_i {a : Addr} {cls : Value} {d : Option Addr} {f : Str} {te : TE} (h : te σ H fun x H1 => XFv K a cls d f x H1 Q) : tXF K a cls d f te σ H Q := h
theorem xf1 {a D dd : Addr} {f : Str} {v : V} (X : XCls K D) (hd : H dd = some (.xd [(f, v)])) (hn : PySem.W.findIn K (.ref D) f = some none) (h : Q v H) : XFv K a (.ref D) (some dd) f (.ref a) H Q :=
  ⟨D, dd, [(f, v)], v, rfl, rfl, X, rfl, hd, hn, by simp [List.lookup], h⟩
end
section
variable {H : Hp} {Q : VK} {σ : St} {te : TE}
def Rg1v (x : V) (H : Hp) (Q : VK) : Prop := ∃ n, x = .int n ∧ RgOk 0 n ∧ ∀ q, H q = none → Q (.ref q) (upd H q (.lst (rgV 0 n)))
theorem tLstRg1_i (h : te σ H fun x H1 => Rg1v x H1 Q) : tLstRg (tRg1 te) σ H Q := h
end
theorem rg1_i {H : Hp} {Q : VK} {n : Int} (hn : 0 ≤ n ∧ n ≤ 1000000) (h : ∀ q H', H q = none → Same H H' → H' q = some (.lst (rgV 0 n)) → Q (.ref q) H') : Rg1v (.int n) H Q :=
  ⟨n, rfl, .of_le (by omega) (by omega) (by omega) hn.1, fun q hq => h q _ hq (Same.new hq) upd_same⟩
/-! ### truth, choice by if -/
theorem gtup {H : Hp} {Q : VK} {E : XK} {o : Out} {xs : List V} (e : o = .tup xs) (k : ∀ H' p, Same H H' → H' p = some (.tup xs) → Q (.ref p) H') : Gives H Q E o := by
  subst e
  exact k
theorem glst {H : Hp} {Q : VK} {E : XK} {o : Out} {R : Hp → List V → Prop} (e : o = .lst R) (k : ∀ H' p vs, Same H H' → H p = none → H' p = some (.lst vs) → R H' vs → Q (.ref p) H') : Gives H Q E o := by
  subst e
  exact k
theorem at_int {xs : List Int} {i : Int} {n : Nat} {z : Int} (e : i = (n : Int)) (h : xs[n]? = some z) : atI (xs.map V.int) i = some (.int z) := at_of e (by rw [List.getElem?_map, h]; rfl)
theorem map_take_succ {α β : Type} {xs : List α} {f : α → β} {i : Nat} {x : α} (h : xs[i]? = some x) : (xs.take (i + 1)).map f = (xs.take i).map f ++ [f x] := by
  rw [List.take_add_one, h, List.map_append]
  rfl
theorem isi_tupS {K : PySem.W.Frag} {H : Hp} {Q : VK} {a : Addr} {xs : List V} (hS : SqT K H a xs) (h : Q (.bl true) H) : rIsiU K [.ref a, .ty "tuple"] H Q := by
  rcases hS with (e | ⟨o, e⟩) | ⟨o, its, n, hk, hc, _⟩
  · exact isi_tup_tup e h
  · exact isi_ty (.fTuple e) (by decide +kernel) h
  · exact isi_ty (.kTuple hk hc) (by decide +kernel) h
theorem isi_lstS {K : PySem.W.Frag} {H : Hp} {Q : VK} {a : Addr} {xs : List V} (hS : SqL K H a xs) (h : Q (.bl true) H) : rIsiU K [.ref a, .ty "list"] H Q := by
  rcases hS with (e | ⟨o, e⟩) | ⟨o, its, n, hk, hc, _⟩
  · exact isi_lst_lst e h
  · exact isi_ty (.base (.frz e)) (by decide +kernel) h
  · exact isi_ty (.kList hk hc) (by decide +kernel) h
def spLaw (K : PySem.W.Frag) : Sp := fun vs H Q _ => ∃ (a : Addr) (ns : List Int), vs = [.ref a] ∧ SqL K H a (ns.map V.int) ∧ ns.length ≤ 63 ∧ ∀ H', Q (.bl true) H'
theorem noX {P : Program} (w : World) (H : Hp) (s : Shared) (e : Value) (s' : Shared) (h : L2.CX P w [] H s (fun _ _ _ => False) e s') : False := by
  obtain ⟨_, _, _, _, _, _, _, _, _, _, _, _, z⟩ := h
  exact z
end EL

namespace Nm
/-! ### primes by trial -/
def noDiv : Nat → Nat → Nat → Bool
  | 0, _, _ => true
  | f + 1, d, n => if n < d * d then true else if n % d = 0 then false else noDiv f (d + 2) n
def isPN (n : Nat) : Bool := decide (3 ≤ n) && (decide (n % 2 = 1) && noDiv n 3 n)
def isP (n : Int) : Bool := isPN n.toNat
theorem noDiv_big {f d n : Nat} (h : n < d * d) : noDiv f d n = true := by
  cases f with
  | zero => rfl
  | succ f => unfold noDiv; rw [if_pos h]
theorem noDiv_hit {f d n : Nat} (h : d * d ≤ n) (h2 : n % d = 0) : noDiv (f + 1) d n = false := by
  unfold noDiv
  rw [if_neg (by omega), if_pos h2]
theorem noDiv_go {f d n : Nat} (h : d * d ≤ n) (h2 : n % d ≠ 0) : noDiv (f + 1) d n = noDiv f (d + 2) n := by
  rw [noDiv, if_neg (by omega), if_neg h2]
/-- no divisor from d on in steps of two, up to the root -/
theorem noDiv_all : ∀ {f d n : Nat}, noDiv f d n = true → n < d + 2 * f → ∀ k, (d + 2 * k) * (d + 2 * k) ≤ n → n % (d + 2 * k) ≠ 0
  | 0, d, n, _, hf, k, hk => by
    have : d + 2 * k ≤ (d + 2 * k) * (d + 2 * k) := Nat.le_mul_self _
    omega
  | f + 1, d, n, h, hf, k, hk => by
    by_cases hb : n < d * d
    · exfalso
      have : d * d ≤ (d + 2 * k) * (d + 2 * k) := Nat.mul_le_mul (by omega) (by omega)
      omega
    · by_cases hm : n % d = 0
      · rw [noDiv_hit (by omega) hm] at h
        cases h
      · rw [noDiv_go (by omega) hm] at h
        cases k with
        | zero => simpa using hm
        | succ k =>
          have e : d + 2 * (k + 1) = (d + 2) + 2 * k := by omega
          rw [e] at hk ⊢
          exact noDiv_all h (by omega) k hk
theorem mod_of_dvd_lt {n d : Nat} (h : n % d = 0) : d ∣ n := Nat.dvd_of_mod_eq_zero h
/-- a number that the trial lets has no divisor but 1 and itself -/
theorem isPN_prime {n : Nat} (h : isPN n = true) : 3 ≤ n ∧ n % 2 = 1 ∧ ∀ d, 1 < d → d < n → n % d ≠ 0 := by
  unfold isPN at h
  simp only [Bool.and_eq_true, decide_eq_true_eq] at h
  obtain ⟨h3, h2, hn⟩ := h
  refine ⟨h3, h2, ?_⟩
  -- no small divisor
  have small : ∀ d, 1 < d → d * d ≤ n → n % d ≠ 0 := by
    intro d hd hdd hm
    have hdv : d ∣ n := Nat.dvd_of_mod_eq_zero hm
    by_cases ho : d % 2 = 0
    · have : 2 ∣ n := Nat.dvd_trans (Nat.dvd_of_mod_eq_zero ho) hdv
      have := Nat.mod_eq_zero_of_dvd this
      omega
    · have e : d = 3 + 2 * ((d - 3) / 2) := by omega
      have q := noDiv_all hn (by omega) ((d - 3) / 2)
      rw [← e] at q
      exact q hdd hm
  intro d hd hlt hm
  have hdv : d ∣ n := Nat.dvd_of_mod_eq_zero hm
  obtain ⟨c, hc⟩ := hdv
  by_cases hdd : d * d ≤ n
  · exact small d hd hdd hm
  · have hcd : c < d := by
      apply Nat.lt_of_mul_lt_mul_left (a := d)
      omega
    have hc1 : 1 < c := by
      rcases Nat.lt_or_ge 1 c with z | z
      · exact z
      · exfalso
        have : c = 0 ∨ c = 1 := by omega
        rcases this with rfl | rfl
        · omega
        · omega
    have hcc : c * c ≤ n := by
      rw [hc]
      exact Nat.mul_le_mul_right c (by omega)
    refine small c hc1 hcc ?_
    rw [hc]
    exact Nat.mul_mod_left d c
end Nm

namespace Nm
/-! ### residues -/
theorem mul_mod_r (x y p : Int) : x * (y % p) % p = x * y % p := by rw [Int.mul_emod, Int.emod_emod, ← Int.mul_emod]
theorem mul_mod_l (x y p : Int) : (x % p) * y % p = x * y % p := by rw [Int.mul_emod, Int.emod_emod, ← Int.mul_emod]
theorem mod_of_eq {a b p k : Int} (h : a = b + p * k) : a % p = b % p := by rw [h, Int.add_mul_emod_self_left]
theorem eq_of_mod {a b p : Int} (h : a % p = b % p) : ∃ k, a = b + p * k := ⟨a / p - b / p, by
  have h1 := Int.mul_ediv_add_emod a p
  have h2 := Int.mul_ediv_add_emod b p
  grind⟩
theorem mod_self {a p : Int} (h : 0 ≤ a ∧ a < p) : a % p = a := Int.emod_eq_of_lt h.1 h.2
theorem inv_unique {p x y z : Int} (hy : 0 ≤ y ∧ y < p) (hz : 0 ≤ z ∧ z < p) (h1 : x * y % p = 1) (h2 : x * z % p = 1) : y = z := by
  have h3 : x * y % p = x * z % p := h1.trans h2.symm
  obtain ⟨a, ha⟩ := eq_of_mod h3
  have e := Int.mul_ediv_add_emod (x * y) p
  have q : y % p = z % p := by
    refine mod_of_eq (k := y * a - (x * y / p) * (y - z)) ?_
    rw [h1] at e
    grind
  rw [mod_self hy, mod_self hz] at q
  exact q
/-- the residue whose product with x is 1 (0 if there is none) -/
def inv (p x : Int) : Int := (((List.range p.toNat).find? fun (y : Nat) => decide (x * (y : Int) % p = 1)).getD 0 : Nat)
theorem inv_eq {p x y : Int} (hy : 0 ≤ y ∧ y < p) (h : x * y % p = 1) : inv p x = y := by
  unfold inv
  have hm : y.toNat ∈ List.range p.toNat := List.mem_range.mpr (by omega)
  cases e : (List.range p.toNat).find? fun (y : Nat) => decide (x * (y : Int) % p = 1) with
  | none =>
    have q := List.find?_eq_none.mp e _ hm
    rw [Int.toNat_of_nonneg hy.1] at q
    simp [h] at q
  | some z =>
    have q := List.find?_some e
    have q2 := List.mem_of_find?_eq_some e
    have hz := List.mem_range.mp q2
    simp only [decide_eq_true_eq] at q
    show ((z : Nat) : Int) = y
    exact inv_unique ⟨by omega, by omega⟩ hy q h
/-- a common divisor of an odd prime and a smaller number is 1 -/
theorem gcd_prime {p x : Nat} (h : isPN p = true) (h1 : 1 ≤ x) (h2 : x < p) : Nat.gcd x p = 1 := by
  have hp := (isPN_prime h).2.2 (Nat.gcd x p)
  have d1 : Nat.gcd x p ∣ x := Nat.gcd_dvd_left x p
  have d2 : Nat.gcd x p ∣ p := Nat.gcd_dvd_right x p
  have l1 : Nat.gcd x p ≤ x := Nat.le_of_dvd (by omega) d1
  have l2 : 0 < Nat.gcd x p := Nat.gcd_pos_of_pos_left _ (by omega)
  rcases Nat.lt_or_ge 1 (Nat.gcd x p) with z | z
  · exact absurd (Nat.mod_eq_zero_of_dvd d2) (hp z (by omega))
  · omega
theorem isP_nat {p : Int} (h : isP p = true) : isPN p.toNat = true ∧ 3 ≤ p := by
  have h' : isPN p.toNat = true := h
  have := (isPN_prime h').1
  exact ⟨h', by omega⟩
/-- the word of the loop that finds the inverse -/
structure InvAt (p x r o f l : Int) : Prop where
  r0 : 0 < r
  rb : r < p
  o0 : 0 ≤ o
  ob : o ≤ p
  g : Nat.gcd r.toNat o.toNat = 1
  hf : ∃ k, f * x = r + p * k
  hl : ∃ k, l * x = o + p * k
theorem invAt_start {p x : Int} (hp : isP p = true) (h1 : 1 ≤ x) (h2 : x ≤ p - 1) : InvAt p x x p 1 0 := by
  have hq := isP_nat hp
  exact ⟨by omega, by omega, by omega, by omega, gcd_prime hq.1 (by omega) (by omega), ⟨0, by grind⟩, ⟨-1, by grind⟩⟩
theorem invAt_step {p x r o f l : Int} (h : InvAt p x r o f l) (hr : 1 < r) : InvAt p x (o - o / r * r) r (l - o / r * f) f ∧ o - o / r * r < r ∧ 0 ≤ o / r ∧ o / r ≤ o := by
  have e : o - o / r * r = o % r := by
    have := Int.mul_ediv_add_emod o r
    grind
  have hm0 : 0 ≤ o % r := Int.emod_nonneg _ (by omega)
  have hm1 : o % r < r := Int.emod_lt_of_pos _ (by omega)
  have hg : Nat.gcd (o % r).toNat r.toNat = 1 := by
    have e2 : (o % r).toNat = o.toNat % r.toNat := Int.toNat_emod h.o0 (by omega)
    rw [e2]
    have q2 := h.g
    rw [Nat.gcd_rec] at q2
    exact q2
  have hpos : 0 < o % r := by
    rcases Int.lt_or_eq_of_le hm0 with z | z
    · exact z
    · exfalso
      rw [← z] at hg
      simp at hg
      omega
  obtain ⟨k1, h1⟩ := h.hf
  obtain ⟨k2, h2⟩ := h.hl
  refine ⟨⟨by rw [e]; exact hpos, by rw [e]; have := h.rb; omega, by omega, by have := h.rb; omega, by rw [e]; exact hg, ⟨k2 - o / r * k1, by grind⟩, ⟨k1, h1⟩⟩, by rw [e]; exact hm1, ?_, ?_⟩
  · exact Int.ediv_nonneg h.o0 (by omega)
  · exact Int.ediv_le_self _ h.o0
theorem invAt_end {p x r o f l : Int} (h : InvAt p x r o f l) (hr : ¬ 1 < r) : x * (f % p) % p = 1 ∧ 0 ≤ f % p ∧ f % p < p ∧ inv p x = f % p := by
  have h0 := h.r0
  have hb := h.rb
  have e : r = 1 := by omega
  obtain ⟨k, hk⟩ := h.hf
  have q : x * (f % p) % p = 1 := by
    rw [mul_mod_r, mod_of_eq (b := 1) (k := k) (by grind), Int.emod_eq_of_lt (by omega) (by omega)]
  have b0 : 0 ≤ f % p := Int.emod_nonneg _ (by omega)
  have b1 : f % p < p := Int.emod_lt_of_pos _ (by omega)
  exact ⟨q, b0, b1, inv_eq ⟨b0, b1⟩ q⟩
theorem inv_of_word {p x : Int} : ∀ (n : Nat) (r o f l : Int), InvAt p x r o f l → r.toNat ≤ n → x * inv p x % p = 1 ∧ 0 ≤ inv p x ∧ inv p x < p
  | 0, r, o, f, l, h, hn => by
    have := h.r0
    omega
  | n + 1, r, o, f, l, h, hn => by
    by_cases hr : 1 < r
    · obtain ⟨h2, hlt, _, _⟩ := invAt_step h hr
      exact inv_of_word n _ _ _ _ h2 (by have := h2.r0; omega)
    · obtain ⟨h1, h2, h3, h4⟩ := invAt_end h hr
      rw [h4]
      exact ⟨h1, h2, h3⟩
theorem inv_spec {p x : Int} (hp : isP p = true) (h1 : 1 ≤ x) (h2 : x ≤ p - 1) : x * inv p x % p = 1 ∧ 0 ≤ inv p x ∧ inv p x < p :=
  inv_of_word x.toNat _ _ _ _ (invAt_start hp h1 h2) (Nat.le_refl _)
/-- the one k with a k = b -/
theorem quot_hit {p a b : Int} (hp : isP p = true) (h1 : 1 ≤ a) (h2 : a ≤ p - 1) (hb : 0 ≤ b ∧ b < p) : a * (b * inv p a % p) % p = b := by
  have q := (inv_spec hp h1 h2).1
  rw [mul_mod_r]
  have e : a * (b * inv p a) = b * (a * inv p a) := by grind
  rw [e, Int.mul_emod, q, Int.mul_one, Int.emod_emod, mod_self hb]
theorem quot_unique {p a b k : Int} (hp : isP p = true) (h1 : 1 ≤ a) (h2 : a ≤ p - 1) (hk : 0 ≤ k ∧ k < p) (h : a * k % p = b) : k = b * inv p a % p := by
  have q := (inv_spec hp h1 h2).1
  rw [← h, mul_mod_l]
  have e : a * k * inv p a = k * (a * inv p a) := by grind
  rw [e, Int.mul_emod, q, Int.mul_one, Int.emod_emod, mod_self hk]
end Nm

namespace Lw
open PySem PySem.Spec PyProof.Rows L2 EL Nm
def topS (i : Nat) : Stmt := PySem.Challenge.pw_endsflat_k40_points_and_frames.main.body.getD i (.Pass ⟨0, 0, 0, 0⟩)
abbrev s_SizeError_init : Stmt := inClass (topS 2) 0
abbrev s_NumberError_init : Stmt := inClass (topS 3) 0
abbrev s_check_number : Stmt := topS 8
abbrev s_is_odd_prime : Stmt := topS 9
abbrev s_check_prime : Stmt := topS 10
abbrev s_inverse : Stmt := topS 11
abbrev s_look_number : Stmt := topS 14
abbrev s_look_prime : Stmt := topS 15
abbrev s_look_small_prime : Stmt := topS 16
abbrev s_look_residue : Stmt := topS 17
abbrev s_look_pair : Stmt := topS 18
abbrev s_point_of : Stmt := topS 20
abbrev s_point_vector : Stmt := topS 21
abbrev s_frames : Stmt := topS 22
abbrev s_ulaw_draws : Stmt := topS 24
abbrev s_ulaw_next : Stmt := topS 25
abbrev s_ulaw_upward : Stmt := topS 26
abbrev s_ulaw_whole : Stmt := topS 27
abbrev s_ulaw_asked : Stmt := topS 28
abbrev s_ulaw_point : Stmt := topS 29
abbrev s_ulaw_vectors : Stmt := topS 30
abbrev s_ulaw_frames : Stmt := topS 31
abbrev s_ulaw_pairs : Stmt := topS 32
abbrev s_ulaw_refused : Stmt := topS 33
abbrev s_law : Stmt := topS 34
theorem sc_SizeError_init : FnScope ["self", "count"] ["self", "count"] (defScope s_SizeError_init) := ⟨rfl, rfl, rfl, by decide +kernel, rfl, by decide +kernel, by decide +kernel⟩
theorem sc_NumberError_init : FnScope ["self", "number"] ["self", "number"] (defScope s_NumberError_init) := ⟨rfl, rfl, rfl, by decide +kernel, rfl, by decide +kernel, by decide +kernel⟩
theorem sc_check_number : FnScope ["number", "low", "high"] ["number", "low", "high"] (defScope s_check_number) := ⟨rfl, rfl, rfl, by decide +kernel, rfl, by decide +kernel, by decide +kernel⟩
theorem sc_is_odd_prime : FnScope ["number", "divisor"] ["number"] (defScope s_is_odd_prime) := ⟨rfl, rfl, rfl, by decide +kernel, rfl, by decide +kernel, by decide +kernel⟩
theorem sc_check_prime : FnScope ["prime"] ["prime"] (defScope s_check_prime) := ⟨rfl, rfl, rfl, by decide +kernel, rfl, by decide +kernel, by decide +kernel⟩
theorem sc_inverse : FnScope ["prime", "number", "rest", "other", "factor", "last", "quotient"] ["prime", "number"] (defScope s_inverse) := ⟨rfl, rfl, rfl, by decide +kernel, rfl, by decide +kernel, by decide +kernel⟩
theorem sc_look_number : FnScope ["number", "low", "high"] ["number", "low", "high"] (defScope s_look_number) := ⟨rfl, rfl, rfl, by decide +kernel, rfl, by decide +kernel, by decide +kernel⟩
theorem sc_look_prime : FnScope ["prime"] ["prime"] (defScope s_look_prime) := ⟨rfl, rfl, rfl, by decide +kernel, rfl, by decide +kernel, by decide +kernel⟩
theorem sc_look_small_prime : FnScope ["prime"] ["prime"] (defScope s_look_small_prime) := ⟨rfl, rfl, rfl, by decide +kernel, rfl, by decide +kernel, by decide +kernel⟩
theorem sc_look_residue : FnScope ["prime", "number"] ["prime", "number"] (defScope s_look_residue) := ⟨rfl, rfl, rfl, by decide +kernel, rfl, by decide +kernel, by decide +kernel⟩
theorem sc_look_pair : FnScope ["prime", "pair", "number"] ["prime", "pair"] (defScope s_look_pair) := ⟨rfl, rfl, rfl, by decide +kernel, rfl, by decide +kernel, by decide +kernel⟩
theorem sc_point_of : FnScope ["prime", "vector", "x", "y"] ["prime", "vector"] (defScope s_point_of) := ⟨rfl, rfl, rfl, by decide +kernel, rfl, by decide +kernel, by decide +kernel⟩
theorem sc_point_vector : FnScope ["prime", "point"] ["prime", "point"] (defScope s_point_vector) := ⟨rfl, rfl, rfl, by decide +kernel, rfl, by decide +kernel, by decide +kernel⟩
theorem sc_frames : FnScope ["prime", "j", "k"] ["prime"] (defScope s_frames) := ⟨rfl, rfl, rfl, by decide +kernel, rfl, by decide +kernel, by decide +kernel⟩
theorem sc_ulaw_draws : FnScope ["script", "count", "row", "k", "cell", "step", "mixed", "seed"] ["script", "count"] (defScope s_ulaw_draws) := ⟨rfl, rfl, rfl, by decide +kernel, rfl, by decide +kernel, by decide +kernel⟩
theorem sc_ulaw_next : FnScope ["cells", "at", "many"] ["cells", "at", "many"] (defScope s_ulaw_next) := ⟨rfl, rfl, rfl, by decide +kernel, rfl, by decide +kernel, by decide +kernel⟩
theorem sc_ulaw_upward : FnScope ["p", "step", "k"] ["p"] (defScope s_ulaw_upward) := ⟨rfl, rfl, rfl, by decide +kernel, rfl, by decide +kernel, by decide +kernel⟩
theorem sc_ulaw_whole : FnScope ["x"] ["x"] (defScope s_ulaw_whole) := ⟨rfl, rfl, rfl, by decide +kernel, rfl, by decide +kernel, by decide +kernel⟩
theorem sc_ulaw_asked : FnScope ["which", "p", "thing", "told", "e", "out"] ["which", "p", "thing"] (defScope s_ulaw_asked) := ⟨rfl, rfl, rfl, by decide +kernel, rfl, by decide +kernel, by decide +kernel⟩
theorem sc_ulaw_point : FnScope ["p", "vector", "a", "b", "k"] ["p", "vector"] (defScope s_ulaw_point) := ⟨rfl, rfl, rfl, by decide +kernel, rfl, by decide +kernel, by decide +kernel⟩
theorem sc_ulaw_vectors : FnScope ["cells", "at", "p", "out", "a", "step", "b"] ["cells", "at", "p"] (defScope s_ulaw_vectors) := ⟨rfl, rfl, rfl, by decide +kernel, rfl, by decide +kernel, by decide +kernel⟩
theorem sc_ulaw_frames : FnScope ["p", "out", "j", "k"] ["p"] (defScope s_ulaw_frames) := ⟨rfl, rfl, rfl, by decide +kernel, rfl, by decide +kernel, by decide +kernel⟩
theorem sc_ulaw_pairs : FnScope ["told", "x", "y"] ["told"] (defScope s_ulaw_pairs) := ⟨rfl, rfl, rfl, by decide +kernel, rfl, by decide +kernel, by decide +kernel⟩
theorem sc_ulaw_refused : FnScope ["cells", "at", "p", "odd", "low", "wrong", "bad", "asks", "high", "wide", "which", "q", "thing", "due"] ["cells", "at", "p"] (defScope s_ulaw_refused) := ⟨rfl, rfl, rfl, by decide +kernel, rfl, by decide +kernel, by decide +kernel⟩
theorem sc_law : FnScope ["script", "cells", "at", "p", "vector", "told", "points", "k", "due", "small"] ["script"] (defScope s_law) := ⟨rfl, rfl, rfl, by decide +kernel, rfl, by decide +kernel, by decide +kernel⟩
def gk_point_vector_0_point_prime {α : Type} (us ws : List α) : List α := match us, ws with
  | [], [w0, w1] => [w1, w0]
  | _, _ => []
def gk_point_of_0_vector_prime {α : Type} (us ws : List α) : List α := match us, ws with
  | [], [w0, w1] => [w1, w0]
  | _, _ => []
structure Tab where
  a_SizeError_init : Addr
  fd_SizeError_init : FuncData
  a_NumberError_init : Addr
  fd_NumberError_init : FuncData
  a_check_number : Addr
  fd_check_number : FuncData
  a_is_odd_prime : Addr
  fd_is_odd_prime : FuncData
  a_check_prime : Addr
  fd_check_prime : FuncData
  a_inverse : Addr
  fd_inverse : FuncData
  a_look_number : Addr
  fd_look_number : FuncData
  a_look_prime : Addr
  fd_look_prime : FuncData
  a_look_small_prime : Addr
  fd_look_small_prime : FuncData
  a_look_residue : Addr
  fd_look_residue : FuncData
  a_look_pair : Addr
  fd_look_pair : FuncData
  a_point_of : Addr
  fd_point_of : FuncData
  a_point_vector : Addr
  fd_point_vector : FuncData
  a_frames : Addr
  fd_frames : FuncData
  a_ulaw_draws : Addr
  fd_ulaw_draws : FuncData
  a_ulaw_next : Addr
  fd_ulaw_next : FuncData
  a_ulaw_upward : Addr
  fd_ulaw_upward : FuncData
  a_ulaw_whole : Addr
  fd_ulaw_whole : FuncData
  a_ulaw_asked : Addr
  fd_ulaw_asked : FuncData
  a_ulaw_point : Addr
  fd_ulaw_point : FuncData
  a_ulaw_vectors : Addr
  fd_ulaw_vectors : FuncData
  a_ulaw_frames : Addr
  fd_ulaw_frames : FuncData
  a_ulaw_pairs : Addr
  fd_ulaw_pairs : FuncData
  a_ulaw_refused : Addr
  fd_ulaw_refused : FuncData
  a_law : Addr
  fd_law : FuncData
  c_EndsError : Addr
  c_SizeError : Addr
  c_NumberError : Addr
  c_ZeroVector : Addr
  c_DependentError : Addr
  k_MOST : Tok
  k_SMALL : Tok
structure Txt (K : PySem.W.Frag) (mg : Str → Option Value) (t : Tab) : Prop where
  F_SizeError_init : Fun K "__init__" "SizeError.__init__" s_SizeError_init t.a_SizeError_init t.fd_SizeError_init
  b_SizeError_init : Binds K t.fd_SizeError_init ["self", "count"] []
  F_NumberError_init : Fun K "__init__" "NumberError.__init__" s_NumberError_init t.a_NumberError_init t.fd_NumberError_init
  b_NumberError_init : Binds K t.fd_NumberError_init ["self", "number"] []
  g_check_number : mg "check_number" = some (.ref t.a_check_number)
  F_check_number : Fun K "check_number" "check_number" s_check_number t.a_check_number t.fd_check_number
  b_check_number : Binds K t.fd_check_number ["number", "low", "high"] []
  g_is_odd_prime : mg "is_odd_prime" = some (.ref t.a_is_odd_prime)
  F_is_odd_prime : Fun K "is_odd_prime" "is_odd_prime" s_is_odd_prime t.a_is_odd_prime t.fd_is_odd_prime
  b_is_odd_prime : Binds K t.fd_is_odd_prime ["number"] []
  g_check_prime : mg "check_prime" = some (.ref t.a_check_prime)
  F_check_prime : Fun K "check_prime" "check_prime" s_check_prime t.a_check_prime t.fd_check_prime
  b_check_prime : Binds K t.fd_check_prime ["prime"] []
  g_inverse : mg "inverse" = some (.ref t.a_inverse)
  F_inverse : Fun K "inverse" "inverse" s_inverse t.a_inverse t.fd_inverse
  b_inverse : Binds K t.fd_inverse ["prime", "number"] []
  g_look_number : mg "look_number" = some (.ref t.a_look_number)
  F_look_number : Fun K "look_number" "look_number" s_look_number t.a_look_number t.fd_look_number
  b_look_number : Binds K t.fd_look_number ["number", "low", "high"] []
  g_look_prime : mg "look_prime" = some (.ref t.a_look_prime)
  F_look_prime : Fun K "look_prime" "look_prime" s_look_prime t.a_look_prime t.fd_look_prime
  b_look_prime : Binds K t.fd_look_prime ["prime"] []
  g_look_small_prime : mg "look_small_prime" = some (.ref t.a_look_small_prime)
  F_look_small_prime : Fun K "look_small_prime" "look_small_prime" s_look_small_prime t.a_look_small_prime t.fd_look_small_prime
  b_look_small_prime : Binds K t.fd_look_small_prime ["prime"] []
  g_look_residue : mg "look_residue" = some (.ref t.a_look_residue)
  F_look_residue : Fun K "look_residue" "look_residue" s_look_residue t.a_look_residue t.fd_look_residue
  b_look_residue : Binds K t.fd_look_residue ["prime", "number"] []
  g_look_pair : mg "look_pair" = some (.ref t.a_look_pair)
  F_look_pair : Fun K "look_pair" "look_pair" s_look_pair t.a_look_pair t.fd_look_pair
  b_look_pair : Binds K t.fd_look_pair ["prime", "pair"] []
  g_point_of : mg "point_of" = some (.ref t.a_point_of)
  F_point_of : Fun K "point_of" "point_of" s_point_of t.a_point_of t.fd_point_of
  b_point_of : Binds K t.fd_point_of ["prime", "vector"] []
  g_point_vector : mg "point_vector" = some (.ref t.a_point_vector)
  F_point_vector : Fun K "point_vector" "point_vector" s_point_vector t.a_point_vector t.fd_point_vector
  b_point_vector : Binds K t.fd_point_vector ["prime", "point"] []
  g_frames : mg "frames" = some (.ref t.a_frames)
  F_frames : Fun K "frames" "frames" s_frames t.a_frames t.fd_frames
  b_frames : Binds K t.fd_frames ["prime"] []
  g_ulaw_draws : mg "_law_draws" = some (.ref t.a_ulaw_draws)
  F_ulaw_draws : Fun K "_law_draws" "_law_draws" s_ulaw_draws t.a_ulaw_draws t.fd_ulaw_draws
  b_ulaw_draws : Binds K t.fd_ulaw_draws ["script", "count"] []
  g_ulaw_next : mg "_law_next" = some (.ref t.a_ulaw_next)
  F_ulaw_next : Fun K "_law_next" "_law_next" s_ulaw_next t.a_ulaw_next t.fd_ulaw_next
  b_ulaw_next : Binds K t.fd_ulaw_next ["cells", "at", "many"] []
  g_ulaw_upward : mg "_law_upward" = some (.ref t.a_ulaw_upward)
  F_ulaw_upward : Fun K "_law_upward" "_law_upward" s_ulaw_upward t.a_ulaw_upward t.fd_ulaw_upward
  b_ulaw_upward : Binds K t.fd_ulaw_upward ["p"] []
  g_ulaw_whole : mg "_law_whole" = some (.ref t.a_ulaw_whole)
  F_ulaw_whole : Fun K "_law_whole" "_law_whole" s_ulaw_whole t.a_ulaw_whole t.fd_ulaw_whole
  b_ulaw_whole : Binds K t.fd_ulaw_whole ["x"] []
  g_ulaw_asked : mg "_law_asked" = some (.ref t.a_ulaw_asked)
  F_ulaw_asked : Fun K "_law_asked" "_law_asked" s_ulaw_asked t.a_ulaw_asked t.fd_ulaw_asked
  b_ulaw_asked : Binds K t.fd_ulaw_asked ["which", "p", "thing"] []
  g_ulaw_point : mg "_law_point" = some (.ref t.a_ulaw_point)
  F_ulaw_point : Fun K "_law_point" "_law_point" s_ulaw_point t.a_ulaw_point t.fd_ulaw_point
  b_ulaw_point : Binds K t.fd_ulaw_point ["p", "vector"] []
  g_ulaw_vectors : mg "_law_vectors" = some (.ref t.a_ulaw_vectors)
  F_ulaw_vectors : Fun K "_law_vectors" "_law_vectors" s_ulaw_vectors t.a_ulaw_vectors t.fd_ulaw_vectors
  b_ulaw_vectors : Binds K t.fd_ulaw_vectors ["cells", "at", "p"] []
  g_ulaw_frames : mg "_law_frames" = some (.ref t.a_ulaw_frames)
  F_ulaw_frames : Fun K "_law_frames" "_law_frames" s_ulaw_frames t.a_ulaw_frames t.fd_ulaw_frames
  b_ulaw_frames : Binds K t.fd_ulaw_frames ["p"] []
  g_ulaw_pairs : mg "_law_pairs" = some (.ref t.a_ulaw_pairs)
  F_ulaw_pairs : Fun K "_law_pairs" "_law_pairs" s_ulaw_pairs t.a_ulaw_pairs t.fd_ulaw_pairs
  b_ulaw_pairs : Binds K t.fd_ulaw_pairs ["told"] []
  g_ulaw_refused : mg "_law_refused" = some (.ref t.a_ulaw_refused)
  F_ulaw_refused : Fun K "_law_refused" "_law_refused" s_ulaw_refused t.a_ulaw_refused t.fd_ulaw_refused
  b_ulaw_refused : Binds K t.fd_ulaw_refused ["cells", "at", "p"] []
  g_law : mg "law" = some (.ref t.a_law)
  F_law : Fun K "law" "law" s_law t.a_law t.fd_law
  b_law : Binds K t.fd_law ["script"] []
  g_EndsError : mg "EndsError" = some (.ref t.c_EndsError)
  X_EndsError : XCls K t.c_EndsError
  x_EndsError : XOwn K t.c_EndsError
  g_SizeError : mg "SizeError" = some (.ref t.c_SizeError)
  X_SizeError : XCls K t.c_SizeError
  x_SizeError : OexC K t.c_SizeError
  xi_SizeError : PySem.W.findIn K (.ref t.c_SizeError) "__init__" = some (some (.ref t.a_SizeError_init))
  xt_SizeError : PySem.W.typeIn K (.ref t.a_SizeError_init) = some (.type "function")
  xn_SizeError_count : PySem.W.findIn K (.ref t.c_SizeError) "count" = some none
  g_NumberError : mg "NumberError" = some (.ref t.c_NumberError)
  X_NumberError : XCls K t.c_NumberError
  x_NumberError : OexC K t.c_NumberError
  xi_NumberError : PySem.W.findIn K (.ref t.c_NumberError) "__init__" = some (some (.ref t.a_NumberError_init))
  xt_NumberError : PySem.W.typeIn K (.ref t.a_NumberError_init) = some (.type "function")
  xn_NumberError_number : PySem.W.findIn K (.ref t.c_NumberError) "number" = some none
  g_ZeroVector : mg "ZeroVector" = some (.ref t.c_ZeroVector)
  X_ZeroVector : XCls K t.c_ZeroVector
  x_ZeroVector : XOwn K t.c_ZeroVector
  g_DependentError : mg "DependentError" = some (.ref t.c_DependentError)
  X_DependentError : XCls K t.c_DependentError
  x_DependentError : XOwn K t.c_DependentError
  g_MOST : mg "MOST" = some (.int 997 t.k_MOST)
  g_SMALL : mg "SMALL" = some (.int 23 t.k_SMALL)
  n_ValueError : mg "ValueError" = none
  n_all : mg "all" = none
  n_bool : mg "bool" = none
  n_int : mg "int" = none
  n_isinstance : mg "isinstance" = none
  n_len : mg "len" = none
  n_list : mg "list" = none
  n_min : mg "min" = none
  n_range : mg "range" = none
  n_sum : mg "sum" = none
  n_tuple : mg "tuple" = none
  kt_NumberError_NumberError : PySem.W.kitOne K (.ref t.c_NumberError) (.ref t.c_NumberError) = some true
  kt_NumberError_ZeroVector : PySem.W.kitOne K (.ref t.c_NumberError) (.ref t.c_ZeroVector) = some false
  kt_NumberError_SizeError : PySem.W.kitOne K (.ref t.c_NumberError) (.ref t.c_SizeError) = some false
  kt_NumberError_DependentError : PySem.W.kitOne K (.ref t.c_NumberError) (.ref t.c_DependentError) = some false
  kt_NumberError_ValueError : PySem.W.kitOne K (.ref t.c_NumberError) (.type "ValueError") = some true
  kt_ZeroVector_NumberError : PySem.W.kitOne K (.ref t.c_ZeroVector) (.ref t.c_NumberError) = some false
  kt_ZeroVector_ZeroVector : PySem.W.kitOne K (.ref t.c_ZeroVector) (.ref t.c_ZeroVector) = some true
  kt_ZeroVector_SizeError : PySem.W.kitOne K (.ref t.c_ZeroVector) (.ref t.c_SizeError) = some false
  kt_ZeroVector_DependentError : PySem.W.kitOne K (.ref t.c_ZeroVector) (.ref t.c_DependentError) = some false
  kt_ZeroVector_ValueError : PySem.W.kitOne K (.ref t.c_ZeroVector) (.type "ValueError") = some true
  em_EndsError_EndsError : PySem.W.exmOne K (.ref t.c_EndsError) (.ref t.c_EndsError) = some true
  em_SizeError_EndsError : PySem.W.exmOne K (.ref t.c_SizeError) (.ref t.c_EndsError) = some true
  em_NumberError_EndsError : PySem.W.exmOne K (.ref t.c_NumberError) (.ref t.c_EndsError) = some true
  em_ZeroVector_EndsError : PySem.W.exmOne K (.ref t.c_ZeroVector) (.ref t.c_EndsError) = some true
  em_DependentError_EndsError : PySem.W.exmOne K (.ref t.c_DependentError) (.ref t.c_EndsError) = some true
  kb_point_vector_0_point_prime : KBinds K t.fd_point_vector ["prime", "point"] ["point", "prime"] gk_point_vector_0_point_prime gk_point_vector_0_point_prime
  kb_point_of_0_vector_prime : KBinds K t.fd_point_of ["prime", "vector"] ["vector", "prime"] gk_point_of_0_vector_prime gk_point_of_0_vector_prime
-- heap facts
local macro_rules | `(tactic| walk_at "hp") => `(tactic| first
  | assumption
  | with_reducible apply L2.Same.refl
  | ((with_reducible apply L2.SqL.of); assumption)
  | ((with_reducible apply L2.SqT.of); assumption)
  | ((with_reducible apply L2.Same.seq); assumption; walk_at "hp")
  | ((with_reducible apply L2.Same.seqT); assumption; walk_at "hp")
  | ((with_reducible apply L2.Same.dp); assumption; walk_at "hp")
  | ((with_reducible apply L2.Same.dpAll); assumption; walk_at "hp")
  | ((with_reducible apply L2.Same.draw); assumption; walk_at "hp")
  | ((with_reducible apply strans); assumption; walk_at "hp")
  | ((with_reducible apply same_at); assumption; walk_at "hp"))
local macro_rules | `(tactic| walk_at "side") => `(tactic| first | assumption | omega | decide | exact ⟨by omega, by omega⟩ | exact .inl ⟨by omega, by omega⟩ | exact .inr ⟨by omega, by omega⟩ | exact Nat.le_of_ble_eq_true rfl)
local macro_rules | `(tactic| walk_at "rd1") => `(tactic| first
  | with_reducible refine tSeq_i ?_
  | ((with_reducible refine' tVar_i ?h1 ?_); (case h1 => exact rfl))
  | with_reducible refine tOp_i ?_
  | with_reducible refine tC_i ?_
  | with_reducible refine tTest_i ?_
  | with_reducible refine IsBl_i ?_
  | with_reducible refine tIfS_i ?_
  | with_reducible refine tAsg_i ?_
  | with_reducible refine gName_i ?_
  | with_reducible refine rI0_i ?_
  | with_reducible refine rAddU_i ?_
  | with_reducible refine rEqU_i ?_
  | with_reducible refine rNeU_i ?_
  | ((with_reducible refine rMulU_i ?h1 ?_); (case h1 => walk_at "side"))
  | ((with_reducible refine rModP_i ?h1 ?_); (case h1 => walk_at "side"))
  | ((with_reducible refine rDivP_i ?h1 ?_); (case h1 => walk_at "side"))
  | with_reducible refine tDrop_i ?_
  | with_reducible refine tCallS_i ?_
  | with_reducible refine tCons_i ?_
  | with_reducible refine tNil_i ?_
  | with_reducible refine tRet_i ?_
  | with_reducible refine tNext_i ?_
  | with_reducible refine tOr_i ?_
  | with_reducible refine tAnd_i ?_
  | with_reducible refine tNot_i ?_
  | with_reducible refine Br_t ?_
  | with_reducible refine Br_f ?_
  | with_reducible refine Br_nt ?_
  | with_reducible refine Br_nf ?_
  | with_reducible refine Br_n ?_
  | with_reducible refine tCall_i ?_
  | with_reducible refine tCallK_i ?_
  | with_reducible refine tCB_i ?_
  | with_reducible refine rInt1_i ?_
  | with_reducible refine tTup_i ?_
  | with_reducible refine tLst_i ?_
  | ((with_reducible refine new_i ?h1 ?_); (case h1 => walk_at "side"); intro _ _ _ _ _)
  | with_reducible refine tPar_i ?_
  | with_reducible refine Par2_i ?_
  | with_reducible refine tUn_i ?_
  | with_reducible refine rU_i ?_
  | ((with_reducible refine rI_i ?h1 ?_); (case h1 => walk_at "side"))
  | with_reducible refine tTruth_i ?_
  | with_reducible refine Tru_b ?_
  | with_reducible refine Tru_n ?_
  | with_reducible refine tIf_i ?_
  | with_reducible refine tAndV_i ?_
  | with_reducible refine tOrV_i ?_
  | with_reducible refine tNotV_i ?_
  | with_reducible refine tRetN_i ?_
  | with_reducible refine tBreak_i ?_
  | with_reducible refine tCont_i ?_
  | with_reducible refine tChain_i ?_
  | with_reducible refine rEqU_s ?_
  | with_reducible refine rNeU_s ?_
  | with_reducible refine rMin2_i ?_
  | with_reducible refine rMax2_i ?_
  | with_reducible refine rAbs_i ?_
  | with_reducible refine rIsN_i ?_
  | with_reducible refine rNotN_i ?_
  | ((with_reducible refine' rLen_l ?h1 ?_); (case h1 => walk_at "hp"))
  | ((with_reducible refine' rLen_t ?h1 ?_); (case h1 => walk_at "hp"))
  | ((with_reducible refine' rIxU_l ?h1 ?h2 ?_); (case h1 => walk_at "hp"); (case h2 => first | exact rfl | assumption))
  | ((with_reducible refine' rIxU_t ?h1 ?h2 ?_); (case h1 => walk_at "hp"); (case h2 => first | exact rfl | assumption))
  | with_reducible refine tBM_i ?_
  | ((with_reducible refine' tyL ?h1 ?_); (case h1 => walk_at "hp"))
  | with_reducible refine runS_cons ?_
  | with_reducible refine runS_nil ?_
  | ((with_reducible refine run_next ?h1 ?_); (case h1 => walk_at "hp"))
  | with_reducible refine tYes_i ?_
  | ((with_reducible refine wipe_i ?h1 ?_); (case h1 => exact rfl))
  | ((with_reducible refine' gTup_i ?h1 ?h2 ?_); (case h1 => walk_at "hp"); (case h2 => exact rfl))
  | with_reducible refine gCons_i ?_
  | with_reducible refine gNil_i ?_
  | with_reducible refine gSub_i ?_
  | with_reducible refine tXF_i ?_
  | ((with_reducible refine tCell_i ?_); intro _ _ _ _ _)
  | with_reducible refine tLstRg1_i ?_
  | with_reducible refine tSl_i ?_
  | with_reducible refine tNoPart_i ?_
  | with_reducible refine tPart_i ?_
  | with_reducible refine PartI_i ?_
  )
local macro_rules | `(tactic| walk_at "rd") => `(tactic| repeat walk_at "rd1")
local macro_rules | `(tactic| walk_at "br") => `(tactic| (refine Br_d (fun _ => ?_) (fun _ => ?_) <;> first | (exfalso; omega) | walk_at "rd"))

section
variable {P : Program} {w : World} {K : PySem.W.Frag} {mg : Str → Option Value} {base : Heap} {t : Tab}
def oNum (C : Addr) (n lo hi : Int) : Out := if n < lo ∨ n > hi then .err C "number" (.int n) else .ret .non
theorem oNum_ok {C : Addr} {n lo hi : Int} (h : lo ≤ n ∧ n ≤ hi) : oNum C n lo hi = .ret .non := if_neg (by omega)
theorem oNum_no {C : Addr} {n lo hi : Int} (h : n < lo ∨ n > hi) : oNum C n lo hi = .err C "number" (.int n) := if_pos h
def oIsP (C : Addr) (n : Int) : Out := if n < 0 ∨ n > 997 then .err C "number" (.int n) else .ret (.bl (isP n))
def oPrime (C : Addr) (n : Int) : Out := if 0 ≤ n ∧ n ≤ 997 ∧ isP n = true then .ret .non else .err C "number" (.int n)
theorem oPrime_ok {C : Addr} {n : Int} (h : 0 ≤ n ∧ n ≤ 997 ∧ isP n = true) : oPrime C n = .ret .non := if_pos h
theorem oPrime_no {C : Addr} {n : Int} (h : ¬ (0 ≤ n ∧ n ≤ 997 ∧ isP n = true)) : oPrime C n = .err C "number" (.int n) := if_neg h
def oSmall (C : Addr) (n : Int) : Out := if 3 ≤ n ∧ n ≤ 23 ∧ isP n = true then .ret .non else .err C "number" (.int n)
def oRes (C : Addr) (p n : Int) : Out := if 0 ≤ n ∧ n < p then .ret .non else .err C "number" (.int n)
theorem oRes_ok {C : Addr} {p n : Int} (h : 0 ≤ n ∧ n < p) : oRes C p n = .ret .non := if_pos h
theorem oRes_no {C : Addr} {p n : Int} (h : ¬ (0 ≤ n ∧ n < p)) : oRes C p n = .err C "number" (.int n) := if_neg h
/-- a pair is a tuple of two residues; anything else of two ints is refused with the first that is none -/
def oPair (C : Addr) (p a b : Int) : Out := if 0 ≤ a ∧ a < p then (if 0 ≤ b ∧ b < p then .ret .non else .err C "number" (.int b)) else .err C "number" (.int a)
theorem oPair_ok {C : Addr} {p a b : Int} (h : 0 ≤ a ∧ a < p) (h2 : 0 ≤ b ∧ b < p) : oPair C p a b = .ret .non := by unfold oPair; rw [if_pos h, if_pos h2]
def oInv (C : Addr) (p x : Int) : Out := if 0 ≤ p ∧ p ≤ 997 ∧ isP p = true then (if 1 ≤ x ∧ x ≤ p - 1 then .ret (.int (inv p x)) else .err C "number" (.int x)) else .err C "number" (.int p)
def oPoint (C Z : Addr) (p a b : Int) : Out := if 0 ≤ p ∧ p ≤ 997 ∧ isP p = true then (if 0 ≤ a ∧ a < p then (if 0 ≤ b ∧ b < p then (if a ≠ 0 then .ret (.int (b * inv p a % p)) else if b = 0 then .err0 Z else .ret (.int p)) else .err C "number" (.int b)) else .err C "number" (.int a)) else .err C "number" (.int p)
def oVector (C : Addr) (p k : Int) : Out := if 0 ≤ p ∧ p ≤ 997 ∧ isP p = true then (if 0 ≤ k ∧ k ≤ p then (if k = p then .tup [.int 0, .int 1] else .tup [.int 1, .int k]) else .err C "number" (.int k)) else .err C "number" (.int p)
def frRow (p j : Nat) : List PyData := (List.range (p - j)).map fun k => .tuple [.int (j : Nat), .int ((j + 1 + k : Nat) : Int)]
def frD (p n : Nat) : List PyData := (List.range n).flatMap (frRow p)
theorem frD_succ {p n : Nat} : frD p (n + 1) = frD p n ++ frRow p n := by
  unfold frD
  rw [List.range_succ, List.flatMap_append, List.flatMap_singleton]
def oFrames (K : PySem.W.Frag) (C : Addr) (p : Int) : Out := if 3 ≤ p ∧ p ≤ 23 ∧ isP p = true then .lst (fun H' vs => DpAll K H' vs (frD p.toNat (p.toNat + 1))) else .err C "number" (.int p)
def ten : List Int := [3, 5, 7, 11, 13, 17, 19, 23, 29, 31]
def okUp (p : Int) : Bool := ten.all fun k => decide (0 < p % k) || decide (p = k)
def upF : Nat → Int → Int
  | 0, _ => 997
  | f + 1, p => if okUp p = true then p else upF f (p + 2)
theorem up_all : (List.range 498).all (fun n => isP (upF 12 (3 + 2 * (n : Int))) && (decide (3 + 2 * (n : Int) ≤ upF 12 (3 + 2 * (n : Int))) && decide (upF 12 (3 + 2 * (n : Int)) ≤ 997))) = true := by decide +kernel
theorem up_ok {p : Int} (h3 : 3 ≤ p) (h9 : p ≤ 997) (ho : p % 2 = 1) : isP (upF 12 p) = true ∧ p ≤ upF 12 p ∧ upF 12 p ≤ 997 := by
  have q := List.all_eq_true.mp up_all ((p - 3) / 2).toNat (List.mem_range.mpr (by omega))
  have e : 3 + 2 * ((((p - 3) / 2).toNat : Nat) : Int) = p := by omega
  rw [e] at q
  simp only [Bool.and_eq_true, decide_eq_true_eq] at q
  exact q
def pairD (p : Int × Int) : PyData := .tuple [.int p.1, .int p.2]
def sp_SizeError_init (K : PySem.W.Frag) (t : Tab) : Sp := spI1 "count" K
theorem len_SizeError_init : ∀ vs H Q E, sp_SizeError_init K t vs H Q E → vs.length = ["self", "count"].length := fun _ _ _ _ h => spI1_len h
theorem ok_SizeError_init (T : Txt K mg t) : FnOk P w K mg base (L2.CX P w) 1 t.a_SizeError_init t.fd_SizeError_init ["self", "count"] (sp_SizeError_init K t) := by
  refine T.F_SizeError_init.okX sc_SizeError_init (len_SizeError_init) (fun cdv A outer s H vs Q E hr h => ?_)
  have nd := sc_SizeError_init.nd
  refine ⟨_, (pss_one (ps_ost (pv 0) (pv 1))), ?_⟩
  exact spI1_body h
def sp_NumberError_init (K : PySem.W.Frag) (t : Tab) : Sp := spI1 "number" K
theorem len_NumberError_init : ∀ vs H Q E, sp_NumberError_init K t vs H Q E → vs.length = ["self", "number"].length := fun _ _ _ _ h => spI1_len h
theorem ok_NumberError_init (T : Txt K mg t) : FnOk P w K mg base (L2.CX P w) 1 t.a_NumberError_init t.fd_NumberError_init ["self", "number"] (sp_NumberError_init K t) := by
  refine T.F_NumberError_init.okX sc_NumberError_init (len_NumberError_init) (fun cdv A outer s H vs Q E hr h => ?_)
  have nd := sc_NumberError_init.nd
  refine ⟨_, (pss_one (ps_ost (pv 0) (pv 1))), ?_⟩
  exact spI1_body h
def sp_check_number (K : PySem.W.Frag) (t : Tab) : Sp := fun vs H Q E => ∃ n lo hi : Int, vs = [.int n, .int lo, .int hi] ∧ Gives H Q E (oNum t.c_NumberError n lo hi)
theorem len_check_number : ∀ vs H Q E, sp_check_number K t vs H Q E → vs.length = (["number", "low", "high"] : List Str).length := by
  rintro vs H Q E ⟨_, _, _, rfl, _⟩
  rfl
theorem ok_check_number (T : Txt K mg t) : FnOk P w K mg base (L2.CX P w) 3 t.a_check_number t.fd_check_number ["number", "low", "high"] (sp_check_number K t) := by
  have G_NumberError_init := ok_NumberError_init (P := P) (w := w) (base := base) T
  refine T.F_check_number.okX sc_check_number (len_check_number) (fun cdv A outer s H vs Q E hr h => ?_)
  have nd := sc_check_number.nd
  refine ⟨_, (pss_one (ps_if (PW.pt (pw_or (pt_cmpR op_lt (pv 0) (pv 1) (by first | exact nomark _ | rfl)) (pw_or1 (pt_cmpR op_gt (pv 0) (pv 2) (by first | exact nomark _ | rfl))))) (pss_one (ps_raise rfl (takes_of rfl rfl rfl rfl) (pmk_oex T.x_NumberError T.xi_NumberError T.xt_NumberError G_NumberError_init (hr.mono (by decide)) T.b_NumberError_init .nil passLF (by rfl) T.g_NumberError (pa_cons (pv 0) pa_nil)))) pss_nil)), ?_⟩
  obtain ⟨n, lo, hi, rfl, k⟩ := h
  unfold oNum at k
  walk_at "rd"
  refine Br_d (fun c => ?_) (fun c => ?_)
  · rw [if_pos (.inl c)] at k
    walk_at "rd"
    refine tMkO_i ?_
    walk_at "rd"
    exact mkO1 T.x_NumberError T.xn_NumberError_number k
  · walk_at "rd"
    refine Br_d (fun c2 => ?_) (fun c2 => ?_)
    · rw [if_pos (.inr c2)] at k
      walk_at "rd"
      refine tMkO_i ?_
      walk_at "rd"
      exact mkO1 T.x_NumberError T.xn_NumberError_number k
    · rw [if_neg (by omega)] at k
      walk_at "rd"
      exact k _ (Same.refl _)
def sp_is_odd_prime (K : PySem.W.Frag) (t : Tab) : Sp := fun vs H Q E => ∃ n : Int, vs = [.int n] ∧ Gives H Q E (oIsP t.c_NumberError n)
theorem len_is_odd_prime : ∀ vs H Q E, sp_is_odd_prime K t vs H Q E → vs.length = (["number"] : List Str).length := by
  rintro vs H Q E ⟨_, rfl, _⟩
  rfl
theorem ok_is_odd_prime (T : Txt K mg t) : FnOk P w K mg base (L2.CX P w) 4 t.a_is_odd_prime t.fd_is_odd_prime ["number"] (sp_is_odd_prime K t) := by
  have G_check_number := ok_check_number (P := P) (w := w) (base := base) T
  refine T.F_is_odd_prime.okX sc_is_odd_prime (len_is_odd_prime) (fun cdv A outer s H vs Q E hr h => ?_)
  have nd := sc_is_odd_prime.nd
  refine ⟨_, (pss_cons (ps_expr (pe_callS G_check_number (hr.mono (by decide)) (by rfl) T.g_check_number T.F_check_number.kp T.b_check_number (fun σ => passAt (takes_of rfl rfl rfl rfl) σ) (pa_cons (pv 0) (pa_cons (pe_int) (pa_cons (pe_glob (v := .int 997) (by rfl) T.g_MOST ⟨_, rfl⟩) pa_nil)))))
    (pss_cons (ps_if (PW.pt (pw_or (pt_cmpR op_lt (pv 0) (pe_int) (by first | exact nomark _ | rfl)) (pw_or1 (pt_cmpR (op_eqUK K hr) (pe_op op_modP (pv 0) (pe_int)) (pe_int) (by first | exact nomark _ | rfl))))) (pss_one (ps_ret (pe_bl))) pss_nil)
    (pss_cons (ps_set (i := 1) nd rfl (Or.inl rfl) (pe_int))
    (pss_cons (ps_while (passes_of rfl) (pt_cmpR op_le (pe_op op_mulU (pv 1) (pv 1)) (pv 0) (by first | exact nomark _ | rfl)) (pss_cons (ps_if (pt_cmpR (op_eqUK K hr) (pe_op op_modP (pv 0) (pv 1)) (pe_int) (by first | exact nomark _ | rfl)) (pss_one (ps_ret (pe_bl))) pss_nil)
    (pss_one (ps_set (i := 1) nd rfl (Or.inl rfl) (pe_op (op_addUK K) (pv 1) (pe_int))))))
    (pss_one (ps_ret (pe_bl))))))), ?_⟩
  obtain ⟨n, rfl, k⟩ := h
  unfold oIsP at k
  walk_at "rd"
  refine ⟨n, 0, 997, rfl, ?_⟩
  by_cases c : n < 0 ∨ n > 997
  · rw [if_pos c] at k
    exact gerr (oNum_no c) k
  · rw [if_neg c] at k
    refine gret (oNum_ok (by omega)) fun H1 s1 => ?_
    obtain ⟨N, rfl⟩ : ∃ N : Nat, n = (N : Int) := ⟨n.toNat, by omega⟩
    have hN : isP (N : Int) = isPN N := by unfold isP; rw [Int.toNat_natCast]
    rw [hN] at k
    walk_at "rd"
    refine Br_d (fun c2 => ?_) (fun c2 => ?_)
    · have e : isPN N = false := by unfold isPN; rw [decide_eq_false (by omega : ¬ 3 ≤ N)]; rfl
      rw [e] at k
      walk_at "rd"
      exact k _ s1
    · walk_at "rd"
      refine Br_d (fun c3 => ?_) (fun c3 => ?_)
      · have e : isPN N = false := by unfold isPN; rw [decide_eq_false (by omega : ¬ N % 2 = 1)]; simp
        rw [e] at k
        walk_at "rd"
        exact k _ s1
      · have e : isPN N = noDiv N 3 N := by unfold isPN; rw [decide_eq_true (by omega : 3 ≤ N), decide_eq_true (by omega : N % 2 = 1)]; simp
        rw [e] at k
        walk_at "rd"
        refine while_w (fun f σ H' => ∃ d : Nat, σ = [some (.int N), some (.int d)] ∧ 3 ≤ d ∧ 2 * f + d = 2 * N + 3 ∧ noDiv N 3 N = noDiv f d N ∧ Same H H') N ⟨3, rfl, by omega, rfl, rfl, s1⟩ ?_
        rintro f σ H2 ⟨d, rfl, h3, hf, hd, s2⟩
        have hc : ((d : Int) * (d : Int) ≤ (N : Int)) = (d * d ≤ N) := by rw [← Int.natCast_mul]; exact propext Int.ofNat_le
        have hl : d ≤ d * d := Nat.le_mul_self d
        walk_at "rd"
        refine Br_d (fun c4 => ?_) (fun c4 => ?_)
        · rw [hc] at c4
          obtain ⟨f, rfl⟩ : ∃ f', f = f' + 1 := ⟨f - 1, by omega⟩
          refine turn_w ?_
          walk_at "rd"
          refine Br_d (fun c5 => ?_) (fun c5 => ?_)
          · walk_at "rd"
            rw [hd, noDiv_hit c4 (by omega)] at k
            exact k _ s2
          · walk_at "rd"
            refine ⟨f, by omega, d + 2, rfl, by omega, by omega, ?_, s2⟩
            rw [hd, noDiv_go c4 (by omega)]
        · rw [hc] at c4
          walk_at "rd"
          rw [hd, noDiv_big (by omega)] at k
          exact k _ s2
def sp_check_prime (K : PySem.W.Frag) (t : Tab) : Sp := fun vs H Q E => ∃ n : Int, vs = [.int n] ∧ Gives H Q E (oPrime t.c_NumberError n)
theorem len_check_prime : ∀ vs H Q E, sp_check_prime K t vs H Q E → vs.length = (["prime"] : List Str).length := by
  rintro vs H Q E ⟨_, rfl, _⟩
  rfl
theorem ok_check_prime (T : Txt K mg t) : FnOk P w K mg base (L2.CX P w) 5 t.a_check_prime t.fd_check_prime ["prime"] (sp_check_prime K t) := by
  have G_is_odd_prime := ok_is_odd_prime (P := P) (w := w) (base := base) T
  have G_NumberError_init := ok_NumberError_init (P := P) (w := w) (base := base) T
  refine T.F_check_prime.okX sc_check_prime (len_check_prime) (fun cdv A outer s H vs Q E hr h => ?_)
  have nd := sc_check_prime.nd
  refine ⟨_, (pss_one (ps_if (pt_not (pt_truthK K (pe_callS G_is_odd_prime (hr.mono (by decide)) (by rfl) T.g_is_odd_prime T.F_is_odd_prime.kp T.b_is_odd_prime (fun σ => passAt (takes_of rfl rfl rfl rfl) σ) (pa_cons (pv 0) pa_nil)))) (pss_one (ps_raise rfl (takes_of rfl rfl rfl rfl) (pmk_oex T.x_NumberError T.xi_NumberError T.xt_NumberError G_NumberError_init (hr.mono (by decide)) T.b_NumberError_init .nil passLF (by rfl) T.g_NumberError (pa_cons (pv 0) pa_nil)))) pss_nil)), ?_⟩
  obtain ⟨n, rfl, k⟩ := h
  unfold oPrime at k
  walk_at "rd"
  refine ⟨n, rfl, ?_⟩
  by_cases c : n < 0 ∨ n > 997
  · rw [if_neg (by omega)] at k
    exact gerr (if_pos c) k
  · refine gret (if_neg c) fun H1 s1 => ?_
    walk_at "rd"
    refine Br_b (fun c2 => ?_) (fun c2 => ?_)
    · rw [if_pos (by simp only [c2, and_true]; omega)] at k
      walk_at "rd"
      exact k _ s1
    · rw [if_neg (by rw [c2]; simp)] at k
      walk_at "rd"
      refine tMkO_i ?_
      walk_at "rd"
      exact mkO1 T.x_NumberError T.xn_NumberError_number fun H2 d s2 e => k H2 d (s1.trans s2) e
def sp_inverse (K : PySem.W.Frag) (t : Tab) : Sp := fun vs H Q E => ∃ p x : Int, vs = [.int p, .int x] ∧ Gives H Q E (oInv t.c_NumberError p x)
theorem len_inverse : ∀ vs H Q E, sp_inverse K t vs H Q E → vs.length = (["prime", "number"] : List Str).length := by
  rintro vs H Q E ⟨_, _, rfl, _⟩
  rfl
theorem ok_inverse (T : Txt K mg t) : FnOk P w K mg base (L2.CX P w) 6 t.a_inverse t.fd_inverse ["prime", "number"] (sp_inverse K t) := by
  have G_check_number := ok_check_number (P := P) (w := w) (base := base) T
  have G_check_prime := ok_check_prime (P := P) (w := w) (base := base) T
  refine T.F_inverse.okX sc_inverse (len_inverse) (fun cdv A outer s H vs Q E hr h => ?_)
  have nd := sc_inverse.nd
  refine ⟨_, (pss_cons (ps_expr (pe_callS G_check_prime (hr.mono (by decide)) (by rfl) T.g_check_prime T.F_check_prime.kp T.b_check_prime (fun σ => passAt (takes_of rfl rfl rfl rfl) σ) (pa_cons (pv 0) pa_nil)))
    (pss_cons (ps_expr (pe_callS G_check_number (hr.mono (by decide)) (by rfl) T.g_check_number T.F_check_number.kp T.b_check_number (fun σ => passAt (takes_of rfl rfl rfl rfl) σ) (pa_cons (pv 1) (pa_cons (pe_int) (pa_cons (pe_op op_sub (pv 0) (pe_int)) pa_nil)))))
    (pss_cons (ps_par (i := 2) (j := 3) rfl nd rfl rfl (by decide) rfl rfl (pa_cons (pv 1) (pa_cons (pv 0) pa_nil)) (by rfl))
    (pss_cons (ps_asg (pe_tup (pa_cons (pe_int) (pa_cons (pe_int) pa_nil))) (pg_tupK K 2 rfl (pgs_cons (pg_name (i := 4) nd rfl (Or.inl rfl)) (pgs_cons (pg_name (i := 5) nd rfl (Or.inl rfl)) pgs_nil))))
    (pss_cons (ps_while (passes_of rfl) (pt_cmpR op_gt (pv 2) (pe_int) (by first | exact nomark _ | rfl)) (pss_cons (ps_set (i := 6) nd rfl (Or.inl rfl) (pe_op op_fdivP (pv 3) (pv 2)))
    (pss_cons (ps_par (i := 2) (j := 3) rfl nd rfl rfl (by decide) rfl rfl (pa_cons (pe_op op_sub (pv 3) (pe_op op_mulU (pv 6) (pv 2))) (pa_cons (pv 2) pa_nil)) (by rfl))
    (pss_one (ps_par (i := 4) (j := 5) rfl nd rfl rfl (by decide) rfl rfl (pa_cons (pe_op op_sub (pv 5) (pe_op op_mulU (pv 6) (pv 4))) (pa_cons (pv 4) pa_nil)) (by rfl))))))
    (pss_one (ps_ret (pe_op op_modP (pv 4) (pv 0))))))))), ?_⟩
  obtain ⟨p, x, rfl, k⟩ := h
  unfold oInv at k
  walk_at "rd"
  refine ⟨p, rfl, ?_⟩
  by_cases c : 0 ≤ p ∧ p ≤ 997 ∧ isP p = true
  · rw [if_pos c] at k
    refine gret (oPrime_ok c) fun H1 s1 => ?_
    walk_at "rd"
    refine ⟨x, 1, p - 1, rfl, ?_⟩
    by_cases c2 : 1 ≤ x ∧ x ≤ p - 1
    · rw [if_pos c2] at k
      refine gret (oNum_ok c2) fun H2 s2 => ?_
      walk_at "rd"
      refine while_w (fun m σ H' => ∃ r o f l v, σ = [some (.int p), some (.int x), some (.int r), some (.int o), some (.int f), some (.int l), v] ∧ InvAt p x r o f l ∧ m = r.toNat ∧ Same H H') x.toNat ⟨x, p, 1, 0, none, rfl, invAt_start c.2.2 c2.1 c2.2, rfl, by walk_at "hp"⟩ ?_
      rintro m σ H4 ⟨r, o, f, l, v, rfl, I, rfl, s4⟩
      have r0 := I.r0
      have rb := I.rb
      have ob := I.ob
      walk_at "rd"
      refine Br_d (fun c3 => ?_) (fun c3 => ?_)
      · obtain ⟨I2, hlt, q0, q1⟩ := invAt_step I c3
        refine turn_w ?_
        walk_at "rd"
        exact ⟨_, by have := I2.r0; omega, _, _, _, _, _, rfl, I2, rfl, s4⟩
      · obtain ⟨_, _, _, e⟩ := invAt_end I c3
        rw [e] at k
        walk_at "rd"
        exact k _ s4
    · rw [if_neg c2] at k
      exact gerr (oNum_no (by omega)) fun H2 d s2 e => k H2 d (s1.trans s2) e
  · rw [if_neg c] at k
    exact gerr (oPrime_no c) k
def sp_look_number (K : PySem.W.Frag) (t : Tab) : Sp := fun vs H Q E => ∃ n lo hi : Int, vs = [.int n, .int lo, .int hi] ∧ Gives H Q E (oNum t.c_NumberError n lo hi)
theorem len_look_number : ∀ vs H Q E, sp_look_number K t vs H Q E → vs.length = (["number", "low", "high"] : List Str).length := by
  rintro vs H Q E ⟨_, _, _, rfl, _⟩
  rfl
theorem ok_look_number (T : Txt K mg t) : FnOk P w K mg base (L2.CX P w) 3 t.a_look_number t.fd_look_number ["number", "low", "high"] (sp_look_number K t) := by
  have G_NumberError_init := ok_NumberError_init (P := P) (w := w) (base := base) T
  refine T.F_look_number.okX sc_look_number (len_look_number) (fun cdv A outer s H vs Q E hr h => ?_)
  have nd := sc_look_number.nd
  refine ⟨_, (pss_one (ps_if (PW.pt (pw_or (pt_cmpR op_lt (pv 0) (pv 1) (by first | exact nomark _ | rfl)) (pw_or1 (pt_cmpR op_gt (pv 0) (pv 2) (by first | exact nomark _ | rfl))))) (pss_one (ps_raise rfl (takes_of rfl rfl rfl rfl) (pmk_oex T.x_NumberError T.xi_NumberError T.xt_NumberError G_NumberError_init (hr.mono (by decide)) T.b_NumberError_init .nil passLF (by rfl) T.g_NumberError (pa_cons (pv 0) pa_nil)))) pss_nil)), ?_⟩
  obtain ⟨n, lo, hi, rfl, k⟩ := h
  unfold oNum at k
  walk_at "rd"
  refine Br_d (fun c => ?_) (fun c => ?_)
  · rw [if_pos (.inl c)] at k
    walk_at "rd"
    refine tMkO_i ?_
    walk_at "rd"
    exact mkO1 T.x_NumberError T.xn_NumberError_number k
  · walk_at "rd"
    refine Br_d (fun c2 => ?_) (fun c2 => ?_)
    · rw [if_pos (.inr c2)] at k
      walk_at "rd"
      refine tMkO_i ?_
      walk_at "rd"
      exact mkO1 T.x_NumberError T.xn_NumberError_number k
    · rw [if_neg (by omega)] at k
      walk_at "rd"
      exact k _ (Same.refl _)
def sp_look_prime (K : PySem.W.Frag) (t : Tab) : Sp := fun vs H Q E => ∃ n : Int, vs = [.int n] ∧ Gives H Q E (oPrime t.c_NumberError n)
theorem len_look_prime : ∀ vs H Q E, sp_look_prime K t vs H Q E → vs.length = (["prime"] : List Str).length := by
  rintro vs H Q E ⟨_, rfl, _⟩
  rfl
theorem ok_look_prime (T : Txt K mg t) : FnOk P w K mg base (L2.CX P w) 5 t.a_look_prime t.fd_look_prime ["prime"] (sp_look_prime K t) := by
  have G_is_odd_prime := ok_is_odd_prime (P := P) (w := w) (base := base) T
  have G_NumberError_init := ok_NumberError_init (P := P) (w := w) (base := base) T
  refine T.F_look_prime.okX sc_look_prime (len_look_prime) (fun cdv A outer s H vs Q E hr h => ?_)
  have nd := sc_look_prime.nd
  refine ⟨_, (pss_one (ps_if (pt_not (pt_truthK K (pe_callS G_is_odd_prime (hr.mono (by decide)) (by rfl) T.g_is_odd_prime T.F_is_odd_prime.kp T.b_is_odd_prime (fun σ => passAt (takes_of rfl rfl rfl rfl) σ) (pa_cons (pv 0) pa_nil)))) (pss_one (ps_raise rfl (takes_of rfl rfl rfl rfl) (pmk_oex T.x_NumberError T.xi_NumberError T.xt_NumberError G_NumberError_init (hr.mono (by decide)) T.b_NumberError_init .nil passLF (by rfl) T.g_NumberError (pa_cons (pv 0) pa_nil)))) pss_nil)), ?_⟩
  obtain ⟨n, rfl, k⟩ := h
  unfold oPrime at k
  walk_at "rd"
  refine ⟨n, rfl, ?_⟩
  by_cases c : n < 0 ∨ n > 997
  · rw [if_neg (by omega)] at k
    exact gerr (if_pos c) k
  · refine gret (if_neg c) fun H1 s1 => ?_
    walk_at "rd"
    refine Br_b (fun c2 => ?_) (fun c2 => ?_)
    · rw [if_pos (by simp only [c2, and_true]; omega)] at k
      walk_at "rd"
      exact k _ s1
    · rw [if_neg (by rw [c2]; simp)] at k
      walk_at "rd"
      refine tMkO_i ?_
      walk_at "rd"
      exact mkO1 T.x_NumberError T.xn_NumberError_number fun H2 d s2 e => k H2 d (s1.trans s2) e
def sp_look_small_prime (K : PySem.W.Frag) (t : Tab) : Sp := fun vs H Q E => ∃ n : Int, vs = [.int n] ∧ Gives H Q E (oSmall t.c_NumberError n)
theorem len_look_small_prime : ∀ vs H Q E, sp_look_small_prime K t vs H Q E → vs.length = (["prime"] : List Str).length := by
  rintro vs H Q E ⟨_, rfl, _⟩
  rfl
theorem ok_look_small_prime (T : Txt K mg t) : FnOk P w K mg base (L2.CX P w) 6 t.a_look_small_prime t.fd_look_small_prime ["prime"] (sp_look_small_prime K t) := by
  have G_look_number := ok_look_number (P := P) (w := w) (base := base) T
  have G_look_prime := ok_look_prime (P := P) (w := w) (base := base) T
  refine T.F_look_small_prime.okX sc_look_small_prime (len_look_small_prime) (fun cdv A outer s H vs Q E hr h => ?_)
  have nd := sc_look_small_prime.nd
  refine ⟨_, (pss_cons (ps_expr (pe_callS G_look_number (hr.mono (by decide)) (by rfl) T.g_look_number T.F_look_number.kp T.b_look_number (fun σ => passAt (takes_of rfl rfl rfl rfl) σ) (pa_cons (pv 0) (pa_cons (pe_int) (pa_cons (pe_glob (v := .int 23) (by rfl) T.g_SMALL ⟨_, rfl⟩) pa_nil)))))
    (pss_one (ps_expr (pe_callS G_look_prime (hr.mono (by decide)) (by rfl) T.g_look_prime T.F_look_prime.kp T.b_look_prime (fun σ => passAt (takes_of rfl rfl rfl rfl) σ) (pa_cons (pv 0) pa_nil))))), ?_⟩
  obtain ⟨n, rfl, k⟩ := h
  unfold oSmall at k
  walk_at "rd"
  refine ⟨n, 3, 23, rfl, ?_⟩
  by_cases c : n < 3 ∨ n > 23
  · rw [if_neg (by omega)] at k
    exact gerr (oNum_no c) k
  · refine gret (oNum_ok (by omega)) fun H1 s1 => ?_
    walk_at "rd"
    refine ⟨n, rfl, ?_⟩
    by_cases c2 : isP n = true
    · rw [if_pos ⟨by omega, by omega, c2⟩] at k
      refine gret (oPrime_ok ⟨by omega, by omega, c2⟩) fun H2 s2 => ?_
      walk_at "rd"
      exact k _ (s1.trans s2)
    · rw [if_neg (fun z => c2 z.2.2)] at k
      exact gerr (oPrime_no fun z => c2 z.2.2) fun H2 d s2 e => k H2 d (s1.trans s2) e
def sp_look_residue (K : PySem.W.Frag) (t : Tab) : Sp := fun vs H Q E => ∃ p n : Int, vs = [.int p, .int n] ∧ Gives H Q E (oRes t.c_NumberError p n)
theorem len_look_residue : ∀ vs H Q E, sp_look_residue K t vs H Q E → vs.length = (["prime", "number"] : List Str).length := by
  rintro vs H Q E ⟨_, _, rfl, _⟩
  rfl
theorem ok_look_residue (T : Txt K mg t) : FnOk P w K mg base (L2.CX P w) 3 t.a_look_residue t.fd_look_residue ["prime", "number"] (sp_look_residue K t) := by
  have G_NumberError_init := ok_NumberError_init (P := P) (w := w) (base := base) T
  refine T.F_look_residue.okX sc_look_residue (len_look_residue) (fun cdv A outer s H vs Q E hr h => ?_)
  have nd := sc_look_residue.nd
  refine ⟨_, (pss_one (ps_if (PW.pt (pw_or (pt_cmpR op_lt (pv 1) (pe_int) (by first | exact nomark _ | rfl)) (pw_or1 (pt_cmpR op_ge (pv 1) (pv 0) (by first | exact nomark _ | rfl))))) (pss_one (ps_raise rfl (takes_of rfl rfl rfl rfl) (pmk_oex T.x_NumberError T.xi_NumberError T.xt_NumberError G_NumberError_init (hr.mono (by decide)) T.b_NumberError_init .nil passLF (by rfl) T.g_NumberError (pa_cons (pv 1) pa_nil)))) pss_nil)), ?_⟩
  obtain ⟨p, n, rfl, k⟩ := h
  unfold oRes at k
  walk_at "rd"
  refine Br_d (fun c => ?_) (fun c => ?_)
  · rw [if_neg (by omega)] at k
    walk_at "rd"
    refine tMkO_i ?_
    walk_at "rd"
    exact mkO1 T.x_NumberError T.xn_NumberError_number k
  · walk_at "rd"
    refine Br_d (fun c2 => ?_) (fun c2 => ?_)
    · rw [if_neg (by omega)] at k
      walk_at "rd"
      refine tMkO_i ?_
      walk_at "rd"
      exact mkO1 T.x_NumberError T.xn_NumberError_number k
    · rw [if_pos (by omega)] at k
      walk_at "rd"
      exact k _ (Same.refl _)
def sp_look_pair (K : PySem.W.Frag) (t : Tab) : Sp := fun vs H Q E => ∃ (p a b : Int) (l : Addr), vs = [.int p, .ref l] ∧ SqT K H l [.int a, .int b] ∧ Gives H Q E (oPair t.c_NumberError p a b)
theorem len_look_pair : ∀ vs H Q E, sp_look_pair K t vs H Q E → vs.length = (["prime", "pair"] : List Str).length := by
  rintro vs H Q E ⟨_, _, _, _, rfl, _⟩
  rfl
theorem ok_look_pair (T : Txt K mg t) : FnOk P w K mg base (L2.CX P w) 4 t.a_look_pair t.fd_look_pair ["prime", "pair"] (sp_look_pair K t) := by
  have G_look_residue := ok_look_residue (P := P) (w := w) (base := base) T
  refine T.F_look_pair.okX sc_look_pair (len_look_pair) (fun cdv A outer s H vs Q E hr h => ?_)
  have nd := sc_look_pair.nd
  refine ⟨_, (pss_one (ps_for (passes_of rfl) rfl (pi_UK K (pv 1)) (pg_name (i := 2) nd rfl (Or.inl rfl))
    (pss_one (ps_expr (pe_callS G_look_residue (hr.mono (by decide)) (by rfl) T.g_look_residue T.F_look_residue.kp T.b_look_residue (fun σ => passAt (takes_of rfl rfl rfl rfl) σ) (pa_cons (pv 0) (pa_cons (pv 2) pa_nil))))))), ?_⟩
  obtain ⟨p, a, b, l, rfl, hS, k⟩ := h
  refine tFor_i (wT ?_)
  walk_at "rd"
  refine WT_i _ hS (forRun srcT hS ?_)
  walk_at "rd"
  refine ⟨p, a, rfl, ?_⟩
  unfold oPair at k
  by_cases c : 0 ≤ a ∧ a < p
  · rw [if_pos c] at k
    refine gret (oRes_ok c) fun H1 s1 => ?_
    walk_at "rd"
    refine ⟨p, b, rfl, ?_⟩
    by_cases c2 : 0 ≤ b ∧ b < p
    · rw [if_pos c2] at k
      refine gret (oRes_ok c2) fun H2 s2 => ?_
      walk_at "rd"
      exact k _ (s1.trans s2)
    · rw [if_neg c2] at k
      exact gerr (oRes_no c2) fun H2 d s2 e => k H2 d (s1.trans s2) e
  · rw [if_neg c] at k
    exact gerr (oRes_no c) k
def sp_point_of (K : PySem.W.Frag) (t : Tab) : Sp := fun vs H Q E => ∃ (p a b : Int) (l : Addr), vs = [.int p, .ref l] ∧ SqT K H l [.int a, .int b] ∧ Gives H Q E (oPoint t.c_NumberError t.c_ZeroVector p a b)
theorem len_point_of : ∀ vs H Q E, sp_point_of K t vs H Q E → vs.length = (["prime", "vector"] : List Str).length := by
  rintro vs H Q E ⟨_, _, _, _, rfl, _⟩
  rfl
theorem ok_point_of (T : Txt K mg t) : FnOk P w K mg base (L2.CX P w) 7 t.a_point_of t.fd_point_of ["prime", "vector"] (sp_point_of K t) := by
  have G_inverse := ok_inverse (P := P) (w := w) (base := base) T
  have G_look_pair := ok_look_pair (P := P) (w := w) (base := base) T
  have G_look_prime := ok_look_prime (P := P) (w := w) (base := base) T
  refine T.F_point_of.okX sc_point_of (len_point_of) (fun cdv A outer s H vs Q E hr h => ?_)
  have nd := sc_point_of.nd
  refine ⟨_, (pss_cons (ps_expr (pe_callS G_look_prime (hr.mono (by decide)) (by rfl) T.g_look_prime T.F_look_prime.kp T.b_look_prime (fun σ => passAt (takes_of rfl rfl rfl rfl) σ) (pa_cons (pv 0) pa_nil)))
    (pss_cons (ps_expr (pe_callS G_look_pair (hr.mono (by decide)) (by rfl) T.g_look_pair T.F_look_pair.kp T.b_look_pair (fun σ => passAt (takes_of rfl rfl rfl rfl) σ) (pa_cons (pv 0) (pa_cons (pv 1) pa_nil))))
    (pss_cons (ps_asg (pv 1) (pg_tupK K 2 rfl (pgs_cons (pg_name (i := 2) nd rfl (Or.inl rfl)) (pgs_cons (pg_name (i := 3) nd rfl (Or.inl rfl)) pgs_nil))))
    (pss_cons (ps_if (pt_cmpR (op_neUK K hr) (pv 2) (pe_int) (by first | exact nomark _ | rfl)) (pss_one (ps_ret (pe_op op_modP (pe_op op_mulU (pv 3) (pe_callS G_inverse (hr.mono (by decide)) (by rfl) T.g_inverse T.F_inverse.kp T.b_inverse (fun σ => passAt (takes_of rfl rfl rfl rfl) σ) (pa_cons (pv 0) (pa_cons (pv 2) pa_nil)))) (pv 0)))) pss_nil)
    (pss_cons (ps_if (pt_cmpR (op_eqUK K hr) (pv 3) (pe_int) (by first | exact nomark _ | rfl)) (pss_one (ps_raise rfl (takes_of rfl rfl rfl rfl) (pmk_own0 T.x_ZeroVector T.g_ZeroVector))) pss_nil)
    (pss_one (ps_ret (pv 0)))))))), ?_⟩
  obtain ⟨p, a, b, l, rfl, hS, k⟩ := h
  unfold oPoint at k
  walk_at "rd"
  refine ⟨p, rfl, ?_⟩
  by_cases c : 0 ≤ p ∧ p ≤ 997 ∧ isP p = true
  · rw [if_pos c] at k
    refine gret (oPrime_ok c) fun H1 s1 => ?_
    walk_at "rd"
    refine ⟨p, a, b, l, rfl, ?_, ?_⟩
    · walk_at "hp"
    by_cases c2 : 0 ≤ a ∧ a < p
    · rw [if_pos c2] at k
      by_cases c3 : 0 ≤ b ∧ b < p
      · rw [if_pos c3] at k
        refine gret (oPair_ok c2 c3) fun H2 s2 => ?_
        walk_at "rd"
        refine Br_d (fun c4 => ?_) (fun c4 => ?_)
        · walk_at "rd"
          rw [if_neg (by omega)] at k
          refine Br_d (fun c5 => ?_) (fun c5 => ?_)
          · rw [if_pos c5] at k
            walk_at "rd"
            exact k _ (by walk_at "hp")
          · rw [if_neg c5] at k
            walk_at "rd"
            exact k _ (by walk_at "hp")
        · walk_at "rd"
          rw [if_pos c4] at k
          refine ⟨p, a, rfl, ?_⟩
          refine gret (v := .int (inv p a)) (by unfold oInv; rw [if_pos c, if_pos (by omega)]) fun H3 s3 => ?_
          walk_at "rd"
          exact k _ (by walk_at "hp")
      · rw [if_neg c3] at k
        exact gerr (by unfold oPair; rw [if_pos c2, if_neg c3]) fun H2 d s2 e => k H2 d (s1.trans s2) e
    · rw [if_neg c2] at k
      exact gerr (by unfold oPair; rw [if_neg c2]) fun H2 d s2 e => k H2 d (s1.trans s2) e
  · rw [if_neg c] at k
    exact gerr (oPrime_no c) k
def sp_point_vector (K : PySem.W.Frag) (t : Tab) : Sp := fun vs H Q E => ∃ p x : Int, vs = [.int p, .int x] ∧ Gives H Q E (oVector t.c_NumberError p x)
theorem len_point_vector : ∀ vs H Q E, sp_point_vector K t vs H Q E → vs.length = (["prime", "point"] : List Str).length := by
  rintro vs H Q E ⟨_, _, rfl, _⟩
  rfl
theorem ok_point_vector (T : Txt K mg t) : FnOk P w K mg base (L2.CX P w) 6 t.a_point_vector t.fd_point_vector ["prime", "point"] (sp_point_vector K t) := by
  have G_look_number := ok_look_number (P := P) (w := w) (base := base) T
  have G_look_prime := ok_look_prime (P := P) (w := w) (base := base) T
  refine T.F_point_vector.okX sc_point_vector (len_point_vector) (fun cdv A outer s H vs Q E hr h => ?_)
  have nd := sc_point_vector.nd
  refine ⟨_, (pss_cons (ps_expr (pe_callS G_look_prime (hr.mono (by decide)) (by rfl) T.g_look_prime T.F_look_prime.kp T.b_look_prime (fun σ => passAt (takes_of rfl rfl rfl rfl) σ) (pa_cons (pv 0) pa_nil)))
    (pss_cons (ps_expr (pe_callS G_look_number (hr.mono (by decide)) (by rfl) T.g_look_number T.F_look_number.kp T.b_look_number (fun σ => passAt (takes_of rfl rfl rfl rfl) σ) (pa_cons (pv 1) (pa_cons (pe_int) (pa_cons (pv 0) pa_nil)))))
    (pss_cons (ps_if (pt_cmpR (op_eqUK K hr) (pv 1) (pv 0) (by first | exact nomark _ | rfl)) (pss_one (ps_ret (pe_tup (pa_cons (pe_int) (pa_cons (pe_int) pa_nil))))) pss_nil)
    (pss_one (ps_ret (pe_tup (pa_cons (pe_int) (pa_cons (pv 1) pa_nil)))))))), ?_⟩
  obtain ⟨p, x, rfl, k⟩ := h
  unfold oVector at k
  walk_at "rd"
  refine ⟨p, rfl, ?_⟩
  by_cases c : 0 ≤ p ∧ p ≤ 997 ∧ isP p = true
  · rw [if_pos c] at k
    refine gret (oPrime_ok c) fun H1 s1 => ?_
    walk_at "rd"
    refine ⟨x, 0, p, rfl, ?_⟩
    by_cases c2 : 0 ≤ x ∧ x ≤ p
    · rw [if_pos c2] at k
      refine gret (oNum_ok c2) fun H2 s2 => ?_
      walk_at "rd"
      refine Br_d (fun c3 => ?_) (fun c3 => ?_)
      · rw [if_pos c3] at k
        walk_at "rd"
        refine k _ _ ?_ (by assumption)
        walk_at "hp"
      · rw [if_neg c3] at k
        walk_at "rd"
        refine k _ _ ?_ (by assumption)
        walk_at "hp"
    · rw [if_neg c2] at k
      exact gerr (oNum_no (by omega)) fun H2 d s2 e => k H2 d (s1.trans s2) e
  · rw [if_neg c] at k
    exact gerr (oPrime_no c) k
def sp_frames (K : PySem.W.Frag) (t : Tab) : Sp := fun vs H Q E => ∃ p : Int, vs = [.int p] ∧ Gives H Q E (oFrames K t.c_NumberError p)
theorem len_frames : ∀ vs H Q E, sp_frames K t vs H Q E → vs.length = (["prime"] : List Str).length := by
  rintro vs H Q E ⟨_, rfl, _⟩
  rfl
theorem ok_frames (T : Txt K mg t) : FnOk P w K mg base (L2.CX P w) 7 t.a_frames t.fd_frames ["prime"] (sp_frames K t) := by
  have G_look_small_prime := ok_look_small_prime (P := P) (w := w) (base := base) T
  refine T.F_frames.okX sc_frames (len_frames) (fun cdv A outer s H vs Q E hr h => ?_)
  have nd := sc_frames.nd
  refine ⟨_, (pss_cons (ps_expr (pe_callS G_look_small_prime (hr.mono (by decide)) (by rfl) T.g_look_small_prime T.F_look_small_prime.kp T.b_look_small_prime (fun σ => passAt (takes_of rfl rfl rfl rfl) σ) (pa_cons (pv 0) pa_nil)))
    (pss_one (ps_ret (pe_lc2 (own := [("j", 1), ("k", 2)]) (vs1 := [2]) (g := gName 1) (g1 := gName 2) (tt := tYes) (tt1 := tYes) rfl nd (pi_range1 (by rfl) T.n_range (pa_cons (pe_op (op_addUK K) (pv 0) (pe_int)) pa_nil)) (blkOk_by (N := ["prime", "j", "k"]) (sc := defScope s_frames) (by decide +kernel)) (by decide) (fun _ _ _ _ _ => (pg_name (i := 1) nd rfl (Or.inl rfl))) (fun _ _ _ _ _ => pts_nil) (fun _ _ _ _ _ => (pi_range2 (by rfl) T.n_range (pa_cons (pe_op (op_addUK K) (pv 1) (pe_int)) (pa_cons (pe_op (op_addUK K) (pv 0) (pe_int)) pa_nil)))) (fun _ _ _ _ _ => (pg_name (i := 2) nd rfl (Or.inl rfl))) (fun _ _ _ _ _ => pts_nil) (fun _ _ _ _ _ => (pe_tup (pa_cons (pv 1) (pa_cons (pv 2) pa_nil)))))))), ?_⟩
  obtain ⟨p, rfl, k⟩ := h
  unfold oFrames at k
  walk_at "rd"
  refine ⟨p, rfl, ?_⟩
  unfold oSmall
  by_cases c : 3 ≤ p ∧ p ≤ 23 ∧ isP p = true
  · rw [if_pos c] at k ⊢
    obtain ⟨N, rfl⟩ : ∃ N : Nat, p = (N : Int) := ⟨p.toNat, by omega⟩
    rw [Int.toNat_natCast] at k
    intro H1 s1
    walk_at "rd"
    refine tLc2_i (w1 ?_)
    walk_at "rd"
    refine W1_i (by omega) ?_
    refine lc2S srcR (fun i G acc => DpAll K G acc (frD N i) ∧ acc.length ≤ 100 * i) (fun _ _ => trivial) ⟨.nil, by simp⟩ ?_ ?_
    · rintro D i acc H2 x H3 hi nD s2 eD ⟨hA, hl⟩ ⟨rfl, rfl⟩
      have hi' : i < N + 1 := by omega
      walk_at "rd"
      refine w2 ?_
      walk_at "rd"
      refine W2_i (by omega) ?_
      refine lcIn srcR (fun j G acc => DpAll K G acc (frD N i ++ (frRow N i).take j) ∧ acc.length ≤ 100 * i + j) (fun _ _ => trivial) ⟨acc, s2, eD, by rw [List.take_zero, List.append_nil]; exact hA, hl⟩ ?_ ?_
      · rintro j acc' H4 x H5 hj s4 e4 ⟨hA4, hl4⟩ ⟨rfl, rfl⟩
        have hj' : j < N - i := by omega
        walk_at "rd"
        rename_i q H6 nq s6 e6
        refine lcY nD (s4.trans s6) (s6 _ _ e4) (Nat.lt_of_le_of_lt (show acc'.length ≤ 10000 by omega) (by decide)) ⟨?_, by rw [List.length_append, List.length_singleton]; omega⟩
        have hrow : (frRow N i)[j]? = some (.tuple [.int (i : Nat), .int ((i + 1 + j : Nat) : Int)]) := by
          unfold frRow
          rw [List.getElem?_map, List.getElem?_range hj']
          rfl
        rw [List.take_add_one, hrow, ← List.append_assoc]
        refine DpAll.app (s6.del.dpAll hA4) (DpAll.one (.tup (SqT.of (del_new e6 nq e4)) ?_))
        have e1 : (0 : Int) + (i : Nat) = (i : Nat) := by omega
        have e2 : (0 : Int) + (i : Nat) + 1 + (j : Nat) = ((i + 1 + j : Nat) : Int) := by omega
        rw [e2, e1]
        exact .cons (.int _) (.cons (.int _) .nil)
      · rintro H4 ⟨acc', s4, e4, hA4, hl4⟩
        have hn : (((N : Int) + 1) - (0 + (i : Nat) + 1)).toNat = N - i := by omega
        rw [hn] at hA4 hl4
        refine ⟨acc', s4, e4, ?_, by omega⟩
        rw [frD_succ]
        rw [List.take_of_length_le (by unfold frRow; rw [List.length_map, List.length_range]; exact Nat.le_refl _)] at hA4
        exact hA4
    · rintro D acc H2 nD s2 e2 ⟨hA, hl⟩
      have hn : ((N : Int) + 1).toNat = N + 1 := by omega
      rw [hn] at hA
      exact k H2 D acc (s1.trans s2) (s1.free nD) e2 (Same.undel.dpAll hA)
  · rw [if_neg c] at k ⊢
    exact k
def sp_ulaw_draws (K : PySem.W.Frag) (t : Tab) : Sp := fun vs H Q E => ∃ (a : Addr) (ns : List Int) (c : Int), vs = [.ref a, .int c] ∧ SqL K H a (ns.map V.int) ∧ ns.length ≤ 63 ∧ 0 ≤ c ∧ c ≤ 10000 ∧
  ∀ H' p xs, Same H H' → H p = none → H' p = some (.lst (xs.map V.int)) → (xs.length : Int) = c → Dg xs → Q (.ref p) H'
theorem len_ulaw_draws : ∀ vs H Q E, sp_ulaw_draws K t vs H Q E → vs.length = (["script", "count"] : List Str).length := by
  rintro vs H Q E ⟨_, _, _, rfl, _⟩
  rfl
theorem ok_ulaw_draws (T : Txt K mg t) : FnOk P w K mg base (L2.CX P w) 1 t.a_ulaw_draws t.fd_ulaw_draws ["script", "count"] (sp_ulaw_draws K t) := by
  refine T.F_ulaw_draws.okX sc_ulaw_draws (len_ulaw_draws) (fun cdv A outer s H vs Q E hr h => ?_)
  have nd := sc_ulaw_draws.nd
  refine ⟨_, (pss_cons (ps_set (i := 2) nd rfl (Or.inl rfl) (pe_lst pa_nil))
    (pss_cons (ps_for (passes_of rfl) rfl (pi_range1 (by rfl) T.n_range (pa_cons (pe_callB (call_min2D rfl) (by rfl) T.n_min (by decide +kernel) (pa_cons (pe_callB (call_lenK K) (by rfl) T.n_len (by decide +kernel) (pa_cons (pv 0) pa_nil)) (pa_cons (pe_int) pa_nil))) pa_nil)) (pg_name (i := 3) nd rfl (Or.inl rfl))
    (pss_cons (ps_set (i := 4) nd rfl (Or.inl rfl) (pe_ix (ix_UK K) (pv 0) (pv 3) (fun _ _ => rfl)))
    (pss_one (ps_if (pt_cmpR op_ge (pv 4) (pe_op op_pow (pe_int) (pe_int)) (by first | exact nomark _ | rfl)) (pss_one (ps_for (passes_of rfl) rfl (pi_range1 (by rfl) T.n_range (pa_cons (pe_int) pa_nil)) (pg_name (i := 5) nd rfl (Or.inl rfl))
    (pss_one (ps_if (pt_cmpR op_gt (pv 4) (pe_int) (by first | exact nomark _ | rfl)) (pss_cons (ps_expr (pe_bmK K PySem.F.plainAttrs_list PySem.F.slot_list_append PySem.F.type_list_append mt_append (pv 2) (pa_cons (pe_op op_modP (pe_callTy call_int1D (by rfl) T.n_int (by decide +kernel) (pa_cons (pv 4) pa_nil)) (pe_int)) pa_nil)))
    (pss_one (ps_set (i := 4) nd rfl (Or.inl rfl) (pe_op op_fdivP (pv 4) (pe_int))))) pss_nil)))) (pss_cons (ps_set (i := 6) nd rfl (Or.inl rfl) (pe_op op_modP (pe_callTy call_int1D (by rfl) T.n_int (by decide +kernel) (pa_cons (pv 4) pa_nil)) (pe_int)))
    (pss_cons (ps_expr (pe_bmK K PySem.F.plainAttrs_list PySem.F.slot_list_append PySem.F.type_list_append mt_append (pv 2) (pa_cons (pe_op op_modP (pe_callTy call_int1D (by rfl) T.n_int (by decide +kernel) (pa_cons (pv 6) pa_nil)) (pe_int)) pa_nil)))
    (pss_one (ps_expr (pe_bmK K PySem.F.plainAttrs_list PySem.F.slot_list_append PySem.F.type_list_append mt_append (pv 2) (pa_cons (pe_op op_modP (pe_op op_fdivP (pe_op op_modP (pe_callTy call_int1D (by rfl) T.n_int (by decide +kernel) (pa_cons (pe_op (op_addUK K) (pe_op op_mulU (pv 6) (pe_int)) (pe_op op_mulU (pe_int) (pv 3))) pa_nil)) (pe_int)) (pe_int)) (pe_int)) pa_nil))))))))))
    (pss_cons (ps_set (i := 7) nd rfl (Or.inl rfl) (pe_op op_modP (pe_callTy call_int1D (by rfl) T.n_int (by decide +kernel) (pa_cons (pe_op (op_addUK K) (pe_op (op_addUK K) (pe_op op_mulU (pe_callB (cr_sumK K rfl) (by rfl) T.n_sum (by decide +kernel) (pa_cons (pv 2) pa_nil)) (pe_int)) (pe_op op_mulU (pe_int) (pe_callB (call_lenK K) (by rfl) T.n_len (by decide +kernel) (pa_cons (pv 2) pa_nil)))) (pe_int)) pa_nil)) (pe_int)))
    (pss_cons (ps_for (passes_of rfl) rfl (pi_range1 (by rfl) T.n_range (pa_cons (pv 1) pa_nil)) (pg_name (i := 5) nd rfl (Or.inl rfl))
    (pss_cons (ps_set (i := 7) nd rfl (Or.inl rfl) (pe_op op_modP (pe_callTy call_int1D (by rfl) T.n_int (by decide +kernel) (pa_cons (pe_op (op_addUK K) (pe_op op_mulU (pv 7) (pe_int)) (pe_int)) pa_nil)) (pe_int)))
    (pss_one (ps_expr (pe_bmK K PySem.F.plainAttrs_list PySem.F.slot_list_append PySem.F.type_list_append mt_append (pv 2) (pa_cons (pe_op op_modP (pe_op op_fdivP (pv 7) (pe_int)) (pe_int)) pa_nil))))))
    (pss_one (ps_ret (pe_slice (sl_listK K) (pv 2) po_none (po_some (pv 1))))))))), ?_⟩
  obtain ⟨a, ns, c, rfl, hS, hlen, hc0, hc1, k⟩ := h
  refine tSeq_i (tAsg_i (tLst_i (tNil_i (new_i (by walk_at "side") fun r H1 nr s1 hr => ?_))))
  walk_at "rd"
  refine tFor_i (w1 ?_)
  walk_at "rd"
  refine W1_i (by split <;> simp <;> omega) ?_
  have hmin : (if (63 : Int) < ((ns.map V.int).length : Nat) then (63 : Int) else ((ns.map V.int).length : Nat)).toNat = ns.length := by
    rw [List.length_map]
    split <;> omega
  rw [hmin]
  refine forS srcR (fun i σ H' => ∃ (R : List Int) (v3 v4 v5 v6 : Option V), σ = [some (.ref a), some (.int c), some (.ref r), v3, v4, v5, v6, none] ∧ Same H H' ∧ H' r = some (.lst (R.map V.int)) ∧ R.length ≤ 60 * i ∧ Dg R) ⟨[], none, none, none, none, rfl, s1, hr, by simp, dg_nil⟩ (fun _ _ _ _ _ => trivial) ?_ ?_
  · rintro i σ H2 x H3 hi ⟨R, v3, v4, v5, v6, rfl, s2, hr2, hl, hd⟩ ⟨rfl, rfl⟩
    have hget : (ns.map V.int)[i]? = some (.int ns[i]) := by rw [List.getElem?_map, List.getElem?_eq_getElem hi]; rfl
    walk_at "rd"
    refine rIxU_l (s2.seq hS) (at_of (j := i) (by omega) hget) ?_
    walk_at "rd"
    refine Br_d (fun c1 => ?_) (fun c1 => ?_)
    · walk_at "rd"
      refine tFor_i (w1 ?_)
      walk_at "rd"
      refine W1_i (by omega) ?_
      refine forS srcR (fun j σ H' => ∃ (R : List Int) (z : Int) (v5 : Option V), σ = [some (.ref a), some (.int c), some (.ref r), some (.int (0 + (i : Nat))), some (.int z), v5, v6, none] ∧ Same H H' ∧ H' r = some (.lst (R.map V.int)) ∧ R.length ≤ 60 * i + j ∧ Dg R) ⟨R, ns[i], v5, rfl, s2, hr2, by omega, hd⟩ (fun _ _ _ _ _ => trivial) ?_ ?_
      · rintro j σ H4 x H5 hj ⟨R, z, v5, rfl, s4, hr4, hl, hd⟩ ⟨rfl, rfl⟩
        have hj' : j < 60 := hj
        walk_at "rd"
        refine Br_d (fun c2 => ?_) (fun c2 => ?_)
        · walk_at "rd"
          refine append_ints hr4 (by omega) fun H5 ch e s5 => ?_
          walk_at "rd"
          exact ⟨_, _, _, rfl, s5 _ s4 nr, e, by rw [List.length_append, List.length_singleton]; omega, dg_app hd (by omega)⟩
        · walk_at "rd"
          exact ⟨R, z, _, rfl, s4, hr4, by omega, hd⟩
      · rintro σ H4 ⟨R, z, v5, rfl, s4, hr4, hl, hd⟩
        have hl' : R.length ≤ 60 * i + 60 := hl
        exact ⟨R, _, _, _, _, rfl, s4, hr4, by omega, hd⟩
    · walk_at "rd"
      refine append_ints hr2 (by omega) fun H5 ch e s5 => ?_
      walk_at "rd"
      refine append_ints e (by rw [List.length_append, List.length_singleton]; omega) fun H6 ch6 e6 s6 => ?_
      exact ⟨_, _, _, _, _, rfl, s6 _ (s5 _ s2 nr) nr, e6, by rw [List.length_append, List.length_append, List.length_singleton, List.length_singleton]; omega, dg_app (dg_app hd (by omega)) (by omega)⟩
  · rintro σ H2 ⟨R, v3, v4, v5, v6, rfl, s2, hr2, hl, hd⟩
    walk_at "rd"
    refine rSum_i R (SqL.of hr2) ?_
    walk_at "rd"
    refine tFor_i (w1 ?_)
    walk_at "rd"
    refine W1_i (by omega) ?_
    refine forS srcR (fun j σ H' => ∃ (R' : List Int) (z : Int) (v3 v4 v5 v6 : Option V), σ = [some (.ref a), some (.int c), some (.ref r), v3, v4, v5, v6, some (.int z)] ∧ Same H H' ∧ H' r = some (.lst (R'.map V.int)) ∧ R'.length = R.length + j ∧ Dg R') ⟨R, _, _, _, _, _, rfl, s2, hr2, by omega, hd⟩ (fun _ _ _ _ _ => trivial) ?_ ?_
    · rintro j σ H4 x H5 hj ⟨R', z, v3, v4, v5, v6, rfl, s4, hr4, hl4, hd4⟩ ⟨rfl, rfl⟩
      walk_at "rd"
      refine append_ints hr4 (by omega) fun H5 ch e s5 => ?_
      exact ⟨_, _, _, _, _, _, rfl, s5 _ s4 nr, e, by rw [List.length_append, List.length_singleton]; omega, dg_app hd4 (by omega)⟩
    · rintro σ H4 ⟨R', z, v3, v4, v5, v6, rfl, s4, hr4, hl4, hd4⟩
      walk_at "rd"
      refine rSlL_i (SqL.of hr4) fun p H5 np s5 e5 => ?_
      rw [cut_take hc0 (by omega)] at e5
      exact k H5 p _ (s4.trans s5) (s4.free np) e5 (by rw [List.length_take]; omega) (dg_take hd4)
def sp_ulaw_next (K : PySem.W.Frag) (t : Tab) : Sp := fun vs H Q E => ∃ (c a : Addr) (m : Int), vs = [.ref c, .ref a, .int m] ∧ Draw K H c a ∧ 0 < m ∧ ∀ n, 0 ≤ n → n < m → Q (.int n) H
theorem len_ulaw_next : ∀ vs H Q E, sp_ulaw_next K t vs H Q E → vs.length = (["cells", "at", "many"] : List Str).length := by
  rintro vs H Q E ⟨_, _, _, rfl, _⟩
  rfl
theorem ok_ulaw_next (T : Txt K mg t) : FnOk P w K mg base (L2.CX P w) 1 t.a_ulaw_next t.fd_ulaw_next ["cells", "at", "many"] (sp_ulaw_next K t) := by
  refine T.F_ulaw_next.okX sc_ulaw_next (len_ulaw_next) (fun cdv A outer s H vs Q E hr h => ?_)
  have nd := sc_ulaw_next.nd
  refine ⟨_, (pss_cons (ps_asg (pe_op (op_addUK K) (pe_ix (ix_UK K) (pv 1) (pe_int) (fun _ _ => rfl)) (pe_int)) (pg_sub (pv 1) (pe_int) set_U))
    (pss_one (ps_ret (pe_op op_modP (pe_callTy call_int1D (by rfl) T.n_int (by decide +kernel) (pa_cons (pe_ix (ix_UK K) (pv 0) (pe_op op_modP (pe_callTy call_int1D (by rfl) T.n_int (by decide +kernel) (pa_cons (pe_op op_sub (pe_ix (ix_UK K) (pv 1) (pe_int) (fun _ _ => rfl)) (pe_int)) pa_nil)) (pe_callB (call_lenK K) (by rfl) T.n_len (by decide +kernel) (pa_cons (pv 0) pa_nil))) (fun _ _ => rfl)) pa_nil)) (pv 2))))), ?_⟩
  obtain ⟨c, a, m, rfl, ⟨⟨xs, h1, h2⟩, h3⟩, hm, k⟩ := h
  walk_at "rd"
  refine rIxU_c h3 fun n => ?_
  walk_at "rd"
  refine setC_i h3 ?_
  walk_at "rd"
  refine rIxU_c h3 fun n => ?_
  walk_at "rd"
  have hl : (0 : Int) < ((xs.map V.int).length : Nat) := by rw [List.length_map]; omega
  refine rModP_i hl ?_
  walk_at "rd"
  have b0 := Int.emod_nonneg (n - 1) (show (((xs.map V.int).length : Nat) : Int) ≠ 0 by omega)
  have b1 := Int.emod_lt_of_pos (n - 1) hl
  rw [List.length_map] at b0 b1 ⊢
  have hget : (xs.map V.int)[((n - 1) % (xs.length : Nat)).toNat]? = some (.int (xs[((n - 1) % (xs.length : Nat)).toNat]'(by omega))) := by
    rw [List.getElem?_map, List.getElem?_eq_getElem]; rfl
  refine rIxU_l h1 (at_of (by omega) hget) ?_
  walk_at "rd"
  exact k _ (Int.emod_nonneg _ (by omega)) (Int.emod_lt_of_pos _ hm)
def sp_ulaw_upward (K : PySem.W.Frag) (t : Tab) : Sp := fun vs H Q E => ∃ p : Int, vs = [.int p] ∧ 3 ≤ p ∧ p ≤ 997 ∧ ∀ H', Same H H' → Q (.int (upF 12 p)) H'
theorem len_ulaw_upward : ∀ vs H Q E, sp_ulaw_upward K t vs H Q E → vs.length = (["p"] : List Str).length := by
  rintro vs H Q E ⟨_, rfl, _⟩
  rfl
theorem ok_ulaw_upward (T : Txt K mg t) : FnOk P w K mg base (L2.CX P w) 1 t.a_ulaw_upward t.fd_ulaw_upward ["p"] (sp_ulaw_upward K t) := by
  refine T.F_ulaw_upward.okX sc_ulaw_upward (len_ulaw_upward) (fun cdv A outer s H vs Q E hr h => ?_)
  have nd := sc_ulaw_upward.nd
  refine ⟨_, (pss_cons (ps_for (passes_of rfl) rfl (pi_range1 (by rfl) T.n_range (pa_cons (pe_int) pa_nil)) (pg_name (i := 1) nd rfl (Or.inl rfl))
    (pss_cons (ps_if (pt_truthK K (pe_callB (cr_allK K rfl) (by rfl) T.n_all (by decide +kernel) (pa_cons (pe_lc (own := [("k", 2)]) (g := gName 2) (tt := tYes) rfl nd (pi_UK K (pe_tup (pa_cons (pe_int) (pa_cons (pe_int) (pa_cons (pe_int) (pa_cons (pe_int) (pa_cons (pe_int) (pa_cons (pe_int) (pa_cons (pe_int) (pa_cons (pe_int) (pa_cons (pe_int) (pa_cons (pe_int) pa_nil)))))))))))) (blkOk_by (N := ["p", "step", "k"]) (sc := defScope s_ulaw_upward) (by decide +kernel)) (fun _ _ _ _ _ => (pg_name (i := 2) nd rfl (Or.inl rfl))) (fun _ _ _ _ _ => pts_nil) (fun _ _ _ _ _ => (pe_or (pe_cmpR op_gt (pe_op op_modP (pe_callTy call_int1D (by rfl) T.n_int (by decide +kernel) (pa_cons (pv 0) pa_nil)) (pv 2)) (pe_int) (by first | exact nomark _ | rfl)) (pe_one (pe_cmpR (op_eqUK K hr) (pv 0) (pv 2) (by first | exact nomark _ | rfl)))))) pa_nil))) (pss_one (ps_ret (pv 0))) pss_nil)
    (pss_one (ps_set (i := 0) nd rfl (Or.inr rfl) (pe_op (op_addUK K) (pv 0) (pe_int))))))
    (pss_one (ps_ret (pe_int)))), ?_⟩
  obtain ⟨p, rfl, h3, h9, k⟩ := h
  refine tSeq_i (tFor_i (w1 ?_))
  walk_at "rd"
  refine W1_i (by omega) ?_
  refine forS srcR (fun i σ H' => ∃ (z : Int) (v : Option V), σ = [some (.int z), v, none] ∧ upF 12 p = upF (12 - i) z ∧ Same H H' ∧ 3 ≤ z ∧ z ≤ 997 + 2 * i) ⟨p, none, rfl, rfl, Same.refl _, h3, by omega⟩ (fun _ _ _ _ _ => trivial) ?_ ?_
  · rintro i σ H1 x H2 hi ⟨z, v, rfl, e, s1, z3, z9⟩ ⟨rfl, rfl⟩
    have hi' : i < 12 := hi
    obtain ⟨f, hf⟩ : ∃ f, 12 - i = f + 1 := ⟨11 - i, by omega⟩
    have hf2 : 12 - (i + 1) = f := by omega
    refine gName_i (tSeq_i (tIfS_i (tTruth_i (tCB_i (tCons_i (tLc_i (wT ?_)))))))
    walk_at "rd"
    rename_i q H2 nq s2 e2
    have hq : H2 q = some (.tup (ten.map V.int)) := e2
    refine WT_i _ (SqT.of hq) ?_
    refine lcS srcT (fun j G acc => acc = (ten.take j).map fun k => V.bl (decide (0 < z % k) || decide (z = k))) (fun H' s' => SqT.of (s' _ _ hq)) rfl ?_ ?_
    · rintro D j acc H3 x H4 hj nD s3 eD rfl ⟨rfl, hx⟩
      rw [List.length_map] at hj
      have hj' : j < 10 := hj
      obtain ⟨kk, hk, rfl⟩ : ∃ kk, ten[j]? = some kk ∧ x = .int kk := by
        rw [List.getElem?_map] at hx
        cases h : ten[j]? with
        | none => rw [h] at hx; cases hx
        | some y => rw [h] at hx; exact ⟨y, rfl, (Option.some.inj hx).symm⟩
      have hpos : 0 < kk := by
        have hm := List.mem_of_getElem? hk
        simp [ten] at hm
        omega
      walk_at "rd"
      have fin : ∀ b : Bool, b = (decide (0 < z % kk) || decide (z = kk)) → LcY D (LcP H2 D (fun j G acc => acc = (ten.take j).map fun k => V.bl (decide (0 < z % k) || decide (z = k))) (j + 1)) (.bl b) H4 := fun b hb => by
        refine lcY nD s3 eD (Nat.lt_of_le_of_lt (show _ ≤ 10 by rw [List.length_map, List.length_take]; omega) (by decide)) ?_
        rw [map_take_succ hk, hb]
      refine Br_d (fun c => ?_) (fun c => ?_)
      · exact fin _ (by rw [decide_eq_true c, Bool.true_or])
      · walk_at "rd"
        exact fin _ (by rw [decide_eq_false c, Bool.false_or])
    · rintro D acc H3 nD s3 eD rfl
      walk_at "rd"
      refine rAll_i (ten.map fun k => (decide (0 < z % k) || decide (z = k))) (SqL.of ?_) ?_
      · rw [eD, List.map_map]
        rfl
      · have ho : (ten.map fun k => (decide (0 < z % k) || decide (z = k))).all id = okUp z := by unfold okUp; rw [List.all_map]; rfl
        rw [ho]
        walk_at "rd"
        replace e : upF 12 p = if okUp z = true then z else upF f (z + 2) := by rw [e, hf]; rfl
        refine Br_b (fun c => ?_) (fun c => ?_)
        · rw [if_pos c] at e
          walk_at "rd"
          rw [e] at k
          exact k _ (by walk_at "hp")
        · rw [if_neg (by rw [c]; simp)] at e
          walk_at "rd"
          exact ⟨z + 2, _, rfl, by rw [hf2]; exact e, by walk_at "hp", by omega, by omega⟩
  · rintro σ H1 ⟨z, v, rfl, e, s1, z3, z9⟩
    walk_at "rd"
    have e' : upF 12 p = 997 := e
    rw [e'] at k
    exact k _ s1
def sp_ulaw_whole (K : PySem.W.Frag) (t : Tab) : Sp := fun vs H Q E => ∃ i : Int, vs = [.int i] ∧ Q (.bl true) H
theorem len_ulaw_whole : ∀ vs H Q E, sp_ulaw_whole K t vs H Q E → vs.length = (["x"] : List Str).length := by
  rintro vs H Q E ⟨_, rfl, _⟩
  rfl
theorem ok_ulaw_whole (T : Txt K mg t) : FnOk P w K mg base (L2.CX P w) 1 t.a_ulaw_whole t.fd_ulaw_whole ["x"] (sp_ulaw_whole K t) := by
  refine T.F_ulaw_whole.okX sc_ulaw_whole (len_ulaw_whole) (fun cdv A outer s H vs Q E hr h => ?_)
  have nd := sc_ulaw_whole.nd
  refine ⟨_, (pss_one (ps_ret (pe_and (pe_callB (call_isiUK K) (by rfl) T.n_isinstance (by decide +kernel) (pa_cons (pv 0) (pa_cons (pe_bltn (v := .ty "int") (by rfl) T.n_int (by decide +kernel) rfl) pa_nil))) (pe_one (pe_not (pe_callB (call_isiUK K) (by rfl) T.n_isinstance (by decide +kernel) (pa_cons (pv 0) (pa_cons (pe_bltn (v := .ty "bool") (by rfl) T.n_bool (by decide +kernel) rfl) pa_nil)))))))), ?_⟩
  obtain ⟨i, rfl, k⟩ := h
  walk_at "rd"
  refine isi_int_int ?_
  walk_at "rd"
  refine isi_int_bool ?_
  walk_at "rd"
  exact k
def outD : Out → PyData
  | .ret (.int n) => .tuple [.str "told", .int n]
  | .tup [.int x, .int y] => .tuple [.str "told", .tuple [.int x, .int y]]
  | .err _ _ (.int v) => .tuple [.str "refused", .list [.tuple [.str "number", .int v]]]
  | .err0 _ => .tuple [.str "refused", .list [.tuple [.str "zero", .int 0]]]
  | _ => .none
def OkOut (C Z : Addr) (o : Out) : Prop := (∃ n, o = .ret (.int n)) ∨ (∃ x y, o = .tup [.int x, .int y]) ∨ (∃ v, o = .err C "number" (.int v)) ∨ o = .err0 Z
theorem okPoint {C Z : Addr} {p a b : Int} : OkOut C Z (oPoint C Z p a b) := by
  unfold oPoint
  repeat' split
  all_goals first | exact .inl ⟨_, rfl⟩ | exact .inr (.inr (.inl ⟨_, rfl⟩)) | exact .inr (.inr (.inr rfl))
theorem okVector {C Z : Addr} {p k : Int} : OkOut C Z (oVector C p k) := by
  unfold oVector
  repeat' split
  all_goals first | exact .inr (.inl ⟨_, _, rfl⟩) | exact .inr (.inr (.inl ⟨_, rfl⟩))
theorem gcases {H : Hp} {Q : VK} {E : XK} {C Z : Addr} {o : Out} (ok : OkOut C Z o) (h1 : ∀ n, o = .ret (.int n) → ∀ H', Same H H' → Q (.int n) H') (h2 : ∀ x y, o = .tup [.int x, .int y] → ∀ H' p, Same H H' → H' p = some (.tup [.int x, .int y]) → Q (.ref p) H')
    (h3 : ∀ v, o = .err C "number" (.int v) → ∀ H' d, Same H H' → H' d = some (.xd [("number", .int v)]) → E (.ref C) (some d) H') (h4 : o = .err0 Z → ∀ H', Same H H' → E (.ref Z) none H') : Gives H Q E o := by
  rcases ok with ⟨n, rfl⟩ | ⟨x, y, rfl⟩ | ⟨v, rfl⟩ | rfl
  · exact h1 n rfl
  · exact h2 x y rfl
  · exact h3 v rfl
  · exact h4 rfl
def Asked (K : PySem.W.Frag) (C Z : Addr) (H : Hp) (w p : Int) (x : V) (o : Out) : Prop :=
  (w = 0 ∧ ∃ a b l, x = .ref l ∧ SqT K H l [.int a, .int b] ∧ o = oPoint C Z p a b) ∨ (w = 1 ∧ ∃ k, x = .int k ∧ o = oVector C p k) ∨ (w = 2 ∧ ¬ (3 ≤ p ∧ p ≤ 23 ∧ isP p = true) ∧ o = .err C "number" (.int p))
theorem Asked.ok {K : PySem.W.Frag} {C Z : Addr} {H : Hp} {w p : Int} {x : V} {o : Out} (h : Asked K C Z H w p x o) : OkOut C Z o := by
  rcases h with ⟨_, a, b, l, _, _, rfl⟩ | ⟨_, k, _, rfl⟩ | ⟨_, _, rfl⟩
  · exact okPoint
  · exact okVector
  · exact .inr (.inr (.inl ⟨_, rfl⟩))
def sp_ulaw_asked (K : PySem.W.Frag) (t : Tab) : Sp := fun vs H Q E => ∃ (w p : Int) (x : V) (o : Out), vs = [.int w, .int p, x] ∧ Asked K t.c_NumberError t.c_ZeroVector H w p x o ∧
  ∀ H' q, Same H H' → Dp K H' (.ref q) (outD o) → Q (.ref q) H'
theorem len_ulaw_asked : ∀ vs H Q E, sp_ulaw_asked K t vs H Q E → vs.length = (["which", "p", "thing"] : List Str).length := by
  rintro vs H Q E ⟨_, _, _, _, rfl, _⟩
  rfl
theorem ok_ulaw_asked (T : Txt K mg t) : FnOk P w K mg base (L2.CX P w) 8 t.a_ulaw_asked t.fd_ulaw_asked ["which", "p", "thing"] (sp_ulaw_asked K t) := by
  have G_frames := ok_frames (P := P) (w := w) (base := base) T
  have G_point_of := ok_point_of (P := P) (w := w) (base := base) T
  have G_point_vector := ok_point_vector (P := P) (w := w) (base := base) T
  refine T.F_ulaw_asked.okX sc_ulaw_asked (len_ulaw_asked) (fun cdv A outer s H vs Q E hr h => ?_)
  have nd := sc_ulaw_asked.nd
  refine ⟨_, (pss_cons (ps_try_as (i := 4) rfl rfl nd rfl rfl ⟨rfl, by decide, .inl T.g_EndsError⟩ (takes_of rfl rfl rfl rfl) (fun W pn xe tk pw => (pss_one (ps_if (pt_cmpR (op_eqUK K hr) (pv 0) (pe_int) (by first | exact nomark _ | rfl)) (pss_one (ps_set (i := 3) nd rfl (Or.inl rfl) (pe_callS G_point_of (hr.mono (by decide)) (by rfl) T.g_point_of T.F_point_of.kp T.b_point_of (fun σ => passAt tk σ) (pa_cons (pv 1) (pa_cons (pv 2) pa_nil))))) (pss_one (ps_if (pt_cmpR (op_eqUK K hr) (pv 0) (pe_int) (by first | exact nomark _ | rfl)) (pss_one (ps_set (i := 3) nd rfl (Or.inl rfl) (pe_callS G_point_vector (hr.mono (by decide)) (by rfl) T.g_point_vector T.F_point_vector.kp T.b_point_vector (fun σ => passAt tk σ) (pa_cons (pv 1) (pa_cons (pv 2) pa_nil))))) (pss_one (ps_set (i := 3) nd rfl (Or.inl rfl) (pe_callS G_frames (hr.mono (by decide)) (by rfl) T.g_frames T.F_frames.kp T.b_frames (fun σ => passAt tk σ) (pa_cons (pv 1) pa_nil)))))))))
    (fun a oe cls d pn hz hf => (pss_cons (ps_set (i := 5) nd rfl (Or.inl rfl) (pe_lst pa_nil))
    (pss_cons (ps_if (pt_truthK K (pe_callB (call_isXK K (xpin_suite hz hf)) (by rfl) T.n_isinstance (by decide +kernel) (pa_cons (pv 4) (pa_cons (pe_glob (v := .ref t.c_NumberError) (by rfl) T.g_NumberError rfl) pa_nil)))) (pss_one (ps_expr (pe_bmK K PySem.F.plainAttrs_list PySem.F.slot_list_append PySem.F.type_list_append mt_append (pv 5) (pa_cons (pe_tup (pa_cons (pe_str) (pa_cons (pe_xFK K (xpin_suite hz hf) (pv 4)) pa_nil))) pa_nil)))) pss_nil)
    (pss_cons (ps_if (pt_truthK K (pe_callB (call_isXK K (xpin_suite hz hf)) (by rfl) T.n_isinstance (by decide +kernel) (pa_cons (pv 4) (pa_cons (pe_glob (v := .ref t.c_ZeroVector) (by rfl) T.g_ZeroVector rfl) pa_nil)))) (pss_one (ps_expr (pe_bmK K PySem.F.plainAttrs_list PySem.F.slot_list_append PySem.F.type_list_append mt_append (pv 5) (pa_cons (pe_tup (pa_cons (pe_str) (pa_cons (pe_int) pa_nil))) pa_nil)))) pss_nil)
    (pss_cons (ps_if (PW.pt (pw_or (pt_truthK K (pe_callB (call_isXK K (xpin_suite hz hf)) (by rfl) T.n_isinstance (by decide +kernel) (pa_cons (pv 4) (pa_cons (pe_glob (v := .ref t.c_SizeError) (by rfl) T.g_SizeError rfl) pa_nil)))) (pw_or (pt_truthK K (pe_callB (call_isXK K (xpin_suite hz hf)) (by rfl) T.n_isinstance (by decide +kernel) (pa_cons (pv 4) (pa_cons (pe_glob (v := .ref t.c_DependentError) (by rfl) T.g_DependentError rfl) pa_nil)))) (pw_or1 (pt_not (pt_truthK K (pe_callB (call_isXK K (xpin_suite hz hf)) (by rfl) T.n_isinstance (by decide +kernel) (pa_cons (pv 4) (pa_cons (pe_bltn (v := .ty "ValueError") (by rfl) T.n_ValueError (by decide +kernel) rfl) pa_nil))))))))) (pss_one (ps_expr (pe_bmK K PySem.F.plainAttrs_list PySem.F.slot_list_append PySem.F.type_list_append mt_append (pv 5) (pa_cons (pe_tup (pa_cons (pe_str) (pa_cons (pe_int) pa_nil))) pa_nil)))) pss_nil)
    (pss_one (ps_ret (pe_tup (pa_cons (pe_str) (pa_cons (pv 5) pa_nil)))))))))))
    (pss_one (ps_ret (pe_tup (pa_cons (pe_str) (pa_cons (pv 3) pa_nil)))))), ?_⟩
  obtain ⟨w, p, x, o, rfl, hA, k⟩ := h
  have hok := hA.ok
  refine tSeq_i ?_
  walk_at "rd"
  -- the answer to each outcome
  have told : ∀ (v : V) (d : PyData) (H1 : Hp), Same H H1 → Dp K H1 v d → outD o = .tuple [.str "told", d] → ∀ H' q, Same H1 H' → H' q = some (.tup [.str "told", v]) → Q (.ref q) H' := fun v d H1 s1 hv ho H' q s2 e => by
    refine k H' q (s1.trans s2) ?_
    rw [ho]
    exact .tup (SqT.of e) (.cons (.str _) (.cons (s2.dp hv) .nil))
  have refused : ∀ (z : Str) (v : Int) (H1 : Hp) (l q1 : Addr) , Same H H1 → H1 q1 = some (.tup [.str z, .int v]) → H1 l = some (.lst [.ref q1]) → outD o = .tuple [.str "refused", .list [.tuple [.str z, .int v]]] → ∀ H' q, Same H1 H' → H' q = some (.tup [.str "refused", .ref l]) → Q (.ref q) H' := fun z v H1 l q1 s1 e1 e2 ho H' q s2 e => by
    refine k H' q (s1.trans s2) ?_
    rw [ho]
    exact .tup (SqT.of e) (.cons (.str _) (.cons (s2.dp (.lst (SqL.of e2) (.cons (.tup (SqT.of e1) (.cons (.str _) (.cons (.int _) .nil))) .nil))) .nil))
  rcases hA with ⟨rfl, a, b, l, rfl, hS, ho⟩ | ⟨rfl, kk, rfl, ho⟩ | ⟨rfl, hn, ho⟩
  · refine Br_dt rfl ?_
    walk_at "rd"
    refine ⟨p, a, b, l, rfl, hS, ?_⟩
    rw [← ho]
    refine gcases hok (fun n e H1 s1 => ?_) (fun x y e H1 q s1 eq => ?_) (fun v e H1 d s1 ed => ?_) (fun e H1 s1 => ?_)
    · walk_at "rd"
      exact told _ _ H1 s1 (.int n) (by rw [e]; rfl) _ _ (by assumption) (by assumption)
    · walk_at "rd"
      exact told _ _ H1 s1 (.tup (SqT.of eq) (.cons (.int x) (.cons (.int y) .nil))) (by rw [e]; rfl) _ _ (by assumption) (by assumption)
    · refine was_i T.em_NumberError_EndsError fun a na => ?_
      refine tSeq_i (tAsg_i (tLst_i (tNil_i (new_i (by walk_at "side") fun l H2 nl s2 el => ?_))))
      walk_at "rd"
      have ed2 := s2 _ _ ed
      refine isX_c T.X_NumberError [("number", .int v)] (.inr ⟨d, rfl, ed2⟩) T.kt_NumberError_NumberError ?_
      walk_at "rd"
      refine xf1 T.X_NumberError ed2 T.xn_NumberError_number ?_
      walk_at "rd"
      rename_i q H3 nq s3 e3
      have el3 := s3 _ _ el
      have ed3 := s3 _ _ ed2
      refine append_i el3 (by decide) fun H4 ch el4 s4 => ?_
      have hdl : d ≠ l := fun z => by
        rw [z, el3] at ed3
        cases ed3
      have ed4 := ch _ _ hdl ed3
      have hql : q ≠ l := fun z => by
        rw [z, el3] at e3
        cases e3
      have eq4 := ch _ _ hql e3
      have sH4 := s4.1 _ ((s1.trans s2).trans s3) (s1.free nl)
      walk_at "rd"
      refine isX_c T.X_NumberError [("number", .int v)] (.inr ⟨d, rfl, ed4⟩) T.kt_NumberError_ZeroVector ?_
      walk_at "rd"
      refine isX_c T.X_NumberError [("number", .int v)] (.inr ⟨d, rfl, ed4⟩) T.kt_NumberError_SizeError ?_
      walk_at "rd"
      refine isX_c T.X_NumberError [("number", .int v)] (.inr ⟨d, rfl, ed4⟩) T.kt_NumberError_DependentError ?_
      walk_at "rd"
      refine isX_t T.X_NumberError [("number", .int v)] (.inr ⟨d, rfl, ed4⟩) T.kt_NumberError_ValueError ?_
      walk_at "rd"
      exact refused _ v H4 l q sH4 eq4 el4 (by rw [e]; rfl) _ _ (by assumption) (by assumption)
    · refine was_i T.em_ZeroVector_EndsError fun a na => ?_
      refine tSeq_i (tAsg_i (tLst_i (tNil_i (new_i (by walk_at "side") fun l H2 nl s2 el => ?_))))
      walk_at "rd"
      refine isX_c T.X_ZeroVector [] (.inl ⟨rfl, rfl⟩) T.kt_ZeroVector_NumberError ?_
      walk_at "rd"
      refine isX_c T.X_ZeroVector [] (.inl ⟨rfl, rfl⟩) T.kt_ZeroVector_ZeroVector ?_
      walk_at "rd"
      rename_i q H3 nq s3 e3
      have el3 := s3 _ _ el
      refine append_i el3 (by decide) fun H4 ch el4 s4 => ?_
      have hql : q ≠ l := fun z => by
        rw [z, el3] at e3
        cases e3
      have eq4 := ch _ _ hql e3
      have sH4 := s4.1 _ ((s1.trans s2).trans s3) (s1.free nl)
      walk_at "rd"
      refine isX_c T.X_ZeroVector [] (.inl ⟨rfl, rfl⟩) T.kt_ZeroVector_SizeError ?_
      walk_at "rd"
      refine isX_c T.X_ZeroVector [] (.inl ⟨rfl, rfl⟩) T.kt_ZeroVector_DependentError ?_
      walk_at "rd"
      refine isX_t T.X_ZeroVector [] (.inl ⟨rfl, rfl⟩) T.kt_ZeroVector_ValueError ?_
      walk_at "rd"
      exact refused _ 0 H4 l q sH4 eq4 el4 (by rw [e]; rfl) _ _ (by assumption) (by assumption)
  · refine Br_df (by decide) ?_
    walk_at "rd"
    refine Br_dt rfl ?_
    walk_at "rd"
    refine ⟨p, kk, rfl, ?_⟩
    rw [← ho]
    refine gcases hok (fun n e H1 s1 => ?_) (fun x y e H1 q s1 eq => ?_) (fun v e H1 d s1 ed => ?_) (fun e H1 s1 => ?_)
    · walk_at "rd"
      exact told _ _ H1 s1 (.int n) (by rw [e]; rfl) _ _ (by assumption) (by assumption)
    · walk_at "rd"
      exact told _ _ H1 s1 (.tup (SqT.of eq) (.cons (.int x) (.cons (.int y) .nil))) (by rw [e]; rfl) _ _ (by assumption) (by assumption)
    · refine was_i T.em_NumberError_EndsError fun a na => ?_
      refine tSeq_i (tAsg_i (tLst_i (tNil_i (new_i (by walk_at "side") fun l H2 nl s2 el => ?_))))
      walk_at "rd"
      have ed2 := s2 _ _ ed
      refine isX_c T.X_NumberError [("number", .int v)] (.inr ⟨d, rfl, ed2⟩) T.kt_NumberError_NumberError ?_
      walk_at "rd"
      refine xf1 T.X_NumberError ed2 T.xn_NumberError_number ?_
      walk_at "rd"
      rename_i q H3 nq s3 e3
      have el3 := s3 _ _ el
      have ed3 := s3 _ _ ed2
      refine append_i el3 (by decide) fun H4 ch el4 s4 => ?_
      have hdl : d ≠ l := fun z => by
        rw [z, el3] at ed3
        cases ed3
      have ed4 := ch _ _ hdl ed3
      have hql : q ≠ l := fun z => by
        rw [z, el3] at e3
        cases e3
      have eq4 := ch _ _ hql e3
      have sH4 := s4.1 _ ((s1.trans s2).trans s3) (s1.free nl)
      walk_at "rd"
      refine isX_c T.X_NumberError [("number", .int v)] (.inr ⟨d, rfl, ed4⟩) T.kt_NumberError_ZeroVector ?_
      walk_at "rd"
      refine isX_c T.X_NumberError [("number", .int v)] (.inr ⟨d, rfl, ed4⟩) T.kt_NumberError_SizeError ?_
      walk_at "rd"
      refine isX_c T.X_NumberError [("number", .int v)] (.inr ⟨d, rfl, ed4⟩) T.kt_NumberError_DependentError ?_
      walk_at "rd"
      refine isX_t T.X_NumberError [("number", .int v)] (.inr ⟨d, rfl, ed4⟩) T.kt_NumberError_ValueError ?_
      walk_at "rd"
      exact refused _ v H4 l q sH4 eq4 el4 (by rw [e]; rfl) _ _ (by assumption) (by assumption)
    · refine was_i T.em_ZeroVector_EndsError fun a na => ?_
      refine tSeq_i (tAsg_i (tLst_i (tNil_i (new_i (by walk_at "side") fun l H2 nl s2 el => ?_))))
      walk_at "rd"
      refine isX_c T.X_ZeroVector [] (.inl ⟨rfl, rfl⟩) T.kt_ZeroVector_NumberError ?_
      walk_at "rd"
      refine isX_c T.X_ZeroVector [] (.inl ⟨rfl, rfl⟩) T.kt_ZeroVector_ZeroVector ?_
      walk_at "rd"
      rename_i q H3 nq s3 e3
      have el3 := s3 _ _ el
      refine append_i el3 (by decide) fun H4 ch el4 s4 => ?_
      have hql : q ≠ l := fun z => by
        rw [z, el3] at e3
        cases e3
      have eq4 := ch _ _ hql e3
      have sH4 := s4.1 _ ((s1.trans s2).trans s3) (s1.free nl)
      walk_at "rd"
      refine isX_c T.X_ZeroVector [] (.inl ⟨rfl, rfl⟩) T.kt_ZeroVector_SizeError ?_
      walk_at "rd"
      refine isX_c T.X_ZeroVector [] (.inl ⟨rfl, rfl⟩) T.kt_ZeroVector_DependentError ?_
      walk_at "rd"
      refine isX_t T.X_ZeroVector [] (.inl ⟨rfl, rfl⟩) T.kt_ZeroVector_ValueError ?_
      walk_at "rd"
      exact refused _ 0 H4 l q sH4 eq4 el4 (by rw [e]; rfl) _ _ (by assumption) (by assumption)
  · refine Br_df (by decide) ?_
    walk_at "rd"
    refine Br_df (by decide) ?_
    walk_at "rd"
    refine ⟨p, rfl, ?_⟩
    have hf : oFrames K t.c_NumberError p = o := by unfold oFrames; rw [if_neg hn, ho]
    rw [hf]
    refine gcases hok (fun n e H1 s1 => ?_) (fun x y e H1 q s1 eq => ?_) (fun v e H1 d s1 ed => ?_) (fun e H1 s1 => ?_)
    · walk_at "rd"
      exact told _ _ H1 s1 (.int n) (by rw [e]; rfl) _ _ (by assumption) (by assumption)
    · walk_at "rd"
      exact told _ _ H1 s1 (.tup (SqT.of eq) (.cons (.int x) (.cons (.int y) .nil))) (by rw [e]; rfl) _ _ (by assumption) (by assumption)
    · refine was_i T.em_NumberError_EndsError fun a na => ?_
      refine tSeq_i (tAsg_i (tLst_i (tNil_i (new_i (by walk_at "side") fun l H2 nl s2 el => ?_))))
      walk_at "rd"
      have ed2 := s2 _ _ ed
      refine isX_c T.X_NumberError [("number", .int v)] (.inr ⟨d, rfl, ed2⟩) T.kt_NumberError_NumberError ?_
      walk_at "rd"
      refine xf1 T.X_NumberError ed2 T.xn_NumberError_number ?_
      walk_at "rd"
      rename_i q H3 nq s3 e3
      have el3 := s3 _ _ el
      have ed3 := s3 _ _ ed2
      refine append_i el3 (by decide) fun H4 ch el4 s4 => ?_
      have hdl : d ≠ l := fun z => by
        rw [z, el3] at ed3
        cases ed3
      have ed4 := ch _ _ hdl ed3
      have hql : q ≠ l := fun z => by
        rw [z, el3] at e3
        cases e3
      have eq4 := ch _ _ hql e3
      have sH4 := s4.1 _ ((s1.trans s2).trans s3) (s1.free nl)
      walk_at "rd"
      refine isX_c T.X_NumberError [("number", .int v)] (.inr ⟨d, rfl, ed4⟩) T.kt_NumberError_ZeroVector ?_
      walk_at "rd"
      refine isX_c T.X_NumberError [("number", .int v)] (.inr ⟨d, rfl, ed4⟩) T.kt_NumberError_SizeError ?_
      walk_at "rd"
      refine isX_c T.X_NumberError [("number", .int v)] (.inr ⟨d, rfl, ed4⟩) T.kt_NumberError_DependentError ?_
      walk_at "rd"
      refine isX_t T.X_NumberError [("number", .int v)] (.inr ⟨d, rfl, ed4⟩) T.kt_NumberError_ValueError ?_
      walk_at "rd"
      exact refused _ v H4 l q sH4 eq4 el4 (by rw [e]; rfl) _ _ (by assumption) (by assumption)
    · refine was_i T.em_ZeroVector_EndsError fun a na => ?_
      refine tSeq_i (tAsg_i (tLst_i (tNil_i (new_i (by walk_at "side") fun l H2 nl s2 el => ?_))))
      walk_at "rd"
      refine isX_c T.X_ZeroVector [] (.inl ⟨rfl, rfl⟩) T.kt_ZeroVector_NumberError ?_
      walk_at "rd"
      refine isX_c T.X_ZeroVector [] (.inl ⟨rfl, rfl⟩) T.kt_ZeroVector_ZeroVector ?_
      walk_at "rd"
      rename_i q H3 nq s3 e3
      have el3 := s3 _ _ el
      refine append_i el3 (by decide) fun H4 ch el4 s4 => ?_
      have hql : q ≠ l := fun z => by
        rw [z, el3] at e3
        cases e3
      have eq4 := ch _ _ hql e3
      have sH4 := s4.1 _ ((s1.trans s2).trans s3) (s1.free nl)
      walk_at "rd"
      refine isX_c T.X_ZeroVector [] (.inl ⟨rfl, rfl⟩) T.kt_ZeroVector_SizeError ?_
      walk_at "rd"
      refine isX_c T.X_ZeroVector [] (.inl ⟨rfl, rfl⟩) T.kt_ZeroVector_DependentError ?_
      walk_at "rd"
      refine isX_t T.X_ZeroVector [] (.inl ⟨rfl, rfl⟩) T.kt_ZeroVector_ValueError ?_
      walk_at "rd"
      exact refused _ 0 H4 l q sH4 eq4 el4 (by rw [e]; rfl) _ _ (by assumption) (by assumption)
def sp_ulaw_point (K : PySem.W.Frag) (t : Tab) : Sp := fun vs H Q E => ∃ (p a b : Int) (l : Addr), vs = [.int p, .ref l] ∧ SqT K H l [.int a, .int b] ∧ isP p = true ∧ p ≤ 997 ∧ 0 ≤ a ∧ a < p ∧ 0 ≤ b ∧ b < p ∧
  ∀ H', Same H H' → Q (.int (if a ≠ 0 then b * inv p a % p else p)) H'
theorem len_ulaw_point : ∀ vs H Q E, sp_ulaw_point K t vs H Q E → vs.length = (["p", "vector"] : List Str).length := by
  rintro vs H Q E ⟨_, _, _, _, rfl, _⟩
  rfl
theorem ok_ulaw_point (T : Txt K mg t) : FnOk P w K mg base (L2.CX P w) 1 t.a_ulaw_point t.fd_ulaw_point ["p", "vector"] (sp_ulaw_point K t) := by
  refine T.F_ulaw_point.okX sc_ulaw_point (len_ulaw_point) (fun cdv A outer s H vs Q E hr h => ?_)
  have nd := sc_ulaw_point.nd
  refine ⟨_, (pss_cons (ps_asg (pv 1) (pg_tupK K 2 rfl (pgs_cons (pg_name (i := 2) nd rfl (Or.inl rfl)) (pgs_cons (pg_name (i := 3) nd rfl (Or.inl rfl)) pgs_nil))))
    (pss_cons (ps_for (passes_of rfl) rfl (pi_range1 (by rfl) T.n_range (pa_cons (pv 0) pa_nil)) (pg_name (i := 4) nd rfl (Or.inl rfl))
    (pss_one (ps_if (PW.pt (pw_and (pt_cmpR (op_neUK K hr) (pv 2) (pe_int) (by first | exact nomark _ | rfl)) (pw_and1 (pt_cmpR (op_eqUK K hr) (pe_op op_modP (pe_callTy call_int1D (by rfl) T.n_int (by decide +kernel) (pa_cons (pe_op op_mulU (pv 2) (pv 4)) pa_nil)) (pv 0)) (pv 3) (by first | exact nomark _ | rfl))))) (pss_one (ps_ret (pv 4))) pss_nil)))
    (pss_one (ps_ret (pv 0))))), ?_⟩
  obtain ⟨p, a, b, l, rfl, hS, hp, h9, a0, a1, b0, b1, k⟩ := h
  have hp3 := (isP_nat hp).2
  walk_at "rd"
  refine tFor_i (w1 ?_)
  walk_at "rd"
  refine W1_i (by omega) ?_
  refine forS srcR (fun i σ H' => ∃ v, σ = [some (.int p), some (.ref l), some (.int a), some (.int b), v] ∧ Same H H' ∧ ∀ j : Nat, j < i → ¬ (a ≠ 0 ∧ a * (j : Nat) % p = b)) ⟨none, rfl, Same.refl _, fun j hj => absurd hj (Nat.not_lt_zero _)⟩ (fun _ _ _ _ _ => trivial) ?_ ?_
  · rintro i σ H1 x H2 hi ⟨v, rfl, s1, hno⟩ ⟨rfl, rfl⟩
    walk_at "rd"
    refine Br_d (fun c => ?_) (fun c => ?_)
    · have ca : a = 0 := by omega
      subst ca
      walk_at "rd"
      refine ⟨_, rfl, s1, fun j hj => ?_⟩
      simp
    · walk_at "rd"
      refine Br_d (fun c2 => ?_) (fun c2 => ?_)
      · walk_at "rd"
        have eq := quot_unique (k := 0 + (i : Nat)) hp (by omega) (by omega) ⟨by omega, by omega⟩ c2
        rw [if_pos c, ← eq] at k
        exact k _ s1
      · walk_at "rd"
        refine ⟨_, rfl, s1, fun j hj => ?_⟩
        by_cases e : j = i
        · subst e
          rw [show (0 : Int) + (j : Nat) = (j : Nat) by omega] at c2
          exact fun z => c2 z.2
        · exact hno j (by omega)
  · rintro σ H1 ⟨v, rfl, s1, hno⟩
    walk_at "rd"
    by_cases ca : a ≠ 0
    · exfalso
      have q := quot_hit (a := a) hp (by omega) (by omega) ⟨b0, b1⟩
      have m0 : 0 ≤ b * inv p a % p := Int.emod_nonneg _ (by omega)
      have m1 : b * inv p a % p < p := Int.emod_lt_of_pos _ (by omega)
      refine hno (b * inv p a % p).toNat (by omega) ⟨ca, ?_⟩
      rw [Int.toNat_of_nonneg m0]
      exact q
    · rw [if_neg ca] at k
      exact k _ s1
def vecOk (p : Int) (L : List (Int × Int)) : Prop := ∀ q ∈ L, 0 ≤ q.1 ∧ q.1 < p ∧ 0 ≤ q.2 ∧ q.2 < p ∧ (q.1 ≠ 0 ∨ q.2 ≠ 0)
theorem vecOk_app {p : Int} {L M : List (Int × Int)} (h : vecOk p L) (h2 : vecOk p M) : vecOk p (L ++ M) := fun q hq => (List.mem_append.mp hq).elim (h q) (h2 q)
theorem vecOk_one {p a b : Int} (h : 0 ≤ a ∧ a < p ∧ 0 ≤ b ∧ b < p ∧ (a ≠ 0 ∨ b ≠ 0)) : vecOk p [(a, b)] := fun q hq => by
  rw [List.mem_singleton.mp hq]
  exact h
theorem vecOk_nil {p : Int} : vecOk p [] := fun q hq => nomatch hq
def VecL (K : PySem.W.Frag) (p : Int) (n : Nat) (H : Hp) (vs : List V) : Prop := ∃ L : List (Int × Int), DpAll K H vs (L.map pairD) ∧ vecOk p L ∧ vs.length ≤ n
theorem VecL.same {K : PySem.W.Frag} {p : Int} {n : Nat} {H H' : Hp} {vs : List V} (s : Same H H') (h : VecL K p n H vs) : VecL K p n H' vs := by
  obtain ⟨L, h1, h2, h3⟩ := h
  exact ⟨L, s.dpAll h1, h2, h3⟩
theorem VecL.app {K : PySem.W.Frag} {p : Int} {n m : Nat} {H : Hp} {vs ws : List V} (h : VecL K p n H vs) (h' : VecL K p m H ws) : VecL K p (n + m) H (vs ++ ws) := by
  obtain ⟨L, h1, h2, h3⟩ := h
  obtain ⟨M, g1, g2, g3⟩ := h'
  exact ⟨L ++ M, by rw [List.map_append]; exact DpAll.app h1 g1, vecOk_app h2 g2, by rw [List.length_append]; omega⟩
theorem VecL.mono {K : PySem.W.Frag} {p : Int} {n m : Nat} {H : Hp} {vs : List V} (h : VecL K p n H vs) (hm : n ≤ m) : VecL K p m H vs := by
  obtain ⟨L, h1, h2, h3⟩ := h
  exact ⟨L, h1, h2, Nat.le_trans h3 hm⟩
theorem VecL.one {K : PySem.W.Frag} {p a b : Int} {H : Hp} {q : Addr} (hq : SqT K H q [.int a, .int b]) (h : 0 ≤ a ∧ a < p ∧ 0 ≤ b ∧ b < p ∧ (a ≠ 0 ∨ b ≠ 0)) : VecL K p 1 H [.ref q] :=
  ⟨[(a, b)], .cons (.tup hq (.cons (.int a) (.cons (.int b) .nil))) .nil, vecOk_one h, by simp⟩
theorem VecL.nil {K : PySem.W.Frag} {p : Int} {H : Hp} : VecL K p 0 H [] := ⟨[], .nil, vecOk_nil, by simp⟩
def sp_ulaw_vectors (K : PySem.W.Frag) (t : Tab) : Sp := fun vs H Q E => ∃ (c a : Addr) (p : Int), vs = [.ref c, .ref a, .int p] ∧ Draw K H c a ∧ 3 ≤ p ∧ p ≤ 997 ∧
  ∀ H' q vs, Same H H' → H q = none → H' q = some (.lst vs) → VecL K p 1000 H' vs → Q (.ref q) H'
theorem len_ulaw_vectors : ∀ vs H Q E, sp_ulaw_vectors K t vs H Q E → vs.length = (["cells", "at", "p"] : List Str).length := by
  rintro vs H Q E ⟨_, _, _, rfl, _⟩
  rfl
theorem ok_ulaw_vectors (T : Txt K mg t) : FnOk P w K mg base (L2.CX P w) 2 t.a_ulaw_vectors t.fd_ulaw_vectors ["cells", "at", "p"] (sp_ulaw_vectors K t) := by
  have G_ulaw_next := ok_ulaw_next (P := P) (w := w) (base := base) T
  refine T.F_ulaw_vectors.okX sc_ulaw_vectors (len_ulaw_vectors) (fun cdv A outer s H vs Q E hr h => ?_)
  have nd := sc_ulaw_vectors.nd
  refine ⟨_, (pss_cons (ps_set (i := 3) nd rfl (Or.inl rfl) (pe_lst pa_nil))
    (pss_cons (ps_if (pt_cmpR op_lt (pv 2) (pe_int) (by first | exact nomark _ | rfl)) (pss_cons (ps_for (passes_of rfl) rfl (pi_range1 (by rfl) T.n_range (pa_cons (pv 2) pa_nil)) (pg_name (i := 4) nd rfl (Or.inr rfl))
    (pss_one (ps_set (i := 3) nd rfl (Or.inl rfl) (pe_op (op_addUK K) (pv 3) (pe_lc (own := [("b", 6)]) (g := gName 6) rfl nd (pi_range1 (by rfl) T.n_range (pa_cons (pv 2) pa_nil)) (blkOk_by (N := ["cells", "at", "p", "out", "a", "step", "b"]) (sc := defScope s_ulaw_vectors) (by decide +kernel)) (fun _ _ _ _ _ => (pg_name (i := 6) nd rfl (Or.inl rfl))) (fun _ _ _ _ _ => (pts_one (pt_cmpR op_gt (pe_op (op_addUK K) (pv 4) (pv 6)) (pe_int) (by first | exact nomark _ | rfl)))) (fun _ _ _ _ _ => (pe_tup (pa_cons (pv 4) (pa_cons (pv 6) pa_nil)))))))))
    (pss_one (ps_ret (pv 3)))) pss_nil)
    (pss_cons (ps_for (passes_of rfl) rfl (pi_range1 (by rfl) T.n_range (pa_cons (pe_int) pa_nil)) (pg_name (i := 5) nd rfl (Or.inl rfl))
    (pss_one (ps_expr (pe_bmK K PySem.F.plainAttrs_list PySem.F.slot_list_append PySem.F.type_list_append mt_append (pv 3) (pa_cons (pe_tup (pa_cons (pe_op (op_addUK K) (pe_int) (pe_callS G_ulaw_next (hr.mono (by decide)) (by rfl) T.g_ulaw_next T.F_ulaw_next.kp T.b_ulaw_next (fun σ => passAt (takes_of rfl rfl rfl rfl) σ) (pa_cons (pv 0) (pa_cons (pv 1) (pa_cons (pe_op op_sub (pv 2) (pe_int)) pa_nil))))) (pa_cons (pe_callS G_ulaw_next (hr.mono (by decide)) (by rfl) T.g_ulaw_next T.F_ulaw_next.kp T.b_ulaw_next (fun σ => passAt (takes_of rfl rfl rfl rfl) σ) (pa_cons (pv 0) (pa_cons (pv 1) (pa_cons (pv 2) pa_nil)))) pa_nil))) pa_nil)))))
    (pss_cons (ps_expr (pe_bmK K PySem.F.plainAttrs_list PySem.F.slot_list_append PySem.F.type_list_append mt_append (pv 3) (pa_cons (pe_tup (pa_cons (pe_int) (pa_cons (pe_op (op_addUK K) (pe_int) (pe_callS G_ulaw_next (hr.mono (by decide)) (by rfl) T.g_ulaw_next T.F_ulaw_next.kp T.b_ulaw_next (fun σ => passAt (takes_of rfl rfl rfl rfl) σ) (pa_cons (pv 0) (pa_cons (pv 1) (pa_cons (pe_op op_sub (pv 2) (pe_int)) pa_nil))))) pa_nil))) pa_nil)))
    (pss_one (ps_ret (pe_op (op_addUK K) (pv 3) (pe_lst (pa_cons (pe_tup (pa_cons (pe_int) (pa_cons (pe_int) pa_nil))) (pa_cons (pe_tup (pa_cons (pe_int) (pa_cons (pe_int) pa_nil))) (pa_cons (pe_tup (pa_cons (pe_op op_sub (pv 2) (pe_int)) (pa_cons (pe_op op_sub (pv 2) (pe_int)) pa_nil))) pa_nil))))))))))), ?_⟩
  obtain ⟨c, a, p, rfl, hD, h3, h9, k⟩ := h
  refine tSeq_i (tAsg_i (tLst_i (tNil_i (new_i (by walk_at "side") fun o H1 no s1 ho => ?_))))
  walk_at "rd"
  have hD1 := s1.draw hD
  refine Br_d (fun cp => ?_) (fun cp => ?_)
  · walk_at "rd"
    refine tFor_i (w1 ?_)
    walk_at "rd"
    refine W1_i (by omega) ?_
    refine forS srcR (fun i σ H' => ∃ (o : Addr) (vs : List V) (v5 v6 : Option V), σ = [some (.ref c), some (.ref a), some (.int p), some (.ref o), v5, v6, none] ∧ Same H H' ∧ H o = none ∧ H' o = some (.lst vs) ∧ VecL K p (20 * i) H' vs) ⟨o, [], none, none, rfl, s1, no, ho, VecL.nil⟩ (fun _ _ _ _ _ => trivial) ?_ ?_
    · rintro i σ H2 x H3 hi ⟨o, vs, v5, v6, rfl, s2, no, ho, hV⟩ ⟨rfl, rfl⟩
      walk_at "rd"
      refine tLc_i (w1 ?_)
      walk_at "rd"
      refine W1_i (by omega) ?_
      refine lcS srcR (fun j G acc => VecL K p j G acc) (fun _ _ => trivial) VecL.nil ?_ ?_
      · rintro D j acc H4 x H5 hj nD s4 eD hV4 ⟨rfl, rfl⟩
        walk_at "rd"
        refine Br_d (fun cc => ?_) (fun cc => ?_)
        · walk_at "rd"
          rename_i q H6 nq s6 e6
          obtain ⟨L, l1, l2, l3⟩ := id hV4
          refine lcY nD (s4.trans s6) (s6 _ _ eD) (Nat.lt_of_le_of_lt (show acc.length ≤ 20 by omega) (by decide)) ?_
          exact (VecL.same s6.del hV4).app (VecL.one (SqT.of (del_new e6 nq eD)) (by omega))
        · exact lcN s4 eD (hV4.mono (by omega))
      · rintro D acc H4 nD s4 eD hV4
        obtain ⟨L, l1, l2, l3⟩ := id hV4
        obtain ⟨L', l1', l2', l3'⟩ := id hV
        refine rAddU_l (s4 _ _ ho) eD (Nat.le_trans (show vs.length + acc.length ≤ 10000 by omega) (by decide)) fun q H5 nq s5 e5 => ?_
        walk_at "rd"
        refine ⟨q, vs ++ acc, _, _, rfl, s2.trans (s4.trans s5), (s2.trans s4).free nq, e5, ?_⟩
        exact ((VecL.same (s4.trans s5) hV).app (VecL.same s5 (VecL.same Same.undel hV4))).mono (by omega)
    · rintro σ H2 ⟨o, vs, v5, v6, rfl, s2, no, ho, hV⟩
      walk_at "rd"
      exact k H2 o vs s2 no ho (hV.mono (by omega))
  · walk_at "rd"
    refine tFor_i (w1 ?_)
    walk_at "rd"
    refine W1_i (by omega) ?_
    refine forS srcR (fun i σ H' => ∃ (vs : List V) (v5 v6 : Option V), σ = [some (.ref c), some (.ref a), some (.int p), some (.ref o), v5, v6, none] ∧ Same H H' ∧ Same H (del H' o) ∧ H' o = some (.lst vs) ∧ VecL K p i (del H' o) vs) ⟨[], none, none, rfl, s1, s1.todel no, ho, VecL.nil⟩ (fun _ _ _ _ _ => trivial) ?_ ?_
    · rintro i σ H2 x H3 hi ⟨vs, v5, v6, rfl, s2, s2d, ho, hV⟩ ⟨rfl, rfl⟩
      have hi' : i < 14 := hi
      walk_at "rd"
      refine ⟨c, a, p - 1, rfl, s2.draw hD, by omega, fun n n0 n1 => ?_⟩
      walk_at "rd"
      refine ⟨c, a, p, rfl, s2.draw hD, by omega, fun m m0 m1 => ?_⟩
      walk_at "rd"
      rename_i q H4 nq s4 e4
      have ho4 := s4 _ _ ho
      obtain ⟨L, l1, l2, l3⟩ := id hV
      refine append_i ho4 (Nat.lt_of_le_of_lt (show vs.length ≤ 20 by omega) (by decide)) fun H5 ch e5 s5 => ?_
      have hd : del H5 o = del H4 o := s5.2
      refine ⟨_, _, _, rfl, s5.1 _ (s2.trans s4) no, ?_, e5, ?_⟩
      · rw [hd]
        exact (s2.trans s4).todel no
      · rw [hd]
        exact (VecL.same s4.del hV).app (VecL.one (SqT.of (del_new e4 nq ho)) (by omega))
    · rintro σ H2 ⟨vs, v5, v6, rfl, s2, s2d, ho, hV⟩
      have hV14 : VecL K p 14 (del H2 o) vs := hV
      walk_at "rd"
      refine ⟨c, a, p - 1, rfl, s2.draw hD, by omega, fun n n0 n1 => ?_⟩
      walk_at "rd"
      rename_i q H4 nq s4 e4
      have ho4 := s4 _ _ ho
      obtain ⟨L, l1, l2, l3⟩ := id hV14
      refine append_i ho4 (Nat.lt_of_le_of_lt (show vs.length ≤ 20 by omega) (by decide)) fun H5 ch e5 s5 => ?_
      have hd : del H5 o = del H4 o := s5.2
      have hV5 : VecL K p 15 H5 (vs ++ [.ref q]) := by
        refine VecL.same (Same.undel (D := o)) ?_
        rw [hd]
        exact (VecL.same s4.del hV14).app (VecL.one (SqT.of (del_new e4 nq ho)) (by omega))
      have sH5 := s5.1 _ (s2.trans s4) no
      obtain ⟨L5, m1, m2, m3⟩ := id hV5
      walk_at "rd"
      rename_i q1 H6 nq1 s6 e6 q2 H7 nq2 s7 e7 q3 H8 nq3 s8 e8 q4 H9 nq4 s9 e9
      refine rAddU_l (s9 _ _ (s8 _ _ (s7 _ _ (s6 _ _ e5)))) e9 (Nat.le_trans (show (vs ++ [V.ref q]).length + 3 ≤ 10000 by omega) (by decide)) fun r Hr nr sr er => ?_
      refine k Hr r _ (sH5.trans (s6.trans (s7.trans (s8.trans (s9.trans sr))))) ?_ er ?_
      · exact (sH5.trans (s6.trans (s7.trans (s8.trans s9)))).free nr
      · refine ((VecL.same (s6.trans (s7.trans (s8.trans (s9.trans sr)))) hV5).app ((VecL.one (a := 0) (b := 1) ?_ (by omega)).app ((VecL.one (a := 1) (b := 0) ?_ (by omega)).app (VecL.one (a := p - 1) (b := p - 1) ?_ (by omega))))).mono (by omega)
        · exact SqT.of (sr _ _ (s9 _ _ (s8 _ _ (s7 _ _ e6))))
        · exact SqT.of (sr _ _ (s9 _ _ (s8 _ _ e7)))
        · exact SqT.of (sr _ _ (s9 _ _ e8))
def sp_ulaw_frames (K : PySem.W.Frag) (t : Tab) : Sp := fun vs H Q E => ∃ N : Nat, vs = [.int (N : Nat)] ∧ N ≤ 23 ∧
  ∀ H' q vs, Same H H' → H q = none → H' q = some (.lst vs) → DpAll K H' vs (frD N (N + 1)) → Q (.ref q) H'
theorem len_ulaw_frames : ∀ vs H Q E, sp_ulaw_frames K t vs H Q E → vs.length = (["p"] : List Str).length := by
  rintro vs H Q E ⟨_, rfl, _⟩
  rfl
theorem ok_ulaw_frames (T : Txt K mg t) : FnOk P w K mg base (L2.CX P w) 1 t.a_ulaw_frames t.fd_ulaw_frames ["p"] (sp_ulaw_frames K t) := by
  refine T.F_ulaw_frames.okX sc_ulaw_frames (len_ulaw_frames) (fun cdv A outer s H vs Q E hr h => ?_)
  have nd := sc_ulaw_frames.nd
  refine ⟨_, (pss_cons (ps_set (i := 1) nd rfl (Or.inl rfl) (pe_lst pa_nil))
    (pss_cons (ps_for (passes_of rfl) rfl (pi_range1 (by rfl) T.n_range (pa_cons (pe_op (op_addUK K) (pv 0) (pe_int)) pa_nil)) (pg_name (i := 2) nd rfl (Or.inr rfl))
    (pss_one (ps_set (i := 1) nd rfl (Or.inl rfl) (pe_op (op_addUK K) (pv 1) (pe_lc (own := [("k", 3)]) (g := gName 3) (tt := tYes) rfl nd (pi_range2 (by rfl) T.n_range (pa_cons (pe_op (op_addUK K) (pv 2) (pe_int)) (pa_cons (pe_op (op_addUK K) (pv 0) (pe_int)) pa_nil))) (blkOk_by (N := ["p", "out", "j", "k"]) (sc := defScope s_ulaw_frames) (by decide +kernel)) (fun _ _ _ _ _ => (pg_name (i := 3) nd rfl (Or.inl rfl))) (fun _ _ _ _ _ => pts_nil) (fun _ _ _ _ _ => (pe_tup (pa_cons (pv 2) (pa_cons (pv 3) pa_nil)))))))))
    (pss_one (ps_ret (pv 1))))), ?_⟩
  obtain ⟨N, rfl, hN, k⟩ := h
  refine tSeq_i (tAsg_i (tLst_i (tNil_i (new_i (by walk_at "side") fun o H1 no s1 ho => ?_))))
  walk_at "rd"
  refine tFor_i (w1 ?_)
  walk_at "rd"
  refine W1_i (by omega) ?_
  refine forS srcR (fun i σ H' => ∃ (o : Addr) (vs : List V) (v : Option V), σ = [some (.int (N : Nat)), some (.ref o), v, none] ∧ Same H H' ∧ H o = none ∧ H' o = some (.lst vs) ∧ DpAll K H' vs (frD N i) ∧ vs.length ≤ 30 * i) ⟨o, [], none, rfl, s1, no, ho, .nil, by simp⟩ (fun _ _ _ _ _ => trivial) ?_ ?_
  · rintro i σ H2 x H3 hi ⟨o, vs, v, rfl, s2, no, ho, hV, hl⟩ ⟨rfl, rfl⟩
    have hi' : i < N + 1 := by omega
    walk_at "rd"
    refine tLc_i (w2 ?_)
    walk_at "rd"
    refine W2_i (by omega) ?_
    refine lcS srcR (fun j G acc => DpAll K G acc ((frRow N i).take j) ∧ acc.length ≤ j) (fun _ _ => trivial) ⟨.nil, by simp⟩ ?_ ?_
    · rintro D j acc H4 x H5 hj nD s4 eD ⟨hA4, hl4⟩ ⟨rfl, rfl⟩
      have hj' : j < N - i := by omega
      walk_at "rd"
      rename_i q H6 nq s6 e6
      refine lcY nD (s4.trans s6) (s6 _ _ eD) (Nat.lt_of_le_of_lt (show acc.length ≤ 10000 by omega) (by decide)) ⟨?_, by rw [List.length_append, List.length_singleton]; omega⟩
      have hrow : (frRow N i)[j]? = some (.tuple [.int (i : Nat), .int ((i + 1 + j : Nat) : Int)]) := by
        unfold frRow
        rw [List.getElem?_map, List.getElem?_range hj']
        rfl
      rw [List.take_add_one, hrow]
      refine DpAll.app (s6.del.dpAll hA4) (DpAll.one (.tup (SqT.of (del_new e6 nq eD)) ?_))
      have e1 : (0 : Int) + (i : Nat) = (i : Nat) := by omega
      have e2 : (0 : Int) + (i : Nat) + 1 + (j : Nat) = ((i + 1 + j : Nat) : Int) := by omega
      rw [e2, e1]
      exact .cons (.int _) (.cons (.int _) .nil)
    · rintro D acc H4 nD s4 eD ⟨hA4, hl4⟩
      have hn : (((N : Int) + 1) - (0 + (i : Nat) + 1)).toNat = N - i := by omega
      rw [hn] at hA4 hl4
      rw [List.take_of_length_le (by unfold frRow; rw [List.length_map, List.length_range]; exact Nat.le_refl _)] at hA4
      refine rAddU_l (s4 _ _ ho) eD (Nat.le_trans (show vs.length + acc.length ≤ 10000 by omega) (by decide)) fun q H5 nq s5 e5 => ?_
      walk_at "rd"
      refine ⟨q, vs ++ acc, _, rfl, s2.trans (s4.trans s5), (s2.trans s4).free nq, e5, ?_, by rw [List.length_append]; omega⟩
      rw [frD_succ]
      exact DpAll.app ((s4.trans s5).dpAll hV) (s5.dpAll (Same.undel.dpAll hA4))
  · rintro σ H2 ⟨o, vs, v, rfl, s2, no, ho, hV, hl⟩
    walk_at "rd"
    have hn : ((N : Int) + 1).toNat = N + 1 := by omega
    rw [hn] at hV
    exact k H2 o vs s2 no ho hV
def sp_ulaw_pairs (K : PySem.W.Frag) (t : Tab) : Sp := fun vs H Q E => ∃ (a : Addr) (xs : List V) (L : List (Int × Int)), vs = [.ref a] ∧ H a = some (.lst xs) ∧ DpAll K H xs (L.map pairD) ∧
  ∀ H', Same H H' → Q (.bl true) H'
theorem len_ulaw_pairs : ∀ vs H Q E, sp_ulaw_pairs K t vs H Q E → vs.length = (["told"] : List Str).length := by
  rintro vs H Q E ⟨_, _, _, rfl, _⟩
  rfl
theorem ok_ulaw_pairs (T : Txt K mg t) : FnOk P w K mg base (L2.CX P w) 2 t.a_ulaw_pairs t.fd_ulaw_pairs ["told"] (sp_ulaw_pairs K t) := by
  have G_ulaw_whole := ok_ulaw_whole (P := P) (w := w) (base := base) T
  refine T.F_ulaw_pairs.okX sc_ulaw_pairs (len_ulaw_pairs) (fun cdv A outer s H vs Q E hr h => ?_)
  have nd := sc_ulaw_pairs.nd
  refine ⟨_, (pss_cons (ps_if (pt_not (pt_truthK K (pe_callB (call_isiUK K) (by rfl) T.n_isinstance (by decide +kernel) (pa_cons (pv 0) (pa_cons (pe_bltn (v := .ty "list") (by rfl) T.n_list (by decide +kernel) rfl) pa_nil))))) (pss_one (ps_ret (pe_bl))) pss_nil)
    (pss_cons (ps_for (passes_of rfl) rfl (pi_UK K (pv 0)) (pg_name (i := 1) nd rfl (Or.inl rfl))
    (pss_one (ps_if (PW.pt (pw_or (pt_not (pt_truthK K (pe_callB (call_isiUK K) (by rfl) T.n_isinstance (by decide +kernel) (pa_cons (pv 1) (pa_cons (pe_bltn (v := .ty "tuple") (by rfl) T.n_tuple (by decide +kernel) rfl) pa_nil))))) (pw_or1 (pt_not (pt_truthK K (pe_callB (cr_allK K rfl) (by rfl) T.n_all (by decide +kernel) (pa_cons (pe_lc (own := [("y", 2)]) (g := gName 2) (tt := tYes) rfl nd (pi_UK K (pv 1)) (blkOk_by (N := ["told", "x", "y"]) (sc := defScope s_ulaw_pairs) (by decide +kernel)) (fun _ _ _ _ _ => (pg_name (i := 2) nd rfl (Or.inl rfl))) (fun _ _ _ _ _ => pts_nil) (fun _ _ _ _ _ => (pe_call G_ulaw_whole (hr.mono (by decide)) (by rfl) T.g_ulaw_whole T.F_ulaw_whole.kp T.b_ulaw_whole .nil passL (pa_cons (pv 2) pa_nil)))) pa_nil))))))) (pss_one (ps_ret (pe_bl))) pss_nil)))
    (pss_one (ps_ret (pe_bl))))), ?_⟩
  obtain ⟨a, xs, L, rfl, ha, hA, k⟩ := h
  walk_at "rd"
  refine isi_lst_lst ha ?_
  walk_at "rd"
  refine tFor_i (wL ?_)
  walk_at "rd"
  refine WL_i _ (SqL.of ha) ?_
  refine forS srcL (fun i σ H' => ∃ v, σ = [some (.ref a), v, none] ∧ Same H H') ⟨none, rfl, Same.refl _⟩ (fun i σ H' _ ⟨_, _, s⟩ => SqL.of (s _ _ ha)) ?_ ?_
  · rintro i σ H1 x H2 hi ⟨v, rfl, s1⟩ ⟨rfl, hx⟩
    obtain ⟨d, hd, hp⟩ := DpAll.get hA hx
    obtain ⟨q, hq, rfl⟩ : ∃ q : Int × Int, L[i]? = some q ∧ d = pairD q := by
      rw [List.getElem?_map] at hd
      cases e : L[i]? with
      | none => rw [e] at hd; cases hd
      | some q => rw [e] at hd; exact ⟨q, rfl, (Option.some.inj hd).symm⟩
    cases hp with
    | @tup l ys ds hS hAll =>
      have hys : ys = [.int q.1, .int q.2] := DpAll.ints (xs := [q.1, q.2]) hAll
      subst hys
      have hS2 := s1.seqT hS
      walk_at "rd"
      refine isi_tupS hS2 ?_
      walk_at "rd"
      refine tLc_i (wT ?_)
      walk_at "rd"
      refine WT_i _ hS2 ?_
      refine lcS srcT (fun j G acc => acc = ([q.1, q.2].take j).map fun _ => V.bl true) (fun H' s' => s'.seqT hS2) rfl ?_ ?_
      · rintro D j acc H3 x H4 hj nD s3 eD rfl ⟨rfl, hx2⟩
        obtain ⟨y, hy, rfl⟩ : ∃ y : Int, [q.1, q.2][j]? = some y ∧ x = .int y := by
          match j, hx2 with
          | 0, e => exact ⟨q.1, rfl, (Option.some.inj e).symm⟩
          | 1, e => exact ⟨q.2, rfl, (Option.some.inj e).symm⟩
          | n + 2, e => simp at e
        walk_at "rd"
        refine ⟨y, rfl, ?_⟩
        refine lcY nD s3 eD (Nat.lt_of_le_of_lt (show _ ≤ 10 by rw [List.length_map, List.length_take]; simp; omega) (by decide)) ?_
        rw [map_take_succ hy]
      · rintro D acc H3 nD s3 eD rfl
        walk_at "rd"
        refine rAll_i [true, true] (SqL.of eD) ?_
        walk_at "rd"
        exact ⟨_, rfl, s1.trans s3⟩
  · rintro σ H1 ⟨v, rfl, s1⟩
    walk_at "rd"
    exact k _ s1
def AskV (K : PySem.W.Frag) (C Z : Addr) (H : Hp) (v : V) : Prop := ∃ (r du : Addr) (w q n : Int) (x : V) (z : Str) (o : Out), v = .ref r ∧ SqT K H r [.int w, .int q, x, .ref du] ∧ Asked K C Z H w q x o ∧ SqT K H du [.str z, .int n] ∧
  outD o = .tuple [.str "refused", .list [.tuple [.str z, .int n]]] ∧ (PyData.str z).canLay0 = true
theorem Asked.same {K : PySem.W.Frag} {C Z : Addr} {H H' : Hp} {w p : Int} {x : V} {o : Out} (s : Same H H') (h : Asked K C Z H w p x o) : Asked K C Z H' w p x o := by
  rcases h with ⟨e, a, b, l, e2, hS, e3⟩ | h | h
  · exact .inl ⟨e, a, b, l, e2, s.seqT hS, e3⟩
  · exact .inr (.inl h)
  · exact .inr (.inr h)
theorem AskV.same {K : PySem.W.Frag} {C Z : Addr} {H H' : Hp} {v : V} (s : Same H H') (h : AskV K C Z H v) : AskV K C Z H' v := by
  obtain ⟨r, du, w, q, n, x, z, o, e, h1, h2, h3, h4⟩ := h
  exact ⟨r, du, w, q, n, x, z, o, e, s.seqT h1, h2.same s, s.seqT h3, h4⟩
def AskL (K : PySem.W.Frag) (C Z : Addr) (H : Hp) (vs : List V) : Prop := vs.length ≤ 20 ∧ ∀ v ∈ vs, AskV K C Z H v
theorem AskL.same {K : PySem.W.Frag} {C Z : Addr} {H H' : Hp} {vs : List V} (s : Same H H') (h : AskL K C Z H vs) : AskL K C Z H' vs := ⟨h.1, fun v hv => (h.2 v hv).same s⟩
theorem AskL.app {K : PySem.W.Frag} {C Z : Addr} {H H' : Hp} {vs : List V} {v : V} (s : Same H H') (h : AskL K C Z H vs) (hl : vs.length < 20) (hv : AskV K C Z H' v) : AskL K C Z H' (vs ++ [v]) :=
  ⟨by rw [List.length_append, List.length_singleton]; omega, fun u hu => (List.mem_append.mp hu).elim (fun z => (h.2 u z).same s) fun z => by rw [List.mem_singleton.mp z]; exact hv⟩
theorem ask0 {K : PySem.W.Frag} {C Z : Addr} {H : Hp} {r du l : Addr} {q a b n : Int} {z : Str} (h1 : H r = some (.tup [.int 0, .int q, .ref l, .ref du])) (h2 : H l = some (.tup [.int a, .int b])) (h3 : H du = some (.tup [.str z, .int n]))
    (h4 : outD (oPoint C Z q a b) = .tuple [.str "refused", .list [.tuple [.str z, .int n]]]) (h5 : (PyData.str z).canLay0 = true) : AskV K C Z H (.ref r) :=
  ⟨r, du, 0, q, n, .ref l, z, _, rfl, SqT.of h1, .inl ⟨rfl, a, b, l, rfl, SqT.of h2, rfl⟩, SqT.of h3, h4, h5⟩
theorem ask1 {K : PySem.W.Frag} {C Z : Addr} {H : Hp} {r du : Addr} {q k n : Int} {z : Str} (h1 : H r = some (.tup [.int 1, .int q, .int k, .ref du])) (h3 : H du = some (.tup [.str z, .int n]))
    (h4 : outD (oVector C q k) = .tuple [.str "refused", .list [.tuple [.str z, .int n]]]) (h5 : (PyData.str z).canLay0 = true) : AskV K C Z H (.ref r) :=
  ⟨r, du, 1, q, n, .int k, z, _, rfl, SqT.of h1, .inr (.inl ⟨rfl, k, rfl, rfl⟩), SqT.of h3, h4, h5⟩
theorem ask2 {K : PySem.W.Frag} {C Z : Addr} {H : Hp} {r du : Addr} {q k : Int} (h1 : H r = some (.tup [.int 2, .int q, .int k, .ref du])) (h3 : H du = some (.tup [.str "number", .int q])) (h4 : ¬ (3 ≤ q ∧ q ≤ 23 ∧ isP q = true)) : AskV K C Z H (.ref r) :=
  ⟨r, du, 2, q, q, .int k, "number", _, rfl, SqT.of h1, .inr (.inr ⟨rfl, h4, rfl⟩), SqT.of h3, rfl, by decide +kernel⟩
theorem pt_bad0 {C Z : Addr} {p a b : Int} (hp : 0 ≤ p ∧ p ≤ 997 ∧ isP p = true) (h : ¬ (0 ≤ a ∧ a < p)) : oPoint C Z p a b = .err C "number" (.int a) := by unfold oPoint; rw [if_pos hp, if_neg h]
theorem pt_bad1 {C Z : Addr} {p a b : Int} (hp : 0 ≤ p ∧ p ≤ 997 ∧ isP p = true) (h : 0 ≤ a ∧ a < p) (h2 : ¬ (0 ≤ b ∧ b < p)) : oPoint C Z p a b = .err C "number" (.int b) := by unfold oPoint; rw [if_pos hp, if_pos h, if_neg h2]
theorem pt_badp {C Z : Addr} {p a b : Int} (hp : ¬ (0 ≤ p ∧ p ≤ 997 ∧ isP p = true)) : oPoint C Z p a b = .err C "number" (.int p) := by unfold oPoint; rw [if_neg hp]
theorem pt_zero {C Z : Addr} {p : Int} (hp : 0 ≤ p ∧ p ≤ 997 ∧ isP p = true) (h : 0 < p) : oPoint C Z p 0 0 = .err0 Z := by unfold oPoint; rw [if_pos hp, if_pos (by omega), if_pos (by omega), if_neg (by simp), if_pos rfl]
theorem vc_bad {C : Addr} {p k : Int} (hp : 0 ≤ p ∧ p ≤ 997 ∧ isP p = true) (h : ¬ (0 ≤ k ∧ k ≤ p)) : oVector C p k = .err C "number" (.int k) := by unfold oVector; rw [if_pos hp, if_neg h]
theorem vc_badp {C : Addr} {p k : Int} (hp : ¬ (0 ≤ p ∧ p ≤ 997 ∧ isP p = true)) : oVector C p k = .err C "number" (.int p) := by unfold oVector; rw [if_neg hp]
def odd15 : List Int := [0, 1, 2, 4, 9, 25, 27, 91, 361, 961, 998, 999, 1009, 0 - 3, 0 - 23]
theorem odd15_no : ∀ z ∈ odd15, ¬ (0 ≤ z ∧ z ≤ 997 ∧ isP z = true) := by decide +kernel
def sp_ulaw_refused (K : PySem.W.Frag) (t : Tab) : Sp := fun vs H Q E => ∃ (c a : Addr) (p : Int), vs = [.ref c, .ref a, .int p] ∧ Draw K H c a ∧ isP p = true ∧ p ≤ 997 ∧
  ∀ H', Same H H' → Q (.bl true) H'
theorem len_ulaw_refused : ∀ vs H Q E, sp_ulaw_refused K t vs H Q E → vs.length = (["cells", "at", "p"] : List Str).length := by
  rintro vs H Q E ⟨_, _, _, rfl, _⟩
  rfl
theorem ok_ulaw_refused (T : Txt K mg t) : FnOk P w K mg base (L2.CX P w) 9 t.a_ulaw_refused t.fd_ulaw_refused ["cells", "at", "p"] (sp_ulaw_refused K t) := by
  have G_ulaw_asked := ok_ulaw_asked (P := P) (w := w) (base := base) T
  have G_ulaw_next := ok_ulaw_next (P := P) (w := w) (base := base) T
  have G_ulaw_upward := ok_ulaw_upward (P := P) (w := w) (base := base) T
  refine T.F_ulaw_refused.okX sc_ulaw_refused (len_ulaw_refused) (fun cdv A outer s H vs Q E hr h => ?_)
  have nd := sc_ulaw_refused.nd
  refine ⟨_, (pss_cons (ps_set (i := 3) nd rfl (Or.inl rfl) (pe_lst (pa_cons (pe_int) (pa_cons (pe_int) (pa_cons (pe_int) (pa_cons (pe_int) (pa_cons (pe_int) (pa_cons (pe_int) (pa_cons (pe_int) (pa_cons (pe_int) (pa_cons (pe_int) (pa_cons (pe_int) (pa_cons (pe_int) (pa_cons (pe_int) (pa_cons (pe_int) (pa_cons (pe_op op_sub (pe_int) (pe_int)) (pa_cons (pe_op op_sub (pe_int) (pe_int)) pa_nil)))))))))))))))))
    (pss_cons (ps_set (i := 4) nd rfl (Or.inl rfl) (pe_ix (ix_UK K) (pv 3) (pe_callS G_ulaw_next (hr.mono (by decide)) (by rfl) T.g_ulaw_next T.F_ulaw_next.kp T.b_ulaw_next (fun σ => passAt (takes_of rfl rfl rfl rfl) σ) (pa_cons (pv 0) (pa_cons (pv 1) (pa_cons (pe_int) pa_nil)))) (fun _ _ => rfl)))
    (pss_cons (ps_set (i := 5) nd rfl (Or.inl rfl) (pe_lst (pa_cons (pv 2) (pa_cons (pe_op op_sub (pe_int) (pe_int)) (pa_cons (pe_op (op_addUK K) (pe_op (op_addUK K) (pv 2) (pe_int)) (pe_callS G_ulaw_next (hr.mono (by decide)) (by rfl) T.g_ulaw_next T.F_ulaw_next.kp T.b_ulaw_next (fun σ => passAt (takes_of rfl rfl rfl rfl) σ) (pa_cons (pv 0) (pa_cons (pv 1) (pa_cons (pe_int) pa_nil))))) (pa_cons (pe_op op_sub (pe_int) (pe_int)) pa_nil))))))
    (pss_cons (ps_set (i := 6) nd rfl (Or.inl rfl) (pe_ix (ix_UK K) (pv 5) (pe_callS G_ulaw_next (hr.mono (by decide)) (by rfl) T.g_ulaw_next T.F_ulaw_next.kp T.b_ulaw_next (fun σ => passAt (takes_of rfl rfl rfl rfl) σ) (pa_cons (pv 0) (pa_cons (pv 1) (pa_cons (pe_int) pa_nil)))) (fun _ _ => rfl)))
    (pss_cons (ps_set (i := 7) nd rfl (Or.inl rfl) (pe_lst (pa_cons (pe_tup (pa_cons (pe_int) (pa_cons (pv 2) (pa_cons (pe_tup (pa_cons (pe_int) (pa_cons (pe_int) pa_nil))) (pa_cons (pe_tup (pa_cons (pe_str) (pa_cons (pe_int) pa_nil))) pa_nil))))) (pa_cons (pe_tup (pa_cons (pe_int) (pa_cons (pv 2) (pa_cons (pe_tup (pa_cons (pv 6) (pa_cons (pe_op (op_addUK K) (pv 2) (pe_int)) pa_nil))) (pa_cons (pe_tup (pa_cons (pe_str) (pa_cons (pv 6) pa_nil))) pa_nil))))) pa_nil))))
    (pss_cons (ps_expr (pe_bmK K PySem.F.plainAttrs_list PySem.F.slot_list_append PySem.F.type_list_append mt_append (pv 7) (pa_cons (pe_tup (pa_cons (pe_int) (pa_cons (pv 2) (pa_cons (pe_tup (pa_cons (pe_int) (pa_cons (pv 6) pa_nil))) (pa_cons (pe_tup (pa_cons (pe_str) (pa_cons (pv 6) pa_nil))) pa_nil))))) pa_nil)))
    (pss_cons (ps_expr (pe_bmK K PySem.F.plainAttrs_list PySem.F.slot_list_append PySem.F.type_list_append mt_append (pv 7) (pa_cons (pe_tup (pa_cons (pe_int) (pa_cons (pv 2) (pa_cons (pe_tup (pa_cons (pe_int) (pa_cons (pv 6) pa_nil))) (pa_cons (pe_tup (pa_cons (pe_str) (pa_cons (pv 6) pa_nil))) pa_nil))))) pa_nil)))
    (pss_cons (ps_expr (pe_bmK K PySem.F.plainAttrs_list PySem.F.slot_list_append PySem.F.type_list_append mt_append (pv 7) (pa_cons (pe_tup (pa_cons (pe_int) (pa_cons (pv 4) (pa_cons (pe_tup (pa_cons (pe_int) (pa_cons (pe_int) pa_nil))) (pa_cons (pe_tup (pa_cons (pe_str) (pa_cons (pv 4) pa_nil))) pa_nil))))) pa_nil)))
    (pss_cons (ps_expr (pe_bmK K PySem.F.plainAttrs_list PySem.F.slot_list_append PySem.F.type_list_append mt_append (pv 7) (pa_cons (pe_tup (pa_cons (pe_int) (pa_cons (pv 4) (pa_cons (pe_op op_sub (pe_int) (pe_int)) (pa_cons (pe_tup (pa_cons (pe_str) (pa_cons (pv 4) pa_nil))) pa_nil))))) pa_nil)))
    (pss_cons (ps_set (i := 5) nd rfl (Or.inl rfl) (pe_lst (pa_cons (pe_op (op_addUK K) (pv 2) (pe_int)) (pa_cons (pe_op op_sub (pe_int) (pe_int)) (pa_cons (pe_op (op_addUK K) (pe_op (op_addUK K) (pv 2) (pe_int)) (pe_callS G_ulaw_next (hr.mono (by decide)) (by rfl) T.g_ulaw_next T.F_ulaw_next.kp T.b_ulaw_next (fun σ => passAt (takes_of rfl rfl rfl rfl) σ) (pa_cons (pv 0) (pa_cons (pv 1) (pa_cons (pe_int) pa_nil))))) pa_nil)))))
    (pss_cons (ps_set (i := 8) nd rfl (Or.inl rfl) (pe_ix (ix_UK K) (pv 5) (pe_callS G_ulaw_next (hr.mono (by decide)) (by rfl) T.g_ulaw_next T.F_ulaw_next.kp T.b_ulaw_next (fun σ => passAt (takes_of rfl rfl rfl rfl) σ) (pa_cons (pv 0) (pa_cons (pv 1) (pa_cons (pe_int) pa_nil)))) (fun _ _ => rfl)))
    (pss_cons (ps_expr (pe_bmK K PySem.F.plainAttrs_list PySem.F.slot_list_append PySem.F.type_list_append mt_append (pv 7) (pa_cons (pe_tup (pa_cons (pe_int) (pa_cons (pv 2) (pa_cons (pv 8) (pa_cons (pe_tup (pa_cons (pe_str) (pa_cons (pv 8) pa_nil))) pa_nil))))) pa_nil)))
    (pss_cons (ps_expr (pe_bmK K PySem.F.plainAttrs_list PySem.F.slot_list_append PySem.F.type_list_append mt_append (pv 7) (pa_cons (pe_tup (pa_cons (pe_int) (pa_cons (pv 4) (pa_cons (pe_int) (pa_cons (pe_tup (pa_cons (pe_str) (pa_cons (pv 4) pa_nil))) pa_nil))))) pa_nil)))
    (pss_cons (ps_set (i := 9) nd rfl (Or.inl rfl) (pe_callS G_ulaw_upward (hr.mono (by decide)) (by rfl) T.g_ulaw_upward T.F_ulaw_upward.kp T.b_ulaw_upward (fun σ => passAt (takes_of rfl rfl rfl rfl) σ) (pa_cons (pe_op (op_addUK K) (pe_int) (pe_op op_mulU (pe_int) (pe_callS G_ulaw_next (hr.mono (by decide)) (by rfl) T.g_ulaw_next T.F_ulaw_next.kp T.b_ulaw_next (fun σ => passAt (takes_of rfl rfl rfl rfl) σ) (pa_cons (pv 0) (pa_cons (pv 1) (pa_cons (pe_int) pa_nil)))))) pa_nil)))
    (pss_cons (ps_expr (pe_bmK K PySem.F.plainAttrs_list PySem.F.slot_list_append PySem.F.type_list_append mt_append (pv 7) (pa_cons (pe_tup (pa_cons (pe_int) (pa_cons (pv 9) (pa_cons (pe_int) (pa_cons (pe_tup (pa_cons (pe_str) (pa_cons (pv 9) pa_nil))) pa_nil))))) pa_nil)))
    (pss_cons (ps_for (passes_of rfl) rfl (pi_UK K (pv 7)) (pg_tupK K 4 rfl (pgs_cons (pg_name (i := 10) nd rfl (Or.inl rfl)) (pgs_cons (pg_name (i := 11) nd rfl (Or.inl rfl)) (pgs_cons (pg_name (i := 12) nd rfl (Or.inl rfl)) (pgs_cons (pg_name (i := 13) nd rfl (Or.inl rfl)) pgs_nil)))))
    (pss_one (ps_if (pt_cmpR (op_neUK K hr) (pe_callS G_ulaw_asked (hr.mono (by decide)) (by rfl) T.g_ulaw_asked T.F_ulaw_asked.kp T.b_ulaw_asked (fun σ => passAt (takes_of rfl rfl rfl rfl) σ) (pa_cons (pv 10) (pa_cons (pv 11) (pa_cons (pv 12) pa_nil)))) (pe_tup (pa_cons (pe_str) (pa_cons (pe_lst (pa_cons (pv 13) pa_nil)) pa_nil))) (by first | exact nomark _ | rfl)) (pss_one (ps_ret (pe_bl))) pss_nil)))
    (pss_cons (ps_if (pt_cmpR (op_neUK K hr) (pe_callS G_ulaw_asked (hr.mono (by decide)) (by rfl) T.g_ulaw_asked T.F_ulaw_asked.kp T.b_ulaw_asked (fun σ => passAt (takes_of rfl rfl rfl rfl) σ) (pa_cons (pe_int) (pa_cons (pv 9) (pa_cons (pe_tup (pa_cons (pe_int) (pa_cons (pe_int) pa_nil))) pa_nil)))) (pe_tup (pa_cons (pe_str) (pa_cons (pv 9) pa_nil))) (by first | exact nomark _ | rfl)) (pss_one (ps_ret (pe_bl))) pss_nil)
    (pss_one (ps_ret (pe_cmpR (op_eqUK K hr) (pe_callS G_ulaw_asked (hr.mono (by decide)) (by rfl) T.g_ulaw_asked T.F_ulaw_asked.kp T.b_ulaw_asked (fun σ => passAt (takes_of rfl rfl rfl rfl) σ) (pa_cons (pe_int) (pa_cons (pv 9) (pa_cons (pv 9) pa_nil)))) (pe_tup (pa_cons (pe_str) (pa_cons (pe_tup (pa_cons (pe_int) (pa_cons (pe_int) pa_nil))) pa_nil))) (by first | exact nomark _ | rfl))))))))))))))))))))), ?_⟩
  obtain ⟨c, a, p, rfl, hD, hp, h9, k⟩ := h
  have hp3 := (isP_nat hp).2
  have hpp : 0 ≤ p ∧ p ≤ 997 ∧ isP p = true := ⟨by omega, h9, hp⟩
  walk_at "rd"
  rename_i od H1 nod s1 eod
  refine ⟨c, a, 15, rfl, s1.draw hD, by omega, fun n n0 n1 => ?_⟩
  have hod : H1 od = some (.lst (odd15.map V.int)) := eod
  obtain ⟨low, hlow⟩ : ∃ low, odd15[n.toNat]? = some low := ⟨_, List.getElem?_eq_getElem (show n.toNat < 15 by omega)⟩
  have hlno := odd15_no low (List.mem_of_getElem? hlow)
  refine rIxU_l (SqL.of hod) (at_int (n := n.toNat) (by omega) hlow) ?_
  walk_at "rd"
  refine ⟨c, a, 99, rfl, s1.draw hD, by omega, fun n2 n20 n21 => ?_⟩
  walk_at "rd"
  rename_i wr H2 nwr s2 ewr
  have hwr : H2 wr = some (.lst ([p, 0 - 1, p + 1 + n2, 0 - 5].map V.int)) := ewr
  refine ⟨c, a, 4, rfl, (s1.trans s2).draw hD, by omega, fun n3 n30 n31 => ?_⟩
  obtain ⟨bad, hbad⟩ : ∃ bad, [p, 0 - 1, p + 1 + n2, 0 - 5][n3.toNat]? = some bad := ⟨_, List.getElem?_eq_getElem (show n3.toNat < 4 by omega)⟩
  have hbno : ¬ (0 ≤ bad ∧ bad < p) := by
    have hm := List.mem_of_getElem? hbad
    simp only [List.mem_cons, List.not_mem_nil, or_false] at hm
    omega
  refine rIxU_l (SqL.of hwr) (at_int (n := n3.toNat) (by omega) hbad) ?_
  walk_at "rd"
  rename_i a1 G1 na1 t1 f1 a2 G2 na2 t2 f2 a3 G3 na3 t3 f3 b1 G4 nb1 t4 f4 b2 G5 nb2 t5 f5 b3 G6 nb3 t6 f6 l G7 nl t7 fl x1 I1 nx1 u1 g1 x2 I2 nx2 u2 g2 x3 I3 nx3 u3 g3
  have hA : AskL K t.c_NumberError t.c_ZeroVector (del G7 l) [.ref a3, .ref b3] := by
    have sd : Same G6 (del G7 l) := t7.todel nl
    refine ⟨by simp, fun v hv => ?_⟩
    simp only [List.mem_cons, List.not_mem_nil, or_false] at hv
    rcases hv with rfl | rfl
    · exact AskV.same sd (ask0 (t6 _ _ (t5 _ _ (t4 _ _ f3))) (t6 _ _ (t5 _ _ (t4 _ _ (t3 _ _ (t2 _ _ f1))))) (t6 _ _ (t5 _ _ (t4 _ _ (t3 _ _ f2)))) (by rw [pt_zero hpp (by omega)]; rfl) (by decide +kernel))
    · exact AskV.same sd (ask0 f6 (t6 _ _ (t5 _ _ f4)) (t6 _ _ f5) (by rw [pt_bad0 hpp hbno]; rfl) (by decide +kernel))
  have sH : Same H G7 := s1.trans (s2.trans (t1.trans (t2.trans (t3.trans (t4.trans (t5.trans (t6.trans t7)))))))
  have nlH : H l = none := (s1.trans (s2.trans (t1.trans (t2.trans (t3.trans (t4.trans (t5.trans t6))))))).free nl
  clear na1 t1 f1 na2 t2 f2 na3 t3 f3 nb1 t4 f4 nb2 t5 f5 nb3 t6 f6 t7
  have q2 : outD (oPoint t.c_NumberError t.c_ZeroVector p 0 bad) = .tuple [.str "refused", .list [.tuple [.str "number", .int bad]]] := by rw [pt_bad1 hpp (by omega) hbno]; rfl
  have q3 : outD (oPoint t.c_NumberError t.c_ZeroVector p 1 bad) = .tuple [.str "refused", .list [.tuple [.str "number", .int bad]]] := by rw [pt_bad1 hpp (by omega) hbno]; rfl
  have q4 : outD (oPoint t.c_NumberError t.c_ZeroVector low 0 0) = .tuple [.str "refused", .list [.tuple [.str "number", .int low]]] := by rw [pt_badp hlno]; rfl
  have q5 : outD (oVector t.c_NumberError low (0 - 1)) = .tuple [.str "refused", .list [.tuple [.str "number", .int low]]] := by rw [vc_badp hlno]; rfl
  have cn : (PyData.str "number").canLay0 = true := by decide +kernel
  have fl3 := u3 _ _ (u2 _ _ (u1 _ _ fl))
  refine append_i fl3 (Nat.lt_of_le_of_lt (show _ ≤ 20 from hA.1) (by decide)) fun J1 ch el1 sx => ?_
  have hA1 := AskL.app (u1.trans (u2.trans u3)).del hA (by simp) (ask0 (C := t.c_NumberError) (Z := t.c_ZeroVector) (del_new g3 nx3 (u2 _ _ (u1 _ _ fl))) (u3.del _ _ (u2.del _ _ (del_new g1 nx1 fl))) (u3.del _ _ (del_new g2 nx2 (u1 _ _ fl))) q2 (by decide +kernel))
  rw [← sx.2] at hA1
  have sJ1 := sx.1 _ (sH.trans (u1.trans (u2.trans u3))) nlH
  clear nx1 u1 g1 nx2 u2 g2 nx3 u3 g3 fl3 ch sx
  walk_at "rd"
  rename_i x1 I1 nx1 u1 g1 x2 I2 nx2 u2 g2 x3 I3 nx3 u3 g3
  have fl3 := u3 _ _ (u2 _ _ (u1 _ _ el1))
  refine append_i fl3 (Nat.lt_of_le_of_lt (show _ ≤ 20 from hA1.1) (by decide)) fun J2 ch el2 sx => ?_
  have hA2 := AskL.app (u1.trans (u2.trans u3)).del hA1 (by simp) (ask0 (C := t.c_NumberError) (Z := t.c_ZeroVector) (del_new g3 nx3 (u2 _ _ (u1 _ _ el1))) (u3.del _ _ (u2.del _ _ (del_new g1 nx1 el1))) (u3.del _ _ (del_new g2 nx2 (u1 _ _ el1))) q3 (by decide +kernel))
  rw [← sx.2] at hA2
  have sJ2 := sx.1 _ (sJ1.trans (u1.trans (u2.trans u3))) nlH
  clear nx1 u1 g1 nx2 u2 g2 nx3 u3 g3 fl3 ch sx
  walk_at "rd"
  rename_i x1 I1 nx1 u1 g1 x2 I2 nx2 u2 g2 x3 I3 nx3 u3 g3
  have fl3 := u3 _ _ (u2 _ _ (u1 _ _ el2))
  refine append_i fl3 (Nat.lt_of_le_of_lt (show _ ≤ 20 from hA2.1) (by decide)) fun J3 ch el3 sx => ?_
  have hA3 := AskL.app (u1.trans (u2.trans u3)).del hA2 (by simp) (ask0 (C := t.c_NumberError) (Z := t.c_ZeroVector) (del_new g3 nx3 (u2 _ _ (u1 _ _ el2))) (u3.del _ _ (u2.del _ _ (del_new g1 nx1 el2))) (u3.del _ _ (del_new g2 nx2 (u1 _ _ el2))) q4 (by decide +kernel))
  rw [← sx.2] at hA3
  have sJ3 := sx.1 _ (sJ2.trans (u1.trans (u2.trans u3))) nlH
  clear nx1 u1 g1 nx2 u2 g2 nx3 u3 g3 fl3 ch sx
  walk_at "rd"
  rename_i x1 I1 nx1 u1 g1 x2 I2 nx2 u2 g2
  have fl3 := u2 _ _ (u1 _ _ el3)
  refine append_i fl3 (Nat.lt_of_le_of_lt (show _ ≤ 20 from hA3.1) (by decide)) fun J4 ch el4 sx => ?_
  have hA4 := AskL.app (u1.trans u2).del hA3 (by simp) (ask1 (C := t.c_NumberError) (Z := t.c_ZeroVector) (del_new g2 nx2 (u1 _ _ el3)) (u2.del _ _ (del_new g1 nx1 el3)) q5 cn)
  rw [← sx.2] at hA4
  have sJ4 := sx.1 _ (sJ3.trans (u1.trans u2)) nlH
  clear nx1 u1 g1 nx2 u2 g2 fl3 ch sx
  walk_at "rd"
  refine ⟨c, a, 99, rfl, sJ4.draw hD, by omega, fun n4 n40 n41 => ?_⟩
  walk_at "rd"
  rename_i wr2 J5 nwr2 s5 ewr2
  have hwr2 : J5 wr2 = some (.lst ([p + 1, 0 - 1, p + 1 + n4].map V.int)) := ewr2
  refine ⟨c, a, 3, rfl, (sJ4.trans s5).draw hD, by omega, fun n5 n50 n51 => ?_⟩
  obtain ⟨high, hhigh⟩ : ∃ high, [p + 1, 0 - 1, p + 1 + n4][n5.toNat]? = some high := ⟨_, List.getElem?_eq_getElem (show n5.toNat < 3 by omega)⟩
  have hhno : ¬ (0 ≤ high ∧ high ≤ p) := by
    have hm := List.mem_of_getElem? hhigh
    simp only [List.mem_cons, List.not_mem_nil, or_false] at hm
    omega
  refine rIxU_l (SqL.of hwr2) (at_int (n := n5.toNat) (by omega) hhigh) ?_
  walk_at "rd"
  have q6 : outD (oVector t.c_NumberError p high) = .tuple [.str "refused", .list [.tuple [.str "number", .int high]]] := by rw [vc_bad hpp hhno]; rfl
  have q7 : ¬ (3 ≤ low ∧ low ≤ 23 ∧ isP low = true) := fun z => hlno ⟨by omega, by omega, z.2.2⟩
  have el5 := s5 _ _ el4
  have hA5 := AskL.same s5.del hA4
  have sJ5 := sJ4.trans s5
  rename_i x1 I1 nx1 u1 g1 x2 I2 nx2 u2 g2
  have fl3 := u2 _ _ (u1 _ _ el5)
  refine append_i fl3 (Nat.lt_of_le_of_lt (show _ ≤ 20 from hA5.1) (by decide)) fun J6 ch el6 sx => ?_
  have hA6 := AskL.app (u1.trans u2).del hA5 (by simp) (ask1 (C := t.c_NumberError) (Z := t.c_ZeroVector) (del_new g2 nx2 (u1 _ _ el5)) (u2.del _ _ (del_new g1 nx1 el5)) q6 cn)
  rw [← sx.2] at hA6
  have sJ6 := sx.1 _ (sJ5.trans (u1.trans u2)) nlH
  clear nx1 u1 g1 nx2 u2 g2 fl3 ch sx
  walk_at "rd"
  rename_i x1 I1 nx1 u1 g1 x2 I2 nx2 u2 g2
  have fl3 := u2 _ _ (u1 _ _ el6)
  refine append_i fl3 (Nat.lt_of_le_of_lt (show _ ≤ 20 from hA6.1) (by decide)) fun J7 ch el7 sx => ?_
  have hA7 := AskL.app (u1.trans u2).del hA6 (by simp) (ask2 (C := t.c_NumberError) (Z := t.c_ZeroVector) (del_new g2 nx2 (u1 _ _ el6)) (u2.del _ _ (del_new g1 nx1 el6)) q7)
  rw [← sx.2] at hA7
  have sJ7 := sx.1 _ (sJ6.trans (u1.trans u2)) nlH
  clear nx1 u1 g1 nx2 u2 g2 fl3 ch sx
  walk_at "rd"
  refine ⟨c, a, 485, rfl, sJ7.draw hD, by omega, fun n6 n60 n61 => ?_⟩
  walk_at "rd"
  refine ⟨29 + 2 * n6, rfl, by omega, by omega, fun J8 s8 => ?_⟩
  obtain ⟨hup, hup1, hup2⟩ := up_ok (p := 29 + 2 * n6) (by omega) (by omega) (by omega)
  generalize upF 12 (29 + 2 * n6) = wide at hup hup1 hup2
  have hw3 : 29 ≤ wide := by omega
  have el8 := s8 _ _ el7
  have hA8 := AskL.same s8.del hA7
  have sJ8 := sJ7.trans s8
  walk_at "rd"
  rename_i x1 I1 nx1 u1 g1 x2 I2 nx2 u2 g2
  have fl3 := u2 _ _ (u1 _ _ el8)
  refine append_i fl3 (Nat.lt_of_le_of_lt (show _ ≤ 20 from hA8.1) (by decide)) fun J9 ch el9 sx => ?_
  have hA9 := AskL.app (u1.trans u2).del hA8 (by simp) (ask2 (C := t.c_NumberError) (Z := t.c_ZeroVector) (del_new g2 nx2 (u1 _ _ el8)) (u2.del _ _ (del_new g1 nx1 el8)) (by omega))
  rw [← sx.2] at hA9
  have sJ9 := sx.1 _ (sJ8.trans (u1.trans u2)) nlH
  clear nx1 u1 g1 nx2 u2 g2 fl3 ch sx
  walk_at "rd"
  refine tFor_i (wL ?_)
  walk_at "rd"
  refine WL_i _ (SqL.of el9) ?_
  refine forS srcL (fun i σ H' => ∃ v0 v1 v2 v3 v4 v5 v6 v7 v8 v9 v10 : Option V, σ = [some (.ref c), some (.ref a), some (.int p), v0, v1, v2, v3, v4, v5, some (.int wide), v6, v7, v8, v9] ∧ Same J9 H') ⟨_, _, _, _, _, _, _, _, _, _, none, rfl, Same.refl _⟩ (fun i σ H' _ ⟨_, _, _, _, _, _, _, _, _, _, _, _, s⟩ => SqL.of (s _ _ el9)) ?_ ?_
  · rintro i σ H3 x H4 hi ⟨v0, v1, v2, v3, v4, v5, v6, v7, v8, v9, v10, rfl, s3⟩ ⟨rfl, hx⟩
    obtain ⟨r, du, w, q, n, x, z, o, rfl, hr1, hr2, hr3, hr4, hr5⟩ := ((hA9.2 _ (List.mem_of_getElem? hx)).same Same.undel).same s3
    walk_at "rd"
    refine ⟨w, q, x, o, rfl, hr2, fun H5 r5 s5 d5 => ?_⟩
    walk_at "rd"
    rename_i l6 H6 n6 s6 e6 r7 H7 n7 s7 e7
    have hd : Dp K H7 (.ref r7) (outD o) := by
      rw [hr4]
      exact .tup (SqT.of e7) (.cons (.str _) (.cons (.lst (SqL.of (s7 _ _ e6)) (.cons (.tup ((s5.trans (s6.trans s7)).seqT hr3) (.cons (.str _) (.cons (.int _) .nil))) .nil)) .nil))
    have hsh : Sh 5 (outD o) := by
      rw [hr4]
      exact sh_tup (shA_cons (sh_str (by decide +kernel)) (shA_cons (sh_lst (shA_cons (sh_tup (shA_cons (sh_str hr5) (shA_cons sh_int shA_nil))) shA_nil)) shA_nil))
    refine neD_i ((s6.trans s7).dp d5) hd hsh.shaped hsh.shaped ?_
    rw [eqv_self hsh]
    walk_at "rd"
    exact ⟨_, _, _, _, _, _, _, _, _, _, none, rfl, s3.trans (s5.trans (s6.trans s7))⟩
  · rintro σ H3 ⟨v0, v1, v2, v3, v4, v5, v6, v7, v8, v9, v10, rfl, s3⟩
    walk_at "rd"
    rename_i p1 H4 n4 s4 e4
    have ho : oPoint t.c_NumberError t.c_ZeroVector wide 0 2 = .ret (.int wide) := by
      unfold oPoint
      rw [if_pos ⟨by omega, by omega, hup⟩, if_pos (by omega), if_pos (by omega), if_neg (by simp), if_neg (by omega)]
    refine ⟨0, wide, _, _, rfl, .inl ⟨rfl, 0, 2, p1, rfl, SqT.of e4, rfl⟩, fun H5 r5 s5 d5 => ?_⟩
    rw [ho] at d5
    replace d5 : Dp K H5 (.ref r5) (.tuple [.str "told", .int wide]) := d5
    walk_at "rd"
    rename_i r6 H6 n6 s6 e6
    have hsh : Sh 5 (.tuple [.str "told", .int wide]) := sh_tup (shA_cons (sh_str (by decide +kernel)) (shA_cons sh_int shA_nil))
    refine neD_i (s6.dp d5) (.tup (SqT.of e6) (.cons (.str _) (.cons (.int _) .nil))) hsh.shaped hsh.shaped ?_
    rw [eqv_self hsh]
    walk_at "rd"
    have ho2 : oVector t.c_NumberError wide wide = .tup [.int 0, .int 1] := by
      unfold oVector
      rw [if_pos ⟨by omega, by omega, hup⟩, if_pos (by omega), if_pos rfl]
    refine ⟨1, wide, _, _, rfl, .inr (.inl ⟨rfl, wide, rfl, rfl⟩), fun H7 r7 s7 d7 => ?_⟩
    rw [ho2] at d7
    replace d7 : Dp K H7 (.ref r7) (.tuple [.str "told", .tuple [.int 0, .int 1]]) := d7
    walk_at "rd"
    rename_i q8 H8 n8 s8 e8 q9 H9 n9 s9 e9
    have hsh2 : Sh 5 (.tuple [.str "told", .tuple [.int 0, .int 1]]) := sh_tup (shA_cons (sh_str (by decide +kernel)) (shA_cons (sh_tup (shA_cons sh_int (shA_cons sh_int shA_nil))) shA_nil))
    refine eqD_i ((s8.trans s9).dp d7) (.tup (SqT.of e9) (.cons (.str _) (.cons (.tup (SqT.of (s9 _ _ e8)) (.cons (.int _) (.cons (.int _) .nil))) .nil))) hsh2.shaped hsh2.shaped ?_
    rw [eqv_self hsh2]
    exact k _ (sJ9.trans (s3.trans (s4.trans (s5.trans (s6.trans (s7.trans (s8.trans s9)))))))
def menu12 : List Int := [3, 5, 7, 11, 13, 17, 19, 23, 0, 0, 0, 997]
def menu8 : List Int := [3, 5, 7, 11, 13, 17, 19, 23]
theorem menu12_ok : ∀ z ∈ menu12, z = 0 ∨ (isP z = true ∧ z ≤ 997) := by decide +kernel
theorem menu8_ok : ∀ z ∈ menu8, isP z = true ∧ 3 ≤ z ∧ z ≤ 23 ∧ ((frD z.toNat (z.toNat + 1)).length : Int) = z * (z + 1) / 2 := by decide +kernel
theorem frD_sh (p : Nat) : ∀ n, ShA 3 (frD p n) := fun n => shA_all fun d hd => by
  unfold frD frRow at hd
  obtain ⟨j, _, hd⟩ := List.mem_flatMap.mp hd
  obtain ⟨k, _, rfl⟩ := List.mem_map.mp hd
  exact sh_tup (shA_cons sh_int (shA_cons sh_int shA_nil))
theorem frD_pairs (p n : Nat) : ∃ L : List (Int × Int), frD p n = L.map pairD := by
  refine ⟨(List.range n).flatMap fun (j : Nat) => (List.range (p - j)).map fun (k : Nat) => ((j : Int), ((j + 1 + k : Nat) : Int)), ?_⟩
  unfold frD frRow
  rw [List.map_flatMap]
  congr 1
  funext j
  rw [List.map_map]
  rfl
theorem inv_one {p : Int} (hp : isP p = true) : inv p 1 = 1 := by
  have h3 := (isP_nat hp).2
  refine inv_eq (by omega) ?_
  rw [Int.mul_one]
  exact Int.emod_eq_of_lt (by omega) (by omega)
theorem point_vector {C Z : Addr} {p k : Int} (hp : 0 ≤ p ∧ p ≤ 997 ∧ isP p = true) (hk : 0 ≤ k ∧ k ≤ p) (h : k ≠ p) : oPoint C Z p 1 k = .ret (.int k) := by
  have h3 := (isP_nat hp.2.2).2
  unfold oPoint
  rw [if_pos hp, if_pos (by omega), if_pos (by omega), if_pos (by simp), inv_one hp.2.2, Int.mul_one, Int.emod_eq_of_lt (by omega) (by omega)]
theorem point_vector_top {C Z : Addr} {p : Int} (hp : 0 ≤ p ∧ p ≤ 997 ∧ isP p = true) : oPoint C Z p 0 1 = .ret (.int p) := by
  have h3 := (isP_nat hp.2.2).2
  unfold oPoint
  rw [if_pos hp, if_pos (by omega), if_pos (by omega), if_neg (by simp), if_neg (by simp)]
def sp_law (K : PySem.W.Frag) (_ : Tab) : Sp := spLaw K
theorem len_law : ∀ vs H Q E, sp_law K t vs H Q E → vs.length = (["script"] : List Str).length := by
  rintro vs H Q E ⟨_, _, rfl, _⟩
  rfl
theorem ok_law (T : Txt K mg t) : FnOk P w K mg base (L2.CX P w) 10 t.a_law t.fd_law ["script"] (sp_law K t) := by
  have G_frames := ok_frames (P := P) (w := w) (base := base) T
  have G_point_of := ok_point_of (P := P) (w := w) (base := base) T
  have G_point_vector := ok_point_vector (P := P) (w := w) (base := base) T
  have G_ulaw_draws := ok_ulaw_draws (P := P) (w := w) (base := base) T
  have G_ulaw_frames := ok_ulaw_frames (P := P) (w := w) (base := base) T
  have G_ulaw_next := ok_ulaw_next (P := P) (w := w) (base := base) T
  have G_ulaw_pairs := ok_ulaw_pairs (P := P) (w := w) (base := base) T
  have G_ulaw_point := ok_ulaw_point (P := P) (w := w) (base := base) T
  have G_ulaw_refused := ok_ulaw_refused (P := P) (w := w) (base := base) T
  have G_ulaw_upward := ok_ulaw_upward (P := P) (w := w) (base := base) T
  have G_ulaw_vectors := ok_ulaw_vectors (P := P) (w := w) (base := base) T
  have G_ulaw_whole := ok_ulaw_whole (P := P) (w := w) (base := base) T
  refine T.F_law.okX sc_law (len_law) (fun cdv A outer s H vs Q E hr h => ?_)
  have nd := sc_law.nd
  refine ⟨_, (pss_cons (ps_set (i := 1) nd rfl (Or.inl rfl) (pe_callS G_ulaw_draws (hr.mono (by decide)) (by rfl) T.g_ulaw_draws T.F_ulaw_draws.kp T.b_ulaw_draws (fun σ => passAt (takes_of rfl rfl rfl rfl) σ) (pa_cons (pv 0) (pa_cons (pe_int) pa_nil))))
    (pss_cons (ps_set (i := 2) nd rfl (Or.inl rfl) (pe_cell))
    (pss_cons (ps_set (i := 3) nd rfl (Or.inl rfl) (pe_ix (ix_UK K) (pe_lst (pa_cons (pe_int) (pa_cons (pe_int) (pa_cons (pe_int) (pa_cons (pe_int) (pa_cons (pe_int) (pa_cons (pe_int) (pa_cons (pe_int) (pa_cons (pe_int) (pa_cons (pe_int) (pa_cons (pe_int) (pa_cons (pe_int) (pa_cons (pe_int) pa_nil))))))))))))) (pe_callS G_ulaw_next (hr.mono (by decide)) (by rfl) T.g_ulaw_next T.F_ulaw_next.kp T.b_ulaw_next (fun σ => passAt (takes_of rfl rfl rfl rfl) σ) (pa_cons (pv 1) (pa_cons (pv 2) (pa_cons (pe_int) pa_nil)))) (fun _ _ => rfl)))
    (pss_cut (ps_if (pt_cmpR (op_eqUK K hr) (pv 3) (pe_int) (by first | exact nomark _ | rfl)) (pss_one (ps_set (i := 3) nd rfl (Or.inl rfl) (pe_callS G_ulaw_upward (hr.mono (by decide)) (by rfl) T.g_ulaw_upward T.F_ulaw_upward.kp T.b_ulaw_upward (fun σ => passAt (takes_of rfl rfl rfl rfl) σ) (pa_cons (pe_op (op_addUK K) (pe_int) (pe_op op_mulU (pe_int) (pe_callS G_ulaw_next (hr.mono (by decide)) (by rfl) T.g_ulaw_next T.F_ulaw_next.kp T.b_ulaw_next (fun σ => passAt (takes_of rfl rfl rfl rfl) σ) (pa_cons (pv 1) (pa_cons (pv 2) (pa_cons (pe_int) pa_nil)))))) pa_nil)))) pss_nil)
    (pss_cons (ps_for (passes_of rfl) rfl (pi_UK K (pe_callS G_ulaw_vectors (hr.mono (by decide)) (by rfl) T.g_ulaw_vectors T.F_ulaw_vectors.kp T.b_ulaw_vectors (fun σ => passAt (takes_of rfl rfl rfl rfl) σ) (pa_cons (pv 1) (pa_cons (pv 2) (pa_cons (pv 3) pa_nil))))) (pg_name (i := 4) nd rfl (Or.inl rfl))
    (pss_cons (ps_set (i := 5) nd rfl (Or.inl rfl) (pe_callS G_point_of (hr.mono (by decide)) (by rfl) T.g_point_of T.F_point_of.kp T.b_point_of (fun σ => passAt (takes_of rfl rfl rfl rfl) σ) (pa_cons (pv 3) (pa_cons (pv 4) pa_nil))))
    (pss_one (ps_if (PW.pt (pw_or (pt_not (pt_truthK K (pe_callS G_ulaw_whole (hr.mono (by decide)) (by rfl) T.g_ulaw_whole T.F_ulaw_whole.kp T.b_ulaw_whole (fun σ => passAt (takes_of rfl rfl rfl rfl) σ) (pa_cons (pv 5) pa_nil)))) (pw_or1 (pt_cmpR (op_neUK K hr) (pv 5) (pe_callS G_ulaw_point (hr.mono (by decide)) (by rfl) T.g_ulaw_point T.F_ulaw_point.kp T.b_ulaw_point (fun σ => passAt (takes_of rfl rfl rfl rfl) σ) (pa_cons (pv 3) (pa_cons (pv 4) pa_nil))) (by first | exact nomark _ | rfl))))) (pss_one (ps_ret (pe_bl))) pss_nil))))
    (pss_cons (ps_set (i := 6) nd rfl (Or.inl rfl) (pe_listRg rfl (by rfl) T.n_list (prg_1 (by rfl) T.n_range (pe_op (op_addUK K) (pv 3) (pe_int)))))
    (pss_cut (ps_if (pt_cmpR op_gt (pv 3) (pe_int) (by first | exact nomark _ | rfl)) (pss_one (ps_set (i := 6) nd rfl (Or.inl rfl) (pe_lst (pa_cons (pe_int) (pa_cons (pe_int) (pa_cons (pe_op op_sub (pv 3) (pe_int)) (pa_cons (pv 3) (pa_cons (pe_callS G_ulaw_next (hr.mono (by decide)) (by rfl) T.g_ulaw_next T.F_ulaw_next.kp T.b_ulaw_next (fun σ => passAt (takes_of rfl rfl rfl rfl) σ) (pa_cons (pv 1) (pa_cons (pv 2) (pa_cons (pv 3) pa_nil)))) pa_nil)))))))) pss_nil)
    (pss_cons (ps_for (passes_of rfl) rfl (pi_UK K (pv 6)) (pg_name (i := 7) nd rfl (Or.inl rfl))
    (pss_cons (ps_set (i := 5) nd rfl (Or.inl rfl) (pe_callK0 G_point_vector (hr.mono (by decide)) (by rfl) T.g_point_vector T.F_point_vector.kp T.kb_point_vector_0_point_prime passL  (pk_cons (pv 7) (pk_cons (pv 3) pk_nil))))
    (pss_cons (ps_set (i := 8) nd rfl (Or.inl rfl) (pe_ifExp (pt_cmpR (op_eqUK K hr) (pv 7) (pv 3) (by first | exact nomark _ | rfl)) (pe_tup (pa_cons (pe_int) (pa_cons (pe_int) pa_nil))) (pe_tup (pa_cons (pe_int) (pa_cons (pv 7) pa_nil)))))
    (pss_cons (ps_if (PW.pt (pw_or (pt_not (pt_truthK K (pe_callS G_ulaw_pairs (hr.mono (by decide)) (by rfl) T.g_ulaw_pairs T.F_ulaw_pairs.kp T.b_ulaw_pairs (fun σ => passAt (takes_of rfl rfl rfl rfl) σ) (pa_cons (pe_lst (pa_cons (pv 5) pa_nil)) pa_nil)))) (pw_or1 (pt_cmpR (op_neUK K hr) (pv 5) (pv 8) (by first | exact nomark _ | rfl))))) (pss_one (ps_ret (pe_bl))) pss_nil)
    (pss_one (ps_if (pt_cmpR (op_neUK K hr) (pe_callK0 G_point_of (hr.mono (by decide)) (by rfl) T.g_point_of T.F_point_of.kp T.kb_point_of_0_vector_prime passL  (pk_cons (pv 5) (pk_cons (pv 3) pk_nil))) (pv 7) (by first | exact nomark _ | rfl)) (pss_one (ps_ret (pe_bl))) pss_nil))))))
    (pss_cons (ps_set (i := 9) nd rfl (Or.inl rfl) (pe_ix (ix_UK K) (pe_lst (pa_cons (pe_int) (pa_cons (pe_int) (pa_cons (pe_int) (pa_cons (pe_int) (pa_cons (pe_int) (pa_cons (pe_int) (pa_cons (pe_int) (pa_cons (pe_int) pa_nil))))))))) (pe_callS G_ulaw_next (hr.mono (by decide)) (by rfl) T.g_ulaw_next T.F_ulaw_next.kp T.b_ulaw_next (fun σ => passAt (takes_of rfl rfl rfl rfl) σ) (pa_cons (pv 1) (pa_cons (pv 2) (pa_cons (pe_int) pa_nil)))) (fun _ _ => rfl)))
    (pss_cons (ps_set (i := 8) nd rfl (Or.inl rfl) (pe_callS G_ulaw_frames (hr.mono (by decide)) (by rfl) T.g_ulaw_frames T.F_ulaw_frames.kp T.b_ulaw_frames (fun σ => passAt (takes_of rfl rfl rfl rfl) σ) (pa_cons (pv 9) pa_nil)))
    (pss_cons (ps_set (i := 5) nd rfl (Or.inl rfl) (pe_callS G_frames (hr.mono (by decide)) (by rfl) T.g_frames T.F_frames.kp T.b_frames (fun σ => passAt (takes_of rfl rfl rfl rfl) σ) (pa_cons (pv 9) pa_nil)))
    (pss_cons (ps_if (PW.pt (pw_or (pt_not (pt_truthK K (pe_callS G_ulaw_pairs (hr.mono (by decide)) (by rfl) T.g_ulaw_pairs T.F_ulaw_pairs.kp T.b_ulaw_pairs (fun σ => passAt (takes_of rfl rfl rfl rfl) σ) (pa_cons (pv 5) pa_nil)))) (pw_or (pt_cmpR (op_neUK K hr) (pv 5) (pv 8) (by first | exact nomark _ | rfl)) (pw_or1 (pt_cmpR (op_neUK K hr) (pe_callB (call_lenK K) (by rfl) T.n_len (by decide +kernel) (pa_cons (pv 8) pa_nil)) (pe_op op_fdivP (pe_op op_mulU (pv 9) (pe_op (op_addUK K) (pv 9) (pe_int))) (pe_int)) (by first | exact nomark _ | rfl)))))) (pss_one (ps_ret (pe_bl))) pss_nil)
    (pss_cons (ps_expr (pe_bmK K PySem.F.plainAttrs_list PySem.F.slot_list_append PySem.F.type_list_append mt_append (pv 5) (pa_cons (pe_tup (pa_cons (pe_int) (pa_cons (pe_int) pa_nil))) pa_nil)))
    (pss_cons (ps_asg (pe_tup (pa_cons (pe_int) (pa_cons (pe_int) pa_nil))) (pg_sub (pv 5) (pe_int) set_U))
    (pss_one (ps_ret (pe_and (pe_cmpR (op_eqUK K hr) (pe_callS G_frames (hr.mono (by decide)) (by rfl) T.g_frames T.F_frames.kp T.b_frames (fun σ => passAt (takes_of rfl rfl rfl rfl) σ) (pa_cons (pv 9) pa_nil)) (pv 8) (by first | exact nomark _ | rfl)) (pe_one (pe_callS G_ulaw_refused (hr.mono (by decide)) (by rfl) T.g_ulaw_refused T.F_ulaw_refused.kp T.b_ulaw_refused (fun σ => passAt (takes_of rfl rfl rfl rfl) σ) (pa_cons (pv 1) (pa_cons (pv 2) (pa_cons (pv 3) pa_nil)))))))))))))))))))))), ?_⟩
  obtain ⟨sc, ns, rfl, hS, hlen, k⟩ := h
  walk_at "rd"
  refine ⟨sc, ns, 80, rfl, hS, hlen, by omega, by omega, fun H1 c xs s1 nc ec hl hdg => ?_⟩
  walk_at "rd"
  rename_i a H2 na s2 ea m H3 nm s3 em
  have hD0 : Draw K H2 c a := ⟨⟨xs, s2.seq (SqL.of ec), by omega⟩, ea⟩
  have hD3 := s3.draw hD0
  refine ⟨c, a, 12, rfl, hD3, by omega, fun n n0 n1 => ?_⟩
  have hm : H3 m = some (.lst (menu12.map V.int)) := em
  obtain ⟨p0, hp0⟩ : ∃ p0, menu12[n.toNat]? = some p0 := ⟨_, List.getElem?_eq_getElem (show n.toNat < 12 by omega)⟩
  have hmk := menu12_ok p0 (List.mem_of_getElem? hp0)
  refine rIxU_l (SqL.of hm) (at_int (n := n.toNat) (by omega) hp0) ?_
  walk_at "rd"
  refine cut_i (fun σ H' => ∃ p : Int, σ = [some (.ref sc), some (.ref c), some (.ref a), some (.int p), none, none, none, none, none, none] ∧ isP p = true ∧ p ≤ 997 ∧ Draw K H' c a) ?_ ?_
  · walk_at "rd"
    refine Br_d (fun cz => ?_) (fun cz => ?_)
    · walk_at "rd"
      refine ⟨c, a, 498, rfl, hD3, by omega, fun n2 n20 n21 => ?_⟩
      walk_at "rd"
      refine ⟨3 + 2 * n2, rfl, by omega, by omega, fun H4 s4 => ?_⟩
      obtain ⟨hup, hup1, hup2⟩ := up_ok (p := 3 + 2 * n2) (by omega) (by omega) (by omega)
      walk_at "rd"
      exact ⟨_, rfl, hup, hup2, s4.draw hD3⟩
    · walk_at "rd"
      rcases hmk with e | ⟨e1, e2⟩
      · exact absurd e cz
      · exact ⟨_, rfl, e1, e2, hD3⟩
  rintro σ H4 ⟨p, rfl, hp, h9, hD4⟩
  have hp3 := (isP_nat hp).2
  have hpp : 0 ≤ p ∧ p ≤ 997 ∧ isP p = true := ⟨by omega, h9, hp⟩
  clear hm hmk hp0 em hD3 hD0 s3 ea s2
  walk_at "rd"
  -- the vectors
  refine tFor_i (wL ?_)
  walk_at "rd"
  refine ⟨c, a, p, rfl, hD4, hp3, h9, fun H5 q vs s5 nq eq hV => ?_⟩
  obtain ⟨L, hL, hLo, hLl⟩ := hV
  refine WL_i _ (SqL.of eq) ?_
  refine forS srcL (fun i σ H' => ∃ v4 v5 : Option V, σ = [some (.ref sc), some (.ref c), some (.ref a), some (.int p), v4, v5, none, none, none, none] ∧ Same H5 H') ⟨none, none, rfl, Same.refl _⟩ (fun i σ H' _ ⟨_, _, _, s⟩ => SqL.of (s _ _ eq)) ?_ ?_
  · rintro i σ H6 x H7 hi ⟨v4, v5, rfl, s6⟩ ⟨rfl, hx⟩
    obtain ⟨d, hd, hdp⟩ := DpAll.get hL hx
    obtain ⟨⟨va, vb⟩, hq, rfl⟩ : ∃ q : Int × Int, L[i]? = some q ∧ d = pairD q := by
      rw [List.getElem?_map] at hd
      cases e : L[i]? with
      | none => rw [e] at hd; cases hd
      | some q => rw [e] at hd; exact ⟨q, rfl, (Option.some.inj hd).symm⟩
    obtain ⟨o1, o2, o3, o4, o5⟩ := hLo _ (List.mem_of_getElem? hq)
    dsimp only at o1 o2 o3 o4 o5
    cases hdp with
    | @tup l ys ds hSq hAll =>
      have hys : ys = [.int va, .int vb] := DpAll.ints (xs := [va, vb]) hAll
      subst hys
      have hS6 := s6.seqT hSq
      walk_at "rd"
      refine ⟨p, va, vb, l, rfl, hS6, ?_⟩
      have ho : oPoint t.c_NumberError t.c_ZeroVector p va vb = .ret (.int (if va ≠ 0 then vb * inv p va % p else p)) := by
        unfold oPoint
        rw [if_pos hpp, if_pos ⟨o1, o2⟩, if_pos ⟨o3, o4⟩]
        by_cases cv : va ≠ 0
        · rw [if_pos cv, if_pos cv]
        · rw [if_neg cv, if_neg cv, if_neg (by omega)]
      refine gret ho fun H8 s8 => ?_
      walk_at "rd"
      refine ⟨_, rfl, ?_⟩
      walk_at "rd"
      refine ⟨p, va, vb, l, rfl, s8.seqT hS6, hp, h9, o1, o2, o3, o4, fun H9 s9 => ?_⟩
      walk_at "rd"
      refine Br_dt rfl ?_
      walk_at "rd"
      exact ⟨_, _, rfl, s6.trans (s8.trans s9)⟩
  rintro σ H6 ⟨v4, v5, rfl, s6⟩
  have hD6 := (s5.trans s6).draw hD4
  clear s5 nq eq hL hLo hLl s6
  walk_at "rd"
  refine rg1_i (by omega) fun q H7 nq s7 eq => ?_
  walk_at "rd"
  have hD7 := s7.draw hD6
  refine cut_i (fun σ H' => ∃ (q : Addr) (zs : List Int) (v4 v5 : Option V), σ = [some (.ref sc), some (.ref c), some (.ref a), some (.int p), v4, v5, some (.ref q), none, none, none] ∧ Draw K H' c a ∧ H' q = some (.lst (zs.map V.int)) ∧ ∀ z ∈ zs, 0 ≤ z ∧ z ≤ p) ?_ ?_
  · walk_at "rd"
    refine Br_d (fun cz => ?_) (fun cz => ?_)
    · walk_at "rd"
      refine ⟨c, a, p, rfl, hD7, by omega, fun n2 n20 n21 => ?_⟩
      walk_at "rd"
      rename_i q2 H8 nq2 s8 e8
      refine ⟨q2, [0, 1, p - 1, p, n2], _, _, rfl, s8.draw hD7, e8, fun z hz => ?_⟩
      simp only [List.mem_cons, List.not_mem_nil, or_false] at hz
      omega
    · walk_at "rd"
      refine ⟨q, (List.range (p + 1 - 0).toNat).map fun (i : Nat) => 0 + (i : Int), _, _, rfl, hD7, ?_, fun z hz => ?_⟩
      · rw [eq]
        unfold rgV
        rw [List.map_map]
        rfl
      · obtain ⟨i, hi, rfl⟩ := List.mem_map.mp hz
        have := List.mem_range.mp hi
        omega
  rintro σ H8 ⟨q, zs, v4, v5, rfl, hD8, eq, hz⟩
  clear hD7 s7 hD6
  walk_at "rd"
  -- the points
  refine tFor_i (wL ?_)
  walk_at "rd"
  refine WL_i _ (SqL.of eq) ?_
  refine forS srcL (fun i σ H' => ∃ v4 v5 v7 v8 : Option V, σ = [some (.ref sc), some (.ref c), some (.ref a), some (.int p), v4, v5, some (.ref q), v7, v8, none] ∧ Same H8 H') ⟨_, _, none, none, rfl, Same.refl _⟩ (fun i σ H' _ ⟨_, _, _, _, _, s⟩ => SqL.of (s _ _ eq)) ?_ ?_
  · rintro i σ H9 x H10 hi ⟨v4, v5, v7, v8, rfl, s9⟩ ⟨rfl, hx⟩
    obtain ⟨z, hzz, rfl⟩ : ∃ z, zs[i]? = some z ∧ x = .int z := by
      rw [List.getElem?_map] at hx
      cases e : zs[i]? with
      | none => rw [e] at hx; cases hx
      | some z => rw [e] at hx; exact ⟨z, rfl, (Option.some.inj hx).symm⟩
    obtain ⟨z0, z1⟩ := hz z (List.mem_of_getElem? hzz)
    walk_at "rd"
    refine ⟨p, z, rfl, ?_⟩
    have two : ∃ xa xb : Int, oVector t.c_NumberError p z = .tup [.int xa, .int xb] ∧ oPoint t.c_NumberError t.c_ZeroVector p xa xb = .ret (.int z) ∧ ((z = p ∧ xa = 0 ∧ xb = 1) ∨ (z ≠ p ∧ xa = 1 ∧ xb = z)) := by
      unfold oVector
      rw [if_pos hpp, if_pos ⟨z0, z1⟩]
      by_cases cz : z = p
      · rw [if_pos cz]
        refine ⟨0, 1, rfl, ?_, .inl ⟨cz, rfl, rfl⟩⟩
        rw [point_vector_top hpp, cz]
      · rw [if_neg cz]
        exact ⟨1, z, rfl, point_vector hpp ⟨z0, z1⟩ cz, .inr ⟨cz, rfl, rfl⟩⟩
    obtain ⟨xa, xb, t1, t2, t3⟩ := two
    refine gtup t1 fun H11 r s11 er => ?_
    walk_at "rd"
    -- both ways of the conditional give the same pair
    have after : ∀ (u : Addr) (H12 : Hp), Same H11 H12 → H12 u = some (.tup [.int xa, .int xb]) → True := fun _ _ _ _ => trivial
    refine Br_d (fun cz => ?_) (fun cz => ?_)
    · obtain ⟨rfl, rfl⟩ : xa = 0 ∧ xb = 1 := by
        rcases t3 with z | z
        · exact z.2
        · exact absurd cz z.1
      walk_at "rd"
      rename_i u H12 nu s12 eu w H13 nw s13 ew
      refine ⟨w, [.ref r], [(0, 1)], rfl, ew, .cons (.tup (SqT.of ((s12.trans s13) _ _ er)) (.cons (.int _) (.cons (.int _) .nil))) .nil, fun H14 s14 => ?_⟩
      walk_at "rd"
      have hsh : Sh 5 (.tuple [.int 0, .int 1]) := sh_tup (shA_cons sh_int (shA_cons sh_int shA_nil))
      have dr : ∀ H', Same H11 H' → Dp K H' (.ref r) (.tuple [.int 0, .int 1]) := fun H' s' => .tup (SqT.of (s' _ _ er)) (.cons (.int _) (.cons (.int _) .nil))
      have du : Dp K H14 (.ref u) (.tuple [.int 0, .int 1]) := .tup (SqT.of ((s13.trans s14) _ _ eu)) (.cons (.int _) (.cons (.int _) .nil))
      refine neD_i (dr H14 (s12.trans (s13.trans s14))) du hsh.shaped hsh.shaped ?_
      rw [eqv_self hsh]
      walk_at "rd"
      refine ⟨p, 0, 1, r, rfl, SqT.of ((s12.trans (s13.trans s14)) _ _ er), ?_⟩
      refine gret t2 fun H15 s15 => ?_
      walk_at "rd"
      refine Br_dt rfl ?_
      walk_at "rd"
      exact ⟨_, _, _, _, rfl, s9.trans (s11.trans (s12.trans (s13.trans (s14.trans s15))))⟩
    · obtain ⟨rfl, rfl⟩ : xa = 1 ∧ z = xb := by
        rcases t3 with z | z
        · exact absurd z.1 cz
        · exact ⟨z.2.1, z.2.2.symm⟩
      walk_at "rd"
      rename_i u H12 nu s12 eu w H13 nw s13 ew
      refine ⟨w, [.ref r], [(1, z)], rfl, ew, .cons (.tup (SqT.of ((s12.trans s13) _ _ er)) (.cons (.int _) (.cons (.int _) .nil))) .nil, fun H14 s14 => ?_⟩
      walk_at "rd"
      have hsh : Sh 5 (.tuple [.int 1, .int z]) := sh_tup (shA_cons sh_int (shA_cons sh_int shA_nil))
      have dr : ∀ H', Same H11 H' → Dp K H' (.ref r) (.tuple [.int 1, .int z]) := fun H' s' => .tup (SqT.of (s' _ _ er)) (.cons (.int _) (.cons (.int _) .nil))
      have du : Dp K H14 (.ref u) (.tuple [.int 1, .int z]) := .tup (SqT.of ((s13.trans s14) _ _ eu)) (.cons (.int _) (.cons (.int _) .nil))
      refine neD_i (dr H14 (s12.trans (s13.trans s14))) du hsh.shaped hsh.shaped ?_
      rw [eqv_self hsh]
      walk_at "rd"
      refine ⟨p, 1, z, r, rfl, SqT.of ((s12.trans (s13.trans s14)) _ _ er), ?_⟩
      refine gret t2 fun H15 s15 => ?_
      walk_at "rd"
      refine Br_dt rfl ?_
      walk_at "rd"
      exact ⟨_, _, _, _, rfl, s9.trans (s11.trans (s12.trans (s13.trans (s14.trans s15))))⟩
  rintro σ H9 ⟨v4, v5, v7, v8, rfl, s9⟩
  have hD9 := s9.draw hD8
  clear eq hz s9 hD8
  walk_at "rd"
  rename_i m8 H10 nm8 s10 em8
  refine ⟨c, a, 8, rfl, s10.draw hD9, by omega, fun n n0 n1 => ?_⟩
  have hm : H10 m8 = some (.lst (menu8.map V.int)) := em8
  obtain ⟨sm, hsm⟩ : ∃ sm, menu8[n.toNat]? = some sm := ⟨_, List.getElem?_eq_getElem (show n.toNat < 8 by omega)⟩
  obtain ⟨sp1, sp2, sp3, splen⟩ := menu8_ok sm (List.mem_of_getElem? hsm)
  refine rIxU_l (SqL.of hm) (at_int (n := n.toNat) (by omega) hsm) ?_
  obtain ⟨N, rfl⟩ : ∃ N : Nat, sm = (N : Int) := ⟨sm.toNat, by omega⟩
  rw [Int.toNat_natCast] at splen
  obtain ⟨L, hL⟩ := frD_pairs N (N + 1)
  have hof : oFrames K t.c_NumberError (N : Int) = .lst (fun H' vs => DpAll K H' vs (frD N (N + 1))) := by
    unfold oFrames
    rw [if_pos ⟨sp2, sp3, sp1⟩, Int.toNat_natCast]
  have hsh : Sh 5 (.list (frD N (N + 1))) := sh_lst (by have := frD_sh N (N + 1); exact ⟨this.1, Nat.le_trans this.2 (by decide)⟩)
  walk_at "rd"
  refine ⟨N, rfl, by omega, fun H11 due dvs s11 ndue edue hdue => ?_⟩
  walk_at "rd"
  refine ⟨N, rfl, ?_⟩
  refine glst hof fun H12 told tvs s12 ntold etold htold => ?_
  walk_at "rd"
  refine ⟨told, tvs, L, rfl, etold, by rw [← hL]; exact htold, fun H13 s13 => ?_⟩
  walk_at "rd"
  have dd : ∀ H', Same H11 H' → Dp K H' (.ref due) (.list (frD N (N + 1))) := fun H' s' => .lst (SqL.of (s' _ _ edue)) (s'.dpAll hdue)
  refine neD_i (.lst (SqL.of (s13 _ _ etold)) (s13.dpAll htold)) (dd _ (s12.trans s13)) hsh.shaped hsh.shaped ?_
  rw [eqv_self hsh]
  walk_at "rd"
  refine Br_dt (by rw [DpAll.len hdue]; exact splen) ?_
  walk_at "rd"
  rename_i pr H14 npr s14 epr
  have et14 := s14 _ _ (s13 _ _ etold)
  have hlt : tvs.length ≤ 1000 := by
    rw [DpAll.len htold]
    have h23 : (N : Int) ≤ 23 := sp3
    have h2 : (N : Int) * ((N : Int) + 1) ≤ 23 * 24 := Int.mul_le_mul (by omega) (by omega) (by omega) (by omega)
    omega
  refine append_i et14 (Nat.lt_of_le_of_lt hlt (by decide)) fun H15 ch15 et15 sx15 => ?_
  have s15 := sx15.1 _ (s12.trans (s13.trans s14)) ntold
  walk_at "rd"
  rename_i pr2 H16 npr2 s16 epr2
  refine setL_i (j := 0) (s16 _ _ et15) (by unfold ixN; rw [if_pos (by omega), if_pos (by rw [List.length_append, List.length_singleton]; omega)]; rfl) fun H17 ch17 et17 sx17 => ?_
  have s17 := sx17 _ (s15.trans s16) ntold
  walk_at "rd"
  refine ⟨N, rfl, ?_⟩
  refine glst hof fun H18 t2 t2vs s18 nt2 et2 ht2 => ?_
  walk_at "rd"
  refine eqD_i (.lst (SqL.of et2) ht2) (dd _ (s17.trans s18)) hsh.shaped hsh.shaped ?_
  rw [eqv_self hsh]
  walk_at "rd"
  refine ⟨c, a, p, rfl, ?_, hp, h9, fun H19 s19 => ?_⟩
  · exact ((s10.trans s11).trans (s17.trans s18)).draw hD9
  · exact k _
end
theorem kbind_point_vector_0_point_prime {K : PySem.W.Frag} {a : Addr} {fd : FuncData} (F : Fun K "point_vector" "point_vector" s_point_vector a fd) : KBinds K fd ["prime", "point"] ["point", "prime"] gk_point_vector_0_point_prime gk_point_vector_0_point_prime := by
  obtain ⟨oc, od, kV, doc, pm, an, cdv, ct, osl, rfl, lk, hcd⟩ := F.ex
  refine ⟨fun s us ws _ hl => .of_eq ?_, fun {vs us zs ws} r rz => ?_⟩
  · revert hl
    unfold gk_point_vector_0_point_prime
    split
    · intro hl
      rfl
    · intro hl
      cases hl
  · unfold gk_point_vector_0_point_prime
    have hr := r.length
    have hz := rz.length
    split
    · match us, ws, r, rz with
      | _, _, .nil, .cons z0 (.cons z1 (.nil)) => exact .cons z1 (.cons z0 (.nil))
    · rename_i hn
      split
      · match vs, zs, r, rz with
        | _, _, .nil, .cons z0 (.cons z1 (.nil)) => exact (hn _ _ rfl rfl).elim
      · exact .nil
theorem kbind_point_of_0_vector_prime {K : PySem.W.Frag} {a : Addr} {fd : FuncData} (F : Fun K "point_of" "point_of" s_point_of a fd) : KBinds K fd ["prime", "vector"] ["vector", "prime"] gk_point_of_0_vector_prime gk_point_of_0_vector_prime := by
  obtain ⟨oc, od, kV, doc, pm, an, cdv, ct, osl, rfl, lk, hcd⟩ := F.ex
  refine ⟨fun s us ws _ hl => .of_eq ?_, fun {vs us zs ws} r rz => ?_⟩
  · revert hl
    unfold gk_point_of_0_vector_prime
    split
    · intro hl
      rfl
    · intro hl
      cases hl
  · unfold gk_point_of_0_vector_prime
    have hr := r.length
    have hz := rz.length
    split
    · match us, ws, r, rz with
      | _, _, .nil, .cons z0 (.cons z1 (.nil)) => exact .cons z1 (.cons z0 (.nil))
    · rename_i hn
      split
      · match vs, zs, r, rz with
        | _, _, .nil, .cons z0 (.cons z1 (.nil)) => exact (hn _ _ rfl rfl).elim
      · exact .nil
theorem all_mk {l : PySem.W.OpenLaw} {w : World} {K : PySem.W.Frag} {h : Heap} {mg : Str → Option Value} {fa : Addr} (X : K.In h) (G : h.Ns mainGlobals mg) (hfa : mg "law" = some (.ref fa))
    {C_EndsError C_SizeError C_NumberError C_ZeroVector C_DependentError f_SizeError_init f_NumberError_init f_check_number f_is_odd_prime f_check_prime f_inverse f_look_number f_look_prime f_look_small_prime f_look_residue f_look_pair f_point_of f_point_vector f_frames f_ulaw_draws f_ulaw_next f_ulaw_upward f_ulaw_whole f_ulaw_asked f_ulaw_point f_ulaw_vectors f_ulaw_frames f_ulaw_pairs f_ulaw_refused f_law : Addr} {oc_SizeError_init kV_SizeError_init dc_SizeError_init pm_SizeError_init cd_SizeError_init ct_SizeError_init oc_NumberError_init kV_NumberError_init dc_NumberError_init pm_NumberError_init cd_NumberError_init ct_NumberError_init oc_check_number kV_check_number dc_check_number pm_check_number cd_check_number ct_check_number oc_is_odd_prime kV_is_odd_prime dc_is_odd_prime pm_is_odd_prime cd_is_odd_prime ct_is_odd_prime oc_check_prime kV_check_prime dc_check_prime pm_check_prime cd_check_prime ct_check_prime oc_inverse kV_inverse dc_inverse pm_inverse cd_inverse ct_inverse oc_look_number kV_look_number dc_look_number pm_look_number cd_look_number ct_look_number oc_look_prime kV_look_prime dc_look_prime pm_look_prime cd_look_prime ct_look_prime oc_look_small_prime kV_look_small_prime dc_look_small_prime pm_look_small_prime cd_look_small_prime ct_look_small_prime oc_look_residue kV_look_residue dc_look_residue pm_look_residue cd_look_residue ct_look_residue oc_look_pair kV_look_pair dc_look_pair pm_look_pair cd_look_pair ct_look_pair oc_point_of kV_point_of dc_point_of pm_point_of cd_point_of ct_point_of oc_point_vector kV_point_vector dc_point_vector pm_point_vector cd_point_vector ct_point_vector oc_frames kV_frames dc_frames pm_frames cd_frames ct_frames oc_ulaw_draws kV_ulaw_draws dc_ulaw_draws pm_ulaw_draws cd_ulaw_draws ct_ulaw_draws oc_ulaw_next kV_ulaw_next dc_ulaw_next pm_ulaw_next cd_ulaw_next ct_ulaw_next oc_ulaw_upward kV_ulaw_upward dc_ulaw_upward pm_ulaw_upward cd_ulaw_upward ct_ulaw_upward oc_ulaw_whole kV_ulaw_whole dc_ulaw_whole pm_ulaw_whole cd_ulaw_whole ct_ulaw_whole oc_ulaw_asked kV_ulaw_asked dc_ulaw_asked pm_ulaw_asked cd_ulaw_asked ct_ulaw_asked oc_ulaw_point kV_ulaw_point dc_ulaw_point pm_ulaw_point cd_ulaw_point ct_ulaw_point oc_ulaw_vectors kV_ulaw_vectors dc_ulaw_vectors pm_ulaw_vectors cd_ulaw_vectors ct_ulaw_vectors oc_ulaw_frames kV_ulaw_frames dc_ulaw_frames pm_ulaw_frames cd_ulaw_frames ct_ulaw_frames oc_ulaw_pairs kV_ulaw_pairs dc_ulaw_pairs pm_ulaw_pairs cd_ulaw_pairs ct_ulaw_pairs oc_ulaw_refused kV_ulaw_refused dc_ulaw_refused pm_ulaw_refused cd_ulaw_refused ct_ulaw_refused oc_law kV_law dc_law pm_law cd_law ct_law : Value} {od_SizeError_init an_SizeError_init od_NumberError_init an_NumberError_init od_check_number an_check_number od_is_odd_prime an_is_odd_prime od_check_prime an_check_prime od_inverse an_inverse od_look_number an_look_number od_look_prime an_look_prime od_look_small_prime an_look_small_prime od_look_residue an_look_residue od_look_pair an_look_pair od_point_of an_point_of od_point_vector an_point_vector od_frames an_frames od_ulaw_draws an_ulaw_draws od_ulaw_next an_ulaw_next od_ulaw_upward an_ulaw_upward od_ulaw_whole an_ulaw_whole od_ulaw_asked an_ulaw_asked od_ulaw_point an_ulaw_point od_ulaw_vectors an_ulaw_vectors od_ulaw_frames an_ulaw_frames od_ulaw_pairs an_ulaw_pairs od_ulaw_refused an_ulaw_refused od_law an_law : Option Addr} {sl_SizeError_init sl_NumberError_init sl_check_number sl_is_odd_prime sl_check_prime sl_inverse sl_look_number sl_look_prime sl_look_small_prime sl_look_residue sl_look_pair sl_point_of sl_point_vector sl_frames sl_ulaw_draws sl_ulaw_next sl_ulaw_upward sl_ulaw_whole sl_ulaw_asked sl_ulaw_point sl_ulaw_vectors sl_ulaw_frames sl_ulaw_pairs sl_ulaw_refused sl_law : Array (Option Value)} {k_MOST k_SMALL : Tok} {nm_SizeError q_SizeError : Str} {N_SizeError : Addr} {bs_SizeError bm_SizeError su_SizeError : List Value} {sn_SizeError : List Str} {ab_SizeError : Bool} {co_SizeError : Option Bool} {dd_SizeError : Option Addr} {k0_SizeError k1_SizeError k2_SizeError k3_SizeError k5_SizeError : Option Value} {nm_NumberError q_NumberError : Str} {N_NumberError : Addr} {bs_NumberError bm_NumberError su_NumberError : List Value} {sn_NumberError : List Str} {ab_NumberError : Bool} {co_NumberError : Option Bool} {dd_NumberError : Option Addr} {k0_NumberError k1_NumberError k2_NumberError k3_NumberError k5_NumberError : Option Value}
    (a_EndsError : PySem.W.nsIn K mainGlobals "EndsError" = some (some (.ref C_EndsError)))
    (hc_EndsError : PySem.W.isClsIn K C_EndsError = true)
    (hg_EndsError : PySem.W.findIn K (.ref C_EndsError) "__getattribute__" = some (some (.builtin "BaseException.__getattribute__")))
    (hk_EndsError : PySem.W.findIn K (.ref C_EndsError) "__getattr__" = some none)
    (hs_EndsError : PySem.W.subIn K (.ref C_EndsError) (.type "BaseException") = some true)
    (hd_EndsError : PySem.W.hasDictIn K C_EndsError = true)
    (ha_EndsError : PySem.W.findIn K (.ref C_EndsError) "__class__" = some (some (.builtin "object.__class__")))
    (hm_EndsError : PySem.W.mroIn K C_EndsError (.type "object") = some true)
    (ty_EndsError : PySem.W.typeIn K (.ref C_EndsError) = some (.type "type"))
    (kc_EndsError : PySem.W.keepIn K (.ref C_EndsError) = true)
    (ex_EndsError : PySem.W.excIn K C_EndsError [.type "ValueError", .type "Exception", .type "BaseException", .type "object"] "ValueError.__new__" = true)
    (a_SizeError : PySem.W.nsIn K mainGlobals "SizeError" = some (some (.ref C_SizeError)))
    (hc_SizeError : PySem.W.isClsIn K C_SizeError = true)
    (hg_SizeError : PySem.W.findIn K (.ref C_SizeError) "__getattribute__" = some (some (.builtin "BaseException.__getattribute__")))
    (hk_SizeError : PySem.W.findIn K (.ref C_SizeError) "__getattr__" = some none)
    (hs_SizeError : PySem.W.subIn K (.ref C_SizeError) (.type "BaseException") = some true)
    (hd_SizeError : PySem.W.hasDictIn K C_SizeError = true)
    (ha_SizeError : PySem.W.findIn K (.ref C_SizeError) "__class__" = some (some (.builtin "object.__class__")))
    (hm_SizeError : PySem.W.mroIn K C_SizeError (.type "object") = some true)
    (ty_SizeError : PySem.W.typeIn K (.ref C_SizeError) = some (.type "type"))
    (kc_SizeError : PySem.W.keepIn K (.ref C_SizeError) = true)
    (i_SizeError : PySem.W.findIn K (.ref C_SizeError) "__init__" = some (some (.ref f_SizeError_init)))
    (xl_SizeError : K.lookup C_SizeError = some (excClassObj nm_SizeError q_SizeError C_SizeError N_SizeError bs_SizeError bm_SizeError true sn_SizeError su_SizeError ab_SizeError co_SizeError dd_SizeError k0_SizeError k1_SizeError k2_SizeError k3_SizeError k5_SizeError "ValueError.__new__"))
    (xr_SizeError : PySem.HandSPX.refsVE bm_SizeError = true)
    (sa_SizeError : PySem.W.findIn K (.ref C_SizeError) "__setattr__" = some (some (.builtin "object.__setattr__")))
    (xn_SizeError_count : PySem.W.findIn K (.ref C_SizeError) "count" = some none)
    (a_NumberError : PySem.W.nsIn K mainGlobals "NumberError" = some (some (.ref C_NumberError)))
    (hc_NumberError : PySem.W.isClsIn K C_NumberError = true)
    (hg_NumberError : PySem.W.findIn K (.ref C_NumberError) "__getattribute__" = some (some (.builtin "BaseException.__getattribute__")))
    (hk_NumberError : PySem.W.findIn K (.ref C_NumberError) "__getattr__" = some none)
    (hs_NumberError : PySem.W.subIn K (.ref C_NumberError) (.type "BaseException") = some true)
    (hd_NumberError : PySem.W.hasDictIn K C_NumberError = true)
    (ha_NumberError : PySem.W.findIn K (.ref C_NumberError) "__class__" = some (some (.builtin "object.__class__")))
    (hm_NumberError : PySem.W.mroIn K C_NumberError (.type "object") = some true)
    (ty_NumberError : PySem.W.typeIn K (.ref C_NumberError) = some (.type "type"))
    (kc_NumberError : PySem.W.keepIn K (.ref C_NumberError) = true)
    (i_NumberError : PySem.W.findIn K (.ref C_NumberError) "__init__" = some (some (.ref f_NumberError_init)))
    (xl_NumberError : K.lookup C_NumberError = some (excClassObj nm_NumberError q_NumberError C_NumberError N_NumberError bs_NumberError bm_NumberError true sn_NumberError su_NumberError ab_NumberError co_NumberError dd_NumberError k0_NumberError k1_NumberError k2_NumberError k3_NumberError k5_NumberError "ValueError.__new__"))
    (xr_NumberError : PySem.HandSPX.refsVE bm_NumberError = true)
    (sa_NumberError : PySem.W.findIn K (.ref C_NumberError) "__setattr__" = some (some (.builtin "object.__setattr__")))
    (xn_NumberError_number : PySem.W.findIn K (.ref C_NumberError) "number" = some none)
    (a_ZeroVector : PySem.W.nsIn K mainGlobals "ZeroVector" = some (some (.ref C_ZeroVector)))
    (hc_ZeroVector : PySem.W.isClsIn K C_ZeroVector = true)
    (hg_ZeroVector : PySem.W.findIn K (.ref C_ZeroVector) "__getattribute__" = some (some (.builtin "BaseException.__getattribute__")))
    (hk_ZeroVector : PySem.W.findIn K (.ref C_ZeroVector) "__getattr__" = some none)
    (hs_ZeroVector : PySem.W.subIn K (.ref C_ZeroVector) (.type "BaseException") = some true)
    (hd_ZeroVector : PySem.W.hasDictIn K C_ZeroVector = true)
    (ha_ZeroVector : PySem.W.findIn K (.ref C_ZeroVector) "__class__" = some (some (.builtin "object.__class__")))
    (hm_ZeroVector : PySem.W.mroIn K C_ZeroVector (.type "object") = some true)
    (ty_ZeroVector : PySem.W.typeIn K (.ref C_ZeroVector) = some (.type "type"))
    (kc_ZeroVector : PySem.W.keepIn K (.ref C_ZeroVector) = true)
    (ex_ZeroVector : PySem.W.excIn K C_ZeroVector [.type "ValueError", .type "Exception", .type "BaseException", .type "object"] "ValueError.__new__" = true)
    (a_DependentError : PySem.W.nsIn K mainGlobals "DependentError" = some (some (.ref C_DependentError)))
    (hc_DependentError : PySem.W.isClsIn K C_DependentError = true)
    (hg_DependentError : PySem.W.findIn K (.ref C_DependentError) "__getattribute__" = some (some (.builtin "BaseException.__getattribute__")))
    (hk_DependentError : PySem.W.findIn K (.ref C_DependentError) "__getattr__" = some none)
    (hs_DependentError : PySem.W.subIn K (.ref C_DependentError) (.type "BaseException") = some true)
    (hd_DependentError : PySem.W.hasDictIn K C_DependentError = true)
    (ha_DependentError : PySem.W.findIn K (.ref C_DependentError) "__class__" = some (some (.builtin "object.__class__")))
    (hm_DependentError : PySem.W.mroIn K C_DependentError (.type "object") = some true)
    (ty_DependentError : PySem.W.typeIn K (.ref C_DependentError) = some (.type "type"))
    (kc_DependentError : PySem.W.keepIn K (.ref C_DependentError) = true)
    (ex_DependentError : PySem.W.excIn K C_DependentError [.type "ValueError", .type "Exception", .type "BaseException", .type "object"] "ValueError.__new__" = true)
    (hnD : PySem.W.specialIn K (.builtin "object.__class__") "__get__" = some (some (.builtin "getset_descriptor.__get__")))
    (htD : PySem.W.takesIn K (.builtin "object.__class__") = some true)
    (l_SizeError_init : K.lookup f_SizeError_init = some ⟨oc_SizeError_init, od_SizeError_init, .func (PySem.W.fnOf "__init__" "SizeError.__init__" (defArgs s_SizeError_init) (defBody s_SizeError_init) (defScope s_SizeError_init) .none kV_SizeError_init dc_SizeError_init pm_SizeError_init an_SizeError_init cd_SizeError_init ct_SizeError_init), sl_SizeError_init⟩)
    (c_SizeError_init : PySem.W.codeIn K cd_SizeError_init "SizeError.__init__" = true)
    (k_SizeError_init : PySem.W.keepIn K (.ref f_SizeError_init) = true)
    (t_SizeError_init : PySem.W.typeIn K (.ref f_SizeError_init) = some (.type "function"))
    (l_NumberError_init : K.lookup f_NumberError_init = some ⟨oc_NumberError_init, od_NumberError_init, .func (PySem.W.fnOf "__init__" "NumberError.__init__" (defArgs s_NumberError_init) (defBody s_NumberError_init) (defScope s_NumberError_init) .none kV_NumberError_init dc_NumberError_init pm_NumberError_init an_NumberError_init cd_NumberError_init ct_NumberError_init), sl_NumberError_init⟩)
    (c_NumberError_init : PySem.W.codeIn K cd_NumberError_init "NumberError.__init__" = true)
    (k_NumberError_init : PySem.W.keepIn K (.ref f_NumberError_init) = true)
    (t_NumberError_init : PySem.W.typeIn K (.ref f_NumberError_init) = some (.type "function"))
    (a_check_number : PySem.W.nsIn K mainGlobals "check_number" = some (some (.ref f_check_number)))
    (l_check_number : K.lookup f_check_number = some ⟨oc_check_number, od_check_number, .func (PySem.W.fnOf "check_number" "check_number" (defArgs s_check_number) (defBody s_check_number) (defScope s_check_number) .none kV_check_number dc_check_number pm_check_number an_check_number cd_check_number ct_check_number), sl_check_number⟩)
    (c_check_number : PySem.W.codeIn K cd_check_number "check_number" = true)
    (k_check_number : PySem.W.keepIn K (.ref f_check_number) = true)
    (a_is_odd_prime : PySem.W.nsIn K mainGlobals "is_odd_prime" = some (some (.ref f_is_odd_prime)))
    (l_is_odd_prime : K.lookup f_is_odd_prime = some ⟨oc_is_odd_prime, od_is_odd_prime, .func (PySem.W.fnOf "is_odd_prime" "is_odd_prime" (defArgs s_is_odd_prime) (defBody s_is_odd_prime) (defScope s_is_odd_prime) .none kV_is_odd_prime dc_is_odd_prime pm_is_odd_prime an_is_odd_prime cd_is_odd_prime ct_is_odd_prime), sl_is_odd_prime⟩)
    (c_is_odd_prime : PySem.W.codeIn K cd_is_odd_prime "is_odd_prime" = true)
    (k_is_odd_prime : PySem.W.keepIn K (.ref f_is_odd_prime) = true)
    (a_check_prime : PySem.W.nsIn K mainGlobals "check_prime" = some (some (.ref f_check_prime)))
    (l_check_prime : K.lookup f_check_prime = some ⟨oc_check_prime, od_check_prime, .func (PySem.W.fnOf "check_prime" "check_prime" (defArgs s_check_prime) (defBody s_check_prime) (defScope s_check_prime) .none kV_check_prime dc_check_prime pm_check_prime an_check_prime cd_check_prime ct_check_prime), sl_check_prime⟩)
    (c_check_prime : PySem.W.codeIn K cd_check_prime "check_prime" = true)
    (k_check_prime : PySem.W.keepIn K (.ref f_check_prime) = true)
    (a_inverse : PySem.W.nsIn K mainGlobals "inverse" = some (some (.ref f_inverse)))
    (l_inverse : K.lookup f_inverse = some ⟨oc_inverse, od_inverse, .func (PySem.W.fnOf "inverse" "inverse" (defArgs s_inverse) (defBody s_inverse) (defScope s_inverse) .none kV_inverse dc_inverse pm_inverse an_inverse cd_inverse ct_inverse), sl_inverse⟩)
    (c_inverse : PySem.W.codeIn K cd_inverse "inverse" = true)
    (k_inverse : PySem.W.keepIn K (.ref f_inverse) = true)
    (a_look_number : PySem.W.nsIn K mainGlobals "look_number" = some (some (.ref f_look_number)))
    (l_look_number : K.lookup f_look_number = some ⟨oc_look_number, od_look_number, .func (PySem.W.fnOf "look_number" "look_number" (defArgs s_look_number) (defBody s_look_number) (defScope s_look_number) .none kV_look_number dc_look_number pm_look_number an_look_number cd_look_number ct_look_number), sl_look_number⟩)
    (c_look_number : PySem.W.codeIn K cd_look_number "look_number" = true)
    (k_look_number : PySem.W.keepIn K (.ref f_look_number) = true)
    (a_look_prime : PySem.W.nsIn K mainGlobals "look_prime" = some (some (.ref f_look_prime)))
    (l_look_prime : K.lookup f_look_prime = some ⟨oc_look_prime, od_look_prime, .func (PySem.W.fnOf "look_prime" "look_prime" (defArgs s_look_prime) (defBody s_look_prime) (defScope s_look_prime) .none kV_look_prime dc_look_prime pm_look_prime an_look_prime cd_look_prime ct_look_prime), sl_look_prime⟩)
    (c_look_prime : PySem.W.codeIn K cd_look_prime "look_prime" = true)
    (k_look_prime : PySem.W.keepIn K (.ref f_look_prime) = true)
    (a_look_small_prime : PySem.W.nsIn K mainGlobals "look_small_prime" = some (some (.ref f_look_small_prime)))
    (l_look_small_prime : K.lookup f_look_small_prime = some ⟨oc_look_small_prime, od_look_small_prime, .func (PySem.W.fnOf "look_small_prime" "look_small_prime" (defArgs s_look_small_prime) (defBody s_look_small_prime) (defScope s_look_small_prime) .none kV_look_small_prime dc_look_small_prime pm_look_small_prime an_look_small_prime cd_look_small_prime ct_look_small_prime), sl_look_small_prime⟩)
    (c_look_small_prime : PySem.W.codeIn K cd_look_small_prime "look_small_prime" = true)
    (k_look_small_prime : PySem.W.keepIn K (.ref f_look_small_prime) = true)
    (a_look_residue : PySem.W.nsIn K mainGlobals "look_residue" = some (some (.ref f_look_residue)))
    (l_look_residue : K.lookup f_look_residue = some ⟨oc_look_residue, od_look_residue, .func (PySem.W.fnOf "look_residue" "look_residue" (defArgs s_look_residue) (defBody s_look_residue) (defScope s_look_residue) .none kV_look_residue dc_look_residue pm_look_residue an_look_residue cd_look_residue ct_look_residue), sl_look_residue⟩)
    (c_look_residue : PySem.W.codeIn K cd_look_residue "look_residue" = true)
    (k_look_residue : PySem.W.keepIn K (.ref f_look_residue) = true)
    (a_look_pair : PySem.W.nsIn K mainGlobals "look_pair" = some (some (.ref f_look_pair)))
    (l_look_pair : K.lookup f_look_pair = some ⟨oc_look_pair, od_look_pair, .func (PySem.W.fnOf "look_pair" "look_pair" (defArgs s_look_pair) (defBody s_look_pair) (defScope s_look_pair) .none kV_look_pair dc_look_pair pm_look_pair an_look_pair cd_look_pair ct_look_pair), sl_look_pair⟩)
    (c_look_pair : PySem.W.codeIn K cd_look_pair "look_pair" = true)
    (k_look_pair : PySem.W.keepIn K (.ref f_look_pair) = true)
    (a_point_of : PySem.W.nsIn K mainGlobals "point_of" = some (some (.ref f_point_of)))
    (l_point_of : K.lookup f_point_of = some ⟨oc_point_of, od_point_of, .func (PySem.W.fnOf "point_of" "point_of" (defArgs s_point_of) (defBody s_point_of) (defScope s_point_of) .none kV_point_of dc_point_of pm_point_of an_point_of cd_point_of ct_point_of), sl_point_of⟩)
    (c_point_of : PySem.W.codeIn K cd_point_of "point_of" = true)
    (k_point_of : PySem.W.keepIn K (.ref f_point_of) = true)
    (a_point_vector : PySem.W.nsIn K mainGlobals "point_vector" = some (some (.ref f_point_vector)))
    (l_point_vector : K.lookup f_point_vector = some ⟨oc_point_vector, od_point_vector, .func (PySem.W.fnOf "point_vector" "point_vector" (defArgs s_point_vector) (defBody s_point_vector) (defScope s_point_vector) .none kV_point_vector dc_point_vector pm_point_vector an_point_vector cd_point_vector ct_point_vector), sl_point_vector⟩)
    (c_point_vector : PySem.W.codeIn K cd_point_vector "point_vector" = true)
    (k_point_vector : PySem.W.keepIn K (.ref f_point_vector) = true)
    (a_frames : PySem.W.nsIn K mainGlobals "frames" = some (some (.ref f_frames)))
    (l_frames : K.lookup f_frames = some ⟨oc_frames, od_frames, .func (PySem.W.fnOf "frames" "frames" (defArgs s_frames) (defBody s_frames) (defScope s_frames) .none kV_frames dc_frames pm_frames an_frames cd_frames ct_frames), sl_frames⟩)
    (c_frames : PySem.W.codeIn K cd_frames "frames" = true)
    (k_frames : PySem.W.keepIn K (.ref f_frames) = true)
    (a_ulaw_draws : PySem.W.nsIn K mainGlobals "_law_draws" = some (some (.ref f_ulaw_draws)))
    (l_ulaw_draws : K.lookup f_ulaw_draws = some ⟨oc_ulaw_draws, od_ulaw_draws, .func (PySem.W.fnOf "_law_draws" "_law_draws" (defArgs s_ulaw_draws) (defBody s_ulaw_draws) (defScope s_ulaw_draws) .none kV_ulaw_draws dc_ulaw_draws pm_ulaw_draws an_ulaw_draws cd_ulaw_draws ct_ulaw_draws), sl_ulaw_draws⟩)
    (c_ulaw_draws : PySem.W.codeIn K cd_ulaw_draws "_law_draws" = true)
    (k_ulaw_draws : PySem.W.keepIn K (.ref f_ulaw_draws) = true)
    (a_ulaw_next : PySem.W.nsIn K mainGlobals "_law_next" = some (some (.ref f_ulaw_next)))
    (l_ulaw_next : K.lookup f_ulaw_next = some ⟨oc_ulaw_next, od_ulaw_next, .func (PySem.W.fnOf "_law_next" "_law_next" (defArgs s_ulaw_next) (defBody s_ulaw_next) (defScope s_ulaw_next) .none kV_ulaw_next dc_ulaw_next pm_ulaw_next an_ulaw_next cd_ulaw_next ct_ulaw_next), sl_ulaw_next⟩)
    (c_ulaw_next : PySem.W.codeIn K cd_ulaw_next "_law_next" = true)
    (k_ulaw_next : PySem.W.keepIn K (.ref f_ulaw_next) = true)
    (a_ulaw_upward : PySem.W.nsIn K mainGlobals "_law_upward" = some (some (.ref f_ulaw_upward)))
    (l_ulaw_upward : K.lookup f_ulaw_upward = some ⟨oc_ulaw_upward, od_ulaw_upward, .func (PySem.W.fnOf "_law_upward" "_law_upward" (defArgs s_ulaw_upward) (defBody s_ulaw_upward) (defScope s_ulaw_upward) .none kV_ulaw_upward dc_ulaw_upward pm_ulaw_upward an_ulaw_upward cd_ulaw_upward ct_ulaw_upward), sl_ulaw_upward⟩)
    (c_ulaw_upward : PySem.W.codeIn K cd_ulaw_upward "_law_upward" = true)
    (k_ulaw_upward : PySem.W.keepIn K (.ref f_ulaw_upward) = true)
    (a_ulaw_whole : PySem.W.nsIn K mainGlobals "_law_whole" = some (some (.ref f_ulaw_whole)))
    (l_ulaw_whole : K.lookup f_ulaw_whole = some ⟨oc_ulaw_whole, od_ulaw_whole, .func (PySem.W.fnOf "_law_whole" "_law_whole" (defArgs s_ulaw_whole) (defBody s_ulaw_whole) (defScope s_ulaw_whole) .none kV_ulaw_whole dc_ulaw_whole pm_ulaw_whole an_ulaw_whole cd_ulaw_whole ct_ulaw_whole), sl_ulaw_whole⟩)
    (c_ulaw_whole : PySem.W.codeIn K cd_ulaw_whole "_law_whole" = true)
    (k_ulaw_whole : PySem.W.keepIn K (.ref f_ulaw_whole) = true)
    (a_ulaw_asked : PySem.W.nsIn K mainGlobals "_law_asked" = some (some (.ref f_ulaw_asked)))
    (l_ulaw_asked : K.lookup f_ulaw_asked = some ⟨oc_ulaw_asked, od_ulaw_asked, .func (PySem.W.fnOf "_law_asked" "_law_asked" (defArgs s_ulaw_asked) (defBody s_ulaw_asked) (defScope s_ulaw_asked) .none kV_ulaw_asked dc_ulaw_asked pm_ulaw_asked an_ulaw_asked cd_ulaw_asked ct_ulaw_asked), sl_ulaw_asked⟩)
    (c_ulaw_asked : PySem.W.codeIn K cd_ulaw_asked "_law_asked" = true)
    (k_ulaw_asked : PySem.W.keepIn K (.ref f_ulaw_asked) = true)
    (a_ulaw_point : PySem.W.nsIn K mainGlobals "_law_point" = some (some (.ref f_ulaw_point)))
    (l_ulaw_point : K.lookup f_ulaw_point = some ⟨oc_ulaw_point, od_ulaw_point, .func (PySem.W.fnOf "_law_point" "_law_point" (defArgs s_ulaw_point) (defBody s_ulaw_point) (defScope s_ulaw_point) .none kV_ulaw_point dc_ulaw_point pm_ulaw_point an_ulaw_point cd_ulaw_point ct_ulaw_point), sl_ulaw_point⟩)
    (c_ulaw_point : PySem.W.codeIn K cd_ulaw_point "_law_point" = true)
    (k_ulaw_point : PySem.W.keepIn K (.ref f_ulaw_point) = true)
    (a_ulaw_vectors : PySem.W.nsIn K mainGlobals "_law_vectors" = some (some (.ref f_ulaw_vectors)))
    (l_ulaw_vectors : K.lookup f_ulaw_vectors = some ⟨oc_ulaw_vectors, od_ulaw_vectors, .func (PySem.W.fnOf "_law_vectors" "_law_vectors" (defArgs s_ulaw_vectors) (defBody s_ulaw_vectors) (defScope s_ulaw_vectors) .none kV_ulaw_vectors dc_ulaw_vectors pm_ulaw_vectors an_ulaw_vectors cd_ulaw_vectors ct_ulaw_vectors), sl_ulaw_vectors⟩)
    (c_ulaw_vectors : PySem.W.codeIn K cd_ulaw_vectors "_law_vectors" = true)
    (k_ulaw_vectors : PySem.W.keepIn K (.ref f_ulaw_vectors) = true)
    (a_ulaw_frames : PySem.W.nsIn K mainGlobals "_law_frames" = some (some (.ref f_ulaw_frames)))
    (l_ulaw_frames : K.lookup f_ulaw_frames = some ⟨oc_ulaw_frames, od_ulaw_frames, .func (PySem.W.fnOf "_law_frames" "_law_frames" (defArgs s_ulaw_frames) (defBody s_ulaw_frames) (defScope s_ulaw_frames) .none kV_ulaw_frames dc_ulaw_frames pm_ulaw_frames an_ulaw_frames cd_ulaw_frames ct_ulaw_frames), sl_ulaw_frames⟩)
    (c_ulaw_frames : PySem.W.codeIn K cd_ulaw_frames "_law_frames" = true)
    (k_ulaw_frames : PySem.W.keepIn K (.ref f_ulaw_frames) = true)
    (a_ulaw_pairs : PySem.W.nsIn K mainGlobals "_law_pairs" = some (some (.ref f_ulaw_pairs)))
    (l_ulaw_pairs : K.lookup f_ulaw_pairs = some ⟨oc_ulaw_pairs, od_ulaw_pairs, .func (PySem.W.fnOf "_law_pairs" "_law_pairs" (defArgs s_ulaw_pairs) (defBody s_ulaw_pairs) (defScope s_ulaw_pairs) .none kV_ulaw_pairs dc_ulaw_pairs pm_ulaw_pairs an_ulaw_pairs cd_ulaw_pairs ct_ulaw_pairs), sl_ulaw_pairs⟩)
    (c_ulaw_pairs : PySem.W.codeIn K cd_ulaw_pairs "_law_pairs" = true)
    (k_ulaw_pairs : PySem.W.keepIn K (.ref f_ulaw_pairs) = true)
    (a_ulaw_refused : PySem.W.nsIn K mainGlobals "_law_refused" = some (some (.ref f_ulaw_refused)))
    (l_ulaw_refused : K.lookup f_ulaw_refused = some ⟨oc_ulaw_refused, od_ulaw_refused, .func (PySem.W.fnOf "_law_refused" "_law_refused" (defArgs s_ulaw_refused) (defBody s_ulaw_refused) (defScope s_ulaw_refused) .none kV_ulaw_refused dc_ulaw_refused pm_ulaw_refused an_ulaw_refused cd_ulaw_refused ct_ulaw_refused), sl_ulaw_refused⟩)
    (c_ulaw_refused : PySem.W.codeIn K cd_ulaw_refused "_law_refused" = true)
    (k_ulaw_refused : PySem.W.keepIn K (.ref f_ulaw_refused) = true)
    (a_law : PySem.W.nsIn K mainGlobals "law" = some (some (.ref f_law)))
    (l_law : K.lookup f_law = some ⟨oc_law, od_law, .func (PySem.W.fnOf "law" "law" (defArgs s_law) (defBody s_law) (defScope s_law) .none kV_law dc_law pm_law an_law cd_law ct_law), sl_law⟩)
    (c_law : PySem.W.codeIn K cd_law "law" = true)
    (k_law : PySem.W.keepIn K (.ref f_law) = true)
    (a_MOST : PySem.W.nsIn K mainGlobals "MOST" = some (some (.int 997 k_MOST)))
    (a_SMALL : PySem.W.nsIn K mainGlobals "SMALL" = some (some (.int 23 k_SMALL)))
    (z_ValueError : PySem.W.nsIn K mainGlobals "ValueError" = some none)
    (z_all : PySem.W.nsIn K mainGlobals "all" = some none)
    (z_bool : PySem.W.nsIn K mainGlobals "bool" = some none)
    (z_int : PySem.W.nsIn K mainGlobals "int" = some none)
    (z_isinstance : PySem.W.nsIn K mainGlobals "isinstance" = some none)
    (z_len : PySem.W.nsIn K mainGlobals "len" = some none)
    (z_list : PySem.W.nsIn K mainGlobals "list" = some none)
    (z_min : PySem.W.nsIn K mainGlobals "min" = some none)
    (z_range : PySem.W.nsIn K mainGlobals "range" = some none)
    (z_sum : PySem.W.nsIn K mainGlobals "sum" = some none)
    (z_tuple : PySem.W.nsIn K mainGlobals "tuple" = some none)
    (kt_NumberError_NumberError : PySem.W.kitOne K (.ref C_NumberError) (.ref C_NumberError) = some true)
    (kt_NumberError_ZeroVector : PySem.W.kitOne K (.ref C_NumberError) (.ref C_ZeroVector) = some false)
    (kt_NumberError_SizeError : PySem.W.kitOne K (.ref C_NumberError) (.ref C_SizeError) = some false)
    (kt_NumberError_DependentError : PySem.W.kitOne K (.ref C_NumberError) (.ref C_DependentError) = some false)
    (kt_NumberError_ValueError : PySem.W.kitOne K (.ref C_NumberError) (.type "ValueError") = some true)
    (kt_ZeroVector_NumberError : PySem.W.kitOne K (.ref C_ZeroVector) (.ref C_NumberError) = some false)
    (kt_ZeroVector_ZeroVector : PySem.W.kitOne K (.ref C_ZeroVector) (.ref C_ZeroVector) = some true)
    (kt_ZeroVector_SizeError : PySem.W.kitOne K (.ref C_ZeroVector) (.ref C_SizeError) = some false)
    (kt_ZeroVector_DependentError : PySem.W.kitOne K (.ref C_ZeroVector) (.ref C_DependentError) = some false)
    (kt_ZeroVector_ValueError : PySem.W.kitOne K (.ref C_ZeroVector) (.type "ValueError") = some true)
    (su_EndsError_EndsError : PySem.W.subIn K (.ref C_EndsError) (.ref C_EndsError) = some true)
    (su_SizeError_EndsError : PySem.W.subIn K (.ref C_SizeError) (.ref C_EndsError) = some true)
    (su_NumberError_EndsError : PySem.W.subIn K (.ref C_NumberError) (.ref C_EndsError) = some true)
    (su_ZeroVector_EndsError : PySem.W.subIn K (.ref C_ZeroVector) (.ref C_EndsError) = some true)
    (su_DependentError_EndsError : PySem.W.subIn K (.ref C_DependentError) (.ref C_EndsError) = some true)
    : ∃ fd : FuncData, (∀ (s : Shared) (u : Value), BindsTo s fd ⟨[u], []⟩ [("script", u)]) ∧ ∀ base : Heap, K.In base → base.Ns mainGlobals mg → FnOk l.prog w K mg base (L2.CX l.prog w) 10 fa fd ["script"] (spLaw K) := by
  have e := hfa.symm.trans (PySem.W.mg_of X G a_law)
  have e2 : f_law = fa := by
    cases e
    rfl
  subst e2
  have F_SizeError_init := fun_mk (st := s_SizeError_init) l_SizeError_init c_SizeError_init k_SizeError_init
  have b_SizeError_init := F_SizeError_init.binds (ps := ["self", "count"]) fun _ _ _ _ _ _ us hl => match us, hl with | [_, _], _ => rfl
  have F_NumberError_init := fun_mk (st := s_NumberError_init) l_NumberError_init c_NumberError_init k_NumberError_init
  have b_NumberError_init := F_NumberError_init.binds (ps := ["self", "number"]) fun _ _ _ _ _ _ us hl => match us, hl with | [_, _], _ => rfl
  have F_check_number := fun_mk (st := s_check_number) l_check_number c_check_number k_check_number
  have b_check_number := F_check_number.binds (ps := ["number", "low", "high"]) fun _ _ _ _ _ _ us hl => match us, hl with | [_, _, _], _ => rfl
  have F_is_odd_prime := fun_mk (st := s_is_odd_prime) l_is_odd_prime c_is_odd_prime k_is_odd_prime
  have b_is_odd_prime := F_is_odd_prime.binds (ps := ["number"]) fun _ _ _ _ _ _ us hl => match us, hl with | [_], _ => rfl
  have F_check_prime := fun_mk (st := s_check_prime) l_check_prime c_check_prime k_check_prime
  have b_check_prime := F_check_prime.binds (ps := ["prime"]) fun _ _ _ _ _ _ us hl => match us, hl with | [_], _ => rfl
  have F_inverse := fun_mk (st := s_inverse) l_inverse c_inverse k_inverse
  have b_inverse := F_inverse.binds (ps := ["prime", "number"]) fun _ _ _ _ _ _ us hl => match us, hl with | [_, _], _ => rfl
  have F_look_number := fun_mk (st := s_look_number) l_look_number c_look_number k_look_number
  have b_look_number := F_look_number.binds (ps := ["number", "low", "high"]) fun _ _ _ _ _ _ us hl => match us, hl with | [_, _, _], _ => rfl
  have F_look_prime := fun_mk (st := s_look_prime) l_look_prime c_look_prime k_look_prime
  have b_look_prime := F_look_prime.binds (ps := ["prime"]) fun _ _ _ _ _ _ us hl => match us, hl with | [_], _ => rfl
  have F_look_small_prime := fun_mk (st := s_look_small_prime) l_look_small_prime c_look_small_prime k_look_small_prime
  have b_look_small_prime := F_look_small_prime.binds (ps := ["prime"]) fun _ _ _ _ _ _ us hl => match us, hl with | [_], _ => rfl
  have F_look_residue := fun_mk (st := s_look_residue) l_look_residue c_look_residue k_look_residue
  have b_look_residue := F_look_residue.binds (ps := ["prime", "number"]) fun _ _ _ _ _ _ us hl => match us, hl with | [_, _], _ => rfl
  have F_look_pair := fun_mk (st := s_look_pair) l_look_pair c_look_pair k_look_pair
  have b_look_pair := F_look_pair.binds (ps := ["prime", "pair"]) fun _ _ _ _ _ _ us hl => match us, hl with | [_, _], _ => rfl
  have F_point_of := fun_mk (st := s_point_of) l_point_of c_point_of k_point_of
  have b_point_of := F_point_of.binds (ps := ["prime", "vector"]) fun _ _ _ _ _ _ us hl => match us, hl with | [_, _], _ => rfl
  have F_point_vector := fun_mk (st := s_point_vector) l_point_vector c_point_vector k_point_vector
  have b_point_vector := F_point_vector.binds (ps := ["prime", "point"]) fun _ _ _ _ _ _ us hl => match us, hl with | [_, _], _ => rfl
  have F_frames := fun_mk (st := s_frames) l_frames c_frames k_frames
  have b_frames := F_frames.binds (ps := ["prime"]) fun _ _ _ _ _ _ us hl => match us, hl with | [_], _ => rfl
  have F_ulaw_draws := fun_mk (st := s_ulaw_draws) l_ulaw_draws c_ulaw_draws k_ulaw_draws
  have b_ulaw_draws := F_ulaw_draws.binds (ps := ["script", "count"]) fun _ _ _ _ _ _ us hl => match us, hl with | [_, _], _ => rfl
  have F_ulaw_next := fun_mk (st := s_ulaw_next) l_ulaw_next c_ulaw_next k_ulaw_next
  have b_ulaw_next := F_ulaw_next.binds (ps := ["cells", "at", "many"]) fun _ _ _ _ _ _ us hl => match us, hl with | [_, _, _], _ => rfl
  have F_ulaw_upward := fun_mk (st := s_ulaw_upward) l_ulaw_upward c_ulaw_upward k_ulaw_upward
  have b_ulaw_upward := F_ulaw_upward.binds (ps := ["p"]) fun _ _ _ _ _ _ us hl => match us, hl with | [_], _ => rfl
  have F_ulaw_whole := fun_mk (st := s_ulaw_whole) l_ulaw_whole c_ulaw_whole k_ulaw_whole
  have b_ulaw_whole := F_ulaw_whole.binds (ps := ["x"]) fun _ _ _ _ _ _ us hl => match us, hl with | [_], _ => rfl
  have F_ulaw_asked := fun_mk (st := s_ulaw_asked) l_ulaw_asked c_ulaw_asked k_ulaw_asked
  have b_ulaw_asked := F_ulaw_asked.binds (ps := ["which", "p", "thing"]) fun _ _ _ _ _ _ us hl => match us, hl with | [_, _, _], _ => rfl
  have F_ulaw_point := fun_mk (st := s_ulaw_point) l_ulaw_point c_ulaw_point k_ulaw_point
  have b_ulaw_point := F_ulaw_point.binds (ps := ["p", "vector"]) fun _ _ _ _ _ _ us hl => match us, hl with | [_, _], _ => rfl
  have F_ulaw_vectors := fun_mk (st := s_ulaw_vectors) l_ulaw_vectors c_ulaw_vectors k_ulaw_vectors
  have b_ulaw_vectors := F_ulaw_vectors.binds (ps := ["cells", "at", "p"]) fun _ _ _ _ _ _ us hl => match us, hl with | [_, _, _], _ => rfl
  have F_ulaw_frames := fun_mk (st := s_ulaw_frames) l_ulaw_frames c_ulaw_frames k_ulaw_frames
  have b_ulaw_frames := F_ulaw_frames.binds (ps := ["p"]) fun _ _ _ _ _ _ us hl => match us, hl with | [_], _ => rfl
  have F_ulaw_pairs := fun_mk (st := s_ulaw_pairs) l_ulaw_pairs c_ulaw_pairs k_ulaw_pairs
  have b_ulaw_pairs := F_ulaw_pairs.binds (ps := ["told"]) fun _ _ _ _ _ _ us hl => match us, hl with | [_], _ => rfl
  have F_ulaw_refused := fun_mk (st := s_ulaw_refused) l_ulaw_refused c_ulaw_refused k_ulaw_refused
  have b_ulaw_refused := F_ulaw_refused.binds (ps := ["cells", "at", "p"]) fun _ _ _ _ _ _ us hl => match us, hl with | [_, _, _], _ => rfl
  have F_law := fun_mk (st := s_law) l_law c_law k_law
  have b_law := F_law.binds (ps := ["script"]) fun _ _ _ _ _ _ us hl => match us, hl with | [_], _ => rfl
  have T : Txt K mg { a_SizeError_init := f_SizeError_init, fd_SizeError_init := PySem.W.fnOf "__init__" "SizeError.__init__" (defArgs s_SizeError_init) (defBody s_SizeError_init) (defScope s_SizeError_init) .none kV_SizeError_init dc_SizeError_init pm_SizeError_init an_SizeError_init cd_SizeError_init ct_SizeError_init, a_NumberError_init := f_NumberError_init, fd_NumberError_init := PySem.W.fnOf "__init__" "NumberError.__init__" (defArgs s_NumberError_init) (defBody s_NumberError_init) (defScope s_NumberError_init) .none kV_NumberError_init dc_NumberError_init pm_NumberError_init an_NumberError_init cd_NumberError_init ct_NumberError_init, a_check_number := f_check_number, fd_check_number := PySem.W.fnOf "check_number" "check_number" (defArgs s_check_number) (defBody s_check_number) (defScope s_check_number) .none kV_check_number dc_check_number pm_check_number an_check_number cd_check_number ct_check_number, a_is_odd_prime := f_is_odd_prime, fd_is_odd_prime := PySem.W.fnOf "is_odd_prime" "is_odd_prime" (defArgs s_is_odd_prime) (defBody s_is_odd_prime) (defScope s_is_odd_prime) .none kV_is_odd_prime dc_is_odd_prime pm_is_odd_prime an_is_odd_prime cd_is_odd_prime ct_is_odd_prime, a_check_prime := f_check_prime, fd_check_prime := PySem.W.fnOf "check_prime" "check_prime" (defArgs s_check_prime) (defBody s_check_prime) (defScope s_check_prime) .none kV_check_prime dc_check_prime pm_check_prime an_check_prime cd_check_prime ct_check_prime, a_inverse := f_inverse, fd_inverse := PySem.W.fnOf "inverse" "inverse" (defArgs s_inverse) (defBody s_inverse) (defScope s_inverse) .none kV_inverse dc_inverse pm_inverse an_inverse cd_inverse ct_inverse, a_look_number := f_look_number, fd_look_number := PySem.W.fnOf "look_number" "look_number" (defArgs s_look_number) (defBody s_look_number) (defScope s_look_number) .none kV_look_number dc_look_number pm_look_number an_look_number cd_look_number ct_look_number, a_look_prime := f_look_prime, fd_look_prime := PySem.W.fnOf "look_prime" "look_prime" (defArgs s_look_prime) (defBody s_look_prime) (defScope s_look_prime) .none kV_look_prime dc_look_prime pm_look_prime an_look_prime cd_look_prime ct_look_prime, a_look_small_prime := f_look_small_prime, fd_look_small_prime := PySem.W.fnOf "look_small_prime" "look_small_prime" (defArgs s_look_small_prime) (defBody s_look_small_prime) (defScope s_look_small_prime) .none kV_look_small_prime dc_look_small_prime pm_look_small_prime an_look_small_prime cd_look_small_prime ct_look_small_prime, a_look_residue := f_look_residue, fd_look_residue := PySem.W.fnOf "look_residue" "look_residue" (defArgs s_look_residue) (defBody s_look_residue) (defScope s_look_residue) .none kV_look_residue dc_look_residue pm_look_residue an_look_residue cd_look_residue ct_look_residue, a_look_pair := f_look_pair, fd_look_pair := PySem.W.fnOf "look_pair" "look_pair" (defArgs s_look_pair) (defBody s_look_pair) (defScope s_look_pair) .none kV_look_pair dc_look_pair pm_look_pair an_look_pair cd_look_pair ct_look_pair, a_point_of := f_point_of, fd_point_of := PySem.W.fnOf "point_of" "point_of" (defArgs s_point_of) (defBody s_point_of) (defScope s_point_of) .none kV_point_of dc_point_of pm_point_of an_point_of cd_point_of ct_point_of, a_point_vector := f_point_vector, fd_point_vector := PySem.W.fnOf "point_vector" "point_vector" (defArgs s_point_vector) (defBody s_point_vector) (defScope s_point_vector) .none kV_point_vector dc_point_vector pm_point_vector an_point_vector cd_point_vector ct_point_vector, a_frames := f_frames, fd_frames := PySem.W.fnOf "frames" "frames" (defArgs s_frames) (defBody s_frames) (defScope s_frames) .none kV_frames dc_frames pm_frames an_frames cd_frames ct_frames, a_ulaw_draws := f_ulaw_draws, fd_ulaw_draws := PySem.W.fnOf "_law_draws" "_law_draws" (defArgs s_ulaw_draws) (defBody s_ulaw_draws) (defScope s_ulaw_draws) .none kV_ulaw_draws dc_ulaw_draws pm_ulaw_draws an_ulaw_draws cd_ulaw_draws ct_ulaw_draws, a_ulaw_next := f_ulaw_next, fd_ulaw_next := PySem.W.fnOf "_law_next" "_law_next" (defArgs s_ulaw_next) (defBody s_ulaw_next) (defScope s_ulaw_next) .none kV_ulaw_next dc_ulaw_next pm_ulaw_next an_ulaw_next cd_ulaw_next ct_ulaw_next, a_ulaw_upward := f_ulaw_upward, fd_ulaw_upward := PySem.W.fnOf "_law_upward" "_law_upward" (defArgs s_ulaw_upward) (defBody s_ulaw_upward) (defScope s_ulaw_upward) .none kV_ulaw_upward dc_ulaw_upward pm_ulaw_upward an_ulaw_upward cd_ulaw_upward ct_ulaw_upward, a_ulaw_whole := f_ulaw_whole, fd_ulaw_whole := PySem.W.fnOf "_law_whole" "_law_whole" (defArgs s_ulaw_whole) (defBody s_ulaw_whole) (defScope s_ulaw_whole) .none kV_ulaw_whole dc_ulaw_whole pm_ulaw_whole an_ulaw_whole cd_ulaw_whole ct_ulaw_whole, a_ulaw_asked := f_ulaw_asked, fd_ulaw_asked := PySem.W.fnOf "_law_asked" "_law_asked" (defArgs s_ulaw_asked) (defBody s_ulaw_asked) (defScope s_ulaw_asked) .none kV_ulaw_asked dc_ulaw_asked pm_ulaw_asked an_ulaw_asked cd_ulaw_asked ct_ulaw_asked, a_ulaw_point := f_ulaw_point, fd_ulaw_point := PySem.W.fnOf "_law_point" "_law_point" (defArgs s_ulaw_point) (defBody s_ulaw_point) (defScope s_ulaw_point) .none kV_ulaw_point dc_ulaw_point pm_ulaw_point an_ulaw_point cd_ulaw_point ct_ulaw_point, a_ulaw_vectors := f_ulaw_vectors, fd_ulaw_vectors := PySem.W.fnOf "_law_vectors" "_law_vectors" (defArgs s_ulaw_vectors) (defBody s_ulaw_vectors) (defScope s_ulaw_vectors) .none kV_ulaw_vectors dc_ulaw_vectors pm_ulaw_vectors an_ulaw_vectors cd_ulaw_vectors ct_ulaw_vectors, a_ulaw_frames := f_ulaw_frames, fd_ulaw_frames := PySem.W.fnOf "_law_frames" "_law_frames" (defArgs s_ulaw_frames) (defBody s_ulaw_frames) (defScope s_ulaw_frames) .none kV_ulaw_frames dc_ulaw_frames pm_ulaw_frames an_ulaw_frames cd_ulaw_frames ct_ulaw_frames, a_ulaw_pairs := f_ulaw_pairs, fd_ulaw_pairs := PySem.W.fnOf "_law_pairs" "_law_pairs" (defArgs s_ulaw_pairs) (defBody s_ulaw_pairs) (defScope s_ulaw_pairs) .none kV_ulaw_pairs dc_ulaw_pairs pm_ulaw_pairs an_ulaw_pairs cd_ulaw_pairs ct_ulaw_pairs, a_ulaw_refused := f_ulaw_refused, fd_ulaw_refused := PySem.W.fnOf "_law_refused" "_law_refused" (defArgs s_ulaw_refused) (defBody s_ulaw_refused) (defScope s_ulaw_refused) .none kV_ulaw_refused dc_ulaw_refused pm_ulaw_refused an_ulaw_refused cd_ulaw_refused ct_ulaw_refused, a_law := f_law, fd_law := PySem.W.fnOf "law" "law" (defArgs s_law) (defBody s_law) (defScope s_law) .none kV_law dc_law pm_law an_law cd_law ct_law, c_EndsError := C_EndsError, c_SizeError := C_SizeError, c_NumberError := C_NumberError, c_ZeroVector := C_ZeroVector, c_DependentError := C_DependentError, k_MOST := k_MOST, k_SMALL := k_SMALL } :=
    { F_SizeError_init := F_SizeError_init,
      b_SizeError_init := b_SizeError_init,
      F_NumberError_init := F_NumberError_init,
      b_NumberError_init := b_NumberError_init,
      g_check_number := PySem.W.mg_of X G a_check_number,
      F_check_number := F_check_number,
      b_check_number := b_check_number,
      g_is_odd_prime := PySem.W.mg_of X G a_is_odd_prime,
      F_is_odd_prime := F_is_odd_prime,
      b_is_odd_prime := b_is_odd_prime,
      g_check_prime := PySem.W.mg_of X G a_check_prime,
      F_check_prime := F_check_prime,
      b_check_prime := b_check_prime,
      g_inverse := PySem.W.mg_of X G a_inverse,
      F_inverse := F_inverse,
      b_inverse := b_inverse,
      g_look_number := PySem.W.mg_of X G a_look_number,
      F_look_number := F_look_number,
      b_look_number := b_look_number,
      g_look_prime := PySem.W.mg_of X G a_look_prime,
      F_look_prime := F_look_prime,
      b_look_prime := b_look_prime,
      g_look_small_prime := PySem.W.mg_of X G a_look_small_prime,
      F_look_small_prime := F_look_small_prime,
      b_look_small_prime := b_look_small_prime,
      g_look_residue := PySem.W.mg_of X G a_look_residue,
      F_look_residue := F_look_residue,
      b_look_residue := b_look_residue,
      g_look_pair := PySem.W.mg_of X G a_look_pair,
      F_look_pair := F_look_pair,
      b_look_pair := b_look_pair,
      g_point_of := PySem.W.mg_of X G a_point_of,
      F_point_of := F_point_of,
      b_point_of := b_point_of,
      g_point_vector := PySem.W.mg_of X G a_point_vector,
      F_point_vector := F_point_vector,
      b_point_vector := b_point_vector,
      g_frames := PySem.W.mg_of X G a_frames,
      F_frames := F_frames,
      b_frames := b_frames,
      g_ulaw_draws := PySem.W.mg_of X G a_ulaw_draws,
      F_ulaw_draws := F_ulaw_draws,
      b_ulaw_draws := b_ulaw_draws,
      g_ulaw_next := PySem.W.mg_of X G a_ulaw_next,
      F_ulaw_next := F_ulaw_next,
      b_ulaw_next := b_ulaw_next,
      g_ulaw_upward := PySem.W.mg_of X G a_ulaw_upward,
      F_ulaw_upward := F_ulaw_upward,
      b_ulaw_upward := b_ulaw_upward,
      g_ulaw_whole := PySem.W.mg_of X G a_ulaw_whole,
      F_ulaw_whole := F_ulaw_whole,
      b_ulaw_whole := b_ulaw_whole,
      g_ulaw_asked := PySem.W.mg_of X G a_ulaw_asked,
      F_ulaw_asked := F_ulaw_asked,
      b_ulaw_asked := b_ulaw_asked,
      g_ulaw_point := PySem.W.mg_of X G a_ulaw_point,
      F_ulaw_point := F_ulaw_point,
      b_ulaw_point := b_ulaw_point,
      g_ulaw_vectors := PySem.W.mg_of X G a_ulaw_vectors,
      F_ulaw_vectors := F_ulaw_vectors,
      b_ulaw_vectors := b_ulaw_vectors,
      g_ulaw_frames := PySem.W.mg_of X G a_ulaw_frames,
      F_ulaw_frames := F_ulaw_frames,
      b_ulaw_frames := b_ulaw_frames,
      g_ulaw_pairs := PySem.W.mg_of X G a_ulaw_pairs,
      F_ulaw_pairs := F_ulaw_pairs,
      b_ulaw_pairs := b_ulaw_pairs,
      g_ulaw_refused := PySem.W.mg_of X G a_ulaw_refused,
      F_ulaw_refused := F_ulaw_refused,
      b_ulaw_refused := b_ulaw_refused,
      g_law := PySem.W.mg_of X G a_law,
      F_law := F_law,
      b_law := b_law,
      g_EndsError := PySem.W.mg_of X G a_EndsError,
      X_EndsError := ⟨hc_EndsError, hg_EndsError, hk_EndsError, hs_EndsError, hd_EndsError, ha_EndsError, hnD, htD, hm_EndsError⟩,
      x_EndsError := ⟨ex_EndsError, kc_EndsError, hs_EndsError, ty_EndsError⟩,
      g_SizeError := PySem.W.mg_of X G a_SizeError,
      X_SizeError := ⟨hc_SizeError, hg_SizeError, hk_SizeError, hs_SizeError, hd_SizeError, ha_SizeError, hnD, htD, hm_SizeError⟩,
      x_SizeError := ⟨⟨_, _, _, _, _, _, _, _, _, _, _, _, _, _, _, xl_SizeError, xr_SizeError⟩, sa_SizeError, hs_SizeError, ty_SizeError, kc_SizeError⟩,
      xi_SizeError := i_SizeError,
      xt_SizeError := t_SizeError_init,
      xn_SizeError_count := xn_SizeError_count,
      g_NumberError := PySem.W.mg_of X G a_NumberError,
      X_NumberError := ⟨hc_NumberError, hg_NumberError, hk_NumberError, hs_NumberError, hd_NumberError, ha_NumberError, hnD, htD, hm_NumberError⟩,
      x_NumberError := ⟨⟨_, _, _, _, _, _, _, _, _, _, _, _, _, _, _, xl_NumberError, xr_NumberError⟩, sa_NumberError, hs_NumberError, ty_NumberError, kc_NumberError⟩,
      xi_NumberError := i_NumberError,
      xt_NumberError := t_NumberError_init,
      xn_NumberError_number := xn_NumberError_number,
      g_ZeroVector := PySem.W.mg_of X G a_ZeroVector,
      X_ZeroVector := ⟨hc_ZeroVector, hg_ZeroVector, hk_ZeroVector, hs_ZeroVector, hd_ZeroVector, ha_ZeroVector, hnD, htD, hm_ZeroVector⟩,
      x_ZeroVector := ⟨ex_ZeroVector, kc_ZeroVector, hs_ZeroVector, ty_ZeroVector⟩,
      g_DependentError := PySem.W.mg_of X G a_DependentError,
      X_DependentError := ⟨hc_DependentError, hg_DependentError, hk_DependentError, hs_DependentError, hd_DependentError, ha_DependentError, hnD, htD, hm_DependentError⟩,
      x_DependentError := ⟨ex_DependentError, kc_DependentError, hs_DependentError, ty_DependentError⟩,
      g_MOST := PySem.W.mg_of X G a_MOST,
      g_SMALL := PySem.W.mg_of X G a_SMALL,
      n_ValueError := PySem.W.mg_none_of X G z_ValueError,
      n_all := PySem.W.mg_none_of X G z_all,
      n_bool := PySem.W.mg_none_of X G z_bool,
      n_int := PySem.W.mg_none_of X G z_int,
      n_isinstance := PySem.W.mg_none_of X G z_isinstance,
      n_len := PySem.W.mg_none_of X G z_len,
      n_list := PySem.W.mg_none_of X G z_list,
      n_min := PySem.W.mg_none_of X G z_min,
      n_range := PySem.W.mg_none_of X G z_range,
      n_sum := PySem.W.mg_none_of X G z_sum,
      n_tuple := PySem.W.mg_none_of X G z_tuple,
      kt_NumberError_NumberError := kt_NumberError_NumberError,
      kt_NumberError_ZeroVector := kt_NumberError_ZeroVector,
      kt_NumberError_SizeError := kt_NumberError_SizeError,
      kt_NumberError_DependentError := kt_NumberError_DependentError,
      kt_NumberError_ValueError := kt_NumberError_ValueError,
      kt_ZeroVector_NumberError := kt_ZeroVector_NumberError,
      kt_ZeroVector_ZeroVector := kt_ZeroVector_ZeroVector,
      kt_ZeroVector_SizeError := kt_ZeroVector_SizeError,
      kt_ZeroVector_DependentError := kt_ZeroVector_DependentError,
      kt_ZeroVector_ValueError := kt_ZeroVector_ValueError,
      em_EndsError_EndsError := PySem.W.exm_ref hs_EndsError hd_EndsError ty_EndsError su_EndsError_EndsError,
      em_SizeError_EndsError := PySem.W.exm_ref hs_EndsError hd_EndsError ty_EndsError su_SizeError_EndsError,
      em_NumberError_EndsError := PySem.W.exm_ref hs_EndsError hd_EndsError ty_EndsError su_NumberError_EndsError,
      em_ZeroVector_EndsError := PySem.W.exm_ref hs_EndsError hd_EndsError ty_EndsError su_ZeroVector_EndsError,
      em_DependentError_EndsError := PySem.W.exm_ref hs_EndsError hd_EndsError ty_EndsError su_DependentError_EndsError,
      kb_point_vector_0_point_prime := kbind_point_vector_0_point_prime F_point_vector,
      kb_point_of_0_vector_prime := kbind_point_of_0_vector_prime F_point_of }
  exact ⟨_, fun s v => .of_eq rfl, fun base _ _ => ok_law T⟩
theorem walk {l : PySem.W.OpenLaw} {q : Program} {loose : List Str} {XP : (Str → Option Value) → Heap → Prop} {YP : World → Heap → Prop} {d : DefRec} {K : Params → PySem.W.Frag} (hn : l.most = some 63) (hdf : d.params.defaults = [])
    (hY : ∀ (w : World) (h : Heap), YP w h → (K w.params).In h)
    (F : ∀ (w : World) (mg : Str → Option Value) (fa : Addr) (h : Heap), (K w.params).In h → h.Ns mainGlobals mg → mg d.name = some (.ref fa) → ∃ fd : FuncData, (∀ (s : Shared) (u : Value), BindsTo s fd ⟨[u], []⟩ [("script", u)]) ∧
      ∀ base : Heap, (K w.params).In base → base.Ns mainGlobals mg → FnOk l.prog w (K w.params) mg base (L2.CX l.prog w) 10 fa fd ["script"] (spLaw (K w.params))) :
    PySem.W.WalkO q loose XP YP l.row.toRowW d [] (fun f vs => PySem.call f vs) :=
  L2.walk_of (n := 63) (k := 10) (x := "script") (CX := fun w => L2.CX l.prog w) (sp := fun w => spLaw (K w.params)) hn (by decide) hdf ⟨rfl, by decide, by decide⟩ hY F (fun _ _ a ns hl _ hS => ⟨a, ns, rfl, hS, hl, fun _ => rfl⟩) noX
end Lw
set_option pp.maxSteps 300 in
open PySem PySem.W PyProof.Rows in
set_option maxRecDepth 100000 in
set_option maxHeartbeats 0 in
theorem PySem.Challenge.cw_endsflat_k40_points_and_frames_holds : PySem.Challenge.rw_endsflat_k40_points_and_frames.Holds := by
  w_on; o_law; k_head; (case hw => w_witness2)
  k_fill
  refine Lw.walk (l := PySem.Challenge.rw_endsflat_k40_points_and_frames) rfl rfl (fun w h Y => PySem.W.kIn_of Y) ?F
  case F =>
    intro w mg fa h KX G hmg
    refine' Lw.all_mk KX G hmg ?a_EndsError ?hc_EndsError ?hg_EndsError ?hk_EndsError ?hs_EndsError ?hd_EndsError ?ha_EndsError ?hm_EndsError ?ty_EndsError ?kc_EndsError ?ex_EndsError ?a_SizeError ?hc_SizeError ?hg_SizeError ?hk_SizeError ?hs_SizeError ?hd_SizeError ?ha_SizeError ?hm_SizeError ?ty_SizeError ?kc_SizeError ?i_SizeError ?xl_SizeError ?xr_SizeError ?sa_SizeError ?xn_SizeError_count ?a_NumberError ?hc_NumberError ?hg_NumberError ?hk_NumberError ?hs_NumberError ?hd_NumberError ?ha_NumberError ?hm_NumberError ?ty_NumberError ?kc_NumberError ?i_NumberError ?xl_NumberError ?xr_NumberError ?sa_NumberError ?xn_NumberError_number ?a_ZeroVector ?hc_ZeroVector ?hg_ZeroVector ?hk_ZeroVector ?hs_ZeroVector ?hd_ZeroVector ?ha_ZeroVector ?hm_ZeroVector ?ty_ZeroVector ?kc_ZeroVector ?ex_ZeroVector ?a_DependentError ?hc_DependentError ?hg_DependentError ?hk_DependentError ?hs_DependentError ?hd_DependentError ?ha_DependentError ?hm_DependentError ?ty_DependentError ?kc_DependentError ?ex_DependentError ?hnD ?htD ?l_SizeError_init ?c_SizeError_init ?k_SizeError_init ?t_SizeError_init ?l_NumberError_init ?c_NumberError_init ?k_NumberError_init ?t_NumberError_init ?a_check_number ?l_check_number ?c_check_number ?k_check_number ?a_is_odd_prime ?l_is_odd_prime ?c_is_odd_prime ?k_is_odd_prime ?a_check_prime ?l_check_prime ?c_check_prime ?k_check_prime ?a_inverse ?l_inverse ?c_inverse ?k_inverse ?a_look_number ?l_look_number ?c_look_number ?k_look_number ?a_look_prime ?l_look_prime ?c_look_prime ?k_look_prime ?a_look_small_prime ?l_look_small_prime ?c_look_small_prime ?k_look_small_prime ?a_look_residue ?l_look_residue ?c_look_residue ?k_look_residue ?a_look_pair ?l_look_pair ?c_look_pair ?k_look_pair ?a_point_of ?l_point_of ?c_point_of ?k_point_of ?a_point_vector ?l_point_vector ?c_point_vector ?k_point_vector ?a_frames ?l_frames ?c_frames ?k_frames ?a_ulaw_draws ?l_ulaw_draws ?c_ulaw_draws ?k_ulaw_draws ?a_ulaw_next ?l_ulaw_next ?c_ulaw_next ?k_ulaw_next ?a_ulaw_upward ?l_ulaw_upward ?c_ulaw_upward ?k_ulaw_upward ?a_ulaw_whole ?l_ulaw_whole ?c_ulaw_whole ?k_ulaw_whole ?a_ulaw_asked ?l_ulaw_asked ?c_ulaw_asked ?k_ulaw_asked ?a_ulaw_point ?l_ulaw_point ?c_ulaw_point ?k_ulaw_point ?a_ulaw_vectors ?l_ulaw_vectors ?c_ulaw_vectors ?k_ulaw_vectors ?a_ulaw_frames ?l_ulaw_frames ?c_ulaw_frames ?k_ulaw_frames ?a_ulaw_pairs ?l_ulaw_pairs ?c_ulaw_pairs ?k_ulaw_pairs ?a_ulaw_refused ?l_ulaw_refused ?c_ulaw_refused ?k_ulaw_refused ?a_law ?l_law ?c_law ?k_law ?a_MOST ?a_SMALL ?z_ValueError ?z_all ?z_bool ?z_int ?z_isinstance ?z_len ?z_list ?z_min ?z_range ?z_sum ?z_tuple ?kt_NumberError_NumberError ?kt_NumberError_ZeroVector ?kt_NumberError_SizeError ?kt_NumberError_DependentError ?kt_NumberError_ValueError ?kt_ZeroVector_NumberError ?kt_ZeroVector_ZeroVector ?kt_ZeroVector_SizeError ?kt_ZeroVector_DependentError ?kt_ZeroVector_ValueError ?su_EndsError_EndsError ?su_SizeError_EndsError ?su_NumberError_EndsError ?su_ZeroVector_EndsError ?su_DependentError_EndsError
    (case a_EndsError => k_is)
    (case hc_EndsError => k_is)
    (case hg_EndsError => k_is)
    (case hk_EndsError => k_is)
    (case hs_EndsError => k_is)
    (case hd_EndsError => k_is)
    (case ha_EndsError => k_is)
    (case hm_EndsError => k_is)
    (case ty_EndsError => k_is)
    (case kc_EndsError => k_is)
    (case ex_EndsError => k_exc)
    (case a_SizeError => k_is)
    (case hc_SizeError => k_is)
    (case hg_SizeError => k_is)
    (case hk_SizeError => k_is)
    (case hs_SizeError => k_is)
    (case hd_SizeError => k_is)
    (case ha_SizeError => k_is)
    (case hm_SizeError => k_is)
    (case ty_SizeError => k_is)
    (case kc_SizeError => k_is)
    (case i_SizeError => k_is)
    (case xl_SizeError => k_is)
    (case xr_SizeError => decide +kernel)
    (case sa_SizeError => k_is)
    (case xn_SizeError_count => k_is)
    (case a_NumberError => k_is)
    (case hc_NumberError => k_is)
    (case hg_NumberError => k_is)
    (case hk_NumberError => k_is)
    (case hs_NumberError => k_is)
    (case hd_NumberError => k_is)
    (case ha_NumberError => k_is)
    (case hm_NumberError => k_is)
    (case ty_NumberError => k_is)
    (case kc_NumberError => k_is)
    (case i_NumberError => k_is)
    (case xl_NumberError => k_is)
    (case xr_NumberError => decide +kernel)
    (case sa_NumberError => k_is)
    (case xn_NumberError_number => k_is)
    (case a_ZeroVector => k_is)
    (case hc_ZeroVector => k_is)
    (case hg_ZeroVector => k_is)
    (case hk_ZeroVector => k_is)
    (case hs_ZeroVector => k_is)
    (case hd_ZeroVector => k_is)
    (case ha_ZeroVector => k_is)
    (case hm_ZeroVector => k_is)
    (case ty_ZeroVector => k_is)
    (case kc_ZeroVector => k_is)
    (case ex_ZeroVector => k_exc)
    (case a_DependentError => k_is)
    (case hc_DependentError => k_is)
    (case hg_DependentError => k_is)
    (case hk_DependentError => k_is)
    (case hs_DependentError => k_is)
    (case hd_DependentError => k_is)
    (case ha_DependentError => k_is)
    (case hm_DependentError => k_is)
    (case ty_DependentError => k_is)
    (case kc_DependentError => k_is)
    (case ex_DependentError => k_exc)
    (case hnD => k_is)
    (case htD => k_is)
    (case l_SizeError_init => k_is)
    (case c_SizeError_init => k_is)
    (case k_SizeError_init => k_is)
    (case t_SizeError_init => k_is)
    (case l_NumberError_init => k_is)
    (case c_NumberError_init => k_is)
    (case k_NumberError_init => k_is)
    (case t_NumberError_init => k_is)
    (case a_check_number => k_is)
    (case l_check_number => k_is)
    (case c_check_number => k_is)
    (case k_check_number => k_is)
    (case a_is_odd_prime => k_is)
    (case l_is_odd_prime => k_is)
    (case c_is_odd_prime => k_is)
    (case k_is_odd_prime => k_is)
    (case a_check_prime => k_is)
    (case l_check_prime => k_is)
    (case c_check_prime => k_is)
    (case k_check_prime => k_is)
    (case a_inverse => k_is)
    (case l_inverse => k_is)
    (case c_inverse => k_is)
    (case k_inverse => k_is)
    (case a_look_number => k_is)
    (case l_look_number => k_is)
    (case c_look_number => k_is)
    (case k_look_number => k_is)
    (case a_look_prime => k_is)
    (case l_look_prime => k_is)
    (case c_look_prime => k_is)
    (case k_look_prime => k_is)
    (case a_look_small_prime => k_is)
    (case l_look_small_prime => k_is)
    (case c_look_small_prime => k_is)
    (case k_look_small_prime => k_is)
    (case a_look_residue => k_is)
    (case l_look_residue => k_is)
    (case c_look_residue => k_is)
    (case k_look_residue => k_is)
    (case a_look_pair => k_is)
    (case l_look_pair => k_is)
    (case c_look_pair => k_is)
    (case k_look_pair => k_is)
    (case a_point_of => k_is)
    (case l_point_of => k_is)
    (case c_point_of => k_is)
    (case k_point_of => k_is)
    (case a_point_vector => k_is)
    (case l_point_vector => k_is)
    (case c_point_vector => k_is)
    (case k_point_vector => k_is)
    (case a_frames => k_is)
    (case l_frames => k_is)
    (case c_frames => k_is)
    (case k_frames => k_is)
    (case a_ulaw_draws => k_is)
    (case l_ulaw_draws => k_is)
    (case c_ulaw_draws => k_is)
    (case k_ulaw_draws => k_is)
    (case a_ulaw_next => k_is)
    (case l_ulaw_next => k_is)
    (case c_ulaw_next => k_is)
    (case k_ulaw_next => k_is)
    (case a_ulaw_upward => k_is)
    (case l_ulaw_upward => k_is)
    (case c_ulaw_upward => k_is)
    (case k_ulaw_upward => k_is)
    (case a_ulaw_whole => k_is)
    (case l_ulaw_whole => k_is)
    (case c_ulaw_whole => k_is)
    (case k_ulaw_whole => k_is)
    (case a_ulaw_asked => k_is)
    (case l_ulaw_asked => k_is)
    (case c_ulaw_asked => k_is)
    (case k_ulaw_asked => k_is)
    (case a_ulaw_point => k_is)
    (case l_ulaw_point => k_is)
    (case c_ulaw_point => k_is)
    (case k_ulaw_point => k_is)
    (case a_ulaw_vectors => k_is)
    (case l_ulaw_vectors => k_is)
    (case c_ulaw_vectors => k_is)
    (case k_ulaw_vectors => k_is)
    (case a_ulaw_frames => k_is)
    (case l_ulaw_frames => k_is)
    (case c_ulaw_frames => k_is)
    (case k_ulaw_frames => k_is)
    (case a_ulaw_pairs => k_is)
    (case l_ulaw_pairs => k_is)
    (case c_ulaw_pairs => k_is)
    (case k_ulaw_pairs => k_is)
    (case a_ulaw_refused => k_is)
    (case l_ulaw_refused => k_is)
    (case c_ulaw_refused => k_is)
    (case k_ulaw_refused => k_is)
    (case a_law => k_is)
    (case l_law => k_is)
    (case c_law => k_is)
    (case k_law => k_is)
    (case a_MOST => k_is)
    (case a_SMALL => k_is)
    (case z_ValueError => k_is)
    (case z_all => k_is)
    (case z_bool => k_is)
    (case z_int => k_is)
    (case z_isinstance => k_is)
    (case z_len => k_is)
    (case z_list => k_is)
    (case z_min => k_is)
    (case z_range => k_is)
    (case z_sum => k_is)
    (case z_tuple => k_is)
    (case kt_NumberError_NumberError => first | rfl | k_is)
    (case kt_NumberError_ZeroVector => first | rfl | k_is)
    (case kt_NumberError_SizeError => first | rfl | k_is)
    (case kt_NumberError_DependentError => first | rfl | k_is)
    (case kt_NumberError_ValueError => first | rfl | k_is)
    (case kt_ZeroVector_NumberError => first | rfl | k_is)
    (case kt_ZeroVector_ZeroVector => first | rfl | k_is)
    (case kt_ZeroVector_SizeError => first | rfl | k_is)
    (case kt_ZeroVector_DependentError => first | rfl | k_is)
    (case kt_ZeroVector_ValueError => first | rfl | k_is)
    (case su_EndsError_EndsError => first | rfl | k_is)
    (case su_SizeError_EndsError => first | rfl | k_is)
    (case su_NumberError_EndsError => first | rfl | k_is)
    (case su_ZeroVector_EndsError => first | rfl | k_is)
    (case su_DependentError_EndsError => first | rfl | k_is)
