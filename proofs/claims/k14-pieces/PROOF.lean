import PyProof.Rows.All
import Wide.All
import OpenK.AllK
import Wide.FinOn
import HandS.ForMost
import HandS.ForExc
import HandS.Defaults
import HandS.CallSlots
import HandS.IsInst
import HandS.Style
import HandS.Small
import HandS.Conv
import HandS.TryElse
import HandS.HeadHook2
import HandS.Evl
import KE.KStateDown
import Lean
import HandS.HeadEnd
import HandS.Head0
import HandS.Head1
import HandS.Head2
import HandS.HeadHook1
import PySem.Challenge.RW_balepress_k14_pieces
set_option Elab.async false
set_option linter.all false
set_option maxRecDepth 100000
set_option maxHeartbeats 0
/-! BLib: rules that take several kinds of values at once, calls that may let an error out at the caller's slots, and a picture of the heap as a list of own objects over a base. -/
namespace L2.BP
open PySem PySem.Spec PyProof.Rows
section
variable {X : Cx}
/-! ### operators, by kinds -/
def rAddStr : R2 := fun x y H Q => ∃ i j, x = .str i ∧ y = .str j ∧ i.length + j.length ≤ sizeLine ∧ Q (.str (i ++ j)) H
def rAddI : R2 := rI0 fun i j => .int (i + j)
def rAddU : R2 := fun x y H Q => rAddI x y H Q ∨ rAddStr x y H Q ∨ rCat x y H Q
theorem op_addU : OpR X (binaryOp .Add) rAddU := OpR.or op_add (OpR.or op_add_str op_cat)
def rSubU : R2 := rI0 fun i j => .int (i - j)
theorem op_subU : OpR X (binaryOp .Sub) rSubU := op_sub
def rMulI : R2 := rI CMul fun i j => .int (i * j)
def rMulU : R2 := fun x y H Q => rMulI x y H Q ∨ rRep x y H Q
theorem op_mulU : OpR X (binaryOp .Mult) rMulU := OpR.or op_mul op_rep
def rDivU : R2 := rI CDiv fun i j => .int (i / j)
theorem op_divU : OpR X (binaryOp .FloorDiv) rDivU := op_fdiv
def rModU : R2 := rI (fun _ j => 0 < j) fun i j => .int (i % j)
theorem op_modU : OpR X (binaryOp .Mod) rModU := op_mod
def rPowU : R2 := rI CPow fun i j => .int (i ^ j.toNat)
theorem op_powU : OpR X (binaryOp .Pow) rPowU := op_pow
def rShlU : R2 := rI CPow fun i j => .int (i * 2 ^ j.toNat)
theorem op_shlU : OpR X (binaryOp .LShift) rShlU := op_shl
def rShrU : R2 := rI (fun _ j => 0 ≤ j) fun i j => .int (i / 2 ^ j.toNat)
theorem op_shrU : OpR X (binaryOp .RShift) rShrU := op_shr
def rAndU : R2 := rI0 fun i j => .int (Builtin.bitAnd i j)
theorem op_andU : OpR X (binaryOp .BitAnd) rAndU := op_and
def rOrU : R2 := rI0 fun i j => .int (Builtin.bitOr i j)
theorem op_orU : OpR X (binaryOp .BitOr) rOrU := op_or
def rXorU : R2 := rI0 fun i j => .int (Builtin.bitXor i j)
theorem op_xorU : OpR X (binaryOp .BitXor) rXorU := op_xor
def rNegU : V → Hp → VK → Prop := rU fun i => .int (-i)
theorem un_negU : UnR X (unaryOp .USub) rNegU := un_neg
def rLtU : R2 := rI0 fun i j => .bl (decide (i < j))
theorem op_ltU : OpR X (compareOp .Lt) rLtU := op_lt
def rLeU : R2 := rI0 fun i j => .bl (decide (i ≤ j))
theorem op_leU : OpR X (compareOp .LtE) rLeU := op_le
def rGtU : R2 := rI0 fun i j => .bl (decide (j < i))
theorem op_gtU : OpR X (compareOp .Gt) rGtU := op_gt
def rGeU : R2 := rI0 fun i j => .bl (decide (j ≤ i))
theorem op_geU : OpR X (compareOp .GtE) rGeU := op_ge
def rEqU (K : PySem.W.Frag) : R2 := fun x y H Q => rEq x y H Q ∨ rEqD K x y H Q
theorem op_eqU (hu : X.A.units + 64 < cLine) : OpR X (compareOp .Eq) (rEqU X.K) := OpR.or op_eq (op_eqD hu)
def rNeU (K : PySem.W.Frag) : R2 := fun x y H Q => rNe x y H Q ∨ rNeD K x y H Q
theorem op_neU (hu : X.A.units + 64 < cLine) : OpR X (compareOp .NotEq) (rNeU X.K) := OpR.or op_ne (op_neD hu)
def rInStr : R2 := fun x y H Q => ∃ i j, x = .str i ∧ y = .str j ∧ Q (.bl (!(Builtin.Str.occurrences j i 0 j.length 1).isEmpty)) H
def rNiStr : R2 := fun x y H Q => ∃ i j, x = .str i ∧ y = .str j ∧ Q (.bl (!(!(Builtin.Str.occurrences j i 0 j.length 1).isEmpty))) H
def rInU (K : PySem.W.Frag) : R2 := fun x y H Q => rIn K false x y H Q ∨ rInStr x y H Q
theorem op_inU : OpR X (compareOp .In) (rInU X.K) := OpR.or op_in_seq op_in_str
def rNiU (K : PySem.W.Frag) : R2 := fun x y H Q => rIn K true x y H Q ∨ rNiStr x y H Q
theorem op_niU : OpR X (compareOp .NotIn) (rNiU X.K) := OpR.or op_notIn_seq op_notIn_str
def rIsNo : R2 := fun x y H Q => y = .non ∧ Q (.bl (decide (x = .non))) H
def rNotNo : R2 := fun x y H Q => y = .non ∧ Q (.bl (!decide (x = .non))) H
def rIsU : R2 := fun x y H Q => rIsNo x y H Q ∨ rIsB x y H Q
theorem op_isU : OpR X (compareOp .Is) rIsU := OpR.or op_isN op_isBl
def rNotU : R2 := fun x y H Q => rNotNo x y H Q ∨ rNotB x y H Q
theorem op_notU : OpR X (compareOp .IsNot) rNotU := OpR.or op_notN op_notBl
/-! ### in place -/
def ipAddI : TIp := ipI fun i j => i + j
def ipAddU : TIp := fun x y H Q => ipAddI x y H Q ∨ rExt2 x y H Q ∨ rAddStr x y H Q
theorem ip_addU : PIp X .Add ipAddU := fun pins s σ H x y v u Q I rx ry h => by
  rcases h with h | h | h
  · exact ip_add pins s σ H x y v u Q I rx ry h
  · exact iop_ext pins s σ H x y v u Q I rx ry h
  · exact iop_add_str pins s σ H x y v u Q I rx ry h
def ipSubU : TIp := ipI fun i j => i - j
theorem ip_subU : PIp X .Sub ipSubU := ip_sub
/-! ### slices, walks -/

end
end L2.BP
namespace L2.BP
open PySem PySem.Spec PyProof.Rows
/-! ### calls that may let an error out, wished for at the caller's slots -/
section
variable {X : Cx} {k : Nat} {f C : Addr} {fd : FuncData} {ps : List Str} {sp : Sp} {dvs : List V} {ds : List Value} {W : WX} {x m : Str} {p pos apos : Pos} {e o : Expr} {es : List Expr} {ta : TE} {t : TA}
/-- f(e, ..) -/
def tCl (sp : Sp) (dvs : List V) (W : WX) (t : TA) : TE := fun σ H Q => t σ H fun vs H1 => sp (vs ++ dvs) H1 Q fun c d H2 => W c d σ H2
theorem pe_cl (F : FnOk X.prog X.w X.K X.mg X.base (L2.CX X.prog X.w) k f fd ps sp) (hr : Room k X.A) (hg : Gl X x) (hm : X.mg x = some (.ref f)) (hk : PySem.W.keepIn X.K (.ref f) = true)
    (hb : Binds X.K fd ps ds) (hd : Vals dvs ds) (tk : Takes X W) (ha : PA X (e :: es) t) (hdb : (x == ("__debug__" : Str)) = false := by decide)
    (he : starEach (e :: es) X.env = (false, eval e X.env) :: starEach es X.env := by rfl) (hpl : (backTo pos (starEach es X.env)).any (·.1) = false := by rfl) :
    PE X (.Call (.Name x p) (e :: es) [] pos) (tCl sp dvs W t) :=
  pe_callSD (E := WE W) F hr hg hm hk hb hd (fun σ => passAt tk σ) ha hdb he hpl
theorem pe_cl0 (F : FnOk X.prog X.w X.K X.mg X.base (L2.CX X.prog X.w) k f fd ps sp) (hr : Room k X.A) (hg : Gl X x) (hm : X.mg x = some (.ref f)) (hk : PySem.W.keepIn X.K (.ref f) = true)
    (hb : Binds X.K fd ps ds) (hd : Vals dvs ds) (tk : Takes X W) (hdb : (x == ("__debug__" : Str)) = false := by decide) :
    PE X (.Call (.Name x p) [] [] pos) (tCl sp dvs W tNil) := by
  constructor
  intro pins s σ H Q I h
  have go := run_fnSD (E := WE W) (us := []) F hr hb hd (passAt tk σ) I .nil h
  exact wpAny_Call_Name_kw (ld_glob I hg hm (PySem.W.callWith_K0 I.kIn hk go) hdb)
/-- o.m(e, ..) -/
def tMt (C : Addr) (m : Str) (sp : Sp) (dvs : List V) (W : WX) (ta : TE) (t : TA) : TE := fun σ H Q => ta σ H fun x H1 => ∃ a dx fs, x = .ref a ∧ H1 a = some (.ins C dx fs) ∧ fs.lookup m = none ∧
  t σ H1 fun vs H2 => sp (x :: (vs ++ dvs)) H2 Q fun c d H3 => W c d σ H3
theorem pe_mt' {pl : Sem Bool} (he : PE X o ta) (c : Cls X.K C) (hm : Meth X.K C m f) (F : FnOk X.prog X.w X.K X.mg X.base (L2.CX X.prog X.w) k f fd ps sp) (hr : Room k X.A)
    (hb : Binds X.K fd ps ds) (hd : Vals dvs ds) (tk : Takes X W) (ha : PA X (e :: es) t)
    (hst : starEach (e :: es) X.env = (false, eval e X.env) :: starEach es X.env := by rfl) (hpl : (backTo pos (starEach es X.env)).any (·.1) = false := by rfl)
    (ht : eval (.Call (.Attribute o m apos) (e :: es) [] pos) X.env = (do
      let ov ← eval o X.env; standAt apos.atName
      let (f, first) ← holding [ov] (getMethod ov m pl); callWith pos f first (backTo pos (starEach (e :: es) X.env)) (backToKw pos (keywordEach [] X.env))) := by rfl) :
    PE X (.Call (.Attribute o m apos) (e :: es) [] pos) (tMt C m sp dvs W ta t) := by
  constructor
  intro pins s σ H Q I h
  refine PySem.W.methodCall_KW (pl := pl) (thn (he.run pins s σ H _ I h) ?_) ht
  rintro u s1 ⟨x, H1, I1, rx, a, dx, fs, rfl, ea, l, q⟩
  cases (show u = Value.ref a from rx)
  refine getmeth_ok I1 ea c hm l (PySem.W.callWith_K (first := [.ref a]) (h₀ := X.base) I.ok.mod.kin hm.kp ?_ hst hpl)
  refine thn (ha.run pos pins s1 σ H1 _ I1 q) ?_
  rintro us s2 ⟨vs, H2, I2, r, q2⟩
  exact ⟨I2.kIn, run_fnSD (E := WE W) (us := .ref a :: us) (vs := .ref a :: vs) F hr hb hd (passAt tk σ) I2 (.cons rfl r) q2⟩
theorem pe_mt0' {pl : Sem Bool} (he : PE X o ta) (c : Cls X.K C) (hm : Meth X.K C m f) (F : FnOk X.prog X.w X.K X.mg X.base (L2.CX X.prog X.w) k f fd ps sp) (hr : Room k X.A)
    (hb : Binds X.K fd ps ds) (hd : Vals dvs ds) (tk : Takes X W)
    (ht : eval (.Call (.Attribute o m apos) [] [] pos) X.env = (do
      let ov ← eval o X.env; standAt apos.atName
      let (f, first) ← holding [ov] (getMethod ov m pl); callWith pos f first (backTo pos (starEach [] X.env)) (backToKw pos (keywordEach [] X.env))) := by rfl) :
    PE X (.Call (.Attribute o m apos) [] [] pos) (tMt C m sp dvs W ta tNil) := by
  constructor
  intro pins s σ H Q I h
  refine PySem.W.methodCall_KW (pl := pl) (thn (he.run pins s σ H _ I h) ?_) ht
  rintro u s1 ⟨x, H1, I1, rx, a, dx, fs, rfl, ea, l, q⟩
  cases (show u = Value.ref a from rx)
  refine getmeth_ok I1 ea c hm l ?_
  have go := run_fnSD (E := WE W) (us := [.ref a]) (vs := [.ref a]) F hr hb hd (passAt tk σ) I1 (.cons rfl .nil) q
  exact PySem.W.callWith_K0 (first := [.ref a]) I1.kIn hm.kp go
/-- C(e, ..) -/
def tMk (C : Addr) (sp : Sp) (dvs : List V) (W : WX) (t : TA) : TE := fun σ H Q => t σ H fun vs H1 => ∀ x dx, H1 x = none → H1 dx = none → dx ≠ x →
  sp (.ref x :: (vs ++ dvs)) (upd (upd H1 dx (.own x)) x (.ins C dx [])) (fun v H2 => v = .non ∧ Q (.ref x) H2) fun c d H2 => W c d σ H2
theorem run_mk {pins : List (Addr × Obj)} {σ : St} {H : Hp} {s : Shared} {Q : VK} {us : List Value} {vs : List V} (M : Mk X.K C f) (F : FnOk X.prog X.w X.K X.mg X.base (L2.CX X.prog X.w) k f fd ps sp) (hr : Room (k + 1) X.A)
    (hb : Binds X.K fd ps ds) (hd : Vals dvs ds) (tk : Takes X W) (I : Inv X pins σ H s) (r : Vals vs us)
    (h : ∀ x dx, H x = none → H dx = none → dx ≠ x → sp (.ref x :: (vs ++ dvs)) (upd (upd H dx (.own x)) x (.ins C dx [])) (fun v H2 => v = .non ∧ Q (.ref x) H2) fun c d H2 => W c d σ H2) :
    wpAny (model X.prog X.w) X.A (call (.ref C) us) (EP X pins σ Q) X.xe s := by
  have hq := h (s.heap.objs.size + 1) s.heap.objs.size (I.hok.fresh (Nat.le_succ _)) (I.hok.fresh (Nat.le_refl _)) (Nat.ne_of_lt (Nat.lt_succ_self _))
  have J := Inv.made (C := C) I
  have rr : Vals (V.ref (s.heap.objs.size + 1) :: (vs ++ dvs)) (Value.ref (s.heap.objs.size + 1) :: (us ++ ds)) := .cons rfl (r.append hd)
  have hl : (Value.ref (s.heap.objs.size + 1) :: us ++ ds).length = ps.length := by
    have e1 := rr.length
    rw [F.len _ _ _ _ hq] at e1
    exact e1.symm
  have run := F.run _ X.stack _ _ ⟨Value.ref (s.heap.objs.size + 1) :: us, []⟩ (Value.ref (s.heap.objs.size + 1) :: (us ++ ds)) _ _ _ (hr.make C us []) (J.env0.make C us []) (hb _ (Value.ref (s.heap.objs.size + 1) :: us) J.kIn hl) rr hq
  refine wpAny_call (make_map (f := f) I.kIn M.makes M.init (beq_iff_eq.mp M.fn) (codeAny_mono run ?_))
  intro r s' z
  match r, z with
  | .error e, z => exact (passAt tk σ) pins _ _ e s' J z
  | .ok (.ret u), z =>
    obtain ⟨v, H', J3, rv, ev, q3⟩ := J.after z
    subst ev
    exact ⟨rv, ⟨V.ref (s.heap.objs.size + 1), H', J3, rfl, q3⟩⟩
theorem pe_mk' (M : Mk X.K C f) (F : FnOk X.prog X.w X.K X.mg X.base (L2.CX X.prog X.w) k f fd ps sp) (hr : Room (k + 1) X.A) (hg : Gl X x) (hm : X.mg x = some (.ref C))
    (hb : Binds X.K fd ps ds) (hd : Vals dvs ds) (tk : Takes X W) (ha : PA X (e :: es) t) (hdb : (x == ("__debug__" : Str)) = false := by decide)
    (he : starEach (e :: es) X.env = (false, eval e X.env) :: starEach es X.env := by rfl) (hpl : (backTo pos (starEach es X.env)).any (·.1) = false := by rfl) :
    PE X (.Call (.Name x p) (e :: es) [] pos) (tMk C sp dvs W t) := by
  constructor
  intro pins s σ H Q I h
  refine wpAny_Call_Name_kw (ld_glob I hg hm (PySem.W.callWith_K (h₀ := X.base) I.ok.mod.kin M.kp ?_ he hpl) hdb)
  refine thn (ha.run pos pins s σ H _ I h) ?_
  rintro us s1 ⟨vs, H1, I1, r, q⟩
  exact ⟨I1.kIn, run_mk M F hr hb hd tk I1 r q⟩
theorem pe_mk0' (M : Mk X.K C f) (F : FnOk X.prog X.w X.K X.mg X.base (L2.CX X.prog X.w) k f fd ps sp) (hr : Room (k + 1) X.A) (hg : Gl X x) (hm : X.mg x = some (.ref C))
    (hb : Binds X.K fd ps ds) (hd : Vals dvs ds) (tk : Takes X W) (hdb : (x == ("__debug__" : Str)) = false := by decide) :
    PE X (.Call (.Name x p) [] [] pos) (tMk C sp dvs W tNil) := by
  constructor
  intro pins s σ H Q I h
  have go := run_mk (us := []) M F hr hb hd tk I .nil h
  exact wpAny_Call_Name_kw (ld_glob I hg hm (PySem.W.callWith_K0 I.kIn M.kp go) hdb)
end
/-! ### an error raised -/
def tRz (C : Addr) (W : WX) : TS := fun _ σ H => W (.ref C) none σ H
theorem ps_rz {X : Cx} {W : WX} {C : Addr} {x m : Str} {j : Nat} {p p2 pos pos2 : Pos} (hc : X.calm = true) (tk : Takes X W) (q : PySem.W.excIn X.K C He.veBase "ValueError.__new__" = true ∧ PySem.W.keepIn X.K (.ref C) = true ∧ PySem.W.subIn X.K (.ref C) (.type "BaseException") = some true ∧ PySem.W.typeIn X.K (.ref C) = some (.type "type"))
    (gC : X.mg x = some (.ref C)) (hg : Gl X x) (hdb : (x == ("__debug__" : Str)) = false := by decide) :
    PS X (.Raise (some (.Call (.Name x p) [.Constant (.str m) j p2] [] pos)) none pos2) (tRz C W) :=
  ps_raise hc tk (pmk_own PySem.F.excBase_ValueError q.1 gC q.2.1 (raises_own q.2.2.1 q.2.2.2) hg hdb)
/-! ### names of the module -/
section
variable {X : Cx} {x : Str} {pos : Pos}
theorem pe_gint {i : Int} (hg : Gl X x) (hm : ∃ t, X.mg x = some (.int i t)) (hd : (x == ("__debug__" : Str)) = false := by decide) : PE X (.Name x pos) (tC (.int i)) :=
  hm.elim fun t h => pe_glob (v := .int i) hg h ⟨t, rfl⟩ hd
theorem pe_gstr {z : Str} (hg : Gl X x) (hm : ∃ t, X.mg x = some (.str z t)) (hd : (x == ("__debug__" : Str)) = false := by decide) : PE X (.Name x pos) (tC (.str z)) :=
  hm.elim fun t h => pe_glob (v := .str z) hg h ⟨t, rfl⟩ hd
theorem pe_gref {a : Addr} (hg : Gl X x) (hm : X.mg x = some (.ref a)) (hd : (x == ("__debug__" : Str)) = false := by decide) : PE X (.Name x pos) (tC (.ref a)) := pe_glob (v := .ref a) hg hm rfl hd
theorem pe_bty {n : String} (hg : Gl X x) (hm : X.mg x = none) (hv : bootBuiltins x = some (.type n)) (hn : x ≠ "__name__" := by decide) (hd : (x == ("__debug__" : Str)) = false := by decide) : PE X (.Name x pos) (tC (.ty n)) := pe_bltn (v := .ty n) hg hm hv rfl hn hd
end
theorem bt_int : bootBuiltins "int" = some (.type "int") := by decide +kernel
theorem bt_bool : bootBuiltins "bool" = some (.type "bool") := by decide +kernel
theorem bt_str : bootBuiltins "str" = some (.type "str") := by decide +kernel
theorem bt_list : bootBuiltins "list" = some (.type "list") := by decide +kernel
theorem bt_tuple : bootBuiltins "tuple" = some (.type "tuple") := by decide +kernel
theorem bt_dict : bootBuiltins "dict" = some (.type "dict") := by decide +kernel
theorem bt_ValueError : bootBuiltins "ValueError" = some (.type "ValueError") := by decide +kernel
theorem bt_set : bootBuiltins "set" = some (.type "set") := by decide +kernel
theorem bb_len : bootBuiltins "len" = some (.builtin "len") := by decide +kernel
theorem bb_isinstance : bootBuiltins "isinstance" = some (.builtin "isinstance") := by decide +kernel
theorem bb_all : bootBuiltins "all" = some (.builtin "all") := by decide +kernel
theorem bb_any : bootBuiltins "any" = some (.builtin "any") := by decide +kernel
theorem bb_sum : bootBuiltins "sum" = some (.builtin "sum") := by decide +kernel
theorem bb_min : bootBuiltins "min" = some (.builtin "min") := by decide +kernel
theorem bb_max : bootBuiltins "max" = some (.builtin "max") := by decide +kernel
theorem bb_abs : bootBuiltins "abs" = some (.builtin "abs") := by decide +kernel
theorem bb_divmod : bootBuiltins "divmod" = some (.builtin "divmod") := by decide +kernel
theorem bb_sorted : bootBuiltins "sorted" = some (.builtin "sorted") := by decide +kernel
theorem bb_repr : bootBuiltins "repr" = some (.builtin "repr") := by decide +kernel
/-! ### calls of built-ins by several kinds -/
section
variable {X : Cx}
def rLenK (K : PySem.W.Frag) : List V → Hp → VK → Prop := fun xs H Q => ∃ x n, xs = [x] ∧ LenV K x H n ∧ Q (.int n) H
theorem cr_lenK : CallR X (.builtin "len") (rLenK X.K) := call_len
def rIntK : List V → Hp → VK → Prop := fun xs H Q => (∃ i, xs = [.int i] ∧ Q (.int i) H) ∨ ∃ k, xs = [.bl k] ∧ Q (.int (if k then 1 else 0)) H
theorem cr_intK : CallR X (.type "int") rIntK := call_int1
def rListK (K : PySem.W.Frag) : List V → Hp → VK → Prop := fun xs H Q => ∃ p ys, xs = [.ref p] ∧ (SqL K H p ys ∨ SqT K H p ys) ∧ ∀ l, H l = none → Q (.ref l) (upd H l (.lst ys))
theorem cr_listK : CallR X (.type "list") (rListK X.K) := call_list_of
def rTupleK (K : PySem.W.Frag) : List V → Hp → VK → Prop := fun xs H Q => ∃ p ys, xs = [.ref p] ∧ ((SqL K H p ys ∧ ∀ l, H l = none → Q (.ref l) (upd H l (.tup ys))) ∨ (SqT K H p ys ∧ Q (.ref p) H))
theorem cr_tupleK : CallR X (.type "tuple") (rTupleK X.K) := call_tuple_of
def rDivmodK : List V → Hp → VK → Prop := fun xs H Q => ∃ i j, xs = [.int i, .int j] ∧ CDiv i j ∧ ∀ p, H p = none → Q (.ref p) (upd H p (.tup [.int (i / j), .int (i % j)]))
theorem cr_divmodK : CallR X (.builtin "divmod") rDivmodK := call_divmod
def rMax2K : List V → Hp → VK → Prop := fun xs H Q => ∃ i j, xs = [.int i, .int j] ∧ Q (.int (if j > i then j else i)) H
theorem cr_max2K (hc : X.calm = true) : CallR X (.builtin "max") rMax2K := call_max2 hc
def rMin2K : List V → Hp → VK → Prop := fun xs H Q => ∃ i j, xs = [.int i, .int j] ∧ Q (.int (if j < i then j else i)) H
theorem cr_min2K (hc : X.calm = true) : CallR X (.builtin "min") rMin2K := call_min2 hc
def rAbsK : List V → Hp → VK → Prop := fun xs H Q => ∃ i, xs = [.int i] ∧ Q (.int (if i < 0 then -i else i)) H
theorem cr_absK : CallR X (.builtin "abs") rAbsK := call_abs
def rSlK (K : PySem.W.Frag) : V → Option Int → Option Int → Hp → VK → Prop := fun x lo hi H Q => rSlL K x lo hi H Q ∨ rSlS x lo hi H Q ∨ rSlT K x lo hi H Q
theorem sl_K : SlR X (rSlK X.K) := SlR.or sl_list (SlR.or sl_str sl_tup)
end
end L2.BP
namespace L2.BP
open PySem PySem.Spec PyProof.Rows
/-! ### the heap as own objects over a base -/
structure Hs (B : Hp) (L : List (Addr × HO)) (H : Hp) : Prop where
  ex : Same B H
  nd : (L.map (·.1)).Nodup
  own : ∀ q ∈ L, H q.1 = some q.2 ∧ B q.1 = none
section
variable {B H H' : Hp} {L : List (Addr × HO)} {p : Addr} {o o' : HO} {K : PySem.W.Frag}
theorem Hs.start (H : Hp) : Hs H [] H := ⟨Same.refl H, .nil, fun _ h => nomatch h⟩
theorem Hs.same (h : Hs B L H) (s : Same H H') : Hs B L H' := ⟨h.ex.trans s, h.nd, fun q m => ⟨s _ _ (h.own q m).1, (h.own q m).2⟩⟩
theorem Hs.newS (h : Hs B L H) (hp : H p = none) (s : Same H H') (hn : H' p = some o) : Hs B ((p, o) :: L) H' where
  ex := h.ex.trans s
  nd := by
    refine List.nodup_cons.mpr ⟨fun m => ?_, h.nd⟩
    obtain ⟨q, mq, e⟩ := List.mem_map.mp m
    have z := (h.own q mq).1
    rw [e, hp] at z
    cases z
  own := fun q m => by
    rcases List.mem_cons.mp m with rfl | m
    · exact ⟨hn, h.ex.free hp⟩
    · exact ⟨s _ _ (h.own q m).1, (h.own q m).2⟩
theorem same_upd (hp : H p = none) : Same H (upd H p o) := fun b u e => by rw [upd_ne (ne_of_none e hp)]; exact e
theorem Hs.new (h : Hs B L H) (hp : H p = none) : Hs B ((p, o) :: L) (upd H p o) := h.newS hp (same_upd hp) upd_same
theorem Hs.drop {q : Addr × HO} (h : Hs B (q :: L) H) : Hs B L H := ⟨h.ex, (List.nodup_cons.mp h.nd).2, fun z m => h.own z (List.mem_cons_of_mem _ m)⟩
theorem Hs.get (h : Hs B L H) (m : (p, o) ∈ L) : H p = some o := (h.own _ m).1
theorem Hs.nb (h : Hs B L H) (m : (p, o) ∈ L) : B p = none := (h.own _ m).2
/-- the first of the own objects changed -/
theorem Hs.chg (h : Hs B ((p, o) :: L) H) (k : ∀ b u, b ≠ p → H b = some u → H' b = some u) (hn : H' p = some o') : Hs B ((p, o') :: L) H' where
  ex := fun b u e => k b u (ne_of_none e (h.nb (o := o) (.head _))) (h.ex b u e)
  nd := h.nd
  own := fun q m => by
    rcases List.mem_cons.mp m with rfl | m
    · exact ⟨hn, h.nb (o := o) (.head _)⟩
    · refine ⟨k _ _ (fun z => ?_) (h.own q (.tail _ m)).1, (h.own q (.tail _ m)).2⟩
      exact (List.nodup_cons.mp h.nd).1 (List.mem_map.mpr ⟨q, m, z⟩)
theorem Hs.perm {L' : List (Addr × HO)} (h : Hs B L H) (q : L.Perm L') : Hs B L' H := ⟨h.ex, (q.map _).nodup_iff.mp h.nd, fun z m => h.own z (q.mem_iff.mpr m)⟩
theorem Hs.swap {a b : Addr × HO} (h : Hs B (a :: b :: L) H) : Hs B (b :: a :: L) H := h.perm (.swap b a L)
theorem Hs.rot3 {a b c : Addr × HO} (h : Hs B (a :: b :: c :: L) H) : Hs B (c :: a :: b :: L) H := h.perm ((List.Perm.cons a (.swap c b L)).trans (.swap c a (b :: L)))
theorem Hs.unrot3 {a b c : Addr × HO} (h : Hs B (c :: a :: b :: L) H) : Hs B (a :: b :: c :: L) H := h.perm (((List.Perm.cons a (.swap c b L)).trans (.swap c a (b :: L))).symm)
theorem Hs.u0 (h : Hs B ((p, o) :: L) H) : Hs B ((p, o') :: L) (upd H p o') := h.chg (fun b u n e => by rw [upd_ne n]; exact e) upd_same
theorem Hs.u1 {a : Addr × HO} (h : Hs B (a :: (p, o) :: L) H) : Hs B (a :: (p, o') :: L) (upd H p o') := h.swap.u0.swap
theorem Hs.u2 {a b : Addr × HO} (h : Hs B (a :: b :: (p, o) :: L) H) : Hs B (a :: b :: (p, o') :: L) (upd H p o') := h.rot3.u0.unrot3
theorem Hs.u3 {a b c : Addr × HO} (h : Hs B (a :: b :: c :: (p, o) :: L) H) : Hs B (a :: b :: c :: (p, o') :: L) (upd H p o') := by
  have e : (a :: b :: c :: (p, o) :: L).Perm ((p, o) :: a :: b :: c :: L) := (List.perm_middle (l₁ := [a, b, c]) (a := (p, o)) (l₂ := L))
  have e' : ((p, o') :: a :: b :: c :: L).Perm (a :: b :: c :: (p, o') :: L) := (List.perm_middle (l₁ := [a, b, c]) (a := (p, o')) (l₂ := L)).symm
  exact ((h.perm e).u0 (o' := o')).perm e'
/-- the first one is laid to the base: it changes no more -/
theorem Hs.fix (h : Hs B ((p, o) :: L) H) : Hs (upd B p o) L H where
  ex := fun b u e => by
    by_cases hb : b = p
    · subst hb
      rw [upd_same] at e
      cases e
      exact h.get (.head _)
    · rw [upd_ne hb] at e
      exact h.ex b u e
  nd := (List.nodup_cons.mp h.nd).2
  own := fun q m => by
    refine ⟨(h.own q (.tail _ m)).1, ?_⟩
    have n : q.1 ≠ p := fun z => (List.nodup_cons.mp h.nd).1 (List.mem_map.mpr ⟨q, m, z⟩)
    rw [upd_ne n]
    exact (h.own q (.tail _ m)).2
theorem Hs.sql {xs : List V} (h : Hs B L H) (m : (p, HO.lst xs) ∈ L) : SqL K H p xs := .of (h.get m)
theorem Hs.sqt {xs : List V} (h : Hs B L H) (m : (p, HO.tup xs) ∈ L) : SqT K H p xs := .of (h.get m)
theorem Hs.bl {xs : List V} (h : Hs B L H) (m : SqL K B p xs) : SqL K H p xs := h.ex.seq m
theorem same_sqt {xs : List V} (e : Same H H') (h : SqT K H p xs) : SqT K H' p xs := by
  rcases h with (h | ⟨u, h⟩) | h
  · exact .inl (.inl (e _ _ h))
  · exact .inl (.inr ⟨u, e _ _ h⟩)
  · exact .inr h
theorem Hs.bt {xs : List V} (h : Hs B L H) (m : SqT K B p xs) : SqT K H p xs := same_sqt h.ex m
mutual
theorem dp_same (e : Same H H') : ∀ {v : V} {d : PyData}, Dp K H v d → Dp K H' v d
  | _, _, .non => .non
  | _, _, .bl b => .bl b
  | _, _, .int i => .int i
  | _, _, .str x => .str x
  | _, _, .lst h a => .lst (e.seq h) (dpa_same e a)
  | _, _, .tup h a => .tup (same_sqt e h) (dpa_same e a)
theorem dpa_same (e : Same H H') : ∀ {vs : List V} {ds : List PyData}, DpAll K H vs ds → DpAll K H' vs ds
  | _, _, .nil => .nil
  | _, _, .cons h a => .cons (dp_same e h) (dpa_same e a)
end
theorem dpa_ints : ∀ ns : List Int, DpAll K H (ns.map V.int) (ns.map PyData.int)
  | [] => .nil
  | n :: r => .cons (.int n) (dpa_ints r)
end
/-! ### readings, step by step -/
section
variable {σ : St} {H : Hp} {Q : VK} {v x y : V} {i j : Int} {ta tb te : TE} {K : PySem.W.Frag} {r : R2} {B : Hp} {L : List (Addr × HO)}
theorem c_var {n : Nat} (h : σ[n]? = some (some v)) (k : Q v H) : tVar n σ H Q := ⟨v, h, k⟩
theorem c_c (k : Q v H) : tC v σ H Q := k
theorem c_op (k : ta σ H fun x H1 => tb σ H1 fun y H2 => r x y H2 Q) : tOp r ta tb σ H Q := k
theorem c_un {r : V → Hp → VK → Prop} (k : ta σ H fun x H1 => r x H1 Q) : tUn r ta σ H Q := k
theorem c_addI (k : Q (.int (i + j)) H) : rAddU (.int i) (.int j) H Q := .inl ⟨i, j, rfl, rfl, k⟩
theorem c_addS {a b : Str} (h : a.length + b.length ≤ sizeLine) (k : Q (.str (a ++ b)) H) : rAddU (.str a) (.str b) H Q := .inr (.inl ⟨a, b, rfl, rfl, h, k⟩)
theorem c_addL {p q : Addr} {xs ys : List V} (h : Hs B L H) (hp : H p = some (.lst xs)) (hq : H q = some (.lst ys)) (hl : xs.length + ys.length ≤ sizeLine)
    (k : ∀ a H', Hs B ((a, .lst (xs ++ ys)) :: L) H' → Q (.ref a) H') : rAddU (.ref p) (.ref q) H Q :=
  .inr (.inr ⟨p, q, xs, ys, rfl, rfl, hp, hq, hl, fun a ha => k a _ (h.new ha)⟩)
theorem c_sub (k : Q (.int (i - j)) H) : rSubU (.int i) (.int j) H Q := ⟨i, j, rfl, rfl, k⟩
theorem c_mulI (h : CMul i j) (k : Q (.int (i * j)) H) : rMulU (.int i) (.int j) H Q := .inl ⟨i, j, rfl, rfl, h, k⟩
theorem c_rep {p : Addr} {xs : List V} (h : Hs B L H) (hp : H p = some (.lst xs)) (h1 : -(2 ^ 63) ≤ j) (h2 : j < 2 ^ 63) (hl : xs.length * j.toNat ≤ sizeLine)
    (k : ∀ a H', Hs B ((a, .lst (List.replicate j.toNat xs).flatten) :: L) H' → Q (.ref a) H') : rMulU (.ref p) (.int j) H Q :=
  .inr ⟨p, j, xs, rfl, rfl, hp, h1, h2, hl, fun a ha => k a _ (h.new ha)⟩
theorem c_div (h : CDiv i j) (k : Q (.int (i / j)) H) : rDivU (.int i) (.int j) H Q := ⟨i, j, rfl, rfl, h, k⟩
theorem c_mod (h : 0 < j) (k : Q (.int (i % j)) H) : rModU (.int i) (.int j) H Q := ⟨i, j, rfl, rfl, h, k⟩
theorem c_pow (h : CPow i j) (k : Q (.int (i ^ j.toNat)) H) : rPowU (.int i) (.int j) H Q := ⟨i, j, rfl, rfl, h, k⟩
theorem c_shl (h : CPow i j) (k : Q (.int (i * 2 ^ j.toNat)) H) : rShlU (.int i) (.int j) H Q := ⟨i, j, rfl, rfl, h, k⟩
theorem c_shr (h : 0 ≤ j) (k : Q (.int (i / 2 ^ j.toNat)) H) : rShrU (.int i) (.int j) H Q := ⟨i, j, rfl, rfl, h, k⟩
theorem c_and (k : Q (.int (Builtin.bitAnd i j)) H) : rAndU (.int i) (.int j) H Q := ⟨i, j, rfl, rfl, k⟩
theorem c_or (k : Q (.int (Builtin.bitOr i j)) H) : rOrU (.int i) (.int j) H Q := ⟨i, j, rfl, rfl, k⟩
theorem c_xor (k : Q (.int (Builtin.bitXor i j)) H) : rXorU (.int i) (.int j) H Q := ⟨i, j, rfl, rfl, k⟩
theorem c_neg (k : Q (.int (-i)) H) : rNegU (.int i) H Q := ⟨i, rfl, k⟩
theorem c_lt (k : Q (.bl (decide (i < j))) H) : rLtU (.int i) (.int j) H Q := ⟨i, j, rfl, rfl, k⟩
theorem c_le (k : Q (.bl (decide (i ≤ j))) H) : rLeU (.int i) (.int j) H Q := ⟨i, j, rfl, rfl, k⟩
theorem c_gt (k : Q (.bl (decide (j < i))) H) : rGtU (.int i) (.int j) H Q := ⟨i, j, rfl, rfl, k⟩
theorem c_ge (k : Q (.bl (decide (j ≤ i))) H) : rGeU (.int i) (.int j) H Q := ⟨i, j, rfl, rfl, k⟩
theorem dec_of {p q : Prop} [Decidable p] [Decidable q] (h : p ↔ q) : decide p = decide q := by by_cases z : p <;> simp [z, h.mp, mt h.mpr] <;> simp_all
theorem c_eqI (k : Q (.bl (decide (i = j))) H) : rEqU K (.int i) (.int j) H Q := .inl ⟨rfl, by rw [dec_of (show V.int i = V.int j ↔ i = j by simp)]; exact k⟩
theorem c_neI (k : Q (.bl (!decide (i = j))) H) : rNeU K (.int i) (.int j) H Q := .inl ⟨rfl, by rw [dec_of (show V.int i = V.int j ↔ i = j by simp)]; exact k⟩
theorem c_eqS {a b : Str} (k : Q (.bl (decide (a = b))) H) : rEqU K (.str a) (.str b) H Q := .inl ⟨rfl, by rw [dec_of (show V.str a = V.str b ↔ a = b by simp)]; exact k⟩
theorem c_neS {a b : Str} (k : Q (.bl (!decide (a = b))) H) : rNeU K (.str a) (.str b) H Q := .inl ⟨rfl, by rw [dec_of (show V.str a = V.str b ↔ a = b by simp)]; exact k⟩
theorem c_eqB {a b : Bool} (k : Q (.bl (decide (a = b))) H) : rEqU K (.bl a) (.bl b) H Q := .inl ⟨rfl, by rw [dec_of (show V.bl a = V.bl b ↔ a = b by simp)]; exact k⟩
theorem c_neB {a b : Bool} (k : Q (.bl (!decide (a = b))) H) : rNeU K (.bl a) (.bl b) H Q := .inl ⟨rfl, by rw [dec_of (show V.bl a = V.bl b ↔ a = b by simp)]; exact k⟩
theorem c_eqD {d e : PyData} (hx : Dp K H x d) (hy : Dp K H y e) (h1 : SeqAt.shaped d = true) (h2 : SeqAt.shaped e = true) (k : Q (.bl (PyData.eqv d e)) H) : rEqU K x y H Q := .inr ⟨d, e, hx, hy, h1, h2, k⟩
theorem c_neD {d e : PyData} (hx : Dp K H x d) (hy : Dp K H y e) (h1 : SeqAt.shaped d = true) (h2 : SeqAt.shaped e = true) (k : Q (.bl (!PyData.eqv d e)) H) : rNeU K x y H Q := .inr ⟨d, e, hx, hy, h1, h2, k⟩
theorem c_isN (k : Q (.bl (decide (x = .non))) H) : rIsU x .non H Q := .inl ⟨rfl, k⟩
theorem c_notN (k : Q (.bl (!decide (x = .non))) H) : rNotU x .non H Q := .inl ⟨rfl, k⟩
theorem c_isB {a b : Bool} (k : Q (.bl (decide (a = b))) H) : rIsU (.bl a) (.bl b) H Q := .inr ⟨a, b, rfl, rfl, k⟩
theorem c_notB {a b : Bool} (k : Q (.bl (!decide (a = b))) H) : rNotU (.bl a) (.bl b) H Q := .inr ⟨a, b, rfl, rfl, k⟩
theorem c_ixL {p : Addr} {xs : List V} (h : SqL K H p xs) (ha : atI xs i = some v) (k : Q v H) : rIx K (.ref p) (.int i) H Q := .inl ⟨p, xs, i, v, rfl, rfl, h, ha, k⟩
theorem c_ixT {p : Addr} {xs : List V} (h : SqT K H p xs) (ha : atI xs i = some v) (k : Q v H) : rIx K (.ref p) (.int i) H Q := .inr (.inl ⟨p, xs, i, v, rfl, rfl, h, ha, k⟩)
theorem c_ixS {z : Str} {c : Nat} (h : z.length ≤ sizeLine) (ha : atI z.cps.toList i = some c) (k : Q (.str ⟨#[c]⟩) H) : rIx K (.str z) (.int i) H Q := .inr (.inr ⟨z, i, c, rfl, rfl, h, ha, k⟩)
theorem c_slL {p : Addr} {xs : List V} {lo hi : Option Int} (h : Hs B L H) (hq : SqL K H p xs) (k : ∀ a H', Hs B ((a, .lst (cutV xs lo hi)) :: L) H' → Q (.ref a) H') : rSlK K (.ref p) lo hi H Q :=
  .inl ⟨p, xs, rfl, hq, fun a ha => k a _ (h.new ha)⟩
theorem c_slS {z : Str} {lo hi : Option Int} (h : z.length ≤ sizeLine) (k : Q (.str (cutS z lo hi)) H) : rSlK K (.str z) lo hi H Q := .inr (.inl ⟨z, rfl, h, k⟩)
theorem c_andV (k : ta σ H fun x H1 => ∃ c, x = .bl c ∧ if c = true then tb σ H1 Q else Q (.bl false) H1) : tAndV ta tb σ H Q := k
theorem c_orV (k : ta σ H fun x H1 => ∃ c, x = .bl c ∧ if c = true then Q (.bl true) H1 else tb σ H1 Q) : tOrV ta tb σ H Q := k
theorem c_notV (k : ta σ H fun x H1 => ∃ c, x = .bl c ∧ Q (.bl (!c)) H1) : tNotV ta σ H Q := k
theorem c_bl {b : Bool} {P : Bool → Prop} (k : P b) : ∃ c, V.bl b = V.bl c ∧ P c := ⟨b, rfl, k⟩
theorem c_test {P : Bool → Hp → Prop} (k : te σ H fun x H' => ∃ c, x = .bl c ∧ P c H') : tTest te σ H P := k
theorem c_B {P : Bool → Hp → Prop} (k : te σ H fun x H' => ∃ c, x = .bl c ∧ P c H') : tB te σ H P := k
theorem c_chain {r' : R2} {tc : TE} (k : ta σ H fun x H1 => tb σ H1 fun y H2 => r x y H2 fun z H3 => ∃ c, z = .bl c ∧ (if c = true then tc σ H3 fun w H4 => r' y w H4 Q else Q (.bl false) H3)) : tChain r r' ta tb tc σ H Q := k
section
variable {t u : TT} {P : Bool → Hp → Prop}
theorem c_tand (k : t σ H fun c H1 => if c = true then u σ H1 P else P false H1) : tAnd t u σ H P := k
theorem c_tor (k : t σ H fun c H1 => if c = true then P true H1 else u σ H1 P) : tOr t u σ H P := k
theorem c_tnot (k : t σ H fun c H1 => P (!c) H1) : tNot t σ H P := k
theorem c_if (k : t σ H fun c H1 => if c = true then ta σ H1 Q else tb σ H1 Q) : tIf t ta tb σ H Q := k
end
section
variable {P : List V → Hp → Prop} {tr : TA}
theorem c_nil (k : P [] H) : tNil σ H P := k
theorem c_cons (k : te σ H fun x H1 => tr σ H1 fun xs H2 => P (x :: xs) H2) : tCons te tr σ H P := k
def TupO (xs : List V) (H : Hp) (Q : VK) : Prop := xs.length ≤ sizeLine ∧ ∀ p, H p = none → Q (.ref p) (upd H p (.tup xs))
def LstO (xs : List V) (H : Hp) (Q : VK) : Prop := xs.length ≤ sizeLine ∧ ∀ p, H p = none → Q (.ref p) (upd H p (.lst xs))
theorem c_tup (k : tr σ H fun xs H1 => TupO xs H1 Q) : tTup tr σ H Q := k
theorem c_lst (k : tr σ H fun xs H1 => LstO xs H1 Q) : tLst tr σ H Q := k
theorem c_tupO {xs : List V} (h : Hs B L H) (hl : xs.length ≤ sizeLine) (k : ∀ p H', Hs B ((p, .tup xs) :: L) H' → Q (.ref p) H') : TupO xs H Q := ⟨hl, fun p hp => k p _ (h.new hp)⟩
theorem c_lstO {xs : List V} (h : Hs B L H) (hl : xs.length ≤ sizeLine) (k : ∀ p H', Hs B ((p, .lst xs) :: L) H' → Q (.ref p) H') : LstO xs H Q := ⟨hl, fun p hp => k p _ (h.new hp)⟩
theorem c_cb {r : List V → Hp → VK → Prop} (k : tr σ H fun vs H1 => r vs H1 Q) : tCB r tr σ H Q := k
theorem c_lenL {p : Addr} {xs : List V} (h : SqL K H p xs) (k : Q (.int xs.length) H) : rLenK K [.ref p] H Q := ⟨_, _, rfl, .inl ⟨xs, h, rfl⟩, k⟩
theorem c_lenT {p : Addr} {xs : List V} (h : SqT K H p xs) (k : Q (.int xs.length) H) : rLenK K [.ref p] H Q := ⟨_, _, rfl, .inr ⟨xs, h, rfl⟩, k⟩
theorem c_lenS {z : Str} (h : z.length ≤ sizeLine) (k : Q (.int z.length) H) : rLenK K [.str z] H Q := ⟨_, _, rfl, ⟨h, rfl⟩, k⟩
theorem c_intI (k : Q (.int i) H) : rIntK [.int i] H Q := .inl ⟨i, rfl, k⟩
theorem c_intB {b : Bool} (k : Q (.int (if b then 1 else 0)) H) : rIntK [.bl b] H Q := .inr ⟨b, rfl, k⟩
theorem c_listL {p : Addr} {xs : List V} (h : Hs B L H) (hq : SqL K H p xs) (k : ∀ a H', Hs B ((a, .lst xs) :: L) H' → Q (.ref a) H') : rListK K [.ref p] H Q := ⟨p, xs, rfl, .inl hq, fun a ha => k a _ (h.new ha)⟩
theorem c_listT {p : Addr} {xs : List V} (h : Hs B L H) (hq : SqT K H p xs) (k : ∀ a H', Hs B ((a, .lst xs) :: L) H' → Q (.ref a) H') : rListK K [.ref p] H Q := ⟨p, xs, rfl, .inr hq, fun a ha => k a _ (h.new ha)⟩
theorem c_divmod (h : Hs B L H) (c : CDiv i j) (k : ∀ a H', Hs B ((a, .tup [.int (i / j), .int (i % j)]) :: L) H' → Q (.ref a) H') : rDivmodK [.int i, .int j] H Q := ⟨i, j, rfl, c, fun a ha => k a _ (h.new ha)⟩
theorem c_max2 (k : Q (.int (if j > i then j else i)) H) : rMax2K [.int i, .int j] H Q := ⟨i, j, rfl, k⟩
theorem c_min2 (k : Q (.int (if j < i then j else i)) H) : rMin2K [.int i, .int j] H Q := ⟨i, j, rfl, k⟩
theorem c_abs (k : Q (.int (if i < 0 then -i else i)) H) : rAbsK [.int i] H Q := ⟨i, rfl, k⟩
theorem c_sum {p : Addr} {ns : List Int} (h : SqL K H p (ns.map V.int)) (k : Q (.int ns.sum) H) : rSum K [.ref p] H Q := ⟨p, ns, rfl, h, k⟩
theorem c_all {p : Addr} {bs : List Bool} (h : SqL K H p (bs.map V.bl)) (k : Q (.bl (bs.all id)) H) : rAll K [.ref p] H Q := ⟨p, bs, rfl, h, k⟩
theorem c_any {p : Addr} {bs : List Bool} (h : SqL K H p (bs.map V.bl)) (k : Q (.bl (bs.any id)) H) : rAny K [.ref p] H Q := ⟨p, bs, rfl, h, k⟩
theorem c_cl {sp : Sp} {dvs : List V} {W : WX} (k : tr σ H fun vs H1 => sp (vs ++ dvs) H1 Q fun c d H2 => W c d σ H2) : tCl sp dvs W tr σ H Q := k
theorem c_mt {C : Addr} {m : Str} {sp : Sp} {dvs : List V} {W : WX} (k : te σ H fun x H1 => ∃ a dx fs, x = .ref a ∧ H1 a = some (.ins C dx fs) ∧ fs.lookup m = none ∧ tr σ H1 fun vs H2 => sp (x :: (vs ++ dvs)) H2 Q fun c d H3 => W c d σ H3) : tMt C m sp dvs W te tr σ H Q := k
theorem c_recv {C dx p : Addr} {fs : List (Str × V)} {m : Str} {P : Prop} (h : H p = some (.ins C dx fs)) (hl : fs.lookup m = none) (k : P) : ∃ a dx fs, V.ref p = .ref a ∧ H a = some (.ins C dx fs) ∧ fs.lookup m = none ∧ P := ⟨p, dx, fs, rfl, h, hl, k⟩
end
/-! isinstance -/
theorem tyx_sql {p : Addr} {xs : List V} (h : SqL K H p xs) : TyX K H (.ref p) (.type "list") := by
  rcases h with (h | ⟨u, h⟩) | ⟨o, a, b, h1, h2, _⟩
  · exact .base (.lst h)
  · exact .base (.frz h)
  · exact .kList h1 h2
theorem c_isi {c : V} {t u : Value} {b : Bool} (T : TyX K H x t) (hc : ClsV c u) (e : PySem.W.kitOne K t u = some b) (k : Q (.bl b) H) : rIsi K [x, c] H Q := ⟨x, c, t, u, b, rfl, hc, T, e, k⟩
theorem k_int_int : PySem.W.kitOne K (.type "int") (.type "int") = some true := kit_ty (by decide +kernel)
theorem k_int_bool : PySem.W.kitOne K (.type "int") (.type "bool") = some false := kit_ty (by decide +kernel)
theorem k_list_list : PySem.W.kitOne K (.type "list") (.type "list") = some true := kit_ty (by decide +kernel)
theorem c_isi_ii (k : Q (.bl true) H) : rIsi K [.int i, .ty "int"] H Q := c_isi (.base (.int i)) (.ty _) k_int_int k
theorem c_isi_ib (k : Q (.bl false) H) : rIsi K [.int i, .ty "bool"] H Q := c_isi (.base (.int i)) (.ty _) k_int_bool k
theorem c_isi_ll {p : Addr} {xs : List V} (h : SqL K H p xs) (k : Q (.bl true) H) : rIsi K [.ref p, .ty "list"] H Q := c_isi (tyx_sql h) (.ty _) k_list_list k
/-! fields -/
def FldO (K : PySem.W.Frag) (f : Str) (x : V) (H : Hp) (Q : VK) : Prop := ∃ a C dx fs v, x = .ref a ∧ H a = some (.ins C dx fs) ∧ Cls K C ∧ NoAttr K C f ∧ fs.lookup f = some v ∧ Q v H
theorem c_fld {f : Str} {C dx p : Addr} {fs : List (Str × V)} (h : H p = some (.ins C dx fs)) (hc : Cls K C) (hn : NoAttr K C f) (hl : fs.lookup f = some v) (k : Q v H) : FldO K f (.ref p) H Q := ⟨p, C, dx, fs, v, rfl, h, hc, hn, hl, k⟩
end
/-! ### statements -/
section
variable {σ : St} {H : Hp} {dn : St → Hp → Prop} {dr : VK} {db dc : St → Hp → Prop} {t u : TS} {te : TE} {g : TG} {v : V} {b : Bool}
theorem w_seq (k : t ⟨u ⟨dn, dr, db, dc⟩, dr, db, dc⟩ σ H) : tSeq t u ⟨dn, dr, db, dc⟩ σ H := k
theorem w_asg (k : te σ H fun x H1 => g x σ H1 dn) : tAsg te g ⟨dn, dr, db, dc⟩ σ H := k
theorem w_name {n : Nat} {P : St → Hp → Prop} (k : P (σ.set n (some v)) H) : gName n v σ H P := k
theorem w_drop (k : te σ H fun _ H1 => dn σ H1) : tDrop te ⟨dn, dr, db, dc⟩ σ H := k
theorem w_ret (k : te σ H dr) : tRet te ⟨dn, dr, db, dc⟩ σ H := k
theorem w_if {c : TT} (k : c σ H fun b H1 => if b = true then t ⟨dn, dr, db, dc⟩ σ H1 else u ⟨dn, dr, db, dc⟩ σ H1) : tIfS c t u ⟨dn, dr, db, dc⟩ σ H := k
theorem w_next (k : dn σ H) : tNext ⟨dn, dr, db, dc⟩ σ H := k
theorem i_t {A A' : Prop} (h : b = true) (k : A) : if b = true then A else A' := by rw [if_pos h]; exact k
theorem i_f {A A' : Prop} (h : b = false) (k : A') : if b = true then A else A' := by rw [h, if_neg Bool.false_ne_true]; exact k
theorem i_2 {A A' : Prop} (k : b = true → A) (k' : b = false → A') : if b = true then A else A' := by cases b; exact iteF (k' rfl); exact iteT (k rfl)
theorem w_aug {n : Nat} {ti : TIp} (h : σ[n]? = some (some v)) (k : te σ H fun y H1 => ti v y H1 fun z H2 => dn (σ.set n (some z)) H2) : tAug n te ti ⟨dn, dr, db, dc⟩ σ H := ⟨v, h, k⟩
theorem c_ipAddI {i j : Int} {Q : VK} (k : Q (.int (i + j)) H) : ipAddU (.int i) (.int j) H Q := .inl ⟨i, j, rfl, rfl, k⟩
theorem c_ipSub {i j : Int} {Q : VK} (k : Q (.int (i - j)) H) : ipSubU (.int i) (.int j) H Q := ⟨i, j, rfl, rfl, k⟩
end
/-! ### loops over what has plain items -/
section
variable {α : Type} {K : PySem.W.Frag} {a : Addr} {g : TG} {tb : TS} {dn : St → Hp → Prop} {dr : VK} {db dc : St → Hp → Prop} {σ : St} {H : Hp}
theorem take_split {l : List α} {i : Nat} {x : α} (h : l[i]? = some x) : l = l.take i ++ x :: l.drop (i + 1) ∧ l.take (i + 1) = l.take i ++ [x] := by
  obtain ⟨hi, e⟩ := List.getElem?_eq_some_iff.mp h
  subst e
  refine ⟨?_, by rw [List.take_add_one, h]; rfl⟩
  conv => lhs; rw [← List.take_append_drop i l, List.drop_eq_getElem_cons hi]
theorem for_l (f : α → V) (l : List α) (Pv : List α → St → Hp → Prop) (h0 : Pv [] σ H) (hq : ∀ pre post σ H, l = pre ++ post → Pv pre σ H → SqL K H a (l.map f))
    (hs : ∀ pre x post σ H, l = pre ++ x :: post → Pv pre σ H → g (f x) σ H fun σ2 H2 => tb ⟨Pv (pre ++ [x]), dr, dn, Pv (pre ++ [x])⟩ σ2 H2) (hd : ∀ σ H, Pv l σ H → dn σ H) :
    ∃ W : Nat → Nat → St → Hp → Prop, (∃ m, W 0 m σ H) ∧ ∀ i m σ H, W i m σ H →
      ((Itl K a).stop i H ∧ dn σ H) ∨ ((Itl K a).go i H ∧ ∃ N : St → Hp → Prop, (∀ σ' H', N σ' H' → ∃ m', m' < m ∧ W (i + 1) m' σ' H') ∧ ∀ x H', (Itl K a).yld i H x H' → g x σ H' fun σ2 H2 => tb ⟨N, dr, dn, N⟩ σ2 H2) := by
  refine L2.for_list (D := { nx := dn, rt := dr }) (xs := l.map f) (fun i => Pv (l.take i)) (by simpa using h0) (fun i σ H _ p => hq _ (l.drop i) σ H (List.take_append_drop i l).symm p) (fun i x σ H hx p => ?_) (fun σ H p => hd σ H (by simpa using p))
  rw [List.getElem?_map] at hx
  cases e : l[i]? with
  | none => rw [e] at hx; cases hx
  | some y =>
    rw [e] at hx
    cases hx
    obtain ⟨e1, e2⟩ := take_split e
    have z := hs _ y _ σ H e1 p
    rw [e2]
    exact z
theorem lc_l {tt : TT} {te : TE} {vs : List Nat} {D : Addr} {Qd : Hp → Prop} (f : α → V) (l : List α) (Pv : List α → Hp → Prop) (h0 : Pv [] (upd H D (.lst []))) (hq : ∀ pre post H, l = pre ++ post → Pv pre H → SqL K H a (l.map f))
    (hs : ∀ pre x post H, l = pre ++ x :: post → Pv pre H → g (f x) (wipe σ vs) H fun σ2 H2 => wipe σ2 vs = wipe σ vs ∧ tt σ2 H2 fun b H3 =>
      if b = true then te σ2 H3 fun y H4 => ∃ acc, H4 D = some (.lst acc) ∧ acc.length < sizeLine ∧ Pv (pre ++ [x]) (upd H4 D (.lst (acc ++ [y]))) else Pv (pre ++ [x]) H3) (hd : ∀ H, Pv l H → Qd H) :
    ∃ W : Nat → Nat → Hp → Prop, (∃ m, W 0 m (upd H D (.lst []))) ∧ ∀ i m H, W i m H →
      ((Itl K a).stop i H ∧ Qd H) ∨ ((Itl K a).go i H ∧ ∃ Nx : Hp → Prop, (∀ H', Nx H' → ∃ m', m' < m ∧ W (i + 1) m' H') ∧ ∀ x H', (Itl K a).yld i H x H' → g x (wipe σ vs) H' fun σ2 H2 => wipe σ2 vs = wipe σ vs ∧ tt σ2 H2 fun b H3 =>
        if b = true then te σ2 H3 fun y H4 => ∃ acc, H4 D = some (.lst acc) ∧ acc.length < sizeLine ∧ Nx (upd H4 D (.lst (acc ++ [y]))) else Nx H3) := by
  refine L2.lc_list (xs := l.map f) (fun i => Pv (l.take i)) (by simpa using h0) (fun i H _ p => hq _ (l.drop i) H (List.take_append_drop i l).symm p) (fun i x H hx p => ?_) (fun H p => hd H (by simpa using p))
  rw [List.getElem?_map] at hx
  cases e : l[i]? with
  | none => rw [e] at hx; cases hx
  | some y =>
    rw [e] at hx
    cases hx
    obtain ⟨e1, e2⟩ := take_split e
    have z := hs _ y _ H e1 p
    rw [e2]
    exact z
end
end L2.BP
namespace L2.BP
open PySem PySem.Spec PyProof.Rows
/-- a def as callers see it: what its defaults are, how the written arguments bind, its promise -/
def DOk (P : Program) (w : World) (K : PySem.W.Frag) (mg : Str → Option Value) (base : Heap) (k : Nat) (f : Addr) (ps : List Str) (dvs : List V) (sp : Sp) : Prop :=
  ∃ (fd : FuncData) (ds : List Value), Vals dvs ds ∧ Binds K fd ps ds ∧ FnOk P w K mg base (L2.CX P w) k f fd ps sp ∧ PySem.W.keepIn K (.ref f) = true
abbrev WF : WX := fun _ _ _ _ => False
/-! ### one of two readings of the same expression -/
def tOrE (t u : TE) : TE := fun σ H Q => t σ H Q ∨ u σ H Q
theorem pe_orE {X : Cx} {e : Expr} {t u : TE} (h : PE X e t) (h' : PE X e u) : PE X e (tOrE t u) :=
  ⟨fun pins s σ H Q I z => z.elim (h.run pins s σ H Q I) (h'.run pins s σ H Q I)⟩
/-! ### kinds of things -/
inductive Tg where
  | non | bl (b : Bool) | int (i : Int) | str (x : Str) | lst (xs : List V) | tup (xs : List V) | dic
/-- the thing v is of that kind -/
inductive Th (K : PySem.W.Frag) (H : Hp) : V → Tg → Prop where
  | non : Th K H .non .non
  | bl (b : Bool) : Th K H (.bl b) (.bl b)
  | int (i : Int) : Th K H (.int i) (.int i)
  | str (x : Str) : Th K H (.str x) (.str x)
  | lst {a : Addr} {xs : List V} (h : SqL K H a xs) : Th K H (.ref a) (.lst xs)
  | tup {a : Addr} {xs : List V} (h : SqT K H a xs) : Th K H (.ref a) (.tup xs)
  | dic {a : Addr} {kvs : List (Key × V)} (h : H a = some (.dK kvs)) : Th K H (.ref a) .dic
def Tg.ty : Tg → String
  | .non => "NoneType" | .bl _ => "bool" | .int _ => "int" | .str _ => "str" | .lst _ => "list" | .tup _ => "tuple" | .dic => "dict"
section
variable {K : PySem.W.Frag} {H H' : Hp} {v : V} {g : Tg} {Q : VK}
theorem Th.same (h : Th K H v g) (e : Same H H') : Th K H' v g := by
  cases h with
  | non => exact .non
  | bl b => exact .bl b
  | int i => exact .int i
  | str x => exact .str x
  | lst h => exact .lst (e.seq h)
  | tup h => exact .tup (same_sqt e h)
  | dic h => exact .dic (e _ _ h)
theorem tyx_sqt {p : Addr} {xs : List V} (h : SqT K H p xs) : TyX K H (.ref p) (.type "tuple") := by
  rcases h with (h | ⟨u, h⟩) | ⟨o, a, b, h1, h2, _⟩
  · exact .base (.tup h)
  · exact .fTuple h
  · exact .kTuple h1 h2
theorem Th.tyx (h : Th K H v g) : TyX K H v (.type g.ty) := by
  cases h with
  | non => exact .base .non
  | bl b => exact .base (.bl b)
  | int i => exact .base (.int i)
  | str x => exact .base (.str x)
  | lst h => exact tyx_sql h
  | tup h => exact tyx_sqt h
  | dic h => exact .base (.dK h)
def Tg.isInt : Tg → Bool
  | .bl _ => true | .int _ => true | _ => false
def Tg.isBool : Tg → Bool
  | .bl _ => true | _ => false
def Tg.isList : Tg → Bool
  | .lst _ => true | _ => false
def Tg.isStr : Tg → Bool
  | .str _ => true | _ => false
def Tg.isTup : Tg → Bool
  | .tup _ => true | _ => false
theorem Tg.kInt (g : Tg) : PySem.W.kitOne K (.type g.ty) (.type "int") = some g.isInt := by cases g <;> exact kit_ty (by kernel_rfl)
theorem Tg.kBool (g : Tg) : PySem.W.kitOne K (.type g.ty) (.type "bool") = some g.isBool := by cases g <;> exact kit_ty (by kernel_rfl)
theorem Tg.kList (g : Tg) : PySem.W.kitOne K (.type g.ty) (.type "list") = some g.isList := by cases g <;> exact kit_ty (by kernel_rfl)
theorem Tg.kStr (g : Tg) : PySem.W.kitOne K (.type g.ty) (.type "str") = some g.isStr := by cases g <;> exact kit_ty (by kernel_rfl)
theorem Tg.kTup (g : Tg) : PySem.W.kitOne K (.type g.ty) (.type "tuple") = some g.isTup := by cases g <;> exact kit_ty (by kernel_rfl)
theorem c_isiInt (h : Th K H v g) (k : Q (.bl g.isInt) H) : rIsi K [v, .ty "int"] H Q := c_isi h.tyx (.ty _) g.kInt k
theorem c_isiBool (h : Th K H v g) (k : Q (.bl g.isBool) H) : rIsi K [v, .ty "bool"] H Q := c_isi h.tyx (.ty _) g.kBool k
theorem c_isiList (h : Th K H v g) (k : Q (.bl g.isList) H) : rIsi K [v, .ty "list"] H Q := c_isi h.tyx (.ty _) g.kList k
theorem c_isiStr (h : Th K H v g) (k : Q (.bl g.isStr) H) : rIsi K [v, .ty "str"] H Q := c_isi h.tyx (.ty _) g.kStr k
theorem c_isiTup (h : Th K H v g) (k : Q (.bl g.isTup) H) : rIsi K [v, .ty "tuple"] H Q := c_isi h.tyx (.ty _) g.kTup k
/-- the results of defs that change nothing: a value, a new list, a new tuple -/
def RetV (H : Hp) (Q : VK) (v : V) : Prop := ∀ H', Same H H' → Q v H'
def RetL (H : Hp) (Q : VK) (xs : List V) : Prop := ∀ p H', H p = none → Same H H' → H' p = some (.lst xs) → Q (.ref p) H'
def RetT (H : Hp) (Q : VK) (xs : List V) : Prop := ∀ p H', H p = none → Same H H' → H' p = some (.tup xs) → Q (.ref p) H'
end
section
variable {B H : Hp} {L : List (Addr × HO)} {K : PySem.W.Frag} {Q : VK} {v : V} {xs : List V}
theorem Hs.rv (h : Hs B L H) (k : RetV B Q v) : Q v H := k H h.ex
theorem Hs.rl {p : Addr} (h : Hs B L H) (m : (p, HO.lst xs) ∈ L) (k : RetL B Q xs) : Q (.ref p) H := k p H (h.nb m) h.ex (h.get m)
theorem Hs.rt {p : Addr} (h : Hs B L H) (m : (p, HO.tup xs) ∈ L) (k : RetT B Q xs) : Q (.ref p) H := k p H (h.nb m) h.ex (h.get m)
theorem retV (h : Hs B L H) (k : ∀ H', Hs B L H' → Q v H') : RetV H Q v := fun H' e => k H' (h.same e)
theorem retL (h : Hs B L H) (k : ∀ p H', Hs B ((p, .lst xs) :: L) H' → Q (.ref p) H') : RetL H Q xs := fun p H' hp e hn => k p H' (h.newS hp e hn)
theorem retT (h : Hs B L H) (k : ∀ p H', Hs B ((p, .tup xs) :: L) H' → Q (.ref p) H') : RetT H Q xs := fun p H' hp e hn => k p H' (h.newS hp e hn)
end
end L2.BP
namespace L2.BP
open PySem PySem.Spec PyProof.Rows
/-! ### loops over the picture of the heap: I tells of what is done, the slots, the own objects, the base -/
abbrev Pic : Type := List (Addr × HO)
section
variable {α : Type} {K : PySem.W.Frag} {a : Addr} {g : TG} {tb : TS} {dn : St → Hp → Prop} {dr : VK} {db dc : St → Hp → Prop} {σ : St} {H B : Hp} {L : Pic}
/-- a list that is read stands in the base, or is an own one that is not changed -/
def NxI {β : Type} (I : β → St → Pic → Hp → Prop) (b : β) : St → Hp → Prop := fun σ H => ∃ L B, I b σ L B ∧ Hs B L H
theorem w_forL (f : α → V) (l : List α) (I : List α → St → Pic → Hp → Prop) (hs : Hs B L H) (h0 : I [] σ L B) (hq : ∀ pre post σ' L' B' H', l = pre ++ post → I pre σ' L' B' → Hs B' L' H' → SqL K H' a (l.map f))
    (turn : ∀ pre x post σ' L' B' H', l = pre ++ x :: post → I pre σ' L' B' → Hs B' L' H' → g (f x) σ' H' fun σ2 H2 => tb ⟨NxI I (pre ++ [x]), dr, dn, NxI I (pre ++ [x])⟩ σ2 H2)
    (fin : ∀ σ' L' B' H', I l σ' L' B' → Hs B' L' H' → dn σ' H') :
    ∃ b, V.ref a = .ref b ∧ (∃ xs, SqL K H b xs) ∧ ∃ W : Nat → Nat → St → Hp → Prop, (∃ m, W 0 m σ H) ∧ ∀ i m σ H, W i m σ H →
      ((Itl K b).stop i H ∧ dn σ H) ∨ ((Itl K b).go i H ∧ ∃ N : St → Hp → Prop, (∀ σ' H', N σ' H' → ∃ m', m' < m ∧ W (i + 1) m' σ' H') ∧ ∀ x H', (Itl K b).yld i H x H' → g x σ H' fun σ2 H2 => tb ⟨N, dr, dn, N⟩ σ2 H2) :=
  ⟨a, rfl, ⟨_, hq [] l σ L B H rfl h0 hs⟩, for_l f l (NxI I) ⟨L, B, h0, hs⟩ (fun pre post σ' H' e ⟨_, _, i, h⟩ => hq pre post _ _ _ _ e i h) (fun pre x post σ' H' e ⟨_, _, i, h⟩ => turn pre x post _ _ _ _ e i h) fun σ' H' ⟨_, _, i, h⟩ => fin _ _ _ _ i h⟩
theorem w_forR {lo : Int} {n : Nat} (I : Nat → St → Pic → Hp → Prop) (hs : Hs B L H) (h0 : I 0 σ L B)
    (turn : ∀ i σ' L' B' H', i < n → I i σ' L' B' → Hs B' L' H' → g (.int (lo + i)) σ' H' fun σ2 H2 => tb ⟨NxI I (i + 1), dr, dn, NxI I (i + 1)⟩ σ2 H2)
    (fin : ∀ σ' L' B' H', I n σ' L' B' → Hs B' L' H' → dn σ' H') :
    ∃ W : Nat → Nat → St → Hp → Prop, (∃ m, W 0 m σ H) ∧ ∀ i m σ H, W i m σ H →
      ((Itr lo n).stop i H ∧ dn σ H) ∨ ((Itr lo n).go i H ∧ ∃ N : St → Hp → Prop, (∀ σ' H', N σ' H' → ∃ m', m' < m ∧ W (i + 1) m' σ' H') ∧ ∀ x H', (Itr lo n).yld i H x H' → g x σ H' fun σ2 H2 => tb ⟨N, dr, dn, N⟩ σ2 H2) :=
  L2.for_range (D := { nx := dn, rt := dr }) (NxI I) ⟨L, B, h0, hs⟩ (fun i σ' H' e ⟨_, _, q, h⟩ => turn i _ _ _ _ e q h) fun σ' H' ⟨_, _, q, h⟩ => fin _ _ _ _ q h
theorem c_rng1 {n : Int} {P : It → Hp → Prop} (h1 : -(2 ^ 62) ≤ n) (h2 : n < 2 ^ 62) (k : P (Itr 0 n.toNat) H) : ∃ j : Int, [V.int n] = [.int j] ∧ -(2 ^ 62) ≤ j ∧ j < 2 ^ 62 ∧ P (Itr 0 j.toNat) H := ⟨n, rfl, h1, h2, k⟩
theorem c_rng2 {i j : Int} {P : It → Hp → Prop} (h1 : -(2 ^ 62) ≤ i ∧ i < 2 ^ 62 ∧ -(2 ^ 62) ≤ j ∧ j < 2 ^ 62) (k : P (Itr i (j - i).toNat) H) :
    ∃ i' j' : Int, [V.int i, V.int j] = [.int i', .int j'] ∧ (-(2 ^ 62) ≤ i' ∧ i' < 2 ^ 62 ∧ -(2 ^ 62) ≤ j' ∧ j' < 2 ^ 62) ∧ P (Itr i' (j' - i').toNat) H := ⟨i, j, rfl, h1, k⟩
/-- while: I falls by its number -/
def WhN (I : Nat → St → Pic → Hp → Prop) (m : Nat) : St → Hp → Prop := fun σ H => ∃ m', m' < m ∧ NxI I m' σ H
theorem w_while {c : TT} (I : Nat → St → Pic → Hp → Prop) (m0 : Nat) (hs : Hs B L H) (h0 : I m0 σ L B)
    (turn : ∀ m σ' L' B' H', I m σ' L' B' → Hs B' L' H' → c σ' H' fun b H1 => if b = true then ∃ N : St → Hp → Prop, (∀ σ3 H3, N σ3 H3 → WhN I m σ3 H3) ∧ tb ⟨N, dr, dn, N⟩ σ' H1 else dn σ' H1) :
    tWhile c tb ⟨dn, dr, db, dc⟩ σ H := ⟨fun m => NxI I m, ⟨m0, L, B, h0, hs⟩, fun m σ' H' ⟨_, _, q, h⟩ => turn m σ' _ _ H' q h⟩
theorem w_turn {P : St → Hp → Prop} (k : tb ⟨P, dr, dn, P⟩ σ H) : ∃ N : St → Hp → Prop, (∀ σ3 H3, N σ3 H3 → P σ3 H3) ∧ tb ⟨N, dr, dn, N⟩ σ H := ⟨_, fun _ _ w => w, k⟩
end
/-! ### comprehensions -/
section
variable {α : Type} {K : PySem.W.Frag} {a : Addr} {g : TG} {tt : TT} {te tl : TE} {σ : St} {H B : Hp} {L : Pic} {Q : VK} {vs : List Nat}
/-- the turn's word: what was made so far stands at D -/
def LcN (I : List α → List V → Hp → Prop) (B : Hp) (L : Pic) (D : Addr) (pre : List α) : Hp → Prop := fun H' => ∃ acc B', I pre acc B' ∧ Same B B' ∧ Hs B' ((D, .lst acc) :: L) H'
theorem c_lcL {P : Addr → Hp → Prop} (f : α → V) (l : List α) (I : List α → List V → Hp → Prop) (hs : Hs B L H) (h0 : I [] [] B)
    (hq : ∀ B' H', Same B B' → Hs B' L H' → SqL K H' a (l.map f))
    (turn : ∀ pre x post acc B' D H', l = pre ++ x :: post → I pre acc B' → Same B B' → Hs B' ((D, .lst acc) :: L) H' → g (f x) (wipe σ vs) H' fun σ2 H2 => wipe σ2 vs = wipe σ vs ∧ tt σ2 H2 fun b H3 =>
      if b = true then te σ2 H3 fun y H4 => ∃ acc, H4 D = some (.lst acc) ∧ acc.length < sizeLine ∧ LcN I B L D (pre ++ [x]) (upd H4 D (.lst (acc ++ [y]))) else LcN I B L D (pre ++ [x]) H3)
    (fin : ∀ acc B' D H', I l acc B' → Same B B' → Hs B' ((D, .lst acc) :: L) H' → P D H') :
    ∃ b, V.ref a = .ref b ∧ (∃ xs, SqL K H b xs) ∧ ∀ D, H D = none → ∃ W : Nat → Nat → Hp → Prop, (∃ m, W 0 m (upd H D (.lst []))) ∧ ∀ i m H, W i m H →
      ((Itl K b).stop i H ∧ P D H) ∨ ((Itl K b).go i H ∧ ∃ Nx : Hp → Prop, (∀ H', Nx H' → ∃ m', m' < m ∧ W (i + 1) m' H') ∧ ∀ x H', (Itl K b).yld i H x H' → g x (wipe σ vs) H' fun σ2 H2 => wipe σ2 vs = wipe σ vs ∧ tt σ2 H2 fun b H3 =>
        if b = true then te σ2 H3 fun y H4 => ∃ acc, H4 D = some (.lst acc) ∧ acc.length < sizeLine ∧ Nx (upd H4 D (.lst (acc ++ [y]))) else Nx H3) :=
  ⟨a, rfl, ⟨_, hq B H (Same.refl B) hs⟩, fun D hD => lc_l f l (LcN I B L D) ⟨[], B, h0, Same.refl B, hs.new hD⟩ (fun pre post H' _ ⟨acc, B', _, e, h⟩ => hq B' H' e h.drop)
    (fun pre x post H' e ⟨acc, B', p, e2, h⟩ => turn pre x post acc B' D H' e p e2 h) fun H' ⟨acc, B', p, e, h⟩ => fin acc B' D H' p e h⟩
theorem c_lcR {P : Addr → Hp → Prop} {lo : Int} {n : Nat} (I : Nat → List V → Hp → Prop) (hs : Hs B L H) (h0 : I 0 [] B)
    (turn : ∀ i acc B' D H', i < n → I i acc B' → Same B B' → Hs B' ((D, .lst acc) :: L) H' → g (.int (lo + i)) (wipe σ vs) H' fun σ2 H2 => wipe σ2 vs = wipe σ vs ∧ tt σ2 H2 fun b H3 =>
      if b = true then te σ2 H3 fun y H4 => ∃ acc, H4 D = some (.lst acc) ∧ acc.length < sizeLine ∧ (fun H' => ∃ acc B', I (i + 1) acc B' ∧ Same B B' ∧ Hs B' ((D, .lst acc) :: L) H') (upd H4 D (.lst (acc ++ [y]))) else (fun H' => ∃ acc B', I (i + 1) acc B' ∧ Same B B' ∧ Hs B' ((D, .lst acc) :: L) H') H3)
    (fin : ∀ acc B' D H', I n acc B' → Same B B' → Hs B' ((D, .lst acc) :: L) H' → P D H') :
    ∀ D, H D = none → ∃ W : Nat → Nat → Hp → Prop, (∃ m, W 0 m (upd H D (.lst []))) ∧ ∀ i m H, W i m H →
      ((Itr lo n).stop i H ∧ P D H) ∨ ((Itr lo n).go i H ∧ ∃ Nx : Hp → Prop, (∀ H', Nx H' → ∃ m', m' < m ∧ W (i + 1) m' H') ∧ ∀ x H', (Itr lo n).yld i H x H' → g x (wipe σ vs) H' fun σ2 H2 => wipe σ2 vs = wipe σ vs ∧ tt σ2 H2 fun b H3 =>
        if b = true then te σ2 H3 fun y H4 => ∃ acc, H4 D = some (.lst acc) ∧ acc.length < sizeLine ∧ Nx (upd H4 D (.lst (acc ++ [y]))) else Nx H3) :=
  fun D hD => L2.lc_range (fun i H' => ∃ acc B', I i acc B' ∧ Same B B' ∧ Hs B' ((D, .lst acc) :: L) H') ⟨[], B, h0, Same.refl B, hs.new hD⟩
    (fun i H' e ⟨acc, B', p, e2, h⟩ => turn i acc B' D H' e p e2 h) fun H' ⟨acc, B', p, e, h⟩ => fin acc B' D H' p e h
/-- one item more -/
theorem c_item {D : Addr} {acc : List V} {y : V} {B2 : Hp} {P : List V → Hp → Prop} (h : Hs B2 ((D, .lst acc) :: L) H) (hz : acc.length < sizeLine) (e : Same B B2) (i : P (acc ++ [y]) B2) :
    ∃ acc, H D = some (.lst acc) ∧ acc.length < sizeLine ∧ ∃ acc2 B', P acc2 B' ∧ Same B B' ∧ Hs B' ((D, .lst acc2) :: L) (upd H D (.lst (acc ++ [y]))) :=
  ⟨acc, h.get (.head _), hz, acc ++ [y], B2, i, e, h.u0⟩
theorem c_lc {wi : TI} (k : wi σ H fun J H1 => ∀ D, H1 D = none → ∃ W : Nat → Nat → Hp → Prop, (∃ m, W 0 m (upd H1 D (.lst []))) ∧ ∀ i m H, W i m H →
      (J.stop i H ∧ Q (.ref D) H) ∨ (J.go i H ∧ ∃ Nx : Hp → Prop, (∀ H', Nx H' → ∃ m', m' < m ∧ W (i + 1) m' H') ∧ ∀ x H', J.yld i H x H' → g x (wipe σ vs) H' fun σ2 H2 => wipe σ2 vs = wipe σ vs ∧ tt σ2 H2 fun b H3 =>
        if b = true then te σ2 H3 fun y H4 => ∃ acc, H4 D = some (.lst acc) ∧ acc.length < sizeLine ∧ Nx (upd H4 D (.lst (acc ++ [y]))) else Nx H3)) : tLc wi g tt te vs σ H Q := k
theorem w_for {wi : TI} {tb : TS} {dn : St → Hp → Prop} {dr : VK} {db dc : St → Hp → Prop} (k : wi σ H fun J H1 => ∃ W : Nat → Nat → St → Hp → Prop, (∃ m, W 0 m σ H1) ∧ ∀ i m σ H, W i m σ H →
  (J.stop i H ∧ dn σ H) ∨ (J.go i H ∧ ∃ N : St → Hp → Prop, (∀ σ' H', N σ' H' → ∃ m', m' < m ∧ W (i + 1) m' σ' H') ∧ ∀ x H', J.yld i H x H' → g x σ H' fun σ2 H2 => tb ⟨N, dr, dn, N⟩ σ2 H2)) : tFor wi g tb ⟨dn, dr, db, dc⟩ σ H := k
theorem c_iL {R : It → Hp → Prop} (k : tl σ H fun x H1 => ∃ a, x = .ref a ∧ (∃ xs, SqL K H1 a xs) ∧ R (Itl K a) H1) : iList K tl σ H R := k
theorem c_iT {R : It → Hp → Prop} (k : tl σ H fun x H1 => ∃ a, x = .ref a ∧ (∃ xs, SqT K H1 a xs) ∧ R (Itt K a) H1) : iTup K tl σ H R := k
theorem c_iR1 {ta : TA} {R : It → Hp → Prop} (k : ta σ H fun vs H1 => ∃ j : Int, vs = [.int j] ∧ -(2 ^ 62) ≤ j ∧ j < 2 ^ 62 ∧ R (Itr 0 j.toNat) H1) : iRng1 ta σ H R := k
theorem c_iR2 {ta : TA} {R : It → Hp → Prop} (k : ta σ H fun vs H1 => ∃ i j : Int, vs = [.int i, .int j] ∧ (-(2 ^ 62) ≤ i ∧ i < 2 ^ 62 ∧ -(2 ^ 62) ≤ j ∧ j < 2 ^ 62) ∧ R (Itr i (j - i).toNat) H1) : iRng2 ta σ H R := k
theorem c_yes {P : Bool → Hp → Prop} (k : P true H) : tYes σ H P := k
/-! targets, fields, methods of lists -/
theorem g_tup {n : Nat} {t : TGs} {xs : List V} {P : St → Hp → Prop} (h : SqT K H a xs) (hn : xs.length = n) (k : t xs σ H P) : gTup K n t (.ref a) σ H P := ⟨a, xs, rfl, h, hn, k⟩
theorem g_lst {n : Nat} {t : TGs} {xs : List V} {P : St → Hp → Prop} (h : SqL K H a xs) (hn : xs.length = n) (k : t xs σ H P) : gLst K n t (.ref a) σ H P := ⟨a, xs, rfl, h, hn, k⟩
theorem g_cons {t : TG} {u : TGs} {v : V} {r : List V} {P : St → Hp → Prop} (k : t v σ H fun σ' H' => u r σ' H' P) : gCons t u (v :: r) σ H P := ⟨v, r, rfl, k⟩
theorem g_nil {P : St → Hp → Prop} (k : P σ H) : gNil [] σ H P := ⟨rfl, k⟩
theorem c_tfld {f : Str} (k : te σ H fun x H1 => FldO K f x H1 Q) : tFld K te f σ H Q := k
def PutO (K : PySem.W.Frag) (f : Str) (y x : V) (H : Hp) (P : Hp → Prop) : Prop := ∃ a C dx fs, x = .ref a ∧ H a = some (.ins C dx fs) ∧ Cls K C ∧ NoAttr K C f ∧ fs.length < 1000 ∧ P (upd H a (.ins C dx (putF f y fs)))
theorem w_sfld {f : Str} {ta : TE} {dn : St → Hp → Prop} {dr : VK} {db dc : St → Hp → Prop} (k : te σ H fun y H1 => ta σ H1 fun x H2 => PutO K f y x H2 (dn σ)) : sFld K ta te f ⟨dn, dr, db, dc⟩ σ H := k
theorem w_put0 {f : Str} {C dx : Addr} {y : V} {fs fs' : List (Str × V)} {P : Hp → Prop} (hs : Hs B ((a, .ins C dx fs) :: L) H) (hc : Cls K C) (hn : NoAttr K C f) (hl : fs.length < 1000) (e : putF f y fs = fs')
    (k : ∀ H', Hs B ((a, .ins C dx fs') :: L) H' → P H') : PutO K f y (.ref a) H P :=
  ⟨a, C, dx, fs, rfl, hs.get (.head _), hc, hn, hl, by rw [e]; exact k _ hs.u0⟩
theorem w_put1 {q : Addr × HO} {f : Str} {C dx : Addr} {y : V} {fs fs' : List (Str × V)} {P : Hp → Prop} (hs : Hs B (q :: (a, .ins C dx fs) :: L) H) (hc : Cls K C) (hn : NoAttr K C f) (hl : fs.length < 1000) (e : putF f y fs = fs')
    (k : ∀ H', Hs B (q :: (a, .ins C dx fs') :: L) H' → P H') : PutO K f y (.ref a) H P := w_put0 hs.swap hc hn hl e fun H' h => k H' h.swap
theorem w_put2 {q r : Addr × HO} {f : Str} {C dx : Addr} {y : V} {fs fs' : List (Str × V)} {P : Hp → Prop} (hs : Hs B (q :: r :: (a, .ins C dx fs) :: L) H) (hc : Cls K C) (hn : NoAttr K C f) (hl : fs.length < 1000) (e : putF f y fs = fs')
    (k : ∀ H', Hs B (q :: r :: (a, .ins C dx fs') :: L) H' → P H') : PutO K f y (.ref a) H P := w_put0 hs.rot3 hc hn hl e fun H' h => k H' h.unrot3
def AugO (K : PySem.W.Frag) (f : Str) (x : V) (H : Hp) (P : Addr → Addr → V → Prop) : Prop := ∃ a C dx fs v, x = .ref a ∧ H a = some (.ins C dx fs) ∧ Cls K C ∧ NoAttr K C f ∧ fs.lookup f = some v ∧ P a C v
def AputO (f : Str) (a C : Addr) (z : V) (H : Hp) (P : Hp → Prop) : Prop := ∃ dx' fs', H a = some (.ins C dx' fs') ∧ fs'.length < 1000 ∧ P (upd H a (.ins C dx' (putF f z fs')))
theorem w_sfldAug {f : Str} {ta : TE} {rd : V → V → Hp → VK → Prop} {dn : St → Hp → Prop} {dr : VK} {db dc : St → Hp → Prop} (k : ta σ H fun x H1 => AugO K f x H1 fun a C v => te σ H1 fun y H2 => rd v y H2 fun z H3 => AputO f a C z H3 (dn σ)) : sFldAug K ta te rd f ⟨dn, dr, db, dc⟩ σ H := k
theorem c_fldA {f : Str} {C dx : Addr} {fs : List (Str × V)} {v : V} {P : Addr → Addr → V → Prop} (h : H a = some (.ins C dx fs)) (hc : Cls K C) (hn : NoAttr K C f) (hl : fs.lookup f = some v) (k : P a C v) :
    AugO K f (.ref a) H P := ⟨a, C, dx, fs, v, rfl, h, hc, hn, hl, k⟩
theorem c_radd {i j : Int} (k : Q (.int (i + j)) H) : rAdd (.int i) (.int j) H Q := ⟨i, j, rfl, rfl, k⟩
theorem c_rsub {i j : Int} (k : Q (.int (i - j)) H) : rSub (.int i) (.int j) H Q := ⟨i, j, rfl, rfl, k⟩
theorem w_aput0 {f : Str} {C dx : Addr} {z : V} {fs fs' : List (Str × V)} {P : Hp → Prop} (hs : Hs B ((a, .ins C dx fs) :: L) H) (hl : fs.length < 1000) (e : putF f z fs = fs') (k : ∀ H', Hs B ((a, .ins C dx fs') :: L) H' → P H') :
    AputO f a C z H P := ⟨dx, fs, hs.get (.head _), hl, by rw [e]; exact k _ hs.u0⟩
theorem w_aput1 {q : Addr × HO} {f : Str} {C dx : Addr} {z : V} {fs fs' : List (Str × V)} {P : Hp → Prop} (hs : Hs B (q :: (a, .ins C dx fs) :: L) H) (hl : fs.length < 1000) (e : putF f z fs = fs') (k : ∀ H', Hs B (q :: (a, .ins C dx fs') :: L) H' → P H') :
    AputO f a C z H P := w_aput0 hs.swap hl e fun H' h => k H' h.swap
theorem w_aput2 {q r : Addr × HO} {f : Str} {C dx : Addr} {z : V} {fs fs' : List (Str × V)} {P : Hp → Prop} (hs : Hs B (q :: r :: (a, .ins C dx fs) :: L) H) (hl : fs.length < 1000) (e : putF f z fs = fs') (k : ∀ H', Hs B (q :: r :: (a, .ins C dx fs') :: L) H' → P H') :
    AputO f a C z H P := w_aput0 hs.rot3 hl e fun H' h => k H' h.unrot3
theorem c_bm {T : String} {r : V → List V → Hp → VK → Prop} {t : TA} (k : te σ H fun x H1 => tyV K T x H1 ∧ t σ H1 fun xs H2 => r x xs H2 Q) : tBM K T r te t σ H Q := k
theorem c_bm0 {T : String} {r : V → List V → Hp → VK → Prop} (k : te σ H fun x H1 => tyV K T x H1 ∧ r x [] H1 Q) : tBM0 K T r te σ H Q := k
theorem c_tyL {xs : List V} {P : Prop} (h : SqL K H a xs) (k : P) : tyV K "list" (.ref a) H ∧ P := ⟨.inl ⟨rfl, _, h⟩, k⟩
theorem c_app0 {xs : List V} {y : V} (hs : Hs B ((a, .lst xs) :: L) H) (hz : xs.length < sizeLine) (k : ∀ H', Hs B ((a, .lst (xs ++ [y])) :: L) H' → Q .non H') : rAppend (.ref a) [y] H Q := ⟨a, xs, y, rfl, rfl, hs.get (.head _), hz, k _ hs.u0⟩
theorem c_app1 {q : Addr × HO} {xs : List V} {y : V} (hs : Hs B (q :: (a, .lst xs) :: L) H) (hz : xs.length < sizeLine) (k : ∀ H', Hs B (q :: (a, .lst (xs ++ [y])) :: L) H' → Q .non H') : rAppend (.ref a) [y] H Q := c_app0 hs.swap hz fun H' h => k H' h.swap
theorem c_app2 {q r : Addr × HO} {xs : List V} {y : V} (hs : Hs B (q :: r :: (a, .lst xs) :: L) H) (hz : xs.length < sizeLine) (k : ∀ H', Hs B (q :: r :: (a, .lst (xs ++ [y])) :: L) H' → Q .non H') : rAppend (.ref a) [y] H Q := c_app0 hs.rot3 hz fun H' h => k H' h.unrot3
theorem c_sl {r : V → Option Int → Option Int → Hp → VK → Prop} {lo hi : TO} (k : te σ H fun x H1 => lo σ H1 fun l H2 => hi σ H2 fun u H3 => r x l u H3 Q) : tSl r te lo hi σ H Q := k
theorem c_part {P : Option Int → Hp → Prop} (k : te σ H fun x H1 => ∃ i, x = .int i ∧ P (some i) H1) : tPart te σ H P := k
theorem c_nopart {P : Option Int → Hp → Prop} (k : P none H) : tNoPart σ H P := k
theorem c_i {i : Int} {P : Int → Prop} (k : P i) : ∃ j, V.int i = .int j ∧ P j := ⟨i, rfl, k⟩
theorem small5 {n : Nat} (h : n ≤ 100000) : n < sizeLine := Nat.lt_of_le_of_lt h (by decide)
theorem small5' {n : Nat} (h : n ≤ 100000) : n ≤ sizeLine := Nat.le_trans h (by decide)
end
end L2.BP
namespace L2.BP
open PySem PySem.Spec PyProof.Rows
section
variable {f g : Str} {v w y : V} {r r' : List (Str × V)}
theorem look0 : List.lookup f ((f, v) :: r) = some v := by simp [List.lookup]
theorem lookS (h : ¬ f = g) (e : List.lookup f r = some v) : List.lookup f ((g, w) :: r) = some v := by
  have n : (f == g) = false := by simpa using h
  show (match f == g with | true => some w | false => List.lookup f r) = some v
  rw [n]
  exact e
theorem lookN : List.lookup f ([] : List (Str × V)) = none := rfl
theorem lookNS (h : ¬ f = g) (e : List.lookup f r = none) : List.lookup f ((g, w) :: r) = none := by
  have n : (f == g) = false := by simpa using h
  show (match f == g with | true => some w | false => List.lookup f r) = none
  rw [n]
  exact e
theorem put0 : putF f y ((f, v) :: r) = (f, y) :: r := if_pos rfl
theorem putN : putF f y [] = [(f, y)] := rfl
theorem putS (h : ¬ g = f) (e : putF f y r = r') : putF f y ((g, w) :: r) = (g, w) :: r' := by
  show (if g = f then _ else (g, w) :: putF f y r) = _
  rw [if_neg h, e]
end
section
variable {K : PySem.W.Frag} {σ : St} {H B : Hp} {L : Pic} {Q : VK} {sp : Sp} {W : WX} {dvs vs : List V} {C : Addr}
def MkO (C : Addr) (sp : Sp) (vs : List V) (H : Hp) (Q : VK) (E : XK) : Prop := ∀ x dx, H x = none → H dx = none → dx ≠ x → sp (.ref x :: vs) (upd (upd H dx (.own x)) x (.ins C dx [])) (fun v H2 => v = .non ∧ Q (.ref x) H2) E
theorem c_mk {t : TA} (k : t σ H fun vs H1 => MkO C sp (vs ++ dvs) H1 Q fun c d H2 => W c d σ H2) : tMk C sp dvs W t σ H Q := k
theorem c_mkO {E : XK} (hs : Hs B L H) (k : ∀ x dx H', Hs B ((x, .ins C dx []) :: L) H' → sp (.ref x :: vs) H' (fun v H2 => v = .non ∧ Q (.ref x) H2) E) : MkO C sp vs H Q E := fun x dx hx hdx ne => by
  have h1 := hs.new (o := HO.own x) hdx
  have h2 : (upd H dx (.own x)) x = none := by rw [upd_ne (Ne.symm ne)]; exact hx
  exact k x dx _ (h1.new h2).swap.drop
/-- drop what stands second, third -/
theorem Hs.drop1 {a b : Addr × HO} (h : Hs B (a :: b :: L) H) : Hs B (a :: L) H := h.swap.drop
theorem Hs.drop2 {a b c : Addr × HO} (h : Hs B (a :: b :: c :: L) H) : Hs B (a :: b :: L) H := h.rot3.drop
end
end L2.BP
namespace L2.BP
open PySem PySem.Spec PyProof.Rows
/-! ### walks that hand out pairs; walks of tuples -/
section
variable {α : Type} {K : PySem.W.Frag} {a : Addr} {g : TG} {tb : TS} {dn : St → Hp → Prop} {dr : VK} {db dc : St → Hp → Prop} {σ : St} {H B : Hp} {L : Pic}
/-- what a for asks of its iterator -/
def ForO (J : It) (g : TG) (tb : TS) (dn : St → Hp → Prop) (dr : VK) (σ : St) (H : Hp) : Prop := ∃ W : Nat → Nat → St → Hp → Prop, (∃ m, W 0 m σ H) ∧ ∀ i m σ H, W i m σ H →
  (J.stop i H ∧ dn σ H) ∨ (J.go i H ∧ ∃ N : St → Hp → Prop, (∀ σ' H', N σ' H' → ∃ m', m' < m ∧ W (i + 1) m' σ' H') ∧ ∀ x H', J.yld i H x H' → g x σ H' fun σ2 H2 => tb ⟨N, dr, dn, N⟩ σ2 H2)
theorem get_map {f : α → V} {l : List α} {i : Nat} {x : V} (h : (l.map f)[i]? = some x) : ∃ y, l[i]? = some y ∧ x = f y := by
  rw [List.getElem?_map] at h
  cases e : l[i]? with
  | none => rw [e] at h; cases h
  | some y => rw [e] at h; exact ⟨y, rfl, (Option.some.inj h).symm⟩
theorem w_forE (f : α → V) (l : List α) (I : List α → St → Pic → Hp → Prop) (hs : Hs B L H) (h0 : I [] σ L B) (hq : ∀ pre post σ' L' B' H', l = pre ++ post → I pre σ' L' B' → Hs B' L' H' → SqL K H' a (l.map f))
    (turn : ∀ pre x post σ' L' B' T H', l = pre ++ x :: post → I pre σ' L' B' → Hs B' ((T, .tup [.int ((pre.length : Nat) : Int), f x]) :: L') H' → g (.ref T) σ' H' fun σ2 H2 => tb ⟨NxI I (pre ++ [x]), dr, dn, NxI I (pre ++ [x])⟩ σ2 H2)
    (fin : ∀ σ' L' B' H', I l σ' L' B' → Hs B' L' H' → dn σ' H') : ForO (Ite K a) g tb dn dr σ H := by
  refine ⟨fun i m σ H => m = l.length - i ∧ i ≤ l.length ∧ NxI I (l.take i) σ H, ⟨l.length, by simp, Nat.zero_le _, L, B, by simpa using h0, hs⟩, ?_⟩
  rintro i m σ' H' ⟨rfl, hi, L', B', q, h⟩
  have z := hq (l.take i) (l.drop i) σ' L' B' H' (List.take_append_drop i l).symm q h
  by_cases hlt : i < l.length
  · refine .inr ⟨⟨l.map f, f l[i], z, by simp [hlt]⟩, NxI I (l.take (i + 1)), fun σ2 H2 p => ⟨_, by omega, rfl, hlt, p⟩, ?_⟩
    rintro v H2 ⟨T, x, rfl, hT, rfl, hx⟩
    obtain ⟨y, e1, rfl⟩ := get_map (hx _ z)
    obtain ⟨e2, e3⟩ := take_split e1
    have el : (l.take i).length = i := by rw [List.length_take]; omega
    have w := turn _ y _ σ' L' B' T _ e2 q (by rw [el]; exact h.new hT)
    rw [e3]
    exact w
  · have e : i = l.length := by omega
    subst e
    exact .inl ⟨⟨_, z, by simp⟩, fin _ _ _ _ (by simpa using q) h⟩
/-- over a tuple -/
theorem w_forT (xs : List V) (I : List V → St → Pic → Hp → Prop) (hs : Hs B L H) (h0 : I [] σ L B) (hq : ∀ pre post σ' L' B' H', xs = pre ++ post → I pre σ' L' B' → Hs B' L' H' → SqT K H' a xs)
    (turn : ∀ pre x post σ' L' B' H', xs = pre ++ x :: post → I pre σ' L' B' → Hs B' L' H' → g x σ' H' fun σ2 H2 => tb ⟨NxI I (pre ++ [x]), dr, dn, NxI I (pre ++ [x])⟩ σ2 H2)
    (fin : ∀ σ' L' B' H', I xs σ' L' B' → Hs B' L' H' → dn σ' H') :
    ∃ b, V.ref a = .ref b ∧ (∃ xs, SqT K H b xs) ∧ ForO (Itt K b) g tb dn dr σ H := by
  refine ⟨a, rfl, ⟨_, hq [] xs σ L B H rfl h0 hs⟩, ?_⟩
  refine L2.for_tup (D := { nx := dn, rt := dr }) (K := K) (a := a) (xs := xs) (fun i => NxI I (xs.take i)) ⟨L, B, by simpa using h0, hs⟩ (fun i σ' H' _ ⟨L', B', q, h⟩ => hq (xs.take i) (xs.drop i) σ' L' B' H' (List.take_append_drop i xs).symm q h) (fun i x σ' H' hx ⟨L', B', q, h⟩ => ?_) fun σ' H' ⟨L', B', q, h⟩ => fin _ _ _ _ (by simpa using q) h
  obtain ⟨e1, e2⟩ := take_split hx
  have w := turn _ x _ σ' L' B' H' e1 q h
  rw [e2]
  exact w
/-- over two lists -/
theorem w_forZ {β : Type} {b : Addr} (f : α → V) (f2 : β → V) (l : List α) (l2 : List β) (hl : l.length = l2.length) (I : Nat → St → Pic → Hp → Prop) (hs : Hs B L H) (h0 : I 0 σ L B)
    (hq : ∀ i σ' L' B' H', I i σ' L' B' → Hs B' L' H' → SqL K H' a (l.map f) ∧ SqL K H' b (l2.map f2))
    (turn : ∀ i x y σ' L' B' T H', l[i]? = some x → l2[i]? = some y → I i σ' L' B' → Hs B' ((T, .tup [f x, f2 y]) :: L') H' → g (.ref T) σ' H' fun σ2 H2 => tb ⟨NxI I (i + 1), dr, dn, NxI I (i + 1)⟩ σ2 H2)
    (fin : ∀ σ' L' B' H', I l.length σ' L' B' → Hs B' L' H' → dn σ' H') : ForO (Itz K a b) g tb dn dr σ H := by
  refine ⟨fun i m σ H => m = l.length - i ∧ i ≤ l.length ∧ NxI I i σ H, ⟨l.length, by simp, Nat.zero_le _, L, B, h0, hs⟩, ?_⟩
  rintro i m σ' H' ⟨rfl, hi, L', B', q, h⟩
  obtain ⟨z1, z2⟩ := hq i σ' L' B' H' q h
  by_cases hlt : i < l.length
  · have hlt2 : i < l2.length := by omega
    refine .inr ⟨⟨l.map f, l2.map f2, f l[i], f2 l2[i], z1, z2, by simp [hlt], by simp [hlt2]⟩, NxI I (i + 1), fun σ2 H2 p => ⟨_, by omega, rfl, hlt, p⟩, ?_⟩
    rintro v H2 ⟨T, x, y, rfl, hT, rfl, hx, hy⟩
    obtain ⟨x', e1, rfl⟩ := get_map (hx _ z1)
    obtain ⟨y', e2, rfl⟩ := get_map (hy _ z2)
    exact turn i x' y' σ' L' B' T _ e1 e2 q (h.new hT)
  · have e : i = l.length := by omega
    subst e
    exact .inl ⟨⟨_, _, z1, z2, by simp⟩, fin _ _ _ _ q h⟩
theorem c_iE {ta : TA} {R : It → Hp → Prop} (k : ta σ H fun vs H1 => ∃ a xs, vs = [.ref a] ∧ SqL K H1 a xs ∧ R (Ite K a) H1) : iEnum K ta σ H R := k
theorem c_iE1 {R : It → Hp → Prop} {xs : List V} (h : SqL K H a xs) (k : R (Ite K a) H) : ∃ b xs, [V.ref a] = [.ref b] ∧ SqL K H b xs ∧ R (Ite K b) H := ⟨a, xs, rfl, h, k⟩
theorem c_iZ {ta : TA} {R : It → Hp → Prop} (k : ta σ H fun vs H1 => ∃ a b xs ys, vs = [.ref a, .ref b] ∧ SqL K H1 a xs ∧ SqL K H1 b ys ∧ R (Itz K a b) H1) : iZip K ta σ H R := k
theorem c_iZ1 {R : It → Hp → Prop} {b : Addr} {xs ys : List V} (h : SqL K H a xs) (h2 : SqL K H b ys) (k : R (Itz K a b) H) : ∃ a' b' xs ys, [V.ref a, V.ref b] = [.ref a', .ref b'] ∧ SqL K H a' xs ∧ SqL K H b' ys ∧ R (Itz K a' b') H := ⟨a, b, xs, ys, rfl, h, h2, k⟩
end
section
variable {α : Type} {K : PySem.W.Frag} {a : Addr} {g : TG} {tt : TT} {te tl : TE} {σ : St} {H B : Hp} {L : Pic} {vs : List Nat}
/-- what a comprehension asks of its iterator -/
def LcO (J : It) (g : TG) (tt : TT) (te : TE) (vs : List Nat) (σ : St) (H : Hp) (P : Addr → Hp → Prop) : Prop := ∀ D, H D = none → ∃ W : Nat → Nat → Hp → Prop, (∃ m, W 0 m (upd H D (.lst []))) ∧ ∀ i m H, W i m H →
  (J.stop i H ∧ P D H) ∨ (J.go i H ∧ ∃ Nx : Hp → Prop, (∀ H', Nx H' → ∃ m', m' < m ∧ W (i + 1) m' H') ∧ ∀ x H', J.yld i H x H' → g x (wipe σ vs) H' fun σ2 H2 => wipe σ2 vs = wipe σ vs ∧ tt σ2 H2 fun b H3 =>
    if b = true then te σ2 H3 fun y H4 => ∃ acc, H4 D = some (.lst acc) ∧ acc.length < sizeLine ∧ Nx (upd H4 D (.lst (acc ++ [y]))) else Nx H3)
theorem c_lcE {P : Addr → Hp → Prop} (f : α → V) (l : List α) (I : List α → List V → Hp → Prop) (hs : Hs B L H) (h0 : I [] [] B) (hq : ∀ B' H', Same B B' → Hs B' L H' → SqL K H' a (l.map f))
    (turn : ∀ pre x post acc B' D T H', l = pre ++ x :: post → I pre acc B' → Same B B' → Hs B' ((T, .tup [.int ((pre.length : Nat) : Int), f x]) :: (D, .lst acc) :: L) H' → g (.ref T) (wipe σ vs) H' fun σ2 H2 => wipe σ2 vs = wipe σ vs ∧ tt σ2 H2 fun b H3 =>
      if b = true then te σ2 H3 fun y H4 => ∃ acc, H4 D = some (.lst acc) ∧ acc.length < sizeLine ∧ LcN I B L D (pre ++ [x]) (upd H4 D (.lst (acc ++ [y]))) else LcN I B L D (pre ++ [x]) H3)
    (fin : ∀ acc B' D H', I l acc B' → Same B B' → Hs B' ((D, .lst acc) :: L) H' → P D H') : LcO (Ite K a) g tt te vs σ H P := by
  intro D hD
  refine ⟨fun i m H' => m = l.length - i ∧ i ≤ l.length ∧ LcN I B L D (l.take i) H', ⟨l.length, by simp, Nat.zero_le _, [], B, by simpa using h0, Same.refl B, hs.new hD⟩, ?_⟩
  rintro i m H' ⟨rfl, hi, acc, B', q, e, h⟩
  have z := hq B' H' e h.drop
  by_cases hlt : i < l.length
  · refine .inr ⟨⟨l.map f, f l[i], z, by simp [hlt]⟩, LcN I B L D (l.take (i + 1)), fun H2 p => ⟨_, by omega, rfl, hlt, p⟩, ?_⟩
    rintro v H2 ⟨T, x, rfl, hT, rfl, hx⟩
    obtain ⟨y, e1, rfl⟩ := get_map (hx _ z)
    obtain ⟨e2, e3⟩ := take_split e1
    have el : (l.take i).length = i := by rw [List.length_take]; omega
    have w := turn _ y _ acc B' D T _ e2 q e (by rw [el]; exact h.new hT)
    rw [e3]
    exact w
  · have e' : i = l.length := by omega
    subst e'
    exact .inl ⟨⟨_, z, by simp⟩, fin acc B' D H' (by simpa using q) e h⟩
end
/-! ### lists of tuples -/
section
variable {K : PySem.W.Frag} {H H' : Hp}
/-- each of these values is a tuple of those items -/
inductive Tups (K : PySem.W.Frag) (H : Hp) : List V → List (List V) → Prop where
  | nil : Tups K H [] []
  | cons {a : Addr} {xs : List V} {vs : List V} {r : List (List V)} : SqT K H a xs → Tups K H vs r → Tups K H (V.ref a :: vs) (xs :: r)
theorem Tups.same (e : Same H H') : ∀ {vs : List V} {ps : List (List V)}, Tups K H vs ps → Tups K H' vs ps
  | _, _, .nil => .nil
  | _, _, .cons h t => .cons (same_sqt e h) (Tups.same e t)
theorem Tups.length : ∀ {vs : List V} {ps : List (List V)}, Tups K H vs ps → vs.length = ps.length
  | _, _, .nil => rfl
  | _, _, .cons _ t => congrArg (· + 1) t.length
theorem Tups.snoc {a : Addr} {xs : List V} : ∀ {vs : List V} {ps : List (List V)}, Tups K H vs ps → SqT K H a xs → Tups K H (vs ++ [.ref a]) (ps ++ [xs])
  | _, _, .nil, h => .cons h .nil
  | _, _, .cons z t, h => .cons z (t.snoc h)
theorem Tups.get : ∀ {vs : List V} {ps : List (List V)} {i : Nat} {xs : List V}, Tups K H vs ps → ps[i]? = some xs → ∃ a, vs[i]? = some (.ref a) ∧ SqT K H a xs
  | _, _, 0, _, .cons h _, e => by cases e; exact ⟨_, rfl, h⟩
  | _, _, i + 1, _, .cons _ t, e => t.get (i := i) e
theorem Tups.split {x : V} {post : List V} : ∀ {pre : List V} {ps : List (List V)}, Tups K H (pre ++ x :: post) ps → ∃ a p1 xs p2, x = .ref a ∧ ps = p1 ++ xs :: p2 ∧ p1.length = pre.length ∧ SqT K H a xs
  | [], ps, h => by
    cases (show Tups K H (x :: post) ps from h) with
    | cons hh t => exact ⟨_, [], _, _, rfl, rfl, rfl, hh⟩
  | y :: pre, ps, h => by
    cases (show Tups K H (y :: (pre ++ x :: post)) ps from h) with
    | cons hh t =>
      obtain ⟨a, p1, xs, p2, e1, e2, e3, e4⟩ := Tups.split t
      exact ⟨a, _ :: p1, xs, p2, e1, by rw [e2]; rfl, by simp [e3], e4⟩
end
end L2.BP
namespace L2.BP
open PySem PySem.Spec PyProof.Rows
section
variable {σ : St} {H B : Hp} {L : Pic} {K : PySem.W.Frag} {dn : St → Hp → Prop} {dr : VK} {db dc : St → Hp → Prop} {Q : VK} {tr : TA} {te to_ ti_ : TE} {a b : Addr} {xs ys : List V} {x v w o i : V}
theorem w_break (k : db σ H) : tBreak ⟨dn, dr, db, dc⟩ σ H := k
theorem w_cont (k : dc σ H) : tCont ⟨dn, dr, db, dc⟩ σ H := k
theorem w_retN (k : dr .non H) : tRetN ⟨dn, dr, db, dc⟩ σ H := k
def ParO (m n : Nat) (vs : List V) (σ : St) (dn : St → Hp → Prop) (H : Hp) : Prop := ∃ v w, vs = [v, w] ∧ dn ((σ.set m (some v)).set n (some w)) H
theorem w_par {m n : Nat} (k : tr σ H fun vs H1 => ParO m n vs σ dn H1) : tPar m n tr ⟨dn, dr, db, dc⟩ σ H := k
theorem c_parO {m n : Nat} (k : dn ((σ.set m (some v)).set n (some w)) H) : ParO m n [v, w] σ dn H := ⟨v, w, rfl, k⟩
/-! a list longer by another one, in place -/
theorem c_ext0 (hs : Hs B ((a, .lst xs) :: L) H) (hb : H b = some (.lst ys)) (hz : xs.length + ys.length ≤ sizeLine) (k : ∀ H', Hs B ((a, .lst (xs ++ ys)) :: L) H' → Q (.ref a) H') : ipAddU (.ref a) (.ref b) H Q :=
  .inr (.inl ⟨a, b, xs, ys, rfl, rfl, hs.get (.head _), hb, hz, k _ hs.u0⟩)
theorem c_extM0 (hs : Hs B ((a, .lst xs) :: L) H) (hb : H b = some (.lst ys)) (hz : xs.length + ys.length ≤ sizeLine) (k : ∀ H', Hs B ((a, .lst (xs ++ ys)) :: L) H' → Q .non H') : rExtend (.ref a) [.ref b] H Q :=
  ⟨a, b, xs, ys, rfl, rfl, hs.get (.head _), hb, hz, k _ hs.u0⟩
theorem c_clear0 (hs : Hs B ((a, .lst xs) :: L) H) (k : ∀ H', Hs B ((a, .lst []) :: L) H' → Q .non H') : rClear (.ref a) [] H Q := ⟨a, xs, rfl, rfl, hs.get (.head _), k _ hs.u0⟩
theorem c_reverse0 (hs : Hs B ((a, .lst xs) :: L) H) (k : ∀ H', Hs B ((a, .lst xs.reverse) :: L) H' → Q .non H') : rReverse (.ref a) [] H Q := ⟨a, xs, rfl, rfl, hs.get (.head _), k _ hs.u0⟩
/-! slices of tuples, lists turned round -/
theorem c_slT {lo hi : Option Int} (h : Hs B L H) (hq : SqT K H a xs) (hn : ¬ (HT.sIx xs.length 0 lo = 0 ∧ HT.sIx xs.length xs.length hi = xs.length)) (k : ∀ p H', Hs B ((p, .tup (cutV xs lo hi)) :: L) H' → Q (.ref p) H') : rSlK K (.ref a) lo hi H Q :=
  .inr (.inr ⟨a, xs, rfl, hq, hn, fun p hp => k p _ (h.new hp)⟩)
def RevO (K : PySem.W.Frag) (x : V) (H : Hp) (Q : VK) : Prop := ∃ a xs, x = .ref a ∧ SqL K H a xs ∧ ∀ p, H p = none → Q (.ref p) (upd H p (.lst xs.reverse))
theorem c_rev (k : te σ H fun x H1 => RevO K x H1 Q) : tRevL K te σ H Q := k
theorem c_revO (h : Hs B L H) (hq : SqL K H a xs) (k : ∀ p H', Hs B ((p, .lst xs.reverse) :: L) H' → Q (.ref p) H') : RevO K (.ref a) H Q := ⟨a, xs, rfl, hq, fun p hp => k p _ (h.new hp)⟩
/-! an item written -/
def SetO (o i v : V) (H : Hp) (P : Hp → Prop) : Prop := rSetL o i v H P
theorem g_sub {P : St → Hp → Prop} (k : to_ σ H fun o H1 => ti_ σ H1 fun i H2 => SetO o i v H2 (P σ)) : gSub to_ ti_ rSetL v σ H P := k
theorem w_set0 {j : Int} {m : Nat} {P : Hp → Prop} (hs : Hs B ((a, .lst xs) :: L) H) (e : j = ((m : Nat) : Int)) (hm : m < xs.length) (k : ∀ H', Hs B ((a, .lst (xs.set m v)) :: L) H' → P H') : SetO (.ref a) (.int j) v H P :=
  ⟨a, xs, j, m, rfl, rfl, hs.get (.head _), by subst e; unfold ixN; rw [if_pos (Int.natCast_nonneg _), if_pos (Int.ofNat_lt.mpr hm), Int.toNat_natCast], k _ hs.u0⟩
theorem w_set1 {q : Addr × HO} {j : Int} {m : Nat} {P : Hp → Prop} (hs : Hs B (q :: (a, .lst xs) :: L) H) (e : j = ((m : Nat) : Int)) (hm : m < xs.length) (k : ∀ H', Hs B (q :: (a, .lst (xs.set m v)) :: L) H' → P H') : SetO (.ref a) (.int j) v H P :=
  w_set0 hs.swap e hm fun H' h => k H' h.swap
theorem c_isiS {z : Str} (k : Q (.bl true) H) : rIsi K [.str z, .ty "str"] H Q := c_isiStr (.str z) k
theorem small6 {n : Nat} (h : n ≤ 200000) : n < sizeLine := Nat.lt_of_le_of_lt h (by decide)
theorem small6' {n : Nat} (h : n ≤ 200000) : n ≤ sizeLine := Nat.le_trans h (by decide)
end
end L2.BP
namespace L2.BP
open PySem PySem.Spec PyProof.Rows
section
variable {K : PySem.W.Frag} {W : WX} {vs : List V} {H : Hp} {Q : VK} {E : XK}
/-! ### == of lists -/
theorem eqvAll_ints : ∀ a b : List Int, PyData.eqvAll (a.map PyData.int) (b.map PyData.int) = decide (a = b)
  | [], [] => by simp [PyData.eqvAll]
  | [], y :: r => by simp [PyData.eqvAll]
  | x :: r, [] => by simp [PyData.eqvAll]
  | x :: r, y :: t => by
    rw [List.map_cons, List.map_cons, PyData.eqvAll, eqvAll_ints r t]
    simp only [PyData.eqv]
    by_cases h : x = y <;> by_cases h2 : r = t <;> simp [h, h2]
theorem canAll_ints : ∀ a : List Int, PyData.canLayAll0 (a.map PyData.int) = true
  | [] => by simp [PyData.canLayAll0]
  | x :: r => by
    rw [List.map_cons, PyData.canLayAll0, canAll_ints r]
    simp [PyData.canLay0]
theorem depAll_ints : ∀ a : List Int, PyData.depthAll (a.map PyData.int) ≤ 1
  | [] => by simp [PyData.depthAll]
  | x :: r => by
    have := depAll_ints r
    rw [List.map_cons, PyData.depthAll]
    simp [PyData.depth]
    omega
theorem shaped_ints (a : List Int) : SeqAt.shaped (.list (a.map PyData.int)) = true := by
  unfold SeqAt.shaped
  rw [PyData.canLay0, canAll_ints, PyData.depth]
  have := depAll_ints a
  simp
  omega
theorem c_eqL {p q : Addr} (a b : List Int) (h1 : SqL K H p (a.map V.int)) (h2 : SqL K H q (b.map V.int)) (k : Q (.bl (decide (a = b))) H) : rEqU K (.ref p) (.ref q) H Q := by
  refine c_eqD (.lst h1 (dpa_ints a)) (.lst h2 (dpa_ints b)) (shaped_ints a) (shaped_ints b) ?_
  rw [PyData.eqv, eqvAll_ints]
  exact k
theorem c_neL {p q : Addr} (a b : List Int) (h1 : SqL K H p (a.map V.int)) (h2 : SqL K H q (b.map V.int)) (k : Q (.bl (!decide (a = b))) H) : rNeU K (.ref p) (.ref q) H Q := by
  refine c_neD (.lst h1 (dpa_ints a)) (.lst h2 (dpa_ints b)) (shaped_ints a) (shaped_ints b) ?_
  rw [PyData.eqv, eqvAll_ints]
  exact k
/-! a list of tuples of whole numbers and texts against an equal one -/
def vD : V → PyData
  | .int i => .int i
  | .str x => .str x
  | .bl b => .bool b
  | _ => .none
def flatV : V → Bool
  | .int _ => true
  | .str x => PyData.canLay0 (.str x)
  | .bl _ => true
  | .non => true
  | _ => false
theorem dp_flat : ∀ {v : V}, flatV v = true → Dp K H v (vD v)
  | .int i, _ => .int i
  | .str x, _ => .str x
  | .bl b, _ => .bl b
  | .non, _ => .non
theorem dpa_flat : ∀ {xs : List V}, xs.all flatV = true → DpAll K H xs (xs.map vD)
  | [], _ => .nil
  | x :: r, h => by
    rw [List.all_cons, Bool.and_eq_true] at h
    exact .cons (dp_flat h.1) (dpa_flat h.2)
theorem can_flat : ∀ {v : V}, flatV v = true → (vD v).canLay0 = true ∧ (vD v).depth = 0
  | .int i, _ => ⟨by simp [vD, PyData.canLay0], by simp [vD, PyData.depth]⟩
  | .str x, h => ⟨h, by simp [vD, PyData.depth]⟩
  | .bl b, _ => ⟨by simp [vD, PyData.canLay0], by simp [vD, PyData.depth]⟩
  | .non, _ => ⟨by simp [vD, PyData.canLay0], by simp [vD, PyData.depth]⟩
theorem canAll_flat : ∀ {xs : List V}, xs.all flatV = true → PyData.canLayAll0 (xs.map vD) = true ∧ PyData.depthAll (xs.map vD) ≤ 1
  | [], _ => ⟨by simp [PyData.canLayAll0], by simp [PyData.depthAll]⟩
  | x :: r, h => by
    rw [List.all_cons, Bool.and_eq_true] at h
    obtain ⟨h1, h2⟩ := can_flat h.1
    obtain ⟨h3, h4⟩ := canAll_flat h.2
    rw [List.map_cons, PyData.canLayAll0, PyData.depthAll, h1, h2, h3]
    exact ⟨rfl, by omega⟩
def tupD (xs : List V) : PyData := .tuple (xs.map vD)
theorem canAll_tups : ∀ {xss : List (List V)}, (∀ xs ∈ xss, xs.all flatV = true) → PyData.canLayAll0 (xss.map tupD) = true ∧ PyData.depthAll (xss.map tupD) ≤ 3
  | [], _ => ⟨by simp [PyData.canLayAll0], by simp [PyData.depthAll]⟩
  | x :: r, h => by
    obtain ⟨h1, h2⟩ := canAll_flat (h x (.head _))
    obtain ⟨h3, h4⟩ := canAll_tups fun y hy => h y (.tail _ hy)
    have e1 : (tupD x).canLay0 = true := by
      unfold tupD
      rw [PyData.canLay0, h1]
    have e2 : (tupD x).depth ≤ 2 := by
      unfold tupD
      rw [PyData.depth]
      omega
    rw [List.map_cons, PyData.canLayAll0, PyData.depthAll, h3, e1]
    exact ⟨rfl, by omega⟩
theorem shaped_tups {xss : List (List V)} (h : ∀ xs ∈ xss, xs.all flatV = true) : SeqAt.shaped (.list (xss.map tupD)) = true := by
  obtain ⟨h1, h2⟩ := canAll_tups h
  unfold SeqAt.shaped
  rw [PyData.canLay0, PyData.depth, h1]
  simp
  omega
theorem dpa_tups : ∀ {ws : List V} {xss : List (List V)}, Tups K H ws xss → (∀ xs ∈ xss, xs.all flatV = true) → DpAll K H ws (xss.map tupD)
  | _, _, .nil, _ => .nil
  | _, _, .cons z t, h => .cons (.tup z (dpa_flat (h _ (.head _)))) (dpa_tups t fun y hy => h y (.tail _ hy))
theorem eqv_vD (v : V) : PyData.eqv (vD v) (vD v) = true := by cases v <;> simp [vD, PyData.eqv]
theorem eqvAll_vD : ∀ xs : List V, PyData.eqvAll (xs.map vD) (xs.map vD) = true
  | [] => by simp [PyData.eqvAll]
  | x :: r => by rw [List.map_cons, PyData.eqvAll, eqv_vD, eqvAll_vD r]; rfl
theorem eqvAll_tupD : ∀ xss : List (List V), PyData.eqvAll (xss.map tupD) (xss.map tupD) = true
  | [] => by simp [PyData.eqvAll]
  | x :: r => by
    have e : PyData.eqv (tupD x) (tupD x) = true := by
      unfold tupD
      rw [PyData.eqv, eqvAll_vD]
    rw [List.map_cons, PyData.eqvAll, e, eqvAll_tupD r]
    rfl
theorem eqv_tups {xss : List (List V)} : PyData.eqv (.list (xss.map tupD)) (.list (xss.map tupD)) = true := by rw [PyData.eqv, eqvAll_tupD]
/-- two lists of equal tuples -/
theorem c_neT {p q : Addr} {ws us : List V} {xss : List (List V)} (hf : ∀ xs ∈ xss, xs.all flatV = true) (h1 : SqL K H p ws) (t1 : Tups K H ws xss) (h2 : SqL K H q us) (t2 : Tups K H us xss) (k : Q (.bl false) H) : rNeU K (.ref p) (.ref q) H Q := by
  refine c_neD (.lst h1 (dpa_tups t1 hf)) (.lst h2 (dpa_tups t2 hf)) (shaped_tups hf) (shaped_tups hf) ?_
  rw [eqv_tups]
  exact k
theorem c_eqT {p q : Addr} {ws us : List V} {xss : List (List V)} (hf : ∀ xs ∈ xss, xs.all flatV = true) (h1 : SqL K H p ws) (t1 : Tups K H ws xss) (h2 : SqL K H q us) (t2 : Tups K H us xss) (k : Q (.bl true) H) : rEqU K (.ref p) (.ref q) H Q := by
  refine c_eqD (.lst h1 (dpa_tups t1 hf)) (.lst h2 (dpa_tups t2 hf)) (shaped_tups hf) (shaped_tups hf) ?_
  rw [eqv_tups]
  exact k
end
end L2.BP
namespace L2.BP
open PySem PySem.Spec PyProof.Rows
/-- both ways of an if meet again -/
theorem w_cut {t u : TS} {dn : St → Hp → Prop} {dr : VK} {db dc : St → Hp → Prop} {σ : St} {H : Hp} (Mid : St → Hp → Prop) (h1 : t ⟨Mid, dr, db, dc⟩ σ H) (h2 : ∀ σ' H', Mid σ' H' → u ⟨dn, dr, db, dc⟩ σ' H') : Evl.tCut t u ⟨dn, dr, db, dc⟩ σ H := ⟨Mid, h1, h2⟩
end L2.BP
section
open L2.BP
/-! steps, as rows of the tactic that the library names walk_at -/
local macro_rules | `(tactic| walk_at "mem") => `(tactic| first | exact .head _ | exact .tail _ (.head _) | exact .tail _ (.tail _ (.head _)) | exact .tail _ (.tail _ (.tail _ (.head _))) | exact .tail _ (.tail _ (.tail _ (.tail _ (.head _)))) | exact .tail _ (.tail _ (.tail _ (.tail _ (.tail _ (.head _))))))
local macro_rules | `(tactic| walk_at "get") => `(tactic| first | assumption | ((with_reducible apply Hs.get); (· assumption); (· walk_at "mem")) | exact (Hs.ex (by assumption)) _ _ (by assumption))
local macro_rules | `(tactic| walk_at "sq") => `(tactic| first | assumption | ((with_reducible apply Hs.sql); (· assumption); (· walk_at "mem")) | ((with_reducible apply Hs.bl); (· assumption); (· assumption)) | ((with_reducible apply SqL.of); (walk_at "get")))
local macro_rules | `(tactic| walk_at "sqt") => `(tactic| first | assumption | ((with_reducible apply Hs.sqt); (· assumption); (· walk_at "mem")) | ((with_reducible apply Hs.bt); (· assumption); (· assumption)) | ((with_reducible apply SqT.of); (walk_at "get")))
local macro_rules | `(tactic| walk_at "bd") => `(tactic| first | decide | omega | assumption)
local macro_rules | `(tactic| walk_at "cmul") => `(tactic| first | exact .inr ⟨by decide, by decide⟩ | exact .inl ⟨by decide, by decide⟩ | exact .inl ⟨by omega, by omega⟩ | exact .inr ⟨by omega, by omega⟩ | assumption)
local macro_rules | `(tactic| walk_at "yes") => `(tactic| first | rfl | assumption | exact decide_eq_true (by first | assumption | omega) | (simp only [Bool.not_eq_true', decide_eq_true_eq, decide_eq_false_iff_not, Bool.and_eq_true, Bool.or_eq_true] <;> omega))
local macro_rules | `(tactic| walk_at "no") => `(tactic| first | rfl | assumption | exact decide_eq_false (by first | assumption | omega) | (simp only [Bool.not_eq_false', decide_eq_true_eq, decide_eq_false_iff_not, Bool.and_eq_false_iff, Bool.or_eq_false_iff] <;> omega))
local macro_rules | `(tactic| walk_at "look") => `(tactic| first | (with_reducible exact look0) | ((with_reducible apply lookS); (· (decide +kernel)); walk_at "look"))
local macro_rules | `(tactic| walk_at "lookn") => `(tactic| first | (with_reducible exact lookN) | ((with_reducible apply lookNS); (· (decide +kernel)); walk_at "lookn"))
local macro_rules | `(tactic| walk_at "put") => `(tactic| first | (with_reducible exact put0) | (with_reducible exact putN) | ((with_reducible apply putS); (· (decide +kernel)); walk_at "put"))
local macro_rules | `(tactic| walk_at "few") => `(tactic| (exact of_decide_eq_true rfl))
local macro_rules | `(tactic| walk_at "s") => `(tactic| first
  | ((with_reducible apply c_var); (· exact rfl))
  | (with_reducible apply c_c)
  | (with_reducible apply c_op)
  | (with_reducible apply w_seq)
  | (with_reducible apply w_asg)
  | (with_reducible apply w_name)
  | (with_reducible apply w_if)
  | (with_reducible apply c_test)
  | (with_reducible apply c_bl)
  | ((with_reducible apply i_t); (· walk_at "yes"))
  | ((with_reducible apply i_f); (· walk_at "no"))
  | (with_reducible apply c_cons)
  | (with_reducible apply c_nil)
  | (with_reducible apply c_cb)
  | (with_reducible apply c_cl)
  | (with_reducible apply w_ret)
  | (with_reducible apply w_drop)
  | (with_reducible apply w_break)
  | (with_reducible apply w_cont)
  | (with_reducible apply w_retN)
  | (with_reducible apply w_par)
  | (with_reducible apply c_parO)
  | (with_reducible apply c_rev)
  | (with_reducible apply g_sub)
  | (with_reducible apply w_next)
  | (with_reducible apply c_addI)
  | (with_reducible apply c_sub)
  | ((with_reducible apply c_mulI); (· walk_at "cmul"))
  | ((with_reducible apply c_mod); (· walk_at "bd"))
  | ((with_reducible apply c_div); (· exact ⟨by walk_at "bd", by walk_at "bd"⟩))
  | (with_reducible apply c_lt)
  | (with_reducible apply c_le)
  | (with_reducible apply c_gt)
  | (with_reducible apply c_ge)
  | (with_reducible apply c_eqI)
  | ((with_reducible apply c_eqL); (· walk_at "sq"); (· walk_at "sq"))
  | ((with_reducible apply c_neL); (· walk_at "sq"); (· walk_at "sq"))
  | (with_reducible apply c_neI)
  | (with_reducible apply c_eqB)
  | (with_reducible apply c_neB)
  | (with_reducible apply c_eqS)
  | (with_reducible apply c_neS)
  | (with_reducible apply c_isN)
  | (with_reducible apply c_notN)
  | (with_reducible apply c_isB)
  | (with_reducible apply c_notB)
  | (with_reducible apply c_un)
  | (with_reducible apply c_neg)
  | (with_reducible apply c_and)
  | (with_reducible apply c_or)
  | (with_reducible apply c_xor)
  | ((with_reducible apply c_shr); (· walk_at "bd"))
  | ((with_reducible apply c_shl); (· exact ⟨by walk_at "bd", by walk_at "bd", by walk_at "bd"⟩))
  | (with_reducible apply c_B)
  | (with_reducible apply c_tand)
  | (with_reducible apply c_tor)
  | (with_reducible apply c_tnot)
  | (with_reducible apply c_andV)
  | (with_reducible apply c_orV)
  | (with_reducible apply c_notV)
  | (with_reducible apply c_chain)
  | (with_reducible apply c_if)
  | (with_reducible apply c_isi_ii)
  | (with_reducible apply c_isi_ib)
  | ((with_reducible apply c_lenL); (· walk_at "sq"))
  | ((with_reducible apply c_lenT); (· walk_at "sqt"))
  | (with_reducible apply c_isiS)
  | ((with_reducible apply c_ixL); (· (walk_at "sq")); (· first | exact rfl | assumption))
  | ((with_reducible apply c_ixT); (· (walk_at "sqt")); (· first | exact rfl | assumption))
  | (with_reducible apply c_tup)
  | (with_reducible apply c_lst)
  | ((with_reducible apply c_tupO); (· assumption); (· exact small5' (of_decide_eq_true rfl)); intro _ _ _)
  | ((with_reducible apply c_lstO); (· assumption); (· exact small5' (of_decide_eq_true rfl)); intro _ _ _)
  | ((with_reducible apply w_aug); (· exact rfl))
  | (with_reducible apply c_ipAddI)
  | (with_reducible apply c_ipSub)
  | (with_reducible apply c_intI)
  | (with_reducible apply c_intB)
  | (with_reducible apply c_max2)
  | (with_reducible apply c_mt)
  | ((with_reducible apply c_recv); (· (walk_at "get")); (· (walk_at "lookn")))
  | (with_reducible apply c_tfld)
  | ((with_reducible apply c_fld); (· (walk_at "get")); (· assumption); (· assumption); (· (walk_at "look")))
  | (with_reducible apply w_sfld)
  | (with_reducible apply w_sfldAug)
  | ((with_reducible apply c_fldA); (· (walk_at "get")); (· assumption); (· assumption); (· (walk_at "look")))
  | (with_reducible apply c_radd)
  | (with_reducible apply c_rsub)
  | ((with_reducible apply w_put0); (· assumption); (· assumption); (· assumption); (· (walk_at "few")); (· (walk_at "put")); intro _ _)
  | ((with_reducible apply w_put1); (· assumption); (· assumption); (· assumption); (· (walk_at "few")); (· (walk_at "put")); intro _ _)
  | ((with_reducible apply w_put2); (· assumption); (· assumption); (· assumption); (· (walk_at "few")); (· (walk_at "put")); intro _ _)
  | ((with_reducible apply w_aput0); (· assumption); (· (walk_at "few")); (· (walk_at "put")); intro _ _)
  | ((with_reducible apply w_aput1); (· assumption); (· (walk_at "few")); (· (walk_at "put")); intro _ _)
  | ((with_reducible apply w_aput2); (· assumption); (· (walk_at "few")); (· (walk_at "put")); intro _ _)
  | (with_reducible apply c_bm)
  | (with_reducible apply c_bm0)
  | ((with_reducible apply c_tyL); (· (walk_at "sq")))
  | (with_reducible apply c_sl)
  | (with_reducible apply c_part)
  | (with_reducible apply c_nopart)
  | (with_reducible apply c_i)
  | (with_reducible apply c_lc)
  | (with_reducible apply w_for)
  | (with_reducible apply c_iL)
  | (with_reducible apply c_iT)
  | (with_reducible apply c_iR1)
  | (with_reducible apply c_iR2)
  | (with_reducible apply c_yes)
  | (with_reducible apply g_cons)
  | (with_reducible apply g_nil)
  | ((with_reducible apply g_tup); (· (walk_at "sqt")); (· exact rfl))
  | (with_reducible apply c_mk)
  | ((with_reducible apply c_mkO); (· assumption); intro _ _ _ _)
  | (with_reducible apply c_iE)
  | (with_reducible apply c_iZ)
  | ((with_reducible apply c_iE1); (· walk_at "sq"))
  | ((with_reducible apply c_slL); (· assumption); (· walk_at "sq"); intro _ _ _)
  | ((with_reducible apply c_listL); (· assumption); (· walk_at "sq"); intro _ _ _)
  | (with_reducible apply c_min2))
local macro_rules | `(tactic| walk_at "go") => `(tactic| repeat walk_at "s")
namespace L2.BR
open PySem PySem.Spec PyProof.Rows L2.BP
variable {K : PySem.W.Frag} {W : WX} {vs : List V} {H : Hp} {Q : VK} {E : XK}
/-! ### rows -/
def Tg.isByte : Tg → Bool
  | .int i => decide (0 ≤ i) && decide (i ≤ 255)
  | _ => false
def sp_is_byte (K : PySem.W.Frag) : Sp := fun vs H Q _ => ∃ (v : V) (g : Tg), vs = [v] ∧ Th K H v g ∧ Q (.bl (Tg.isByte g)) H
theorem len_is_byte (h : sp_is_byte K vs H Q E) : vs.length = 1 := by
  obtain ⟨v, g, rfl, _⟩ := h
  rfl
def t_is_byte (K : PySem.W.Frag) (W : WX) : TS :=
  (tRet ((tAndV (tCB (rIsi K) (tCons (tVar 0) (tCons (tC (.ty "int")) tNil))) (tAndV (tNotV (tCB (rIsi K) (tCons (tVar 0) (tCons (tC (.ty "bool")) tNil)))) (tChain rLeU rLeU (tC (.int 0)) (tVar 0) (tC (.int 255)))))))
theorem rd_is_byte (h : sp_is_byte K vs H Q E) : t_is_byte K W { nx := fun _ H' => Q .non H', rt := Q } (start ["thing"] vs) H := by
  obtain ⟨v, g, rfl, hT, q⟩ := h
  have hs := Hs.start H
  unfold t_is_byte
  cases hT with
  | int i =>
    have q : Q (.bl (decide (0 ≤ i) && decide (i ≤ 255))) H := q
    walk_at "go"
    cases e : decide ((0 : Int) ≤ i) with
    | false =>
      rw [e] at q
      walk_at "go"
      exact q
    | true =>
      rw [e] at q
      walk_at "go"
      exact q
  | bl b =>
    walk_at "go"
    refine c_isiInt (.bl b) ?_
    walk_at "go"
    refine c_isiBool (.bl b) ?_
    walk_at "go"
    exact q
  | non => walk_at "go"; refine c_isiInt .non ?_; walk_at "go"; exact q
  | str x => walk_at "go"; refine c_isiInt (.str x) ?_; walk_at "go"; exact q
  | lst z => walk_at "go"; refine c_isiInt (.lst z) ?_; walk_at "go"; exact q
  | tup z => walk_at "go"; refine c_isiInt (.tup z) ?_; walk_at "go"; exact q
  | dic z => walk_at "go"; refine c_isiInt (.dic z) ?_; walk_at "go"; exact q
/-- whether a thing is a byte, by itself -/
def byteV : V → Bool
  | .int i => decide (0 ≤ i) && decide (i ≤ 255)
  | _ => false
theorem byteV_of {v : V} {g : Tg} (h : Th K H v g) : Tg.isByte g = byteV v := by cases h <;> rfl
def Tg.isRow : Tg → Bool
  | .lst xs => xs.all byteV
  | _ => false
/-- the thing may be looked at: its items are things, too -/
def Tg.ok (K : PySem.W.Frag) (H : Hp) : Tg → Prop
  | .lst xs => (∀ x ∈ xs, ∃ g, Th K H x g) ∧ xs.length ≤ 100000
  | _ => True
def sp_is_row (K : PySem.W.Frag) : Sp := fun vs H Q _ => ∃ (v : V) (g : Tg), vs = [v] ∧ Th K H v g ∧ Tg.ok K H g ∧ RetV H Q (.bl (Tg.isRow g))
theorem len_is_row (h : sp_is_row K vs H Q E) : vs.length = 1 := by
  obtain ⟨v, g, rfl, _⟩ := h
  rfl
def t_is_row (K : PySem.W.Frag) (W : WX) : TS :=
  (tRet ((tAndV (tCB (rIsi K) (tCons (tVar 0) (tCons (tC (.ty "list")) tNil))) (tCB (rAll K) (tCons (tLc (iList K (tVar 0)) (gName 1) tYes (tCl (sp_is_byte K) [] WF (tCons (tVar 1) tNil)) [1]) tNil)))))
theorem rd_is_row (h : sp_is_row K vs H Q E) : t_is_row K W { nx := fun _ H' => Q .non H', rt := Q } (start ["thing", "number"] vs) H := by
  obtain ⟨v, g, rfl, hT, hok, q⟩ := h
  have hs := Hs.start H
  unfold t_is_row
  cases hT with
  | @lst a xs z =>
    walk_at "go"
    refine c_isiList (.lst z) ?_
    walk_at "go"
    refine c_lcL (f := id) xs (fun pre acc B => acc = (pre.map byteV).map V.bl) hs rfl (fun B' H' e h => by rw [List.map_id]; exact (e.trans h.ex).seq z) ?_ ?_
    · intro pre x post acc B' D H' e i eB h
      obtain ⟨g, hg⟩ := hok.1 x (by rw [e]; simp)
      walk_at "go"
      refine ⟨rfl, ?_⟩
      walk_at "go"
      refine ⟨x, g, rfl, hg.same (eB.trans h.ex), ?_⟩
      subst i
      refine c_item h (small5 ?_) eB ?_
      · have := congrArg List.length e
        have := hok.2
        simp at *
        omega
      · rw [byteV_of hg]
        simp
    · intro acc B' D H' i eB h
      subst i
      walk_at "go"
      refine c_all (h.sql (.head _)) ?_
      have e : ((xs.map byteV).all id) = xs.all byteV := by simp
      rw [e]
      exact q _ (eB.trans h.ex)
  | non => walk_at "go"; refine c_isiList .non ?_; walk_at "go"; exact q _ hs.ex
  | bl b => walk_at "go"; refine c_isiList (.bl b) ?_; walk_at "go"; exact q _ hs.ex
  | int i => walk_at "go"; refine c_isiList (.int i) ?_; walk_at "go"; exact q _ hs.ex
  | str x => walk_at "go"; refine c_isiList (.str x) ?_; walk_at "go"; exact q _ hs.ex
  | tup z => walk_at "go"; refine c_isiList (.tup z) ?_; walk_at "go"; exact q _ hs.ex
  | dic z => walk_at "go"; refine c_isiList (.dic z) ?_; walk_at "go"; exact q _ hs.ex
/-- a row: its numbers -/
def Bytes (ns : List Int) : Prop := ∀ n ∈ ns, 0 ≤ n ∧ n ≤ 255
theorem ints_of : ∀ {xs : List V}, xs.all byteV = true → ∃ ns : List Int, xs = ns.map V.int ∧ Bytes ns
  | [], _ => ⟨[], rfl, fun _ h => nomatch h⟩
  | x :: r, h => by
    simp only [List.all_cons, Bool.and_eq_true] at h
    obtain ⟨ns, e, hb⟩ := ints_of h.2
    cases x with
    | int i =>
      refine ⟨i :: ns, by rw [e]; rfl, fun n hn => ?_⟩
      rcases List.mem_cons.mp hn with z | z
      · have h1 := h.1
        simp only [byteV, Bool.and_eq_true, decide_eq_true_eq] at h1
        rw [z]
        exact h1
      · exact hb n z
    | _ => cases h.1
theorem all_byteV {ns : List Int} (h : Bytes ns) : (ns.map V.int).all byteV = true := by
  rw [List.all_eq_true]
  intro x hx
  obtain ⟨n, hn, rfl⟩ := List.mem_map.mp hx
  have := h n hn
  simp only [byteV, Bool.and_eq_true, decide_eq_true_eq]
  exact this
theorem ok_ints {H : Hp} {ns : List Int} (h : ns.length ≤ 100000) : Tg.ok K H (.lst (ns.map V.int)) := by
  refine ⟨fun x hx => ?_, by rw [List.length_map]; exact h⟩
  obtain ⟨n, _, rfl⟩ := List.mem_map.mp hx
  exact ⟨_, .int n⟩
theorem cutV_ints (ns : List Int) (lo hi : Option Int) : cutV (ns.map V.int) lo hi = ((ns.drop (HT.sIx ns.length 0 lo)).take (HT.sIx ns.length ns.length hi - HT.sIx ns.length 0 lo)).map V.int := by
  unfold cutV
  rw [List.length_map, List.map_take, List.map_drop]
theorem sIx_at (n d k : Nat) (h : k ≤ n) : HT.sIx n d (some ((k : Nat) : Int)) = k := by rw [HT.sIx_nat]; omega
theorem map_int_inj : ∀ {a b : List Int}, a.map V.int = b.map V.int → a = b
  | [], [], _ => rfl
  | [], _ :: _, h => by cases h
  | _ :: _, [], h => by cases h
  | x :: r, y :: t, h => by
    injection h with h1 h2
    injection h1 with h1
    rw [h1, map_int_inj h2]
theorem ne_f {a b : Int} (h : a = b) : (!decide (a = b)) = false := by rw [decide_eq_true h]; rfl
theorem cut_take (ns : List Int) (m : Nat) : cutV (ns.map V.int) none (some ((m : Nat) : Int)) = (ns.take m).map V.int := by
  rw [cutV_ints, HT.sIx_nat, HT.sIx_none, List.drop_zero, Nat.sub_zero]
  congr 1
  by_cases h : m ≤ ns.length
  · rw [Nat.min_eq_left h]
  · rw [Nat.min_eq_right (by omega), List.take_of_length_le (Nat.le_refl _), List.take_of_length_le (by omega)]
theorem cut_drop (ns : List Int) (m : Nat) : cutV (ns.map V.int) (some ((m : Nat) : Int)) none = (ns.drop m).map V.int := by
  rw [cutV_ints, HT.sIx_nat, HT.sIx_none]
  congr 1
  by_cases h : m ≤ ns.length
  · rw [Nat.min_eq_left h, List.take_of_length_le (by rw [List.length_drop]; omega)]
  · rw [Nat.min_eq_right (by omega), List.drop_of_length_le (Nat.le_refl _), List.drop_of_length_le (by omega), List.take_nil]
theorem cut_mid (ns : List Int) (a b : Nat) (h1 : a ≤ b) (h2 : b ≤ ns.length) : cutV (ns.map V.int) (some ((a : Nat) : Int)) (some ((b : Nat) : Int)) = ((ns.drop a).take (b - a)).map V.int := by
  rw [cutV_ints, HT.sIx_nat _ 0 a, HT.sIx_nat _ _ b, Nat.min_eq_left (show a ≤ ns.length by omega), Nat.min_eq_left h2]
theorem at_nat {ns : List Int} {k : Nat} (h : k < ns.length) : atI (ns.map V.int) ((k : Nat) : Int) = some (.int (ns.getD k 0)) := by
  rw [atI_nat (v := .int (ns.getD k 0))]
  rw [List.getElem?_map, List.getElem?_eq_getElem h, List.getD_eq_getElem?_getD, List.getElem?_eq_getElem h]
  rfl
theorem at_i {ns : List Int} {i : Int} {k : Nat} (e : i = ((k : Nat) : Int)) (h : k < ns.length) : atI (ns.map V.int) i = some (.int (ns.getD k 0)) := by rw [e]; exact at_nat h
def sp_need_row (K : PySem.W.Frag) : Sp := fun vs H Q E => ∃ (v : V) (g : Tg), vs = [v] ∧ Th K H v g ∧ Tg.ok K H g ∧
  (∀ xs, g = .lst xs → Tg.isRow g = true → RetL H Q xs) ∧ (Tg.isRow g = false → ∀ H', Same H H' → E (.ref (He.ga K "BadRow")) none H')
theorem len_need_row (h : sp_need_row K vs H Q E) : vs.length = 1 := by
  obtain ⟨v, g, rfl, _⟩ := h
  rfl
def t_need_row (K : PySem.W.Frag) (W : WX) : TS :=
  (tSeq (tIfS (tNot (tB (tCl (sp_is_row K) [] W (tCons (tVar 0) tNil)))) (tRz (He.ga K "BadRow") W) tNext)
    (tRet (tCB (rListK K) (tCons (tVar 0) tNil))))
theorem rd_need_row (h : sp_need_row K vs H Q E) : t_need_row K (fun c d _ H2 => E c d H2) { nx := fun _ H' => Q .non H', rt := Q } (start ["thing"] vs) H := by
  obtain ⟨v, g, rfl, hT, hok, q, qe⟩ := h
  have hs := Hs.start H
  unfold t_need_row
  walk_at "go"
  refine ⟨v, g, rfl, hT, hok, retV hs fun H1 h1 => ?_⟩
  walk_at "go"
  cases e : Tg.isRow g with
  | false =>
    walk_at "go"
    exact qe e _ h1.ex
  | true =>
    cases hT with
    | @lst a xs z =>
      walk_at "go"
      rename_i p H2 h2
      exact h2.rl (.head _) (q xs rfl e)
    | _ => cases e
end L2.BR

namespace L2.BR
open PySem PySem.Spec PyProof.Rows L2.BP
variable {K : PySem.W.Frag}
/-! ### the script's cells -/
def cellAt (ns : List Int) (k : Int) : Int := if k < ns.length then ns.getD k.toNat 0 else 0
def sp__law_cell_at (K : PySem.W.Frag) : Sp := fun vs H Q _ => ∃ (a : Addr) (ns : List Int) (k : Int), vs = [.ref a, .int k] ∧ SqL K H a (ns.map V.int) ∧ 0 ≤ k ∧ Q (.int (cellAt ns k)) H
theorem len__law_cell_at {vs : List V} {H : Hp} {Q : VK} {E : XK} (h : sp__law_cell_at K vs H Q E) : vs.length = 2 := by
  obtain ⟨a, ns, k, rfl, _⟩ := h
  rfl
theorem at_ints {ns : List Int} {k : Int} (h0 : 0 ≤ k) (h : k < ns.length) : atI (ns.map V.int) k = some (.int (ns.getD k.toNat 0)) := by
  obtain ⟨n, rfl⟩ := Int.eq_ofNat_of_zero_le h0
  have hn : n < ns.length := by omega
  rw [atI_nat (v := .int (ns.getD n 0))]
  · rfl
  · rw [List.getElem?_map, List.getElem?_eq_getElem hn, List.getD_eq_getElem?_getD, List.getElem?_eq_getElem hn]
    rfl
def t__law_cell_at (K : PySem.W.Frag) (W : WX) : TS :=
  (tSeq (tIfS (tTest (tOp rLtU (tVar 1) (tCB (rLenK K) (tCons (tVar 0) tNil)))) (tRet (tOp (rIx K) (tVar 0) (tVar 1))) tNext)
    (tRet (tC (.int 0))))
theorem rd__law_cell_at {W : WX} {vs : List V} {H : Hp} {Q : VK} {E : XK} (h : sp__law_cell_at K vs H Q E) : t__law_cell_at K W { nx := fun _ H' => Q .non H', rt := Q } (start ["_law_script", "_law_k"] vs) H := by
  obtain ⟨a, ns, k, rfl, hS, h0, q⟩ := h
  have hs := Hs.start H
  unfold t__law_cell_at
  walk_at "go"
  refine i_2 (fun c => ?_) (fun c => ?_)
  · have c := of_decide_eq_true c
    rw [List.length_map] at c
    walk_at "go"
    refine c_ixL (by walk_at "sq") (at_ints h0 c) ?_
    rw [show cellAt ns k = ns.getD k.toNat 0 from if_pos c] at q
    exact q
  · have c := of_decide_eq_false c
    rw [List.length_map] at c
    walk_at "go"
    rw [show cellAt ns k = 0 from if_neg c] at q
    exact q
end L2.BR

namespace L2.BR
open PySem PySem.Spec PyProof.Rows L2.BP
/-! ### copies, pieces -/
/-- how many signs from a place on are those so many places ahead, from f on, m at most -/
def alk (ns : List Int) (p b : Nat) : Nat → Nat → Nat
  | 0, f => f
  | m + 1, f => if ns[p + f]? = ns[p + f - b]? then alk ns p b m (f + 1) else f
def alike (ns : List Int) (p b most : Nat) : Nat := alk ns p b most 0
theorem alk_le (ns : List Int) (p b : Nat) : ∀ m f, f ≤ alk ns p b m f ∧ alk ns p b m f ≤ f + m
  | 0, f => ⟨Nat.le_refl _, Nat.le_refl _⟩
  | m + 1, f => by
    have ih := alk_le ns p b m (f + 1)
    unfold alk
    by_cases h : ns[p + f]? = ns[p + f - b]?
    · rw [if_pos h]
      omega
    · rw [if_neg h]
      omega
theorem alk_eq (ns : List Int) (p b : Nat) : ∀ m f k, f ≤ k → k < alk ns p b m f → ns[p + k]? = ns[p + k - b]?
  | 0, f, k, h1, h2 => by
    unfold alk at h2
    omega
  | m + 1, f, k, h1, h2 => by
    unfold alk at h2
    by_cases h : ns[p + f]? = ns[p + f - b]?
    · rw [if_pos h] at h2
      by_cases hk : k = f
      · rw [hk]
        exact h
      · exact alk_eq ns p b m (f + 1) k (by omega) h2
    · rw [if_neg h] at h2
      omega
theorem alk_stop (ns : List Int) (p b : Nat) : ∀ m f, alk ns p b m f < f + m → ¬ ns[p + alk ns p b m f]? = ns[p + alk ns p b m f - b]?
  | 0, f, h => by
    unfold alk at h
    omega
  | m + 1, f, h => by
    by_cases e : ns[p + f]? = ns[p + f - b]?
    · have e2 : alk ns p b (m + 1) f = alk ns p b m (f + 1) := by
        conv => lhs; unfold alk
        rw [if_pos e]
      rw [e2] at h ⊢
      exact alk_stop ns p b m (f + 1) (by omega)
    · have e2 : alk ns p b (m + 1) f = f := by
        unfold alk
        rw [if_neg e]
      rw [e2]
      exact e
theorem alike_le (ns : List Int) (p b m : Nat) : alike ns p b m ≤ m := by
  have := (alk_le ns p b m 0).2
  unfold alike
  omega
theorem alike_eq {ns : List Int} {p b m k : Nat} (h : k < alike ns p b m) : ns[p + k]? = ns[p + k - b]? := alk_eq ns p b m 0 k (Nat.zero_le _) h
theorem alike_stop {ns : List Int} {p b m : Nat} (h : alike ns p b m < m) : ¬ ns[p + alike ns p b m]? = ns[p + alike ns p b m - b]? := alk_stop ns p b m 0 (by unfold alike at h; omega)
/-- the search: so many places ahead by turns, what was found -/
def lcp (ns : List Int) (p most : Nat) : List Nat → Nat × Nat → Nat × Nat
  | [], c => c
  | b :: r, c => if ns[p]? = ns[p - b]? then
      (if alike ns p b most = most then (if c.2 < alike ns p b most then (b, alike ns p b most) else c) else lcp ns p most r (if c.2 < alike ns p b most then (b, alike ns p b most) else c))
    else lcp ns p most r c
def backs (p : Nat) : List Nat := (List.range (min 255 p)).map (· + 1)
def mostAt (ns : List Int) (p : Nat) : Nat := min 18 (ns.length - p)
def longest (ns : List Int) (p : Nat) : Nat × Nat := lcp ns p (mostAt ns p) (backs p) (0, 0)
/-- what a found pair is -/
def Found (ns : List Int) (p : Nat) (c : Nat × Nat) : Prop := c = (0, 0) ∨ (1 ≤ c.1 ∧ c.1 ≤ 255 ∧ c.1 ≤ p ∧ c.2 = alike ns p c.1 (mostAt ns p))
theorem lcp_found {ns : List Int} {p : Nat} : ∀ (l : List Nat) (c : Nat × Nat), (∀ b ∈ l, 1 ≤ b ∧ b ≤ 255 ∧ b ≤ p) → Found ns p c → Found ns p (lcp ns p (mostAt ns p) l c)
  | [], c, _, h => h
  | b :: r, c, hl, h => by
    have hb := hl b (.head _)
    have hr : ∀ x ∈ r, 1 ≤ x ∧ x ≤ 255 ∧ x ≤ p := fun x hx => hl x (.tail _ hx)
    have hc : Found ns p (if c.2 < alike ns p b (mostAt ns p) then (b, alike ns p b (mostAt ns p)) else c) := by
      by_cases q : c.2 < alike ns p b (mostAt ns p)
      · rw [if_pos q]
        exact .inr ⟨hb.1, hb.2.1, hb.2.2, rfl⟩
      · rw [if_neg q]
        exact h
    unfold lcp
    by_cases e : ns[p]? = ns[p - b]?
    · rw [if_pos e]
      by_cases e2 : alike ns p b (mostAt ns p) = mostAt ns p
      · rw [if_pos e2]
        exact hc
      · rw [if_neg e2]
        exact lcp_found r _ hr hc
    · rw [if_neg e]
      exact lcp_found r c hr h
theorem backs_ok (p : Nat) : ∀ b ∈ backs p, 1 ≤ b ∧ b ≤ 255 ∧ b ≤ p := by
  intro b hb
  unfold backs at hb
  obtain ⟨i, hi, rfl⟩ := List.mem_map.mp hb
  have := List.mem_range.mp hi
  omega
theorem longest_found (ns : List Int) (p : Nat) : Found ns p (longest ns p) := lcp_found _ _ (backs_ok p) (.inl rfl)
theorem longest_copy {ns : List Int} {p : Nat} (h : 3 ≤ (longest ns p).2) : 1 ≤ (longest ns p).1 ∧ (longest ns p).1 ≤ 255 ∧ (longest ns p).1 ≤ p ∧ (longest ns p).2 = alike ns p (longest ns p).1 (mostAt ns p) := by
  rcases longest_found ns p with e | e
  · rw [e] at h
    simp at h
  · exact e
theorem longest_size (ns : List Int) (p : Nat) : (longest ns p).2 ≤ mostAt ns p := by
  rcases longest_found ns p with e | e
  · rw [e]
    exact Nat.zero_le _
  · rw [e.2.2.2]
    exact alike_le _ _ _ _
/-- a piece -/
inductive Pc where
  | sign (n : Int)
  | copy (b s : Nat)
abbrev pcV : Pc → List V
  | .sign n => [.str "sign", .int n]
  | .copy b s => [.str "copy", .int ((b : Nat) : Int), .int ((s : Nat) : Int)]
def Pc.ok : Pc → Prop
  | .sign n => 0 ≤ n ∧ n ≤ 255
  | .copy b s => 1 ≤ b ∧ b ≤ 255 ∧ 3 ≤ s ∧ s ≤ 18
def pcs (ns : List Int) : Nat → Nat → List Pc
  | 0, _ => []
  | m + 1, p => if p < ns.length then (if 3 ≤ (longest ns p).2 then .copy (longest ns p).1 (longest ns p).2 :: pcs ns m (p + (longest ns p).2) else .sign (ns.getD p 0) :: pcs ns m (p + 1)) else []
theorem pcs_end {ns : List Int} {m p : Nat} (h : ns.length ≤ p) : pcs ns m p = [] := by
  cases m with
  | zero => rfl
  | succ m =>
    unfold pcs
    rw [if_neg (by omega)]
theorem pcs_copy {ns : List Int} {m p : Nat} (h : p < ns.length) (h3 : 3 ≤ (longest ns p).2) : pcs ns (m + 1) p = .copy (longest ns p).1 (longest ns p).2 :: pcs ns m (p + (longest ns p).2) := by
  conv => lhs; unfold pcs
  rw [if_pos h, if_pos h3]
theorem pcs_sign {ns : List Int} {m p : Nat} (h : p < ns.length) (h3 : ¬ 3 ≤ (longest ns p).2) : pcs ns (m + 1) p = .sign (ns.getD p 0) :: pcs ns m (p + 1) := by
  conv => lhs; unfold pcs
  rw [if_pos h, if_neg h3]
/-! what pieces tell -/
def cpy (b : Nat) : Nat → List Int → List Int
  | 0, l => l
  | s + 1, l => cpy b s (l ++ [l.getD (l.length - b) 0])
def app (l : List Int) : Pc → List Int
  | .sign n => l ++ [n]
  | .copy b s => cpy b s l
def told (l : List Int) (ps : List Pc) : List Int := ps.foldl app l
/-- no copy reaches back too far -/
def Reach : List Int → List Pc → Prop
  | _, [] => True
  | l, .sign n :: r => Reach (l ++ [n]) r
  | l, .copy b s :: r => b ≤ l.length ∧ Reach (cpy b s l) r
theorem cpy_length (b : Nat) : ∀ s l, (cpy b s l).length = l.length + s
  | 0, l => rfl
  | s + 1, l => by
    unfold cpy
    rw [cpy_length b s, List.length_append, List.length_singleton]
    omega
theorem cpy_succ (b : Nat) : ∀ s l, cpy b (s + 1) l = cpy b s l ++ [(cpy b s l).getD ((cpy b s l).length - b) 0]
  | 0, l => rfl
  | s + 1, l => by
    show cpy b (s + 1) (l ++ [l.getD (l.length - b) 0]) = _
    rw [cpy_succ b s]
    rfl
theorem take_snoc {ns : List Int} {p : Nat} (h : p < ns.length) : ns.take p ++ [ns.getD p 0] = ns.take (p + 1) := by
  rw [List.take_add_one, List.getElem?_eq_getElem h, List.getD_eq_getElem?_getD, List.getElem?_eq_getElem h]
  rfl
theorem getD_of {ns : List Int} {i j : Nat} (h : ns[i]? = ns[j]?) : ns.getD i 0 = ns.getD j 0 := by rw [List.getD_eq_getElem?_getD, List.getD_eq_getElem?_getD, h]
theorem cpy_take {ns : List Int} {b : Nat} (hb : 1 ≤ b) : ∀ s p, b ≤ p → p + s ≤ ns.length → (∀ k, k < s → ns[p + k]? = ns[p + k - b]?) → cpy b s (ns.take p) = ns.take (p + s)
  | 0, p, _, _, _ => rfl
  | s + 1, p, h1, h2, h3 => by
    have l : (ns.take p).length = p := by rw [List.length_take]; omega
    have e0 := h3 0 (by omega)
    have e1 : (ns.take p).getD ((ns.take p).length - b) 0 = ns.getD p 0 := by
      rw [l, List.getD_eq_getElem?_getD, List.getElem?_take, if_pos (by omega), ← List.getD_eq_getElem?_getD]
      exact (getD_of e0).symm
    unfold cpy
    rw [e1, take_snoc (by omega)]
    rw [cpy_take hb s (p + 1) (by omega) (by omega) fun k hk => by
      have := h3 (k + 1) (by omega)
      rw [show p + 1 + k = p + (k + 1) by omega]
      exact this]
    congr 1
    omega
theorem pcs_told {ns : List Int} : ∀ m p, p ≤ ns.length → ns.length - p ≤ m → told (ns.take p) (pcs ns m p) = ns ∧ Reach (ns.take p) (pcs ns m p)
  | 0, p, h1, h2 => ⟨by rw [show p = ns.length by omega]; exact List.take_of_length_le (Nat.le_refl _), trivial⟩
  | m + 1, p, h1, h2 => by
    by_cases hp : p < ns.length
    · by_cases h3 : 3 ≤ (longest ns p).2
      · rw [pcs_copy hp h3]
        obtain ⟨c1, c2, c3, c4⟩ := longest_copy h3
        have hs := longest_size ns p
        unfold mostAt at hs
        have e := cpy_take (ns := ns) c1 (longest ns p).2 p c3 (by omega) fun k hk => by
          rw [c4] at hk
          exact alike_eq hk
        have ih := pcs_told (ns := ns) m (p + (longest ns p).2) (by omega) (by omega)
        refine ⟨?_, ?_, ?_⟩
        · show told (cpy _ _ (ns.take p)) _ = ns
          rw [e]
          exact ih.1
        · rw [List.length_take]
          omega
        · rw [e]
          exact ih.2
      · rw [pcs_sign hp h3]
        have ih := pcs_told (ns := ns) m (p + 1) (by omega) (by omega)
        refine ⟨?_, ?_⟩
        · show told (ns.take p ++ [ns.getD p 0]) _ = ns
          rw [take_snoc hp]
          exact ih.1
        · show Reach (ns.take p ++ [ns.getD p 0]) _
          rw [take_snoc hp]
          exact ih.2
    · rw [pcs_end (by omega)]
      exact ⟨by rw [show p = ns.length by omega]; exact List.take_of_length_le (Nat.le_refl _), trivial⟩
theorem pcs_ok {ns : List Int} (hn : ∀ n ∈ ns, 0 ≤ n ∧ n ≤ 255) : ∀ m p, ∀ c ∈ pcs ns m p, Pc.ok c
  | 0, p => fun c h => by cases h
  | m + 1, p => by
    intro c h
    by_cases hp : p < ns.length
    · by_cases h3 : 3 ≤ (longest ns p).2
      · rw [pcs_copy hp h3] at h
        rcases List.mem_cons.mp h with e | h
        · rw [e]
          obtain ⟨c1, c2, c3, c4⟩ := longest_copy h3
          have hs := longest_size ns p
          unfold mostAt at hs
          exact ⟨c1, c2, h3, by omega⟩
        · exact pcs_ok hn _ _ c h
      · rw [pcs_sign hp h3] at h
        rcases List.mem_cons.mp h with e | h
        · rw [e]
          have : ns.getD p 0 = ns[p] := by rw [List.getD_eq_getElem?_getD, List.getElem?_eq_getElem hp]; rfl
          rw [this]
          exact hn _ (List.getElem_mem hp)
        · exact pcs_ok hn _ _ c h
    · rw [pcs_end (by omega)] at h
      cases h
theorem pcs_length {ns : List Int} : ∀ m p, (pcs ns m p).length ≤ ns.length - p
  | 0, p => Nat.zero_le _
  | m + 1, p => by
    by_cases hp : p < ns.length
    · by_cases h3 : 3 ≤ (longest ns p).2
      · rw [pcs_copy hp h3, List.length_cons]
        have := pcs_length (ns := ns) m (p + (longest ns p).2)
        omega
      · rw [pcs_sign hp h3, List.length_cons]
        have := pcs_length (ns := ns) m (p + 1)
        omega
    · rw [pcs_end (by omega)]
      exact Nat.zero_le _
theorem told_append (l : List Int) (a b : List Pc) : told l (a ++ b) = told (told l a) b := by unfold told; rw [List.foldl_append]
theorem app_pre (l : List Int) (c : Pc) : ∃ r, app l c = l ++ r := by
  cases c with
  | sign n => exact ⟨_, rfl⟩
  | copy b s =>
    show ∃ r, cpy b s l = l ++ r
    induction s generalizing l with
    | zero => exact ⟨[], by simp [cpy]⟩
    | succ s ih =>
      unfold cpy
      obtain ⟨r, e⟩ := ih (l ++ [l.getD (l.length - b) 0])
      exact ⟨_, by rw [e, List.append_assoc]⟩
theorem told_pre : ∀ (ps : List Pc) (l : List Int), ∃ r, told l ps = l ++ r
  | [], l => ⟨[], by simp [told]⟩
  | c :: ps, l => by
    obtain ⟨r, e⟩ := app_pre l c
    obtain ⟨r2, e2⟩ := told_pre ps (app l c)
    exact ⟨r ++ r2, by show told (app l c) ps = _; rw [e2, e, List.append_assoc]⟩
theorem reach_append {b : List Pc} : ∀ {a : List Pc} {l : List Int}, Reach l (a ++ b) → Reach l a
  | [], _, _ => trivial
  | .sign n :: a, l, h => reach_append (a := a) h
  | .copy x s :: a, l, h => ⟨h.1, reach_append (a := a) h.2⟩
/-! signs exchanged one for one -/
def copyV : Pc → Option (List V)
  | .sign _ => none
  | .copy b s => some [.int ((b : Nat) : Int), .int ((s : Nat) : Int)]
section
variable {f : Int → Int} (hf : ∀ a b, f a = f b → a = b)
include hf
theorem map_at (ns : List Int) (i j : Nat) : ((ns.map f)[i]? = (ns.map f)[j]?) ↔ (ns[i]? = ns[j]?) := by
  rw [List.getElem?_map, List.getElem?_map]
  cases ns[i]? with
  | none => cases ns[j]? <;> simp
  | some a =>
    cases ns[j]? with
    | none => simp
    | some b =>
      simp only [Option.map_some, Option.some.injEq]
      exact ⟨hf a b, fun e => by rw [e]⟩
theorem alk_map (ns : List Int) (p b : Nat) : ∀ m g, alk (ns.map f) p b m g = alk ns p b m g
  | 0, g => rfl
  | m + 1, g => by
    unfold alk
    rw [alk_map ns p b m (g + 1)]
    by_cases h : ns[p + g]? = ns[p + g - b]?
    · rw [if_pos h, if_pos ((map_at hf ns _ _).mpr h)]
    · rw [if_neg h, if_neg fun z => h ((map_at hf ns _ _).mp z)]
theorem lcp_map (ns : List Int) (p m : Nat) : ∀ l c, lcp (ns.map f) p m l c = lcp ns p m l c
  | [], c => rfl
  | b :: r, c => by
    unfold lcp alike
    rw [alk_map hf, lcp_map ns p m r, lcp_map ns p m r]
    by_cases h : ns[p]? = ns[p - b]?
    · rw [if_pos h, if_pos ((map_at hf ns _ _).mpr h)]
    · rw [if_neg h, if_neg fun z => h ((map_at hf ns _ _).mp z)]
theorem longest_map (ns : List Int) (p : Nat) : longest (ns.map f) p = longest ns p := by
  unfold longest mostAt
  rw [lcp_map hf, List.length_map]
theorem pcs_map (ns : List Int) : ∀ m p, (pcs (ns.map f) m p).filterMap copyV = (pcs ns m p).filterMap copyV
  | 0, p => rfl
  | m + 1, p => by
    unfold pcs
    rw [longest_map hf, List.length_map]
    by_cases h : p < ns.length
    · rw [if_pos h, if_pos h]
      by_cases h3 : 3 ≤ (longest ns p).2
      · rw [if_pos h3, if_pos h3, List.filterMap_cons, List.filterMap_cons, pcs_map ns m]
      · rw [if_neg h3, if_neg h3, List.filterMap_cons, List.filterMap_cons, pcs_map ns m]
        rfl
    · rw [if_neg h, if_neg h]
end
end L2.BR

namespace L2.BR
open PySem PySem.Spec PyProof.Rows L2.BP
variable {K : PySem.W.Frag} {W : WX} {vs : List V} {H : Hp} {Q : VK} {E : XK}
def sp__law_mixed (K : PySem.W.Frag) : Sp := fun vs H Q _ => ∃ c k : Int, vs = [.int c, .int k] ∧ 0 ≤ k ∧ k ≤ 100000 ∧ ∀ m : Int, 0 ≤ m → Q (.int m) H
theorem len__law_mixed (h : sp__law_mixed K vs H Q E) : vs.length = 2 := by
  obtain ⟨c, k, rfl, _⟩ := h
  rfl
def t__law_mixed (K : PySem.W.Frag) (W : WX) : TS :=
  (tRet (tOp rModU (tOp rMulU (tOp rModU (tOp rMulU (tOp rAddU (tOp rAddU (tVar 0) (tOp rMulU (tOp rMulU (tC (.int 101)) (tVar 1)) (tVar 1))) (tC (.int 7))) (tC (.int 48271))) (tC (.int 2147483647))) (tC (.int 69621))) (tC (.int 2147483629))))
theorem rd__law_mixed (h : sp__law_mixed K vs H Q E) : t__law_mixed K W { nx := fun _ H' => Q .non H', rt := Q } (start ["_law_cell", "_law_k"] vs) H := by
  obtain ⟨c, k, rfl, h0, h1, q⟩ := h
  have hs := Hs.start H
  unfold t__law_mixed
  walk_at "go"
  exact q _ (Int.emod_nonneg _ (by decide))
end L2.BR

namespace L2.BR
open PySem PySem.Spec PyProof.Rows L2.BP
variable {K : PySem.W.Frag} {W : WX} {vs : List V} {H : Hp} {Q : VK} {E : XK}
/-- signs that are drawn: any ones, so many -/
def sp__law_signs (K : PySem.W.Frag) : Sp := fun vs H Q _ => ∃ (a : Addr) (ns : List Int) (z k : Nat), vs = [.ref a, .int 2, .int ((z : Nat) : Int), .int ((k : Nat) : Int)] ∧ SqL K H a (ns.map V.int) ∧ z ≤ 1000 ∧ k ≤ 20 ∧
  ∀ ts : List Int, Bytes ts → ts.length = z → RetL H Q (ts.map V.int)
theorem len__law_signs (h : sp__law_signs K vs H Q E) : vs.length = 4 := by
  obtain ⟨a, ns, z, k, rfl, _⟩ := h
  rfl
def t__law_signs (K : PySem.W.Frag) (W : WX) : TS :=
  (tSeq (tAsg (tLst tNil) (gName 4))
    (tSeq (tAsg (tC (.int 0)) (gName 5))
    (tSeq (tWhile (tTest (tOp rLtU (tCB (rLenK K) (tCons (tVar 4) tNil)) (tVar 2))) (tSeq (tAsg (tCl (sp__law_mixed K) [] W (tCons (tCl (sp__law_cell_at K) [] W (tCons (tVar 0) (tCons (tOp rAddU (tVar 1) (tOp rModU (tVar 5) (tC (.int 16)))) tNil))) (tCons (tVar 5) tNil))) (gName 6))
    (tSeq (tIfS ((tOr (tTest (tOp rGtU (tOp rModU (tVar 6) (tC (.int 3))) (tC (.int 0)))) (tTest (tOp (rEqU K) (tVar 4) (tLst tNil))))) (tSeq (tAsg (tOp rDivU (tVar 6) (tC (.int 3))) (gName 7))
    (tDrop (tBM K "list" rAppend (tVar 4) (tCons (tIf (tTest (tOp (rEqU K) (tVar 3) (tC (.int 0)))) (tOp rModU (tVar 7) (tC (.int 256))) (tOp rAddU (tOp rMulU (tC (.int 7)) (tOp rModU (tVar 7) (tVar 3))) (tVar 3))) tNil)))) (tSeq (tAsg (tOp rAddU (tC (.int 1)) (tOp rModU (tOp rDivU (tVar 6) (tC (.int 3))) (tCB (rMin2K) (tCons (tCB (rLenK K) (tCons (tVar 4) tNil)) (tCons (tOp (rIx K) (tLst (tCons (tC (.int 4)) (tCons (tC (.int 20)) (tCons (tC (.int 255)) tNil)))) (tOp rModU (tOp rDivU (tVar 6) (tC (.int 765))) (tC (.int 3)))) tNil))))) (gName 8))
    (tFor (iRng1 (tCons (tOp rAddU (tC (.int 1)) (tOp rModU (tOp rDivU (tVar 6) (tC (.int 2295))) (tOp (rIx K) (tLst (tCons (tC (.int 4)) (tCons (tC (.int 9)) (tCons (tC (.int 25)) tNil)))) (tOp rModU (tOp rDivU (tVar 6) (tC (.int 57375))) (tC (.int 3)))))) tNil)) (gName 9) (tDrop (tBM K "list" rAppend (tVar 4) (tCons (tOp (rIx K) (tVar 4) (tOp rSubU (tCB (rLenK K) (tCons (tVar 4) tNil)) (tVar 8))) tNil))))))
    (tAug 5 (tC (.int 1)) ipAddU))))
    (tRet (tSl (rSlK K) (tVar 4) tNoPart (tPart (tVar 2)))))))
theorem rd__law_signs (h : sp__law_signs K vs H Q E) : t__law_signs K W { nx := fun _ H' => Q .non H', rt := Q } (start ["_law_script", "_law_first", "_law_size_here", "_law_kinds", "_law_found", "_law_k", "_law_number", "_law_more", "_law_back", "_law_turn"] vs) H := by
  obtain ⟨a, ns, z, k, rfl, hS, hz, hk, q⟩ := h
  have hs := Hs.start H
  unfold t__law_signs
  walk_at "go"
  rename_i f H0 h0
  refine w_while (fun m σ' L' B' => ∃ (ts : List Int) (i : Nat) (w6 w7 w8 w9 : Option V), m = z - ts.length ∧ Bytes ts ∧ ts.length ≤ 2000 ∧ i ≤ ts.length ∧ σ' = [some (.ref a), some (.int 2), some (.int z), some (.int k), some (.ref f), some (.int ((i : Nat) : Int)), w6, w7, w8, w9] ∧ B' = H ∧ L' = [(f, .lst (ts.map V.int))]) z h0
    ⟨[], 0, none, none, none, none, by simp, fun _ h => (nomatch h), by simp, Nat.le_refl _, rfl, rfl, rfl⟩ ?_
  rintro m σ' L' B' H' ⟨ts, i, w6, w7, w8, w9, rfl, hb, hl, hi, rfl, rfl, rfl⟩ h
  have hS' := h.bl hS
  walk_at "go"
  rw [List.length_map]
  by_cases hlt : ts.length < z
  · refine i_t (decide_eq_true (by omega)) (w_turn ?_)
    walk_at "go"
    refine ⟨a, ns, _, rfl, hS', by omega, ?_⟩
    walk_at "go"
    refine ⟨_, _, rfl, by omega, by omega, fun x hx => ?_⟩
    obtain ⟨M, rfl⟩ := Int.eq_ofNat_of_zero_le hx
    have app : ∀ (x : Int) (w7 w8 w9 : Option V) (H2 : Hp), 0 ≤ x → x ≤ 255 → Hs B' [(f, .lst ((ts ++ [x]).map V.int))] H2 →
        NxI (fun m σ' L' B'' => ∃ (ts : List Int) (i : Nat) (w6 w7 w8 w9 : Option V), m = z - ts.length ∧ Bytes ts ∧ ts.length ≤ 2000 ∧ i ≤ ts.length ∧ σ' = [some (.ref a), some (.int 2), some (.int z), some (.int k), some (.ref f), some (.int ((i : Nat) : Int)), w6, w7, w8, w9] ∧ B'' = B' ∧ L' = [(f, .lst (ts.map V.int))]) (z - (ts.length + 1))
          [some (.ref a), some (.int 2), some (.int z), some (.int k), some (.ref f), some (.int (((i : Nat) : Int) + 1)), some (.int M), w7, w8, w9] H2 := by
      intro x w7 w8 w9 H2 h1 h2 h3
      refine ⟨_, _, ⟨ts ++ [x], i + 1, _, _, _, _, by rw [List.length_append, List.length_singleton], ?_, by rw [List.length_append, List.length_singleton]; omega, by rw [List.length_append, List.length_singleton]; omega, rfl, rfl, rfl⟩, h3⟩
      intro n hn
      rcases List.mem_append.mp hn with q | q
      · exact hb n q
      · rw [List.mem_singleton.mp q]
        exact ⟨h1, h2⟩
    have hm1 : ((M : Nat) : Int) / 3 = ((M / 3 : Nat) : Int) := by omega
    have hmk : 0 < k → ((M / 3 : Nat) : Int) % ((k : Nat) : Int) = ((M / 3 % k : Nat) : Int) := fun _ => by push_cast; rfl
    have hmk2 : 0 < k → M / 3 % k < k := fun h => Nat.mod_lt _ h
    walk_at "go"
    by_cases c1 : 0 < M % 3
    · refine i_t (decide_eq_true (by omega)) ?_
      walk_at "go"
      rw [hm1]
      by_cases ck : k = 0
      · refine i_t (decide_eq_true (by omega)) ?_
        walk_at "go"
        refine c_app0 h (small5 (by rw [List.length_map]; omega)) fun H2 h2 => ?_
        walk_at "go"
        refine ⟨_, ?_, app (((M / 3 : Nat) : Int) % 256) _ _ _ H2 (by omega) (by omega) (by rw [List.map_append]; exact h2)⟩
        omega
      · refine i_f (decide_eq_false (by omega)) ?_
        have e2 := hmk (by omega)
        have e3 := hmk2 (by omega)
        walk_at "go"
        refine c_app0 h (small5 (by rw [List.length_map]; omega)) fun H2 h2 => ?_
        walk_at "go"
        refine ⟨_, ?_, app (7 * (((M / 3 : Nat) : Int) % ((k : Nat) : Int)) + ((k : Nat) : Int)) _ _ _ H2 (by omega) (by omega) (by rw [List.map_append]; exact h2)⟩
        omega
    · refine i_f (decide_eq_false (by omega)) ?_
      walk_at "go"
      rename_i e0 H2 h2
      refine c_eqL ts [] (h2.sql (.tail _ (.head _))) (h2.sql (.head _)) ?_
      have h3 := h2.drop
      clear h2 h
      by_cases ce : ts = []
      · rw [decide_eq_true ce]
        walk_at "go"
        rw [hm1]
        by_cases ck : k = 0
        · refine i_t (decide_eq_true (by omega)) ?_
          walk_at "go"
          refine c_app0 h3 (small5 (by rw [List.length_map]; omega)) fun H4 h4 => ?_
          walk_at "go"
          refine ⟨_, ?_, app (((M / 3 : Nat) : Int) % 256) _ _ _ H4 (by omega) (by omega) (by rw [List.map_append]; exact h4)⟩
          omega
        · refine i_f (decide_eq_false (by omega)) ?_
          have e2 := hmk (by omega)
          have e3 := hmk2 (by omega)
          walk_at "go"
          refine c_app0 h3 (small5 (by rw [List.length_map]; omega)) fun H4 h4 => ?_
          walk_at "go"
          refine ⟨_, ?_, app (7 * (((M / 3 : Nat) : Int) % ((k : Nat) : Int)) + ((k : Nat) : Int)) _ _ _ H4 (by omega) (by omega) (by rw [List.map_append]; exact h4)⟩
          omega
      · rw [decide_eq_false ce]
        have hpos : 0 < ts.length := List.length_pos_iff.mpr ce
        obtain ⟨v1, hv1, hi1⟩ : ∃ v : Nat, (v = 4 ∨ v = 20 ∨ v = 255) ∧ atI [V.int 4, V.int 20, V.int 255] (((M : Nat) : Int) / 765 % 3) = some (.int ((v : Nat) : Int)) := by
          have hj : ((M : Nat) : Int) / 765 % 3 = 0 ∨ ((M : Nat) : Int) / 765 % 3 = 1 ∨ ((M : Nat) : Int) / 765 % 3 = 2 := by omega
          rcases hj with e | e | e
          · exact ⟨4, by omega, by rw [e]; rfl⟩
          · exact ⟨20, by omega, by rw [e]; rfl⟩
          · exact ⟨255, by omega, by rw [e]; rfl⟩
        obtain ⟨v2, hv2, hi2⟩ : ∃ v : Nat, (v = 4 ∨ v = 9 ∨ v = 25) ∧ atI [V.int 4, V.int 9, V.int 25] (((M : Nat) : Int) / 57375 % 3) = some (.int ((v : Nat) : Int)) := by
          have hj : ((M : Nat) : Int) / 57375 % 3 = 0 ∨ ((M : Nat) : Int) / 57375 % 3 = 1 ∨ ((M : Nat) : Int) / 57375 % 3 = 2 := by omega
          rcases hj with e | e | e
          · exact ⟨4, by omega, by rw [e]; rfl⟩
          · exact ⟨9, by omega, by rw [e]; rfl⟩
          · exact ⟨25, by omega, by rw [e]; rfl⟩
        obtain ⟨mn, emn, hmn1, hmn2⟩ : ∃ mn : Nat, (if ((v1 : Nat) : Int) < ((ts.length : Nat) : Int) then ((v1 : Nat) : Int) else ((ts.length : Nat) : Int)) = ((mn : Nat) : Int) ∧ 1 ≤ mn ∧ mn ≤ ts.length := by
          by_cases c : v1 < ts.length
          · exact ⟨v1, by rw [if_pos (by omega)], by omega, by omega⟩
          · exact ⟨ts.length, by rw [if_neg (by omega)], by omega, by omega⟩
        obtain ⟨bk, ebk, hbk⟩ : ∃ bk : Nat, ((M : Nat) : Int) / 3 % ((mn : Nat) : Int) = ((bk : Nat) : Int) ∧ bk < mn := ⟨M / 3 % mn, by push_cast; rfl, Nat.mod_lt _ (by omega)⟩
        obtain ⟨ct, ect, hct⟩ : ∃ ct : Nat, ((M : Nat) : Int) / 2295 % ((v2 : Nat) : Int) = ((ct : Nat) : Int) ∧ ct < v2 := ⟨M / 2295 % v2, by push_cast; rfl, Nat.mod_lt _ (by omega)⟩
        walk_at "go"
        rw [List.length_map, emn]
        walk_at "go"
        rw [ebk, ect]
        rename_i l1 H5 h5 l2 H6 h6
        have h7 := h6.drop.drop
        clear h6 h5 h3
        refine ⟨_, rfl, by omega, by omega, ?_⟩
        rw [show (1 + ((ct : Nat) : Int)).toNat = 1 + ct by omega]
        refine w_forR (fun j σ' L' B'' => ∃ (us : List Int) (w9 : Option V), us.length = ts.length + j ∧ Bytes us ∧ B'' = B' ∧ L' = [(f, .lst (us.map V.int))] ∧
          σ' = [some (.ref a), some (.int 2), some (.int z), some (.int k), some (.ref f), some (.int ((i : Nat) : Int)), some (.int M), w7, some (.int (1 + ((bk : Nat) : Int))), w9]) h7 ⟨ts, _, rfl, hb, rfl, rfl, rfl⟩ ?_ ?_
        · rintro j σ' L' B'' H8 hj ⟨us, w9, hu, hub, rfl, rfl, rfl⟩ h8
          walk_at "go"
          rw [List.length_map]
          have hlt2 : us.length - (1 + bk) < us.length := by omega
          refine c_ixL (h8.sql (.head _)) (at_i (k := us.length - (1 + bk)) (by omega) hlt2) ?_
          walk_at "go"
          refine c_app0 h8 (small5 (by rw [List.length_map]; omega)) fun H9 h9 => ?_
          walk_at "go"
          refine ⟨_, _, ⟨us ++ [us.getD (us.length - (1 + bk)) 0], _, by rw [List.length_append, List.length_singleton]; omega, ?_, rfl, by rw [List.map_append]; rfl, rfl⟩, h9⟩
          intro n hn
          rcases List.mem_append.mp hn with q | q
          · exact hub n q
          · rw [List.mem_singleton.mp q, List.getD_eq_getElem?_getD, List.getElem?_eq_getElem hlt2]
            exact hub _ (List.getElem_mem hlt2)
        · rintro σ' L' B'' H8 ⟨us, w9, hu, hub, rfl, rfl, rfl⟩ h8
          walk_at "go"
          refine ⟨_, ?_, _, _, ⟨us, i + 1, _, _, _, _, rfl, hub, by omega, by omega, rfl, rfl, rfl⟩, h8⟩
          omega
  · refine i_f (decide_eq_false (by omega)) ?_
    walk_at "go"
    rename_i p H2 h2
    rw [cut_take] at h2
    refine h2.rl (.head _) (q (ts.take z) (fun n hn => hb n (List.mem_of_mem_take hn)) ?_)
    rw [List.length_take]
    omega
end L2.BR

namespace L2.BR
open PySem PySem.Spec PyProof.Rows L2.BP
variable {K : PySem.W.Frag} {W : WX} {vs : List V} {H : Hp} {Q : VK} {E : XK}
/-! ### windows -/
def Tg.isWin : Tg → Bool
  | .non => true
  | .lst xs => xs.all byteV && decide (xs.length ≤ 255)
  | _ => false
def Tg.items : Tg → List V
  | .lst xs => xs
  | _ => []
def sp_need_window (K : PySem.W.Frag) : Sp := fun vs H Q E => ∃ (v : V) (g : Tg), vs = [v] ∧ Th K H v g ∧ Tg.ok K H g ∧
  (Tg.isWin g = true → RetL H Q (Tg.items g)) ∧ (Tg.isWin g = false → ∀ H', Same H H' → E (.ref (He.ga K "BadRow")) none H')
theorem len_need_window (h : sp_need_window K vs H Q E) : vs.length = 1 := by
  obtain ⟨v, g, rfl, _⟩ := h
  rfl
def t_need_window (K : PySem.W.Frag) (W : WX) : TS :=
  (tSeq (tIfS (tTest (tOp rIsU (tVar 0) (tC .non))) (tRet (tLst tNil)) tNext)
    (tSeq (tIfS ((tOr (tNot (tB (tCl (sp_is_row K) [] W (tCons (tVar 0) tNil)))) (tTest (tOp rGtU (tCB (rLenK K) (tCons (tVar 0) tNil)) (tC (.int 255)))))) (tRz (He.ga K "BadRow") W) tNext)
    (tRet (tCB (rListK K) (tCons (tVar 0) tNil)))))
theorem rd_need_window (h : sp_need_window K vs H Q E) : t_need_window K (fun c d _ H2 => E c d H2) { nx := fun _ H' => Q .non H', rt := Q } (start ["before"] vs) H := by
  obtain ⟨v, g, rfl, hT, hok, q, qe⟩ := h
  have hs := Hs.start H
  unfold t_need_window
  cases hT with
  | non =>
    walk_at "go"
    rename_i p H2 h2
    exact h2.rl (.head _) (q rfl)
  | @lst a xs z =>
    walk_at "go"
    refine ⟨.ref a, .lst xs, rfl, .lst z, hok, retV hs fun H1 h1 => ?_⟩
    walk_at "go"
    have z1 := h1.bl z
    cases e : Tg.isRow (.lst xs) with
    | false =>
      walk_at "go"
      exact qe (by simp only [Tg.isWin]; rw [show xs.all byteV = false from e]; rfl) _ h1.ex
    | true =>
      walk_at "go"
      by_cases hl : xs.length ≤ 255
      · refine i_f (decide_eq_false (by omega)) ?_
        walk_at "go"
        rename_i p H2 h2
        exact h2.rl (.head _) (q (by simp only [Tg.isWin]; rw [show xs.all byteV = true from e, decide_eq_true hl]; rfl))
      · refine i_t (decide_eq_true (by omega)) ?_
        walk_at "go"
        exact qe (by simp only [Tg.isWin]; rw [decide_eq_false hl, Bool.and_false]) _ h1.ex
  | bl b => walk_at "go"; refine ⟨_, _, rfl, .bl b, trivial, retV hs fun H1 h1 => ?_⟩; walk_at "go"; exact qe rfl _ h1.ex
  | int b => walk_at "go"; refine ⟨_, _, rfl, .int b, trivial, retV hs fun H1 h1 => ?_⟩; walk_at "go"; exact qe rfl _ h1.ex
  | str b => walk_at "go"; refine ⟨_, _, rfl, .str b, trivial, retV hs fun H1 h1 => ?_⟩; walk_at "go"; exact qe rfl _ h1.ex
  | tup z => walk_at "go"; refine ⟨_, _, rfl, .tup z, trivial, retV hs fun H1 h1 => ?_⟩; walk_at "go"; exact qe rfl _ h1.ex
  | dic z => walk_at "go"; refine ⟨_, _, rfl, .dic z, trivial, retV hs fun H1 h1 => ?_⟩; walk_at "go"; exact qe rfl _ h1.ex
theorem opt_getD {ns : List Int} {i j : Nat} (hi : i < ns.length) (hj : j < ns.length) : (ns[i]? = ns[j]?) ↔ (ns.getD i 0 = ns.getD j 0) := by
  rw [List.getD_eq_getElem?_getD, List.getD_eq_getElem?_getD, List.getElem?_eq_getElem hi, List.getElem?_eq_getElem hj]
  simp
def sp_alike_size (K : PySem.W.Frag) : Sp := fun vs H Q _ => ∃ (a : Addr) (ns : List Int) (p b most : Nat), vs = [.ref a, .int ((p : Nat) : Int), .int ((b : Nat) : Int), .int ((most : Nat) : Int)] ∧ SqL K H a (ns.map V.int) ∧ b ≤ p ∧ p + most ≤ ns.length ∧
  RetV H Q (.int ((alike ns p b most : Nat) : Int))
theorem len_alike_size (h : sp_alike_size K vs H Q E) : vs.length = 4 := by
  obtain ⟨a, ns, p, b, most, rfl, _⟩ := h
  rfl
def t_alike_size (K : PySem.W.Frag) (W : WX) : TS :=
  (tSeq (tAsg (tC (.int 0)) (gName 4))
    (tSeq (tWhile ((tAnd (tTest (tOp rLtU (tVar 4) (tVar 3))) (tTest (tOp (rEqU K) (tOp (rIx K) (tVar 0) (tOp rAddU (tVar 1) (tVar 4))) (tOp (rIx K) (tVar 0) (tOp rSubU (tOp rAddU (tVar 1) (tVar 4)) (tVar 2))))))) (tAug 4 (tC (.int 1)) ipAddU))
    (tRet (tVar 4))))
theorem rd_alike_size (h : sp_alike_size K vs H Q E) : t_alike_size K W { nx := fun _ H' => Q .non H', rt := Q } (start ["signs", "place", "back", "most", "found"] vs) H := by
  obtain ⟨a, ns, p, b, most, rfl, hS, hb, hm, q⟩ := h
  have hs := Hs.start H
  unfold t_alike_size
  walk_at "go"
  refine w_while (fun m σ' L' B' => ∃ f : Nat, f + m = most ∧ alk ns p b m f = alike ns p b most ∧ σ' = [some (.ref a), some (.int p), some (.int b), some (.int most), some (.int f)] ∧ B' = H ∧ L' = []) most hs ⟨0, by omega, rfl, rfl, rfl, rfl⟩ ?_
  rintro m σ' L' B' H' ⟨f, hf, hk, rfl, rfl, rfl⟩ h
  have hS' := h.bl hS
  walk_at "go"
  by_cases hlt : f < most
  · refine i_t (decide_eq_true (by omega)) ?_
    obtain ⟨m, rfl⟩ : ∃ m', m = m' + 1 := ⟨m - 1, by omega⟩
    have i1 : atI (ns.map V.int) (((p : Nat) : Int) + ((f : Nat) : Int)) = some (.int (ns.getD (p + f) 0)) := at_i (by omega) (by omega)
    have i2 : atI (ns.map V.int) (((p : Nat) : Int) + ((f : Nat) : Int) - ((b : Nat) : Int)) = some (.int (ns.getD (p + f - b) 0)) := at_i (by omega) (by omega)
    walk_at "go"
    unfold alk at hk
    by_cases he : ns[p + f]? = ns[p + f - b]?
    · rw [if_pos he] at hk
      refine i_t (decide_eq_true (getD_of he)) (w_turn ?_)
      walk_at "go"
      exact ⟨m, by omega, _, _, ⟨f + 1, by omega, hk, rfl, rfl, rfl⟩, h⟩
    · rw [if_neg he] at hk
      refine i_f (decide_eq_false fun z => he ((opt_getD (by omega) (by omega)).mpr z)) ?_
      walk_at "go"
      rw [hk]
      exact q _ h.ex
  · refine i_f (decide_eq_false (by omega)) ?_
    walk_at "go"
    rw [show m = 0 by omega] at hk
    unfold alk at hk
    rw [hk]
    exact q _ h.ex
theorem backs_split {p i : Nat} (h : i < min 255 p) : (backs p).drop i = (1 + i) :: (backs p).drop (i + 1) := by
  have l : i < (backs p).length := by unfold backs; simpa using h
  rw [List.drop_eq_getElem_cons l]
  have e : (backs p)[i] = 1 + i := by
    simp [backs]
    omega
  rw [e]
theorem backs_all {p : Nat} : (backs p).drop (min 255 p) = [] := List.drop_of_length_le (by unfold backs; simp)
def sp_longest_copy (K : PySem.W.Frag) : Sp := fun vs H Q _ => ∃ (a : Addr) (ns : List Int) (p : Nat), vs = [.ref a, .int ((p : Nat) : Int)] ∧ SqL K H a (ns.map V.int) ∧ p < ns.length ∧ ns.length ≤ 200000 ∧
  RetT H Q [.int (((longest ns p).1 : Nat) : Int), .int (((longest ns p).2 : Nat) : Int)]
theorem len_longest_copy (h : sp_longest_copy K vs H Q E) : vs.length = 2 := by
  obtain ⟨a, ns, p, rfl, _⟩ := h
  rfl
def t_longest_copy (K : PySem.W.Frag) (W : WX) : TS :=
  (tSeq (tAsg (tCB (rMin2K) (tCons (tC (.int 18)) (tCons (tOp rSubU (tCB (rLenK K) (tCons (tVar 0) tNil)) (tVar 1)) tNil))) (gName 2))
    (tSeq (tAsg (tTup (tCons (tC (.int 0)) (tCons (tC (.int 0)) tNil))) (gName 3))
    (tSeq (tFor (iRng2 (tCons (tC (.int 1)) (tCons (tOp rAddU (tCB (rMin2K) (tCons (tC (.int 255)) (tCons (tVar 1) tNil))) (tC (.int 1))) tNil))) (gName 4) (tSeq (tIfS (tTest (tOp (rNeU K) (tOp (rIx K) (tVar 0) (tVar 1)) (tOp (rIx K) (tVar 0) (tOp rSubU (tVar 1) (tVar 4))))) (tCont) tNext)
    (tSeq (tAsg (tCl (sp_alike_size K) [] W (tCons (tVar 0) (tCons (tVar 1) (tCons (tVar 4) (tCons (tVar 2) tNil))))) (gName 5))
    (tSeq (tIfS (tTest (tOp rGtU (tVar 5) (tOp (rIx K) (tVar 3) (tC (.int 1))))) (tAsg (tTup (tCons (tVar 4) (tCons (tVar 5) tNil))) (gName 3)) tNext)
    (tIfS (tTest (tOp (rEqU K) (tVar 5) (tVar 2))) (tBreak) tNext)))))
    (tRet (tVar 3)))))
theorem rd_longest_copy (h : sp_longest_copy K vs H Q E) : t_longest_copy K W { nx := fun _ H' => Q .non H', rt := Q } (start ["signs", "place", "most", "found", "back", "size"] vs) H := by
  obtain ⟨a, ns, p, rfl, hS, hp, hl, q⟩ := h
  have hs := Hs.start H
  unfold t_longest_copy
  walk_at "go"
  rw [List.length_map, show (if ((ns.length : Nat) : Int) - ((p : Nat) : Int) < 18 then ((ns.length : Nat) : Int) - ((p : Nat) : Int) else 18) = ((mostAt ns p : Nat) : Int) by unfold mostAt; split <;> omega]
  rename_i t0 H0 h0
  have hm : mostAt ns p ≤ ns.length - p ∧ mostAt ns p ≤ 18 := by unfold mostAt; omega
  have e1 : (if ((p : Nat) : Int) < 255 then ((p : Nat) : Int) else 255) + 1 = ((min 255 p + 1 : Nat) : Int) := by split <;> omega
  rw [e1]
  refine ⟨1, _, rfl, ⟨by decide, by decide, by omega, by omega⟩, ?_⟩
  have e2 : (((min 255 p + 1 : Nat) : Int) - 1).toNat = min 255 p := by omega
  rw [e2]
  refine w_forR (fun i σ' L' B' => ∃ (c : Nat × Nat) (t : Addr) (w4 w5 : Option V), lcp ns p (mostAt ns p) ((backs p).drop i) c = longest ns p ∧ σ' = [some (.ref a), some (.int p), some (.int ((mostAt ns p : Nat) : Int)), some (.ref t), w4, w5] ∧ B' = H ∧
    L' = [(t, .tup [.int ((c.1 : Nat) : Int), .int ((c.2 : Nat) : Int)])]) h0 ⟨(0, 0), t0, none, none, rfl, rfl, rfl, rfl⟩ ?_ ?_
  · rintro i σ' L' B' H' hi ⟨c, t, w4, w5, hc, rfl, rfl, rfl⟩ h
    rw [backs_split hi] at hc
    have hS' := h.bl hS
    have i1 : atI (ns.map V.int) ((p : Nat) : Int) = some (.int (ns.getD p 0)) := at_nat hp
    have i2 : atI (ns.map V.int) (((p : Nat) : Int) - (1 + ((i : Nat) : Int))) = some (.int (ns.getD (p - (1 + i)) 0)) := at_i (by omega) (by omega)
    unfold lcp at hc
    walk_at "go"
    by_cases he : ns[p]? = ns[p - (1 + i)]?
    · rw [if_pos he] at hc
      refine i_f (ne_f (getD_of he)) ?_
      walk_at "go"
      refine ⟨a, ns, p, 1 + i, mostAt ns p, rfl, hS', by omega, by omega, retV h fun H2 h2 => ?_⟩
      clear h
      have ht2 := h2.sqt (K := K) (.head _)
      walk_at "go"
      by_cases c1 : c.2 < alike ns p (1 + i) (mostAt ns p)
      · rw [if_pos c1] at hc
        refine i_t (decide_eq_true (by omega)) ?_
        walk_at "go"
        rename_i t3 H3 h3
        have h4 := h3.drop1
        by_cases c2 : alike ns p (1 + i) (mostAt ns p) = mostAt ns p
        · rw [if_pos c2] at hc
          refine i_t (decide_eq_true (by omega)) ?_
          rw [← hc] at q
          walk_at "go"
          exact h4.rt (.head _) q
        · rw [if_neg c2] at hc
          refine i_f (decide_eq_false (by omega)) ?_
          walk_at "go"
          exact ⟨_, _, ⟨_, t3, _, _, hc, rfl, rfl, rfl⟩, h4⟩
      · rw [if_neg c1] at hc
        refine i_f (decide_eq_false (by omega)) ?_
        walk_at "go"
        by_cases c2 : alike ns p (1 + i) (mostAt ns p) = mostAt ns p
        · rw [if_pos c2] at hc
          refine i_t (decide_eq_true (by omega)) ?_
          rw [← hc] at q
          walk_at "go"
          exact h2.rt (.head _) q
        · rw [if_neg c2] at hc
          refine i_f (decide_eq_false (by omega)) ?_
          walk_at "go"
          exact ⟨_, _, ⟨c, t, _, _, hc, rfl, rfl, rfl⟩, h2⟩
    · rw [if_neg he] at hc
      refine i_t (by rw [decide_eq_false fun z => he ((opt_getD (by omega) (by omega)).mpr z)]; rfl) ?_
      walk_at "go"
      exact ⟨_, _, ⟨c, t, _, _, hc, rfl, rfl, rfl⟩, h⟩
  · rintro σ' L' B' H' ⟨c, t, w4, w5, hc, rfl, rfl, rfl⟩ h
    rw [backs_all] at hc
    unfold lcp at hc
    rw [← hc] at q
    walk_at "go"
    exact h.rt (.head _) q
/-- rows handed over -/
theorem isWin_ints {ns : List Int} (h : Bytes ns) (hl : ns.length ≤ 255) : Tg.isWin (.lst (ns.map V.int)) = true := by
  simp only [Tg.isWin]
  rw [all_byteV h, decide_eq_true (by rw [List.length_map]; exact hl)]
  rfl
theorem _root_.L2.BP.Tups.snocFix {K : PySem.W.Frag} {B : Hp} {t : Addr} {xs : List V} {acc : List V} {ps : List (List V)} (h : Tups K B acc ps) (hn : B t = none) : Tups K (upd B t (.tup xs)) (acc ++ [.ref t]) (ps ++ [xs]) := (h.same (same_upd hn)).snoc (SqT.of upd_same)
def sp_pieces_of (K : PySem.W.Frag) : Sp := fun vs H Q E => ∃ (B : Hp) (L : Pic) (v w : V) (g k : Tg), vs = [v, w] ∧ Hs B L H ∧ Th K H v g ∧ Tg.ok K H g ∧ Th K H w k ∧ Tg.ok K H k ∧
  (∀ ts ws : List Int, g = .lst (ts.map V.int) → Bytes ts → Tg.isWin k = true → Tg.items k = ws.map V.int → ∀ B2 p xs H', Same B B2 → Tups K B2 xs ((pcs (ws ++ ts) (ts.length) ws.length).map pcV) → Hs B2 ((p, .lst xs) :: L) H' → Q (.ref p) H') ∧
  ((Tg.isRow g = false ∨ Tg.isWin k = false) → ∀ H', Hs B L H' → E (.ref (He.ga K "BadRow")) none H')
theorem len_pieces_of (h : sp_pieces_of K vs H Q E) : vs.length = 2 := by
  obtain ⟨B, L, v, w, g, k, rfl, _⟩ := h
  rfl
theorem Tg.ok_same {g : Tg} {H' : Hp} (e : Same H H') (h : Tg.ok K H g) : Tg.ok K H' g := by
  cases g with
  | lst xs => exact ⟨fun x hx => (h.1 x hx).elim fun g hg => ⟨g, hg.same e⟩, h.2⟩
  | _ => trivial
theorem row_ints {g : Tg} (h : Tg.isRow g = true) : ∃ ns : List Int, g = .lst (ns.map V.int) ∧ Bytes ns := by
  cases g with
  | lst xs =>
    obtain ⟨ns, e, hb⟩ := ints_of (show xs.all byteV = true from h)
    exact ⟨ns, by rw [e], hb⟩
  | _ => cases h
theorem win_ints {g : Tg} (h : Tg.isWin g = true) : ∃ ns : List Int, Tg.items g = ns.map V.int ∧ Bytes ns ∧ ns.length ≤ 255 := by
  cases g with
  | non => exact ⟨[], rfl, fun _ h => (nomatch h), Nat.zero_le _⟩
  | lst xs =>
    have h1 : (xs.all byteV && decide (xs.length ≤ 255)) = true := h
    rw [Bool.and_eq_true, decide_eq_true_eq] at h1
    obtain ⟨ns, e, hb⟩ := ints_of h1.1
    exact ⟨ns, e, hb, by rw [e, List.length_map] at h1; exact h1.2⟩
  | _ => cases h
def t_pieces_of (K : PySem.W.Frag) (W : WX) : TS :=
  (tSeq (tAsg (tCl (sp_need_row K) [] W (tCons (tVar 0) tNil)) (gName 2))
    (tSeq (tAsg (tCl (sp_need_window K) [] W (tCons (tVar 1) tNil)) (gName 3))
    (tSeq (tAsg (tCB (rLenK K) (tCons (tVar 3) tNil)) (gName 4))
    (tSeq (tAug 3 (tVar 2) ipAddU)
    (tSeq (tAsg (tLst tNil) (gName 5))
    (tSeq (tWhile (tTest (tOp rLtU (tVar 4) (tCB (rLenK K) (tCons (tVar 3) tNil)))) (tSeq (tAsg (tCl (sp_longest_copy K) [] W (tCons (tVar 3) (tCons (tVar 4) tNil))) (gTup K 2 (gCons (gName 6) (gCons (gName 7) gNil))))
    (tIfS (tTest (tOp rGeU (tVar 7) (tC (.int 3)))) (tSeq (tDrop (tBM K "list" rAppend (tVar 5) (tCons (tTup (tCons (tC (.str "copy")) (tCons (tVar 6) (tCons (tVar 7) tNil)))) tNil)))
    (tAug 4 (tVar 7) ipAddU)) (tSeq (tDrop (tBM K "list" rAppend (tVar 5) (tCons (tTup (tCons (tC (.str "sign")) (tCons (tOp (rIx K) (tVar 3) (tVar 4)) tNil))) tNil)))
    (tAug 4 (tC (.int 1)) ipAddU)))))
    (tRet (tVar 5))))))))
theorem rd_pieces_of (h : sp_pieces_of K vs H Q E) : t_pieces_of K (fun c d _ H2 => E c d H2) { nx := fun _ H' => Q .non H', rt := Q } (start ["text", "before", "row", "signs", "place", "found", "back", "size"] vs) H := by
  obtain ⟨B, L, v, w, g, k, rfl, hs, hT, hok, hT2, hok2, q, qe⟩ := h
  unfold t_pieces_of
  walk_at "go"
  refine ⟨v, g, rfl, hT, hok, fun xs e hr => ?_, fun hr H' e => qe (.inl hr) H' (hs.same e)⟩
  obtain ⟨ts, e2, hb⟩ := row_ints hr
  have hx : xs = ts.map V.int := by rw [e] at e2; exact Tg.lst.inj e2
  subst hx
  have q := fun ws => q ts ws e hb
  have hlt : ts.length ≤ 100000 := by rw [e] at hok; have := hok.2; rw [List.length_map] at this; exact this
  intro r H1 hn1 e1 hr1
  have h1 := hs.newS hn1 e1 hr1
  walk_at "go"
  refine ⟨w, k, rfl, hT2.same e1, Tg.ok_same e1 hok2, fun hw => ?_, fun hw H' e => qe (.inr hw) H' (hs.same (e1.trans e))⟩
  obtain ⟨ws, e3, hb3, hl3⟩ := win_ints hw
  have q := q ws hw e3
  rw [e3]
  refine retL h1 fun s H2 h2 => ?_
  clear h1 hs
  walk_at "go"
  refine c_ext0 h2 (h2.get (.tail _ (.head _))) ?_ fun H3 h3 => ?_
  · rw [List.length_map, List.length_map]
    exact small6' (by omega)
  clear h2
  rw [← List.map_append] at h3
  have h4 := h3.drop1
  clear h3
  walk_at "go"
  rename_i f H4 h5
  rw [List.length_map]
  have hla : (ws ++ ts).length = ws.length + ts.length := List.length_append
  refine w_while (fun m σ' L' B' => ∃ (p : Nat) (qs : List Pc) (acc : List V) (w6 w7 : Option V), pcs (ws ++ ts) ts.length ws.length = qs ++ pcs (ws ++ ts) m p ∧ p ≤ (ws ++ ts).length ∧ (ws ++ ts).length ≤ p + m ∧ qs.length ≤ p ∧
    Same B B' ∧ Tups K B' acc (qs.map pcV) ∧ σ' = [some v, some w, some (.ref r), some (.ref s), some (.int ((p : Nat) : Int)), some (.ref f), w6, w7] ∧ L' = (f, .lst acc) :: (s, .lst ((ws ++ ts).map V.int)) :: L) ts.length h5
    ⟨ws.length, [], [], none, none, rfl, by omega, by omega, Nat.zero_le _, Same.refl _, .nil, rfl, rfl⟩ ?_
  rintro m σ' L' B' H' ⟨p, qs, acc, w6, w7, hq, hp1, hp2, hp3, hB, hT, rfl, rfl⟩ h
  have hal : acc.length = qs.length := by rw [hT.length, List.length_map]
  walk_at "go"
  rw [List.length_map]
  by_cases hlt : p < (ws ++ ts).length
  · refine i_t (decide_eq_true (by omega)) (w_turn ?_)
    obtain ⟨m, rfl⟩ : ∃ m', m = m' + 1 := ⟨m - 1, by omega⟩
    walk_at "go"
    refine ⟨s, ws ++ ts, p, rfl, h.sql (.tail _ (.head _)), hlt, by omega, retT h fun t H5 h6 => ?_⟩
    have ht6 := h6.sqt (K := K) (.head _)
    have h7 := h6.drop
    have hs7 := h7.sql (K := K) (.tail _ (.head _))
    have hix := at_nat hlt
    clear h6 h
    walk_at "go"
    by_cases h3 : 3 ≤ (longest (ws ++ ts) p).2
    · refine i_t (decide_eq_true (by omega)) ?_
      rw [pcs_copy hlt h3] at hq
      have hz := longest_size (ws ++ ts) p
      unfold mostAt at hz
      walk_at "go"
      rename_i u H6 h8
      have hn := h8.nb (.head _)
      refine c_app0 h8.fix (small6 (by omega)) fun H7 h9 => ?_
      walk_at "go"
      refine ⟨m, by omega, _, _, ⟨p + (longest (ws ++ ts) p).2, qs ++ [.copy (longest (ws ++ ts) p).1 (longest (ws ++ ts) p).2], _, _, _, by rw [hq, List.append_assoc]; rfl, by omega, by omega, by rw [List.length_append, List.length_singleton]; omega, hB.trans (same_upd hn), ?_, rfl, rfl⟩, h9⟩
      rw [List.map_append]
      exact hT.snocFix hn
    · refine i_f (decide_eq_false (by omega)) ?_
      rw [pcs_sign hlt h3] at hq
      walk_at "go"
      rename_i u H6 h8
      have hn := h8.nb (.head _)
      refine c_app0 h8.fix (small6 (by omega)) fun H7 h9 => ?_
      walk_at "go"
      refine ⟨m, by omega, _, _, ⟨p + 1, qs ++ [.sign ((ws ++ ts).getD p 0)], _, _, _, by rw [hq, List.append_assoc]; rfl, by omega, by omega, by rw [List.length_append, List.length_singleton]; omega, hB.trans (same_upd hn), ?_, rfl, rfl⟩, h9⟩
      rw [List.map_append]
      exact hT.snocFix hn
  · refine i_f (decide_eq_false (by omega)) ?_
    walk_at "go"
    rw [pcs_end (ns := ws ++ ts) (p := p) (by omega), List.append_nil] at hq
    rw [← hq] at hT
    exact q B' f acc H' hB hT h.drop1
theorem tups_item {α : Type} {f : α → List V} {ps : List α} {acc pre post : List V} {x : V} (h : Tups K H acc (ps.map f)) (e : acc = pre ++ x :: post) : ∃ a p, x = .ref a ∧ ps[pre.length]? = some p ∧ SqT K H a (f p) := by
  subst e
  obtain ⟨a, p1, xs, p2, rfl, e2, e3, e4⟩ := h.split
  have z : (ps.map f)[pre.length]? = some xs := by rw [e2, ← e3]; simp
  rw [List.getElem?_map] at z
  cases e5 : ps[pre.length]? with
  | none => rw [e5] at z; cases z
  | some p =>
    rw [e5] at z
    cases z
    exact ⟨a, p, rfl, rfl, e4⟩
end L2.BR

namespace L2.BR
open PySem PySem.Spec PyProof.Rows L2.BP
variable {K : PySem.W.Frag} {W : WX} {vs : List V} {H : Hp} {Q : VK} {E : XK}
theorem Tups.get' {xss : List (List V)} {ws : List V} {i : Nat} {xs : List V} (h : Tups K H ws xss) (e : xss[i]? = some xs) : ∃ a, ws[i]? = some (.ref a) ∧ SqT K H a xs := h.get e
def sp__law_size (K : PySem.W.Frag) : Sp := fun vs H Q _ => ∃ (a : Addr) (ns : List Int) (p b : Nat), vs = [.ref a, .int ((p : Nat) : Int), .int ((b : Nat) : Int)] ∧ SqL K H a (ns.map V.int) ∧ b ≤ p ∧ p < ns.length ∧ RetV H Q (.int ((alike ns p b (mostAt ns p) : Nat) : Int))
theorem len__law_size (h : sp__law_size K vs H Q E) : vs.length = 3 := by
  obtain ⟨a, ns, p, b, rfl, _⟩ := h
  rfl
def t__law_size (K : PySem.W.Frag) (W : WX) : TS :=
  (tSeq (tAsg (tCB (rMin2K) (tCons (tC (.int 18)) (tCons (tOp rSubU (tCB (rLenK K) (tCons (tVar 0) tNil)) (tVar 1)) tNil))) (gName 3))
    (tSeq (tAsg (tC (.int 0)) (gName 4))
    (tSeq (tWhile (tTest (tOp rLtU (tVar 4) (tVar 3))) (tSeq (tAsg (tOp rAddU (tVar 1) (tVar 4)) (gName 5))
    (tSeq (tIfS (tTest (tOp (rNeU K) (tOp (rIx K) (tVar 0) (tOp rSubU (tVar 5) (tVar 2))) (tOp (rIx K) (tVar 0) (tVar 5)))) (tBreak) tNext)
    (tAug 4 (tC (.int 1)) ipAddU))))
    (tRet (tVar 4)))))
theorem rd__law_size (h : sp__law_size K vs H Q E) : t__law_size K W { nx := fun _ H' => Q .non H', rt := Q } (start ["_law_signs_here", "_law_place", "_law_back", "_law_most", "_law_size_here", "_law_at"] vs) H := by
  obtain ⟨a, ns, p, b, rfl, hS, hb, hp, q⟩ := h
  have hs := Hs.start H
  unfold t__law_size
  walk_at "go"
  rw [List.length_map, show (if ((ns.length : Nat) : Int) - ((p : Nat) : Int) < 18 then ((ns.length : Nat) : Int) - ((p : Nat) : Int) else 18) = ((mostAt ns p : Nat) : Int) by unfold mostAt; split <;> omega]
  have hm : mostAt ns p ≤ ns.length - p := by unfold mostAt; omega
  refine w_while (fun m σ' L' B' => ∃ (f : Nat) (w5 : Option V), f + m = mostAt ns p ∧ alk ns p b m f = alike ns p b (mostAt ns p) ∧ σ' = [some (.ref a), some (.int p), some (.int b), some (.int ((mostAt ns p : Nat) : Int)), some (.int f), w5] ∧ B' = H ∧ L' = []) (mostAt ns p) hs ⟨0, none, by omega, rfl, rfl, rfl, rfl⟩ ?_
  rintro m σ' L' B' H' ⟨f, w5, hf, hk, rfl, rfl, rfl⟩ h
  have hS' := h.bl hS
  walk_at "go"
  by_cases hlt : f < mostAt ns p
  · refine i_t (decide_eq_true (by omega)) (w_turn ?_)
    obtain ⟨m, rfl⟩ : ∃ m', m = m' + 1 := ⟨m - 1, by omega⟩
    have i1 : atI (ns.map V.int) (((p : Nat) : Int) + ((f : Nat) : Int)) = some (.int (ns.getD (p + f) 0)) := at_i (by omega) (by omega)
    have i2 : atI (ns.map V.int) (((p : Nat) : Int) + ((f : Nat) : Int) - ((b : Nat) : Int)) = some (.int (ns.getD (p + f - b) 0)) := at_i (by omega) (by omega)
    walk_at "go"
    unfold alk at hk
    by_cases he : ns[p + f]? = ns[p + f - b]?
    · rw [if_pos he] at hk
      refine i_f (ne_f (getD_of he).symm) ?_
      walk_at "go"
      exact ⟨m, by omega, _, _, ⟨f + 1, _, by omega, hk, rfl, rfl, rfl⟩, h⟩
    · rw [if_neg he] at hk
      refine i_t (by rw [decide_eq_false fun z => he ((opt_getD (by omega) (by omega)).mpr z.symm)]; rfl) ?_
      walk_at "go"
      rw [hk]
      exact q _ h.ex
  · refine i_f (decide_eq_false (by omega)) ?_
    walk_at "go"
    rw [show m = 0 by omega] at hk
    unfold alk at hk
    rw [hk]
    exact q _ h.ex
/-- the law's own search goes on to the end -/
def lcq (ns : List Int) (p most : Nat) : List Nat → Nat × Nat → Nat × Nat
  | [], c => c
  | b :: r, c => lcq ns p most r (if ns[p - b]? = ns[p]? then (if c.2 < alike ns p b most then (b, alike ns p b most) else c) else c)
theorem lcq_full (ns : List Int) (p most : Nat) : ∀ l c, most ≤ c.2 → lcq ns p most l c = c
  | [], c, _ => rfl
  | b :: r, c, h => by
    unfold lcq
    have ha := alike_le ns p b most
    rw [if_neg (show ¬ c.2 < alike ns p b most by omega), ite_self]
    exact lcq_full ns p most r c h
theorem lcq_eq (ns : List Int) (p most : Nat) : ∀ l c, lcq ns p most l c = lcp ns p most l c
  | [], c => rfl
  | b :: r, c => by
    unfold lcq lcp
    by_cases e : ns[p]? = ns[p - b]?
    · rw [if_pos e, if_pos e.symm]
      by_cases e2 : alike ns p b most = most
      · rw [if_pos e2]
        refine lcq_full _ _ _ _ _ ?_
        split
        · exact Nat.le_of_eq e2.symm
        · omega
      · rw [if_neg e2]
        exact lcq_eq ns p most r _
    · rw [if_neg e, if_neg fun z => e z.symm]
      exact lcq_eq ns p most r _
def sp__law_pieces (K : PySem.W.Frag) : Sp := fun vs H Q _ => ∃ (a b : Addr) (ws ts : List Int), vs = [.ref a, .ref b] ∧ SqL K H a (ws.map V.int) ∧ SqL K H b (ts.map V.int) ∧ ws.length ≤ 1000 ∧ ts.length ≤ 1000 ∧
  H a = some (.lst (ws.map V.int)) ∧ H b = some (.lst (ts.map V.int)) ∧
  ∀ p xs H', Same H H' → Tups K H' xs ((pcs (ws ++ ts) ts.length ws.length).map pcV) → SqL K H' p xs → Q (.ref p) H'
theorem len__law_pieces (h : sp__law_pieces K vs H Q E) : vs.length = 2 := by
  obtain ⟨a, b, ws, ts, rfl, _⟩ := h
  rfl
def t__law_pieces (K : PySem.W.Frag) (W : WX) : TS :=
  (tSeq (tAsg (tOp rAddU (tVar 0) (tVar 1)) (gName 2))
    (tSeq (tAsg (tLst tNil) (gName 3))
    (tSeq (tAsg (tCB (rLenK K) (tCons (tVar 0) tNil)) (gName 4))
    (tSeq (tWhile (tTest (tOp rLtU (tVar 4) (tCB (rLenK K) (tCons (tVar 2) tNil)))) (tSeq (tAsg (tTup (tCons (tC (.int 0)) (tCons (tC (.int 0)) tNil))) (gName 5))
    (tSeq (tFor (iRng2 (tCons (tC (.int 1)) (tCons (tOp rAddU (tCB (rMin2K) (tCons (tC (.int 255)) (tCons (tVar 4) tNil))) (tC (.int 1))) tNil))) (gName 6) (tIfS (tTest (tOp (rEqU K) (tOp (rIx K) (tVar 2) (tOp rSubU (tVar 4) (tVar 6))) (tOp (rIx K) (tVar 2) (tVar 4)))) (tSeq (tAsg (tCl (sp__law_size K) [] W (tCons (tVar 2) (tCons (tVar 4) (tCons (tVar 6) tNil)))) (gName 7))
    (tIfS (tTest (tOp rGtU (tVar 7) (tOp (rIx K) (tVar 5) (tC (.int 1))))) (tAsg (tTup (tCons (tVar 6) (tCons (tVar 7) tNil))) (gName 5)) tNext)) tNext))
    (tIfS (tTest (tOp rGtU (tOp (rIx K) (tVar 5) (tC (.int 1))) (tC (.int 2)))) (tSeq (tDrop (tBM K "list" rAppend (tVar 3) (tCons (tTup (tCons (tC (.str "copy")) (tCons (tOp (rIx K) (tVar 5) (tC (.int 0))) (tCons (tOp (rIx K) (tVar 5) (tC (.int 1))) tNil)))) tNil)))
    (tAug 4 (tOp (rIx K) (tVar 5) (tC (.int 1))) ipAddU)) (tSeq (tDrop (tBM K "list" rAppend (tVar 3) (tCons (tTup (tCons (tC (.str "sign")) (tCons (tOp (rIx K) (tVar 2) (tVar 4)) tNil))) tNil)))
    (tAug 4 (tC (.int 1)) ipAddU))))))
    (tRet (tVar 3))))))
theorem rd__law_pieces (h : sp__law_pieces K vs H Q E) : t__law_pieces K W { nx := fun _ H' => Q .non H', rt := Q } (start ["_law_before", "_law_text", "_law_signs_here", "_law_found", "_law_place", "_law_best", "_law_back", "_law_size_here"] vs) H := by
  obtain ⟨a, b, ws, ts, rfl, hA, hB, hla, hlb, ha, hb, q⟩ := h
  have hs := Hs.start H
  unfold t__law_pieces
  walk_at "go"
  refine c_addL hs ha hb (small6' (by simp; omega)) fun s H1 h1 => ?_
  rw [← List.map_append] at h1
  have hsg := h1.sql (K := K) (.head _)
  have e0 := h1.ex
  have hA1 := h1.bl hA
  have h2 := Hs.start H1
  clear h1 hs
  walk_at "go"
  rename_i f H2 h3
  rw [List.length_map]
  generalize hns : ws ++ ts = ns at *
  have hnl : ns.length = ws.length + ts.length := by rw [← hns, List.length_append]
  refine w_while (fun m σ' L' B' => ∃ (p : Nat) (qs : List Pc) (acc : List V) (w5 w6 w7 : Option V), pcs ns ts.length ws.length = qs ++ pcs ns m p ∧ p ≤ ns.length ∧ ns.length ≤ p + m ∧ qs.length ≤ p ∧
    Same H1 B' ∧ Tups K B' acc (qs.map pcV) ∧ σ' = [some (.ref a), some (.ref b), some (.ref s), some (.ref f), some (.int ((p : Nat) : Int)), w5, w6, w7] ∧ L' = [(f, .lst acc)]) ts.length h3
    ⟨ws.length, [], [], none, none, none, rfl, by omega, by omega, Nat.zero_le _, Same.refl _, .nil, rfl, rfl⟩ ?_
  rintro m σ' L' B' H' ⟨p, qs, acc, w5, w6, w7, hq, hp1, hp2, hp3, hB, hT, rfl, rfl⟩ h
  have hal : acc.length = qs.length := by rw [hT.length, List.length_map]
  have hsg' := h.bl (hB.seq hsg)
  clear h3 h2
  walk_at "go"
  rw [List.length_map]
  by_cases hlt : p < ns.length
  · refine i_t (decide_eq_true (by omega)) (w_turn ?_)
    obtain ⟨m, rfl⟩ : ∃ m', m = m' + 1 := ⟨m - 1, by omega⟩
    walk_at "go"
    rename_i t0 H3 h4
    have e1 : (if ((p : Nat) : Int) < 255 then ((p : Nat) : Int) else 255) + 1 = ((min 255 p + 1 : Nat) : Int) := by split <;> omega
    rw [e1]
    refine ⟨1, _, rfl, ⟨by decide, by decide, by omega, by omega⟩, ?_⟩
    have e2 : (((min 255 p + 1 : Nat) : Int) - 1).toNat = min 255 p := by omega
    rw [e2]
    refine w_forR (fun i σ' L' B'' => ∃ (c : Nat × Nat) (t : Addr) (w6 w7 : Option V), lcq ns p (mostAt ns p) ((backs p).drop i) c = longest ns p ∧ B'' = B' ∧
      σ' = [some (.ref a), some (.ref b), some (.ref s), some (.ref f), some (.int ((p : Nat) : Int)), some (.ref t), w6, w7] ∧ L' = [(t, .tup [.int ((c.1 : Nat) : Int), .int ((c.2 : Nat) : Int)]), (f, .lst acc)]) h4 ⟨(0, 0), t0, w6, w7, lcq_eq _ _ _ _ _, rfl, rfl, rfl⟩ ?_ ?_
    · rintro i σ' L' B'' H4 hi ⟨c, t, w6, w7, hc, rfl, rfl, rfl⟩ h
      rw [backs_split hi] at hc
      unfold lcq at hc
      have hS' := h.bl (hB.seq hsg)
      have ht' := h.sqt (K := K) (.head _)
      have i1 : atI (ns.map V.int) ((p : Nat) : Int) = some (.int (ns.getD p 0)) := at_nat hlt
      have i2 : atI (ns.map V.int) (((p : Nat) : Int) - (1 + ((i : Nat) : Int))) = some (.int (ns.getD (p - (1 + i)) 0)) := at_i (by omega) (by omega)
      walk_at "go"
      by_cases he : ns[p - (1 + i)]? = ns[p]?
      · rw [if_pos he] at hc
        refine i_t (decide_eq_true (getD_of he)) ?_
        walk_at "go"
        refine ⟨s, ns, p, 1 + i, rfl, hS', by omega, by omega, retV h fun H5 h5 => ?_⟩
        have ht5 := h5.sqt (K := K) (.head _)
        clear h ht'
        walk_at "go"
        by_cases c1 : c.2 < alike ns p (1 + i) (mostAt ns p)
        · rw [if_pos c1] at hc
          refine i_t (decide_eq_true (by omega)) ?_
          walk_at "go"
          rename_i t3 H6 h6
          exact ⟨_, _, ⟨_, t3, _, _, hc, rfl, rfl, rfl⟩, h6.drop1⟩
        · rw [if_neg c1] at hc
          refine i_f (decide_eq_false (by omega)) ?_
          exact ⟨_, _, ⟨c, t, _, _, hc, rfl, rfl, rfl⟩, h5⟩
      · rw [if_neg he] at hc
        refine i_f (decide_eq_false fun z => he ((opt_getD (by omega) (by omega)).mpr z)) ?_
        exact ⟨_, _, ⟨c, t, _, _, hc, rfl, rfl, rfl⟩, h⟩
    · rintro σ' L' B'' H4 ⟨c, t, w6, w7, hc, rfl, rfl, rfl⟩ h
      rw [backs_all] at hc
      unfold lcq at hc
      rw [hc] at h
      have ht' := h.sqt (K := K) (.head _)
      have hS' := h.bl (hB.seq hsg)
      have hix := at_nat hlt
      clear h4
      walk_at "go"
      by_cases h3 : 3 ≤ (longest ns p).2
      · refine i_t (decide_eq_true (by omega)) ?_
        rw [pcs_copy hlt h3] at hq
        have hz := longest_size ns p
        unfold mostAt at hz
        walk_at "go"
        rename_i u H6 h8
        have hn := h8.nb (.head _)
        refine c_app1 h8.fix (small6 (by omega)) fun H7 h9 => ?_
        have ht9 := h9.sqt (K := K) (.head _)
        walk_at "go"
        refine ⟨m, by omega, _, _, ⟨p + (longest ns p).2, qs ++ [.copy (longest ns p).1 (longest ns p).2], _, _, _, _, by rw [hq, List.append_assoc]; rfl, by omega, by omega, by rw [List.length_append, List.length_singleton]; omega, hB.trans (same_upd hn), ?_, rfl, rfl⟩, h9.drop⟩
        rw [List.map_append]
        exact hT.snocFix hn
      · refine i_f (decide_eq_false (by omega)) ?_
        rw [pcs_sign hlt h3] at hq
        walk_at "go"
        rename_i u H6 h8
        have hn := h8.nb (.head _)
        refine c_app1 h8.fix (small6 (by omega)) fun H7 h9 => ?_
        walk_at "go"
        refine ⟨m, by omega, _, _, ⟨p + 1, qs ++ [.sign (ns.getD p 0)], _, _, _, _, by rw [hq, List.append_assoc]; rfl, by omega, by omega, by rw [List.length_append, List.length_singleton]; omega, hB.trans (same_upd hn), ?_, rfl, rfl⟩, h9.drop⟩
        rw [List.map_append]
        exact hT.snocFix hn
  · refine i_f (decide_eq_false (by omega)) ?_
    walk_at "go"
    rw [pcs_end (ns := ns) (p := p) (by omega), List.append_nil] at hq
    rw [← hq] at hT
    exact q f acc H' (e0.trans (hB.trans h.ex)) (hT.same h.ex) (h.sql (.head _))
/-- a window and a text behind it -/
def sp__law_drawn (K : PySem.W.Frag) : Sp := fun vs H Q _ => ∃ (a : Addr) (ns : List Int), vs = [.ref a] ∧ SqL K H a (ns.map V.int) ∧ ∀ (ws ts : List Int), Bytes ws → Bytes ts → ws.length ≤ 255 → ts.length ≤ 60 →
  ∀ t b x H', Same H H' → SqT K H' t [.ref b, .ref x] → H' b = some (.lst (ws.map V.int)) → H' x = some (.lst (ts.map V.int)) → Q (.ref t) H'
theorem len__law_drawn (h : sp__law_drawn K vs H Q E) : vs.length = 1 := by
  obtain ⟨a, ns, rfl, _⟩ := h
  rfl
def t__law_drawn (K : PySem.W.Frag) (W : WX) : TS :=
  (tSeq (tAsg (tCl (sp__law_mixed K) [] W (tCons (tCl (sp__law_cell_at K) [] W (tCons (tVar 0) (tCons (tC (.int 0)) tNil))) (tCons (tC (.int 1)) tNil))) (gName 1))
    (tSeq (tAsg (tOp (rIx K) (tLst (tCons (tC (.int 1)) (tCons (tC (.int 2)) (tCons (tC (.int 3)) (tCons (tC (.int 6)) (tCons (tC (.int 20)) (tCons (tC (.int 0)) tNil))))))) (tOp rModU (tVar 1) (tC (.int 6)))) (gName 2))
    (Evl.tCut (tIfS ((tAnd (tTest (tOp (rEqU K) (tOp rModU (tOp rDivU (tVar 1) (tC (.int 6))) (tC (.int 8))) (tC (.int 7)))) (tTest (tOp (rEqU K) (tOp rModU (tOp rDivU (tVar 1) (tC (.int 29))) (tC (.int 2))) (tC (.int 1)))))) (tSeq (tAsg (tLc (iRng1 (tCons (tC (.int 255)) tNil)) (gName 9) tYes (tOp rModU (tOp rAddU (tOp rMulU (tC (.int 101)) (tVar 9)) (tVar 1)) (tC (.int 256))) [9]) (gName 3))
    (tSeq (tAsg (tOp rMulU (tLst (tCons (tOp rModU (tOp rAddU (tOp rMulU (tC (.int 101)) (tC (.int 255))) (tVar 1)) (tC (.int 256))) tNil)) (tOp rModU (tOp rDivU (tVar 1) (tC (.int 58))) (tC (.int 7)))) (gName 4))
    (tRet (tTup (tCons (tVar 3) (tCons (tOp rAddU (tVar 4) (tSl (rSlK K) (tVar 3) tNoPart (tPart (tOp rAddU (tC (.int 8)) (tOp rModU (tOp rDivU (tVar 1) (tC (.int 406))) (tC (.int 13))))))) tNil)))))) tNext)
    (tSeq (tAsg (tOp rDivU (tVar 1) (tC (.int 48))) (gName 5))
    (tSeq (tAsg (tLst (tCons (tC (.int 0)) (tCons (tC (.int 0)) (tCons (tOp rModU (tVar 5) (tC (.int 12))) (tCons (tOp rModU (tVar 5) (tC (.int 40))) (tCons (tOp rModU (tVar 5) (tC (.int 40))) (tCons (tC (.int 1)) (tCons (tOp rModU (tVar 5) (tC (.int 60))) (tCons (tOp rAddU (tC (.int 180)) (tOp rModU (tVar 5) (tC (.int 76)))) tNil))))))))) (gName 6))
    (tSeq (tAsg (tOp (rIx K) (tVar 6) (tOp rModU (tOp rDivU (tVar 1) (tC (.int 6))) (tC (.int 8)))) (gName 6))
    (tSeq (tAsg (tOp rModU (tOp rDivU (tVar 5) (tC (.int 76))) (tC (.int 25))) (gName 7))
    (Evl.tCut (tIfS (tTest (tOp rGtU (tVar 6) (tC (.int 100)))) (tAsg (tOp rModU (tVar 7) (tC (.int 6))) (gName 7)) tNext)
    (tSeq (tAsg (tCl (sp__law_signs K) [] W (tCons (tVar 0) (tCons (tC (.int 2)) (tCons (tOp rAddU (tVar 6) (tVar 7)) (tCons (tVar 2) tNil))))) (gName 8))
    (tRet (tTup (tCons (tSl (rSlK K) (tVar 8) tNoPart (tPart (tVar 6))) (tCons (tSl (rSlK K) (tVar 8) (tPart (tVar 6)) tNoPart) tNil)))))))))))))
theorem rd__law_drawn (h : sp__law_drawn K vs H Q E) : t__law_drawn K W { nx := fun _ H' => Q .non H', rt := Q } (start ["_law_script", "_law_number", "_law_kinds", "_law_before", "_law_between", "_law_more", "_law_ahead", "_law_size_here", "_law_signs_here", "_law_k"] vs) H := by
  obtain ⟨a, ns, rfl, hS, q⟩ := h
  have hs := Hs.start H
  unfold t__law_drawn
  walk_at "go"
  refine ⟨a, ns, 0, rfl, hS, by decide, ?_⟩
  walk_at "go"
  refine ⟨_, 1, rfl, by decide, by decide, fun x hx => ?_⟩
  obtain ⟨M, rfl⟩ := Int.eq_ofNat_of_zero_le hx
  obtain ⟨kd, hkd, hi1⟩ : ∃ v : Nat, v ≤ 20 ∧ atI [V.int 1, V.int 2, V.int 3, V.int 6, V.int 20, V.int 0] (((M : Nat) : Int) % 6) = some (.int ((v : Nat) : Int)) := by
    have hj : ((M : Nat) : Int) % 6 = 0 ∨ ((M : Nat) : Int) % 6 = 1 ∨ ((M : Nat) : Int) % 6 = 2 ∨ ((M : Nat) : Int) % 6 = 3 ∨ ((M : Nat) : Int) % 6 = 4 ∨ ((M : Nat) : Int) % 6 = 5 := by omega
    rcases hj with e | e | e | e | e | e
    · exact ⟨1, by omega, by rw [e]; rfl⟩
    · exact ⟨2, by omega, by rw [e]; rfl⟩
    · exact ⟨3, by omega, by rw [e]; rfl⟩
    · exact ⟨6, by omega, by rw [e]; rfl⟩
    · exact ⟨20, by omega, by rw [e]; rfl⟩
    · exact ⟨0, by omega, by rw [e]; rfl⟩
  walk_at "go"
  rename_i l1 H1 h1
  have h2 := h1.drop
  clear h1 hs
  refine w_cut (fun σ2 H2 => Hs H [] H2 ∧ σ2 = [some (.ref a), some (.int M), some (.int kd), none, none, none, none, none, none, none]) ?_ ?_
  · walk_at "go"
    by_cases c1 : M / 6 % 8 = 7
    · refine i_t (decide_eq_true (by omega)) ?_
      walk_at "go"
      by_cases c2 : M / 29 % 2 = 1
      · refine i_t (decide_eq_true (by omega)) ?_
        walk_at "go"
        refine ⟨255, rfl, by decide, by decide, ?_⟩
        rw [show (255 : Int).toNat = 255 from rfl]
        refine c_lcR (fun i acc B' => acc = ((List.range i).map fun j => (101 * ((j : Nat) : Int) + ((M : Nat) : Int)) % 256).map V.int ∧ B' = H) h2 ⟨rfl, rfl⟩ ?_ ?_
        · rintro i acc B' D H2 hi ⟨rfl, rfl⟩ _ h
          walk_at "go"
          refine ⟨rfl, ?_⟩
          walk_at "go"
          refine c_item h (small5 (by simp; omega)) (Same.refl _) ⟨?_, rfl⟩
          rw [List.range_succ (n := i), List.map_append, List.map_append, Int.zero_add]
          rfl
        · rintro acc B' D H2 ⟨rfl, rfl⟩ _ h
          clear h2
          generalize hws : ((List.range 255).map fun j => (101 * ((j : Nat) : Int) + ((M : Nat) : Int)) % 256) = ws at *
          have hwl : ws.length = 255 := by rw [← hws]; simp
          have hwb : Bytes ws := by
            intro n hn
            rw [← hws] at hn
            obtain ⟨j, _, rfl⟩ := List.mem_map.mp hn
            omega
          walk_at "go"
          rename_i l2 H3 h3
          refine c_rep h3.drop (h3.get (.head _)) (by omega) (by omega) (small6' (by simp; omega)) fun r1 H4 h4 => ?_
          have e1 : (List.replicate (((M : Nat) : Int) / 58 % 7).toNat [V.int ((101 * 255 + ((M : Nat) : Int)) % 256)]).flatten = (List.replicate (M / 58 % 7) ((101 * 255 + ((M : Nat) : Int)) % 256)).map V.int := by
            rw [show (((M : Nat) : Int) / 58 % 7).toNat = M / 58 % 7 by omega, List.map_replicate, List.flatten_replicate_singleton]
          rw [e1] at h4
          clear h h3
          walk_at "go"
          rename_i r2 H5 h5
          rw [show (8 : Int) + ((M : Nat) : Int) / 406 % 13 = ((8 + M / 406 % 13 : Nat) : Int) by omega, cut_take] at h5
          refine c_addL h5 (h5.get (.tail _ (.head _))) (h5.get (.head _)) (small6' (by simp; omega)) fun r3 H6 h6 => ?_
          rw [← List.map_append] at h6
          clear h4 h5
          walk_at "go"
          rename_i t H7 h7
          refine q ws _ hwb ?_ (by omega) ?_ t D r3 H7 h7.ex (h7.sqt (.head _)) (h7.get (.tail _ (.tail _ (.tail _ (.tail _ (.head _)))))) (h7.get (.tail _ (.head _)))
          · intro n hn
            rcases List.mem_append.mp hn with z | z
            · rw [(List.mem_replicate.mp z).2]
              omega
            · exact hwb n (List.mem_of_mem_take z)
          · rw [List.length_append, List.length_replicate, List.length_take]
            omega
      · refine i_f (decide_eq_false (by omega)) ?_
        walk_at "go"
        exact ⟨h2, rfl⟩
    · refine i_f (decide_eq_false (by omega)) ?_
      walk_at "go"
      exact ⟨h2, rfl⟩
  rintro σ2 H2 ⟨h3, rfl⟩
  clear h2
  obtain ⟨A, hA, hi2⟩ : ∃ A : Nat, A ≤ 255 ∧ atI [V.int 0, V.int 0, V.int (((M : Nat) : Int) / 48 % 12), V.int (((M : Nat) : Int) / 48 % 40), V.int (((M : Nat) : Int) / 48 % 40), V.int 1, V.int (((M : Nat) : Int) / 48 % 60), V.int (180 + ((M : Nat) : Int) / 48 % 76)] (((M : Nat) : Int) / 6 % 8) = some (.int ((A : Nat) : Int)) := by
    have hj : ((M : Nat) : Int) / 6 % 8 = 0 ∨ ((M : Nat) : Int) / 6 % 8 = 1 ∨ ((M : Nat) : Int) / 6 % 8 = 2 ∨ ((M : Nat) : Int) / 6 % 8 = 3 ∨ ((M : Nat) : Int) / 6 % 8 = 4 ∨ ((M : Nat) : Int) / 6 % 8 = 5 ∨ ((M : Nat) : Int) / 6 % 8 = 6 ∨ ((M : Nat) : Int) / 6 % 8 = 7 := by omega
    rcases hj with e | e | e | e | e | e | e | e
    · exact ⟨0, by omega, by rw [e]; rfl⟩
    · exact ⟨0, by omega, by rw [e]; rfl⟩
    · exact ⟨M / 48 % 12, by omega, by rw [e]; rfl⟩
    · exact ⟨M / 48 % 40, by omega, by rw [e]; rfl⟩
    · exact ⟨M / 48 % 40, by omega, by rw [e]; rfl⟩
    · exact ⟨1, by omega, by rw [e]; rfl⟩
    · exact ⟨M / 48 % 60, by omega, by rw [e]; rfl⟩
    · exact ⟨180 + M / 48 % 76, by omega, by rw [e]; rfl⟩
  walk_at "go"
  rename_i l2 H3 h4
  have h5 := h4.drop
  clear h4 h3
  refine w_cut (fun σ2 H2 => Hs H [] H2 ∧ ∃ Z : Nat, Z ≤ 25 ∧ σ2 = [some (.ref a), some (.int M), some (.int kd), none, none, some (.int (((M : Nat) : Int) / 48)), some (.int ((A : Nat) : Int)), some (.int ((Z : Nat) : Int)), none, none]) ?_ ?_
  · walk_at "go"
    by_cases c1 : 100 < A
    · refine i_t (decide_eq_true (by omega)) ?_
      walk_at "go"
      exact ⟨h5, M / 48 / 76 % 25 % 6, by omega, rfl⟩
    · refine i_f (decide_eq_false (by omega)) ?_
      walk_at "go"
      exact ⟨h5, M / 48 / 76 % 25, by omega, rfl⟩
  rintro σ2 H4 ⟨h6, Z, hZ, rfl⟩
  clear h5
  walk_at "go"
  refine ⟨a, ns, A + Z, kd, rfl, h6.bl hS, by omega, hkd, fun ts hb htl => retL h6 fun s H5 h7 => ?_⟩
  clear h6
  walk_at "go"
  rename_i b H6 h8 x2 H7 h9 t H8 h10
  rw [cut_drop, cut_take] at h10
  exact q (ts.take A) (ts.drop A) (fun n hn => hb n (List.mem_of_mem_take hn)) (fun n hn => hb n (List.mem_of_mem_drop hn)) (by rw [List.length_take]; omega) (by rw [List.length_drop]; omega) t b x2 H8 h10.ex (h10.sqt (.head _)) (h10.get (.tail _ (.tail _ (.head _)))) (h10.get (.tail _ (.head _)))
theorem tups_idx {α : Type} {f : α → List V} {ps : List α} {xs : List V} {i : Nat} {x : V} (h : Tups K H xs (ps.map f)) (e : xs[i]? = some x) : ∃ a p, x = .ref a ∧ ps[i]? = some p ∧ SqT K H a (f p) := by
  obtain ⟨h1, h2⟩ := take_split e
  have hl : i < xs.length := (List.getElem?_eq_some_iff.mp e).1
  obtain ⟨a, p, e1, e2, e3⟩ := tups_item h h1
  rw [List.length_take, Nat.min_eq_left (by omega)] at e2
  exact ⟨a, p, e1, e2, e3⟩
theorem c_neTT {p q : Addr} {xs : List V} (hf : xs.all BP.flatV = true) (h1 : SqT K H p xs) (h2 : SqT K H q xs) (k : Q (.bl false) H) : rNeU K (.ref p) (.ref q) H Q := by
  have hs : SeqAt.shaped (.tuple (xs.map vD)) = true := by
    obtain ⟨h1, h2⟩ := canAll_flat hf
    unfold SeqAt.shaped
    rw [PyData.canLay0, PyData.depth, h1]
    simp
    omega
  refine c_neD (.tup h1 (dpa_flat hf)) (.tup h2 (dpa_flat hf)) hs hs ?_
  rw [PyData.eqv, eqvAll_vD]
  exact k
theorem flat_pc : ∀ c : Pc, (pcV c).all BP.flatV = true
  | .sign n => (show (PyData.canLay0 (.str "sign") && (true && true)) = true by decide +kernel)
  | .copy b s => (show (PyData.canLay0 (.str "copy") && (true && (true && true))) = true by decide +kernel)
theorem cutV_tail' {x : V} {xs : List V} : cutV (x :: xs) (some 1) none = xs := by
  unfold cutV
  rw [show (1 : Int) = ((1 : Nat) : Int) from rfl, HT.sIx_nat, HT.sIx_none, Nat.min_eq_left (by simp)]
  simp
def sp__law_same (K : PySem.W.Frag) : Sp := fun vs H Q _ => ∃ (p q : Addr) (xs ys : List V) (ps : List Pc), vs = [.ref p, .ref q] ∧ SqL K H p xs ∧ SqL K H q ys ∧ Tups K H xs (ps.map pcV) ∧ Tups K H ys (ps.map pcV) ∧ RetV H Q (.bl true)
theorem len__law_same (h : sp__law_same K vs H Q E) : vs.length = 2 := by
  obtain ⟨p, q, xs, ys, ps, rfl, _⟩ := h
  rfl
def t__law_same (K : PySem.W.Frag) (W : WX) : TS :=
  (tSeq (tIfS ((tOr (tNot (tB (tCB (rIsi K) (tCons (tVar 0) (tCons (tC (.ty "list")) tNil))))) (tTest (tOp (rNeU K) (tCB (rLenK K) (tCons (tVar 0) tNil)) (tCB (rLenK K) (tCons (tVar 1) tNil)))))) (tRet (tC (.bl false))) tNext)
    (tSeq (tFor (iZip K (tCons (tVar 0) (tCons (tVar 1) tNil))) (gTup K 2 (gCons (gName 2) (gCons (gName 3) gNil))) (tSeq (tIfS ((tOr (tNot (tB (tCB (rIsi K) (tCons (tVar 2) (tCons (tC (.ty "tuple")) tNil))))) (tOr (tTest (tOp (rNeU K) (tVar 2) (tVar 3))) (tNot (tB (tCB (rIsi K) (tCons (tOp (rIx K) (tVar 2) (tC (.int 0))) (tCons (tC (.ty "str")) tNil)))))))) (tRet (tC (.bl false))) tNext)
    (tFor (iTup K (tSl (rSlK K) (tVar 2) (tPart (tC (.int 1))) tNoPart)) (gName 4) (tIfS ((tOr (tNot (tB (tCB (rIsi K) (tCons (tVar 4) (tCons (tC (.ty "int")) tNil))))) (tB (tCB (rIsi K) (tCons (tVar 4) (tCons (tC (.ty "bool")) tNil)))))) (tRet (tC (.bl false))) tNext))))
    (tRet (tC (.bl true)))))
theorem rd__law_same (h : sp__law_same K vs H Q E) : t__law_same K W { nx := fun _ H' => Q .non H', rt := Q } (start ["_law_found", "_law_due", "_law_one", "_law_other", "_law_part"] vs) H := by
  obtain ⟨p, q, xs, ys, ps, rfl, hX, hY, hTX, hTY, k⟩ := h
  have hs := Hs.start H
  have hxl : xs.length = ps.length := by rw [hTX.length, List.length_map]
  have hyl : ys.length = ps.length := by rw [hTY.length, List.length_map]
  unfold t__law_same
  walk_at "go"
  refine c_isiList (.lst hX) ?_
  walk_at "go"
  refine ⟨p, q, xs, ys, rfl, hX, hY, ?_⟩
  refine w_forZ id id xs ys (by omega) (fun i σ' L' B' => ∃ w2 w3 w4, σ' = [some (.ref p), some (.ref q), w2, w3, w4] ∧ B' = H ∧ L' = []) hs ⟨none, none, none, rfl, rfl, rfl⟩ ?_ ?_ ?_
  · rintro i σ' L' B' H' ⟨w2, w3, w4, _, rfl, rfl⟩ h
    rw [List.map_id, List.map_id]
    exact ⟨h.bl hX, h.bl hY⟩
  · rintro i x y σ' L' B' T H' ex ey ⟨w2, w3, w4, rfl, rfl, rfl⟩ h
    obtain ⟨u, c, rfl, hc, hu⟩ := tups_idx hTX ex
    obtain ⟨v, c', rfl, hc', hv⟩ := tups_idx hTY ey
    rw [hc] at hc'
    cases hc'
    have hu' := h.bt hu
    have hv' := h.bt hv
    rw [id_eq, id_eq] at h
    walk_at "go"
    refine c_isiTup (.tup hu') ?_
    walk_at "go"
    refine c_neTT (flat_pc c) hu' hv' ?_
    have hd := h.drop
    clear h
    cases c with
    | sign n =>
      walk_at "go"
      refine c_slT hd hu' (fun z => by have z1 := z.1; rw [show (1 : Int) = ((1 : Nat) : Int) from rfl, HT.sIx_nat] at z1; simp at z1) fun s H2 h2 => ?_
      rw [cutV_tail'] at h2
      refine w_forT [V.int n] (fun pre σ' L' B'' => ∃ w4, σ' = [some (.ref p), some (.ref q), some (.ref u), some (.ref v), w4] ∧ B'' = B' ∧ L' = [(s, .tup [V.int n])]) h2 ⟨_, rfl, rfl, rfl⟩ ?_ ?_ ?_
      · rintro pre post σ' L' B'' H' _ ⟨w4', _, rfl, rfl⟩ h
        exact h.sqt (.head _)
      · rintro pre x post σ' L' B'' H' e ⟨w4', rfl, rfl, rfl⟩ h
        obtain ⟨m, rfl⟩ : ∃ m : Int, x = .int m := by
          have hx : x ∈ [V.int n] := by rw [e]; simp
          simp at hx
          exact ⟨_, hx⟩
        walk_at "go"
        exact ⟨_, _, ⟨_, rfl, rfl, rfl⟩, h⟩
      · rintro σ' L' B'' H' ⟨w4', rfl, rfl, rfl⟩ h
        exact ⟨_, _, ⟨_, _, _, rfl, rfl, rfl⟩, h.drop⟩
    | copy b z =>
      walk_at "go"
      refine c_slT hd hu' (fun z => by have z1 := z.1; rw [show (1 : Int) = ((1 : Nat) : Int) from rfl, HT.sIx_nat] at z1; simp at z1) fun s H2 h2 => ?_
      rw [cutV_tail'] at h2
      refine w_forT [V.int ((b : Nat) : Int), V.int ((z : Nat) : Int)] (fun pre σ' L' B'' => ∃ w4, σ' = [some (.ref p), some (.ref q), some (.ref u), some (.ref v), w4] ∧ B'' = B' ∧ L' = [(s, .tup [V.int ((b : Nat) : Int), V.int ((z : Nat) : Int)])]) h2 ⟨_, rfl, rfl, rfl⟩ ?_ ?_ ?_
      · rintro pre post σ' L' B'' H' _ ⟨w4', _, rfl, rfl⟩ h
        exact h.sqt (.head _)
      · rintro pre x post σ' L' B'' H' e ⟨w4', rfl, rfl, rfl⟩ h
        obtain ⟨m, rfl⟩ : ∃ m : Int, x = .int m := by
          have hx : x ∈ [V.int ((b : Nat) : Int), V.int ((z : Nat) : Int)] := by rw [e]; simp
          simp at hx
          rcases hx with hx | hx <;> exact ⟨_, hx⟩
        walk_at "go"
        exact ⟨_, _, ⟨_, rfl, rfl, rfl⟩, h⟩
      · rintro σ' L' B'' H' ⟨w4', rfl, rfl, rfl⟩ h
        exact ⟨_, _, ⟨_, _, _, rfl, rfl, rfl⟩, h.drop⟩
  · rintro σ' L' B' H' ⟨w2, w3, w4, rfl, rfl, rfl⟩ h
    walk_at "go"
    exact k _ h.ex
theorem use_pieces {B : Hp} {L : Pic} {a : Addr} {w : V} {k : Tg} {ts ws : List Int} (h : Hs B L H) (hx : SqL K H a (ts.map V.int)) (htb : Bytes ts) (htl : ts.length ≤ 1000) (hw : Th K H w k) (hk : Tg.isWin k = true) (hki : Tg.items k = ws.map V.int) (hok : Tg.ok K H k)
    (q : ∀ B2 p xs H', Same B B2 → Tups K B2 xs ((pcs (ws ++ ts) ts.length ws.length).map pcV) → Hs B2 ((p, .lst xs) :: L) H' → Q (.ref p) H') : sp_pieces_of K [.ref a, w] H Q E := by
  refine ⟨B, L, .ref a, w, .lst (ts.map V.int), k, rfl, h, .lst hx, ok_ints (by omega), hw, hok, fun ts' ws' e1 _ _ e2 => ?_, fun z => ?_⟩
  · have e1 := map_int_inj (Tg.lst.inj e1)
    have e2 := map_int_inj (hki.symm.trans e2)
    subst e1 e2
    exact q
  · rw [show Tg.isRow (.lst (ts.map V.int)) = true from all_byteV htb, hk] at z
    rcases z with z | z <;> cases z
theorem c_neLL {p q a1 a2 b1 b2 : Addr} (u v : List Int) (hp : SqL K H p [.ref a1, .ref a2]) (h1 : SqL K H a1 (u.map V.int)) (h2 : SqL K H a2 (v.map V.int)) (hq : SqL K H q [.ref b1, .ref b2]) (h3 : SqL K H b1 (u.map V.int)) (h4 : SqL K H b2 (v.map V.int)) (k : Q (.bl false) H) :
    rNeU K (.ref p) (.ref q) H Q := by
  have hs : SeqAt.shaped (.list [.list (u.map PyData.int), .list (v.map PyData.int)]) = true := by
    have z1 := depAll_ints u
    have z2 := depAll_ints v
    unfold SeqAt.shaped
    simp only [PyData.canLay0, PyData.canLayAll0, canAll_ints, PyData.depth, PyData.depthAll]
    simp
    omega
  refine c_neD (.lst hp (.cons (.lst h1 (dpa_ints u)) (.cons (.lst h2 (dpa_ints v)) .nil))) (.lst hq (.cons (.lst h3 (dpa_ints u)) (.cons (.lst h4 (dpa_ints v)) .nil))) hs hs ?_
  simp only [PyData.eqv, PyData.eqvAll, eqvAll_ints, decide_true, Bool.and_self]
  exact k
def sp_law (K : PySem.W.Frag) : Sp := fun vs H Q _ => ∃ (a : Addr) (ns : List Int), vs = [.ref a] ∧ SqL K H a (ns.map V.int) ∧ ns.length ≤ 63 ∧ ∀ H', Q (.bl true) H'
theorem len_law (h : sp_law K vs H Q E) : vs.length = 1 := by
  obtain ⟨a, ns, rfl, _⟩ := h
  rfl
theorem flat_pcs (ps : List Pc) : ∀ xs ∈ ps.map pcV, xs.all BP.flatV = true := fun xs hx => by
  obtain ⟨c, _, rfl⟩ := List.mem_map.mp hx
  exact flat_pc c
def t_law (K : PySem.W.Frag) (W : WX) : TS :=
  (tSeq (tAsg (tCl (sp__law_drawn K) [] W (tCons (tVar 0) tNil)) (gTup K 2 (gCons (gName 1) (gCons (gName 2) gNil))))
    (tSeq (tAsg (tCl (sp__law_pieces K) [] W (tCons (tVar 1) (tCons (tVar 2) tNil))) (gName 3))
    (tSeq (tAsg (tLst (tCons (tCB (rListK K) (tCons (tVar 2) tNil)) (tCons (tCB (rListK K) (tCons (tVar 1) tNil)) tNil))) (gName 4))
    (tSeq (tAsg (tCl (sp_pieces_of K) [] W (tCons (tOp (rIx K) (tVar 4) (tC (.int 0))) (tCons (tOp (rIx K) (tVar 4) (tC (.int 1))) tNil))) (gName 5))
    (tSeq (tIfS ((tOr (tTest (tOp (rNeU K) (tVar 4) (tLst (tCons (tVar 2) (tCons (tVar 1) tNil))))) (tNot (tB (tCl (sp__law_same K) [] W (tCons (tVar 5) (tCons (tVar 3) tNil))))))) (tRet (tC (.bl false))) tNext)
    (tSeq (tDrop (tBM0 K "list" rReverse (tOp (rIx K) (tVar 4) (tC (.int 0)))))
    (tSeq (tDrop (tBM0 K "list" rClear (tOp (rIx K) (tVar 4) (tC (.int 1)))))
    (tSeq (tIfS (tNot (tB (tCl (sp__law_same K) [] W (tCons (tCl (sp_pieces_of K) [] W (tCons (tOp (rIx K) (tVar 4) (tC (.int 0))) (tCons (tVar 1) tNil))) (tCons (tCl (sp__law_pieces K) [] W (tCons (tVar 1) (tCons (tRevL K (tVar 2)) tNil))) tNil))))) (tRet (tC (.bl false))) tNext)
    (tSeq (tAsg (tCl (sp__law_pieces K) [] W (tCons (tLst tNil) (tCons (tVar 2) tNil))) (gName 6))
    (tSeq (tAsg (tLst (tCons (tCl (sp_pieces_of K) [.non] W (tCons (tVar 2) tNil)) (tCons (tCl (sp_pieces_of K) [] W (tCons (tVar 2) (tCons (tC .non) tNil))) tNil))) (gName 7))
    (tSeq (tAug 7 (tLst (tCons (tCl (sp_pieces_of K) [] W (tCons (tVar 2) (tCons (tLst tNil) tNil))) (tCons (tCl (sp_pieces_of K) [] W (tCons (tVar 2) (tCons (tOp (rIx K) (tVar 4) (tC (.int 1))) tNil))) tNil))) ipAddU)
    (tSeq (tIfS (tTest (tOp (rNeU K) (tLc (iList K (tVar 7)) (gName 8) (tNot (tB (tCl (sp__law_same K) [] WF (tCons (tVar 8) (tCons (tVar 6) tNil))))) (tVar 8) [8]) (tLst tNil))) (tRet (tC (.bl false))) tNext)
    (tSeq (tIfS (tNot (tB (tCl (sp__law_same K) [] W (tCons (tCl (sp_pieces_of K) [] W (tCons (tCB (rListK K) (tCons (tVar 2) tNil)) (tCons (tCB (rListK K) (tCons (tVar 1) tNil)) tNil))) (tCons (tVar 3) tNil))))) (tRet (tC (.bl false))) tNext)
    (tSeq (tDrop (tBM0 K "list" rClear (tOp (rIx K) (tVar 7) (tC (.int 0)))))
    (tRet ((tAndV (tCl (sp__law_same K) [] W (tCons (tVar 5) (tCons (tVar 3) tNil))) (tOp (rEqU K) (tLc (iList K (tSl (rSlK K) (tVar 7) (tPart (tC (.int 1))) tNoPart)) (gName 8) (tTest (tOp (rNeU K) (tVar 8) (tVar 6))) (tVar 8) [8]) (tLst tNil)))))))))))))))))))
theorem rd_law (h : sp_law K vs H Q E) : t_law K (fun c d _ H2 => E c d H2) { nx := fun _ H' => Q .non H', rt := Q } (start ["_law_script", "_law_before", "_law_text", "_law_due", "_law_handed", "_law_found", "_law_lone", "_law_told", "_law_one"] vs) H := by
  obtain ⟨a, ns, rfl, hS, hl, q⟩ := h
  have hs := Hs.start H
  unfold t_law
  walk_at "go"
  refine ⟨a, ns, rfl, hS, fun ws ts hwb htb hwl htl t b x H1 e1 ht hb hx => ?_⟩
  have h1 := Hs.start H1
  clear hs
  walk_at "go"
  refine ⟨b, x, ws, ts, rfl, .of hb, .of hx, by omega, by omega, hb, hx, fun d ds H2 e2 hTd hSd => ?_⟩
  have hb2 := e2 _ _ hb
  have hx2 := e2 _ _ hx
  have h2 := Hs.start H2
  have hbS := SqL.of (K := K) hb2
  have hxS := SqL.of (K := K) hx2
  clear h1 hb hx
  walk_at "go"
  rename_i l0 H3 h3 l1 H4 h4 g H5 h5
  have hn := h5.nb (.head _)
  have h6 := h5.fix
  generalize hG : HO.lst [V.ref l0, V.ref l1] = G at *
  have sm := same_upd (o := G) hn
  have hg6 : SqL K (upd H2 g G) g [V.ref l0, V.ref l1] := by rw [← hG]; exact SqL.of upd_same
  have hb6 := sm _ _ hb2
  have hx6 := sm _ _ hx2
  have hSd6 := sm.seq hSd
  have hTd6 := hTd.same sm
  clear h2 h3 h4 h5 hb2 hx2 hSd hTd hG hbS hxS
  generalize upd H2 g G = B5 at *
  have hg5 := h6.bl hg6
  walk_at "go"
  refine use_pieces (ws := ws) h6 (h6.sql (.tail _ (.head _))) htb (by omega) (.lst (h6.sql (.head _))) (isWin_ints hwb hwl) rfl (ok_ints (by omega)) fun B6 f fs H6 hB hTf h7 => ?_
  have hn := h7.nb (.head _)
  have h8 := h7.fix
  have sm2 := same_upd (o := HO.lst fs) hn
  have hSf : SqL K (upd B6 f (.lst fs)) f fs := SqL.of upd_same
  have hTf7 := hTf.same sm2
  have sm3 := hB.trans sm2
  have hb7 := sm3 _ _ hb6
  have hx7 := sm3 _ _ hx6
  have hSd7 := sm3.seq hSd6
  have hTd7 := hTd6.same sm3
  have hg7 := sm3.seq hg6
  clear h6 h7 hb6 hx6 hSd6 hTd6 hg6 hg5 hTf hB sm sm2 sm3
  generalize upd B6 f (.lst fs) = B7 at *
  walk_at "go"
  rename_i k1 H7 h9
  refine c_neLL ts ws (h9.bl hg7) (h9.sql (.tail _ (.tail _ (.head _)))) (h9.sql (.tail _ (.head _))) (h9.sql (.head _)) (h9.bl (SqL.of hx7)) (h9.bl (SqL.of hb7)) ?_
  have h10 := h9.drop
  clear h8 h9
  walk_at "go"
  refine ⟨f, d, fs, ds, _, rfl, h10.bl hSf, h10.bl hSd7, hTf7.same h10.ex, hTd7.same h10.ex, retV h10 fun H8 h11 => ?_⟩
  have hg8 := h11.bl hg7
  clear h10
  walk_at "go"
  refine c_reverse0 h11.swap fun H9 h12 => ?_
  have hg9 := h12.bl hg7
  clear h11 hg8
  walk_at "go"
  refine c_clear0 h12.swap fun H10 h13 => ?_
  rw [← List.map_reverse] at h13
  have hl0 := h13.sql (K := K) (.tail _ (.head _))
  have hl1 := h13.sql (K := K) (.head _)
  have hb10 := h13.ex _ _ hb7
  have hx10 := h13.ex _ _ hx7
  have hSd10 := h13.bl hSd7
  have hTd10 := hTd7.same h13.ex
  have hSf10 := h13.bl hSf
  have hTf10 := hTf7.same h13.ex
  have hg10 := h13.bl hg7
  have h14 := Hs.start H10
  clear h12 h13 hg9 hb7 hx7 hSd7 hTd7 hSf hTf7 hg7
  have hrb : Bytes ts.reverse := fun n hn => htb n (List.mem_reverse.mp hn)
  walk_at "go"
  refine use_pieces (ws := ws) h14 hl0 hrb (by rw [List.length_reverse]; omega) (.lst (SqL.of hb10)) (isWin_ints hwb hwl) rfl (ok_ints (by omega)) fun B11 r1 rs1 H11 hB hTr h15 => ?_
  have sm := hB.trans h15.ex
  have hb11 := sm _ _ hb10
  have hx11 := sm _ _ hx10
  have hSd11 := sm.seq hSd10
  have hTd11 := hTd10.same sm
  have hSf11 := sm.seq hSf10
  have hTf11 := hTf10.same sm
  have hg11 := sm.seq hg10
  have hl1' := sm.seq hl1
  have hSr := h15.sql (K := K) (.head _)
  have hTr11 := hTr.same h15.ex
  have h16 := Hs.start H11
  clear h14 h15 hb10 hx10 hSd10 hTd10 hSf10 hTf10 hg10 sm hB hTr hl0 hl1
  walk_at "go"
  refine c_revO h16 (SqL.of hx11) fun y H12 h17 => ?_
  rw [← List.map_reverse] at h17
  have hb12 := h17.ex _ _ hb11
  walk_at "go"
  refine ⟨b, y, ws, ts.reverse, rfl, .of hb12, h17.sql (.head _), by omega, by rw [List.length_reverse]; omega, hb12, h17.get (.head _), fun e es H13 e13 hTe hSe => ?_⟩
  have sm := h17.ex.trans e13
  have hb13 := sm _ _ hb11
  have hx13 := sm _ _ hx11
  have hSd13 := sm.seq hSd11
  have hTd13 := hTd11.same sm
  have hSf13 := sm.seq hSf11
  have hTf13 := hTf11.same sm
  have hg13 := sm.seq hg11
  have hl13 := sm.seq hl1'
  have hSr13 := sm.seq hSr
  have hTr13 := hTr11.same sm
  have h18 := Hs.start H13
  clear h16 h17 hb11 hx11 hSd11 hTd11 hSf11 hTf11 hg11 sm hSr hTr11 hl1' hb12
  walk_at "go"
  refine ⟨r1, e, rs1, es, _, rfl, hSr13, hSe, hTr13, hTe, retV h18 fun H14 h19 => ?_⟩
  have sm := h19.ex
  have hb14 := sm _ _ hb13
  have hx14 := sm _ _ hx13
  have hSd14 := sm.seq hSd13
  have hTd14 := hTd13.same sm
  have hSf14 := sm.seq hSf13
  have hTf14 := hTf13.same sm
  have hg14 := sm.seq hg13
  have hl14 := sm.seq hl13
  have h20 := Hs.start H14
  clear h18 h19 hb13 hx13 hSd13 hTd13 hSf13 hTf13 hg13 sm hSr13 hTr13 hl13 hTe hSe
  walk_at "go"
  rename_i z H15 h21
  have hx15 := h21.ex _ _ hx14
  refine ⟨z, x, [], ts, rfl, h21.sql (.head _), .of hx15, by simp, by omega, h21.get (.head _), hx15, fun lo los H16 e16 hTl hSl => ?_⟩
  have sm := h21.ex.trans e16
  have hb16 := sm _ _ hb14
  have hx16 := sm _ _ hx14
  have hSd16 := sm.seq hSd14
  have hTd16 := hTd14.same sm
  have hSf16 := sm.seq hSf14
  have hTf16 := hTf14.same sm
  have hg16 := sm.seq hg14
  have hl16 := sm.seq hl14
  have h22 := Hs.start H16
  clear h20 h21 hb14 hx14 hSd14 hTd14 hSf14 hTf14 hg14 sm hl14 hx15
  walk_at "go"
  refine use_pieces (ws := []) h22 (SqL.of hx16) htb (by omega) .non rfl rfl trivial fun B17 w0 ws0 H17 hB hT0 h23 => ?_
  have hb17 := hB _ _ hb16
  have hx17 := hB _ _ hx16
  have hSd17 := hB.seq hSd16
  have hTd17 := hTd16.same hB
  have hSf17 := hB.seq hSf16
  have hTf17 := hTf16.same hB
  have hl17 := hB.seq hl16
  have hg17 := hB.seq hg16
  have hSl17 := hB.seq hSl
  have hTl17 := hTl.same hB
  clear h22 hb16 hx16 hSd16 hTd16 hSf16 hTf16 hl16 hg16 hSl hTl hB
  walk_at "go"
  refine use_pieces (ws := []) h23 (h23.bl (SqL.of hx17)) htb (by omega) .non rfl rfl trivial fun B18 w1 ws1 H18 hB hT1 h24 => ?_
  have hn := h24.nb (.head _)
  have h25 := h24.fix
  have sm := hB.trans (same_upd (o := HO.lst ws1) hn)
  have hS1 : SqL K (upd B18 w1 (.lst ws1)) w1 ws1 := SqL.of upd_same
  have hT1' := hT1.same (same_upd (o := HO.lst ws1) hn)
  have hT0' := hT0.same sm
  have hb18 := sm _ _ hb17
  have hx18 := sm _ _ hx17
  have hSd18 := sm.seq hSd17
  have hTd18 := hTd17.same sm
  have hSf18 := sm.seq hSf17
  have hTf18 := hTf17.same sm
  have hl18 := sm.seq hl17
  have hg18 := sm.seq hg17
  have hSl18 := sm.seq hSl17
  have hTl18 := hTl17.same sm
  clear h23 h24 hb17 hx17 hSd17 hTd17 hSf17 hTf17 hl17 hg17 hSl17 hTl17 hB sm hT1 hT0 hn
  generalize upd B18 w1 (.lst ws1) = B19 at *
  walk_at "go"
  rename_i T H19 h26 z2 H20 h27
  refine use_pieces (ws := []) h27 (h27.bl (SqL.of hx18)) htb (by omega) (.lst (h27.sql (.head _))) rfl rfl ⟨fun _ h => (nomatch h), by simp⟩ fun B20 w2 ws2 H21 hB hT2 h28 => ?_
  have hn := h28.nb (.head _)
  have h29 := h28.fix.drop
  have sm := hB.trans (same_upd (o := HO.lst ws2) hn)
  have hS2 : SqL K (upd B20 w2 (.lst ws2)) w2 ws2 := SqL.of upd_same
  have hT2' := hT2.same (same_upd (o := HO.lst ws2) hn)
  have hS1' := sm.seq hS1
  have hT1 := hT1'.same sm
  have hT0 := hT0'.same sm
  have hb20 := sm _ _ hb18
  have hx20 := sm _ _ hx18
  have hSd20 := sm.seq hSd18
  have hTd20 := hTd18.same sm
  have hSf20 := sm.seq hSf18
  have hTf20 := hTf18.same sm
  have hl20 := sm.seq hl18
  have hg20 := sm.seq hg18
  have hSl20 := sm.seq hSl18
  have hTl20 := hTl18.same sm
  clear h26 h27 h28 h25 hb18 hx18 hSd18 hTd18 hSf18 hTf18 hl18 hg18 hSl18 hTl18 hB sm hT1' hT0' hS1 hT2 hn
  generalize upd B20 w2 (.lst ws2) = B21 at *
  have hgH := h29.bl hg20
  walk_at "go"
  refine use_pieces (ws := []) h29 (h29.bl (SqL.of hx20)) htb (by omega) (.lst (h29.bl hl20)) rfl rfl ⟨fun _ h => (nomatch h), by simp⟩ fun B22 w3 ws3 H22 hB hT3 h30 => ?_
  have hn := h30.nb (.head _)
  have h31 := h30.fix
  have sm := hB.trans (same_upd (o := HO.lst ws3) hn)
  have hS3 : SqL K (upd B22 w3 (.lst ws3)) w3 ws3 := SqL.of upd_same
  have hT3' := hT3.same (same_upd (o := HO.lst ws3) hn)
  have hS2' := sm.seq hS2
  have hT2 := hT2'.same sm
  have hS1 := sm.seq hS1'
  have hT1' := hT1.same sm
  have hT0' := hT0.same sm
  have hb22 := sm _ _ hb20
  have hx22 := sm _ _ hx20
  have hSd22 := sm.seq hSd20
  have hTd22 := hTd20.same sm
  have hSf22 := sm.seq hSf20
  have hTf22 := hTf20.same sm
  have hSl22 := sm.seq hSl20
  have hTl22 := hTl20.same sm
  clear h29 h30 hgH hb20 hx20 hSd20 hTd20 hSf20 hTf20 hl20 hg20 hSl20 hTl20 hB sm hT1 hT0 hS1' hS2 hT2' hT3 hn
  generalize upd B22 w3 (.lst ws3) = B23 at *
  walk_at "go"
  rename_i k2 H23 h32
  refine c_ext0 h32.drop (h32.get (.head _)) (small6' (show 2 + 2 ≤ 200000 by decide)) fun H24 h33 => ?_
  clear h31 h32
  walk_at "go"
  have good : ∀ (H' : Hp), Hs B23 [(T, .lst ([V.ref w0, V.ref w1] ++ [V.ref w2, V.ref w3])), (w0, .lst ws0)] H' → ∀ v ∈ [V.ref w0, V.ref w1, V.ref w2, V.ref w3], ∃ (p : Addr) (us : List V), v = .ref p ∧ SqL K H' p us ∧ Tups K H' us ((pcs ([] ++ ts) ts.length ([] : List Int).length).map pcV) := by
    intro H' h v hv
    simp only [List.mem_cons, List.not_mem_nil, or_false] at hv
    rcases hv with e | e | e | e
    · exact ⟨_, _, e, h.sql (.tail _ (.head _)), hT0'.same h.ex⟩
    · exact ⟨_, _, e, h.bl hS1, hT1'.same h.ex⟩
    · exact ⟨_, _, e, h.bl hS2', hT2.same h.ex⟩
    · exact ⟨_, _, e, h.bl hS3, hT3'.same h.ex⟩
  refine c_lcL id [V.ref w0, V.ref w1, V.ref w2, V.ref w3] (fun pre acc B' => acc = [] ∧ B' = B23) h33 ⟨rfl, rfl⟩ (fun B' H' e h => h.sql (.head _)) ?_ ?_
  · rintro pre v post acc B' D H' e ⟨rfl, rfl⟩ _ h
    obtain ⟨p, us, rfl, hp, hu⟩ := good _ h.drop v (by rw [e]; simp)
    rw [id_eq]
    walk_at "go"
    refine ⟨rfl, ?_⟩
    walk_at "go"
    refine ⟨p, lo, us, los, _, rfl, hp, h.bl hSl22, hu, hTl22.same h.ex, retV h fun H9 h9 => ?_⟩
    walk_at "go"
    exact ⟨[], B', ⟨rfl, rfl⟩, Same.refl _, h9⟩
  rintro acc B' D H25 ⟨rfl, rfl⟩ _ h34
  walk_at "go"
  rename_i z3 H26 h35
  refine c_neL [] [] (h35.sql (.tail _ (.head _))) (h35.sql (.head _)) ?_
  have h36 := h35.drop.drop
  clear h33 h34 h35
  have hxS := SqL.of (K := K) hx22
  have hbS := SqL.of (K := K) hb22
  walk_at "go"
  rename_i x3 H27 h37 b3 H28 h38
  refine use_pieces (ws := ws) h38 (h38.sql (.tail _ (.head _))) htb (by omega) (.lst (h38.sql (.head _))) (isWin_ints hwb hwl) rfl (ok_ints (by omega)) fun B24 f2 fs2 H29 hB hT4 h39 => ?_
  have hSd24 := hB.seq hSd22
  have hTd24 := hTd22.same hB
  have hSf24 := hB.seq hSf22
  have hTf24 := hTf22.same hB
  have hSl24 := hB.seq hSl22
  have hTl24 := hTl22.same hB
  have hS124 := hB.seq hS1
  have hT124 := hT1'.same hB
  have hS224 := hB.seq hS2'
  have hT224 := hT2.same hB
  have hS324 := hB.seq hS3
  have hT324 := hT3'.same hB
  clear h36 h37 h38 hxS hbS
  walk_at "go"
  refine ⟨f2, d, fs2, ds, _, rfl, h39.sql (.head _), h39.bl hSd24, hT4.same h39.ex, hTd24.same h39.ex, retV h39 fun H30 h40 => ?_⟩
  have h41 := h40.drop.drop.drop
  clear h39 h40
  walk_at "go"
  refine c_clear0 h41.swap fun H31 h42 => ?_
  have h43 := h42.swap
  clear h41 h42
  walk_at "go"
  refine ⟨f, d, fs, ds, _, rfl, h43.bl hSf24, h43.bl hSd24, hTf24.same h43.ex, hTd24.same h43.ex, retV h43 fun H32 h44 => ?_⟩
  clear h43
  walk_at "go"
  rename_i s4 H33 h45
  rw [show cutV ([V.ref w0, V.ref w1] ++ [V.ref w2, V.ref w3]) (some 1) none = [V.ref w1, V.ref w2, V.ref w3] from cutV_tail'] at h45
  have good2 : ∀ (H' : Hp), Same B24 H' → ∀ v ∈ [V.ref w1, V.ref w2, V.ref w3], ∃ (p : Addr) (us : List V), v = .ref p ∧ SqL K H' p us ∧ Tups K H' us ((pcs ([] ++ ts) ts.length ([] : List Int).length).map pcV) := by
    intro H' h v hv
    simp only [List.mem_cons, List.not_mem_nil, or_false] at hv
    rcases hv with e | e | e
    · exact ⟨_, _, e, h.seq hS124, hT124.same h⟩
    · exact ⟨_, _, e, h.seq hS224, hT224.same h⟩
    · exact ⟨_, _, e, h.seq hS324, hT324.same h⟩
  refine c_lcL id [V.ref w1, V.ref w2, V.ref w3] (fun pre acc B' => acc = [] ∧ B' = B24) h45 ⟨rfl, rfl⟩ (fun B' H' e h => h.sql (.head _)) ?_ ?_
  · rintro pre v post acc B' D H' e ⟨rfl, rfl⟩ _ h
    obtain ⟨p, us, rfl, hp, hu⟩ := good2 _ h.ex v (by rw [e]; simp)
    rw [id_eq]
    walk_at "go"
    refine ⟨rfl, ?_⟩
    walk_at "go"
    refine c_neT (flat_pcs _) hp hu (h.bl hSl24) (hTl24.same h.ex) ?_
    walk_at "go"
    exact ⟨[], B', ⟨rfl, rfl⟩, Same.refl _, h⟩
  rintro acc B' D H34 ⟨rfl, rfl⟩ _ h46
  walk_at "go"
  rename_i z4 H35 h47
  refine c_eqL [] [] (h47.sql (.tail _ (.head _))) (h47.sql (.head _)) ?_
  exact q _
end L2.BR

end
namespace L2.BH
open PySem PySem.Spec PyProof.Rows L2
def top (i : Nat) : Stmt := PySem.Challenge.pw_balepress_k14_pieces.main.body.getD i (.Pass ⟨0, 0, 0, 0⟩)
abbrev s_is_byte : Stmt := top 5
abbrev s_is_row : Stmt := top 6
abbrev s_need_row : Stmt := top 7
abbrev s_need_window : Stmt := top 12
abbrev s_alike_size : Stmt := top 13
abbrev s_longest_copy : Stmt := top 14
abbrev s_pieces_of : Stmt := top 15
abbrev s__law_cell_at : Stmt := top 17
abbrev s__law_mixed : Stmt := top 18
abbrev s__law_signs : Stmt := top 19
abbrev s__law_drawn : Stmt := top 20
abbrev s__law_same : Stmt := top 21
abbrev s__law_size : Stmt := top 22
abbrev s__law_pieces : Stmt := top 23
abbrev s_law : Stmt := top 24
def d_is_byte : He.DefD := ⟨("is_byte", none), "is_byte", "is_byte", defArgs s_is_byte, defBody s_is_byte, defScope s_is_byte, [], []⟩
def d_is_row : He.DefD := ⟨("is_row", none), "is_row", "is_row", defArgs s_is_row, defBody s_is_row, defScope s_is_row, [], []⟩
def d_need_row : He.DefD := ⟨("need_row", none), "need_row", "need_row", defArgs s_need_row, defBody s_need_row, defScope s_need_row, [], []⟩
def d_need_window : He.DefD := ⟨("need_window", none), "need_window", "need_window", defArgs s_need_window, defBody s_need_window, defScope s_need_window, [], []⟩
def d_alike_size : He.DefD := ⟨("alike_size", none), "alike_size", "alike_size", defArgs s_alike_size, defBody s_alike_size, defScope s_alike_size, [], []⟩
def d_longest_copy : He.DefD := ⟨("longest_copy", none), "longest_copy", "longest_copy", defArgs s_longest_copy, defBody s_longest_copy, defScope s_longest_copy, [], []⟩
def d_pieces_of : He.DefD := ⟨("pieces_of", none), "pieces_of", "pieces_of", defArgs s_pieces_of, defBody s_pieces_of, defScope s_pieces_of, [.non], []⟩
def d__law_cell_at : He.DefD := ⟨("_law_cell_at", none), "_law_cell_at", "_law_cell_at", defArgs s__law_cell_at, defBody s__law_cell_at, defScope s__law_cell_at, [], []⟩
def d__law_mixed : He.DefD := ⟨("_law_mixed", none), "_law_mixed", "_law_mixed", defArgs s__law_mixed, defBody s__law_mixed, defScope s__law_mixed, [], []⟩
def d__law_signs : He.DefD := ⟨("_law_signs", none), "_law_signs", "_law_signs", defArgs s__law_signs, defBody s__law_signs, defScope s__law_signs, [], []⟩
def d__law_drawn : He.DefD := ⟨("_law_drawn", none), "_law_drawn", "_law_drawn", defArgs s__law_drawn, defBody s__law_drawn, defScope s__law_drawn, [], []⟩
def d__law_same : He.DefD := ⟨("_law_same", none), "_law_same", "_law_same", defArgs s__law_same, defBody s__law_same, defScope s__law_same, [], []⟩
def d__law_size : He.DefD := ⟨("_law_size", none), "_law_size", "_law_size", defArgs s__law_size, defBody s__law_size, defScope s__law_size, [], []⟩
def d__law_pieces : He.DefD := ⟨("_law_pieces", none), "_law_pieces", "_law_pieces", defArgs s__law_pieces, defBody s__law_pieces, defScope s__law_pieces, [], []⟩
def d_law : He.DefD := ⟨("law", none), "law", "law", defArgs s_law, defBody s_law, defScope s_law, [], []⟩
def fn : List He.DefD := [d_is_byte, d_is_row, d_need_row, d_need_window, d_alike_size, d_longest_copy, d_pieces_of, d__law_cell_at, d__law_mixed, d__law_signs, d__law_drawn, d__law_same, d__law_size, d__law_pieces, d_law]
def fa : List He.Fa := [.glo "PressError", .exc "PressError", .glo "BadRow", .exc "BadRow", .int "MOST_BYTE" 255, .glo "is_byte", .glo "is_row", .glo "need_row", .int "LEAST_SIZE" 3, .int "MOST_SIZE" 18, .int "MOST_BACK" 255, .glo "need_window", .glo "alike_size", .glo "longest_copy", .glo "pieces_of", .glo "_law_cell_at", .glo "_law_mixed", .glo "_law_signs", .glo "_law_drawn", .glo "_law_same", .glo "_law_size", .glo "_law_pieces", .glo "law", .free "all", .free "bool", .free "int", .free "isinstance", .free "len", .free "list", .free "min", .free "range", .free "str", .free "tuple", .free "zip", .free "ValueError"]
abbrev R : PySem.W.OpenRow := PySem.W.OpenLaw.row PySem.Challenge.rw_balepress_k14_pieces
abbrev hk : PySem.W.Hook := He.hookD 6 fa fn
def ob (s : PySem.W.SharedT) : He.AlD := He.obsDG 6 fa fn (HandSHeadRun.getT s)
theorem ob_eq (s : PySem.W.SharedT) : ob s = hk.obs s.abs := He.obsDG_eq (HandSHeadRun.getT_eq s)
def loose0 : List PySem.Str := ["PressError", "ValueError", "BadRow", "MOST_BYTE", "is_byte", "is_row", "need_row", "LEAST_SIZE", "MOST_SIZE", "MOST_BACK", "need_window", "alike_size", "longest_copy", "pieces_of", "_law_cell_at", "_law_mixed", "_law_signs", "_law_drawn", "_law_same", "_law_size", "_law_pieces"]
abbrev loose : List PySem.Str := loose0
theorem run (w : World) : HandSHeadRun.RunEq R (PySem.W.view R.prog [24]) hk ob 40000 loose w := by
  intro os
  kernel_rfl
end L2.BH
namespace L2.BW
open PySem PySem.Spec PyProof.Rows L2.BP L2.BR L2.BH
structure Tx (K : PySem.W.Frag) (mg : Str → Option Value) : Prop where
  g_PressError : mg "PressError" = some (.ref (He.ga K "PressError"))
  x_PressError : PySem.W.excIn K (He.ga K "PressError") He.veBase "ValueError.__new__" = true ∧ PySem.W.keepIn K (.ref (He.ga K "PressError")) = true ∧ PySem.W.subIn K (.ref (He.ga K "PressError")) (.type "BaseException") = some true ∧ PySem.W.typeIn K (.ref (He.ga K "PressError")) = some (.type "type")
  g_BadRow : mg "BadRow" = some (.ref (He.ga K "BadRow"))
  x_BadRow : PySem.W.excIn K (He.ga K "BadRow") He.veBase "ValueError.__new__" = true ∧ PySem.W.keepIn K (.ref (He.ga K "BadRow")) = true ∧ PySem.W.subIn K (.ref (He.ga K "BadRow")) (.type "BaseException") = some true ∧ PySem.W.typeIn K (.ref (He.ga K "BadRow")) = some (.type "type")
  g_MOST_BYTE : ∃ t, mg "MOST_BYTE" = some (.int 255 t)
  g_is_byte : mg "is_byte" = some (.ref (He.ga K "is_byte"))
  g_is_row : mg "is_row" = some (.ref (He.ga K "is_row"))
  g_need_row : mg "need_row" = some (.ref (He.ga K "need_row"))
  g_LEAST_SIZE : ∃ t, mg "LEAST_SIZE" = some (.int 3 t)
  g_MOST_SIZE : ∃ t, mg "MOST_SIZE" = some (.int 18 t)
  g_MOST_BACK : ∃ t, mg "MOST_BACK" = some (.int 255 t)
  g_need_window : mg "need_window" = some (.ref (He.ga K "need_window"))
  g_alike_size : mg "alike_size" = some (.ref (He.ga K "alike_size"))
  g_longest_copy : mg "longest_copy" = some (.ref (He.ga K "longest_copy"))
  g_pieces_of : mg "pieces_of" = some (.ref (He.ga K "pieces_of"))
  g__law_cell_at : mg "_law_cell_at" = some (.ref (He.ga K "_law_cell_at"))
  g__law_mixed : mg "_law_mixed" = some (.ref (He.ga K "_law_mixed"))
  g__law_signs : mg "_law_signs" = some (.ref (He.ga K "_law_signs"))
  g__law_drawn : mg "_law_drawn" = some (.ref (He.ga K "_law_drawn"))
  g__law_same : mg "_law_same" = some (.ref (He.ga K "_law_same"))
  g__law_size : mg "_law_size" = some (.ref (He.ga K "_law_size"))
  g__law_pieces : mg "_law_pieces" = some (.ref (He.ga K "_law_pieces"))
  g_law : mg "law" = some (.ref (He.ga K "law"))
  f_all : mg "all" = none
  f_bool : mg "bool" = none
  f_int : mg "int" = none
  f_isinstance : mg "isinstance" = none
  f_len : mg "len" = none
  f_list : mg "list" = none
  f_min : mg "min" = none
  f_range : mg "range" = none
  f_str : mg "str" = none
  f_tuple : mg "tuple" = none
  f_zip : mg "zip" = none
  f_ValueError : mg "ValueError" = none
  d__law_mixed : ∃ fd, FunD K d__law_mixed.name d__law_mixed.qual d__law_mixed.params d__law_mixed.body d__law_mixed.scope (d__law_mixed.dvs K) (d__law_mixed.kws K) (He.fAd K d__law_mixed.at_) fd
  d__law_cell_at : ∃ fd, FunD K d__law_cell_at.name d__law_cell_at.qual d__law_cell_at.params d__law_cell_at.body d__law_cell_at.scope (d__law_cell_at.dvs K) (d__law_cell_at.kws K) (He.fAd K d__law_cell_at.at_) fd
  d__law_signs : ∃ fd, FunD K d__law_signs.name d__law_signs.qual d__law_signs.params d__law_signs.body d__law_signs.scope (d__law_signs.dvs K) (d__law_signs.kws K) (He.fAd K d__law_signs.at_) fd
  d__law_drawn : ∃ fd, FunD K d__law_drawn.name d__law_drawn.qual d__law_drawn.params d__law_drawn.body d__law_drawn.scope (d__law_drawn.dvs K) (d__law_drawn.kws K) (He.fAd K d__law_drawn.at_) fd
  d__law_size : ∃ fd, FunD K d__law_size.name d__law_size.qual d__law_size.params d__law_size.body d__law_size.scope (d__law_size.dvs K) (d__law_size.kws K) (He.fAd K d__law_size.at_) fd
  d__law_pieces : ∃ fd, FunD K d__law_pieces.name d__law_pieces.qual d__law_pieces.params d__law_pieces.body d__law_pieces.scope (d__law_pieces.dvs K) (d__law_pieces.kws K) (He.fAd K d__law_pieces.at_) fd
  d_is_byte : ∃ fd, FunD K d_is_byte.name d_is_byte.qual d_is_byte.params d_is_byte.body d_is_byte.scope (d_is_byte.dvs K) (d_is_byte.kws K) (He.fAd K d_is_byte.at_) fd
  d_is_row : ∃ fd, FunD K d_is_row.name d_is_row.qual d_is_row.params d_is_row.body d_is_row.scope (d_is_row.dvs K) (d_is_row.kws K) (He.fAd K d_is_row.at_) fd
  d_need_row : ∃ fd, FunD K d_need_row.name d_need_row.qual d_need_row.params d_need_row.body d_need_row.scope (d_need_row.dvs K) (d_need_row.kws K) (He.fAd K d_need_row.at_) fd
  d_need_window : ∃ fd, FunD K d_need_window.name d_need_window.qual d_need_window.params d_need_window.body d_need_window.scope (d_need_window.dvs K) (d_need_window.kws K) (He.fAd K d_need_window.at_) fd
  d_alike_size : ∃ fd, FunD K d_alike_size.name d_alike_size.qual d_alike_size.params d_alike_size.body d_alike_size.scope (d_alike_size.dvs K) (d_alike_size.kws K) (He.fAd K d_alike_size.at_) fd
  d_longest_copy : ∃ fd, FunD K d_longest_copy.name d_longest_copy.qual d_longest_copy.params d_longest_copy.body d_longest_copy.scope (d_longest_copy.dvs K) (d_longest_copy.kws K) (He.fAd K d_longest_copy.at_) fd
  d_pieces_of : ∃ fd, FunD K d_pieces_of.name d_pieces_of.qual d_pieces_of.params d_pieces_of.body d_pieces_of.scope (d_pieces_of.dvs K) (d_pieces_of.kws K) (He.fAd K d_pieces_of.at_) fd
  d__law_same : ∃ fd, FunD K d__law_same.name d__law_same.qual d__law_same.params d__law_same.body d__law_same.scope (d__law_same.dvs K) (d__law_same.kws K) (He.fAd K d__law_same.at_) fd
  d_law : ∃ fd, FunD K d_law.name d_law.qual d_law.params d_law.body d_law.scope (d_law.dvs K) (d_law.kws K) (He.fAd K d_law.at_) fd
theorem tx_of {K : PySem.W.Frag} {h : Heap} {mg : Str → Option Value} (X : K.In h) (G : h.Ns mainGlobals mg) (c : He.SaysD fa fn K) : Tx K mg where
  g_PressError := He.glo_ok X G (c.fact 0 (f := .glo "PressError") rfl)
  x_PressError := He.exc_ok (c.fact 1 (f := .exc "PressError") rfl)
  g_BadRow := He.glo_ok X G (c.fact 2 (f := .glo "BadRow") rfl)
  x_BadRow := He.exc_ok (c.fact 3 (f := .exc "BadRow") rfl)
  g_MOST_BYTE := He.int_ok X G (c.fact 4 (f := .int "MOST_BYTE" 255) rfl)
  g_is_byte := He.glo_ok X G (c.fact 5 (f := .glo "is_byte") rfl)
  g_is_row := He.glo_ok X G (c.fact 6 (f := .glo "is_row") rfl)
  g_need_row := He.glo_ok X G (c.fact 7 (f := .glo "need_row") rfl)
  g_LEAST_SIZE := He.int_ok X G (c.fact 8 (f := .int "LEAST_SIZE" 3) rfl)
  g_MOST_SIZE := He.int_ok X G (c.fact 9 (f := .int "MOST_SIZE" 18) rfl)
  g_MOST_BACK := He.int_ok X G (c.fact 10 (f := .int "MOST_BACK" 255) rfl)
  g_need_window := He.glo_ok X G (c.fact 11 (f := .glo "need_window") rfl)
  g_alike_size := He.glo_ok X G (c.fact 12 (f := .glo "alike_size") rfl)
  g_longest_copy := He.glo_ok X G (c.fact 13 (f := .glo "longest_copy") rfl)
  g_pieces_of := He.glo_ok X G (c.fact 14 (f := .glo "pieces_of") rfl)
  g__law_cell_at := He.glo_ok X G (c.fact 15 (f := .glo "_law_cell_at") rfl)
  g__law_mixed := He.glo_ok X G (c.fact 16 (f := .glo "_law_mixed") rfl)
  g__law_signs := He.glo_ok X G (c.fact 17 (f := .glo "_law_signs") rfl)
  g__law_drawn := He.glo_ok X G (c.fact 18 (f := .glo "_law_drawn") rfl)
  g__law_same := He.glo_ok X G (c.fact 19 (f := .glo "_law_same") rfl)
  g__law_size := He.glo_ok X G (c.fact 20 (f := .glo "_law_size") rfl)
  g__law_pieces := He.glo_ok X G (c.fact 21 (f := .glo "_law_pieces") rfl)
  g_law := He.glo_ok X G (c.fact 22 (f := .glo "law") rfl)
  f_all := He.free_ok X G (c.fact 23 (f := .free "all") rfl)
  f_bool := He.free_ok X G (c.fact 24 (f := .free "bool") rfl)
  f_int := He.free_ok X G (c.fact 25 (f := .free "int") rfl)
  f_isinstance := He.free_ok X G (c.fact 26 (f := .free "isinstance") rfl)
  f_len := He.free_ok X G (c.fact 27 (f := .free "len") rfl)
  f_list := He.free_ok X G (c.fact 28 (f := .free "list") rfl)
  f_min := He.free_ok X G (c.fact 29 (f := .free "min") rfl)
  f_range := He.free_ok X G (c.fact 30 (f := .free "range") rfl)
  f_str := He.free_ok X G (c.fact 31 (f := .free "str") rfl)
  f_tuple := He.free_ok X G (c.fact 32 (f := .free "tuple") rfl)
  f_zip := He.free_ok X G (c.fact 33 (f := .free "zip") rfl)
  f_ValueError := He.free_ok X G (c.fact 34 (f := .free "ValueError") rfl)
  d__law_mixed := c.def_ 8 (d := d__law_mixed) rfl
  d__law_cell_at := c.def_ 7 (d := d__law_cell_at) rfl
  d__law_signs := c.def_ 9 (d := d__law_signs) rfl
  d__law_drawn := c.def_ 10 (d := d__law_drawn) rfl
  d__law_size := c.def_ 12 (d := d__law_size) rfl
  d__law_pieces := c.def_ 13 (d := d__law_pieces) rfl
  d_is_byte := c.def_ 0 (d := d_is_byte) rfl
  d_is_row := c.def_ 1 (d := d_is_row) rfl
  d_need_row := c.def_ 2 (d := d_need_row) rfl
  d_need_window := c.def_ 3 (d := d_need_window) rfl
  d_alike_size := c.def_ 4 (d := d_alike_size) rfl
  d_longest_copy := c.def_ 5 (d := d_longest_copy) rfl
  d_pieces_of := c.def_ 6 (d := d_pieces_of) rfl
  d__law_same := c.def_ 11 (d := d__law_same) rfl
  d_law := c.def_ 14 (d := d_law) rfl
abbrev N__law_mixed : List Str := ["_law_cell", "_law_k"]
theorem sc__law_mixed : FnScope N__law_mixed ["_law_cell", "_law_k"] (defScope s__law_mixed) := ⟨rfl, rfl, rfl, by decide +kernel, rfl, by decide +kernel, by decide +kernel⟩
theorem wk__law_mixed {P : Program} {w : World} {K : PySem.W.Frag} {mg : Str → Option Value} {base : Heap} (T : Tx K mg)  {f : Addr} {cdv : Value} {A : Around} {outer : List Env} {s : Shared} {H : Hp} {E : XK}
    (hr : Room 0 (A.deeper (envOfC "_law_mixed" (defScope s__law_mixed) s.heap.objs.size f cdv))) :
    PSs (cxOf (L2.CX P w) P w K mg base N__law_mixed "_law_mixed" (defScope s__law_mixed) f cdv A outer s H E) (defBody s__law_mixed) (t__law_mixed K (fun c d _ H2 => E c d H2)) := by
  have hu1 := hu_of hr
  have hu64 := hr.units
  have tk : Takes (cxOf (L2.CX P w) P w K mg base N__law_mixed "_law_mixed" (defScope s__law_mixed) f cdv A outer s H E) (fun c d _ H2 => E c d H2) := takes_of rfl rfl rfl rfl
  exact (pss_one (ps_ret (pe_op op_modU (pe_op op_mulU (pe_op op_modU (pe_op op_mulU (pe_op op_addU (pe_op op_addU (pv 0) (pe_op op_mulU (pe_op op_mulU (pe_int) (pv 1)) (pv 1))) (pe_int)) (pe_int)) (pe_int)) (pe_int)) (pe_int))))
theorem fn__law_mixed {P : Program} {w : World} {K : PySem.W.Frag} {mg : Str → Option Value} {base : Heap} (T : Tx K mg) {f : Addr} {fd : FuncData} (F : FunD K d__law_mixed.name d__law_mixed.qual d__law_mixed.params d__law_mixed.body d__law_mixed.scope (d__law_mixed.dvs K) (d__law_mixed.kws K) f fd) :
    FnOk P w K mg base (L2.CX P w) 1 f fd ["_law_cell", "_law_k"] (sp__law_mixed K) :=
  F.ok sc__law_mixed (fun vs H Q E h => len__law_mixed h) (fun cdv A outer s H vs Q E hr h => ⟨t__law_mixed K (fun c d _ H2 => E c d H2), wk__law_mixed T  hr, rd__law_mixed  h⟩)
theorem ok__law_mixed_2 {P : Program} {w : World} {K : PySem.W.Frag} {mg : Str → Option Value} {base : Heap} (T : Tx K mg) : DOk P w K mg base 1 (He.fAd K ("_law_mixed", none)) ["_law_cell", "_law_k"] [] (sp__law_mixed K) := by
  obtain ⟨fd, F⟩ := T.d__law_mixed
  exact ⟨fd, [], .nil, FunD.bindsN F fun _ _ _ _ _ _ us hl => match us, hl with | [_, _], _ => rfl, fn__law_mixed T F, F.kp⟩
abbrev N__law_cell_at : List Str := ["_law_script", "_law_k"]
theorem sc__law_cell_at : FnScope N__law_cell_at ["_law_script", "_law_k"] (defScope s__law_cell_at) := ⟨rfl, rfl, rfl, by decide +kernel, rfl, by decide +kernel, by decide +kernel⟩
theorem wk__law_cell_at {P : Program} {w : World} {K : PySem.W.Frag} {mg : Str → Option Value} {base : Heap} (T : Tx K mg)  {f : Addr} {cdv : Value} {A : Around} {outer : List Env} {s : Shared} {H : Hp} {E : XK}
    (hr : Room 0 (A.deeper (envOfC "_law_cell_at" (defScope s__law_cell_at) s.heap.objs.size f cdv))) :
    PSs (cxOf (L2.CX P w) P w K mg base N__law_cell_at "_law_cell_at" (defScope s__law_cell_at) f cdv A outer s H E) (defBody s__law_cell_at) (t__law_cell_at K (fun c d _ H2 => E c d H2)) := by
  have hu1 := hu_of hr
  have hu64 := hr.units
  have tk : Takes (cxOf (L2.CX P w) P w K mg base N__law_cell_at "_law_cell_at" (defScope s__law_cell_at) f cdv A outer s H E) (fun c d _ H2 => E c d H2) := takes_of rfl rfl rfl rfl
  exact (pss_cons (ps_if (pt_cmpR op_ltU (pv 1) (pe_callB cr_lenK (by rfl) T.f_len bb_len (pa_cons (pv 0) pa_nil)) (nomark _)) (pss_one (ps_ret (pe_ix ix_seq (pv 0) (pv 1) (fun _ _ => rfl)))) pss_nil)
    (pss_one (ps_ret (pe_int))))
theorem fn__law_cell_at {P : Program} {w : World} {K : PySem.W.Frag} {mg : Str → Option Value} {base : Heap} (T : Tx K mg) {f : Addr} {fd : FuncData} (F : FunD K d__law_cell_at.name d__law_cell_at.qual d__law_cell_at.params d__law_cell_at.body d__law_cell_at.scope (d__law_cell_at.dvs K) (d__law_cell_at.kws K) f fd) :
    FnOk P w K mg base (L2.CX P w) 1 f fd ["_law_script", "_law_k"] (sp__law_cell_at K) :=
  F.ok sc__law_cell_at (fun vs H Q E h => len__law_cell_at h) (fun cdv A outer s H vs Q E hr h => ⟨t__law_cell_at K (fun c d _ H2 => E c d H2), wk__law_cell_at T  hr, rd__law_cell_at  h⟩)
theorem ok__law_cell_at_2 {P : Program} {w : World} {K : PySem.W.Frag} {mg : Str → Option Value} {base : Heap} (T : Tx K mg) : DOk P w K mg base 1 (He.fAd K ("_law_cell_at", none)) ["_law_script", "_law_k"] [] (sp__law_cell_at K) := by
  obtain ⟨fd, F⟩ := T.d__law_cell_at
  exact ⟨fd, [], .nil, FunD.bindsN F fun _ _ _ _ _ _ us hl => match us, hl with | [_, _], _ => rfl, fn__law_cell_at T F, F.kp⟩
abbrev N__law_signs : List Str := ["_law_script", "_law_first", "_law_size_here", "_law_kinds", "_law_found", "_law_k", "_law_number", "_law_more", "_law_back", "_law_turn"]
theorem sc__law_signs : FnScope N__law_signs ["_law_script", "_law_first", "_law_size_here", "_law_kinds"] (defScope s__law_signs) := ⟨rfl, rfl, rfl, by decide +kernel, rfl, by decide +kernel, by decide +kernel⟩
theorem wk__law_signs {P : Program} {w : World} {K : PySem.W.Frag} {mg : Str → Option Value} {base : Heap} (T : Tx K mg) (O0 : DOk P w K mg base 1 (He.fAd K ("_law_mixed", none)) ["_law_cell", "_law_k"] [] (sp__law_mixed K)) (O1 : DOk P w K mg base 1 (He.fAd K ("_law_cell_at", none)) ["_law_script", "_law_k"] [] (sp__law_cell_at K)) {f : Addr} {cdv : Value} {A : Around} {outer : List Env} {s : Shared} {H : Hp} {E : XK}
    (hr : Room 1 (A.deeper (envOfC "_law_signs" (defScope s__law_signs) s.heap.objs.size f cdv))) :
    PSs (cxOf (L2.CX P w) P w K mg base N__law_signs "_law_signs" (defScope s__law_signs) f cdv A outer s H E) (defBody s__law_signs) (t__law_signs K (fun c d _ H2 => E c d H2)) := by
  obtain ⟨fd0, ds0, v0, b0, G0, q0⟩ := O0
  obtain ⟨fd1, ds1, v1, b1, G1, q1⟩ := O1
  have hu1 := hu_of hr
  have hu64 := hr.units
  have tk : Takes (cxOf (L2.CX P w) P w K mg base N__law_signs "_law_signs" (defScope s__law_signs) f cdv A outer s H E) (fun c d _ H2 => E c d H2) := takes_of rfl rfl rfl rfl
  exact (pss_cons (ps_set (i := 4) sc__law_signs.nd rfl (Or.inl rfl) (pe_lst pa_nil))
    (pss_cons (ps_set (i := 5) sc__law_signs.nd rfl (Or.inl rfl) (pe_int))
    (pss_cons (ps_while (passes_of rfl) (pt_cmpR op_ltU (pe_callB cr_lenK (by rfl) T.f_len bb_len (pa_cons (pv 4) pa_nil)) (pv 2) (nomark _)) (pss_cons (ps_set (i := 6) sc__law_signs.nd rfl (Or.inl rfl) (pe_cl G0 (hr.mono (by decide)) rfl T.g__law_mixed q0 b0 v0 tk (pa_cons (pe_cl G1 (hr.mono (by decide)) rfl T.g__law_cell_at q1 b1 v1 tk (pa_cons (pv 0) (pa_cons (pe_op op_addU (pv 1) (pe_op op_modU (pv 5) (pe_int))) pa_nil))) (pa_cons (pv 5) pa_nil))))
    (pss_cons (ps_if (PW.pt (pw_or (pt_cmpR op_gtU (pe_op op_modU (pv 6) (pe_int)) (pe_int) (nomark _)) (pw_or1 (pt_cmpR (op_eqU hu64) (pv 4) (pe_lst pa_nil) (nomark _))))) (pss_cons (ps_set (i := 7) sc__law_signs.nd rfl (Or.inl rfl) (pe_op op_divU (pv 6) (pe_int)))
    (pss_one (ps_expr (pe_bm PySem.F.plainAttrs_list PySem.F.slot_list_append PySem.F.type_list_append mt_append (pv 4) (pa_cons (pe_ifExp (pt_cmpR (op_eqU hu64) (pv 3) (pe_int) (nomark _)) (pe_op op_modU (pv 7) (pe_int)) (pe_op op_addU (pe_op op_mulU (pe_int) (pe_op op_modU (pv 7) (pv 3))) (pv 3))) pa_nil))))) (pss_cons (ps_set (i := 8) sc__law_signs.nd rfl (Or.inl rfl) (pe_op op_addU (pe_int) (pe_op op_modU (pe_op op_divU (pv 6) (pe_int)) (pe_callB (cr_min2K rfl) (by rfl) T.f_min bb_min (pa_cons (pe_callB cr_lenK (by rfl) T.f_len bb_len (pa_cons (pv 4) pa_nil)) (pa_cons (pe_ix ix_seq (pe_lst (pa_cons (pe_int) (pa_cons (pe_int) (pa_cons (pe_int) pa_nil)))) (pe_op op_modU (pe_op op_divU (pv 6) (pe_int)) (pe_int)) (fun _ _ => rfl)) pa_nil))))))
    (pss_one (ps_for (passes_of rfl) rfl (pi_range1 rfl T.f_range (pa_cons (pe_op op_addU (pe_int) (pe_op op_modU (pe_op op_divU (pv 6) (pe_int)) (pe_ix ix_seq (pe_lst (pa_cons (pe_int) (pa_cons (pe_int) (pa_cons (pe_int) pa_nil)))) (pe_op op_modU (pe_op op_divU (pv 6) (pe_int)) (pe_int)) (fun _ _ => rfl)))) pa_nil)) (pg_name (i := 9) sc__law_signs.nd rfl (Or.inl rfl)) (pss_one (ps_expr (pe_bm PySem.F.plainAttrs_list PySem.F.slot_list_append PySem.F.type_list_append mt_append (pv 4) (pa_cons (pe_ix ix_seq (pv 4) (pe_op op_subU (pe_callB cr_lenK (by rfl) T.f_len bb_len (pa_cons (pv 4) pa_nil)) (pv 8)) (fun _ _ => rfl)) pa_nil))))))))
    (pss_one (ps_aug (i := 5) sc__law_signs.nd rfl (Or.inl rfl) (pe_int) ip_addU)))))
    (pss_one (ps_ret (pe_slice sl_K (pv 4) po_none (po_some (pv 2))))))))
theorem fn__law_signs {P : Program} {w : World} {K : PySem.W.Frag} {mg : Str → Option Value} {base : Heap} (T : Tx K mg) {f : Addr} {fd : FuncData} (F : FunD K d__law_signs.name d__law_signs.qual d__law_signs.params d__law_signs.body d__law_signs.scope (d__law_signs.dvs K) (d__law_signs.kws K) f fd) :
    FnOk P w K mg base (L2.CX P w) 2 f fd ["_law_script", "_law_first", "_law_size_here", "_law_kinds"] (sp__law_signs K) :=
  F.ok sc__law_signs (fun vs H Q E h => len__law_signs h) (fun cdv A outer s H vs Q E hr h => ⟨t__law_signs K (fun c d _ H2 => E c d H2), wk__law_signs T (ok__law_mixed_2 T) (ok__law_cell_at_2 T) hr, rd__law_signs  h⟩)
theorem ok__law_signs_4 {P : Program} {w : World} {K : PySem.W.Frag} {mg : Str → Option Value} {base : Heap} (T : Tx K mg) : DOk P w K mg base 2 (He.fAd K ("_law_signs", none)) ["_law_script", "_law_first", "_law_size_here", "_law_kinds"] [] (sp__law_signs K) := by
  obtain ⟨fd, F⟩ := T.d__law_signs
  exact ⟨fd, [], .nil, FunD.bindsN F fun _ _ _ _ _ _ us hl => match us, hl with | [_, _, _, _], _ => rfl, fn__law_signs T F, F.kp⟩
abbrev N__law_drawn : List Str := ["_law_script", "_law_number", "_law_kinds", "_law_before", "_law_between", "_law_more", "_law_ahead", "_law_size_here", "_law_signs_here", "_law_k"]
theorem sc__law_drawn : FnScope N__law_drawn ["_law_script"] (defScope s__law_drawn) := ⟨rfl, rfl, rfl, by decide +kernel, rfl, by decide +kernel, by decide +kernel⟩
theorem wk__law_drawn {P : Program} {w : World} {K : PySem.W.Frag} {mg : Str → Option Value} {base : Heap} (T : Tx K mg) (O0 : DOk P w K mg base 1 (He.fAd K ("_law_mixed", none)) ["_law_cell", "_law_k"] [] (sp__law_mixed K)) (O1 : DOk P w K mg base 1 (He.fAd K ("_law_cell_at", none)) ["_law_script", "_law_k"] [] (sp__law_cell_at K)) (O2 : DOk P w K mg base 2 (He.fAd K ("_law_signs", none)) ["_law_script", "_law_first", "_law_size_here", "_law_kinds"] [] (sp__law_signs K)) {f : Addr} {cdv : Value} {A : Around} {outer : List Env} {s : Shared} {H : Hp} {E : XK}
    (hr : Room 2 (A.deeper (envOfC "_law_drawn" (defScope s__law_drawn) s.heap.objs.size f cdv))) :
    PSs (cxOf (L2.CX P w) P w K mg base N__law_drawn "_law_drawn" (defScope s__law_drawn) f cdv A outer s H E) (defBody s__law_drawn) (t__law_drawn K (fun c d _ H2 => E c d H2)) := by
  obtain ⟨fd0, ds0, v0, b0, G0, q0⟩ := O0
  obtain ⟨fd1, ds1, v1, b1, G1, q1⟩ := O1
  obtain ⟨fd2, ds2, v2, b2, G2, q2⟩ := O2
  have hu1 := hu_of hr
  have hu64 := hr.units
  have tk : Takes (cxOf (L2.CX P w) P w K mg base N__law_drawn "_law_drawn" (defScope s__law_drawn) f cdv A outer s H E) (fun c d _ H2 => E c d H2) := takes_of rfl rfl rfl rfl
  exact (pss_cons (ps_set (i := 1) sc__law_drawn.nd rfl (Or.inr rfl) (pe_cl G0 (hr.mono (by decide)) rfl T.g__law_mixed q0 b0 v0 tk (pa_cons (pe_cl G1 (hr.mono (by decide)) rfl T.g__law_cell_at q1 b1 v1 tk (pa_cons (pv 0) (pa_cons (pe_int) pa_nil))) (pa_cons (pe_int) pa_nil))))
    (pss_cons (ps_set (i := 2) sc__law_drawn.nd rfl (Or.inl rfl) (pe_ix ix_seq (pe_lst (pa_cons (pe_int) (pa_cons (pe_int) (pa_cons (pe_int) (pa_cons (pe_int) (pa_cons (pe_int) (pa_cons (pe_int) pa_nil))))))) (pe_op op_modU (pv 1) (pe_int)) (fun _ _ => rfl)))
    (Evl.pss_cut (ps_if (PW.pt (pw_and (pt_cmpR (op_eqU hu64) (pe_op op_modU (pe_op op_divU (pv 1) (pe_int)) (pe_int)) (pe_int) (nomark _)) (pw_and1 (pt_cmpR (op_eqU hu64) (pe_op op_modU (pe_op op_divU (pv 1) (pe_int)) (pe_int)) (pe_int) (nomark _))))) (pss_cons (ps_setLc (i := 3) (own := [("_law_k", 9)]) rfl sc__law_drawn.nd rfl rfl (sw_true rfl rfl rfl (by decide +kernel)) (pi_range1 rfl T.f_range (pa_cons (pe_int) pa_nil)) (blkOk_by (own := [("_law_k", 9)]) (N := N__law_drawn) (sc := defScope s__law_drawn) (by decide +kernel)) (fun _ _ _ _ _ => (pg_name (i := 9) sc__law_drawn.nd rfl (Or.inl rfl))) (fun _ _ _ _ _ => pts_nil) (fun _ _ _ _ _ => (pe_op op_modU (pe_op op_addU (pe_op op_mulU (pe_int) (pv 9)) (pv 1)) (pe_int))))
    (pss_cons (ps_set (i := 4) sc__law_drawn.nd rfl (Or.inl rfl) (pe_op op_mulU (pe_lst (pa_cons (pe_op op_modU (pe_op op_addU (pe_op op_mulU (pe_int) (pe_int)) (pv 1)) (pe_int)) pa_nil)) (pe_op op_modU (pe_op op_divU (pv 1) (pe_int)) (pe_int))))
    (pss_one (ps_ret (pe_tup (pa_cons (pv 3) (pa_cons (pe_op op_addU (pv 4) (pe_slice sl_K (pv 3) po_none (po_some (pe_op op_addU (pe_int) (pe_op op_modU (pe_op op_divU (pv 1) (pe_int)) (pe_int)))))) pa_nil))))))) pss_nil)
    (pss_cons (ps_set (i := 5) sc__law_drawn.nd rfl (Or.inl rfl) (pe_op op_divU (pv 1) (pe_int)))
    (pss_cons (ps_set (i := 6) sc__law_drawn.nd rfl (Or.inl rfl) (pe_lst (pa_cons (pe_int) (pa_cons (pe_int) (pa_cons (pe_op op_modU (pv 5) (pe_int)) (pa_cons (pe_op op_modU (pv 5) (pe_int)) (pa_cons (pe_op op_modU (pv 5) (pe_int)) (pa_cons (pe_int) (pa_cons (pe_op op_modU (pv 5) (pe_int)) (pa_cons (pe_op op_addU (pe_int) (pe_op op_modU (pv 5) (pe_int))) pa_nil))))))))))
    (pss_cons (ps_set (i := 6) sc__law_drawn.nd rfl (Or.inl rfl) (pe_ix ix_seq (pv 6) (pe_op op_modU (pe_op op_divU (pv 1) (pe_int)) (pe_int)) (fun _ _ => rfl)))
    (pss_cons (ps_set (i := 7) sc__law_drawn.nd rfl (Or.inl rfl) (pe_op op_modU (pe_op op_divU (pv 5) (pe_int)) (pe_int)))
    (Evl.pss_cut (ps_if (pt_cmpR op_gtU (pv 6) (pe_int) (nomark _)) (pss_one (ps_set (i := 7) sc__law_drawn.nd rfl (Or.inl rfl) (pe_op op_modU (pv 7) (pe_int)))) pss_nil)
    (pss_cons (ps_set (i := 8) sc__law_drawn.nd rfl (Or.inl rfl) (pe_cl G2 (hr.mono (by decide)) rfl T.g__law_signs q2 b2 v2 tk (pa_cons (pv 0) (pa_cons (pe_int) (pa_cons (pe_op op_addU (pv 6) (pv 7)) (pa_cons (pv 2) pa_nil))))))
    (pss_one (ps_ret (pe_tup (pa_cons (pe_slice sl_K (pv 8) po_none (po_some (pv 6))) (pa_cons (pe_slice sl_K (pv 8) (po_some (pv 6)) po_none) pa_nil))))))))))))))
theorem fn__law_drawn {P : Program} {w : World} {K : PySem.W.Frag} {mg : Str → Option Value} {base : Heap} (T : Tx K mg) {f : Addr} {fd : FuncData} (F : FunD K d__law_drawn.name d__law_drawn.qual d__law_drawn.params d__law_drawn.body d__law_drawn.scope (d__law_drawn.dvs K) (d__law_drawn.kws K) f fd) :
    FnOk P w K mg base (L2.CX P w) 3 f fd ["_law_script"] (sp__law_drawn K) :=
  F.ok sc__law_drawn (fun vs H Q E h => len__law_drawn h) (fun cdv A outer s H vs Q E hr h => ⟨t__law_drawn K (fun c d _ H2 => E c d H2), wk__law_drawn T (ok__law_mixed_2 T) (ok__law_cell_at_2 T) (ok__law_signs_4 T) hr, rd__law_drawn  h⟩)
theorem ok__law_drawn_1 {P : Program} {w : World} {K : PySem.W.Frag} {mg : Str → Option Value} {base : Heap} (T : Tx K mg) : DOk P w K mg base 3 (He.fAd K ("_law_drawn", none)) ["_law_script"] [] (sp__law_drawn K) := by
  obtain ⟨fd, F⟩ := T.d__law_drawn
  exact ⟨fd, [], .nil, FunD.bindsN F fun _ _ _ _ _ _ us hl => match us, hl with | [_], _ => rfl, fn__law_drawn T F, F.kp⟩
abbrev N__law_size : List Str := ["_law_signs_here", "_law_place", "_law_back", "_law_most", "_law_size_here", "_law_at"]
theorem sc__law_size : FnScope N__law_size ["_law_signs_here", "_law_place", "_law_back"] (defScope s__law_size) := ⟨rfl, rfl, rfl, by decide +kernel, rfl, by decide +kernel, by decide +kernel⟩
theorem wk__law_size {P : Program} {w : World} {K : PySem.W.Frag} {mg : Str → Option Value} {base : Heap} (T : Tx K mg)  {f : Addr} {cdv : Value} {A : Around} {outer : List Env} {s : Shared} {H : Hp} {E : XK}
    (hr : Room 0 (A.deeper (envOfC "_law_size" (defScope s__law_size) s.heap.objs.size f cdv))) :
    PSs (cxOf (L2.CX P w) P w K mg base N__law_size "_law_size" (defScope s__law_size) f cdv A outer s H E) (defBody s__law_size) (t__law_size K (fun c d _ H2 => E c d H2)) := by
  have hu1 := hu_of hr
  have hu64 := hr.units
  have tk : Takes (cxOf (L2.CX P w) P w K mg base N__law_size "_law_size" (defScope s__law_size) f cdv A outer s H E) (fun c d _ H2 => E c d H2) := takes_of rfl rfl rfl rfl
  exact (pss_cons (ps_set (i := 3) sc__law_size.nd rfl (Or.inl rfl) (pe_callB (cr_min2K rfl) (by rfl) T.f_min bb_min (pa_cons (pe_int) (pa_cons (pe_op op_subU (pe_callB cr_lenK (by rfl) T.f_len bb_len (pa_cons (pv 0) pa_nil)) (pv 1)) pa_nil))))
    (pss_cons (ps_set (i := 4) sc__law_size.nd rfl (Or.inl rfl) (pe_int))
    (pss_cons (ps_while (passes_of rfl) (pt_cmpR op_ltU (pv 4) (pv 3) (nomark _)) (pss_cons (ps_set (i := 5) sc__law_size.nd rfl (Or.inl rfl) (pe_op op_addU (pv 1) (pv 4)))
    (pss_cons (ps_if (pt_cmpR (op_neU hu64) (pe_ix ix_seq (pv 0) (pe_op op_subU (pv 5) (pv 2)) (fun _ _ => rfl)) (pe_ix ix_seq (pv 0) (pv 5) (fun _ _ => rfl)) (nomark _)) (pss_one (ps_break)) pss_nil)
    (pss_one (ps_aug (i := 4) sc__law_size.nd rfl (Or.inl rfl) (pe_int) ip_addU)))))
    (pss_one (ps_ret (pv 4))))))
theorem fn__law_size {P : Program} {w : World} {K : PySem.W.Frag} {mg : Str → Option Value} {base : Heap} (T : Tx K mg) {f : Addr} {fd : FuncData} (F : FunD K d__law_size.name d__law_size.qual d__law_size.params d__law_size.body d__law_size.scope (d__law_size.dvs K) (d__law_size.kws K) f fd) :
    FnOk P w K mg base (L2.CX P w) 1 f fd ["_law_signs_here", "_law_place", "_law_back"] (sp__law_size K) :=
  F.ok sc__law_size (fun vs H Q E h => len__law_size h) (fun cdv A outer s H vs Q E hr h => ⟨t__law_size K (fun c d _ H2 => E c d H2), wk__law_size T  hr, rd__law_size  h⟩)
theorem ok__law_size_3 {P : Program} {w : World} {K : PySem.W.Frag} {mg : Str → Option Value} {base : Heap} (T : Tx K mg) : DOk P w K mg base 1 (He.fAd K ("_law_size", none)) ["_law_signs_here", "_law_place", "_law_back"] [] (sp__law_size K) := by
  obtain ⟨fd, F⟩ := T.d__law_size
  exact ⟨fd, [], .nil, FunD.bindsN F fun _ _ _ _ _ _ us hl => match us, hl with | [_, _, _], _ => rfl, fn__law_size T F, F.kp⟩
abbrev N__law_pieces : List Str := ["_law_before", "_law_text", "_law_signs_here", "_law_found", "_law_place", "_law_best", "_law_back", "_law_size_here"]
theorem sc__law_pieces : FnScope N__law_pieces ["_law_before", "_law_text"] (defScope s__law_pieces) := ⟨rfl, rfl, rfl, by decide +kernel, rfl, by decide +kernel, by decide +kernel⟩
theorem wk__law_pieces {P : Program} {w : World} {K : PySem.W.Frag} {mg : Str → Option Value} {base : Heap} (T : Tx K mg) (O0 : DOk P w K mg base 1 (He.fAd K ("_law_size", none)) ["_law_signs_here", "_law_place", "_law_back"] [] (sp__law_size K)) {f : Addr} {cdv : Value} {A : Around} {outer : List Env} {s : Shared} {H : Hp} {E : XK}
    (hr : Room 1 (A.deeper (envOfC "_law_pieces" (defScope s__law_pieces) s.heap.objs.size f cdv))) :
    PSs (cxOf (L2.CX P w) P w K mg base N__law_pieces "_law_pieces" (defScope s__law_pieces) f cdv A outer s H E) (defBody s__law_pieces) (t__law_pieces K (fun c d _ H2 => E c d H2)) := by
  obtain ⟨fd0, ds0, v0, b0, G0, q0⟩ := O0
  have hu1 := hu_of hr
  have hu64 := hr.units
  have tk : Takes (cxOf (L2.CX P w) P w K mg base N__law_pieces "_law_pieces" (defScope s__law_pieces) f cdv A outer s H E) (fun c d _ H2 => E c d H2) := takes_of rfl rfl rfl rfl
  exact (pss_cons (ps_set (i := 2) sc__law_pieces.nd rfl (Or.inl rfl) (pe_op op_addU (pv 0) (pv 1)))
    (pss_cons (ps_set (i := 3) sc__law_pieces.nd rfl (Or.inl rfl) (pe_lst pa_nil))
    (pss_cons (ps_set (i := 4) sc__law_pieces.nd rfl (Or.inl rfl) (pe_callB cr_lenK (by rfl) T.f_len bb_len (pa_cons (pv 0) pa_nil)))
    (pss_cons (ps_while (passes_of rfl) (pt_cmpR op_ltU (pv 4) (pe_callB cr_lenK (by rfl) T.f_len bb_len (pa_cons (pv 2) pa_nil)) (nomark _)) (pss_cons (ps_set (i := 5) sc__law_pieces.nd rfl (Or.inl rfl) (pe_tup (pa_cons (pe_int) (pa_cons (pe_int) pa_nil))))
    (pss_cons (ps_for (passes_of rfl) rfl (pi_range2 rfl T.f_range (pa_cons (pe_int) (pa_cons (pe_op op_addU (pe_callB (cr_min2K rfl) (by rfl) T.f_min bb_min (pa_cons (pe_int) (pa_cons (pv 4) pa_nil))) (pe_int)) pa_nil))) (pg_name (i := 6) sc__law_pieces.nd rfl (Or.inl rfl)) (pss_one (ps_if (pt_cmpR (op_eqU hu64) (pe_ix ix_seq (pv 2) (pe_op op_subU (pv 4) (pv 6)) (fun _ _ => rfl)) (pe_ix ix_seq (pv 2) (pv 4) (fun _ _ => rfl)) (nomark _)) (pss_cons (ps_set (i := 7) sc__law_pieces.nd rfl (Or.inl rfl) (pe_cl G0 (hr.mono (by decide)) rfl T.g__law_size q0 b0 v0 tk (pa_cons (pv 2) (pa_cons (pv 4) (pa_cons (pv 6) pa_nil)))))
    (pss_one (ps_if (pt_cmpR op_gtU (pv 7) (pe_ix ix_seq (pv 5) (pe_int) (fun _ _ => rfl)) (nomark _)) (pss_one (ps_set (i := 5) sc__law_pieces.nd rfl (Or.inl rfl) (pe_tup (pa_cons (pv 6) (pa_cons (pv 7) pa_nil))))) pss_nil))) pss_nil)))
    (pss_one (ps_if (pt_cmpR op_gtU (pe_ix ix_seq (pv 5) (pe_int) (fun _ _ => rfl)) (pe_int) (nomark _)) (pss_cons (ps_expr (pe_bm PySem.F.plainAttrs_list PySem.F.slot_list_append PySem.F.type_list_append mt_append (pv 3) (pa_cons (pe_tup (pa_cons (pe_str) (pa_cons (pe_ix ix_seq (pv 5) (pe_int) (fun _ _ => rfl)) (pa_cons (pe_ix ix_seq (pv 5) (pe_int) (fun _ _ => rfl)) pa_nil)))) pa_nil)))
    (pss_one (ps_aug (i := 4) sc__law_pieces.nd rfl (Or.inl rfl) (pe_ix ix_seq (pv 5) (pe_int) (fun _ _ => rfl)) ip_addU))) (pss_cons (ps_expr (pe_bm PySem.F.plainAttrs_list PySem.F.slot_list_append PySem.F.type_list_append mt_append (pv 3) (pa_cons (pe_tup (pa_cons (pe_str) (pa_cons (pe_ix ix_seq (pv 2) (pv 4) (fun _ _ => rfl)) pa_nil))) pa_nil)))
    (pss_one (ps_aug (i := 4) sc__law_pieces.nd rfl (Or.inl rfl) (pe_int) ip_addU))))))))
    (pss_one (ps_ret (pv 3)))))))
theorem fn__law_pieces {P : Program} {w : World} {K : PySem.W.Frag} {mg : Str → Option Value} {base : Heap} (T : Tx K mg) {f : Addr} {fd : FuncData} (F : FunD K d__law_pieces.name d__law_pieces.qual d__law_pieces.params d__law_pieces.body d__law_pieces.scope (d__law_pieces.dvs K) (d__law_pieces.kws K) f fd) :
    FnOk P w K mg base (L2.CX P w) 2 f fd ["_law_before", "_law_text"] (sp__law_pieces K) :=
  F.ok sc__law_pieces (fun vs H Q E h => len__law_pieces h) (fun cdv A outer s H vs Q E hr h => ⟨t__law_pieces K (fun c d _ H2 => E c d H2), wk__law_pieces T (ok__law_size_3 T) hr, rd__law_pieces  h⟩)
theorem ok__law_pieces_2 {P : Program} {w : World} {K : PySem.W.Frag} {mg : Str → Option Value} {base : Heap} (T : Tx K mg) : DOk P w K mg base 2 (He.fAd K ("_law_pieces", none)) ["_law_before", "_law_text"] [] (sp__law_pieces K) := by
  obtain ⟨fd, F⟩ := T.d__law_pieces
  exact ⟨fd, [], .nil, FunD.bindsN F fun _ _ _ _ _ _ us hl => match us, hl with | [_, _], _ => rfl, fn__law_pieces T F, F.kp⟩
abbrev N_is_byte : List Str := ["thing"]
theorem sc_is_byte : FnScope N_is_byte ["thing"] (defScope s_is_byte) := ⟨rfl, rfl, rfl, by decide +kernel, rfl, by decide +kernel, by decide +kernel⟩
theorem wk_is_byte {P : Program} {w : World} {K : PySem.W.Frag} {mg : Str → Option Value} {base : Heap} (T : Tx K mg)  {f : Addr} {cdv : Value} {A : Around} {outer : List Env} {s : Shared} {H : Hp} {E : XK}
    (hr : Room 0 (A.deeper (envOfC "is_byte" (defScope s_is_byte) s.heap.objs.size f cdv))) :
    PSs (cxOf (L2.CX P w) P w K mg base N_is_byte "is_byte" (defScope s_is_byte) f cdv A outer s H E) (defBody s_is_byte) (t_is_byte K (fun c d _ H2 => E c d H2)) := by
  have hu1 := hu_of hr
  have hu64 := hr.units
  have tk : Takes (cxOf (L2.CX P w) P w K mg base N_is_byte "is_byte" (defScope s_is_byte) f cdv A outer s H E) (fun c d _ H2 => E c d H2) := takes_of rfl rfl rfl rfl
  exact (pss_one (ps_ret ((pe_and (pe_callB call_isi (by rfl) T.f_isinstance bb_isinstance (pa_cons (pv 0) (pa_cons (pe_bty rfl T.f_int bt_int) pa_nil))) (pe_and (pe_not (pe_callB call_isi (by rfl) T.f_isinstance bb_isinstance (pa_cons (pv 0) (pa_cons (pe_bty rfl T.f_bool bt_bool) pa_nil)))) (pe_one (pe_chain op_leU op_leU (pe_int) (pv 0) (pe_gint rfl T.g_MOST_BYTE))))))))
theorem fn_is_byte {P : Program} {w : World} {K : PySem.W.Frag} {mg : Str → Option Value} {base : Heap} (T : Tx K mg) {f : Addr} {fd : FuncData} (F : FunD K d_is_byte.name d_is_byte.qual d_is_byte.params d_is_byte.body d_is_byte.scope (d_is_byte.dvs K) (d_is_byte.kws K) f fd) :
    FnOk P w K mg base (L2.CX P w) 1 f fd ["thing"] (sp_is_byte K) :=
  F.ok sc_is_byte (fun vs H Q E h => len_is_byte h) (fun cdv A outer s H vs Q E hr h => ⟨t_is_byte K (fun c d _ H2 => E c d H2), wk_is_byte T  hr, rd_is_byte  h⟩)
theorem ok_is_byte_1 {P : Program} {w : World} {K : PySem.W.Frag} {mg : Str → Option Value} {base : Heap} (T : Tx K mg) : DOk P w K mg base 1 (He.fAd K ("is_byte", none)) ["thing"] [] (sp_is_byte K) := by
  obtain ⟨fd, F⟩ := T.d_is_byte
  exact ⟨fd, [], .nil, FunD.bindsN F fun _ _ _ _ _ _ us hl => match us, hl with | [_], _ => rfl, fn_is_byte T F, F.kp⟩
abbrev N_is_row : List Str := ["thing", "number"]
theorem sc_is_row : FnScope N_is_row ["thing"] (defScope s_is_row) := ⟨rfl, rfl, rfl, by decide +kernel, rfl, by decide +kernel, by decide +kernel⟩
theorem wk_is_row {P : Program} {w : World} {K : PySem.W.Frag} {mg : Str → Option Value} {base : Heap} (T : Tx K mg) (O0 : DOk P w K mg base 1 (He.fAd K ("is_byte", none)) ["thing"] [] (sp_is_byte K)) {f : Addr} {cdv : Value} {A : Around} {outer : List Env} {s : Shared} {H : Hp} {E : XK}
    (hr : Room 1 (A.deeper (envOfC "is_row" (defScope s_is_row) s.heap.objs.size f cdv))) :
    PSs (cxOf (L2.CX P w) P w K mg base N_is_row "is_row" (defScope s_is_row) f cdv A outer s H E) (defBody s_is_row) (t_is_row K (fun c d _ H2 => E c d H2)) := by
  obtain ⟨fd0, ds0, v0, b0, G0, q0⟩ := O0
  have hu1 := hu_of hr
  have hu64 := hr.units
  have tk : Takes (cxOf (L2.CX P w) P w K mg base N_is_row "is_row" (defScope s_is_row) f cdv A outer s H E) (fun c d _ H2 => E c d H2) := takes_of rfl rfl rfl rfl
  exact (pss_one (ps_ret ((pe_and (pe_callB call_isi (by rfl) T.f_isinstance bb_isinstance (pa_cons (pv 0) (pa_cons (pe_bty rfl T.f_list bt_list) pa_nil))) (pe_one (pe_callB (cr_all rfl) (by rfl) T.f_all bb_all (pa_cons (pe_lc (own := [("number", 1)]) rfl sc_is_row.nd (pi_list (pv 0)) (blkOk_by (own := [("number", 1)]) (N := N_is_row) (sc := defScope s_is_row) (by decide +kernel)) (fun _ _ _ _ _ => (pg_name (i := 1) sc_is_row.nd rfl (Or.inl rfl))) (fun _ _ _ _ _ => pts_nil) (fun _ _ _ _ _ => (pe_cl G0 (hr.mono (by decide)) rfl T.g_is_byte q0 b0 v0 takes0 (pa_cons (pv 1) pa_nil)))) pa_nil)))))))
theorem fn_is_row {P : Program} {w : World} {K : PySem.W.Frag} {mg : Str → Option Value} {base : Heap} (T : Tx K mg) {f : Addr} {fd : FuncData} (F : FunD K d_is_row.name d_is_row.qual d_is_row.params d_is_row.body d_is_row.scope (d_is_row.dvs K) (d_is_row.kws K) f fd) :
    FnOk P w K mg base (L2.CX P w) 2 f fd ["thing"] (sp_is_row K) :=
  F.ok sc_is_row (fun vs H Q E h => len_is_row h) (fun cdv A outer s H vs Q E hr h => ⟨t_is_row K (fun c d _ H2 => E c d H2), wk_is_row T (ok_is_byte_1 T) hr, rd_is_row  h⟩)
theorem ok_is_row_1 {P : Program} {w : World} {K : PySem.W.Frag} {mg : Str → Option Value} {base : Heap} (T : Tx K mg) : DOk P w K mg base 2 (He.fAd K ("is_row", none)) ["thing"] [] (sp_is_row K) := by
  obtain ⟨fd, F⟩ := T.d_is_row
  exact ⟨fd, [], .nil, FunD.bindsN F fun _ _ _ _ _ _ us hl => match us, hl with | [_], _ => rfl, fn_is_row T F, F.kp⟩
abbrev N_need_row : List Str := ["thing"]
theorem sc_need_row : FnScope N_need_row ["thing"] (defScope s_need_row) := ⟨rfl, rfl, rfl, by decide +kernel, rfl, by decide +kernel, by decide +kernel⟩
theorem wk_need_row {P : Program} {w : World} {K : PySem.W.Frag} {mg : Str → Option Value} {base : Heap} (T : Tx K mg) (O0 : DOk P w K mg base 2 (He.fAd K ("is_row", none)) ["thing"] [] (sp_is_row K)) {f : Addr} {cdv : Value} {A : Around} {outer : List Env} {s : Shared} {H : Hp} {E : XK}
    (hr : Room 2 (A.deeper (envOfC "need_row" (defScope s_need_row) s.heap.objs.size f cdv))) :
    PSs (cxOf (L2.CX P w) P w K mg base N_need_row "need_row" (defScope s_need_row) f cdv A outer s H E) (defBody s_need_row) (t_need_row K (fun c d _ H2 => E c d H2)) := by
  obtain ⟨fd0, ds0, v0, b0, G0, q0⟩ := O0
  have hu1 := hu_of hr
  have hu64 := hr.units
  have tk : Takes (cxOf (L2.CX P w) P w K mg base N_need_row "need_row" (defScope s_need_row) f cdv A outer s H E) (fun c d _ H2 => E c d H2) := takes_of rfl rfl rfl rfl
  exact (pss_cons (ps_if (pt_not (pt_val (pe_cl G0 (hr.mono (by decide)) rfl T.g_is_row q0 b0 v0 tk (pa_cons (pv 0) pa_nil)))) (pss_one (ps_rz rfl tk T.x_BadRow T.g_BadRow rfl)) pss_nil)
    (pss_one (ps_ret (pe_callTy cr_listK (by rfl) T.f_list bt_list (pa_cons (pv 0) pa_nil)))))
theorem fn_need_row {P : Program} {w : World} {K : PySem.W.Frag} {mg : Str → Option Value} {base : Heap} (T : Tx K mg) {f : Addr} {fd : FuncData} (F : FunD K d_need_row.name d_need_row.qual d_need_row.params d_need_row.body d_need_row.scope (d_need_row.dvs K) (d_need_row.kws K) f fd) :
    FnOk P w K mg base (L2.CX P w) 3 f fd ["thing"] (sp_need_row K) :=
  F.ok sc_need_row (fun vs H Q E h => len_need_row h) (fun cdv A outer s H vs Q E hr h => ⟨t_need_row K (fun c d _ H2 => E c d H2), wk_need_row T (ok_is_row_1 T) hr, rd_need_row  h⟩)
theorem ok_need_row_1 {P : Program} {w : World} {K : PySem.W.Frag} {mg : Str → Option Value} {base : Heap} (T : Tx K mg) : DOk P w K mg base 3 (He.fAd K ("need_row", none)) ["thing"] [] (sp_need_row K) := by
  obtain ⟨fd, F⟩ := T.d_need_row
  exact ⟨fd, [], .nil, FunD.bindsN F fun _ _ _ _ _ _ us hl => match us, hl with | [_], _ => rfl, fn_need_row T F, F.kp⟩
abbrev N_need_window : List Str := ["before"]
theorem sc_need_window : FnScope N_need_window ["before"] (defScope s_need_window) := ⟨rfl, rfl, rfl, by decide +kernel, rfl, by decide +kernel, by decide +kernel⟩
theorem wk_need_window {P : Program} {w : World} {K : PySem.W.Frag} {mg : Str → Option Value} {base : Heap} (T : Tx K mg) (O0 : DOk P w K mg base 2 (He.fAd K ("is_row", none)) ["thing"] [] (sp_is_row K)) {f : Addr} {cdv : Value} {A : Around} {outer : List Env} {s : Shared} {H : Hp} {E : XK}
    (hr : Room 2 (A.deeper (envOfC "need_window" (defScope s_need_window) s.heap.objs.size f cdv))) :
    PSs (cxOf (L2.CX P w) P w K mg base N_need_window "need_window" (defScope s_need_window) f cdv A outer s H E) (defBody s_need_window) (t_need_window K (fun c d _ H2 => E c d H2)) := by
  obtain ⟨fd0, ds0, v0, b0, G0, q0⟩ := O0
  have hu1 := hu_of hr
  have hu64 := hr.units
  have tk : Takes (cxOf (L2.CX P w) P w K mg base N_need_window "need_window" (defScope s_need_window) f cdv A outer s H E) (fun c d _ H2 => E c d H2) := takes_of rfl rfl rfl rfl
  exact (pss_cons (ps_if (pt_cmpR op_isU (pv 0) (pe_non) (nomark _)) (pss_one (ps_ret (pe_lst pa_nil))) pss_nil)
    (pss_cons (ps_if (PW.pt (pw_or (pt_not (pt_val (pe_cl G0 (hr.mono (by decide)) rfl T.g_is_row q0 b0 v0 tk (pa_cons (pv 0) pa_nil)))) (pw_or1 (pt_cmpR op_gtU (pe_callB cr_lenK (by rfl) T.f_len bb_len (pa_cons (pv 0) pa_nil)) (pe_gint rfl T.g_MOST_BACK) (nomark _))))) (pss_one (ps_rz rfl tk T.x_BadRow T.g_BadRow rfl)) pss_nil)
    (pss_one (ps_ret (pe_callTy cr_listK (by rfl) T.f_list bt_list (pa_cons (pv 0) pa_nil))))))
theorem fn_need_window {P : Program} {w : World} {K : PySem.W.Frag} {mg : Str → Option Value} {base : Heap} (T : Tx K mg) {f : Addr} {fd : FuncData} (F : FunD K d_need_window.name d_need_window.qual d_need_window.params d_need_window.body d_need_window.scope (d_need_window.dvs K) (d_need_window.kws K) f fd) :
    FnOk P w K mg base (L2.CX P w) 3 f fd ["before"] (sp_need_window K) :=
  F.ok sc_need_window (fun vs H Q E h => len_need_window h) (fun cdv A outer s H vs Q E hr h => ⟨t_need_window K (fun c d _ H2 => E c d H2), wk_need_window T (ok_is_row_1 T) hr, rd_need_window  h⟩)
theorem ok_need_window_1 {P : Program} {w : World} {K : PySem.W.Frag} {mg : Str → Option Value} {base : Heap} (T : Tx K mg) : DOk P w K mg base 3 (He.fAd K ("need_window", none)) ["before"] [] (sp_need_window K) := by
  obtain ⟨fd, F⟩ := T.d_need_window
  exact ⟨fd, [], .nil, FunD.bindsN F fun _ _ _ _ _ _ us hl => match us, hl with | [_], _ => rfl, fn_need_window T F, F.kp⟩
abbrev N_alike_size : List Str := ["signs", "place", "back", "most", "found"]
theorem sc_alike_size : FnScope N_alike_size ["signs", "place", "back", "most"] (defScope s_alike_size) := ⟨rfl, rfl, rfl, by decide +kernel, rfl, by decide +kernel, by decide +kernel⟩
theorem wk_alike_size {P : Program} {w : World} {K : PySem.W.Frag} {mg : Str → Option Value} {base : Heap} (T : Tx K mg)  {f : Addr} {cdv : Value} {A : Around} {outer : List Env} {s : Shared} {H : Hp} {E : XK}
    (hr : Room 0 (A.deeper (envOfC "alike_size" (defScope s_alike_size) s.heap.objs.size f cdv))) :
    PSs (cxOf (L2.CX P w) P w K mg base N_alike_size "alike_size" (defScope s_alike_size) f cdv A outer s H E) (defBody s_alike_size) (t_alike_size K (fun c d _ H2 => E c d H2)) := by
  have hu1 := hu_of hr
  have hu64 := hr.units
  have tk : Takes (cxOf (L2.CX P w) P w K mg base N_alike_size "alike_size" (defScope s_alike_size) f cdv A outer s H E) (fun c d _ H2 => E c d H2) := takes_of rfl rfl rfl rfl
  exact (pss_cons (ps_set (i := 4) sc_alike_size.nd rfl (Or.inl rfl) (pe_int))
    (pss_cons (ps_while (passes_of rfl) (PW.pt (pw_and (pt_cmpR op_ltU (pv 4) (pv 3) (nomark _)) (pw_and1 (pt_cmpR (op_eqU hu64) (pe_ix ix_seq (pv 0) (pe_op op_addU (pv 1) (pv 4)) (fun _ _ => rfl)) (pe_ix ix_seq (pv 0) (pe_op op_subU (pe_op op_addU (pv 1) (pv 4)) (pv 2)) (fun _ _ => rfl)) (nomark _))))) (pss_one (ps_aug (i := 4) sc_alike_size.nd rfl (Or.inl rfl) (pe_int) ip_addU)))
    (pss_one (ps_ret (pv 4)))))
theorem fn_alike_size {P : Program} {w : World} {K : PySem.W.Frag} {mg : Str → Option Value} {base : Heap} (T : Tx K mg) {f : Addr} {fd : FuncData} (F : FunD K d_alike_size.name d_alike_size.qual d_alike_size.params d_alike_size.body d_alike_size.scope (d_alike_size.dvs K) (d_alike_size.kws K) f fd) :
    FnOk P w K mg base (L2.CX P w) 1 f fd ["signs", "place", "back", "most"] (sp_alike_size K) :=
  F.ok sc_alike_size (fun vs H Q E h => len_alike_size h) (fun cdv A outer s H vs Q E hr h => ⟨t_alike_size K (fun c d _ H2 => E c d H2), wk_alike_size T  hr, rd_alike_size  h⟩)
theorem ok_alike_size_4 {P : Program} {w : World} {K : PySem.W.Frag} {mg : Str → Option Value} {base : Heap} (T : Tx K mg) : DOk P w K mg base 1 (He.fAd K ("alike_size", none)) ["signs", "place", "back", "most"] [] (sp_alike_size K) := by
  obtain ⟨fd, F⟩ := T.d_alike_size
  exact ⟨fd, [], .nil, FunD.bindsN F fun _ _ _ _ _ _ us hl => match us, hl with | [_, _, _, _], _ => rfl, fn_alike_size T F, F.kp⟩
abbrev N_longest_copy : List Str := ["signs", "place", "most", "found", "back", "size"]
theorem sc_longest_copy : FnScope N_longest_copy ["signs", "place"] (defScope s_longest_copy) := ⟨rfl, rfl, rfl, by decide +kernel, rfl, by decide +kernel, by decide +kernel⟩
theorem wk_longest_copy {P : Program} {w : World} {K : PySem.W.Frag} {mg : Str → Option Value} {base : Heap} (T : Tx K mg) (O0 : DOk P w K mg base 1 (He.fAd K ("alike_size", none)) ["signs", "place", "back", "most"] [] (sp_alike_size K)) {f : Addr} {cdv : Value} {A : Around} {outer : List Env} {s : Shared} {H : Hp} {E : XK}
    (hr : Room 1 (A.deeper (envOfC "longest_copy" (defScope s_longest_copy) s.heap.objs.size f cdv))) :
    PSs (cxOf (L2.CX P w) P w K mg base N_longest_copy "longest_copy" (defScope s_longest_copy) f cdv A outer s H E) (defBody s_longest_copy) (t_longest_copy K (fun c d _ H2 => E c d H2)) := by
  obtain ⟨fd0, ds0, v0, b0, G0, q0⟩ := O0
  have hu1 := hu_of hr
  have hu64 := hr.units
  have tk : Takes (cxOf (L2.CX P w) P w K mg base N_longest_copy "longest_copy" (defScope s_longest_copy) f cdv A outer s H E) (fun c d _ H2 => E c d H2) := takes_of rfl rfl rfl rfl
  exact (pss_cons (ps_set (i := 2) sc_longest_copy.nd rfl (Or.inl rfl) (pe_callB (cr_min2K rfl) (by rfl) T.f_min bb_min (pa_cons (pe_gint rfl T.g_MOST_SIZE) (pa_cons (pe_op op_subU (pe_callB cr_lenK (by rfl) T.f_len bb_len (pa_cons (pv 0) pa_nil)) (pv 1)) pa_nil))))
    (pss_cons (ps_set (i := 3) sc_longest_copy.nd rfl (Or.inl rfl) (pe_tup (pa_cons (pe_int) (pa_cons (pe_int) pa_nil))))
    (pss_cons (ps_for (passes_of rfl) rfl (pi_range2 rfl T.f_range (pa_cons (pe_int) (pa_cons (pe_op op_addU (pe_callB (cr_min2K rfl) (by rfl) T.f_min bb_min (pa_cons (pe_gint rfl T.g_MOST_BACK) (pa_cons (pv 1) pa_nil))) (pe_int)) pa_nil))) (pg_name (i := 4) sc_longest_copy.nd rfl (Or.inl rfl)) (pss_cons (ps_if (pt_cmpR (op_neU hu64) (pe_ix ix_seq (pv 0) (pv 1) (fun _ _ => rfl)) (pe_ix ix_seq (pv 0) (pe_op op_subU (pv 1) (pv 4)) (fun _ _ => rfl)) (nomark _)) (pss_one (ps_continue)) pss_nil)
    (pss_cons (ps_set (i := 5) sc_longest_copy.nd rfl (Or.inl rfl) (pe_cl G0 (hr.mono (by decide)) rfl T.g_alike_size q0 b0 v0 tk (pa_cons (pv 0) (pa_cons (pv 1) (pa_cons (pv 4) (pa_cons (pv 2) pa_nil))))))
    (pss_cons (ps_if (pt_cmpR op_gtU (pv 5) (pe_ix ix_seq (pv 3) (pe_int) (fun _ _ => rfl)) (nomark _)) (pss_one (ps_set (i := 3) sc_longest_copy.nd rfl (Or.inl rfl) (pe_tup (pa_cons (pv 4) (pa_cons (pv 5) pa_nil))))) pss_nil)
    (pss_one (ps_if (pt_cmpR (op_eqU hu64) (pv 5) (pv 2) (nomark _)) (pss_one (ps_break)) pss_nil))))))
    (pss_one (ps_ret (pv 3))))))
theorem fn_longest_copy {P : Program} {w : World} {K : PySem.W.Frag} {mg : Str → Option Value} {base : Heap} (T : Tx K mg) {f : Addr} {fd : FuncData} (F : FunD K d_longest_copy.name d_longest_copy.qual d_longest_copy.params d_longest_copy.body d_longest_copy.scope (d_longest_copy.dvs K) (d_longest_copy.kws K) f fd) :
    FnOk P w K mg base (L2.CX P w) 2 f fd ["signs", "place"] (sp_longest_copy K) :=
  F.ok sc_longest_copy (fun vs H Q E h => len_longest_copy h) (fun cdv A outer s H vs Q E hr h => ⟨t_longest_copy K (fun c d _ H2 => E c d H2), wk_longest_copy T (ok_alike_size_4 T) hr, rd_longest_copy  h⟩)
theorem ok_longest_copy_2 {P : Program} {w : World} {K : PySem.W.Frag} {mg : Str → Option Value} {base : Heap} (T : Tx K mg) : DOk P w K mg base 2 (He.fAd K ("longest_copy", none)) ["signs", "place"] [] (sp_longest_copy K) := by
  obtain ⟨fd, F⟩ := T.d_longest_copy
  exact ⟨fd, [], .nil, FunD.bindsN F fun _ _ _ _ _ _ us hl => match us, hl with | [_, _], _ => rfl, fn_longest_copy T F, F.kp⟩
abbrev N_pieces_of : List Str := ["text", "before", "row", "signs", "place", "found", "back", "size"]
theorem sc_pieces_of : FnScope N_pieces_of ["text", "before"] (defScope s_pieces_of) := ⟨rfl, rfl, rfl, by decide +kernel, rfl, by decide +kernel, by decide +kernel⟩
theorem wk_pieces_of {P : Program} {w : World} {K : PySem.W.Frag} {mg : Str → Option Value} {base : Heap} (T : Tx K mg) (O0 : DOk P w K mg base 3 (He.fAd K ("need_row", none)) ["thing"] [] (sp_need_row K)) (O1 : DOk P w K mg base 3 (He.fAd K ("need_window", none)) ["before"] [] (sp_need_window K)) (O2 : DOk P w K mg base 2 (He.fAd K ("longest_copy", none)) ["signs", "place"] [] (sp_longest_copy K)) {f : Addr} {cdv : Value} {A : Around} {outer : List Env} {s : Shared} {H : Hp} {E : XK}
    (hr : Room 3 (A.deeper (envOfC "pieces_of" (defScope s_pieces_of) s.heap.objs.size f cdv))) :
    PSs (cxOf (L2.CX P w) P w K mg base N_pieces_of "pieces_of" (defScope s_pieces_of) f cdv A outer s H E) (defBody s_pieces_of) (t_pieces_of K (fun c d _ H2 => E c d H2)) := by
  obtain ⟨fd0, ds0, v0, b0, G0, q0⟩ := O0
  obtain ⟨fd1, ds1, v1, b1, G1, q1⟩ := O1
  obtain ⟨fd2, ds2, v2, b2, G2, q2⟩ := O2
  have hu1 := hu_of hr
  have hu64 := hr.units
  have tk : Takes (cxOf (L2.CX P w) P w K mg base N_pieces_of "pieces_of" (defScope s_pieces_of) f cdv A outer s H E) (fun c d _ H2 => E c d H2) := takes_of rfl rfl rfl rfl
  exact (pss_cons (ps_set (i := 2) sc_pieces_of.nd rfl (Or.inl rfl) (pe_cl G0 (hr.mono (by decide)) rfl T.g_need_row q0 b0 v0 tk (pa_cons (pv 0) pa_nil)))
    (pss_cons (ps_set (i := 3) sc_pieces_of.nd rfl (Or.inl rfl) (pe_cl G1 (hr.mono (by decide)) rfl T.g_need_window q1 b1 v1 tk (pa_cons (pv 1) pa_nil)))
    (pss_cons (ps_set (i := 4) sc_pieces_of.nd rfl (Or.inl rfl) (pe_callB cr_lenK (by rfl) T.f_len bb_len (pa_cons (pv 3) pa_nil)))
    (pss_cons (ps_aug (i := 3) sc_pieces_of.nd rfl (Or.inl rfl) (pv 2) ip_addU)
    (pss_cons (ps_set (i := 5) sc_pieces_of.nd rfl (Or.inl rfl) (pe_lst pa_nil))
    (pss_cons (ps_while (passes_of rfl) (pt_cmpR op_ltU (pv 4) (pe_callB cr_lenK (by rfl) T.f_len bb_len (pa_cons (pv 3) pa_nil)) (nomark _)) (pss_cons (ps_asg (pe_cl G2 (hr.mono (by decide)) rfl T.g_longest_copy q2 b2 v2 tk (pa_cons (pv 3) (pa_cons (pv 4) pa_nil))) (pg_tup rfl (pgs_cons (pg_name (i := 6) sc_pieces_of.nd rfl (Or.inl rfl)) (pgs_cons (pg_name (i := 7) sc_pieces_of.nd rfl (Or.inl rfl)) pgs_nil))))
    (pss_one (ps_if (pt_cmpR op_geU (pv 7) (pe_gint rfl T.g_LEAST_SIZE) (nomark _)) (pss_cons (ps_expr (pe_bm PySem.F.plainAttrs_list PySem.F.slot_list_append PySem.F.type_list_append mt_append (pv 5) (pa_cons (pe_tup (pa_cons (pe_str) (pa_cons (pv 6) (pa_cons (pv 7) pa_nil)))) pa_nil)))
    (pss_one (ps_aug (i := 4) sc_pieces_of.nd rfl (Or.inl rfl) (pv 7) ip_addU))) (pss_cons (ps_expr (pe_bm PySem.F.plainAttrs_list PySem.F.slot_list_append PySem.F.type_list_append mt_append (pv 5) (pa_cons (pe_tup (pa_cons (pe_str) (pa_cons (pe_ix ix_seq (pv 3) (pv 4) (fun _ _ => rfl)) pa_nil))) pa_nil)))
    (pss_one (ps_aug (i := 4) sc_pieces_of.nd rfl (Or.inl rfl) (pe_int) ip_addU)))))))
    (pss_one (ps_ret (pv 5)))))))))
theorem fn_pieces_of {P : Program} {w : World} {K : PySem.W.Frag} {mg : Str → Option Value} {base : Heap} (T : Tx K mg) {f : Addr} {fd : FuncData} (F : FunD K d_pieces_of.name d_pieces_of.qual d_pieces_of.params d_pieces_of.body d_pieces_of.scope (d_pieces_of.dvs K) (d_pieces_of.kws K) f fd) :
    FnOk P w K mg base (L2.CX P w) 4 f fd ["text", "before"] (sp_pieces_of K) :=
  F.ok sc_pieces_of (fun vs H Q E h => len_pieces_of h) (fun cdv A outer s H vs Q E hr h => ⟨t_pieces_of K (fun c d _ H2 => E c d H2), wk_pieces_of T (ok_need_row_1 T) (ok_need_window_1 T) (ok_longest_copy_2 T) hr, rd_pieces_of  h⟩)
theorem ok_pieces_of_1 {P : Program} {w : World} {K : PySem.W.Frag} {mg : Str → Option Value} {base : Heap} (T : Tx K mg) : DOk P w K mg base 4 (He.fAd K ("pieces_of", none)) ["text", "before"] [.non] (sp_pieces_of K) := by
  obtain ⟨fd, F⟩ := T.d_pieces_of
  obtain ⟨ds, v, b⟩ := FunD.binds1 (ps := ["text", "before"]) F 1 0 (by intro z; cases z) (by rfl) fun T kV doc pm an cdv ct us its hl hi => match us, hl, its, hi with | [_], _, [_], _ => ⟨_, rfl, rfl⟩
  exact ⟨fd, ds, v, b, fn_pieces_of T F, F.kp⟩
theorem ok_pieces_of_2 {P : Program} {w : World} {K : PySem.W.Frag} {mg : Str → Option Value} {base : Heap} (T : Tx K mg) : DOk P w K mg base 4 (He.fAd K ("pieces_of", none)) ["text", "before"] [] (sp_pieces_of K) := by
  obtain ⟨fd, F⟩ := T.d_pieces_of
  obtain ⟨ds, v, b⟩ := FunD.binds1 (ps := ["text", "before"]) F 2 1 (by intro z; cases z) (by rfl) fun T kV doc pm an cdv ct us its hl hi => match us, hl, its, hi with | [_, _], _, [_], _ => ⟨_, rfl, rfl⟩
  exact ⟨fd, ds, v, b, fn_pieces_of T F, F.kp⟩
abbrev N__law_same : List Str := ["_law_found", "_law_due", "_law_one", "_law_other", "_law_part"]
theorem sc__law_same : FnScope N__law_same ["_law_found", "_law_due"] (defScope s__law_same) := ⟨rfl, rfl, rfl, by decide +kernel, rfl, by decide +kernel, by decide +kernel⟩
theorem wk__law_same {P : Program} {w : World} {K : PySem.W.Frag} {mg : Str → Option Value} {base : Heap} (T : Tx K mg)  {f : Addr} {cdv : Value} {A : Around} {outer : List Env} {s : Shared} {H : Hp} {E : XK}
    (hr : Room 0 (A.deeper (envOfC "_law_same" (defScope s__law_same) s.heap.objs.size f cdv))) :
    PSs (cxOf (L2.CX P w) P w K mg base N__law_same "_law_same" (defScope s__law_same) f cdv A outer s H E) (defBody s__law_same) (t__law_same K (fun c d _ H2 => E c d H2)) := by
  have hu1 := hu_of hr
  have hu64 := hr.units
  have tk : Takes (cxOf (L2.CX P w) P w K mg base N__law_same "_law_same" (defScope s__law_same) f cdv A outer s H E) (fun c d _ H2 => E c d H2) := takes_of rfl rfl rfl rfl
  exact (pss_cons (ps_if (PW.pt (pw_or (pt_not (pt_val (pe_callB call_isi (by rfl) T.f_isinstance bb_isinstance (pa_cons (pv 0) (pa_cons (pe_bty rfl T.f_list bt_list) pa_nil))))) (pw_or1 (pt_cmpR (op_neU hu64) (pe_callB cr_lenK (by rfl) T.f_len bb_len (pa_cons (pv 0) pa_nil)) (pe_callB cr_lenK (by rfl) T.f_len bb_len (pa_cons (pv 1) pa_nil)) (nomark _))))) (pss_one (ps_ret (pe_bl))) pss_nil)
    (pss_cons (ps_for (passes_of rfl) rfl (pi_zip (by rfl) T.f_zip (pa_cons (pv 0) (pa_cons (pv 1) pa_nil))) (pg_tup rfl (pgs_cons (pg_name (i := 2) sc__law_same.nd rfl (Or.inl rfl)) (pgs_cons (pg_name (i := 3) sc__law_same.nd rfl (Or.inl rfl)) pgs_nil))) (pss_cons (ps_if (PW.pt (pw_or (pt_not (pt_val (pe_callB call_isi (by rfl) T.f_isinstance bb_isinstance (pa_cons (pv 2) (pa_cons (pe_bty rfl T.f_tuple bt_tuple) pa_nil))))) (pw_or (pt_cmpR (op_neU hu64) (pv 2) (pv 3) (nomark _)) (pw_or1 (pt_not (pt_val (pe_callB call_isi (by rfl) T.f_isinstance bb_isinstance (pa_cons (pe_ix ix_seq (pv 2) (pe_int) (fun _ _ => rfl)) (pa_cons (pe_bty rfl T.f_str bt_str) pa_nil))))))))) (pss_one (ps_ret (pe_bl))) pss_nil)
    (pss_one (ps_for (passes_of rfl) rfl (pi_tup (pe_slice sl_K (pv 2) (po_some (pe_int)) po_none)) (pg_name (i := 4) sc__law_same.nd rfl (Or.inl rfl)) (pss_one (ps_if (PW.pt (pw_or (pt_not (pt_val (pe_callB call_isi (by rfl) T.f_isinstance bb_isinstance (pa_cons (pv 4) (pa_cons (pe_bty rfl T.f_int bt_int) pa_nil))))) (pw_or1 (pt_val (pe_callB call_isi (by rfl) T.f_isinstance bb_isinstance (pa_cons (pv 4) (pa_cons (pe_bty rfl T.f_bool bt_bool) pa_nil))))))) (pss_one (ps_ret (pe_bl))) pss_nil))))))
    (pss_one (ps_ret (pe_bl)))))
theorem fn__law_same {P : Program} {w : World} {K : PySem.W.Frag} {mg : Str → Option Value} {base : Heap} (T : Tx K mg) {f : Addr} {fd : FuncData} (F : FunD K d__law_same.name d__law_same.qual d__law_same.params d__law_same.body d__law_same.scope (d__law_same.dvs K) (d__law_same.kws K) f fd) :
    FnOk P w K mg base (L2.CX P w) 1 f fd ["_law_found", "_law_due"] (sp__law_same K) :=
  F.ok sc__law_same (fun vs H Q E h => len__law_same h) (fun cdv A outer s H vs Q E hr h => ⟨t__law_same K (fun c d _ H2 => E c d H2), wk__law_same T  hr, rd__law_same  h⟩)
theorem ok__law_same_2 {P : Program} {w : World} {K : PySem.W.Frag} {mg : Str → Option Value} {base : Heap} (T : Tx K mg) : DOk P w K mg base 1 (He.fAd K ("_law_same", none)) ["_law_found", "_law_due"] [] (sp__law_same K) := by
  obtain ⟨fd, F⟩ := T.d__law_same
  exact ⟨fd, [], .nil, FunD.bindsN F fun _ _ _ _ _ _ us hl => match us, hl with | [_, _], _ => rfl, fn__law_same T F, F.kp⟩
abbrev N_law : List Str := ["_law_script", "_law_before", "_law_text", "_law_due", "_law_handed", "_law_found", "_law_lone", "_law_told", "_law_one"]
theorem sc_law : FnScope N_law ["_law_script"] (defScope s_law) := ⟨rfl, rfl, rfl, by decide +kernel, rfl, by decide +kernel, by decide +kernel⟩
theorem wk_law {P : Program} {w : World} {K : PySem.W.Frag} {mg : Str → Option Value} {base : Heap} (T : Tx K mg) (O0 : DOk P w K mg base 3 (He.fAd K ("_law_drawn", none)) ["_law_script"] [] (sp__law_drawn K)) (O1 : DOk P w K mg base 2 (He.fAd K ("_law_pieces", none)) ["_law_before", "_law_text"] [] (sp__law_pieces K)) (O2 : DOk P w K mg base 4 (He.fAd K ("pieces_of", none)) ["text", "before"] [] (sp_pieces_of K)) (O3 : DOk P w K mg base 1 (He.fAd K ("_law_same", none)) ["_law_found", "_law_due"] [] (sp__law_same K)) (O4 : DOk P w K mg base 4 (He.fAd K ("pieces_of", none)) ["text", "before"] [.non] (sp_pieces_of K)) {f : Addr} {cdv : Value} {A : Around} {outer : List Env} {s : Shared} {H : Hp} {E : XK}
    (hr : Room 4 (A.deeper (envOfC "law" (defScope s_law) s.heap.objs.size f cdv))) :
    PSs (cxOf (L2.CX P w) P w K mg base N_law "law" (defScope s_law) f cdv A outer s H E) (defBody s_law) (t_law K (fun c d _ H2 => E c d H2)) := by
  obtain ⟨fd0, ds0, v0, b0, G0, q0⟩ := O0
  obtain ⟨fd1, ds1, v1, b1, G1, q1⟩ := O1
  obtain ⟨fd2, ds2, v2, b2, G2, q2⟩ := O2
  obtain ⟨fd3, ds3, v3, b3, G3, q3⟩ := O3
  obtain ⟨fd4, ds4, v4, b4, G4, q4⟩ := O4
  have hu1 := hu_of hr
  have hu64 := hr.units
  have tk : Takes (cxOf (L2.CX P w) P w K mg base N_law "law" (defScope s_law) f cdv A outer s H E) (fun c d _ H2 => E c d H2) := takes_of rfl rfl rfl rfl
  exact (pss_cons (ps_asg (pe_cl G0 (hr.mono (by decide)) rfl T.g__law_drawn q0 b0 v0 tk (pa_cons (pv 0) pa_nil)) (pg_tup rfl (pgs_cons (pg_name (i := 1) sc_law.nd rfl (Or.inl rfl)) (pgs_cons (pg_name (i := 2) sc_law.nd rfl (Or.inl rfl)) pgs_nil))))
    (pss_cons (ps_set (i := 3) sc_law.nd rfl (Or.inl rfl) (pe_cl G1 (hr.mono (by decide)) rfl T.g__law_pieces q1 b1 v1 tk (pa_cons (pv 1) (pa_cons (pv 2) pa_nil))))
    (pss_cons (ps_set (i := 4) sc_law.nd rfl (Or.inl rfl) (pe_lst (pa_cons (pe_callTy cr_listK (by rfl) T.f_list bt_list (pa_cons (pv 2) pa_nil)) (pa_cons (pe_callTy cr_listK (by rfl) T.f_list bt_list (pa_cons (pv 1) pa_nil)) pa_nil))))
    (pss_cons (ps_set (i := 5) sc_law.nd rfl (Or.inl rfl) (pe_cl G2 (hr.mono (by decide)) rfl T.g_pieces_of q2 b2 v2 tk (pa_cons (pe_ix ix_seq (pv 4) (pe_int) (fun _ _ => rfl)) (pa_cons (pe_ix ix_seq (pv 4) (pe_int) (fun _ _ => rfl)) pa_nil))))
    (pss_cons (ps_if (PW.pt (pw_or (pt_cmpR (op_neU hu64) (pv 4) (pe_lst (pa_cons (pv 2) (pa_cons (pv 1) pa_nil))) (nomark _)) (pw_or1 (pt_not (pt_val (pe_cl G3 (hr.mono (by decide)) rfl T.g__law_same q3 b3 v3 tk (pa_cons (pv 5) (pa_cons (pv 3) pa_nil)))))))) (pss_one (ps_ret (pe_bl))) pss_nil)
    (pss_cons (ps_expr (pe_bm0 PySem.F.plainAttrs_list PySem.F.slot_list_reverse PySem.F.type_list_reverse mt_reverse (pe_ix ix_seq (pv 4) (pe_int) (fun _ _ => rfl))))
    (pss_cons (ps_expr (pe_bm0 PySem.F.plainAttrs_list PySem.F.slot_list_clear PySem.F.type_list_clear mt_clear (pe_ix ix_seq (pv 4) (pe_int) (fun _ _ => rfl))))
    (pss_cons (ps_if (pt_not (pt_val (pe_cl G3 (hr.mono (by decide)) rfl T.g__law_same q3 b3 v3 tk (pa_cons (pe_cl G2 (hr.mono (by decide)) rfl T.g_pieces_of q2 b2 v2 tk (pa_cons (pe_ix ix_seq (pv 4) (pe_int) (fun _ _ => rfl)) (pa_cons (pv 1) pa_nil))) (pa_cons (pe_cl G1 (hr.mono (by decide)) rfl T.g__law_pieces q1 b1 v1 tk (pa_cons (pv 1) (pa_cons (pe_revL (pv 2)) pa_nil))) pa_nil))))) (pss_one (ps_ret (pe_bl))) pss_nil)
    (pss_cons (ps_set (i := 6) sc_law.nd rfl (Or.inr rfl) (pe_cl G1 (hr.mono (by decide)) rfl T.g__law_pieces q1 b1 v1 tk (pa_cons (pe_lst pa_nil) (pa_cons (pv 2) pa_nil))))
    (pss_cons (ps_set (i := 7) sc_law.nd rfl (Or.inl rfl) (pe_lst (pa_cons (pe_cl G4 (hr.mono (by decide)) rfl T.g_pieces_of q4 b4 v4 tk (pa_cons (pv 2) pa_nil)) (pa_cons (pe_cl G2 (hr.mono (by decide)) rfl T.g_pieces_of q2 b2 v2 tk (pa_cons (pv 2) (pa_cons (pe_non) pa_nil))) pa_nil))))
    (pss_cons (ps_aug (i := 7) sc_law.nd rfl (Or.inl rfl) (pe_lst (pa_cons (pe_cl G2 (hr.mono (by decide)) rfl T.g_pieces_of q2 b2 v2 tk (pa_cons (pv 2) (pa_cons (pe_lst pa_nil) pa_nil))) (pa_cons (pe_cl G2 (hr.mono (by decide)) rfl T.g_pieces_of q2 b2 v2 tk (pa_cons (pv 2) (pa_cons (pe_ix ix_seq (pv 4) (pe_int) (fun _ _ => rfl)) pa_nil))) pa_nil))) ip_addU)
    (pss_cons (ps_if (pt_cmpR (op_neU hu64) (pe_lc (own := [("_law_one", 8)]) rfl sc_law.nd (pi_list (pv 7)) (blkOk_by (own := [("_law_one", 8)]) (N := N_law) (sc := defScope s_law) (by decide +kernel)) (fun _ _ _ _ _ => (pg_name (i := 8) sc_law.nd rfl (Or.inl rfl))) (fun _ _ _ _ _ => pts_one (pt_not (pt_val (pe_cl G3 (hr.mono (by decide)) rfl T.g__law_same q3 b3 v3 takes0 (pa_cons (pv 8) (pa_cons (pv 6) pa_nil)))))) (fun _ _ _ _ _ => (pv 8))) (pe_lst pa_nil) (nomark _)) (pss_one (ps_ret (pe_bl))) pss_nil)
    (pss_cons (ps_if (pt_not (pt_val (pe_cl G3 (hr.mono (by decide)) rfl T.g__law_same q3 b3 v3 tk (pa_cons (pe_cl G2 (hr.mono (by decide)) rfl T.g_pieces_of q2 b2 v2 tk (pa_cons (pe_callTy cr_listK (by rfl) T.f_list bt_list (pa_cons (pv 2) pa_nil)) (pa_cons (pe_callTy cr_listK (by rfl) T.f_list bt_list (pa_cons (pv 1) pa_nil)) pa_nil))) (pa_cons (pv 3) pa_nil))))) (pss_one (ps_ret (pe_bl))) pss_nil)
    (pss_cons (ps_expr (pe_bm0 PySem.F.plainAttrs_list PySem.F.slot_list_clear PySem.F.type_list_clear mt_clear (pe_ix ix_seq (pv 7) (pe_int) (fun _ _ => rfl))))
    (pss_one (ps_ret ((pe_and (pe_cl G3 (hr.mono (by decide)) rfl T.g__law_same q3 b3 v3 tk (pa_cons (pv 5) (pa_cons (pv 3) pa_nil))) (pe_one (pe_cmpR (op_eqU hu64) (pe_lc (own := [("_law_one", 8)]) rfl sc_law.nd (pi_list (pe_slice sl_K (pv 7) (po_some (pe_int)) po_none)) (blkOk_by (own := [("_law_one", 8)]) (N := N_law) (sc := defScope s_law) (by decide +kernel)) (fun _ _ _ _ _ => (pg_name (i := 8) sc_law.nd rfl (Or.inl rfl))) (fun _ _ _ _ _ => pts_one (pt_cmpR (op_neU hu64) (pv 8) (pv 6) (nomark _))) (fun _ _ _ _ _ => (pv 8))) (pe_lst pa_nil) (nomark _)))))))))))))))))))))
theorem fn_law {P : Program} {w : World} {K : PySem.W.Frag} {mg : Str → Option Value} {base : Heap} (T : Tx K mg) {f : Addr} {fd : FuncData} (F : FunD K d_law.name d_law.qual d_law.params d_law.body d_law.scope (d_law.dvs K) (d_law.kws K) f fd) :
    FnOk P w K mg base (L2.CX P w) 5 f fd ["_law_script"] (sp_law K) :=
  F.ok sc_law (fun vs H Q E h => len_law h) (fun cdv A outer s H vs Q E hr h => ⟨t_law K (fun c d _ H2 => E c d H2), wk_law T (ok__law_drawn_1 T) (ok__law_pieces_2 T) (ok_pieces_of_2 T) (ok__law_same_2 T) (ok_pieces_of_1 T) hr, rd_law  h⟩)
end L2.BW
namespace L2.BW
open PySem PySem.Spec PyProof.Rows
theorem calmly {P : Program} {w : World} {K : PySem.W.Frag} {mg : Str → Option Value} {base : Heap} {k : Nat} {f : Addr} {fd : FuncData} {ps : List Str} {sp : Sp}
    (hE : ∀ vs H Q E, sp vs H Q E → sp vs H Q fun _ _ _ => False) (F : FnOk P w K mg base (L2.CX P w) k f fd ps sp) : FnOk P w K mg base CX0 k f fd ps sp :=
  ⟨F.len, fun A outer s H args us vs Q E hr he hb hv hs => codeAny_mono (F.run A outer s H args us vs Q _ hr he hb hv (hE _ _ _ _ hs)) fun r s' z => by
    match r, z with
    | .error e, z =>
      obtain ⟨_, _, _, _, _, _, _, _, _, _, _, _, z⟩ := z
      exact z.elim
    | .ok (.ret u), z => exact z⟩
end L2.BW
open PySem PySem.W PySem.Calls PyProof.Rows
theorem PySem.Challenge.cw_balepress_k14_pieces_holds : PySem.Challenge.rw_balepress_k14_pieces.Holds := by
  w_on; o_law
  refine HandSHeadRun.head_any (r := OpenLaw.row PySem.Challenge.rw_balepress_k14_pieces) (q := view (OpenLaw.row PySem.Challenge.rw_balepress_k14_pieces).prog [24]) (H := L2.BH.hk) (ob := L2.BH.ob) (M := 40000) (loose := L2.BH.loose) (d := HandSHeadRun.topDef (OpenLaw.row PySem.Challenge.rw_balepress_k14_pieces).prog 24) (kwd := [])
    L2.BH.ob_eq (by kernel_rfl) (fun s => by kernel_rfl) L2.BH.run (by kernel_rfl) (by kernel_rfl) (by kernel_rfl) (by rfl) (by first | assumption | decide +kernel) (by decide +kernel)
    ⟨rfl, rfl, rfl, rfl, rfl, by decide +kernel⟩ ?hw ?hc
  case hw => w_witness2
  case hc =>
    refine L2.walk_ofE (l := PySem.Challenge.rw_balepress_k14_pieces) (n := 63) (k := 5) (x := "_law_script") (CX := L2.CX0) rfl (by decide) (by kernel_rfl) ⟨rfl, by decide, by decide⟩ ?F (fun _ _ _ _ z => z)
    intro w mg fa h Y G hmg0
    obtain ⟨K, KX, c⟩ := Y
    have hmg : mg ("law" : PySem.Str) = some (.ref fa) := by
      have e : (HandSHeadRun.topDef (OpenLaw.row PySem.Challenge.rw_balepress_k14_pieces).prog 24).name = ("law" : PySem.Str) := by kernel_rfl
      exact e ▸ hmg0
    have T := L2.BW.tx_of KX G c
    obtain ⟨fd, F⟩ := T.d_law
    have e := hmg.symm.trans T.g_law
    cases e
    have b := L2.FunD.bindsA (ps := ["_law_script"]) F fun _ _ _ _ _ _ us hl => match us, hl with | [_], _ => rfl
    exact ⟨K, fd, L2.BR.sp_law K, KX, fun s v => b s [v] rfl, fun H a ns hl _ hS => ⟨a, ns, rfl, hS, hl, fun _ => rfl⟩, fun base _ _ => L2.BW.calmly (fun _ _ _ _ h => h) (L2.BW.fn_law T F)⟩
