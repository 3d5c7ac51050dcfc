import PyProof.Rows.All
import Wide.All
import OpenK.AllK
import Wide.FinOn
import HandS.ForMost
import HandS.ForExc
import HandS.Defaults
import HandS.CallSlots
import HandS.IsInst
import HandS.Style
import HandS.Small
import HandS.Conv
import HandS.TryElse
import HandS.HeadHook2
import HandS.Evl
import HandS.Flow
import HandS.Zip
import HandS.Text
import KE.KStateDown
import Lean
import HandS.HeadEnd
import HandS.Head0
import HandS.Head1
import HandS.Head2
import HandS.HeadHook1
import PySem.Challenge.RW_balepress_k11_tables_told_and_taken
set_option Elab.async false
set_option linter.all false
set_option maxRecDepth 100000
set_option maxHeartbeats 0
/-! BLib: rules that take several kinds of values at once, calls that may let an error out at the caller's slots, and a picture of the heap as a list of own objects over a base. -/
namespace L2.BP
open PySem PySem.Spec PyProof.Rows
section
variable {X : Cx}
/-! ### operators, by kinds -/
def rAddStr : R2 := fun x y H Q => ∃ i j, x = .str i ∧ y = .str j ∧ i.length + j.length ≤ sizeLine ∧ Q (.str (i ++ j)) H
def rAddI : R2 := rI0 fun i j => .int (i + j)
def rAddU : R2 := fun x y H Q => rAddI x y H Q ∨ rAddStr x y H Q ∨ rCat x y H Q
theorem op_addU : OpR X (binaryOp .Add) rAddU := OpR.or op_add (OpR.or op_add_str op_cat)
def rSubU : R2 := rI0 fun i j => .int (i - j)
theorem op_subU : OpR X (binaryOp .Sub) rSubU := op_sub
def rMulI : R2 := rI CMul fun i j => .int (i * j)
def rMulU : R2 := fun x y H Q => rMulI x y H Q ∨ rRep x y H Q
theorem op_mulU : OpR X (binaryOp .Mult) rMulU := OpR.or op_mul op_rep
def rDivU : R2 := rI CDiv fun i j => .int (i / j)
theorem op_divU : OpR X (binaryOp .FloorDiv) rDivU := op_fdiv
def rModU : R2 := rI (fun _ j => 0 < j) fun i j => .int (i % j)
theorem op_modU : OpR X (binaryOp .Mod) rModU := op_mod
def rPowU : R2 := rI CPow fun i j => .int (i ^ j.toNat)
theorem op_powU : OpR X (binaryOp .Pow) rPowU := op_pow
def rShlU : R2 := rI CPow fun i j => .int (i * 2 ^ j.toNat)
theorem op_shlU : OpR X (binaryOp .LShift) rShlU := op_shl
def rShrU : R2 := rI (fun _ j => 0 ≤ j) fun i j => .int (i / 2 ^ j.toNat)
theorem op_shrU : OpR X (binaryOp .RShift) rShrU := op_shr
def rAndU : R2 := rI0 fun i j => .int (Builtin.bitAnd i j)
theorem op_andU : OpR X (binaryOp .BitAnd) rAndU := op_and
def rOrU : R2 := rI0 fun i j => .int (Builtin.bitOr i j)
theorem op_orU : OpR X (binaryOp .BitOr) rOrU := op_or
def rXorU : R2 := rI0 fun i j => .int (Builtin.bitXor i j)
theorem op_xorU : OpR X (binaryOp .BitXor) rXorU := op_xor
def rNegU : V → Hp → VK → Prop := rU fun i => .int (-i)
theorem un_negU : UnR X (unaryOp .USub) rNegU := un_neg
def rLtU : R2 := rI0 fun i j => .bl (decide (i < j))
theorem op_ltU : OpR X (compareOp .Lt) rLtU := op_lt
def rLeU : R2 := rI0 fun i j => .bl (decide (i ≤ j))
theorem op_leU : OpR X (compareOp .LtE) rLeU := op_le
def rGtU : R2 := rI0 fun i j => .bl (decide (j < i))
theorem op_gtU : OpR X (compareOp .Gt) rGtU := op_gt
def rGeU : R2 := rI0 fun i j => .bl (decide (j ≤ i))
theorem op_geU : OpR X (compareOp .GtE) rGeU := op_ge
def rEqU (K : PySem.W.Frag) : R2 := fun x y H Q => rEq x y H Q ∨ rEqD K x y H Q
theorem op_eqU (hu : X.A.units + 64 < cLine) : OpR X (compareOp .Eq) (rEqU X.K) := OpR.or op_eq (op_eqD hu)
def rNeU (K : PySem.W.Frag) : R2 := fun x y H Q => rNe x y H Q ∨ rNeD K x y H Q
theorem op_neU (hu : X.A.units + 64 < cLine) : OpR X (compareOp .NotEq) (rNeU X.K) := OpR.or op_ne (op_neD hu)
def rInStr : R2 := fun x y H Q => ∃ i j, x = .str i ∧ y = .str j ∧ Q (.bl (!(Builtin.Str.occurrences j i 0 j.length 1).isEmpty)) H
def rNiStr : R2 := fun x y H Q => ∃ i j, x = .str i ∧ y = .str j ∧ Q (.bl (!(!(Builtin.Str.occurrences j i 0 j.length 1).isEmpty))) H
def rInU (K : PySem.W.Frag) : R2 := fun x y H Q => rIn K false x y H Q ∨ rInStr x y H Q
theorem op_inU : OpR X (compareOp .In) (rInU X.K) := OpR.or op_in_seq op_in_str
def rNiU (K : PySem.W.Frag) : R2 := fun x y H Q => rIn K true x y H Q ∨ rNiStr x y H Q
theorem op_niU : OpR X (compareOp .NotIn) (rNiU X.K) := OpR.or op_notIn_seq op_notIn_str
def rIsNo : R2 := fun x y H Q => y = .non ∧ Q (.bl (decide (x = .non))) H
def rNotNo : R2 := fun x y H Q => y = .non ∧ Q (.bl (!decide (x = .non))) H
def rIsU : R2 := fun x y H Q => rIsNo x y H Q ∨ rIsB x y H Q
theorem op_isU : OpR X (compareOp .Is) rIsU := OpR.or op_isN op_isBl
def rNotU : R2 := fun x y H Q => rNotNo x y H Q ∨ rNotB x y H Q
theorem op_notU : OpR X (compareOp .IsNot) rNotU := OpR.or op_notN op_notBl
/-! ### in place -/
def ipAddI : TIp := ipI fun i j => i + j
def ipAddU : TIp := fun x y H Q => ipAddI x y H Q ∨ rExt2 x y H Q ∨ rAddStr x y H Q
theorem ip_addU : PIp X .Add ipAddU := fun pins s σ H x y v u Q I rx ry h => by
  rcases h with h | h | h
  · exact ip_add pins s σ H x y v u Q I rx ry h
  · exact iop_ext pins s σ H x y v u Q I rx ry h
  · exact iop_add_str pins s σ H x y v u Q I rx ry h
def ipSubU : TIp := ipI fun i j => i - j
theorem ip_subU : PIp X .Sub ipSubU := ip_sub
/-! ### slices, walks -/

end
end L2.BP
namespace L2.BP
open PySem PySem.Spec PyProof.Rows
/-! ### calls that may let an error out, wished for at the caller's slots -/
section
variable {X : Cx} {k : Nat} {f C : Addr} {fd : FuncData} {ps : List Str} {sp : Sp} {dvs : List V} {ds : List Value} {W : WX} {x m : Str} {p pos apos : Pos} {e o : Expr} {es : List Expr} {ta : TE} {t : TA}
/-- f(e, ..) -/
def tCl (sp : Sp) (dvs : List V) (W : WX) (t : TA) : TE := fun σ H Q => t σ H fun vs H1 => sp (vs ++ dvs) H1 Q fun c d H2 => W c d σ H2
theorem pe_cl (F : FnOk X.prog X.w X.K X.mg X.base (L2.CX X.prog X.w) k f fd ps sp) (hr : Room k X.A) (hg : Gl X x) (hm : X.mg x = some (.ref f)) (hk : PySem.W.keepIn X.K (.ref f) = true)
    (hb : Binds X.K fd ps ds) (hd : Vals dvs ds) (tk : Takes X W) (ha : PA X (e :: es) t) (hdb : (x == ("__debug__" : Str)) = false := by decide)
    (he : starEach (e :: es) X.env = (false, eval e X.env) :: starEach es X.env := by rfl) (hpl : (backTo pos (starEach es X.env)).any (·.1) = false := by rfl) :
    PE X (.Call (.Name x p) (e :: es) [] pos) (tCl sp dvs W t) :=
  pe_callSD (E := WE W) F hr hg hm hk hb hd (fun σ => passAt tk σ) ha hdb he hpl
theorem pe_cl0 (F : FnOk X.prog X.w X.K X.mg X.base (L2.CX X.prog X.w) k f fd ps sp) (hr : Room k X.A) (hg : Gl X x) (hm : X.mg x = some (.ref f)) (hk : PySem.W.keepIn X.K (.ref f) = true)
    (hb : Binds X.K fd ps ds) (hd : Vals dvs ds) (tk : Takes X W) (hdb : (x == ("__debug__" : Str)) = false := by decide) :
    PE X (.Call (.Name x p) [] [] pos) (tCl sp dvs W tNil) := by
  constructor
  intro pins s σ H Q I h
  have go := run_fnSD (E := WE W) (us := []) F hr hb hd (passAt tk σ) I .nil h
  exact wpAny_Call_Name_kw (ld_glob I hg hm (PySem.W.callWith_K0 I.kIn hk go) hdb)
/-- o.m(e, ..) -/
def tMt (C : Addr) (m : Str) (sp : Sp) (dvs : List V) (W : WX) (ta : TE) (t : TA) : TE := fun σ H Q => ta σ H fun x H1 => ∃ a dx fs, x = .ref a ∧ H1 a = some (.ins C dx fs) ∧ fs.lookup m = none ∧
  t σ H1 fun vs H2 => sp (x :: (vs ++ dvs)) H2 Q fun c d H3 => W c d σ H3
theorem pe_mt' {pl : Sem Bool} (he : PE X o ta) (c : Cls X.K C) (hm : Meth X.K C m f) (F : FnOk X.prog X.w X.K X.mg X.base (L2.CX X.prog X.w) k f fd ps sp) (hr : Room k X.A)
    (hb : Binds X.K fd ps ds) (hd : Vals dvs ds) (tk : Takes X W) (ha : PA X (e :: es) t)
    (hst : starEach (e :: es) X.env = (false, eval e X.env) :: starEach es X.env := by rfl) (hpl : (backTo pos (starEach es X.env)).any (·.1) = false := by rfl)
    (ht : eval (.Call (.Attribute o m apos) (e :: es) [] pos) X.env = (do
      let ov ← eval o X.env; standAt apos.atName
      let (f, first) ← holding [ov] (getMethod ov m pl); callWith pos f first (backTo pos (starEach (e :: es) X.env)) (backToKw pos (keywordEach [] X.env))) := by rfl) :
    PE X (.Call (.Attribute o m apos) (e :: es) [] pos) (tMt C m sp dvs W ta t) := by
  constructor
  intro pins s σ H Q I h
  refine PySem.W.methodCall_KW (pl := pl) (thn (he.run pins s σ H _ I h) ?_) ht
  rintro u s1 ⟨x, H1, I1, rx, a, dx, fs, rfl, ea, l, q⟩
  cases (show u = Value.ref a from rx)
  refine getmeth_ok I1 ea c hm l (PySem.W.callWith_K (first := [.ref a]) (h₀ := X.base) I.ok.mod.kin hm.kp ?_ hst hpl)
  refine thn (ha.run pos pins s1 σ H1 _ I1 q) ?_
  rintro us s2 ⟨vs, H2, I2, r, q2⟩
  exact ⟨I2.kIn, run_fnSD (E := WE W) (us := .ref a :: us) (vs := .ref a :: vs) F hr hb hd (passAt tk σ) I2 (.cons rfl r) q2⟩
theorem pe_mt0' {pl : Sem Bool} (he : PE X o ta) (c : Cls X.K C) (hm : Meth X.K C m f) (F : FnOk X.prog X.w X.K X.mg X.base (L2.CX X.prog X.w) k f fd ps sp) (hr : Room k X.A)
    (hb : Binds X.K fd ps ds) (hd : Vals dvs ds) (tk : Takes X W)
    (ht : eval (.Call (.Attribute o m apos) [] [] pos) X.env = (do
      let ov ← eval o X.env; standAt apos.atName
      let (f, first) ← holding [ov] (getMethod ov m pl); callWith pos f first (backTo pos (starEach [] X.env)) (backToKw pos (keywordEach [] X.env))) := by rfl) :
    PE X (.Call (.Attribute o m apos) [] [] pos) (tMt C m sp dvs W ta tNil) := by
  constructor
  intro pins s σ H Q I h
  refine PySem.W.methodCall_KW (pl := pl) (thn (he.run pins s σ H _ I h) ?_) ht
  rintro u s1 ⟨x, H1, I1, rx, a, dx, fs, rfl, ea, l, q⟩
  cases (show u = Value.ref a from rx)
  refine getmeth_ok I1 ea c hm l ?_
  have go := run_fnSD (E := WE W) (us := [.ref a]) (vs := [.ref a]) F hr hb hd (passAt tk σ) I1 (.cons rfl .nil) q
  exact PySem.W.callWith_K0 (first := [.ref a]) I1.kIn hm.kp go
/-- C(e, ..) -/
def tMk (C : Addr) (sp : Sp) (dvs : List V) (W : WX) (t : TA) : TE := fun σ H Q => t σ H fun vs H1 => ∀ x dx, H1 x = none → H1 dx = none → dx ≠ x →
  sp (.ref x :: (vs ++ dvs)) (upd (upd H1 dx (.own x)) x (.ins C dx [])) (fun v H2 => v = .non ∧ Q (.ref x) H2) fun c d H2 => W c d σ H2
theorem run_mk {pins : List (Addr × Obj)} {σ : St} {H : Hp} {s : Shared} {Q : VK} {us : List Value} {vs : List V} (M : Mk X.K C f) (F : FnOk X.prog X.w X.K X.mg X.base (L2.CX X.prog X.w) k f fd ps sp) (hr : Room (k + 1) X.A)
    (hb : Binds X.K fd ps ds) (hd : Vals dvs ds) (tk : Takes X W) (I : Inv X pins σ H s) (r : Vals vs us)
    (h : ∀ x dx, H x = none → H dx = none → dx ≠ x → sp (.ref x :: (vs ++ dvs)) (upd (upd H dx (.own x)) x (.ins C dx [])) (fun v H2 => v = .non ∧ Q (.ref x) H2) fun c d H2 => W c d σ H2) :
    wpAny (model X.prog X.w) X.A (call (.ref C) us) (EP X pins σ Q) X.xe s := by
  have hq := h (s.heap.objs.size + 1) s.heap.objs.size (I.hok.fresh (Nat.le_succ _)) (I.hok.fresh (Nat.le_refl _)) (Nat.ne_of_lt (Nat.lt_succ_self _))
  have J := Inv.made (C := C) I
  have rr : Vals (V.ref (s.heap.objs.size + 1) :: (vs ++ dvs)) (Value.ref (s.heap.objs.size + 1) :: (us ++ ds)) := .cons rfl (r.append hd)
  have hl : (Value.ref (s.heap.objs.size + 1) :: us ++ ds).length = ps.length := by
    have e1 := rr.length
    rw [F.len _ _ _ _ hq] at e1
    exact e1.symm
  have run := F.run _ X.stack _ _ ⟨Value.ref (s.heap.objs.size + 1) :: us, []⟩ (Value.ref (s.heap.objs.size + 1) :: (us ++ ds)) _ _ _ (hr.make C us []) (J.env0.make C us []) (hb _ (Value.ref (s.heap.objs.size + 1) :: us) J.kIn hl) rr hq
  refine wpAny_call (make_map (f := f) I.kIn M.makes M.init (beq_iff_eq.mp M.fn) (codeAny_mono run ?_))
  intro r s' z
  match r, z with
  | .error e, z => exact (passAt tk σ) pins _ _ e s' J z
  | .ok (.ret u), z =>
    obtain ⟨v, H', J3, rv, ev, q3⟩ := J.after z
    subst ev
    exact ⟨rv, ⟨V.ref (s.heap.objs.size + 1), H', J3, rfl, q3⟩⟩
theorem pe_mk' (M : Mk X.K C f) (F : FnOk X.prog X.w X.K X.mg X.base (L2.CX X.prog X.w) k f fd ps sp) (hr : Room (k + 1) X.A) (hg : Gl X x) (hm : X.mg x = some (.ref C))
    (hb : Binds X.K fd ps ds) (hd : Vals dvs ds) (tk : Takes X W) (ha : PA X (e :: es) t) (hdb : (x == ("__debug__" : Str)) = false := by decide)
    (he : starEach (e :: es) X.env = (false, eval e X.env) :: starEach es X.env := by rfl) (hpl : (backTo pos (starEach es X.env)).any (·.1) = false := by rfl) :
    PE X (.Call (.Name x p) (e :: es) [] pos) (tMk C sp dvs W t) := by
  constructor
  intro pins s σ H Q I h
  refine wpAny_Call_Name_kw (ld_glob I hg hm (PySem.W.callWith_K (h₀ := X.base) I.ok.mod.kin M.kp ?_ he hpl) hdb)
  refine thn (ha.run pos pins s σ H _ I h) ?_
  rintro us s1 ⟨vs, H1, I1, r, q⟩
  exact ⟨I1.kIn, run_mk M F hr hb hd tk I1 r q⟩
theorem pe_mk0' (M : Mk X.K C f) (F : FnOk X.prog X.w X.K X.mg X.base (L2.CX X.prog X.w) k f fd ps sp) (hr : Room (k + 1) X.A) (hg : Gl X x) (hm : X.mg x = some (.ref C))
    (hb : Binds X.K fd ps ds) (hd : Vals dvs ds) (tk : Takes X W) (hdb : (x == ("__debug__" : Str)) = false := by decide) :
    PE X (.Call (.Name x p) [] [] pos) (tMk C sp dvs W tNil) := by
  constructor
  intro pins s σ H Q I h
  have go := run_mk (us := []) M F hr hb hd tk I .nil h
  exact wpAny_Call_Name_kw (ld_glob I hg hm (PySem.W.callWith_K0 I.kIn M.kp go) hdb)
end
/-! ### an error raised -/
def tRz (C : Addr) (W : WX) : TS := fun _ σ H => W (.ref C) none σ H
theorem ps_rz {X : Cx} {W : WX} {C : Addr} {x m : Str} {j : Nat} {p p2 pos pos2 : Pos} (hc : X.calm = true) (tk : Takes X W) (q : PySem.W.excIn X.K C He.veBase "ValueError.__new__" = true ∧ PySem.W.keepIn X.K (.ref C) = true ∧ PySem.W.subIn X.K (.ref C) (.type "BaseException") = some true ∧ PySem.W.typeIn X.K (.ref C) = some (.type "type"))
    (gC : X.mg x = some (.ref C)) (hg : Gl X x) (hdb : (x == ("__debug__" : Str)) = false := by decide) :
    PS X (.Raise (some (.Call (.Name x p) [.Constant (.str m) j p2] [] pos)) none pos2) (tRz C W) :=
  ps_raise hc tk (pmk_own PySem.F.excBase_ValueError q.1 gC q.2.1 (raises_own q.2.2.1 q.2.2.2) hg hdb)
/-! ### names of the module -/
section
variable {X : Cx} {x : Str} {pos : Pos}
theorem pe_gint {i : Int} (hg : Gl X x) (hm : ∃ t, X.mg x = some (.int i t)) (hd : (x == ("__debug__" : Str)) = false := by decide) : PE X (.Name x pos) (tC (.int i)) :=
  hm.elim fun t h => pe_glob (v := .int i) hg h ⟨t, rfl⟩ hd
theorem pe_gstr {z : Str} (hg : Gl X x) (hm : ∃ t, X.mg x = some (.str z t)) (hd : (x == ("__debug__" : Str)) = false := by decide) : PE X (.Name x pos) (tC (.str z)) :=
  hm.elim fun t h => pe_glob (v := .str z) hg h ⟨t, rfl⟩ hd
theorem pe_gref {a : Addr} (hg : Gl X x) (hm : X.mg x = some (.ref a)) (hd : (x == ("__debug__" : Str)) = false := by decide) : PE X (.Name x pos) (tC (.ref a)) := pe_glob (v := .ref a) hg hm rfl hd
theorem pe_bty {n : String} (hg : Gl X x) (hm : X.mg x = none) (hv : bootBuiltins x = some (.type n)) (hn : x ≠ "__name__" := by decide) (hd : (x == ("__debug__" : Str)) = false := by decide) : PE X (.Name x pos) (tC (.ty n)) := pe_bltn (v := .ty n) hg hm hv rfl hn hd
end
theorem bt_int : bootBuiltins "int" = some (.type "int") := by decide +kernel
theorem bt_bool : bootBuiltins "bool" = some (.type "bool") := by decide +kernel
theorem bt_str : bootBuiltins "str" = some (.type "str") := by decide +kernel
theorem bt_list : bootBuiltins "list" = some (.type "list") := by decide +kernel
theorem bt_tuple : bootBuiltins "tuple" = some (.type "tuple") := by decide +kernel
theorem bt_dict : bootBuiltins "dict" = some (.type "dict") := by decide +kernel
theorem bt_ValueError : bootBuiltins "ValueError" = some (.type "ValueError") := by decide +kernel
theorem bt_set : bootBuiltins "set" = some (.type "set") := by decide +kernel
theorem bb_len : bootBuiltins "len" = some (.builtin "len") := by decide +kernel
theorem bb_isinstance : bootBuiltins "isinstance" = some (.builtin "isinstance") := by decide +kernel
theorem bb_all : bootBuiltins "all" = some (.builtin "all") := by decide +kernel
theorem bb_any : bootBuiltins "any" = some (.builtin "any") := by decide +kernel
theorem bb_sum : bootBuiltins "sum" = some (.builtin "sum") := by decide +kernel
theorem bb_min : bootBuiltins "min" = some (.builtin "min") := by decide +kernel
theorem bb_max : bootBuiltins "max" = some (.builtin "max") := by decide +kernel
theorem bb_abs : bootBuiltins "abs" = some (.builtin "abs") := by decide +kernel
theorem bb_divmod : bootBuiltins "divmod" = some (.builtin "divmod") := by decide +kernel
theorem bb_sorted : bootBuiltins "sorted" = some (.builtin "sorted") := by decide +kernel
theorem bb_repr : bootBuiltins "repr" = some (.builtin "repr") := by decide +kernel
/-! ### calls of built-ins by several kinds -/
section
variable {X : Cx}
def rLenK (K : PySem.W.Frag) : List V → Hp → VK → Prop := fun xs H Q => ∃ x n, xs = [x] ∧ LenV K x H n ∧ Q (.int n) H
theorem cr_lenK : CallR X (.builtin "len") (rLenK X.K) := call_len
def rIntK : List V → Hp → VK → Prop := fun xs H Q => (∃ i, xs = [.int i] ∧ Q (.int i) H) ∨ ∃ k, xs = [.bl k] ∧ Q (.int (if k then 1 else 0)) H
theorem cr_intK : CallR X (.type "int") rIntK := call_int1
def rListK (K : PySem.W.Frag) : List V → Hp → VK → Prop := fun xs H Q => ∃ p ys, xs = [.ref p] ∧ (SqL K H p ys ∨ SqT K H p ys) ∧ ∀ l, H l = none → Q (.ref l) (upd H l (.lst ys))
theorem cr_listK : CallR X (.type "list") (rListK X.K) := call_list_of
def rTupleK (K : PySem.W.Frag) : List V → Hp → VK → Prop := fun xs H Q => ∃ p ys, xs = [.ref p] ∧ ((SqL K H p ys ∧ ∀ l, H l = none → Q (.ref l) (upd H l (.tup ys))) ∨ (SqT K H p ys ∧ Q (.ref p) H))
theorem cr_tupleK : CallR X (.type "tuple") (rTupleK X.K) := call_tuple_of
def rDivmodK : List V → Hp → VK → Prop := fun xs H Q => ∃ i j, xs = [.int i, .int j] ∧ CDiv i j ∧ ∀ p, H p = none → Q (.ref p) (upd H p (.tup [.int (i / j), .int (i % j)]))
theorem cr_divmodK : CallR X (.builtin "divmod") rDivmodK := call_divmod
def rMax2K : List V → Hp → VK → Prop := fun xs H Q => ∃ i j, xs = [.int i, .int j] ∧ Q (.int (if j > i then j else i)) H
theorem cr_max2K (hc : X.calm = true) : CallR X (.builtin "max") rMax2K := call_max2 hc
def rMin2K : List V → Hp → VK → Prop := fun xs H Q => ∃ i j, xs = [.int i, .int j] ∧ Q (.int (if j < i then j else i)) H
theorem cr_min2K (hc : X.calm = true) : CallR X (.builtin "min") rMin2K := call_min2 hc
def rAbsK : List V → Hp → VK → Prop := fun xs H Q => ∃ i, xs = [.int i] ∧ Q (.int (if i < 0 then -i else i)) H
theorem cr_absK : CallR X (.builtin "abs") rAbsK := call_abs
def rSlK (K : PySem.W.Frag) : V → Option Int → Option Int → Hp → VK → Prop := fun x lo hi H Q => rSlL K x lo hi H Q ∨ rSlS x lo hi H Q ∨ rSlT K x lo hi H Q
theorem sl_K : SlR X (rSlK X.K) := SlR.or sl_list (SlR.or sl_str sl_tup)
end
end L2.BP
namespace L2.BP
open PySem PySem.Spec PyProof.Rows
/-! ### the heap as own objects over a base -/
structure Hs (B : Hp) (L : List (Addr × HO)) (H : Hp) : Prop where
  ex : Same B H
  nd : (L.map (·.1)).Nodup
  own : ∀ q ∈ L, H q.1 = some q.2 ∧ B q.1 = none
section
variable {B H H' : Hp} {L : List (Addr × HO)} {p : Addr} {o o' : HO} {K : PySem.W.Frag}
theorem Hs.start (H : Hp) : Hs H [] H := ⟨Same.refl H, .nil, fun _ h => nomatch h⟩
theorem Hs.same (h : Hs B L H) (s : Same H H') : Hs B L H' := ⟨h.ex.trans s, h.nd, fun q m => ⟨s _ _ (h.own q m).1, (h.own q m).2⟩⟩
theorem Hs.newS (h : Hs B L H) (hp : H p = none) (s : Same H H') (hn : H' p = some o) : Hs B ((p, o) :: L) H' where
  ex := h.ex.trans s
  nd := by
    refine List.nodup_cons.mpr ⟨fun m => ?_, h.nd⟩
    obtain ⟨q, mq, e⟩ := List.mem_map.mp m
    have z := (h.own q mq).1
    rw [e, hp] at z
    cases z
  own := fun q m => by
    rcases List.mem_cons.mp m with rfl | m
    · exact ⟨hn, h.ex.free hp⟩
    · exact ⟨s _ _ (h.own q m).1, (h.own q m).2⟩
theorem same_upd (hp : H p = none) : Same H (upd H p o) := fun b u e => by rw [upd_ne (ne_of_none e hp)]; exact e
theorem Hs.new (h : Hs B L H) (hp : H p = none) : Hs B ((p, o) :: L) (upd H p o) := h.newS hp (same_upd hp) upd_same
theorem Hs.drop {q : Addr × HO} (h : Hs B (q :: L) H) : Hs B L H := ⟨h.ex, (List.nodup_cons.mp h.nd).2, fun z m => h.own z (List.mem_cons_of_mem _ m)⟩
theorem Hs.get (h : Hs B L H) (m : (p, o) ∈ L) : H p = some o := (h.own _ m).1
theorem Hs.nb (h : Hs B L H) (m : (p, o) ∈ L) : B p = none := (h.own _ m).2
/-- the first of the own objects changed -/
theorem Hs.chg (h : Hs B ((p, o) :: L) H) (k : ∀ b u, b ≠ p → H b = some u → H' b = some u) (hn : H' p = some o') : Hs B ((p, o') :: L) H' where
  ex := fun b u e => k b u (ne_of_none e (h.nb (o := o) (.head _))) (h.ex b u e)
  nd := h.nd
  own := fun q m => by
    rcases List.mem_cons.mp m with rfl | m
    · exact ⟨hn, h.nb (o := o) (.head _)⟩
    · refine ⟨k _ _ (fun z => ?_) (h.own q (.tail _ m)).1, (h.own q (.tail _ m)).2⟩
      exact (List.nodup_cons.mp h.nd).1 (List.mem_map.mpr ⟨q, m, z⟩)
theorem Hs.perm {L' : List (Addr × HO)} (h : Hs B L H) (q : L.Perm L') : Hs B L' H := ⟨h.ex, (q.map _).nodup_iff.mp h.nd, fun z m => h.own z (q.mem_iff.mpr m)⟩
theorem Hs.swap {a b : Addr × HO} (h : Hs B (a :: b :: L) H) : Hs B (b :: a :: L) H := h.perm (.swap b a L)
theorem Hs.rot3 {a b c : Addr × HO} (h : Hs B (a :: b :: c :: L) H) : Hs B (c :: a :: b :: L) H := h.perm ((List.Perm.cons a (.swap c b L)).trans (.swap c a (b :: L)))
theorem Hs.unrot3 {a b c : Addr × HO} (h : Hs B (c :: a :: b :: L) H) : Hs B (a :: b :: c :: L) H := h.perm (((List.Perm.cons a (.swap c b L)).trans (.swap c a (b :: L))).symm)
theorem Hs.u0 (h : Hs B ((p, o) :: L) H) : Hs B ((p, o') :: L) (upd H p o') := h.chg (fun b u n e => by rw [upd_ne n]; exact e) upd_same
theorem Hs.u1 {a : Addr × HO} (h : Hs B (a :: (p, o) :: L) H) : Hs B (a :: (p, o') :: L) (upd H p o') := h.swap.u0.swap
theorem Hs.u2 {a b : Addr × HO} (h : Hs B (a :: b :: (p, o) :: L) H) : Hs B (a :: b :: (p, o') :: L) (upd H p o') := h.rot3.u0.unrot3
theorem Hs.u3 {a b c : Addr × HO} (h : Hs B (a :: b :: c :: (p, o) :: L) H) : Hs B (a :: b :: c :: (p, o') :: L) (upd H p o') := by
  have e : (a :: b :: c :: (p, o) :: L).Perm ((p, o) :: a :: b :: c :: L) := (List.perm_middle (l₁ := [a, b, c]) (a := (p, o)) (l₂ := L))
  have e' : ((p, o') :: a :: b :: c :: L).Perm (a :: b :: c :: (p, o') :: L) := (List.perm_middle (l₁ := [a, b, c]) (a := (p, o')) (l₂ := L)).symm
  exact ((h.perm e).u0 (o' := o')).perm e'
/-- the first one is laid to the base: it changes no more -/
theorem Hs.fix (h : Hs B ((p, o) :: L) H) : Hs (upd B p o) L H where
  ex := fun b u e => by
    by_cases hb : b = p
    · subst hb
      rw [upd_same] at e
      cases e
      exact h.get (.head _)
    · rw [upd_ne hb] at e
      exact h.ex b u e
  nd := (List.nodup_cons.mp h.nd).2
  own := fun q m => by
    refine ⟨(h.own q (.tail _ m)).1, ?_⟩
    have n : q.1 ≠ p := fun z => (List.nodup_cons.mp h.nd).1 (List.mem_map.mpr ⟨q, m, z⟩)
    rw [upd_ne n]
    exact (h.own q (.tail _ m)).2
theorem Hs.sql {xs : List V} (h : Hs B L H) (m : (p, HO.lst xs) ∈ L) : SqL K H p xs := .of (h.get m)
theorem Hs.sqt {xs : List V} (h : Hs B L H) (m : (p, HO.tup xs) ∈ L) : SqT K H p xs := .of (h.get m)
theorem Hs.bl {xs : List V} (h : Hs B L H) (m : SqL K B p xs) : SqL K H p xs := h.ex.seq m
theorem same_sqt {xs : List V} (e : Same H H') (h : SqT K H p xs) : SqT K H' p xs := by
  rcases h with (h | ⟨u, h⟩) | h
  · exact .inl (.inl (e _ _ h))
  · exact .inl (.inr ⟨u, e _ _ h⟩)
  · exact .inr h
theorem Hs.bt {xs : List V} (h : Hs B L H) (m : SqT K B p xs) : SqT K H p xs := same_sqt h.ex m
mutual
theorem dp_same (e : Same H H') : ∀ {v : V} {d : PyData}, Dp K H v d → Dp K H' v d
  | _, _, .non => .non
  | _, _, .bl b => .bl b
  | _, _, .int i => .int i
  | _, _, .str x => .str x
  | _, _, .lst h a => .lst (e.seq h) (dpa_same e a)
  | _, _, .tup h a => .tup (same_sqt e h) (dpa_same e a)
theorem dpa_same (e : Same H H') : ∀ {vs : List V} {ds : List PyData}, DpAll K H vs ds → DpAll K H' vs ds
  | _, _, .nil => .nil
  | _, _, .cons h a => .cons (dp_same e h) (dpa_same e a)
end
theorem dpa_ints : ∀ ns : List Int, DpAll K H (ns.map V.int) (ns.map PyData.int)
  | [] => .nil
  | n :: r => .cons (.int n) (dpa_ints r)
end
/-! ### readings, step by step -/
section
variable {σ : St} {H : Hp} {Q : VK} {v x y : V} {i j : Int} {ta tb te : TE} {K : PySem.W.Frag} {r : R2} {B : Hp} {L : List (Addr × HO)}
theorem c_var {n : Nat} (h : σ[n]? = some (some v)) (k : Q v H) : tVar n σ H Q := ⟨v, h, k⟩
theorem c_c (k : Q v H) : tC v σ H Q := k
theorem c_op (k : ta σ H fun x H1 => tb σ H1 fun y H2 => r x y H2 Q) : tOp r ta tb σ H Q := k
theorem c_un {r : V → Hp → VK → Prop} (k : ta σ H fun x H1 => r x H1 Q) : tUn r ta σ H Q := k
theorem c_addI (k : Q (.int (i + j)) H) : rAddU (.int i) (.int j) H Q := .inl ⟨i, j, rfl, rfl, k⟩
theorem c_addS {a b : Str} (h : a.length + b.length ≤ sizeLine) (k : Q (.str (a ++ b)) H) : rAddU (.str a) (.str b) H Q := .inr (.inl ⟨a, b, rfl, rfl, h, k⟩)
theorem c_addL {p q : Addr} {xs ys : List V} (h : Hs B L H) (hp : H p = some (.lst xs)) (hq : H q = some (.lst ys)) (hl : xs.length + ys.length ≤ sizeLine)
    (k : ∀ a H', Hs B ((a, .lst (xs ++ ys)) :: L) H' → Q (.ref a) H') : rAddU (.ref p) (.ref q) H Q :=
  .inr (.inr ⟨p, q, xs, ys, rfl, rfl, hp, hq, hl, fun a ha => k a _ (h.new ha)⟩)
theorem c_sub (k : Q (.int (i - j)) H) : rSubU (.int i) (.int j) H Q := ⟨i, j, rfl, rfl, k⟩
theorem c_mulI (h : CMul i j) (k : Q (.int (i * j)) H) : rMulU (.int i) (.int j) H Q := .inl ⟨i, j, rfl, rfl, h, k⟩
theorem c_rep {p : Addr} {xs : List V} (h : Hs B L H) (hp : H p = some (.lst xs)) (h1 : -(2 ^ 63) ≤ j) (h2 : j < 2 ^ 63) (hl : xs.length * j.toNat ≤ sizeLine)
    (k : ∀ a H', Hs B ((a, .lst (List.replicate j.toNat xs).flatten) :: L) H' → Q (.ref a) H') : rMulU (.ref p) (.int j) H Q :=
  .inr ⟨p, j, xs, rfl, rfl, hp, h1, h2, hl, fun a ha => k a _ (h.new ha)⟩
theorem c_div (h : CDiv i j) (k : Q (.int (i / j)) H) : rDivU (.int i) (.int j) H Q := ⟨i, j, rfl, rfl, h, k⟩
theorem c_mod (h : 0 < j) (k : Q (.int (i % j)) H) : rModU (.int i) (.int j) H Q := ⟨i, j, rfl, rfl, h, k⟩
theorem c_pow (h : CPow i j) (k : Q (.int (i ^ j.toNat)) H) : rPowU (.int i) (.int j) H Q := ⟨i, j, rfl, rfl, h, k⟩
theorem c_shl (h : CPow i j) (k : Q (.int (i * 2 ^ j.toNat)) H) : rShlU (.int i) (.int j) H Q := ⟨i, j, rfl, rfl, h, k⟩
theorem c_shr (h : 0 ≤ j) (k : Q (.int (i / 2 ^ j.toNat)) H) : rShrU (.int i) (.int j) H Q := ⟨i, j, rfl, rfl, h, k⟩
theorem c_and (k : Q (.int (Builtin.bitAnd i j)) H) : rAndU (.int i) (.int j) H Q := ⟨i, j, rfl, rfl, k⟩
theorem c_or (k : Q (.int (Builtin.bitOr i j)) H) : rOrU (.int i) (.int j) H Q := ⟨i, j, rfl, rfl, k⟩
theorem c_xor (k : Q (.int (Builtin.bitXor i j)) H) : rXorU (.int i) (.int j) H Q := ⟨i, j, rfl, rfl, k⟩
theorem c_neg (k : Q (.int (-i)) H) : rNegU (.int i) H Q := ⟨i, rfl, k⟩
theorem c_lt (k : Q (.bl (decide (i < j))) H) : rLtU (.int i) (.int j) H Q := ⟨i, j, rfl, rfl, k⟩
theorem c_le (k : Q (.bl (decide (i ≤ j))) H) : rLeU (.int i) (.int j) H Q := ⟨i, j, rfl, rfl, k⟩
theorem c_gt (k : Q (.bl (decide (j < i))) H) : rGtU (.int i) (.int j) H Q := ⟨i, j, rfl, rfl, k⟩
theorem c_ge (k : Q (.bl (decide (j ≤ i))) H) : rGeU (.int i) (.int j) H Q := ⟨i, j, rfl, rfl, k⟩
theorem dec_of {p q : Prop} [Decidable p] [Decidable q] (h : p ↔ q) : decide p = decide q := by by_cases z : p <;> simp [z, h.mp, mt h.mpr] <;> simp_all
theorem c_eqI (k : Q (.bl (decide (i = j))) H) : rEqU K (.int i) (.int j) H Q := .inl ⟨rfl, by rw [dec_of (show V.int i = V.int j ↔ i = j by simp)]; exact k⟩
theorem c_neI (k : Q (.bl (!decide (i = j))) H) : rNeU K (.int i) (.int j) H Q := .inl ⟨rfl, by rw [dec_of (show V.int i = V.int j ↔ i = j by simp)]; exact k⟩
theorem c_eqS {a b : Str} (k : Q (.bl (decide (a = b))) H) : rEqU K (.str a) (.str b) H Q := .inl ⟨rfl, by rw [dec_of (show V.str a = V.str b ↔ a = b by simp)]; exact k⟩
theorem c_neS {a b : Str} (k : Q (.bl (!decide (a = b))) H) : rNeU K (.str a) (.str b) H Q := .inl ⟨rfl, by rw [dec_of (show V.str a = V.str b ↔ a = b by simp)]; exact k⟩
theorem c_eqB {a b : Bool} (k : Q (.bl (decide (a = b))) H) : rEqU K (.bl a) (.bl b) H Q := .inl ⟨rfl, by rw [dec_of (show V.bl a = V.bl b ↔ a = b by simp)]; exact k⟩
theorem c_neB {a b : Bool} (k : Q (.bl (!decide (a = b))) H) : rNeU K (.bl a) (.bl b) H Q := .inl ⟨rfl, by rw [dec_of (show V.bl a = V.bl b ↔ a = b by simp)]; exact k⟩
theorem c_eqD {d e : PyData} (hx : Dp K H x d) (hy : Dp K H y e) (h1 : SeqAt.shaped d = true) (h2 : SeqAt.shaped e = true) (k : Q (.bl (PyData.eqv d e)) H) : rEqU K x y H Q := .inr ⟨d, e, hx, hy, h1, h2, k⟩
theorem c_neD {d e : PyData} (hx : Dp K H x d) (hy : Dp K H y e) (h1 : SeqAt.shaped d = true) (h2 : SeqAt.shaped e = true) (k : Q (.bl (!PyData.eqv d e)) H) : rNeU K x y H Q := .inr ⟨d, e, hx, hy, h1, h2, k⟩
theorem c_isN (k : Q (.bl (decide (x = .non))) H) : rIsU x .non H Q := .inl ⟨rfl, k⟩
theorem c_notN (k : Q (.bl (!decide (x = .non))) H) : rNotU x .non H Q := .inl ⟨rfl, k⟩
theorem c_isB {a b : Bool} (k : Q (.bl (decide (a = b))) H) : rIsU (.bl a) (.bl b) H Q := .inr ⟨a, b, rfl, rfl, k⟩
theorem c_notB {a b : Bool} (k : Q (.bl (!decide (a = b))) H) : rNotU (.bl a) (.bl b) H Q := .inr ⟨a, b, rfl, rfl, k⟩
theorem c_ixL {p : Addr} {xs : List V} (h : SqL K H p xs) (ha : atI xs i = some v) (k : Q v H) : rIx K (.ref p) (.int i) H Q := .inl ⟨p, xs, i, v, rfl, rfl, h, ha, k⟩
theorem c_ixT {p : Addr} {xs : List V} (h : SqT K H p xs) (ha : atI xs i = some v) (k : Q v H) : rIx K (.ref p) (.int i) H Q := .inr (.inl ⟨p, xs, i, v, rfl, rfl, h, ha, k⟩)
theorem c_ixS {z : Str} {c : Nat} (h : z.length ≤ sizeLine) (ha : atI z.cps.toList i = some c) (k : Q (.str ⟨#[c]⟩) H) : rIx K (.str z) (.int i) H Q := .inr (.inr ⟨z, i, c, rfl, rfl, h, ha, k⟩)
theorem c_slL {p : Addr} {xs : List V} {lo hi : Option Int} (h : Hs B L H) (hq : SqL K H p xs) (k : ∀ a H', Hs B ((a, .lst (cutV xs lo hi)) :: L) H' → Q (.ref a) H') : rSlK K (.ref p) lo hi H Q :=
  .inl ⟨p, xs, rfl, hq, fun a ha => k a _ (h.new ha)⟩
theorem c_slS {z : Str} {lo hi : Option Int} (h : z.length ≤ sizeLine) (k : Q (.str (cutS z lo hi)) H) : rSlK K (.str z) lo hi H Q := .inr (.inl ⟨z, rfl, h, k⟩)
theorem c_andV (k : ta σ H fun x H1 => ∃ c, x = .bl c ∧ if c = true then tb σ H1 Q else Q (.bl false) H1) : tAndV ta tb σ H Q := k
theorem c_orV (k : ta σ H fun x H1 => ∃ c, x = .bl c ∧ if c = true then Q (.bl true) H1 else tb σ H1 Q) : tOrV ta tb σ H Q := k
theorem c_notV (k : ta σ H fun x H1 => ∃ c, x = .bl c ∧ Q (.bl (!c)) H1) : tNotV ta σ H Q := k
theorem c_bl {b : Bool} {P : Bool → Prop} (k : P b) : ∃ c, V.bl b = V.bl c ∧ P c := ⟨b, rfl, k⟩
theorem c_test {P : Bool → Hp → Prop} (k : te σ H fun x H' => ∃ c, x = .bl c ∧ P c H') : tTest te σ H P := k
theorem c_B {P : Bool → Hp → Prop} (k : te σ H fun x H' => ∃ c, x = .bl c ∧ P c H') : tB te σ H P := k
theorem c_chain {r' : R2} {tc : TE} (k : ta σ H fun x H1 => tb σ H1 fun y H2 => r x y H2 fun z H3 => ∃ c, z = .bl c ∧ (if c = true then tc σ H3 fun w H4 => r' y w H4 Q else Q (.bl false) H3)) : tChain r r' ta tb tc σ H Q := k
section
variable {t u : TT} {P : Bool → Hp → Prop}
theorem c_tand (k : t σ H fun c H1 => if c = true then u σ H1 P else P false H1) : tAnd t u σ H P := k
theorem c_tor (k : t σ H fun c H1 => if c = true then P true H1 else u σ H1 P) : tOr t u σ H P := k
theorem c_tnot (k : t σ H fun c H1 => P (!c) H1) : tNot t σ H P := k
theorem c_if (k : t σ H fun c H1 => if c = true then ta σ H1 Q else tb σ H1 Q) : tIf t ta tb σ H Q := k
end
section
variable {P : List V → Hp → Prop} {tr : TA}
theorem c_nil (k : P [] H) : tNil σ H P := k
theorem c_cons (k : te σ H fun x H1 => tr σ H1 fun xs H2 => P (x :: xs) H2) : tCons te tr σ H P := k
def TupO (xs : List V) (H : Hp) (Q : VK) : Prop := xs.length ≤ sizeLine ∧ ∀ p, H p = none → Q (.ref p) (upd H p (.tup xs))
def LstO (xs : List V) (H : Hp) (Q : VK) : Prop := xs.length ≤ sizeLine ∧ ∀ p, H p = none → Q (.ref p) (upd H p (.lst xs))
theorem c_tup (k : tr σ H fun xs H1 => TupO xs H1 Q) : tTup tr σ H Q := k
theorem c_lst (k : tr σ H fun xs H1 => LstO xs H1 Q) : tLst tr σ H Q := k
theorem c_tupO {xs : List V} (h : Hs B L H) (hl : xs.length ≤ sizeLine) (k : ∀ p H', Hs B ((p, .tup xs) :: L) H' → Q (.ref p) H') : TupO xs H Q := ⟨hl, fun p hp => k p _ (h.new hp)⟩
theorem c_lstO {xs : List V} (h : Hs B L H) (hl : xs.length ≤ sizeLine) (k : ∀ p H', Hs B ((p, .lst xs) :: L) H' → Q (.ref p) H') : LstO xs H Q := ⟨hl, fun p hp => k p _ (h.new hp)⟩
theorem c_cb {r : List V → Hp → VK → Prop} (k : tr σ H fun vs H1 => r vs H1 Q) : tCB r tr σ H Q := k
theorem c_lenL {p : Addr} {xs : List V} (h : SqL K H p xs) (k : Q (.int xs.length) H) : rLenK K [.ref p] H Q := ⟨_, _, rfl, .inl ⟨xs, h, rfl⟩, k⟩
theorem c_lenT {p : Addr} {xs : List V} (h : SqT K H p xs) (k : Q (.int xs.length) H) : rLenK K [.ref p] H Q := ⟨_, _, rfl, .inr ⟨xs, h, rfl⟩, k⟩
theorem c_lenS {z : Str} (h : z.length ≤ sizeLine) (k : Q (.int z.length) H) : rLenK K [.str z] H Q := ⟨_, _, rfl, ⟨h, rfl⟩, k⟩
theorem c_intI (k : Q (.int i) H) : rIntK [.int i] H Q := .inl ⟨i, rfl, k⟩
theorem c_intB {b : Bool} (k : Q (.int (if b then 1 else 0)) H) : rIntK [.bl b] H Q := .inr ⟨b, rfl, k⟩
theorem c_listL {p : Addr} {xs : List V} (h : Hs B L H) (hq : SqL K H p xs) (k : ∀ a H', Hs B ((a, .lst xs) :: L) H' → Q (.ref a) H') : rListK K [.ref p] H Q := ⟨p, xs, rfl, .inl hq, fun a ha => k a _ (h.new ha)⟩
theorem c_listT {p : Addr} {xs : List V} (h : Hs B L H) (hq : SqT K H p xs) (k : ∀ a H', Hs B ((a, .lst xs) :: L) H' → Q (.ref a) H') : rListK K [.ref p] H Q := ⟨p, xs, rfl, .inr hq, fun a ha => k a _ (h.new ha)⟩
theorem c_divmod (h : Hs B L H) (c : CDiv i j) (k : ∀ a H', Hs B ((a, .tup [.int (i / j), .int (i % j)]) :: L) H' → Q (.ref a) H') : rDivmodK [.int i, .int j] H Q := ⟨i, j, rfl, c, fun a ha => k a _ (h.new ha)⟩
theorem c_max2 (k : Q (.int (if j > i then j else i)) H) : rMax2K [.int i, .int j] H Q := ⟨i, j, rfl, k⟩
theorem c_min2 (k : Q (.int (if j < i then j else i)) H) : rMin2K [.int i, .int j] H Q := ⟨i, j, rfl, k⟩
theorem c_abs (k : Q (.int (if i < 0 then -i else i)) H) : rAbsK [.int i] H Q := ⟨i, rfl, k⟩
theorem c_sum {p : Addr} {ns : List Int} (h : SqL K H p (ns.map V.int)) (k : Q (.int ns.sum) H) : rSum K [.ref p] H Q := ⟨p, ns, rfl, h, k⟩
theorem c_all {p : Addr} {bs : List Bool} (h : SqL K H p (bs.map V.bl)) (k : Q (.bl (bs.all id)) H) : rAll K [.ref p] H Q := ⟨p, bs, rfl, h, k⟩
theorem c_any {p : Addr} {bs : List Bool} (h : SqL K H p (bs.map V.bl)) (k : Q (.bl (bs.any id)) H) : rAny K [.ref p] H Q := ⟨p, bs, rfl, h, k⟩
theorem c_cl {sp : Sp} {dvs : List V} {W : WX} (k : tr σ H fun vs H1 => sp (vs ++ dvs) H1 Q fun c d H2 => W c d σ H2) : tCl sp dvs W tr σ H Q := k
theorem c_mt {C : Addr} {m : Str} {sp : Sp} {dvs : List V} {W : WX} (k : te σ H fun x H1 => ∃ a dx fs, x = .ref a ∧ H1 a = some (.ins C dx fs) ∧ fs.lookup m = none ∧ tr σ H1 fun vs H2 => sp (x :: (vs ++ dvs)) H2 Q fun c d H3 => W c d σ H3) : tMt C m sp dvs W te tr σ H Q := k
theorem c_recv {C dx p : Addr} {fs : List (Str × V)} {m : Str} {P : Prop} (h : H p = some (.ins C dx fs)) (hl : fs.lookup m = none) (k : P) : ∃ a dx fs, V.ref p = .ref a ∧ H a = some (.ins C dx fs) ∧ fs.lookup m = none ∧ P := ⟨p, dx, fs, rfl, h, hl, k⟩
end
/-! isinstance -/
theorem tyx_sql {p : Addr} {xs : List V} (h : SqL K H p xs) : TyX K H (.ref p) (.type "list") := by
  rcases h with (h | ⟨u, h⟩) | ⟨o, a, b, h1, h2, _⟩
  · exact .base (.lst h)
  · exact .base (.frz h)
  · exact .kList h1 h2
theorem c_isi {c : V} {t u : Value} {b : Bool} (T : TyX K H x t) (hc : ClsV c u) (e : PySem.W.kitOne K t u = some b) (k : Q (.bl b) H) : rIsi K [x, c] H Q := ⟨x, c, t, u, b, rfl, hc, T, e, k⟩
theorem k_int_int : PySem.W.kitOne K (.type "int") (.type "int") = some true := kit_ty (by decide +kernel)
theorem k_int_bool : PySem.W.kitOne K (.type "int") (.type "bool") = some false := kit_ty (by decide +kernel)
theorem k_list_list : PySem.W.kitOne K (.type "list") (.type "list") = some true := kit_ty (by decide +kernel)
theorem c_isi_ii (k : Q (.bl true) H) : rIsi K [.int i, .ty "int"] H Q := c_isi (.base (.int i)) (.ty _) k_int_int k
theorem c_isi_ib (k : Q (.bl false) H) : rIsi K [.int i, .ty "bool"] H Q := c_isi (.base (.int i)) (.ty _) k_int_bool k
theorem c_isi_ll {p : Addr} {xs : List V} (h : SqL K H p xs) (k : Q (.bl true) H) : rIsi K [.ref p, .ty "list"] H Q := c_isi (tyx_sql h) (.ty _) k_list_list k
/-! fields -/
def FldO (K : PySem.W.Frag) (f : Str) (x : V) (H : Hp) (Q : VK) : Prop := ∃ a C dx fs v, x = .ref a ∧ H a = some (.ins C dx fs) ∧ Cls K C ∧ NoAttr K C f ∧ fs.lookup f = some v ∧ Q v H
theorem c_fld {f : Str} {C dx p : Addr} {fs : List (Str × V)} (h : H p = some (.ins C dx fs)) (hc : Cls K C) (hn : NoAttr K C f) (hl : fs.lookup f = some v) (k : Q v H) : FldO K f (.ref p) H Q := ⟨p, C, dx, fs, v, rfl, h, hc, hn, hl, k⟩
end
/-! ### statements -/
section
variable {σ : St} {H : Hp} {dn : St → Hp → Prop} {dr : VK} {db dc : St → Hp → Prop} {t u : TS} {te : TE} {g : TG} {v : V} {b : Bool}
theorem w_seq (k : t ⟨u ⟨dn, dr, db, dc⟩, dr, db, dc⟩ σ H) : tSeq t u ⟨dn, dr, db, dc⟩ σ H := k
theorem w_asg (k : te σ H fun x H1 => g x σ H1 dn) : tAsg te g ⟨dn, dr, db, dc⟩ σ H := k
theorem w_name {n : Nat} {P : St → Hp → Prop} (k : P (σ.set n (some v)) H) : gName n v σ H P := k
theorem w_drop (k : te σ H fun _ H1 => dn σ H1) : tDrop te ⟨dn, dr, db, dc⟩ σ H := k
theorem w_ret (k : te σ H dr) : tRet te ⟨dn, dr, db, dc⟩ σ H := k
theorem w_if {c : TT} (k : c σ H fun b H1 => if b = true then t ⟨dn, dr, db, dc⟩ σ H1 else u ⟨dn, dr, db, dc⟩ σ H1) : tIfS c t u ⟨dn, dr, db, dc⟩ σ H := k
theorem w_next (k : dn σ H) : tNext ⟨dn, dr, db, dc⟩ σ H := k
theorem i_t {A A' : Prop} (h : b = true) (k : A) : if b = true then A else A' := by rw [if_pos h]; exact k
theorem i_f {A A' : Prop} (h : b = false) (k : A') : if b = true then A else A' := by rw [h, if_neg Bool.false_ne_true]; exact k
theorem i_2 {A A' : Prop} (k : b = true → A) (k' : b = false → A') : if b = true then A else A' := by cases b; exact iteF (k' rfl); exact iteT (k rfl)
theorem w_aug {n : Nat} {ti : TIp} (h : σ[n]? = some (some v)) (k : te σ H fun y H1 => ti v y H1 fun z H2 => dn (σ.set n (some z)) H2) : tAug n te ti ⟨dn, dr, db, dc⟩ σ H := ⟨v, h, k⟩
theorem c_ipAddI {i j : Int} {Q : VK} (k : Q (.int (i + j)) H) : ipAddU (.int i) (.int j) H Q := .inl ⟨i, j, rfl, rfl, k⟩
theorem c_ipSub {i j : Int} {Q : VK} (k : Q (.int (i - j)) H) : ipSubU (.int i) (.int j) H Q := ⟨i, j, rfl, rfl, k⟩
end
/-! ### loops over what has plain items -/
section
variable {α : Type} {K : PySem.W.Frag} {a : Addr} {g : TG} {tb : TS} {dn : St → Hp → Prop} {dr : VK} {db dc : St → Hp → Prop} {σ : St} {H : Hp}
theorem take_split {l : List α} {i : Nat} {x : α} (h : l[i]? = some x) : l = l.take i ++ x :: l.drop (i + 1) ∧ l.take (i + 1) = l.take i ++ [x] := by
  obtain ⟨hi, e⟩ := List.getElem?_eq_some_iff.mp h
  subst e
  refine ⟨?_, by rw [List.take_add_one, h]; rfl⟩
  conv => lhs; rw [← List.take_append_drop i l, List.drop_eq_getElem_cons hi]
theorem for_l (f : α → V) (l : List α) (Pv : List α → St → Hp → Prop) (h0 : Pv [] σ H) (hq : ∀ pre post σ H, l = pre ++ post → Pv pre σ H → SqL K H a (l.map f))
    (hs : ∀ pre x post σ H, l = pre ++ x :: post → Pv pre σ H → g (f x) σ H fun σ2 H2 => tb ⟨Pv (pre ++ [x]), dr, dn, Pv (pre ++ [x])⟩ σ2 H2) (hd : ∀ σ H, Pv l σ H → dn σ H) :
    ∃ W : Nat → Nat → St → Hp → Prop, (∃ m, W 0 m σ H) ∧ ∀ i m σ H, W i m σ H →
      ((Itl K a).stop i H ∧ dn σ H) ∨ ((Itl K a).go i H ∧ ∃ N : St → Hp → Prop, (∀ σ' H', N σ' H' → ∃ m', m' < m ∧ W (i + 1) m' σ' H') ∧ ∀ x H', (Itl K a).yld i H x H' → g x σ H' fun σ2 H2 => tb ⟨N, dr, dn, N⟩ σ2 H2) := by
  refine L2.for_list (D := { nx := dn, rt := dr }) (xs := l.map f) (fun i => Pv (l.take i)) (by simpa using h0) (fun i σ H _ p => hq _ (l.drop i) σ H (List.take_append_drop i l).symm p) (fun i x σ H hx p => ?_) (fun σ H p => hd σ H (by simpa using p))
  rw [List.getElem?_map] at hx
  cases e : l[i]? with
  | none => rw [e] at hx; cases hx
  | some y =>
    rw [e] at hx
    cases hx
    obtain ⟨e1, e2⟩ := take_split e
    have z := hs _ y _ σ H e1 p
    rw [e2]
    exact z
theorem lc_l {tt : TT} {te : TE} {vs : List Nat} {D : Addr} {Qd : Hp → Prop} (f : α → V) (l : List α) (Pv : List α → Hp → Prop) (h0 : Pv [] (upd H D (.lst []))) (hq : ∀ pre post H, l = pre ++ post → Pv pre H → SqL K H a (l.map f))
    (hs : ∀ pre x post H, l = pre ++ x :: post → Pv pre H → g (f x) (wipe σ vs) H fun σ2 H2 => wipe σ2 vs = wipe σ vs ∧ tt σ2 H2 fun b H3 =>
      if b = true then te σ2 H3 fun y H4 => ∃ acc, H4 D = some (.lst acc) ∧ acc.length < sizeLine ∧ Pv (pre ++ [x]) (upd H4 D (.lst (acc ++ [y]))) else Pv (pre ++ [x]) H3) (hd : ∀ H, Pv l H → Qd H) :
    ∃ W : Nat → Nat → Hp → Prop, (∃ m, W 0 m (upd H D (.lst []))) ∧ ∀ i m H, W i m H →
      ((Itl K a).stop i H ∧ Qd H) ∨ ((Itl K a).go i H ∧ ∃ Nx : Hp → Prop, (∀ H', Nx H' → ∃ m', m' < m ∧ W (i + 1) m' H') ∧ ∀ x H', (Itl K a).yld i H x H' → g x (wipe σ vs) H' fun σ2 H2 => wipe σ2 vs = wipe σ vs ∧ tt σ2 H2 fun b H3 =>
        if b = true then te σ2 H3 fun y H4 => ∃ acc, H4 D = some (.lst acc) ∧ acc.length < sizeLine ∧ Nx (upd H4 D (.lst (acc ++ [y]))) else Nx H3) := by
  refine L2.lc_list (xs := l.map f) (fun i => Pv (l.take i)) (by simpa using h0) (fun i H _ p => hq _ (l.drop i) H (List.take_append_drop i l).symm p) (fun i x H hx p => ?_) (fun H p => hd H (by simpa using p))
  rw [List.getElem?_map] at hx
  cases e : l[i]? with
  | none => rw [e] at hx; cases hx
  | some y =>
    rw [e] at hx
    cases hx
    obtain ⟨e1, e2⟩ := take_split e
    have z := hs _ y _ H e1 p
    rw [e2]
    exact z
end
end L2.BP
namespace L2.BP
open PySem PySem.Spec PyProof.Rows
/-- a def as callers see it: what its defaults are, how the written arguments bind, its promise -/
def DOk (P : Program) (w : World) (K : PySem.W.Frag) (mg : Str → Option Value) (base : Heap) (k : Nat) (f : Addr) (ps : List Str) (dvs : List V) (sp : Sp) : Prop :=
  ∃ (fd : FuncData) (ds : List Value), Vals dvs ds ∧ Binds K fd ps ds ∧ FnOk P w K mg base (L2.CX P w) k f fd ps sp ∧ PySem.W.keepIn K (.ref f) = true
abbrev WF : WX := fun _ _ _ _ => False
/-! ### one of two readings of the same expression -/
def tOrE (t u : TE) : TE := fun σ H Q => t σ H Q ∨ u σ H Q
theorem pe_orE {X : Cx} {e : Expr} {t u : TE} (h : PE X e t) (h' : PE X e u) : PE X e (tOrE t u) :=
  ⟨fun pins s σ H Q I z => z.elim (h.run pins s σ H Q I) (h'.run pins s σ H Q I)⟩
/-! ### kinds of things -/
inductive Tg where
  | non | bl (b : Bool) | int (i : Int) | str (x : Str) | lst (xs : List V) | tup (xs : List V) | dic
/-- the thing v is of that kind -/
inductive Th (K : PySem.W.Frag) (H : Hp) : V → Tg → Prop where
  | non : Th K H .non .non
  | bl (b : Bool) : Th K H (.bl b) (.bl b)
  | int (i : Int) : Th K H (.int i) (.int i)
  | str (x : Str) : Th K H (.str x) (.str x)
  | lst {a : Addr} {xs : List V} (h : SqL K H a xs) : Th K H (.ref a) (.lst xs)
  | tup {a : Addr} {xs : List V} (h : SqT K H a xs) : Th K H (.ref a) (.tup xs)
  | dic {a : Addr} {kvs : List (Key × V)} (h : H a = some (.dK kvs)) : Th K H (.ref a) .dic
def Tg.ty : Tg → String
  | .non => "NoneType" | .bl _ => "bool" | .int _ => "int" | .str _ => "str" | .lst _ => "list" | .tup _ => "tuple" | .dic => "dict"
section
variable {K : PySem.W.Frag} {H H' : Hp} {v : V} {g : Tg} {Q : VK}
theorem Th.same (h : Th K H v g) (e : Same H H') : Th K H' v g := by
  cases h with
  | non => exact .non
  | bl b => exact .bl b
  | int i => exact .int i
  | str x => exact .str x
  | lst h => exact .lst (e.seq h)
  | tup h => exact .tup (same_sqt e h)
  | dic h => exact .dic (e _ _ h)
theorem tyx_sqt {p : Addr} {xs : List V} (h : SqT K H p xs) : TyX K H (.ref p) (.type "tuple") := by
  rcases h with (h | ⟨u, h⟩) | ⟨o, a, b, h1, h2, _⟩
  · exact .base (.tup h)
  · exact .fTuple h
  · exact .kTuple h1 h2
theorem Th.tyx (h : Th K H v g) : TyX K H v (.type g.ty) := by
  cases h with
  | non => exact .base .non
  | bl b => exact .base (.bl b)
  | int i => exact .base (.int i)
  | str x => exact .base (.str x)
  | lst h => exact tyx_sql h
  | tup h => exact tyx_sqt h
  | dic h => exact .base (.dK h)
def Tg.isInt : Tg → Bool
  | .bl _ => true | .int _ => true | _ => false
def Tg.isBool : Tg → Bool
  | .bl _ => true | _ => false
def Tg.isList : Tg → Bool
  | .lst _ => true | _ => false
def Tg.isStr : Tg → Bool
  | .str _ => true | _ => false
def Tg.isTup : Tg → Bool
  | .tup _ => true | _ => false
theorem Tg.kInt (g : Tg) : PySem.W.kitOne K (.type g.ty) (.type "int") = some g.isInt := by cases g <;> exact kit_ty (by kernel_rfl)
theorem Tg.kBool (g : Tg) : PySem.W.kitOne K (.type g.ty) (.type "bool") = some g.isBool := by cases g <;> exact kit_ty (by kernel_rfl)
theorem Tg.kList (g : Tg) : PySem.W.kitOne K (.type g.ty) (.type "list") = some g.isList := by cases g <;> exact kit_ty (by kernel_rfl)
theorem Tg.kStr (g : Tg) : PySem.W.kitOne K (.type g.ty) (.type "str") = some g.isStr := by cases g <;> exact kit_ty (by kernel_rfl)
theorem Tg.kTup (g : Tg) : PySem.W.kitOne K (.type g.ty) (.type "tuple") = some g.isTup := by cases g <;> exact kit_ty (by kernel_rfl)
theorem c_isiInt (h : Th K H v g) (k : Q (.bl g.isInt) H) : rIsi K [v, .ty "int"] H Q := c_isi h.tyx (.ty _) g.kInt k
theorem c_isiBool (h : Th K H v g) (k : Q (.bl g.isBool) H) : rIsi K [v, .ty "bool"] H Q := c_isi h.tyx (.ty _) g.kBool k
theorem c_isiList (h : Th K H v g) (k : Q (.bl g.isList) H) : rIsi K [v, .ty "list"] H Q := c_isi h.tyx (.ty _) g.kList k
theorem c_isiStr (h : Th K H v g) (k : Q (.bl g.isStr) H) : rIsi K [v, .ty "str"] H Q := c_isi h.tyx (.ty _) g.kStr k
theorem c_isiTup (h : Th K H v g) (k : Q (.bl g.isTup) H) : rIsi K [v, .ty "tuple"] H Q := c_isi h.tyx (.ty _) g.kTup k
/-- the results of defs that change nothing: a value, a new list, a new tuple -/
def RetV (H : Hp) (Q : VK) (v : V) : Prop := ∀ H', Same H H' → Q v H'
def RetL (H : Hp) (Q : VK) (xs : List V) : Prop := ∀ p H', H p = none → Same H H' → H' p = some (.lst xs) → Q (.ref p) H'
def RetT (H : Hp) (Q : VK) (xs : List V) : Prop := ∀ p H', H p = none → Same H H' → H' p = some (.tup xs) → Q (.ref p) H'
end
section
variable {B H : Hp} {L : List (Addr × HO)} {K : PySem.W.Frag} {Q : VK} {v : V} {xs : List V}
theorem Hs.rv (h : Hs B L H) (k : RetV B Q v) : Q v H := k H h.ex
theorem Hs.rl {p : Addr} (h : Hs B L H) (m : (p, HO.lst xs) ∈ L) (k : RetL B Q xs) : Q (.ref p) H := k p H (h.nb m) h.ex (h.get m)
theorem Hs.rt {p : Addr} (h : Hs B L H) (m : (p, HO.tup xs) ∈ L) (k : RetT B Q xs) : Q (.ref p) H := k p H (h.nb m) h.ex (h.get m)
theorem retV (h : Hs B L H) (k : ∀ H', Hs B L H' → Q v H') : RetV H Q v := fun H' e => k H' (h.same e)
theorem retL (h : Hs B L H) (k : ∀ p H', Hs B ((p, .lst xs) :: L) H' → Q (.ref p) H') : RetL H Q xs := fun p H' hp e hn => k p H' (h.newS hp e hn)
theorem retT (h : Hs B L H) (k : ∀ p H', Hs B ((p, .tup xs) :: L) H' → Q (.ref p) H') : RetT H Q xs := fun p H' hp e hn => k p H' (h.newS hp e hn)
end
end L2.BP
namespace L2.BP
open PySem PySem.Spec PyProof.Rows
/-! ### loops over the picture of the heap: I tells of what is done, the slots, the own objects, the base -/
abbrev Pic : Type := List (Addr × HO)
section
variable {α : Type} {K : PySem.W.Frag} {a : Addr} {g : TG} {tb : TS} {dn : St → Hp → Prop} {dr : VK} {db dc : St → Hp → Prop} {σ : St} {H B : Hp} {L : Pic}
/-- a list that is read stands in the base, or is an own one that is not changed -/
def NxI {β : Type} (I : β → St → Pic → Hp → Prop) (b : β) : St → Hp → Prop := fun σ H => ∃ L B, I b σ L B ∧ Hs B L H
theorem w_forL (f : α → V) (l : List α) (I : List α → St → Pic → Hp → Prop) (hs : Hs B L H) (h0 : I [] σ L B) (hq : ∀ pre post σ' L' B' H', l = pre ++ post → I pre σ' L' B' → Hs B' L' H' → SqL K H' a (l.map f))
    (turn : ∀ pre x post σ' L' B' H', l = pre ++ x :: post → I pre σ' L' B' → Hs B' L' H' → g (f x) σ' H' fun σ2 H2 => tb ⟨NxI I (pre ++ [x]), dr, dn, NxI I (pre ++ [x])⟩ σ2 H2)
    (fin : ∀ σ' L' B' H', I l σ' L' B' → Hs B' L' H' → dn σ' H') :
    ∃ b, V.ref a = .ref b ∧ (∃ xs, SqL K H b xs) ∧ ∃ W : Nat → Nat → St → Hp → Prop, (∃ m, W 0 m σ H) ∧ ∀ i m σ H, W i m σ H →
      ((Itl K b).stop i H ∧ dn σ H) ∨ ((Itl K b).go i H ∧ ∃ N : St → Hp → Prop, (∀ σ' H', N σ' H' → ∃ m', m' < m ∧ W (i + 1) m' σ' H') ∧ ∀ x H', (Itl K b).yld i H x H' → g x σ H' fun σ2 H2 => tb ⟨N, dr, dn, N⟩ σ2 H2) :=
  ⟨a, rfl, ⟨_, hq [] l σ L B H rfl h0 hs⟩, for_l f l (NxI I) ⟨L, B, h0, hs⟩ (fun pre post σ' H' e ⟨_, _, i, h⟩ => hq pre post _ _ _ _ e i h) (fun pre x post σ' H' e ⟨_, _, i, h⟩ => turn pre x post _ _ _ _ e i h) fun σ' H' ⟨_, _, i, h⟩ => fin _ _ _ _ i h⟩
theorem w_forR {lo : Int} {n : Nat} (I : Nat → St → Pic → Hp → Prop) (hs : Hs B L H) (h0 : I 0 σ L B)
    (turn : ∀ i σ' L' B' H', i < n → I i σ' L' B' → Hs B' L' H' → g (.int (lo + i)) σ' H' fun σ2 H2 => tb ⟨NxI I (i + 1), dr, dn, NxI I (i + 1)⟩ σ2 H2)
    (fin : ∀ σ' L' B' H', I n σ' L' B' → Hs B' L' H' → dn σ' H') :
    ∃ W : Nat → Nat → St → Hp → Prop, (∃ m, W 0 m σ H) ∧ ∀ i m σ H, W i m σ H →
      ((Itr lo n).stop i H ∧ dn σ H) ∨ ((Itr lo n).go i H ∧ ∃ N : St → Hp → Prop, (∀ σ' H', N σ' H' → ∃ m', m' < m ∧ W (i + 1) m' σ' H') ∧ ∀ x H', (Itr lo n).yld i H x H' → g x σ H' fun σ2 H2 => tb ⟨N, dr, dn, N⟩ σ2 H2) :=
  L2.for_range (D := { nx := dn, rt := dr }) (NxI I) ⟨L, B, h0, hs⟩ (fun i σ' H' e ⟨_, _, q, h⟩ => turn i _ _ _ _ e q h) fun σ' H' ⟨_, _, q, h⟩ => fin _ _ _ _ q h
theorem c_rng1 {n : Int} {P : It → Hp → Prop} (h1 : -(2 ^ 62) ≤ n) (h2 : n < 2 ^ 62) (k : P (Itr 0 n.toNat) H) : ∃ j : Int, [V.int n] = [.int j] ∧ -(2 ^ 62) ≤ j ∧ j < 2 ^ 62 ∧ P (Itr 0 j.toNat) H := ⟨n, rfl, h1, h2, k⟩
theorem c_rng2 {i j : Int} {P : It → Hp → Prop} (h1 : -(2 ^ 62) ≤ i ∧ i < 2 ^ 62 ∧ -(2 ^ 62) ≤ j ∧ j < 2 ^ 62) (k : P (Itr i (j - i).toNat) H) :
    ∃ i' j' : Int, [V.int i, V.int j] = [.int i', .int j'] ∧ (-(2 ^ 62) ≤ i' ∧ i' < 2 ^ 62 ∧ -(2 ^ 62) ≤ j' ∧ j' < 2 ^ 62) ∧ P (Itr i' (j' - i').toNat) H := ⟨i, j, rfl, h1, k⟩
/-- while: I falls by its number -/
def WhN (I : Nat → St → Pic → Hp → Prop) (m : Nat) : St → Hp → Prop := fun σ H => ∃ m', m' < m ∧ NxI I m' σ H
theorem w_while {c : TT} (I : Nat → St → Pic → Hp → Prop) (m0 : Nat) (hs : Hs B L H) (h0 : I m0 σ L B)
    (turn : ∀ m σ' L' B' H', I m σ' L' B' → Hs B' L' H' → c σ' H' fun b H1 => if b = true then ∃ N : St → Hp → Prop, (∀ σ3 H3, N σ3 H3 → WhN I m σ3 H3) ∧ tb ⟨N, dr, dn, N⟩ σ' H1 else dn σ' H1) :
    tWhile c tb ⟨dn, dr, db, dc⟩ σ H := ⟨fun m => NxI I m, ⟨m0, L, B, h0, hs⟩, fun m σ' H' ⟨_, _, q, h⟩ => turn m σ' _ _ H' q h⟩
theorem w_turn {P : St → Hp → Prop} (k : tb ⟨P, dr, dn, P⟩ σ H) : ∃ N : St → Hp → Prop, (∀ σ3 H3, N σ3 H3 → P σ3 H3) ∧ tb ⟨N, dr, dn, N⟩ σ H := ⟨_, fun _ _ w => w, k⟩
end
/-! ### comprehensions -/
section
variable {α : Type} {K : PySem.W.Frag} {a : Addr} {g : TG} {tt : TT} {te tl : TE} {σ : St} {H B : Hp} {L : Pic} {Q : VK} {vs : List Nat}
/-- the turn's word: what was made so far stands at D -/
def LcN (I : List α → List V → Hp → Prop) (B : Hp) (L : Pic) (D : Addr) (pre : List α) : Hp → Prop := fun H' => ∃ acc B', I pre acc B' ∧ Same B B' ∧ Hs B' ((D, .lst acc) :: L) H'
theorem c_lcL {P : Addr → Hp → Prop} (f : α → V) (l : List α) (I : List α → List V → Hp → Prop) (hs : Hs B L H) (h0 : I [] [] B)
    (hq : ∀ B' H', Same B B' → Hs B' L H' → SqL K H' a (l.map f))
    (turn : ∀ pre x post acc B' D H', l = pre ++ x :: post → I pre acc B' → Same B B' → Hs B' ((D, .lst acc) :: L) H' → g (f x) (wipe σ vs) H' fun σ2 H2 => wipe σ2 vs = wipe σ vs ∧ tt σ2 H2 fun b H3 =>
      if b = true then te σ2 H3 fun y H4 => ∃ acc, H4 D = some (.lst acc) ∧ acc.length < sizeLine ∧ LcN I B L D (pre ++ [x]) (upd H4 D (.lst (acc ++ [y]))) else LcN I B L D (pre ++ [x]) H3)
    (fin : ∀ acc B' D H', I l acc B' → Same B B' → Hs B' ((D, .lst acc) :: L) H' → P D H') :
    ∃ b, V.ref a = .ref b ∧ (∃ xs, SqL K H b xs) ∧ ∀ D, H D = none → ∃ W : Nat → Nat → Hp → Prop, (∃ m, W 0 m (upd H D (.lst []))) ∧ ∀ i m H, W i m H →
      ((Itl K b).stop i H ∧ P D H) ∨ ((Itl K b).go i H ∧ ∃ Nx : Hp → Prop, (∀ H', Nx H' → ∃ m', m' < m ∧ W (i + 1) m' H') ∧ ∀ x H', (Itl K b).yld i H x H' → g x (wipe σ vs) H' fun σ2 H2 => wipe σ2 vs = wipe σ vs ∧ tt σ2 H2 fun b H3 =>
        if b = true then te σ2 H3 fun y H4 => ∃ acc, H4 D = some (.lst acc) ∧ acc.length < sizeLine ∧ Nx (upd H4 D (.lst (acc ++ [y]))) else Nx H3) :=
  ⟨a, rfl, ⟨_, hq B H (Same.refl B) hs⟩, fun D hD => lc_l f l (LcN I B L D) ⟨[], B, h0, Same.refl B, hs.new hD⟩ (fun pre post H' _ ⟨acc, B', _, e, h⟩ => hq B' H' e h.drop)
    (fun pre x post H' e ⟨acc, B', p, e2, h⟩ => turn pre x post acc B' D H' e p e2 h) fun H' ⟨acc, B', p, e, h⟩ => fin acc B' D H' p e h⟩
theorem c_lcR {P : Addr → Hp → Prop} {lo : Int} {n : Nat} (I : Nat → List V → Hp → Prop) (hs : Hs B L H) (h0 : I 0 [] B)
    (turn : ∀ i acc B' D H', i < n → I i acc B' → Same B B' → Hs B' ((D, .lst acc) :: L) H' → g (.int (lo + i)) (wipe σ vs) H' fun σ2 H2 => wipe σ2 vs = wipe σ vs ∧ tt σ2 H2 fun b H3 =>
      if b = true then te σ2 H3 fun y H4 => ∃ acc, H4 D = some (.lst acc) ∧ acc.length < sizeLine ∧ (fun H' => ∃ acc B', I (i + 1) acc B' ∧ Same B B' ∧ Hs B' ((D, .lst acc) :: L) H') (upd H4 D (.lst (acc ++ [y]))) else (fun H' => ∃ acc B', I (i + 1) acc B' ∧ Same B B' ∧ Hs B' ((D, .lst acc) :: L) H') H3)
    (fin : ∀ acc B' D H', I n acc B' → Same B B' → Hs B' ((D, .lst acc) :: L) H' → P D H') :
    ∀ D, H D = none → ∃ W : Nat → Nat → Hp → Prop, (∃ m, W 0 m (upd H D (.lst []))) ∧ ∀ i m H, W i m H →
      ((Itr lo n).stop i H ∧ P D H) ∨ ((Itr lo n).go i H ∧ ∃ Nx : Hp → Prop, (∀ H', Nx H' → ∃ m', m' < m ∧ W (i + 1) m' H') ∧ ∀ x H', (Itr lo n).yld i H x H' → g x (wipe σ vs) H' fun σ2 H2 => wipe σ2 vs = wipe σ vs ∧ tt σ2 H2 fun b H3 =>
        if b = true then te σ2 H3 fun y H4 => ∃ acc, H4 D = some (.lst acc) ∧ acc.length < sizeLine ∧ Nx (upd H4 D (.lst (acc ++ [y]))) else Nx H3) :=
  fun D hD => L2.lc_range (fun i H' => ∃ acc B', I i acc B' ∧ Same B B' ∧ Hs B' ((D, .lst acc) :: L) H') ⟨[], B, h0, Same.refl B, hs.new hD⟩
    (fun i H' e ⟨acc, B', p, e2, h⟩ => turn i acc B' D H' e p e2 h) fun H' ⟨acc, B', p, e, h⟩ => fin acc B' D H' p e h
/-- one item more -/
theorem c_item {D : Addr} {acc : List V} {y : V} {B2 : Hp} {P : List V → Hp → Prop} (h : Hs B2 ((D, .lst acc) :: L) H) (hz : acc.length < sizeLine) (e : Same B B2) (i : P (acc ++ [y]) B2) :
    ∃ acc, H D = some (.lst acc) ∧ acc.length < sizeLine ∧ ∃ acc2 B', P acc2 B' ∧ Same B B' ∧ Hs B' ((D, .lst acc2) :: L) (upd H D (.lst (acc ++ [y]))) :=
  ⟨acc, h.get (.head _), hz, acc ++ [y], B2, i, e, h.u0⟩
theorem c_lc {wi : TI} (k : wi σ H fun J H1 => ∀ D, H1 D = none → ∃ W : Nat → Nat → Hp → Prop, (∃ m, W 0 m (upd H1 D (.lst []))) ∧ ∀ i m H, W i m H →
      (J.stop i H ∧ Q (.ref D) H) ∨ (J.go i H ∧ ∃ Nx : Hp → Prop, (∀ H', Nx H' → ∃ m', m' < m ∧ W (i + 1) m' H') ∧ ∀ x H', J.yld i H x H' → g x (wipe σ vs) H' fun σ2 H2 => wipe σ2 vs = wipe σ vs ∧ tt σ2 H2 fun b H3 =>
        if b = true then te σ2 H3 fun y H4 => ∃ acc, H4 D = some (.lst acc) ∧ acc.length < sizeLine ∧ Nx (upd H4 D (.lst (acc ++ [y]))) else Nx H3)) : tLc wi g tt te vs σ H Q := k
theorem w_for {wi : TI} {tb : TS} {dn : St → Hp → Prop} {dr : VK} {db dc : St → Hp → Prop} (k : wi σ H fun J H1 => ∃ W : Nat → Nat → St → Hp → Prop, (∃ m, W 0 m σ H1) ∧ ∀ i m σ H, W i m σ H →
  (J.stop i H ∧ dn σ H) ∨ (J.go i H ∧ ∃ N : St → Hp → Prop, (∀ σ' H', N σ' H' → ∃ m', m' < m ∧ W (i + 1) m' σ' H') ∧ ∀ x H', J.yld i H x H' → g x σ H' fun σ2 H2 => tb ⟨N, dr, dn, N⟩ σ2 H2)) : tFor wi g tb ⟨dn, dr, db, dc⟩ σ H := k
theorem c_iL {R : It → Hp → Prop} (k : tl σ H fun x H1 => ∃ a, x = .ref a ∧ (∃ xs, SqL K H1 a xs) ∧ R (Itl K a) H1) : iList K tl σ H R := k
theorem c_iT {R : It → Hp → Prop} (k : tl σ H fun x H1 => ∃ a, x = .ref a ∧ (∃ xs, SqT K H1 a xs) ∧ R (Itt K a) H1) : iTup K tl σ H R := k
theorem c_iR1 {ta : TA} {R : It → Hp → Prop} (k : ta σ H fun vs H1 => ∃ j : Int, vs = [.int j] ∧ -(2 ^ 62) ≤ j ∧ j < 2 ^ 62 ∧ R (Itr 0 j.toNat) H1) : iRng1 ta σ H R := k
theorem c_iR2 {ta : TA} {R : It → Hp → Prop} (k : ta σ H fun vs H1 => ∃ i j : Int, vs = [.int i, .int j] ∧ (-(2 ^ 62) ≤ i ∧ i < 2 ^ 62 ∧ -(2 ^ 62) ≤ j ∧ j < 2 ^ 62) ∧ R (Itr i (j - i).toNat) H1) : iRng2 ta σ H R := k
theorem c_yes {P : Bool → Hp → Prop} (k : P true H) : tYes σ H P := k
/-! targets, fields, methods of lists -/
theorem g_tup {n : Nat} {t : TGs} {xs : List V} {P : St → Hp → Prop} (h : SqT K H a xs) (hn : xs.length = n) (k : t xs σ H P) : gTup K n t (.ref a) σ H P := ⟨a, xs, rfl, h, hn, k⟩
theorem g_lst {n : Nat} {t : TGs} {xs : List V} {P : St → Hp → Prop} (h : SqL K H a xs) (hn : xs.length = n) (k : t xs σ H P) : gLst K n t (.ref a) σ H P := ⟨a, xs, rfl, h, hn, k⟩
theorem g_cons {t : TG} {u : TGs} {v : V} {r : List V} {P : St → Hp → Prop} (k : t v σ H fun σ' H' => u r σ' H' P) : gCons t u (v :: r) σ H P := ⟨v, r, rfl, k⟩
theorem g_nil {P : St → Hp → Prop} (k : P σ H) : gNil [] σ H P := ⟨rfl, k⟩
theorem c_tfld {f : Str} (k : te σ H fun x H1 => FldO K f x H1 Q) : tFld K te f σ H Q := k
def PutO (K : PySem.W.Frag) (f : Str) (y x : V) (H : Hp) (P : Hp → Prop) : Prop := ∃ a C dx fs, x = .ref a ∧ H a = some (.ins C dx fs) ∧ Cls K C ∧ NoAttr K C f ∧ fs.length < 1000 ∧ P (upd H a (.ins C dx (putF f y fs)))
theorem w_sfld {f : Str} {ta : TE} {dn : St → Hp → Prop} {dr : VK} {db dc : St → Hp → Prop} (k : te σ H fun y H1 => ta σ H1 fun x H2 => PutO K f y x H2 (dn σ)) : sFld K ta te f ⟨dn, dr, db, dc⟩ σ H := k
theorem w_put0 {f : Str} {C dx : Addr} {y : V} {fs fs' : List (Str × V)} {P : Hp → Prop} (hs : Hs B ((a, .ins C dx fs) :: L) H) (hc : Cls K C) (hn : NoAttr K C f) (hl : fs.length < 1000) (e : putF f y fs = fs')
    (k : ∀ H', Hs B ((a, .ins C dx fs') :: L) H' → P H') : PutO K f y (.ref a) H P :=
  ⟨a, C, dx, fs, rfl, hs.get (.head _), hc, hn, hl, by rw [e]; exact k _ hs.u0⟩
theorem w_put1 {q : Addr × HO} {f : Str} {C dx : Addr} {y : V} {fs fs' : List (Str × V)} {P : Hp → Prop} (hs : Hs B (q :: (a, .ins C dx fs) :: L) H) (hc : Cls K C) (hn : NoAttr K C f) (hl : fs.length < 1000) (e : putF f y fs = fs')
    (k : ∀ H', Hs B (q :: (a, .ins C dx fs') :: L) H' → P H') : PutO K f y (.ref a) H P := w_put0 hs.swap hc hn hl e fun H' h => k H' h.swap
theorem w_put2 {q r : Addr × HO} {f : Str} {C dx : Addr} {y : V} {fs fs' : List (Str × V)} {P : Hp → Prop} (hs : Hs B (q :: r :: (a, .ins C dx fs) :: L) H) (hc : Cls K C) (hn : NoAttr K C f) (hl : fs.length < 1000) (e : putF f y fs = fs')
    (k : ∀ H', Hs B (q :: r :: (a, .ins C dx fs') :: L) H' → P H') : PutO K f y (.ref a) H P := w_put0 hs.rot3 hc hn hl e fun H' h => k H' h.unrot3
def AugO (K : PySem.W.Frag) (f : Str) (x : V) (H : Hp) (P : Addr → Addr → V → Prop) : Prop := ∃ a C dx fs v, x = .ref a ∧ H a = some (.ins C dx fs) ∧ Cls K C ∧ NoAttr K C f ∧ fs.lookup f = some v ∧ P a C v
def AputO (f : Str) (a C : Addr) (z : V) (H : Hp) (P : Hp → Prop) : Prop := ∃ dx' fs', H a = some (.ins C dx' fs') ∧ fs'.length < 1000 ∧ P (upd H a (.ins C dx' (putF f z fs')))
theorem w_sfldAug {f : Str} {ta : TE} {rd : V → V → Hp → VK → Prop} {dn : St → Hp → Prop} {dr : VK} {db dc : St → Hp → Prop} (k : ta σ H fun x H1 => AugO K f x H1 fun a C v => te σ H1 fun y H2 => rd v y H2 fun z H3 => AputO f a C z H3 (dn σ)) : sFldAug K ta te rd f ⟨dn, dr, db, dc⟩ σ H := k
theorem c_fldA {f : Str} {C dx : Addr} {fs : List (Str × V)} {v : V} {P : Addr → Addr → V → Prop} (h : H a = some (.ins C dx fs)) (hc : Cls K C) (hn : NoAttr K C f) (hl : fs.lookup f = some v) (k : P a C v) :
    AugO K f (.ref a) H P := ⟨a, C, dx, fs, v, rfl, h, hc, hn, hl, k⟩
theorem c_radd {i j : Int} (k : Q (.int (i + j)) H) : rAdd (.int i) (.int j) H Q := ⟨i, j, rfl, rfl, k⟩
theorem c_rsub {i j : Int} (k : Q (.int (i - j)) H) : rSub (.int i) (.int j) H Q := ⟨i, j, rfl, rfl, k⟩
theorem w_aput0 {f : Str} {C dx : Addr} {z : V} {fs fs' : List (Str × V)} {P : Hp → Prop} (hs : Hs B ((a, .ins C dx fs) :: L) H) (hl : fs.length < 1000) (e : putF f z fs = fs') (k : ∀ H', Hs B ((a, .ins C dx fs') :: L) H' → P H') :
    AputO f a C z H P := ⟨dx, fs, hs.get (.head _), hl, by rw [e]; exact k _ hs.u0⟩
theorem w_aput1 {q : Addr × HO} {f : Str} {C dx : Addr} {z : V} {fs fs' : List (Str × V)} {P : Hp → Prop} (hs : Hs B (q :: (a, .ins C dx fs) :: L) H) (hl : fs.length < 1000) (e : putF f z fs = fs') (k : ∀ H', Hs B (q :: (a, .ins C dx fs') :: L) H' → P H') :
    AputO f a C z H P := w_aput0 hs.swap hl e fun H' h => k H' h.swap
theorem w_aput2 {q r : Addr × HO} {f : Str} {C dx : Addr} {z : V} {fs fs' : List (Str × V)} {P : Hp → Prop} (hs : Hs B (q :: r :: (a, .ins C dx fs) :: L) H) (hl : fs.length < 1000) (e : putF f z fs = fs') (k : ∀ H', Hs B (q :: r :: (a, .ins C dx fs') :: L) H' → P H') :
    AputO f a C z H P := w_aput0 hs.rot3 hl e fun H' h => k H' h.unrot3
theorem c_bm {T : String} {r : V → List V → Hp → VK → Prop} {t : TA} (k : te σ H fun x H1 => tyV K T x H1 ∧ t σ H1 fun xs H2 => r x xs H2 Q) : tBM K T r te t σ H Q := k
theorem c_bm0 {T : String} {r : V → List V → Hp → VK → Prop} (k : te σ H fun x H1 => tyV K T x H1 ∧ r x [] H1 Q) : tBM0 K T r te σ H Q := k
theorem c_tyL {xs : List V} {P : Prop} (h : SqL K H a xs) (k : P) : tyV K "list" (.ref a) H ∧ P := ⟨.inl ⟨rfl, _, h⟩, k⟩
theorem c_app0 {xs : List V} {y : V} (hs : Hs B ((a, .lst xs) :: L) H) (hz : xs.length < sizeLine) (k : ∀ H', Hs B ((a, .lst (xs ++ [y])) :: L) H' → Q .non H') : rAppend (.ref a) [y] H Q := ⟨a, xs, y, rfl, rfl, hs.get (.head _), hz, k _ hs.u0⟩
theorem c_app1 {q : Addr × HO} {xs : List V} {y : V} (hs : Hs B (q :: (a, .lst xs) :: L) H) (hz : xs.length < sizeLine) (k : ∀ H', Hs B (q :: (a, .lst (xs ++ [y])) :: L) H' → Q .non H') : rAppend (.ref a) [y] H Q := c_app0 hs.swap hz fun H' h => k H' h.swap
theorem c_app2 {q r : Addr × HO} {xs : List V} {y : V} (hs : Hs B (q :: r :: (a, .lst xs) :: L) H) (hz : xs.length < sizeLine) (k : ∀ H', Hs B (q :: r :: (a, .lst (xs ++ [y])) :: L) H' → Q .non H') : rAppend (.ref a) [y] H Q := c_app0 hs.rot3 hz fun H' h => k H' h.unrot3
theorem c_sl {r : V → Option Int → Option Int → Hp → VK → Prop} {lo hi : TO} (k : te σ H fun x H1 => lo σ H1 fun l H2 => hi σ H2 fun u H3 => r x l u H3 Q) : tSl r te lo hi σ H Q := k
theorem c_part {P : Option Int → Hp → Prop} (k : te σ H fun x H1 => ∃ i, x = .int i ∧ P (some i) H1) : tPart te σ H P := k
theorem c_nopart {P : Option Int → Hp → Prop} (k : P none H) : tNoPart σ H P := k
theorem c_i {i : Int} {P : Int → Prop} (k : P i) : ∃ j, V.int i = .int j ∧ P j := ⟨i, rfl, k⟩
theorem small5 {n : Nat} (h : n ≤ 100000) : n < sizeLine := Nat.lt_of_le_of_lt h (by decide)
theorem small5' {n : Nat} (h : n ≤ 100000) : n ≤ sizeLine := Nat.le_trans h (by decide)
end
end L2.BP
namespace L2.BP
open PySem PySem.Spec PyProof.Rows
section
variable {f g : Str} {v w y : V} {r r' : List (Str × V)}
theorem look0 : List.lookup f ((f, v) :: r) = some v := by simp [List.lookup]
theorem lookS (h : ¬ f = g) (e : List.lookup f r = some v) : List.lookup f ((g, w) :: r) = some v := by
  have n : (f == g) = false := by simpa using h
  show (match f == g with | true => some w | false => List.lookup f r) = some v
  rw [n]
  exact e
theorem lookN : List.lookup f ([] : List (Str × V)) = none := rfl
theorem lookNS (h : ¬ f = g) (e : List.lookup f r = none) : List.lookup f ((g, w) :: r) = none := by
  have n : (f == g) = false := by simpa using h
  show (match f == g with | true => some w | false => List.lookup f r) = none
  rw [n]
  exact e
theorem put0 : putF f y ((f, v) :: r) = (f, y) :: r := if_pos rfl
theorem putN : putF f y [] = [(f, y)] := rfl
theorem putS (h : ¬ g = f) (e : putF f y r = r') : putF f y ((g, w) :: r) = (g, w) :: r' := by
  show (if g = f then _ else (g, w) :: putF f y r) = _
  rw [if_neg h, e]
end
section
variable {K : PySem.W.Frag} {σ : St} {H B : Hp} {L : Pic} {Q : VK} {sp : Sp} {W : WX} {dvs vs : List V} {C : Addr}
def MkO (C : Addr) (sp : Sp) (vs : List V) (H : Hp) (Q : VK) (E : XK) : Prop := ∀ x dx, H x = none → H dx = none → dx ≠ x → sp (.ref x :: vs) (upd (upd H dx (.own x)) x (.ins C dx [])) (fun v H2 => v = .non ∧ Q (.ref x) H2) E
theorem c_mk {t : TA} (k : t σ H fun vs H1 => MkO C sp (vs ++ dvs) H1 Q fun c d H2 => W c d σ H2) : tMk C sp dvs W t σ H Q := k
theorem c_mkO {E : XK} (hs : Hs B L H) (k : ∀ x dx H', Hs B ((x, .ins C dx []) :: L) H' → sp (.ref x :: vs) H' (fun v H2 => v = .non ∧ Q (.ref x) H2) E) : MkO C sp vs H Q E := fun x dx hx hdx ne => by
  have h1 := hs.new (o := HO.own x) hdx
  have h2 : (upd H dx (.own x)) x = none := by rw [upd_ne (Ne.symm ne)]; exact hx
  exact k x dx _ (h1.new h2).swap.drop
/-- drop what stands second, third -/
theorem Hs.drop1 {a b : Addr × HO} (h : Hs B (a :: b :: L) H) : Hs B (a :: L) H := h.swap.drop
theorem Hs.drop2 {a b c : Addr × HO} (h : Hs B (a :: b :: c :: L) H) : Hs B (a :: b :: L) H := h.rot3.drop
end
end L2.BP
namespace L2.BP
open PySem PySem.Spec PyProof.Rows
/-! ### walks that hand out pairs; walks of tuples -/
section
variable {α : Type} {K : PySem.W.Frag} {a : Addr} {g : TG} {tb : TS} {dn : St → Hp → Prop} {dr : VK} {db dc : St → Hp → Prop} {σ : St} {H B : Hp} {L : Pic}
/-- what a for asks of its iterator -/
def ForO (J : It) (g : TG) (tb : TS) (dn : St → Hp → Prop) (dr : VK) (σ : St) (H : Hp) : Prop := ∃ W : Nat → Nat → St → Hp → Prop, (∃ m, W 0 m σ H) ∧ ∀ i m σ H, W i m σ H →
  (J.stop i H ∧ dn σ H) ∨ (J.go i H ∧ ∃ N : St → Hp → Prop, (∀ σ' H', N σ' H' → ∃ m', m' < m ∧ W (i + 1) m' σ' H') ∧ ∀ x H', J.yld i H x H' → g x σ H' fun σ2 H2 => tb ⟨N, dr, dn, N⟩ σ2 H2)
theorem get_map {f : α → V} {l : List α} {i : Nat} {x : V} (h : (l.map f)[i]? = some x) : ∃ y, l[i]? = some y ∧ x = f y := by
  rw [List.getElem?_map] at h
  cases e : l[i]? with
  | none => rw [e] at h; cases h
  | some y => rw [e] at h; exact ⟨y, rfl, (Option.some.inj h).symm⟩
theorem w_forE (f : α → V) (l : List α) (I : List α → St → Pic → Hp → Prop) (hs : Hs B L H) (h0 : I [] σ L B) (hq : ∀ pre post σ' L' B' H', l = pre ++ post → I pre σ' L' B' → Hs B' L' H' → SqL K H' a (l.map f))
    (turn : ∀ pre x post σ' L' B' T H', l = pre ++ x :: post → I pre σ' L' B' → Hs B' ((T, .tup [.int ((pre.length : Nat) : Int), f x]) :: L') H' → g (.ref T) σ' H' fun σ2 H2 => tb ⟨NxI I (pre ++ [x]), dr, dn, NxI I (pre ++ [x])⟩ σ2 H2)
    (fin : ∀ σ' L' B' H', I l σ' L' B' → Hs B' L' H' → dn σ' H') : ForO (Ite K a) g tb dn dr σ H := by
  refine ⟨fun i m σ H => m = l.length - i ∧ i ≤ l.length ∧ NxI I (l.take i) σ H, ⟨l.length, by simp, Nat.zero_le _, L, B, by simpa using h0, hs⟩, ?_⟩
  rintro i m σ' H' ⟨rfl, hi, L', B', q, h⟩
  have z := hq (l.take i) (l.drop i) σ' L' B' H' (List.take_append_drop i l).symm q h
  by_cases hlt : i < l.length
  · refine .inr ⟨⟨l.map f, f l[i], z, by simp [hlt]⟩, NxI I (l.take (i + 1)), fun σ2 H2 p => ⟨_, by omega, rfl, hlt, p⟩, ?_⟩
    rintro v H2 ⟨T, x, rfl, hT, rfl, hx⟩
    obtain ⟨y, e1, rfl⟩ := get_map (hx _ z)
    obtain ⟨e2, e3⟩ := take_split e1
    have el : (l.take i).length = i := by rw [List.length_take]; omega
    have w := turn _ y _ σ' L' B' T _ e2 q (by rw [el]; exact h.new hT)
    rw [e3]
    exact w
  · have e : i = l.length := by omega
    subst e
    exact .inl ⟨⟨_, z, by simp⟩, fin _ _ _ _ (by simpa using q) h⟩
/-- over a tuple -/
theorem w_forT (xs : List V) (I : List V → St → Pic → Hp → Prop) (hs : Hs B L H) (h0 : I [] σ L B) (hq : ∀ pre post σ' L' B' H', xs = pre ++ post → I pre σ' L' B' → Hs B' L' H' → SqT K H' a xs)
    (turn : ∀ pre x post σ' L' B' H', xs = pre ++ x :: post → I pre σ' L' B' → Hs B' L' H' → g x σ' H' fun σ2 H2 => tb ⟨NxI I (pre ++ [x]), dr, dn, NxI I (pre ++ [x])⟩ σ2 H2)
    (fin : ∀ σ' L' B' H', I xs σ' L' B' → Hs B' L' H' → dn σ' H') :
    ∃ b, V.ref a = .ref b ∧ (∃ xs, SqT K H b xs) ∧ ForO (Itt K b) g tb dn dr σ H := by
  refine ⟨a, rfl, ⟨_, hq [] xs σ L B H rfl h0 hs⟩, ?_⟩
  refine L2.for_tup (D := { nx := dn, rt := dr }) (K := K) (a := a) (xs := xs) (fun i => NxI I (xs.take i)) ⟨L, B, by simpa using h0, hs⟩ (fun i σ' H' _ ⟨L', B', q, h⟩ => hq (xs.take i) (xs.drop i) σ' L' B' H' (List.take_append_drop i xs).symm q h) (fun i x σ' H' hx ⟨L', B', q, h⟩ => ?_) fun σ' H' ⟨L', B', q, h⟩ => fin _ _ _ _ (by simpa using q) h
  obtain ⟨e1, e2⟩ := take_split hx
  have w := turn _ x _ σ' L' B' H' e1 q h
  rw [e2]
  exact w
/-- over two lists -/
theorem w_forZ {β : Type} {b : Addr} (f : α → V) (f2 : β → V) (l : List α) (l2 : List β) (hl : l.length = l2.length) (I : Nat → St → Pic → Hp → Prop) (hs : Hs B L H) (h0 : I 0 σ L B)
    (hq : ∀ i σ' L' B' H', I i σ' L' B' → Hs B' L' H' → SqL K H' a (l.map f) ∧ SqL K H' b (l2.map f2))
    (turn : ∀ i x y σ' L' B' T H', l[i]? = some x → l2[i]? = some y → I i σ' L' B' → Hs B' ((T, .tup [f x, f2 y]) :: L') H' → g (.ref T) σ' H' fun σ2 H2 => tb ⟨NxI I (i + 1), dr, dn, NxI I (i + 1)⟩ σ2 H2)
    (fin : ∀ σ' L' B' H', I l.length σ' L' B' → Hs B' L' H' → dn σ' H') : ForO (Itz K a b) g tb dn dr σ H := by
  refine ⟨fun i m σ H => m = l.length - i ∧ i ≤ l.length ∧ NxI I i σ H, ⟨l.length, by simp, Nat.zero_le _, L, B, h0, hs⟩, ?_⟩
  rintro i m σ' H' ⟨rfl, hi, L', B', q, h⟩
  obtain ⟨z1, z2⟩ := hq i σ' L' B' H' q h
  by_cases hlt : i < l.length
  · have hlt2 : i < l2.length := by omega
    refine .inr ⟨⟨l.map f, l2.map f2, f l[i], f2 l2[i], z1, z2, by simp [hlt], by simp [hlt2]⟩, NxI I (i + 1), fun σ2 H2 p => ⟨_, by omega, rfl, hlt, p⟩, ?_⟩
    rintro v H2 ⟨T, x, y, rfl, hT, rfl, hx, hy⟩
    obtain ⟨x', e1, rfl⟩ := get_map (hx _ z1)
    obtain ⟨y', e2, rfl⟩ := get_map (hy _ z2)
    exact turn i x' y' σ' L' B' T _ e1 e2 q (h.new hT)
  · have e : i = l.length := by omega
    subst e
    exact .inl ⟨⟨_, _, z1, z2, by simp⟩, fin _ _ _ _ q h⟩
theorem c_iE {ta : TA} {R : It → Hp → Prop} (k : ta σ H fun vs H1 => ∃ a xs, vs = [.ref a] ∧ SqL K H1 a xs ∧ R (Ite K a) H1) : iEnum K ta σ H R := k
theorem c_iE1 {R : It → Hp → Prop} {xs : List V} (h : SqL K H a xs) (k : R (Ite K a) H) : ∃ b xs, [V.ref a] = [.ref b] ∧ SqL K H b xs ∧ R (Ite K b) H := ⟨a, xs, rfl, h, k⟩
theorem c_iZ {ta : TA} {R : It → Hp → Prop} (k : ta σ H fun vs H1 => ∃ a b xs ys, vs = [.ref a, .ref b] ∧ SqL K H1 a xs ∧ SqL K H1 b ys ∧ R (Itz K a b) H1) : iZip K ta σ H R := k
theorem c_iZ1 {R : It → Hp → Prop} {b : Addr} {xs ys : List V} (h : SqL K H a xs) (h2 : SqL K H b ys) (k : R (Itz K a b) H) : ∃ a' b' xs ys, [V.ref a, V.ref b] = [.ref a', .ref b'] ∧ SqL K H a' xs ∧ SqL K H b' ys ∧ R (Itz K a' b') H := ⟨a, b, xs, ys, rfl, h, h2, k⟩
end
section
variable {α : Type} {K : PySem.W.Frag} {a : Addr} {g : TG} {tt : TT} {te tl : TE} {σ : St} {H B : Hp} {L : Pic} {vs : List Nat}
/-- what a comprehension asks of its iterator -/
def LcO (J : It) (g : TG) (tt : TT) (te : TE) (vs : List Nat) (σ : St) (H : Hp) (P : Addr → Hp → Prop) : Prop := ∀ D, H D = none → ∃ W : Nat → Nat → Hp → Prop, (∃ m, W 0 m (upd H D (.lst []))) ∧ ∀ i m H, W i m H →
  (J.stop i H ∧ P D H) ∨ (J.go i H ∧ ∃ Nx : Hp → Prop, (∀ H', Nx H' → ∃ m', m' < m ∧ W (i + 1) m' H') ∧ ∀ x H', J.yld i H x H' → g x (wipe σ vs) H' fun σ2 H2 => wipe σ2 vs = wipe σ vs ∧ tt σ2 H2 fun b H3 =>
    if b = true then te σ2 H3 fun y H4 => ∃ acc, H4 D = some (.lst acc) ∧ acc.length < sizeLine ∧ Nx (upd H4 D (.lst (acc ++ [y]))) else Nx H3)
theorem c_lcE {P : Addr → Hp → Prop} (f : α → V) (l : List α) (I : List α → List V → Hp → Prop) (hs : Hs B L H) (h0 : I [] [] B) (hq : ∀ B' H', Same B B' → Hs B' L H' → SqL K H' a (l.map f))
    (turn : ∀ pre x post acc B' D T H', l = pre ++ x :: post → I pre acc B' → Same B B' → Hs B' ((T, .tup [.int ((pre.length : Nat) : Int), f x]) :: (D, .lst acc) :: L) H' → g (.ref T) (wipe σ vs) H' fun σ2 H2 => wipe σ2 vs = wipe σ vs ∧ tt σ2 H2 fun b H3 =>
      if b = true then te σ2 H3 fun y H4 => ∃ acc, H4 D = some (.lst acc) ∧ acc.length < sizeLine ∧ LcN I B L D (pre ++ [x]) (upd H4 D (.lst (acc ++ [y]))) else LcN I B L D (pre ++ [x]) H3)
    (fin : ∀ acc B' D H', I l acc B' → Same B B' → Hs B' ((D, .lst acc) :: L) H' → P D H') : LcO (Ite K a) g tt te vs σ H P := by
  intro D hD
  refine ⟨fun i m H' => m = l.length - i ∧ i ≤ l.length ∧ LcN I B L D (l.take i) H', ⟨l.length, by simp, Nat.zero_le _, [], B, by simpa using h0, Same.refl B, hs.new hD⟩, ?_⟩
  rintro i m H' ⟨rfl, hi, acc, B', q, e, h⟩
  have z := hq B' H' e h.drop
  by_cases hlt : i < l.length
  · refine .inr ⟨⟨l.map f, f l[i], z, by simp [hlt]⟩, LcN I B L D (l.take (i + 1)), fun H2 p => ⟨_, by omega, rfl, hlt, p⟩, ?_⟩
    rintro v H2 ⟨T, x, rfl, hT, rfl, hx⟩
    obtain ⟨y, e1, rfl⟩ := get_map (hx _ z)
    obtain ⟨e2, e3⟩ := take_split e1
    have el : (l.take i).length = i := by rw [List.length_take]; omega
    have w := turn _ y _ acc B' D T _ e2 q e (by rw [el]; exact h.new hT)
    rw [e3]
    exact w
  · have e' : i = l.length := by omega
    subst e'
    exact .inl ⟨⟨_, z, by simp⟩, fin acc B' D H' (by simpa using q) e h⟩
end
/-! ### lists of tuples -/
section
variable {K : PySem.W.Frag} {H H' : Hp}
/-- each of these values is a tuple of those items -/
inductive Tups (K : PySem.W.Frag) (H : Hp) : List V → List (List V) → Prop where
  | nil : Tups K H [] []
  | cons {a : Addr} {xs : List V} {vs : List V} {r : List (List V)} : SqT K H a xs → Tups K H vs r → Tups K H (V.ref a :: vs) (xs :: r)
theorem Tups.same (e : Same H H') : ∀ {vs : List V} {ps : List (List V)}, Tups K H vs ps → Tups K H' vs ps
  | _, _, .nil => .nil
  | _, _, .cons h t => .cons (same_sqt e h) (Tups.same e t)
theorem Tups.length : ∀ {vs : List V} {ps : List (List V)}, Tups K H vs ps → vs.length = ps.length
  | _, _, .nil => rfl
  | _, _, .cons _ t => congrArg (· + 1) t.length
theorem Tups.snoc {a : Addr} {xs : List V} : ∀ {vs : List V} {ps : List (List V)}, Tups K H vs ps → SqT K H a xs → Tups K H (vs ++ [.ref a]) (ps ++ [xs])
  | _, _, .nil, h => .cons h .nil
  | _, _, .cons z t, h => .cons z (t.snoc h)
theorem Tups.get : ∀ {vs : List V} {ps : List (List V)} {i : Nat} {xs : List V}, Tups K H vs ps → ps[i]? = some xs → ∃ a, vs[i]? = some (.ref a) ∧ SqT K H a xs
  | _, _, 0, _, .cons h _, e => by cases e; exact ⟨_, rfl, h⟩
  | _, _, i + 1, _, .cons _ t, e => t.get (i := i) e
theorem Tups.split {x : V} {post : List V} : ∀ {pre : List V} {ps : List (List V)}, Tups K H (pre ++ x :: post) ps → ∃ a p1 xs p2, x = .ref a ∧ ps = p1 ++ xs :: p2 ∧ p1.length = pre.length ∧ SqT K H a xs
  | [], ps, h => by
    cases (show Tups K H (x :: post) ps from h) with
    | cons hh t => exact ⟨_, [], _, _, rfl, rfl, rfl, hh⟩
  | y :: pre, ps, h => by
    cases (show Tups K H (y :: (pre ++ x :: post)) ps from h) with
    | cons hh t =>
      obtain ⟨a, p1, xs, p2, e1, e2, e3, e4⟩ := Tups.split t
      exact ⟨a, _ :: p1, xs, p2, e1, by rw [e2]; rfl, by simp [e3], e4⟩
end
end L2.BP
namespace L2.BP
open PySem PySem.Spec PyProof.Rows
section
variable {σ : St} {H B : Hp} {L : Pic} {K : PySem.W.Frag} {dn : St → Hp → Prop} {dr : VK} {db dc : St → Hp → Prop} {Q : VK} {tr : TA} {te to_ ti_ : TE} {a b : Addr} {xs ys : List V} {x v w o i : V}
theorem w_break (k : db σ H) : tBreak ⟨dn, dr, db, dc⟩ σ H := k
theorem w_cont (k : dc σ H) : tCont ⟨dn, dr, db, dc⟩ σ H := k
theorem w_retN (k : dr .non H) : tRetN ⟨dn, dr, db, dc⟩ σ H := k
def ParO (m n : Nat) (vs : List V) (σ : St) (dn : St → Hp → Prop) (H : Hp) : Prop := ∃ v w, vs = [v, w] ∧ dn ((σ.set m (some v)).set n (some w)) H
theorem w_par {m n : Nat} (k : tr σ H fun vs H1 => ParO m n vs σ dn H1) : tPar m n tr ⟨dn, dr, db, dc⟩ σ H := k
theorem c_parO {m n : Nat} (k : dn ((σ.set m (some v)).set n (some w)) H) : ParO m n [v, w] σ dn H := ⟨v, w, rfl, k⟩
/-! a list longer by another one, in place -/
theorem c_ext0 (hs : Hs B ((a, .lst xs) :: L) H) (hb : H b = some (.lst ys)) (hz : xs.length + ys.length ≤ sizeLine) (k : ∀ H', Hs B ((a, .lst (xs ++ ys)) :: L) H' → Q (.ref a) H') : ipAddU (.ref a) (.ref b) H Q :=
  .inr (.inl ⟨a, b, xs, ys, rfl, rfl, hs.get (.head _), hb, hz, k _ hs.u0⟩)
theorem c_extM0 (hs : Hs B ((a, .lst xs) :: L) H) (hb : H b = some (.lst ys)) (hz : xs.length + ys.length ≤ sizeLine) (k : ∀ H', Hs B ((a, .lst (xs ++ ys)) :: L) H' → Q .non H') : rExtend (.ref a) [.ref b] H Q :=
  ⟨a, b, xs, ys, rfl, rfl, hs.get (.head _), hb, hz, k _ hs.u0⟩
theorem c_clear0 (hs : Hs B ((a, .lst xs) :: L) H) (k : ∀ H', Hs B ((a, .lst []) :: L) H' → Q .non H') : rClear (.ref a) [] H Q := ⟨a, xs, rfl, rfl, hs.get (.head _), k _ hs.u0⟩
theorem c_reverse0 (hs : Hs B ((a, .lst xs) :: L) H) (k : ∀ H', Hs B ((a, .lst xs.reverse) :: L) H' → Q .non H') : rReverse (.ref a) [] H Q := ⟨a, xs, rfl, rfl, hs.get (.head _), k _ hs.u0⟩
/-! slices of tuples, lists turned round -/
theorem c_slT {lo hi : Option Int} (h : Hs B L H) (hq : SqT K H a xs) (hn : ¬ (HT.sIx xs.length 0 lo = 0 ∧ HT.sIx xs.length xs.length hi = xs.length)) (k : ∀ p H', Hs B ((p, .tup (cutV xs lo hi)) :: L) H' → Q (.ref p) H') : rSlK K (.ref a) lo hi H Q :=
  .inr (.inr ⟨a, xs, rfl, hq, hn, fun p hp => k p _ (h.new hp)⟩)
def RevO (K : PySem.W.Frag) (x : V) (H : Hp) (Q : VK) : Prop := ∃ a xs, x = .ref a ∧ SqL K H a xs ∧ ∀ p, H p = none → Q (.ref p) (upd H p (.lst xs.reverse))
theorem c_rev (k : te σ H fun x H1 => RevO K x H1 Q) : tRevL K te σ H Q := k
theorem c_revO (h : Hs B L H) (hq : SqL K H a xs) (k : ∀ p H', Hs B ((p, .lst xs.reverse) :: L) H' → Q (.ref p) H') : RevO K (.ref a) H Q := ⟨a, xs, rfl, hq, fun p hp => k p _ (h.new hp)⟩
/-! an item written -/
def SetO (o i v : V) (H : Hp) (P : Hp → Prop) : Prop := rSetL o i v H P
theorem g_sub {P : St → Hp → Prop} (k : to_ σ H fun o H1 => ti_ σ H1 fun i H2 => SetO o i v H2 (P σ)) : gSub to_ ti_ rSetL v σ H P := k
theorem w_set0 {j : Int} {m : Nat} {P : Hp → Prop} (hs : Hs B ((a, .lst xs) :: L) H) (e : j = ((m : Nat) : Int)) (hm : m < xs.length) (k : ∀ H', Hs B ((a, .lst (xs.set m v)) :: L) H' → P H') : SetO (.ref a) (.int j) v H P :=
  ⟨a, xs, j, m, rfl, rfl, hs.get (.head _), by subst e; unfold ixN; rw [if_pos (Int.natCast_nonneg _), if_pos (Int.ofNat_lt.mpr hm), Int.toNat_natCast], k _ hs.u0⟩
theorem w_set1 {q : Addr × HO} {j : Int} {m : Nat} {P : Hp → Prop} (hs : Hs B (q :: (a, .lst xs) :: L) H) (e : j = ((m : Nat) : Int)) (hm : m < xs.length) (k : ∀ H', Hs B (q :: (a, .lst (xs.set m v)) :: L) H' → P H') : SetO (.ref a) (.int j) v H P :=
  w_set0 hs.swap e hm fun H' h => k H' h.swap
theorem c_isiS {z : Str} (k : Q (.bl true) H) : rIsi K [.str z, .ty "str"] H Q := c_isiStr (.str z) k
theorem small6 {n : Nat} (h : n ≤ 200000) : n < sizeLine := Nat.lt_of_le_of_lt h (by decide)
theorem small6' {n : Nat} (h : n ≤ 200000) : n ≤ sizeLine := Nat.le_trans h (by decide)
end
end L2.BP
namespace L2.BP
open PySem PySem.Spec PyProof.Rows
section
variable {K : PySem.W.Frag} {W : WX} {vs : List V} {H : Hp} {Q : VK} {E : XK}
/-! ### == of lists -/
theorem eqvAll_ints : ∀ a b : List Int, PyData.eqvAll (a.map PyData.int) (b.map PyData.int) = decide (a = b)
  | [], [] => by simp [PyData.eqvAll]
  | [], y :: r => by simp [PyData.eqvAll]
  | x :: r, [] => by simp [PyData.eqvAll]
  | x :: r, y :: t => by
    rw [List.map_cons, List.map_cons, PyData.eqvAll, eqvAll_ints r t]
    simp only [PyData.eqv]
    by_cases h : x = y <;> by_cases h2 : r = t <;> simp [h, h2]
theorem canAll_ints : ∀ a : List Int, PyData.canLayAll0 (a.map PyData.int) = true
  | [] => by simp [PyData.canLayAll0]
  | x :: r => by
    rw [List.map_cons, PyData.canLayAll0, canAll_ints r]
    simp [PyData.canLay0]
theorem depAll_ints : ∀ a : List Int, PyData.depthAll (a.map PyData.int) ≤ 1
  | [] => by simp [PyData.depthAll]
  | x :: r => by
    have := depAll_ints r
    rw [List.map_cons, PyData.depthAll]
    simp [PyData.depth]
    omega
theorem shaped_ints (a : List Int) : SeqAt.shaped (.list (a.map PyData.int)) = true := by
  unfold SeqAt.shaped
  rw [PyData.canLay0, canAll_ints, PyData.depth]
  have := depAll_ints a
  simp
  omega
theorem c_eqL {p q : Addr} (a b : List Int) (h1 : SqL K H p (a.map V.int)) (h2 : SqL K H q (b.map V.int)) (k : Q (.bl (decide (a = b))) H) : rEqU K (.ref p) (.ref q) H Q := by
  refine c_eqD (.lst h1 (dpa_ints a)) (.lst h2 (dpa_ints b)) (shaped_ints a) (shaped_ints b) ?_
  rw [PyData.eqv, eqvAll_ints]
  exact k
theorem c_neL {p q : Addr} (a b : List Int) (h1 : SqL K H p (a.map V.int)) (h2 : SqL K H q (b.map V.int)) (k : Q (.bl (!decide (a = b))) H) : rNeU K (.ref p) (.ref q) H Q := by
  refine c_neD (.lst h1 (dpa_ints a)) (.lst h2 (dpa_ints b)) (shaped_ints a) (shaped_ints b) ?_
  rw [PyData.eqv, eqvAll_ints]
  exact k
/-! a list of tuples of whole numbers and texts against an equal one -/
def vD : V → PyData
  | .int i => .int i
  | .str x => .str x
  | .bl b => .bool b
  | _ => .none
def flatV : V → Bool
  | .int _ => true
  | .str x => PyData.canLay0 (.str x)
  | .bl _ => true
  | .non => true
  | _ => false
theorem dp_flat : ∀ {v : V}, flatV v = true → Dp K H v (vD v)
  | .int i, _ => .int i
  | .str x, _ => .str x
  | .bl b, _ => .bl b
  | .non, _ => .non
theorem dpa_flat : ∀ {xs : List V}, xs.all flatV = true → DpAll K H xs (xs.map vD)
  | [], _ => .nil
  | x :: r, h => by
    rw [List.all_cons, Bool.and_eq_true] at h
    exact .cons (dp_flat h.1) (dpa_flat h.2)
theorem can_flat : ∀ {v : V}, flatV v = true → (vD v).canLay0 = true ∧ (vD v).depth = 0
  | .int i, _ => ⟨by simp [vD, PyData.canLay0], by simp [vD, PyData.depth]⟩
  | .str x, h => ⟨h, by simp [vD, PyData.depth]⟩
  | .bl b, _ => ⟨by simp [vD, PyData.canLay0], by simp [vD, PyData.depth]⟩
  | .non, _ => ⟨by simp [vD, PyData.canLay0], by simp [vD, PyData.depth]⟩
theorem canAll_flat : ∀ {xs : List V}, xs.all flatV = true → PyData.canLayAll0 (xs.map vD) = true ∧ PyData.depthAll (xs.map vD) ≤ 1
  | [], _ => ⟨by simp [PyData.canLayAll0], by simp [PyData.depthAll]⟩
  | x :: r, h => by
    rw [List.all_cons, Bool.and_eq_true] at h
    obtain ⟨h1, h2⟩ := can_flat h.1
    obtain ⟨h3, h4⟩ := canAll_flat h.2
    rw [List.map_cons, PyData.canLayAll0, PyData.depthAll, h1, h2, h3]
    exact ⟨rfl, by omega⟩
def tupD (xs : List V) : PyData := .tuple (xs.map vD)
theorem canAll_tups : ∀ {xss : List (List V)}, (∀ xs ∈ xss, xs.all flatV = true) → PyData.canLayAll0 (xss.map tupD) = true ∧ PyData.depthAll (xss.map tupD) ≤ 3
  | [], _ => ⟨by simp [PyData.canLayAll0], by simp [PyData.depthAll]⟩
  | x :: r, h => by
    obtain ⟨h1, h2⟩ := canAll_flat (h x (.head _))
    obtain ⟨h3, h4⟩ := canAll_tups fun y hy => h y (.tail _ hy)
    have e1 : (tupD x).canLay0 = true := by
      unfold tupD
      rw [PyData.canLay0, h1]
    have e2 : (tupD x).depth ≤ 2 := by
      unfold tupD
      rw [PyData.depth]
      omega
    rw [List.map_cons, PyData.canLayAll0, PyData.depthAll, h3, e1]
    exact ⟨rfl, by omega⟩
theorem shaped_tups {xss : List (List V)} (h : ∀ xs ∈ xss, xs.all flatV = true) : SeqAt.shaped (.list (xss.map tupD)) = true := by
  obtain ⟨h1, h2⟩ := canAll_tups h
  unfold SeqAt.shaped
  rw [PyData.canLay0, PyData.depth, h1]
  simp
  omega
theorem dpa_tups : ∀ {ws : List V} {xss : List (List V)}, Tups K H ws xss → (∀ xs ∈ xss, xs.all flatV = true) → DpAll K H ws (xss.map tupD)
  | _, _, .nil, _ => .nil
  | _, _, .cons z t, h => .cons (.tup z (dpa_flat (h _ (.head _)))) (dpa_tups t fun y hy => h y (.tail _ hy))
theorem eqv_vD (v : V) : PyData.eqv (vD v) (vD v) = true := by cases v <;> simp [vD, PyData.eqv]
theorem eqvAll_vD : ∀ xs : List V, PyData.eqvAll (xs.map vD) (xs.map vD) = true
  | [] => by simp [PyData.eqvAll]
  | x :: r => by rw [List.map_cons, PyData.eqvAll, eqv_vD, eqvAll_vD r]; rfl
theorem eqvAll_tupD : ∀ xss : List (List V), PyData.eqvAll (xss.map tupD) (xss.map tupD) = true
  | [] => by simp [PyData.eqvAll]
  | x :: r => by
    have e : PyData.eqv (tupD x) (tupD x) = true := by
      unfold tupD
      rw [PyData.eqv, eqvAll_vD]
    rw [List.map_cons, PyData.eqvAll, e, eqvAll_tupD r]
    rfl
theorem eqv_tups {xss : List (List V)} : PyData.eqv (.list (xss.map tupD)) (.list (xss.map tupD)) = true := by rw [PyData.eqv, eqvAll_tupD]
/-- two lists of equal tuples -/
theorem c_neT {p q : Addr} {ws us : List V} {xss : List (List V)} (hf : ∀ xs ∈ xss, xs.all flatV = true) (h1 : SqL K H p ws) (t1 : Tups K H ws xss) (h2 : SqL K H q us) (t2 : Tups K H us xss) (k : Q (.bl false) H) : rNeU K (.ref p) (.ref q) H Q := by
  refine c_neD (.lst h1 (dpa_tups t1 hf)) (.lst h2 (dpa_tups t2 hf)) (shaped_tups hf) (shaped_tups hf) ?_
  rw [eqv_tups]
  exact k
theorem c_eqT {p q : Addr} {ws us : List V} {xss : List (List V)} (hf : ∀ xs ∈ xss, xs.all flatV = true) (h1 : SqL K H p ws) (t1 : Tups K H ws xss) (h2 : SqL K H q us) (t2 : Tups K H us xss) (k : Q (.bl true) H) : rEqU K (.ref p) (.ref q) H Q := by
  refine c_eqD (.lst h1 (dpa_tups t1 hf)) (.lst h2 (dpa_tups t2 hf)) (shaped_tups hf) (shaped_tups hf) ?_
  rw [eqv_tups]
  exact k
end
end L2.BP
namespace L2.BP
open PySem PySem.Spec PyProof.Rows
/-- both ways of an if meet again -/
theorem w_cut {t u : TS} {dn : St → Hp → Prop} {dr : VK} {db dc : St → Hp → Prop} {σ : St} {H : Hp} (Mid : St → Hp → Prop) (h1 : t ⟨Mid, dr, db, dc⟩ σ H) (h2 : ∀ σ' H', Mid σ' H' → u ⟨dn, dr, db, dc⟩ σ' H') : Evl.tCut t u ⟨dn, dr, db, dc⟩ σ H := ⟨Mid, h1, h2⟩
end L2.BP
namespace L2.BP
open PySem PySem.Spec PyProof.Rows
section
variable {X : Cx} {K : PySem.W.Frag} {σ : St} {H B : Hp} {L : Pic} {Q : VK} {te to_ ti_ : TE} {v : V} {P : St → Hp → Prop}
/-! a field as one of several targets -/
def gAttr (K : PySem.W.Frag) (ta : TE) (f : Str) : TG := fun v σ H P => ta σ H fun x H1 => PutO K f v x H1 (P σ)
theorem pg_attr {o : Expr} {f : Str} {pos : Pos} {ta : TE} (ho : PE X o ta) : PG X (.Attribute o f pos) (gAttr X.K ta f) := by
  refine ⟨fun pins s σ H v u Q I r h => ?_⟩
  show wpAny _ _ (do let ov ← holding [u] (eval o X.env); standAt pos.atName; holding [u, ov] (setAttr ov f u); release [u, ov] []) _ _ _
  refine wpAny_bind (wpAny_holding (thn (ho.run pins s σ H _ I h) fun ov s1 ⟨x, H1, I1, r1, a, C, dx, fs, ex, ea, c, n, l, q⟩ => ?_))
  subst ex
  obtain rfl : ov = Value.ref a := r1
  refine wpAny_bind (wpAny_standAt (wpAny_bind (wpAny_holding ?_)))
  exact setattr_ok I1 ea c n l r fun s2 I2 => wpAny_release ⟨σ, _, I2, q⟩
theorem g_attr {f : Str} (k : te σ H fun x H1 => PutO K f v x H1 (P σ)) : gAttr K te f v σ H P := k
/-! how many different ones -/
def LsO (K : PySem.W.Frag) (x : V) (H : Hp) (Q : VK) : Prop := ∃ (l : Addr) (ns : List Int), x = .ref l ∧ SqL K H l (ns.map V.int) ∧ ns.Nodup ∧ ns.length ≤ 4000 ∧ Q (.int (ns.length : Nat)) H
theorem c_lenset (k : te σ H fun x H1 => LsO K x H1 Q) : RZ.tLenSetI K te σ H Q := k
theorem c_lsO {a : Addr} {ns : List Int} (h : SqL K H a (ns.map V.int)) (hn : ns.Nodup) (hl : ns.length ≤ 4000) (k : Q (.int (ns.length : Nat)) H) : LsO K (.ref a) H Q := ⟨a, ns, rfl, h, hn, hl, k⟩
/-! dicts that are written out -/
def DispO (p : Addr) (ps : List (V × V)) (H : Hp) (Q : VK) : Prop := H p = some (.dK []) ∧ ∃ kvs : List (Key × V), ps = kvs.map (fun kv => (kV kv.1, kv.2)) ∧ kvs.length ≤ 15 ∧ Q (.ref p) (upd H p (.dK (mergeK [] kvs)))
theorem c_disp {trs : List (TE × TE)} (hs : Hs B L H) (k : ∀ p H', Hs B ((p, .dK []) :: L) H' → tPairs trs σ H' fun ps H2 => DispO p ps H2 Q) : tDisp trs σ H Q := fun p hp => k p _ (hs.new hp)
theorem c_tpc {tk tv : TE} {r : List (TE × TE)} {R : List (V × V) → Hp → Prop} (k : tk σ H fun x H1 => tv σ H1 fun y H2 => tPairs r σ H2 fun ps H3 => R ((x, y) :: ps) H3) : tPairs ((tk, tv) :: r) σ H R := k
theorem c_tpn {R : List (V × V) → Hp → Prop} (k : R [] H) : tPairs [] σ H R := k
theorem c_dispO {p : Addr} {ps : List (V × V)} (kvs : List (Key × V)) (hs : Hs B ((p, .dK []) :: L) H) (e : ps = kvs.map (fun kv => (kV kv.1, kv.2))) (hl : kvs.length ≤ 15) (k : ∀ H', Hs B ((p, .dK (mergeK [] kvs)) :: L) H' → Q (.ref p) H') : DispO p ps H Q :=
  ⟨hs.get (.head _), kvs, e, hl, k _ hs.u0⟩
def DgO (x y : V) (H : Hp) (Q : VK) : Prop := ∃ a v, x = .ref a ∧ DGet H a y (some v) ∧ Q v H
theorem c_dget {td ty : TE} (k : td σ H fun x H1 => ty σ H1 fun y H2 => DgO x y H2 Q) : tDGet td ty σ H Q := k
theorem c_dgO {a : Addr} {kvs : List (Key × V)} {key : Key} (h : H a = some (.dK kvs)) (e : valV kvs key = some v) (k : Q v H) : DgO (.ref a) (kV key) H Q := ⟨a, v, rfl, by rw [← e]; exact DGet.k h, k⟩
/-! in a list -/
theorem inV_int (i : Int) : ∀ ns : List Int, L2.inV (.int i) (ns.map V.int) = decide (i ∈ ns)
  | [] => by simp [L2.inV]
  | n :: r => by
    have ih := inV_int i r
    have e : L2.eqV (.int n) (.int i) = decide (n = i) := by
      show (n == i) = decide (n = i)
      by_cases h : n = i <;> simp [h]
    unfold L2.inV at ih ⊢
    rw [List.map_cons, List.any_cons, ih, e]
    by_cases h : n = i
    · simp [h]
    · simp [h, Ne.symm h]
theorem flat_ints (ns : List Int) : (ns.map V.int).all L2.flatV = true := by simp [L2.flatV]
theorem c_inL {a : Addr} {i : Int} (ns : List Int) (h : SqL K H a (ns.map V.int)) (k : Q (.bl (decide (i ∈ ns))) H) : rInU K (.int i) (.ref a) H Q :=
  .inl ⟨a, _, rfl, .inl h, rfl, flat_ints ns, by rw [inV_int]; exact k⟩
theorem c_niL {a : Addr} {i : Int} (ns : List Int) (h : SqL K H a (ns.map V.int)) (k : Q (.bl (!decide (i ∈ ns))) H) : rNiU K (.int i) (.ref a) H Q :=
  .inl ⟨a, _, rfl, .inl h, rfl, flat_ints ns, by rw [inV_int]; exact k⟩
theorem c_inT {a : Addr} {i : Int} (ns : List Int) (h : SqT K H a (ns.map V.int)) (k : Q (.bl (decide (i ∈ ns))) H) : rInU K (.int i) (.ref a) H Q :=
  .inl ⟨a, _, rfl, .inr h, rfl, flat_ints ns, by rw [inV_int]; exact k⟩
theorem xor_nat (a b : Nat) : Builtin.bitXor ((a : Nat) : Int) ((b : Nat) : Int) = ((a ^^^ b : Nat) : Int) := by
  rw [Bits.bitXor_pp (Int.natCast_nonneg a) (Int.natCast_nonneg b), Int.toNat_natCast, Int.toNat_natCast]
end
end L2.BP
namespace L2.BP
open PySem PySem.Spec PyProof.Rows
section
variable {K : PySem.W.Frag} {σ : St} {H B : Hp} {L : Pic} {Q : VK} {ta tb : TE} {a : Addr} {xs : List V}
/-- x or y, by what is empty -/
def OrO (K : PySem.W.Frag) (x : V) (tb : TE) (σ : St) (H : Hp) (Q : VK) : Prop := ∃ k, TruV K x H k ∧ if k = true then Q x H else tb σ H Q
theorem c_orT (k : ta σ H fun x H1 => OrO K x tb σ H1 Q) : tOrT K ta tb σ H Q := k
theorem c_orL (h : SqL K H a xs) (k1 : xs ≠ [] → Q (.ref a) H) (k2 : xs = [] → tb σ H Q) : OrO K (.ref a) tb σ H Q := by
  refine ⟨!xs.isEmpty, .inl ⟨xs, h, rfl⟩, ?_⟩
  cases xs with
  | nil => exact iteF (k2 rfl)
  | cons x r => exact iteT (k1 (by simp))
end
end L2.BP
section
open L2.BP
/-! steps, as rows of the tactic that the library names walk_at -/
local macro_rules | `(tactic| walk_at "mem") => `(tactic| first | exact .head _ | exact .tail _ (.head _) | exact .tail _ (.tail _ (.head _)) | exact .tail _ (.tail _ (.tail _ (.head _))) | exact .tail _ (.tail _ (.tail _ (.tail _ (.head _)))) | exact .tail _ (.tail _ (.tail _ (.tail _ (.tail _ (.head _))))))
local macro_rules | `(tactic| walk_at "get") => `(tactic| first | assumption | ((with_reducible apply Hs.get); (· assumption); (· walk_at "mem")) | exact (Hs.ex (by assumption)) _ _ (by assumption))
local macro_rules | `(tactic| walk_at "sq") => `(tactic| first | assumption | ((with_reducible apply Hs.sql); (· assumption); (· walk_at "mem")) | ((with_reducible apply Hs.bl); (· assumption); (· assumption)) | ((with_reducible apply SqL.of); (walk_at "get")))
local macro_rules | `(tactic| walk_at "sqt") => `(tactic| first | assumption | ((with_reducible apply Hs.sqt); (· assumption); (· walk_at "mem")) | ((with_reducible apply Hs.bt); (· assumption); (· assumption)) | ((with_reducible apply SqT.of); (walk_at "get")))
local macro_rules | `(tactic| walk_at "bd") => `(tactic| first | decide | omega | assumption)
local macro_rules | `(tactic| walk_at "cmul") => `(tactic| first | exact .inr ⟨by decide, by decide⟩ | exact .inl ⟨by decide, by decide⟩ | exact .inl ⟨by omega, by omega⟩ | exact .inr ⟨by omega, by omega⟩ | assumption)
local macro_rules | `(tactic| walk_at "yes") => `(tactic| first | rfl | assumption | exact decide_eq_true (by first | assumption | omega) | (simp only [Bool.not_eq_true', decide_eq_true_eq, decide_eq_false_iff_not, Bool.and_eq_true, Bool.or_eq_true] <;> omega))
local macro_rules | `(tactic| walk_at "no") => `(tactic| first | rfl | assumption | exact decide_eq_false (by first | assumption | omega) | (simp only [Bool.not_eq_false', decide_eq_true_eq, decide_eq_false_iff_not, Bool.and_eq_false_iff, Bool.or_eq_false_iff] <;> omega))
local macro_rules | `(tactic| walk_at "look") => `(tactic| first | (with_reducible exact look0) | ((with_reducible apply lookS); (· (decide +kernel)); walk_at "look"))
local macro_rules | `(tactic| walk_at "lookn") => `(tactic| first | (with_reducible exact lookN) | ((with_reducible apply lookNS); (· (decide +kernel)); walk_at "lookn"))
local macro_rules | `(tactic| walk_at "put") => `(tactic| first | (with_reducible exact put0) | (with_reducible exact putN) | ((with_reducible apply putS); (· (decide +kernel)); walk_at "put"))
local macro_rules | `(tactic| walk_at "few") => `(tactic| (exact of_decide_eq_true rfl))
local macro_rules | `(tactic| walk_at "s") => `(tactic| first
  | ((with_reducible apply c_var); (· exact rfl))
  | (with_reducible apply c_c)
  | (with_reducible apply c_op)
  | (with_reducible apply w_seq)
  | (with_reducible apply w_asg)
  | (with_reducible apply w_name)
  | (with_reducible apply w_if)
  | (with_reducible apply c_test)
  | (with_reducible apply c_bl)
  | ((with_reducible apply i_t); (· walk_at "yes"))
  | ((with_reducible apply i_f); (· walk_at "no"))
  | (with_reducible apply c_cons)
  | (with_reducible apply c_nil)
  | (with_reducible apply c_cb)
  | (with_reducible apply c_cl)
  | (with_reducible apply w_ret)
  | (with_reducible apply w_drop)
  | (with_reducible apply w_break)
  | (with_reducible apply w_cont)
  | (with_reducible apply w_retN)
  | (with_reducible apply w_par)
  | (with_reducible apply c_parO)
  | (with_reducible apply c_rev)
  | (with_reducible apply g_sub)
  | (with_reducible apply g_attr)
  | (with_reducible apply c_orT)
  | (with_reducible apply c_lenset)
  | (with_reducible apply c_dget)
  | (with_reducible apply c_tpc)
  | (with_reducible apply c_tpn)
  | ((with_reducible apply c_disp); (· assumption); intro _ _ _)
  | (with_reducible apply w_next)
  | (with_reducible apply c_addI)
  | (with_reducible apply c_sub)
  | ((with_reducible apply c_mulI); (· walk_at "cmul"))
  | ((with_reducible apply c_mod); (· walk_at "bd"))
  | ((with_reducible apply c_div); (· exact ⟨by walk_at "bd", by walk_at "bd"⟩))
  | (with_reducible apply c_lt)
  | (with_reducible apply c_le)
  | (with_reducible apply c_gt)
  | (with_reducible apply c_ge)
  | (with_reducible apply c_eqI)
  | ((with_reducible apply c_eqL); (· walk_at "sq"); (· walk_at "sq"))
  | ((with_reducible apply c_neL); (· walk_at "sq"); (· walk_at "sq"))
  | (with_reducible apply c_neI)
  | (with_reducible apply c_eqB)
  | (with_reducible apply c_neB)
  | (with_reducible apply c_eqS)
  | (with_reducible apply c_neS)
  | (with_reducible apply c_isN)
  | (with_reducible apply c_notN)
  | (with_reducible apply c_isB)
  | (with_reducible apply c_notB)
  | (with_reducible apply c_un)
  | (with_reducible apply c_neg)
  | (with_reducible apply c_and)
  | (with_reducible apply c_or)
  | (with_reducible apply c_xor)
  | ((with_reducible apply c_shr); (· walk_at "bd"))
  | ((with_reducible apply c_shl); (· exact ⟨by walk_at "bd", by walk_at "bd", by walk_at "bd"⟩))
  | (with_reducible apply c_B)
  | (with_reducible apply c_tand)
  | (with_reducible apply c_tor)
  | (with_reducible apply c_tnot)
  | (with_reducible apply c_andV)
  | (with_reducible apply c_orV)
  | (with_reducible apply c_notV)
  | (with_reducible apply c_chain)
  | (with_reducible apply c_if)
  | (with_reducible apply c_isi_ii)
  | (with_reducible apply c_isi_ib)
  | ((with_reducible apply c_lenL); (· walk_at "sq"))
  | ((with_reducible apply c_lenT); (· walk_at "sqt"))
  | (with_reducible apply c_isiS)
  | ((with_reducible apply c_ixL); (· (walk_at "sq")); (· first | exact rfl | assumption))
  | ((with_reducible apply c_ixT); (· (walk_at "sqt")); (· first | exact rfl | assumption))
  | (with_reducible apply c_tup)
  | (with_reducible apply c_lst)
  | ((with_reducible apply c_tupO); (· assumption); (· exact small5' (of_decide_eq_true rfl)); intro _ _ _)
  | ((with_reducible apply c_lstO); (· assumption); (· exact small5' (of_decide_eq_true rfl)); intro _ _ _)
  | ((with_reducible apply w_aug); (· exact rfl))
  | (with_reducible apply c_ipAddI)
  | (with_reducible apply c_ipSub)
  | (with_reducible apply c_intI)
  | (with_reducible apply c_intB)
  | (with_reducible apply c_max2)
  | (with_reducible apply c_mt)
  | ((with_reducible apply c_recv); (· (walk_at "get")); (· (walk_at "lookn")))
  | (with_reducible apply c_tfld)
  | ((with_reducible apply c_fld); (· (walk_at "get")); (· assumption); (· assumption); (· (walk_at "look")))
  | (with_reducible apply w_sfld)
  | (with_reducible apply w_sfldAug)
  | ((with_reducible apply c_fldA); (· (walk_at "get")); (· assumption); (· assumption); (· (walk_at "look")))
  | (with_reducible apply c_radd)
  | (with_reducible apply c_rsub)
  | ((with_reducible apply w_put0); (· assumption); (· assumption); (· assumption); (· (walk_at "few")); (· (walk_at "put")); intro _ _)
  | ((with_reducible apply w_put1); (· assumption); (· assumption); (· assumption); (· (walk_at "few")); (· (walk_at "put")); intro _ _)
  | ((with_reducible apply w_put2); (· assumption); (· assumption); (· assumption); (· (walk_at "few")); (· (walk_at "put")); intro _ _)
  | ((with_reducible apply w_aput0); (· assumption); (· (walk_at "few")); (· (walk_at "put")); intro _ _)
  | ((with_reducible apply w_aput1); (· assumption); (· (walk_at "few")); (· (walk_at "put")); intro _ _)
  | ((with_reducible apply w_aput2); (· assumption); (· (walk_at "few")); (· (walk_at "put")); intro _ _)
  | (with_reducible apply c_bm)
  | (with_reducible apply c_bm0)
  | ((with_reducible apply c_tyL); (· (walk_at "sq")))
  | (with_reducible apply c_sl)
  | (with_reducible apply c_part)
  | (with_reducible apply c_nopart)
  | (with_reducible apply c_i)
  | (with_reducible apply c_lc)
  | (with_reducible apply w_for)
  | (with_reducible apply c_iL)
  | (with_reducible apply c_iT)
  | (with_reducible apply c_iR1)
  | (with_reducible apply c_iR2)
  | (with_reducible apply c_yes)
  | (with_reducible apply g_cons)
  | (with_reducible apply g_nil)
  | ((with_reducible apply g_tup); (· (walk_at "sqt")); (· exact rfl))
  | (with_reducible apply c_mk)
  | ((with_reducible apply c_mkO); (· assumption); intro _ _ _ _)
  | (with_reducible apply c_iE)
  | (with_reducible apply c_iZ)
  | ((with_reducible apply c_iE1); (· walk_at "sq"))
  | ((with_reducible apply c_slL); (· assumption); (· walk_at "sq"); intro _ _ _)
  | ((with_reducible apply c_listL); (· assumption); (· walk_at "sq"); intro _ _ _)
  | (with_reducible apply c_min2))
local macro_rules | `(tactic| walk_at "go") => `(tactic| repeat walk_at "s")
namespace L2.BR
open PySem PySem.Spec PyProof.Rows L2.BP
variable {K : PySem.W.Frag} {W : WX} {vs : List V} {H : Hp} {Q : VK} {E : XK}
/-! ### rows -/
def Tg.isByte : Tg → Bool
  | .int i => decide (0 ≤ i) && decide (i ≤ 255)
  | _ => false
def sp_is_byte (K : PySem.W.Frag) : Sp := fun vs H Q _ => ∃ (v : V) (g : Tg), vs = [v] ∧ Th K H v g ∧ Q (.bl (Tg.isByte g)) H
theorem len_is_byte (h : sp_is_byte K vs H Q E) : vs.length = 1 := by
  obtain ⟨v, g, rfl, _⟩ := h
  rfl
def t_is_byte (K : PySem.W.Frag) (W : WX) : TS :=
  (tRet ((tAndV (tCB (rIsi K) (tCons (tVar 0) (tCons (tC (.ty "int")) tNil))) (tAndV (tNotV (tCB (rIsi K) (tCons (tVar 0) (tCons (tC (.ty "bool")) tNil)))) (tChain rLeU rLeU (tC (.int 0)) (tVar 0) (tC (.int 255)))))))
theorem rd_is_byte (h : sp_is_byte K vs H Q E) : t_is_byte K W { nx := fun _ H' => Q .non H', rt := Q } (start ["thing"] vs) H := by
  obtain ⟨v, g, rfl, hT, q⟩ := h
  have hs := Hs.start H
  unfold t_is_byte
  cases hT with
  | int i =>
    have q : Q (.bl (decide (0 ≤ i) && decide (i ≤ 255))) H := q
    walk_at "go"
    cases e : decide ((0 : Int) ≤ i) with
    | false =>
      rw [e] at q
      walk_at "go"
      exact q
    | true =>
      rw [e] at q
      walk_at "go"
      exact q
  | bl b =>
    walk_at "go"
    refine c_isiInt (.bl b) ?_
    walk_at "go"
    refine c_isiBool (.bl b) ?_
    walk_at "go"
    exact q
  | non => walk_at "go"; refine c_isiInt .non ?_; walk_at "go"; exact q
  | str x => walk_at "go"; refine c_isiInt (.str x) ?_; walk_at "go"; exact q
  | lst z => walk_at "go"; refine c_isiInt (.lst z) ?_; walk_at "go"; exact q
  | tup z => walk_at "go"; refine c_isiInt (.tup z) ?_; walk_at "go"; exact q
  | dic z => walk_at "go"; refine c_isiInt (.dic z) ?_; walk_at "go"; exact q
/-- whether a thing is a byte, by itself -/
def byteV : V → Bool
  | .int i => decide (0 ≤ i) && decide (i ≤ 255)
  | _ => false
theorem byteV_of {v : V} {g : Tg} (h : Th K H v g) : Tg.isByte g = byteV v := by cases h <;> rfl
def Tg.isRow : Tg → Bool
  | .lst xs => xs.all byteV
  | _ => false
/-- the thing may be looked at: its items are things, too -/
def Tg.ok (K : PySem.W.Frag) (H : Hp) : Tg → Prop
  | .lst xs => (∀ x ∈ xs, ∃ g, Th K H x g) ∧ xs.length ≤ 100000
  | _ => True
def sp_is_row (K : PySem.W.Frag) : Sp := fun vs H Q _ => ∃ (v : V) (g : Tg), vs = [v] ∧ Th K H v g ∧ Tg.ok K H g ∧ RetV H Q (.bl (Tg.isRow g))
theorem len_is_row (h : sp_is_row K vs H Q E) : vs.length = 1 := by
  obtain ⟨v, g, rfl, _⟩ := h
  rfl
def t_is_row (K : PySem.W.Frag) (W : WX) : TS :=
  (tRet ((tAndV (tCB (rIsi K) (tCons (tVar 0) (tCons (tC (.ty "list")) tNil))) (tCB (rAll K) (tCons (tLc (iList K (tVar 0)) (gName 1) tYes (tCl (sp_is_byte K) [] WF (tCons (tVar 1) tNil)) [1]) tNil)))))
theorem rd_is_row (h : sp_is_row K vs H Q E) : t_is_row K W { nx := fun _ H' => Q .non H', rt := Q } (start ["thing", "number"] vs) H := by
  obtain ⟨v, g, rfl, hT, hok, q⟩ := h
  have hs := Hs.start H
  unfold t_is_row
  cases hT with
  | @lst a xs z =>
    walk_at "go"
    refine c_isiList (.lst z) ?_
    walk_at "go"
    refine c_lcL (f := id) xs (fun pre acc B => acc = (pre.map byteV).map V.bl) hs rfl (fun B' H' e h => by rw [List.map_id]; exact (e.trans h.ex).seq z) ?_ ?_
    · intro pre x post acc B' D H' e i eB h
      obtain ⟨g, hg⟩ := hok.1 x (by rw [e]; simp)
      walk_at "go"
      refine ⟨rfl, ?_⟩
      walk_at "go"
      refine ⟨x, g, rfl, hg.same (eB.trans h.ex), ?_⟩
      subst i
      refine c_item h (small5 ?_) eB ?_
      · have := congrArg List.length e
        have := hok.2
        simp at *
        omega
      · rw [byteV_of hg]
        simp
    · intro acc B' D H' i eB h
      subst i
      walk_at "go"
      refine c_all (h.sql (.head _)) ?_
      have e : ((xs.map byteV).all id) = xs.all byteV := by simp
      rw [e]
      exact q _ (eB.trans h.ex)
  | non => walk_at "go"; refine c_isiList .non ?_; walk_at "go"; exact q _ hs.ex
  | bl b => walk_at "go"; refine c_isiList (.bl b) ?_; walk_at "go"; exact q _ hs.ex
  | int i => walk_at "go"; refine c_isiList (.int i) ?_; walk_at "go"; exact q _ hs.ex
  | str x => walk_at "go"; refine c_isiList (.str x) ?_; walk_at "go"; exact q _ hs.ex
  | tup z => walk_at "go"; refine c_isiList (.tup z) ?_; walk_at "go"; exact q _ hs.ex
  | dic z => walk_at "go"; refine c_isiList (.dic z) ?_; walk_at "go"; exact q _ hs.ex
/-- a row: its numbers -/
def Bytes (ns : List Int) : Prop := ∀ n ∈ ns, 0 ≤ n ∧ n ≤ 255
theorem ints_of : ∀ {xs : List V}, xs.all byteV = true → ∃ ns : List Int, xs = ns.map V.int ∧ Bytes ns
  | [], _ => ⟨[], rfl, fun _ h => nomatch h⟩
  | x :: r, h => by
    simp only [List.all_cons, Bool.and_eq_true] at h
    obtain ⟨ns, e, hb⟩ := ints_of h.2
    cases x with
    | int i =>
      refine ⟨i :: ns, by rw [e]; rfl, fun n hn => ?_⟩
      rcases List.mem_cons.mp hn with z | z
      · have h1 := h.1
        simp only [byteV, Bool.and_eq_true, decide_eq_true_eq] at h1
        rw [z]
        exact h1
      · exact hb n z
    | _ => cases h.1
theorem all_byteV {ns : List Int} (h : Bytes ns) : (ns.map V.int).all byteV = true := by
  rw [List.all_eq_true]
  intro x hx
  obtain ⟨n, hn, rfl⟩ := List.mem_map.mp hx
  have := h n hn
  simp only [byteV, Bool.and_eq_true, decide_eq_true_eq]
  exact this
theorem ok_ints {H : Hp} {ns : List Int} (h : ns.length ≤ 100000) : Tg.ok K H (.lst (ns.map V.int)) := by
  refine ⟨fun x hx => ?_, by rw [List.length_map]; exact h⟩
  obtain ⟨n, _, rfl⟩ := List.mem_map.mp hx
  exact ⟨_, .int n⟩
theorem cutV_ints (ns : List Int) (lo hi : Option Int) : cutV (ns.map V.int) lo hi = ((ns.drop (HT.sIx ns.length 0 lo)).take (HT.sIx ns.length ns.length hi - HT.sIx ns.length 0 lo)).map V.int := by
  unfold cutV
  rw [List.length_map, List.map_take, List.map_drop]
theorem sIx_at (n d k : Nat) (h : k ≤ n) : HT.sIx n d (some ((k : Nat) : Int)) = k := by rw [HT.sIx_nat]; omega
theorem map_int_inj : ∀ {a b : List Int}, a.map V.int = b.map V.int → a = b
  | [], [], _ => rfl
  | [], _ :: _, h => by cases h
  | _ :: _, [], h => by cases h
  | x :: r, y :: t, h => by
    injection h with h1 h2
    injection h1 with h1
    rw [h1, map_int_inj h2]
theorem ne_f {a b : Int} (h : a = b) : (!decide (a = b)) = false := by rw [decide_eq_true h]; rfl
theorem cut_take (ns : List Int) (m : Nat) : cutV (ns.map V.int) none (some ((m : Nat) : Int)) = (ns.take m).map V.int := by
  rw [cutV_ints, HT.sIx_nat, HT.sIx_none, List.drop_zero, Nat.sub_zero]
  congr 1
  by_cases h : m ≤ ns.length
  · rw [Nat.min_eq_left h]
  · rw [Nat.min_eq_right (by omega), List.take_of_length_le (Nat.le_refl _), List.take_of_length_le (by omega)]
theorem cut_drop (ns : List Int) (m : Nat) : cutV (ns.map V.int) (some ((m : Nat) : Int)) none = (ns.drop m).map V.int := by
  rw [cutV_ints, HT.sIx_nat, HT.sIx_none]
  congr 1
  by_cases h : m ≤ ns.length
  · rw [Nat.min_eq_left h, List.take_of_length_le (by rw [List.length_drop]; omega)]
  · rw [Nat.min_eq_right (by omega), List.drop_of_length_le (Nat.le_refl _), List.drop_of_length_le (by omega), List.take_nil]
theorem cut_mid (ns : List Int) (a b : Nat) (h1 : a ≤ b) (h2 : b ≤ ns.length) : cutV (ns.map V.int) (some ((a : Nat) : Int)) (some ((b : Nat) : Int)) = ((ns.drop a).take (b - a)).map V.int := by
  rw [cutV_ints, HT.sIx_nat _ 0 a, HT.sIx_nat _ _ b, Nat.min_eq_left (show a ≤ ns.length by omega), Nat.min_eq_left h2]
theorem at_nat {ns : List Int} {k : Nat} (h : k < ns.length) : atI (ns.map V.int) ((k : Nat) : Int) = some (.int (ns.getD k 0)) := by
  rw [atI_nat (v := .int (ns.getD k 0))]
  rw [List.getElem?_map, List.getElem?_eq_getElem h, List.getD_eq_getElem?_getD, List.getElem?_eq_getElem h]
  rfl
theorem at_i {ns : List Int} {i : Int} {k : Nat} (e : i = ((k : Nat) : Int)) (h : k < ns.length) : atI (ns.map V.int) i = some (.int (ns.getD k 0)) := by rw [e]; exact at_nat h
def sp_need_row (K : PySem.W.Frag) : Sp := fun vs H Q E => ∃ (v : V) (g : Tg), vs = [v] ∧ Th K H v g ∧ Tg.ok K H g ∧
  (∀ xs, g = .lst xs → Tg.isRow g = true → RetL H Q xs) ∧ (Tg.isRow g = false → ∀ H', Same H H' → E (.ref (He.ga K "BadRow")) none H')
theorem len_need_row (h : sp_need_row K vs H Q E) : vs.length = 1 := by
  obtain ⟨v, g, rfl, _⟩ := h
  rfl
def t_need_row (K : PySem.W.Frag) (W : WX) : TS :=
  (tSeq (tIfS (tNot (tB (tCl (sp_is_row K) [] W (tCons (tVar 0) tNil)))) (tRz (He.ga K "BadRow") W) tNext)
    (tRet (tCB (rListK K) (tCons (tVar 0) tNil))))
theorem rd_need_row (h : sp_need_row K vs H Q E) : t_need_row K (fun c d _ H2 => E c d H2) { nx := fun _ H' => Q .non H', rt := Q } (start ["thing"] vs) H := by
  obtain ⟨v, g, rfl, hT, hok, q, qe⟩ := h
  have hs := Hs.start H
  unfold t_need_row
  walk_at "go"
  refine ⟨v, g, rfl, hT, hok, retV hs fun H1 h1 => ?_⟩
  walk_at "go"
  cases e : Tg.isRow g with
  | false =>
    walk_at "go"
    exact qe e _ h1.ex
  | true =>
    cases hT with
    | @lst a xs z =>
      walk_at "go"
      rename_i p H2 h2
      exact h2.rl (.head _) (q xs rfl e)
    | _ => cases e
end L2.BR

namespace L2.BR
open PySem PySem.Spec PyProof.Rows L2.BP
variable {K : PySem.W.Frag}
/-! ### the script's cells -/
def cellAt (ns : List Int) (k : Int) : Int := if k < ns.length then ns.getD k.toNat 0 else 0
def sp__law_cell_at (K : PySem.W.Frag) : Sp := fun vs H Q _ => ∃ (a : Addr) (ns : List Int) (k : Int), vs = [.ref a, .int k] ∧ SqL K H a (ns.map V.int) ∧ 0 ≤ k ∧ Q (.int (cellAt ns k)) H
theorem len__law_cell_at {vs : List V} {H : Hp} {Q : VK} {E : XK} (h : sp__law_cell_at K vs H Q E) : vs.length = 2 := by
  obtain ⟨a, ns, k, rfl, _⟩ := h
  rfl
theorem at_ints {ns : List Int} {k : Int} (h0 : 0 ≤ k) (h : k < ns.length) : atI (ns.map V.int) k = some (.int (ns.getD k.toNat 0)) := by
  obtain ⟨n, rfl⟩ := Int.eq_ofNat_of_zero_le h0
  have hn : n < ns.length := by omega
  rw [atI_nat (v := .int (ns.getD n 0))]
  · rfl
  · rw [List.getElem?_map, List.getElem?_eq_getElem hn, List.getD_eq_getElem?_getD, List.getElem?_eq_getElem hn]
    rfl
def t__law_cell_at (K : PySem.W.Frag) (W : WX) : TS :=
  (tSeq (tIfS (tTest (tOp rLtU (tVar 1) (tCB (rLenK K) (tCons (tVar 0) tNil)))) (tRet (tOp (rIx K) (tVar 0) (tVar 1))) tNext)
    (tRet (tC (.int 0))))
theorem rd__law_cell_at {W : WX} {vs : List V} {H : Hp} {Q : VK} {E : XK} (h : sp__law_cell_at K vs H Q E) : t__law_cell_at K W { nx := fun _ H' => Q .non H', rt := Q } (start ["_law_script", "_law_k"] vs) H := by
  obtain ⟨a, ns, k, rfl, hS, h0, q⟩ := h
  have hs := Hs.start H
  unfold t__law_cell_at
  walk_at "go"
  refine i_2 (fun c => ?_) (fun c => ?_)
  · have c := of_decide_eq_true c
    rw [List.length_map] at c
    walk_at "go"
    refine c_ixL (by walk_at "sq") (at_ints h0 c) ?_
    rw [show cellAt ns k = ns.getD k.toNat 0 from if_pos c] at q
    exact q
  · have c := of_decide_eq_false c
    rw [List.length_map] at c
    walk_at "go"
    rw [show cellAt ns k = 0 from if_neg c] at q
    exact q
end L2.BR

namespace L2.BR
open PySem PySem.Spec PyProof.Rows L2.BP
/-! ### texts of noughts and ones -/
def numOf : List Bool → Nat
  | [] => 0
  | b :: r => b.toNat * 2 ^ r.length + numOf r
def bitsOf (n : Nat) : Nat → List Bool
  | 0 => []
  | s + 1 => (n / 2 ^ s % 2 == 1) :: bitsOf n s
theorem bitsOf_length (n : Nat) : ∀ s, (bitsOf n s).length = s
  | 0 => rfl
  | s + 1 => congrArg (· + 1) (bitsOf_length n s)
theorem numOf_lt : ∀ b : List Bool, numOf b < 2 ^ b.length
  | [] => by decide
  | x :: r => by
    have h := numOf_lt r
    have e : (2 : Nat) ^ (x :: r).length = 2 ^ r.length + 2 ^ r.length := by rw [List.length_cons, Nat.pow_succ]; omega
    rw [e]
    unfold numOf
    cases x
    · simp; omega
    · simp; omega
theorem numOf_append : ∀ a b : List Bool, numOf (a ++ b) = numOf a * 2 ^ b.length + numOf b
  | [], b => by simp [numOf]
  | x :: r, b => by
    show x.toNat * 2 ^ (r ++ b).length + numOf (r ++ b) = (x.toNat * 2 ^ r.length + numOf r) * 2 ^ b.length + numOf b
    rw [numOf_append r b, List.length_append, Nat.pow_add, Nat.add_mul, Nat.mul_assoc, Nat.add_assoc]
theorem numOf_bitsOf (n : Nat) : ∀ s, numOf (bitsOf n s) = n % 2 ^ s
  | 0 => by simp [numOf, bitsOf, Nat.mod_one]
  | s + 1 => by
    show (n / 2 ^ s % 2 == 1).toNat * 2 ^ (bitsOf n s).length + numOf (bitsOf n s) = _
    rw [bitsOf_length, numOf_bitsOf n s, Nat.pow_succ, Nat.mod_mul]
    have h : (n / 2 ^ s % 2 == 1).toNat = n / 2 ^ s % 2 := by
      rcases Nat.mod_two_eq_zero_or_one (n / 2 ^ s) with h | h <;> rw [h] <;> rfl
    rw [h, Nat.mul_comm, Nat.add_comm]
theorem numOf_small {n s : Nat} (h : n < 2 ^ s) : numOf (bitsOf n s) = n := by rw [numOf_bitsOf, Nat.mod_eq_of_lt h]
theorem numOf_inj : ∀ a b : List Bool, a.length = b.length → numOf a = numOf b → a = b
  | [], [], _, _ => rfl
  | [], _ :: _, h, _ => by cases h
  | _ :: _, [], h, _ => by cases h
  | x :: r, y :: t, h, e => by
    have hl : r.length = t.length := Nat.succ.inj h
    have e : x.toNat * 2 ^ r.length + numOf r = y.toNat * 2 ^ t.length + numOf t := e
    have h1 := numOf_lt r
    have h2 := numOf_lt t
    rw [← hl] at e h2
    cases x <;> cases y <;> simp at e ⊢
    · exact numOf_inj r t hl e
    · omega
    · omega
    · exact numOf_inj r t hl e
theorem bitsOf_numOf (b : List Bool) : bitsOf (numOf b) b.length = b := by
  refine numOf_inj _ _ (bitsOf_length _ _) ?_
  rw [numOf_small (numOf_lt b)]
theorem numOf_take_div (b : List Bool) (k : Nat) : numOf b / 2 ^ (b.length - k) = numOf (b.take k) := by
  have e := numOf_append (b.take k) (b.drop k)
  rw [List.take_append_drop] at e
  have h := numOf_lt (b.drop k)
  rw [List.length_drop] at e h
  rw [e, Nat.mul_comm, Nat.mul_add_div (Nat.two_pow_pos _), Nat.div_eq_of_lt h, Nat.add_zero]
theorem numOf_drop_mod (b : List Bool) (k : Nat) : numOf b % 2 ^ (b.length - k) = numOf (b.drop k) := by
  have e := numOf_append (b.take k) (b.drop k)
  rw [List.take_append_drop] at e
  have h := numOf_lt (b.drop k)
  rw [List.length_drop] at e h
  rw [e, Nat.mul_comm, Nat.mul_add_mod, Nat.mod_eq_of_lt h]
theorem numOf_noughts (k : Nat) : numOf (List.replicate k false) = 0 := by
  induction k with
  | zero => rfl
  | succ k ih => rw [List.replicate_succ]; unfold numOf; rw [ih]; simp
/-! the bytes that stand whole in a text, the text filled by noughts -/
def byteAt (b : List Bool) (i : Nat) : Nat := numOf ((b.drop (8 * i)).take 8)
def wholeTo (b : List Bool) (n : Nat) : List Int := (List.range n).map fun i => ((byteAt b i : Nat) : Int)
def pad8 (b : List Bool) : List Bool := b ++ List.replicate ((8 - b.length % 8) % 8) false
def rowOf (b : List Bool) : List Int := wholeTo (pad8 b) ((b.length + 7) / 8)
theorem wholeTo_length (b : List Bool) (n : Nat) : (wholeTo b n).length = n := by unfold wholeTo; simp
theorem wholeTo_succ (b : List Bool) (n : Nat) : wholeTo b (n + 1) = wholeTo b n ++ [((byteAt b n : Nat) : Int)] := by unfold wholeTo; rw [List.range_succ, List.map_append]; rfl
theorem byteAt_append {b c : List Bool} {i : Nat} (h : 8 * i + 8 ≤ b.length) : byteAt (b ++ c) i = byteAt b i := by
  unfold byteAt
  rw [List.drop_append_of_le_length (by omega), List.take_append_of_le_length (by rw [List.length_drop]; omega)]
theorem wholeTo_append {b c : List Bool} {n : Nat} (h : 8 * n ≤ b.length) : wholeTo (b ++ c) n = wholeTo b n := by
  unfold wholeTo
  refine List.map_congr_left fun i hi => ?_
  have := List.mem_range.mp hi
  rw [byteAt_append (by omega)]
theorem byteAt_lt (b : List Bool) (i : Nat) : byteAt b i < 256 := by
  have h := numOf_lt ((b.drop (8 * i)).take 8)
  have e : ((b.drop (8 * i)).take 8).length ≤ 8 := by rw [List.length_take]; omega
  exact Nat.lt_of_lt_of_le h (Nat.pow_le_pow_right (by decide) e)
theorem pad8_length (b : List Bool) : (pad8 b).length = 8 * ((b.length + 7) / 8) := by unfold pad8; rw [List.length_append, List.length_replicate]; omega
theorem rowOf_length (b : List Bool) : (rowOf b).length = (b.length + 7) / 8 := wholeTo_length _ _
theorem rowOf_bytes (b : List Bool) : ∀ n ∈ rowOf b, 0 ≤ n ∧ n ≤ 255 := by
  intro n hn
  unfold rowOf wholeTo at hn
  obtain ⟨i, _, rfl⟩ := List.mem_map.mp hn
  have := byteAt_lt (pad8 b) i
  omega
/-- the bits of a row -/
def bitsRow (ns : List Int) : List Bool := ns.flatMap fun n => bitsOf n.toNat 8
theorem bitsRow_length (ns : List Int) : (bitsRow ns).length = 8 * ns.length := by
  induction ns with
  | nil => rfl
  | cons n r ih =>
    unfold bitsRow at ih ⊢
    rw [List.flatMap_cons, List.length_append, ih, bitsOf_length, List.length_cons]
    omega
theorem bitsRow_wholeTo (b : List Bool) : ∀ n, 8 * n ≤ b.length → bitsRow (wholeTo b n) = b.take (8 * n)
  | 0, _ => by simp [wholeTo, bitsRow]
  | n + 1, h => by
    have ih := bitsRow_wholeTo b n (by omega)
    rw [wholeTo_succ]
    unfold bitsRow at ih ⊢
    rw [List.flatMap_append, ih]
    have e : bitsOf (byteAt b n) 8 = (b.drop (8 * n)).take 8 := by
      have l : ((b.drop (8 * n)).take 8).length = 8 := by rw [List.length_take, List.length_drop]; omega
      have z := bitsOf_numOf ((b.drop (8 * n)).take 8)
      rw [l] at z
      exact z
    show b.take (8 * n) ++ (bitsOf ((byteAt b n : Nat) : Int).toNat 8 ++ []) = _
    rw [Int.toNat_natCast, e, List.append_nil]
    rw [show 8 * (n + 1) = 8 * n + 8 by omega, List.take_add]
theorem bitsRow_rowOf (b : List Bool) : bitsRow (rowOf b) = pad8 b := by
  unfold rowOf
  rw [bitsRow_wholeTo _ _ (by rw [pad8_length]; exact Nat.le_refl _)]
  exact List.take_of_length_le (by rw [pad8_length]; exact Nat.le_refl _)
theorem bitsRow_snoc (ns : List Int) (n : Int) : bitsRow (ns ++ [n]) = bitsRow ns ++ bitsOf n.toNat 8 := by
  unfold bitsRow
  rw [List.flatMap_append, List.flatMap_cons, List.flatMap_nil, List.append_nil]
end L2.BR

namespace L2.BR
open PySem PySem.Spec PyProof.Rows L2.BP
variable {K : PySem.W.Frag} {W : WX} {vs : List V} {H : Hp} {Q : VK} {E : XK}
/-! ### rows of bits, readers -/
structure KBitRow (K : PySem.W.Frag) : Prop where
  c : Cls K (He.ga K "BitRow")
  n1 : NoAttr K (He.ga K "BitRow") "full"
  n2 : NoAttr K (He.ga K "BitRow") "part"
  n3 : NoAttr K (He.ga K "BitRow") "filled"
structure KBitReader (K : PySem.W.Frag) : Prop where
  c : Cls K (He.ga K "BitReader")
  n1 : NoAttr K (He.ga K "BitReader") "source"
  n2 : NoAttr K (He.ga K "BitReader") "taken"
def Tg.isNum : Tg → Bool
  | .int _ => true
  | _ => false
def sp_is_number (K : PySem.W.Frag) : Sp := fun vs H Q _ => ∃ (v : V) (g : Tg), vs = [v] ∧ Th K H v g ∧ Q (.bl (Tg.isNum g)) H
theorem len_is_number (h : sp_is_number K vs H Q E) : vs.length = 1 := by
  obtain ⟨v, g, rfl, _⟩ := h
  rfl
def t_is_number (K : PySem.W.Frag) (W : WX) : TS :=
  (tRet ((tAndV (tCB (rIsi K) (tCons (tVar 0) (tCons (tC (.ty "int")) tNil))) (tNotV (tCB (rIsi K) (tCons (tVar 0) (tCons (tC (.ty "bool")) tNil)))))))
theorem rd_is_number (h : sp_is_number K vs H Q E) : t_is_number K W { nx := fun _ H' => Q .non H', rt := Q } (start ["thing"] vs) H := by
  obtain ⟨v, g, rfl, hT, q⟩ := h
  have hs := Hs.start H
  unfold t_is_number
  walk_at "go"
  refine c_isiInt hT ?_
  cases g with
  | int i => walk_at "go"; refine c_isiBool hT ?_; walk_at "go"; exact q
  | bl b => walk_at "go"; refine c_isiBool hT ?_; walk_at "go"; exact q
  | _ => walk_at "go"; exact q
def sizeOk : Tg → Bool
  | .int i => decide (0 ≤ i) && decide (i ≤ 24)
  | _ => false
def sp_need_size (K : PySem.W.Frag) : Sp := fun vs H Q E => ∃ (v : V) (g : Tg), vs = [v] ∧ Th K H v g ∧ (sizeOk g = true → Q .non H) ∧ (sizeOk g = false → E (.ref (He.ga K "BadBits")) none H)
theorem len_need_size (h : sp_need_size K vs H Q E) : vs.length = 1 := by
  obtain ⟨v, g, rfl, _⟩ := h
  rfl
def t_need_size (K : PySem.W.Frag) (W : WX) : TS :=
  (tIfS ((tOr (tNot (tB (tCl (sp_is_number K) [] W (tCons (tVar 0) tNil)))) (tNot (tTest (tChain rLeU rLeU (tC (.int 0)) (tVar 0) (tC (.int 24))))))) (tRz (He.ga K "BadBits") W) tNext)
theorem rd_need_size (h : sp_need_size K vs H Q E) : t_need_size K (fun c d _ H2 => E c d H2) { nx := fun _ H' => Q .non H', rt := Q } (start ["size"] vs) H := by
  obtain ⟨v, g, rfl, hT, q, qe⟩ := h
  have hs := Hs.start H
  unfold t_need_size
  walk_at "go"
  refine ⟨v, g, rfl, hT, ?_⟩
  cases hT with
  | int i =>
    simp only [sizeOk] at q qe
    walk_at "go"
    cases e : decide ((0 : Int) ≤ i) with
    | false =>
      rw [e] at qe
      walk_at "go"
      exact qe rfl
    | true =>
      rw [e] at q qe
      walk_at "go"
      cases e2 : decide (i ≤ (24 : Int)) with
      | false =>
        rw [e2] at qe
        walk_at "go"
        exact qe rfl
      | true =>
        rw [e2] at q
        walk_at "go"
        exact q rfl
  | non => walk_at "go"; exact qe rfl
  | bl b => walk_at "go"; exact qe rfl
  | str x => walk_at "go"; exact qe rfl
  | lst z => walk_at "go"; exact qe rfl
  | tup z => walk_at "go"; exact qe rfl
  | dic z => walk_at "go"; exact qe rfl
/-! a row of bits as it stands -/
abbrev brO (K : PySem.W.Frag) (dx f : Addr) (b : List Bool) : HO := .ins (He.ga K "BitRow") dx [("full", .ref f), ("part", .int ((numOf (b.drop (8 * (b.length / 8))) : Nat) : Int)), ("filled", .int ((b.length % 8 : Nat) : Int))]
abbrev brL (b : List Bool) : HO := .lst ((wholeTo b (b.length / 8)).map V.int)
def sp_BitRow___init__ (K : PySem.W.Frag) : Sp := fun vs H Q _ => ∃ (B : Hp) (L : Pic) (x dx : Addr), vs = [.ref x] ∧ Hs B ((x, .ins (He.ga K "BitRow") dx []) :: L) H ∧
  ∀ f H', Hs B ((x, brO K dx f []) :: (f, brL []) :: L) H' → Q .non H'
theorem len_BitRow___init__ (h : sp_BitRow___init__ K vs H Q E) : vs.length = 1 := by
  obtain ⟨B, L, x, dx, rfl, _⟩ := h
  rfl
def t_BitRow___init__ (K : PySem.W.Frag) (W : WX) : TS :=
  (tSeq (sFld K (tVar 0) (tLst tNil) "full")
    (tSeq (sFld K (tVar 0) (tC (.int 0)) "part")
    (sFld K (tVar 0) (tC (.int 0)) "filled")))
theorem rd_BitRow___init__ (kBitRow : KBitRow K) (h : sp_BitRow___init__ K vs H Q E) : t_BitRow___init__ K W { nx := fun _ H' => Q .non H', rt := Q } (start ["self"] vs) H := by
  obtain ⟨B, L, x, dx, rfl, hs, q⟩ := h
  obtain ⟨hc, n1, n2, n3⟩ := kBitRow
  unfold t_BitRow___init__
  walk_at "go"
  rename_i f H1 h1 H2 h2 H3 h3 H4 h4
  exact q f H4 h4.swap
theorem shr_nat (a k : Nat) : ((a : Nat) : Int) / 2 ^ k = ((a / 2 ^ k : Nat) : Int) := by push_cast; rfl
theorem two_cast (k : Nat) : (2 : Int) ^ k = ((2 ^ k : Nat) : Int) := by push_cast; rfl
theorem mask_nat (a k : Nat) : Builtin.bitAnd ((a : Nat) : Int) (1 * 2 ^ k - 1) = ((a % 2 ^ k : Nat) : Int) := by
  rw [Int.one_mul, Bits.bitAnd_mask k (Int.natCast_nonneg a)]
  push_cast
  rfl
theorem join_nat {a b k : Nat} (h : b < 2 ^ k) : Builtin.bitOr (((a : Nat) : Int) * 2 ^ k) ((b : Nat) : Int) = ((a * 2 ^ k + b : Nat) : Int) := by
  have h2 : ((b : Nat) : Int) < 2 ^ k := by rw [two_cast]; exact Int.ofNat_lt.mpr h
  rw [Bits.bitOr_join' (Int.natCast_nonneg b) h2 (Int.natCast_nonneg a)]
  push_cast
  rw [Int.add_comm]
/-- what may be put -/
def putOk : Tg → Tg → Bool
  | .int n, .int s => decide (0 ≤ n) && decide (n < 2 ^ s.toNat)
  | _, _ => false
def sp_BitRow_put (K : PySem.W.Frag) : Sp := fun vs H Q E => ∃ (B : Hp) (L : Pic) (x dx f : Addr) (b : List Bool) (v w : V) (g k : Tg), vs = [.ref x, v, w] ∧ Th K H v g ∧ Th K H w k ∧
  Hs B ((x, brO K dx f b) :: (f, brL b) :: L) H ∧ b.length ≤ 700000 ∧
  (∀ n s : Nat, g = .int n → k = .int s → s ≤ 24 → n < 2 ^ s → ∀ H', Hs B ((x, brO K dx f (b ++ bitsOf n s)) :: (f, brL (b ++ bitsOf n s)) :: L) H' → Q .non H') ∧
  ((sizeOk k && putOk g k) = false → E (.ref (He.ga K "BadBits")) none H)
theorem len_BitRow_put (h : sp_BitRow_put K vs H Q E) : vs.length = 3 := by
  obtain ⟨B, L, x, dx, f, b, v, w, g, k, rfl, _⟩ := h
  rfl
def t_BitRow_put (K : PySem.W.Frag) (W : WX) : TS :=
  (tSeq (tDrop (tCl (sp_need_size K) [] W (tCons (tVar 2) tNil)))
    (tSeq (tIfS ((tOr (tNot (tB (tCl (sp_is_number K) [] W (tCons (tVar 1) tNil)))) (tOr (tTest (tOp rLtU (tVar 1) (tC (.int 0)))) (tTest (tOp rGtU (tOp rShrU (tVar 1) (tVar 2)) (tC (.int 0))))))) (tRz (He.ga K "BadBits") W) tNext)
    (tSeq (sFld K (tVar 0) (tOp rOrU (tOp rShlU (tFld K (tVar 0) "part") (tVar 2)) (tVar 1)) "part")
    (tSeq (sFldAug K (tVar 0) (tVar 2) rAdd "filled")
    (tWhile (tTest (tOp rGeU (tFld K (tVar 0) "filled") (tC (.int 8)))) (tSeq (sFldAug K (tVar 0) (tC (.int 8)) rSub "filled")
    (tSeq (tDrop (tBM K "list" rAppend (tFld K (tVar 0) "full") (tCons (tOp rShrU (tFld K (tVar 0) "part") (tFld K (tVar 0) "filled")) tNil)))
    (sFld K (tVar 0) (tOp rAndU (tFld K (tVar 0) "part") (tOp rSubU (tOp rShlU (tC (.int 1)) (tFld K (tVar 0) "filled")) (tC (.int 1)))) "part"))))))))
theorem rd_BitRow_put (kBitRow : KBitRow K) (h : sp_BitRow_put K vs H Q E) : t_BitRow_put K (fun c d _ H2 => E c d H2) { nx := fun _ H' => Q .non H', rt := Q } (start ["self", "number", "size"] vs) H := by
  obtain ⟨B, L, x, dx, f, b, v, w, g, k, rfl, hT, hT2, hs, hb, q, qe⟩ := h
  obtain ⟨hc, n1, n2, n3⟩ := kBitRow
  unfold t_BitRow_put
  walk_at "go"
  refine ⟨w, k, rfl, hT2, fun hk => ?_, fun hk => qe (by rw [hk]; rfl)⟩
  rw [hk, Bool.true_and] at qe
  walk_at "go"
  refine ⟨v, g, rfl, hT, ?_⟩
  cases hT2 with
  | int s =>
    simp only [sizeOk] at hk
    simp only [Bool.and_eq_true, decide_eq_true_eq] at hk
    cases hT with
    | int n =>
      simp only [putOk] at qe
      walk_at "go"
      refine i_2 (fun c => ?_) (fun c => ?_)
      · have c := of_decide_eq_true c
        rw [decide_eq_false (by omega : ¬ 0 ≤ n)] at qe
        walk_at "go"
        exact qe rfl
      have c := of_decide_eq_false c
      walk_at "go"
      obtain ⟨S, rfl⟩ := Int.eq_ofNat_of_zero_le hk.1
      obtain ⟨M, rfl⟩ := Int.eq_ofNat_of_zero_le (Int.not_lt.mp c)
      rw [decide_eq_true (by omega : (0 : Int) ≤ ((M : Nat) : Int))] at qe
      rw [Int.toNat_natCast, shr_nat]
      rw [Int.toNat_natCast, two_cast] at qe
      have hp : 0 < 2 ^ S := Nat.two_pow_pos S
      by_cases hM : M < 2 ^ S
      · rw [Nat.div_eq_of_lt hM]
        walk_at "go"
        have hS : S ≤ 24 := by omega
        have q := q M S rfl rfl hS hM
        refine c_shl ?_ ?_
        · refine ⟨by omega, by omega, ?_⟩
          have h1 := numOf_lt (b.drop (8 * (b.length / 8)))
          have h2 : (b.drop (8 * (b.length / 8))).length ≤ 8 := by rw [List.length_drop]; omega
          have h3 := Nat.lt_of_lt_of_le h1 (Nat.pow_le_pow_right (by decide) h2)
          rw [Int.natAbs_natCast]
          exact Nat.lt_trans h3 (by decide)
        walk_at "go"
        rename_i H1 h1 H2 h2
        rw [Int.toNat_natCast, join_nat hM] at h2
        have e1 : numOf (b.drop (8 * (b.length / 8))) * 2 ^ S + M = numOf ((b ++ bitsOf M S).drop (8 * (b.length / 8))) := by
          rw [List.drop_append_of_le_length (by omega), numOf_append, bitsOf_length, numOf_small hM]
        rw [e1] at h2
        have hcl : (b ++ bitsOf M S).length = b.length + S := by rw [List.length_append, bitsOf_length]
        have e2 : brL b = HO.lst ((wholeTo (b ++ bitsOf M S) (b.length / 8)).map V.int) := by
          show HO.lst _ = HO.lst _
          rw [wholeTo_append (by omega)]
        rw [e2] at h2
        generalize b ++ bitsOf M S = c at *
        refine w_while (fun m σ' L' B' => ∃ j, m = c.length - 8 * j ∧ 8 * j ≤ c.length ∧ σ' = [some (.ref x), some (.int M), some (.int S)] ∧ B' = B ∧
          L' = (x, .ins (He.ga K "BitRow") dx [("full", .ref f), ("part", .int ((numOf (c.drop (8 * j)) : Nat) : Int)), ("filled", .int ((m : Nat) : Int))]) :: (f, .lst ((wholeTo c j).map V.int)) :: L) (c.length - 8 * (b.length / 8)) h2 ⟨b.length / 8, rfl, by omega, rfl, rfl, ?_⟩ ?_
        · have e3 : ((b.length % 8 : Nat) : Int) + ((S : Nat) : Int) = ((c.length - 8 * (b.length / 8) : Nat) : Int) := by omega
          rw [e3]
        · rintro m σ' L' B' H' ⟨j, hm, hj, rfl, rfl, rfl⟩ h'
          walk_at "go"
          by_cases h8 : 8 ≤ m
          · refine i_t (decide_eq_true (by omega)) (w_turn ?_)
            walk_at "go"
            rename_i H3 h3
            have e4 : (m : Int) - 8 = ((m - 8 : Nat) : Int) := by omega
            rw [e4, Int.toNat_natCast, shr_nat]
            have hl : (c.drop (8 * j)).length = m := by rw [List.length_drop, hm]
            have e5 := numOf_take_div (c.drop (8 * j)) 8
            rw [hl] at e5
            rw [e5]
            refine c_app1 h3 (small5 ?_) fun H4 h4 => ?_
            · rw [List.length_map, wholeTo_length]
              omega
            rw [e4] at h4
            walk_at "go"
            rename_i H5 h5
            rw [Int.toNat_natCast, mask_nat] at h5
            have e6 := numOf_drop_mod (c.drop (8 * j)) 8
            rw [hl, List.drop_drop] at e6
            rw [e6] at h5
            refine ⟨m - 8, by omega, _, _, ⟨j + 1, by omega, by omega, rfl, rfl, ?_⟩, h5⟩
            rw [wholeTo_succ, List.map_append]
            rfl
          · refine i_f (decide_eq_false (by omega)) ?_
            have ej : j = c.length / 8 := by omega
            subst ej
            have em : m = c.length % 8 := by omega
            rw [em] at h'
            exact q H' h'
      · have hd : 1 ≤ M / 2 ^ S := (Nat.one_le_div_iff hp).mpr (Nat.le_of_not_lt hM)
        rw [decide_eq_false (by omega : ¬ ((M : Nat) : Int) < ((2 ^ S : Nat) : Int))] at qe
        walk_at "go"
        exact qe rfl
    | non => walk_at "go"; exact qe rfl
    | bl b => walk_at "go"; exact qe rfl
    | str x => walk_at "go"; exact qe rfl
    | lst z => walk_at "go"; exact qe rfl
    | tup z => walk_at "go"; exact qe rfl
    | dic z => walk_at "go"; exact qe rfl
  | _ => cases hk
def sp_BitRow_many (K : PySem.W.Frag) : Sp := fun vs H Q _ => ∃ (B : Hp) (L : Pic) (x dx f : Addr) (b : List Bool), vs = [.ref x] ∧ Hs B ((x, brO K dx f b) :: (f, brL b) :: L) H ∧ Q (.int ((b.length : Nat) : Int)) H
theorem len_BitRow_many (h : sp_BitRow_many K vs H Q E) : vs.length = 1 := by
  obtain ⟨B, L, x, dx, f, b, rfl, _⟩ := h
  rfl
def t_BitRow_many (K : PySem.W.Frag) (W : WX) : TS :=
  (tRet (tOp rAddU (tOp rMulU (tC (.int 8)) (tCB (rLenK K) (tCons (tFld K (tVar 0) "full") tNil))) (tFld K (tVar 0) "filled")))
theorem rd_BitRow_many (kBitRow : KBitRow K) (h : sp_BitRow_many K vs H Q E) : t_BitRow_many K W { nx := fun _ H' => Q .non H', rt := Q } (start ["self"] vs) H := by
  obtain ⟨B, L, x, dx, f, b, rfl, hs, q⟩ := h
  obtain ⟨hc, n1, n2, n3⟩ := kBitRow
  unfold t_BitRow_many
  walk_at "go"
  rw [List.length_map, wholeTo_length]
  have e : (8 : Int) * ((b.length / 8 : Nat) : Int) + ((b.length % 8 : Nat) : Int) = ((b.length : Nat) : Int) := by omega
  rw [e]
  exact q
def sp_BitRow_row (K : PySem.W.Frag) : Sp := fun vs H Q _ => ∃ (B : Hp) (L : Pic) (x dx f : Addr) (b : List Bool), vs = [.ref x] ∧ Hs B ((x, brO K dx f b) :: (f, brL b) :: L) H ∧ b.length ≤ 700000 ∧ RetL H Q ((rowOf b).map V.int)
theorem len_BitRow_row (h : sp_BitRow_row K vs H Q E) : vs.length = 1 := by
  obtain ⟨B, L, x, dx, f, b, rfl, _⟩ := h
  rfl
theorem rowOf_whole {b : List Bool} (h : b.length % 8 = 0) : rowOf b = wholeTo b (b.length / 8) := by
  unfold rowOf pad8
  rw [show (8 - b.length % 8) % 8 = 0 by omega, List.replicate_zero, List.append_nil, show (b.length + 7) / 8 = b.length / 8 by omega]
theorem rowOf_part {b : List Bool} (h : b.length % 8 ≠ 0) : rowOf b = wholeTo b (b.length / 8) ++ [((numOf (b.drop (8 * (b.length / 8))) * 2 ^ (8 - b.length % 8) : Nat) : Int)] := by
  unfold rowOf
  rw [show (b.length + 7) / 8 = b.length / 8 + 1 by omega, wholeTo_succ]
  unfold pad8
  rw [wholeTo_append (by omega)]
  congr 2
  unfold byteAt
  rw [List.drop_append_of_le_length (by omega), List.take_of_length_le (by rw [List.length_append, List.length_drop, List.length_replicate]; omega), numOf_append, numOf_noughts, List.length_replicate, show (8 - b.length % 8) % 8 = 8 - b.length % 8 by omega, Nat.add_zero]
def t_BitRow_row (K : PySem.W.Frag) (W : WX) : TS :=
  (tSeq (tIfS (tTest (tOp (rEqU K) (tFld K (tVar 0) "filled") (tC (.int 0)))) (tRet (tCB (rListK K) (tCons (tFld K (tVar 0) "full") tNil))) tNext)
    (tRet (tOp rAddU (tFld K (tVar 0) "full") (tLst (tCons (tOp rShlU (tFld K (tVar 0) "part") (tOp rSubU (tC (.int 8)) (tFld K (tVar 0) "filled"))) tNil)))))
theorem rd_BitRow_row (kBitRow : KBitRow K) (h : sp_BitRow_row K vs H Q E) : t_BitRow_row K W { nx := fun _ H' => Q .non H', rt := Q } (start ["self"] vs) H := by
  obtain ⟨B, L, x, dx, f, b, rfl, hs, hb, q⟩ := h
  obtain ⟨hc, n1, n2, n3⟩ := kBitRow
  have hx := hs.get (.head _)
  have hf := hs.get (.tail _ (.head _))
  clear hs
  have h0 := Hs.start H
  unfold t_BitRow_row
  walk_at "go"
  by_cases h8 : b.length % 8 = 0
  · refine i_t (decide_eq_true (by omega)) ?_
    walk_at "go"
    refine c_listL h0 (SqL.of hf) fun p H1 h1 => ?_
    rw [rowOf_whole h8] at q
    exact h1.rl (.head _) q
  · refine i_f (decide_eq_false (by omega)) ?_
    walk_at "go"
    rw [show (8 : Int) - ((b.length % 8 : Nat) : Int) = ((8 - b.length % 8 : Nat) : Int) by omega]
    refine c_shl ?_ ?_
    · refine ⟨by omega, by omega, ?_⟩
      have h1 := numOf_lt (b.drop (8 * (b.length / 8)))
      have h2 : (b.drop (8 * (b.length / 8))).length ≤ 8 := by rw [List.length_drop]; omega
      have h3 := Nat.lt_of_lt_of_le h1 (Nat.pow_le_pow_right (by decide) h2)
      rw [Int.natAbs_natCast]
      exact Nat.lt_trans h3 (by decide)
    walk_at "go"
    rename_i p H1 h1
    refine c_addL h1 (h1.ex _ _ hf) (h1.get (.head _)) ?_ fun r H2 h2 => ?_
    · rw [List.length_map, wholeTo_length]
      exact small5' (by simp; omega)
    rw [rowOf_part h8, List.map_append] at q
    refine h2.drop1.rl (.head _) ?_
    rw [Int.toNat_natCast]
    have e : ((numOf (b.drop (8 * (b.length / 8))) * 2 ^ (8 - b.length % 8) : Nat) : Int) = ((numOf (b.drop (8 * (b.length / 8))) : Nat) : Int) * 2 ^ (8 - b.length % 8) := by push_cast; rfl
    rw [e] at q
    exact q
/-! a reader as it stands -/
abbrev rdO (K : PySem.W.Frag) (dx s : Addr) (t : Nat) : HO := .ins (He.ga K "BitReader") dx [("source", .ref s), ("taken", .int ((t : Nat) : Int))]
def sp_BitReader___init__ (K : PySem.W.Frag) : Sp := fun vs H Q E => ∃ (B : Hp) (L : Pic) (x dx : Addr) (v : V) (g : Tg), vs = [.ref x, v] ∧ Hs B ((x, .ins (He.ga K "BitReader") dx []) :: L) H ∧ Th K H v g ∧ Tg.ok K H g ∧
  (∀ ns, g = .lst (ns.map V.int) → Bytes ns → ∀ s H', Hs B ((x, rdO K dx s 0) :: (s, .lst (ns.map V.int)) :: L) H' → Q .non H') ∧
  (Tg.isRow g = false → ∀ H', Hs B ((x, .ins (He.ga K "BitReader") dx []) :: L) H' → E (.ref (He.ga K "BadRow")) none H')
theorem len_BitReader___init__ (h : sp_BitReader___init__ K vs H Q E) : vs.length = 2 := by
  obtain ⟨B, L, x, dx, v, g, rfl, _⟩ := h
  rfl
def t_BitReader___init__ (K : PySem.W.Frag) (W : WX) : TS :=
  (tSeq (sFld K (tVar 0) (tCl (sp_need_row K) [] W (tCons (tVar 1) tNil)) "source")
    (sFld K (tVar 0) (tC (.int 0)) "taken"))
theorem rd_BitReader___init__ (kBitReader : KBitReader K) (h : sp_BitReader___init__ K vs H Q E) : t_BitReader___init__ K (fun c d _ H2 => E c d H2) { nx := fun _ H' => Q .non H', rt := Q } (start ["self", "row"] vs) H := by
  obtain ⟨B, L, x, dx, v, g, rfl, hs, hT, hok, q, qe⟩ := h
  obtain ⟨hc, n1, n2⟩ := kBitReader
  unfold t_BitReader___init__
  walk_at "go"
  refine ⟨v, g, rfl, hT, hok, fun xs e hr => ?_, fun hr H' e => qe hr H' (hs.same e)⟩
  subst e
  obtain ⟨ns, rfl, hb⟩ := ints_of (show xs.all byteV = true from hr)
  refine retL hs fun s H1 h1 => ?_
  walk_at "go"
  rename_i H2 h2 H3 h3
  exact q ns rfl hb s H3 h3.swap
def sp_BitReader_left (K : PySem.W.Frag) : Sp := fun vs H Q _ => ∃ (B : Hp) (L : Pic) (x dx s : Addr) (t : Nat) (ns : List Int), vs = [.ref x] ∧ Hs B ((x, rdO K dx s t) :: (s, .lst (ns.map V.int)) :: L) H ∧ Q (.int (8 * ((ns.length : Nat) : Int) - ((t : Nat) : Int))) H
theorem len_BitReader_left (h : sp_BitReader_left K vs H Q E) : vs.length = 1 := by
  obtain ⟨B, L, x, dx, s, t, ns, rfl, _⟩ := h
  rfl
def t_BitReader_left (K : PySem.W.Frag) (W : WX) : TS :=
  (tRet (tOp rSubU (tOp rMulU (tC (.int 8)) (tCB (rLenK K) (tCons (tFld K (tVar 0) "source") tNil))) (tFld K (tVar 0) "taken")))
theorem rd_BitReader_left (kBitReader : KBitReader K) (h : sp_BitReader_left K vs H Q E) : t_BitReader_left K W { nx := fun _ H' => Q .non H', rt := Q } (start ["self"] vs) H := by
  obtain ⟨B, L, x, dx, s, t, ns, rfl, hs, q⟩ := h
  obtain ⟨hc, n1, n2⟩ := kBitReader
  unfold t_BitReader_left
  walk_at "go"
  rw [List.length_map]
  exact q
theorem bitsRow_drop : ∀ (ns : List Int) (k : Nat), bitsRow (ns.drop k) = (bitsRow ns).drop (8 * k)
  | [], k => by simp [bitsRow]
  | n :: r, 0 => rfl
  | n :: r, k + 1 => by
    have ih := bitsRow_drop r k
    unfold bitsRow at ih ⊢
    have e : (bitsOf n.toNat 8).drop (8 * (k + 1)) = [] := List.drop_of_length_le (by rw [bitsOf_length]; omega)
    rw [List.drop_succ_cons, ih, List.flatMap_cons, List.drop_append, bitsOf_length, e, show 8 * (k + 1) - 8 = 8 * k by omega, List.nil_append]
theorem bitsRow_take : ∀ (ns : List Int) (k : Nat), bitsRow (ns.take k) = (bitsRow ns).take (8 * k)
  | [], k => by simp [bitsRow]
  | n :: r, 0 => rfl
  | n :: r, k + 1 => by
    have ih := bitsRow_take r k
    unfold bitsRow at ih ⊢
    have e : (bitsOf n.toNat 8).take (8 * (k + 1)) = bitsOf n.toNat 8 := List.take_of_length_le (by rw [bitsOf_length]; omega)
    rw [List.take_succ_cons, List.flatMap_cons, ih, List.flatMap_cons, List.take_append, bitsOf_length, e, show 8 * (k + 1) - 8 = 8 * k by omega]
/-- what the next so many bits tell -/
def takenNum (ns : List Int) (t i : Nat) : Nat := numOf (((bitsRow ns).drop t).take i)
def sp_BitReader_take (K : PySem.W.Frag) : Sp := fun vs H Q E => ∃ (B : Hp) (L : Pic) (x dx s : Addr) (t : Nat) (ns : List Int) (v : V) (g : Tg), vs = [.ref x, v] ∧ Th K H v g ∧ Hs B ((x, rdO K dx s t) :: (s, .lst (ns.map V.int)) :: L) H ∧ Bytes ns ∧ t ≤ 8 * ns.length ∧ ns.length ≤ 100000 ∧
  (∀ i : Nat, g = .int i → i ≤ 24 → t + i ≤ 8 * ns.length → ∀ H', Hs B ((x, rdO K dx s (t + i)) :: (s, .lst (ns.map V.int)) :: L) H' → Q (.int ((takenNum ns t i : Nat) : Int)) H') ∧
  (sizeOk g = false → E (.ref (He.ga K "BadBits")) none H) ∧ (∀ i : Nat, g = .int i → i ≤ 24 → 8 * ns.length < t + i → E (.ref (He.ga K "NoBits")) none H)
theorem len_BitReader_take (h : sp_BitReader_take K vs H Q E) : vs.length = 2 := by
  obtain ⟨B, L, x, dx, s, t, ns, v, g, rfl, _⟩ := h
  rfl
def t_BitReader_take (K : PySem.W.Frag) (W : WX) : TS :=
  (tSeq (tDrop (tCl (sp_need_size K) [] W (tCons (tVar 1) tNil)))
    (tSeq (tIfS (tTest (tOp rLtU (tMt (He.ga K "BitReader") "left" (sp_BitReader_left K) [] W (tVar 0) tNil) (tVar 1))) (tRz (He.ga K "NoBits") W) tNext)
    (tSeq (tAsg (tCB (rDivmodK) (tCons (tFld K (tVar 0) "taken") (tCons (tC (.int 8)) tNil))) (gTup K 2 (gCons (gName 2) (gCons (gName 3) gNil))))
    (tSeq (tAsg (tCB (rDivmodK) (tCons (tOp rSubU (tOp rAddU (tOp rAddU (tFld K (tVar 0) "taken") (tVar 1)) (tC (.int 8))) (tC (.int 1))) (tCons (tC (.int 8)) tNil))) (gTup K 2 (gCons (gName 4) (gCons (gName 5) gNil))))
    (tSeq (tAsg (tC (.int 0)) (gName 6))
    (tSeq (tFor (iList K (tSl (rSlK K) (tFld K (tVar 0) "source") (tPart (tVar 2)) (tPart (tVar 4)))) (gName 7) (tAsg (tOp rOrU (tOp rShlU (tVar 6) (tC (.int 8))) (tVar 7)) (gName 6)))
    (tSeq (tAsg (tOp rAndU (tVar 6) (tOp rSubU (tOp rShlU (tC (.int 1)) (tOp rSubU (tOp rMulU (tC (.int 8)) (tOp rSubU (tVar 4) (tVar 2))) (tVar 3))) (tC (.int 1)))) (gName 6))
    (tSeq (sFldAug K (tVar 0) (tVar 1) rAdd "taken")
    (tRet (tOp rShrU (tVar 6) (tOp rSubU (tOp rSubU (tC (.int 8)) (tC (.int 1))) (tVar 5))))))))))))
theorem rd_BitReader_take (kBitReader : KBitReader K) (h : sp_BitReader_take K vs H Q E) : t_BitReader_take K (fun c d _ H2 => E c d H2) { nx := fun _ H' => Q .non H', rt := Q } (start ["self", "size", "begin", "over", "end", "rest", "number", "byte"] vs) H := by
  obtain ⟨B, L, x, dx, s, t, ns, v, g, rfl, hT, hs, hb, ht, hl, q, qe, qn⟩ := h
  have kB := kBitReader
  obtain ⟨hc, n1, n2⟩ := kBitReader
  unfold t_BitReader_take
  walk_at "go"
  refine ⟨v, g, rfl, hT, fun hk => ?_, qe⟩
  walk_at "go"
  refine ⟨B, L, x, dx, s, t, ns, rfl, hs, ?_⟩
  cases hT with
  | int i =>
    simp only [sizeOk, Bool.and_eq_true, decide_eq_true_eq] at hk
    obtain ⟨I, rfl⟩ := Int.eq_ofNat_of_zero_le hk.1
    have hI : I ≤ 24 := by omega
    have q := q I rfl hI
    have qn := qn I rfl hI
    walk_at "go"
    by_cases hlt : 8 * ns.length < t + I
    · refine i_t (decide_eq_true (by omega)) ?_
      walk_at "go"
      exact qn hlt
    refine i_f (decide_eq_false (by omega)) ?_
    have q := q (by omega)
    walk_at "go"
    have e1 : ((t : Nat) : Int) / 8 = ((t / 8 : Nat) : Int) := by omega
    have e2 : ((t : Nat) : Int) % 8 = ((t % 8 : Nat) : Int) := by omega
    have e3 : (((t : Nat) : Int) + ((I : Nat) : Int) + 8 - 1) / 8 = (((t + I + 7) / 8 : Nat) : Int) := by omega
    have e4 : (((t : Nat) : Int) + ((I : Nat) : Int) + 8 - 1) % 8 = (((t + I + 7) % 8 : Nat) : Int) := by omega
    refine c_divmod hs ⟨by decide, by decide⟩ fun p1 H1 h1 => ?_
    rw [e1, e2] at h1
    walk_at "go"
    refine c_divmod h1 ⟨by decide, by decide⟩ fun p2 H2 h2 => ?_
    rw [e3, e4] at h2
    have ht2 := h2.sqt (K := K) (.head _)
    have h3 := h2.drop.drop
    walk_at "go"
    rename_i p3 H3 h4
    rw [cutV_ints, sIx_at _ _ _ (by omega), sIx_at _ _ _ (by omega)] at h4
    have hcl : ((ns.drop (t / 8)).take ((t + I + 7) / 8 - t / 8)).length = (t + I + 7) / 8 - t / 8 := by rw [List.length_take, List.length_drop]; omega
    have hcb : bitsRow ((ns.drop (t / 8)).take ((t + I + 7) / 8 - t / 8)) = ((bitsRow ns).drop (8 * (t / 8))).take (8 * ((t + I + 7) / 8 - t / 8)) := by rw [bitsRow_take, bitsRow_drop]
    have hby : Bytes ((ns.drop (t / 8)).take ((t + I + 7) / 8 - t / 8)) := fun n hn => hb n (List.mem_of_mem_drop (List.mem_of_mem_take hn))
    generalize (ns.drop (t / 8)).take ((t + I + 7) / 8 - t / 8) = cs at *
    refine w_forL V.int cs (fun pre σ' L' B' => ∃ w, σ' = [some (.ref x), some (.int I), some (.int ((t / 8 : Nat) : Int)), some (.int ((t % 8 : Nat) : Int)), some (.int (((t + I + 7) / 8 : Nat) : Int)), some (.int (((t + I + 7) % 8 : Nat) : Int)), some (.int ((numOf (bitsRow pre) : Nat) : Int)), w] ∧
      B' = B ∧ L' = (p3, .lst (cs.map V.int)) :: (x, rdO K dx s t) :: (s, .lst (ns.map V.int)) :: L) h4 ⟨none, rfl, rfl, rfl⟩ ?_ ?_ ?_
    · rintro pre post σ' L' B' H' _ ⟨w, _, rfl, rfl⟩ h
      exact h.sql (.head _)
    · rintro pre n post σ' L' B' H' e ⟨w, rfl, rfl, rfl⟩ h
      walk_at "go"
      have hpl : pre.length < 5 := by
        have := congrArg List.length e
        simp at this
        omega
      refine c_shl ?_ ?_
      · refine ⟨by omega, by omega, ?_⟩
        have z1 := numOf_lt (bitsRow pre)
        rw [bitsRow_length] at z1
        have z2 := Nat.lt_of_lt_of_le z1 (Nat.pow_le_pow_right (by decide) (show 8 * pre.length ≤ 32 by omega))
        rw [Int.natAbs_natCast]
        exact Nat.lt_trans z2 (by decide)
      walk_at "go"
      have hn := hby n (by rw [e]; simp)
      obtain ⟨m, rfl⟩ := Int.eq_ofNat_of_zero_le hn.1
      have hm : m < 2 ^ 8 := by omega
      refine ⟨_, _, ⟨some (.int m), ?_, rfl, rfl⟩, h⟩
      rw [bitsRow_snoc, numOf_append, bitsOf_length, Int.toNat_natCast, numOf_small hm, show (8 : Int).toNat = 8 from rfl, join_nat hm]
      rfl
    · rintro σ' L' B' H' ⟨w, rfl, rfl, rfl⟩ h
      walk_at "go"
      have e5 : (8 : Int) * ((((t + I + 7) / 8 : Nat) : Int) - ((t / 8 : Nat) : Int)) - ((t % 8 : Nat) : Int) = (((8 * ((t + I + 7) / 8 - t / 8) - t % 8 : Nat)) : Int) := by omega
      rename_i H5 h5
      rw [e5, show (8 : Int) - 1 - (((t + I + 7) % 8 : Nat) : Int) = ((7 - (t + I + 7) % 8 : Nat) : Int) by omega]
      rw [Int.toNat_natCast, Int.toNat_natCast, mask_nat, shr_nat]
      have l1 : (bitsRow cs).length = 8 * ((t + I + 7) / 8 - t / 8) := by rw [bitsRow_length, hcl]
      have z1 := numOf_drop_mod (bitsRow cs) (t % 8)
      rw [l1] at z1
      rw [z1]
      have z2 := numOf_take_div ((bitsRow cs).drop (t % 8)) I
      rw [List.length_drop, l1, show 8 * ((t + I + 7) / 8 - t / 8) - t % 8 - I = 7 - (t + I + 7) % 8 by omega] at z2
      rw [z2]
      have z3 : ((bitsRow cs).drop (t % 8)).take I = ((bitsRow ns).drop t).take I := by
        rw [hcb, List.drop_take, List.drop_drop, List.take_take, show 8 * (t / 8) + t % 8 = t by omega, show min I (8 * ((t + I + 7) / 8 - t / 8) - t % 8) = I by omega]
      rw [z3]
      have e6 : ((t : Nat) : Int) + ((I : Nat) : Int) = ((t + I : Nat) : Int) := by omega
      rw [e6] at h5
      exact q H5 h5.drop
  | _ => cases hk
theorem use_take {B : Hp} {L : Pic} {x dx s : Addr} {t : Nat} {ns : List Int} (i : Nat) {j : Int} (e : j = ((i : Nat) : Int)) (h : Hs B ((x, rdO K dx s t) :: (s, .lst (ns.map V.int)) :: L) H) (hb : Bytes ns) (hl : ns.length ≤ 100000) (hi : i ≤ 24)
    (ht : t + i ≤ 8 * ns.length) (k : ∀ H', Hs B ((x, rdO K dx s (t + i)) :: (s, .lst (ns.map V.int)) :: L) H' → Q (.int ((takenNum ns t i : Nat) : Int)) H') : sp_BitReader_take K [.ref x, .int j] H Q E := by
  subst e
  refine ⟨B, L, x, dx, s, t, ns, _, _, rfl, .int _, h, hb, by omega, hl, fun i' e' _ _ => ?_, fun z => ?_, fun i' e' _ h2 => ?_⟩
  · cases Int.ofNat.inj (Tg.int.inj e')
    exact k
  · simp only [sizeOk, Bool.and_eq_false_iff, decide_eq_false_iff_not] at z
    omega
  · cases Int.ofNat.inj (Tg.int.inj e')
    omega
end L2.BR

namespace L2.BR
open PySem PySem.Spec PyProof.Rows L2.BP
/-! ### tables of lengths -/
def Tab (ls : List Int) : Prop := ls.length = 272 ∧ ∀ x ∈ ls, 0 ≤ x ∧ x ≤ 6
/-- how many stand at the beginning that are x -/
def lead (x : Int) : List Int → Nat
  | [] => 0
  | y :: r => if y = x then lead x r + 1 else 0
theorem lead_cons (x y : Int) (r : List Int) : lead x (y :: r) = if y = x then lead x r + 1 else 0 := rfl
theorem lead_le (x : Int) : ∀ l, lead x l ≤ l.length
  | [] => Nat.le_refl _
  | y :: r => by
    have := lead_le x r
    unfold lead
    split <;> simp <;> omega
theorem lead_take (x : Int) : ∀ (l : List Int) (k : Nat), k ≤ lead x l → l.take k = List.replicate k x
  | _, 0, _ => by simp
  | [], k + 1, h => by simp [lead] at h
  | y :: r, k + 1, h => by
    unfold lead at h
    by_cases e : y = x
    · rw [if_pos e] at h
      rw [List.take_succ_cons, lead_take x r k (by omega), List.replicate_succ, e]
    · rw [if_neg e] at h
      omega
theorem lead_drop (x : Int) : ∀ (l : List Int) (k : Nat), k ≤ lead x l → lead x (l.drop k) = lead x l - k
  | _, 0, _ => by simp
  | [], k + 1, h => by simp [lead] at h
  | y :: r, k + 1, h => by
    unfold lead at h
    by_cases e : y = x
    · rw [if_pos e] at h
      rw [List.drop_succ_cons, lead_drop x r k (by omega)]
      conv => rhs; unfold lead
      rw [if_pos e]
      omega
    · rw [if_neg e] at h
      omega
def more (x : Int) (l : List Int) : Nat := min 66 (lead x l)
/-- the bits of a table's rest, behind a length -/
def enc : Nat → Int → List Int → List Bool
  | 0, _, _ => []
  | _ + 1, _, [] => []
  | n + 1, last, x :: r => if 3 ≤ more last (x :: r) then bitsOf 7 3 ++ bitsOf (more last (x :: r) - 3) 6 ++ enc n last ((x :: r).drop (more last (x :: r))) else bitsOf x.toNat 3 ++ enc n x r
theorem enc_fuel : ∀ n m last l, l.length ≤ n → l.length ≤ m → enc n last l = enc m last l
  | 0, 0, _, _, _, _ => rfl
  | 0, m + 1, _, [], _, _ => rfl
  | n + 1, 0, _, [], _, _ => rfl
  | 0, m + 1, _, _ :: _, h, _ => by simp at h
  | n + 1, 0, _, _ :: _, _, h => by simp at h
  | n + 1, m + 1, _, [], _, _ => rfl
  | n + 1, m + 1, last, x :: r, h1, h2 => by
    rw [List.length_cons] at h1 h2
    unfold enc
    by_cases h3 : 3 ≤ more last (x :: r)
    · rw [if_pos h3, if_pos h3, enc_fuel n m last _ (by rw [List.length_drop, List.length_cons]; omega) (by rw [List.length_drop, List.length_cons]; omega)]
    · rw [if_neg h3, if_neg h3, enc_fuel n m x r (by omega) (by omega)]
def encT (last : Int) (l : List Int) : List Bool := enc l.length last l
theorem encT_nil (last : Int) : encT last [] = [] := rfl
theorem more_le (x : Int) (l : List Int) : more x l ≤ lead x l ∧ more x l ≤ l.length ∧ more x l ≤ 66 := by
  have := lead_le x l
  unfold more
  omega
theorem encT_more {last : Int} {l : List Int} (h : 3 ≤ more last l) : encT last l = bitsOf 7 3 ++ bitsOf (more last l - 3) 6 ++ encT last (l.drop (more last l)) := by
  cases l with
  | nil => simp [more, lead] at h
  | cons x r =>
    unfold encT
    rw [List.length_cons]
    conv => lhs; unfold enc
    rw [if_pos h]
    congr 1
    exact enc_fuel _ _ _ _ (by rw [List.length_drop, List.length_cons]; omega) (Nat.le_refl _)
theorem encT_one {last x : Int} {r : List Int} (h : ¬ 3 ≤ more last (x :: r)) : encT last (x :: r) = bitsOf x.toNat 3 ++ encT x r := by
  unfold encT
  rw [List.length_cons]
  conv => lhs; unfold enc
  rw [if_neg h]
/-! the fewest bits -/
def gC (m : Nat) : Nat := 9 * (m / 66) + (if m % 66 < 3 then 3 * (m % 66) else 9)
theorem gC_step : ∀ m, m < 272 → (if 2 < m + 1 then min (gC m + 3) (gC (m + 1 - 66) + 9) else gC m + 3) = gC (m + 1) := by decide +kernel
theorem enc_lead (x : Int) : ∀ (m : Nat) (l : List Int), lead x l = m → (encT x l).length = gC m + (encT x (l.drop m)).length := by
  intro m
  induction m using Nat.strongRecOn with
  | _ m ih =>
    intro l h
    by_cases h3 : 3 ≤ m
    · have hm : more x l = min 66 m := by unfold more; rw [h]
      have h3' : 3 ≤ more x l := by omega
      have hl := more_le x l
      rw [encT_more h3', List.length_append, List.length_append, bitsOf_length, bitsOf_length]
      have e := ih (m - more x l) (by omega) (l.drop (more x l)) (by rw [lead_drop x l _ hl.1, h])
      rw [e, List.drop_drop, show more x l + (m - more x l) = m by omega]
      have : gC m = 9 + gC (m - more x l) := by
        rw [hm]
        unfold gC
        split <;> split <;> omega
      omega
    · by_cases h0 : m = 0
      · subst h0
        rw [List.drop_zero]
        simp [gC]
      · cases l with
        | nil => simp [lead] at h; omega
        | cons y r =>
          unfold lead at h
          by_cases e : y = x
          · rw [if_pos e] at h
            subst e
            have hm : ¬ 3 ≤ more y (y :: r) := by
              have z := (more_le y (y :: r)).1
              unfold lead at z
              rw [if_pos rfl] at z
              omega
            rw [encT_one hm, List.length_append, bitsOf_length, ih (m - 1) (by omega) r (by omega)]
            have e2 : (y :: r).drop m = r.drop (m - 1) := by
              obtain ⟨k, rfl⟩ : ∃ k, m = k + 1 := ⟨m - 1, by omega⟩
              rfl
            rw [e2]
            have : gC m = 3 + gC (m - 1) := by
              unfold gC
              split <;> split <;> omega
            omega
          · rw [if_neg e] at h
            omega
theorem enc_new {x last : Int} {r : List Int} (h : ¬ x = last) : (encT last (x :: r)).length = 3 + (encT x r).length := by
  have hm : ¬ 3 ≤ more last (x :: r) := by
    unfold more lead
    rw [if_neg h]
    simp
  rw [encT_one hm, List.length_append, bitsOf_length]
theorem drop_cons {ls : List Int} {p : Nat} (h : p < ls.length) : ls.drop p = ls.getD p 0 :: ls.drop (p + 1) := by
  rw [List.drop_eq_getElem_cons h, List.getD_eq_getElem?_getD, List.getElem?_eq_getElem h]
  rfl
theorem tab_at {ls : List Int} (h : Tab ls) {p : Nat} (hp : p < 272) : 0 ≤ ls.getD p 0 ∧ ls.getD p 0 ≤ 6 := by
  have hl : p < ls.length := by rw [h.1]; exact hp
  rw [List.getD_eq_getElem?_getD, List.getElem?_eq_getElem hl]
  exact h.2 _ (List.getElem_mem hl)
/-! items -/
inductive Ite where
  | more (k : Nat)
  | one (x : Int)
def itB : Ite → List Bool
  | .more k => bitsOf 7 3 ++ bitsOf (k - 3) 6
  | .one x => bitsOf x.toNat 3
def itsB (l : List Ite) : List Bool := l.flatMap itB
theorem itsB_cons (i : Ite) (r : List Ite) : itsB (i :: r) = itB i ++ itsB r := rfl
/-- items tell those lengths, behind a length -/
def Lays : Int → List Int → List Ite → Prop
  | _, ls, [] => ls = []
  | last, ls, .more k :: r => 3 ≤ k ∧ k ≤ 66 ∧ k ≤ lead last ls ∧ Lays last (ls.drop k) r
  | _, ls, .one x :: r => ∃ t, ls = x :: t ∧ Lays x t r
theorem enc_items : ∀ (n : Nat) (last : Int) (l : List Int), l.length ≤ n → ∃ its, Lays last l its ∧ itsB its = encT last l
  | _, last, [], _ => ⟨[], rfl, rfl⟩
  | 0, _, _ :: _, h => by simp at h
  | n + 1, last, x :: r, h => by
    rw [List.length_cons] at h
    by_cases h3 : 3 ≤ more last (x :: r)
    · have hm := more_le last (x :: r)
      obtain ⟨its, h1, h2⟩ := enc_items n last ((x :: r).drop (more last (x :: r))) (by rw [List.length_drop, List.length_cons]; omega)
      exact ⟨.more (more last (x :: r)) :: its, ⟨h3, hm.2.2, hm.1, h1⟩, by rw [itsB_cons, h2, encT_more h3]; rfl⟩
    · obtain ⟨its, h1, h2⟩ := enc_items n x r (by omega)
      exact ⟨.one x :: its, ⟨r, rfl, h1⟩, by rw [itsB_cons, h2, encT_one h3]; rfl⟩
theorem lays_short : ∀ {its : List Ite} {last : Int} {l : List Int}, Lays last l its → (itsB its).length ≤ 9 * l.length ∧ its.length ≤ l.length
  | [], _, _, _ => ⟨Nat.zero_le _, Nat.zero_le _⟩
  | .more k :: r, last, l, h => by
    obtain ⟨h1, h2, h3, h4⟩ := h
    obtain ⟨i1, i2⟩ := lays_short h4
    have := lead_le last l
    rw [List.length_drop] at i1 i2
    rw [itsB_cons, List.length_append, List.length_cons]
    show (bitsOf 7 3 ++ bitsOf (k - 3) 6).length + _ ≤ _ ∧ _
    rw [List.length_append, bitsOf_length, bitsOf_length]
    omega
  | .one x :: r, last, l, h => by
    obtain ⟨t, rfl, h4⟩ := h
    obtain ⟨i1, i2⟩ := lays_short h4
    rw [itsB_cons, List.length_append, List.length_cons, List.length_cons]
    show (bitsOf x.toNat 3).length + _ ≤ _ ∧ _
    rw [bitsOf_length]
    omega
end L2.BR

namespace L2.BR
open PySem PySem.Spec PyProof.Rows L2.BP
variable {K : PySem.W.Frag} {W : WX} {vs : List V} {H : Hp} {Q : VK} {E : XK}
def sp_BitReader_place (K : PySem.W.Frag) : Sp := fun vs H Q _ => ∃ (B : Hp) (L : Pic) (x dx s : Addr) (t : Nat) (ns : List Int), vs = [.ref x] ∧ Hs B ((x, rdO K dx s t) :: (s, .lst (ns.map V.int)) :: L) H ∧ Q (.int ((t : Nat) : Int)) H
theorem len_BitReader_place (h : sp_BitReader_place K vs H Q E) : vs.length = 1 := by
  obtain ⟨B, L, x, dx, s, t, ns, rfl, _⟩ := h
  rfl
def t_BitReader_place (K : PySem.W.Frag) (W : WX) : TS :=
  (tRet (tFld K (tVar 0) "taken"))
theorem rd_BitReader_place (kBitReader : KBitReader K) (h : sp_BitReader_place K vs H Q E) : t_BitReader_place K W { nx := fun _ H' => Q .non H', rt := Q } (start ["self"] vs) H := by
  obtain ⟨B, L, x, dx, s, t, ns, rfl, hs, q⟩ := h
  obtain ⟨hc, n1, n2⟩ := kBitReader
  unfold t_BitReader_place
  walk_at "go"
  exact q
end L2.BR

namespace L2.BR
open PySem PySem.Spec PyProof.Rows L2.BP
variable {K : PySem.W.Frag} {W : WX} {vs : List V} {H : Hp} {Q : VK} {E : XK}
/-! a def that is never called here -/
def sp_BitReader_go (K : PySem.W.Frag) : Sp := fun vs H Q _ => False
theorem len_BitReader_go (h : sp_BitReader_go K vs H Q E) : vs.length = 2 := h.elim
def t_BitReader_go (K : PySem.W.Frag) (W : WX) : TS :=
  (tSeq (tIfS ((tOr (tNot (tB (tCl (sp_is_number K) [] W (tCons (tVar 1) tNil)))) (tNot (tTest (tChain rLeU rLeU (tC (.int 0)) (tVar 1) (tOp rMulU (tC (.int 8)) (tCB (rLenK K) (tCons (tFld K (tVar 0) "source") tNil)))))))) (tRz (He.ga K "BadBits") W) tNext)
    (sFld K (tVar 0) (tVar 1) "taken"))
theorem rd_BitReader_go (h : sp_BitReader_go K vs H Q E) : t_BitReader_go K (fun c d _ H2 => E c d H2) { nx := fun _ H' => Q .non H', rt := Q } (start ["self", "place"] vs) H := h.elim
end L2.BR

namespace L2.BR
open PySem PySem.Spec PyProof.Rows L2.BP
variable {K : PySem.W.Frag} {W : WX} {vs : List V} {H : Hp} {Q : VK} {E : XK}
def sp_is_table (K : PySem.W.Frag) : Sp := fun vs H Q _ => ∃ (a : Addr) (ls : List Int), vs = [.ref a] ∧ SqL K H a (ls.map V.int) ∧ Tab ls ∧ RetV H Q (.bl true)
theorem len_is_table (h : sp_is_table K vs H Q E) : vs.length = 1 := by
  obtain ⟨a, ls, rfl, _⟩ := h
  rfl
theorem all_yes (n : Nat) : (List.replicate n true).all id = true := by simp
def t_is_table (K : PySem.W.Frag) (W : WX) : TS :=
  (tSeq (tIfS ((tOr (tNot (tB (tCB (rIsi K) (tCons (tVar 0) (tCons (tC (.ty "list")) tNil))))) (tTest (tOp (rNeU K) (tCB (rLenK K) (tCons (tVar 0) tNil)) (tC (.int 272)))))) (tRet (tC (.bl false))) tNext)
    (tRet (tCB (rAll K) (tCons (tLc (iList K (tVar 0)) (gName 1) tYes ((tAndV (tCB (rIsi K) (tCons (tVar 1) (tCons (tC (.ty "int")) tNil))) (tAndV (tNotV (tCB (rIsi K) (tCons (tVar 1) (tCons (tC (.ty "bool")) tNil)))) (tChain rLeU rLeU (tC (.int 0)) (tVar 1) (tC (.int 6)))))) [1]) tNil))))
theorem rd_is_table (h : sp_is_table K vs H Q E) : t_is_table K W { nx := fun _ H' => Q .non H', rt := Q } (start ["thing", "one"] vs) H := by
  obtain ⟨a, ls, rfl, hS, hT, q⟩ := h
  have hs := Hs.start H
  unfold t_is_table
  walk_at "go"
  refine c_isiList (.lst hS) ?_
  walk_at "go"
  rw [List.length_map, hT.1]
  refine i_f (ne_f rfl) ?_
  walk_at "go"
  refine c_lcL V.int ls (fun pre acc B' => acc = (List.replicate pre.length true).map V.bl ∧ B' = H) hs ⟨rfl, rfl⟩ (fun B' H' e h => h.bl (e.seq hS)) ?_ ?_
  · rintro pre x post acc B' D H' e ⟨rfl, rfl⟩ _ h
    have hpl : pre.length < ls.length := by rw [e]; simp
    have hx := hT.2 x (by rw [e]; simp)
    have hx1 : decide ((0 : Int) ≤ x) = true := decide_eq_true hx.1
    have hx2 : decide (x ≤ (6 : Int)) = true := decide_eq_true hx.2
    have h272 := hT.1
    walk_at "go"
    refine ⟨rfl, ?_⟩
    walk_at "go"
    rw [hx2]
    refine c_item h (small5 (by rw [List.length_map, List.length_replicate]; omega)) (Same.refl _) ⟨?_, rfl⟩
    rw [List.length_append, List.length_singleton, List.replicate_succ', List.map_append]
    rfl
  · rintro acc B' D H2 ⟨rfl, rfl⟩ _ h2
    walk_at "go"
    refine c_all (h2.sql (.head _)) ?_
    rw [all_yes]
    exact q _ h2.ex
def sp_alike_from (K : PySem.W.Frag) : Sp := fun vs H Q _ => ∃ (a : Addr) (ls : List Int) (p : Nat) (x : Int), vs = [.ref a, .int ((p : Nat) : Int), .int x] ∧ SqL K H a (ls.map V.int) ∧ ls.length = 272 ∧ p ≤ 272 ∧ RetV H Q (.int ((more x (ls.drop p) : Nat) : Int))
theorem len_alike_from (h : sp_alike_from K vs H Q E) : vs.length = 3 := by
  obtain ⟨a, ls, p, x, rfl, _⟩ := h
  rfl
def t_alike_from (K : PySem.W.Frag) (W : WX) : TS :=
  (tSeq (tAsg (tC (.int 0)) (gName 3))
    (tSeq (tWhile ((tAnd (tTest (tOp rLtU (tVar 3) (tC (.int 66)))) (tAnd (tTest (tOp rLtU (tOp rAddU (tVar 1) (tVar 3)) (tC (.int 272)))) (tTest (tOp (rEqU K) (tOp (rIx K) (tVar 0) (tOp rAddU (tVar 1) (tVar 3))) (tVar 2)))))) (tAug 3 (tC (.int 1)) ipAddU))
    (tRet (tVar 3))))
theorem rd_alike_from (h : sp_alike_from K vs H Q E) : t_alike_from K W { nx := fun _ H' => Q .non H', rt := Q } (start ["lengths", "place", "length", "found"] vs) H := by
  obtain ⟨a, ls, p, x, rfl, hS, hl, hp, q⟩ := h
  have hs := Hs.start H
  unfold t_alike_from
  walk_at "go"
  refine w_while (fun m σ' L' B' => ∃ f : Nat, f + m = 66 ∧ p + f ≤ 272 ∧ lead x (ls.drop p) = f + lead x (ls.drop (p + f)) ∧ σ' = [some (.ref a), some (.int p), some (.int x), some (.int f)] ∧ B' = H ∧ L' = []) 66 hs ⟨0, by omega, by omega, by rw [Nat.add_zero, Nat.zero_add], rfl, rfl, rfl⟩ ?_
  rintro m σ' L' B' H' ⟨f, hf, hpf, hk, rfl, rfl, rfl⟩ h
  have hS' := h.bl hS
  walk_at "go"
  unfold more at q
  by_cases hlt : f < 66
  · refine i_t (decide_eq_true (by omega)) ?_
    walk_at "go"
    by_cases hlt2 : p + f < 272
    · refine i_t (decide_eq_true (by omega)) ?_
      have i1 : atI (ls.map V.int) (((p : Nat) : Int) + ((f : Nat) : Int)) = some (.int (ls.getD (p + f) 0)) := at_i (by omega) (by omega)
      rw [drop_cons (ls := ls) (p := p + f) (by omega), lead_cons] at hk
      walk_at "go"
      by_cases he : ls.getD (p + f) 0 = x
      · have e3 : lead x (ls.drop p) = f + (lead x (ls.drop (p + f + 1)) + 1) := by
          have z := hk
          conv at z => rhs; rw [if_pos he]
          exact z
        refine i_t (decide_eq_true he) (w_turn ?_)
        walk_at "go"
        refine ⟨m - 1, by omega, _, _, ⟨f + 1, by omega, by omega, ?_, rfl, rfl, rfl⟩, h⟩
        rw [e3, show p + (f + 1) = p + f + 1 by omega]
        omega
      · have e3 : lead x (ls.drop p) = f := by
          have z := hk
          conv at z => rhs; rw [if_neg he]
          exact z
        refine i_f (decide_eq_false he) ?_
        walk_at "go"
        rw [e3, show min 66 f = f by omega] at q
        exact q _ h.ex
    · refine i_f (decide_eq_false (by omega)) ?_
      walk_at "go"
      rw [List.drop_of_length_le (i := p + f) (by omega)] at hk
      have e3 : lead x (ls.drop p) = f := hk
      rw [e3, show min 66 f = f by omega] at q
      exact q _ h.ex
  · refine i_f (decide_eq_false (by omega)) ?_
    walk_at "go"
    rw [show min 66 (lead x (ls.drop p)) = f by omega] at q
    exact q _ h.ex
theorem use_put {B : Hp} {L : Pic} {x dx f : Addr} {b : List Bool} {n s : Nat} {i j : Int} (ei : i = ((n : Nat) : Int)) (ej : j = ((s : Nat) : Int)) (h : Hs B ((x, brO K dx f b) :: (f, brL b) :: L) H) (hb : b.length ≤ 700000) (hs : s ≤ 24) (hn : n < 2 ^ s)
    (k : ∀ H', Hs B ((x, brO K dx f (b ++ bitsOf n s)) :: (f, brL (b ++ bitsOf n s)) :: L) H' → Q .non H') : sp_BitRow_put K [.ref x, .int i, .int j] H Q E := by
  subst ei ej
  refine ⟨B, L, x, dx, f, b, _, _, .int ((n : Nat) : Int), .int ((s : Nat) : Int), rfl, .int _, .int _, h, hb, fun n' s' e1 e2 _ _ => ?_, fun z => ?_⟩
  · cases Int.ofNat.inj (Tg.int.inj e1)
    cases Int.ofNat.inj (Tg.int.inj e2)
    exact k
  · simp only [sizeOk, putOk, Int.toNat_natCast, two_cast, Bool.and_eq_false_iff, decide_eq_false_iff_not] at z
    omega
def sp_put_table (K : PySem.W.Frag) : Sp := fun vs H Q _ => ∃ (B : Hp) (L : Pic) (x dx f a : Addr) (b : List Bool) (ls : List Int), vs = [.ref x, .ref a] ∧ Hs B ((x, brO K dx f b) :: (f, brL b) :: L) H ∧ (∀ y z H', Hs B ((x, y) :: (f, z) :: L) H' → SqL K H' a (ls.map V.int)) ∧ Tab ls ∧ b.length ≤ 600000 ∧
  ∀ H', Hs B ((x, brO K dx f (b ++ encT 0 ls)) :: (f, brL (b ++ encT 0 ls)) :: L) H' → Q .non H'
theorem len_put_table (h : sp_put_table K vs H Q E) : vs.length = 2 := by
  obtain ⟨B, L, x, dx, f, a, b, ls, rfl, _⟩ := h
  rfl
def t_put_table (K : PySem.W.Frag) (W : WX) : TS :=
  (tSeq (tIfS (tNot (tB (tCl (sp_is_table K) [] W (tCons (tVar 1) tNil)))) (tRz (He.ga K "BadTable") W) tNext)
    (tSeq (tAsg (tC (.int 0)) (gName 2))
    (tSeq (tAsg (tC (.int 0)) (gName 3))
    (tWhile (tTest (tOp rLtU (tVar 3) (tC (.int 272)))) (tSeq (tAsg (tCl (sp_alike_from K) [] W (tCons (tVar 1) (tCons (tVar 3) (tCons (tVar 2) tNil)))) (gName 4))
    (tSeq (tIfS (tTest (tOp rGeU (tVar 4) (tC (.int 3)))) (tSeq (tDrop (tMt (He.ga K "BitRow") "put" (sp_BitRow_put K) [] W (tVar 0) (tCons (tC (.int 7)) (tCons (tC (.int 3)) tNil))))
    (tSeq (tDrop (tMt (He.ga K "BitRow") "put" (sp_BitRow_put K) [] W (tVar 0) (tCons (tOp rSubU (tVar 4) (tC (.int 3))) (tCons (tC (.int 6)) tNil))))
    (tSeq (tAug 3 (tVar 4) ipAddU)
    (tCont)))) tNext)
    (tSeq (tAsg (tOp (rIx K) (tVar 1) (tVar 3)) (gName 2))
    (tSeq (tDrop (tMt (He.ga K "BitRow") "put" (sp_BitRow_put K) [] W (tVar 0) (tCons (tVar 2) (tCons (tC (.int 3)) tNil))))
    (tAug 3 (tC (.int 1)) ipAddU)))))))))
theorem rd_put_table (h : sp_put_table K vs H Q E) : t_put_table K (fun c d _ H2 => E c d H2) { nx := fun _ H' => Q .non H', rt := Q } (start ["bits", "lengths", "last", "place", "more"] vs) H := by
  obtain ⟨B, L, x, dx, f, a, b, ls, rfl, hs, hS, hT, hb, q⟩ := h
  unfold t_put_table
  walk_at "go"
  refine ⟨a, ls, rfl, hS _ _ _ hs, hT, retV hs fun H1 h1 => ?_⟩
  clear hs
  walk_at "go"
  refine w_while (fun m σ' L' B' => ∃ (p : Nat) (last : Int) (b' : List Bool) (w4 : Option V), p + m = 272 ∧ b'.length ≤ 600000 + 9 * p ∧ b ++ encT 0 ls = b' ++ encT last (ls.drop p) ∧ σ' = [some (.ref x), some (.ref a), some (.int last), some (.int p), w4] ∧ B' = B ∧
    L' = (x, brO K dx f b') :: (f, brL b') :: L) 272 h1 ⟨0, 0, b, none, by omega, by omega, by rw [List.drop_zero], rfl, rfl, rfl⟩ ?_
  rintro m σ' L' B' H' ⟨p, last, b', w4, hp, hb', he, rfl, rfl, rfl⟩ h
  have hS' := hS _ _ _ h
  have h272 := hT.1
  walk_at "go"
  by_cases hlt : p < 272
  · refine i_t (decide_eq_true (by omega)) (w_turn ?_)
    walk_at "go"
    refine ⟨a, ls, p, last, rfl, hS', h272, by omega, retV h fun H2 h2 => ?_⟩
    clear h hS'
    have hm := more_le last (ls.drop p)
    rw [List.length_drop] at hm
    have hS2 := hS _ _ _ h2
    walk_at "go"
    by_cases h3 : 3 ≤ more last (ls.drop p)
    · rw [encT_more h3, List.drop_drop, ← List.append_assoc, ← List.append_assoc] at he
      refine i_t (decide_eq_true (by omega)) ?_
      walk_at "go"
      refine use_put (n := 7) (s := 3) rfl rfl h2 (by omega) (by decide) (by decide) fun H3 h4 => ?_
      walk_at "go"
      refine use_put (n := more last (ls.drop p) - 3) (s := 6) (by omega) rfl h4 (by rw [List.length_append, bitsOf_length]; omega) (by decide) (by show _ < 64; omega) fun H4 h5 => ?_
      walk_at "go"
      refine ⟨m - more last (ls.drop p), by omega, _, _, ⟨p + more last (ls.drop p), last, _, _, by omega, ?_, he, rfl, rfl, rfl⟩, h5⟩
      rw [List.length_append, List.length_append, bitsOf_length, bitsOf_length]
      omega
    · have hx := tab_at hT hlt
      have i1 : atI (ls.map V.int) ((p : Nat) : Int) = some (.int (ls.getD p 0)) := at_nat (by omega)
      rw [drop_cons (ls := ls) (p := p) (by omega)] at h3 he
      rw [encT_one h3, ← List.append_assoc] at he
      rw [← drop_cons (ls := ls) (p := p) (by omega)] at h3
      refine i_f (decide_eq_false (by omega)) ?_
      walk_at "go"
      refine use_put (n := (ls.getD p 0).toNat) (s := 3) (by omega) rfl h2 (by omega) (by decide) (by show _ < 8; omega) fun H3 h4 => ?_
      walk_at "go"
      refine ⟨m - 1, by omega, _, _, ⟨p + 1, _, _, _, by omega, ?_, he, rfl, rfl, rfl⟩, h4⟩
      rw [List.length_append, bitsOf_length]
      omega
  · refine i_f (decide_eq_false (by omega)) ?_
    walk_at "go"
    rw [List.drop_of_length_le (by omega), encT_nil, List.append_nil] at he
    rw [← he] at h
    exact q H' h
theorem _root_.L2.BP.Hs.tox {B : Hp} {L : Pic} {a b c : Addr × HO} (h : Hs B (a :: b :: c :: L) H) : Hs B (b :: c :: a :: L) H := Hs.unrot3 h
theorem take_at {ns : List Int} {t v i : Nat} {rest : List Bool} (ht : t ≤ 8 * ns.length) (h : (bitsRow ns).drop t = bitsOf v i ++ rest) (hv : v < 2 ^ i) : takenNum ns t i = v ∧ t + i ≤ 8 * ns.length := by
  have z := congrArg List.length h
  rw [List.length_drop, List.length_append, bitsOf_length, bitsRow_length] at z
  refine ⟨?_, by omega⟩
  unfold takenNum
  rw [h, List.take_append_of_le_length (by rw [bitsOf_length]; omega), List.take_of_length_le (by rw [bitsOf_length]; omega), numOf_small hv]
theorem take_snocT {ns : List Int} {p : Nat} (h : p < ns.length) : ns.take p ++ [ns.getD p 0] = ns.take (p + 1) := by
  rw [List.take_add_one, List.getElem?_eq_getElem h, List.getD_eq_getElem?_getD, List.getElem?_eq_getElem h]
  rfl
/-- what comes of a reader next, put on behind -/
theorem drop_next {l : List Bool} {t v i : Nat} {rest : List Bool} (h : l.drop t = bitsOf v i ++ rest) : l.drop (t + i) = rest := by
  rw [← List.drop_drop, h, List.drop_append_of_le_length (by rw [bitsOf_length]; omega), List.drop_of_length_le (by rw [bitsOf_length]; omega), List.nil_append]
def sp_items_read (K : PySem.W.Frag) : Sp := fun vs H Q _ => ∃ (B : Hp) (L : Pic) (x dx s : Addr) (t : Nat) (ns ls : List Int) (its : List Ite) (tail : List Bool), vs = [.ref x] ∧ Hs B ((x, rdO K dx s t) :: (s, .lst (ns.map V.int)) :: L) H ∧ Bytes ns ∧ ns.length ≤ 100000 ∧ t ≤ 8 * ns.length ∧
  (bitsRow ns).drop t = itsB its ++ tail ∧ Lays 0 ls its ∧ Tab ls ∧ ∀ p H', Hs B ((p, .lst (ls.map V.int)) :: (x, rdO K dx s (t + (itsB its).length)) :: (s, .lst (ns.map V.int)) :: L) H' → Q (.ref p) H'
theorem len_items_read (h : sp_items_read K vs H Q E) : vs.length = 1 := by
  obtain ⟨B, L, x, dx, s, t, ns, ls, its, tail, rfl, _⟩ := h
  rfl
def t_items_read (K : PySem.W.Frag) (W : WX) : TS :=
  (tSeq (tAsg (tLst tNil) (gName 1))
    (tSeq (tAsg (tC (.int 0)) (gName 2))
    (tSeq (tWhile (tTest (tOp rLtU (tCB (rLenK K) (tCons (tVar 1) tNil)) (tC (.int 272)))) (tSeq (tAsg (tMt (He.ga K "BitReader") "take" (sp_BitReader_take K) [] W (tVar 0) (tCons (tC (.int 3)) tNil)) (gName 3))
    (tIfS (tTest (tOp (rEqU K) (tVar 3) (tC (.int 7)))) (tAug 1 (tOp rMulU (tLst (tCons (tVar 2) tNil)) (tOp rAddU (tMt (He.ga K "BitReader") "take" (sp_BitReader_take K) [] W (tVar 0) (tCons (tC (.int 6)) tNil)) (tC (.int 3)))) ipAddU) (tSeq (tAsg (tVar 3) (gName 2))
    (tDrop (tBM K "list" rAppend (tVar 1) (tCons (tVar 2) tNil)))))))
    (tRet (tVar 1)))))
theorem rd_items_read (h : sp_items_read K vs H Q E) : t_items_read K (fun c d _ H2 => E c d H2) { nx := fun _ H' => Q .non H', rt := Q } (start ["reader", "found", "last", "item"] vs) H := by
  obtain ⟨B, L, x, dx, s, t, ns, ls, its, tail, rfl, hs, hb, hl, ht, hd, hL, hT, q⟩ := h
  unfold t_items_read
  walk_at "go"
  rename_i f H1 h1
  have h272 := hT.1
  refine w_while (fun m σ' L' B' => ∃ (p : Nat) (last : Int) (u : Nat) (r : List Ite) (w3 : Option V), p + m = 272 ∧ u ≤ 8 * ns.length ∧ (bitsRow ns).drop u = itsB r ++ tail ∧ Lays last (ls.drop p) r ∧ u + (itsB r).length = t + (itsB its).length ∧ σ' = [some (.ref x), some (.ref f), some (.int last), w3] ∧ B' = B ∧
    L' = (f, .lst ((ls.take p).map V.int)) :: (x, rdO K dx s u) :: (s, .lst (ns.map V.int)) :: L) 272 h1 ⟨0, 0, t, its, none, by omega, ht, hd, by rw [List.drop_zero]; exact hL, rfl, rfl, rfl, rfl⟩ ?_
  rintro m σ' L' B' H' ⟨p, last, u, r, w3, hp, hu, hdu, hLr, hlu, rfl, rfl, rfl⟩ h
  have htl : (ls.take p).length = p := by rw [List.length_take]; omega
  walk_at "go"
  rw [List.length_map, htl]
  by_cases hlt : p < 272
  · refine i_t (decide_eq_true (by omega)) (w_turn ?_)
    have h' := h.tox
    clear h h1 hs
    walk_at "go"
    cases r with
    | nil =>
      have z := congrArg List.length (show ls.drop p = [] from hLr)
      rw [List.length_drop, List.length_nil] at z
      omega
    | cons it r =>
      cases it with
      | more k =>
        obtain ⟨hk1, hk2, hk3, hLr2⟩ := hLr
        have hkl := lead_le last (ls.drop p)
        rw [List.length_drop] at hkl
        rw [List.drop_drop] at hLr2
        rw [itsB_cons, show itB (.more k) = bitsOf 7 3 ++ bitsOf (k - 3) 6 from rfl, List.append_assoc, List.append_assoc] at hdu
        rw [itsB_cons, show itB (.more k) = bitsOf 7 3 ++ bitsOf (k - 3) 6 from rfl, List.length_append, List.length_append, bitsOf_length, bitsOf_length] at hlu
        obtain ⟨t1, t2⟩ := take_at hu hdu (by decide)
        have hd2 := drop_next hdu
        obtain ⟨t3, t4⟩ := take_at t2 hd2 (by show _ < 64; omega)
        have hd3 := drop_next hd2
        refine use_take 3 rfl h' hb hl (by decide) t2 fun H3 h4 => ?_
        rw [t1]
        walk_at "go"
        rename_i q1 H4 h5
        refine use_take 6 rfl h5.tox hb hl (by decide) t4 fun H5 h6 => ?_
        rw [t3]
        have hq := h6.get (.tail _ (.tail _ (.head _)))
        have h7 := h6.drop2.rot3
        clear h6 h5 h4 h'
        walk_at "go"
        refine c_rep h7 hq (by omega) (by omega) (small6' (by simp; omega)) fun r2 H6 h8 => ?_
        refine c_ext0 h8.drop (h8.get (.head _)) (small6' (by rw [List.length_map, htl]; simp; omega)) fun H7 h9 => ?_
        have e1 : (ls.take p).map V.int ++ (List.replicate (((k - 3 : Nat) : Int) + 3).toNat [V.int last]).flatten = (ls.take (p + k)).map V.int := by
          rw [show (((k - 3 : Nat) : Int) + 3).toNat = k by omega, List.take_add, lead_take last _ _ hk3, List.map_append, List.map_replicate, List.flatten_replicate_singleton]
        rw [e1] at h9
        walk_at "go"
        exact ⟨m - k, by omega, _, _, ⟨p + k, last, u + 3 + 6, r, _, by omega, t4, hd3, hLr2, by omega, rfl, rfl, rfl⟩, h9⟩
      | one y =>
        obtain ⟨tl, et, hLr2⟩ := hLr
        have hx := tab_at hT hlt
        have ed := drop_cons (ls := ls) (p := p) (by omega)
        rw [ed] at et
        injection et with ey etl
        subst ey etl
        rw [itsB_cons, show itB (.one (ls.getD p 0)) = bitsOf (ls.getD p 0).toNat 3 from rfl, List.append_assoc] at hdu
        rw [itsB_cons, show itB (.one (ls.getD p 0)) = bitsOf (ls.getD p 0).toNat 3 from rfl, List.length_append, bitsOf_length] at hlu
        obtain ⟨t1, t2⟩ := take_at hu hdu (by show _ < 8; omega)
        have hd2 := drop_next hdu
        refine use_take 3 rfl h' hb hl (by decide) t2 fun H3 h4 => ?_
        rw [t1]
        have e2 : (((ls.getD p 0).toNat : Nat) : Int) = ls.getD p 0 := by omega
        have h5 := h4.rot3
        clear h4 h'
        walk_at "go"
        rw [e2]
        refine c_app0 h5 (small5 (by rw [List.length_map]; omega)) fun H4 h6 => ?_
        have e1 : (ls.take p).map V.int ++ [V.int (ls.getD p 0)] = (ls.take (p + 1)).map V.int := by
          rw [← take_snocT (by omega), List.map_append]
          rfl
        rw [e1] at h6
        walk_at "go"
        exact ⟨m - 1, by omega, _, _, ⟨p + 1, ls.getD p 0, u + 3, r, _, by omega, t2, hd2, hLr2, by omega, rfl, rfl, rfl⟩, h6⟩
  · refine i_f (decide_eq_false (by omega)) ?_
    walk_at "go"
    rw [List.drop_of_length_le (by omega)] at hLr
    have hr0 : r = [] := by
      cases r with
      | nil => rfl
      | cons it r =>
        cases it with
        | more k =>
          obtain ⟨hk1, _, hk3, _⟩ := hLr
          simp [lead] at hk3
          omega
        | one y =>
          obtain ⟨tl, et, _⟩ := hLr
          cases et
    rw [hr0] at hlu
    rw [List.take_of_length_le (by omega), show u = t + (itsB its).length by simpa [itsB] using hlu] at h
    exact q f H' h
def sp_take_table (K : PySem.W.Frag) : Sp := fun vs H Q _ => ∃ (B : Hp) (L : Pic) (x dx s : Addr) (t : Nat) (ns ls : List Int) (its : List Ite) (tail : List Bool), vs = [.ref x] ∧ Hs B ((x, rdO K dx s t) :: (s, .lst (ns.map V.int)) :: L) H ∧ Bytes ns ∧ ns.length ≤ 100000 ∧ t ≤ 8 * ns.length ∧
  (bitsRow ns).drop t = itsB its ++ tail ∧ Lays 0 ls its ∧ Tab ls ∧ ∀ p H', Hs B ((p, .lst (ls.map V.int)) :: (x, rdO K dx s (t + (itsB its).length)) :: (s, .lst (ns.map V.int)) :: L) H' → Q (.ref p) H'
theorem len_take_table (h : sp_take_table K vs H Q E) : vs.length = 1 := by
  obtain ⟨B, L, x, dx, s, t, ns, ls, its, tail, rfl, _⟩ := h
  rfl
def t_take_table (K : PySem.W.Frag) (W : WX) : TS :=
  (tSeq (tAsg (tMt (He.ga K "BitReader") "place" (sp_BitReader_place K) [] W (tVar 0) tNil) (gName 1))
    (tSeq ((tAsg (tCl (sp_items_read K) [] WF (tCons (tVar 0) tNil)) (gName 2)))
    (tSeq (tIfS (tTest (tOp rGtU (tCB (rLenK K) (tCons (tVar 2) tNil)) (tC (.int 272)))) (tSeq (tDrop (tMt (He.ga K "BitReader") "go" (sp_BitReader_go K) [] W (tVar 0) (tCons (tVar 1) tNil)))
    (tRz (He.ga K "BadTable") W)) tNext)
    (tRet (tVar 2)))))
theorem rd_take_table (h : sp_take_table K vs H Q E) : t_take_table K (fun c d _ H2 => E c d H2) { nx := fun _ H' => Q .non H', rt := Q } (start ["reader", "place", "found"] vs) H := by
  obtain ⟨B, L, x, dx, s, t, ns, ls, its, tail, rfl, hs, hb, hl, ht, hd, hL, hT, q⟩ := h
  have h272 := hT.1
  unfold t_take_table
  walk_at "go"
  refine ⟨B, L, x, dx, s, t, ns, rfl, hs, ?_⟩
  walk_at "go"
  refine ⟨B, L, x, dx, s, t, ns, ls, its, tail, rfl, hs, hb, hl, ht, hd, hL, hT, fun p H1 h1 => ?_⟩
  clear hs
  walk_at "go"
  rw [List.length_map, h272]
  walk_at "go"
  exact q p H1 h1
end L2.BR

namespace L2.BR
open PySem PySem.Spec PyProof.Rows L2.BP
variable {K : PySem.W.Frag} {W : WX} {vs : List V} {H : Hp} {Q : VK} {E : XK}
def sp__law_mixed (K : PySem.W.Frag) : Sp := fun vs H Q _ => ∃ c k : Int, vs = [.int c, .int k] ∧ 0 ≤ k ∧ k ≤ 100000 ∧ ∀ m : Int, 0 ≤ m → Q (.int m) H
theorem len__law_mixed (h : sp__law_mixed K vs H Q E) : vs.length = 2 := by
  obtain ⟨c, k, rfl, _⟩ := h
  rfl
def t__law_mixed (K : PySem.W.Frag) (W : WX) : TS :=
  (tRet (tOp rModU (tOp rMulU (tOp rModU (tOp rMulU (tOp rAddU (tOp rAddU (tVar 0) (tOp rMulU (tOp rMulU (tC (.int 101)) (tVar 1)) (tVar 1))) (tC (.int 7))) (tC (.int 48271))) (tC (.int 2147483647))) (tC (.int 69621))) (tC (.int 2147483629))))
theorem rd__law_mixed (h : sp__law_mixed K vs H Q E) : t__law_mixed K W { nx := fun _ H' => Q .non H', rt := Q } (start ["_law_cell", "_law_k"] vs) H := by
  obtain ⟨c, k, rfl, h0, h1, q⟩ := h
  have hs := Hs.start H
  unfold t__law_mixed
  walk_at "go"
  exact q _ (Int.emod_nonneg _ (by decide))
end L2.BR

namespace L2.BR
open PySem PySem.Spec PyProof.Rows L2.BP
variable {K : PySem.W.Frag} {W : WX} {vs : List V} {H : Hp} {Q : VK} {E : XK}
def sp__law_table (K : PySem.W.Frag) : Sp := fun vs H Q _ => ∃ (a : Addr) (ns : List Int), vs = [.ref a, .int 2] ∧ SqL K H a (ns.map V.int) ∧ ∀ ls : List Int, Tab ls → RetL H Q (ls.map V.int)
theorem len__law_table (h : sp__law_table K vs H Q E) : vs.length = 2 := by
  obtain ⟨a, ns, rfl, _⟩ := h
  rfl
def t__law_table (K : PySem.W.Frag) (W : WX) : TS :=
  (tSeq (tAsg (tLst tNil) (gName 2))
    (tSeq (tAsg (tC (.int 0)) (gName 3))
    (tSeq (tWhile (tTest (tOp rLtU (tCB (rLenK K) (tCons (tVar 2) tNil)) (tC (.int 272)))) (tSeq (tAsg (tCl (sp__law_mixed K) [] W (tCons (tCl (sp__law_cell_at K) [] W (tCons (tVar 0) (tCons (tOp rAddU (tVar 1) (tOp rModU (tVar 3) (tC (.int 12)))) tNil))) (tCons (tVar 3) tNil))) (gName 4))
    (tSeq (tAsg (tOp rDivU (tVar 4) (tC (.int 8))) (gName 5))
    (tSeq (tAsg (tOp (rIx K) (tLst (tCons (tC (.int 1)) (tCons (tC (.int 1)) (tCons (tC (.int 2)) (tCons (tC (.int 3)) (tCons (tOp rAddU (tC (.int 4)) (tOp rModU (tVar 5) (tC (.int 9)))) (tCons (tOp rAddU (tC (.int 1)) (tOp rModU (tVar 5) (tC (.int 64)))) (tCons (tOp rAddU (tC (.int 64)) (tOp rModU (tVar 5) (tC (.int 12)))) (tCons (tOp rAddU (tC (.int 129)) (tOp rModU (tVar 5) (tC (.int 8)))) tNil))))))))) (tOp rModU (tVar 4) (tC (.int 8)))) (gName 6))
    (tSeq (tAsg (tOp (rIx K) (tLst (tCons (tC (.int 0)) (tCons (tOp rModU (tOp rDivU (tVar 4) (tC (.int 1024))) (tC (.int 7))) (tCons (tOp rModU (tOp rDivU (tVar 4) (tC (.int 1024))) (tC (.int 7))) (tCons (tC (.int 6)) tNil))))) (tOp rModU (tOp rDivU (tVar 4) (tC (.int 256))) (tC (.int 4)))) (gName 7))
    (tSeq (tAug 2 (tOp rMulU (tLst (tCons (tVar 7) tNil)) (tVar 6)) ipAddU)
    (tAug 3 (tC (.int 1)) ipAddU)))))))
    (tRet (tSl (rSlK K) (tVar 2) tNoPart (tPart (tC (.int 272))))))))
theorem rd__law_table (h : sp__law_table K vs H Q E) : t__law_table K W { nx := fun _ H' => Q .non H', rt := Q } (start ["_law_script", "_law_first", "_law_found", "_law_k", "_law_number_here", "_law_more", "_law_size", "_law_length"] vs) H := by
  obtain ⟨a, ns, rfl, hS, q⟩ := h
  have hs := Hs.start H
  unfold t__law_table
  walk_at "go"
  rename_i f H0 h0
  refine w_while (fun m σ' L' B' => ∃ (ts : List Int) (i : Nat) (w4 w5 w6 w7 : Option V), m = 272 - ts.length ∧ (∀ x ∈ ts, 0 ≤ x ∧ x ≤ 6) ∧ ts.length ≤ 500 ∧ i ≤ ts.length ∧ σ' = [some (.ref a), some (.int 2), some (.ref f), some (.int ((i : Nat) : Int)), w4, w5, w6, w7] ∧ B' = H ∧ L' = [(f, .lst (ts.map V.int))]) 272 h0
    ⟨[], 0, none, none, none, none, rfl, fun _ h => (nomatch h), by simp, Nat.le_refl _, rfl, rfl, rfl⟩ ?_
  rintro m σ' L' B' H' ⟨ts, i, w4, w5, w6, w7, rfl, hb, hl, hi, rfl, rfl, rfl⟩ h
  have hS' := h.bl hS
  walk_at "go"
  rw [List.length_map]
  by_cases hlt : ts.length < 272
  · refine i_t (decide_eq_true (by omega)) (w_turn ?_)
    walk_at "go"
    refine ⟨a, ns, _, rfl, hS', by omega, ?_⟩
    walk_at "go"
    refine ⟨_, _, rfl, by omega, by omega, fun x hx => ?_⟩
    obtain ⟨M, rfl⟩ := Int.eq_ofNat_of_zero_le hx
    obtain ⟨v1, hv0, hv1, hi1⟩ : ∃ v : Nat, 1 ≤ v ∧ v ≤ 136 ∧ atI [V.int 1, V.int 1, V.int 2, V.int 3, V.int (4 + ((M : Nat) : Int) / 8 % 9), V.int (1 + ((M : Nat) : Int) / 8 % 64), V.int (64 + ((M : Nat) : Int) / 8 % 12), V.int (129 + ((M : Nat) : Int) / 8 % 8)] (((M : Nat) : Int) % 8) = some (.int ((v : Nat) : Int)) := by
      have hj : ((M : Nat) : Int) % 8 = 0 ∨ ((M : Nat) : Int) % 8 = 1 ∨ ((M : Nat) : Int) % 8 = 2 ∨ ((M : Nat) : Int) % 8 = 3 ∨ ((M : Nat) : Int) % 8 = 4 ∨ ((M : Nat) : Int) % 8 = 5 ∨ ((M : Nat) : Int) % 8 = 6 ∨ ((M : Nat) : Int) % 8 = 7 := by omega
      rcases hj with e | e | e | e | e | e | e | e
      · exact ⟨1, by omega, by omega, by rw [e]; rfl⟩
      · exact ⟨1, by omega, by omega, by rw [e]; rfl⟩
      · exact ⟨2, by omega, by omega, by rw [e]; rfl⟩
      · exact ⟨3, by omega, by omega, by rw [e]; rfl⟩
      · exact ⟨4 + M / 8 % 9, by omega, by omega, by rw [e]; rfl⟩
      · exact ⟨1 + M / 8 % 64, by omega, by omega, by rw [e]; rfl⟩
      · exact ⟨64 + M / 8 % 12, by omega, by omega, by rw [e]; rfl⟩
      · exact ⟨129 + M / 8 % 8, by omega, by omega, by rw [e]; rfl⟩
    obtain ⟨v2, hv2, hi2⟩ : ∃ v : Int, (0 ≤ v ∧ v ≤ 6) ∧ atI [V.int 0, V.int (((M : Nat) : Int) / 1024 % 7), V.int (((M : Nat) : Int) / 1024 % 7), V.int 6] (((M : Nat) : Int) / 256 % 4) = some (.int v) := by
      have hj : ((M : Nat) : Int) / 256 % 4 = 0 ∨ ((M : Nat) : Int) / 256 % 4 = 1 ∨ ((M : Nat) : Int) / 256 % 4 = 2 ∨ ((M : Nat) : Int) / 256 % 4 = 3 := by omega
      rcases hj with e | e | e | e
      · exact ⟨0, by omega, by rw [e]; rfl⟩
      · exact ⟨((M : Nat) : Int) / 1024 % 7, by omega, by rw [e]; rfl⟩
      · exact ⟨((M : Nat) : Int) / 1024 % 7, by omega, by rw [e]; rfl⟩
      · exact ⟨6, by omega, by rw [e]; rfl⟩
    walk_at "go"
    rename_i l1 H1 h1 l2 H2 h2 l3 H3 h3
    have hq := h3.get (.head _)
    have h4 := h3.drop.drop.drop
    clear h1 h2 h3 h
    refine c_rep h4 hq (by omega) (by omega) (small6' (by simp; omega)) fun r H6 h8 => ?_
    refine c_ext0 h8.drop (h8.get (.head _)) (small6' (by rw [List.length_map]; simp; omega)) fun H7 h9 => ?_
    have e1 : ts.map V.int ++ (List.replicate (((v1 : Nat) : Int)).toNat [V.int v2]).flatten = (ts ++ List.replicate v1 v2).map V.int := by
      rw [Int.toNat_natCast, List.map_append, List.map_replicate, List.flatten_replicate_singleton]
    rw [e1] at h9
    walk_at "go"
    refine ⟨_, ?_, _, _, ⟨ts ++ List.replicate v1 v2, i + 1, _, _, _, _, rfl, ?_, by rw [List.length_append, List.length_replicate]; omega, by rw [List.length_append, List.length_replicate]; omega, rfl, rfl, rfl⟩, h9⟩
    · rw [List.length_append, List.length_replicate]
      omega
    · intro n hn
      rcases List.mem_append.mp hn with q | q
      · exact hb n q
      · rw [(List.mem_replicate.mp q).2]
        exact hv2
  · refine i_f (decide_eq_false (by omega)) ?_
    walk_at "go"
    rename_i p H2 h2
    rw [show (272 : Int) = ((272 : Nat) : Int) from rfl, cut_take] at h2
    exact h2.rl (.head _) (q (ts.take 272) ⟨by rw [List.length_take]; omega, fun n hn => hb n (List.mem_of_mem_take hn)⟩)
end L2.BR

namespace L2.BR
open PySem PySem.Spec PyProof.Rows L2.BP
variable {K : PySem.W.Frag} {W : WX} {vs : List V} {H : Hp} {Q : VK} {E : XK}
def bI (b : Bool) : Int := ((b.toNat : Nat) : Int)
theorem cutV_last (xs : List V) : cutV xs (some (-1)) none = xs.drop (xs.length - 1) := by
  unfold cutV
  have e : HT.sIx xs.length 0 (some (-1)) = xs.length - 1 := by
    show (if (-1 : Int) < 0 then ((-1 : Int) + (xs.length : Int)).toNat else min (-1 : Int).toNat xs.length) = _
    rw [if_pos (by decide)]
    omega
  rw [e, HT.sIx_none]
  exact List.take_of_length_le (by rw [List.length_drop]; omega)
def sp__law_bits (K : PySem.W.Frag) : Sp := fun vs H Q _ => ∃ (a : Addr) (ns : List Int), vs = [.ref a] ∧ SqL K H a (ns.map V.int) ∧ Bytes ns ∧ ns.length ≤ 10000 ∧ RetL H Q (((bitsRow ns).map bI).map V.int)
theorem len__law_bits (h : sp__law_bits K vs H Q E) : vs.length = 1 := by
  obtain ⟨a, ns, rfl, _⟩ := h
  rfl
theorem bits8 (m : Nat) : (bitsOf m 8).map bI = (List.range 8).map fun k => ((m / 2 ^ (7 - k) % 2 : Nat) : Int) := by
  have e : ∀ x : Nat, bI (x % 2 == 1) = ((x % 2 : Nat) : Int) := fun x => by
    rcases Nat.mod_two_eq_zero_or_one x with h | h <;> rw [h] <;> rfl
  show [bI (m / 2 ^ 7 % 2 == 1), bI (m / 2 ^ 6 % 2 == 1), bI (m / 2 ^ 5 % 2 == 1), bI (m / 2 ^ 4 % 2 == 1), bI (m / 2 ^ 3 % 2 == 1), bI (m / 2 ^ 2 % 2 == 1), bI (m / 2 ^ 1 % 2 == 1), bI (m / 2 ^ 0 % 2 == 1)] = _
  rw [e, e, e, e, e, e, e, e]
  rfl
def t__law_bits (K : PySem.W.Frag) (W : WX) : TS :=
  (tSeq (tAsg (tLst tNil) (gName 1))
    (tSeq (tFor (iList K (tVar 0)) (gName 2) (tAug 1 (tLc (iRng1 (tCons (tC (.int 8)) tNil)) (gName 3) tYes (tOp rAndU (tOp rShrU (tVar 2) (tOp rSubU (tC (.int 7)) (tVar 3))) (tC (.int 1))) [3]) ipAddU))
    (tRet (tVar 1))))
theorem rd__law_bits (h : sp__law_bits K vs H Q E) : t__law_bits K W { nx := fun _ H' => Q .non H', rt := Q } (start ["_law_row", "_law_found", "_law_byte", "_law_k"] vs) H := by
  obtain ⟨a, ns, rfl, hS, hb, hl, q⟩ := h
  have hs := Hs.start H
  unfold t__law_bits
  walk_at "go"
  rename_i f H1 h1
  refine w_forL V.int ns (fun pre σ' L' B' => ∃ w2, σ' = [some (.ref a), some (.ref f), w2, none] ∧ B' = H ∧ L' = [(f, .lst (((bitsRow pre).map bI).map V.int))]) h1 ⟨none, rfl, rfl, rfl⟩ ?_ ?_ ?_
  · rintro pre post σ' L' B' H' _ ⟨w2, _, rfl, rfl⟩ h
    exact h.bl hS
  · rintro pre n post σ' L' B' H' e ⟨w2, rfl, rfl, rfl⟩ h
    have hn := hb n (by rw [e]; simp)
    obtain ⟨m, rfl⟩ := Int.eq_ofNat_of_zero_le hn.1
    have hpl : pre.length < ns.length := by rw [e]; simp
    walk_at "go"
    refine ⟨8, rfl, by decide, by decide, ?_⟩
    rw [show (8 : Int).toNat = 8 from rfl]
    refine c_lcR (fun i acc B2 => acc = ((List.range i).map fun k => ((m / 2 ^ (7 - k) % 2 : Nat) : Int)).map V.int ∧ B2 = B') h ⟨rfl, rfl⟩ ?_ ?_
    · rintro i acc B2 D H2 hi ⟨rfl, rfl⟩ _ h2
      walk_at "go"
      refine ⟨rfl, ?_⟩
      walk_at "go"
      refine c_item h2 (small5 (by simp; omega)) (Same.refl _) ⟨?_, rfl⟩
      have e1 : Builtin.bitAnd (((m : Nat) : Int) / 2 ^ ((7 : Int) - (0 + ((i : Nat) : Int))).toNat) 1 = ((m / 2 ^ (7 - i) % 2 : Nat) : Int) := by
        rw [show ((7 : Int) - (0 + ((i : Nat) : Int))).toNat = 7 - i by omega, shr_nat]
        have z := mask_nat (m / 2 ^ (7 - i)) 1
        exact z
      rw [e1, List.range_succ (n := i), List.map_append, List.map_append]
      rfl
    · rintro acc B2 D H2 ⟨rfl, rfl⟩ _ h2
      refine c_ext0 h2.swap (h2.get (.head _)) (small6' (by simp [bitsRow_length]; omega)) fun H3 h3 => ?_
      refine ⟨_, _, ⟨_, rfl, rfl, ?_⟩, h3.drop1⟩
      rw [bitsRow_snoc, List.map_append, Int.toNat_natCast, bits8, List.map_append]
  · rintro σ' L' B' H' ⟨w2, rfl, rfl, rfl⟩ h
    walk_at "go"
    exact h.rl (.head _) q
theorem numOf_snoc (l : List Bool) (b : Bool) : ((numOf (l ++ [b]) : Nat) : Int) = 2 * ((numOf l : Nat) : Int) + bI b := by
  rw [numOf_append]
  show ((numOf l * 2 ^ 1 + (b.toNat * 2 ^ 0 + 0) : Nat) : Int) = _
  unfold bI
  push_cast
  omega
def sp__law_number (K : PySem.W.Frag) : Sp := fun vs H Q _ => ∃ (a : Addr) (bs : List Bool) (p z : Nat), vs = [.ref a, .int ((p : Nat) : Int), .int ((z : Nat) : Int)] ∧ SqL K H a ((bs.map bI).map V.int) ∧ p + z ≤ bs.length ∧ RetV H Q (.int ((numOf ((bs.drop p).take z) : Nat) : Int))
theorem len__law_number (h : sp__law_number K vs H Q E) : vs.length = 3 := by
  obtain ⟨a, bs, p, z, rfl, _⟩ := h
  rfl
def t__law_number (K : PySem.W.Frag) (W : WX) : TS :=
  (tSeq (tAsg (tC (.int 0)) (gName 3))
    (tSeq (tFor (iList K (tSl (rSlK K) (tVar 0) (tPart (tVar 1)) (tPart (tOp rAddU (tVar 1) (tVar 2))))) (gName 4) (tAsg (tOp rAddU (tOp rMulU (tC (.int 2)) (tVar 3)) (tVar 4)) (gName 3)))
    (tRet (tVar 3))))
theorem rd__law_number (h : sp__law_number K vs H Q E) : t__law_number K W { nx := fun _ H' => Q .non H', rt := Q } (start ["_law_bits_here", "_law_place", "_law_size", "_law_found", "_law_bit"] vs) H := by
  obtain ⟨a, bs, p, z, rfl, hS, hl, q⟩ := h
  have hs := Hs.start H
  unfold t__law_number
  walk_at "go"
  rename_i r H1 h1
  rw [show ((p : Nat) : Int) + ((z : Nat) : Int) = ((p + z : Nat) : Int) from rfl, cut_mid _ _ _ (by omega) (by rw [List.length_map]; exact hl), Nat.add_sub_cancel_left, ← List.map_drop, ← List.map_take] at h1
  have hr := h1.sql (K := K) (.head _)
  generalize (bs.drop p).take z = cs at *
  refine w_forL (fun b => V.int (bI b)) cs (fun pre σ' L' B' => ∃ w4, σ' = [some (.ref a), some (.int ((p : Nat) : Int)), some (.int ((z : Nat) : Int)), some (.int ((numOf pre : Nat) : Int)), w4] ∧ B' = H ∧ L' = [(r, .lst ((cs.map bI).map V.int))]) h1 ⟨none, rfl, rfl, rfl⟩ ?_ ?_ ?_
  · rintro pre post σ' L' B' H' _ ⟨w4, _, rfl, rfl⟩ h
    have z := h.sql (K := K) (.head _)
    rw [List.map_map] at z
    exact z
  · rintro pre b post σ' L' B' H' e ⟨w4, rfl, rfl, rfl⟩ h
    walk_at "go"
    exact ⟨_, _, ⟨_, (by rw [numOf_snoc]; rfl), rfl, rfl⟩, h⟩
  · rintro σ' L' B' H' ⟨w4, rfl, rfl, rfl⟩ h
    walk_at "go"
    exact q _ h.ex
def sp__law_whole (K : PySem.W.Frag) : Sp := fun vs H Q _ => ∃ (a : Addr) (ns : List Int), vs = [.ref a] ∧ SqL K H a (ns.map V.int) ∧ ns.length ≤ 10000 ∧ RetV H Q (.bl true)
theorem len__law_whole (h : sp__law_whole K vs H Q E) : vs.length = 1 := by
  obtain ⟨a, ns, rfl, _⟩ := h
  rfl
def t__law_whole (K : PySem.W.Frag) (W : WX) : TS :=
  (tRet ((tAndV (tCB (rIsi K) (tCons (tVar 0) (tCons (tC (.ty "list")) tNil))) (tCB (rAll K) (tCons (tLc (iList K (tVar 0)) (gName 1) tYes ((tAndV (tCB (rIsi K) (tCons (tVar 1) (tCons (tC (.ty "int")) tNil))) (tNotV (tCB (rIsi K) (tCons (tVar 1) (tCons (tC (.ty "bool")) tNil)))))) [1]) tNil)))))
theorem rd__law_whole (h : sp__law_whole K vs H Q E) : t__law_whole K W { nx := fun _ H' => Q .non H', rt := Q } (start ["_law_found", "_law_one"] vs) H := by
  obtain ⟨a, ns, rfl, hS, hl, q⟩ := h
  have hs := Hs.start H
  unfold t__law_whole
  walk_at "go"
  refine c_isiList (.lst hS) ?_
  walk_at "go"
  refine c_lcL V.int ns (fun pre acc B' => acc = (List.replicate pre.length true).map V.bl ∧ B' = H) hs ⟨rfl, rfl⟩ (fun B' H' e h => h.bl (e.seq hS)) ?_ ?_
  · rintro pre x post acc B' D H' e ⟨rfl, rfl⟩ _ h
    have hpl : pre.length < ns.length := by rw [e]; simp
    walk_at "go"
    refine ⟨rfl, ?_⟩
    walk_at "go"
    refine c_item h (small5 (by rw [List.length_map, List.length_replicate]; omega)) (Same.refl _) ⟨?_, rfl⟩
    rw [List.length_append, List.length_singleton, List.replicate_succ', List.map_append]
    rfl
  · rintro acc B' D H2 ⟨rfl, rfl⟩ _ h2
    walk_at "go"
    refine c_all (h2.sql (.head _)) ?_
    rw [all_yes]
    exact q _ h2.ex
/-- a reading of items by the law's own bits -/
def sp__law_read (K : PySem.W.Frag) : Sp := fun vs H Q _ => ∃ (B : Hp) (L : Pic) (a : Addr) (bs : List Bool) (t : Nat) (ls : List Int) (its : List Ite) (tail : List Bool), vs = [.ref a, .int ((t : Nat) : Int)] ∧ Hs B L H ∧ SqL K B a ((bs.map bI).map V.int) ∧ t ≤ bs.length ∧ bs.drop t = itsB its ++ tail ∧ Lays 0 ls its ∧ Tab ls ∧
  ∀ B2 u p H', Same B B2 → SqT K B2 u [.ref p, .int ((t + (itsB its).length : Nat) : Int)] → SqL K B2 p (ls.map V.int) → Hs B2 L H' → Q (.ref u) H'
theorem len__law_read (h : sp__law_read K vs H Q E) : vs.length = 2 := by
  obtain ⟨B, L, a, bs, t, ls, its, tail, rfl, _⟩ := h
  rfl
theorem take_num {bs : List Bool} {t v i : Nat} {rest : List Bool} (ht : t ≤ bs.length) (h : bs.drop t = bitsOf v i ++ rest) (hv : v < 2 ^ i) : numOf ((bs.drop t).take i) = v ∧ t + i ≤ bs.length := by
  have z := congrArg List.length h
  rw [List.length_drop, List.length_append, bitsOf_length] at z
  refine ⟨?_, by omega⟩
  rw [h, List.take_append_of_le_length (by rw [bitsOf_length]; omega), List.take_of_length_le (by rw [bitsOf_length]; omega), numOf_small hv]
def t__law_read (K : PySem.W.Frag) (W : WX) : TS :=
  (tSeq (tAsg (tLst tNil) (gName 2))
    (tSeq (tWhile (tTest (tOp rLtU (tCB (rLenK K) (tCons (tVar 2) tNil)) (tC (.int 272)))) (tSeq (tIfS (tTest (tOp rGtU (tOp rAddU (tVar 1) (tC (.int 3))) (tCB (rLenK K) (tCons (tVar 0) tNil)))) (tRet (tC .non)) tNext)
    (tSeq (tAsg (tCl (sp__law_number K) [] W (tCons (tVar 0) (tCons (tVar 1) (tCons (tC (.int 3)) tNil)))) (gName 3))
    (tSeq (tAug 1 (tC (.int 3)) ipAddU)
    (tIfS (tTest (tOp rLtU (tVar 3) (tC (.int 7)))) (tDrop (tBM K "list" rAppend (tVar 2) (tCons (tVar 3) tNil))) (tIfS (tTest (tOp rGtU (tOp rAddU (tVar 1) (tC (.int 6))) (tCB (rLenK K) (tCons (tVar 0) tNil)))) (tRet (tC .non)) (tSeq (tAug 2 (tOp rMulU ((tOrT K (tSl (rSlK K) (tVar 2) (tPart (tUn rNegU (tC (.int 1)))) tNoPart) (tLst (tCons (tC (.int 0)) tNil)))) (tOp rAddU (tCl (sp__law_number K) [] W (tCons (tVar 0) (tCons (tVar 1) (tCons (tC (.int 6)) tNil)))) (tC (.int 3)))) ipAddU)
    (tAug 1 (tC (.int 6)) ipAddU))))))))
    (tRet (tTup (tCons (tVar 2) (tCons (tVar 1) tNil))))))
theorem rd__law_read (h : sp__law_read K vs H Q E) : t__law_read K W { nx := fun _ H' => Q .non H', rt := Q } (start ["_law_bits_here", "_law_place", "_law_found", "_law_item"] vs) H := by
  obtain ⟨B, L, a, bs, t, ls, its, tail, rfl, hs, hS, ht, hd, hL, hT, q⟩ := h
  have h272 := hT.1
  unfold t__law_read
  walk_at "go"
  rename_i f H1 h1
  refine w_while (fun m σ' L' B' => ∃ (p : Nat) (last : Int) (u : Nat) (r : List Ite) (w3 : Option V), p + m = 272 ∧ u ≤ bs.length ∧ bs.drop u = itsB r ++ tail ∧ Lays last (ls.drop p) r ∧ u + (itsB r).length = t + (itsB its).length ∧ (p = 0 → last = 0) ∧ (0 < p → ls.getD (p - 1) 0 = last) ∧
    σ' = [some (.ref a), some (.int ((u : Nat) : Int)), some (.ref f), w3] ∧ B' = B ∧ L' = (f, .lst ((ls.take p).map V.int)) :: L) 272 h1 ⟨0, 0, t, its, none, by omega, ht, hd, by rw [List.drop_zero]; exact hL, rfl, fun _ => rfl, fun h => absurd h (by decide), rfl, rfl, rfl⟩ ?_
  rintro m σ' L' B' H' ⟨p, last, u, r, w3, hp, hu, hdu, hLr, hlu, hl0, hl1, rfl, rfl, rfl⟩ h
  have htl : (ls.take p).length = p := by rw [List.length_take]; omega
  have hS' := h.bl hS
  walk_at "go"
  rw [List.length_map, htl]
  by_cases hlt : p < 272
  · refine i_t (decide_eq_true (by omega)) (w_turn ?_)
    walk_at "go"
    rw [List.length_map, List.length_map]
    cases r with
    | nil =>
      have z := congrArg List.length (show ls.drop p = [] from hLr)
      rw [List.length_drop, List.length_nil] at z
      omega
    | cons it r =>
      cases it with
      | more k =>
        obtain ⟨hk1, hk2, hk3, hLr2⟩ := hLr
        have hkl := lead_le last (ls.drop p)
        rw [List.length_drop] at hkl
        rw [List.drop_drop] at hLr2
        rw [itsB_cons, show itB (.more k) = bitsOf 7 3 ++ bitsOf (k - 3) 6 from rfl, List.append_assoc, List.append_assoc] at hdu
        rw [itsB_cons, show itB (.more k) = bitsOf 7 3 ++ bitsOf (k - 3) 6 from rfl, List.length_append, List.length_append, bitsOf_length, bitsOf_length] at hlu
        obtain ⟨t1, t2⟩ := take_num hu hdu (by decide)
        have hd2 := drop_next hdu
        obtain ⟨t3, t4⟩ := take_num t2 hd2 (by show _ < 64; omega)
        have hd3 := drop_next hd2
        have hlast : ls.getD (p + k - 1) 0 = last := by
          have z := lead_take last (ls.drop p) k hk3
          have z2 := congrArg (fun l => l.getD (k - 1) 0) z
          simp only [List.getD_eq_getElem?_getD, List.getElem?_take, List.getElem?_drop, List.getElem?_replicate] at z2
          rw [if_pos (by omega), if_pos (by omega), show p + (k - 1) = p + k - 1 by omega] at z2
          rw [List.getD_eq_getElem?_getD]
          exact z2
        refine i_f (decide_eq_false (by omega)) ?_
        walk_at "go"
        refine ⟨a, bs, u, 3, rfl, hS', t2, retV h fun H2 h2 => ?_⟩
        have hS2 := h2.bl hS
        rw [t1]
        clear h h1 hs hS'
        walk_at "go"
        rw [List.length_map, List.length_map]
        refine i_f (decide_eq_false (by omega)) ?_
        walk_at "go"
        rename_i s H3 h3
        refine c_orL (h3.sql (.head _)) (fun hne => ?_) (fun he => ?_)
        · have hp0 : 0 < p := by
            by_cases z : p = 0
            · exfalso
              refine hne ?_
              rw [cutV_last, List.length_map, htl, z, List.take_zero]
              rfl
            · omega
          have e5 : cutV ((ls.take p).map V.int) (some (-1)) none = [V.int last] := by
            rw [cutV_last, List.length_map, htl, ← List.map_drop, List.drop_take, drop_cons (ls := ls) (p := p - 1) (by omega), show p - (p - 1) = 1 by omega, hl1 hp0]
            rfl
          rw [e5] at h3
          walk_at "go"
          refine ⟨a, bs, u + 3, 6, rfl, h3.bl hS, t4, retV h3 fun H4 h4 => ?_⟩
          clear h2 h3
          have hq := h4.get (.head _)
          rw [t3]
          walk_at "go"
          refine c_rep h4.drop hq (by omega) (by omega) (small6' (by simp; omega)) fun r2 H6 h8 => ?_
          refine c_ext0 h8.drop (h8.get (.head _)) (small6' (by rw [List.length_map, htl]; simp; omega)) fun H7 h9 => ?_
          have e1 : (ls.take p).map V.int ++ (List.replicate (((k - 3 : Nat) : Int) + 3).toNat [V.int last]).flatten = (ls.take (p + k)).map V.int := by
            rw [show (((k - 3 : Nat) : Int) + 3).toNat = k by omega, List.take_add, lead_take last _ _ hk3, List.map_append, List.map_replicate, List.flatten_replicate_singleton]
          rw [e1] at h9
          walk_at "go"
          refine ⟨m - k, by omega, _, _, ⟨p + k, last, u + 3 + 6, r, _, by omega, t4, hd3, hLr2, by omega, fun z => by omega, fun _ => hlast, rfl, rfl, rfl⟩, h9⟩
        · have hp0 : p = 0 := by
            by_cases z : p = 0
            · exact z
            · rw [cutV_last, List.length_map, htl, ← List.map_drop, List.drop_take, drop_cons (ls := ls) (p := p - 1) (by omega), show p - (p - 1) = 1 by omega] at he
              cases he
          have hl00 := hl0 hp0
          have h3' := h3.drop
          clear h2 h3
          walk_at "go"
          rename_i s2 H4 h5
          rw [← hl00] at h5
          refine ⟨a, bs, u + 3, 6, rfl, h5.bl hS, t4, retV h5 fun H5 h4 => ?_⟩
          clear h5 h3'
          have hq := h4.get (.head _)
          rw [t3]
          walk_at "go"
          refine c_rep h4.drop hq (by omega) (by omega) (small6' (by simp; omega)) fun r2 H6 h8 => ?_
          refine c_ext0 h8.drop (h8.get (.head _)) (small6' (by rw [List.length_map, htl]; simp; omega)) fun H7 h9 => ?_
          have e1 : (ls.take p).map V.int ++ (List.replicate (((k - 3 : Nat) : Int) + 3).toNat [V.int last]).flatten = (ls.take (p + k)).map V.int := by
            rw [show (((k - 3 : Nat) : Int) + 3).toNat = k by omega, List.take_add, lead_take last _ _ hk3, List.map_append, List.map_replicate, List.flatten_replicate_singleton]
          rw [e1] at h9
          walk_at "go"
          refine ⟨m - k, by omega, _, _, ⟨p + k, last, u + 3 + 6, r, _, by omega, t4, hd3, hLr2, by omega, fun z => by omega, fun _ => hlast, rfl, rfl, rfl⟩, h9⟩
      | one y =>
        obtain ⟨tl, et, hLr2⟩ := hLr
        have hx := tab_at hT hlt
        have ed := drop_cons (ls := ls) (p := p) (by omega)
        rw [ed] at et
        injection et with ey etl
        subst ey etl
        rw [itsB_cons, show itB (.one (ls.getD p 0)) = bitsOf (ls.getD p 0).toNat 3 from rfl, List.append_assoc] at hdu
        rw [itsB_cons, show itB (.one (ls.getD p 0)) = bitsOf (ls.getD p 0).toNat 3 from rfl, List.length_append, bitsOf_length] at hlu
        obtain ⟨t1, t2⟩ := take_num hu hdu (by show _ < 8; omega)
        have hd2 := drop_next hdu
        have e2 : (((ls.getD p 0).toNat : Nat) : Int) = ls.getD p 0 := by omega
        refine i_f (decide_eq_false (by omega)) ?_
        walk_at "go"
        refine ⟨a, bs, u, 3, rfl, hS', t2, retV h fun H2 h2 => ?_⟩
        rw [t1, e2]
        clear h h1 hs hS'
        walk_at "go"
        refine c_app0 h2 (small5 (by rw [List.length_map]; omega)) fun H4 h6 => ?_
        have e1 : (ls.take p).map V.int ++ [V.int (ls.getD p 0)] = (ls.take (p + 1)).map V.int := by
          rw [← take_snocT (by omega), List.map_append]
          rfl
        rw [e1] at h6
        exact ⟨m - 1, by omega, _, _, ⟨p + 1, ls.getD p 0, u + 3, r, _, by omega, t2, hd2, hLr2, by omega, fun z => by omega, fun _ => rfl, rfl, rfl, rfl⟩, h6⟩
  · refine i_f (decide_eq_false (by omega)) ?_
    walk_at "go"
    rename_i v H2 h2
    rw [List.drop_of_length_le (by omega)] at hLr
    have hr0 : r = [] := by
      cases r with
      | nil => rfl
      | cons it r =>
        cases it with
        | more k =>
          obtain ⟨hk1, _, hk3, _⟩ := hLr
          simp [lead] at hk3
          omega
        | one y =>
          obtain ⟨tl, et, _⟩ := hLr
          cases et
    rw [hr0] at hlu
    rw [List.take_of_length_le (by omega), show u = t + (itsB its).length by simpa [itsB] using hlu] at h2
    have hn1 := h2.nb (.head _)
    have hn2 := h2.fix.nb (.head _)
    exact q _ v f H2 ((same_upd hn1).trans (same_upd hn2)) (same_sqt (same_upd hn2) (SqT.of upd_same)) (SqL.of upd_same) h2.fix.fix
/-- an item's tuples -/
def itV : Ite → List (List V)
  | .more k => [[.int 7, .int 3], [.int ((k - 3 : Nat) : Int), .int 6]]
  | .one x => [[.int x, .int 3]]
def itsV (l : List Ite) : List (List V) := l.flatMap itV
def sp__law_long_items (K : PySem.W.Frag) : Sp := fun vs H Q _ => ∃ (a : Addr) (ls : List Int) (n : Nat), vs = [.ref a, .int ((n : Nat) : Int)] ∧ SqL K H a (ls.map V.int) ∧ Tab ls ∧
  ∀ its, Lays 0 ls its → ∀ p ws H', Same H H' → Tups K H' ws (itsV its) → SqL K H' p ws → Q (.ref p) H'
theorem len__law_long_items (h : sp__law_long_items K vs H Q E) : vs.length = 2 := by
  obtain ⟨a, ls, n, rfl, _⟩ := h
  rfl
theorem itsV_len : ∀ its : List Ite, (itsV its).length ≤ 2 * its.length
  | [] => Nat.zero_le _
  | .more k :: r => by
    have := itsV_len r
    show ((itV (.more k)) ++ itsV r).length ≤ _
    rw [List.length_append, List.length_cons]
    show 2 + _ ≤ _
    omega
  | .one x :: r => by
    have := itsV_len r
    show ((itV (.one x)) ++ itsV r).length ≤ _
    rw [List.length_append, List.length_cons]
    show 1 + _ ≤ _
    omega
theorem itsV_snoc (a : List Ite) (i : Ite) : itsV (a ++ [i]) = itsV a ++ itV i := by unfold itsV; rw [List.flatMap_append]; simp
def t__law_long_items (K : PySem.W.Frag) (W : WX) : TS :=
  (tSeq (tAsg (tLst tNil) (gName 2))
    (tSeq (tAsg (tC (.int 0)) (gName 3))
    (tSeq (tAsg (tC (.int 0)) (gName 4))
    (tSeq (tWhile (tTest (tOp rLtU (tVar 3) (tC (.int 272)))) (tSeq (tAsg (tC (.int 0)) (gName 5))
    (Evl.tCut (tWhile ((tAnd (tTest (tOp rLtU (tOp rAddU (tVar 3) (tVar 5)) (tC (.int 272)))) (tAnd (tTest (tOp rLtU (tVar 5) (tC (.int 66)))) (tTest (tOp (rEqU K) (tOp (rIx K) (tVar 0) (tOp rAddU (tVar 3) (tVar 5))) (tVar 4)))))) (tAug 5 (tC (.int 1)) ipAddU))
    (tSeq (tAsg (tOp rModU (tOp rMulU (tVar 1) (tC (.int 48271))) (tC (.int 2147483647))) (gName 1))
    (tIfS ((tAnd (tTest (tOp rGtU (tVar 5) (tC (.int 2)))) (tTest (tOp rGtU (tOp rModU (tVar 1) (tC (.int 3))) (tC (.int 0)))))) (tSeq (tAsg (tOp rAddU (tC (.int 3)) (tOp rModU (tOp rDivU (tVar 1) (tC (.int 3))) (tOp rSubU (tVar 5) (tC (.int 2))))) (gName 5))
    (tSeq (tAug 2 (tLst (tCons (tTup (tCons (tC (.int 7)) (tCons (tC (.int 3)) tNil))) (tCons (tTup (tCons (tOp rSubU (tVar 5) (tC (.int 3))) (tCons (tC (.int 6)) tNil))) tNil))) ipAddU)
    (tAug 3 (tVar 5) ipAddU))) (tSeq (tAsg (tOp (rIx K) (tVar 0) (tVar 3)) (gName 4))
    (tSeq (tDrop (tBM K "list" rAppend (tVar 2) (tCons (tTup (tCons (tVar 4) (tCons (tC (.int 3)) tNil))) tNil)))
    (tAug 3 (tC (.int 1)) ipAddU))))))))
    (tRet (tVar 2))))))
theorem rd__law_long_items (h : sp__law_long_items K vs H Q E) : t__law_long_items K W { nx := fun _ H' => Q .non H', rt := Q } (start ["_law_table_here", "_law_number_here", "_law_found", "_law_place", "_law_last", "_law_many"] vs) H := by
  obtain ⟨a, ls, n, rfl, hS, hT, q⟩ := h
  have hs := Hs.start H
  have h272 := hT.1
  unfold t__law_long_items
  walk_at "go"
  rename_i f H1 h1
  refine w_while (fun m σ' L' B' => ∃ (p : Nat) (last : Int) (n : Nat) (done : List Ite) (acc : List V) (w5 : Option V), p + m = 272 ∧ done.length ≤ p ∧ (∀ r, Lays last (ls.drop p) r → Lays 0 ls (done ++ r)) ∧ Same H B' ∧ Tups K B' acc (itsV done) ∧
    σ' = [some (.ref a), some (.int ((n : Nat) : Int)), some (.ref f), some (.int ((p : Nat) : Int)), some (.int last), w5] ∧ L' = [(f, .lst acc)]) 272 h1 ⟨0, 0, n, [], [], none, by omega, Nat.le_refl _, fun r h => by rw [List.drop_zero] at h; exact h, Same.refl _, .nil, rfl, rfl⟩ ?_
  rintro m σ' L' B' H' ⟨p, last, n, done, acc, w5, hp, hdl, hlay, hB, hA, rfl, rfl⟩ h
  have hal := hA.length
  have hvl := itsV_len done
  walk_at "go"
  by_cases hlt : p < 272
  · refine i_t (decide_eq_true (by omega)) (w_turn ?_)
    have hS' := h.bl (hB.seq hS)
    walk_at "go"
    refine w_cut (fun σ2 H2 => ∃ g : Nat, g ≤ 66 ∧ p + g ≤ 272 ∧ g ≤ lead last (ls.drop p) ∧ Hs B' [(f, .lst acc)] H2 ∧ σ2 = [some (.ref a), some (.int ((n : Nat) : Int)), some (.ref f), some (.int ((p : Nat) : Int)), some (.int last), some (.int ((g : Nat) : Int))]) ?_ ?_
    · refine w_while (fun m2 σ' L' B'' => ∃ g : Nat, g + m2 = 66 ∧ p + g ≤ 272 ∧ g ≤ lead last (ls.drop p) ∧ σ' = [some (.ref a), some (.int ((n : Nat) : Int)), some (.ref f), some (.int ((p : Nat) : Int)), some (.int last), some (.int ((g : Nat) : Int))] ∧ B'' = B' ∧ L' = [(f, .lst acc)]) 66 h
        ⟨0, by omega, by omega, Nat.zero_le _, rfl, rfl, rfl⟩ ?_
      rintro m2 σ' L' B'' H2 ⟨g, hg, hpg, hgl, rfl, rfl, rfl⟩ h2
      have hS2 := h2.bl (hB.seq hS)
      have fin : Hs B'' [(f, .lst acc)] H2 := h2
      walk_at "go"
      by_cases c1 : p + g < 272
      · refine i_t (decide_eq_true (by omega)) ?_
        walk_at "go"
        by_cases c2 : g < 66
        · refine i_t (decide_eq_true (by omega)) ?_
          have i1 : atI (ls.map V.int) (((p : Nat) : Int) + ((g : Nat) : Int)) = some (.int (ls.getD (p + g) 0)) := at_i (by omega) (by omega)
          walk_at "go"
          by_cases c3 : ls.getD (p + g) 0 = last
          · refine i_t (decide_eq_true c3) (w_turn ?_)
            walk_at "go"
            refine ⟨m2 - 1, by omega, _, _, ⟨g + 1, by omega, by omega, ?_, rfl, rfl, rfl⟩, h2⟩
            have z := lead_drop last (ls.drop p) g hgl
            rw [List.drop_drop, drop_cons (ls := ls) (p := p + g) (by omega), lead_cons, if_pos c3] at z
            omega
          · refine i_f (decide_eq_false c3) ?_
            exact ⟨g, by omega, hpg, hgl, h2, rfl⟩
        · refine i_f (decide_eq_false (by omega)) ?_
          walk_at "go"
          exact ⟨g, by omega, hpg, hgl, h2, rfl⟩
      · refine i_f (decide_eq_false (by omega)) ?_
        exact ⟨g, by omega, hpg, hgl, h2, rfl⟩
    rintro σ2 H2 ⟨g, hg66, hpg, hgl, h2, rfl⟩
    clear h h1 hs hS'
    have hS2 := h2.bl (hB.seq hS)
    have hkl := lead_le last (ls.drop p)
    rw [List.length_drop] at hkl
    walk_at "go"
    rw [show ((n : Nat) : Int) * 48271 % 2147483647 = ((n * 48271 % 2147483647 : Nat) : Int) by omega]
    generalize n * 48271 % 2147483647 = n2
    have i1 : atI (ls.map V.int) ((p : Nat) : Int) = some (.int (ls.getD p 0)) := at_nat (by omega)
    by_cases c1 : 2 < g
    · refine i_t (decide_eq_true (by omega)) ?_
      walk_at "go"
      by_cases c2 : 0 < n2 % 3
      · refine i_t (decide_eq_true (by omega)) ?_
        have e2 : ((n2 : Nat) : Int) / 3 % (((g : Nat) : Int) - 2) = ((n2 / 3 % (g - 2) : Nat) : Int) := by
          rw [show ((g : Nat) : Int) - 2 = ((g - 2 : Nat) : Int) by omega]
          push_cast
          rfl
        have e3 : n2 / 3 % (g - 2) < g - 2 := Nat.mod_lt _ (by omega)
        walk_at "go"
        rw [e2]
        rename_i u1 H3 h3 u2 H4 h4 u3 H5 h5
        rw [e2, show (3 : Int) + ((n2 / 3 % (g - 2) : Nat) : Int) - 3 = ((3 + n2 / 3 % (g - 2) - 3 : Nat) : Int) by omega] at h5
        have hk : 3 + n2 / 3 % (g - 2) ≤ g := by omega
        have hk3 : 3 ≤ 3 + n2 / 3 % (g - 2) := by omega
        rw [show (3 : Int) + ((n2 / 3 % (g - 2) : Nat) : Int) = ((3 + n2 / 3 % (g - 2) : Nat) : Int) by push_cast; rfl]
        generalize 3 + n2 / 3 % (g - 2) = k at *
        have hn2 := h5.nb (.tail _ (.head _))
        have hn1 := h5.swap.fix.nb (.tail _ (.head _))
        have h6 := h5.swap.fix.swap.fix
        refine c_ext0 h6.swap (h6.get (.head _)) (small6' (by simp; omega)) fun H6 h7 => ?_
        walk_at "go"
        refine ⟨m - k, by omega, _, _, ⟨p + k, last, n2, done ++ [.more k], _, _, by omega, by rw [List.length_append, List.length_singleton]; omega, fun r hr => ?_, (hB.trans (same_upd hn2)).trans (same_upd hn1), ?_, rfl, rfl⟩, h7.drop1⟩
        · rw [List.append_assoc]
          refine hlay _ ⟨hk3, by omega, by omega, ?_⟩
          rw [List.drop_drop]
          exact hr
        · rw [itsV_snoc]
          have sm2 := same_upd (o := HO.tup [V.int ((k - 3 : Nat) : Int), V.int 6]) hn2
          have sm1 := same_upd (o := HO.tup [V.int 7, V.int 3]) hn1
          have z : Tups K (upd (upd B' u2 (.tup [V.int ((k - 3 : Nat) : Int), V.int 6])) u1 (.tup [V.int 7, V.int 3])) (acc ++ [.ref u1] ++ [.ref u2]) (itsV done ++ [[V.int 7, V.int 3]] ++ [[V.int ((k - 3 : Nat) : Int), V.int 6]]) :=
            (((hA.same sm2).same sm1).snoc (SqT.of upd_same)).snoc (same_sqt sm1 (SqT.of upd_same))
          rw [List.append_assoc, List.append_assoc] at z
          exact z
      · refine i_f (decide_eq_false (by omega)) ?_
        walk_at "go"
        rename_i u1 H3 h3
        have hn := h3.nb (.head _)
        refine c_app0 h3.fix (small5 (by omega)) fun H4 h4 => ?_
        walk_at "go"
        refine ⟨m - 1, by omega, _, _, ⟨p + 1, ls.getD p 0, n2, done ++ [.one (ls.getD p 0)], _, _, by omega, by rw [List.length_append, List.length_singleton]; omega, fun r hr => ?_, hB.trans (same_upd hn), ?_, rfl, rfl⟩, h4⟩
        · rw [List.append_assoc]
          exact hlay _ ⟨_, drop_cons (by omega), hr⟩
        · rw [itsV_snoc]
          exact (hA.same (same_upd hn)).snoc (SqT.of upd_same)
    · refine i_f (decide_eq_false (by omega)) ?_
      walk_at "go"
      rename_i u1 H3 h3
      have hn := h3.nb (.head _)
      refine c_app0 h3.fix (small5 (by omega)) fun H4 h4 => ?_
      walk_at "go"
      refine ⟨m - 1, by omega, _, _, ⟨p + 1, ls.getD p 0, n2, done ++ [.one (ls.getD p 0)], _, _, by omega, by rw [List.length_append, List.length_singleton]; omega, fun r hr => ?_, hB.trans (same_upd hn), ?_, rfl, rfl⟩, h4⟩
      · rw [List.append_assoc]
        exact hlay _ ⟨_, drop_cons (by omega), hr⟩
      · rw [itsV_snoc]
        exact (hA.same (same_upd hn)).snoc (SqT.of upd_same)
  · refine i_f (decide_eq_false (by omega)) ?_
    walk_at "go"
    have hL := hlay [] (by rw [List.drop_of_length_le (by omega)]; rfl)
    rw [List.append_nil] at hL
    exact q done hL f acc H' (hB.trans h.ex) (hA.same h.ex) (h.sql (.head _))
/-- a tuple's bits -/
def tupB : List V → List Bool
  | [.int n, .int s] => bitsOf n.toNat s.toNat
  | _ => []
def Ite.ok : Ite → Prop
  | .more k => 3 ≤ k ∧ k ≤ 66
  | .one x => 0 ≤ x ∧ x ≤ 6
theorem lays_ok : ∀ {its : List Ite} {last : Int} {ls : List Int}, Lays last ls its → (∀ x ∈ ls, 0 ≤ x ∧ x ≤ 6) → ∀ i ∈ its, Ite.ok i
  | [], _, _, _, _ => fun i h => nomatch h
  | .more k :: r, last, ls, h, hb => fun i hi => by
    rcases List.mem_cons.mp hi with e | hi
    · rw [e]
      exact ⟨h.1, h.2.1⟩
    · exact lays_ok h.2.2.2 (fun x hx => hb x (List.mem_of_mem_drop hx)) i hi
  | .one x :: r, last, ls, h, hb => fun i hi => by
    obtain ⟨t, rfl, h⟩ := h
    rcases List.mem_cons.mp hi with e | hi
    · rw [e]
      exact hb x (.head _)
    · exact lays_ok h (fun x hx => hb x (.tail _ hx)) i hi
theorem itsV_bits : ∀ its : List Ite, (itsV its).flatMap tupB = itsB its
  | [] => rfl
  | .more k :: r => by
    show (itV (.more k) ++ itsV r).flatMap tupB = _
    rw [List.flatMap_append, itsV_bits r, itsB_cons]
    rfl
  | .one x :: r => by
    show (itV (.one x) ++ itsV r).flatMap tupB = _
    rw [List.flatMap_append, itsV_bits r, itsB_cons]
    rfl
theorem itsV_form : ∀ {its : List Ite}, (∀ i ∈ its, Ite.ok i) → ∀ xs ∈ itsV its, ∃ n s : Nat, xs = [.int ((n : Nat) : Int), .int ((s : Nat) : Int)] ∧ n < 2 ^ s ∧ s ≤ 24
  | [], _, xs, h => nomatch h
  | .more k :: r, ho, xs, h => by
    have hk : 3 ≤ k ∧ k ≤ 66 := ho _ (.head _)
    rcases List.mem_append.mp (show xs ∈ itV (.more k) ++ itsV r from h) with h | h
    · simp only [itV, List.mem_cons, List.not_mem_nil, or_false] at h
      rcases h with e | e
      · exact ⟨7, 3, e, by decide, by decide⟩
      · exact ⟨k - 3, 6, e, by show _ < 64; omega, by decide⟩
    · exact itsV_form (fun i hi => ho i (.tail _ hi)) xs h
  | .one x :: r, ho, xs, h => by
    have hx : 0 ≤ x ∧ x ≤ 6 := ho _ (.head _)
    rcases List.mem_append.mp (show xs ∈ itV (.one x) ++ itsV r from h) with h | h
    · simp only [itV, List.mem_cons, List.not_mem_nil, or_false] at h
      obtain ⟨n, rfl⟩ := Int.eq_ofNat_of_zero_le hx.1
      exact ⟨n, 3, h, by show _ < 8; omega, by decide⟩
    · exact itsV_form (fun i hi => ho i (.tail _ hi)) xs h
def sp__law_taken (K : PySem.W.Frag) : Sp := fun vs H Q _ => ∃ (a t : Addr) (ns ls : List Int) (v : V), vs = [.ref a, .ref t, v] ∧ SqL K H a (ns.map V.int) ∧ SqL K H t (ls.map V.int) ∧ Tab ls ∧
  (v = .non ∨ ∃ (p : Addr) (ws : List V) (its : List Ite), v = .ref p ∧ SqL K H p ws ∧ Tups K H ws (itsV its) ∧ Lays 0 ls its) ∧ RetV H Q (.bl true)
theorem len__law_taken (h : sp__law_taken K vs H Q E) : vs.length = 3 := by
  obtain ⟨a, t, ns, ls, v, rfl, _⟩ := h
  rfl
def t__law_taken (K : PySem.W.Frag) (W : WX) : TS :=
  (tSeq (tAsg (tOp rModU (tCl (sp__law_mixed K) [] W (tCons (tCl (sp__law_cell_at K) [] W (tCons (tVar 0) (tCons (tC (.int 1)) tNil))) (tCons (tC (.int 3)) tNil))) (tC (.int 20))) (gName 3))
    (tSeq (tAsg (tMk (He.ga K "BitRow") (sp_BitRow___init__ K) [] W tNil) (gName 4))
    (tSeq (tDrop (tMt (He.ga K "BitRow") "put" (sp_BitRow_put K) [] W (tVar 4) (tCons (tOp rModU (tVar 3) (tC (.int 4))) (tCons (tOp rAddU (tC (.int 2)) (tVar 3)) tNil))))
    (Evl.tCut (tIfS (tTest (tOp rIsU (tVar 2) (tC .non))) (tIfS (tTest (tOp rNotU (tCl (sp_put_table K) [] W (tCons (tVar 4) (tCons (tVar 1) tNil))) (tC .non))) (tRet (tC (.bl false))) tNext) (tFor (iList K (tVar 2)) (gTup K 2 (gCons (gName 5) (gCons (gName 6) gNil))) (tDrop (tMt (He.ga K "BitRow") "put" (sp_BitRow_put K) [] W (tVar 4) (tCons (tVar 5) (tCons (tVar 6) tNil))))))
    (tSeq (tAsg (tMt (He.ga K "BitRow") "many" (sp_BitRow_many K) [] W (tVar 4) tNil) (gName 6))
    (tSeq (tDrop (tMt (He.ga K "BitRow") "put" (sp_BitRow_put K) [] W (tVar 4) (tCons (tC (.int 3)) (tCons (tC (.int 7)) tNil))))
    (tSeq (tAsg (tMt (He.ga K "BitRow") "row" (sp_BitRow_row K) [] W (tVar 4) tNil) (gName 7))
    (tSeq (tAsg (tCl (sp__law_read K) [] W (tCons (tCl (sp__law_bits K) [] W (tCons (tVar 7) tNil)) (tCons (tOp rAddU (tC (.int 2)) (tVar 3)) tNil))) (gName 8))
    (tSeq (tIfS ((tOr (tTest (tOp rIsU (tVar 8) (tC .non))) (tOr (tTest (tOp (rNeU K) (tOp (rIx K) (tVar 8) (tC (.int 0))) (tVar 1))) (tTest (tOp (rNeU K) (tOp (rIx K) (tVar 8) (tC (.int 1))) (tVar 6)))))) (tRet (tC (.bl false))) tNext)
    (tSeq (tAsg (tMk (He.ga K "BitReader") (sp_BitReader___init__ K) [] W (tCons (tVar 7) tNil)) (gName 9))
    (tSeq (tDrop (tMt (He.ga K "BitReader") "take" (sp_BitReader_take K) [] W (tVar 9) (tCons (tOp rAddU (tC (.int 2)) (tVar 3)) tNil)))
    (tSeq (tAsg (tCl (sp_take_table K) [] W (tCons (tVar 9) tNil)) (gName 10))
    (tSeq (tIfS ((tOr (tNot (tB (tCl (sp__law_whole K) [] W (tCons (tVar 10) tNil)))) (tOr (tTest (tOp (rNeU K) (tVar 10) (tVar 1))) (tTest (tOp (rNeU K) (tMt (He.ga K "BitReader") "left" (sp_BitReader_left K) [] W (tVar 9) tNil) (tOp rSubU (tOp rMulU (tC (.int 8)) (tCB (rLenK K) (tCons (tVar 7) tNil))) (tVar 6))))))) (tRet (tC (.bl false))) tNext)
    (tSeq (tDrop (tBM0 K "list" rClear (tVar 10)))
    (tRet (tOp (rEqU K) (tMt (He.ga K "BitReader") "take" (sp_BitReader_take K) [] W (tVar 9) (tCons (tC (.int 7)) tNil)) (tC (.int 3))))))))))))))))))
theorem rd__law_taken (kBitRow : KBitRow K) (kBitReader : KBitReader K) (h : sp__law_taken K vs H Q E) : t__law_taken K (fun c d _ H2 => E c d H2) { nx := fun _ H' => Q .non H', rt := Q } (start ["_law_script", "_law_table_here", "_law_items", "_law_lead", "_law_bits_here", "_law_number_here", "_law_size", "_law_row", "_law_told", "_law_reader", "_law_found"] vs) H := by
  obtain ⟨a, t, ns, ls, v, rfl, hS, hL, hT, hv, q⟩ := h
  have hs := Hs.start H
  have h272 := hT.1
  unfold t__law_taken
  walk_at "go"
  refine ⟨a, ns, 1, rfl, hS, by decide, ?_⟩
  walk_at "go"
  refine ⟨_, 3, rfl, by decide, by decide, fun x hx => ?_⟩
  obtain ⟨M, rfl⟩ := Int.eq_ofNat_of_zero_le hx
  walk_at "go"
  rename_i x dx H1 h1
  obtain ⟨Ld, eL, hLd⟩ : ∃ Ld : Nat, ((M : Nat) : Int) % 20 = ((Ld : Nat) : Int) ∧ Ld < 20 := ⟨M % 20, by omega, by omega⟩
  rw [eL]
  refine ⟨H, [], x, dx, rfl, h1, fun f H2 h2 => ⟨rfl, ?_⟩⟩
  clear h1 hs
  walk_at "go"
  have h4p : 2 ^ 2 ≤ 2 ^ (2 + Ld) := Nat.pow_le_pow_right (by decide) (by omega)
  refine use_put (n := Ld % 4) (s := 2 + Ld) (by omega) (by omega) h2 (by simp) (by omega) (by omega) fun H3 h3 => ?_
  rw [List.nil_append] at h3
  have hb1 : (bitsOf (Ld % 4) (2 + Ld)).length = 2 + Ld := bitsOf_length _ _
  have hb1d : bitsOf (Ld % 4) (2 + Ld) = bitsOf (Ld % 4) (2 + Ld) := rfl
  generalize bitsOf (Ld % 4) (2 + Ld) = b1 at *
  clear h2
  walk_at "go"
  refine w_cut (fun σ2 H4 => ∃ (its : List Ite) (w5 w6 : Option V), Lays 0 ls its ∧ Hs H [(x, brO K dx f (b1 ++ itsB its)), (f, brL (b1 ++ itsB its))] H4 ∧ σ2 = [some (.ref a), some (.ref t), some v, some (.int ((Ld : Nat) : Int)), some (.ref x), w5, w6, none, none, none, none]) ?_ ?_
  · rcases hv with rfl | ⟨p, ws, its, rfl, hp, hw, hl⟩
    · walk_at "go"
      refine ⟨H, [], x, dx, f, t, b1, ls, rfl, h3, (fun _ _ _ h => h.bl hL), hT, by omega, fun H4 h4 => ?_⟩
      obtain ⟨its, e1, e2⟩ := enc_items ls.length 0 ls (Nat.le_refl _)
      rw [← e2] at h4
      walk_at "go"
      exact ⟨its, _, _, e1, h4, rfl⟩
    · have hok := lays_ok hl hT.2
      have hsh := lays_short hl
      have hvl := itsV_len its
      have hwl := hw.length
      walk_at "go"
      refine w_forL id ws (fun pre σ' L' B' => ∃ w5 w6, σ' = [some (.ref a), some (.ref t), some (.ref p), some (.int ((Ld : Nat) : Int)), some (.ref x), w5, w6, none, none, none, none] ∧ B' = H ∧
        (b1 ++ ((itsV its).take pre.length).flatMap tupB).length ≤ 100 + 24 * pre.length ∧
        L' = [(x, brO K dx f (b1 ++ ((itsV its).take pre.length).flatMap tupB)), (f, brL (b1 ++ ((itsV its).take pre.length).flatMap tupB))]) h3 ⟨none, none, rfl, rfl, by simp; omega, by simp⟩ ?_ ?_ ?_
      · rintro pre post σ' L' B' H' _ ⟨w5, w6, _, rfl, _, rfl⟩ h
        rw [List.map_id]
        exact h.bl hp
      · rintro pre y post σ' L' B' H' e ⟨w5, w6, rfl, rfl, hbl, rfl⟩ h
        have hw' : Tups K B' (pre ++ y :: post) (itsV its) := by rw [← e]; exact hw
        obtain ⟨u, p1, xs, p2, rfl, ep, el, hu⟩ := hw'.split
        have hg : (itsV its)[pre.length]? = some xs := by rw [ep, ← el]; simp
        obtain ⟨n, s, rfl, hn, hs24⟩ := itsV_form hok xs (List.mem_of_getElem? hg)
        have hu' := h.bt hu
        have hpl : pre.length < ws.length := by rw [e]; simp
        rw [id_eq]
        walk_at "go"
        refine use_put (n := n) (s := s) rfl rfl h (by omega) hs24 hn fun H4 h4 => ?_
        have e5 : b1 ++ ((itsV its).take (pre.length + 1)).flatMap tupB = b1 ++ ((itsV its).take pre.length).flatMap tupB ++ bitsOf n s := by
          rw [List.take_add_one, hg, List.flatMap_append, List.append_assoc]
          congr 2
          show bitsOf (((n : Nat) : Int)).toNat (((s : Nat) : Int)).toNat ++ [] = _
          rw [Int.toNat_natCast, Int.toNat_natCast, List.append_nil]
        rw [← e5] at h4
        refine ⟨_, _, ⟨_, _, rfl, rfl, ?_, by rw [List.length_append, List.length_singleton]⟩, h4⟩
        rw [List.length_append (as := pre), List.length_singleton, e5, List.length_append, bitsOf_length]
        omega
      · rintro σ' L' B' H' ⟨w5, w6, rfl, rfl, hbl, rfl⟩ h
        rw [hwl, List.take_of_length_le (Nat.le_refl _), itsV_bits] at h
        exact ⟨its, _, _, hl, h, rfl⟩
  rintro σ2 H4 ⟨its, w5, w6, hl, h4, rfl⟩
  have hsh := lays_short hl
  have hb2 : (b1 ++ itsB its).length = 2 + Ld + (itsB its).length := by rw [List.length_append, hb1]
  clear h3
  walk_at "go"
  refine ⟨H, _, x, dx, f, _, rfl, h4, ?_⟩
  walk_at "go"
  refine use_put (n := 3) (s := 7) rfl rfl h4 (by omega) (by decide) (by decide) fun H5 h5 => ?_
  clear h4
  have hb3 : (b1 ++ itsB its ++ bitsOf 3 7).length = 2 + Ld + (itsB its).length + 7 := by rw [List.length_append, hb2, bitsOf_length]
  have hdr : ∀ z : List Bool, (b1 ++ itsB its ++ bitsOf 3 7 ++ z).drop (2 + Ld) = itsB its ++ (bitsOf 3 7 ++ z) := fun z => by
    rw [List.append_assoc, List.append_assoc, ← hb1, List.drop_left]
  have hpad : bitsRow (rowOf (b1 ++ itsB its ++ bitsOf 3 7)) = b1 ++ itsB its ++ bitsOf 3 7 ++ List.replicate ((8 - (b1 ++ itsB its ++ bitsOf 3 7).length % 8) % 8) false := by
    rw [bitsRow_rowOf]
    rfl
  have hr8 := rowOf_length (b1 ++ itsB its ++ bitsOf 3 7)
  have hrb := rowOf_bytes (b1 ++ itsB its ++ bitsOf 3 7)
  generalize List.replicate ((8 - (b1 ++ itsB its ++ bitsOf 3 7).length % 8) % 8) false = zz at *
  have hdz := hdr zz
  rw [← hpad] at hdz
  walk_at "go"
  refine ⟨H, _, x, dx, f, _, rfl, h5, by omega, retL h5 fun r H6 h6 => ?_⟩
  generalize rowOf (b1 ++ itsB its ++ bitsOf 3 7) = row at *
  have hr6 := h6.sql (K := K) (.head _)
  have hL6 := h6.bl hL
  have e6 := h6.ex
  have h7 := Hs.start H6
  clear h5 h6
  walk_at "go"
  refine ⟨r, row, rfl, hr6, hrb, by omega, retL h7 fun l H7 h8 => ?_⟩
  walk_at "go"
  refine ⟨H7, [], l, bitsRow row, 2 + Ld, ls, its, _, rfl, Hs.start H7, h8.sql (.head _), by rw [bitsRow_length]; omega, hdz, hl, hT, fun B8 u p2 H8 e8 hu hp2 h8' => ?_⟩
  have hu := h8'.bt hu
  have hp2 := h8'.bl hp2
  have e68 := h8.ex.trans (e8.trans h8'.ex)
  have hL8 := e68.seq hL6
  have hr88 := e68.seq hr6
  have h9 := Hs.start H8
  have eH := e6.trans e68
  clear h7 h8
  walk_at "go"
  rename_i x2 dx2 H9 h10
  refine ⟨_, _, x2, dx2, .ref r, .lst (row.map V.int), rfl, h10, .lst (h10.bl hr88), ok_ints (by omega), fun ns' e' hb s2 H10 h11 => ⟨rfl, ?_⟩, fun z => ?_⟩
  rotate_left
  · rw [show Tg.isRow (.lst (row.map V.int)) = true from all_byteV hrb] at z
    cases z
  rw [← map_int_inj (Tg.lst.inj e')] at h11
  clear h9 h10
  walk_at "go"
  refine use_take (2 + Ld) (by omega) h11 hrb (by omega) (by omega) (by omega) fun H11 h12 => ?_
  rw [Nat.zero_add] at h12
  clear h11
  walk_at "go"
  refine ⟨_, _, x2, dx2, s2, 2 + Ld, row, ls, its, _, rfl, h12, hrb, by omega, by omega, hdz, hl, hT, fun p3 H12 h13 => ?_⟩
  have hL12 := h13.bl hL8
  have hr12 := h13.bl hr88
  clear h12
  walk_at "go"
  refine ⟨p3, ls, rfl, h13.sql (.head _), by omega, retV h13 fun H13 h14 => ?_⟩
  have hL13 := h14.bl hL8
  have hr13 := h14.bl hr88
  clear h13
  walk_at "go"
  refine ⟨_, _, x2, dx2, s2, _, _, rfl, h14.drop, ?_⟩
  walk_at "go"
  have hdq : (bitsRow row).drop (2 + Ld + (itsB its).length) = bitsOf 3 7 ++ zz := by
    rw [← List.drop_drop, hdz, List.drop_left]
  obtain ⟨t1, t2⟩ := take_at (by omega) hdq (by decide)
  rw [List.length_map]
  refine i_f (ne_f (by omega)) ?_
  walk_at "go"
  refine c_clear0 h14 fun H14 h15 => ?_
  have h16 := h15.drop
  clear h14 h15
  walk_at "go"
  refine use_take 7 rfl h16 hrb (by omega) (by decide) t2 fun H15 h17 => ?_
  rw [t1]
  walk_at "go"
  exact q _ (eH.trans h17.ex)
theorem Hs.two {x f : Addr} {o1 o2 : HO} (hx : H x = some o1) (hf : H f = some o2) (ne : x ≠ f) : Hs (fun _ => none) [(x, o1), (f, o2)] H := ⟨fun _ _ e => (nomatch e), by simp [ne], fun q hq => by
  simp only [List.mem_cons, List.not_mem_nil, or_false] at hq
  rcases hq with rfl | rfl
  · exact ⟨hx, rfl⟩
  · exact ⟨hf, rfl⟩⟩
section
variable {B : Hp} {L : Pic} {a b c d e : Addr × HO}
theorem mv4 (h : Hs B (a :: b :: c :: d :: e :: L) H) : Hs B (e :: a :: b :: c :: d :: L) H := h.perm (List.perm_middle (l₁ := [a, b, c, d]) (a := e) (l₂ := L))
theorem mv22 (h : Hs B (a :: b :: c :: d :: L) H) : Hs B (c :: d :: a :: b :: L) H := h.perm ((List.perm_append_comm (l₁ := [a, b]) (l₂ := [c, d])).append_right L)
theorem mv32 (h : Hs B (a :: b :: c :: d :: e :: L) H) : Hs B (d :: e :: a :: b :: c :: L) H := h.perm ((List.perm_append_comm (l₁ := [a, b, c]) (l₂ := [d, e])).append_right L)
theorem c_lcT {P : Addr → Hp → Prop} {p : Addr} {g : TG} {tt : TT} {te : TE} {σ : St} {vs : List Nat} (xs : List V) (I : List V → List V → Hp → Prop) (hs : Hs B L H) (h0 : I [] [] B) (hq : ∀ B' H', Same B B' → Hs B' L H' → SqT K H' p xs)
    (turn : ∀ pre x post acc B' D H', xs = pre ++ x :: post → I pre acc B' → Same B B' → Hs B' ((D, .lst acc) :: L) H' → g x (wipe σ vs) H' fun σ2 H2 => wipe σ2 vs = wipe σ vs ∧ tt σ2 H2 fun b H3 =>
      if b = true then te σ2 H3 fun y H4 => ∃ acc, H4 D = some (.lst acc) ∧ acc.length < sizeLine ∧ LcN I B L D (pre ++ [x]) (upd H4 D (.lst (acc ++ [y]))) else LcN I B L D (pre ++ [x]) H3)
    (fin : ∀ acc B' D H', I xs acc B' → Same B B' → Hs B' ((D, .lst acc) :: L) H' → P D H') :
    ∃ b, V.ref p = .ref b ∧ (∃ xs, SqT K H b xs) ∧ LcO (Itt K b) g tt te vs σ H P := by
  refine ⟨p, rfl, ⟨xs, hq B H (Same.refl B) hs⟩, fun D hD => ?_⟩
  refine L2.lc_tup (xs := xs) (fun i => LcN I B L D (xs.take i)) ⟨[], B, by simpa using h0, Same.refl B, hs.new hD⟩ (fun i H' _ ⟨acc, B', _, e, h⟩ => hq B' H' e h.drop) (fun i x H' hx ⟨acc, B', q, e2, h⟩ => ?_) fun H' ⟨acc, B', q, e, h⟩ => fin acc B' D H' (by simpa using q) e h
  obtain ⟨e1, e3⟩ := take_split hx
  have w := turn _ x _ acc B' D H' e1 q e2 h
  rw [e3]
  exact w
end
def sp_law (K : PySem.W.Frag) : Sp := fun vs H Q _ => ∃ (a : Addr) (ns : List Int), vs = [.ref a] ∧ SqL K H a (ns.map V.int) ∧ ns.length ≤ 63 ∧ ∀ H', Q (.bl true) H'
theorem len_law (h : sp_law K vs H Q E) : vs.length = 1 := by
  obtain ⟨a, ns, rfl, _⟩ := h
  rfl
def t_law (K : PySem.W.Frag) (W : WX) : TS :=
  (tSeq (tIfS (tTest (tOp (rNeU K) (tC (.int 272)) (tC (.int 272)))) (tRet (tC (.bl false))) tNext)
    (tSeq (tAsg (tCl (sp__law_table K) [] W (tCons (tVar 0) (tCons (tC (.int 2)) tNil))) (gName 1))
    (tSeq (tAsg (tCB (rListK K) (tCons (tVar 1) tNil)) (gName 2))
    (tSeq (tAsg (tMk (He.ga K "BitRow") (sp_BitRow___init__ K) [] W tNil) (gName 3))
    (tSeq (tAsg (tMk (He.ga K "BitRow") (sp_BitRow___init__ K) [] W tNil) (gName 4))
    (tSeq (tDrop (tCl (sp_put_table K) [] W (tCons (tVar 3) (tCons (tVar 2) tNil))))
    (tSeq (tDrop (tBM0 K "list" rReverse (tVar 2)))
    (tSeq (tDrop (tCl (sp_put_table K) [] W (tCons (tVar 4) (tCons (tVar 2) tNil))))
    (tSeq (tAsg (tLc (iTup K (tTup (tCons (tVar 3) (tCons (tVar 4) tNil)))) (gName 7) tYes (tCl (sp__law_read K) [] WF (tCons (tCl (sp__law_bits K) [] WF (tCons (tMt (He.ga K "BitRow") "row" (sp_BitRow_row K) [] WF (tVar 7) tNil) tNil)) (tCons (tC (.int 0)) tNil))) [7]) (gName 5))
    (tSeq (tIfS ((tOr (tTest (tOp rIsU (tOp (rIx K) (tVar 5) (tC (.int 0))) (tC .non))) (tOr (tTest (tOp (rNeU K) (tOp (rIx K) (tOp (rIx K) (tVar 5) (tC (.int 0))) (tC (.int 0))) (tVar 1))) (tOr (tTest (tOp rIsU (tOp (rIx K) (tVar 5) (tC (.int 1))) (tC .non))) (tTest (tOp (rNeU K) (tOp (rIx K) (tOp (rIx K) (tVar 5) (tC (.int 1))) (tC (.int 0))) (tRevL K (tVar 1)))))))) (tRet (tC (.bl false))) tNext)
    (tSeq (tAsg (tMk (He.ga K "BitRow") (sp_BitRow___init__ K) [] W tNil) (gName 6))
    (tSeq (tDrop (tCl (sp_put_table K) [] W (tCons (tVar 6) (tCons (tVar 1) tNil))))
    (tSeq (tIfS ((tOr (tTest (tOp (rNeU K) (tVar 2) (tRevL K (tVar 1)))) (tOr (tTest (tOp (rNeU K) (tMt (He.ga K "BitRow") "row" (sp_BitRow_row K) [] W (tVar 6) tNil) (tMt (He.ga K "BitRow") "row" (sp_BitRow_row K) [] W (tVar 3) tNil))) (tTest (tOp (rNeU K) (tMt (He.ga K "BitRow") "many" (sp_BitRow_many K) [] W (tVar 6) tNil) (tMt (He.ga K "BitRow") "many" (sp_BitRow_many K) [] W (tVar 3) tNil)))))) (tRet (tC (.bl false))) tNext)
    (tSeq (tIfS (tNot (tB (tCl (sp__law_taken K) [] W (tCons (tVar 0) (tCons (tVar 1) (tCons (tC .non) tNil)))))) (tRet (tC (.bl false))) tNext)
    (tRet (tCl (sp__law_taken K) [] W (tCons (tVar 0) (tCons (tVar 1) (tCons (tCl (sp__law_long_items K) [] W (tCons (tVar 1) (tCons (tOp rAddU (tC (.int 1)) (tOp rModU (tCB (rAbsK) (tCons (tCl (sp__law_cell_at K) [] W (tCons (tVar 0) (tCons (tC (.int 0)) tNil))) tNil)) (tC (.int 1000003)))) tNil))) tNil)))))))))))))))))))
theorem rd_law (kBitRow : KBitRow K) (kBitReader : KBitReader K) (h : sp_law K vs H Q E) : t_law K (fun c d _ H2 => E c d H2) { nx := fun _ H' => Q .non H', rt := Q } (start ["_law_script", "_law_table_here", "_law_handed", "_law_one", "_law_other", "_law_told", "_law_again", "_law_bits_here"] vs) H := by
  obtain ⟨a, ns, rfl, hS, hl, q⟩ := h
  have hs := Hs.start H
  unfold t_law
  walk_at "go"
  refine ⟨a, ns, rfl, hS, fun ls hT => retL hs fun t H1 h1 => ?_⟩
  have hS1 := h1.bl hS
  have ht1 := h1.sql (K := K) (.head _)
  have h2 := Hs.start H1
  have h272 := hT.1
  have hRT : Tab ls.reverse := ⟨by rw [List.length_reverse]; exact h272, fun x hx => hT.2 x (List.mem_reverse.mp hx)⟩
  clear h1 hs
  walk_at "go"
  rename_i hd H2 h3 x1 dx1 H3 h4
  refine ⟨H1, _, x1, dx1, rfl, h4, fun f1 H4 h5 => ⟨rfl, ?_⟩⟩
  clear h2 h3 h4
  walk_at "go"
  rename_i x2 dx2 H5 h6
  refine ⟨H1, _, x2, dx2, rfl, h6, fun f2 H6 h7 => ⟨rfl, ?_⟩⟩
  clear h5 h6
  walk_at "go"
  have h8 := mv22 h7
  refine ⟨H1, _, x1, dx1, f1, hd, [], ls, rfl, h8, (fun _ _ _ h => h.sql (.tail _ (.tail _ (.tail _ (.tail _ (.head _)))))), hT, by simp, fun H7 h9 => ?_⟩
  rw [List.nil_append] at h9
  have h10 := mv4 h9
  clear h7 h8 h9
  walk_at "go"
  refine c_reverse0 h10 fun H8 h11 => ?_
  rw [← List.map_reverse] at h11
  have h12 := mv32 h11
  clear h10 h11
  walk_at "go"
  refine ⟨H1, _, x2, dx2, f2, hd, [], ls.reverse, rfl, h12, (fun _ _ _ h => h.sql (.tail _ (.tail _ (.head _)))), hRT, by simp, fun H9 h13 => ?_⟩
  rw [List.nil_append] at h13
  have hx2 := h13.get (.head _)
  have hf2 := h13.get (.tail _ (.head _))
  have hhd := h13.sql (K := K) (.tail _ (.tail _ (.head _)))
  have hx1 := h13.get (.tail _ (.tail _ (.tail _ (.head _))))
  have hf1 := h13.get (.tail _ (.tail _ (.tail _ (.tail _ (.head _)))))
  have ne2 : x2 ≠ f2 := by
    intro z
    rw [z, hf2] at hx2
    cases hx2
  have ne1 : x1 ≠ f1 := by
    intro z
    rw [z, hf1] at hx1
    cases hx1
  have hS9 := h13.bl hS1
  have ht9 := h13.bl ht1
  have h14 := Hs.start H9
  clear h12 h13 hS1 ht1
  walk_at "go"
  rename_i tp H10 h15
  have e10 := h15.ex
  have htp := h15.sqt (K := K) (.head _)
  have h16 := Hs.start H10
  clear h14 h15
  have hx1a := e10 _ _ hx1
  have hf1a := e10 _ _ hf1
  have hx2a := e10 _ _ hx2
  have hf2a := e10 _ _ hf2
  have hS10 := e10.seq hS9
  have ht10 := e10.seq ht9
  have hh10 := e10.seq hhd
  clear hx1 hf1 hx2 hf2 hS9 ht9 hhd e10
  refine c_lcT [V.ref x1, V.ref x2] (fun pre acc B' => (pre = [] ∧ acc = []) ∨ (pre = [V.ref x1] ∧ ∃ (u1 p1 : Addr) (n1 : Int), acc = [V.ref u1] ∧ SqT K B' u1 [.ref p1, .int n1] ∧ SqL K B' p1 (ls.map V.int)) ∨
    (pre = [V.ref x1, V.ref x2] ∧ ∃ (u1 p1 u2 p2 : Addr) (n1 n2 : Int), acc = [V.ref u1, V.ref u2] ∧ SqT K B' u1 [.ref p1, .int n1] ∧ SqL K B' p1 (ls.map V.int) ∧ SqT K B' u2 [.ref p2, .int n2] ∧ SqL K B' p2 (ls.reverse.map V.int))) h16 (.inl ⟨rfl, rfl⟩) (fun B' H' e h => h.bt (same_sqt e htp)) ?_ ?_
  · rintro pre x post acc B' D H' e hI hB h
    have hE := hB.trans h.ex
    obtain ⟨xx, ff, dxx, lz, rfl, k1, k2, k3, k4, k5, k6⟩ : ∃ (xx ff dxx : Addr) (lz : List Int), x = .ref xx ∧ H' xx = some (brO K dxx ff (encT 0 lz)) ∧ H' ff = some (brL (encT 0 lz)) ∧ xx ≠ ff ∧ Tab lz ∧ acc.length ≤ 1 ∧ ∀ (B2 : Hp) (u p : Addr) (n : Int), Same B' B2 → SqT K B2 u [.ref p, .int n] → SqL K B2 p (lz.map V.int) →
        ((pre ++ [x] = [] ∧ acc ++ [V.ref u] = []) ∨ (pre ++ [x] = [V.ref x1] ∧ ∃ (u1 p1 : Addr) (n1 : Int), acc ++ [V.ref u] = [V.ref u1] ∧ SqT K B2 u1 [.ref p1, .int n1] ∧ SqL K B2 p1 (ls.map V.int)) ∨
          (pre ++ [x] = [V.ref x1, V.ref x2] ∧ ∃ (u1 p1 u2 p2 : Addr) (n1 n2 : Int), acc ++ [V.ref u] = [V.ref u1, V.ref u2] ∧ SqT K B2 u1 [.ref p1, .int n1] ∧ SqL K B2 p1 (ls.map V.int) ∧ SqT K B2 u2 [.ref p2, .int n2] ∧ SqL K B2 p2 (ls.reverse.map V.int))) := by
      rcases hI with ⟨rfl, rfl⟩ | ⟨rfl, u1, p1, n1, rfl, g1, g2⟩ | ⟨rfl, _⟩
      · injection e with e1 e2
        subst e1
        exact ⟨x1, f1, dx1, ls, rfl, hE _ _ hx1a, hE _ _ hf1a, ne1, hT, by simp, fun B2 u p n _ h1 h2 => .inr (.inl ⟨rfl, u, p, n, rfl, h1, h2⟩)⟩
      · injection e with e1 e2
        injection e2 with e2 e3
        subst e2
        exact ⟨x2, f2, dx2, ls.reverse, rfl, hE _ _ hx2a, hE _ _ hf2a, ne2, hRT, by simp, fun B2 u p n sb h1 h2 => .inr (.inr ⟨rfl, u1, p1, u, p, n1, n, rfl, same_sqt sb g1, sb.seq g2, h1, h2⟩)⟩
      · have z := congrArg List.length e
        simp at z
    have hsh : (encT 0 lz).length ≤ 9 * 272 := by
      obtain ⟨its, g1, g2⟩ := enc_items lz.length 0 lz (Nat.le_refl _)
      have := (lays_short g1).1
      rw [g2, k4.1] at this
      exact this
    obtain ⟨its, g1, g2⟩ := enc_items lz.length 0 lz (Nat.le_refl _)
    have hr8 := rowOf_length (encT 0 lz)
    walk_at "go"
    refine ⟨rfl, ?_⟩
    walk_at "go"
    refine ⟨_, _, xx, dxx, ff, _, rfl, Hs.two k1 k2 k3, by omega, retL h fun r H2 h2 => ?_⟩
    walk_at "go"
    refine ⟨r, rowOf (encT 0 lz), rfl, h2.sql (.head _), rowOf_bytes _, by omega, retL h2 fun l H3 h3 => ?_⟩
    have h4 := h3.drop1
    have hn := h4.nb (.head _)
    have h5 := h4.fix
    walk_at "go"
    refine ⟨_, _, l, bitsRow (rowOf (encT 0 lz)), 0, lz, its, List.replicate ((8 - (encT 0 lz).length % 8) % 8) false, rfl, h5, SqL.of upd_same, Nat.zero_le _, ?_, g1, k4, fun B2 u p H4 hB2 hu hp h6 => ?_⟩
    · rw [List.drop_zero, bitsRow_rowOf, g2]
      rfl
    · exact c_item h6 (small5 (by omega)) (hB.trans ((same_upd hn).trans hB2)) (k6 B2 u p _ ((same_upd hn).trans hB2) hu hp)
  rintro acc B' D H11 hI hB h17
  obtain ⟨u1, p1, u2, p2, n1, n2, rfl, g1, g2, g3, g4⟩ : ∃ (u1 p1 u2 p2 : Addr) (n1 n2 : Int), acc = [V.ref u1, V.ref u2] ∧ SqT K B' u1 [.ref p1, .int n1] ∧ SqL K B' p1 (ls.map V.int) ∧ SqT K B' u2 [.ref p2, .int n2] ∧ SqL K B' p2 (ls.reverse.map V.int) := by
    rcases hI with ⟨z, _⟩ | ⟨z, _⟩ | ⟨_, z⟩
    · cases z
    · injection z with z1 z2
      cases z2
    · exact z
  have e11 := hB.trans h17.ex
  have hD := h17.sql (K := K) (.head _)
  have hu1 := h17.bt g1
  have hp1 := h17.bl g2
  have hu2 := h17.bt g3
  have hp2 := h17.bl g4
  have hx1b := e11 _ _ hx1a
  have hf1b := e11 _ _ hf1a
  have hS11 := e11.seq hS10
  have ht11 := e11.seq ht10
  have hh11 := e11.seq hh10
  have h18 := Hs.start H11
  clear h16 h17 hx1a hf1a hx2a hf2a hS10 ht10 hh10 g1 g2 g3 g4 hB hI htp
  walk_at "go"
  refine c_revO h18 ht11 fun y H12 h19 => ?_
  rw [← List.map_reverse] at h19
  refine c_neL ls.reverse ls.reverse (h19.bl hp2) (h19.sql (.head _)) ?_
  rw [decide_eq_true rfl]
  have hS12 := h19.bl hS11
  have ht12 := h19.bl ht11
  have hh12 := h19.bl hh11
  have hx1c := h19.ex _ _ hx1b
  have hf1c := h19.ex _ _ hf1b
  have h20 := Hs.start H12
  clear h18 h19 hS11 ht11 hh11 hx1b hf1b hD hu1 hp1 hu2 hp2
  walk_at "go"
  rename_i x3 dx3 H13 h21
  refine ⟨H12, [], x3, dx3, rfl, h21, fun f3 H14 h22 => ⟨rfl, ?_⟩⟩
  clear h20 h21
  walk_at "go"
  refine ⟨H12, [], x3, dx3, f3, t, [], ls, rfl, h22, (fun _ _ _ h => h.bl ht12), hT, by simp, fun H15 h23 => ?_⟩
  rw [List.nil_append] at h23
  have ht15 := h23.bl ht12
  have hh15 := h23.bl hh12
  clear h22
  walk_at "go"
  refine c_revO h23 ht15 fun y2 H16 h24 => ?_
  rw [← List.map_reverse] at h24
  refine c_neL ls.reverse ls.reverse (h24.bl hh12) (h24.sql (.head _)) ?_
  rw [decide_eq_true rfl]
  have h25 := h24.drop
  have hsh : (encT 0 ls).length ≤ 9 * 272 := by
    obtain ⟨its, g1, g2⟩ := enc_items ls.length 0 ls (Nat.le_refl _)
    have := (lays_short g1).1
    rw [g2, h272] at this
    exact this
  clear h23 h24
  walk_at "go"
  refine ⟨_, _, x3, dx3, f3, _, rfl, h25, by omega, retL h25 fun r1 H17 h26 => ?_⟩
  walk_at "go"
  refine ⟨_, _, x1, dx1, f1, _, rfl, Hs.two (h26.ex _ _ hx1c) (h26.ex _ _ hf1c) ne1, by omega, retL h26 fun r2 H18 h27 => ?_⟩
  refine c_neL _ _ (h27.sql (.tail _ (.head _))) (h27.sql (.head _)) ?_
  rw [decide_eq_true rfl]
  have h28 := h27.drop.drop
  clear h25 h26 h27
  walk_at "go"
  refine ⟨_, _, x3, dx3, f3, _, rfl, h28, ?_⟩
  walk_at "go"
  refine ⟨_, _, x1, dx1, f1, _, rfl, Hs.two (h28.ex _ _ hx1c) (h28.ex _ _ hf1c) ne1, ?_⟩
  have hS18 := h28.bl hS12
  have ht18 := h28.bl ht12
  have h29 := Hs.start H18
  clear h28
  walk_at "go"
  refine ⟨a, t, ns, ls, .non, rfl, hS18, ht18, hT, .inl rfl, retV h29 fun H19 h30 => ?_⟩
  have hS19 := h30.bl hS18
  have ht19 := h30.bl ht18
  clear h29
  walk_at "go"
  refine ⟨a, ns, 0, rfl, hS19, by decide, ?_⟩
  walk_at "go"
  obtain ⟨N, eN⟩ : ∃ N : Nat, (1 : Int) + (if cellAt ns 0 < 0 then -cellAt ns 0 else cellAt ns 0) % 1000003 = ((N : Nat) : Int) := by
    have : 0 ≤ (if cellAt ns 0 < 0 then -cellAt ns 0 else cellAt ns 0) % 1000003 := Int.emod_nonneg _ (by decide)
    exact ⟨((1 : Int) + (if cellAt ns 0 < 0 then -cellAt ns 0 else cellAt ns 0) % 1000003).toNat, by omega⟩
  refine c_abs ?_
  walk_at "go"
  rw [eN]
  refine ⟨t, ls, N, rfl, ht19, hT, fun its hl p ws H20 e20 hw hp => ?_⟩
  walk_at "go"
  exact ⟨a, t, ns, ls, .ref p, rfl, e20.seq hS19, e20.seq ht19, hT, .inr ⟨p, ws, its, rfl, hp, hw, hl⟩, fun H21 _ => q _⟩
end L2.BR

end
namespace L2.BH
open PySem PySem.Spec PyProof.Rows L2
def top (i : Nat) : Stmt := PySem.Challenge.pw_balepress_k11_tables_told_and_taken.main.body.getD i (.Pass ⟨0, 0, 0, 0⟩)
abbrev s__wall : Stmt := top 0
abbrev s_is_table : Stmt := top 15
abbrev s_alike_from : Stmt := top 16
abbrev s_put_table : Stmt := top 17
abbrev s_items_read : Stmt := top 18
abbrev s_take_table : Stmt := top 19
abbrev s_is_byte : Stmt := top 22
abbrev s_is_row : Stmt := top 23
abbrev s_need_row : Stmt := top 24
abbrev s_is_number : Stmt := top 28
abbrev s_need_size : Stmt := top 29
abbrev s_BitRow___init__ : Stmt := inClass (top 30) 0
abbrev s_BitRow_put : Stmt := inClass (top 30) 1
abbrev s_BitRow_many : Stmt := inClass (top 30) 2
abbrev s_BitRow_row : Stmt := inClass (top 30) 3
abbrev s_BitReader___init__ : Stmt := inClass (top 31) 0
abbrev s_BitReader_left : Stmt := inClass (top 31) 1
abbrev s_BitReader_place : Stmt := inClass (top 31) 2
abbrev s_BitReader_go : Stmt := inClass (top 31) 3
abbrev s_BitReader_take : Stmt := inClass (top 31) 4
abbrev s_BitReader_at_end : Stmt := inClass (top 31) 5
abbrev s__law_cell_at : Stmt := top 33
abbrev s__law_mixed : Stmt := top 34
abbrev s__law_table : Stmt := top 35
abbrev s__law_bits : Stmt := top 36
abbrev s__law_number : Stmt := top 37
abbrev s__law_read : Stmt := top 38
abbrev s__law_whole : Stmt := top 39
abbrev s__law_long_items : Stmt := top 40
abbrev s__law_taken : Stmt := top 41
abbrev s_law : Stmt := top 42
def d__wall : He.DefD := ⟨("_wall", none), "_wall", "_wall", defArgs s__wall, defBody s__wall, defScope s__wall, [], []⟩
def d_is_table : He.DefD := ⟨("is_table", none), "is_table", "is_table", defArgs s_is_table, defBody s_is_table, defScope s_is_table, [], []⟩
def d_alike_from : He.DefD := ⟨("alike_from", none), "alike_from", "alike_from", defArgs s_alike_from, defBody s_alike_from, defScope s_alike_from, [], []⟩
def d_put_table : He.DefD := ⟨("put_table", none), "put_table", "put_table", defArgs s_put_table, defBody s_put_table, defScope s_put_table, [], []⟩
def d_items_read : He.DefD := ⟨("items_read", none), "items_read", "items_read", defArgs s_items_read, defBody s_items_read, defScope s_items_read, [], []⟩
def d_take_table : He.DefD := ⟨("take_table", none), "take_table", "take_table", defArgs s_take_table, defBody s_take_table, defScope s_take_table, [], []⟩
def d_is_byte : He.DefD := ⟨("is_byte", none), "is_byte", "is_byte", defArgs s_is_byte, defBody s_is_byte, defScope s_is_byte, [], []⟩
def d_is_row : He.DefD := ⟨("is_row", none), "is_row", "is_row", defArgs s_is_row, defBody s_is_row, defScope s_is_row, [], []⟩
def d_need_row : He.DefD := ⟨("need_row", none), "need_row", "need_row", defArgs s_need_row, defBody s_need_row, defScope s_need_row, [], []⟩
def d_is_number : He.DefD := ⟨("is_number", none), "is_number", "is_number", defArgs s_is_number, defBody s_is_number, defScope s_is_number, [], []⟩
def d_need_size : He.DefD := ⟨("need_size", none), "need_size", "need_size", defArgs s_need_size, defBody s_need_size, defScope s_need_size, [], []⟩
def d_BitRow___init__ : He.DefD := ⟨("BitRow", some "__init__"), "__init__", "BitRow.__init__", defArgs s_BitRow___init__, defBody s_BitRow___init__, defScope s_BitRow___init__, [], []⟩
def d_BitRow_put : He.DefD := ⟨("BitRow", some "put"), "put", "BitRow.put", defArgs s_BitRow_put, defBody s_BitRow_put, defScope s_BitRow_put, [], []⟩
def d_BitRow_many : He.DefD := ⟨("BitRow", some "many"), "many", "BitRow.many", defArgs s_BitRow_many, defBody s_BitRow_many, defScope s_BitRow_many, [], []⟩
def d_BitRow_row : He.DefD := ⟨("BitRow", some "row"), "row", "BitRow.row", defArgs s_BitRow_row, defBody s_BitRow_row, defScope s_BitRow_row, [], []⟩
def d_BitReader___init__ : He.DefD := ⟨("BitReader", some "__init__"), "__init__", "BitReader.__init__", defArgs s_BitReader___init__, defBody s_BitReader___init__, defScope s_BitReader___init__, [], []⟩
def d_BitReader_left : He.DefD := ⟨("BitReader", some "left"), "left", "BitReader.left", defArgs s_BitReader_left, defBody s_BitReader_left, defScope s_BitReader_left, [], []⟩
def d_BitReader_place : He.DefD := ⟨("BitReader", some "place"), "place", "BitReader.place", defArgs s_BitReader_place, defBody s_BitReader_place, defScope s_BitReader_place, [], []⟩
def d_BitReader_go : He.DefD := ⟨("BitReader", some "go"), "go", "BitReader.go", defArgs s_BitReader_go, defBody s_BitReader_go, defScope s_BitReader_go, [], []⟩
def d_BitReader_take : He.DefD := ⟨("BitReader", some "take"), "take", "BitReader.take", defArgs s_BitReader_take, defBody s_BitReader_take, defScope s_BitReader_take, [], []⟩
def d_BitReader_at_end : He.DefD := ⟨("BitReader", some "at_end"), "at_end", "BitReader.at_end", defArgs s_BitReader_at_end, defBody s_BitReader_at_end, defScope s_BitReader_at_end, [], []⟩
def d__law_cell_at : He.DefD := ⟨("_law_cell_at", none), "_law_cell_at", "_law_cell_at", defArgs s__law_cell_at, defBody s__law_cell_at, defScope s__law_cell_at, [], []⟩
def d__law_mixed : He.DefD := ⟨("_law_mixed", none), "_law_mixed", "_law_mixed", defArgs s__law_mixed, defBody s__law_mixed, defScope s__law_mixed, [], []⟩
def d__law_table : He.DefD := ⟨("_law_table", none), "_law_table", "_law_table", defArgs s__law_table, defBody s__law_table, defScope s__law_table, [], []⟩
def d__law_bits : He.DefD := ⟨("_law_bits", none), "_law_bits", "_law_bits", defArgs s__law_bits, defBody s__law_bits, defScope s__law_bits, [], []⟩
def d__law_number : He.DefD := ⟨("_law_number", none), "_law_number", "_law_number", defArgs s__law_number, defBody s__law_number, defScope s__law_number, [], []⟩
def d__law_read : He.DefD := ⟨("_law_read", none), "_law_read", "_law_read", defArgs s__law_read, defBody s__law_read, defScope s__law_read, [], []⟩
def d__law_whole : He.DefD := ⟨("_law_whole", none), "_law_whole", "_law_whole", defArgs s__law_whole, defBody s__law_whole, defScope s__law_whole, [], []⟩
def d__law_long_items : He.DefD := ⟨("_law_long_items", none), "_law_long_items", "_law_long_items", defArgs s__law_long_items, defBody s__law_long_items, defScope s__law_long_items, [], []⟩
def d__law_taken : He.DefD := ⟨("_law_taken", none), "_law_taken", "_law_taken", defArgs s__law_taken, defBody s__law_taken, defScope s__law_taken, [], []⟩
def d_law : He.DefD := ⟨("law", none), "law", "law", defArgs s_law, defBody s_law, defScope s_law, [], []⟩
def fn : List He.DefD := [d__wall, d_is_table, d_alike_from, d_put_table, d_items_read, d_take_table, d_is_byte, d_is_row, d_need_row, d_is_number, d_need_size, d_BitRow___init__, d_BitRow_put, d_BitRow_many, d_BitRow_row, d_BitReader___init__, d_BitReader_left, d_BitReader_place, d_BitReader_go, d_BitReader_take, d_BitReader_at_end, d__law_cell_at, d__law_mixed, d__law_table, d__law_bits, d__law_number, d__law_read, d__law_whole, d__law_long_items, d__law_taken, d_law]
def fa : List He.Fa := [.glo "_wall", .glo "PressError", .exc "PressError", .glo "BadRow", .exc "BadRow", .glo "BadBits", .exc "BadBits", .glo "NoBits", .exc "NoBits", .glo "BadTable", .exc "BadTable", .int "MANY" 272, .int "MOST_LENGTH" 6, .int "MORE_MARK" 7, .int "LEAST_MORE" 3, .int "MOST_MORE" 66, .int "LENGTH_BITS" 3, .int "MORE_BITS" 6, .glo "is_table", .glo "alike_from", .glo "put_table", .glo "items_read", .glo "take_table", .int "MOST_BYTE" 255, .glo "is_byte", .glo "is_row", .glo "need_row", .int "BYTE" 8, .int "MOST_SIZE" 24, .glo "is_number", .glo "need_size", .glo "BitRow", .cls "BitRow", .noat "BitRow" "full", .noat "BitRow" "part", .noat "BitRow" "filled", .meth "BitRow" "__init__", .meth "BitRow" "put", .meth "BitRow" "many", .meth "BitRow" "row", .mkr "BitRow", .glo "BitReader", .cls "BitReader", .noat "BitReader" "source", .noat "BitReader" "taken", .meth "BitReader" "__init__", .meth "BitReader" "left", .meth "BitReader" "place", .meth "BitReader" "go", .meth "BitReader" "take", .meth "BitReader" "at_end", .mkr "BitReader", .glo "_law_cell_at", .glo "_law_mixed", .glo "_law_table", .glo "_law_bits", .glo "_law_number", .glo "_law_read", .glo "_law_whole", .glo "_law_long_items", .glo "_law_taken", .glo "law", .free "abs", .free "all", .free "bool", .free "divmod", .free "int", .free "isinstance", .free "len", .free "list", .free "range", .free "ValueError"]
abbrev R : PySem.W.OpenRow := PySem.W.OpenLaw.row PySem.Challenge.rw_balepress_k11_tables_told_and_taken
abbrev hk : PySem.W.Hook := He.hookD 6 fa fn
def ob (s : PySem.W.SharedT) : He.AlD := He.obsDG 6 fa fn (HandSHeadRun.getT s)
theorem ob_eq (s : PySem.W.SharedT) : ob s = hk.obs s.abs := He.obsDG_eq (HandSHeadRun.getT_eq s)
def loose0 : List PySem.Str := ["_wall", "PressError", "ValueError", "BadRow", "BadBits", "NoBits", "BadTable", "MANY", "MOST_LENGTH", "MORE_MARK", "LEAST_MORE", "MOST_MORE", "LENGTH_BITS", "MORE_BITS", "is_table", "alike_from", "put_table", "items_read", "take_table", "MOST_BYTE", "is_byte", "is_row", "need_row", "BYTE", "MOST_SIZE", "is_number", "need_size", "BitRow", "BitReader", "_law_cell_at"]
def loose1 : List PySem.Str := ["_law_mixed", "_law_table", "_law_bits", "_law_number", "_law_read", "_law_whole", "_law_long_items", "_law_taken"]
abbrev loose : List PySem.Str := loose0 ++ loose1
theorem run (w : World) : HandSHeadRun.RunEq R (PySem.W.view R.prog [42]) hk ob 40000 loose w := by
  intro os
  kernel_rfl
end L2.BH
namespace L2.BW
open PySem PySem.Spec PyProof.Rows L2.BP L2.BR L2.BH
structure Tx (K : PySem.W.Frag) (mg : Str → Option Value) : Prop where
  g__wall : mg "_wall" = some (.ref (He.ga K "_wall"))
  g_PressError : mg "PressError" = some (.ref (He.ga K "PressError"))
  x_PressError : PySem.W.excIn K (He.ga K "PressError") He.veBase "ValueError.__new__" = true ∧ PySem.W.keepIn K (.ref (He.ga K "PressError")) = true ∧ PySem.W.subIn K (.ref (He.ga K "PressError")) (.type "BaseException") = some true ∧ PySem.W.typeIn K (.ref (He.ga K "PressError")) = some (.type "type")
  g_BadRow : mg "BadRow" = some (.ref (He.ga K "BadRow"))
  x_BadRow : PySem.W.excIn K (He.ga K "BadRow") He.veBase "ValueError.__new__" = true ∧ PySem.W.keepIn K (.ref (He.ga K "BadRow")) = true ∧ PySem.W.subIn K (.ref (He.ga K "BadRow")) (.type "BaseException") = some true ∧ PySem.W.typeIn K (.ref (He.ga K "BadRow")) = some (.type "type")
  g_BadBits : mg "BadBits" = some (.ref (He.ga K "BadBits"))
  x_BadBits : PySem.W.excIn K (He.ga K "BadBits") He.veBase "ValueError.__new__" = true ∧ PySem.W.keepIn K (.ref (He.ga K "BadBits")) = true ∧ PySem.W.subIn K (.ref (He.ga K "BadBits")) (.type "BaseException") = some true ∧ PySem.W.typeIn K (.ref (He.ga K "BadBits")) = some (.type "type")
  g_NoBits : mg "NoBits" = some (.ref (He.ga K "NoBits"))
  x_NoBits : PySem.W.excIn K (He.ga K "NoBits") He.veBase "ValueError.__new__" = true ∧ PySem.W.keepIn K (.ref (He.ga K "NoBits")) = true ∧ PySem.W.subIn K (.ref (He.ga K "NoBits")) (.type "BaseException") = some true ∧ PySem.W.typeIn K (.ref (He.ga K "NoBits")) = some (.type "type")
  g_BadTable : mg "BadTable" = some (.ref (He.ga K "BadTable"))
  x_BadTable : PySem.W.excIn K (He.ga K "BadTable") He.veBase "ValueError.__new__" = true ∧ PySem.W.keepIn K (.ref (He.ga K "BadTable")) = true ∧ PySem.W.subIn K (.ref (He.ga K "BadTable")) (.type "BaseException") = some true ∧ PySem.W.typeIn K (.ref (He.ga K "BadTable")) = some (.type "type")
  g_MANY : ∃ t, mg "MANY" = some (.int 272 t)
  g_MOST_LENGTH : ∃ t, mg "MOST_LENGTH" = some (.int 6 t)
  g_MORE_MARK : ∃ t, mg "MORE_MARK" = some (.int 7 t)
  g_LEAST_MORE : ∃ t, mg "LEAST_MORE" = some (.int 3 t)
  g_MOST_MORE : ∃ t, mg "MOST_MORE" = some (.int 66 t)
  g_LENGTH_BITS : ∃ t, mg "LENGTH_BITS" = some (.int 3 t)
  g_MORE_BITS : ∃ t, mg "MORE_BITS" = some (.int 6 t)
  g_is_table : mg "is_table" = some (.ref (He.ga K "is_table"))
  g_alike_from : mg "alike_from" = some (.ref (He.ga K "alike_from"))
  g_put_table : mg "put_table" = some (.ref (He.ga K "put_table"))
  g_items_read : mg "items_read" = some (.ref (He.ga K "items_read"))
  g_take_table : mg "take_table" = some (.ref (He.ga K "take_table"))
  g_MOST_BYTE : ∃ t, mg "MOST_BYTE" = some (.int 255 t)
  g_is_byte : mg "is_byte" = some (.ref (He.ga K "is_byte"))
  g_is_row : mg "is_row" = some (.ref (He.ga K "is_row"))
  g_need_row : mg "need_row" = some (.ref (He.ga K "need_row"))
  g_BYTE : ∃ t, mg "BYTE" = some (.int 8 t)
  g_MOST_SIZE : ∃ t, mg "MOST_SIZE" = some (.int 24 t)
  g_is_number : mg "is_number" = some (.ref (He.ga K "is_number"))
  g_need_size : mg "need_size" = some (.ref (He.ga K "need_size"))
  g_BitRow : mg "BitRow" = some (.ref (He.ga K "BitRow"))
  c_BitRow : Cls K (He.ga K "BitRow")
  n_BitRow_full : NoAttr K (He.ga K "BitRow") "full"
  n_BitRow_part : NoAttr K (He.ga K "BitRow") "part"
  n_BitRow_filled : NoAttr K (He.ga K "BitRow") "filled"
  m_BitRow___init__ : Meth K (He.ga K "BitRow") "__init__" (He.ma K (He.ga K "BitRow") "__init__")
  m_BitRow_put : Meth K (He.ga K "BitRow") "put" (He.ma K (He.ga K "BitRow") "put")
  m_BitRow_many : Meth K (He.ga K "BitRow") "many" (He.ma K (He.ga K "BitRow") "many")
  m_BitRow_row : Meth K (He.ga K "BitRow") "row" (He.ma K (He.ga K "BitRow") "row")
  k_BitRow : Mk K (He.ga K "BitRow") (He.ma K (He.ga K "BitRow") "__init__")
  g_BitReader : mg "BitReader" = some (.ref (He.ga K "BitReader"))
  c_BitReader : Cls K (He.ga K "BitReader")
  n_BitReader_source : NoAttr K (He.ga K "BitReader") "source"
  n_BitReader_taken : NoAttr K (He.ga K "BitReader") "taken"
  m_BitReader___init__ : Meth K (He.ga K "BitReader") "__init__" (He.ma K (He.ga K "BitReader") "__init__")
  m_BitReader_left : Meth K (He.ga K "BitReader") "left" (He.ma K (He.ga K "BitReader") "left")
  m_BitReader_place : Meth K (He.ga K "BitReader") "place" (He.ma K (He.ga K "BitReader") "place")
  m_BitReader_go : Meth K (He.ga K "BitReader") "go" (He.ma K (He.ga K "BitReader") "go")
  m_BitReader_take : Meth K (He.ga K "BitReader") "take" (He.ma K (He.ga K "BitReader") "take")
  m_BitReader_at_end : Meth K (He.ga K "BitReader") "at_end" (He.ma K (He.ga K "BitReader") "at_end")
  k_BitReader : Mk K (He.ga K "BitReader") (He.ma K (He.ga K "BitReader") "__init__")
  g__law_cell_at : mg "_law_cell_at" = some (.ref (He.ga K "_law_cell_at"))
  g__law_mixed : mg "_law_mixed" = some (.ref (He.ga K "_law_mixed"))
  g__law_table : mg "_law_table" = some (.ref (He.ga K "_law_table"))
  g__law_bits : mg "_law_bits" = some (.ref (He.ga K "_law_bits"))
  g__law_number : mg "_law_number" = some (.ref (He.ga K "_law_number"))
  g__law_read : mg "_law_read" = some (.ref (He.ga K "_law_read"))
  g__law_whole : mg "_law_whole" = some (.ref (He.ga K "_law_whole"))
  g__law_long_items : mg "_law_long_items" = some (.ref (He.ga K "_law_long_items"))
  g__law_taken : mg "_law_taken" = some (.ref (He.ga K "_law_taken"))
  g_law : mg "law" = some (.ref (He.ga K "law"))
  f_abs : mg "abs" = none
  f_all : mg "all" = none
  f_bool : mg "bool" = none
  f_divmod : mg "divmod" = none
  f_int : mg "int" = none
  f_isinstance : mg "isinstance" = none
  f_len : mg "len" = none
  f_list : mg "list" = none
  f_range : mg "range" = none
  f_ValueError : mg "ValueError" = none
  d__law_mixed : ∃ fd, FunD K d__law_mixed.name d__law_mixed.qual d__law_mixed.params d__law_mixed.body d__law_mixed.scope (d__law_mixed.dvs K) (d__law_mixed.kws K) (He.fAd K d__law_mixed.at_) fd
  d__law_cell_at : ∃ fd, FunD K d__law_cell_at.name d__law_cell_at.qual d__law_cell_at.params d__law_cell_at.body d__law_cell_at.scope (d__law_cell_at.dvs K) (d__law_cell_at.kws K) (He.fAd K d__law_cell_at.at_) fd
  d__law_table : ∃ fd, FunD K d__law_table.name d__law_table.qual d__law_table.params d__law_table.body d__law_table.scope (d__law_table.dvs K) (d__law_table.kws K) (He.fAd K d__law_table.at_) fd
  d_BitRow___init__ : ∃ fd, FunD K d_BitRow___init__.name d_BitRow___init__.qual d_BitRow___init__.params d_BitRow___init__.body d_BitRow___init__.scope (d_BitRow___init__.dvs K) (d_BitRow___init__.kws K) (He.fAd K d_BitRow___init__.at_) fd
  d_is_table : ∃ fd, FunD K d_is_table.name d_is_table.qual d_is_table.params d_is_table.body d_is_table.scope (d_is_table.dvs K) (d_is_table.kws K) (He.fAd K d_is_table.at_) fd
  d_alike_from : ∃ fd, FunD K d_alike_from.name d_alike_from.qual d_alike_from.params d_alike_from.body d_alike_from.scope (d_alike_from.dvs K) (d_alike_from.kws K) (He.fAd K d_alike_from.at_) fd
  d_is_number : ∃ fd, FunD K d_is_number.name d_is_number.qual d_is_number.params d_is_number.body d_is_number.scope (d_is_number.dvs K) (d_is_number.kws K) (He.fAd K d_is_number.at_) fd
  d_need_size : ∃ fd, FunD K d_need_size.name d_need_size.qual d_need_size.params d_need_size.body d_need_size.scope (d_need_size.dvs K) (d_need_size.kws K) (He.fAd K d_need_size.at_) fd
  d_BitRow_put : ∃ fd, FunD K d_BitRow_put.name d_BitRow_put.qual d_BitRow_put.params d_BitRow_put.body d_BitRow_put.scope (d_BitRow_put.dvs K) (d_BitRow_put.kws K) (He.fAd K d_BitRow_put.at_) fd
  d_put_table : ∃ fd, FunD K d_put_table.name d_put_table.qual d_put_table.params d_put_table.body d_put_table.scope (d_put_table.dvs K) (d_put_table.kws K) (He.fAd K d_put_table.at_) fd
  d__law_number : ∃ fd, FunD K d__law_number.name d__law_number.qual d__law_number.params d__law_number.body d__law_number.scope (d__law_number.dvs K) (d__law_number.kws K) (He.fAd K d__law_number.at_) fd
  d__law_read : ∃ fd, FunD K d__law_read.name d__law_read.qual d__law_read.params d__law_read.body d__law_read.scope (d__law_read.dvs K) (d__law_read.kws K) (He.fAd K d__law_read.at_) fd
  d__law_bits : ∃ fd, FunD K d__law_bits.name d__law_bits.qual d__law_bits.params d__law_bits.body d__law_bits.scope (d__law_bits.dvs K) (d__law_bits.kws K) (He.fAd K d__law_bits.at_) fd
  d_BitRow_row : ∃ fd, FunD K d_BitRow_row.name d_BitRow_row.qual d_BitRow_row.params d_BitRow_row.body d_BitRow_row.scope (d_BitRow_row.dvs K) (d_BitRow_row.kws K) (He.fAd K d_BitRow_row.at_) fd
  d_BitRow_many : ∃ fd, FunD K d_BitRow_many.name d_BitRow_many.qual d_BitRow_many.params d_BitRow_many.body d_BitRow_many.scope (d_BitRow_many.dvs K) (d_BitRow_many.kws K) (He.fAd K d_BitRow_many.at_) fd
  d_is_byte : ∃ fd, FunD K d_is_byte.name d_is_byte.qual d_is_byte.params d_is_byte.body d_is_byte.scope (d_is_byte.dvs K) (d_is_byte.kws K) (He.fAd K d_is_byte.at_) fd
  d_is_row : ∃ fd, FunD K d_is_row.name d_is_row.qual d_is_row.params d_is_row.body d_is_row.scope (d_is_row.dvs K) (d_is_row.kws K) (He.fAd K d_is_row.at_) fd
  d_need_row : ∃ fd, FunD K d_need_row.name d_need_row.qual d_need_row.params d_need_row.body d_need_row.scope (d_need_row.dvs K) (d_need_row.kws K) (He.fAd K d_need_row.at_) fd
  d_BitReader___init__ : ∃ fd, FunD K d_BitReader___init__.name d_BitReader___init__.qual d_BitReader___init__.params d_BitReader___init__.body d_BitReader___init__.scope (d_BitReader___init__.dvs K) (d_BitReader___init__.kws K) (He.fAd K d_BitReader___init__.at_) fd
  d_BitReader_left : ∃ fd, FunD K d_BitReader_left.name d_BitReader_left.qual d_BitReader_left.params d_BitReader_left.body d_BitReader_left.scope (d_BitReader_left.dvs K) (d_BitReader_left.kws K) (He.fAd K d_BitReader_left.at_) fd
  d_BitReader_take : ∃ fd, FunD K d_BitReader_take.name d_BitReader_take.qual d_BitReader_take.params d_BitReader_take.body d_BitReader_take.scope (d_BitReader_take.dvs K) (d_BitReader_take.kws K) (He.fAd K d_BitReader_take.at_) fd
  d_BitReader_place : ∃ fd, FunD K d_BitReader_place.name d_BitReader_place.qual d_BitReader_place.params d_BitReader_place.body d_BitReader_place.scope (d_BitReader_place.dvs K) (d_BitReader_place.kws K) (He.fAd K d_BitReader_place.at_) fd
  d_items_read : ∃ fd, FunD K d_items_read.name d_items_read.qual d_items_read.params d_items_read.body d_items_read.scope (d_items_read.dvs K) (d_items_read.kws K) (He.fAd K d_items_read.at_) fd
  d_BitReader_go : ∃ fd, FunD K d_BitReader_go.name d_BitReader_go.qual d_BitReader_go.params d_BitReader_go.body d_BitReader_go.scope (d_BitReader_go.dvs K) (d_BitReader_go.kws K) (He.fAd K d_BitReader_go.at_) fd
  d_take_table : ∃ fd, FunD K d_take_table.name d_take_table.qual d_take_table.params d_take_table.body d_take_table.scope (d_take_table.dvs K) (d_take_table.kws K) (He.fAd K d_take_table.at_) fd
  d__law_whole : ∃ fd, FunD K d__law_whole.name d__law_whole.qual d__law_whole.params d__law_whole.body d__law_whole.scope (d__law_whole.dvs K) (d__law_whole.kws K) (He.fAd K d__law_whole.at_) fd
  d__law_taken : ∃ fd, FunD K d__law_taken.name d__law_taken.qual d__law_taken.params d__law_taken.body d__law_taken.scope (d__law_taken.dvs K) (d__law_taken.kws K) (He.fAd K d__law_taken.at_) fd
  d__law_long_items : ∃ fd, FunD K d__law_long_items.name d__law_long_items.qual d__law_long_items.params d__law_long_items.body d__law_long_items.scope (d__law_long_items.dvs K) (d__law_long_items.kws K) (He.fAd K d__law_long_items.at_) fd
  d_law : ∃ fd, FunD K d_law.name d_law.qual d_law.params d_law.body d_law.scope (d_law.dvs K) (d_law.kws K) (He.fAd K d_law.at_) fd
theorem tx_of {K : PySem.W.Frag} {h : Heap} {mg : Str → Option Value} (X : K.In h) (G : h.Ns mainGlobals mg) (c : He.SaysD fa fn K) : Tx K mg where
  g__wall := He.glo_ok X G (c.fact 0 (f := .glo "_wall") rfl)
  g_PressError := He.glo_ok X G (c.fact 1 (f := .glo "PressError") rfl)
  x_PressError := He.exc_ok (c.fact 2 (f := .exc "PressError") rfl)
  g_BadRow := He.glo_ok X G (c.fact 3 (f := .glo "BadRow") rfl)
  x_BadRow := He.exc_ok (c.fact 4 (f := .exc "BadRow") rfl)
  g_BadBits := He.glo_ok X G (c.fact 5 (f := .glo "BadBits") rfl)
  x_BadBits := He.exc_ok (c.fact 6 (f := .exc "BadBits") rfl)
  g_NoBits := He.glo_ok X G (c.fact 7 (f := .glo "NoBits") rfl)
  x_NoBits := He.exc_ok (c.fact 8 (f := .exc "NoBits") rfl)
  g_BadTable := He.glo_ok X G (c.fact 9 (f := .glo "BadTable") rfl)
  x_BadTable := He.exc_ok (c.fact 10 (f := .exc "BadTable") rfl)
  g_MANY := He.int_ok X G (c.fact 11 (f := .int "MANY" 272) rfl)
  g_MOST_LENGTH := He.int_ok X G (c.fact 12 (f := .int "MOST_LENGTH" 6) rfl)
  g_MORE_MARK := He.int_ok X G (c.fact 13 (f := .int "MORE_MARK" 7) rfl)
  g_LEAST_MORE := He.int_ok X G (c.fact 14 (f := .int "LEAST_MORE" 3) rfl)
  g_MOST_MORE := He.int_ok X G (c.fact 15 (f := .int "MOST_MORE" 66) rfl)
  g_LENGTH_BITS := He.int_ok X G (c.fact 16 (f := .int "LENGTH_BITS" 3) rfl)
  g_MORE_BITS := He.int_ok X G (c.fact 17 (f := .int "MORE_BITS" 6) rfl)
  g_is_table := He.glo_ok X G (c.fact 18 (f := .glo "is_table") rfl)
  g_alike_from := He.glo_ok X G (c.fact 19 (f := .glo "alike_from") rfl)
  g_put_table := He.glo_ok X G (c.fact 20 (f := .glo "put_table") rfl)
  g_items_read := He.glo_ok X G (c.fact 21 (f := .glo "items_read") rfl)
  g_take_table := He.glo_ok X G (c.fact 22 (f := .glo "take_table") rfl)
  g_MOST_BYTE := He.int_ok X G (c.fact 23 (f := .int "MOST_BYTE" 255) rfl)
  g_is_byte := He.glo_ok X G (c.fact 24 (f := .glo "is_byte") rfl)
  g_is_row := He.glo_ok X G (c.fact 25 (f := .glo "is_row") rfl)
  g_need_row := He.glo_ok X G (c.fact 26 (f := .glo "need_row") rfl)
  g_BYTE := He.int_ok X G (c.fact 27 (f := .int "BYTE" 8) rfl)
  g_MOST_SIZE := He.int_ok X G (c.fact 28 (f := .int "MOST_SIZE" 24) rfl)
  g_is_number := He.glo_ok X G (c.fact 29 (f := .glo "is_number") rfl)
  g_need_size := He.glo_ok X G (c.fact 30 (f := .glo "need_size") rfl)
  g_BitRow := He.glo_ok X G (c.fact 31 (f := .glo "BitRow") rfl)
  c_BitRow := He.cls_ok (c.fact 32 (f := .cls "BitRow") rfl)
  n_BitRow_full := He.noat_ok (c.fact 33 (f := .noat "BitRow" "full") rfl)
  n_BitRow_part := He.noat_ok (c.fact 34 (f := .noat "BitRow" "part") rfl)
  n_BitRow_filled := He.noat_ok (c.fact 35 (f := .noat "BitRow" "filled") rfl)
  m_BitRow___init__ := He.meth_ok (c.fact 36 (f := .meth "BitRow" "__init__") rfl)
  m_BitRow_put := He.meth_ok (c.fact 37 (f := .meth "BitRow" "put") rfl)
  m_BitRow_many := He.meth_ok (c.fact 38 (f := .meth "BitRow" "many") rfl)
  m_BitRow_row := He.meth_ok (c.fact 39 (f := .meth "BitRow" "row") rfl)
  k_BitRow := He.mkr_ok (c.fact 40 (f := .mkr "BitRow") rfl)
  g_BitReader := He.glo_ok X G (c.fact 41 (f := .glo "BitReader") rfl)
  c_BitReader := He.cls_ok (c.fact 42 (f := .cls "BitReader") rfl)
  n_BitReader_source := He.noat_ok (c.fact 43 (f := .noat "BitReader" "source") rfl)
  n_BitReader_taken := He.noat_ok (c.fact 44 (f := .noat "BitReader" "taken") rfl)
  m_BitReader___init__ := He.meth_ok (c.fact 45 (f := .meth "BitReader" "__init__") rfl)
  m_BitReader_left := He.meth_ok (c.fact 46 (f := .meth "BitReader" "left") rfl)
  m_BitReader_place := He.meth_ok (c.fact 47 (f := .meth "BitReader" "place") rfl)
  m_BitReader_go := He.meth_ok (c.fact 48 (f := .meth "BitReader" "go") rfl)
  m_BitReader_take := He.meth_ok (c.fact 49 (f := .meth "BitReader" "take") rfl)
  m_BitReader_at_end := He.meth_ok (c.fact 50 (f := .meth "BitReader" "at_end") rfl)
  k_BitReader := He.mkr_ok (c.fact 51 (f := .mkr "BitReader") rfl)
  g__law_cell_at := He.glo_ok X G (c.fact 52 (f := .glo "_law_cell_at") rfl)
  g__law_mixed := He.glo_ok X G (c.fact 53 (f := .glo "_law_mixed") rfl)
  g__law_table := He.glo_ok X G (c.fact 54 (f := .glo "_law_table") rfl)
  g__law_bits := He.glo_ok X G (c.fact 55 (f := .glo "_law_bits") rfl)
  g__law_number := He.glo_ok X G (c.fact 56 (f := .glo "_law_number") rfl)
  g__law_read := He.glo_ok X G (c.fact 57 (f := .glo "_law_read") rfl)
  g__law_whole := He.glo_ok X G (c.fact 58 (f := .glo "_law_whole") rfl)
  g__law_long_items := He.glo_ok X G (c.fact 59 (f := .glo "_law_long_items") rfl)
  g__law_taken := He.glo_ok X G (c.fact 60 (f := .glo "_law_taken") rfl)
  g_law := He.glo_ok X G (c.fact 61 (f := .glo "law") rfl)
  f_abs := He.free_ok X G (c.fact 62 (f := .free "abs") rfl)
  f_all := He.free_ok X G (c.fact 63 (f := .free "all") rfl)
  f_bool := He.free_ok X G (c.fact 64 (f := .free "bool") rfl)
  f_divmod := He.free_ok X G (c.fact 65 (f := .free "divmod") rfl)
  f_int := He.free_ok X G (c.fact 66 (f := .free "int") rfl)
  f_isinstance := He.free_ok X G (c.fact 67 (f := .free "isinstance") rfl)
  f_len := He.free_ok X G (c.fact 68 (f := .free "len") rfl)
  f_list := He.free_ok X G (c.fact 69 (f := .free "list") rfl)
  f_range := He.free_ok X G (c.fact 70 (f := .free "range") rfl)
  f_ValueError := He.free_ok X G (c.fact 71 (f := .free "ValueError") rfl)
  d__law_mixed := c.def_ 22 (d := d__law_mixed) rfl
  d__law_cell_at := c.def_ 21 (d := d__law_cell_at) rfl
  d__law_table := c.def_ 23 (d := d__law_table) rfl
  d_BitRow___init__ := c.def_ 11 (d := d_BitRow___init__) rfl
  d_is_table := c.def_ 1 (d := d_is_table) rfl
  d_alike_from := c.def_ 2 (d := d_alike_from) rfl
  d_is_number := c.def_ 9 (d := d_is_number) rfl
  d_need_size := c.def_ 10 (d := d_need_size) rfl
  d_BitRow_put := c.def_ 12 (d := d_BitRow_put) rfl
  d_put_table := c.def_ 3 (d := d_put_table) rfl
  d__law_number := c.def_ 25 (d := d__law_number) rfl
  d__law_read := c.def_ 26 (d := d__law_read) rfl
  d__law_bits := c.def_ 24 (d := d__law_bits) rfl
  d_BitRow_row := c.def_ 14 (d := d_BitRow_row) rfl
  d_BitRow_many := c.def_ 13 (d := d_BitRow_many) rfl
  d_is_byte := c.def_ 6 (d := d_is_byte) rfl
  d_is_row := c.def_ 7 (d := d_is_row) rfl
  d_need_row := c.def_ 8 (d := d_need_row) rfl
  d_BitReader___init__ := c.def_ 15 (d := d_BitReader___init__) rfl
  d_BitReader_left := c.def_ 16 (d := d_BitReader_left) rfl
  d_BitReader_take := c.def_ 19 (d := d_BitReader_take) rfl
  d_BitReader_place := c.def_ 17 (d := d_BitReader_place) rfl
  d_items_read := c.def_ 4 (d := d_items_read) rfl
  d_BitReader_go := c.def_ 18 (d := d_BitReader_go) rfl
  d_take_table := c.def_ 5 (d := d_take_table) rfl
  d__law_whole := c.def_ 27 (d := d__law_whole) rfl
  d__law_taken := c.def_ 29 (d := d__law_taken) rfl
  d__law_long_items := c.def_ 28 (d := d__law_long_items) rfl
  d_law := c.def_ 30 (d := d_law) rfl
theorem of_KBitRow {K : PySem.W.Frag} {mg : Str → Option Value} (T : Tx K mg) : KBitRow K := ⟨T.c_BitRow, T.n_BitRow_full, T.n_BitRow_part, T.n_BitRow_filled⟩
theorem of_KBitReader {K : PySem.W.Frag} {mg : Str → Option Value} (T : Tx K mg) : KBitReader K := ⟨T.c_BitReader, T.n_BitReader_source, T.n_BitReader_taken⟩
abbrev N__law_mixed : List Str := ["_law_cell", "_law_k"]
theorem sc__law_mixed : FnScope N__law_mixed ["_law_cell", "_law_k"] (defScope s__law_mixed) := ⟨rfl, rfl, rfl, by decide +kernel, rfl, by decide +kernel, by decide +kernel⟩
theorem wk__law_mixed {P : Program} {w : World} {K : PySem.W.Frag} {mg : Str → Option Value} {base : Heap} (T : Tx K mg)  {f : Addr} {cdv : Value} {A : Around} {outer : List Env} {s : Shared} {H : Hp} {E : XK}
    (hr : Room 0 (A.deeper (envOfC "_law_mixed" (defScope s__law_mixed) s.heap.objs.size f cdv))) :
    PSs (cxOf (L2.CX P w) P w K mg base N__law_mixed "_law_mixed" (defScope s__law_mixed) f cdv A outer s H E) (defBody s__law_mixed) (t__law_mixed K (fun c d _ H2 => E c d H2)) := by
  have hu1 := hu_of hr
  have hu64 := hr.units
  have tk : Takes (cxOf (L2.CX P w) P w K mg base N__law_mixed "_law_mixed" (defScope s__law_mixed) f cdv A outer s H E) (fun c d _ H2 => E c d H2) := takes_of rfl rfl rfl rfl
  exact (pss_one (ps_ret (pe_op op_modU (pe_op op_mulU (pe_op op_modU (pe_op op_mulU (pe_op op_addU (pe_op op_addU (pv 0) (pe_op op_mulU (pe_op op_mulU (pe_int) (pv 1)) (pv 1))) (pe_int)) (pe_int)) (pe_int)) (pe_int)) (pe_int))))
theorem fn__law_mixed {P : Program} {w : World} {K : PySem.W.Frag} {mg : Str → Option Value} {base : Heap} (T : Tx K mg) {f : Addr} {fd : FuncData} (F : FunD K d__law_mixed.name d__law_mixed.qual d__law_mixed.params d__law_mixed.body d__law_mixed.scope (d__law_mixed.dvs K) (d__law_mixed.kws K) f fd) :
    FnOk P w K mg base (L2.CX P w) 1 f fd ["_law_cell", "_law_k"] (sp__law_mixed K) :=
  F.ok sc__law_mixed (fun vs H Q E h => len__law_mixed h) (fun cdv A outer s H vs Q E hr h => ⟨t__law_mixed K (fun c d _ H2 => E c d H2), wk__law_mixed T  hr, rd__law_mixed  h⟩)
theorem ok__law_mixed_2 {P : Program} {w : World} {K : PySem.W.Frag} {mg : Str → Option Value} {base : Heap} (T : Tx K mg) : DOk P w K mg base 1 (He.fAd K ("_law_mixed", none)) ["_law_cell", "_law_k"] [] (sp__law_mixed K) := by
  obtain ⟨fd, F⟩ := T.d__law_mixed
  exact ⟨fd, [], .nil, FunD.bindsN F fun _ _ _ _ _ _ us hl => match us, hl with | [_, _], _ => rfl, fn__law_mixed T F, F.kp⟩
abbrev N__law_cell_at : List Str := ["_law_script", "_law_k"]
theorem sc__law_cell_at : FnScope N__law_cell_at ["_law_script", "_law_k"] (defScope s__law_cell_at) := ⟨rfl, rfl, rfl, by decide +kernel, rfl, by decide +kernel, by decide +kernel⟩
theorem wk__law_cell_at {P : Program} {w : World} {K : PySem.W.Frag} {mg : Str → Option Value} {base : Heap} (T : Tx K mg)  {f : Addr} {cdv : Value} {A : Around} {outer : List Env} {s : Shared} {H : Hp} {E : XK}
    (hr : Room 0 (A.deeper (envOfC "_law_cell_at" (defScope s__law_cell_at) s.heap.objs.size f cdv))) :
    PSs (cxOf (L2.CX P w) P w K mg base N__law_cell_at "_law_cell_at" (defScope s__law_cell_at) f cdv A outer s H E) (defBody s__law_cell_at) (t__law_cell_at K (fun c d _ H2 => E c d H2)) := by
  have hu1 := hu_of hr
  have hu64 := hr.units
  have tk : Takes (cxOf (L2.CX P w) P w K mg base N__law_cell_at "_law_cell_at" (defScope s__law_cell_at) f cdv A outer s H E) (fun c d _ H2 => E c d H2) := takes_of rfl rfl rfl rfl
  exact (pss_cons (ps_if (pt_cmpR op_ltU (pv 1) (pe_callB cr_lenK (by rfl) T.f_len bb_len (pa_cons (pv 0) pa_nil)) (nomark _)) (pss_one (ps_ret (pe_ix ix_seq (pv 0) (pv 1) (fun _ _ => rfl)))) pss_nil)
    (pss_one (ps_ret (pe_int))))
theorem fn__law_cell_at {P : Program} {w : World} {K : PySem.W.Frag} {mg : Str → Option Value} {base : Heap} (T : Tx K mg) {f : Addr} {fd : FuncData} (F : FunD K d__law_cell_at.name d__law_cell_at.qual d__law_cell_at.params d__law_cell_at.body d__law_cell_at.scope (d__law_cell_at.dvs K) (d__law_cell_at.kws K) f fd) :
    FnOk P w K mg base (L2.CX P w) 1 f fd ["_law_script", "_law_k"] (sp__law_cell_at K) :=
  F.ok sc__law_cell_at (fun vs H Q E h => len__law_cell_at h) (fun cdv A outer s H vs Q E hr h => ⟨t__law_cell_at K (fun c d _ H2 => E c d H2), wk__law_cell_at T  hr, rd__law_cell_at  h⟩)
theorem ok__law_cell_at_2 {P : Program} {w : World} {K : PySem.W.Frag} {mg : Str → Option Value} {base : Heap} (T : Tx K mg) : DOk P w K mg base 1 (He.fAd K ("_law_cell_at", none)) ["_law_script", "_law_k"] [] (sp__law_cell_at K) := by
  obtain ⟨fd, F⟩ := T.d__law_cell_at
  exact ⟨fd, [], .nil, FunD.bindsN F fun _ _ _ _ _ _ us hl => match us, hl with | [_, _], _ => rfl, fn__law_cell_at T F, F.kp⟩
abbrev N__law_table : List Str := ["_law_script", "_law_first", "_law_found", "_law_k", "_law_number_here", "_law_more", "_law_size", "_law_length"]
theorem sc__law_table : FnScope N__law_table ["_law_script", "_law_first"] (defScope s__law_table) := ⟨rfl, rfl, rfl, by decide +kernel, rfl, by decide +kernel, by decide +kernel⟩
theorem wk__law_table {P : Program} {w : World} {K : PySem.W.Frag} {mg : Str → Option Value} {base : Heap} (T : Tx K mg) (O0 : DOk P w K mg base 1 (He.fAd K ("_law_mixed", none)) ["_law_cell", "_law_k"] [] (sp__law_mixed K)) (O1 : DOk P w K mg base 1 (He.fAd K ("_law_cell_at", none)) ["_law_script", "_law_k"] [] (sp__law_cell_at K)) {f : Addr} {cdv : Value} {A : Around} {outer : List Env} {s : Shared} {H : Hp} {E : XK}
    (hr : Room 1 (A.deeper (envOfC "_law_table" (defScope s__law_table) s.heap.objs.size f cdv))) :
    PSs (cxOf (L2.CX P w) P w K mg base N__law_table "_law_table" (defScope s__law_table) f cdv A outer s H E) (defBody s__law_table) (t__law_table K (fun c d _ H2 => E c d H2)) := by
  obtain ⟨fd0, ds0, v0, b0, G0, q0⟩ := O0
  obtain ⟨fd1, ds1, v1, b1, G1, q1⟩ := O1
  have hu1 := hu_of hr
  have hu64 := hr.units
  have tk : Takes (cxOf (L2.CX P w) P w K mg base N__law_table "_law_table" (defScope s__law_table) f cdv A outer s H E) (fun c d _ H2 => E c d H2) := takes_of rfl rfl rfl rfl
  exact (pss_cons (ps_set (i := 2) sc__law_table.nd rfl (Or.inl rfl) (pe_lst pa_nil))
    (pss_cons (ps_set (i := 3) sc__law_table.nd rfl (Or.inl rfl) (pe_int))
    (pss_cons (ps_while (passes_of rfl) (pt_cmpR op_ltU (pe_callB cr_lenK (by rfl) T.f_len bb_len (pa_cons (pv 2) pa_nil)) (pe_int) (nomark _)) (pss_cons (ps_set (i := 4) sc__law_table.nd rfl (Or.inl rfl) (pe_cl G0 (hr.mono (by decide)) rfl T.g__law_mixed q0 b0 v0 tk (pa_cons (pe_cl G1 (hr.mono (by decide)) rfl T.g__law_cell_at q1 b1 v1 tk (pa_cons (pv 0) (pa_cons (pe_op op_addU (pv 1) (pe_op op_modU (pv 3) (pe_int))) pa_nil))) (pa_cons (pv 3) pa_nil))))
    (pss_cons (ps_set (i := 5) sc__law_table.nd rfl (Or.inl rfl) (pe_op op_divU (pv 4) (pe_int)))
    (pss_cons (ps_set (i := 6) sc__law_table.nd rfl (Or.inl rfl) (pe_ix ix_seq (pe_lst (pa_cons (pe_int) (pa_cons (pe_int) (pa_cons (pe_int) (pa_cons (pe_int) (pa_cons (pe_op op_addU (pe_int) (pe_op op_modU (pv 5) (pe_int))) (pa_cons (pe_op op_addU (pe_int) (pe_op op_modU (pv 5) (pe_int))) (pa_cons (pe_op op_addU (pe_int) (pe_op op_modU (pv 5) (pe_int))) (pa_cons (pe_op op_addU (pe_int) (pe_op op_modU (pv 5) (pe_int))) pa_nil))))))))) (pe_op op_modU (pv 4) (pe_int)) (fun _ _ => rfl)))
    (pss_cons (ps_set (i := 7) sc__law_table.nd rfl (Or.inl rfl) (pe_ix ix_seq (pe_lst (pa_cons (pe_int) (pa_cons (pe_op op_modU (pe_op op_divU (pv 4) (pe_int)) (pe_int)) (pa_cons (pe_op op_modU (pe_op op_divU (pv 4) (pe_int)) (pe_int)) (pa_cons (pe_int) pa_nil))))) (pe_op op_modU (pe_op op_divU (pv 4) (pe_int)) (pe_int)) (fun _ _ => rfl)))
    (pss_cons (ps_aug (i := 2) sc__law_table.nd rfl (Or.inl rfl) (pe_op op_mulU (pe_lst (pa_cons (pv 7) pa_nil)) (pv 6)) ip_addU)
    (pss_one (ps_aug (i := 3) sc__law_table.nd rfl (Or.inl rfl) (pe_int) ip_addU))))))))
    (pss_one (ps_ret (pe_slice sl_K (pv 2) po_none (po_some (pe_int))))))))
theorem fn__law_table {P : Program} {w : World} {K : PySem.W.Frag} {mg : Str → Option Value} {base : Heap} (T : Tx K mg) {f : Addr} {fd : FuncData} (F : FunD K d__law_table.name d__law_table.qual d__law_table.params d__law_table.body d__law_table.scope (d__law_table.dvs K) (d__law_table.kws K) f fd) :
    FnOk P w K mg base (L2.CX P w) 2 f fd ["_law_script", "_law_first"] (sp__law_table K) :=
  F.ok sc__law_table (fun vs H Q E h => len__law_table h) (fun cdv A outer s H vs Q E hr h => ⟨t__law_table K (fun c d _ H2 => E c d H2), wk__law_table T (ok__law_mixed_2 T) (ok__law_cell_at_2 T) hr, rd__law_table  h⟩)
theorem ok__law_table_2 {P : Program} {w : World} {K : PySem.W.Frag} {mg : Str → Option Value} {base : Heap} (T : Tx K mg) : DOk P w K mg base 2 (He.fAd K ("_law_table", none)) ["_law_script", "_law_first"] [] (sp__law_table K) := by
  obtain ⟨fd, F⟩ := T.d__law_table
  exact ⟨fd, [], .nil, FunD.bindsN F fun _ _ _ _ _ _ us hl => match us, hl with | [_, _], _ => rfl, fn__law_table T F, F.kp⟩
abbrev N_BitRow___init__ : List Str := ["self"]
theorem sc_BitRow___init__ : FnScope N_BitRow___init__ ["self"] (defScope s_BitRow___init__) := ⟨rfl, rfl, rfl, by decide +kernel, rfl, by decide +kernel, by decide +kernel⟩
theorem wk_BitRow___init__ {P : Program} {w : World} {K : PySem.W.Frag} {mg : Str → Option Value} {base : Heap} (T : Tx K mg)  {f : Addr} {cdv : Value} {A : Around} {outer : List Env} {s : Shared} {H : Hp} {E : XK}
    (hr : Room 0 (A.deeper (envOfC "BitRow.__init__" (defScope s_BitRow___init__) s.heap.objs.size f cdv))) :
    PSs (cxOf (L2.CX P w) P w K mg base N_BitRow___init__ "BitRow.__init__" (defScope s_BitRow___init__) f cdv A outer s H E) (defBody s_BitRow___init__) (t_BitRow___init__ K (fun c d _ H2 => E c d H2)) := by
  have hu1 := hu_of hr
  have hu64 := hr.units
  have tk : Takes (cxOf (L2.CX P w) P w K mg base N_BitRow___init__ "BitRow.__init__" (defScope s_BitRow___init__) f cdv A outer s H E) (fun c d _ H2 => E c d H2) := takes_of rfl rfl rfl rfl
  exact (pss_cons (ps_fld (pv 0) (pe_lst pa_nil) rfl)
    (pss_cons (ps_fld (pv 0) (pe_int) rfl)
    (pss_one (ps_fld (pv 0) (pe_int) rfl))))
theorem fn_BitRow___init__ {P : Program} {w : World} {K : PySem.W.Frag} {mg : Str → Option Value} {base : Heap} (T : Tx K mg) {f : Addr} {fd : FuncData} (F : FunD K d_BitRow___init__.name d_BitRow___init__.qual d_BitRow___init__.params d_BitRow___init__.body d_BitRow___init__.scope (d_BitRow___init__.dvs K) (d_BitRow___init__.kws K) f fd) :
    FnOk P w K mg base (L2.CX P w) 1 f fd ["self"] (sp_BitRow___init__ K) :=
  F.ok sc_BitRow___init__ (fun vs H Q E h => len_BitRow___init__ h) (fun cdv A outer s H vs Q E hr h => ⟨t_BitRow___init__ K (fun c d _ H2 => E c d H2), wk_BitRow___init__ T  hr, rd_BitRow___init__ (of_KBitRow T) h⟩)
theorem ok_BitRow___init___1 {P : Program} {w : World} {K : PySem.W.Frag} {mg : Str → Option Value} {base : Heap} (T : Tx K mg) : DOk P w K mg base 1 (He.fAd K ("BitRow", some "__init__")) ["self"] [] (sp_BitRow___init__ K) := by
  obtain ⟨fd, F⟩ := T.d_BitRow___init__
  exact ⟨fd, [], .nil, FunD.bindsN F fun _ _ _ _ _ _ us hl => match us, hl with | [_], _ => rfl, fn_BitRow___init__ T F, F.kp⟩
abbrev N_is_table : List Str := ["thing", "one"]
theorem sc_is_table : FnScope N_is_table ["thing"] (defScope s_is_table) := ⟨rfl, rfl, rfl, by decide +kernel, rfl, by decide +kernel, by decide +kernel⟩
theorem wk_is_table {P : Program} {w : World} {K : PySem.W.Frag} {mg : Str → Option Value} {base : Heap} (T : Tx K mg)  {f : Addr} {cdv : Value} {A : Around} {outer : List Env} {s : Shared} {H : Hp} {E : XK}
    (hr : Room 0 (A.deeper (envOfC "is_table" (defScope s_is_table) s.heap.objs.size f cdv))) :
    PSs (cxOf (L2.CX P w) P w K mg base N_is_table "is_table" (defScope s_is_table) f cdv A outer s H E) (defBody s_is_table) (t_is_table K (fun c d _ H2 => E c d H2)) := by
  have hu1 := hu_of hr
  have hu64 := hr.units
  have tk : Takes (cxOf (L2.CX P w) P w K mg base N_is_table "is_table" (defScope s_is_table) f cdv A outer s H E) (fun c d _ H2 => E c d H2) := takes_of rfl rfl rfl rfl
  exact (pss_cons (ps_if (PW.pt (pw_or (pt_not (pt_val (pe_callB call_isi (by rfl) T.f_isinstance bb_isinstance (pa_cons (pv 0) (pa_cons (pe_bty rfl T.f_list bt_list) pa_nil))))) (pw_or1 (pt_cmpR (op_neU hu64) (pe_callB cr_lenK (by rfl) T.f_len bb_len (pa_cons (pv 0) pa_nil)) (pe_gint rfl T.g_MANY) (nomark _))))) (pss_one (ps_ret (pe_bl))) pss_nil)
    (pss_one (ps_ret (pe_callB (cr_all rfl) (by rfl) T.f_all bb_all (pa_cons (pe_lc (own := [("one", 1)]) rfl sc_is_table.nd (pi_list (pv 0)) (blkOk_by (own := [("one", 1)]) (N := N_is_table) (sc := defScope s_is_table) (by decide +kernel)) (fun _ _ _ _ _ => (pg_name (i := 1) sc_is_table.nd rfl (Or.inl rfl))) (fun _ _ _ _ _ => pts_nil) (fun _ _ _ _ _ => ((pe_and (pe_callB call_isi (by rfl) T.f_isinstance bb_isinstance (pa_cons (pv 1) (pa_cons (pe_bty rfl T.f_int bt_int) pa_nil))) (pe_and (pe_not (pe_callB call_isi (by rfl) T.f_isinstance bb_isinstance (pa_cons (pv 1) (pa_cons (pe_bty rfl T.f_bool bt_bool) pa_nil)))) (pe_one (pe_chain op_leU op_leU (pe_int) (pv 1) (pe_gint rfl T.g_MOST_LENGTH)))))))) pa_nil)))))
theorem fn_is_table {P : Program} {w : World} {K : PySem.W.Frag} {mg : Str → Option Value} {base : Heap} (T : Tx K mg) {f : Addr} {fd : FuncData} (F : FunD K d_is_table.name d_is_table.qual d_is_table.params d_is_table.body d_is_table.scope (d_is_table.dvs K) (d_is_table.kws K) f fd) :
    FnOk P w K mg base (L2.CX P w) 1 f fd ["thing"] (sp_is_table K) :=
  F.ok sc_is_table (fun vs H Q E h => len_is_table h) (fun cdv A outer s H vs Q E hr h => ⟨t_is_table K (fun c d _ H2 => E c d H2), wk_is_table T  hr, rd_is_table  h⟩)
theorem ok_is_table_1 {P : Program} {w : World} {K : PySem.W.Frag} {mg : Str → Option Value} {base : Heap} (T : Tx K mg) : DOk P w K mg base 1 (He.fAd K ("is_table", none)) ["thing"] [] (sp_is_table K) := by
  obtain ⟨fd, F⟩ := T.d_is_table
  exact ⟨fd, [], .nil, FunD.bindsN F fun _ _ _ _ _ _ us hl => match us, hl with | [_], _ => rfl, fn_is_table T F, F.kp⟩
abbrev N_alike_from : List Str := ["lengths", "place", "length", "found"]
theorem sc_alike_from : FnScope N_alike_from ["lengths", "place", "length"] (defScope s_alike_from) := ⟨rfl, rfl, rfl, by decide +kernel, rfl, by decide +kernel, by decide +kernel⟩
theorem wk_alike_from {P : Program} {w : World} {K : PySem.W.Frag} {mg : Str → Option Value} {base : Heap} (T : Tx K mg)  {f : Addr} {cdv : Value} {A : Around} {outer : List Env} {s : Shared} {H : Hp} {E : XK}
    (hr : Room 0 (A.deeper (envOfC "alike_from" (defScope s_alike_from) s.heap.objs.size f cdv))) :
    PSs (cxOf (L2.CX P w) P w K mg base N_alike_from "alike_from" (defScope s_alike_from) f cdv A outer s H E) (defBody s_alike_from) (t_alike_from K (fun c d _ H2 => E c d H2)) := by
  have hu1 := hu_of hr
  have hu64 := hr.units
  have tk : Takes (cxOf (L2.CX P w) P w K mg base N_alike_from "alike_from" (defScope s_alike_from) f cdv A outer s H E) (fun c d _ H2 => E c d H2) := takes_of rfl rfl rfl rfl
  exact (pss_cons (ps_set (i := 3) sc_alike_from.nd rfl (Or.inl rfl) (pe_int))
    (pss_cons (ps_while (passes_of rfl) (PW.pt (pw_and (pt_cmpR op_ltU (pv 3) (pe_gint rfl T.g_MOST_MORE) (nomark _)) (pw_and (pt_cmpR op_ltU (pe_op op_addU (pv 1) (pv 3)) (pe_gint rfl T.g_MANY) (nomark _)) (pw_and1 (pt_cmpR (op_eqU hu64) (pe_ix ix_seq (pv 0) (pe_op op_addU (pv 1) (pv 3)) (fun _ _ => rfl)) (pv 2) (nomark _)))))) (pss_one (ps_aug (i := 3) sc_alike_from.nd rfl (Or.inl rfl) (pe_int) ip_addU)))
    (pss_one (ps_ret (pv 3)))))
theorem fn_alike_from {P : Program} {w : World} {K : PySem.W.Frag} {mg : Str → Option Value} {base : Heap} (T : Tx K mg) {f : Addr} {fd : FuncData} (F : FunD K d_alike_from.name d_alike_from.qual d_alike_from.params d_alike_from.body d_alike_from.scope (d_alike_from.dvs K) (d_alike_from.kws K) f fd) :
    FnOk P w K mg base (L2.CX P w) 1 f fd ["lengths", "place", "length"] (sp_alike_from K) :=
  F.ok sc_alike_from (fun vs H Q E h => len_alike_from h) (fun cdv A outer s H vs Q E hr h => ⟨t_alike_from K (fun c d _ H2 => E c d H2), wk_alike_from T  hr, rd_alike_from  h⟩)
theorem ok_alike_from_3 {P : Program} {w : World} {K : PySem.W.Frag} {mg : Str → Option Value} {base : Heap} (T : Tx K mg) : DOk P w K mg base 1 (He.fAd K ("alike_from", none)) ["lengths", "place", "length"] [] (sp_alike_from K) := by
  obtain ⟨fd, F⟩ := T.d_alike_from
  exact ⟨fd, [], .nil, FunD.bindsN F fun _ _ _ _ _ _ us hl => match us, hl with | [_, _, _], _ => rfl, fn_alike_from T F, F.kp⟩
abbrev N_is_number : List Str := ["thing"]
theorem sc_is_number : FnScope N_is_number ["thing"] (defScope s_is_number) := ⟨rfl, rfl, rfl, by decide +kernel, rfl, by decide +kernel, by decide +kernel⟩
theorem wk_is_number {P : Program} {w : World} {K : PySem.W.Frag} {mg : Str → Option Value} {base : Heap} (T : Tx K mg)  {f : Addr} {cdv : Value} {A : Around} {outer : List Env} {s : Shared} {H : Hp} {E : XK}
    (hr : Room 0 (A.deeper (envOfC "is_number" (defScope s_is_number) s.heap.objs.size f cdv))) :
    PSs (cxOf (L2.CX P w) P w K mg base N_is_number "is_number" (defScope s_is_number) f cdv A outer s H E) (defBody s_is_number) (t_is_number K (fun c d _ H2 => E c d H2)) := by
  have hu1 := hu_of hr
  have hu64 := hr.units
  have tk : Takes (cxOf (L2.CX P w) P w K mg base N_is_number "is_number" (defScope s_is_number) f cdv A outer s H E) (fun c d _ H2 => E c d H2) := takes_of rfl rfl rfl rfl
  exact (pss_one (ps_ret ((pe_and (pe_callB call_isi (by rfl) T.f_isinstance bb_isinstance (pa_cons (pv 0) (pa_cons (pe_bty rfl T.f_int bt_int) pa_nil))) (pe_one (pe_not (pe_callB call_isi (by rfl) T.f_isinstance bb_isinstance (pa_cons (pv 0) (pa_cons (pe_bty rfl T.f_bool bt_bool) pa_nil)))))))))
theorem fn_is_number {P : Program} {w : World} {K : PySem.W.Frag} {mg : Str → Option Value} {base : Heap} (T : Tx K mg) {f : Addr} {fd : FuncData} (F : FunD K d_is_number.name d_is_number.qual d_is_number.params d_is_number.body d_is_number.scope (d_is_number.dvs K) (d_is_number.kws K) f fd) :
    FnOk P w K mg base (L2.CX P w) 1 f fd ["thing"] (sp_is_number K) :=
  F.ok sc_is_number (fun vs H Q E h => len_is_number h) (fun cdv A outer s H vs Q E hr h => ⟨t_is_number K (fun c d _ H2 => E c d H2), wk_is_number T  hr, rd_is_number  h⟩)
theorem ok_is_number_1 {P : Program} {w : World} {K : PySem.W.Frag} {mg : Str → Option Value} {base : Heap} (T : Tx K mg) : DOk P w K mg base 1 (He.fAd K ("is_number", none)) ["thing"] [] (sp_is_number K) := by
  obtain ⟨fd, F⟩ := T.d_is_number
  exact ⟨fd, [], .nil, FunD.bindsN F fun _ _ _ _ _ _ us hl => match us, hl with | [_], _ => rfl, fn_is_number T F, F.kp⟩
abbrev N_need_size : List Str := ["size"]
theorem sc_need_size : FnScope N_need_size ["size"] (defScope s_need_size) := ⟨rfl, rfl, rfl, by decide +kernel, rfl, by decide +kernel, by decide +kernel⟩
theorem wk_need_size {P : Program} {w : World} {K : PySem.W.Frag} {mg : Str → Option Value} {base : Heap} (T : Tx K mg) (O0 : DOk P w K mg base 1 (He.fAd K ("is_number", none)) ["thing"] [] (sp_is_number K)) {f : Addr} {cdv : Value} {A : Around} {outer : List Env} {s : Shared} {H : Hp} {E : XK}
    (hr : Room 1 (A.deeper (envOfC "need_size" (defScope s_need_size) s.heap.objs.size f cdv))) :
    PSs (cxOf (L2.CX P w) P w K mg base N_need_size "need_size" (defScope s_need_size) f cdv A outer s H E) (defBody s_need_size) (t_need_size K (fun c d _ H2 => E c d H2)) := by
  obtain ⟨fd0, ds0, v0, b0, G0, q0⟩ := O0
  have hu1 := hu_of hr
  have hu64 := hr.units
  have tk : Takes (cxOf (L2.CX P w) P w K mg base N_need_size "need_size" (defScope s_need_size) f cdv A outer s H E) (fun c d _ H2 => E c d H2) := takes_of rfl rfl rfl rfl
  exact (pss_one (ps_if (PW.pt (pw_or (pt_not (pt_val (pe_cl G0 (hr.mono (by decide)) rfl T.g_is_number q0 b0 v0 tk (pa_cons (pv 0) pa_nil)))) (pw_or1 (pt_not (pt_chain op_leU op_leU (pe_int) (pv 0) (pe_gint rfl T.g_MOST_SIZE)))))) (pss_one (ps_rz rfl tk T.x_BadBits T.g_BadBits rfl)) pss_nil))
theorem fn_need_size {P : Program} {w : World} {K : PySem.W.Frag} {mg : Str → Option Value} {base : Heap} (T : Tx K mg) {f : Addr} {fd : FuncData} (F : FunD K d_need_size.name d_need_size.qual d_need_size.params d_need_size.body d_need_size.scope (d_need_size.dvs K) (d_need_size.kws K) f fd) :
    FnOk P w K mg base (L2.CX P w) 2 f fd ["size"] (sp_need_size K) :=
  F.ok sc_need_size (fun vs H Q E h => len_need_size h) (fun cdv A outer s H vs Q E hr h => ⟨t_need_size K (fun c d _ H2 => E c d H2), wk_need_size T (ok_is_number_1 T) hr, rd_need_size  h⟩)
theorem ok_need_size_1 {P : Program} {w : World} {K : PySem.W.Frag} {mg : Str → Option Value} {base : Heap} (T : Tx K mg) : DOk P w K mg base 2 (He.fAd K ("need_size", none)) ["size"] [] (sp_need_size K) := by
  obtain ⟨fd, F⟩ := T.d_need_size
  exact ⟨fd, [], .nil, FunD.bindsN F fun _ _ _ _ _ _ us hl => match us, hl with | [_], _ => rfl, fn_need_size T F, F.kp⟩
abbrev N_BitRow_put : List Str := ["self", "number", "size"]
theorem sc_BitRow_put : FnScope N_BitRow_put ["self", "number", "size"] (defScope s_BitRow_put) := ⟨rfl, rfl, rfl, by decide +kernel, rfl, by decide +kernel, by decide +kernel⟩
theorem wk_BitRow_put {P : Program} {w : World} {K : PySem.W.Frag} {mg : Str → Option Value} {base : Heap} (T : Tx K mg) (O0 : DOk P w K mg base 2 (He.fAd K ("need_size", none)) ["size"] [] (sp_need_size K)) (O1 : DOk P w K mg base 1 (He.fAd K ("is_number", none)) ["thing"] [] (sp_is_number K)) {f : Addr} {cdv : Value} {A : Around} {outer : List Env} {s : Shared} {H : Hp} {E : XK}
    (hr : Room 2 (A.deeper (envOfC "BitRow.put" (defScope s_BitRow_put) s.heap.objs.size f cdv))) :
    PSs (cxOf (L2.CX P w) P w K mg base N_BitRow_put "BitRow.put" (defScope s_BitRow_put) f cdv A outer s H E) (defBody s_BitRow_put) (t_BitRow_put K (fun c d _ H2 => E c d H2)) := by
  obtain ⟨fd0, ds0, v0, b0, G0, q0⟩ := O0
  obtain ⟨fd1, ds1, v1, b1, G1, q1⟩ := O1
  have hu1 := hu_of hr
  have hu64 := hr.units
  have tk : Takes (cxOf (L2.CX P w) P w K mg base N_BitRow_put "BitRow.put" (defScope s_BitRow_put) f cdv A outer s H E) (fun c d _ H2 => E c d H2) := takes_of rfl rfl rfl rfl
  exact (pss_cons (ps_expr (pe_cl G0 (hr.mono (by decide)) rfl T.g_need_size q0 b0 v0 tk (pa_cons (pv 2) pa_nil)))
    (pss_cons (ps_if (PW.pt (pw_or (pt_not (pt_val (pe_cl G1 (hr.mono (by decide)) rfl T.g_is_number q1 b1 v1 tk (pa_cons (pv 1) pa_nil)))) (pw_or (pt_cmpR op_ltU (pv 1) (pe_int) (nomark _)) (pw_or1 (pt_cmpR op_gtU (pe_op op_shrU (pv 1) (pv 2)) (pe_int) (nomark _)))))) (pss_one (ps_rz rfl tk T.x_BadBits T.g_BadBits rfl)) pss_nil)
    (pss_cons (ps_fld (pv 0) (pe_op op_orU (pe_op op_shlU (pe_fld (pv 0) rfl) (pv 2)) (pv 1)) rfl)
    (pss_cons (ps_fldaug (pv 0) (pv 2) in_add)
    (pss_one (ps_while (passes_of rfl) (pt_cmpR op_geU (pe_fld (pv 0) rfl) (pe_gint rfl T.g_BYTE) (nomark _)) (pss_cons (ps_fldaug (pv 0) (pe_gint rfl T.g_BYTE) in_sub)
    (pss_cons (ps_expr (pe_bm PySem.F.plainAttrs_list PySem.F.slot_list_append PySem.F.type_list_append mt_append (pe_fld (pv 0) rfl) (pa_cons (pe_op op_shrU (pe_fld (pv 0) rfl) (pe_fld (pv 0) rfl)) pa_nil)))
    (pss_one (ps_fld (pv 0) (pe_op op_andU (pe_fld (pv 0) rfl) (pe_op op_subU (pe_op op_shlU (pe_int) (pe_fld (pv 0) rfl)) (pe_int))) rfl))))))))))
theorem fn_BitRow_put {P : Program} {w : World} {K : PySem.W.Frag} {mg : Str → Option Value} {base : Heap} (T : Tx K mg) {f : Addr} {fd : FuncData} (F : FunD K d_BitRow_put.name d_BitRow_put.qual d_BitRow_put.params d_BitRow_put.body d_BitRow_put.scope (d_BitRow_put.dvs K) (d_BitRow_put.kws K) f fd) :
    FnOk P w K mg base (L2.CX P w) 3 f fd ["self", "number", "size"] (sp_BitRow_put K) :=
  F.ok sc_BitRow_put (fun vs H Q E h => len_BitRow_put h) (fun cdv A outer s H vs Q E hr h => ⟨t_BitRow_put K (fun c d _ H2 => E c d H2), wk_BitRow_put T (ok_need_size_1 T) (ok_is_number_1 T) hr, rd_BitRow_put (of_KBitRow T) h⟩)
theorem ok_BitRow_put_3 {P : Program} {w : World} {K : PySem.W.Frag} {mg : Str → Option Value} {base : Heap} (T : Tx K mg) : DOk P w K mg base 3 (He.fAd K ("BitRow", some "put")) ["self", "number", "size"] [] (sp_BitRow_put K) := by
  obtain ⟨fd, F⟩ := T.d_BitRow_put
  exact ⟨fd, [], .nil, FunD.bindsN F fun _ _ _ _ _ _ us hl => match us, hl with | [_, _, _], _ => rfl, fn_BitRow_put T F, F.kp⟩
abbrev N_put_table : List Str := ["bits", "lengths", "last", "place", "more"]
theorem sc_put_table : FnScope N_put_table ["bits", "lengths"] (defScope s_put_table) := ⟨rfl, rfl, rfl, by decide +kernel, rfl, by decide +kernel, by decide +kernel⟩
theorem wk_put_table {P : Program} {w : World} {K : PySem.W.Frag} {mg : Str → Option Value} {base : Heap} (T : Tx K mg) (O0 : DOk P w K mg base 1 (He.fAd K ("is_table", none)) ["thing"] [] (sp_is_table K)) (O1 : DOk P w K mg base 1 (He.fAd K ("alike_from", none)) ["lengths", "place", "length"] [] (sp_alike_from K)) (O2 : DOk P w K mg base 3 (He.fAd K ("BitRow", some "put")) ["self", "number", "size"] [] (sp_BitRow_put K)) {f : Addr} {cdv : Value} {A : Around} {outer : List Env} {s : Shared} {H : Hp} {E : XK}
    (hr : Room 3 (A.deeper (envOfC "put_table" (defScope s_put_table) s.heap.objs.size f cdv))) :
    PSs (cxOf (L2.CX P w) P w K mg base N_put_table "put_table" (defScope s_put_table) f cdv A outer s H E) (defBody s_put_table) (t_put_table K (fun c d _ H2 => E c d H2)) := by
  obtain ⟨fd0, ds0, v0, b0, G0, q0⟩ := O0
  obtain ⟨fd1, ds1, v1, b1, G1, q1⟩ := O1
  obtain ⟨fd2, ds2, v2, b2, G2, q2⟩ := O2
  have hu1 := hu_of hr
  have hu64 := hr.units
  have tk : Takes (cxOf (L2.CX P w) P w K mg base N_put_table "put_table" (defScope s_put_table) f cdv A outer s H E) (fun c d _ H2 => E c d H2) := takes_of rfl rfl rfl rfl
  exact (pss_cons (ps_if (pt_not (pt_val (pe_cl G0 (hr.mono (by decide)) rfl T.g_is_table q0 b0 v0 tk (pa_cons (pv 1) pa_nil)))) (pss_one (ps_rz rfl tk T.x_BadTable T.g_BadTable rfl)) pss_nil)
    (pss_cons (ps_set (i := 2) sc_put_table.nd rfl (Or.inl rfl) (pe_int))
    (pss_cons (ps_set (i := 3) sc_put_table.nd rfl (Or.inl rfl) (pe_int))
    (pss_one (ps_while (passes_of rfl) (pt_cmpR op_ltU (pv 3) (pe_gint rfl T.g_MANY) (nomark _)) (pss_cons (ps_set (i := 4) sc_put_table.nd rfl (Or.inl rfl) (pe_cl G1 (hr.mono (by decide)) rfl T.g_alike_from q1 b1 v1 tk (pa_cons (pv 1) (pa_cons (pv 3) (pa_cons (pv 2) pa_nil)))))
    (pss_cons (ps_if (pt_cmpR op_geU (pv 4) (pe_gint rfl T.g_LEAST_MORE) (nomark _)) (pss_cons (ps_expr (pe_mt' (pv 0) T.c_BitRow T.m_BitRow_put G2 (hr.mono (by decide)) b2 v2 tk (pa_cons (pe_gint rfl T.g_MORE_MARK) (pa_cons (pe_gint rfl T.g_LENGTH_BITS) pa_nil))))
    (pss_cons (ps_expr (pe_mt' (pv 0) T.c_BitRow T.m_BitRow_put G2 (hr.mono (by decide)) b2 v2 tk (pa_cons (pe_op op_subU (pv 4) (pe_gint rfl T.g_LEAST_MORE)) (pa_cons (pe_gint rfl T.g_MORE_BITS) pa_nil))))
    (pss_cons (ps_aug (i := 3) sc_put_table.nd rfl (Or.inl rfl) (pv 4) ip_addU)
    (pss_one (ps_continue))))) pss_nil)
    (pss_cons (ps_set (i := 2) sc_put_table.nd rfl (Or.inl rfl) (pe_ix ix_seq (pv 1) (pv 3) (fun _ _ => rfl)))
    (pss_cons (ps_expr (pe_mt' (pv 0) T.c_BitRow T.m_BitRow_put G2 (hr.mono (by decide)) b2 v2 tk (pa_cons (pv 2) (pa_cons (pe_gint rfl T.g_LENGTH_BITS) pa_nil))))
    (pss_one (ps_aug (i := 3) sc_put_table.nd rfl (Or.inl rfl) (pe_int) ip_addU)))))))))))
theorem fn_put_table {P : Program} {w : World} {K : PySem.W.Frag} {mg : Str → Option Value} {base : Heap} (T : Tx K mg) {f : Addr} {fd : FuncData} (F : FunD K d_put_table.name d_put_table.qual d_put_table.params d_put_table.body d_put_table.scope (d_put_table.dvs K) (d_put_table.kws K) f fd) :
    FnOk P w K mg base (L2.CX P w) 4 f fd ["bits", "lengths"] (sp_put_table K) :=
  F.ok sc_put_table (fun vs H Q E h => len_put_table h) (fun cdv A outer s H vs Q E hr h => ⟨t_put_table K (fun c d _ H2 => E c d H2), wk_put_table T (ok_is_table_1 T) (ok_alike_from_3 T) (ok_BitRow_put_3 T) hr, rd_put_table  h⟩)
theorem ok_put_table_2 {P : Program} {w : World} {K : PySem.W.Frag} {mg : Str → Option Value} {base : Heap} (T : Tx K mg) : DOk P w K mg base 4 (He.fAd K ("put_table", none)) ["bits", "lengths"] [] (sp_put_table K) := by
  obtain ⟨fd, F⟩ := T.d_put_table
  exact ⟨fd, [], .nil, FunD.bindsN F fun _ _ _ _ _ _ us hl => match us, hl with | [_, _], _ => rfl, fn_put_table T F, F.kp⟩
abbrev N__law_number : List Str := ["_law_bits_here", "_law_place", "_law_size", "_law_found", "_law_bit"]
theorem sc__law_number : FnScope N__law_number ["_law_bits_here", "_law_place", "_law_size"] (defScope s__law_number) := ⟨rfl, rfl, rfl, by decide +kernel, rfl, by decide +kernel, by decide +kernel⟩
theorem wk__law_number {P : Program} {w : World} {K : PySem.W.Frag} {mg : Str → Option Value} {base : Heap} (T : Tx K mg)  {f : Addr} {cdv : Value} {A : Around} {outer : List Env} {s : Shared} {H : Hp} {E : XK}
    (hr : Room 0 (A.deeper (envOfC "_law_number" (defScope s__law_number) s.heap.objs.size f cdv))) :
    PSs (cxOf (L2.CX P w) P w K mg base N__law_number "_law_number" (defScope s__law_number) f cdv A outer s H E) (defBody s__law_number) (t__law_number K (fun c d _ H2 => E c d H2)) := by
  have hu1 := hu_of hr
  have hu64 := hr.units
  have tk : Takes (cxOf (L2.CX P w) P w K mg base N__law_number "_law_number" (defScope s__law_number) f cdv A outer s H E) (fun c d _ H2 => E c d H2) := takes_of rfl rfl rfl rfl
  exact (pss_cons (ps_set (i := 3) sc__law_number.nd rfl (Or.inl rfl) (pe_int))
    (pss_cons (ps_for (passes_of rfl) rfl (pi_list (pe_slice sl_K (pv 0) (po_some (pv 1)) (po_some (pe_op op_addU (pv 1) (pv 2))))) (pg_name (i := 4) sc__law_number.nd rfl (Or.inl rfl)) (pss_one (ps_set (i := 3) sc__law_number.nd rfl (Or.inl rfl) (pe_op op_addU (pe_op op_mulU (pe_int) (pv 3)) (pv 4)))))
    (pss_one (ps_ret (pv 3)))))
theorem fn__law_number {P : Program} {w : World} {K : PySem.W.Frag} {mg : Str → Option Value} {base : Heap} (T : Tx K mg) {f : Addr} {fd : FuncData} (F : FunD K d__law_number.name d__law_number.qual d__law_number.params d__law_number.body d__law_number.scope (d__law_number.dvs K) (d__law_number.kws K) f fd) :
    FnOk P w K mg base (L2.CX P w) 1 f fd ["_law_bits_here", "_law_place", "_law_size"] (sp__law_number K) :=
  F.ok sc__law_number (fun vs H Q E h => len__law_number h) (fun cdv A outer s H vs Q E hr h => ⟨t__law_number K (fun c d _ H2 => E c d H2), wk__law_number T  hr, rd__law_number  h⟩)
theorem ok__law_number_3 {P : Program} {w : World} {K : PySem.W.Frag} {mg : Str → Option Value} {base : Heap} (T : Tx K mg) : DOk P w K mg base 1 (He.fAd K ("_law_number", none)) ["_law_bits_here", "_law_place", "_law_size"] [] (sp__law_number K) := by
  obtain ⟨fd, F⟩ := T.d__law_number
  exact ⟨fd, [], .nil, FunD.bindsN F fun _ _ _ _ _ _ us hl => match us, hl with | [_, _, _], _ => rfl, fn__law_number T F, F.kp⟩
abbrev N__law_read : List Str := ["_law_bits_here", "_law_place", "_law_found", "_law_item"]
theorem sc__law_read : FnScope N__law_read ["_law_bits_here", "_law_place"] (defScope s__law_read) := ⟨rfl, rfl, rfl, by decide +kernel, rfl, by decide +kernel, by decide +kernel⟩
theorem wk__law_read {P : Program} {w : World} {K : PySem.W.Frag} {mg : Str → Option Value} {base : Heap} (T : Tx K mg) (O0 : DOk P w K mg base 1 (He.fAd K ("_law_number", none)) ["_law_bits_here", "_law_place", "_law_size"] [] (sp__law_number K)) {f : Addr} {cdv : Value} {A : Around} {outer : List Env} {s : Shared} {H : Hp} {E : XK}
    (hr : Room 1 (A.deeper (envOfC "_law_read" (defScope s__law_read) s.heap.objs.size f cdv))) :
    PSs (cxOf (L2.CX P w) P w K mg base N__law_read "_law_read" (defScope s__law_read) f cdv A outer s H E) (defBody s__law_read) (t__law_read K (fun c d _ H2 => E c d H2)) := by
  obtain ⟨fd0, ds0, v0, b0, G0, q0⟩ := O0
  have hu1 := hu_of hr
  have hu64 := hr.units
  have tk : Takes (cxOf (L2.CX P w) P w K mg base N__law_read "_law_read" (defScope s__law_read) f cdv A outer s H E) (fun c d _ H2 => E c d H2) := takes_of rfl rfl rfl rfl
  exact (pss_cons (ps_set (i := 2) sc__law_read.nd rfl (Or.inl rfl) (pe_lst pa_nil))
    (pss_cons (ps_while (passes_of rfl) (pt_cmpR op_ltU (pe_callB cr_lenK (by rfl) T.f_len bb_len (pa_cons (pv 2) pa_nil)) (pe_int) (nomark _)) (pss_cons (ps_if (pt_cmpR op_gtU (pe_op op_addU (pv 1) (pe_int)) (pe_callB cr_lenK (by rfl) T.f_len bb_len (pa_cons (pv 0) pa_nil)) (nomark _)) (pss_one (ps_ret (pe_non))) pss_nil)
    (pss_cons (ps_set (i := 3) sc__law_read.nd rfl (Or.inl rfl) (pe_cl G0 (hr.mono (by decide)) rfl T.g__law_number q0 b0 v0 tk (pa_cons (pv 0) (pa_cons (pv 1) (pa_cons (pe_int) pa_nil)))))
    (pss_cons (ps_aug (i := 1) sc__law_read.nd rfl (Or.inl rfl) (pe_int) ip_addU)
    (pss_one (ps_if (pt_cmpR op_ltU (pv 3) (pe_int) (nomark _)) (pss_one (ps_expr (pe_bm PySem.F.plainAttrs_list PySem.F.slot_list_append PySem.F.type_list_append mt_append (pv 2) (pa_cons (pv 3) pa_nil)))) (pss_one (ps_if (pt_cmpR op_gtU (pe_op op_addU (pv 1) (pe_int)) (pe_callB cr_lenK (by rfl) T.f_len bb_len (pa_cons (pv 0) pa_nil)) (nomark _)) (pss_one (ps_ret (pe_non))) (pss_cons (ps_aug (i := 2) sc__law_read.nd rfl (Or.inl rfl) (pe_op op_mulU ((pe_orT (pe_slice sl_K (pv 2) (po_some (pe_un un_negU (pe_int))) po_none) (pe_one (pe_lst (pa_cons (pe_int) pa_nil))))) (pe_op op_addU (pe_cl G0 (hr.mono (by decide)) rfl T.g__law_number q0 b0 v0 tk (pa_cons (pv 0) (pa_cons (pv 1) (pa_cons (pe_int) pa_nil)))) (pe_int))) ip_addU)
    (pss_one (ps_aug (i := 1) sc__law_read.nd rfl (Or.inl rfl) (pe_int) ip_addU)))))))))))
    (pss_one (ps_ret (pe_tup (pa_cons (pv 2) (pa_cons (pv 1) pa_nil)))))))
theorem fn__law_read {P : Program} {w : World} {K : PySem.W.Frag} {mg : Str → Option Value} {base : Heap} (T : Tx K mg) {f : Addr} {fd : FuncData} (F : FunD K d__law_read.name d__law_read.qual d__law_read.params d__law_read.body d__law_read.scope (d__law_read.dvs K) (d__law_read.kws K) f fd) :
    FnOk P w K mg base (L2.CX P w) 2 f fd ["_law_bits_here", "_law_place"] (sp__law_read K) :=
  F.ok sc__law_read (fun vs H Q E h => len__law_read h) (fun cdv A outer s H vs Q E hr h => ⟨t__law_read K (fun c d _ H2 => E c d H2), wk__law_read T (ok__law_number_3 T) hr, rd__law_read  h⟩)
theorem ok__law_read_2 {P : Program} {w : World} {K : PySem.W.Frag} {mg : Str → Option Value} {base : Heap} (T : Tx K mg) : DOk P w K mg base 2 (He.fAd K ("_law_read", none)) ["_law_bits_here", "_law_place"] [] (sp__law_read K) := by
  obtain ⟨fd, F⟩ := T.d__law_read
  exact ⟨fd, [], .nil, FunD.bindsN F fun _ _ _ _ _ _ us hl => match us, hl with | [_, _], _ => rfl, fn__law_read T F, F.kp⟩
abbrev N__law_bits : List Str := ["_law_row", "_law_found", "_law_byte", "_law_k"]
theorem sc__law_bits : FnScope N__law_bits ["_law_row"] (defScope s__law_bits) := ⟨rfl, rfl, rfl, by decide +kernel, rfl, by decide +kernel, by decide +kernel⟩
theorem wk__law_bits {P : Program} {w : World} {K : PySem.W.Frag} {mg : Str → Option Value} {base : Heap} (T : Tx K mg)  {f : Addr} {cdv : Value} {A : Around} {outer : List Env} {s : Shared} {H : Hp} {E : XK}
    (hr : Room 0 (A.deeper (envOfC "_law_bits" (defScope s__law_bits) s.heap.objs.size f cdv))) :
    PSs (cxOf (L2.CX P w) P w K mg base N__law_bits "_law_bits" (defScope s__law_bits) f cdv A outer s H E) (defBody s__law_bits) (t__law_bits K (fun c d _ H2 => E c d H2)) := by
  have hu1 := hu_of hr
  have hu64 := hr.units
  have tk : Takes (cxOf (L2.CX P w) P w K mg base N__law_bits "_law_bits" (defScope s__law_bits) f cdv A outer s H E) (fun c d _ H2 => E c d H2) := takes_of rfl rfl rfl rfl
  exact (pss_cons (ps_set (i := 1) sc__law_bits.nd rfl (Or.inl rfl) (pe_lst pa_nil))
    (pss_cons (ps_for (passes_of rfl) rfl (pi_list (pv 0)) (pg_name (i := 2) sc__law_bits.nd rfl (Or.inr rfl)) (pss_one (ps_aug (i := 1) sc__law_bits.nd rfl (Or.inl rfl) (pe_lc (own := [("_law_k", 3)]) rfl sc__law_bits.nd (pi_range1 rfl T.f_range (pa_cons (pe_int) pa_nil)) (blkOk_by (own := [("_law_k", 3)]) (N := N__law_bits) (sc := defScope s__law_bits) (by decide +kernel)) (fun _ _ _ _ _ => (pg_name (i := 3) sc__law_bits.nd rfl (Or.inl rfl))) (fun _ _ _ _ _ => pts_nil) (fun _ _ _ _ _ => (pe_op op_andU (pe_op op_shrU (pv 2) (pe_op op_subU (pe_int) (pv 3))) (pe_int)))) ip_addU)))
    (pss_one (ps_ret (pv 1)))))
theorem fn__law_bits {P : Program} {w : World} {K : PySem.W.Frag} {mg : Str → Option Value} {base : Heap} (T : Tx K mg) {f : Addr} {fd : FuncData} (F : FunD K d__law_bits.name d__law_bits.qual d__law_bits.params d__law_bits.body d__law_bits.scope (d__law_bits.dvs K) (d__law_bits.kws K) f fd) :
    FnOk P w K mg base (L2.CX P w) 1 f fd ["_law_row"] (sp__law_bits K) :=
  F.ok sc__law_bits (fun vs H Q E h => len__law_bits h) (fun cdv A outer s H vs Q E hr h => ⟨t__law_bits K (fun c d _ H2 => E c d H2), wk__law_bits T  hr, rd__law_bits  h⟩)
theorem ok__law_bits_1 {P : Program} {w : World} {K : PySem.W.Frag} {mg : Str → Option Value} {base : Heap} (T : Tx K mg) : DOk P w K mg base 1 (He.fAd K ("_law_bits", none)) ["_law_row"] [] (sp__law_bits K) := by
  obtain ⟨fd, F⟩ := T.d__law_bits
  exact ⟨fd, [], .nil, FunD.bindsN F fun _ _ _ _ _ _ us hl => match us, hl with | [_], _ => rfl, fn__law_bits T F, F.kp⟩
abbrev N_BitRow_row : List Str := ["self"]
theorem sc_BitRow_row : FnScope N_BitRow_row ["self"] (defScope s_BitRow_row) := ⟨rfl, rfl, rfl, by decide +kernel, rfl, by decide +kernel, by decide +kernel⟩
theorem wk_BitRow_row {P : Program} {w : World} {K : PySem.W.Frag} {mg : Str → Option Value} {base : Heap} (T : Tx K mg)  {f : Addr} {cdv : Value} {A : Around} {outer : List Env} {s : Shared} {H : Hp} {E : XK}
    (hr : Room 0 (A.deeper (envOfC "BitRow.row" (defScope s_BitRow_row) s.heap.objs.size f cdv))) :
    PSs (cxOf (L2.CX P w) P w K mg base N_BitRow_row "BitRow.row" (defScope s_BitRow_row) f cdv A outer s H E) (defBody s_BitRow_row) (t_BitRow_row K (fun c d _ H2 => E c d H2)) := by
  have hu1 := hu_of hr
  have hu64 := hr.units
  have tk : Takes (cxOf (L2.CX P w) P w K mg base N_BitRow_row "BitRow.row" (defScope s_BitRow_row) f cdv A outer s H E) (fun c d _ H2 => E c d H2) := takes_of rfl rfl rfl rfl
  exact (pss_cons (ps_if (pt_cmpR (op_eqU hu64) (pe_fld (pv 0) rfl) (pe_int) (nomark _)) (pss_one (ps_ret (pe_callTy cr_listK (by rfl) T.f_list bt_list (pa_cons (pe_fld (pv 0) rfl) pa_nil)))) pss_nil)
    (pss_one (ps_ret (pe_op op_addU (pe_fld (pv 0) rfl) (pe_lst (pa_cons (pe_op op_shlU (pe_fld (pv 0) rfl) (pe_op op_subU (pe_gint rfl T.g_BYTE) (pe_fld (pv 0) rfl))) pa_nil))))))
theorem fn_BitRow_row {P : Program} {w : World} {K : PySem.W.Frag} {mg : Str → Option Value} {base : Heap} (T : Tx K mg) {f : Addr} {fd : FuncData} (F : FunD K d_BitRow_row.name d_BitRow_row.qual d_BitRow_row.params d_BitRow_row.body d_BitRow_row.scope (d_BitRow_row.dvs K) (d_BitRow_row.kws K) f fd) :
    FnOk P w K mg base (L2.CX P w) 1 f fd ["self"] (sp_BitRow_row K) :=
  F.ok sc_BitRow_row (fun vs H Q E h => len_BitRow_row h) (fun cdv A outer s H vs Q E hr h => ⟨t_BitRow_row K (fun c d _ H2 => E c d H2), wk_BitRow_row T  hr, rd_BitRow_row (of_KBitRow T) h⟩)
theorem ok_BitRow_row_1 {P : Program} {w : World} {K : PySem.W.Frag} {mg : Str → Option Value} {base : Heap} (T : Tx K mg) : DOk P w K mg base 1 (He.fAd K ("BitRow", some "row")) ["self"] [] (sp_BitRow_row K) := by
  obtain ⟨fd, F⟩ := T.d_BitRow_row
  exact ⟨fd, [], .nil, FunD.bindsN F fun _ _ _ _ _ _ us hl => match us, hl with | [_], _ => rfl, fn_BitRow_row T F, F.kp⟩
abbrev N_BitRow_many : List Str := ["self"]
theorem sc_BitRow_many : FnScope N_BitRow_many ["self"] (defScope s_BitRow_many) := ⟨rfl, rfl, rfl, by decide +kernel, rfl, by decide +kernel, by decide +kernel⟩
theorem wk_BitRow_many {P : Program} {w : World} {K : PySem.W.Frag} {mg : Str → Option Value} {base : Heap} (T : Tx K mg)  {f : Addr} {cdv : Value} {A : Around} {outer : List Env} {s : Shared} {H : Hp} {E : XK}
    (hr : Room 0 (A.deeper (envOfC "BitRow.many" (defScope s_BitRow_many) s.heap.objs.size f cdv))) :
    PSs (cxOf (L2.CX P w) P w K mg base N_BitRow_many "BitRow.many" (defScope s_BitRow_many) f cdv A outer s H E) (defBody s_BitRow_many) (t_BitRow_many K (fun c d _ H2 => E c d H2)) := by
  have hu1 := hu_of hr
  have hu64 := hr.units
  have tk : Takes (cxOf (L2.CX P w) P w K mg base N_BitRow_many "BitRow.many" (defScope s_BitRow_many) f cdv A outer s H E) (fun c d _ H2 => E c d H2) := takes_of rfl rfl rfl rfl
  exact (pss_one (ps_ret (pe_op op_addU (pe_op op_mulU (pe_gint rfl T.g_BYTE) (pe_callB cr_lenK (by rfl) T.f_len bb_len (pa_cons (pe_fld (pv 0) rfl) pa_nil))) (pe_fld (pv 0) rfl))))
theorem fn_BitRow_many {P : Program} {w : World} {K : PySem.W.Frag} {mg : Str → Option Value} {base : Heap} (T : Tx K mg) {f : Addr} {fd : FuncData} (F : FunD K d_BitRow_many.name d_BitRow_many.qual d_BitRow_many.params d_BitRow_many.body d_BitRow_many.scope (d_BitRow_many.dvs K) (d_BitRow_many.kws K) f fd) :
    FnOk P w K mg base (L2.CX P w) 1 f fd ["self"] (sp_BitRow_many K) :=
  F.ok sc_BitRow_many (fun vs H Q E h => len_BitRow_many h) (fun cdv A outer s H vs Q E hr h => ⟨t_BitRow_many K (fun c d _ H2 => E c d H2), wk_BitRow_many T  hr, rd_BitRow_many (of_KBitRow T) h⟩)
theorem ok_BitRow_many_1 {P : Program} {w : World} {K : PySem.W.Frag} {mg : Str → Option Value} {base : Heap} (T : Tx K mg) : DOk P w K mg base 1 (He.fAd K ("BitRow", some "many")) ["self"] [] (sp_BitRow_many K) := by
  obtain ⟨fd, F⟩ := T.d_BitRow_many
  exact ⟨fd, [], .nil, FunD.bindsN F fun _ _ _ _ _ _ us hl => match us, hl with | [_], _ => rfl, fn_BitRow_many T F, F.kp⟩
abbrev N_is_byte : List Str := ["thing"]
theorem sc_is_byte : FnScope N_is_byte ["thing"] (defScope s_is_byte) := ⟨rfl, rfl, rfl, by decide +kernel, rfl, by decide +kernel, by decide +kernel⟩
theorem wk_is_byte {P : Program} {w : World} {K : PySem.W.Frag} {mg : Str → Option Value} {base : Heap} (T : Tx K mg)  {f : Addr} {cdv : Value} {A : Around} {outer : List Env} {s : Shared} {H : Hp} {E : XK}
    (hr : Room 0 (A.deeper (envOfC "is_byte" (defScope s_is_byte) s.heap.objs.size f cdv))) :
    PSs (cxOf (L2.CX P w) P w K mg base N_is_byte "is_byte" (defScope s_is_byte) f cdv A outer s H E) (defBody s_is_byte) (t_is_byte K (fun c d _ H2 => E c d H2)) := by
  have hu1 := hu_of hr
  have hu64 := hr.units
  have tk : Takes (cxOf (L2.CX P w) P w K mg base N_is_byte "is_byte" (defScope s_is_byte) f cdv A outer s H E) (fun c d _ H2 => E c d H2) := takes_of rfl rfl rfl rfl
  exact (pss_one (ps_ret ((pe_and (pe_callB call_isi (by rfl) T.f_isinstance bb_isinstance (pa_cons (pv 0) (pa_cons (pe_bty rfl T.f_int bt_int) pa_nil))) (pe_and (pe_not (pe_callB call_isi (by rfl) T.f_isinstance bb_isinstance (pa_cons (pv 0) (pa_cons (pe_bty rfl T.f_bool bt_bool) pa_nil)))) (pe_one (pe_chain op_leU op_leU (pe_int) (pv 0) (pe_gint rfl T.g_MOST_BYTE))))))))
theorem fn_is_byte {P : Program} {w : World} {K : PySem.W.Frag} {mg : Str → Option Value} {base : Heap} (T : Tx K mg) {f : Addr} {fd : FuncData} (F : FunD K d_is_byte.name d_is_byte.qual d_is_byte.params d_is_byte.body d_is_byte.scope (d_is_byte.dvs K) (d_is_byte.kws K) f fd) :
    FnOk P w K mg base (L2.CX P w) 1 f fd ["thing"] (sp_is_byte K) :=
  F.ok sc_is_byte (fun vs H Q E h => len_is_byte h) (fun cdv A outer s H vs Q E hr h => ⟨t_is_byte K (fun c d _ H2 => E c d H2), wk_is_byte T  hr, rd_is_byte  h⟩)
theorem ok_is_byte_1 {P : Program} {w : World} {K : PySem.W.Frag} {mg : Str → Option Value} {base : Heap} (T : Tx K mg) : DOk P w K mg base 1 (He.fAd K ("is_byte", none)) ["thing"] [] (sp_is_byte K) := by
  obtain ⟨fd, F⟩ := T.d_is_byte
  exact ⟨fd, [], .nil, FunD.bindsN F fun _ _ _ _ _ _ us hl => match us, hl with | [_], _ => rfl, fn_is_byte T F, F.kp⟩
abbrev N_is_row : List Str := ["thing", "number"]
theorem sc_is_row : FnScope N_is_row ["thing"] (defScope s_is_row) := ⟨rfl, rfl, rfl, by decide +kernel, rfl, by decide +kernel, by decide +kernel⟩
theorem wk_is_row {P : Program} {w : World} {K : PySem.W.Frag} {mg : Str → Option Value} {base : Heap} (T : Tx K mg) (O0 : DOk P w K mg base 1 (He.fAd K ("is_byte", none)) ["thing"] [] (sp_is_byte K)) {f : Addr} {cdv : Value} {A : Around} {outer : List Env} {s : Shared} {H : Hp} {E : XK}
    (hr : Room 1 (A.deeper (envOfC "is_row" (defScope s_is_row) s.heap.objs.size f cdv))) :
    PSs (cxOf (L2.CX P w) P w K mg base N_is_row "is_row" (defScope s_is_row) f cdv A outer s H E) (defBody s_is_row) (t_is_row K (fun c d _ H2 => E c d H2)) := by
  obtain ⟨fd0, ds0, v0, b0, G0, q0⟩ := O0
  have hu1 := hu_of hr
  have hu64 := hr.units
  have tk : Takes (cxOf (L2.CX P w) P w K mg base N_is_row "is_row" (defScope s_is_row) f cdv A outer s H E) (fun c d _ H2 => E c d H2) := takes_of rfl rfl rfl rfl
  exact (pss_one (ps_ret ((pe_and (pe_callB call_isi (by rfl) T.f_isinstance bb_isinstance (pa_cons (pv 0) (pa_cons (pe_bty rfl T.f_list bt_list) pa_nil))) (pe_one (pe_callB (cr_all rfl) (by rfl) T.f_all bb_all (pa_cons (pe_lc (own := [("number", 1)]) rfl sc_is_row.nd (pi_list (pv 0)) (blkOk_by (own := [("number", 1)]) (N := N_is_row) (sc := defScope s_is_row) (by decide +kernel)) (fun _ _ _ _ _ => (pg_name (i := 1) sc_is_row.nd rfl (Or.inl rfl))) (fun _ _ _ _ _ => pts_nil) (fun _ _ _ _ _ => (pe_cl G0 (hr.mono (by decide)) rfl T.g_is_byte q0 b0 v0 takes0 (pa_cons (pv 1) pa_nil)))) pa_nil)))))))
theorem fn_is_row {P : Program} {w : World} {K : PySem.W.Frag} {mg : Str → Option Value} {base : Heap} (T : Tx K mg) {f : Addr} {fd : FuncData} (F : FunD K d_is_row.name d_is_row.qual d_is_row.params d_is_row.body d_is_row.scope (d_is_row.dvs K) (d_is_row.kws K) f fd) :
    FnOk P w K mg base (L2.CX P w) 2 f fd ["thing"] (sp_is_row K) :=
  F.ok sc_is_row (fun vs H Q E h => len_is_row h) (fun cdv A outer s H vs Q E hr h => ⟨t_is_row K (fun c d _ H2 => E c d H2), wk_is_row T (ok_is_byte_1 T) hr, rd_is_row  h⟩)
theorem ok_is_row_1 {P : Program} {w : World} {K : PySem.W.Frag} {mg : Str → Option Value} {base : Heap} (T : Tx K mg) : DOk P w K mg base 2 (He.fAd K ("is_row", none)) ["thing"] [] (sp_is_row K) := by
  obtain ⟨fd, F⟩ := T.d_is_row
  exact ⟨fd, [], .nil, FunD.bindsN F fun _ _ _ _ _ _ us hl => match us, hl with | [_], _ => rfl, fn_is_row T F, F.kp⟩
abbrev N_need_row : List Str := ["thing"]
theorem sc_need_row : FnScope N_need_row ["thing"] (defScope s_need_row) := ⟨rfl, rfl, rfl, by decide +kernel, rfl, by decide +kernel, by decide +kernel⟩
theorem wk_need_row {P : Program} {w : World} {K : PySem.W.Frag} {mg : Str → Option Value} {base : Heap} (T : Tx K mg) (O0 : DOk P w K mg base 2 (He.fAd K ("is_row", none)) ["thing"] [] (sp_is_row K)) {f : Addr} {cdv : Value} {A : Around} {outer : List Env} {s : Shared} {H : Hp} {E : XK}
    (hr : Room 2 (A.deeper (envOfC "need_row" (defScope s_need_row) s.heap.objs.size f cdv))) :
    PSs (cxOf (L2.CX P w) P w K mg base N_need_row "need_row" (defScope s_need_row) f cdv A outer s H E) (defBody s_need_row) (t_need_row K (fun c d _ H2 => E c d H2)) := by
  obtain ⟨fd0, ds0, v0, b0, G0, q0⟩ := O0
  have hu1 := hu_of hr
  have hu64 := hr.units
  have tk : Takes (cxOf (L2.CX P w) P w K mg base N_need_row "need_row" (defScope s_need_row) f cdv A outer s H E) (fun c d _ H2 => E c d H2) := takes_of rfl rfl rfl rfl
  exact (pss_cons (ps_if (pt_not (pt_val (pe_cl G0 (hr.mono (by decide)) rfl T.g_is_row q0 b0 v0 tk (pa_cons (pv 0) pa_nil)))) (pss_one (ps_rz rfl tk T.x_BadRow T.g_BadRow rfl)) pss_nil)
    (pss_one (ps_ret (pe_callTy cr_listK (by rfl) T.f_list bt_list (pa_cons (pv 0) pa_nil)))))
theorem fn_need_row {P : Program} {w : World} {K : PySem.W.Frag} {mg : Str → Option Value} {base : Heap} (T : Tx K mg) {f : Addr} {fd : FuncData} (F : FunD K d_need_row.name d_need_row.qual d_need_row.params d_need_row.body d_need_row.scope (d_need_row.dvs K) (d_need_row.kws K) f fd) :
    FnOk P w K mg base (L2.CX P w) 3 f fd ["thing"] (sp_need_row K) :=
  F.ok sc_need_row (fun vs H Q E h => len_need_row h) (fun cdv A outer s H vs Q E hr h => ⟨t_need_row K (fun c d _ H2 => E c d H2), wk_need_row T (ok_is_row_1 T) hr, rd_need_row  h⟩)
theorem ok_need_row_1 {P : Program} {w : World} {K : PySem.W.Frag} {mg : Str → Option Value} {base : Heap} (T : Tx K mg) : DOk P w K mg base 3 (He.fAd K ("need_row", none)) ["thing"] [] (sp_need_row K) := by
  obtain ⟨fd, F⟩ := T.d_need_row
  exact ⟨fd, [], .nil, FunD.bindsN F fun _ _ _ _ _ _ us hl => match us, hl with | [_], _ => rfl, fn_need_row T F, F.kp⟩
abbrev N_BitReader___init__ : List Str := ["self", "row"]
theorem sc_BitReader___init__ : FnScope N_BitReader___init__ ["self", "row"] (defScope s_BitReader___init__) := ⟨rfl, rfl, rfl, by decide +kernel, rfl, by decide +kernel, by decide +kernel⟩
theorem wk_BitReader___init__ {P : Program} {w : World} {K : PySem.W.Frag} {mg : Str → Option Value} {base : Heap} (T : Tx K mg) (O0 : DOk P w K mg base 3 (He.fAd K ("need_row", none)) ["thing"] [] (sp_need_row K)) {f : Addr} {cdv : Value} {A : Around} {outer : List Env} {s : Shared} {H : Hp} {E : XK}
    (hr : Room 3 (A.deeper (envOfC "BitReader.__init__" (defScope s_BitReader___init__) s.heap.objs.size f cdv))) :
    PSs (cxOf (L2.CX P w) P w K mg base N_BitReader___init__ "BitReader.__init__" (defScope s_BitReader___init__) f cdv A outer s H E) (defBody s_BitReader___init__) (t_BitReader___init__ K (fun c d _ H2 => E c d H2)) := by
  obtain ⟨fd0, ds0, v0, b0, G0, q0⟩ := O0
  have hu1 := hu_of hr
  have hu64 := hr.units
  have tk : Takes (cxOf (L2.CX P w) P w K mg base N_BitReader___init__ "BitReader.__init__" (defScope s_BitReader___init__) f cdv A outer s H E) (fun c d _ H2 => E c d H2) := takes_of rfl rfl rfl rfl
  exact (pss_cons (ps_fld (pv 0) (pe_cl G0 (hr.mono (by decide)) rfl T.g_need_row q0 b0 v0 tk (pa_cons (pv 1) pa_nil)) rfl)
    (pss_one (ps_fld (pv 0) (pe_int) rfl)))
theorem fn_BitReader___init__ {P : Program} {w : World} {K : PySem.W.Frag} {mg : Str → Option Value} {base : Heap} (T : Tx K mg) {f : Addr} {fd : FuncData} (F : FunD K d_BitReader___init__.name d_BitReader___init__.qual d_BitReader___init__.params d_BitReader___init__.body d_BitReader___init__.scope (d_BitReader___init__.dvs K) (d_BitReader___init__.kws K) f fd) :
    FnOk P w K mg base (L2.CX P w) 4 f fd ["self", "row"] (sp_BitReader___init__ K) :=
  F.ok sc_BitReader___init__ (fun vs H Q E h => len_BitReader___init__ h) (fun cdv A outer s H vs Q E hr h => ⟨t_BitReader___init__ K (fun c d _ H2 => E c d H2), wk_BitReader___init__ T (ok_need_row_1 T) hr, rd_BitReader___init__ (of_KBitReader T) h⟩)
theorem ok_BitReader___init___2 {P : Program} {w : World} {K : PySem.W.Frag} {mg : Str → Option Value} {base : Heap} (T : Tx K mg) : DOk P w K mg base 4 (He.fAd K ("BitReader", some "__init__")) ["self", "row"] [] (sp_BitReader___init__ K) := by
  obtain ⟨fd, F⟩ := T.d_BitReader___init__
  exact ⟨fd, [], .nil, FunD.bindsN F fun _ _ _ _ _ _ us hl => match us, hl with | [_, _], _ => rfl, fn_BitReader___init__ T F, F.kp⟩
abbrev N_BitReader_left : List Str := ["self"]
theorem sc_BitReader_left : FnScope N_BitReader_left ["self"] (defScope s_BitReader_left) := ⟨rfl, rfl, rfl, by decide +kernel, rfl, by decide +kernel, by decide +kernel⟩
theorem wk_BitReader_left {P : Program} {w : World} {K : PySem.W.Frag} {mg : Str → Option Value} {base : Heap} (T : Tx K mg)  {f : Addr} {cdv : Value} {A : Around} {outer : List Env} {s : Shared} {H : Hp} {E : XK}
    (hr : Room 0 (A.deeper (envOfC "BitReader.left" (defScope s_BitReader_left) s.heap.objs.size f cdv))) :
    PSs (cxOf (L2.CX P w) P w K mg base N_BitReader_left "BitReader.left" (defScope s_BitReader_left) f cdv A outer s H E) (defBody s_BitReader_left) (t_BitReader_left K (fun c d _ H2 => E c d H2)) := by
  have hu1 := hu_of hr
  have hu64 := hr.units
  have tk : Takes (cxOf (L2.CX P w) P w K mg base N_BitReader_left "BitReader.left" (defScope s_BitReader_left) f cdv A outer s H E) (fun c d _ H2 => E c d H2) := takes_of rfl rfl rfl rfl
  exact (pss_one (ps_ret (pe_op op_subU (pe_op op_mulU (pe_gint rfl T.g_BYTE) (pe_callB cr_lenK (by rfl) T.f_len bb_len (pa_cons (pe_fld (pv 0) rfl) pa_nil))) (pe_fld (pv 0) rfl))))
theorem fn_BitReader_left {P : Program} {w : World} {K : PySem.W.Frag} {mg : Str → Option Value} {base : Heap} (T : Tx K mg) {f : Addr} {fd : FuncData} (F : FunD K d_BitReader_left.name d_BitReader_left.qual d_BitReader_left.params d_BitReader_left.body d_BitReader_left.scope (d_BitReader_left.dvs K) (d_BitReader_left.kws K) f fd) :
    FnOk P w K mg base (L2.CX P w) 1 f fd ["self"] (sp_BitReader_left K) :=
  F.ok sc_BitReader_left (fun vs H Q E h => len_BitReader_left h) (fun cdv A outer s H vs Q E hr h => ⟨t_BitReader_left K (fun c d _ H2 => E c d H2), wk_BitReader_left T  hr, rd_BitReader_left (of_KBitReader T) h⟩)
theorem ok_BitReader_left_1 {P : Program} {w : World} {K : PySem.W.Frag} {mg : Str → Option Value} {base : Heap} (T : Tx K mg) : DOk P w K mg base 1 (He.fAd K ("BitReader", some "left")) ["self"] [] (sp_BitReader_left K) := by
  obtain ⟨fd, F⟩ := T.d_BitReader_left
  exact ⟨fd, [], .nil, FunD.bindsN F fun _ _ _ _ _ _ us hl => match us, hl with | [_], _ => rfl, fn_BitReader_left T F, F.kp⟩
abbrev N_BitReader_take : List Str := ["self", "size", "begin", "over", "end", "rest", "number", "byte"]
theorem sc_BitReader_take : FnScope N_BitReader_take ["self", "size"] (defScope s_BitReader_take) := ⟨rfl, rfl, rfl, by decide +kernel, rfl, by decide +kernel, by decide +kernel⟩
theorem wk_BitReader_take {P : Program} {w : World} {K : PySem.W.Frag} {mg : Str → Option Value} {base : Heap} (T : Tx K mg) (O0 : DOk P w K mg base 2 (He.fAd K ("need_size", none)) ["size"] [] (sp_need_size K)) (O1 : DOk P w K mg base 1 (He.fAd K ("BitReader", some "left")) ["self"] [] (sp_BitReader_left K)) {f : Addr} {cdv : Value} {A : Around} {outer : List Env} {s : Shared} {H : Hp} {E : XK}
    (hr : Room 2 (A.deeper (envOfC "BitReader.take" (defScope s_BitReader_take) s.heap.objs.size f cdv))) :
    PSs (cxOf (L2.CX P w) P w K mg base N_BitReader_take "BitReader.take" (defScope s_BitReader_take) f cdv A outer s H E) (defBody s_BitReader_take) (t_BitReader_take K (fun c d _ H2 => E c d H2)) := by
  obtain ⟨fd0, ds0, v0, b0, G0, q0⟩ := O0
  obtain ⟨fd1, ds1, v1, b1, G1, q1⟩ := O1
  have hu1 := hu_of hr
  have hu64 := hr.units
  have tk : Takes (cxOf (L2.CX P w) P w K mg base N_BitReader_take "BitReader.take" (defScope s_BitReader_take) f cdv A outer s H E) (fun c d _ H2 => E c d H2) := takes_of rfl rfl rfl rfl
  exact (pss_cons (ps_expr (pe_cl G0 (hr.mono (by decide)) rfl T.g_need_size q0 b0 v0 tk (pa_cons (pv 1) pa_nil)))
    (pss_cons (ps_if (pt_cmpR op_ltU (pe_mt0' (pv 0) T.c_BitReader T.m_BitReader_left G1 (hr.mono (by decide)) b1 v1 tk) (pv 1) (nomark _)) (pss_one (ps_rz rfl tk T.x_NoBits T.g_NoBits rfl)) pss_nil)
    (pss_cons (ps_asg (pe_callB cr_divmodK (by rfl) T.f_divmod bb_divmod (pa_cons (pe_fld (pv 0) rfl) (pa_cons (pe_gint rfl T.g_BYTE) pa_nil))) (pg_tup rfl (pgs_cons (pg_name (i := 2) sc_BitReader_take.nd rfl (Or.inl rfl)) (pgs_cons (pg_name (i := 3) sc_BitReader_take.nd rfl (Or.inl rfl)) pgs_nil))))
    (pss_cons (ps_asg (pe_callB cr_divmodK (by rfl) T.f_divmod bb_divmod (pa_cons (pe_op op_subU (pe_op op_addU (pe_op op_addU (pe_fld (pv 0) rfl) (pv 1)) (pe_gint rfl T.g_BYTE)) (pe_int)) (pa_cons (pe_gint rfl T.g_BYTE) pa_nil))) (pg_tup rfl (pgs_cons (pg_name (i := 4) sc_BitReader_take.nd rfl (Or.inl rfl)) (pgs_cons (pg_name (i := 5) sc_BitReader_take.nd rfl (Or.inl rfl)) pgs_nil))))
    (pss_cons (ps_set (i := 6) sc_BitReader_take.nd rfl (Or.inl rfl) (pe_int))
    (pss_cons (ps_for (passes_of rfl) rfl (pi_list (pe_slice sl_K (pe_fld (pv 0) rfl) (po_some (pv 2)) (po_some (pv 4)))) (pg_name (i := 7) sc_BitReader_take.nd rfl (Or.inl rfl)) (pss_one (ps_set (i := 6) sc_BitReader_take.nd rfl (Or.inl rfl) (pe_op op_orU (pe_op op_shlU (pv 6) (pe_gint rfl T.g_BYTE)) (pv 7)))))
    (pss_cons (ps_set (i := 6) sc_BitReader_take.nd rfl (Or.inl rfl) (pe_op op_andU (pv 6) (pe_op op_subU (pe_op op_shlU (pe_int) (pe_op op_subU (pe_op op_mulU (pe_gint rfl T.g_BYTE) (pe_op op_subU (pv 4) (pv 2))) (pv 3))) (pe_int))))
    (pss_cons (ps_fldaug (pv 0) (pv 1) in_add)
    (pss_one (ps_ret (pe_op op_shrU (pv 6) (pe_op op_subU (pe_op op_subU (pe_gint rfl T.g_BYTE) (pe_int)) (pv 5)))))))))))))
theorem fn_BitReader_take {P : Program} {w : World} {K : PySem.W.Frag} {mg : Str → Option Value} {base : Heap} (T : Tx K mg) {f : Addr} {fd : FuncData} (F : FunD K d_BitReader_take.name d_BitReader_take.qual d_BitReader_take.params d_BitReader_take.body d_BitReader_take.scope (d_BitReader_take.dvs K) (d_BitReader_take.kws K) f fd) :
    FnOk P w K mg base (L2.CX P w) 3 f fd ["self", "size"] (sp_BitReader_take K) :=
  F.ok sc_BitReader_take (fun vs H Q E h => len_BitReader_take h) (fun cdv A outer s H vs Q E hr h => ⟨t_BitReader_take K (fun c d _ H2 => E c d H2), wk_BitReader_take T (ok_need_size_1 T) (ok_BitReader_left_1 T) hr, rd_BitReader_take (of_KBitReader T) h⟩)
theorem ok_BitReader_take_2 {P : Program} {w : World} {K : PySem.W.Frag} {mg : Str → Option Value} {base : Heap} (T : Tx K mg) : DOk P w K mg base 3 (He.fAd K ("BitReader", some "take")) ["self", "size"] [] (sp_BitReader_take K) := by
  obtain ⟨fd, F⟩ := T.d_BitReader_take
  exact ⟨fd, [], .nil, FunD.bindsN F fun _ _ _ _ _ _ us hl => match us, hl with | [_, _], _ => rfl, fn_BitReader_take T F, F.kp⟩
abbrev N_BitReader_place : List Str := ["self"]
theorem sc_BitReader_place : FnScope N_BitReader_place ["self"] (defScope s_BitReader_place) := ⟨rfl, rfl, rfl, by decide +kernel, rfl, by decide +kernel, by decide +kernel⟩
theorem wk_BitReader_place {P : Program} {w : World} {K : PySem.W.Frag} {mg : Str → Option Value} {base : Heap} (T : Tx K mg)  {f : Addr} {cdv : Value} {A : Around} {outer : List Env} {s : Shared} {H : Hp} {E : XK}
    (hr : Room 0 (A.deeper (envOfC "BitReader.place" (defScope s_BitReader_place) s.heap.objs.size f cdv))) :
    PSs (cxOf (L2.CX P w) P w K mg base N_BitReader_place "BitReader.place" (defScope s_BitReader_place) f cdv A outer s H E) (defBody s_BitReader_place) (t_BitReader_place K (fun c d _ H2 => E c d H2)) := by
  have hu1 := hu_of hr
  have hu64 := hr.units
  have tk : Takes (cxOf (L2.CX P w) P w K mg base N_BitReader_place "BitReader.place" (defScope s_BitReader_place) f cdv A outer s H E) (fun c d _ H2 => E c d H2) := takes_of rfl rfl rfl rfl
  exact (pss_one (ps_ret (pe_fld (pv 0) rfl)))
theorem fn_BitReader_place {P : Program} {w : World} {K : PySem.W.Frag} {mg : Str → Option Value} {base : Heap} (T : Tx K mg) {f : Addr} {fd : FuncData} (F : FunD K d_BitReader_place.name d_BitReader_place.qual d_BitReader_place.params d_BitReader_place.body d_BitReader_place.scope (d_BitReader_place.dvs K) (d_BitReader_place.kws K) f fd) :
    FnOk P w K mg base (L2.CX P w) 1 f fd ["self"] (sp_BitReader_place K) :=
  F.ok sc_BitReader_place (fun vs H Q E h => len_BitReader_place h) (fun cdv A outer s H vs Q E hr h => ⟨t_BitReader_place K (fun c d _ H2 => E c d H2), wk_BitReader_place T  hr, rd_BitReader_place (of_KBitReader T) h⟩)
theorem ok_BitReader_place_1 {P : Program} {w : World} {K : PySem.W.Frag} {mg : Str → Option Value} {base : Heap} (T : Tx K mg) : DOk P w K mg base 1 (He.fAd K ("BitReader", some "place")) ["self"] [] (sp_BitReader_place K) := by
  obtain ⟨fd, F⟩ := T.d_BitReader_place
  exact ⟨fd, [], .nil, FunD.bindsN F fun _ _ _ _ _ _ us hl => match us, hl with | [_], _ => rfl, fn_BitReader_place T F, F.kp⟩
abbrev N_items_read : List Str := ["reader", "found", "last", "item"]
theorem sc_items_read : FnScope N_items_read ["reader"] (defScope s_items_read) := ⟨rfl, rfl, rfl, by decide +kernel, rfl, by decide +kernel, by decide +kernel⟩
theorem wk_items_read {P : Program} {w : World} {K : PySem.W.Frag} {mg : Str → Option Value} {base : Heap} (T : Tx K mg) (O0 : DOk P w K mg base 3 (He.fAd K ("BitReader", some "take")) ["self", "size"] [] (sp_BitReader_take K)) {f : Addr} {cdv : Value} {A : Around} {outer : List Env} {s : Shared} {H : Hp} {E : XK}
    (hr : Room 3 (A.deeper (envOfC "items_read" (defScope s_items_read) s.heap.objs.size f cdv))) :
    PSs (cxOf (L2.CX P w) P w K mg base N_items_read "items_read" (defScope s_items_read) f cdv A outer s H E) (defBody s_items_read) (t_items_read K (fun c d _ H2 => E c d H2)) := by
  obtain ⟨fd0, ds0, v0, b0, G0, q0⟩ := O0
  have hu1 := hu_of hr
  have hu64 := hr.units
  have tk : Takes (cxOf (L2.CX P w) P w K mg base N_items_read "items_read" (defScope s_items_read) f cdv A outer s H E) (fun c d _ H2 => E c d H2) := takes_of rfl rfl rfl rfl
  exact (pss_cons (ps_set (i := 1) sc_items_read.nd rfl (Or.inl rfl) (pe_lst pa_nil))
    (pss_cons (ps_set (i := 2) sc_items_read.nd rfl (Or.inl rfl) (pe_int))
    (pss_cons (ps_while (passes_of rfl) (pt_cmpR op_ltU (pe_callB cr_lenK (by rfl) T.f_len bb_len (pa_cons (pv 1) pa_nil)) (pe_gint rfl T.g_MANY) (nomark _)) (pss_cons (ps_set (i := 3) sc_items_read.nd rfl (Or.inl rfl) (pe_mt' (pv 0) T.c_BitReader T.m_BitReader_take G0 (hr.mono (by decide)) b0 v0 tk (pa_cons (pe_gint rfl T.g_LENGTH_BITS) pa_nil)))
    (pss_one (ps_if (pt_cmpR (op_eqU hu64) (pv 3) (pe_gint rfl T.g_MORE_MARK) (nomark _)) (pss_one (ps_aug (i := 1) sc_items_read.nd rfl (Or.inl rfl) (pe_op op_mulU (pe_lst (pa_cons (pv 2) pa_nil)) (pe_op op_addU (pe_mt' (pv 0) T.c_BitReader T.m_BitReader_take G0 (hr.mono (by decide)) b0 v0 tk (pa_cons (pe_gint rfl T.g_MORE_BITS) pa_nil)) (pe_gint rfl T.g_LEAST_MORE))) ip_addU)) (pss_cons (ps_set (i := 2) sc_items_read.nd rfl (Or.inl rfl) (pv 3))
    (pss_one (ps_expr (pe_bm PySem.F.plainAttrs_list PySem.F.slot_list_append PySem.F.type_list_append mt_append (pv 1) (pa_cons (pv 2) pa_nil)))))))))
    (pss_one (ps_ret (pv 1))))))
theorem fn_items_read {P : Program} {w : World} {K : PySem.W.Frag} {mg : Str → Option Value} {base : Heap} (T : Tx K mg) {f : Addr} {fd : FuncData} (F : FunD K d_items_read.name d_items_read.qual d_items_read.params d_items_read.body d_items_read.scope (d_items_read.dvs K) (d_items_read.kws K) f fd) :
    FnOk P w K mg base (L2.CX P w) 4 f fd ["reader"] (sp_items_read K) :=
  F.ok sc_items_read (fun vs H Q E h => len_items_read h) (fun cdv A outer s H vs Q E hr h => ⟨t_items_read K (fun c d _ H2 => E c d H2), wk_items_read T (ok_BitReader_take_2 T) hr, rd_items_read  h⟩)
theorem ok_items_read_1 {P : Program} {w : World} {K : PySem.W.Frag} {mg : Str → Option Value} {base : Heap} (T : Tx K mg) : DOk P w K mg base 4 (He.fAd K ("items_read", none)) ["reader"] [] (sp_items_read K) := by
  obtain ⟨fd, F⟩ := T.d_items_read
  exact ⟨fd, [], .nil, FunD.bindsN F fun _ _ _ _ _ _ us hl => match us, hl with | [_], _ => rfl, fn_items_read T F, F.kp⟩
abbrev N_BitReader_go : List Str := ["self", "place"]
theorem sc_BitReader_go : FnScope N_BitReader_go ["self", "place"] (defScope s_BitReader_go) := ⟨rfl, rfl, rfl, by decide +kernel, rfl, by decide +kernel, by decide +kernel⟩
theorem wk_BitReader_go {P : Program} {w : World} {K : PySem.W.Frag} {mg : Str → Option Value} {base : Heap} (T : Tx K mg) (O0 : DOk P w K mg base 1 (He.fAd K ("is_number", none)) ["thing"] [] (sp_is_number K)) {f : Addr} {cdv : Value} {A : Around} {outer : List Env} {s : Shared} {H : Hp} {E : XK}
    (hr : Room 1 (A.deeper (envOfC "BitReader.go" (defScope s_BitReader_go) s.heap.objs.size f cdv))) :
    PSs (cxOf (L2.CX P w) P w K mg base N_BitReader_go "BitReader.go" (defScope s_BitReader_go) f cdv A outer s H E) (defBody s_BitReader_go) (t_BitReader_go K (fun c d _ H2 => E c d H2)) := by
  obtain ⟨fd0, ds0, v0, b0, G0, q0⟩ := O0
  have hu1 := hu_of hr
  have hu64 := hr.units
  have tk : Takes (cxOf (L2.CX P w) P w K mg base N_BitReader_go "BitReader.go" (defScope s_BitReader_go) f cdv A outer s H E) (fun c d _ H2 => E c d H2) := takes_of rfl rfl rfl rfl
  exact (pss_cons (ps_if (PW.pt (pw_or (pt_not (pt_val (pe_cl G0 (hr.mono (by decide)) rfl T.g_is_number q0 b0 v0 tk (pa_cons (pv 1) pa_nil)))) (pw_or1 (pt_not (pt_chain op_leU op_leU (pe_int) (pv 1) (pe_op op_mulU (pe_gint rfl T.g_BYTE) (pe_callB cr_lenK (by rfl) T.f_len bb_len (pa_cons (pe_fld (pv 0) rfl) pa_nil)))))))) (pss_one (ps_rz rfl tk T.x_BadBits T.g_BadBits rfl)) pss_nil)
    (pss_one (ps_fld (pv 0) (pv 1) rfl)))
theorem fn_BitReader_go {P : Program} {w : World} {K : PySem.W.Frag} {mg : Str → Option Value} {base : Heap} (T : Tx K mg) {f : Addr} {fd : FuncData} (F : FunD K d_BitReader_go.name d_BitReader_go.qual d_BitReader_go.params d_BitReader_go.body d_BitReader_go.scope (d_BitReader_go.dvs K) (d_BitReader_go.kws K) f fd) :
    FnOk P w K mg base (L2.CX P w) 2 f fd ["self", "place"] (sp_BitReader_go K) :=
  F.ok sc_BitReader_go (fun vs H Q E h => len_BitReader_go h) (fun cdv A outer s H vs Q E hr h => ⟨t_BitReader_go K (fun c d _ H2 => E c d H2), wk_BitReader_go T (ok_is_number_1 T) hr, rd_BitReader_go  h⟩)
theorem ok_BitReader_go_2 {P : Program} {w : World} {K : PySem.W.Frag} {mg : Str → Option Value} {base : Heap} (T : Tx K mg) : DOk P w K mg base 2 (He.fAd K ("BitReader", some "go")) ["self", "place"] [] (sp_BitReader_go K) := by
  obtain ⟨fd, F⟩ := T.d_BitReader_go
  exact ⟨fd, [], .nil, FunD.bindsN F fun _ _ _ _ _ _ us hl => match us, hl with | [_, _], _ => rfl, fn_BitReader_go T F, F.kp⟩
abbrev N_take_table : List Str := ["reader", "place", "found"]
theorem sc_take_table : FnScope N_take_table ["reader"] (defScope s_take_table) := ⟨rfl, rfl, rfl, by decide +kernel, rfl, by decide +kernel, by decide +kernel⟩
theorem wk_take_table {P : Program} {w : World} {K : PySem.W.Frag} {mg : Str → Option Value} {base : Heap} (T : Tx K mg) (O0 : DOk P w K mg base 1 (He.fAd K ("BitReader", some "place")) ["self"] [] (sp_BitReader_place K)) (O1 : DOk P w K mg base 4 (He.fAd K ("items_read", none)) ["reader"] [] (sp_items_read K)) (O2 : DOk P w K mg base 2 (He.fAd K ("BitReader", some "go")) ["self", "place"] [] (sp_BitReader_go K)) {f : Addr} {cdv : Value} {A : Around} {outer : List Env} {s : Shared} {H : Hp} {E : XK}
    (hr : Room 4 (A.deeper (envOfC "take_table" (defScope s_take_table) s.heap.objs.size f cdv))) :
    PSs (cxOf (L2.CX P w) P w K mg base N_take_table "take_table" (defScope s_take_table) f cdv A outer s H E) (defBody s_take_table) (t_take_table K (fun c d _ H2 => E c d H2)) := by
  obtain ⟨fd0, ds0, v0, b0, G0, q0⟩ := O0
  obtain ⟨fd1, ds1, v1, b1, G1, q1⟩ := O1
  obtain ⟨fd2, ds2, v2, b2, G2, q2⟩ := O2
  have hu1 := hu_of hr
  have hu64 := hr.units
  have tk : Takes (cxOf (L2.CX P w) P w K mg base N_take_table "take_table" (defScope s_take_table) f cdv A outer s H E) (fun c d _ H2 => E c d H2) := takes_of rfl rfl rfl rfl
  exact (pss_cons (ps_set (i := 1) sc_take_table.nd rfl (Or.inl rfl) (pe_mt0' (pv 0) T.c_BitReader T.m_BitReader_place G0 (hr.mono (by decide)) b0 v0 tk))
    (pss_cons (ps_try_thru0 (pss_one (ps_set (i := 2) sc_take_table.nd rfl (Or.inl rfl) (pe_cl G1 (hr.mono (by decide)) rfl T.g_items_read q1 b1 v1 takes0 (pa_cons (pv 0) pa_nil)))))
    (pss_cons (ps_if (pt_cmpR op_gtU (pe_callB cr_lenK (by rfl) T.f_len bb_len (pa_cons (pv 2) pa_nil)) (pe_gint rfl T.g_MANY) (nomark _)) (pss_cons (ps_expr (pe_mt' (pv 0) T.c_BitReader T.m_BitReader_go G2 (hr.mono (by decide)) b2 v2 tk (pa_cons (pv 1) pa_nil)))
    (pss_one (ps_rz rfl tk T.x_BadTable T.g_BadTable rfl))) pss_nil)
    (pss_one (ps_ret (pv 2))))))
theorem fn_take_table {P : Program} {w : World} {K : PySem.W.Frag} {mg : Str → Option Value} {base : Heap} (T : Tx K mg) {f : Addr} {fd : FuncData} (F : FunD K d_take_table.name d_take_table.qual d_take_table.params d_take_table.body d_take_table.scope (d_take_table.dvs K) (d_take_table.kws K) f fd) :
    FnOk P w K mg base (L2.CX P w) 5 f fd ["reader"] (sp_take_table K) :=
  F.ok sc_take_table (fun vs H Q E h => len_take_table h) (fun cdv A outer s H vs Q E hr h => ⟨t_take_table K (fun c d _ H2 => E c d H2), wk_take_table T (ok_BitReader_place_1 T) (ok_items_read_1 T) (ok_BitReader_go_2 T) hr, rd_take_table  h⟩)
theorem ok_take_table_1 {P : Program} {w : World} {K : PySem.W.Frag} {mg : Str → Option Value} {base : Heap} (T : Tx K mg) : DOk P w K mg base 5 (He.fAd K ("take_table", none)) ["reader"] [] (sp_take_table K) := by
  obtain ⟨fd, F⟩ := T.d_take_table
  exact ⟨fd, [], .nil, FunD.bindsN F fun _ _ _ _ _ _ us hl => match us, hl with | [_], _ => rfl, fn_take_table T F, F.kp⟩
abbrev N__law_whole : List Str := ["_law_found", "_law_one"]
theorem sc__law_whole : FnScope N__law_whole ["_law_found"] (defScope s__law_whole) := ⟨rfl, rfl, rfl, by decide +kernel, rfl, by decide +kernel, by decide +kernel⟩
theorem wk__law_whole {P : Program} {w : World} {K : PySem.W.Frag} {mg : Str → Option Value} {base : Heap} (T : Tx K mg)  {f : Addr} {cdv : Value} {A : Around} {outer : List Env} {s : Shared} {H : Hp} {E : XK}
    (hr : Room 0 (A.deeper (envOfC "_law_whole" (defScope s__law_whole) s.heap.objs.size f cdv))) :
    PSs (cxOf (L2.CX P w) P w K mg base N__law_whole "_law_whole" (defScope s__law_whole) f cdv A outer s H E) (defBody s__law_whole) (t__law_whole K (fun c d _ H2 => E c d H2)) := by
  have hu1 := hu_of hr
  have hu64 := hr.units
  have tk : Takes (cxOf (L2.CX P w) P w K mg base N__law_whole "_law_whole" (defScope s__law_whole) f cdv A outer s H E) (fun c d _ H2 => E c d H2) := takes_of rfl rfl rfl rfl
  exact (pss_one (ps_ret ((pe_and (pe_callB call_isi (by rfl) T.f_isinstance bb_isinstance (pa_cons (pv 0) (pa_cons (pe_bty rfl T.f_list bt_list) pa_nil))) (pe_one (pe_callB (cr_all rfl) (by rfl) T.f_all bb_all (pa_cons (pe_lc (own := [("_law_one", 1)]) rfl sc__law_whole.nd (pi_list (pv 0)) (blkOk_by (own := [("_law_one", 1)]) (N := N__law_whole) (sc := defScope s__law_whole) (by decide +kernel)) (fun _ _ _ _ _ => (pg_name (i := 1) sc__law_whole.nd rfl (Or.inl rfl))) (fun _ _ _ _ _ => pts_nil) (fun _ _ _ _ _ => ((pe_and (pe_callB call_isi (by rfl) T.f_isinstance bb_isinstance (pa_cons (pv 1) (pa_cons (pe_bty rfl T.f_int bt_int) pa_nil))) (pe_one (pe_not (pe_callB call_isi (by rfl) T.f_isinstance bb_isinstance (pa_cons (pv 1) (pa_cons (pe_bty rfl T.f_bool bt_bool) pa_nil))))))))) pa_nil)))))))
theorem fn__law_whole {P : Program} {w : World} {K : PySem.W.Frag} {mg : Str → Option Value} {base : Heap} (T : Tx K mg) {f : Addr} {fd : FuncData} (F : FunD K d__law_whole.name d__law_whole.qual d__law_whole.params d__law_whole.body d__law_whole.scope (d__law_whole.dvs K) (d__law_whole.kws K) f fd) :
    FnOk P w K mg base (L2.CX P w) 1 f fd ["_law_found"] (sp__law_whole K) :=
  F.ok sc__law_whole (fun vs H Q E h => len__law_whole h) (fun cdv A outer s H vs Q E hr h => ⟨t__law_whole K (fun c d _ H2 => E c d H2), wk__law_whole T  hr, rd__law_whole  h⟩)
theorem ok__law_whole_1 {P : Program} {w : World} {K : PySem.W.Frag} {mg : Str → Option Value} {base : Heap} (T : Tx K mg) : DOk P w K mg base 1 (He.fAd K ("_law_whole", none)) ["_law_found"] [] (sp__law_whole K) := by
  obtain ⟨fd, F⟩ := T.d__law_whole
  exact ⟨fd, [], .nil, FunD.bindsN F fun _ _ _ _ _ _ us hl => match us, hl with | [_], _ => rfl, fn__law_whole T F, F.kp⟩
abbrev N__law_taken : List Str := ["_law_script", "_law_table_here", "_law_items", "_law_lead", "_law_bits_here", "_law_number_here", "_law_size", "_law_row", "_law_told", "_law_reader", "_law_found"]
theorem sc__law_taken : FnScope N__law_taken ["_law_script", "_law_table_here", "_law_items"] (defScope s__law_taken) := ⟨rfl, rfl, rfl, by decide +kernel, rfl, by decide +kernel, by decide +kernel⟩
theorem wk__law_taken {P : Program} {w : World} {K : PySem.W.Frag} {mg : Str → Option Value} {base : Heap} (T : Tx K mg) (O0 : DOk P w K mg base 1 (He.fAd K ("_law_mixed", none)) ["_law_cell", "_law_k"] [] (sp__law_mixed K)) (O1 : DOk P w K mg base 1 (He.fAd K ("_law_cell_at", none)) ["_law_script", "_law_k"] [] (sp__law_cell_at K)) (O2 : DOk P w K mg base 1 (He.fAd K ("BitRow", some "__init__")) ["self"] [] (sp_BitRow___init__ K)) (O3 : DOk P w K mg base 3 (He.fAd K ("BitRow", some "put")) ["self", "number", "size"] [] (sp_BitRow_put K)) (O4 : DOk P w K mg base 4 (He.fAd K ("put_table", none)) ["bits", "lengths"] [] (sp_put_table K)) (O5 : DOk P w K mg base 1 (He.fAd K ("BitRow", some "many")) ["self"] [] (sp_BitRow_many K)) (O6 : DOk P w K mg base 1 (He.fAd K ("BitRow", some "row")) ["self"] [] (sp_BitRow_row K)) (O7 : DOk P w K mg base 2 (He.fAd K ("_law_read", none)) ["_law_bits_here", "_law_place"] [] (sp__law_read K)) (O8 : DOk P w K mg base 1 (He.fAd K ("_law_bits", none)) ["_law_row"] [] (sp__law_bits K)) (O9 : DOk P w K mg base 4 (He.fAd K ("BitReader", some "__init__")) ["self", "row"] [] (sp_BitReader___init__ K)) (O10 : DOk P w K mg base 3 (He.fAd K ("BitReader", some "take")) ["self", "size"] [] (sp_BitReader_take K)) (O11 : DOk P w K mg base 5 (He.fAd K ("take_table", none)) ["reader"] [] (sp_take_table K)) (O12 : DOk P w K mg base 1 (He.fAd K ("_law_whole", none)) ["_law_found"] [] (sp__law_whole K)) (O13 : DOk P w K mg base 1 (He.fAd K ("BitReader", some "left")) ["self"] [] (sp_BitReader_left K)) {f : Addr} {cdv : Value} {A : Around} {outer : List Env} {s : Shared} {H : Hp} {E : XK}
    (hr : Room 5 (A.deeper (envOfC "_law_taken" (defScope s__law_taken) s.heap.objs.size f cdv))) :
    PSs (cxOf (L2.CX P w) P w K mg base N__law_taken "_law_taken" (defScope s__law_taken) f cdv A outer s H E) (defBody s__law_taken) (t__law_taken K (fun c d _ H2 => E c d H2)) := by
  obtain ⟨fd0, ds0, v0, b0, G0, q0⟩ := O0
  obtain ⟨fd1, ds1, v1, b1, G1, q1⟩ := O1
  obtain ⟨fd2, ds2, v2, b2, G2, q2⟩ := O2
  obtain ⟨fd3, ds3, v3, b3, G3, q3⟩ := O3
  obtain ⟨fd4, ds4, v4, b4, G4, q4⟩ := O4
  obtain ⟨fd5, ds5, v5, b5, G5, q5⟩ := O5
  obtain ⟨fd6, ds6, v6, b6, G6, q6⟩ := O6
  obtain ⟨fd7, ds7, v7, b7, G7, q7⟩ := O7
  obtain ⟨fd8, ds8, v8, b8, G8, q8⟩ := O8
  obtain ⟨fd9, ds9, v9, b9, G9, q9⟩ := O9
  obtain ⟨fd10, ds10, v10, b10, G10, q10⟩ := O10
  obtain ⟨fd11, ds11, v11, b11, G11, q11⟩ := O11
  obtain ⟨fd12, ds12, v12, b12, G12, q12⟩ := O12
  obtain ⟨fd13, ds13, v13, b13, G13, q13⟩ := O13
  have hu1 := hu_of hr
  have hu64 := hr.units
  have tk : Takes (cxOf (L2.CX P w) P w K mg base N__law_taken "_law_taken" (defScope s__law_taken) f cdv A outer s H E) (fun c d _ H2 => E c d H2) := takes_of rfl rfl rfl rfl
  exact (pss_cons (ps_set (i := 3) sc__law_taken.nd rfl (Or.inl rfl) (pe_op op_modU (pe_cl G0 (hr.mono (by decide)) rfl T.g__law_mixed q0 b0 v0 tk (pa_cons (pe_cl G1 (hr.mono (by decide)) rfl T.g__law_cell_at q1 b1 v1 tk (pa_cons (pv 0) (pa_cons (pe_int) pa_nil))) (pa_cons (pe_int) pa_nil))) (pe_int)))
    (pss_cons (ps_set (i := 4) sc__law_taken.nd rfl (Or.inl rfl) (pe_mk0' T.k_BitRow G2 (hr.mono (by decide)) rfl T.g_BitRow b2 v2 tk))
    (pss_cons (ps_expr (pe_mt' (pv 4) T.c_BitRow T.m_BitRow_put G3 (hr.mono (by decide)) b3 v3 tk (pa_cons (pe_op op_modU (pv 3) (pe_int)) (pa_cons (pe_op op_addU (pe_int) (pv 3)) pa_nil))))
    (Evl.pss_cut (ps_if (pt_cmpR op_isU (pv 2) (pe_non) (nomark _)) (pss_one (ps_if (pt_cmpR op_notU (pe_cl G4 (hr.mono (by decide)) rfl T.g_put_table q4 b4 v4 tk (pa_cons (pv 4) (pa_cons (pv 1) pa_nil))) (pe_non) (nomark _)) (pss_one (ps_ret (pe_bl))) pss_nil)) (pss_one (ps_for (passes_of rfl) rfl (pi_list (pv 2)) (pg_tup rfl (pgs_cons (pg_name (i := 5) sc__law_taken.nd rfl (Or.inl rfl)) (pgs_cons (pg_name (i := 6) sc__law_taken.nd rfl (Or.inl rfl)) pgs_nil))) (pss_one (ps_expr (pe_mt' (pv 4) T.c_BitRow T.m_BitRow_put G3 (hr.mono (by decide)) b3 v3 tk (pa_cons (pv 5) (pa_cons (pv 6) pa_nil))))))))
    (pss_cons (ps_set (i := 6) sc__law_taken.nd rfl (Or.inl rfl) (pe_mt0' (pv 4) T.c_BitRow T.m_BitRow_many G5 (hr.mono (by decide)) b5 v5 tk))
    (pss_cons (ps_expr (pe_mt' (pv 4) T.c_BitRow T.m_BitRow_put G3 (hr.mono (by decide)) b3 v3 tk (pa_cons (pe_int) (pa_cons (pe_int) pa_nil))))
    (pss_cons (ps_set (i := 7) sc__law_taken.nd rfl (Or.inl rfl) (pe_mt0' (pv 4) T.c_BitRow T.m_BitRow_row G6 (hr.mono (by decide)) b6 v6 tk))
    (pss_cons (ps_set (i := 8) sc__law_taken.nd rfl (Or.inl rfl) (pe_cl G7 (hr.mono (by decide)) rfl T.g__law_read q7 b7 v7 tk (pa_cons (pe_cl G8 (hr.mono (by decide)) rfl T.g__law_bits q8 b8 v8 tk (pa_cons (pv 7) pa_nil)) (pa_cons (pe_op op_addU (pe_int) (pv 3)) pa_nil))))
    (pss_cons (ps_if (PW.pt (pw_or (pt_cmpR op_isU (pv 8) (pe_non) (nomark _)) (pw_or (pt_cmpR (op_neU hu64) (pe_ix ix_seq (pv 8) (pe_int) (fun _ _ => rfl)) (pv 1) (nomark _)) (pw_or1 (pt_cmpR (op_neU hu64) (pe_ix ix_seq (pv 8) (pe_int) (fun _ _ => rfl)) (pv 6) (nomark _)))))) (pss_one (ps_ret (pe_bl))) pss_nil)
    (pss_cons (ps_set (i := 9) sc__law_taken.nd rfl (Or.inl rfl) (pe_mk' T.k_BitReader G9 (hr.mono (by decide)) rfl T.g_BitReader b9 v9 tk (pa_cons (pv 7) pa_nil)))
    (pss_cons (ps_expr (pe_mt' (pv 9) T.c_BitReader T.m_BitReader_take G10 (hr.mono (by decide)) b10 v10 tk (pa_cons (pe_op op_addU (pe_int) (pv 3)) pa_nil)))
    (pss_cons (ps_set (i := 10) sc__law_taken.nd rfl (Or.inl rfl) (pe_cl G11 (hr.mono (by decide)) rfl T.g_take_table q11 b11 v11 tk (pa_cons (pv 9) pa_nil)))
    (pss_cons (ps_if (PW.pt (pw_or (pt_not (pt_val (pe_cl G12 (hr.mono (by decide)) rfl T.g__law_whole q12 b12 v12 tk (pa_cons (pv 10) pa_nil)))) (pw_or (pt_cmpR (op_neU hu64) (pv 10) (pv 1) (nomark _)) (pw_or1 (pt_cmpR (op_neU hu64) (pe_mt0' (pv 9) T.c_BitReader T.m_BitReader_left G13 (hr.mono (by decide)) b13 v13 tk) (pe_op op_subU (pe_op op_mulU (pe_int) (pe_callB cr_lenK (by rfl) T.f_len bb_len (pa_cons (pv 7) pa_nil))) (pv 6)) (nomark _)))))) (pss_one (ps_ret (pe_bl))) pss_nil)
    (pss_cons (ps_expr (pe_bm0 PySem.F.plainAttrs_list PySem.F.slot_list_clear PySem.F.type_list_clear mt_clear (pv 10)))
    (pss_one (ps_ret (pe_cmpR (op_eqU hu64) (pe_mt' (pv 9) T.c_BitReader T.m_BitReader_take G10 (hr.mono (by decide)) b10 v10 tk (pa_cons (pe_int) pa_nil)) (pe_int) (nomark _))))))))))))))))))
theorem fn__law_taken {P : Program} {w : World} {K : PySem.W.Frag} {mg : Str → Option Value} {base : Heap} (T : Tx K mg) {f : Addr} {fd : FuncData} (F : FunD K d__law_taken.name d__law_taken.qual d__law_taken.params d__law_taken.body d__law_taken.scope (d__law_taken.dvs K) (d__law_taken.kws K) f fd) :
    FnOk P w K mg base (L2.CX P w) 6 f fd ["_law_script", "_law_table_here", "_law_items"] (sp__law_taken K) :=
  F.ok sc__law_taken (fun vs H Q E h => len__law_taken h) (fun cdv A outer s H vs Q E hr h => ⟨t__law_taken K (fun c d _ H2 => E c d H2), wk__law_taken T (ok__law_mixed_2 T) (ok__law_cell_at_2 T) (ok_BitRow___init___1 T) (ok_BitRow_put_3 T) (ok_put_table_2 T) (ok_BitRow_many_1 T) (ok_BitRow_row_1 T) (ok__law_read_2 T) (ok__law_bits_1 T) (ok_BitReader___init___2 T) (ok_BitReader_take_2 T) (ok_take_table_1 T) (ok__law_whole_1 T) (ok_BitReader_left_1 T) hr, rd__law_taken (of_KBitRow T) (of_KBitReader T) h⟩)
theorem ok__law_taken_3 {P : Program} {w : World} {K : PySem.W.Frag} {mg : Str → Option Value} {base : Heap} (T : Tx K mg) : DOk P w K mg base 6 (He.fAd K ("_law_taken", none)) ["_law_script", "_law_table_here", "_law_items"] [] (sp__law_taken K) := by
  obtain ⟨fd, F⟩ := T.d__law_taken
  exact ⟨fd, [], .nil, FunD.bindsN F fun _ _ _ _ _ _ us hl => match us, hl with | [_, _, _], _ => rfl, fn__law_taken T F, F.kp⟩
abbrev N__law_long_items : List Str := ["_law_table_here", "_law_number_here", "_law_found", "_law_place", "_law_last", "_law_many"]
theorem sc__law_long_items : FnScope N__law_long_items ["_law_table_here", "_law_number_here"] (defScope s__law_long_items) := ⟨rfl, rfl, rfl, by decide +kernel, rfl, by decide +kernel, by decide +kernel⟩
theorem wk__law_long_items {P : Program} {w : World} {K : PySem.W.Frag} {mg : Str → Option Value} {base : Heap} (T : Tx K mg)  {f : Addr} {cdv : Value} {A : Around} {outer : List Env} {s : Shared} {H : Hp} {E : XK}
    (hr : Room 0 (A.deeper (envOfC "_law_long_items" (defScope s__law_long_items) s.heap.objs.size f cdv))) :
    PSs (cxOf (L2.CX P w) P w K mg base N__law_long_items "_law_long_items" (defScope s__law_long_items) f cdv A outer s H E) (defBody s__law_long_items) (t__law_long_items K (fun c d _ H2 => E c d H2)) := by
  have hu1 := hu_of hr
  have hu64 := hr.units
  have tk : Takes (cxOf (L2.CX P w) P w K mg base N__law_long_items "_law_long_items" (defScope s__law_long_items) f cdv A outer s H E) (fun c d _ H2 => E c d H2) := takes_of rfl rfl rfl rfl
  exact (pss_cons (ps_set (i := 2) sc__law_long_items.nd rfl (Or.inl rfl) (pe_lst pa_nil))
    (pss_cons (ps_set (i := 3) sc__law_long_items.nd rfl (Or.inl rfl) (pe_int))
    (pss_cons (ps_set (i := 4) sc__law_long_items.nd rfl (Or.inl rfl) (pe_int))
    (pss_cons (ps_while (passes_of rfl) (pt_cmpR op_ltU (pv 3) (pe_int) (nomark _)) (pss_cons (ps_set (i := 5) sc__law_long_items.nd rfl (Or.inl rfl) (pe_int))
    (Evl.pss_cut (ps_while (passes_of rfl) (PW.pt (pw_and (pt_cmpR op_ltU (pe_op op_addU (pv 3) (pv 5)) (pe_int) (nomark _)) (pw_and (pt_cmpR op_ltU (pv 5) (pe_int) (nomark _)) (pw_and1 (pt_cmpR (op_eqU hu64) (pe_ix ix_seq (pv 0) (pe_op op_addU (pv 3) (pv 5)) (fun _ _ => rfl)) (pv 4) (nomark _)))))) (pss_one (ps_aug (i := 5) sc__law_long_items.nd rfl (Or.inl rfl) (pe_int) ip_addU)))
    (pss_cons (ps_set (i := 1) sc__law_long_items.nd rfl (Or.inl rfl) (pe_op op_modU (pe_op op_mulU (pv 1) (pe_int)) (pe_int)))
    (pss_one (ps_if (PW.pt (pw_and (pt_cmpR op_gtU (pv 5) (pe_int) (nomark _)) (pw_and1 (pt_cmpR op_gtU (pe_op op_modU (pv 1) (pe_int)) (pe_int) (nomark _))))) (pss_cons (ps_set (i := 5) sc__law_long_items.nd rfl (Or.inl rfl) (pe_op op_addU (pe_int) (pe_op op_modU (pe_op op_divU (pv 1) (pe_int)) (pe_op op_subU (pv 5) (pe_int)))))
    (pss_cons (ps_aug (i := 2) sc__law_long_items.nd rfl (Or.inl rfl) (pe_lst (pa_cons (pe_tup (pa_cons (pe_int) (pa_cons (pe_int) pa_nil))) (pa_cons (pe_tup (pa_cons (pe_op op_subU (pv 5) (pe_int)) (pa_cons (pe_int) pa_nil))) pa_nil))) ip_addU)
    (pss_one (ps_aug (i := 3) sc__law_long_items.nd rfl (Or.inl rfl) (pv 5) ip_addU)))) (pss_cons (ps_set (i := 4) sc__law_long_items.nd rfl (Or.inl rfl) (pe_ix ix_seq (pv 0) (pv 3) (fun _ _ => rfl)))
    (pss_cons (ps_expr (pe_bm PySem.F.plainAttrs_list PySem.F.slot_list_append PySem.F.type_list_append mt_append (pv 2) (pa_cons (pe_tup (pa_cons (pv 4) (pa_cons (pe_int) pa_nil))) pa_nil)))
    (pss_one (ps_aug (i := 3) sc__law_long_items.nd rfl (Or.inl rfl) (pe_int) ip_addU))))))))))
    (pss_one (ps_ret (pv 2)))))))
theorem fn__law_long_items {P : Program} {w : World} {K : PySem.W.Frag} {mg : Str → Option Value} {base : Heap} (T : Tx K mg) {f : Addr} {fd : FuncData} (F : FunD K d__law_long_items.name d__law_long_items.qual d__law_long_items.params d__law_long_items.body d__law_long_items.scope (d__law_long_items.dvs K) (d__law_long_items.kws K) f fd) :
    FnOk P w K mg base (L2.CX P w) 1 f fd ["_law_table_here", "_law_number_here"] (sp__law_long_items K) :=
  F.ok sc__law_long_items (fun vs H Q E h => len__law_long_items h) (fun cdv A outer s H vs Q E hr h => ⟨t__law_long_items K (fun c d _ H2 => E c d H2), wk__law_long_items T  hr, rd__law_long_items  h⟩)
theorem ok__law_long_items_2 {P : Program} {w : World} {K : PySem.W.Frag} {mg : Str → Option Value} {base : Heap} (T : Tx K mg) : DOk P w K mg base 1 (He.fAd K ("_law_long_items", none)) ["_law_table_here", "_law_number_here"] [] (sp__law_long_items K) := by
  obtain ⟨fd, F⟩ := T.d__law_long_items
  exact ⟨fd, [], .nil, FunD.bindsN F fun _ _ _ _ _ _ us hl => match us, hl with | [_, _], _ => rfl, fn__law_long_items T F, F.kp⟩
abbrev N_law : List Str := ["_law_script", "_law_table_here", "_law_handed", "_law_one", "_law_other", "_law_told", "_law_again", "_law_bits_here"]
theorem sc_law : FnScope N_law ["_law_script"] (defScope s_law) := ⟨rfl, rfl, rfl, by decide +kernel, rfl, by decide +kernel, by decide +kernel⟩
theorem wk_law {P : Program} {w : World} {K : PySem.W.Frag} {mg : Str → Option Value} {base : Heap} (T : Tx K mg) (O0 : DOk P w K mg base 2 (He.fAd K ("_law_table", none)) ["_law_script", "_law_first"] [] (sp__law_table K)) (O1 : DOk P w K mg base 1 (He.fAd K ("BitRow", some "__init__")) ["self"] [] (sp_BitRow___init__ K)) (O2 : DOk P w K mg base 4 (He.fAd K ("put_table", none)) ["bits", "lengths"] [] (sp_put_table K)) (O3 : DOk P w K mg base 2 (He.fAd K ("_law_read", none)) ["_law_bits_here", "_law_place"] [] (sp__law_read K)) (O4 : DOk P w K mg base 1 (He.fAd K ("_law_bits", none)) ["_law_row"] [] (sp__law_bits K)) (O5 : DOk P w K mg base 1 (He.fAd K ("BitRow", some "row")) ["self"] [] (sp_BitRow_row K)) (O6 : DOk P w K mg base 1 (He.fAd K ("BitRow", some "many")) ["self"] [] (sp_BitRow_many K)) (O7 : DOk P w K mg base 6 (He.fAd K ("_law_taken", none)) ["_law_script", "_law_table_here", "_law_items"] [] (sp__law_taken K)) (O8 : DOk P w K mg base 1 (He.fAd K ("_law_long_items", none)) ["_law_table_here", "_law_number_here"] [] (sp__law_long_items K)) (O9 : DOk P w K mg base 1 (He.fAd K ("_law_cell_at", none)) ["_law_script", "_law_k"] [] (sp__law_cell_at K)) {f : Addr} {cdv : Value} {A : Around} {outer : List Env} {s : Shared} {H : Hp} {E : XK}
    (hr : Room 6 (A.deeper (envOfC "law" (defScope s_law) s.heap.objs.size f cdv))) :
    PSs (cxOf (L2.CX P w) P w K mg base N_law "law" (defScope s_law) f cdv A outer s H E) (defBody s_law) (t_law K (fun c d _ H2 => E c d H2)) := by
  obtain ⟨fd0, ds0, v0, b0, G0, q0⟩ := O0
  obtain ⟨fd1, ds1, v1, b1, G1, q1⟩ := O1
  obtain ⟨fd2, ds2, v2, b2, G2, q2⟩ := O2
  obtain ⟨fd3, ds3, v3, b3, G3, q3⟩ := O3
  obtain ⟨fd4, ds4, v4, b4, G4, q4⟩ := O4
  obtain ⟨fd5, ds5, v5, b5, G5, q5⟩ := O5
  obtain ⟨fd6, ds6, v6, b6, G6, q6⟩ := O6
  obtain ⟨fd7, ds7, v7, b7, G7, q7⟩ := O7
  obtain ⟨fd8, ds8, v8, b8, G8, q8⟩ := O8
  obtain ⟨fd9, ds9, v9, b9, G9, q9⟩ := O9
  have hu1 := hu_of hr
  have hu64 := hr.units
  have tk : Takes (cxOf (L2.CX P w) P w K mg base N_law "law" (defScope s_law) f cdv A outer s H E) (fun c d _ H2 => E c d H2) := takes_of rfl rfl rfl rfl
  exact (pss_cons (ps_if (pt_cmpR (op_neU hu64) (pe_gint rfl T.g_MANY) (pe_int) (nomark _)) (pss_one (ps_ret (pe_bl))) pss_nil)
    (pss_cons (ps_set (i := 1) sc_law.nd rfl (Or.inl rfl) (pe_cl G0 (hr.mono (by decide)) rfl T.g__law_table q0 b0 v0 tk (pa_cons (pv 0) (pa_cons (pe_int) pa_nil))))
    (pss_cons (ps_set (i := 2) sc_law.nd rfl (Or.inl rfl) (pe_callTy cr_listK (by rfl) T.f_list bt_list (pa_cons (pv 1) pa_nil)))
    (pss_cons (ps_set (i := 3) sc_law.nd rfl (Or.inl rfl) (pe_mk0' T.k_BitRow G1 (hr.mono (by decide)) rfl T.g_BitRow b1 v1 tk))
    (pss_cons (ps_set (i := 4) sc_law.nd rfl (Or.inl rfl) (pe_mk0' T.k_BitRow G1 (hr.mono (by decide)) rfl T.g_BitRow b1 v1 tk))
    (pss_cons (ps_expr (pe_cl G2 (hr.mono (by decide)) rfl T.g_put_table q2 b2 v2 tk (pa_cons (pv 3) (pa_cons (pv 2) pa_nil))))
    (pss_cons (ps_expr (pe_bm0 PySem.F.plainAttrs_list PySem.F.slot_list_reverse PySem.F.type_list_reverse mt_reverse (pv 2)))
    (pss_cons (ps_expr (pe_cl G2 (hr.mono (by decide)) rfl T.g_put_table q2 b2 v2 tk (pa_cons (pv 4) (pa_cons (pv 2) pa_nil))))
    (pss_cons (ps_setLc (i := 5) (own := [("_law_bits_here", 7)]) rfl sc_law.nd rfl rfl (sw_true rfl rfl rfl (by decide +kernel)) (pi_tup (pe_tup (pa_cons (pv 3) (pa_cons (pv 4) pa_nil)))) (blkOk_by (own := [("_law_bits_here", 7)]) (N := N_law) (sc := defScope s_law) (by decide +kernel)) (fun _ _ _ _ _ => (pg_name (i := 7) sc_law.nd rfl (Or.inl rfl))) (fun _ _ _ _ _ => pts_nil) (fun _ _ _ _ _ => (pe_cl G3 (hr.mono (by decide)) rfl T.g__law_read q3 b3 v3 takes0 (pa_cons (pe_cl G4 (hr.mono (by decide)) rfl T.g__law_bits q4 b4 v4 takes0 (pa_cons (pe_mt0' (pv 7) T.c_BitRow T.m_BitRow_row G5 (hr.mono (by decide)) b5 v5 takes0) pa_nil)) (pa_cons (pe_int) pa_nil)))))
    (pss_cons (ps_if (PW.pt (pw_or (pt_cmpR op_isU (pe_ix ix_seq (pv 5) (pe_int) (fun _ _ => rfl)) (pe_non) (nomark _)) (pw_or (pt_cmpR (op_neU hu64) (pe_ix ix_seq (pe_ix ix_seq (pv 5) (pe_int) (fun _ _ => rfl)) (pe_int) (fun _ _ => rfl)) (pv 1) (nomark _)) (pw_or (pt_cmpR op_isU (pe_ix ix_seq (pv 5) (pe_int) (fun _ _ => rfl)) (pe_non) (nomark _)) (pw_or1 (pt_cmpR (op_neU hu64) (pe_ix ix_seq (pe_ix ix_seq (pv 5) (pe_int) (fun _ _ => rfl)) (pe_int) (fun _ _ => rfl)) (pe_revL (pv 1)) (nomark _))))))) (pss_one (ps_ret (pe_bl))) pss_nil)
    (pss_cons (ps_set (i := 6) sc_law.nd rfl (Or.inl rfl) (pe_mk0' T.k_BitRow G1 (hr.mono (by decide)) rfl T.g_BitRow b1 v1 tk))
    (pss_cons (ps_expr (pe_cl G2 (hr.mono (by decide)) rfl T.g_put_table q2 b2 v2 tk (pa_cons (pv 6) (pa_cons (pv 1) pa_nil))))
    (pss_cons (ps_if (PW.pt (pw_or (pt_cmpR (op_neU hu64) (pv 2) (pe_revL (pv 1)) (nomark _)) (pw_or (pt_cmpR (op_neU hu64) (pe_mt0' (pv 6) T.c_BitRow T.m_BitRow_row G5 (hr.mono (by decide)) b5 v5 tk) (pe_mt0' (pv 3) T.c_BitRow T.m_BitRow_row G5 (hr.mono (by decide)) b5 v5 tk) (nomark _)) (pw_or1 (pt_cmpR (op_neU hu64) (pe_mt0' (pv 6) T.c_BitRow T.m_BitRow_many G6 (hr.mono (by decide)) b6 v6 tk) (pe_mt0' (pv 3) T.c_BitRow T.m_BitRow_many G6 (hr.mono (by decide)) b6 v6 tk) (nomark _)))))) (pss_one (ps_ret (pe_bl))) pss_nil)
    (pss_cons (ps_if (pt_not (pt_val (pe_cl G7 (hr.mono (by decide)) rfl T.g__law_taken q7 b7 v7 tk (pa_cons (pv 0) (pa_cons (pv 1) (pa_cons (pe_non) pa_nil)))))) (pss_one (ps_ret (pe_bl))) pss_nil)
    (pss_one (ps_ret (pe_cl G7 (hr.mono (by decide)) rfl T.g__law_taken q7 b7 v7 tk (pa_cons (pv 0) (pa_cons (pv 1) (pa_cons (pe_cl G8 (hr.mono (by decide)) rfl T.g__law_long_items q8 b8 v8 tk (pa_cons (pv 1) (pa_cons (pe_op op_addU (pe_int) (pe_op op_modU (pe_callB cr_absK (by rfl) T.f_abs bb_abs (pa_cons (pe_cl G9 (hr.mono (by decide)) rfl T.g__law_cell_at q9 b9 v9 tk (pa_cons (pv 0) (pa_cons (pe_int) pa_nil))) pa_nil)) (pe_int))) pa_nil))) pa_nil))))))))))))))))))))
theorem fn_law {P : Program} {w : World} {K : PySem.W.Frag} {mg : Str → Option Value} {base : Heap} (T : Tx K mg) {f : Addr} {fd : FuncData} (F : FunD K d_law.name d_law.qual d_law.params d_law.body d_law.scope (d_law.dvs K) (d_law.kws K) f fd) :
    FnOk P w K mg base (L2.CX P w) 7 f fd ["_law_script"] (sp_law K) :=
  F.ok sc_law (fun vs H Q E h => len_law h) (fun cdv A outer s H vs Q E hr h => ⟨t_law K (fun c d _ H2 => E c d H2), wk_law T (ok__law_table_2 T) (ok_BitRow___init___1 T) (ok_put_table_2 T) (ok__law_read_2 T) (ok__law_bits_1 T) (ok_BitRow_row_1 T) (ok_BitRow_many_1 T) (ok__law_taken_3 T) (ok__law_long_items_2 T) (ok__law_cell_at_2 T) hr, rd_law (of_KBitRow T) (of_KBitReader T) h⟩)
end L2.BW
namespace L2.BW
open PySem PySem.Spec PyProof.Rows
theorem calmly {P : Program} {w : World} {K : PySem.W.Frag} {mg : Str → Option Value} {base : Heap} {k : Nat} {f : Addr} {fd : FuncData} {ps : List Str} {sp : Sp}
    (hE : ∀ vs H Q E, sp vs H Q E → sp vs H Q fun _ _ _ => False) (F : FnOk P w K mg base (L2.CX P w) k f fd ps sp) : FnOk P w K mg base CX0 k f fd ps sp :=
  ⟨F.len, fun A outer s H args us vs Q E hr he hb hv hs => codeAny_mono (F.run A outer s H args us vs Q _ hr he hb hv (hE _ _ _ _ hs)) fun r s' z => by
    match r, z with
    | .error e, z =>
      obtain ⟨_, _, _, _, _, _, _, _, _, _, _, _, z⟩ := z
      exact z.elim
    | .ok (.ret u), z => exact z⟩
end L2.BW
open PySem PySem.W PySem.Calls PyProof.Rows
theorem PySem.Challenge.cw_balepress_k11_tables_told_and_taken_holds : PySem.Challenge.rw_balepress_k11_tables_told_and_taken.Holds := by
  w_on; o_law
  refine HandSHeadRun.head_any (r := OpenLaw.row PySem.Challenge.rw_balepress_k11_tables_told_and_taken) (q := view (OpenLaw.row PySem.Challenge.rw_balepress_k11_tables_told_and_taken).prog [42]) (H := L2.BH.hk) (ob := L2.BH.ob) (M := 40000) (loose := L2.BH.loose) (d := HandSHeadRun.topDef (OpenLaw.row PySem.Challenge.rw_balepress_k11_tables_told_and_taken).prog 42) (kwd := [])
    L2.BH.ob_eq (by kernel_rfl) (fun s => by kernel_rfl) L2.BH.run (by kernel_rfl) (by kernel_rfl) (by kernel_rfl) (by rfl) (by first | assumption | decide +kernel) (by decide +kernel)
    ⟨rfl, rfl, rfl, rfl, rfl, by decide +kernel⟩ ?hw ?hc
  case hw => w_witness2
  case hc =>
    refine L2.walk_ofE (l := PySem.Challenge.rw_balepress_k11_tables_told_and_taken) (n := 63) (k := 7) (x := "_law_script") (CX := L2.CX0) rfl (by decide) (by kernel_rfl) ⟨rfl, by decide, by decide⟩ ?F (fun _ _ _ _ z => z)
    intro w mg fa h Y G hmg0
    obtain ⟨K, KX, c⟩ := Y
    have hmg : mg ("law" : PySem.Str) = some (.ref fa) := by
      have e : (HandSHeadRun.topDef (OpenLaw.row PySem.Challenge.rw_balepress_k11_tables_told_and_taken).prog 42).name = ("law" : PySem.Str) := by kernel_rfl
      exact e ▸ hmg0
    have T := L2.BW.tx_of KX G c
    obtain ⟨fd, F⟩ := T.d_law
    have e := hmg.symm.trans T.g_law
    cases e
    have b := L2.FunD.bindsA (ps := ["_law_script"]) F fun _ _ _ _ _ _ us hl => match us, hl with | [_], _ => rfl
    exact ⟨K, fd, L2.BR.sp_law K, KX, fun s v => b s [v] rfl, fun H a ns hl _ hS => ⟨a, ns, rfl, hS, hl, fun _ => rfl⟩, fun base _ _ => L2.BW.calmly (fun _ _ _ _ h => h) (L2.BW.fn_law T F)⟩
