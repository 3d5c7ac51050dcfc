import PyProof.Rows.All
import Wide.All
import OpenK.AllK
import Wide.FinOn
import HandS.ForMost
import HandS.ForExc
import HandS.Defaults
import HandS.CallSlots
import HandS.IsInst
import HandS.Style
import HandS.Small
import HandS.Conv
import HandS.TryElse
import HandS.HeadHook2
import HandS.Evl
import HandS.Zip
import HandS.Text
import KE.KStateDown
import Lean
import HandS.HeadEnd
import HandS.Head0
import HandS.Head1
import HandS.Head2
import HandS.HeadHook1
import PySem.Challenge.RW_balepress_k05_whole_changes_told
set_option Elab.async false
set_option linter.all false
set_option maxRecDepth 100000
set_option maxHeartbeats 0
/-! BLib: rules that take several kinds of values at once, calls that may let an error out at the caller's slots, and a picture of the heap as a list of own objects over a base. -/
namespace L2.BP
open PySem PySem.Spec PyProof.Rows
section
variable {X : Cx}
/-! ### operators, by kinds -/
def rAddStr : R2 := fun x y H Q => ∃ i j, x = .str i ∧ y = .str j ∧ i.length + j.length ≤ sizeLine ∧ Q (.str (i ++ j)) H
def rAddI : R2 := rI0 fun i j => .int (i + j)
def rAddU : R2 := fun x y H Q => rAddI x y H Q ∨ rAddStr x y H Q ∨ rCat x y H Q
theorem op_addU : OpR X (binaryOp .Add) rAddU := OpR.or op_add (OpR.or op_add_str op_cat)
def rSubU : R2 := rI0 fun i j => .int (i - j)
theorem op_subU : OpR X (binaryOp .Sub) rSubU := op_sub
def rMulI : R2 := rI CMul fun i j => .int (i * j)
def rMulU : R2 := fun x y H Q => rMulI x y H Q ∨ rRep x y H Q
theorem op_mulU : OpR X (binaryOp .Mult) rMulU := OpR.or op_mul op_rep
def rDivU : R2 := rI CDiv fun i j => .int (i / j)
theorem op_divU : OpR X (binaryOp .FloorDiv) rDivU := op_fdiv
def rModU : R2 := rI (fun _ j => 0 < j) fun i j => .int (i % j)
theorem op_modU : OpR X (binaryOp .Mod) rModU := op_mod
def rPowU : R2 := rI CPow fun i j => .int (i ^ j.toNat)
theorem op_powU : OpR X (binaryOp .Pow) rPowU := op_pow
def rShlU : R2 := rI CPow fun i j => .int (i * 2 ^ j.toNat)
theorem op_shlU : OpR X (binaryOp .LShift) rShlU := op_shl
def rShrU : R2 := rI (fun _ j => 0 ≤ j) fun i j => .int (i / 2 ^ j.toNat)
theorem op_shrU : OpR X (binaryOp .RShift) rShrU := op_shr
def rAndU : R2 := rI0 fun i j => .int (Builtin.bitAnd i j)
theorem op_andU : OpR X (binaryOp .BitAnd) rAndU := op_and
def rOrU : R2 := rI0 fun i j => .int (Builtin.bitOr i j)
theorem op_orU : OpR X (binaryOp .BitOr) rOrU := op_or
def rXorU : R2 := rI0 fun i j => .int (Builtin.bitXor i j)
theorem op_xorU : OpR X (binaryOp .BitXor) rXorU := op_xor
def rNegU : V → Hp → VK → Prop := rU fun i => .int (-i)
theorem un_negU : UnR X (unaryOp .USub) rNegU := un_neg
def rLtU : R2 := rI0 fun i j => .bl (decide (i < j))
theorem op_ltU : OpR X (compareOp .Lt) rLtU := op_lt
def rLeU : R2 := rI0 fun i j => .bl (decide (i ≤ j))
theorem op_leU : OpR X (compareOp .LtE) rLeU := op_le
def rGtU : R2 := rI0 fun i j => .bl (decide (j < i))
theorem op_gtU : OpR X (compareOp .Gt) rGtU := op_gt
def rGeU : R2 := rI0 fun i j => .bl (decide (j ≤ i))
theorem op_geU : OpR X (compareOp .GtE) rGeU := op_ge
def rEqU (K : PySem.W.Frag) : R2 := fun x y H Q => rEq x y H Q ∨ rEqD K x y H Q
theorem op_eqU (hu : X.A.units + 64 < cLine) : OpR X (compareOp .Eq) (rEqU X.K) := OpR.or op_eq (op_eqD hu)
def rNeU (K : PySem.W.Frag) : R2 := fun x y H Q => rNe x y H Q ∨ rNeD K x y H Q
theorem op_neU (hu : X.A.units + 64 < cLine) : OpR X (compareOp .NotEq) (rNeU X.K) := OpR.or op_ne (op_neD hu)
def rInStr : R2 := fun x y H Q => ∃ i j, x = .str i ∧ y = .str j ∧ Q (.bl (!(Builtin.Str.occurrences j i 0 j.length 1).isEmpty)) H
def rNiStr : R2 := fun x y H Q => ∃ i j, x = .str i ∧ y = .str j ∧ Q (.bl (!(!(Builtin.Str.occurrences j i 0 j.length 1).isEmpty))) H
def rInU (K : PySem.W.Frag) : R2 := fun x y H Q => rIn K false x y H Q ∨ rInStr x y H Q
theorem op_inU : OpR X (compareOp .In) (rInU X.K) := OpR.or op_in_seq op_in_str
def rNiU (K : PySem.W.Frag) : R2 := fun x y H Q => rIn K true x y H Q ∨ rNiStr x y H Q
theorem op_niU : OpR X (compareOp .NotIn) (rNiU X.K) := OpR.or op_notIn_seq op_notIn_str
def rIsNo : R2 := fun x y H Q => y = .non ∧ Q (.bl (decide (x = .non))) H
def rNotNo : R2 := fun x y H Q => y = .non ∧ Q (.bl (!decide (x = .non))) H
def rIsU : R2 := fun x y H Q => rIsNo x y H Q ∨ rIsB x y H Q
theorem op_isU : OpR X (compareOp .Is) rIsU := OpR.or op_isN op_isBl
def rNotU : R2 := fun x y H Q => rNotNo x y H Q ∨ rNotB x y H Q
theorem op_notU : OpR X (compareOp .IsNot) rNotU := OpR.or op_notN op_notBl
/-! ### in place -/
def ipAddI : TIp := ipI fun i j => i + j
def ipAddU : TIp := fun x y H Q => ipAddI x y H Q ∨ rExt2 x y H Q ∨ rAddStr x y H Q
theorem ip_addU : PIp X .Add ipAddU := fun pins s σ H x y v u Q I rx ry h => by
  rcases h with h | h | h
  · exact ip_add pins s σ H x y v u Q I rx ry h
  · exact iop_ext pins s σ H x y v u Q I rx ry h
  · exact iop_add_str pins s σ H x y v u Q I rx ry h
def ipSubU : TIp := ipI fun i j => i - j
theorem ip_subU : PIp X .Sub ipSubU := ip_sub
/-! ### slices, walks -/

end
end L2.BP
namespace L2.BP
open PySem PySem.Spec PyProof.Rows
/-! ### calls that may let an error out, wished for at the caller's slots -/
section
variable {X : Cx} {k : Nat} {f C : Addr} {fd : FuncData} {ps : List Str} {sp : Sp} {dvs : List V} {ds : List Value} {W : WX} {x m : Str} {p pos apos : Pos} {e o : Expr} {es : List Expr} {ta : TE} {t : TA}
/-- f(e, ..) -/
def tCl (sp : Sp) (dvs : List V) (W : WX) (t : TA) : TE := fun σ H Q => t σ H fun vs H1 => sp (vs ++ dvs) H1 Q fun c d H2 => W c d σ H2
theorem pe_cl (F : FnOk X.prog X.w X.K X.mg X.base (L2.CX X.prog X.w) k f fd ps sp) (hr : Room k X.A) (hg : Gl X x) (hm : X.mg x = some (.ref f)) (hk : PySem.W.keepIn X.K (.ref f) = true)
    (hb : Binds X.K fd ps ds) (hd : Vals dvs ds) (tk : Takes X W) (ha : PA X (e :: es) t) (hdb : (x == ("__debug__" : Str)) = false := by decide)
    (he : starEach (e :: es) X.env = (false, eval e X.env) :: starEach es X.env := by rfl) (hpl : (backTo pos (starEach es X.env)).any (·.1) = false := by rfl) :
    PE X (.Call (.Name x p) (e :: es) [] pos) (tCl sp dvs W t) :=
  pe_callSD (E := WE W) F hr hg hm hk hb hd (fun σ => passAt tk σ) ha hdb he hpl
theorem pe_cl0 (F : FnOk X.prog X.w X.K X.mg X.base (L2.CX X.prog X.w) k f fd ps sp) (hr : Room k X.A) (hg : Gl X x) (hm : X.mg x = some (.ref f)) (hk : PySem.W.keepIn X.K (.ref f) = true)
    (hb : Binds X.K fd ps ds) (hd : Vals dvs ds) (tk : Takes X W) (hdb : (x == ("__debug__" : Str)) = false := by decide) :
    PE X (.Call (.Name x p) [] [] pos) (tCl sp dvs W tNil) := by
  constructor
  intro pins s σ H Q I h
  have go := run_fnSD (E := WE W) (us := []) F hr hb hd (passAt tk σ) I .nil h
  exact wpAny_Call_Name_kw (ld_glob I hg hm (PySem.W.callWith_K0 I.kIn hk go) hdb)
/-- o.m(e, ..) -/
def tMt (C : Addr) (m : Str) (sp : Sp) (dvs : List V) (W : WX) (ta : TE) (t : TA) : TE := fun σ H Q => ta σ H fun x H1 => ∃ a dx fs, x = .ref a ∧ H1 a = some (.ins C dx fs) ∧ fs.lookup m = none ∧
  t σ H1 fun vs H2 => sp (x :: (vs ++ dvs)) H2 Q fun c d H3 => W c d σ H3
theorem pe_mt' {pl : Sem Bool} (he : PE X o ta) (c : Cls X.K C) (hm : Meth X.K C m f) (F : FnOk X.prog X.w X.K X.mg X.base (L2.CX X.prog X.w) k f fd ps sp) (hr : Room k X.A)
    (hb : Binds X.K fd ps ds) (hd : Vals dvs ds) (tk : Takes X W) (ha : PA X (e :: es) t)
    (hst : starEach (e :: es) X.env = (false, eval e X.env) :: starEach es X.env := by rfl) (hpl : (backTo pos (starEach es X.env)).any (·.1) = false := by rfl)
    (ht : eval (.Call (.Attribute o m apos) (e :: es) [] pos) X.env = (do
      let ov ← eval o X.env; standAt apos.atName
      let (f, first) ← holding [ov] (getMethod ov m pl); callWith pos f first (backTo pos (starEach (e :: es) X.env)) (backToKw pos (keywordEach [] X.env))) := by rfl) :
    PE X (.Call (.Attribute o m apos) (e :: es) [] pos) (tMt C m sp dvs W ta t) := by
  constructor
  intro pins s σ H Q I h
  refine PySem.W.methodCall_KW (pl := pl) (thn (he.run pins s σ H _ I h) ?_) ht
  rintro u s1 ⟨x, H1, I1, rx, a, dx, fs, rfl, ea, l, q⟩
  cases (show u = Value.ref a from rx)
  refine getmeth_ok I1 ea c hm l (PySem.W.callWith_K (first := [.ref a]) (h₀ := X.base) I.ok.mod.kin hm.kp ?_ hst hpl)
  refine thn (ha.run pos pins s1 σ H1 _ I1 q) ?_
  rintro us s2 ⟨vs, H2, I2, r, q2⟩
  exact ⟨I2.kIn, run_fnSD (E := WE W) (us := .ref a :: us) (vs := .ref a :: vs) F hr hb hd (passAt tk σ) I2 (.cons rfl r) q2⟩
theorem pe_mt0' {pl : Sem Bool} (he : PE X o ta) (c : Cls X.K C) (hm : Meth X.K C m f) (F : FnOk X.prog X.w X.K X.mg X.base (L2.CX X.prog X.w) k f fd ps sp) (hr : Room k X.A)
    (hb : Binds X.K fd ps ds) (hd : Vals dvs ds) (tk : Takes X W)
    (ht : eval (.Call (.Attribute o m apos) [] [] pos) X.env = (do
      let ov ← eval o X.env; standAt apos.atName
      let (f, first) ← holding [ov] (getMethod ov m pl); callWith pos f first (backTo pos (starEach [] X.env)) (backToKw pos (keywordEach [] X.env))) := by rfl) :
    PE X (.Call (.Attribute o m apos) [] [] pos) (tMt C m sp dvs W ta tNil) := by
  constructor
  intro pins s σ H Q I h
  refine PySem.W.methodCall_KW (pl := pl) (thn (he.run pins s σ H _ I h) ?_) ht
  rintro u s1 ⟨x, H1, I1, rx, a, dx, fs, rfl, ea, l, q⟩
  cases (show u = Value.ref a from rx)
  refine getmeth_ok I1 ea c hm l ?_
  have go := run_fnSD (E := WE W) (us := [.ref a]) (vs := [.ref a]) F hr hb hd (passAt tk σ) I1 (.cons rfl .nil) q
  exact PySem.W.callWith_K0 (first := [.ref a]) I1.kIn hm.kp go
/-- C(e, ..) -/
def tMk (C : Addr) (sp : Sp) (dvs : List V) (W : WX) (t : TA) : TE := fun σ H Q => t σ H fun vs H1 => ∀ x dx, H1 x = none → H1 dx = none → dx ≠ x →
  sp (.ref x :: (vs ++ dvs)) (upd (upd H1 dx (.own x)) x (.ins C dx [])) (fun v H2 => v = .non ∧ Q (.ref x) H2) fun c d H2 => W c d σ H2
theorem run_mk {pins : List (Addr × Obj)} {σ : St} {H : Hp} {s : Shared} {Q : VK} {us : List Value} {vs : List V} (M : Mk X.K C f) (F : FnOk X.prog X.w X.K X.mg X.base (L2.CX X.prog X.w) k f fd ps sp) (hr : Room (k + 1) X.A)
    (hb : Binds X.K fd ps ds) (hd : Vals dvs ds) (tk : Takes X W) (I : Inv X pins σ H s) (r : Vals vs us)
    (h : ∀ x dx, H x = none → H dx = none → dx ≠ x → sp (.ref x :: (vs ++ dvs)) (upd (upd H dx (.own x)) x (.ins C dx [])) (fun v H2 => v = .non ∧ Q (.ref x) H2) fun c d H2 => W c d σ H2) :
    wpAny (model X.prog X.w) X.A (call (.ref C) us) (EP X pins σ Q) X.xe s := by
  have hq := h (s.heap.objs.size + 1) s.heap.objs.size (I.hok.fresh (Nat.le_succ _)) (I.hok.fresh (Nat.le_refl _)) (Nat.ne_of_lt (Nat.lt_succ_self _))
  have J := Inv.made (C := C) I
  have rr : Vals (V.ref (s.heap.objs.size + 1) :: (vs ++ dvs)) (Value.ref (s.heap.objs.size + 1) :: (us ++ ds)) := .cons rfl (r.append hd)
  have hl : (Value.ref (s.heap.objs.size + 1) :: us ++ ds).length = ps.length := by
    have e1 := rr.length
    rw [F.len _ _ _ _ hq] at e1
    exact e1.symm
  have run := F.run _ X.stack _ _ ⟨Value.ref (s.heap.objs.size + 1) :: us, []⟩ (Value.ref (s.heap.objs.size + 1) :: (us ++ ds)) _ _ _ (hr.make C us []) (J.env0.make C us []) (hb _ (Value.ref (s.heap.objs.size + 1) :: us) J.kIn hl) rr hq
  refine wpAny_call (make_map (f := f) I.kIn M.makes M.init (beq_iff_eq.mp M.fn) (codeAny_mono run ?_))
  intro r s' z
  match r, z with
  | .error e, z => exact (passAt tk σ) pins _ _ e s' J z
  | .ok (.ret u), z =>
    obtain ⟨v, H', J3, rv, ev, q3⟩ := J.after z
    subst ev
    exact ⟨rv, ⟨V.ref (s.heap.objs.size + 1), H', J3, rfl, q3⟩⟩
theorem pe_mk' (M : Mk X.K C f) (F : FnOk X.prog X.w X.K X.mg X.base (L2.CX X.prog X.w) k f fd ps sp) (hr : Room (k + 1) X.A) (hg : Gl X x) (hm : X.mg x = some (.ref C))
    (hb : Binds X.K fd ps ds) (hd : Vals dvs ds) (tk : Takes X W) (ha : PA X (e :: es) t) (hdb : (x == ("__debug__" : Str)) = false := by decide)
    (he : starEach (e :: es) X.env = (false, eval e X.env) :: starEach es X.env := by rfl) (hpl : (backTo pos (starEach es X.env)).any (·.1) = false := by rfl) :
    PE X (.Call (.Name x p) (e :: es) [] pos) (tMk C sp dvs W t) := by
  constructor
  intro pins s σ H Q I h
  refine wpAny_Call_Name_kw (ld_glob I hg hm (PySem.W.callWith_K (h₀ := X.base) I.ok.mod.kin M.kp ?_ he hpl) hdb)
  refine thn (ha.run pos pins s σ H _ I h) ?_
  rintro us s1 ⟨vs, H1, I1, r, q⟩
  exact ⟨I1.kIn, run_mk M F hr hb hd tk I1 r q⟩
theorem pe_mk0' (M : Mk X.K C f) (F : FnOk X.prog X.w X.K X.mg X.base (L2.CX X.prog X.w) k f fd ps sp) (hr : Room (k + 1) X.A) (hg : Gl X x) (hm : X.mg x = some (.ref C))
    (hb : Binds X.K fd ps ds) (hd : Vals dvs ds) (tk : Takes X W) (hdb : (x == ("__debug__" : Str)) = false := by decide) :
    PE X (.Call (.Name x p) [] [] pos) (tMk C sp dvs W tNil) := by
  constructor
  intro pins s σ H Q I h
  have go := run_mk (us := []) M F hr hb hd tk I .nil h
  exact wpAny_Call_Name_kw (ld_glob I hg hm (PySem.W.callWith_K0 I.kIn M.kp go) hdb)
end
/-! ### an error raised -/
def tRz (C : Addr) (W : WX) : TS := fun _ σ H => W (.ref C) none σ H
theorem ps_rz {X : Cx} {W : WX} {C : Addr} {x m : Str} {j : Nat} {p p2 pos pos2 : Pos} (hc : X.calm = true) (tk : Takes X W) (q : PySem.W.excIn X.K C He.veBase "ValueError.__new__" = true ∧ PySem.W.keepIn X.K (.ref C) = true ∧ PySem.W.subIn X.K (.ref C) (.type "BaseException") = some true ∧ PySem.W.typeIn X.K (.ref C) = some (.type "type"))
    (gC : X.mg x = some (.ref C)) (hg : Gl X x) (hdb : (x == ("__debug__" : Str)) = false := by decide) :
    PS X (.Raise (some (.Call (.Name x p) [.Constant (.str m) j p2] [] pos)) none pos2) (tRz C W) :=
  ps_raise hc tk (pmk_own PySem.F.excBase_ValueError q.1 gC q.2.1 (raises_own q.2.2.1 q.2.2.2) hg hdb)
/-! ### names of the module -/
section
variable {X : Cx} {x : Str} {pos : Pos}
theorem pe_gint {i : Int} (hg : Gl X x) (hm : ∃ t, X.mg x = some (.int i t)) (hd : (x == ("__debug__" : Str)) = false := by decide) : PE X (.Name x pos) (tC (.int i)) :=
  hm.elim fun t h => pe_glob (v := .int i) hg h ⟨t, rfl⟩ hd
theorem pe_gstr {z : Str} (hg : Gl X x) (hm : ∃ t, X.mg x = some (.str z t)) (hd : (x == ("__debug__" : Str)) = false := by decide) : PE X (.Name x pos) (tC (.str z)) :=
  hm.elim fun t h => pe_glob (v := .str z) hg h ⟨t, rfl⟩ hd
theorem pe_gref {a : Addr} (hg : Gl X x) (hm : X.mg x = some (.ref a)) (hd : (x == ("__debug__" : Str)) = false := by decide) : PE X (.Name x pos) (tC (.ref a)) := pe_glob (v := .ref a) hg hm rfl hd
theorem pe_bty {n : String} (hg : Gl X x) (hm : X.mg x = none) (hv : bootBuiltins x = some (.type n)) (hn : x ≠ "__name__" := by decide) (hd : (x == ("__debug__" : Str)) = false := by decide) : PE X (.Name x pos) (tC (.ty n)) := pe_bltn (v := .ty n) hg hm hv rfl hn hd
end
theorem bt_int : bootBuiltins "int" = some (.type "int") := by decide +kernel
theorem bt_bool : bootBuiltins "bool" = some (.type "bool") := by decide +kernel
theorem bt_str : bootBuiltins "str" = some (.type "str") := by decide +kernel
theorem bt_list : bootBuiltins "list" = some (.type "list") := by decide +kernel
theorem bt_tuple : bootBuiltins "tuple" = some (.type "tuple") := by decide +kernel
theorem bt_dict : bootBuiltins "dict" = some (.type "dict") := by decide +kernel
theorem bt_ValueError : bootBuiltins "ValueError" = some (.type "ValueError") := by decide +kernel
theorem bt_set : bootBuiltins "set" = some (.type "set") := by decide +kernel
theorem bb_len : bootBuiltins "len" = some (.builtin "len") := by decide +kernel
theorem bb_isinstance : bootBuiltins "isinstance" = some (.builtin "isinstance") := by decide +kernel
theorem bb_all : bootBuiltins "all" = some (.builtin "all") := by decide +kernel
theorem bb_any : bootBuiltins "any" = some (.builtin "any") := by decide +kernel
theorem bb_sum : bootBuiltins "sum" = some (.builtin "sum") := by decide +kernel
theorem bb_min : bootBuiltins "min" = some (.builtin "min") := by decide +kernel
theorem bb_max : bootBuiltins "max" = some (.builtin "max") := by decide +kernel
theorem bb_abs : bootBuiltins "abs" = some (.builtin "abs") := by decide +kernel
theorem bb_divmod : bootBuiltins "divmod" = some (.builtin "divmod") := by decide +kernel
theorem bb_sorted : bootBuiltins "sorted" = some (.builtin "sorted") := by decide +kernel
theorem bb_repr : bootBuiltins "repr" = some (.builtin "repr") := by decide +kernel
/-! ### calls of built-ins by several kinds -/
section
variable {X : Cx}
def rLenK (K : PySem.W.Frag) : List V → Hp → VK → Prop := fun xs H Q => ∃ x n, xs = [x] ∧ LenV K x H n ∧ Q (.int n) H
theorem cr_lenK : CallR X (.builtin "len") (rLenK X.K) := call_len
def rIntK : List V → Hp → VK → Prop := fun xs H Q => (∃ i, xs = [.int i] ∧ Q (.int i) H) ∨ ∃ k, xs = [.bl k] ∧ Q (.int (if k then 1 else 0)) H
theorem cr_intK : CallR X (.type "int") rIntK := call_int1
def rListK (K : PySem.W.Frag) : List V → Hp → VK → Prop := fun xs H Q => ∃ p ys, xs = [.ref p] ∧ (SqL K H p ys ∨ SqT K H p ys) ∧ ∀ l, H l = none → Q (.ref l) (upd H l (.lst ys))
theorem cr_listK : CallR X (.type "list") (rListK X.K) := call_list_of
def rTupleK (K : PySem.W.Frag) : List V → Hp → VK → Prop := fun xs H Q => ∃ p ys, xs = [.ref p] ∧ ((SqL K H p ys ∧ ∀ l, H l = none → Q (.ref l) (upd H l (.tup ys))) ∨ (SqT K H p ys ∧ Q (.ref p) H))
theorem cr_tupleK : CallR X (.type "tuple") (rTupleK X.K) := call_tuple_of
def rDivmodK : List V → Hp → VK → Prop := fun xs H Q => ∃ i j, xs = [.int i, .int j] ∧ CDiv i j ∧ ∀ p, H p = none → Q (.ref p) (upd H p (.tup [.int (i / j), .int (i % j)]))
theorem cr_divmodK : CallR X (.builtin "divmod") rDivmodK := call_divmod
def rMax2K : List V → Hp → VK → Prop := fun xs H Q => ∃ i j, xs = [.int i, .int j] ∧ Q (.int (if j > i then j else i)) H
theorem cr_max2K (hc : X.calm = true) : CallR X (.builtin "max") rMax2K := call_max2 hc
def rMin2K : List V → Hp → VK → Prop := fun xs H Q => ∃ i j, xs = [.int i, .int j] ∧ Q (.int (if j < i then j else i)) H
theorem cr_min2K (hc : X.calm = true) : CallR X (.builtin "min") rMin2K := call_min2 hc
def rAbsK : List V → Hp → VK → Prop := fun xs H Q => ∃ i, xs = [.int i] ∧ Q (.int (if i < 0 then -i else i)) H
theorem cr_absK : CallR X (.builtin "abs") rAbsK := call_abs
def rSlK (K : PySem.W.Frag) : V → Option Int → Option Int → Hp → VK → Prop := fun x lo hi H Q => rSlL K x lo hi H Q ∨ rSlS x lo hi H Q ∨ rSlT K x lo hi H Q
theorem sl_K : SlR X (rSlK X.K) := SlR.or sl_list (SlR.or sl_str sl_tup)
end
end L2.BP
namespace L2.BP
open PySem PySem.Spec PyProof.Rows
/-! ### the heap as own objects over a base -/
structure Hs (B : Hp) (L : List (Addr × HO)) (H : Hp) : Prop where
  ex : Same B H
  nd : (L.map (·.1)).Nodup
  own : ∀ q ∈ L, H q.1 = some q.2 ∧ B q.1 = none
section
variable {B H H' : Hp} {L : List (Addr × HO)} {p : Addr} {o o' : HO} {K : PySem.W.Frag}
theorem Hs.start (H : Hp) : Hs H [] H := ⟨Same.refl H, .nil, fun _ h => nomatch h⟩
theorem Hs.same (h : Hs B L H) (s : Same H H') : Hs B L H' := ⟨h.ex.trans s, h.nd, fun q m => ⟨s _ _ (h.own q m).1, (h.own q m).2⟩⟩
theorem Hs.newS (h : Hs B L H) (hp : H p = none) (s : Same H H') (hn : H' p = some o) : Hs B ((p, o) :: L) H' where
  ex := h.ex.trans s
  nd := by
    refine List.nodup_cons.mpr ⟨fun m => ?_, h.nd⟩
    obtain ⟨q, mq, e⟩ := List.mem_map.mp m
    have z := (h.own q mq).1
    rw [e, hp] at z
    cases z
  own := fun q m => by
    rcases List.mem_cons.mp m with rfl | m
    · exact ⟨hn, h.ex.free hp⟩
    · exact ⟨s _ _ (h.own q m).1, (h.own q m).2⟩
theorem same_upd (hp : H p = none) : Same H (upd H p o) := fun b u e => by rw [upd_ne (ne_of_none e hp)]; exact e
theorem Hs.new (h : Hs B L H) (hp : H p = none) : Hs B ((p, o) :: L) (upd H p o) := h.newS hp (same_upd hp) upd_same
theorem Hs.drop {q : Addr × HO} (h : Hs B (q :: L) H) : Hs B L H := ⟨h.ex, (List.nodup_cons.mp h.nd).2, fun z m => h.own z (List.mem_cons_of_mem _ m)⟩
theorem Hs.get (h : Hs B L H) (m : (p, o) ∈ L) : H p = some o := (h.own _ m).1
theorem Hs.nb (h : Hs B L H) (m : (p, o) ∈ L) : B p = none := (h.own _ m).2
/-- the first of the own objects changed -/
theorem Hs.chg (h : Hs B ((p, o) :: L) H) (k : ∀ b u, b ≠ p → H b = some u → H' b = some u) (hn : H' p = some o') : Hs B ((p, o') :: L) H' where
  ex := fun b u e => k b u (ne_of_none e (h.nb (o := o) (.head _))) (h.ex b u e)
  nd := h.nd
  own := fun q m => by
    rcases List.mem_cons.mp m with rfl | m
    · exact ⟨hn, h.nb (o := o) (.head _)⟩
    · refine ⟨k _ _ (fun z => ?_) (h.own q (.tail _ m)).1, (h.own q (.tail _ m)).2⟩
      exact (List.nodup_cons.mp h.nd).1 (List.mem_map.mpr ⟨q, m, z⟩)
theorem Hs.perm {L' : List (Addr × HO)} (h : Hs B L H) (q : L.Perm L') : Hs B L' H := ⟨h.ex, (q.map _).nodup_iff.mp h.nd, fun z m => h.own z (q.mem_iff.mpr m)⟩
theorem Hs.swap {a b : Addr × HO} (h : Hs B (a :: b :: L) H) : Hs B (b :: a :: L) H := h.perm (.swap b a L)
theorem Hs.rot3 {a b c : Addr × HO} (h : Hs B (a :: b :: c :: L) H) : Hs B (c :: a :: b :: L) H := h.perm ((List.Perm.cons a (.swap c b L)).trans (.swap c a (b :: L)))
theorem Hs.unrot3 {a b c : Addr × HO} (h : Hs B (c :: a :: b :: L) H) : Hs B (a :: b :: c :: L) H := h.perm (((List.Perm.cons a (.swap c b L)).trans (.swap c a (b :: L))).symm)
theorem Hs.u0 (h : Hs B ((p, o) :: L) H) : Hs B ((p, o') :: L) (upd H p o') := h.chg (fun b u n e => by rw [upd_ne n]; exact e) upd_same
theorem Hs.u1 {a : Addr × HO} (h : Hs B (a :: (p, o) :: L) H) : Hs B (a :: (p, o') :: L) (upd H p o') := h.swap.u0.swap
theorem Hs.u2 {a b : Addr × HO} (h : Hs B (a :: b :: (p, o) :: L) H) : Hs B (a :: b :: (p, o') :: L) (upd H p o') := h.rot3.u0.unrot3
theorem Hs.u3 {a b c : Addr × HO} (h : Hs B (a :: b :: c :: (p, o) :: L) H) : Hs B (a :: b :: c :: (p, o') :: L) (upd H p o') := by
  have e : (a :: b :: c :: (p, o) :: L).Perm ((p, o) :: a :: b :: c :: L) := (List.perm_middle (l₁ := [a, b, c]) (a := (p, o)) (l₂ := L))
  have e' : ((p, o') :: a :: b :: c :: L).Perm (a :: b :: c :: (p, o') :: L) := (List.perm_middle (l₁ := [a, b, c]) (a := (p, o')) (l₂ := L)).symm
  exact ((h.perm e).u0 (o' := o')).perm e'
/-- the first one is laid to the base: it changes no more -/
theorem Hs.fix (h : Hs B ((p, o) :: L) H) : Hs (upd B p o) L H where
  ex := fun b u e => by
    by_cases hb : b = p
    · subst hb
      rw [upd_same] at e
      cases e
      exact h.get (.head _)
    · rw [upd_ne hb] at e
      exact h.ex b u e
  nd := (List.nodup_cons.mp h.nd).2
  own := fun q m => by
    refine ⟨(h.own q (.tail _ m)).1, ?_⟩
    have n : q.1 ≠ p := fun z => (List.nodup_cons.mp h.nd).1 (List.mem_map.mpr ⟨q, m, z⟩)
    rw [upd_ne n]
    exact (h.own q (.tail _ m)).2
theorem Hs.sql {xs : List V} (h : Hs B L H) (m : (p, HO.lst xs) ∈ L) : SqL K H p xs := .of (h.get m)
theorem Hs.sqt {xs : List V} (h : Hs B L H) (m : (p, HO.tup xs) ∈ L) : SqT K H p xs := .of (h.get m)
theorem Hs.bl {xs : List V} (h : Hs B L H) (m : SqL K B p xs) : SqL K H p xs := h.ex.seq m
theorem same_sqt {xs : List V} (e : Same H H') (h : SqT K H p xs) : SqT K H' p xs := by
  rcases h with (h | ⟨u, h⟩) | h
  · exact .inl (.inl (e _ _ h))
  · exact .inl (.inr ⟨u, e _ _ h⟩)
  · exact .inr h
theorem Hs.bt {xs : List V} (h : Hs B L H) (m : SqT K B p xs) : SqT K H p xs := same_sqt h.ex m
mutual
theorem dp_same (e : Same H H') : ∀ {v : V} {d : PyData}, Dp K H v d → Dp K H' v d
  | _, _, .non => .non
  | _, _, .bl b => .bl b
  | _, _, .int i => .int i
  | _, _, .str x => .str x
  | _, _, .lst h a => .lst (e.seq h) (dpa_same e a)
  | _, _, .tup h a => .tup (same_sqt e h) (dpa_same e a)
theorem dpa_same (e : Same H H') : ∀ {vs : List V} {ds : List PyData}, DpAll K H vs ds → DpAll K H' vs ds
  | _, _, .nil => .nil
  | _, _, .cons h a => .cons (dp_same e h) (dpa_same e a)
end
theorem dpa_ints : ∀ ns : List Int, DpAll K H (ns.map V.int) (ns.map PyData.int)
  | [] => .nil
  | n :: r => .cons (.int n) (dpa_ints r)
end
/-! ### readings, step by step -/
section
variable {σ : St} {H : Hp} {Q : VK} {v x y : V} {i j : Int} {ta tb te : TE} {K : PySem.W.Frag} {r : R2} {B : Hp} {L : List (Addr × HO)}
theorem c_var {n : Nat} (h : σ[n]? = some (some v)) (k : Q v H) : tVar n σ H Q := ⟨v, h, k⟩
theorem c_c (k : Q v H) : tC v σ H Q := k
theorem c_op (k : ta σ H fun x H1 => tb σ H1 fun y H2 => r x y H2 Q) : tOp r ta tb σ H Q := k
theorem c_un {r : V → Hp → VK → Prop} (k : ta σ H fun x H1 => r x H1 Q) : tUn r ta σ H Q := k
theorem c_addI (k : Q (.int (i + j)) H) : rAddU (.int i) (.int j) H Q := .inl ⟨i, j, rfl, rfl, k⟩
theorem c_addS {a b : Str} (h : a.length + b.length ≤ sizeLine) (k : Q (.str (a ++ b)) H) : rAddU (.str a) (.str b) H Q := .inr (.inl ⟨a, b, rfl, rfl, h, k⟩)
theorem c_addL {p q : Addr} {xs ys : List V} (h : Hs B L H) (hp : H p = some (.lst xs)) (hq : H q = some (.lst ys)) (hl : xs.length + ys.length ≤ sizeLine)
    (k : ∀ a H', Hs B ((a, .lst (xs ++ ys)) :: L) H' → Q (.ref a) H') : rAddU (.ref p) (.ref q) H Q :=
  .inr (.inr ⟨p, q, xs, ys, rfl, rfl, hp, hq, hl, fun a ha => k a _ (h.new ha)⟩)
theorem c_sub (k : Q (.int (i - j)) H) : rSubU (.int i) (.int j) H Q := ⟨i, j, rfl, rfl, k⟩
theorem c_mulI (h : CMul i j) (k : Q (.int (i * j)) H) : rMulU (.int i) (.int j) H Q := .inl ⟨i, j, rfl, rfl, h, k⟩
theorem c_rep {p : Addr} {xs : List V} (h : Hs B L H) (hp : H p = some (.lst xs)) (h1 : -(2 ^ 63) ≤ j) (h2 : j < 2 ^ 63) (hl : xs.length * j.toNat ≤ sizeLine)
    (k : ∀ a H', Hs B ((a, .lst (List.replicate j.toNat xs).flatten) :: L) H' → Q (.ref a) H') : rMulU (.ref p) (.int j) H Q :=
  .inr ⟨p, j, xs, rfl, rfl, hp, h1, h2, hl, fun a ha => k a _ (h.new ha)⟩
theorem c_div (h : CDiv i j) (k : Q (.int (i / j)) H) : rDivU (.int i) (.int j) H Q := ⟨i, j, rfl, rfl, h, k⟩
theorem c_mod (h : 0 < j) (k : Q (.int (i % j)) H) : rModU (.int i) (.int j) H Q := ⟨i, j, rfl, rfl, h, k⟩
theorem c_pow (h : CPow i j) (k : Q (.int (i ^ j.toNat)) H) : rPowU (.int i) (.int j) H Q := ⟨i, j, rfl, rfl, h, k⟩
theorem c_shl (h : CPow i j) (k : Q (.int (i * 2 ^ j.toNat)) H) : rShlU (.int i) (.int j) H Q := ⟨i, j, rfl, rfl, h, k⟩
theorem c_shr (h : 0 ≤ j) (k : Q (.int (i / 2 ^ j.toNat)) H) : rShrU (.int i) (.int j) H Q := ⟨i, j, rfl, rfl, h, k⟩
theorem c_and (k : Q (.int (Builtin.bitAnd i j)) H) : rAndU (.int i) (.int j) H Q := ⟨i, j, rfl, rfl, k⟩
theorem c_or (k : Q (.int (Builtin.bitOr i j)) H) : rOrU (.int i) (.int j) H Q := ⟨i, j, rfl, rfl, k⟩
theorem c_xor (k : Q (.int (Builtin.bitXor i j)) H) : rXorU (.int i) (.int j) H Q := ⟨i, j, rfl, rfl, k⟩
theorem c_neg (k : Q (.int (-i)) H) : rNegU (.int i) H Q := ⟨i, rfl, k⟩
theorem c_lt (k : Q (.bl (decide (i < j))) H) : rLtU (.int i) (.int j) H Q := ⟨i, j, rfl, rfl, k⟩
theorem c_le (k : Q (.bl (decide (i ≤ j))) H) : rLeU (.int i) (.int j) H Q := ⟨i, j, rfl, rfl, k⟩
theorem c_gt (k : Q (.bl (decide (j < i))) H) : rGtU (.int i) (.int j) H Q := ⟨i, j, rfl, rfl, k⟩
theorem c_ge (k : Q (.bl (decide (j ≤ i))) H) : rGeU (.int i) (.int j) H Q := ⟨i, j, rfl, rfl, k⟩
theorem dec_of {p q : Prop} [Decidable p] [Decidable q] (h : p ↔ q) : decide p = decide q := by by_cases z : p <;> simp [z, h.mp, mt h.mpr] <;> simp_all
theorem c_eqI (k : Q (.bl (decide (i = j))) H) : rEqU K (.int i) (.int j) H Q := .inl ⟨rfl, by rw [dec_of (show V.int i = V.int j ↔ i = j by simp)]; exact k⟩
theorem c_neI (k : Q (.bl (!decide (i = j))) H) : rNeU K (.int i) (.int j) H Q := .inl ⟨rfl, by rw [dec_of (show V.int i = V.int j ↔ i = j by simp)]; exact k⟩
theorem c_eqS {a b : Str} (k : Q (.bl (decide (a = b))) H) : rEqU K (.str a) (.str b) H Q := .inl ⟨rfl, by rw [dec_of (show V.str a = V.str b ↔ a = b by simp)]; exact k⟩
theorem c_neS {a b : Str} (k : Q (.bl (!decide (a = b))) H) : rNeU K (.str a) (.str b) H Q := .inl ⟨rfl, by rw [dec_of (show V.str a = V.str b ↔ a = b by simp)]; exact k⟩
theorem c_eqB {a b : Bool} (k : Q (.bl (decide (a = b))) H) : rEqU K (.bl a) (.bl b) H Q := .inl ⟨rfl, by rw [dec_of (show V.bl a = V.bl b ↔ a = b by simp)]; exact k⟩
theorem c_neB {a b : Bool} (k : Q (.bl (!decide (a = b))) H) : rNeU K (.bl a) (.bl b) H Q := .inl ⟨rfl, by rw [dec_of (show V.bl a = V.bl b ↔ a = b by simp)]; exact k⟩
theorem c_eqD {d e : PyData} (hx : Dp K H x d) (hy : Dp K H y e) (h1 : SeqAt.shaped d = true) (h2 : SeqAt.shaped e = true) (k : Q (.bl (PyData.eqv d e)) H) : rEqU K x y H Q := .inr ⟨d, e, hx, hy, h1, h2, k⟩
theorem c_neD {d e : PyData} (hx : Dp K H x d) (hy : Dp K H y e) (h1 : SeqAt.shaped d = true) (h2 : SeqAt.shaped e = true) (k : Q (.bl (!PyData.eqv d e)) H) : rNeU K x y H Q := .inr ⟨d, e, hx, hy, h1, h2, k⟩
theorem c_isN (k : Q (.bl (decide (x = .non))) H) : rIsU x .non H Q := .inl ⟨rfl, k⟩
theorem c_notN (k : Q (.bl (!decide (x = .non))) H) : rNotU x .non H Q := .inl ⟨rfl, k⟩
theorem c_isB {a b : Bool} (k : Q (.bl (decide (a = b))) H) : rIsU (.bl a) (.bl b) H Q := .inr ⟨a, b, rfl, rfl, k⟩
theorem c_notB {a b : Bool} (k : Q (.bl (!decide (a = b))) H) : rNotU (.bl a) (.bl b) H Q := .inr ⟨a, b, rfl, rfl, k⟩
theorem c_ixL {p : Addr} {xs : List V} (h : SqL K H p xs) (ha : atI xs i = some v) (k : Q v H) : rIx K (.ref p) (.int i) H Q := .inl ⟨p, xs, i, v, rfl, rfl, h, ha, k⟩
theorem c_ixT {p : Addr} {xs : List V} (h : SqT K H p xs) (ha : atI xs i = some v) (k : Q v H) : rIx K (.ref p) (.int i) H Q := .inr (.inl ⟨p, xs, i, v, rfl, rfl, h, ha, k⟩)
theorem c_ixS {z : Str} {c : Nat} (h : z.length ≤ sizeLine) (ha : atI z.cps.toList i = some c) (k : Q (.str ⟨#[c]⟩) H) : rIx K (.str z) (.int i) H Q := .inr (.inr ⟨z, i, c, rfl, rfl, h, ha, k⟩)
theorem c_slL {p : Addr} {xs : List V} {lo hi : Option Int} (h : Hs B L H) (hq : SqL K H p xs) (k : ∀ a H', Hs B ((a, .lst (cutV xs lo hi)) :: L) H' → Q (.ref a) H') : rSlK K (.ref p) lo hi H Q :=
  .inl ⟨p, xs, rfl, hq, fun a ha => k a _ (h.new ha)⟩
theorem c_slS {z : Str} {lo hi : Option Int} (h : z.length ≤ sizeLine) (k : Q (.str (cutS z lo hi)) H) : rSlK K (.str z) lo hi H Q := .inr (.inl ⟨z, rfl, h, k⟩)
theorem c_andV (k : ta σ H fun x H1 => ∃ c, x = .bl c ∧ if c = true then tb σ H1 Q else Q (.bl false) H1) : tAndV ta tb σ H Q := k
theorem c_orV (k : ta σ H fun x H1 => ∃ c, x = .bl c ∧ if c = true then Q (.bl true) H1 else tb σ H1 Q) : tOrV ta tb σ H Q := k
theorem c_notV (k : ta σ H fun x H1 => ∃ c, x = .bl c ∧ Q (.bl (!c)) H1) : tNotV ta σ H Q := k
theorem c_bl {b : Bool} {P : Bool → Prop} (k : P b) : ∃ c, V.bl b = V.bl c ∧ P c := ⟨b, rfl, k⟩
theorem c_test {P : Bool → Hp → Prop} (k : te σ H fun x H' => ∃ c, x = .bl c ∧ P c H') : tTest te σ H P := k
theorem c_B {P : Bool → Hp → Prop} (k : te σ H fun x H' => ∃ c, x = .bl c ∧ P c H') : tB te σ H P := k
theorem c_chain {r' : R2} {tc : TE} (k : ta σ H fun x H1 => tb σ H1 fun y H2 => r x y H2 fun z H3 => ∃ c, z = .bl c ∧ (if c = true then tc σ H3 fun w H4 => r' y w H4 Q else Q (.bl false) H3)) : tChain r r' ta tb tc σ H Q := k
section
variable {t u : TT} {P : Bool → Hp → Prop}
theorem c_tand (k : t σ H fun c H1 => if c = true then u σ H1 P else P false H1) : tAnd t u σ H P := k
theorem c_tor (k : t σ H fun c H1 => if c = true then P true H1 else u σ H1 P) : tOr t u σ H P := k
theorem c_tnot (k : t σ H fun c H1 => P (!c) H1) : tNot t σ H P := k
theorem c_if (k : t σ H fun c H1 => if c = true then ta σ H1 Q else tb σ H1 Q) : tIf t ta tb σ H Q := k
end
section
variable {P : List V → Hp → Prop} {tr : TA}
theorem c_nil (k : P [] H) : tNil σ H P := k
theorem c_cons (k : te σ H fun x H1 => tr σ H1 fun xs H2 => P (x :: xs) H2) : tCons te tr σ H P := k
def TupO (xs : List V) (H : Hp) (Q : VK) : Prop := xs.length ≤ sizeLine ∧ ∀ p, H p = none → Q (.ref p) (upd H p (.tup xs))
def LstO (xs : List V) (H : Hp) (Q : VK) : Prop := xs.length ≤ sizeLine ∧ ∀ p, H p = none → Q (.ref p) (upd H p (.lst xs))
theorem c_tup (k : tr σ H fun xs H1 => TupO xs H1 Q) : tTup tr σ H Q := k
theorem c_lst (k : tr σ H fun xs H1 => LstO xs H1 Q) : tLst tr σ H Q := k
theorem c_tupO {xs : List V} (h : Hs B L H) (hl : xs.length ≤ sizeLine) (k : ∀ p H', Hs B ((p, .tup xs) :: L) H' → Q (.ref p) H') : TupO xs H Q := ⟨hl, fun p hp => k p _ (h.new hp)⟩
theorem c_lstO {xs : List V} (h : Hs B L H) (hl : xs.length ≤ sizeLine) (k : ∀ p H', Hs B ((p, .lst xs) :: L) H' → Q (.ref p) H') : LstO xs H Q := ⟨hl, fun p hp => k p _ (h.new hp)⟩
theorem c_cb {r : List V → Hp → VK → Prop} (k : tr σ H fun vs H1 => r vs H1 Q) : tCB r tr σ H Q := k
theorem c_lenL {p : Addr} {xs : List V} (h : SqL K H p xs) (k : Q (.int xs.length) H) : rLenK K [.ref p] H Q := ⟨_, _, rfl, .inl ⟨xs, h, rfl⟩, k⟩
theorem c_lenT {p : Addr} {xs : List V} (h : SqT K H p xs) (k : Q (.int xs.length) H) : rLenK K [.ref p] H Q := ⟨_, _, rfl, .inr ⟨xs, h, rfl⟩, k⟩
theorem c_lenS {z : Str} (h : z.length ≤ sizeLine) (k : Q (.int z.length) H) : rLenK K [.str z] H Q := ⟨_, _, rfl, ⟨h, rfl⟩, k⟩
theorem c_intI (k : Q (.int i) H) : rIntK [.int i] H Q := .inl ⟨i, rfl, k⟩
theorem c_intB {b : Bool} (k : Q (.int (if b then 1 else 0)) H) : rIntK [.bl b] H Q := .inr ⟨b, rfl, k⟩
theorem c_listL {p : Addr} {xs : List V} (h : Hs B L H) (hq : SqL K H p xs) (k : ∀ a H', Hs B ((a, .lst xs) :: L) H' → Q (.ref a) H') : rListK K [.ref p] H Q := ⟨p, xs, rfl, .inl hq, fun a ha => k a _ (h.new ha)⟩
theorem c_listT {p : Addr} {xs : List V} (h : Hs B L H) (hq : SqT K H p xs) (k : ∀ a H', Hs B ((a, .lst xs) :: L) H' → Q (.ref a) H') : rListK K [.ref p] H Q := ⟨p, xs, rfl, .inr hq, fun a ha => k a _ (h.new ha)⟩
theorem c_divmod (h : Hs B L H) (c : CDiv i j) (k : ∀ a H', Hs B ((a, .tup [.int (i / j), .int (i % j)]) :: L) H' → Q (.ref a) H') : rDivmodK [.int i, .int j] H Q := ⟨i, j, rfl, c, fun a ha => k a _ (h.new ha)⟩
theorem c_max2 (k : Q (.int (if j > i then j else i)) H) : rMax2K [.int i, .int j] H Q := ⟨i, j, rfl, k⟩
theorem c_min2 (k : Q (.int (if j < i then j else i)) H) : rMin2K [.int i, .int j] H Q := ⟨i, j, rfl, k⟩
theorem c_abs (k : Q (.int (if i < 0 then -i else i)) H) : rAbsK [.int i] H Q := ⟨i, rfl, k⟩
theorem c_sum {p : Addr} {ns : List Int} (h : SqL K H p (ns.map V.int)) (k : Q (.int ns.sum) H) : rSum K [.ref p] H Q := ⟨p, ns, rfl, h, k⟩
theorem c_all {p : Addr} {bs : List Bool} (h : SqL K H p (bs.map V.bl)) (k : Q (.bl (bs.all id)) H) : rAll K [.ref p] H Q := ⟨p, bs, rfl, h, k⟩
theorem c_any {p : Addr} {bs : List Bool} (h : SqL K H p (bs.map V.bl)) (k : Q (.bl (bs.any id)) H) : rAny K [.ref p] H Q := ⟨p, bs, rfl, h, k⟩
theorem c_cl {sp : Sp} {dvs : List V} {W : WX} (k : tr σ H fun vs H1 => sp (vs ++ dvs) H1 Q fun c d H2 => W c d σ H2) : tCl sp dvs W tr σ H Q := k
theorem c_mt {C : Addr} {m : Str} {sp : Sp} {dvs : List V} {W : WX} (k : te σ H fun x H1 => ∃ a dx fs, x = .ref a ∧ H1 a = some (.ins C dx fs) ∧ fs.lookup m = none ∧ tr σ H1 fun vs H2 => sp (x :: (vs ++ dvs)) H2 Q fun c d H3 => W c d σ H3) : tMt C m sp dvs W te tr σ H Q := k
theorem c_recv {C dx p : Addr} {fs : List (Str × V)} {m : Str} {P : Prop} (h : H p = some (.ins C dx fs)) (hl : fs.lookup m = none) (k : P) : ∃ a dx fs, V.ref p = .ref a ∧ H a = some (.ins C dx fs) ∧ fs.lookup m = none ∧ P := ⟨p, dx, fs, rfl, h, hl, k⟩
end
/-! isinstance -/
theorem tyx_sql {p : Addr} {xs : List V} (h : SqL K H p xs) : TyX K H (.ref p) (.type "list") := by
  rcases h with (h | ⟨u, h⟩) | ⟨o, a, b, h1, h2, _⟩
  · exact .base (.lst h)
  · exact .base (.frz h)
  · exact .kList h1 h2
theorem c_isi {c : V} {t u : Value} {b : Bool} (T : TyX K H x t) (hc : ClsV c u) (e : PySem.W.kitOne K t u = some b) (k : Q (.bl b) H) : rIsi K [x, c] H Q := ⟨x, c, t, u, b, rfl, hc, T, e, k⟩
theorem k_int_int : PySem.W.kitOne K (.type "int") (.type "int") = some true := kit_ty (by decide +kernel)
theorem k_int_bool : PySem.W.kitOne K (.type "int") (.type "bool") = some false := kit_ty (by decide +kernel)
theorem k_list_list : PySem.W.kitOne K (.type "list") (.type "list") = some true := kit_ty (by decide +kernel)
theorem c_isi_ii (k : Q (.bl true) H) : rIsi K [.int i, .ty "int"] H Q := c_isi (.base (.int i)) (.ty _) k_int_int k
theorem c_isi_ib (k : Q (.bl false) H) : rIsi K [.int i, .ty "bool"] H Q := c_isi (.base (.int i)) (.ty _) k_int_bool k
theorem c_isi_ll {p : Addr} {xs : List V} (h : SqL K H p xs) (k : Q (.bl true) H) : rIsi K [.ref p, .ty "list"] H Q := c_isi (tyx_sql h) (.ty _) k_list_list k
/-! fields -/
def FldO (K : PySem.W.Frag) (f : Str) (x : V) (H : Hp) (Q : VK) : Prop := ∃ a C dx fs v, x = .ref a ∧ H a = some (.ins C dx fs) ∧ Cls K C ∧ NoAttr K C f ∧ fs.lookup f = some v ∧ Q v H
theorem c_fld {f : Str} {C dx p : Addr} {fs : List (Str × V)} (h : H p = some (.ins C dx fs)) (hc : Cls K C) (hn : NoAttr K C f) (hl : fs.lookup f = some v) (k : Q v H) : FldO K f (.ref p) H Q := ⟨p, C, dx, fs, v, rfl, h, hc, hn, hl, k⟩
end
/-! ### statements -/
section
variable {σ : St} {H : Hp} {dn : St → Hp → Prop} {dr : VK} {db dc : St → Hp → Prop} {t u : TS} {te : TE} {g : TG} {v : V} {b : Bool}
theorem w_seq (k : t ⟨u ⟨dn, dr, db, dc⟩, dr, db, dc⟩ σ H) : tSeq t u ⟨dn, dr, db, dc⟩ σ H := k
theorem w_asg (k : te σ H fun x H1 => g x σ H1 dn) : tAsg te g ⟨dn, dr, db, dc⟩ σ H := k
theorem w_name {n : Nat} {P : St → Hp → Prop} (k : P (σ.set n (some v)) H) : gName n v σ H P := k
theorem w_drop (k : te σ H fun _ H1 => dn σ H1) : tDrop te ⟨dn, dr, db, dc⟩ σ H := k
theorem w_ret (k : te σ H dr) : tRet te ⟨dn, dr, db, dc⟩ σ H := k
theorem w_if {c : TT} (k : c σ H fun b H1 => if b = true then t ⟨dn, dr, db, dc⟩ σ H1 else u ⟨dn, dr, db, dc⟩ σ H1) : tIfS c t u ⟨dn, dr, db, dc⟩ σ H := k
theorem w_next (k : dn σ H) : tNext ⟨dn, dr, db, dc⟩ σ H := k
theorem i_t {A A' : Prop} (h : b = true) (k : A) : if b = true then A else A' := by rw [if_pos h]; exact k
theorem i_f {A A' : Prop} (h : b = false) (k : A') : if b = true then A else A' := by rw [h, if_neg Bool.false_ne_true]; exact k
theorem i_2 {A A' : Prop} (k : b = true → A) (k' : b = false → A') : if b = true then A else A' := by cases b; exact iteF (k' rfl); exact iteT (k rfl)
theorem w_aug {n : Nat} {ti : TIp} (h : σ[n]? = some (some v)) (k : te σ H fun y H1 => ti v y H1 fun z H2 => dn (σ.set n (some z)) H2) : tAug n te ti ⟨dn, dr, db, dc⟩ σ H := ⟨v, h, k⟩
theorem c_ipAddI {i j : Int} {Q : VK} (k : Q (.int (i + j)) H) : ipAddU (.int i) (.int j) H Q := .inl ⟨i, j, rfl, rfl, k⟩
theorem c_ipSub {i j : Int} {Q : VK} (k : Q (.int (i - j)) H) : ipSubU (.int i) (.int j) H Q := ⟨i, j, rfl, rfl, k⟩
end
/-! ### loops over what has plain items -/
section
variable {α : Type} {K : PySem.W.Frag} {a : Addr} {g : TG} {tb : TS} {dn : St → Hp → Prop} {dr : VK} {db dc : St → Hp → Prop} {σ : St} {H : Hp}
theorem take_split {l : List α} {i : Nat} {x : α} (h : l[i]? = some x) : l = l.take i ++ x :: l.drop (i + 1) ∧ l.take (i + 1) = l.take i ++ [x] := by
  obtain ⟨hi, e⟩ := List.getElem?_eq_some_iff.mp h
  subst e
  refine ⟨?_, by rw [List.take_add_one, h]; rfl⟩
  conv => lhs; rw [← List.take_append_drop i l, List.drop_eq_getElem_cons hi]
theorem for_l (f : α → V) (l : List α) (Pv : List α → St → Hp → Prop) (h0 : Pv [] σ H) (hq : ∀ pre post σ H, l = pre ++ post → Pv pre σ H → SqL K H a (l.map f))
    (hs : ∀ pre x post σ H, l = pre ++ x :: post → Pv pre σ H → g (f x) σ H fun σ2 H2 => tb ⟨Pv (pre ++ [x]), dr, dn, Pv (pre ++ [x])⟩ σ2 H2) (hd : ∀ σ H, Pv l σ H → dn σ H) :
    ∃ W : Nat → Nat → St → Hp → Prop, (∃ m, W 0 m σ H) ∧ ∀ i m σ H, W i m σ H →
      ((Itl K a).stop i H ∧ dn σ H) ∨ ((Itl K a).go i H ∧ ∃ N : St → Hp → Prop, (∀ σ' H', N σ' H' → ∃ m', m' < m ∧ W (i + 1) m' σ' H') ∧ ∀ x H', (Itl K a).yld i H x H' → g x σ H' fun σ2 H2 => tb ⟨N, dr, dn, N⟩ σ2 H2) := by
  refine L2.for_list (D := { nx := dn, rt := dr }) (xs := l.map f) (fun i => Pv (l.take i)) (by simpa using h0) (fun i σ H _ p => hq _ (l.drop i) σ H (List.take_append_drop i l).symm p) (fun i x σ H hx p => ?_) (fun σ H p => hd σ H (by simpa using p))
  rw [List.getElem?_map] at hx
  cases e : l[i]? with
  | none => rw [e] at hx; cases hx
  | some y =>
    rw [e] at hx
    cases hx
    obtain ⟨e1, e2⟩ := take_split e
    have z := hs _ y _ σ H e1 p
    rw [e2]
    exact z
theorem lc_l {tt : TT} {te : TE} {vs : List Nat} {D : Addr} {Qd : Hp → Prop} (f : α → V) (l : List α) (Pv : List α → Hp → Prop) (h0 : Pv [] (upd H D (.lst []))) (hq : ∀ pre post H, l = pre ++ post → Pv pre H → SqL K H a (l.map f))
    (hs : ∀ pre x post H, l = pre ++ x :: post → Pv pre H → g (f x) (wipe σ vs) H fun σ2 H2 => wipe σ2 vs = wipe σ vs ∧ tt σ2 H2 fun b H3 =>
      if b = true then te σ2 H3 fun y H4 => ∃ acc, H4 D = some (.lst acc) ∧ acc.length < sizeLine ∧ Pv (pre ++ [x]) (upd H4 D (.lst (acc ++ [y]))) else Pv (pre ++ [x]) H3) (hd : ∀ H, Pv l H → Qd H) :
    ∃ W : Nat → Nat → Hp → Prop, (∃ m, W 0 m (upd H D (.lst []))) ∧ ∀ i m H, W i m H →
      ((Itl K a).stop i H ∧ Qd H) ∨ ((Itl K a).go i H ∧ ∃ Nx : Hp → Prop, (∀ H', Nx H' → ∃ m', m' < m ∧ W (i + 1) m' H') ∧ ∀ x H', (Itl K a).yld i H x H' → g x (wipe σ vs) H' fun σ2 H2 => wipe σ2 vs = wipe σ vs ∧ tt σ2 H2 fun b H3 =>
        if b = true then te σ2 H3 fun y H4 => ∃ acc, H4 D = some (.lst acc) ∧ acc.length < sizeLine ∧ Nx (upd H4 D (.lst (acc ++ [y]))) else Nx H3) := by
  refine L2.lc_list (xs := l.map f) (fun i => Pv (l.take i)) (by simpa using h0) (fun i H _ p => hq _ (l.drop i) H (List.take_append_drop i l).symm p) (fun i x H hx p => ?_) (fun H p => hd H (by simpa using p))
  rw [List.getElem?_map] at hx
  cases e : l[i]? with
  | none => rw [e] at hx; cases hx
  | some y =>
    rw [e] at hx
    cases hx
    obtain ⟨e1, e2⟩ := take_split e
    have z := hs _ y _ H e1 p
    rw [e2]
    exact z
end
end L2.BP
namespace L2.BP
open PySem PySem.Spec PyProof.Rows
/-- a def as callers see it: what its defaults are, how the written arguments bind, its promise -/
def DOk (P : Program) (w : World) (K : PySem.W.Frag) (mg : Str → Option Value) (base : Heap) (k : Nat) (f : Addr) (ps : List Str) (dvs : List V) (sp : Sp) : Prop :=
  ∃ (fd : FuncData) (ds : List Value), Vals dvs ds ∧ Binds K fd ps ds ∧ FnOk P w K mg base (L2.CX P w) k f fd ps sp ∧ PySem.W.keepIn K (.ref f) = true
abbrev WF : WX := fun _ _ _ _ => False
/-! ### one of two readings of the same expression -/
def tOrE (t u : TE) : TE := fun σ H Q => t σ H Q ∨ u σ H Q
theorem pe_orE {X : Cx} {e : Expr} {t u : TE} (h : PE X e t) (h' : PE X e u) : PE X e (tOrE t u) :=
  ⟨fun pins s σ H Q I z => z.elim (h.run pins s σ H Q I) (h'.run pins s σ H Q I)⟩
/-! ### kinds of things -/
inductive Tg where
  | non | bl (b : Bool) | int (i : Int) | str (x : Str) | lst (xs : List V) | tup (xs : List V) | dic
/-- the thing v is of that kind -/
inductive Th (K : PySem.W.Frag) (H : Hp) : V → Tg → Prop where
  | non : Th K H .non .non
  | bl (b : Bool) : Th K H (.bl b) (.bl b)
  | int (i : Int) : Th K H (.int i) (.int i)
  | str (x : Str) : Th K H (.str x) (.str x)
  | lst {a : Addr} {xs : List V} (h : SqL K H a xs) : Th K H (.ref a) (.lst xs)
  | tup {a : Addr} {xs : List V} (h : SqT K H a xs) : Th K H (.ref a) (.tup xs)
  | dic {a : Addr} {kvs : List (Key × V)} (h : H a = some (.dK kvs)) : Th K H (.ref a) .dic
def Tg.ty : Tg → String
  | .non => "NoneType" | .bl _ => "bool" | .int _ => "int" | .str _ => "str" | .lst _ => "list" | .tup _ => "tuple" | .dic => "dict"
section
variable {K : PySem.W.Frag} {H H' : Hp} {v : V} {g : Tg} {Q : VK}
theorem Th.same (h : Th K H v g) (e : Same H H') : Th K H' v g := by
  cases h with
  | non => exact .non
  | bl b => exact .bl b
  | int i => exact .int i
  | str x => exact .str x
  | lst h => exact .lst (e.seq h)
  | tup h => exact .tup (same_sqt e h)
  | dic h => exact .dic (e _ _ h)
theorem tyx_sqt {p : Addr} {xs : List V} (h : SqT K H p xs) : TyX K H (.ref p) (.type "tuple") := by
  rcases h with (h | ⟨u, h⟩) | ⟨o, a, b, h1, h2, _⟩
  · exact .base (.tup h)
  · exact .fTuple h
  · exact .kTuple h1 h2
theorem Th.tyx (h : Th K H v g) : TyX K H v (.type g.ty) := by
  cases h with
  | non => exact .base .non
  | bl b => exact .base (.bl b)
  | int i => exact .base (.int i)
  | str x => exact .base (.str x)
  | lst h => exact tyx_sql h
  | tup h => exact tyx_sqt h
  | dic h => exact .base (.dK h)
def Tg.isInt : Tg → Bool
  | .bl _ => true | .int _ => true | _ => false
def Tg.isBool : Tg → Bool
  | .bl _ => true | _ => false
def Tg.isList : Tg → Bool
  | .lst _ => true | _ => false
def Tg.isStr : Tg → Bool
  | .str _ => true | _ => false
def Tg.isTup : Tg → Bool
  | .tup _ => true | _ => false
theorem Tg.kInt (g : Tg) : PySem.W.kitOne K (.type g.ty) (.type "int") = some g.isInt := by cases g <;> exact kit_ty (by kernel_rfl)
theorem Tg.kBool (g : Tg) : PySem.W.kitOne K (.type g.ty) (.type "bool") = some g.isBool := by cases g <;> exact kit_ty (by kernel_rfl)
theorem Tg.kList (g : Tg) : PySem.W.kitOne K (.type g.ty) (.type "list") = some g.isList := by cases g <;> exact kit_ty (by kernel_rfl)
theorem Tg.kStr (g : Tg) : PySem.W.kitOne K (.type g.ty) (.type "str") = some g.isStr := by cases g <;> exact kit_ty (by kernel_rfl)
theorem Tg.kTup (g : Tg) : PySem.W.kitOne K (.type g.ty) (.type "tuple") = some g.isTup := by cases g <;> exact kit_ty (by kernel_rfl)
theorem c_isiInt (h : Th K H v g) (k : Q (.bl g.isInt) H) : rIsi K [v, .ty "int"] H Q := c_isi h.tyx (.ty _) g.kInt k
theorem c_isiBool (h : Th K H v g) (k : Q (.bl g.isBool) H) : rIsi K [v, .ty "bool"] H Q := c_isi h.tyx (.ty _) g.kBool k
theorem c_isiList (h : Th K H v g) (k : Q (.bl g.isList) H) : rIsi K [v, .ty "list"] H Q := c_isi h.tyx (.ty _) g.kList k
theorem c_isiStr (h : Th K H v g) (k : Q (.bl g.isStr) H) : rIsi K [v, .ty "str"] H Q := c_isi h.tyx (.ty _) g.kStr k
theorem c_isiTup (h : Th K H v g) (k : Q (.bl g.isTup) H) : rIsi K [v, .ty "tuple"] H Q := c_isi h.tyx (.ty _) g.kTup k
/-- the results of defs that change nothing: a value, a new list, a new tuple -/
def RetV (H : Hp) (Q : VK) (v : V) : Prop := ∀ H', Same H H' → Q v H'
def RetL (H : Hp) (Q : VK) (xs : List V) : Prop := ∀ p H', H p = none → Same H H' → H' p = some (.lst xs) → Q (.ref p) H'
def RetT (H : Hp) (Q : VK) (xs : List V) : Prop := ∀ p H', H p = none → Same H H' → H' p = some (.tup xs) → Q (.ref p) H'
end
section
variable {B H : Hp} {L : List (Addr × HO)} {K : PySem.W.Frag} {Q : VK} {v : V} {xs : List V}
theorem Hs.rv (h : Hs B L H) (k : RetV B Q v) : Q v H := k H h.ex
theorem Hs.rl {p : Addr} (h : Hs B L H) (m : (p, HO.lst xs) ∈ L) (k : RetL B Q xs) : Q (.ref p) H := k p H (h.nb m) h.ex (h.get m)
theorem Hs.rt {p : Addr} (h : Hs B L H) (m : (p, HO.tup xs) ∈ L) (k : RetT B Q xs) : Q (.ref p) H := k p H (h.nb m) h.ex (h.get m)
theorem retV (h : Hs B L H) (k : ∀ H', Hs B L H' → Q v H') : RetV H Q v := fun H' e => k H' (h.same e)
theorem retL (h : Hs B L H) (k : ∀ p H', Hs B ((p, .lst xs) :: L) H' → Q (.ref p) H') : RetL H Q xs := fun p H' hp e hn => k p H' (h.newS hp e hn)
theorem retT (h : Hs B L H) (k : ∀ p H', Hs B ((p, .tup xs) :: L) H' → Q (.ref p) H') : RetT H Q xs := fun p H' hp e hn => k p H' (h.newS hp e hn)
end
end L2.BP
namespace L2.BP
open PySem PySem.Spec PyProof.Rows
/-! ### loops over the picture of the heap: I tells of what is done, the slots, the own objects, the base -/
abbrev Pic : Type := List (Addr × HO)
section
variable {α : Type} {K : PySem.W.Frag} {a : Addr} {g : TG} {tb : TS} {dn : St → Hp → Prop} {dr : VK} {db dc : St → Hp → Prop} {σ : St} {H B : Hp} {L : Pic}
/-- a list that is read stands in the base, or is an own one that is not changed -/
def NxI {β : Type} (I : β → St → Pic → Hp → Prop) (b : β) : St → Hp → Prop := fun σ H => ∃ L B, I b σ L B ∧ Hs B L H
theorem w_forL (f : α → V) (l : List α) (I : List α → St → Pic → Hp → Prop) (hs : Hs B L H) (h0 : I [] σ L B) (hq : ∀ pre post σ' L' B' H', l = pre ++ post → I pre σ' L' B' → Hs B' L' H' → SqL K H' a (l.map f))
    (turn : ∀ pre x post σ' L' B' H', l = pre ++ x :: post → I pre σ' L' B' → Hs B' L' H' → g (f x) σ' H' fun σ2 H2 => tb ⟨NxI I (pre ++ [x]), dr, dn, NxI I (pre ++ [x])⟩ σ2 H2)
    (fin : ∀ σ' L' B' H', I l σ' L' B' → Hs B' L' H' → dn σ' H') :
    ∃ b, V.ref a = .ref b ∧ (∃ xs, SqL K H b xs) ∧ ∃ W : Nat → Nat → St → Hp → Prop, (∃ m, W 0 m σ H) ∧ ∀ i m σ H, W i m σ H →
      ((Itl K b).stop i H ∧ dn σ H) ∨ ((Itl K b).go i H ∧ ∃ N : St → Hp → Prop, (∀ σ' H', N σ' H' → ∃ m', m' < m ∧ W (i + 1) m' σ' H') ∧ ∀ x H', (Itl K b).yld i H x H' → g x σ H' fun σ2 H2 => tb ⟨N, dr, dn, N⟩ σ2 H2) :=
  ⟨a, rfl, ⟨_, hq [] l σ L B H rfl h0 hs⟩, for_l f l (NxI I) ⟨L, B, h0, hs⟩ (fun pre post σ' H' e ⟨_, _, i, h⟩ => hq pre post _ _ _ _ e i h) (fun pre x post σ' H' e ⟨_, _, i, h⟩ => turn pre x post _ _ _ _ e i h) fun σ' H' ⟨_, _, i, h⟩ => fin _ _ _ _ i h⟩
theorem w_forR {lo : Int} {n : Nat} (I : Nat → St → Pic → Hp → Prop) (hs : Hs B L H) (h0 : I 0 σ L B)
    (turn : ∀ i σ' L' B' H', i < n → I i σ' L' B' → Hs B' L' H' → g (.int (lo + i)) σ' H' fun σ2 H2 => tb ⟨NxI I (i + 1), dr, dn, NxI I (i + 1)⟩ σ2 H2)
    (fin : ∀ σ' L' B' H', I n σ' L' B' → Hs B' L' H' → dn σ' H') :
    ∃ W : Nat → Nat → St → Hp → Prop, (∃ m, W 0 m σ H) ∧ ∀ i m σ H, W i m σ H →
      ((Itr lo n).stop i H ∧ dn σ H) ∨ ((Itr lo n).go i H ∧ ∃ N : St → Hp → Prop, (∀ σ' H', N σ' H' → ∃ m', m' < m ∧ W (i + 1) m' σ' H') ∧ ∀ x H', (Itr lo n).yld i H x H' → g x σ H' fun σ2 H2 => tb ⟨N, dr, dn, N⟩ σ2 H2) :=
  L2.for_range (D := { nx := dn, rt := dr }) (NxI I) ⟨L, B, h0, hs⟩ (fun i σ' H' e ⟨_, _, q, h⟩ => turn i _ _ _ _ e q h) fun σ' H' ⟨_, _, q, h⟩ => fin _ _ _ _ q h
theorem c_rng1 {n : Int} {P : It → Hp → Prop} (h1 : -(2 ^ 62) ≤ n) (h2 : n < 2 ^ 62) (k : P (Itr 0 n.toNat) H) : ∃ j : Int, [V.int n] = [.int j] ∧ -(2 ^ 62) ≤ j ∧ j < 2 ^ 62 ∧ P (Itr 0 j.toNat) H := ⟨n, rfl, h1, h2, k⟩
theorem c_rng2 {i j : Int} {P : It → Hp → Prop} (h1 : -(2 ^ 62) ≤ i ∧ i < 2 ^ 62 ∧ -(2 ^ 62) ≤ j ∧ j < 2 ^ 62) (k : P (Itr i (j - i).toNat) H) :
    ∃ i' j' : Int, [V.int i, V.int j] = [.int i', .int j'] ∧ (-(2 ^ 62) ≤ i' ∧ i' < 2 ^ 62 ∧ -(2 ^ 62) ≤ j' ∧ j' < 2 ^ 62) ∧ P (Itr i' (j' - i').toNat) H := ⟨i, j, rfl, h1, k⟩
/-- while: I falls by its number -/
def WhN (I : Nat → St → Pic → Hp → Prop) (m : Nat) : St → Hp → Prop := fun σ H => ∃ m', m' < m ∧ NxI I m' σ H
theorem w_while {c : TT} (I : Nat → St → Pic → Hp → Prop) (m0 : Nat) (hs : Hs B L H) (h0 : I m0 σ L B)
    (turn : ∀ m σ' L' B' H', I m σ' L' B' → Hs B' L' H' → c σ' H' fun b H1 => if b = true then ∃ N : St → Hp → Prop, (∀ σ3 H3, N σ3 H3 → WhN I m σ3 H3) ∧ tb ⟨N, dr, dn, N⟩ σ' H1 else dn σ' H1) :
    tWhile c tb ⟨dn, dr, db, dc⟩ σ H := ⟨fun m => NxI I m, ⟨m0, L, B, h0, hs⟩, fun m σ' H' ⟨_, _, q, h⟩ => turn m σ' _ _ H' q h⟩
theorem w_turn {P : St → Hp → Prop} (k : tb ⟨P, dr, dn, P⟩ σ H) : ∃ N : St → Hp → Prop, (∀ σ3 H3, N σ3 H3 → P σ3 H3) ∧ tb ⟨N, dr, dn, N⟩ σ H := ⟨_, fun _ _ w => w, k⟩
end
/-! ### comprehensions -/
section
variable {α : Type} {K : PySem.W.Frag} {a : Addr} {g : TG} {tt : TT} {te tl : TE} {σ : St} {H B : Hp} {L : Pic} {Q : VK} {vs : List Nat}
/-- the turn's word: what was made so far stands at D -/
def LcN (I : List α → List V → Hp → Prop) (B : Hp) (L : Pic) (D : Addr) (pre : List α) : Hp → Prop := fun H' => ∃ acc B', I pre acc B' ∧ Same B B' ∧ Hs B' ((D, .lst acc) :: L) H'
theorem c_lcL {P : Addr → Hp → Prop} (f : α → V) (l : List α) (I : List α → List V → Hp → Prop) (hs : Hs B L H) (h0 : I [] [] B)
    (hq : ∀ B' H', Same B B' → Hs B' L H' → SqL K H' a (l.map f))
    (turn : ∀ pre x post acc B' D H', l = pre ++ x :: post → I pre acc B' → Same B B' → Hs B' ((D, .lst acc) :: L) H' → g (f x) (wipe σ vs) H' fun σ2 H2 => wipe σ2 vs = wipe σ vs ∧ tt σ2 H2 fun b H3 =>
      if b = true then te σ2 H3 fun y H4 => ∃ acc, H4 D = some (.lst acc) ∧ acc.length < sizeLine ∧ LcN I B L D (pre ++ [x]) (upd H4 D (.lst (acc ++ [y]))) else LcN I B L D (pre ++ [x]) H3)
    (fin : ∀ acc B' D H', I l acc B' → Same B B' → Hs B' ((D, .lst acc) :: L) H' → P D H') :
    ∃ b, V.ref a = .ref b ∧ (∃ xs, SqL K H b xs) ∧ ∀ D, H D = none → ∃ W : Nat → Nat → Hp → Prop, (∃ m, W 0 m (upd H D (.lst []))) ∧ ∀ i m H, W i m H →
      ((Itl K b).stop i H ∧ P D H) ∨ ((Itl K b).go i H ∧ ∃ Nx : Hp → Prop, (∀ H', Nx H' → ∃ m', m' < m ∧ W (i + 1) m' H') ∧ ∀ x H', (Itl K b).yld i H x H' → g x (wipe σ vs) H' fun σ2 H2 => wipe σ2 vs = wipe σ vs ∧ tt σ2 H2 fun b H3 =>
        if b = true then te σ2 H3 fun y H4 => ∃ acc, H4 D = some (.lst acc) ∧ acc.length < sizeLine ∧ Nx (upd H4 D (.lst (acc ++ [y]))) else Nx H3) :=
  ⟨a, rfl, ⟨_, hq B H (Same.refl B) hs⟩, fun D hD => lc_l f l (LcN I B L D) ⟨[], B, h0, Same.refl B, hs.new hD⟩ (fun pre post H' _ ⟨acc, B', _, e, h⟩ => hq B' H' e h.drop)
    (fun pre x post H' e ⟨acc, B', p, e2, h⟩ => turn pre x post acc B' D H' e p e2 h) fun H' ⟨acc, B', p, e, h⟩ => fin acc B' D H' p e h⟩
theorem c_lcR {P : Addr → Hp → Prop} {lo : Int} {n : Nat} (I : Nat → List V → Hp → Prop) (hs : Hs B L H) (h0 : I 0 [] B)
    (turn : ∀ i acc B' D H', i < n → I i acc B' → Same B B' → Hs B' ((D, .lst acc) :: L) H' → g (.int (lo + i)) (wipe σ vs) H' fun σ2 H2 => wipe σ2 vs = wipe σ vs ∧ tt σ2 H2 fun b H3 =>
      if b = true then te σ2 H3 fun y H4 => ∃ acc, H4 D = some (.lst acc) ∧ acc.length < sizeLine ∧ (fun H' => ∃ acc B', I (i + 1) acc B' ∧ Same B B' ∧ Hs B' ((D, .lst acc) :: L) H') (upd H4 D (.lst (acc ++ [y]))) else (fun H' => ∃ acc B', I (i + 1) acc B' ∧ Same B B' ∧ Hs B' ((D, .lst acc) :: L) H') H3)
    (fin : ∀ acc B' D H', I n acc B' → Same B B' → Hs B' ((D, .lst acc) :: L) H' → P D H') :
    ∀ D, H D = none → ∃ W : Nat → Nat → Hp → Prop, (∃ m, W 0 m (upd H D (.lst []))) ∧ ∀ i m H, W i m H →
      ((Itr lo n).stop i H ∧ P D H) ∨ ((Itr lo n).go i H ∧ ∃ Nx : Hp → Prop, (∀ H', Nx H' → ∃ m', m' < m ∧ W (i + 1) m' H') ∧ ∀ x H', (Itr lo n).yld i H x H' → g x (wipe σ vs) H' fun σ2 H2 => wipe σ2 vs = wipe σ vs ∧ tt σ2 H2 fun b H3 =>
        if b = true then te σ2 H3 fun y H4 => ∃ acc, H4 D = some (.lst acc) ∧ acc.length < sizeLine ∧ Nx (upd H4 D (.lst (acc ++ [y]))) else Nx H3) :=
  fun D hD => L2.lc_range (fun i H' => ∃ acc B', I i acc B' ∧ Same B B' ∧ Hs B' ((D, .lst acc) :: L) H') ⟨[], B, h0, Same.refl B, hs.new hD⟩
    (fun i H' e ⟨acc, B', p, e2, h⟩ => turn i acc B' D H' e p e2 h) fun H' ⟨acc, B', p, e, h⟩ => fin acc B' D H' p e h
/-- one item more -/
theorem c_item {D : Addr} {acc : List V} {y : V} {B2 : Hp} {P : List V → Hp → Prop} (h : Hs B2 ((D, .lst acc) :: L) H) (hz : acc.length < sizeLine) (e : Same B B2) (i : P (acc ++ [y]) B2) :
    ∃ acc, H D = some (.lst acc) ∧ acc.length < sizeLine ∧ ∃ acc2 B', P acc2 B' ∧ Same B B' ∧ Hs B' ((D, .lst acc2) :: L) (upd H D (.lst (acc ++ [y]))) :=
  ⟨acc, h.get (.head _), hz, acc ++ [y], B2, i, e, h.u0⟩
theorem c_lc {wi : TI} (k : wi σ H fun J H1 => ∀ D, H1 D = none → ∃ W : Nat → Nat → Hp → Prop, (∃ m, W 0 m (upd H1 D (.lst []))) ∧ ∀ i m H, W i m H →
      (J.stop i H ∧ Q (.ref D) H) ∨ (J.go i H ∧ ∃ Nx : Hp → Prop, (∀ H', Nx H' → ∃ m', m' < m ∧ W (i + 1) m' H') ∧ ∀ x H', J.yld i H x H' → g x (wipe σ vs) H' fun σ2 H2 => wipe σ2 vs = wipe σ vs ∧ tt σ2 H2 fun b H3 =>
        if b = true then te σ2 H3 fun y H4 => ∃ acc, H4 D = some (.lst acc) ∧ acc.length < sizeLine ∧ Nx (upd H4 D (.lst (acc ++ [y]))) else Nx H3)) : tLc wi g tt te vs σ H Q := k
theorem w_for {wi : TI} {tb : TS} {dn : St → Hp → Prop} {dr : VK} {db dc : St → Hp → Prop} (k : wi σ H fun J H1 => ∃ W : Nat → Nat → St → Hp → Prop, (∃ m, W 0 m σ H1) ∧ ∀ i m σ H, W i m σ H →
  (J.stop i H ∧ dn σ H) ∨ (J.go i H ∧ ∃ N : St → Hp → Prop, (∀ σ' H', N σ' H' → ∃ m', m' < m ∧ W (i + 1) m' σ' H') ∧ ∀ x H', J.yld i H x H' → g x σ H' fun σ2 H2 => tb ⟨N, dr, dn, N⟩ σ2 H2)) : tFor wi g tb ⟨dn, dr, db, dc⟩ σ H := k
theorem c_iL {R : It → Hp → Prop} (k : tl σ H fun x H1 => ∃ a, x = .ref a ∧ (∃ xs, SqL K H1 a xs) ∧ R (Itl K a) H1) : iList K tl σ H R := k
theorem c_iT {R : It → Hp → Prop} (k : tl σ H fun x H1 => ∃ a, x = .ref a ∧ (∃ xs, SqT K H1 a xs) ∧ R (Itt K a) H1) : iTup K tl σ H R := k
theorem c_iR1 {ta : TA} {R : It → Hp → Prop} (k : ta σ H fun vs H1 => ∃ j : Int, vs = [.int j] ∧ -(2 ^ 62) ≤ j ∧ j < 2 ^ 62 ∧ R (Itr 0 j.toNat) H1) : iRng1 ta σ H R := k
theorem c_iR2 {ta : TA} {R : It → Hp → Prop} (k : ta σ H fun vs H1 => ∃ i j : Int, vs = [.int i, .int j] ∧ (-(2 ^ 62) ≤ i ∧ i < 2 ^ 62 ∧ -(2 ^ 62) ≤ j ∧ j < 2 ^ 62) ∧ R (Itr i (j - i).toNat) H1) : iRng2 ta σ H R := k
theorem c_yes {P : Bool → Hp → Prop} (k : P true H) : tYes σ H P := k
/-! targets, fields, methods of lists -/
theorem g_tup {n : Nat} {t : TGs} {xs : List V} {P : St → Hp → Prop} (h : SqT K H a xs) (hn : xs.length = n) (k : t xs σ H P) : gTup K n t (.ref a) σ H P := ⟨a, xs, rfl, h, hn, k⟩
theorem g_lst {n : Nat} {t : TGs} {xs : List V} {P : St → Hp → Prop} (h : SqL K H a xs) (hn : xs.length = n) (k : t xs σ H P) : gLst K n t (.ref a) σ H P := ⟨a, xs, rfl, h, hn, k⟩
theorem g_cons {t : TG} {u : TGs} {v : V} {r : List V} {P : St → Hp → Prop} (k : t v σ H fun σ' H' => u r σ' H' P) : gCons t u (v :: r) σ H P := ⟨v, r, rfl, k⟩
theorem g_nil {P : St → Hp → Prop} (k : P σ H) : gNil [] σ H P := ⟨rfl, k⟩
theorem c_tfld {f : Str} (k : te σ H fun x H1 => FldO K f x H1 Q) : tFld K te f σ H Q := k
def PutO (K : PySem.W.Frag) (f : Str) (y x : V) (H : Hp) (P : Hp → Prop) : Prop := ∃ a C dx fs, x = .ref a ∧ H a = some (.ins C dx fs) ∧ Cls K C ∧ NoAttr K C f ∧ fs.length < 1000 ∧ P (upd H a (.ins C dx (putF f y fs)))
theorem w_sfld {f : Str} {ta : TE} {dn : St → Hp → Prop} {dr : VK} {db dc : St → Hp → Prop} (k : te σ H fun y H1 => ta σ H1 fun x H2 => PutO K f y x H2 (dn σ)) : sFld K ta te f ⟨dn, dr, db, dc⟩ σ H := k
theorem w_put0 {f : Str} {C dx : Addr} {y : V} {fs fs' : List (Str × V)} {P : Hp → Prop} (hs : Hs B ((a, .ins C dx fs) :: L) H) (hc : Cls K C) (hn : NoAttr K C f) (hl : fs.length < 1000) (e : putF f y fs = fs')
    (k : ∀ H', Hs B ((a, .ins C dx fs') :: L) H' → P H') : PutO K f y (.ref a) H P :=
  ⟨a, C, dx, fs, rfl, hs.get (.head _), hc, hn, hl, by rw [e]; exact k _ hs.u0⟩
theorem w_put1 {q : Addr × HO} {f : Str} {C dx : Addr} {y : V} {fs fs' : List (Str × V)} {P : Hp → Prop} (hs : Hs B (q :: (a, .ins C dx fs) :: L) H) (hc : Cls K C) (hn : NoAttr K C f) (hl : fs.length < 1000) (e : putF f y fs = fs')
    (k : ∀ H', Hs B (q :: (a, .ins C dx fs') :: L) H' → P H') : PutO K f y (.ref a) H P := w_put0 hs.swap hc hn hl e fun H' h => k H' h.swap
theorem w_put2 {q r : Addr × HO} {f : Str} {C dx : Addr} {y : V} {fs fs' : List (Str × V)} {P : Hp → Prop} (hs : Hs B (q :: r :: (a, .ins C dx fs) :: L) H) (hc : Cls K C) (hn : NoAttr K C f) (hl : fs.length < 1000) (e : putF f y fs = fs')
    (k : ∀ H', Hs B (q :: r :: (a, .ins C dx fs') :: L) H' → P H') : PutO K f y (.ref a) H P := w_put0 hs.rot3 hc hn hl e fun H' h => k H' h.unrot3
def AugO (K : PySem.W.Frag) (f : Str) (x : V) (H : Hp) (P : Addr → Addr → V → Prop) : Prop := ∃ a C dx fs v, x = .ref a ∧ H a = some (.ins C dx fs) ∧ Cls K C ∧ NoAttr K C f ∧ fs.lookup f = some v ∧ P a C v
def AputO (f : Str) (a C : Addr) (z : V) (H : Hp) (P : Hp → Prop) : Prop := ∃ dx' fs', H a = some (.ins C dx' fs') ∧ fs'.length < 1000 ∧ P (upd H a (.ins C dx' (putF f z fs')))
theorem w_sfldAug {f : Str} {ta : TE} {rd : V → V → Hp → VK → Prop} {dn : St → Hp → Prop} {dr : VK} {db dc : St → Hp → Prop} (k : ta σ H fun x H1 => AugO K f x H1 fun a C v => te σ H1 fun y H2 => rd v y H2 fun z H3 => AputO f a C z H3 (dn σ)) : sFldAug K ta te rd f ⟨dn, dr, db, dc⟩ σ H := k
theorem c_fldA {f : Str} {C dx : Addr} {fs : List (Str × V)} {v : V} {P : Addr → Addr → V → Prop} (h : H a = some (.ins C dx fs)) (hc : Cls K C) (hn : NoAttr K C f) (hl : fs.lookup f = some v) (k : P a C v) :
    AugO K f (.ref a) H P := ⟨a, C, dx, fs, v, rfl, h, hc, hn, hl, k⟩
theorem c_radd {i j : Int} (k : Q (.int (i + j)) H) : rAdd (.int i) (.int j) H Q := ⟨i, j, rfl, rfl, k⟩
theorem c_rsub {i j : Int} (k : Q (.int (i - j)) H) : rSub (.int i) (.int j) H Q := ⟨i, j, rfl, rfl, k⟩
theorem w_aput0 {f : Str} {C dx : Addr} {z : V} {fs fs' : List (Str × V)} {P : Hp → Prop} (hs : Hs B ((a, .ins C dx fs) :: L) H) (hl : fs.length < 1000) (e : putF f z fs = fs') (k : ∀ H', Hs B ((a, .ins C dx fs') :: L) H' → P H') :
    AputO f a C z H P := ⟨dx, fs, hs.get (.head _), hl, by rw [e]; exact k _ hs.u0⟩
theorem w_aput1 {q : Addr × HO} {f : Str} {C dx : Addr} {z : V} {fs fs' : List (Str × V)} {P : Hp → Prop} (hs : Hs B (q :: (a, .ins C dx fs) :: L) H) (hl : fs.length < 1000) (e : putF f z fs = fs') (k : ∀ H', Hs B (q :: (a, .ins C dx fs') :: L) H' → P H') :
    AputO f a C z H P := w_aput0 hs.swap hl e fun H' h => k H' h.swap
theorem w_aput2 {q r : Addr × HO} {f : Str} {C dx : Addr} {z : V} {fs fs' : List (Str × V)} {P : Hp → Prop} (hs : Hs B (q :: r :: (a, .ins C dx fs) :: L) H) (hl : fs.length < 1000) (e : putF f z fs = fs') (k : ∀ H', Hs B (q :: r :: (a, .ins C dx fs') :: L) H' → P H') :
    AputO f a C z H P := w_aput0 hs.rot3 hl e fun H' h => k H' h.unrot3
theorem c_bm {T : String} {r : V → List V → Hp → VK → Prop} {t : TA} (k : te σ H fun x H1 => tyV K T x H1 ∧ t σ H1 fun xs H2 => r x xs H2 Q) : tBM K T r te t σ H Q := k
theorem c_bm0 {T : String} {r : V → List V → Hp → VK → Prop} (k : te σ H fun x H1 => tyV K T x H1 ∧ r x [] H1 Q) : tBM0 K T r te σ H Q := k
theorem c_tyL {xs : List V} {P : Prop} (h : SqL K H a xs) (k : P) : tyV K "list" (.ref a) H ∧ P := ⟨.inl ⟨rfl, _, h⟩, k⟩
theorem c_app0 {xs : List V} {y : V} (hs : Hs B ((a, .lst xs) :: L) H) (hz : xs.length < sizeLine) (k : ∀ H', Hs B ((a, .lst (xs ++ [y])) :: L) H' → Q .non H') : rAppend (.ref a) [y] H Q := ⟨a, xs, y, rfl, rfl, hs.get (.head _), hz, k _ hs.u0⟩
theorem c_app1 {q : Addr × HO} {xs : List V} {y : V} (hs : Hs B (q :: (a, .lst xs) :: L) H) (hz : xs.length < sizeLine) (k : ∀ H', Hs B (q :: (a, .lst (xs ++ [y])) :: L) H' → Q .non H') : rAppend (.ref a) [y] H Q := c_app0 hs.swap hz fun H' h => k H' h.swap
theorem c_app2 {q r : Addr × HO} {xs : List V} {y : V} (hs : Hs B (q :: r :: (a, .lst xs) :: L) H) (hz : xs.length < sizeLine) (k : ∀ H', Hs B (q :: r :: (a, .lst (xs ++ [y])) :: L) H' → Q .non H') : rAppend (.ref a) [y] H Q := c_app0 hs.rot3 hz fun H' h => k H' h.unrot3
theorem c_sl {r : V → Option Int → Option Int → Hp → VK → Prop} {lo hi : TO} (k : te σ H fun x H1 => lo σ H1 fun l H2 => hi σ H2 fun u H3 => r x l u H3 Q) : tSl r te lo hi σ H Q := k
theorem c_part {P : Option Int → Hp → Prop} (k : te σ H fun x H1 => ∃ i, x = .int i ∧ P (some i) H1) : tPart te σ H P := k
theorem c_nopart {P : Option Int → Hp → Prop} (k : P none H) : tNoPart σ H P := k
theorem c_i {i : Int} {P : Int → Prop} (k : P i) : ∃ j, V.int i = .int j ∧ P j := ⟨i, rfl, k⟩
theorem small5 {n : Nat} (h : n ≤ 100000) : n < sizeLine := Nat.lt_of_le_of_lt h (by decide)
theorem small5' {n : Nat} (h : n ≤ 100000) : n ≤ sizeLine := Nat.le_trans h (by decide)
end
end L2.BP
namespace L2.BP
open PySem PySem.Spec PyProof.Rows
section
variable {f g : Str} {v w y : V} {r r' : List (Str × V)}
theorem look0 : List.lookup f ((f, v) :: r) = some v := by simp [List.lookup]
theorem lookS (h : ¬ f = g) (e : List.lookup f r = some v) : List.lookup f ((g, w) :: r) = some v := by
  have n : (f == g) = false := by simpa using h
  show (match f == g with | true => some w | false => List.lookup f r) = some v
  rw [n]
  exact e
theorem lookN : List.lookup f ([] : List (Str × V)) = none := rfl
theorem lookNS (h : ¬ f = g) (e : List.lookup f r = none) : List.lookup f ((g, w) :: r) = none := by
  have n : (f == g) = false := by simpa using h
  show (match f == g with | true => some w | false => List.lookup f r) = none
  rw [n]
  exact e
theorem put0 : putF f y ((f, v) :: r) = (f, y) :: r := if_pos rfl
theorem putN : putF f y [] = [(f, y)] := rfl
theorem putS (h : ¬ g = f) (e : putF f y r = r') : putF f y ((g, w) :: r) = (g, w) :: r' := by
  show (if g = f then _ else (g, w) :: putF f y r) = _
  rw [if_neg h, e]
end
section
variable {K : PySem.W.Frag} {σ : St} {H B : Hp} {L : Pic} {Q : VK} {sp : Sp} {W : WX} {dvs vs : List V} {C : Addr}
def MkO (C : Addr) (sp : Sp) (vs : List V) (H : Hp) (Q : VK) (E : XK) : Prop := ∀ x dx, H x = none → H dx = none → dx ≠ x → sp (.ref x :: vs) (upd (upd H dx (.own x)) x (.ins C dx [])) (fun v H2 => v = .non ∧ Q (.ref x) H2) E
theorem c_mk {t : TA} (k : t σ H fun vs H1 => MkO C sp (vs ++ dvs) H1 Q fun c d H2 => W c d σ H2) : tMk C sp dvs W t σ H Q := k
theorem c_mkO {E : XK} (hs : Hs B L H) (k : ∀ x dx H', Hs B ((x, .ins C dx []) :: L) H' → sp (.ref x :: vs) H' (fun v H2 => v = .non ∧ Q (.ref x) H2) E) : MkO C sp vs H Q E := fun x dx hx hdx ne => by
  have h1 := hs.new (o := HO.own x) hdx
  have h2 : (upd H dx (.own x)) x = none := by rw [upd_ne (Ne.symm ne)]; exact hx
  exact k x dx _ (h1.new h2).swap.drop
/-- drop what stands second, third -/
theorem Hs.drop1 {a b : Addr × HO} (h : Hs B (a :: b :: L) H) : Hs B (a :: L) H := h.swap.drop
theorem Hs.drop2 {a b c : Addr × HO} (h : Hs B (a :: b :: c :: L) H) : Hs B (a :: b :: L) H := h.rot3.drop
end
end L2.BP
namespace L2.BP
open PySem PySem.Spec PyProof.Rows
/-! ### walks that hand out pairs; walks of tuples -/
section
variable {α : Type} {K : PySem.W.Frag} {a : Addr} {g : TG} {tb : TS} {dn : St → Hp → Prop} {dr : VK} {db dc : St → Hp → Prop} {σ : St} {H B : Hp} {L : Pic}
/-- what a for asks of its iterator -/
def ForO (J : It) (g : TG) (tb : TS) (dn : St → Hp → Prop) (dr : VK) (σ : St) (H : Hp) : Prop := ∃ W : Nat → Nat → St → Hp → Prop, (∃ m, W 0 m σ H) ∧ ∀ i m σ H, W i m σ H →
  (J.stop i H ∧ dn σ H) ∨ (J.go i H ∧ ∃ N : St → Hp → Prop, (∀ σ' H', N σ' H' → ∃ m', m' < m ∧ W (i + 1) m' σ' H') ∧ ∀ x H', J.yld i H x H' → g x σ H' fun σ2 H2 => tb ⟨N, dr, dn, N⟩ σ2 H2)
theorem get_map {f : α → V} {l : List α} {i : Nat} {x : V} (h : (l.map f)[i]? = some x) : ∃ y, l[i]? = some y ∧ x = f y := by
  rw [List.getElem?_map] at h
  cases e : l[i]? with
  | none => rw [e] at h; cases h
  | some y => rw [e] at h; exact ⟨y, rfl, (Option.some.inj h).symm⟩
theorem w_forE (f : α → V) (l : List α) (I : List α → St → Pic → Hp → Prop) (hs : Hs B L H) (h0 : I [] σ L B) (hq : ∀ pre post σ' L' B' H', l = pre ++ post → I pre σ' L' B' → Hs B' L' H' → SqL K H' a (l.map f))
    (turn : ∀ pre x post σ' L' B' T H', l = pre ++ x :: post → I pre σ' L' B' → Hs B' ((T, .tup [.int ((pre.length : Nat) : Int), f x]) :: L') H' → g (.ref T) σ' H' fun σ2 H2 => tb ⟨NxI I (pre ++ [x]), dr, dn, NxI I (pre ++ [x])⟩ σ2 H2)
    (fin : ∀ σ' L' B' H', I l σ' L' B' → Hs B' L' H' → dn σ' H') : ForO (Ite K a) g tb dn dr σ H := by
  refine ⟨fun i m σ H => m = l.length - i ∧ i ≤ l.length ∧ NxI I (l.take i) σ H, ⟨l.length, by simp, Nat.zero_le _, L, B, by simpa using h0, hs⟩, ?_⟩
  rintro i m σ' H' ⟨rfl, hi, L', B', q, h⟩
  have z := hq (l.take i) (l.drop i) σ' L' B' H' (List.take_append_drop i l).symm q h
  by_cases hlt : i < l.length
  · refine .inr ⟨⟨l.map f, f l[i], z, by simp [hlt]⟩, NxI I (l.take (i + 1)), fun σ2 H2 p => ⟨_, by omega, rfl, hlt, p⟩, ?_⟩
    rintro v H2 ⟨T, x, rfl, hT, rfl, hx⟩
    obtain ⟨y, e1, rfl⟩ := get_map (hx _ z)
    obtain ⟨e2, e3⟩ := take_split e1
    have el : (l.take i).length = i := by rw [List.length_take]; omega
    have w := turn _ y _ σ' L' B' T _ e2 q (by rw [el]; exact h.new hT)
    rw [e3]
    exact w
  · have e : i = l.length := by omega
    subst e
    exact .inl ⟨⟨_, z, by simp⟩, fin _ _ _ _ (by simpa using q) h⟩
/-- over a tuple -/
theorem w_forT (xs : List V) (I : List V → St → Pic → Hp → Prop) (hs : Hs B L H) (h0 : I [] σ L B) (hq : ∀ pre post σ' L' B' H', xs = pre ++ post → I pre σ' L' B' → Hs B' L' H' → SqT K H' a xs)
    (turn : ∀ pre x post σ' L' B' H', xs = pre ++ x :: post → I pre σ' L' B' → Hs B' L' H' → g x σ' H' fun σ2 H2 => tb ⟨NxI I (pre ++ [x]), dr, dn, NxI I (pre ++ [x])⟩ σ2 H2)
    (fin : ∀ σ' L' B' H', I xs σ' L' B' → Hs B' L' H' → dn σ' H') :
    ∃ b, V.ref a = .ref b ∧ (∃ xs, SqT K H b xs) ∧ ForO (Itt K b) g tb dn dr σ H := by
  refine ⟨a, rfl, ⟨_, hq [] xs σ L B H rfl h0 hs⟩, ?_⟩
  refine L2.for_tup (D := { nx := dn, rt := dr }) (K := K) (a := a) (xs := xs) (fun i => NxI I (xs.take i)) ⟨L, B, by simpa using h0, hs⟩ (fun i σ' H' _ ⟨L', B', q, h⟩ => hq (xs.take i) (xs.drop i) σ' L' B' H' (List.take_append_drop i xs).symm q h) (fun i x σ' H' hx ⟨L', B', q, h⟩ => ?_) fun σ' H' ⟨L', B', q, h⟩ => fin _ _ _ _ (by simpa using q) h
  obtain ⟨e1, e2⟩ := take_split hx
  have w := turn _ x _ σ' L' B' H' e1 q h
  rw [e2]
  exact w
/-- over two lists -/
theorem w_forZ {β : Type} {b : Addr} (f : α → V) (f2 : β → V) (l : List α) (l2 : List β) (hl : l.length = l2.length) (I : Nat → St → Pic → Hp → Prop) (hs : Hs B L H) (h0 : I 0 σ L B)
    (hq : ∀ i σ' L' B' H', I i σ' L' B' → Hs B' L' H' → SqL K H' a (l.map f) ∧ SqL K H' b (l2.map f2))
    (turn : ∀ i x y σ' L' B' T H', l[i]? = some x → l2[i]? = some y → I i σ' L' B' → Hs B' ((T, .tup [f x, f2 y]) :: L') H' → g (.ref T) σ' H' fun σ2 H2 => tb ⟨NxI I (i + 1), dr, dn, NxI I (i + 1)⟩ σ2 H2)
    (fin : ∀ σ' L' B' H', I l.length σ' L' B' → Hs B' L' H' → dn σ' H') : ForO (Itz K a b) g tb dn dr σ H := by
  refine ⟨fun i m σ H => m = l.length - i ∧ i ≤ l.length ∧ NxI I i σ H, ⟨l.length, by simp, Nat.zero_le _, L, B, h0, hs⟩, ?_⟩
  rintro i m σ' H' ⟨rfl, hi, L', B', q, h⟩
  obtain ⟨z1, z2⟩ := hq i σ' L' B' H' q h
  by_cases hlt : i < l.length
  · have hlt2 : i < l2.length := by omega
    refine .inr ⟨⟨l.map f, l2.map f2, f l[i], f2 l2[i], z1, z2, by simp [hlt], by simp [hlt2]⟩, NxI I (i + 1), fun σ2 H2 p => ⟨_, by omega, rfl, hlt, p⟩, ?_⟩
    rintro v H2 ⟨T, x, y, rfl, hT, rfl, hx, hy⟩
    obtain ⟨x', e1, rfl⟩ := get_map (hx _ z1)
    obtain ⟨y', e2, rfl⟩ := get_map (hy _ z2)
    exact turn i x' y' σ' L' B' T _ e1 e2 q (h.new hT)
  · have e : i = l.length := by omega
    subst e
    exact .inl ⟨⟨_, _, z1, z2, by simp⟩, fin _ _ _ _ q h⟩
theorem c_iE {ta : TA} {R : It → Hp → Prop} (k : ta σ H fun vs H1 => ∃ a xs, vs = [.ref a] ∧ SqL K H1 a xs ∧ R (Ite K a) H1) : iEnum K ta σ H R := k
theorem c_iE1 {R : It → Hp → Prop} {xs : List V} (h : SqL K H a xs) (k : R (Ite K a) H) : ∃ b xs, [V.ref a] = [.ref b] ∧ SqL K H b xs ∧ R (Ite K b) H := ⟨a, xs, rfl, h, k⟩
theorem c_iZ {ta : TA} {R : It → Hp → Prop} (k : ta σ H fun vs H1 => ∃ a b xs ys, vs = [.ref a, .ref b] ∧ SqL K H1 a xs ∧ SqL K H1 b ys ∧ R (Itz K a b) H1) : iZip K ta σ H R := k
theorem c_iZ1 {R : It → Hp → Prop} {b : Addr} {xs ys : List V} (h : SqL K H a xs) (h2 : SqL K H b ys) (k : R (Itz K a b) H) : ∃ a' b' xs ys, [V.ref a, V.ref b] = [.ref a', .ref b'] ∧ SqL K H a' xs ∧ SqL K H b' ys ∧ R (Itz K a' b') H := ⟨a, b, xs, ys, rfl, h, h2, k⟩
end
section
variable {α : Type} {K : PySem.W.Frag} {a : Addr} {g : TG} {tt : TT} {te tl : TE} {σ : St} {H B : Hp} {L : Pic} {vs : List Nat}
/-- what a comprehension asks of its iterator -/
def LcO (J : It) (g : TG) (tt : TT) (te : TE) (vs : List Nat) (σ : St) (H : Hp) (P : Addr → Hp → Prop) : Prop := ∀ D, H D = none → ∃ W : Nat → Nat → Hp → Prop, (∃ m, W 0 m (upd H D (.lst []))) ∧ ∀ i m H, W i m H →
  (J.stop i H ∧ P D H) ∨ (J.go i H ∧ ∃ Nx : Hp → Prop, (∀ H', Nx H' → ∃ m', m' < m ∧ W (i + 1) m' H') ∧ ∀ x H', J.yld i H x H' → g x (wipe σ vs) H' fun σ2 H2 => wipe σ2 vs = wipe σ vs ∧ tt σ2 H2 fun b H3 =>
    if b = true then te σ2 H3 fun y H4 => ∃ acc, H4 D = some (.lst acc) ∧ acc.length < sizeLine ∧ Nx (upd H4 D (.lst (acc ++ [y]))) else Nx H3)
theorem c_lcE {P : Addr → Hp → Prop} (f : α → V) (l : List α) (I : List α → List V → Hp → Prop) (hs : Hs B L H) (h0 : I [] [] B) (hq : ∀ B' H', Same B B' → Hs B' L H' → SqL K H' a (l.map f))
    (turn : ∀ pre x post acc B' D T H', l = pre ++ x :: post → I pre acc B' → Same B B' → Hs B' ((T, .tup [.int ((pre.length : Nat) : Int), f x]) :: (D, .lst acc) :: L) H' → g (.ref T) (wipe σ vs) H' fun σ2 H2 => wipe σ2 vs = wipe σ vs ∧ tt σ2 H2 fun b H3 =>
      if b = true then te σ2 H3 fun y H4 => ∃ acc, H4 D = some (.lst acc) ∧ acc.length < sizeLine ∧ LcN I B L D (pre ++ [x]) (upd H4 D (.lst (acc ++ [y]))) else LcN I B L D (pre ++ [x]) H3)
    (fin : ∀ acc B' D H', I l acc B' → Same B B' → Hs B' ((D, .lst acc) :: L) H' → P D H') : LcO (Ite K a) g tt te vs σ H P := by
  intro D hD
  refine ⟨fun i m H' => m = l.length - i ∧ i ≤ l.length ∧ LcN I B L D (l.take i) H', ⟨l.length, by simp, Nat.zero_le _, [], B, by simpa using h0, Same.refl B, hs.new hD⟩, ?_⟩
  rintro i m H' ⟨rfl, hi, acc, B', q, e, h⟩
  have z := hq B' H' e h.drop
  by_cases hlt : i < l.length
  · refine .inr ⟨⟨l.map f, f l[i], z, by simp [hlt]⟩, LcN I B L D (l.take (i + 1)), fun H2 p => ⟨_, by omega, rfl, hlt, p⟩, ?_⟩
    rintro v H2 ⟨T, x, rfl, hT, rfl, hx⟩
    obtain ⟨y, e1, rfl⟩ := get_map (hx _ z)
    obtain ⟨e2, e3⟩ := take_split e1
    have el : (l.take i).length = i := by rw [List.length_take]; omega
    have w := turn _ y _ acc B' D T _ e2 q e (by rw [el]; exact h.new hT)
    rw [e3]
    exact w
  · have e' : i = l.length := by omega
    subst e'
    exact .inl ⟨⟨_, z, by simp⟩, fin acc B' D H' (by simpa using q) e h⟩
end
/-! ### lists of tuples -/
section
variable {K : PySem.W.Frag} {H H' : Hp}
/-- each of these values is a tuple of those items -/
inductive Tups (K : PySem.W.Frag) (H : Hp) : List V → List (List V) → Prop where
  | nil : Tups K H [] []
  | cons {a : Addr} {xs : List V} {vs : List V} {r : List (List V)} : SqT K H a xs → Tups K H vs r → Tups K H (V.ref a :: vs) (xs :: r)
theorem Tups.same (e : Same H H') : ∀ {vs : List V} {ps : List (List V)}, Tups K H vs ps → Tups K H' vs ps
  | _, _, .nil => .nil
  | _, _, .cons h t => .cons (same_sqt e h) (Tups.same e t)
theorem Tups.length : ∀ {vs : List V} {ps : List (List V)}, Tups K H vs ps → vs.length = ps.length
  | _, _, .nil => rfl
  | _, _, .cons _ t => congrArg (· + 1) t.length
theorem Tups.snoc {a : Addr} {xs : List V} : ∀ {vs : List V} {ps : List (List V)}, Tups K H vs ps → SqT K H a xs → Tups K H (vs ++ [.ref a]) (ps ++ [xs])
  | _, _, .nil, h => .cons h .nil
  | _, _, .cons z t, h => .cons z (t.snoc h)
theorem Tups.get : ∀ {vs : List V} {ps : List (List V)} {i : Nat} {xs : List V}, Tups K H vs ps → ps[i]? = some xs → ∃ a, vs[i]? = some (.ref a) ∧ SqT K H a xs
  | _, _, 0, _, .cons h _, e => by cases e; exact ⟨_, rfl, h⟩
  | _, _, i + 1, _, .cons _ t, e => t.get (i := i) e
theorem Tups.split {x : V} {post : List V} : ∀ {pre : List V} {ps : List (List V)}, Tups K H (pre ++ x :: post) ps → ∃ a p1 xs p2, x = .ref a ∧ ps = p1 ++ xs :: p2 ∧ p1.length = pre.length ∧ SqT K H a xs
  | [], ps, h => by
    cases (show Tups K H (x :: post) ps from h) with
    | cons hh t => exact ⟨_, [], _, _, rfl, rfl, rfl, hh⟩
  | y :: pre, ps, h => by
    cases (show Tups K H (y :: (pre ++ x :: post)) ps from h) with
    | cons hh t =>
      obtain ⟨a, p1, xs, p2, e1, e2, e3, e4⟩ := Tups.split t
      exact ⟨a, _ :: p1, xs, p2, e1, by rw [e2]; rfl, by simp [e3], e4⟩
end
end L2.BP
namespace L2.BP
open PySem PySem.Spec PyProof.Rows
section
variable {σ : St} {H B : Hp} {L : Pic} {K : PySem.W.Frag} {dn : St → Hp → Prop} {dr : VK} {db dc : St → Hp → Prop} {Q : VK} {tr : TA} {te to_ ti_ : TE} {a b : Addr} {xs ys : List V} {x v w o i : V}
theorem w_break (k : db σ H) : tBreak ⟨dn, dr, db, dc⟩ σ H := k
theorem w_cont (k : dc σ H) : tCont ⟨dn, dr, db, dc⟩ σ H := k
theorem w_retN (k : dr .non H) : tRetN ⟨dn, dr, db, dc⟩ σ H := k
def ParO (m n : Nat) (vs : List V) (σ : St) (dn : St → Hp → Prop) (H : Hp) : Prop := ∃ v w, vs = [v, w] ∧ dn ((σ.set m (some v)).set n (some w)) H
theorem w_par {m n : Nat} (k : tr σ H fun vs H1 => ParO m n vs σ dn H1) : tPar m n tr ⟨dn, dr, db, dc⟩ σ H := k
theorem c_parO {m n : Nat} (k : dn ((σ.set m (some v)).set n (some w)) H) : ParO m n [v, w] σ dn H := ⟨v, w, rfl, k⟩
/-! a list longer by another one, in place -/
theorem c_ext0 (hs : Hs B ((a, .lst xs) :: L) H) (hb : H b = some (.lst ys)) (hz : xs.length + ys.length ≤ sizeLine) (k : ∀ H', Hs B ((a, .lst (xs ++ ys)) :: L) H' → Q (.ref a) H') : ipAddU (.ref a) (.ref b) H Q :=
  .inr (.inl ⟨a, b, xs, ys, rfl, rfl, hs.get (.head _), hb, hz, k _ hs.u0⟩)
theorem c_extM0 (hs : Hs B ((a, .lst xs) :: L) H) (hb : H b = some (.lst ys)) (hz : xs.length + ys.length ≤ sizeLine) (k : ∀ H', Hs B ((a, .lst (xs ++ ys)) :: L) H' → Q .non H') : rExtend (.ref a) [.ref b] H Q :=
  ⟨a, b, xs, ys, rfl, rfl, hs.get (.head _), hb, hz, k _ hs.u0⟩
theorem c_clear0 (hs : Hs B ((a, .lst xs) :: L) H) (k : ∀ H', Hs B ((a, .lst []) :: L) H' → Q .non H') : rClear (.ref a) [] H Q := ⟨a, xs, rfl, rfl, hs.get (.head _), k _ hs.u0⟩
theorem c_reverse0 (hs : Hs B ((a, .lst xs) :: L) H) (k : ∀ H', Hs B ((a, .lst xs.reverse) :: L) H' → Q .non H') : rReverse (.ref a) [] H Q := ⟨a, xs, rfl, rfl, hs.get (.head _), k _ hs.u0⟩
/-! slices of tuples, lists turned round -/
theorem c_slT {lo hi : Option Int} (h : Hs B L H) (hq : SqT K H a xs) (hn : ¬ (HT.sIx xs.length 0 lo = 0 ∧ HT.sIx xs.length xs.length hi = xs.length)) (k : ∀ p H', Hs B ((p, .tup (cutV xs lo hi)) :: L) H' → Q (.ref p) H') : rSlK K (.ref a) lo hi H Q :=
  .inr (.inr ⟨a, xs, rfl, hq, hn, fun p hp => k p _ (h.new hp)⟩)
def RevO (K : PySem.W.Frag) (x : V) (H : Hp) (Q : VK) : Prop := ∃ a xs, x = .ref a ∧ SqL K H a xs ∧ ∀ p, H p = none → Q (.ref p) (upd H p (.lst xs.reverse))
theorem c_rev (k : te σ H fun x H1 => RevO K x H1 Q) : tRevL K te σ H Q := k
theorem c_revO (h : Hs B L H) (hq : SqL K H a xs) (k : ∀ p H', Hs B ((p, .lst xs.reverse) :: L) H' → Q (.ref p) H') : RevO K (.ref a) H Q := ⟨a, xs, rfl, hq, fun p hp => k p _ (h.new hp)⟩
/-! an item written -/
def SetO (o i v : V) (H : Hp) (P : Hp → Prop) : Prop := rSetL o i v H P
theorem g_sub {P : St → Hp → Prop} (k : to_ σ H fun o H1 => ti_ σ H1 fun i H2 => SetO o i v H2 (P σ)) : gSub to_ ti_ rSetL v σ H P := k
theorem w_set0 {j : Int} {m : Nat} {P : Hp → Prop} (hs : Hs B ((a, .lst xs) :: L) H) (e : j = ((m : Nat) : Int)) (hm : m < xs.length) (k : ∀ H', Hs B ((a, .lst (xs.set m v)) :: L) H' → P H') : SetO (.ref a) (.int j) v H P :=
  ⟨a, xs, j, m, rfl, rfl, hs.get (.head _), by subst e; unfold ixN; rw [if_pos (Int.natCast_nonneg _), if_pos (Int.ofNat_lt.mpr hm), Int.toNat_natCast], k _ hs.u0⟩
theorem w_set1 {q : Addr × HO} {j : Int} {m : Nat} {P : Hp → Prop} (hs : Hs B (q :: (a, .lst xs) :: L) H) (e : j = ((m : Nat) : Int)) (hm : m < xs.length) (k : ∀ H', Hs B (q :: (a, .lst (xs.set m v)) :: L) H' → P H') : SetO (.ref a) (.int j) v H P :=
  w_set0 hs.swap e hm fun H' h => k H' h.swap
theorem c_isiS {z : Str} (k : Q (.bl true) H) : rIsi K [.str z, .ty "str"] H Q := c_isiStr (.str z) k
theorem small6 {n : Nat} (h : n ≤ 200000) : n < sizeLine := Nat.lt_of_le_of_lt h (by decide)
theorem small6' {n : Nat} (h : n ≤ 200000) : n ≤ sizeLine := Nat.le_trans h (by decide)
end
end L2.BP
namespace L2.BP
open PySem PySem.Spec PyProof.Rows
section
variable {K : PySem.W.Frag} {W : WX} {vs : List V} {H : Hp} {Q : VK} {E : XK}
/-! ### == of lists -/
theorem eqvAll_ints : ∀ a b : List Int, PyData.eqvAll (a.map PyData.int) (b.map PyData.int) = decide (a = b)
  | [], [] => by simp [PyData.eqvAll]
  | [], y :: r => by simp [PyData.eqvAll]
  | x :: r, [] => by simp [PyData.eqvAll]
  | x :: r, y :: t => by
    rw [List.map_cons, List.map_cons, PyData.eqvAll, eqvAll_ints r t]
    simp only [PyData.eqv]
    by_cases h : x = y <;> by_cases h2 : r = t <;> simp [h, h2]
theorem canAll_ints : ∀ a : List Int, PyData.canLayAll0 (a.map PyData.int) = true
  | [] => by simp [PyData.canLayAll0]
  | x :: r => by
    rw [List.map_cons, PyData.canLayAll0, canAll_ints r]
    simp [PyData.canLay0]
theorem depAll_ints : ∀ a : List Int, PyData.depthAll (a.map PyData.int) ≤ 1
  | [] => by simp [PyData.depthAll]
  | x :: r => by
    have := depAll_ints r
    rw [List.map_cons, PyData.depthAll]
    simp [PyData.depth]
    omega
theorem shaped_ints (a : List Int) : SeqAt.shaped (.list (a.map PyData.int)) = true := by
  unfold SeqAt.shaped
  rw [PyData.canLay0, canAll_ints, PyData.depth]
  have := depAll_ints a
  simp
  omega
theorem c_eqL {p q : Addr} (a b : List Int) (h1 : SqL K H p (a.map V.int)) (h2 : SqL K H q (b.map V.int)) (k : Q (.bl (decide (a = b))) H) : rEqU K (.ref p) (.ref q) H Q := by
  refine c_eqD (.lst h1 (dpa_ints a)) (.lst h2 (dpa_ints b)) (shaped_ints a) (shaped_ints b) ?_
  rw [PyData.eqv, eqvAll_ints]
  exact k
theorem c_neL {p q : Addr} (a b : List Int) (h1 : SqL K H p (a.map V.int)) (h2 : SqL K H q (b.map V.int)) (k : Q (.bl (!decide (a = b))) H) : rNeU K (.ref p) (.ref q) H Q := by
  refine c_neD (.lst h1 (dpa_ints a)) (.lst h2 (dpa_ints b)) (shaped_ints a) (shaped_ints b) ?_
  rw [PyData.eqv, eqvAll_ints]
  exact k
/-! a list of tuples of whole numbers and texts against an equal one -/
def vD : V → PyData
  | .int i => .int i
  | .str x => .str x
  | .bl b => .bool b
  | _ => .none
def flatV : V → Bool
  | .int _ => true
  | .str x => PyData.canLay0 (.str x)
  | .bl _ => true
  | .non => true
  | _ => false
theorem dp_flat : ∀ {v : V}, flatV v = true → Dp K H v (vD v)
  | .int i, _ => .int i
  | .str x, _ => .str x
  | .bl b, _ => .bl b
  | .non, _ => .non
theorem dpa_flat : ∀ {xs : List V}, xs.all flatV = true → DpAll K H xs (xs.map vD)
  | [], _ => .nil
  | x :: r, h => by
    rw [List.all_cons, Bool.and_eq_true] at h
    exact .cons (dp_flat h.1) (dpa_flat h.2)
theorem can_flat : ∀ {v : V}, flatV v = true → (vD v).canLay0 = true ∧ (vD v).depth = 0
  | .int i, _ => ⟨by simp [vD, PyData.canLay0], by simp [vD, PyData.depth]⟩
  | .str x, h => ⟨h, by simp [vD, PyData.depth]⟩
  | .bl b, _ => ⟨by simp [vD, PyData.canLay0], by simp [vD, PyData.depth]⟩
  | .non, _ => ⟨by simp [vD, PyData.canLay0], by simp [vD, PyData.depth]⟩
theorem canAll_flat : ∀ {xs : List V}, xs.all flatV = true → PyData.canLayAll0 (xs.map vD) = true ∧ PyData.depthAll (xs.map vD) ≤ 1
  | [], _ => ⟨by simp [PyData.canLayAll0], by simp [PyData.depthAll]⟩
  | x :: r, h => by
    rw [List.all_cons, Bool.and_eq_true] at h
    obtain ⟨h1, h2⟩ := can_flat h.1
    obtain ⟨h3, h4⟩ := canAll_flat h.2
    rw [List.map_cons, PyData.canLayAll0, PyData.depthAll, h1, h2, h3]
    exact ⟨rfl, by omega⟩
def tupD (xs : List V) : PyData := .tuple (xs.map vD)
theorem canAll_tups : ∀ {xss : List (List V)}, (∀ xs ∈ xss, xs.all flatV = true) → PyData.canLayAll0 (xss.map tupD) = true ∧ PyData.depthAll (xss.map tupD) ≤ 3
  | [], _ => ⟨by simp [PyData.canLayAll0], by simp [PyData.depthAll]⟩
  | x :: r, h => by
    obtain ⟨h1, h2⟩ := canAll_flat (h x (.head _))
    obtain ⟨h3, h4⟩ := canAll_tups fun y hy => h y (.tail _ hy)
    have e1 : (tupD x).canLay0 = true := by
      unfold tupD
      rw [PyData.canLay0, h1]
    have e2 : (tupD x).depth ≤ 2 := by
      unfold tupD
      rw [PyData.depth]
      omega
    rw [List.map_cons, PyData.canLayAll0, PyData.depthAll, h3, e1]
    exact ⟨rfl, by omega⟩
theorem shaped_tups {xss : List (List V)} (h : ∀ xs ∈ xss, xs.all flatV = true) : SeqAt.shaped (.list (xss.map tupD)) = true := by
  obtain ⟨h1, h2⟩ := canAll_tups h
  unfold SeqAt.shaped
  rw [PyData.canLay0, PyData.depth, h1]
  simp
  omega
theorem dpa_tups : ∀ {ws : List V} {xss : List (List V)}, Tups K H ws xss → (∀ xs ∈ xss, xs.all flatV = true) → DpAll K H ws (xss.map tupD)
  | _, _, .nil, _ => .nil
  | _, _, .cons z t, h => .cons (.tup z (dpa_flat (h _ (.head _)))) (dpa_tups t fun y hy => h y (.tail _ hy))
theorem eqv_vD (v : V) : PyData.eqv (vD v) (vD v) = true := by cases v <;> simp [vD, PyData.eqv]
theorem eqvAll_vD : ∀ xs : List V, PyData.eqvAll (xs.map vD) (xs.map vD) = true
  | [] => by simp [PyData.eqvAll]
  | x :: r => by rw [List.map_cons, PyData.eqvAll, eqv_vD, eqvAll_vD r]; rfl
theorem eqvAll_tupD : ∀ xss : List (List V), PyData.eqvAll (xss.map tupD) (xss.map tupD) = true
  | [] => by simp [PyData.eqvAll]
  | x :: r => by
    have e : PyData.eqv (tupD x) (tupD x) = true := by
      unfold tupD
      rw [PyData.eqv, eqvAll_vD]
    rw [List.map_cons, PyData.eqvAll, e, eqvAll_tupD r]
    rfl
theorem eqv_tups {xss : List (List V)} : PyData.eqv (.list (xss.map tupD)) (.list (xss.map tupD)) = true := by rw [PyData.eqv, eqvAll_tupD]
/-- two lists of equal tuples -/
theorem c_neT {p q : Addr} {ws us : List V} {xss : List (List V)} (hf : ∀ xs ∈ xss, xs.all flatV = true) (h1 : SqL K H p ws) (t1 : Tups K H ws xss) (h2 : SqL K H q us) (t2 : Tups K H us xss) (k : Q (.bl false) H) : rNeU K (.ref p) (.ref q) H Q := by
  refine c_neD (.lst h1 (dpa_tups t1 hf)) (.lst h2 (dpa_tups t2 hf)) (shaped_tups hf) (shaped_tups hf) ?_
  rw [eqv_tups]
  exact k
theorem c_eqT {p q : Addr} {ws us : List V} {xss : List (List V)} (hf : ∀ xs ∈ xss, xs.all flatV = true) (h1 : SqL K H p ws) (t1 : Tups K H ws xss) (h2 : SqL K H q us) (t2 : Tups K H us xss) (k : Q (.bl true) H) : rEqU K (.ref p) (.ref q) H Q := by
  refine c_eqD (.lst h1 (dpa_tups t1 hf)) (.lst h2 (dpa_tups t2 hf)) (shaped_tups hf) (shaped_tups hf) ?_
  rw [eqv_tups]
  exact k
end
end L2.BP
namespace L2.BP
open PySem PySem.Spec PyProof.Rows
/-- both ways of an if meet again -/
theorem w_cut {t u : TS} {dn : St → Hp → Prop} {dr : VK} {db dc : St → Hp → Prop} {σ : St} {H : Hp} (Mid : St → Hp → Prop) (h1 : t ⟨Mid, dr, db, dc⟩ σ H) (h2 : ∀ σ' H', Mid σ' H' → u ⟨dn, dr, db, dc⟩ σ' H') : Evl.tCut t u ⟨dn, dr, db, dc⟩ σ H := ⟨Mid, h1, h2⟩
end L2.BP
namespace L2.BP
open PySem PySem.Spec PyProof.Rows
section
variable {X : Cx} {K : PySem.W.Frag} {σ : St} {H B : Hp} {L : Pic} {Q : VK} {te to_ ti_ : TE} {v : V} {P : St → Hp → Prop}
/-! a field as one of several targets -/
def gAttr (K : PySem.W.Frag) (ta : TE) (f : Str) : TG := fun v σ H P => ta σ H fun x H1 => PutO K f v x H1 (P σ)
theorem pg_attr {o : Expr} {f : Str} {pos : Pos} {ta : TE} (ho : PE X o ta) : PG X (.Attribute o f pos) (gAttr X.K ta f) := by
  refine ⟨fun pins s σ H v u Q I r h => ?_⟩
  show wpAny _ _ (do let ov ← holding [u] (eval o X.env); standAt pos.atName; holding [u, ov] (setAttr ov f u); release [u, ov] []) _ _ _
  refine wpAny_bind (wpAny_holding (thn (ho.run pins s σ H _ I h) fun ov s1 ⟨x, H1, I1, r1, a, C, dx, fs, ex, ea, c, n, l, q⟩ => ?_))
  subst ex
  obtain rfl : ov = Value.ref a := r1
  refine wpAny_bind (wpAny_standAt (wpAny_bind (wpAny_holding ?_)))
  exact setattr_ok I1 ea c n l r fun s2 I2 => wpAny_release ⟨σ, _, I2, q⟩
theorem g_attr {f : Str} (k : te σ H fun x H1 => PutO K f v x H1 (P σ)) : gAttr K te f v σ H P := k
/-! how many different ones -/
def LsO (K : PySem.W.Frag) (x : V) (H : Hp) (Q : VK) : Prop := ∃ (l : Addr) (ns : List Int), x = .ref l ∧ SqL K H l (ns.map V.int) ∧ ns.Nodup ∧ ns.length ≤ 4000 ∧ Q (.int (ns.length : Nat)) H
theorem c_lenset (k : te σ H fun x H1 => LsO K x H1 Q) : RZ.tLenSetI K te σ H Q := k
theorem c_lsO {a : Addr} {ns : List Int} (h : SqL K H a (ns.map V.int)) (hn : ns.Nodup) (hl : ns.length ≤ 4000) (k : Q (.int (ns.length : Nat)) H) : LsO K (.ref a) H Q := ⟨a, ns, rfl, h, hn, hl, k⟩
/-! dicts that are written out -/
def DispO (p : Addr) (ps : List (V × V)) (H : Hp) (Q : VK) : Prop := H p = some (.dK []) ∧ ∃ kvs : List (Key × V), ps = kvs.map (fun kv => (kV kv.1, kv.2)) ∧ kvs.length ≤ 15 ∧ Q (.ref p) (upd H p (.dK (mergeK [] kvs)))
theorem c_disp {trs : List (TE × TE)} (hs : Hs B L H) (k : ∀ p H', Hs B ((p, .dK []) :: L) H' → tPairs trs σ H' fun ps H2 => DispO p ps H2 Q) : tDisp trs σ H Q := fun p hp => k p _ (hs.new hp)
theorem c_tpc {tk tv : TE} {r : List (TE × TE)} {R : List (V × V) → Hp → Prop} (k : tk σ H fun x H1 => tv σ H1 fun y H2 => tPairs r σ H2 fun ps H3 => R ((x, y) :: ps) H3) : tPairs ((tk, tv) :: r) σ H R := k
theorem c_tpn {R : List (V × V) → Hp → Prop} (k : R [] H) : tPairs [] σ H R := k
theorem c_dispO {p : Addr} {ps : List (V × V)} (kvs : List (Key × V)) (hs : Hs B ((p, .dK []) :: L) H) (e : ps = kvs.map (fun kv => (kV kv.1, kv.2))) (hl : kvs.length ≤ 15) (k : ∀ H', Hs B ((p, .dK (mergeK [] kvs)) :: L) H' → Q (.ref p) H') : DispO p ps H Q :=
  ⟨hs.get (.head _), kvs, e, hl, k _ hs.u0⟩
def DgO (x y : V) (H : Hp) (Q : VK) : Prop := ∃ a v, x = .ref a ∧ DGet H a y (some v) ∧ Q v H
theorem c_dget {td ty : TE} (k : td σ H fun x H1 => ty σ H1 fun y H2 => DgO x y H2 Q) : tDGet td ty σ H Q := k
theorem c_dgO {a : Addr} {kvs : List (Key × V)} {key : Key} (h : H a = some (.dK kvs)) (e : valV kvs key = some v) (k : Q v H) : DgO (.ref a) (kV key) H Q := ⟨a, v, rfl, by rw [← e]; exact DGet.k h, k⟩
/-! in a list -/
theorem inV_int (i : Int) : ∀ ns : List Int, L2.inV (.int i) (ns.map V.int) = decide (i ∈ ns)
  | [] => by simp [L2.inV]
  | n :: r => by
    have ih := inV_int i r
    have e : L2.eqV (.int n) (.int i) = decide (n = i) := by
      show (n == i) = decide (n = i)
      by_cases h : n = i <;> simp [h]
    unfold L2.inV at ih ⊢
    rw [List.map_cons, List.any_cons, ih, e]
    by_cases h : n = i
    · simp [h]
    · simp [h, Ne.symm h]
theorem flat_ints (ns : List Int) : (ns.map V.int).all L2.flatV = true := by simp [L2.flatV]
theorem c_inL {a : Addr} {i : Int} (ns : List Int) (h : SqL K H a (ns.map V.int)) (k : Q (.bl (decide (i ∈ ns))) H) : rInU K (.int i) (.ref a) H Q :=
  .inl ⟨a, _, rfl, .inl h, rfl, flat_ints ns, by rw [inV_int]; exact k⟩
theorem c_niL {a : Addr} {i : Int} (ns : List Int) (h : SqL K H a (ns.map V.int)) (k : Q (.bl (!decide (i ∈ ns))) H) : rNiU K (.int i) (.ref a) H Q :=
  .inl ⟨a, _, rfl, .inl h, rfl, flat_ints ns, by rw [inV_int]; exact k⟩
theorem c_inT {a : Addr} {i : Int} (ns : List Int) (h : SqT K H a (ns.map V.int)) (k : Q (.bl (decide (i ∈ ns))) H) : rInU K (.int i) (.ref a) H Q :=
  .inl ⟨a, _, rfl, .inr h, rfl, flat_ints ns, by rw [inV_int]; exact k⟩
theorem xor_nat (a b : Nat) : Builtin.bitXor ((a : Nat) : Int) ((b : Nat) : Int) = ((a ^^^ b : Nat) : Int) := by
  rw [Bits.bitXor_pp (Int.natCast_nonneg a) (Int.natCast_nonneg b), Int.toNat_natCast, Int.toNat_natCast]
end
end L2.BP
section
open L2.BP
/-! steps, as rows of the tactic that the library names walk_at -/
local macro_rules | `(tactic| walk_at "mem") => `(tactic| first | exact .head _ | exact .tail _ (.head _) | exact .tail _ (.tail _ (.head _)) | exact .tail _ (.tail _ (.tail _ (.head _))) | exact .tail _ (.tail _ (.tail _ (.tail _ (.head _)))) | exact .tail _ (.tail _ (.tail _ (.tail _ (.tail _ (.head _))))))
local macro_rules | `(tactic| walk_at "get") => `(tactic| first | assumption | ((with_reducible apply Hs.get); (· assumption); (· walk_at "mem")) | exact (Hs.ex (by assumption)) _ _ (by assumption))
local macro_rules | `(tactic| walk_at "sq") => `(tactic| first | assumption | ((with_reducible apply Hs.sql); (· assumption); (· walk_at "mem")) | ((with_reducible apply Hs.bl); (· assumption); (· assumption)) | ((with_reducible apply SqL.of); (walk_at "get")))
local macro_rules | `(tactic| walk_at "sqt") => `(tactic| first | assumption | ((with_reducible apply Hs.sqt); (· assumption); (· walk_at "mem")) | ((with_reducible apply Hs.bt); (· assumption); (· assumption)) | ((with_reducible apply SqT.of); (walk_at "get")))
local macro_rules | `(tactic| walk_at "bd") => `(tactic| first | decide | omega | assumption)
local macro_rules | `(tactic| walk_at "cmul") => `(tactic| first | exact .inr ⟨by decide, by decide⟩ | exact .inl ⟨by decide, by decide⟩ | exact .inl ⟨by omega, by omega⟩ | exact .inr ⟨by omega, by omega⟩ | assumption)
local macro_rules | `(tactic| walk_at "yes") => `(tactic| first | rfl | assumption | exact decide_eq_true (by first | assumption | omega) | (simp only [Bool.not_eq_true', decide_eq_true_eq, decide_eq_false_iff_not, Bool.and_eq_true, Bool.or_eq_true] <;> omega))
local macro_rules | `(tactic| walk_at "no") => `(tactic| first | rfl | assumption | exact decide_eq_false (by first | assumption | omega) | (simp only [Bool.not_eq_false', decide_eq_true_eq, decide_eq_false_iff_not, Bool.and_eq_false_iff, Bool.or_eq_false_iff] <;> omega))
local macro_rules | `(tactic| walk_at "look") => `(tactic| first | (with_reducible exact look0) | ((with_reducible apply lookS); (· (decide +kernel)); walk_at "look"))
local macro_rules | `(tactic| walk_at "lookn") => `(tactic| first | (with_reducible exact lookN) | ((with_reducible apply lookNS); (· (decide +kernel)); walk_at "lookn"))
local macro_rules | `(tactic| walk_at "put") => `(tactic| first | (with_reducible exact put0) | (with_reducible exact putN) | ((with_reducible apply putS); (· (decide +kernel)); walk_at "put"))
local macro_rules | `(tactic| walk_at "few") => `(tactic| (exact of_decide_eq_true rfl))
local macro_rules | `(tactic| walk_at "s") => `(tactic| first
  | ((with_reducible apply c_var); (· exact rfl))
  | (with_reducible apply c_c)
  | (with_reducible apply c_op)
  | (with_reducible apply w_seq)
  | (with_reducible apply w_asg)
  | (with_reducible apply w_name)
  | (with_reducible apply w_if)
  | (with_reducible apply c_test)
  | (with_reducible apply c_bl)
  | ((with_reducible apply i_t); (· walk_at "yes"))
  | ((with_reducible apply i_f); (· walk_at "no"))
  | (with_reducible apply c_cons)
  | (with_reducible apply c_nil)
  | (with_reducible apply c_cb)
  | (with_reducible apply c_cl)
  | (with_reducible apply w_ret)
  | (with_reducible apply w_drop)
  | (with_reducible apply w_break)
  | (with_reducible apply w_cont)
  | (with_reducible apply w_retN)
  | (with_reducible apply w_par)
  | (with_reducible apply c_parO)
  | (with_reducible apply c_rev)
  | (with_reducible apply g_sub)
  | (with_reducible apply g_attr)
  | (with_reducible apply c_lenset)
  | (with_reducible apply c_dget)
  | (with_reducible apply c_tpc)
  | (with_reducible apply c_tpn)
  | ((with_reducible apply c_disp); (· assumption); intro _ _ _)
  | (with_reducible apply w_next)
  | (with_reducible apply c_addI)
  | (with_reducible apply c_sub)
  | ((with_reducible apply c_mulI); (· walk_at "cmul"))
  | ((with_reducible apply c_mod); (· walk_at "bd"))
  | ((with_reducible apply c_div); (· exact ⟨by walk_at "bd", by walk_at "bd"⟩))
  | (with_reducible apply c_lt)
  | (with_reducible apply c_le)
  | (with_reducible apply c_gt)
  | (with_reducible apply c_ge)
  | (with_reducible apply c_eqI)
  | ((with_reducible apply c_eqL); (· walk_at "sq"); (· walk_at "sq"))
  | ((with_reducible apply c_neL); (· walk_at "sq"); (· walk_at "sq"))
  | (with_reducible apply c_neI)
  | (with_reducible apply c_eqB)
  | (with_reducible apply c_neB)
  | (with_reducible apply c_eqS)
  | (with_reducible apply c_neS)
  | (with_reducible apply c_isN)
  | (with_reducible apply c_notN)
  | (with_reducible apply c_isB)
  | (with_reducible apply c_notB)
  | (with_reducible apply c_un)
  | (with_reducible apply c_neg)
  | (with_reducible apply c_and)
  | (with_reducible apply c_or)
  | (with_reducible apply c_xor)
  | ((with_reducible apply c_shr); (· walk_at "bd"))
  | ((with_reducible apply c_shl); (· exact ⟨by walk_at "bd", by walk_at "bd", by walk_at "bd"⟩))
  | (with_reducible apply c_B)
  | (with_reducible apply c_tand)
  | (with_reducible apply c_tor)
  | (with_reducible apply c_tnot)
  | (with_reducible apply c_andV)
  | (with_reducible apply c_orV)
  | (with_reducible apply c_notV)
  | (with_reducible apply c_chain)
  | (with_reducible apply c_if)
  | (with_reducible apply c_isi_ii)
  | (with_reducible apply c_isi_ib)
  | ((with_reducible apply c_lenL); (· walk_at "sq"))
  | ((with_reducible apply c_lenT); (· walk_at "sqt"))
  | (with_reducible apply c_isiS)
  | ((with_reducible apply c_ixL); (· (walk_at "sq")); (· first | exact rfl | assumption))
  | ((with_reducible apply c_ixT); (· (walk_at "sqt")); (· first | exact rfl | assumption))
  | (with_reducible apply c_tup)
  | (with_reducible apply c_lst)
  | ((with_reducible apply c_tupO); (· assumption); (· exact small5' (of_decide_eq_true rfl)); intro _ _ _)
  | ((with_reducible apply c_lstO); (· assumption); (· exact small5' (of_decide_eq_true rfl)); intro _ _ _)
  | ((with_reducible apply w_aug); (· exact rfl))
  | (with_reducible apply c_ipAddI)
  | (with_reducible apply c_ipSub)
  | (with_reducible apply c_intI)
  | (with_reducible apply c_intB)
  | (with_reducible apply c_max2)
  | (with_reducible apply c_mt)
  | ((with_reducible apply c_recv); (· (walk_at "get")); (· (walk_at "lookn")))
  | (with_reducible apply c_tfld)
  | ((with_reducible apply c_fld); (· (walk_at "get")); (· assumption); (· assumption); (· (walk_at "look")))
  | (with_reducible apply w_sfld)
  | (with_reducible apply w_sfldAug)
  | ((with_reducible apply c_fldA); (· (walk_at "get")); (· assumption); (· assumption); (· (walk_at "look")))
  | (with_reducible apply c_radd)
  | (with_reducible apply c_rsub)
  | ((with_reducible apply w_put0); (· assumption); (· assumption); (· assumption); (· (walk_at "few")); (· (walk_at "put")); intro _ _)
  | ((with_reducible apply w_put1); (· assumption); (· assumption); (· assumption); (· (walk_at "few")); (· (walk_at "put")); intro _ _)
  | ((with_reducible apply w_put2); (· assumption); (· assumption); (· assumption); (· (walk_at "few")); (· (walk_at "put")); intro _ _)
  | ((with_reducible apply w_aput0); (· assumption); (· (walk_at "few")); (· (walk_at "put")); intro _ _)
  | ((with_reducible apply w_aput1); (· assumption); (· (walk_at "few")); (· (walk_at "put")); intro _ _)
  | ((with_reducible apply w_aput2); (· assumption); (· (walk_at "few")); (· (walk_at "put")); intro _ _)
  | (with_reducible apply c_bm)
  | (with_reducible apply c_bm0)
  | ((with_reducible apply c_tyL); (· (walk_at "sq")))
  | (with_reducible apply c_sl)
  | (with_reducible apply c_part)
  | (with_reducible apply c_nopart)
  | (with_reducible apply c_i)
  | (with_reducible apply c_lc)
  | (with_reducible apply w_for)
  | (with_reducible apply c_iL)
  | (with_reducible apply c_iT)
  | (with_reducible apply c_iR1)
  | (with_reducible apply c_iR2)
  | (with_reducible apply c_yes)
  | (with_reducible apply g_cons)
  | (with_reducible apply g_nil)
  | ((with_reducible apply g_tup); (· (walk_at "sqt")); (· exact rfl))
  | (with_reducible apply c_mk)
  | ((with_reducible apply c_mkO); (· assumption); intro _ _ _ _)
  | (with_reducible apply c_iE)
  | (with_reducible apply c_iZ)
  | ((with_reducible apply c_iE1); (· walk_at "sq"))
  | ((with_reducible apply c_slL); (· assumption); (· walk_at "sq"); intro _ _ _)
  | ((with_reducible apply c_listL); (· assumption); (· walk_at "sq"); intro _ _ _)
  | (with_reducible apply c_min2))
local macro_rules | `(tactic| walk_at "go") => `(tactic| repeat walk_at "s")
namespace L2.BR
open PySem PySem.Spec PyProof.Rows L2.BP
variable {K : PySem.W.Frag} {W : WX} {vs : List V} {H : Hp} {Q : VK} {E : XK}
/-! ### rows -/
def Tg.isByte : Tg → Bool
  | .int i => decide (0 ≤ i) && decide (i ≤ 255)
  | _ => false
def sp_is_byte (K : PySem.W.Frag) : Sp := fun vs H Q _ => ∃ (v : V) (g : Tg), vs = [v] ∧ Th K H v g ∧ Q (.bl (Tg.isByte g)) H
theorem len_is_byte (h : sp_is_byte K vs H Q E) : vs.length = 1 := by
  obtain ⟨v, g, rfl, _⟩ := h
  rfl
def t_is_byte (K : PySem.W.Frag) (W : WX) : TS :=
  (tRet ((tAndV (tCB (rIsi K) (tCons (tVar 0) (tCons (tC (.ty "int")) tNil))) (tAndV (tNotV (tCB (rIsi K) (tCons (tVar 0) (tCons (tC (.ty "bool")) tNil)))) (tChain rLeU rLeU (tC (.int 0)) (tVar 0) (tC (.int 255)))))))
theorem rd_is_byte (h : sp_is_byte K vs H Q E) : t_is_byte K W { nx := fun _ H' => Q .non H', rt := Q } (start ["thing"] vs) H := by
  obtain ⟨v, g, rfl, hT, q⟩ := h
  have hs := Hs.start H
  unfold t_is_byte
  cases hT with
  | int i =>
    have q : Q (.bl (decide (0 ≤ i) && decide (i ≤ 255))) H := q
    walk_at "go"
    cases e : decide ((0 : Int) ≤ i) with
    | false =>
      rw [e] at q
      walk_at "go"
      exact q
    | true =>
      rw [e] at q
      walk_at "go"
      exact q
  | bl b =>
    walk_at "go"
    refine c_isiInt (.bl b) ?_
    walk_at "go"
    refine c_isiBool (.bl b) ?_
    walk_at "go"
    exact q
  | non => walk_at "go"; refine c_isiInt .non ?_; walk_at "go"; exact q
  | str x => walk_at "go"; refine c_isiInt (.str x) ?_; walk_at "go"; exact q
  | lst z => walk_at "go"; refine c_isiInt (.lst z) ?_; walk_at "go"; exact q
  | tup z => walk_at "go"; refine c_isiInt (.tup z) ?_; walk_at "go"; exact q
  | dic z => walk_at "go"; refine c_isiInt (.dic z) ?_; walk_at "go"; exact q
/-- whether a thing is a byte, by itself -/
def byteV : V → Bool
  | .int i => decide (0 ≤ i) && decide (i ≤ 255)
  | _ => false
theorem byteV_of {v : V} {g : Tg} (h : Th K H v g) : Tg.isByte g = byteV v := by cases h <;> rfl
def Tg.isRow : Tg → Bool
  | .lst xs => xs.all byteV
  | _ => false
/-- the thing may be looked at: its items are things, too -/
def Tg.ok (K : PySem.W.Frag) (H : Hp) : Tg → Prop
  | .lst xs => (∀ x ∈ xs, ∃ g, Th K H x g) ∧ xs.length ≤ 100000
  | _ => True
def sp_is_row (K : PySem.W.Frag) : Sp := fun vs H Q _ => ∃ (v : V) (g : Tg), vs = [v] ∧ Th K H v g ∧ Tg.ok K H g ∧ RetV H Q (.bl (Tg.isRow g))
theorem len_is_row (h : sp_is_row K vs H Q E) : vs.length = 1 := by
  obtain ⟨v, g, rfl, _⟩ := h
  rfl
def t_is_row (K : PySem.W.Frag) (W : WX) : TS :=
  (tRet ((tAndV (tCB (rIsi K) (tCons (tVar 0) (tCons (tC (.ty "list")) tNil))) (tCB (rAll K) (tCons (tLc (iList K (tVar 0)) (gName 1) tYes (tCl (sp_is_byte K) [] WF (tCons (tVar 1) tNil)) [1]) tNil)))))
theorem rd_is_row (h : sp_is_row K vs H Q E) : t_is_row K W { nx := fun _ H' => Q .non H', rt := Q } (start ["thing", "number"] vs) H := by
  obtain ⟨v, g, rfl, hT, hok, q⟩ := h
  have hs := Hs.start H
  unfold t_is_row
  cases hT with
  | @lst a xs z =>
    walk_at "go"
    refine c_isiList (.lst z) ?_
    walk_at "go"
    refine c_lcL (f := id) xs (fun pre acc B => acc = (pre.map byteV).map V.bl) hs rfl (fun B' H' e h => by rw [List.map_id]; exact (e.trans h.ex).seq z) ?_ ?_
    · intro pre x post acc B' D H' e i eB h
      obtain ⟨g, hg⟩ := hok.1 x (by rw [e]; simp)
      walk_at "go"
      refine ⟨rfl, ?_⟩
      walk_at "go"
      refine ⟨x, g, rfl, hg.same (eB.trans h.ex), ?_⟩
      subst i
      refine c_item h (small5 ?_) eB ?_
      · have := congrArg List.length e
        have := hok.2
        simp at *
        omega
      · rw [byteV_of hg]
        simp
    · intro acc B' D H' i eB h
      subst i
      walk_at "go"
      refine c_all (h.sql (.head _)) ?_
      have e : ((xs.map byteV).all id) = xs.all byteV := by simp
      rw [e]
      exact q _ (eB.trans h.ex)
  | non => walk_at "go"; refine c_isiList .non ?_; walk_at "go"; exact q _ hs.ex
  | bl b => walk_at "go"; refine c_isiList (.bl b) ?_; walk_at "go"; exact q _ hs.ex
  | int i => walk_at "go"; refine c_isiList (.int i) ?_; walk_at "go"; exact q _ hs.ex
  | str x => walk_at "go"; refine c_isiList (.str x) ?_; walk_at "go"; exact q _ hs.ex
  | tup z => walk_at "go"; refine c_isiList (.tup z) ?_; walk_at "go"; exact q _ hs.ex
  | dic z => walk_at "go"; refine c_isiList (.dic z) ?_; walk_at "go"; exact q _ hs.ex
/-- a row: its numbers -/
def Bytes (ns : List Int) : Prop := ∀ n ∈ ns, 0 ≤ n ∧ n ≤ 255
theorem ints_of : ∀ {xs : List V}, xs.all byteV = true → ∃ ns : List Int, xs = ns.map V.int ∧ Bytes ns
  | [], _ => ⟨[], rfl, fun _ h => nomatch h⟩
  | x :: r, h => by
    simp only [List.all_cons, Bool.and_eq_true] at h
    obtain ⟨ns, e, hb⟩ := ints_of h.2
    cases x with
    | int i =>
      refine ⟨i :: ns, by rw [e]; rfl, fun n hn => ?_⟩
      rcases List.mem_cons.mp hn with z | z
      · have h1 := h.1
        simp only [byteV, Bool.and_eq_true, decide_eq_true_eq] at h1
        rw [z]
        exact h1
      · exact hb n z
    | _ => cases h.1
theorem all_byteV {ns : List Int} (h : Bytes ns) : (ns.map V.int).all byteV = true := by
  rw [List.all_eq_true]
  intro x hx
  obtain ⟨n, hn, rfl⟩ := List.mem_map.mp hx
  have := h n hn
  simp only [byteV, Bool.and_eq_true, decide_eq_true_eq]
  exact this
theorem ok_ints {H : Hp} {ns : List Int} (h : ns.length ≤ 100000) : Tg.ok K H (.lst (ns.map V.int)) := by
  refine ⟨fun x hx => ?_, by rw [List.length_map]; exact h⟩
  obtain ⟨n, _, rfl⟩ := List.mem_map.mp hx
  exact ⟨_, .int n⟩
theorem cutV_ints (ns : List Int) (lo hi : Option Int) : cutV (ns.map V.int) lo hi = ((ns.drop (HT.sIx ns.length 0 lo)).take (HT.sIx ns.length ns.length hi - HT.sIx ns.length 0 lo)).map V.int := by
  unfold cutV
  rw [List.length_map, List.map_take, List.map_drop]
theorem sIx_at (n d k : Nat) (h : k ≤ n) : HT.sIx n d (some ((k : Nat) : Int)) = k := by rw [HT.sIx_nat]; omega
theorem map_int_inj : ∀ {a b : List Int}, a.map V.int = b.map V.int → a = b
  | [], [], _ => rfl
  | [], _ :: _, h => by cases h
  | _ :: _, [], h => by cases h
  | x :: r, y :: t, h => by
    injection h with h1 h2
    injection h1 with h1
    rw [h1, map_int_inj h2]
theorem ne_f {a b : Int} (h : a = b) : (!decide (a = b)) = false := by rw [decide_eq_true h]; rfl
theorem cut_take (ns : List Int) (m : Nat) : cutV (ns.map V.int) none (some ((m : Nat) : Int)) = (ns.take m).map V.int := by
  rw [cutV_ints, HT.sIx_nat, HT.sIx_none, List.drop_zero, Nat.sub_zero]
  congr 1
  by_cases h : m ≤ ns.length
  · rw [Nat.min_eq_left h]
  · rw [Nat.min_eq_right (by omega), List.take_of_length_le (Nat.le_refl _), List.take_of_length_le (by omega)]
theorem cut_drop (ns : List Int) (m : Nat) : cutV (ns.map V.int) (some ((m : Nat) : Int)) none = (ns.drop m).map V.int := by
  rw [cutV_ints, HT.sIx_nat, HT.sIx_none]
  congr 1
  by_cases h : m ≤ ns.length
  · rw [Nat.min_eq_left h, List.take_of_length_le (by rw [List.length_drop]; omega)]
  · rw [Nat.min_eq_right (by omega), List.drop_of_length_le (Nat.le_refl _), List.drop_of_length_le (by omega), List.take_nil]
theorem cut_mid (ns : List Int) (a b : Nat) (h1 : a ≤ b) (h2 : b ≤ ns.length) : cutV (ns.map V.int) (some ((a : Nat) : Int)) (some ((b : Nat) : Int)) = ((ns.drop a).take (b - a)).map V.int := by
  rw [cutV_ints, HT.sIx_nat _ 0 a, HT.sIx_nat _ _ b, Nat.min_eq_left (show a ≤ ns.length by omega), Nat.min_eq_left h2]
theorem at_nat {ns : List Int} {k : Nat} (h : k < ns.length) : atI (ns.map V.int) ((k : Nat) : Int) = some (.int (ns.getD k 0)) := by
  rw [atI_nat (v := .int (ns.getD k 0))]
  rw [List.getElem?_map, List.getElem?_eq_getElem h, List.getD_eq_getElem?_getD, List.getElem?_eq_getElem h]
  rfl
theorem at_i {ns : List Int} {i : Int} {k : Nat} (e : i = ((k : Nat) : Int)) (h : k < ns.length) : atI (ns.map V.int) i = some (.int (ns.getD k 0)) := by rw [e]; exact at_nat h
def sp_need_row (K : PySem.W.Frag) : Sp := fun vs H Q E => ∃ (v : V) (g : Tg), vs = [v] ∧ Th K H v g ∧ Tg.ok K H g ∧
  (∀ xs, g = .lst xs → Tg.isRow g = true → RetL H Q xs) ∧ (Tg.isRow g = false → ∀ H', Same H H' → E (.ref (He.ga K "BadRow")) none H')
theorem len_need_row (h : sp_need_row K vs H Q E) : vs.length = 1 := by
  obtain ⟨v, g, rfl, _⟩ := h
  rfl
def t_need_row (K : PySem.W.Frag) (W : WX) : TS :=
  (tSeq (tIfS (tNot (tB (tCl (sp_is_row K) [] W (tCons (tVar 0) tNil)))) (tRz (He.ga K "BadRow") W) tNext)
    (tRet (tCB (rListK K) (tCons (tVar 0) tNil))))
theorem rd_need_row (h : sp_need_row K vs H Q E) : t_need_row K (fun c d _ H2 => E c d H2) { nx := fun _ H' => Q .non H', rt := Q } (start ["thing"] vs) H := by
  obtain ⟨v, g, rfl, hT, hok, q, qe⟩ := h
  have hs := Hs.start H
  unfold t_need_row
  walk_at "go"
  refine ⟨v, g, rfl, hT, hok, retV hs fun H1 h1 => ?_⟩
  walk_at "go"
  cases e : Tg.isRow g with
  | false =>
    walk_at "go"
    exact qe e _ h1.ex
  | true =>
    cases hT with
    | @lst a xs z =>
      walk_at "go"
      rename_i p H2 h2
      exact h2.rl (.head _) (q xs rfl e)
    | _ => cases e
end L2.BR

namespace L2.BR
open PySem PySem.Spec PyProof.Rows L2.BP
variable {K : PySem.W.Frag}
/-! ### the script's cells -/
def cellAt (ns : List Int) (k : Int) : Int := if k < ns.length then ns.getD k.toNat 0 else 0
def sp__law_cell_at (K : PySem.W.Frag) : Sp := fun vs H Q _ => ∃ (a : Addr) (ns : List Int) (k : Int), vs = [.ref a, .int k] ∧ SqL K H a (ns.map V.int) ∧ 0 ≤ k ∧ Q (.int (cellAt ns k)) H
theorem len__law_cell_at {vs : List V} {H : Hp} {Q : VK} {E : XK} (h : sp__law_cell_at K vs H Q E) : vs.length = 2 := by
  obtain ⟨a, ns, k, rfl, _⟩ := h
  rfl
theorem at_ints {ns : List Int} {k : Int} (h0 : 0 ≤ k) (h : k < ns.length) : atI (ns.map V.int) k = some (.int (ns.getD k.toNat 0)) := by
  obtain ⟨n, rfl⟩ := Int.eq_ofNat_of_zero_le h0
  have hn : n < ns.length := by omega
  rw [atI_nat (v := .int (ns.getD n 0))]
  · rfl
  · rw [List.getElem?_map, List.getElem?_eq_getElem hn, List.getD_eq_getElem?_getD, List.getElem?_eq_getElem hn]
    rfl
def t__law_cell_at (K : PySem.W.Frag) (W : WX) : TS :=
  (tSeq (tIfS (tTest (tOp rLtU (tVar 1) (tCB (rLenK K) (tCons (tVar 0) tNil)))) (tRet (tOp (rIx K) (tVar 0) (tVar 1))) tNext)
    (tRet (tC (.int 0))))
theorem rd__law_cell_at {W : WX} {vs : List V} {H : Hp} {Q : VK} {E : XK} (h : sp__law_cell_at K vs H Q E) : t__law_cell_at K W { nx := fun _ H' => Q .non H', rt := Q } (start ["_law_script", "_law_k"] vs) H := by
  obtain ⟨a, ns, k, rfl, hS, h0, q⟩ := h
  have hs := Hs.start H
  unfold t__law_cell_at
  walk_at "go"
  refine i_2 (fun c => ?_) (fun c => ?_)
  · have c := of_decide_eq_true c
    rw [List.length_map] at c
    walk_at "go"
    refine c_ixL (by walk_at "sq") (at_ints h0 c) ?_
    rw [show cellAt ns k = ns.getD k.toNat 0 from if_pos c] at q
    exact q
  · have c := of_decide_eq_false c
    rw [List.length_map] at c
    walk_at "go"
    rw [show cellAt ns k = 0 from if_neg c] at q
    exact q
end L2.BR

namespace L2.BR
open PySem PySem.Spec PyProof.Rows L2.BP
/-! ### texts of noughts and ones -/
def numOf : List Bool → Nat
  | [] => 0
  | b :: r => b.toNat * 2 ^ r.length + numOf r
def bitsOf (n : Nat) : Nat → List Bool
  | 0 => []
  | s + 1 => (n / 2 ^ s % 2 == 1) :: bitsOf n s
theorem bitsOf_length (n : Nat) : ∀ s, (bitsOf n s).length = s
  | 0 => rfl
  | s + 1 => congrArg (· + 1) (bitsOf_length n s)
theorem numOf_lt : ∀ b : List Bool, numOf b < 2 ^ b.length
  | [] => by decide
  | x :: r => by
    have h := numOf_lt r
    have e : (2 : Nat) ^ (x :: r).length = 2 ^ r.length + 2 ^ r.length := by rw [List.length_cons, Nat.pow_succ]; omega
    rw [e]
    unfold numOf
    cases x
    · simp; omega
    · simp; omega
theorem numOf_append : ∀ a b : List Bool, numOf (a ++ b) = numOf a * 2 ^ b.length + numOf b
  | [], b => by simp [numOf]
  | x :: r, b => by
    show x.toNat * 2 ^ (r ++ b).length + numOf (r ++ b) = (x.toNat * 2 ^ r.length + numOf r) * 2 ^ b.length + numOf b
    rw [numOf_append r b, List.length_append, Nat.pow_add, Nat.add_mul, Nat.mul_assoc, Nat.add_assoc]
theorem numOf_bitsOf (n : Nat) : ∀ s, numOf (bitsOf n s) = n % 2 ^ s
  | 0 => by simp [numOf, bitsOf, Nat.mod_one]
  | s + 1 => by
    show (n / 2 ^ s % 2 == 1).toNat * 2 ^ (bitsOf n s).length + numOf (bitsOf n s) = _
    rw [bitsOf_length, numOf_bitsOf n s, Nat.pow_succ, Nat.mod_mul]
    have h : (n / 2 ^ s % 2 == 1).toNat = n / 2 ^ s % 2 := by
      rcases Nat.mod_two_eq_zero_or_one (n / 2 ^ s) with h | h <;> rw [h] <;> rfl
    rw [h, Nat.mul_comm, Nat.add_comm]
theorem numOf_small {n s : Nat} (h : n < 2 ^ s) : numOf (bitsOf n s) = n := by rw [numOf_bitsOf, Nat.mod_eq_of_lt h]
theorem numOf_inj : ∀ a b : List Bool, a.length = b.length → numOf a = numOf b → a = b
  | [], [], _, _ => rfl
  | [], _ :: _, h, _ => by cases h
  | _ :: _, [], h, _ => by cases h
  | x :: r, y :: t, h, e => by
    have hl : r.length = t.length := Nat.succ.inj h
    have e : x.toNat * 2 ^ r.length + numOf r = y.toNat * 2 ^ t.length + numOf t := e
    have h1 := numOf_lt r
    have h2 := numOf_lt t
    rw [← hl] at e h2
    cases x <;> cases y <;> simp at e ⊢
    · exact numOf_inj r t hl e
    · omega
    · omega
    · exact numOf_inj r t hl e
theorem bitsOf_numOf (b : List Bool) : bitsOf (numOf b) b.length = b := by
  refine numOf_inj _ _ (bitsOf_length _ _) ?_
  rw [numOf_small (numOf_lt b)]
theorem numOf_take_div (b : List Bool) (k : Nat) : numOf b / 2 ^ (b.length - k) = numOf (b.take k) := by
  have e := numOf_append (b.take k) (b.drop k)
  rw [List.take_append_drop] at e
  have h := numOf_lt (b.drop k)
  rw [List.length_drop] at e h
  rw [e, Nat.mul_comm, Nat.mul_add_div (Nat.two_pow_pos _), Nat.div_eq_of_lt h, Nat.add_zero]
theorem numOf_drop_mod (b : List Bool) (k : Nat) : numOf b % 2 ^ (b.length - k) = numOf (b.drop k) := by
  have e := numOf_append (b.take k) (b.drop k)
  rw [List.take_append_drop] at e
  have h := numOf_lt (b.drop k)
  rw [List.length_drop] at e h
  rw [e, Nat.mul_comm, Nat.mul_add_mod, Nat.mod_eq_of_lt h]
theorem numOf_noughts (k : Nat) : numOf (List.replicate k false) = 0 := by
  induction k with
  | zero => rfl
  | succ k ih => rw [List.replicate_succ]; unfold numOf; rw [ih]; simp
/-! the bytes that stand whole in a text, the text filled by noughts -/
def byteAt (b : List Bool) (i : Nat) : Nat := numOf ((b.drop (8 * i)).take 8)
def wholeTo (b : List Bool) (n : Nat) : List Int := (List.range n).map fun i => ((byteAt b i : Nat) : Int)
def pad8 (b : List Bool) : List Bool := b ++ List.replicate ((8 - b.length % 8) % 8) false
def rowOf (b : List Bool) : List Int := wholeTo (pad8 b) ((b.length + 7) / 8)
theorem wholeTo_length (b : List Bool) (n : Nat) : (wholeTo b n).length = n := by unfold wholeTo; simp
theorem wholeTo_succ (b : List Bool) (n : Nat) : wholeTo b (n + 1) = wholeTo b n ++ [((byteAt b n : Nat) : Int)] := by unfold wholeTo; rw [List.range_succ, List.map_append]; rfl
theorem byteAt_append {b c : List Bool} {i : Nat} (h : 8 * i + 8 ≤ b.length) : byteAt (b ++ c) i = byteAt b i := by
  unfold byteAt
  rw [List.drop_append_of_le_length (by omega), List.take_append_of_le_length (by rw [List.length_drop]; omega)]
theorem wholeTo_append {b c : List Bool} {n : Nat} (h : 8 * n ≤ b.length) : wholeTo (b ++ c) n = wholeTo b n := by
  unfold wholeTo
  refine List.map_congr_left fun i hi => ?_
  have := List.mem_range.mp hi
  rw [byteAt_append (by omega)]
theorem byteAt_lt (b : List Bool) (i : Nat) : byteAt b i < 256 := by
  have h := numOf_lt ((b.drop (8 * i)).take 8)
  have e : ((b.drop (8 * i)).take 8).length ≤ 8 := by rw [List.length_take]; omega
  exact Nat.lt_of_lt_of_le h (Nat.pow_le_pow_right (by decide) e)
theorem pad8_length (b : List Bool) : (pad8 b).length = 8 * ((b.length + 7) / 8) := by unfold pad8; rw [List.length_append, List.length_replicate]; omega
theorem rowOf_length (b : List Bool) : (rowOf b).length = (b.length + 7) / 8 := wholeTo_length _ _
theorem rowOf_bytes (b : List Bool) : ∀ n ∈ rowOf b, 0 ≤ n ∧ n ≤ 255 := by
  intro n hn
  unfold rowOf wholeTo at hn
  obtain ⟨i, _, rfl⟩ := List.mem_map.mp hn
  have := byteAt_lt (pad8 b) i
  omega
/-- the bits of a row -/
def bitsRow (ns : List Int) : List Bool := ns.flatMap fun n => bitsOf n.toNat 8
theorem bitsRow_length (ns : List Int) : (bitsRow ns).length = 8 * ns.length := by
  induction ns with
  | nil => rfl
  | cons n r ih =>
    unfold bitsRow at ih ⊢
    rw [List.flatMap_cons, List.length_append, ih, bitsOf_length, List.length_cons]
    omega
theorem bitsRow_wholeTo (b : List Bool) : ∀ n, 8 * n ≤ b.length → bitsRow (wholeTo b n) = b.take (8 * n)
  | 0, _ => by simp [wholeTo, bitsRow]
  | n + 1, h => by
    have ih := bitsRow_wholeTo b n (by omega)
    rw [wholeTo_succ]
    unfold bitsRow at ih ⊢
    rw [List.flatMap_append, ih]
    have e : bitsOf (byteAt b n) 8 = (b.drop (8 * n)).take 8 := by
      have l : ((b.drop (8 * n)).take 8).length = 8 := by rw [List.length_take, List.length_drop]; omega
      have z := bitsOf_numOf ((b.drop (8 * n)).take 8)
      rw [l] at z
      exact z
    show b.take (8 * n) ++ (bitsOf ((byteAt b n : Nat) : Int).toNat 8 ++ []) = _
    rw [Int.toNat_natCast, e, List.append_nil]
    rw [show 8 * (n + 1) = 8 * n + 8 by omega, List.take_add]
theorem bitsRow_rowOf (b : List Bool) : bitsRow (rowOf b) = pad8 b := by
  unfold rowOf
  rw [bitsRow_wholeTo _ _ (by rw [pad8_length]; exact Nat.le_refl _)]
  exact List.take_of_length_le (by rw [pad8_length]; exact Nat.le_refl _)
theorem bitsRow_snoc (ns : List Int) (n : Int) : bitsRow (ns ++ [n]) = bitsRow ns ++ bitsOf n.toNat 8 := by
  unfold bitsRow
  rw [List.flatMap_append, List.flatMap_cons, List.flatMap_nil, List.append_nil]
end L2.BR

namespace L2.BR
open PySem PySem.Spec PyProof.Rows L2.BP
variable {K : PySem.W.Frag} {W : WX} {vs : List V} {H : Hp} {Q : VK} {E : XK}
/-! ### checks -/
structure KCheck (K : PySem.W.Frag) : Prop where
  c : Cls K (He.ga K "Check")
  n1 : NoAttr K (He.ga K "Check") "wide"
  n2 : NoAttr K (He.ga K "Check") "lower"
  n3 : NoAttr K (He.ga K "Check") "rest"
def chT (w l s : Nat) : Nat := (2 * s % 2 ^ w) ^^^ (if 2 ^ w ≤ 2 * s then l else 0)
def chI (w l : Nat) : Nat → Nat → Nat
  | 0, s => s
  | i + 1, s => chT w l (chI w l i s)
def chB (w l s b : Nat) : Nat := chI w l 8 (s ^^^ b * 2 ^ (w - 8))
def chR (w l s : Nat) (ns : List Int) : Nat := ns.foldl (fun s n => chB w l s n.toNat) s
/-- the two kinds -/
def Kind (w l : Nat) : Prop := (w = 8 ∧ l = 29) ∨ (w = 16 ∧ l = 45)
theorem Kind.lt {w l : Nat} (h : Kind w l) : l < 2 ^ w ∧ 8 ≤ w ∧ w ≤ 16 := by rcases h with ⟨rfl, rfl⟩ | ⟨rfl, rfl⟩ <;> decide
theorem chT_lt {w l : Nat} (h : Kind w l) (s : Nat) : chT w l s < 2 ^ w := by
  unfold chT
  refine Nat.xor_lt_two_pow (Nat.mod_lt _ (Nat.two_pow_pos w)) ?_
  split
  · exact h.lt.1
  · exact Nat.two_pow_pos w
theorem chI_lt {w l : Nat} (h : Kind w l) {s : Nat} (hs : s < 2 ^ w) : ∀ i, chI w l i s < 2 ^ w
  | 0 => hs
  | i + 1 => chT_lt h _
theorem byte_lt {w l : Nat} (h : Kind w l) {b : Nat} (hb : b < 256) : b * 2 ^ (w - 8) < 2 ^ w := by rcases h with ⟨rfl, rfl⟩ | ⟨rfl, rfl⟩ <;> omega
theorem chB_lt {w l : Nat} (h : Kind w l) {s b : Nat} (hs : s < 2 ^ w) (hb : b < 256) : chB w l s b < 2 ^ w := chI_lt h (Nat.xor_lt_two_pow hs (byte_lt h hb)) 8
theorem chR_lt {w l : Nat} (h : Kind w l) : ∀ {ns : List Int} {s : Nat}, s < 2 ^ w → Bytes ns → chR w l s ns < 2 ^ w
  | [], s, hs, _ => hs
  | n :: r, s, hs, hb => by
    have hn := hb n (.head _)
    exact chR_lt h (ns := r) (chB_lt h hs (by omega)) fun x hx => hb x (.tail _ hx)
abbrev chO (K : PySem.W.Frag) (dx : Addr) (w l s : Nat) : HO := .ins (He.ga K "Check") dx [("wide", .int ((w : Nat) : Int)), ("lower", .int ((l : Nat) : Int)), ("rest", .int ((s : Nat) : Int))]
def Tg.isWide : Tg → Bool
  | .int i => decide (i = 8) || decide (i = 16)
  | _ => false
def sp_is_wide (K : PySem.W.Frag) : Sp := fun vs H Q _ => ∃ (v : V) (g : Tg), vs = [v] ∧ Th K H v g ∧ RetV H Q (.bl (Tg.isWide g))
theorem len_is_wide (h : sp_is_wide K vs H Q E) : vs.length = 1 := by
  obtain ⟨v, g, rfl, _⟩ := h
  rfl
def t_is_wide (K : PySem.W.Frag) (W : WX) : TS :=
  (tRet ((tAndV (tCB (rIsi K) (tCons (tVar 0) (tCons (tC (.ty "int")) tNil))) (tAndV (tNotV (tCB (rIsi K) (tCons (tVar 0) (tCons (tC (.ty "bool")) tNil)))) (tOp (rInU K) (tVar 0) (tTup (tCons (tC (.int 8)) (tCons (tC (.int 16)) tNil))))))))
theorem rd_is_wide (h : sp_is_wide K vs H Q E) : t_is_wide K W { nx := fun _ H' => Q .non H', rt := Q } (start ["thing"] vs) H := by
  obtain ⟨v, g, rfl, hT, q⟩ := h
  have hs := Hs.start H
  unfold t_is_wide
  walk_at "go"
  refine c_isiInt hT ?_
  cases hT with
  | int i =>
    walk_at "go"
    rename_i p H1 h1
    refine c_inT [8, 16] (h1.sqt (.head _)) ?_
    have e : decide (i ∈ [(8 : Int), 16]) = (decide (i = 8) || decide (i = 16)) := by simp
    rw [e]
    exact q _ h1.ex
  | bl b => walk_at "go"; refine c_isiBool (.bl b) ?_; walk_at "go"; exact q _ hs.ex
  | _ => walk_at "go"; exact q _ hs.ex
def sp_Check___init__ (K : PySem.W.Frag) : Sp := fun vs H Q _ => ∃ (B : Hp) (L : Pic) (x dx : Addr) (w l : Nat), vs = [.ref x, .int ((w : Nat) : Int)] ∧ Kind w l ∧ Hs B ((x, .ins (He.ga K "Check") dx []) :: L) H ∧ ∀ H', Hs B ((x, chO K dx w l (2 ^ w - 1)) :: L) H' → Q .non H'
theorem len_Check___init__ (h : sp_Check___init__ K vs H Q E) : vs.length = 2 := by
  obtain ⟨B, L, x, dx, w, l, rfl, _⟩ := h
  rfl
def t_Check___init__ (K : PySem.W.Frag) (W : WX) : TS :=
  (tSeq (tIfS (tNot (tB (tCl (sp_is_wide K) [] W (tCons (tVar 1) tNil)))) (tRz (He.ga K "BadBits") W) tNext)
    (tSeq (sFld K (tVar 0) (tVar 1) "wide")
    (tSeq (sFld K (tVar 0) (tIf (tTest (tOp (rEqU K) (tVar 1) (tC (.int 16)))) (tC (.int 45)) (tC (.int 29))) "lower")
    (sFld K (tVar 0) (tOp rSubU (tOp rShlU (tC (.int 1)) (tVar 1)) (tC (.int 1))) "rest"))))
theorem rd_Check___init__ (kCheck : KCheck K) (h : sp_Check___init__ K vs H Q E) : t_Check___init__ K (fun c d _ H2 => E c d H2) { nx := fun _ H' => Q .non H', rt := Q } (start ["self", "wide"] vs) H := by
  obtain ⟨B, L, x, dx, w, l, rfl, hk, hs, q⟩ := h
  obtain ⟨hc, n1, n2, n3⟩ := kCheck
  unfold t_Check___init__
  walk_at "go"
  refine ⟨_, _, rfl, .int _, retV hs fun H1 h1 => ?_⟩
  clear hs
  rcases hk with ⟨rfl, rfl⟩ | ⟨rfl, rfl⟩
  · walk_at "go"
    rename_i H2 h2 H3 h3 H4 h4
    exact q H4 h4
  · walk_at "go"
    rename_i H2 h2 H3 h3 H4 h4
    exact q H4 h4
def sp_Check_value (K : PySem.W.Frag) : Sp := fun vs H Q _ => ∃ (B : Hp) (L : Pic) (x dx : Addr) (w l s : Nat), vs = [.ref x] ∧ Hs B ((x, chO K dx w l s) :: L) H ∧ Q (.int ((s : Nat) : Int)) H
theorem len_Check_value (h : sp_Check_value K vs H Q E) : vs.length = 1 := by
  obtain ⟨B, L, x, dx, w, l, s, rfl, _⟩ := h
  rfl
def t_Check_value (K : PySem.W.Frag) (W : WX) : TS :=
  (tRet (tFld K (tVar 0) "rest"))
theorem rd_Check_value (kCheck : KCheck K) (h : sp_Check_value K vs H Q E) : t_Check_value K W { nx := fun _ H' => Q .non H', rt := Q } (start ["self"] vs) H := by
  obtain ⟨B, L, x, dx, w, l, s, rfl, hs, q⟩ := h
  obtain ⟨hc, n1, n2, n3⟩ := kCheck
  unfold t_Check_value
  walk_at "go"
  exact q
def sp_Check_add (K : PySem.W.Frag) : Sp := fun vs H Q _ => ∃ (B : Hp) (L : Pic) (x dx a : Addr) (w l s : Nat) (ns : List Int), vs = [.ref x, .ref a] ∧ Kind w l ∧ s < 2 ^ w ∧ Hs B ((x, chO K dx w l s) :: L) H ∧ SqL K H a (ns.map V.int) ∧ Bytes ns ∧ ns.length ≤ 100000 ∧
  ∀ H', Hs B ((x, chO K dx w l (chR w l s ns)) :: L) H' → Q .non H'
theorem len_Check_add (h : sp_Check_add K vs H Q E) : vs.length = 2 := by
  obtain ⟨B, L, x, dx, a, w, l, s, ns, rfl, _⟩ := h
  rfl
theorem chR_snoc (w l s : Nat) (ns : List Int) (n : Int) : chR w l s (ns ++ [n]) = chB w l (chR w l s ns) n.toNat := by unfold chR; rw [List.foldl_append]; rfl
def t_Check_add (K : PySem.W.Frag) (W : WX) : TS :=
  (tFor (iList K (tCl (sp_need_row K) [] W (tCons (tVar 1) tNil))) (gName 2) (tSeq (sFld K (tVar 0) (tOp rXorU (tFld K (tVar 0) "rest") (tOp rShlU (tVar 2) (tOp rSubU (tFld K (tVar 0) "wide") (tC (.int 8))))) "rest")
    (tFor (iRng1 (tCons (tC (.int 8)) tNil)) (gName 3) (tSeq (tAsg (tCB (rDivmodK) (tCons (tOp rShlU (tFld K (tVar 0) "rest") (tC (.int 1))) (tCons (tOp rShlU (tC (.int 1)) (tFld K (tVar 0) "wide")) tNil))) (gTup K 2 (gCons (gName 4) (gCons (gAttr K (tVar 0) "rest") gNil))))
    (tIfS (tTest (tOp (rEqU K) (tVar 4) (tC (.int 1)))) (sFld K (tVar 0) (tOp rXorU (tFld K (tVar 0) "rest") (tFld K (tVar 0) "lower")) "rest") tNext)))))
theorem rd_Check_add (kCheck : KCheck K) (h : sp_Check_add K vs H Q E) : t_Check_add K (fun c d _ H2 => E c d H2) { nx := fun _ H' => Q .non H', rt := Q } (start ["self", "row", "byte", "turn", "out"] vs) H := by
  obtain ⟨B, L, x, dx, a, w, l, s, ns, rfl, hk, hsl, hs, hS, hb, hl, q⟩ := h
  obtain ⟨hc, n1, n2, n3⟩ := kCheck
  have hkl := hk.lt
  unfold t_Check_add
  walk_at "go"
  refine ⟨.ref a, _, rfl, .lst hS, ok_ints hl, fun xs e _ => ?_, fun z => ?_⟩
  rotate_left
  · rw [show Tg.isRow (.lst (ns.map V.int)) = true from all_byteV hb] at z
    cases z
  cases Tg.lst.inj e
  refine retL hs fun p H1 h1 => ?_
  refine w_forL V.int ns (fun pre σ' L' B' => ∃ w2 w3 w4, σ' = [some (.ref x), some (.ref a), w2, w3, w4] ∧ B' = B ∧ L' = (p, .lst (ns.map V.int)) :: (x, chO K dx w l (chR w l s pre)) :: L) h1 ⟨none, none, none, rfl, rfl, rfl⟩ ?_ ?_ ?_
  · rintro pre post σ' L' B' H' _ ⟨w2, w3, w4, _, rfl, rfl⟩ h
    exact h.sql (.head _)
  · rintro pre n post σ' L' B' H' e ⟨w2, w3, w4, rfl, rfl, rfl⟩ h
    have hn := hb n (by rw [e]; simp)
    obtain ⟨m, rfl⟩ := Int.eq_ofNat_of_zero_le hn.1
    have hpb : Bytes pre := fun y hy => hb y (by rw [e]; simp [hy])
    have hrl := chR_lt hk (ns := pre) hsl hpb
    have hsn := chR_snoc w l s pre ((m : Nat) : Int)
    generalize chR w l s pre = s0 at *
    walk_at "go"
    rename_i H2 h2
    rw [show (((w : Nat) : Int) - 8).toNat = w - 8 by omega, show ((m : Nat) : Int) * 2 ^ (w - 8) = ((m * 2 ^ (w - 8) : Nat) : Int) by push_cast; rfl, xor_nat] at h2
    have hs1 : s0 ^^^ m * 2 ^ (w - 8) < 2 ^ w := Nat.xor_lt_two_pow hrl (byte_lt hk (by omega))
    refine ⟨8, rfl, by decide, by decide, ?_⟩
    rw [show (8 : Int).toNat = 8 from rfl]
    have hw2 : 2 ^ w ≤ 65536 := by rcases hk with ⟨rfl, rfl⟩ | ⟨rfl, rfl⟩ <;> decide
    have hw3 : 0 < 2 ^ w := Nat.two_pow_pos w
    refine w_forR (fun i σ' L' B2 => ∃ w3 w4, σ' = [some (.ref x), some (.ref a), some (.int ((m : Nat) : Int)), w3, w4] ∧ B2 = B' ∧ L' = (p, .lst (ns.map V.int)) :: (x, chO K dx w l (chI w l i (s0 ^^^ m * 2 ^ (w - 8)))) :: L) h2 ⟨_, _, rfl, rfl, rfl⟩ ?_ ?_
    · rintro i σ' L' B2 H3 hi ⟨w3, w4, rfl, rfl, rfl⟩ h3
      have hr := chI_lt hk hs1 i
      have hstep : chI w l (i + 1) (s0 ^^^ m * 2 ^ (w - 8)) = chT w l (chI w l i (s0 ^^^ m * 2 ^ (w - 8))) := rfl
      generalize chI w l i (s0 ^^^ m * 2 ^ (w - 8)) = r at *
      clear h2 h
      walk_at "go"
      rw [show (1 : Int) * 2 ^ (((w : Nat) : Int)).toNat = ((2 ^ w : Nat) : Int) by rw [Int.toNat_natCast]; push_cast; omega, show ((r : Nat) : Int) * 2 ^ (1 : Int).toNat = ((2 * r : Nat) : Int) by rw [show (1 : Int).toNat = 1 from rfl]; push_cast; omega]
      refine c_divmod h3 ⟨by omega, by omega⟩ fun t H4 h4 => ?_
      rw [show ((2 * r : Nat) : Int) / ((2 ^ w : Nat) : Int) = ((2 * r / 2 ^ w : Nat) : Int) by push_cast; rfl, show ((2 * r : Nat) : Int) % ((2 ^ w : Nat) : Int) = ((2 * r % 2 ^ w : Nat) : Int) by push_cast; rfl] at h4
      have ht := h4.sqt (K := K) (.head _)
      have h5 := h4.drop
      clear h4 h3
      walk_at "go"
      rename_i H6 h6
      by_cases c : 2 ^ w ≤ 2 * r
      · have e1 : 2 * r / 2 ^ w = 1 := by
          rw [Nat.div_eq_iff (by omega)]
          omega
        refine i_t (decide_eq_true (by omega)) ?_
        walk_at "go"
        rename_i H7 h7
        rw [xor_nat] at h7
        refine ⟨_, _, ⟨_, _, rfl, rfl, ?_⟩, h7⟩
        rw [hstep]
        unfold chT
        rw [if_pos c]
      · have e1 : 2 * r / 2 ^ w = 0 := Nat.div_eq_of_lt (by omega)
        refine i_f (decide_eq_false (by omega)) ?_
        walk_at "go"
        refine ⟨_, _, ⟨_, _, rfl, rfl, ?_⟩, h6⟩
        rw [hstep]
        unfold chT
        rw [if_neg c, Nat.xor_zero]
    · rintro σ' L' B2 H3 ⟨w3, w4, rfl, rfl, rfl⟩ h3
      refine ⟨_, _, ⟨_, _, _, rfl, rfl, ?_⟩, h3⟩
      rw [hsn]
      rfl
  · rintro σ' L' B' H' ⟨w2, w3, w4, rfl, rfl, rfl⟩ h
    walk_at "go"
    exact q H' h.drop
def sp_check_of (K : PySem.W.Frag) : Sp := fun vs H Q _ => ∃ (a : Addr) (w l : Nat) (ns : List Int), vs = [.ref a, .int ((w : Nat) : Int)] ∧ Kind w l ∧ SqL K H a (ns.map V.int) ∧ Bytes ns ∧ ns.length ≤ 100000 ∧ RetV H Q (.int ((chR w l (2 ^ w - 1) ns : Nat) : Int))
theorem len_check_of (h : sp_check_of K vs H Q E) : vs.length = 2 := by
  obtain ⟨a, w, l, ns, rfl, _⟩ := h
  rfl
def t_check_of (K : PySem.W.Frag) (W : WX) : TS :=
  (tSeq (tAsg (tMk (He.ga K "Check") (sp_Check___init__ K) [] W (tCons (tVar 1) tNil)) (gName 2))
    (tSeq (tDrop (tMt (He.ga K "Check") "add" (sp_Check_add K) [] W (tVar 2) (tCons (tVar 0) tNil)))
    (tRet (tMt (He.ga K "Check") "value" (sp_Check_value K) [] W (tVar 2) tNil))))
theorem rd_check_of (kCheck : KCheck K) (h : sp_check_of K vs H Q E) : t_check_of K (fun c d _ H2 => E c d H2) { nx := fun _ H' => Q .non H', rt := Q } (start ["row", "wide", "check"] vs) H := by
  obtain ⟨a, w, l, ns, rfl, hk, hS, hb, hl, q⟩ := h
  obtain ⟨hc, n1, n2, n3⟩ := kCheck
  have hs := Hs.start H
  unfold t_check_of
  walk_at "go"
  rename_i x dx H1 h1
  refine ⟨H, [], x, dx, w, l, rfl, hk, h1, fun H2 h2 => ⟨rfl, ?_⟩⟩
  clear h1 hs
  walk_at "go"
  refine ⟨H, [], x, dx, a, w, l, _, ns, rfl, hk, Nat.sub_lt (Nat.two_pow_pos w) (by decide), h2, h2.bl hS, hb, hl, fun H3 h3 => ?_⟩
  clear h2
  walk_at "go"
  exact ⟨H, [], x, dx, w, l, _, rfl, h3, q _ h3.ex⟩
end L2.BR

namespace L2.BR
open PySem PySem.Spec PyProof.Rows L2.BP
/-! ### checks: what a change does -/
theorem pow_pred {w : Nat} (h : 1 ≤ w) : 2 ^ w = 2 * 2 ^ (w - 1) := by
  obtain ⟨k, rfl⟩ : ∃ k, w = k + 1 := ⟨w - 1, by omega⟩
  rw [Nat.add_sub_cancel, Nat.pow_succ, Nat.mul_comm]
theorem xor_eq0 {a b : Nat} (h : a ^^^ b = 0) : a = b := by
  have z : a ^^^ b ^^^ b = 0 ^^^ b := by rw [h]
  rw [Nat.xor_assoc, Nat.xor_self, Nat.xor_zero, Nat.zero_xor] at z
  exact z
theorem xor_top {k q : Nat} (h : q < 2 ^ k) : 2 ^ k ^^^ q = 2 ^ k + q := by
  have z := Bits.nat_xor_add_and (2 ^ k) q
  have e : 2 ^ k &&& q = 0 := by
    apply Nat.eq_of_testBit_eq
    intro i
    rw [Nat.testBit_and, Nat.testBit_two_pow, Nat.zero_testBit]
    by_cases e : k = i
    · subst e
      rw [Nat.testBit_lt_two_pow h, Bool.and_false]
    · rw [decide_eq_false e, Bool.false_and]
  omega
theorem chT_bit {w l s : Nat} (hw : 1 ≤ w) (hs : s < 2 ^ w) : chT w l s = (2 * s % 2 ^ w) ^^^ (if s.testBit (w - 1) then l else 0) := by
  unfold chT
  congr 1
  have e : 2 ^ w = 2 * 2 ^ (w - 1) := pow_pred hw
  have h : s.testBit (w - 1) = decide (2 ^ (w - 1) ≤ s) := by
    rw [Nat.testBit_eq_decide_div_mod_eq]
    by_cases c : 2 ^ (w - 1) ≤ s
    · have : s / 2 ^ (w - 1) = 1 := by
        rw [Nat.div_eq_iff (Nat.two_pow_pos _)]
        omega
      rw [this, decide_eq_true c]
      rfl
    · rw [Nat.div_eq_of_lt (by omega), decide_eq_false c]
      rfl
  rw [h]
  by_cases c : 2 ^ (w - 1) ≤ s
  · rw [if_pos (by omega), if_pos (decide_eq_true c)]
  · rw [if_neg (by omega), if_neg (by simpa using c)]
theorem chT_xor {w l a b : Nat} (hw : 1 ≤ w) (ha : a < 2 ^ w) (hb : b < 2 ^ w) : chT w l (a ^^^ b) = chT w l a ^^^ chT w l b := by
  rw [chT_bit hw ha, chT_bit hw hb, chT_bit hw (Nat.xor_lt_two_pow ha hb)]
  have e : 2 * (a ^^^ b) = 2 * a ^^^ 2 * b := by
    have := @Nat.shiftLeft_xor_distrib 1 a b
    simp only [Nat.shiftLeft_eq, Nat.pow_one] at this
    rw [Nat.mul_comm, this, Nat.mul_comm a, Nat.mul_comm b]
  rw [e, Nat.xor_mod_two_pow, Nat.testBit_xor]
  generalize 2 * a % 2 ^ w = x
  generalize 2 * b % 2 ^ w = y
  cases a.testBit (w - 1) <;> cases b.testBit (w - 1)
  · show x ^^^ y ^^^ 0 = (x ^^^ 0) ^^^ (y ^^^ 0)
    rw [Nat.xor_zero, Nat.xor_zero, Nat.xor_zero]
  · show x ^^^ y ^^^ l = (x ^^^ 0) ^^^ (y ^^^ l)
    rw [Nat.xor_zero, Nat.xor_assoc]
  · show x ^^^ y ^^^ l = (x ^^^ l) ^^^ (y ^^^ 0)
    rw [Nat.xor_zero, Nat.xor_assoc, Nat.xor_assoc, Nat.xor_comm y l]
  · show x ^^^ y ^^^ 0 = (x ^^^ l) ^^^ (y ^^^ l)
    rw [Nat.xor_zero, Nat.xor_assoc, Nat.xor_comm y l, ← Nat.xor_assoc l, Nat.xor_self, Nat.zero_xor]
theorem chT_zero (w l : Nat) : chT w l 0 = 0 := by
  unfold chT
  rw [if_neg (by have := Nat.two_pow_pos w; omega)]
  simp
theorem chT_ne {w l d : Nat} (hk : Kind w l) (hd : d < 2 ^ w) (h : d ≠ 0) : chT w l d ≠ 0 := by
  intro z
  unfold chT at z
  have hw : 0 < 2 ^ (w - 1) := Nat.two_pow_pos _
  have e : 2 ^ w = 2 * 2 ^ (w - 1) := pow_pred (by have := hk.lt; omega)
  have hl : l % 2 = 1 := by rcases hk with ⟨_, rfl⟩ | ⟨_, rfl⟩ <;> rfl
  by_cases c : 2 ^ w ≤ 2 * d
  · rw [if_pos c] at z
    have z2 := xor_eq0 z
    have : (2 * d % 2 ^ w) % 2 = 0 := by rw [e, Nat.mod_mul_right_mod]; omega
    omega
  · rw [if_neg c, Nat.xor_zero, Nat.mod_eq_of_lt (by omega)] at z
    omega
theorem chI_succ (w l : Nat) : ∀ i s, chI w l (i + 1) s = chI w l i (chT w l s)
  | 0, s => rfl
  | i + 1, s => by
    show chT w l (chI w l (i + 1) s) = chT w l (chI w l i (chT w l s))
    rw [chI_succ w l i s]
theorem chI_ne {w l : Nat} (hk : Kind w l) : ∀ (i : Nat) {d : Nat}, d < 2 ^ w → d ≠ 0 → chI w l i d ≠ 0
  | 0, _, _, h => h
  | i + 1, d, hd, h => chT_ne hk (chI_lt hk hd i) (chI_ne hk i hd h)
/-- bit by bit -/
def proc (w l : Nat) : Nat → List Bool → Nat
  | s, [] => s
  | s, b :: r => proc w l (chT w l (s ^^^ b.toNat * 2 ^ (w - 1))) r
theorem top_lt {w : Nat} (hw : 1 ≤ w) (b : Bool) : b.toNat * 2 ^ (w - 1) < 2 ^ w := by
  have e : 2 ^ w = 2 * 2 ^ (w - 1) := pow_pred hw
  have : 0 < 2 ^ (w - 1) := Nat.two_pow_pos _
  cases b <;> simp <;> omega
theorem proc_lt {w l : Nat} (hk : Kind w l) : ∀ (bs : List Bool) {s : Nat}, s < 2 ^ w → proc w l s bs < 2 ^ w
  | [], _, h => h
  | b :: r, s, h => proc_lt hk r (chT_lt hk _)
theorem proc_append (w l : Nat) : ∀ (a b : List Bool) (s : Nat), proc w l s (a ++ b) = proc w l (proc w l s a) b
  | [], _, _ => rfl
  | x :: a, b, s => proc_append w l a b _
theorem proc_short {w l : Nat} (hk : Kind w l) : ∀ (bs : List Bool) {s : Nat}, s < 2 ^ w → bs.length ≤ w → proc w l s bs = chI w l bs.length (s ^^^ numOf bs * 2 ^ (w - bs.length))
  | [], s, _, _ => by
    show s = s ^^^ 0 * _
    rw [Nat.zero_mul, Nat.xor_zero]
  | b :: r, s, hs, hl => by
    have hw := hk.lt
    rw [List.length_cons] at hl
    have hq := numOf_lt r
    have ew : 2 ^ (w - r.length) = 2 * 2 ^ (w - r.length - 1) := pow_pred (by omega)
    have e1 : 2 ^ r.length * 2 ^ (w - r.length - 1) = 2 ^ (w - 1) := by rw [← Nat.pow_add]; congr 1; omega
    have e2 : 2 ^ w = 2 * 2 ^ (w - 1) := pow_pred (by omega)
    have hq2 : numOf r * 2 ^ (w - r.length - 1) < 2 ^ (w - 1) := by
      rw [← e1]
      exact (Nat.mul_lt_mul_right (Nat.two_pow_pos _)).mpr hq
    show proc w l (chT w l (s ^^^ b.toNat * 2 ^ (w - 1))) r = _
    rw [proc_short hk r (chT_lt hk _) (by omega), List.length_cons, chI_succ]
    congr 1
    have e3 : numOf (b :: r) * 2 ^ (w - (r.length + 1)) = b.toNat * 2 ^ (w - 1) ^^^ numOf r * 2 ^ (w - r.length - 1) := by
      show (b.toNat * 2 ^ r.length + numOf r) * 2 ^ (w - r.length - 1) = _
      rw [Nat.add_mul, Nat.mul_assoc, e1]
      cases b
      · simp
      · rw [Bool.toNat_true, Nat.one_mul, xor_top hq2]
    rw [e3, ← Nat.xor_assoc, chT_xor (by omega) (Nat.xor_lt_two_pow hs (top_lt (by omega) b)) (by omega)]
    congr 1
    unfold chT
    rw [if_neg (by omega), Nat.xor_zero, Nat.mod_eq_of_lt (by omega), ew, Nat.mul_left_comm]
theorem chB_proc {w l : Nat} (hk : Kind w l) {s b : Nat} (hs : s < 2 ^ w) (hb : b < 256) : chB w l s b = proc w l s (bitsOf b 8) := by
  rw [proc_short hk _ hs (by rw [bitsOf_length]; exact hk.lt.2.1), bitsOf_length, numOf_small hb]
  rfl
theorem chR_proc {w l : Nat} (hk : Kind w l) : ∀ {ns : List Int} {s : Nat}, s < 2 ^ w → Bytes ns → chR w l s ns = proc w l s (bitsRow ns)
  | [], _, _, _ => rfl
  | n :: r, s, hs, hb => by
    have hn := hb n (.head _)
    show chR w l (chB w l s n.toNat) r = _
    rw [chR_proc hk (chB_lt hk hs (by omega)) fun x hx => hb x (.tail _ hx), chB_proc hk hs (by omega)]
    show _ = proc w l s (bitsOf n.toNat 8 ++ bitsRow r)
    rw [proc_append]
theorem proc_xor {w l : Nat} (hk : Kind w l) : ∀ (a b : List Bool) {s t : Nat}, a.length = b.length → s < 2 ^ w → t < 2 ^ w → proc w l (s ^^^ t) (List.zipWith Bool.xor a b) = proc w l s a ^^^ proc w l t b
  | [], [], _, _, _, _, _ => rfl
  | [], _ :: _, _, _, h, _, _ => by cases h
  | _ :: _, [], _, _, h, _, _ => by cases h
  | x :: a, y :: b, s, t, h, hs, ht => by
    have hw : 1 ≤ w := by have := hk.lt; omega
    have e : s ^^^ t ^^^ (Bool.xor x y).toNat * 2 ^ (w - 1) = (s ^^^ x.toNat * 2 ^ (w - 1)) ^^^ (t ^^^ y.toNat * 2 ^ (w - 1)) := by
      have e2 : (Bool.xor x y).toNat * 2 ^ (w - 1) = x.toNat * 2 ^ (w - 1) ^^^ y.toNat * 2 ^ (w - 1) := by cases x <;> cases y <;> simp
      rw [e2, Nat.xor_assoc, Nat.xor_assoc]
      congr 1
      rw [← Nat.xor_assoc, Nat.xor_comm t, Nat.xor_assoc]
    show proc w l (chT w l (s ^^^ t ^^^ (Bool.xor x y).toNat * 2 ^ (w - 1))) (List.zipWith Bool.xor a b) = _
    rw [e, chT_xor hw (Nat.xor_lt_two_pow hs (top_lt hw x)) (Nat.xor_lt_two_pow ht (top_lt hw y))]
    exact proc_xor hk a b (Nat.succ.inj h) (chT_lt hk _) (chT_lt hk _)
theorem proc_noughts (w l : Nat) : ∀ (c s : Nat), proc w l s (List.replicate c false) = chI w l c s
  | 0, _ => rfl
  | c + 1, s => by
    rw [List.replicate_succ, chI_succ]
    show proc w l (chT w l (s ^^^ 0 * _)) _ = _
    rw [Nat.zero_mul, Nat.xor_zero, proc_noughts w l c]
theorem chI_zero (w l : Nat) : ∀ i, chI w l i 0 = 0
  | 0 => rfl
  | i + 1 => by
    show chT w l (chI w l i 0) = 0
    rw [chI_zero w l i, chT_zero]
/-- the bits of a change -/
theorem proc_burst {w l : Nat} (hk : Kind w l) (a c m p : Nat) (hm : m ≤ w) (hp : p < 2 ^ m) (h0 : p ≠ 0) : proc w l 0 (List.replicate a false ++ (bitsOf p m ++ List.replicate c false)) ≠ 0 := by
  rw [proc_append, proc_noughts, chI_zero, proc_append, proc_noughts, proc_short hk _ (Nat.two_pow_pos w) (by rw [bitsOf_length]; exact hm), bitsOf_length, numOf_small hp, Nat.zero_xor]
  have e : 2 ^ m * 2 ^ (w - m) = 2 ^ w := by rw [← Nat.pow_add]; congr 1; omega
  have h1 : p * 2 ^ (w - m) < 2 ^ w := by
    rw [← e]
    exact (Nat.mul_lt_mul_right (Nat.two_pow_pos _)).mpr hp
  have h2 : p * 2 ^ (w - m) ≠ 0 := Nat.mul_ne_zero h0 (Nat.ne_of_gt (Nat.two_pow_pos _))
  exact chI_ne hk c (chI_lt hk h1 m) (chI_ne hk m h1 h2)
/-! bits of numbers -/
theorem bitsOf_add (n a : Nat) : ∀ b, bitsOf n (b + a) = bitsOf (n / 2 ^ a) b ++ bitsOf n a
  | 0 => by rw [Nat.zero_add]; rfl
  | b + 1 => by
    rw [show b + 1 + a = (b + a) + 1 by omega]
    show (n / 2 ^ (b + a) % 2 == 1) :: bitsOf n (b + a) = (n / 2 ^ a / 2 ^ b % 2 == 1) :: (bitsOf (n / 2 ^ a) b ++ bitsOf n a)
    rw [bitsOf_add n a b, Nat.div_div_eq_div_mul, ← Nat.pow_add, Nat.add_comm a b]
theorem bitsOf_xor (a b : Nat) : ∀ n, bitsOf (a ^^^ b) n = List.zipWith Bool.xor (bitsOf a n) (bitsOf b n)
  | 0 => rfl
  | n + 1 => by
    have t : ∀ x : Nat, (x / 2 ^ n % 2 == 1) = x.testBit n := fun x => by
      rw [Nat.testBit_eq_decide_div_mod_eq]
      by_cases h : x / 2 ^ n % 2 = 1 <;> simp [h]
    show ((a ^^^ b) / 2 ^ n % 2 == 1) :: bitsOf (a ^^^ b) n = Bool.xor (a / 2 ^ n % 2 == 1) (b / 2 ^ n % 2 == 1) :: List.zipWith Bool.xor (bitsOf a n) (bitsOf b n)
    rw [bitsOf_xor a b n, t, t, t, Nat.testBit_xor]
theorem bitsOf_zero : ∀ n, bitsOf 0 n = List.replicate n false
  | 0 => rfl
  | n + 1 => by
    show (0 / 2 ^ n % 2 == 1) :: bitsOf 0 n = _
    rw [bitsOf_zero n, Nat.zero_div, List.replicate_succ]
    rfl
theorem bitsOf_mod (x n : Nat) : bitsOf (x % 2 ^ n) n = bitsOf x n := by
  refine numOf_inj _ _ (by rw [bitsOf_length, bitsOf_length]) ?_
  rw [numOf_bitsOf, numOf_bitsOf, Nat.mod_mod]
theorem bitsOf_change {p m c n : Nat} (hp : p < 2 ^ m) (h : m + c ≤ n) : bitsOf (p * 2 ^ c) n = List.replicate (n - m - c) false ++ (bitsOf p m ++ List.replicate c false) := by
  rw [show n = (n - c) + c by omega, bitsOf_add, Nat.mul_div_cancel _ (Nat.two_pow_pos c), show n - c = (n - m - c) + m by omega, bitsOf_add, Nat.div_eq_of_lt hp, bitsOf_zero, List.append_assoc]
  congr 1
  · congr 1
    omega
  · congr 1
    rw [← bitsOf_mod, Nat.mul_mod_left, bitsOf_zero]
theorem zip_self : ∀ (a e : List Bool), a.length = e.length → List.zipWith Bool.xor a (List.zipWith Bool.xor a e) = e
  | [], [], _ => rfl
  | [], _ :: _, h => by cases h
  | _ :: _, [], h => by cases h
  | x :: a, y :: e, h => by
    show Bool.xor x (Bool.xor x y) :: List.zipWith Bool.xor a (List.zipWith Bool.xor a e) = _
    rw [zip_self a e (Nat.succ.inj h)]
    cases x <;> cases y <;> rfl
/-- so many bytes of a number -/
def rowN (N : Nat) : Nat → List Int
  | 0 => []
  | k + 1 => ((N / 2 ^ (8 * k) % 256 : Nat) : Int) :: rowN N k
theorem rowN_length (N : Nat) : ∀ k, (rowN N k).length = k
  | 0 => rfl
  | k + 1 => congrArg (· + 1) (rowN_length N k)
theorem rowN_bytes (N : Nat) : ∀ k, Bytes (rowN N k)
  | 0 => fun _ h => nomatch h
  | k + 1 => fun n hn => by
    rcases List.mem_cons.mp hn with e | h
    · rw [e]
      omega
    · exact rowN_bytes N k n h
theorem rowN_bits (N : Nat) : ∀ k, bitsRow (rowN N k) = bitsOf N (8 * k)
  | 0 => rfl
  | k + 1 => by
    show bitsOf ((N / 2 ^ (8 * k) % 256 : Nat) : Int).toNat 8 ++ bitsRow (rowN N k) = _
    rw [rowN_bits N k, show 8 * (k + 1) = 8 + 8 * k by omega, bitsOf_add, Int.toNat_natCast, show (256 : Nat) = 2 ^ 8 from rfl, bitsOf_mod]
/-- the row with the bits of a pattern turned -/
def turned (ns : List Int) (c p : Nat) : List Int := rowN (numOf (bitsRow ns) ^^^ p * 2 ^ c) ns.length
theorem turned_bits (ns : List Int) (c p : Nat) : bitsRow (turned ns c p) = List.zipWith Bool.xor (bitsRow ns) (bitsOf (p * 2 ^ c) (8 * ns.length)) := by
  unfold turned
  rw [rowN_bits, bitsOf_xor]
  congr 1
  have e := bitsOf_numOf (bitsRow ns)
  rw [bitsRow_length] at e
  exact e
theorem turned_value {w l : Nat} (hk : Kind w l) {ns : List Int} (hb : Bytes ns) {s : Nat} (hs : s < 2 ^ w) (c p : Nat) : chR w l s (turned ns c p) = chR w l s ns ^^^ proc w l 0 (bitsOf (p * 2 ^ c) (8 * ns.length)) := by
  rw [chR_proc hk hs hb, chR_proc hk hs (show Bytes (turned ns c p) from rowN_bytes _ _), turned_bits, ← proc_xor hk _ _ (by rw [bitsRow_length, bitsOf_length]) hs (Nat.two_pow_pos w), Nat.xor_zero]
theorem turned_told {w l : Nat} (hk : Kind w l) {ns : List Int} (hb : Bytes ns) {s c p m : Nat} (hs : s < 2 ^ w) (hm : m ≤ w) (hp : p < 2 ^ m) (h0 : p ≠ 0) (hc : m + c ≤ 8 * ns.length) : chR w l s (turned ns c p) ≠ chR w l s ns := by
  rw [turned_value hk hb hs, bitsOf_change hp hc]
  intro z
  have e : chR w l s ns ^^^ (chR w l s ns ^^^ proc w l 0 (List.replicate (8 * ns.length - m - c) false ++ (bitsOf p m ++ List.replicate c false))) = chR w l s ns ^^^ chR w l s ns := by rw [z]
  rw [← Nat.xor_assoc, Nat.xor_self, Nat.zero_xor] at e
  exact proc_burst hk _ _ _ _ hm hp h0 e
/-! single bits of a short row -/
theorem single_value {ns : List Int} (hb : Bytes ns) {i : Nat} (hi : i < 8 * ns.length) : chR 16 45 65535 (turned ns i 1) = chR 16 45 65535 ns ^^^ chI 16 45 i (chT 16 45 32768) := by
  have hk : Kind 16 45 := .inr ⟨rfl, rfl⟩
  rw [turned_value hk hb (by decide), bitsOf_change (m := 1) (by decide) (by omega), proc_append, proc_noughts, chI_zero, proc_append, proc_noughts]
  rfl
theorem singles : (∀ i, i < 24 → ∀ j, j < 24 → chI 16 45 i (chT 16 45 32768) = chI 16 45 j (chT 16 45 32768) → i = j) ∧ ∀ i, i < 24 → chI 16 45 i (chT 16 45 32768) ≠ 0 := by decide +kernel
theorem nodup_range {f : Nat → Int} : ∀ n, (∀ i, i < n → ∀ j, j < n → f i = f j → i = j) → ((List.range n).map f).Nodup
  | 0, _ => by simp
  | n + 1, h => by
    rw [List.range_succ, List.map_append, List.nodup_append]
    refine ⟨nodup_range n fun i hi j hj => h i (by omega) j (by omega), by simp, fun a ha b hb => ?_⟩
    obtain ⟨i, hi, rfl⟩ := List.mem_map.mp ha
    have hi := List.mem_range.mp hi
    simp at hb
    subst hb
    intro e
    have := h i (by omega) n (by omega) e
    omega
theorem xor_cancel {a b c : Nat} (h : a ^^^ b = a ^^^ c) : b = c := by
  have e : a ^^^ (a ^^^ b) = a ^^^ (a ^^^ c) := by rw [h]
  rw [← Nat.xor_assoc, ← Nat.xor_assoc, Nat.xor_self, Nat.zero_xor, Nat.zero_xor] at e
  exact e
theorem values_ok {ns : List Int} (hb : Bytes ns) (hl : ns.length ≤ 3) :
    ((List.range (8 * ns.length)).map fun i => ((chR 16 45 65535 (turned ns i 1) : Nat) : Int)).Nodup ∧ ((chR 16 45 65535 ns : Nat) : Int) ∉ (List.range (8 * ns.length)).map fun i => ((chR 16 45 65535 (turned ns i 1) : Nat) : Int) := by
  obtain ⟨s1, s2⟩ := singles
  refine ⟨nodup_range _ fun i hi j hj e => ?_, fun h => ?_⟩
  · have e := Int.ofNat.inj e
    rw [single_value hb hi, single_value hb hj] at e
    exact s1 i (by omega) j (by omega) (xor_cancel e)
  · obtain ⟨i, hi, e⟩ := List.mem_map.mp h
    have hi := List.mem_range.mp hi
    have e := Int.ofNat.inj e
    rw [single_value hb hi] at e
    refine s2 i (by omega) (xor_cancel (a := chR 16 45 65535 ns) ?_)
    rw [e, Nat.xor_zero]
end L2.BR

namespace L2.BR
open PySem PySem.Spec PyProof.Rows L2.BP
variable {K : PySem.W.Frag} {W : WX} {vs : List V} {H : Hp} {Q : VK} {E : XK}
def sp__law_mixed (K : PySem.W.Frag) : Sp := fun vs H Q _ => ∃ c k : Int, vs = [.int c, .int k] ∧ 0 ≤ k ∧ k ≤ 100000 ∧ ∀ m : Int, 0 ≤ m → Q (.int m) H
theorem len__law_mixed (h : sp__law_mixed K vs H Q E) : vs.length = 2 := by
  obtain ⟨c, k, rfl, _⟩ := h
  rfl
def t__law_mixed (K : PySem.W.Frag) (W : WX) : TS :=
  (tRet (tOp rModU (tOp rMulU (tOp rModU (tOp rAddU (tOp rAddU (tOp rAddU (tOp rMulU (tVar 0) (tC (.int 48271))) (tOp rMulU (tOp rMulU (tC (.int 16807)) (tVar 1)) (tVar 1))) (tOp rMulU (tC (.int 69621)) (tVar 1))) (tC (.int 11))) (tC (.int 2147483647))) (tC (.int 69621))) (tC (.int 2147483629))))
theorem rd__law_mixed (h : sp__law_mixed K vs H Q E) : t__law_mixed K W { nx := fun _ H' => Q .non H', rt := Q } (start ["_law_cell", "_law_k"] vs) H := by
  obtain ⟨c, k, rfl, h0, h1, q⟩ := h
  have hs := Hs.start H
  unfold t__law_mixed
  walk_at "go"
  exact q _ (Int.emod_nonneg _ (by decide))
end L2.BR

namespace L2.BR
open PySem PySem.Spec PyProof.Rows L2.BP
variable {K : PySem.W.Frag} {W : WX} {vs : List V} {H : Hp} {Q : VK} {E : XK}
def sp__law_turned (K : PySem.W.Frag) : Sp := fun vs H Q _ => ∃ (a : Addr) (ns : List Int) (c p : Nat), vs = [.ref a, .int ((c : Nat) : Int), .int ((p : Nat) : Int)] ∧ SqL K H a (ns.map V.int) ∧ Bytes ns ∧ ns.length ≤ 1000 ∧ c ≤ 10000 ∧ p < 65536 ∧ RetL H Q ((turned ns c p).map V.int)
theorem len__law_turned (h : sp__law_turned K vs H Q E) : vs.length = 3 := by
  obtain ⟨a, ns, c, p, rfl, _⟩ := h
  rfl
def t__law_turned (K : PySem.W.Frag) (W : WX) : TS :=
  (tSeq (tAsg (tC (.int 0)) (gName 3))
    (tSeq (tFor (iList K (tVar 0)) (gName 4) (tAsg (tOp rAddU (tOp rMulU (tVar 3) (tC (.int 256))) (tVar 4)) (gName 3)))
    (tSeq (tAsg (tOp rXorU (tVar 3) (tOp rShlU (tVar 2) (tVar 1))) (gName 3))
    (tSeq (tAsg (tLst tNil) (gName 5))
    (tSeq (tFor (iRng1 (tCons (tCB (rLenK K) (tCons (tVar 0) tNil)) tNil)) (gName 6) (tAsg (tOp rAddU (tLst (tCons (tOp rModU (tOp rShrU (tVar 3) (tOp rMulU (tC (.int 8)) (tVar 6))) (tC (.int 256))) tNil)) (tVar 5)) (gName 5)))
    (tRet (tVar 5)))))))
theorem rd__law_turned (h : sp__law_turned K vs H Q E) : t__law_turned K W { nx := fun _ H' => Q .non H', rt := Q } (start ["_law_row", "_law_place", "_law_pattern", "_law_number", "_law_byte", "_law_found", "_law_k"] vs) H := by
  obtain ⟨a, ns, c, p, rfl, hS, hb, hl, hc, hp, q⟩ := h
  have hs := Hs.start H
  unfold t__law_turned
  walk_at "go"
  refine w_forL V.int ns (fun pre σ' L' B' => ∃ w4, σ' = [some (.ref a), some (.int ((c : Nat) : Int)), some (.int ((p : Nat) : Int)), some (.int ((numOf (bitsRow pre) : Nat) : Int)), w4, none, none] ∧ B' = H ∧ L' = []) hs ⟨none, rfl, rfl, rfl⟩ ?_ ?_ ?_
  · rintro pre post σ' L' B' H' _ ⟨w4, _, rfl, rfl⟩ h
    exact h.bl hS
  · rintro pre n post σ' L' B' H' e ⟨w4, rfl, rfl, rfl⟩ h
    have hn := hb n (by rw [e]; simp)
    obtain ⟨m, rfl⟩ := Int.eq_ofNat_of_zero_le hn.1
    walk_at "go"
    have e2 : ((numOf (bitsRow (pre ++ [((m : Nat) : Int)])) : Nat) : Int) = ((numOf (bitsRow pre) : Nat) : Int) * 256 + ((m : Nat) : Int) := by
      rw [bitsRow_snoc, numOf_append, bitsOf_length, Int.toNat_natCast, numOf_small (show m < 2 ^ 8 by show m < 256; omega)]
      push_cast
      rfl
    exact ⟨_, _, ⟨_, (by rw [e2]; rfl), rfl, rfl⟩, h⟩
  · rintro σ' L' B' H' ⟨w4, rfl, rfl, rfl⟩ h
    have hS' := h.bl hS
    walk_at "go"
    rename_i f H1 h1
    rw [Int.toNat_natCast, show ((p : Nat) : Int) * 2 ^ c = ((p * 2 ^ c : Nat) : Int) by push_cast; rfl, xor_nat, List.length_map]
    refine ⟨_, rfl, by omega, by omega, ?_⟩
    rw [Int.toNat_natCast]
    generalize hN : numOf (bitsRow ns) ^^^ p * 2 ^ c = N
    refine w_forR (fun i σ' L' B2 => ∃ (f : Addr) (w6 : Option V), σ' = [some (.ref a), some (.int ((c : Nat) : Int)), some (.int ((p : Nat) : Int)), some (.int ((N : Nat) : Int)), w4, some (.ref f), w6] ∧ B2 = B' ∧ L' = [(f, .lst ((rowN N i).map V.int))]) h1 ⟨f, none, rfl, rfl, rfl⟩ ?_ ?_
    · rintro i σ' L' B2 H2 hi ⟨f, w6, rfl, rfl, rfl⟩ h2
      clear h1 h
      walk_at "go"
      rename_i u H3 h3
      rw [show (8 * (0 + ((i : Nat) : Int))).toNat = 8 * i by omega, show ((N : Nat) : Int) / 2 ^ (8 * i) % 256 = ((N / 2 ^ (8 * i) % 256 : Nat) : Int) by push_cast; rfl] at h3
      refine c_addL h3 (h3.get (.head _)) (h3.get (.tail _ (.head _))) (small6' (by simp [rowN_length]; omega)) fun r H4 h4 => ?_
      exact ⟨_, _, ⟨r, _, rfl, rfl, rfl⟩, h4.drop1.drop1⟩
    · rintro σ' L' B2 H2 ⟨f, w6, rfl, rfl, rfl⟩ h2
      walk_at "go"
      refine h2.rl (.head _) ?_
      rw [← hN]
      exact q
def sp__law_change (K : PySem.W.Frag) : Sp := fun vs H Q _ => ∃ (a : Addr) (ns : List Int) (M wd : Nat), vs = [.ref a, .int ((M : Nat) : Int), .int ((wd : Nat) : Int)] ∧ SqL K H a (ns.map V.int) ∧ Bytes ns ∧ 1 ≤ ns.length ∧ ns.length ≤ 100 ∧ 1 ≤ wd ∧ wd ≤ 16 ∧
  ∀ (m c p : Nat), m ≤ wd → p < 2 ^ m → p ≠ 0 → m + c ≤ 8 * ns.length → RetL H Q ((turned ns c p).map V.int)
theorem len__law_change (h : sp__law_change K vs H Q E) : vs.length = 3 := by
  obtain ⟨a, ns, M, wd, rfl, _⟩ := h
  rfl
def t__law_change (K : PySem.W.Frag) (W : WX) : TS :=
  (tSeq (tAsg (tOp rMulU (tC (.int 8)) (tCB (rLenK K) (tCons (tVar 0) tNil))) (gName 3))
    (tSeq (tAsg (tCB (rMin2K) (tCons (tVar 3) (tCons (tOp rAddU (tC (.int 1)) (tOp rModU (tOp rDivU (tVar 1) (tC (.int 11))) (tVar 2))) tNil))) (gName 4))
    (tSeq (tAsg (tOp rAddU (tC (.int 1)) (tOp rModU (tOp rDivU (tVar 1) (tC (.int 200))) (tOp rSubU (tOp rShlU (tC (.int 1)) (tVar 4)) (tC (.int 1))))) (gName 5))
    (Evl.tCut (tIfS (tTest (tOp (rEqU K) (tOp rModU (tVar 1) (tC (.int 4))) (tC (.int 1)))) (tAsg (tC (.int 1)) (gName 5)) tNext)
    (tSeq (tAsg (tOp rModU (tOp rDivU (tVar 1) (tC (.int 7))) (tOp rAddU (tOp rSubU (tVar 3) (tVar 4)) (tC (.int 1)))) (gName 6))
    (tRet (tCl (sp__law_turned K) [] W (tCons (tVar 0) (tCons (tVar 6) (tCons (tVar 5) tNil))))))))))
theorem rd__law_change (h : sp__law_change K vs H Q E) : t__law_change K W { nx := fun _ H' => Q .non H', rt := Q } (start ["_law_row", "_law_cell", "_law_wide", "_law_size", "_law_width", "_law_pattern", "_law_place"] vs) H := by
  obtain ⟨a, ns, M, wd, rfl, hS, hb, h1, hl, hw1, hw2, q⟩ := h
  have hs := Hs.start H
  unfold t__law_change
  walk_at "go"
  rw [List.length_map]
  obtain ⟨m, em, hm1, hm2, hm3⟩ : ∃ m : Nat, (if (1 : Int) + ((M : Nat) : Int) / 11 % ((wd : Nat) : Int) < 8 * ((ns.length : Nat) : Int) then (1 : Int) + ((M : Nat) : Int) / 11 % ((wd : Nat) : Int) else 8 * ((ns.length : Nat) : Int)) = ((m : Nat) : Int) ∧ 1 ≤ m ∧ m ≤ wd ∧ m ≤ 8 * ns.length := by
    have e : ((M : Nat) : Int) / 11 % ((wd : Nat) : Int) = ((M / 11 % wd : Nat) : Int) := by push_cast; rfl
    have e2 : M / 11 % wd < wd := Nat.mod_lt _ (by omega)
    rw [e]
    split
    · exact ⟨1 + M / 11 % wd, by push_cast; rfl, by omega, by omega, by omega⟩
    · exact ⟨8 * ns.length, by push_cast; rfl, by omega, by omega, by omega⟩
  rw [em]
  have h2m : 2 ≤ 2 ^ m := by
    have := Nat.pow_le_pow_right (show 0 < 2 by decide) hm1
    omega
  have h2m' : 2 ^ m ≤ 2 ^ 16 := Nat.pow_le_pow_right (by decide) (by omega)
  walk_at "go"
  rw [Int.toNat_natCast, show (1 : Int) * 2 ^ m = ((2 ^ m : Nat) : Int) by push_cast; omega]
  walk_at "go"
  have e3 : ((M : Nat) : Int) / 200 % (((2 ^ m : Nat) : Int) - 1) = ((M / 200 % (2 ^ m - 1) : Nat) : Int) := by
    rw [show ((2 ^ m : Nat) : Int) - 1 = ((2 ^ m - 1 : Nat) : Int) by omega]
    push_cast
    rfl
  have e4 : M / 200 % (2 ^ m - 1) < 2 ^ m - 1 := Nat.mod_lt _ (by omega)
  rw [e3]
  refine w_cut (fun σ2 H2 => Hs H [] H2 ∧ ∃ p : Nat, p < 2 ^ m ∧ p ≠ 0 ∧ σ2 = [some (.ref a), some (.int ((M : Nat) : Int)), some (.int ((wd : Nat) : Int)), some (.int (8 * ((ns.length : Nat) : Int))), some (.int ((m : Nat) : Int)), some (.int ((p : Nat) : Int)), none]) ?_ ?_
  · walk_at "go"
    by_cases c : M % 4 = 1
    · refine i_t (decide_eq_true (by omega)) ?_
      walk_at "go"
      exact ⟨hs, 1, by omega, by decide, rfl⟩
    · refine i_f (decide_eq_false (by omega)) ?_
      walk_at "go"
      refine ⟨hs, 1 + M / 200 % (2 ^ m - 1), by omega, by omega, ?_⟩
      rw [show ((1 + M / 200 % (2 ^ m - 1) : Nat) : Int) = 1 + ((M / 200 % (2 ^ m - 1) : Nat) : Int) by push_cast; rfl]
      rfl
  rintro σ2 H2 ⟨h2, p, hp, hp0, rfl⟩
  clear hs
  walk_at "go"
  have e5 : ((M : Nat) : Int) / 7 % (8 * ((ns.length : Nat) : Int) - ((m : Nat) : Int) + 1) = ((M / 7 % (8 * ns.length - m + 1) : Nat) : Int) := by
    rw [show (8 * ((ns.length : Nat) : Int) - ((m : Nat) : Int) + 1) = ((8 * ns.length - m + 1 : Nat) : Int) by omega]
    push_cast
    rfl
  have e6 : M / 7 % (8 * ns.length - m + 1) < 8 * ns.length - m + 1 := Nat.mod_lt _ (by omega)
  rw [e5]
  refine ⟨a, ns, _, p, rfl, h2.bl hS, hb, by omega, by omega, by omega, retL h2 fun r H3 h3 => ?_⟩
  exact h3.rl (.head _) (q m _ p hm2 hp hp0 (by omega))
def sp_law (K : PySem.W.Frag) : Sp := fun vs H Q _ => ∃ (a : Addr) (ns : List Int), vs = [.ref a] ∧ SqL K H a (ns.map V.int) ∧ ns.length ≤ 63 ∧ ∀ H', Q (.bl true) H'
theorem len_law (h : sp_law K vs H Q E) : vs.length = 1 := by
  obtain ⟨a, ns, rfl, _⟩ := h
  rfl
theorem kind8 : Kind 8 29 := .inl ⟨rfl, rfl⟩
theorem kind16 : Kind 16 45 := .inr ⟨rfl, rfl⟩
def t_law (K : PySem.W.Frag) (W : WX) : TS :=
  (tSeq (tAsg (tCl (sp__law_mixed K) [] W (tCons (tCl (sp__law_cell_at K) [] W (tCons (tVar 0) (tCons (tC (.int 0)) tNil))) (tCons (tC (.int 0)) tNil))) (gName 1))
    (tSeq (tAsg (tLc (iRng1 (tCons (tOp rAddU (tC (.int 1)) (tOp rModU (tVar 1) (tC (.int 40)))) tNil)) (gName 2) tYes (tOp rModU (tOp rDivU (tCl (sp__law_mixed K) [] WF (tCons (tCl (sp__law_cell_at K) [] WF (tCons (tVar 0) (tCons (tC (.int 1)) tNil))) (tCons (tVar 2) tNil))) (tC (.int 7))) (tC (.int 256))) [2]) (gName 3))
    (Evl.tCut (tIfS (tTest (tOp (rEqU K) (tOp rModU (tOp rDivU (tVar 1) (tC (.int 40))) (tC (.int 5))) (tC (.int 1)))) (tAsg (tOp rMulU (tLst (tCons (tOp (rIx K) (tLst (tCons (tC (.int 0)) (tCons (tC (.int 255)) tNil))) (tOp rModU (tOp rDivU (tVar 1) (tC (.int 200))) (tC (.int 2)))) tNil)) (tCB (rLenK K) (tCons (tVar 3) tNil))) (gName 3)) tNext)
    (tSeq (tAsg (tDisp [((tC (.int 8)), (tCl (sp_check_of K) [] W (tCons (tVar 3) (tCons (tC (.int 8)) tNil)))), ((tC (.int 16)), (tCl (sp_check_of K) [] W (tCons (tVar 3) (tCons (tC (.int 16)) tNil))))]) (gName 4))
    (tSeq (tFor (iRng2 (tCons (tC (.int 2)) (tCons (tCB (rMin2K) (tCons (tC (.int 10)) (tCons (tCB (rLenK K) (tCons (tVar 0) tNil)) tNil))) tNil))) (gName 2) (tSeq (tAsg (tCl (sp__law_mixed K) [] W (tCons (tOp (rIx K) (tVar 0) (tVar 2)) (tCons (tVar 2) tNil))) (gName 5))
    (tSeq (tAsg (tOp (rIx K) (tLst (tCons (tC (.int 8)) (tCons (tC (.int 16)) tNil))) (tOp rModU (tVar 5) (tC (.int 2)))) (gName 6))
    (tSeq (tAsg (tCl (sp__law_change K) [] W (tCons (tVar 3) (tCons (tOp rDivU (tVar 5) (tC (.int 2))) (tCons (tVar 6) tNil)))) (gName 7))
    (tIfS ((tOr (tTest (tOp (rEqU K) (tVar 7) (tVar 3))) (tTest (tOp (rEqU K) (tCl (sp_check_of K) [] W (tCons (tVar 7) (tCons (tVar 6) tNil))) (tDGet (tVar 4) (tVar 6)))))) (tRet (tC (.bl false))) tNext)))))
    (tSeq (tIfS ((tOr (tTest (tOp (rNeU K) (tCl (sp_check_of K) [] W (tCons (tVar 3) (tCons (tC (.int 8)) tNil))) (tDGet (tVar 4) (tC (.int 8))))) (tTest (tOp (rNeU K) (tCl (sp_check_of K) [.int 16] W (tCons (tVar 3) tNil)) (tDGet (tVar 4) (tC (.int 16))))))) (tRet (tC (.bl false))) tNext)
    (tSeq (tAsg (tSl (rSlK K) (tVar 3) tNoPart (tPart (tOp rAddU (tC (.int 1)) (tOp rModU (tOp rDivU (tVar 1) (tC (.int 1000))) (tC (.int 3)))))) (gName 8))
    (tSeq (tAsg (tLc (iRng1 (tCons (tOp rMulU (tC (.int 8)) (tCB (rLenK K) (tCons (tVar 8) tNil))) tNil)) (gName 10) tYes (tCl (sp_check_of K) [.int 16] WF (tCons (tCl (sp__law_turned K) [] WF (tCons (tVar 8) (tCons (tVar 10) (tCons (tC (.int 1)) tNil)))) tNil)) [10]) (gName 9))
    (tRet ((tAndV (tOp (rNiU K) (tCl (sp_check_of K) [.int 16] W (tCons (tVar 8) tNil)) (tVar 9)) (tOp (rEqU K) (RZ.tLenSetI K (tVar 9)) (tCB (rLenK K) (tCons (tVar 9) tNil))))))))))))))
theorem rd_law (kCheck : KCheck K) (h : sp_law K vs H Q E) : t_law K (fun c d _ H2 => E c d H2) { nx := fun _ H' => Q .non H', rt := Q } (start ["_law_script", "_law_cell", "_law_k", "_law_row", "_law_due", "_law_more", "_law_wide", "_law_other", "_law_short", "_law_values", "_law_place"] vs) H := by
  obtain ⟨a, ns, rfl, hS, hl, q⟩ := h
  have hs := Hs.start H
  unfold t_law
  walk_at "go"
  refine ⟨a, ns, 0, rfl, hS, by decide, ?_⟩
  walk_at "go"
  refine ⟨_, 0, rfl, by decide, by decide, fun x hx => ?_⟩
  obtain ⟨M, rfl⟩ := Int.eq_ofNat_of_zero_le hx
  walk_at "go"
  refine ⟨_, rfl, by omega, by omega, ?_⟩
  rw [show ((1 : Int) + ((M : Nat) : Int) % 40).toNat = 1 + M % 40 by omega]
  refine c_lcR (fun i acc B' => (∃ ts : List Int, Bytes ts ∧ ts.length = i ∧ acc = ts.map V.int) ∧ B' = H) hs ⟨⟨[], fun _ h => (nomatch h), rfl, rfl⟩, rfl⟩ ?_ ?_
  · rintro i acc B' D H2 hi ⟨⟨ts, hb, htl, rfl⟩, rfl⟩ _ h
    have hS' := h.bl hS
    walk_at "go"
    refine ⟨rfl, ?_⟩
    walk_at "go"
    refine ⟨a, ns, 1, rfl, hS', by decide, ?_⟩
    walk_at "go"
    refine ⟨_, _, rfl, by omega, by omega, fun y hy => ?_⟩
    walk_at "go"
    refine c_item h (small5 (by rw [List.length_map]; omega)) (Same.refl _) ⟨⟨ts ++ [y / 7 % 256], ?_, by rw [List.length_append, List.length_singleton, htl], by rw [List.map_append]; rfl⟩, rfl⟩
    intro n hn
    rcases List.mem_append.mp hn with z | z
    · exact hb n z
    · rw [List.mem_singleton.mp z]
      omega
  rintro acc B' D H2 ⟨⟨ts, hb, htl, rfl⟩, rfl⟩ _ h
  have hS2 := h.bl hS
  have hD := h.sql (K := K) (.head _)
  have h2 := Hs.start H2
  clear h hs
  walk_at "go"
  refine w_cut (fun σ2 H3 => ∃ (r : Addr) (row : List Int), Same H2 H3 ∧ SqL K H3 r (row.map V.int) ∧ Bytes row ∧ 1 ≤ row.length ∧ row.length ≤ 40 ∧ σ2 = [some (.ref a), some (.int ((M : Nat) : Int)), none, some (.ref r), none, none, none, none, none, none, none]) ?_ ?_
  · walk_at "go"
    by_cases c : M / 40 % 5 = 1
    · refine i_t (decide_eq_true (by omega)) ?_
      obtain ⟨v, hv, hi⟩ : ∃ v : Int, (0 ≤ v ∧ v ≤ 255) ∧ atI [V.int 0, V.int 255] (((M : Nat) : Int) / 200 % 2) = some (.int v) := by
        have hj : ((M : Nat) : Int) / 200 % 2 = 0 ∨ ((M : Nat) : Int) / 200 % 2 = 1 := by omega
        rcases hj with e | e
        · exact ⟨0, by omega, by rw [e]; rfl⟩
        · exact ⟨255, by omega, by rw [e]; rfl⟩
      walk_at "go"
      rename_i u1 H4 h4 u2 H5 h5
      rw [List.length_map]
      refine c_rep h5.drop.drop (h5.get (.head _)) (by omega) (by omega) (small6' (by simp; omega)) fun r H6 h6 => ?_
      have e1 : (List.replicate ((ts.length : Nat) : Int).toNat [V.int v]).flatten = (List.replicate ts.length v).map V.int := by
        rw [Int.toNat_natCast, List.map_replicate, List.flatten_replicate_singleton]
      rw [e1] at h6
      walk_at "go"
      exact ⟨r, List.replicate ts.length v, h6.ex, h6.sql (.head _), fun n hn => by rw [(List.mem_replicate.mp hn).2]; exact hv, by rw [List.length_replicate]; omega, by rw [List.length_replicate]; omega, rfl⟩
    · refine i_f (decide_eq_false (by omega)) ?_
      walk_at "go"
      exact ⟨D, ts, h2.ex, hD, hb, by omega, by omega, rfl⟩
  rintro σ2 H3 ⟨r, row, e3, hr, hb, hl1, hl2, rfl⟩
  have hS3 := e3.seq hS2
  have h3 := Hs.start H3
  clear h2 hS2 hD e3
  walk_at "go"
  rename_i d H4 h4
  refine ⟨r, 8, 29, row, rfl, kind8, h4.bl hr, hb, by omega, retV h4 fun H5 h5 => ?_⟩
  clear h3 h4
  walk_at "go"
  refine ⟨r, 16, 45, row, rfl, kind16, h5.bl hr, hb, by omega, retV h5 fun H6 h6 => ?_⟩
  clear h5
  walk_at "go"
  refine c_dispO [(.inl 8, .int ((chR 8 29 (2 ^ 8 - 1) row : Nat) : Int)), (.inl 16, .int ((chR 16 45 (2 ^ 16 - 1) row : Nat) : Int))] h6 rfl (show 2 ≤ 15 by decide) fun H7 h7 => ?_
  have hd7 := h7.get (.head _)
  have hS7 := h7.bl hS3
  have hr7 := h7.bl hr
  have h8 := Hs.start H7
  have g8 : valV (mergeK [] [(.inl 8, .int ((chR 8 29 (2 ^ 8 - 1) row : Nat) : Int)), (.inl 16, .int ((chR 16 45 (2 ^ 16 - 1) row : Nat) : Int))]) (.inl (8 : Int)) = some (.int ((chR 8 29 (2 ^ 8 - 1) row : Nat) : Int)) := rfl
  have g16 : valV (mergeK [] [(.inl 8, .int ((chR 8 29 (2 ^ 8 - 1) row : Nat) : Int)), (.inl 16, .int ((chR 16 45 (2 ^ 16 - 1) row : Nat) : Int))]) (.inl (16 : Int)) = some (.int ((chR 16 45 (2 ^ 16 - 1) row : Nat) : Int)) := rfl
  generalize mergeK [] [(.inl 8, V.int ((chR 8 29 (2 ^ 8 - 1) row : Nat) : Int)), (.inl 16, V.int ((chR 16 45 (2 ^ 16 - 1) row : Nat) : Int))] = kvs at *
  clear h6 h7 hS3 hr
  walk_at "go"
  rw [List.length_map]
  refine ⟨2, _, rfl, ⟨by decide, by decide, by split <;> omega, by split <;> omega⟩, ?_⟩
  refine w_forR (fun i σ' L' B' => ∃ w2 w5 w6 w7, σ' = [some (.ref a), some (.int ((M : Nat) : Int)), w2, some (.ref r), some (.ref d), w5, w6, w7, none, none, none] ∧ B' = H7 ∧ L' = []) h8 ⟨_, _, _, _, rfl, rfl, rfl⟩ ?_ ?_
  · rintro i σ' L' B' H8 hi ⟨w2, w5, w6, w7, rfl, rfl, rfl⟩ h
    have hin : 2 + i < ns.length := by
      have : (if ((ns.length : Nat) : Int) < 10 then ((ns.length : Nat) : Int) else 10) ≤ ((ns.length : Nat) : Int) := by split <;> omega
      omega
    have hS' := h.bl hS7
    have hr' := h.bl hr7
    have i1 : atI (ns.map V.int) ((2 : Int) + ((i : Nat) : Int)) = some (.int (ns.getD (2 + i) 0)) := at_i (by omega) hin
    clear h8
    walk_at "go"
    refine ⟨_, _, rfl, by omega, by omega, fun y hy => ?_⟩
    obtain ⟨N, rfl⟩ := Int.eq_ofNat_of_zero_le hy
    obtain ⟨wd, lw, hk, hi2, hget⟩ : ∃ wd lw : Nat, Kind wd lw ∧ atI [V.int 8, V.int 16] (((N : Nat) : Int) % 2) = some (.int ((wd : Nat) : Int)) ∧ valV kvs (.inl ((wd : Nat) : Int)) = some (.int ((chR wd lw (2 ^ wd - 1) row : Nat) : Int)) := by
      have hj : ((N : Nat) : Int) % 2 = 0 ∨ ((N : Nat) : Int) % 2 = 1 := by omega
      rcases hj with e | e
      · exact ⟨8, 29, kind8, by rw [e]; rfl, g8⟩
      · exact ⟨16, 45, kind16, by rw [e]; rfl, g16⟩
    have hkl := hk.lt
    walk_at "go"
    rename_i u1 H9 h9
    have h10 := h9.drop
    clear h9 h
    rw [show ((N : Nat) : Int) / 2 = ((N / 2 : Nat) : Int) by omega]
    refine ⟨r, row, N / 2, wd, rfl, h10.bl hr7, hb, hl1, by omega, by omega, by omega, fun m c p hm hp hp0 hc => retL h10 fun o H10 h11 => ?_⟩
    clear h10
    have hr10 := h11.bl hr7
    have hne := turned_told hk hb (s := 2 ^ wd - 1) (Nat.sub_lt (Nat.two_pow_pos wd) (by decide)) hm hp hp0 hc
    have hne2 : turned row c p ≠ row := fun z => hne (by rw [z])
    have htb : Bytes (turned row c p) := rowN_bytes _ _
    have htl2 : (turned row c p).length = row.length := rowN_length _ _
    generalize turned row c p = tr at *
    walk_at "go"
    refine ⟨o, wd, lw, tr, rfl, hk, h11.sql (.head _), htb, by omega, retV h11 fun H11 h12 => ?_⟩
    clear h11
    walk_at "go"
    refine c_dgO (key := .inl ((wd : Nat) : Int)) (h12.ex _ _ hd7) hget ?_
    walk_at "go"
    exact ⟨_, _, ⟨_, _, _, _, rfl, rfl, rfl⟩, h12.drop⟩
  rintro σ' L' B' H8 ⟨w2, w5, w6, w7, rfl, rfl, rfl⟩ h
  clear h8
  walk_at "go"
  refine ⟨r, 8, 29, row, rfl, kind8, h.bl hr7, hb, by omega, retV h fun H9 h9 => ?_⟩
  clear h
  walk_at "go"
  refine c_dgO (key := .inl 8) (h9.ex _ _ hd7) g8 ?_
  walk_at "go"
  refine ⟨r, 16, 45, row, rfl, kind16, h9.bl hr7, hb, by omega, retV h9 fun H10 h10 => ?_⟩
  clear h9
  walk_at "go"
  refine c_dgO (key := .inl 16) (h10.ex _ _ hd7) g16 ?_
  have hr10 := h10.bl hr7
  have h11 := Hs.start H10
  clear h10
  walk_at "go"
  rename_i s H11 h12
  rw [show (1 : Int) + ((M : Nat) : Int) / 1000 % 3 = ((1 + M / 1000 % 3 : Nat) : Int) by omega, cut_take] at h12 ⊢
  have hsb : Bytes (row.take (1 + M / 1000 % 3)) := fun n hn => hb n (List.mem_of_mem_take hn)
  have hsl : (row.take (1 + M / 1000 % 3)).length ≤ 3 := by rw [List.length_take]; omega
  generalize row.take (1 + M / 1000 % 3) = sh at *
  have hs12 := h12.sql (K := K) (.head _)
  have h13 := Hs.start H11
  clear h11 h12
  obtain ⟨v1, v2⟩ := values_ok hsb hsl
  walk_at "go"
  rw [List.length_map]
  refine ⟨_, rfl, by omega, by omega, ?_⟩
  rw [show (8 * ((sh.length : Nat) : Int)).toNat = 8 * sh.length by omega]
  refine c_lcR (fun i acc B' => acc = ((List.range i).map fun j => ((chR 16 45 65535 (turned sh j 1) : Nat) : Int)).map V.int ∧ B' = H11) h13 ⟨rfl, rfl⟩ ?_ ?_
  · rintro i acc B' D2 H2 hi ⟨rfl, rfl⟩ _ h
    walk_at "go"
    refine ⟨rfl, ?_⟩
    walk_at "go"
    rw [Int.zero_add]
    refine ⟨s, sh, i, 1, rfl, h.bl hs12, hsb, by omega, by omega, by decide, retL h fun o H4 h4 => ?_⟩
    walk_at "go"
    refine ⟨o, 16, 45, turned sh i 1, rfl, kind16, h4.sql (.head _), rowN_bytes _ _, by rw [show (turned sh i 1).length = sh.length from rowN_length _ _]; omega, retV h4 fun H5 h5 => ?_⟩
    refine c_item h5.drop (small5 (by simp; omega)) (Same.refl _) ⟨?_, rfl⟩
    rw [List.range_succ (n := i), List.map_append, List.map_append]
    rfl
  rintro acc B' D2 H12 ⟨rfl, rfl⟩ _ h14
  have hs14 := h14.bl hs12
  clear h13
  walk_at "go"
  refine ⟨s, 16, 45, sh, rfl, kind16, hs14, hsb, by omega, retV h14 fun H13 h15 => ?_⟩
  clear h14
  walk_at "go"
  refine c_niL _ (h15.sql (.head _)) ?_
  rw [decide_eq_false v2]
  walk_at "go"
  refine c_lsO (h15.sql (.head _)) v1 (by simp; omega) ?_
  walk_at "go"
  rw [decide_eq_true (by simp)]
  exact q _
end L2.BR

end
namespace L2.BH
open PySem PySem.Spec PyProof.Rows L2
def top (i : Nat) : Stmt := PySem.Challenge.pw_balepress_k05_whole_changes_told.main.body.getD i (.Pass ⟨0, 0, 0, 0⟩)
abbrev s_is_byte : Stmt := top 6
abbrev s_is_row : Stmt := top 7
abbrev s_need_row : Stmt := top 8
abbrev s_is_wide : Stmt := top 15
abbrev s_Check___init__ : Stmt := inClass (top 16) 0
abbrev s_Check_add : Stmt := inClass (top 16) 1
abbrev s_Check_value : Stmt := inClass (top 16) 2
abbrev s_check_of : Stmt := top 17
abbrev s__law_cell_at : Stmt := top 19
abbrev s__law_mixed : Stmt := top 20
abbrev s__law_turned : Stmt := top 21
abbrev s__law_change : Stmt := top 22
abbrev s_law : Stmt := top 23
def d_is_byte : He.DefD := ⟨("is_byte", none), "is_byte", "is_byte", defArgs s_is_byte, defBody s_is_byte, defScope s_is_byte, [], []⟩
def d_is_row : He.DefD := ⟨("is_row", none), "is_row", "is_row", defArgs s_is_row, defBody s_is_row, defScope s_is_row, [], []⟩
def d_need_row : He.DefD := ⟨("need_row", none), "need_row", "need_row", defArgs s_need_row, defBody s_need_row, defScope s_need_row, [], []⟩
def d_is_wide : He.DefD := ⟨("is_wide", none), "is_wide", "is_wide", defArgs s_is_wide, defBody s_is_wide, defScope s_is_wide, [], []⟩
def d_Check___init__ : He.DefD := ⟨("Check", some "__init__"), "__init__", "Check.__init__", defArgs s_Check___init__, defBody s_Check___init__, defScope s_Check___init__, [.int 16], []⟩
def d_Check_add : He.DefD := ⟨("Check", some "add"), "add", "Check.add", defArgs s_Check_add, defBody s_Check_add, defScope s_Check_add, [], []⟩
def d_Check_value : He.DefD := ⟨("Check", some "value"), "value", "Check.value", defArgs s_Check_value, defBody s_Check_value, defScope s_Check_value, [], []⟩
def d_check_of : He.DefD := ⟨("check_of", none), "check_of", "check_of", defArgs s_check_of, defBody s_check_of, defScope s_check_of, [.int 16], []⟩
def d__law_cell_at : He.DefD := ⟨("_law_cell_at", none), "_law_cell_at", "_law_cell_at", defArgs s__law_cell_at, defBody s__law_cell_at, defScope s__law_cell_at, [], []⟩
def d__law_mixed : He.DefD := ⟨("_law_mixed", none), "_law_mixed", "_law_mixed", defArgs s__law_mixed, defBody s__law_mixed, defScope s__law_mixed, [], []⟩
def d__law_turned : He.DefD := ⟨("_law_turned", none), "_law_turned", "_law_turned", defArgs s__law_turned, defBody s__law_turned, defScope s__law_turned, [], []⟩
def d__law_change : He.DefD := ⟨("_law_change", none), "_law_change", "_law_change", defArgs s__law_change, defBody s__law_change, defScope s__law_change, [], []⟩
def d_law : He.DefD := ⟨("law", none), "law", "law", defArgs s_law, defBody s_law, defScope s_law, [], []⟩
def fn : List He.DefD := [d_is_byte, d_is_row, d_need_row, d_is_wide, d_Check___init__, d_Check_add, d_Check_value, d_check_of, d__law_cell_at, d__law_mixed, d__law_turned, d__law_change, d_law]
def fa : List He.Fa := [.glo "PressError", .exc "PressError", .glo "BadRow", .exc "BadRow", .glo "BadBits", .exc "BadBits", .int "MOST_BYTE" 255, .glo "is_byte", .glo "is_row", .glo "need_row", .int "BYTE" 8, .int "WIDE" 16, .int "NARROW" 8, .int "WIDE_LOWER" 45, .int "NARROW_LOWER" 29, .glo "is_wide", .glo "Check", .cls "Check", .noat "Check" "wide", .noat "Check" "lower", .noat "Check" "rest", .meth "Check" "__init__", .meth "Check" "add", .meth "Check" "value", .mkr "Check", .glo "check_of", .glo "_law_cell_at", .glo "_law_mixed", .glo "_law_turned", .glo "_law_change", .glo "law", .free "all", .free "bool", .free "divmod", .free "int", .free "isinstance", .free "len", .free "list", .free "min", .free "range", .free "set", .free "ValueError"]
abbrev R : PySem.W.OpenRow := PySem.W.OpenLaw.row PySem.Challenge.rw_balepress_k05_whole_changes_told
abbrev hk : PySem.W.Hook := He.hookD 6 fa fn
def ob (s : PySem.W.SharedT) : He.AlD := He.obsDG 6 fa fn (HandSHeadRun.getT s)
theorem ob_eq (s : PySem.W.SharedT) : ob s = hk.obs s.abs := He.obsDG_eq (HandSHeadRun.getT_eq s)
def loose0 : List PySem.Str := ["PressError", "ValueError", "BadRow", "BadBits", "MOST_BYTE", "is_byte", "is_row", "need_row", "BYTE", "WIDE", "NARROW", "WIDE_LOWER", "NARROW_LOWER", "is_wide", "Check", "check_of", "_law_cell_at", "_law_mixed", "_law_turned", "_law_change"]
abbrev loose : List PySem.Str := loose0
theorem run (w : World) : HandSHeadRun.RunEq R (PySem.W.view R.prog [23]) hk ob 40000 loose w := by
  intro os
  kernel_rfl
end L2.BH
namespace L2.BW
open PySem PySem.Spec PyProof.Rows L2.BP L2.BR L2.BH
structure Tx (K : PySem.W.Frag) (mg : Str → Option Value) : Prop where
  g_PressError : mg "PressError" = some (.ref (He.ga K "PressError"))
  x_PressError : PySem.W.excIn K (He.ga K "PressError") He.veBase "ValueError.__new__" = true ∧ PySem.W.keepIn K (.ref (He.ga K "PressError")) = true ∧ PySem.W.subIn K (.ref (He.ga K "PressError")) (.type "BaseException") = some true ∧ PySem.W.typeIn K (.ref (He.ga K "PressError")) = some (.type "type")
  g_BadRow : mg "BadRow" = some (.ref (He.ga K "BadRow"))
  x_BadRow : PySem.W.excIn K (He.ga K "BadRow") He.veBase "ValueError.__new__" = true ∧ PySem.W.keepIn K (.ref (He.ga K "BadRow")) = true ∧ PySem.W.subIn K (.ref (He.ga K "BadRow")) (.type "BaseException") = some true ∧ PySem.W.typeIn K (.ref (He.ga K "BadRow")) = some (.type "type")
  g_BadBits : mg "BadBits" = some (.ref (He.ga K "BadBits"))
  x_BadBits : PySem.W.excIn K (He.ga K "BadBits") He.veBase "ValueError.__new__" = true ∧ PySem.W.keepIn K (.ref (He.ga K "BadBits")) = true ∧ PySem.W.subIn K (.ref (He.ga K "BadBits")) (.type "BaseException") = some true ∧ PySem.W.typeIn K (.ref (He.ga K "BadBits")) = some (.type "type")
  g_MOST_BYTE : ∃ t, mg "MOST_BYTE" = some (.int 255 t)
  g_is_byte : mg "is_byte" = some (.ref (He.ga K "is_byte"))
  g_is_row : mg "is_row" = some (.ref (He.ga K "is_row"))
  g_need_row : mg "need_row" = some (.ref (He.ga K "need_row"))
  g_BYTE : ∃ t, mg "BYTE" = some (.int 8 t)
  g_WIDE : ∃ t, mg "WIDE" = some (.int 16 t)
  g_NARROW : ∃ t, mg "NARROW" = some (.int 8 t)
  g_WIDE_LOWER : ∃ t, mg "WIDE_LOWER" = some (.int 45 t)
  g_NARROW_LOWER : ∃ t, mg "NARROW_LOWER" = some (.int 29 t)
  g_is_wide : mg "is_wide" = some (.ref (He.ga K "is_wide"))
  g_Check : mg "Check" = some (.ref (He.ga K "Check"))
  c_Check : Cls K (He.ga K "Check")
  n_Check_wide : NoAttr K (He.ga K "Check") "wide"
  n_Check_lower : NoAttr K (He.ga K "Check") "lower"
  n_Check_rest : NoAttr K (He.ga K "Check") "rest"
  m_Check___init__ : Meth K (He.ga K "Check") "__init__" (He.ma K (He.ga K "Check") "__init__")
  m_Check_add : Meth K (He.ga K "Check") "add" (He.ma K (He.ga K "Check") "add")
  m_Check_value : Meth K (He.ga K "Check") "value" (He.ma K (He.ga K "Check") "value")
  k_Check : Mk K (He.ga K "Check") (He.ma K (He.ga K "Check") "__init__")
  g_check_of : mg "check_of" = some (.ref (He.ga K "check_of"))
  g__law_cell_at : mg "_law_cell_at" = some (.ref (He.ga K "_law_cell_at"))
  g__law_mixed : mg "_law_mixed" = some (.ref (He.ga K "_law_mixed"))
  g__law_turned : mg "_law_turned" = some (.ref (He.ga K "_law_turned"))
  g__law_change : mg "_law_change" = some (.ref (He.ga K "_law_change"))
  g_law : mg "law" = some (.ref (He.ga K "law"))
  f_all : mg "all" = none
  f_bool : mg "bool" = none
  f_divmod : mg "divmod" = none
  f_int : mg "int" = none
  f_isinstance : mg "isinstance" = none
  f_len : mg "len" = none
  f_list : mg "list" = none
  f_min : mg "min" = none
  f_range : mg "range" = none
  f_set : mg "set" = none
  f_ValueError : mg "ValueError" = none
  d__law_mixed : ∃ fd, FunD K d__law_mixed.name d__law_mixed.qual d__law_mixed.params d__law_mixed.body d__law_mixed.scope (d__law_mixed.dvs K) (d__law_mixed.kws K) (He.fAd K d__law_mixed.at_) fd
  d__law_cell_at : ∃ fd, FunD K d__law_cell_at.name d__law_cell_at.qual d__law_cell_at.params d__law_cell_at.body d__law_cell_at.scope (d__law_cell_at.dvs K) (d__law_cell_at.kws K) (He.fAd K d__law_cell_at.at_) fd
  d_is_wide : ∃ fd, FunD K d_is_wide.name d_is_wide.qual d_is_wide.params d_is_wide.body d_is_wide.scope (d_is_wide.dvs K) (d_is_wide.kws K) (He.fAd K d_is_wide.at_) fd
  d_Check___init__ : ∃ fd, FunD K d_Check___init__.name d_Check___init__.qual d_Check___init__.params d_Check___init__.body d_Check___init__.scope (d_Check___init__.dvs K) (d_Check___init__.kws K) (He.fAd K d_Check___init__.at_) fd
  d_is_byte : ∃ fd, FunD K d_is_byte.name d_is_byte.qual d_is_byte.params d_is_byte.body d_is_byte.scope (d_is_byte.dvs K) (d_is_byte.kws K) (He.fAd K d_is_byte.at_) fd
  d_is_row : ∃ fd, FunD K d_is_row.name d_is_row.qual d_is_row.params d_is_row.body d_is_row.scope (d_is_row.dvs K) (d_is_row.kws K) (He.fAd K d_is_row.at_) fd
  d_need_row : ∃ fd, FunD K d_need_row.name d_need_row.qual d_need_row.params d_need_row.body d_need_row.scope (d_need_row.dvs K) (d_need_row.kws K) (He.fAd K d_need_row.at_) fd
  d_Check_add : ∃ fd, FunD K d_Check_add.name d_Check_add.qual d_Check_add.params d_Check_add.body d_Check_add.scope (d_Check_add.dvs K) (d_Check_add.kws K) (He.fAd K d_Check_add.at_) fd
  d_Check_value : ∃ fd, FunD K d_Check_value.name d_Check_value.qual d_Check_value.params d_Check_value.body d_Check_value.scope (d_Check_value.dvs K) (d_Check_value.kws K) (He.fAd K d_Check_value.at_) fd
  d_check_of : ∃ fd, FunD K d_check_of.name d_check_of.qual d_check_of.params d_check_of.body d_check_of.scope (d_check_of.dvs K) (d_check_of.kws K) (He.fAd K d_check_of.at_) fd
  d__law_turned : ∃ fd, FunD K d__law_turned.name d__law_turned.qual d__law_turned.params d__law_turned.body d__law_turned.scope (d__law_turned.dvs K) (d__law_turned.kws K) (He.fAd K d__law_turned.at_) fd
  d__law_change : ∃ fd, FunD K d__law_change.name d__law_change.qual d__law_change.params d__law_change.body d__law_change.scope (d__law_change.dvs K) (d__law_change.kws K) (He.fAd K d__law_change.at_) fd
  d_law : ∃ fd, FunD K d_law.name d_law.qual d_law.params d_law.body d_law.scope (d_law.dvs K) (d_law.kws K) (He.fAd K d_law.at_) fd
theorem tx_of {K : PySem.W.Frag} {h : Heap} {mg : Str → Option Value} (X : K.In h) (G : h.Ns mainGlobals mg) (c : He.SaysD fa fn K) : Tx K mg where
  g_PressError := He.glo_ok X G (c.fact 0 (f := .glo "PressError") rfl)
  x_PressError := He.exc_ok (c.fact 1 (f := .exc "PressError") rfl)
  g_BadRow := He.glo_ok X G (c.fact 2 (f := .glo "BadRow") rfl)
  x_BadRow := He.exc_ok (c.fact 3 (f := .exc "BadRow") rfl)
  g_BadBits := He.glo_ok X G (c.fact 4 (f := .glo "BadBits") rfl)
  x_BadBits := He.exc_ok (c.fact 5 (f := .exc "BadBits") rfl)
  g_MOST_BYTE := He.int_ok X G (c.fact 6 (f := .int "MOST_BYTE" 255) rfl)
  g_is_byte := He.glo_ok X G (c.fact 7 (f := .glo "is_byte") rfl)
  g_is_row := He.glo_ok X G (c.fact 8 (f := .glo "is_row") rfl)
  g_need_row := He.glo_ok X G (c.fact 9 (f := .glo "need_row") rfl)
  g_BYTE := He.int_ok X G (c.fact 10 (f := .int "BYTE" 8) rfl)
  g_WIDE := He.int_ok X G (c.fact 11 (f := .int "WIDE" 16) rfl)
  g_NARROW := He.int_ok X G (c.fact 12 (f := .int "NARROW" 8) rfl)
  g_WIDE_LOWER := He.int_ok X G (c.fact 13 (f := .int "WIDE_LOWER" 45) rfl)
  g_NARROW_LOWER := He.int_ok X G (c.fact 14 (f := .int "NARROW_LOWER" 29) rfl)
  g_is_wide := He.glo_ok X G (c.fact 15 (f := .glo "is_wide") rfl)
  g_Check := He.glo_ok X G (c.fact 16 (f := .glo "Check") rfl)
  c_Check := He.cls_ok (c.fact 17 (f := .cls "Check") rfl)
  n_Check_wide := He.noat_ok (c.fact 18 (f := .noat "Check" "wide") rfl)
  n_Check_lower := He.noat_ok (c.fact 19 (f := .noat "Check" "lower") rfl)
  n_Check_rest := He.noat_ok (c.fact 20 (f := .noat "Check" "rest") rfl)
  m_Check___init__ := He.meth_ok (c.fact 21 (f := .meth "Check" "__init__") rfl)
  m_Check_add := He.meth_ok (c.fact 22 (f := .meth "Check" "add") rfl)
  m_Check_value := He.meth_ok (c.fact 23 (f := .meth "Check" "value") rfl)
  k_Check := He.mkr_ok (c.fact 24 (f := .mkr "Check") rfl)
  g_check_of := He.glo_ok X G (c.fact 25 (f := .glo "check_of") rfl)
  g__law_cell_at := He.glo_ok X G (c.fact 26 (f := .glo "_law_cell_at") rfl)
  g__law_mixed := He.glo_ok X G (c.fact 27 (f := .glo "_law_mixed") rfl)
  g__law_turned := He.glo_ok X G (c.fact 28 (f := .glo "_law_turned") rfl)
  g__law_change := He.glo_ok X G (c.fact 29 (f := .glo "_law_change") rfl)
  g_law := He.glo_ok X G (c.fact 30 (f := .glo "law") rfl)
  f_all := He.free_ok X G (c.fact 31 (f := .free "all") rfl)
  f_bool := He.free_ok X G (c.fact 32 (f := .free "bool") rfl)
  f_divmod := He.free_ok X G (c.fact 33 (f := .free "divmod") rfl)
  f_int := He.free_ok X G (c.fact 34 (f := .free "int") rfl)
  f_isinstance := He.free_ok X G (c.fact 35 (f := .free "isinstance") rfl)
  f_len := He.free_ok X G (c.fact 36 (f := .free "len") rfl)
  f_list := He.free_ok X G (c.fact 37 (f := .free "list") rfl)
  f_min := He.free_ok X G (c.fact 38 (f := .free "min") rfl)
  f_range := He.free_ok X G (c.fact 39 (f := .free "range") rfl)
  f_set := He.free_ok X G (c.fact 40 (f := .free "set") rfl)
  f_ValueError := He.free_ok X G (c.fact 41 (f := .free "ValueError") rfl)
  d__law_mixed := c.def_ 9 (d := d__law_mixed) rfl
  d__law_cell_at := c.def_ 8 (d := d__law_cell_at) rfl
  d_is_wide := c.def_ 3 (d := d_is_wide) rfl
  d_Check___init__ := c.def_ 4 (d := d_Check___init__) rfl
  d_is_byte := c.def_ 0 (d := d_is_byte) rfl
  d_is_row := c.def_ 1 (d := d_is_row) rfl
  d_need_row := c.def_ 2 (d := d_need_row) rfl
  d_Check_add := c.def_ 5 (d := d_Check_add) rfl
  d_Check_value := c.def_ 6 (d := d_Check_value) rfl
  d_check_of := c.def_ 7 (d := d_check_of) rfl
  d__law_turned := c.def_ 10 (d := d__law_turned) rfl
  d__law_change := c.def_ 11 (d := d__law_change) rfl
  d_law := c.def_ 12 (d := d_law) rfl
theorem of_KCheck {K : PySem.W.Frag} {mg : Str → Option Value} (T : Tx K mg) : KCheck K := ⟨T.c_Check, T.n_Check_wide, T.n_Check_lower, T.n_Check_rest⟩
abbrev N__law_mixed : List Str := ["_law_cell", "_law_k"]
theorem sc__law_mixed : FnScope N__law_mixed ["_law_cell", "_law_k"] (defScope s__law_mixed) := ⟨rfl, rfl, rfl, by decide +kernel, rfl, by decide +kernel, by decide +kernel⟩
theorem wk__law_mixed {P : Program} {w : World} {K : PySem.W.Frag} {mg : Str → Option Value} {base : Heap} (T : Tx K mg)  {f : Addr} {cdv : Value} {A : Around} {outer : List Env} {s : Shared} {H : Hp} {E : XK}
    (hr : Room 0 (A.deeper (envOfC "_law_mixed" (defScope s__law_mixed) s.heap.objs.size f cdv))) :
    PSs (cxOf (L2.CX P w) P w K mg base N__law_mixed "_law_mixed" (defScope s__law_mixed) f cdv A outer s H E) (defBody s__law_mixed) (t__law_mixed K (fun c d _ H2 => E c d H2)) := by
  have hu1 := hu_of hr
  have hu64 := hr.units
  have tk : Takes (cxOf (L2.CX P w) P w K mg base N__law_mixed "_law_mixed" (defScope s__law_mixed) f cdv A outer s H E) (fun c d _ H2 => E c d H2) := takes_of rfl rfl rfl rfl
  exact (pss_one (ps_ret (pe_op op_modU (pe_op op_mulU (pe_op op_modU (pe_op op_addU (pe_op op_addU (pe_op op_addU (pe_op op_mulU (pv 0) (pe_int)) (pe_op op_mulU (pe_op op_mulU (pe_int) (pv 1)) (pv 1))) (pe_op op_mulU (pe_int) (pv 1))) (pe_int)) (pe_int)) (pe_int)) (pe_int))))
theorem fn__law_mixed {P : Program} {w : World} {K : PySem.W.Frag} {mg : Str → Option Value} {base : Heap} (T : Tx K mg) {f : Addr} {fd : FuncData} (F : FunD K d__law_mixed.name d__law_mixed.qual d__law_mixed.params d__law_mixed.body d__law_mixed.scope (d__law_mixed.dvs K) (d__law_mixed.kws K) f fd) :
    FnOk P w K mg base (L2.CX P w) 1 f fd ["_law_cell", "_law_k"] (sp__law_mixed K) :=
  F.ok sc__law_mixed (fun vs H Q E h => len__law_mixed h) (fun cdv A outer s H vs Q E hr h => ⟨t__law_mixed K (fun c d _ H2 => E c d H2), wk__law_mixed T  hr, rd__law_mixed  h⟩)
theorem ok__law_mixed_2 {P : Program} {w : World} {K : PySem.W.Frag} {mg : Str → Option Value} {base : Heap} (T : Tx K mg) : DOk P w K mg base 1 (He.fAd K ("_law_mixed", none)) ["_law_cell", "_law_k"] [] (sp__law_mixed K) := by
  obtain ⟨fd, F⟩ := T.d__law_mixed
  exact ⟨fd, [], .nil, FunD.bindsN F fun _ _ _ _ _ _ us hl => match us, hl with | [_, _], _ => rfl, fn__law_mixed T F, F.kp⟩
abbrev N__law_cell_at : List Str := ["_law_script", "_law_k"]
theorem sc__law_cell_at : FnScope N__law_cell_at ["_law_script", "_law_k"] (defScope s__law_cell_at) := ⟨rfl, rfl, rfl, by decide +kernel, rfl, by decide +kernel, by decide +kernel⟩
theorem wk__law_cell_at {P : Program} {w : World} {K : PySem.W.Frag} {mg : Str → Option Value} {base : Heap} (T : Tx K mg)  {f : Addr} {cdv : Value} {A : Around} {outer : List Env} {s : Shared} {H : Hp} {E : XK}
    (hr : Room 0 (A.deeper (envOfC "_law_cell_at" (defScope s__law_cell_at) s.heap.objs.size f cdv))) :
    PSs (cxOf (L2.CX P w) P w K mg base N__law_cell_at "_law_cell_at" (defScope s__law_cell_at) f cdv A outer s H E) (defBody s__law_cell_at) (t__law_cell_at K (fun c d _ H2 => E c d H2)) := by
  have hu1 := hu_of hr
  have hu64 := hr.units
  have tk : Takes (cxOf (L2.CX P w) P w K mg base N__law_cell_at "_law_cell_at" (defScope s__law_cell_at) f cdv A outer s H E) (fun c d _ H2 => E c d H2) := takes_of rfl rfl rfl rfl
  exact (pss_cons (ps_if (pt_cmpR op_ltU (pv 1) (pe_callB cr_lenK (by rfl) T.f_len bb_len (pa_cons (pv 0) pa_nil)) (nomark _)) (pss_one (ps_ret (pe_ix ix_seq (pv 0) (pv 1) (fun _ _ => rfl)))) pss_nil)
    (pss_one (ps_ret (pe_int))))
theorem fn__law_cell_at {P : Program} {w : World} {K : PySem.W.Frag} {mg : Str → Option Value} {base : Heap} (T : Tx K mg) {f : Addr} {fd : FuncData} (F : FunD K d__law_cell_at.name d__law_cell_at.qual d__law_cell_at.params d__law_cell_at.body d__law_cell_at.scope (d__law_cell_at.dvs K) (d__law_cell_at.kws K) f fd) :
    FnOk P w K mg base (L2.CX P w) 1 f fd ["_law_script", "_law_k"] (sp__law_cell_at K) :=
  F.ok sc__law_cell_at (fun vs H Q E h => len__law_cell_at h) (fun cdv A outer s H vs Q E hr h => ⟨t__law_cell_at K (fun c d _ H2 => E c d H2), wk__law_cell_at T  hr, rd__law_cell_at  h⟩)
theorem ok__law_cell_at_2 {P : Program} {w : World} {K : PySem.W.Frag} {mg : Str → Option Value} {base : Heap} (T : Tx K mg) : DOk P w K mg base 1 (He.fAd K ("_law_cell_at", none)) ["_law_script", "_law_k"] [] (sp__law_cell_at K) := by
  obtain ⟨fd, F⟩ := T.d__law_cell_at
  exact ⟨fd, [], .nil, FunD.bindsN F fun _ _ _ _ _ _ us hl => match us, hl with | [_, _], _ => rfl, fn__law_cell_at T F, F.kp⟩
abbrev N_is_wide : List Str := ["thing"]
theorem sc_is_wide : FnScope N_is_wide ["thing"] (defScope s_is_wide) := ⟨rfl, rfl, rfl, by decide +kernel, rfl, by decide +kernel, by decide +kernel⟩
theorem wk_is_wide {P : Program} {w : World} {K : PySem.W.Frag} {mg : Str → Option Value} {base : Heap} (T : Tx K mg)  {f : Addr} {cdv : Value} {A : Around} {outer : List Env} {s : Shared} {H : Hp} {E : XK}
    (hr : Room 0 (A.deeper (envOfC "is_wide" (defScope s_is_wide) s.heap.objs.size f cdv))) :
    PSs (cxOf (L2.CX P w) P w K mg base N_is_wide "is_wide" (defScope s_is_wide) f cdv A outer s H E) (defBody s_is_wide) (t_is_wide K (fun c d _ H2 => E c d H2)) := by
  have hu1 := hu_of hr
  have hu64 := hr.units
  have tk : Takes (cxOf (L2.CX P w) P w K mg base N_is_wide "is_wide" (defScope s_is_wide) f cdv A outer s H E) (fun c d _ H2 => E c d H2) := takes_of rfl rfl rfl rfl
  exact (pss_one (ps_ret ((pe_and (pe_callB call_isi (by rfl) T.f_isinstance bb_isinstance (pa_cons (pv 0) (pa_cons (pe_bty rfl T.f_int bt_int) pa_nil))) (pe_and (pe_not (pe_callB call_isi (by rfl) T.f_isinstance bb_isinstance (pa_cons (pv 0) (pa_cons (pe_bty rfl T.f_bool bt_bool) pa_nil)))) (pe_one (pe_cmpR op_inU (pv 0) (pe_tup (pa_cons (pe_gint rfl T.g_NARROW) (pa_cons (pe_gint rfl T.g_WIDE) pa_nil))) (by rfl))))))))
theorem fn_is_wide {P : Program} {w : World} {K : PySem.W.Frag} {mg : Str → Option Value} {base : Heap} (T : Tx K mg) {f : Addr} {fd : FuncData} (F : FunD K d_is_wide.name d_is_wide.qual d_is_wide.params d_is_wide.body d_is_wide.scope (d_is_wide.dvs K) (d_is_wide.kws K) f fd) :
    FnOk P w K mg base (L2.CX P w) 1 f fd ["thing"] (sp_is_wide K) :=
  F.ok sc_is_wide (fun vs H Q E h => len_is_wide h) (fun cdv A outer s H vs Q E hr h => ⟨t_is_wide K (fun c d _ H2 => E c d H2), wk_is_wide T  hr, rd_is_wide  h⟩)
theorem ok_is_wide_1 {P : Program} {w : World} {K : PySem.W.Frag} {mg : Str → Option Value} {base : Heap} (T : Tx K mg) : DOk P w K mg base 1 (He.fAd K ("is_wide", none)) ["thing"] [] (sp_is_wide K) := by
  obtain ⟨fd, F⟩ := T.d_is_wide
  exact ⟨fd, [], .nil, FunD.bindsN F fun _ _ _ _ _ _ us hl => match us, hl with | [_], _ => rfl, fn_is_wide T F, F.kp⟩
abbrev N_Check___init__ : List Str := ["self", "wide"]
theorem sc_Check___init__ : FnScope N_Check___init__ ["self", "wide"] (defScope s_Check___init__) := ⟨rfl, rfl, rfl, by decide +kernel, rfl, by decide +kernel, by decide +kernel⟩
theorem wk_Check___init__ {P : Program} {w : World} {K : PySem.W.Frag} {mg : Str → Option Value} {base : Heap} (T : Tx K mg) (O0 : DOk P w K mg base 1 (He.fAd K ("is_wide", none)) ["thing"] [] (sp_is_wide K)) {f : Addr} {cdv : Value} {A : Around} {outer : List Env} {s : Shared} {H : Hp} {E : XK}
    (hr : Room 1 (A.deeper (envOfC "Check.__init__" (defScope s_Check___init__) s.heap.objs.size f cdv))) :
    PSs (cxOf (L2.CX P w) P w K mg base N_Check___init__ "Check.__init__" (defScope s_Check___init__) f cdv A outer s H E) (defBody s_Check___init__) (t_Check___init__ K (fun c d _ H2 => E c d H2)) := by
  obtain ⟨fd0, ds0, v0, b0, G0, q0⟩ := O0
  have hu1 := hu_of hr
  have hu64 := hr.units
  have tk : Takes (cxOf (L2.CX P w) P w K mg base N_Check___init__ "Check.__init__" (defScope s_Check___init__) f cdv A outer s H E) (fun c d _ H2 => E c d H2) := takes_of rfl rfl rfl rfl
  exact (pss_cons (ps_if (pt_not (pt_val (pe_cl G0 (hr.mono (by decide)) rfl T.g_is_wide q0 b0 v0 tk (pa_cons (pv 1) pa_nil)))) (pss_one (ps_rz rfl tk T.x_BadBits T.g_BadBits rfl)) pss_nil)
    (pss_cons (ps_fld (pv 0) (pv 1) rfl)
    (pss_cons (ps_fld (pv 0) (pe_ifExp (pt_cmpR (op_eqU hu64) (pv 1) (pe_gint rfl T.g_WIDE) (nomark _)) (pe_gint rfl T.g_WIDE_LOWER) (pe_gint rfl T.g_NARROW_LOWER)) rfl)
    (pss_one (ps_fld (pv 0) (pe_op op_subU (pe_op op_shlU (pe_int) (pv 1)) (pe_int)) rfl)))))
theorem fn_Check___init__ {P : Program} {w : World} {K : PySem.W.Frag} {mg : Str → Option Value} {base : Heap} (T : Tx K mg) {f : Addr} {fd : FuncData} (F : FunD K d_Check___init__.name d_Check___init__.qual d_Check___init__.params d_Check___init__.body d_Check___init__.scope (d_Check___init__.dvs K) (d_Check___init__.kws K) f fd) :
    FnOk P w K mg base (L2.CX P w) 2 f fd ["self", "wide"] (sp_Check___init__ K) :=
  F.ok sc_Check___init__ (fun vs H Q E h => len_Check___init__ h) (fun cdv A outer s H vs Q E hr h => ⟨t_Check___init__ K (fun c d _ H2 => E c d H2), wk_Check___init__ T (ok_is_wide_1 T) hr, rd_Check___init__ (of_KCheck T) h⟩)
theorem ok_Check___init___2 {P : Program} {w : World} {K : PySem.W.Frag} {mg : Str → Option Value} {base : Heap} (T : Tx K mg) : DOk P w K mg base 2 (He.fAd K ("Check", some "__init__")) ["self", "wide"] [] (sp_Check___init__ K) := by
  obtain ⟨fd, F⟩ := T.d_Check___init__
  obtain ⟨ds, v, b⟩ := FunD.binds1 (ps := ["self", "wide"]) F 2 1 (by intro z; cases z) (by rfl) fun T kV doc pm an cdv ct us its hl hi => match us, hl, its, hi with | [_, _], _, [_], _ => ⟨_, rfl, rfl⟩
  exact ⟨fd, ds, v, b, fn_Check___init__ T F, F.kp⟩
abbrev N_is_byte : List Str := ["thing"]
theorem sc_is_byte : FnScope N_is_byte ["thing"] (defScope s_is_byte) := ⟨rfl, rfl, rfl, by decide +kernel, rfl, by decide +kernel, by decide +kernel⟩
theorem wk_is_byte {P : Program} {w : World} {K : PySem.W.Frag} {mg : Str → Option Value} {base : Heap} (T : Tx K mg)  {f : Addr} {cdv : Value} {A : Around} {outer : List Env} {s : Shared} {H : Hp} {E : XK}
    (hr : Room 0 (A.deeper (envOfC "is_byte" (defScope s_is_byte) s.heap.objs.size f cdv))) :
    PSs (cxOf (L2.CX P w) P w K mg base N_is_byte "is_byte" (defScope s_is_byte) f cdv A outer s H E) (defBody s_is_byte) (t_is_byte K (fun c d _ H2 => E c d H2)) := by
  have hu1 := hu_of hr
  have hu64 := hr.units
  have tk : Takes (cxOf (L2.CX P w) P w K mg base N_is_byte "is_byte" (defScope s_is_byte) f cdv A outer s H E) (fun c d _ H2 => E c d H2) := takes_of rfl rfl rfl rfl
  exact (pss_one (ps_ret ((pe_and (pe_callB call_isi (by rfl) T.f_isinstance bb_isinstance (pa_cons (pv 0) (pa_cons (pe_bty rfl T.f_int bt_int) pa_nil))) (pe_and (pe_not (pe_callB call_isi (by rfl) T.f_isinstance bb_isinstance (pa_cons (pv 0) (pa_cons (pe_bty rfl T.f_bool bt_bool) pa_nil)))) (pe_one (pe_chain op_leU op_leU (pe_int) (pv 0) (pe_gint rfl T.g_MOST_BYTE))))))))
theorem fn_is_byte {P : Program} {w : World} {K : PySem.W.Frag} {mg : Str → Option Value} {base : Heap} (T : Tx K mg) {f : Addr} {fd : FuncData} (F : FunD K d_is_byte.name d_is_byte.qual d_is_byte.params d_is_byte.body d_is_byte.scope (d_is_byte.dvs K) (d_is_byte.kws K) f fd) :
    FnOk P w K mg base (L2.CX P w) 1 f fd ["thing"] (sp_is_byte K) :=
  F.ok sc_is_byte (fun vs H Q E h => len_is_byte h) (fun cdv A outer s H vs Q E hr h => ⟨t_is_byte K (fun c d _ H2 => E c d H2), wk_is_byte T  hr, rd_is_byte  h⟩)
theorem ok_is_byte_1 {P : Program} {w : World} {K : PySem.W.Frag} {mg : Str → Option Value} {base : Heap} (T : Tx K mg) : DOk P w K mg base 1 (He.fAd K ("is_byte", none)) ["thing"] [] (sp_is_byte K) := by
  obtain ⟨fd, F⟩ := T.d_is_byte
  exact ⟨fd, [], .nil, FunD.bindsN F fun _ _ _ _ _ _ us hl => match us, hl with | [_], _ => rfl, fn_is_byte T F, F.kp⟩
abbrev N_is_row : List Str := ["thing", "number"]
theorem sc_is_row : FnScope N_is_row ["thing"] (defScope s_is_row) := ⟨rfl, rfl, rfl, by decide +kernel, rfl, by decide +kernel, by decide +kernel⟩
theorem wk_is_row {P : Program} {w : World} {K : PySem.W.Frag} {mg : Str → Option Value} {base : Heap} (T : Tx K mg) (O0 : DOk P w K mg base 1 (He.fAd K ("is_byte", none)) ["thing"] [] (sp_is_byte K)) {f : Addr} {cdv : Value} {A : Around} {outer : List Env} {s : Shared} {H : Hp} {E : XK}
    (hr : Room 1 (A.deeper (envOfC "is_row" (defScope s_is_row) s.heap.objs.size f cdv))) :
    PSs (cxOf (L2.CX P w) P w K mg base N_is_row "is_row" (defScope s_is_row) f cdv A outer s H E) (defBody s_is_row) (t_is_row K (fun c d _ H2 => E c d H2)) := by
  obtain ⟨fd0, ds0, v0, b0, G0, q0⟩ := O0
  have hu1 := hu_of hr
  have hu64 := hr.units
  have tk : Takes (cxOf (L2.CX P w) P w K mg base N_is_row "is_row" (defScope s_is_row) f cdv A outer s H E) (fun c d _ H2 => E c d H2) := takes_of rfl rfl rfl rfl
  exact (pss_one (ps_ret ((pe_and (pe_callB call_isi (by rfl) T.f_isinstance bb_isinstance (pa_cons (pv 0) (pa_cons (pe_bty rfl T.f_list bt_list) pa_nil))) (pe_one (pe_callB (cr_all rfl) (by rfl) T.f_all bb_all (pa_cons (pe_lc (own := [("number", 1)]) rfl sc_is_row.nd (pi_list (pv 0)) (blkOk_by (own := [("number", 1)]) (N := N_is_row) (sc := defScope s_is_row) (by decide +kernel)) (fun _ _ _ _ _ => (pg_name (i := 1) sc_is_row.nd rfl (Or.inl rfl))) (fun _ _ _ _ _ => pts_nil) (fun _ _ _ _ _ => (pe_cl G0 (hr.mono (by decide)) rfl T.g_is_byte q0 b0 v0 takes0 (pa_cons (pv 1) pa_nil)))) pa_nil)))))))
theorem fn_is_row {P : Program} {w : World} {K : PySem.W.Frag} {mg : Str → Option Value} {base : Heap} (T : Tx K mg) {f : Addr} {fd : FuncData} (F : FunD K d_is_row.name d_is_row.qual d_is_row.params d_is_row.body d_is_row.scope (d_is_row.dvs K) (d_is_row.kws K) f fd) :
    FnOk P w K mg base (L2.CX P w) 2 f fd ["thing"] (sp_is_row K) :=
  F.ok sc_is_row (fun vs H Q E h => len_is_row h) (fun cdv A outer s H vs Q E hr h => ⟨t_is_row K (fun c d _ H2 => E c d H2), wk_is_row T (ok_is_byte_1 T) hr, rd_is_row  h⟩)
theorem ok_is_row_1 {P : Program} {w : World} {K : PySem.W.Frag} {mg : Str → Option Value} {base : Heap} (T : Tx K mg) : DOk P w K mg base 2 (He.fAd K ("is_row", none)) ["thing"] [] (sp_is_row K) := by
  obtain ⟨fd, F⟩ := T.d_is_row
  exact ⟨fd, [], .nil, FunD.bindsN F fun _ _ _ _ _ _ us hl => match us, hl with | [_], _ => rfl, fn_is_row T F, F.kp⟩
abbrev N_need_row : List Str := ["thing"]
theorem sc_need_row : FnScope N_need_row ["thing"] (defScope s_need_row) := ⟨rfl, rfl, rfl, by decide +kernel, rfl, by decide +kernel, by decide +kernel⟩
theorem wk_need_row {P : Program} {w : World} {K : PySem.W.Frag} {mg : Str → Option Value} {base : Heap} (T : Tx K mg) (O0 : DOk P w K mg base 2 (He.fAd K ("is_row", none)) ["thing"] [] (sp_is_row K)) {f : Addr} {cdv : Value} {A : Around} {outer : List Env} {s : Shared} {H : Hp} {E : XK}
    (hr : Room 2 (A.deeper (envOfC "need_row" (defScope s_need_row) s.heap.objs.size f cdv))) :
    PSs (cxOf (L2.CX P w) P w K mg base N_need_row "need_row" (defScope s_need_row) f cdv A outer s H E) (defBody s_need_row) (t_need_row K (fun c d _ H2 => E c d H2)) := by
  obtain ⟨fd0, ds0, v0, b0, G0, q0⟩ := O0
  have hu1 := hu_of hr
  have hu64 := hr.units
  have tk : Takes (cxOf (L2.CX P w) P w K mg base N_need_row "need_row" (defScope s_need_row) f cdv A outer s H E) (fun c d _ H2 => E c d H2) := takes_of rfl rfl rfl rfl
  exact (pss_cons (ps_if (pt_not (pt_val (pe_cl G0 (hr.mono (by decide)) rfl T.g_is_row q0 b0 v0 tk (pa_cons (pv 0) pa_nil)))) (pss_one (ps_rz rfl tk T.x_BadRow T.g_BadRow rfl)) pss_nil)
    (pss_one (ps_ret (pe_callTy cr_listK (by rfl) T.f_list bt_list (pa_cons (pv 0) pa_nil)))))
theorem fn_need_row {P : Program} {w : World} {K : PySem.W.Frag} {mg : Str → Option Value} {base : Heap} (T : Tx K mg) {f : Addr} {fd : FuncData} (F : FunD K d_need_row.name d_need_row.qual d_need_row.params d_need_row.body d_need_row.scope (d_need_row.dvs K) (d_need_row.kws K) f fd) :
    FnOk P w K mg base (L2.CX P w) 3 f fd ["thing"] (sp_need_row K) :=
  F.ok sc_need_row (fun vs H Q E h => len_need_row h) (fun cdv A outer s H vs Q E hr h => ⟨t_need_row K (fun c d _ H2 => E c d H2), wk_need_row T (ok_is_row_1 T) hr, rd_need_row  h⟩)
theorem ok_need_row_1 {P : Program} {w : World} {K : PySem.W.Frag} {mg : Str → Option Value} {base : Heap} (T : Tx K mg) : DOk P w K mg base 3 (He.fAd K ("need_row", none)) ["thing"] [] (sp_need_row K) := by
  obtain ⟨fd, F⟩ := T.d_need_row
  exact ⟨fd, [], .nil, FunD.bindsN F fun _ _ _ _ _ _ us hl => match us, hl with | [_], _ => rfl, fn_need_row T F, F.kp⟩
abbrev N_Check_add : List Str := ["self", "row", "byte", "turn", "out"]
theorem sc_Check_add : FnScope N_Check_add ["self", "row"] (defScope s_Check_add) := ⟨rfl, rfl, rfl, by decide +kernel, rfl, by decide +kernel, by decide +kernel⟩
theorem wk_Check_add {P : Program} {w : World} {K : PySem.W.Frag} {mg : Str → Option Value} {base : Heap} (T : Tx K mg) (O0 : DOk P w K mg base 3 (He.fAd K ("need_row", none)) ["thing"] [] (sp_need_row K)) {f : Addr} {cdv : Value} {A : Around} {outer : List Env} {s : Shared} {H : Hp} {E : XK}
    (hr : Room 3 (A.deeper (envOfC "Check.add" (defScope s_Check_add) s.heap.objs.size f cdv))) :
    PSs (cxOf (L2.CX P w) P w K mg base N_Check_add "Check.add" (defScope s_Check_add) f cdv A outer s H E) (defBody s_Check_add) (t_Check_add K (fun c d _ H2 => E c d H2)) := by
  obtain ⟨fd0, ds0, v0, b0, G0, q0⟩ := O0
  have hu1 := hu_of hr
  have hu64 := hr.units
  have tk : Takes (cxOf (L2.CX P w) P w K mg base N_Check_add "Check.add" (defScope s_Check_add) f cdv A outer s H E) (fun c d _ H2 => E c d H2) := takes_of rfl rfl rfl rfl
  exact (pss_one (ps_for (passes_of rfl) rfl (pi_list (pe_cl G0 (hr.mono (by decide)) rfl T.g_need_row q0 b0 v0 tk (pa_cons (pv 1) pa_nil))) (pg_name (i := 2) sc_Check_add.nd rfl (Or.inl rfl)) (pss_cons (ps_fld (pv 0) (pe_op op_xorU (pe_fld (pv 0) rfl) (pe_op op_shlU (pv 2) (pe_op op_subU (pe_fld (pv 0) rfl) (pe_gint rfl T.g_BYTE)))) rfl)
    (pss_one (ps_for (passes_of rfl) rfl (pi_range1 rfl T.f_range (pa_cons (pe_gint rfl T.g_BYTE) pa_nil)) (pg_name (i := 3) sc_Check_add.nd rfl (Or.inl rfl)) (pss_cons (ps_asg (pe_callB cr_divmodK (by rfl) T.f_divmod bb_divmod (pa_cons (pe_op op_shlU (pe_fld (pv 0) rfl) (pe_int)) (pa_cons (pe_op op_shlU (pe_int) (pe_fld (pv 0) rfl)) pa_nil))) (pg_tup rfl (pgs_cons (pg_name (i := 4) sc_Check_add.nd rfl (Or.inl rfl)) (pgs_cons (pg_attr (pv 0)) pgs_nil))))
    (pss_one (ps_if (pt_cmpR (op_eqU hu64) (pv 4) (pe_int) (nomark _)) (pss_one (ps_fld (pv 0) (pe_op op_xorU (pe_fld (pv 0) rfl) (pe_fld (pv 0) rfl)) rfl)) pss_nil))))))))
theorem fn_Check_add {P : Program} {w : World} {K : PySem.W.Frag} {mg : Str → Option Value} {base : Heap} (T : Tx K mg) {f : Addr} {fd : FuncData} (F : FunD K d_Check_add.name d_Check_add.qual d_Check_add.params d_Check_add.body d_Check_add.scope (d_Check_add.dvs K) (d_Check_add.kws K) f fd) :
    FnOk P w K mg base (L2.CX P w) 4 f fd ["self", "row"] (sp_Check_add K) :=
  F.ok sc_Check_add (fun vs H Q E h => len_Check_add h) (fun cdv A outer s H vs Q E hr h => ⟨t_Check_add K (fun c d _ H2 => E c d H2), wk_Check_add T (ok_need_row_1 T) hr, rd_Check_add (of_KCheck T) h⟩)
theorem ok_Check_add_2 {P : Program} {w : World} {K : PySem.W.Frag} {mg : Str → Option Value} {base : Heap} (T : Tx K mg) : DOk P w K mg base 4 (He.fAd K ("Check", some "add")) ["self", "row"] [] (sp_Check_add K) := by
  obtain ⟨fd, F⟩ := T.d_Check_add
  exact ⟨fd, [], .nil, FunD.bindsN F fun _ _ _ _ _ _ us hl => match us, hl with | [_, _], _ => rfl, fn_Check_add T F, F.kp⟩
abbrev N_Check_value : List Str := ["self"]
theorem sc_Check_value : FnScope N_Check_value ["self"] (defScope s_Check_value) := ⟨rfl, rfl, rfl, by decide +kernel, rfl, by decide +kernel, by decide +kernel⟩
theorem wk_Check_value {P : Program} {w : World} {K : PySem.W.Frag} {mg : Str → Option Value} {base : Heap} (T : Tx K mg)  {f : Addr} {cdv : Value} {A : Around} {outer : List Env} {s : Shared} {H : Hp} {E : XK}
    (hr : Room 0 (A.deeper (envOfC "Check.value" (defScope s_Check_value) s.heap.objs.size f cdv))) :
    PSs (cxOf (L2.CX P w) P w K mg base N_Check_value "Check.value" (defScope s_Check_value) f cdv A outer s H E) (defBody s_Check_value) (t_Check_value K (fun c d _ H2 => E c d H2)) := by
  have hu1 := hu_of hr
  have hu64 := hr.units
  have tk : Takes (cxOf (L2.CX P w) P w K mg base N_Check_value "Check.value" (defScope s_Check_value) f cdv A outer s H E) (fun c d _ H2 => E c d H2) := takes_of rfl rfl rfl rfl
  exact (pss_one (ps_ret (pe_fld (pv 0) rfl)))
theorem fn_Check_value {P : Program} {w : World} {K : PySem.W.Frag} {mg : Str → Option Value} {base : Heap} (T : Tx K mg) {f : Addr} {fd : FuncData} (F : FunD K d_Check_value.name d_Check_value.qual d_Check_value.params d_Check_value.body d_Check_value.scope (d_Check_value.dvs K) (d_Check_value.kws K) f fd) :
    FnOk P w K mg base (L2.CX P w) 1 f fd ["self"] (sp_Check_value K) :=
  F.ok sc_Check_value (fun vs H Q E h => len_Check_value h) (fun cdv A outer s H vs Q E hr h => ⟨t_Check_value K (fun c d _ H2 => E c d H2), wk_Check_value T  hr, rd_Check_value (of_KCheck T) h⟩)
theorem ok_Check_value_1 {P : Program} {w : World} {K : PySem.W.Frag} {mg : Str → Option Value} {base : Heap} (T : Tx K mg) : DOk P w K mg base 1 (He.fAd K ("Check", some "value")) ["self"] [] (sp_Check_value K) := by
  obtain ⟨fd, F⟩ := T.d_Check_value
  exact ⟨fd, [], .nil, FunD.bindsN F fun _ _ _ _ _ _ us hl => match us, hl with | [_], _ => rfl, fn_Check_value T F, F.kp⟩
abbrev N_check_of : List Str := ["row", "wide", "check"]
theorem sc_check_of : FnScope N_check_of ["row", "wide"] (defScope s_check_of) := ⟨rfl, rfl, rfl, by decide +kernel, rfl, by decide +kernel, by decide +kernel⟩
theorem wk_check_of {P : Program} {w : World} {K : PySem.W.Frag} {mg : Str → Option Value} {base : Heap} (T : Tx K mg) (O0 : DOk P w K mg base 2 (He.fAd K ("Check", some "__init__")) ["self", "wide"] [] (sp_Check___init__ K)) (O1 : DOk P w K mg base 4 (He.fAd K ("Check", some "add")) ["self", "row"] [] (sp_Check_add K)) (O2 : DOk P w K mg base 1 (He.fAd K ("Check", some "value")) ["self"] [] (sp_Check_value K)) {f : Addr} {cdv : Value} {A : Around} {outer : List Env} {s : Shared} {H : Hp} {E : XK}
    (hr : Room 4 (A.deeper (envOfC "check_of" (defScope s_check_of) s.heap.objs.size f cdv))) :
    PSs (cxOf (L2.CX P w) P w K mg base N_check_of "check_of" (defScope s_check_of) f cdv A outer s H E) (defBody s_check_of) (t_check_of K (fun c d _ H2 => E c d H2)) := by
  obtain ⟨fd0, ds0, v0, b0, G0, q0⟩ := O0
  obtain ⟨fd1, ds1, v1, b1, G1, q1⟩ := O1
  obtain ⟨fd2, ds2, v2, b2, G2, q2⟩ := O2
  have hu1 := hu_of hr
  have hu64 := hr.units
  have tk : Takes (cxOf (L2.CX P w) P w K mg base N_check_of "check_of" (defScope s_check_of) f cdv A outer s H E) (fun c d _ H2 => E c d H2) := takes_of rfl rfl rfl rfl
  exact (pss_cons (ps_set (i := 2) sc_check_of.nd rfl (Or.inl rfl) (pe_mk' T.k_Check G0 (hr.mono (by decide)) rfl T.g_Check b0 v0 tk (pa_cons (pv 1) pa_nil)))
    (pss_cons (ps_expr (pe_mt' (pv 2) T.c_Check T.m_Check_add G1 (hr.mono (by decide)) b1 v1 tk (pa_cons (pv 0) pa_nil)))
    (pss_one (ps_ret (pe_mt0' (pv 2) T.c_Check T.m_Check_value G2 (hr.mono (by decide)) b2 v2 tk)))))
theorem fn_check_of {P : Program} {w : World} {K : PySem.W.Frag} {mg : Str → Option Value} {base : Heap} (T : Tx K mg) {f : Addr} {fd : FuncData} (F : FunD K d_check_of.name d_check_of.qual d_check_of.params d_check_of.body d_check_of.scope (d_check_of.dvs K) (d_check_of.kws K) f fd) :
    FnOk P w K mg base (L2.CX P w) 5 f fd ["row", "wide"] (sp_check_of K) :=
  F.ok sc_check_of (fun vs H Q E h => len_check_of h) (fun cdv A outer s H vs Q E hr h => ⟨t_check_of K (fun c d _ H2 => E c d H2), wk_check_of T (ok_Check___init___2 T) (ok_Check_add_2 T) (ok_Check_value_1 T) hr, rd_check_of (of_KCheck T) h⟩)
theorem ok_check_of_1 {P : Program} {w : World} {K : PySem.W.Frag} {mg : Str → Option Value} {base : Heap} (T : Tx K mg) : DOk P w K mg base 5 (He.fAd K ("check_of", none)) ["row", "wide"] [.int 16] (sp_check_of K) := by
  obtain ⟨fd, F⟩ := T.d_check_of
  obtain ⟨ds, v, b⟩ := FunD.binds1 (ps := ["row", "wide"]) F 1 0 (by intro z; cases z) (by rfl) fun T kV doc pm an cdv ct us its hl hi => match us, hl, its, hi with | [_], _, [_], _ => ⟨_, rfl, rfl⟩
  exact ⟨fd, ds, v, b, fn_check_of T F, F.kp⟩
theorem ok_check_of_2 {P : Program} {w : World} {K : PySem.W.Frag} {mg : Str → Option Value} {base : Heap} (T : Tx K mg) : DOk P w K mg base 5 (He.fAd K ("check_of", none)) ["row", "wide"] [] (sp_check_of K) := by
  obtain ⟨fd, F⟩ := T.d_check_of
  obtain ⟨ds, v, b⟩ := FunD.binds1 (ps := ["row", "wide"]) F 2 1 (by intro z; cases z) (by rfl) fun T kV doc pm an cdv ct us its hl hi => match us, hl, its, hi with | [_, _], _, [_], _ => ⟨_, rfl, rfl⟩
  exact ⟨fd, ds, v, b, fn_check_of T F, F.kp⟩
abbrev N__law_turned : List Str := ["_law_row", "_law_place", "_law_pattern", "_law_number", "_law_byte", "_law_found", "_law_k"]
theorem sc__law_turned : FnScope N__law_turned ["_law_row", "_law_place", "_law_pattern"] (defScope s__law_turned) := ⟨rfl, rfl, rfl, by decide +kernel, rfl, by decide +kernel, by decide +kernel⟩
theorem wk__law_turned {P : Program} {w : World} {K : PySem.W.Frag} {mg : Str → Option Value} {base : Heap} (T : Tx K mg)  {f : Addr} {cdv : Value} {A : Around} {outer : List Env} {s : Shared} {H : Hp} {E : XK}
    (hr : Room 0 (A.deeper (envOfC "_law_turned" (defScope s__law_turned) s.heap.objs.size f cdv))) :
    PSs (cxOf (L2.CX P w) P w K mg base N__law_turned "_law_turned" (defScope s__law_turned) f cdv A outer s H E) (defBody s__law_turned) (t__law_turned K (fun c d _ H2 => E c d H2)) := by
  have hu1 := hu_of hr
  have hu64 := hr.units
  have tk : Takes (cxOf (L2.CX P w) P w K mg base N__law_turned "_law_turned" (defScope s__law_turned) f cdv A outer s H E) (fun c d _ H2 => E c d H2) := takes_of rfl rfl rfl rfl
  exact (pss_cons (ps_set (i := 3) sc__law_turned.nd rfl (Or.inl rfl) (pe_int))
    (pss_cons (ps_for (passes_of rfl) rfl (pi_list (pv 0)) (pg_name (i := 4) sc__law_turned.nd rfl (Or.inl rfl)) (pss_one (ps_set (i := 3) sc__law_turned.nd rfl (Or.inl rfl) (pe_op op_addU (pe_op op_mulU (pv 3) (pe_int)) (pv 4)))))
    (pss_cons (ps_set (i := 3) sc__law_turned.nd rfl (Or.inl rfl) (pe_op op_xorU (pv 3) (pe_op op_shlU (pv 2) (pv 1))))
    (pss_cons (ps_set (i := 5) sc__law_turned.nd rfl (Or.inl rfl) (pe_lst pa_nil))
    (pss_cons (ps_for (passes_of rfl) rfl (pi_range1 rfl T.f_range (pa_cons (pe_callB cr_lenK (by rfl) T.f_len bb_len (pa_cons (pv 0) pa_nil)) pa_nil)) (pg_name (i := 6) sc__law_turned.nd rfl (Or.inl rfl)) (pss_one (ps_set (i := 5) sc__law_turned.nd rfl (Or.inl rfl) (pe_op op_addU (pe_lst (pa_cons (pe_op op_modU (pe_op op_shrU (pv 3) (pe_op op_mulU (pe_int) (pv 6))) (pe_int)) pa_nil)) (pv 5)))))
    (pss_one (ps_ret (pv 5))))))))
theorem fn__law_turned {P : Program} {w : World} {K : PySem.W.Frag} {mg : Str → Option Value} {base : Heap} (T : Tx K mg) {f : Addr} {fd : FuncData} (F : FunD K d__law_turned.name d__law_turned.qual d__law_turned.params d__law_turned.body d__law_turned.scope (d__law_turned.dvs K) (d__law_turned.kws K) f fd) :
    FnOk P w K mg base (L2.CX P w) 1 f fd ["_law_row", "_law_place", "_law_pattern"] (sp__law_turned K) :=
  F.ok sc__law_turned (fun vs H Q E h => len__law_turned h) (fun cdv A outer s H vs Q E hr h => ⟨t__law_turned K (fun c d _ H2 => E c d H2), wk__law_turned T  hr, rd__law_turned  h⟩)
theorem ok__law_turned_3 {P : Program} {w : World} {K : PySem.W.Frag} {mg : Str → Option Value} {base : Heap} (T : Tx K mg) : DOk P w K mg base 1 (He.fAd K ("_law_turned", none)) ["_law_row", "_law_place", "_law_pattern"] [] (sp__law_turned K) := by
  obtain ⟨fd, F⟩ := T.d__law_turned
  exact ⟨fd, [], .nil, FunD.bindsN F fun _ _ _ _ _ _ us hl => match us, hl with | [_, _, _], _ => rfl, fn__law_turned T F, F.kp⟩
abbrev N__law_change : List Str := ["_law_row", "_law_cell", "_law_wide", "_law_size", "_law_width", "_law_pattern", "_law_place"]
theorem sc__law_change : FnScope N__law_change ["_law_row", "_law_cell", "_law_wide"] (defScope s__law_change) := ⟨rfl, rfl, rfl, by decide +kernel, rfl, by decide +kernel, by decide +kernel⟩
theorem wk__law_change {P : Program} {w : World} {K : PySem.W.Frag} {mg : Str → Option Value} {base : Heap} (T : Tx K mg) (O0 : DOk P w K mg base 1 (He.fAd K ("_law_turned", none)) ["_law_row", "_law_place", "_law_pattern"] [] (sp__law_turned K)) {f : Addr} {cdv : Value} {A : Around} {outer : List Env} {s : Shared} {H : Hp} {E : XK}
    (hr : Room 1 (A.deeper (envOfC "_law_change" (defScope s__law_change) s.heap.objs.size f cdv))) :
    PSs (cxOf (L2.CX P w) P w K mg base N__law_change "_law_change" (defScope s__law_change) f cdv A outer s H E) (defBody s__law_change) (t__law_change K (fun c d _ H2 => E c d H2)) := by
  obtain ⟨fd0, ds0, v0, b0, G0, q0⟩ := O0
  have hu1 := hu_of hr
  have hu64 := hr.units
  have tk : Takes (cxOf (L2.CX P w) P w K mg base N__law_change "_law_change" (defScope s__law_change) f cdv A outer s H E) (fun c d _ H2 => E c d H2) := takes_of rfl rfl rfl rfl
  exact (pss_cons (ps_set (i := 3) sc__law_change.nd rfl (Or.inl rfl) (pe_op op_mulU (pe_int) (pe_callB cr_lenK (by rfl) T.f_len bb_len (pa_cons (pv 0) pa_nil))))
    (pss_cons (ps_set (i := 4) sc__law_change.nd rfl (Or.inl rfl) (pe_callB (cr_min2K rfl) (by rfl) T.f_min bb_min (pa_cons (pv 3) (pa_cons (pe_op op_addU (pe_int) (pe_op op_modU (pe_op op_divU (pv 1) (pe_int)) (pv 2))) pa_nil))))
    (pss_cons (ps_set (i := 5) sc__law_change.nd rfl (Or.inl rfl) (pe_op op_addU (pe_int) (pe_op op_modU (pe_op op_divU (pv 1) (pe_int)) (pe_op op_subU (pe_op op_shlU (pe_int) (pv 4)) (pe_int)))))
    (Evl.pss_cut (ps_if (pt_cmpR (op_eqU hu64) (pe_op op_modU (pv 1) (pe_int)) (pe_int) (nomark _)) (pss_one (ps_set (i := 5) sc__law_change.nd rfl (Or.inl rfl) (pe_int))) pss_nil)
    (pss_cons (ps_set (i := 6) sc__law_change.nd rfl (Or.inl rfl) (pe_op op_modU (pe_op op_divU (pv 1) (pe_int)) (pe_op op_addU (pe_op op_subU (pv 3) (pv 4)) (pe_int))))
    (pss_one (ps_ret (pe_cl G0 (hr.mono (by decide)) rfl T.g__law_turned q0 b0 v0 tk (pa_cons (pv 0) (pa_cons (pv 6) (pa_cons (pv 5) pa_nil)))))))))))
theorem fn__law_change {P : Program} {w : World} {K : PySem.W.Frag} {mg : Str → Option Value} {base : Heap} (T : Tx K mg) {f : Addr} {fd : FuncData} (F : FunD K d__law_change.name d__law_change.qual d__law_change.params d__law_change.body d__law_change.scope (d__law_change.dvs K) (d__law_change.kws K) f fd) :
    FnOk P w K mg base (L2.CX P w) 2 f fd ["_law_row", "_law_cell", "_law_wide"] (sp__law_change K) :=
  F.ok sc__law_change (fun vs H Q E h => len__law_change h) (fun cdv A outer s H vs Q E hr h => ⟨t__law_change K (fun c d _ H2 => E c d H2), wk__law_change T (ok__law_turned_3 T) hr, rd__law_change  h⟩)
theorem ok__law_change_3 {P : Program} {w : World} {K : PySem.W.Frag} {mg : Str → Option Value} {base : Heap} (T : Tx K mg) : DOk P w K mg base 2 (He.fAd K ("_law_change", none)) ["_law_row", "_law_cell", "_law_wide"] [] (sp__law_change K) := by
  obtain ⟨fd, F⟩ := T.d__law_change
  exact ⟨fd, [], .nil, FunD.bindsN F fun _ _ _ _ _ _ us hl => match us, hl with | [_, _, _], _ => rfl, fn__law_change T F, F.kp⟩
abbrev N_law : List Str := ["_law_script", "_law_cell", "_law_k", "_law_row", "_law_due", "_law_more", "_law_wide", "_law_other", "_law_short", "_law_values", "_law_place"]
theorem sc_law : FnScope N_law ["_law_script"] (defScope s_law) := ⟨rfl, rfl, rfl, by decide +kernel, rfl, by decide +kernel, by decide +kernel⟩
theorem wk_law {P : Program} {w : World} {K : PySem.W.Frag} {mg : Str → Option Value} {base : Heap} (T : Tx K mg) (O0 : DOk P w K mg base 1 (He.fAd K ("_law_mixed", none)) ["_law_cell", "_law_k"] [] (sp__law_mixed K)) (O1 : DOk P w K mg base 1 (He.fAd K ("_law_cell_at", none)) ["_law_script", "_law_k"] [] (sp__law_cell_at K)) (O2 : DOk P w K mg base 5 (He.fAd K ("check_of", none)) ["row", "wide"] [] (sp_check_of K)) (O3 : DOk P w K mg base 2 (He.fAd K ("_law_change", none)) ["_law_row", "_law_cell", "_law_wide"] [] (sp__law_change K)) (O4 : DOk P w K mg base 5 (He.fAd K ("check_of", none)) ["row", "wide"] [.int 16] (sp_check_of K)) (O5 : DOk P w K mg base 1 (He.fAd K ("_law_turned", none)) ["_law_row", "_law_place", "_law_pattern"] [] (sp__law_turned K)) {f : Addr} {cdv : Value} {A : Around} {outer : List Env} {s : Shared} {H : Hp} {E : XK}
    (hr : Room 5 (A.deeper (envOfC "law" (defScope s_law) s.heap.objs.size f cdv))) :
    PSs (cxOf (L2.CX P w) P w K mg base N_law "law" (defScope s_law) f cdv A outer s H E) (defBody s_law) (t_law K (fun c d _ H2 => E c d H2)) := by
  obtain ⟨fd0, ds0, v0, b0, G0, q0⟩ := O0
  obtain ⟨fd1, ds1, v1, b1, G1, q1⟩ := O1
  obtain ⟨fd2, ds2, v2, b2, G2, q2⟩ := O2
  obtain ⟨fd3, ds3, v3, b3, G3, q3⟩ := O3
  obtain ⟨fd4, ds4, v4, b4, G4, q4⟩ := O4
  obtain ⟨fd5, ds5, v5, b5, G5, q5⟩ := O5
  have hu1 := hu_of hr
  have hu64 := hr.units
  have tk : Takes (cxOf (L2.CX P w) P w K mg base N_law "law" (defScope s_law) f cdv A outer s H E) (fun c d _ H2 => E c d H2) := takes_of rfl rfl rfl rfl
  exact (pss_cons (ps_set (i := 1) sc_law.nd rfl (Or.inl rfl) (pe_cl G0 (hr.mono (by decide)) rfl T.g__law_mixed q0 b0 v0 tk (pa_cons (pe_cl G1 (hr.mono (by decide)) rfl T.g__law_cell_at q1 b1 v1 tk (pa_cons (pv 0) (pa_cons (pe_int) pa_nil))) (pa_cons (pe_int) pa_nil))))
    (pss_cons (ps_setLc (i := 3) (own := [("_law_k", 2)]) rfl sc_law.nd rfl rfl (sw_true rfl rfl rfl (by decide +kernel)) (pi_range1 rfl T.f_range (pa_cons (pe_op op_addU (pe_int) (pe_op op_modU (pv 1) (pe_int))) pa_nil)) (blkOk_by (own := [("_law_k", 2)]) (N := N_law) (sc := defScope s_law) (by decide +kernel)) (fun _ _ _ _ _ => (pg_name (i := 2) sc_law.nd rfl (Or.inl rfl))) (fun _ _ _ _ _ => pts_nil) (fun _ _ _ _ _ => (pe_op op_modU (pe_op op_divU (pe_cl G0 (hr.mono (by decide)) rfl T.g__law_mixed q0 b0 v0 takes0 (pa_cons (pe_cl G1 (hr.mono (by decide)) rfl T.g__law_cell_at q1 b1 v1 takes0 (pa_cons (pv 0) (pa_cons (pe_int) pa_nil))) (pa_cons (pv 2) pa_nil))) (pe_int)) (pe_int))))
    (Evl.pss_cut (ps_if (pt_cmpR (op_eqU hu64) (pe_op op_modU (pe_op op_divU (pv 1) (pe_int)) (pe_int)) (pe_int) (nomark _)) (pss_one (ps_set (i := 3) sc_law.nd rfl (Or.inl rfl) (pe_op op_mulU (pe_lst (pa_cons (pe_ix ix_seq (pe_lst (pa_cons (pe_int) (pa_cons (pe_int) pa_nil))) (pe_op op_modU (pe_op op_divU (pv 1) (pe_int)) (pe_int)) (fun _ _ => rfl)) pa_nil)) (pe_callB cr_lenK (by rfl) T.f_len bb_len (pa_cons (pv 3) pa_nil))))) pss_nil)
    (pss_cons (ps_set (i := 4) sc_law.nd rfl (Or.inl rfl) (pe_disp (pps_cons (pe_int) (pe_cl G2 (hr.mono (by decide)) rfl T.g_check_of q2 b2 v2 tk (pa_cons (pv 3) (pa_cons (pe_int) pa_nil))) (pps_cons (pe_int) (pe_cl G2 (hr.mono (by decide)) rfl T.g_check_of q2 b2 v2 tk (pa_cons (pv 3) (pa_cons (pe_int) pa_nil))) pps_nil)) (by rfl) (by rfl) (fun z => by cases z) (by decide)))
    (pss_cons (ps_for (passes_of rfl) rfl (pi_range2 rfl T.f_range (pa_cons (pe_int) (pa_cons (pe_callB (cr_min2K rfl) (by rfl) T.f_min bb_min (pa_cons (pe_int) (pa_cons (pe_callB cr_lenK (by rfl) T.f_len bb_len (pa_cons (pv 0) pa_nil)) pa_nil))) pa_nil))) (pg_name (i := 2) sc_law.nd rfl (Or.inl rfl)) (pss_cons (ps_set (i := 5) sc_law.nd rfl (Or.inl rfl) (pe_cl G0 (hr.mono (by decide)) rfl T.g__law_mixed q0 b0 v0 tk (pa_cons (pe_ix ix_seq (pv 0) (pv 2) (fun _ _ => rfl)) (pa_cons (pv 2) pa_nil))))
    (pss_cons (ps_set (i := 6) sc_law.nd rfl (Or.inl rfl) (pe_ix ix_seq (pe_lst (pa_cons (pe_int) (pa_cons (pe_int) pa_nil))) (pe_op op_modU (pv 5) (pe_int)) (fun _ _ => rfl)))
    (pss_cons (ps_set (i := 7) sc_law.nd rfl (Or.inl rfl) (pe_cl G3 (hr.mono (by decide)) rfl T.g__law_change q3 b3 v3 tk (pa_cons (pv 3) (pa_cons (pe_op op_divU (pv 5) (pe_int)) (pa_cons (pv 6) pa_nil)))))
    (pss_one (ps_if (PW.pt (pw_or (pt_cmpR (op_eqU hu64) (pv 7) (pv 3) (nomark _)) (pw_or1 (pt_cmpR (op_eqU hu64) (pe_cl G2 (hr.mono (by decide)) rfl T.g_check_of q2 b2 v2 tk (pa_cons (pv 7) (pa_cons (pv 6) pa_nil))) (pe_dget hu1 (pv 4) (pv 6) (fun _ _ => rfl)) (nomark _))))) (pss_one (ps_ret (pe_bl))) pss_nil))))))
    (pss_cons (ps_if (PW.pt (pw_or (pt_cmpR (op_neU hu64) (pe_cl G2 (hr.mono (by decide)) rfl T.g_check_of q2 b2 v2 tk (pa_cons (pv 3) (pa_cons (pe_int) pa_nil))) (pe_dget hu1 (pv 4) (pe_int) (fun _ _ => rfl)) (nomark _)) (pw_or1 (pt_cmpR (op_neU hu64) (pe_cl G4 (hr.mono (by decide)) rfl T.g_check_of q4 b4 v4 tk (pa_cons (pv 3) pa_nil)) (pe_dget hu1 (pv 4) (pe_int) (fun _ _ => rfl)) (nomark _))))) (pss_one (ps_ret (pe_bl))) pss_nil)
    (pss_cons (ps_set (i := 8) sc_law.nd rfl (Or.inr rfl) (pe_slice sl_K (pv 3) po_none (po_some (pe_op op_addU (pe_int) (pe_op op_modU (pe_op op_divU (pv 1) (pe_int)) (pe_int))))))
    (pss_cons (ps_setLc (i := 9) (own := [("_law_place", 10)]) rfl sc_law.nd rfl rfl (sw_true rfl rfl rfl (by decide +kernel)) (pi_range1 rfl T.f_range (pa_cons (pe_op op_mulU (pe_int) (pe_callB cr_lenK (by rfl) T.f_len bb_len (pa_cons (pv 8) pa_nil))) pa_nil)) (blkOk_by (own := [("_law_place", 10)]) (N := N_law) (sc := defScope s_law) (by decide +kernel)) (fun _ _ _ _ _ => (pg_name (i := 10) sc_law.nd rfl (Or.inl rfl))) (fun _ _ _ _ _ => pts_nil) (fun _ _ _ _ _ => (pe_cl G4 (hr.mono (by decide)) rfl T.g_check_of q4 b4 v4 takes0 (pa_cons (pe_cl G5 (hr.mono (by decide)) rfl T.g__law_turned q5 b5 v5 takes0 (pa_cons (pv 8) (pa_cons (pv 10) (pa_cons (pe_int) pa_nil)))) pa_nil))))
    (pss_one (ps_ret ((pe_and (pe_cmpR op_niU (pe_cl G4 (hr.mono (by decide)) rfl T.g_check_of q4 b4 v4 tk (pa_cons (pv 8) pa_nil)) (pv 9) (by rfl)) (pe_one (pe_cmpR (op_eqU hu64) (RZ.pe_lenSetI rfl T.f_len rfl T.f_set (pv 9)) (pe_callB cr_lenK (by rfl) T.f_len bb_len (pa_cons (pv 9) pa_nil)) (nomark _)))))))))))))))
theorem fn_law {P : Program} {w : World} {K : PySem.W.Frag} {mg : Str → Option Value} {base : Heap} (T : Tx K mg) {f : Addr} {fd : FuncData} (F : FunD K d_law.name d_law.qual d_law.params d_law.body d_law.scope (d_law.dvs K) (d_law.kws K) f fd) :
    FnOk P w K mg base (L2.CX P w) 6 f fd ["_law_script"] (sp_law K) :=
  F.ok sc_law (fun vs H Q E h => len_law h) (fun cdv A outer s H vs Q E hr h => ⟨t_law K (fun c d _ H2 => E c d H2), wk_law T (ok__law_mixed_2 T) (ok__law_cell_at_2 T) (ok_check_of_2 T) (ok__law_change_3 T) (ok_check_of_1 T) (ok__law_turned_3 T) hr, rd_law (of_KCheck T) h⟩)
end L2.BW
namespace L2.BW
open PySem PySem.Spec PyProof.Rows
theorem calmly {P : Program} {w : World} {K : PySem.W.Frag} {mg : Str → Option Value} {base : Heap} {k : Nat} {f : Addr} {fd : FuncData} {ps : List Str} {sp : Sp}
    (hE : ∀ vs H Q E, sp vs H Q E → sp vs H Q fun _ _ _ => False) (F : FnOk P w K mg base (L2.CX P w) k f fd ps sp) : FnOk P w K mg base CX0 k f fd ps sp :=
  ⟨F.len, fun A outer s H args us vs Q E hr he hb hv hs => codeAny_mono (F.run A outer s H args us vs Q _ hr he hb hv (hE _ _ _ _ hs)) fun r s' z => by
    match r, z with
    | .error e, z =>
      obtain ⟨_, _, _, _, _, _, _, _, _, _, _, _, z⟩ := z
      exact z.elim
    | .ok (.ret u), z => exact z⟩
end L2.BW
open PySem PySem.W PySem.Calls PyProof.Rows
theorem PySem.Challenge.cw_balepress_k05_whole_changes_told_holds : PySem.Challenge.rw_balepress_k05_whole_changes_told.Holds := by
  w_on; o_law
  refine HandSHeadRun.head_any (r := OpenLaw.row PySem.Challenge.rw_balepress_k05_whole_changes_told) (q := view (OpenLaw.row PySem.Challenge.rw_balepress_k05_whole_changes_told).prog [23]) (H := L2.BH.hk) (ob := L2.BH.ob) (M := 40000) (loose := L2.BH.loose) (d := HandSHeadRun.topDef (OpenLaw.row PySem.Challenge.rw_balepress_k05_whole_changes_told).prog 23) (kwd := [])
    L2.BH.ob_eq (by kernel_rfl) (fun s => by kernel_rfl) L2.BH.run (by kernel_rfl) (by kernel_rfl) (by kernel_rfl) (by rfl) (by first | assumption | decide +kernel) (by decide +kernel)
    ⟨rfl, rfl, rfl, rfl, rfl, by decide +kernel⟩ ?hw ?hc
  case hw => w_witness2
  case hc =>
    refine L2.walk_ofE (l := PySem.Challenge.rw_balepress_k05_whole_changes_told) (n := 63) (k := 6) (x := "_law_script") (CX := L2.CX0) rfl (by decide) (by kernel_rfl) ⟨rfl, by decide, by decide⟩ ?F (fun _ _ _ _ z => z)
    intro w mg fa h Y G hmg0
    obtain ⟨K, KX, c⟩ := Y
    have hmg : mg ("law" : PySem.Str) = some (.ref fa) := by
      have e : (HandSHeadRun.topDef (OpenLaw.row PySem.Challenge.rw_balepress_k05_whole_changes_told).prog 23).name = ("law" : PySem.Str) := by kernel_rfl
      exact e ▸ hmg0
    have T := L2.BW.tx_of KX G c
    obtain ⟨fd, F⟩ := T.d_law
    have e := hmg.symm.trans T.g_law
    cases e
    have b := L2.FunD.bindsA (ps := ["_law_script"]) F fun _ _ _ _ _ _ us hl => match us, hl with | [_], _ => rfl
    exact ⟨K, fd, L2.BR.sp_law K, KX, fun s v => b s [v] rfl, fun H a ns hl _ hS => ⟨a, ns, rfl, hS, hl, fun _ => rfl⟩, fun base _ _ => L2.BW.calmly (fun _ _ _ _ h => h) (L2.BW.fn_law T F)⟩
