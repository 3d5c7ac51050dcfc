import PyProof.Rows.All
import Wide.All
import OpenK.AllK
import Wide.FinOn
import HandS.ForMost
import HandS.ForExc
import HandS.Defaults
import HandS.CallSlots
import HandS.IsInst
import HandS.Style
import HandS.Small
import HandS.Conv
import HandS.TryElse
import HandS.HeadHook2
import HandS.Evl
import HandS.Flow
import HandS.Zip
import HandS.Text
import PyProof.StrOps2
import KE.KStateDown
import Lean
import HandS.HeadEnd
import HandS.Head0
import HandS.Head1
import HandS.Head2
import HandS.HeadHook1
import HandS.HeadHook4
import PySem.Challenge.RW_balepress_k17_raw_and_runs
set_option Elab.async false
set_option linter.all false
set_option maxRecDepth 100000
set_option maxHeartbeats 0
/-! BLib: rules that take several kinds of values at once, calls that may let an error out at the caller's slots, and a picture of the heap as a list of own objects over a base. -/
namespace L2.BP
open PySem PySem.Spec PyProof.Rows
section
variable {X : Cx}
/-! ### operators, by kinds -/
def rAddStr : R2 := fun x y H Q => ∃ i j, x = .str i ∧ y = .str j ∧ i.length + j.length ≤ sizeLine ∧ Q (.str (i ++ j)) H
def rAddI : R2 := rI0 fun i j => .int (i + j)
def rAddU : R2 := fun x y H Q => rAddI x y H Q ∨ rAddStr x y H Q ∨ rCat x y H Q
theorem op_addU : OpR X (binaryOp .Add) rAddU := OpR.or op_add (OpR.or op_add_str op_cat)
def rSubU : R2 := rI0 fun i j => .int (i - j)
theorem op_subU : OpR X (binaryOp .Sub) rSubU := op_sub
def rMulI : R2 := rI CMul fun i j => .int (i * j)
def repS (z : Str) (k : Nat) : Str := if k = 0 then Str.empty else if k = 1 ∨ z.length = 0 then z else ⟨(List.replicate k z.cps).foldl (· ++ ·) #[]⟩
def rRepS : R2 := fun x y H Q => ∃ (z : Str) (k : Nat), x = .str z ∧ y = .int ((k : Nat) : Int) ∧ k ≤ 1000 ∧ z.length ≤ 1000 ∧ (repS z k).length ≤ 1000000 ∧ Q (.str (repS z k)) H
theorem op_repS : OpR X (binaryOp .Mult) rRepS := by
  intro pins s σ H x y v u Q I rx ry h
  obtain ⟨z, k, rfl, rfl, hk, hz, hl, q⟩ := h
  obtain ⟨t, rfl⟩ := rx
  obtain ⟨t', rfl⟩ := ry
  have hm : z.length * k ≤ 1000 * 1000 := Nat.mul_le_mul hz hk
  refine PySem.P.mul_str ?_ ?_ ?_ ?_
  · rw [decide_eq_false (by omega), decide_eq_false (by omega)]
    rfl
  · intro h1 h2 h3
    have h4 : 9223372036854775 ≤ (2 ^ 63 - 1) / ((k : Nat) : Int) := by
      refine (Int.le_ediv_iff_mul_le (by omega)).mpr ?_
      omega
    omega
  · intro h1 h2
    unfold Builtin.Str.tooLong
    rw [Int.toNat_natCast]
    exact decide_eq_false (Nat.not_lt.mpr (Nat.le_trans hm (by decide)))
  · unfold repS at q hl
    by_cases h0 : k = 0
    · subst h0
      rw [if_pos rfl] at q
      rw [if_pos (by decide)]
      exact ⟨by decide, .str Str.empty, H, I.tok _, ⟨_, rfl⟩, q⟩
    · rw [if_neg h0] at q hl
      rw [if_neg (by omega)]
      by_cases h1 : k = 1 ∨ z.length = 0
      · rw [if_pos h1] at q
        have e : ((((k : Nat) : Int) == 1) || z.length == 0) = true := by
          rcases h1 with e | e
          · subst e
            rfl
          · rw [e]
            simp
        rw [e, if_pos rfl]
        exact ⟨.str z, H, I, ⟨_, rfl⟩, q⟩
      · rw [if_neg h1] at q hl
        have e : ((((k : Nat) : Int) == 1) || z.length == 0) = false := by
          have e1 : ¬ k = 1 := fun h => h1 (.inl h)
          have e2 : ¬ z.length = 0 := fun h => h1 (.inr h)
          have e3 : (((k : Nat) : Int) == 1) = false := by
            rw [beq_eq_false_iff_ne]
            omega
          have e4 : (z.length == 0) = false := by
            rw [beq_eq_false_iff_ne]
            exact e2
          rw [e3, e4]
          rfl
        rw [e, if_neg Bool.false_ne_true, Int.toNat_natCast]
        exact ⟨Nat.le_trans hl (by decide), .str _, H, I.tok _, ⟨_, rfl⟩, q⟩
def rMulU : R2 := fun x y H Q => rMulI x y H Q ∨ rRep x y H Q ∨ rRepS x y H Q
theorem op_mulU : OpR X (binaryOp .Mult) rMulU := OpR.or op_mul (OpR.or op_rep op_repS)
def rDivU : R2 := rI CDiv fun i j => .int (i / j)
theorem op_divU : OpR X (binaryOp .FloorDiv) rDivU := op_fdiv
def rModU : R2 := rI (fun _ j => 0 < j) fun i j => .int (i % j)
theorem op_modU : OpR X (binaryOp .Mod) rModU := op_mod
def rPowU : R2 := rI CPow fun i j => .int (i ^ j.toNat)
theorem op_powU : OpR X (binaryOp .Pow) rPowU := op_pow
def rShlU : R2 := rI CPow fun i j => .int (i * 2 ^ j.toNat)
theorem op_shlU : OpR X (binaryOp .LShift) rShlU := op_shl
def rShrU : R2 := rI (fun _ j => 0 ≤ j) fun i j => .int (i / 2 ^ j.toNat)
theorem op_shrU : OpR X (binaryOp .RShift) rShrU := op_shr
def rAndU : R2 := rI0 fun i j => .int (Builtin.bitAnd i j)
theorem op_andU : OpR X (binaryOp .BitAnd) rAndU := op_and
def rOrU : R2 := rI0 fun i j => .int (Builtin.bitOr i j)
theorem op_orU : OpR X (binaryOp .BitOr) rOrU := op_or
def rXorU : R2 := rI0 fun i j => .int (Builtin.bitXor i j)
theorem op_xorU : OpR X (binaryOp .BitXor) rXorU := op_xor
def rNegU : V → Hp → VK → Prop := rU fun i => .int (-i)
theorem un_negU : UnR X (unaryOp .USub) rNegU := un_neg
def rLtU : R2 := rI0 fun i j => .bl (decide (i < j))
theorem op_ltU : OpR X (compareOp .Lt) rLtU := op_lt
def rLeU : R2 := rI0 fun i j => .bl (decide (i ≤ j))
theorem op_leU : OpR X (compareOp .LtE) rLeU := op_le
def rGtU : R2 := rI0 fun i j => .bl (decide (j < i))
theorem op_gtU : OpR X (compareOp .Gt) rGtU := op_gt
def rGeU : R2 := rI0 fun i j => .bl (decide (j ≤ i))
theorem op_geU : OpR X (compareOp .GtE) rGeU := op_ge
def rEqU (K : PySem.W.Frag) : R2 := fun x y H Q => rEq x y H Q ∨ rEqD K x y H Q
theorem op_eqU (hu : X.A.units + 64 < cLine) : OpR X (compareOp .Eq) (rEqU X.K) := OpR.or op_eq (op_eqD hu)
def rNeU (K : PySem.W.Frag) : R2 := fun x y H Q => rNe x y H Q ∨ rNeD K x y H Q
theorem op_neU (hu : X.A.units + 64 < cLine) : OpR X (compareOp .NotEq) (rNeU X.K) := OpR.or op_ne (op_neD hu)
def rInStr : R2 := fun x y H Q => ∃ i j, x = .str i ∧ y = .str j ∧ Q (.bl (!(Builtin.Str.occurrences j i 0 j.length 1).isEmpty)) H
def rNiStr : R2 := fun x y H Q => ∃ i j, x = .str i ∧ y = .str j ∧ Q (.bl (!(!(Builtin.Str.occurrences j i 0 j.length 1).isEmpty))) H
def rInU (K : PySem.W.Frag) : R2 := fun x y H Q => rIn K false x y H Q ∨ rInStr x y H Q
theorem op_inU : OpR X (compareOp .In) (rInU X.K) := OpR.or op_in_seq op_in_str
def rNiU (K : PySem.W.Frag) : R2 := fun x y H Q => rIn K true x y H Q ∨ rNiStr x y H Q
theorem op_niU : OpR X (compareOp .NotIn) (rNiU X.K) := OpR.or op_notIn_seq op_notIn_str
def rIsNo : R2 := fun x y H Q => y = .non ∧ Q (.bl (decide (x = .non))) H
def rNotNo : R2 := fun x y H Q => y = .non ∧ Q (.bl (!decide (x = .non))) H
def rIsU : R2 := fun x y H Q => rIsNo x y H Q ∨ rIsB x y H Q
theorem op_isU : OpR X (compareOp .Is) rIsU := OpR.or op_isN op_isBl
def rNotU : R2 := fun x y H Q => rNotNo x y H Q ∨ rNotB x y H Q
theorem op_notU : OpR X (compareOp .IsNot) rNotU := OpR.or op_notN op_notBl
/-! ### in place -/
def ipAddI : TIp := ipI fun i j => i + j
def ipAddU : TIp := fun x y H Q => ipAddI x y H Q ∨ rExt2 x y H Q ∨ rAddStr x y H Q
theorem ip_addU : PIp X .Add ipAddU := fun pins s σ H x y v u Q I rx ry h => by
  rcases h with h | h | h
  · exact ip_add pins s σ H x y v u Q I rx ry h
  · exact iop_ext pins s σ H x y v u Q I rx ry h
  · exact iop_add_str pins s σ H x y v u Q I rx ry h
def ipSubU : TIp := ipI fun i j => i - j
theorem ip_subU : PIp X .Sub ipSubU := ip_sub
/-! ### slices, walks -/

end
end L2.BP
namespace L2.BP
open PySem PySem.Spec PyProof.Rows
/-! ### calls that may let an error out, wished for at the caller's slots -/
section
variable {X : Cx} {k : Nat} {f C : Addr} {fd : FuncData} {ps : List Str} {sp : Sp} {dvs : List V} {ds : List Value} {W : WX} {x m : Str} {p pos apos : Pos} {e o : Expr} {es : List Expr} {ta : TE} {t : TA}
/-- f(e, ..) -/
def tCl (sp : Sp) (dvs : List V) (W : WX) (t : TA) : TE := fun σ H Q => t σ H fun vs H1 => sp (vs ++ dvs) H1 Q fun c d H2 => W c d σ H2
theorem pe_cl (F : FnOk X.prog X.w X.K X.mg X.base (L2.CX X.prog X.w) k f fd ps sp) (hr : Room k X.A) (hg : Gl X x) (hm : X.mg x = some (.ref f)) (hk : PySem.W.keepIn X.K (.ref f) = true)
    (hb : Binds X.K fd ps ds) (hd : Vals dvs ds) (tk : Takes X W) (ha : PA X (e :: es) t) (hdb : (x == ("__debug__" : Str)) = false := by decide)
    (he : starEach (e :: es) X.env = (false, eval e X.env) :: starEach es X.env := by rfl) (hpl : (backTo pos (starEach es X.env)).any (·.1) = false := by rfl) :
    PE X (.Call (.Name x p) (e :: es) [] pos) (tCl sp dvs W t) :=
  pe_callSD (E := WE W) F hr hg hm hk hb hd (fun σ => passAt tk σ) ha hdb he hpl
theorem pe_cl0 (F : FnOk X.prog X.w X.K X.mg X.base (L2.CX X.prog X.w) k f fd ps sp) (hr : Room k X.A) (hg : Gl X x) (hm : X.mg x = some (.ref f)) (hk : PySem.W.keepIn X.K (.ref f) = true)
    (hb : Binds X.K fd ps ds) (hd : Vals dvs ds) (tk : Takes X W) (hdb : (x == ("__debug__" : Str)) = false := by decide) :
    PE X (.Call (.Name x p) [] [] pos) (tCl sp dvs W tNil) := by
  constructor
  intro pins s σ H Q I h
  have go := run_fnSD (E := WE W) (us := []) F hr hb hd (passAt tk σ) I .nil h
  exact wpAny_Call_Name_kw (ld_glob I hg hm (PySem.W.callWith_K0 I.kIn hk go) hdb)
/-- o.m(e, ..) -/
def tMt (C : Addr) (m : Str) (sp : Sp) (dvs : List V) (W : WX) (ta : TE) (t : TA) : TE := fun σ H Q => ta σ H fun x H1 => ∃ a dx fs, x = .ref a ∧ H1 a = some (.ins C dx fs) ∧ fs.lookup m = none ∧
  t σ H1 fun vs H2 => sp (x :: (vs ++ dvs)) H2 Q fun c d H3 => W c d σ H3
theorem pe_mt' {pl : Sem Bool} (he : PE X o ta) (c : Cls X.K C) (hm : Meth X.K C m f) (F : FnOk X.prog X.w X.K X.mg X.base (L2.CX X.prog X.w) k f fd ps sp) (hr : Room k X.A)
    (hb : Binds X.K fd ps ds) (hd : Vals dvs ds) (tk : Takes X W) (ha : PA X (e :: es) t)
    (hst : starEach (e :: es) X.env = (false, eval e X.env) :: starEach es X.env := by rfl) (hpl : (backTo pos (starEach es X.env)).any (·.1) = false := by rfl)
    (ht : eval (.Call (.Attribute o m apos) (e :: es) [] pos) X.env = (do
      let ov ← eval o X.env; standAt apos.atName
      let (f, first) ← holding [ov] (getMethod ov m pl); callWith pos f first (backTo pos (starEach (e :: es) X.env)) (backToKw pos (keywordEach [] X.env))) := by rfl) :
    PE X (.Call (.Attribute o m apos) (e :: es) [] pos) (tMt C m sp dvs W ta t) := by
  constructor
  intro pins s σ H Q I h
  refine PySem.W.methodCall_KW (pl := pl) (thn (he.run pins s σ H _ I h) ?_) ht
  rintro u s1 ⟨x, H1, I1, rx, a, dx, fs, rfl, ea, l, q⟩
  cases (show u = Value.ref a from rx)
  refine getmeth_ok I1 ea c hm l (PySem.W.callWith_K (first := [.ref a]) (h₀ := X.base) I.ok.mod.kin hm.kp ?_ hst hpl)
  refine thn (ha.run pos pins s1 σ H1 _ I1 q) ?_
  rintro us s2 ⟨vs, H2, I2, r, q2⟩
  exact ⟨I2.kIn, run_fnSD (E := WE W) (us := .ref a :: us) (vs := .ref a :: vs) F hr hb hd (passAt tk σ) I2 (.cons rfl r) q2⟩
theorem pe_mt0' {pl : Sem Bool} (he : PE X o ta) (c : Cls X.K C) (hm : Meth X.K C m f) (F : FnOk X.prog X.w X.K X.mg X.base (L2.CX X.prog X.w) k f fd ps sp) (hr : Room k X.A)
    (hb : Binds X.K fd ps ds) (hd : Vals dvs ds) (tk : Takes X W)
    (ht : eval (.Call (.Attribute o m apos) [] [] pos) X.env = (do
      let ov ← eval o X.env; standAt apos.atName
      let (f, first) ← holding [ov] (getMethod ov m pl); callWith pos f first (backTo pos (starEach [] X.env)) (backToKw pos (keywordEach [] X.env))) := by rfl) :
    PE X (.Call (.Attribute o m apos) [] [] pos) (tMt C m sp dvs W ta tNil) := by
  constructor
  intro pins s σ H Q I h
  refine PySem.W.methodCall_KW (pl := pl) (thn (he.run pins s σ H _ I h) ?_) ht
  rintro u s1 ⟨x, H1, I1, rx, a, dx, fs, rfl, ea, l, q⟩
  cases (show u = Value.ref a from rx)
  refine getmeth_ok I1 ea c hm l ?_
  have go := run_fnSD (E := WE W) (us := [.ref a]) (vs := [.ref a]) F hr hb hd (passAt tk σ) I1 (.cons rfl .nil) q
  exact PySem.W.callWith_K0 (first := [.ref a]) I1.kIn hm.kp go
/-- C(e, ..) -/
def tMk (C : Addr) (sp : Sp) (dvs : List V) (W : WX) (t : TA) : TE := fun σ H Q => t σ H fun vs H1 => ∀ x dx, H1 x = none → H1 dx = none → dx ≠ x →
  sp (.ref x :: (vs ++ dvs)) (upd (upd H1 dx (.own x)) x (.ins C dx [])) (fun v H2 => v = .non ∧ Q (.ref x) H2) fun c d H2 => W c d σ H2
theorem run_mk {pins : List (Addr × Obj)} {σ : St} {H : Hp} {s : Shared} {Q : VK} {us : List Value} {vs : List V} (M : Mk X.K C f) (F : FnOk X.prog X.w X.K X.mg X.base (L2.CX X.prog X.w) k f fd ps sp) (hr : Room (k + 1) X.A)
    (hb : Binds X.K fd ps ds) (hd : Vals dvs ds) (tk : Takes X W) (I : Inv X pins σ H s) (r : Vals vs us)
    (h : ∀ x dx, H x = none → H dx = none → dx ≠ x → sp (.ref x :: (vs ++ dvs)) (upd (upd H dx (.own x)) x (.ins C dx [])) (fun v H2 => v = .non ∧ Q (.ref x) H2) fun c d H2 => W c d σ H2) :
    wpAny (model X.prog X.w) X.A (call (.ref C) us) (EP X pins σ Q) X.xe s := by
  have hq := h (s.heap.objs.size + 1) s.heap.objs.size (I.hok.fresh (Nat.le_succ _)) (I.hok.fresh (Nat.le_refl _)) (Nat.ne_of_lt (Nat.lt_succ_self _))
  have J := Inv.made (C := C) I
  have rr : Vals (V.ref (s.heap.objs.size + 1) :: (vs ++ dvs)) (Value.ref (s.heap.objs.size + 1) :: (us ++ ds)) := .cons rfl (r.append hd)
  have hl : (Value.ref (s.heap.objs.size + 1) :: us ++ ds).length = ps.length := by
    have e1 := rr.length
    rw [F.len _ _ _ _ hq] at e1
    exact e1.symm
  have run := F.run _ X.stack _ _ ⟨Value.ref (s.heap.objs.size + 1) :: us, []⟩ (Value.ref (s.heap.objs.size + 1) :: (us ++ ds)) _ _ _ (hr.make C us []) (J.env0.make C us []) (hb _ (Value.ref (s.heap.objs.size + 1) :: us) J.kIn hl) rr hq
  refine wpAny_call (make_map (f := f) I.kIn M.makes M.init (beq_iff_eq.mp M.fn) (codeAny_mono run ?_))
  intro r s' z
  match r, z with
  | .error e, z => exact (passAt tk σ) pins _ _ e s' J z
  | .ok (.ret u), z =>
    obtain ⟨v, H', J3, rv, ev, q3⟩ := J.after z
    subst ev
    exact ⟨rv, ⟨V.ref (s.heap.objs.size + 1), H', J3, rfl, q3⟩⟩
theorem pe_mk' (M : Mk X.K C f) (F : FnOk X.prog X.w X.K X.mg X.base (L2.CX X.prog X.w) k f fd ps sp) (hr : Room (k + 1) X.A) (hg : Gl X x) (hm : X.mg x = some (.ref C))
    (hb : Binds X.K fd ps ds) (hd : Vals dvs ds) (tk : Takes X W) (ha : PA X (e :: es) t) (hdb : (x == ("__debug__" : Str)) = false := by decide)
    (he : starEach (e :: es) X.env = (false, eval e X.env) :: starEach es X.env := by rfl) (hpl : (backTo pos (starEach es X.env)).any (·.1) = false := by rfl) :
    PE X (.Call (.Name x p) (e :: es) [] pos) (tMk C sp dvs W t) := by
  constructor
  intro pins s σ H Q I h
  refine wpAny_Call_Name_kw (ld_glob I hg hm (PySem.W.callWith_K (h₀ := X.base) I.ok.mod.kin M.kp ?_ he hpl) hdb)
  refine thn (ha.run pos pins s σ H _ I h) ?_
  rintro us s1 ⟨vs, H1, I1, r, q⟩
  exact ⟨I1.kIn, run_mk M F hr hb hd tk I1 r q⟩
theorem pe_mk0' (M : Mk X.K C f) (F : FnOk X.prog X.w X.K X.mg X.base (L2.CX X.prog X.w) k f fd ps sp) (hr : Room (k + 1) X.A) (hg : Gl X x) (hm : X.mg x = some (.ref C))
    (hb : Binds X.K fd ps ds) (hd : Vals dvs ds) (tk : Takes X W) (hdb : (x == ("__debug__" : Str)) = false := by decide) :
    PE X (.Call (.Name x p) [] [] pos) (tMk C sp dvs W tNil) := by
  constructor
  intro pins s σ H Q I h
  have go := run_mk (us := []) M F hr hb hd tk I .nil h
  exact wpAny_Call_Name_kw (ld_glob I hg hm (PySem.W.callWith_K0 I.kIn M.kp go) hdb)
end
/-! ### an error raised -/
def tRz (C : Addr) (W : WX) : TS := fun _ σ H => W (.ref C) none σ H
theorem ps_rz {X : Cx} {W : WX} {C : Addr} {x m : Str} {j : Nat} {p p2 pos pos2 : Pos} (hc : X.calm = true) (tk : Takes X W) (q : PySem.W.excIn X.K C He.veBase "ValueError.__new__" = true ∧ PySem.W.keepIn X.K (.ref C) = true ∧ PySem.W.subIn X.K (.ref C) (.type "BaseException") = some true ∧ PySem.W.typeIn X.K (.ref C) = some (.type "type"))
    (gC : X.mg x = some (.ref C)) (hg : Gl X x) (hdb : (x == ("__debug__" : Str)) = false := by decide) :
    PS X (.Raise (some (.Call (.Name x p) [.Constant (.str m) j p2] [] pos)) none pos2) (tRz C W) :=
  ps_raise hc tk (pmk_own PySem.F.excBase_ValueError q.1 gC q.2.1 (raises_own q.2.2.1 q.2.2.2) hg hdb)
/-! ### names of the module -/
section
variable {X : Cx} {x : Str} {pos : Pos}
theorem pe_gint {i : Int} (hg : Gl X x) (hm : ∃ t, X.mg x = some (.int i t)) (hd : (x == ("__debug__" : Str)) = false := by decide) : PE X (.Name x pos) (tC (.int i)) :=
  hm.elim fun t h => pe_glob (v := .int i) hg h ⟨t, rfl⟩ hd
theorem pe_gstr {z : Str} (hg : Gl X x) (hm : ∃ t, X.mg x = some (.str z t)) (hd : (x == ("__debug__" : Str)) = false := by decide) : PE X (.Name x pos) (tC (.str z)) :=
  hm.elim fun t h => pe_glob (v := .str z) hg h ⟨t, rfl⟩ hd
theorem pe_gref {a : Addr} (hg : Gl X x) (hm : X.mg x = some (.ref a)) (hd : (x == ("__debug__" : Str)) = false := by decide) : PE X (.Name x pos) (tC (.ref a)) := pe_glob (v := .ref a) hg hm rfl hd
theorem pe_bty {n : String} (hg : Gl X x) (hm : X.mg x = none) (hv : bootBuiltins x = some (.type n)) (hn : x ≠ "__name__" := by decide) (hd : (x == ("__debug__" : Str)) = false := by decide) : PE X (.Name x pos) (tC (.ty n)) := pe_bltn (v := .ty n) hg hm hv rfl hn hd
end
theorem bt_int : bootBuiltins "int" = some (.type "int") := by decide +kernel
theorem bt_bool : bootBuiltins "bool" = some (.type "bool") := by decide +kernel
theorem bt_str : bootBuiltins "str" = some (.type "str") := by decide +kernel
theorem bt_list : bootBuiltins "list" = some (.type "list") := by decide +kernel
theorem bt_tuple : bootBuiltins "tuple" = some (.type "tuple") := by decide +kernel
theorem bt_dict : bootBuiltins "dict" = some (.type "dict") := by decide +kernel
theorem bt_ValueError : bootBuiltins "ValueError" = some (.type "ValueError") := by decide +kernel
theorem bt_set : bootBuiltins "set" = some (.type "set") := by decide +kernel
theorem bb_len : bootBuiltins "len" = some (.builtin "len") := by decide +kernel
theorem bb_isinstance : bootBuiltins "isinstance" = some (.builtin "isinstance") := by decide +kernel
theorem bb_all : bootBuiltins "all" = some (.builtin "all") := by decide +kernel
theorem bb_any : bootBuiltins "any" = some (.builtin "any") := by decide +kernel
theorem bb_sum : bootBuiltins "sum" = some (.builtin "sum") := by decide +kernel
theorem bb_min : bootBuiltins "min" = some (.builtin "min") := by decide +kernel
theorem bb_max : bootBuiltins "max" = some (.builtin "max") := by decide +kernel
theorem bb_abs : bootBuiltins "abs" = some (.builtin "abs") := by decide +kernel
theorem bb_divmod : bootBuiltins "divmod" = some (.builtin "divmod") := by decide +kernel
theorem bb_sorted : bootBuiltins "sorted" = some (.builtin "sorted") := by decide +kernel
theorem bb_repr : bootBuiltins "repr" = some (.builtin "repr") := by decide +kernel
/-! ### calls of built-ins by several kinds -/
section
variable {X : Cx}
def rLenK (K : PySem.W.Frag) : List V → Hp → VK → Prop := fun xs H Q => ∃ x n, xs = [x] ∧ LenV K x H n ∧ Q (.int n) H
theorem cr_lenK : CallR X (.builtin "len") (rLenK X.K) := call_len
def rIntK : List V → Hp → VK → Prop := fun xs H Q => (∃ i, xs = [.int i] ∧ Q (.int i) H) ∨ ∃ k, xs = [.bl k] ∧ Q (.int (if k then 1 else 0)) H
theorem cr_intK : CallR X (.type "int") rIntK := call_int1
def rListK (K : PySem.W.Frag) : List V → Hp → VK → Prop := fun xs H Q => ∃ p ys, xs = [.ref p] ∧ (SqL K H p ys ∨ SqT K H p ys) ∧ ∀ l, H l = none → Q (.ref l) (upd H l (.lst ys))
theorem cr_listK : CallR X (.type "list") (rListK X.K) := call_list_of
def rTupleK (K : PySem.W.Frag) : List V → Hp → VK → Prop := fun xs H Q => ∃ p ys, xs = [.ref p] ∧ ((SqL K H p ys ∧ ∀ l, H l = none → Q (.ref l) (upd H l (.tup ys))) ∨ (SqT K H p ys ∧ Q (.ref p) H))
theorem cr_tupleK : CallR X (.type "tuple") (rTupleK X.K) := call_tuple_of
def rDivmodK : List V → Hp → VK → Prop := fun xs H Q => ∃ i j, xs = [.int i, .int j] ∧ CDiv i j ∧ ∀ p, H p = none → Q (.ref p) (upd H p (.tup [.int (i / j), .int (i % j)]))
theorem cr_divmodK : CallR X (.builtin "divmod") rDivmodK := call_divmod
def rMax2K : List V → Hp → VK → Prop := fun xs H Q => ∃ i j, xs = [.int i, .int j] ∧ Q (.int (if j > i then j else i)) H
theorem cr_max2K (hc : X.calm = true) : CallR X (.builtin "max") rMax2K := call_max2 hc
def rMin2K : List V → Hp → VK → Prop := fun xs H Q => ∃ i j, xs = [.int i, .int j] ∧ Q (.int (if j < i then j else i)) H
theorem cr_min2K (hc : X.calm = true) : CallR X (.builtin "min") rMin2K := call_min2 hc
def rAbsK : List V → Hp → VK → Prop := fun xs H Q => ∃ i, xs = [.int i] ∧ Q (.int (if i < 0 then -i else i)) H
theorem cr_absK : CallR X (.builtin "abs") rAbsK := call_abs
def rSlK (K : PySem.W.Frag) : V → Option Int → Option Int → Hp → VK → Prop := fun x lo hi H Q => rSlL K x lo hi H Q ∨ rSlS x lo hi H Q ∨ rSlT K x lo hi H Q
theorem sl_K : SlR X (rSlK X.K) := SlR.or sl_list (SlR.or sl_str sl_tup)
end
end L2.BP
namespace L2.BP
open PySem PySem.Spec PyProof.Rows
/-! ### the heap as own objects over a base -/
structure Hs (B : Hp) (L : List (Addr × HO)) (H : Hp) : Prop where
  ex : Same B H
  nd : (L.map (·.1)).Nodup
  own : ∀ q ∈ L, H q.1 = some q.2 ∧ B q.1 = none
section
variable {B H H' : Hp} {L : List (Addr × HO)} {p : Addr} {o o' : HO} {K : PySem.W.Frag}
theorem Hs.start (H : Hp) : Hs H [] H := ⟨Same.refl H, .nil, fun _ h => nomatch h⟩
theorem Hs.same (h : Hs B L H) (s : Same H H') : Hs B L H' := ⟨h.ex.trans s, h.nd, fun q m => ⟨s _ _ (h.own q m).1, (h.own q m).2⟩⟩
theorem Hs.newS (h : Hs B L H) (hp : H p = none) (s : Same H H') (hn : H' p = some o) : Hs B ((p, o) :: L) H' where
  ex := h.ex.trans s
  nd := by
    refine List.nodup_cons.mpr ⟨fun m => ?_, h.nd⟩
    obtain ⟨q, mq, e⟩ := List.mem_map.mp m
    have z := (h.own q mq).1
    rw [e, hp] at z
    cases z
  own := fun q m => by
    rcases List.mem_cons.mp m with rfl | m
    · exact ⟨hn, h.ex.free hp⟩
    · exact ⟨s _ _ (h.own q m).1, (h.own q m).2⟩
theorem same_upd (hp : H p = none) : Same H (upd H p o) := fun b u e => by rw [upd_ne (ne_of_none e hp)]; exact e
theorem Hs.new (h : Hs B L H) (hp : H p = none) : Hs B ((p, o) :: L) (upd H p o) := h.newS hp (same_upd hp) upd_same
theorem Hs.drop {q : Addr × HO} (h : Hs B (q :: L) H) : Hs B L H := ⟨h.ex, (List.nodup_cons.mp h.nd).2, fun z m => h.own z (List.mem_cons_of_mem _ m)⟩
theorem Hs.get (h : Hs B L H) (m : (p, o) ∈ L) : H p = some o := (h.own _ m).1
theorem Hs.nb (h : Hs B L H) (m : (p, o) ∈ L) : B p = none := (h.own _ m).2
/-- the first of the own objects changed -/
theorem Hs.chg (h : Hs B ((p, o) :: L) H) (k : ∀ b u, b ≠ p → H b = some u → H' b = some u) (hn : H' p = some o') : Hs B ((p, o') :: L) H' where
  ex := fun b u e => k b u (ne_of_none e (h.nb (o := o) (.head _))) (h.ex b u e)
  nd := h.nd
  own := fun q m => by
    rcases List.mem_cons.mp m with rfl | m
    · exact ⟨hn, h.nb (o := o) (.head _)⟩
    · refine ⟨k _ _ (fun z => ?_) (h.own q (.tail _ m)).1, (h.own q (.tail _ m)).2⟩
      exact (List.nodup_cons.mp h.nd).1 (List.mem_map.mpr ⟨q, m, z⟩)
theorem Hs.perm {L' : List (Addr × HO)} (h : Hs B L H) (q : L.Perm L') : Hs B L' H := ⟨h.ex, (q.map _).nodup_iff.mp h.nd, fun z m => h.own z (q.mem_iff.mpr m)⟩
theorem Hs.swap {a b : Addr × HO} (h : Hs B (a :: b :: L) H) : Hs B (b :: a :: L) H := h.perm (.swap b a L)
theorem Hs.rot3 {a b c : Addr × HO} (h : Hs B (a :: b :: c :: L) H) : Hs B (c :: a :: b :: L) H := h.perm ((List.Perm.cons a (.swap c b L)).trans (.swap c a (b :: L)))
theorem Hs.unrot3 {a b c : Addr × HO} (h : Hs B (c :: a :: b :: L) H) : Hs B (a :: b :: c :: L) H := h.perm (((List.Perm.cons a (.swap c b L)).trans (.swap c a (b :: L))).symm)
theorem Hs.u0 (h : Hs B ((p, o) :: L) H) : Hs B ((p, o') :: L) (upd H p o') := h.chg (fun b u n e => by rw [upd_ne n]; exact e) upd_same
theorem Hs.u1 {a : Addr × HO} (h : Hs B (a :: (p, o) :: L) H) : Hs B (a :: (p, o') :: L) (upd H p o') := h.swap.u0.swap
theorem Hs.u2 {a b : Addr × HO} (h : Hs B (a :: b :: (p, o) :: L) H) : Hs B (a :: b :: (p, o') :: L) (upd H p o') := h.rot3.u0.unrot3
theorem Hs.u3 {a b c : Addr × HO} (h : Hs B (a :: b :: c :: (p, o) :: L) H) : Hs B (a :: b :: c :: (p, o') :: L) (upd H p o') := by
  have e : (a :: b :: c :: (p, o) :: L).Perm ((p, o) :: a :: b :: c :: L) := (List.perm_middle (l₁ := [a, b, c]) (a := (p, o)) (l₂ := L))
  have e' : ((p, o') :: a :: b :: c :: L).Perm (a :: b :: c :: (p, o') :: L) := (List.perm_middle (l₁ := [a, b, c]) (a := (p, o')) (l₂ := L)).symm
  exact ((h.perm e).u0 (o' := o')).perm e'
/-- the first one is laid to the base: it changes no more -/
theorem Hs.fix (h : Hs B ((p, o) :: L) H) : Hs (upd B p o) L H where
  ex := fun b u e => by
    by_cases hb : b = p
    · subst hb
      rw [upd_same] at e
      cases e
      exact h.get (.head _)
    · rw [upd_ne hb] at e
      exact h.ex b u e
  nd := (List.nodup_cons.mp h.nd).2
  own := fun q m => by
    refine ⟨(h.own q (.tail _ m)).1, ?_⟩
    have n : q.1 ≠ p := fun z => (List.nodup_cons.mp h.nd).1 (List.mem_map.mpr ⟨q, m, z⟩)
    rw [upd_ne n]
    exact (h.own q (.tail _ m)).2
theorem Hs.sql {xs : List V} (h : Hs B L H) (m : (p, HO.lst xs) ∈ L) : SqL K H p xs := .of (h.get m)
theorem Hs.sqt {xs : List V} (h : Hs B L H) (m : (p, HO.tup xs) ∈ L) : SqT K H p xs := .of (h.get m)
theorem Hs.bl {xs : List V} (h : Hs B L H) (m : SqL K B p xs) : SqL K H p xs := h.ex.seq m
theorem same_sqt {xs : List V} (e : Same H H') (h : SqT K H p xs) : SqT K H' p xs := by
  rcases h with (h | ⟨u, h⟩) | h
  · exact .inl (.inl (e _ _ h))
  · exact .inl (.inr ⟨u, e _ _ h⟩)
  · exact .inr h
theorem Hs.bt {xs : List V} (h : Hs B L H) (m : SqT K B p xs) : SqT K H p xs := same_sqt h.ex m
mutual
theorem dp_same (e : Same H H') : ∀ {v : V} {d : PyData}, Dp K H v d → Dp K H' v d
  | _, _, .non => .non
  | _, _, .bl b => .bl b
  | _, _, .int i => .int i
  | _, _, .str x => .str x
  | _, _, .lst h a => .lst (e.seq h) (dpa_same e a)
  | _, _, .tup h a => .tup (same_sqt e h) (dpa_same e a)
theorem dpa_same (e : Same H H') : ∀ {vs : List V} {ds : List PyData}, DpAll K H vs ds → DpAll K H' vs ds
  | _, _, .nil => .nil
  | _, _, .cons h a => .cons (dp_same e h) (dpa_same e a)
end
theorem dpa_ints : ∀ ns : List Int, DpAll K H (ns.map V.int) (ns.map PyData.int)
  | [] => .nil
  | n :: r => .cons (.int n) (dpa_ints r)
end
/-! ### readings, step by step -/
section
variable {σ : St} {H : Hp} {Q : VK} {v x y : V} {i j : Int} {ta tb te : TE} {K : PySem.W.Frag} {r : R2} {B : Hp} {L : List (Addr × HO)}
theorem c_var {n : Nat} (h : σ[n]? = some (some v)) (k : Q v H) : tVar n σ H Q := ⟨v, h, k⟩
theorem c_c (k : Q v H) : tC v σ H Q := k
theorem c_op (k : ta σ H fun x H1 => tb σ H1 fun y H2 => r x y H2 Q) : tOp r ta tb σ H Q := k
theorem c_un {r : V → Hp → VK → Prop} (k : ta σ H fun x H1 => r x H1 Q) : tUn r ta σ H Q := k
theorem c_addI (k : Q (.int (i + j)) H) : rAddU (.int i) (.int j) H Q := .inl ⟨i, j, rfl, rfl, k⟩
theorem c_addS {a b : Str} (h : a.length + b.length ≤ sizeLine) (k : Q (.str (a ++ b)) H) : rAddU (.str a) (.str b) H Q := .inr (.inl ⟨a, b, rfl, rfl, h, k⟩)
theorem c_addL {p q : Addr} {xs ys : List V} (h : Hs B L H) (hp : H p = some (.lst xs)) (hq : H q = some (.lst ys)) (hl : xs.length + ys.length ≤ sizeLine)
    (k : ∀ a H', Hs B ((a, .lst (xs ++ ys)) :: L) H' → Q (.ref a) H') : rAddU (.ref p) (.ref q) H Q :=
  .inr (.inr ⟨p, q, xs, ys, rfl, rfl, hp, hq, hl, fun a ha => k a _ (h.new ha)⟩)
theorem c_sub (k : Q (.int (i - j)) H) : rSubU (.int i) (.int j) H Q := ⟨i, j, rfl, rfl, k⟩
theorem c_mulI (h : CMul i j) (k : Q (.int (i * j)) H) : rMulU (.int i) (.int j) H Q := .inl ⟨i, j, rfl, rfl, h, k⟩
theorem c_rep {p : Addr} {xs : List V} (h : Hs B L H) (hp : H p = some (.lst xs)) (h1 : -(2 ^ 63) ≤ j) (h2 : j < 2 ^ 63) (hl : xs.length * j.toNat ≤ sizeLine)
    (k : ∀ a H', Hs B ((a, .lst (List.replicate j.toNat xs).flatten) :: L) H' → Q (.ref a) H') : rMulU (.ref p) (.int j) H Q :=
  .inr (.inl ⟨p, j, xs, rfl, rfl, hp, h1, h2, hl, fun a ha => k a _ (h.new ha)⟩)
theorem c_repS {z : Str} {n : Nat} (e : j = ((n : Nat) : Int)) (h1 : n ≤ 1000) (h2 : z.length ≤ 1000) (h3 : (repS z n).length ≤ 1000000) (k : Q (.str (repS z n)) H) : rMulU (.str z) (.int j) H Q := .inr (.inr ⟨z, n, rfl, by rw [e], h1, h2, h3, k⟩)
theorem c_div (h : CDiv i j) (k : Q (.int (i / j)) H) : rDivU (.int i) (.int j) H Q := ⟨i, j, rfl, rfl, h, k⟩
theorem c_mod (h : 0 < j) (k : Q (.int (i % j)) H) : rModU (.int i) (.int j) H Q := ⟨i, j, rfl, rfl, h, k⟩
theorem c_pow (h : CPow i j) (k : Q (.int (i ^ j.toNat)) H) : rPowU (.int i) (.int j) H Q := ⟨i, j, rfl, rfl, h, k⟩
theorem c_shl (h : CPow i j) (k : Q (.int (i * 2 ^ j.toNat)) H) : rShlU (.int i) (.int j) H Q := ⟨i, j, rfl, rfl, h, k⟩
theorem c_shr (h : 0 ≤ j) (k : Q (.int (i / 2 ^ j.toNat)) H) : rShrU (.int i) (.int j) H Q := ⟨i, j, rfl, rfl, h, k⟩
theorem c_and (k : Q (.int (Builtin.bitAnd i j)) H) : rAndU (.int i) (.int j) H Q := ⟨i, j, rfl, rfl, k⟩
theorem c_or (k : Q (.int (Builtin.bitOr i j)) H) : rOrU (.int i) (.int j) H Q := ⟨i, j, rfl, rfl, k⟩
theorem c_xor (k : Q (.int (Builtin.bitXor i j)) H) : rXorU (.int i) (.int j) H Q := ⟨i, j, rfl, rfl, k⟩
theorem c_neg (k : Q (.int (-i)) H) : rNegU (.int i) H Q := ⟨i, rfl, k⟩
theorem c_lt (k : Q (.bl (decide (i < j))) H) : rLtU (.int i) (.int j) H Q := ⟨i, j, rfl, rfl, k⟩
theorem c_le (k : Q (.bl (decide (i ≤ j))) H) : rLeU (.int i) (.int j) H Q := ⟨i, j, rfl, rfl, k⟩
theorem c_gt (k : Q (.bl (decide (j < i))) H) : rGtU (.int i) (.int j) H Q := ⟨i, j, rfl, rfl, k⟩
theorem c_ge (k : Q (.bl (decide (j ≤ i))) H) : rGeU (.int i) (.int j) H Q := ⟨i, j, rfl, rfl, k⟩
theorem dec_of {p q : Prop} [Decidable p] [Decidable q] (h : p ↔ q) : decide p = decide q := by by_cases z : p <;> simp [z, h.mp, mt h.mpr] <;> simp_all
theorem c_eqI (k : Q (.bl (decide (i = j))) H) : rEqU K (.int i) (.int j) H Q := .inl ⟨rfl, by rw [dec_of (show V.int i = V.int j ↔ i = j by simp)]; exact k⟩
theorem c_neI (k : Q (.bl (!decide (i = j))) H) : rNeU K (.int i) (.int j) H Q := .inl ⟨rfl, by rw [dec_of (show V.int i = V.int j ↔ i = j by simp)]; exact k⟩
theorem c_eqS {a b : Str} (k : Q (.bl (decide (a = b))) H) : rEqU K (.str a) (.str b) H Q := .inl ⟨rfl, by rw [dec_of (show V.str a = V.str b ↔ a = b by simp)]; exact k⟩
theorem c_neS {a b : Str} (k : Q (.bl (!decide (a = b))) H) : rNeU K (.str a) (.str b) H Q := .inl ⟨rfl, by rw [dec_of (show V.str a = V.str b ↔ a = b by simp)]; exact k⟩
theorem c_eqB {a b : Bool} (k : Q (.bl (decide (a = b))) H) : rEqU K (.bl a) (.bl b) H Q := .inl ⟨rfl, by rw [dec_of (show V.bl a = V.bl b ↔ a = b by simp)]; exact k⟩
theorem c_neB {a b : Bool} (k : Q (.bl (!decide (a = b))) H) : rNeU K (.bl a) (.bl b) H Q := .inl ⟨rfl, by rw [dec_of (show V.bl a = V.bl b ↔ a = b by simp)]; exact k⟩
theorem c_eqD {d e : PyData} (hx : Dp K H x d) (hy : Dp K H y e) (h1 : SeqAt.shaped d = true) (h2 : SeqAt.shaped e = true) (k : Q (.bl (PyData.eqv d e)) H) : rEqU K x y H Q := .inr ⟨d, e, hx, hy, h1, h2, k⟩
theorem c_neD {d e : PyData} (hx : Dp K H x d) (hy : Dp K H y e) (h1 : SeqAt.shaped d = true) (h2 : SeqAt.shaped e = true) (k : Q (.bl (!PyData.eqv d e)) H) : rNeU K x y H Q := .inr ⟨d, e, hx, hy, h1, h2, k⟩
theorem c_isN (k : Q (.bl (decide (x = .non))) H) : rIsU x .non H Q := .inl ⟨rfl, k⟩
theorem c_notN (k : Q (.bl (!decide (x = .non))) H) : rNotU x .non H Q := .inl ⟨rfl, k⟩
theorem c_isB {a b : Bool} (k : Q (.bl (decide (a = b))) H) : rIsU (.bl a) (.bl b) H Q := .inr ⟨a, b, rfl, rfl, k⟩
theorem c_notB {a b : Bool} (k : Q (.bl (!decide (a = b))) H) : rNotU (.bl a) (.bl b) H Q := .inr ⟨a, b, rfl, rfl, k⟩
theorem c_ixL {p : Addr} {xs : List V} (h : SqL K H p xs) (ha : atI xs i = some v) (k : Q v H) : rIx K (.ref p) (.int i) H Q := .inl ⟨p, xs, i, v, rfl, rfl, h, ha, k⟩
theorem c_ixT {p : Addr} {xs : List V} (h : SqT K H p xs) (ha : atI xs i = some v) (k : Q v H) : rIx K (.ref p) (.int i) H Q := .inr (.inl ⟨p, xs, i, v, rfl, rfl, h, ha, k⟩)
theorem c_ixS {z : Str} {c : Nat} (h : z.length ≤ sizeLine) (ha : atI z.cps.toList i = some c) (k : Q (.str ⟨#[c]⟩) H) : rIx K (.str z) (.int i) H Q := .inr (.inr ⟨z, i, c, rfl, rfl, h, ha, k⟩)
theorem c_slL {p : Addr} {xs : List V} {lo hi : Option Int} (h : Hs B L H) (hq : SqL K H p xs) (k : ∀ a H', Hs B ((a, .lst (cutV xs lo hi)) :: L) H' → Q (.ref a) H') : rSlK K (.ref p) lo hi H Q :=
  .inl ⟨p, xs, rfl, hq, fun a ha => k a _ (h.new ha)⟩
theorem c_slS {z : Str} {lo hi : Option Int} (h : z.length ≤ sizeLine) (k : Q (.str (cutS z lo hi)) H) : rSlK K (.str z) lo hi H Q := .inr (.inl ⟨z, rfl, h, k⟩)
theorem c_andV (k : ta σ H fun x H1 => ∃ c, x = .bl c ∧ if c = true then tb σ H1 Q else Q (.bl false) H1) : tAndV ta tb σ H Q := k
theorem c_orV (k : ta σ H fun x H1 => ∃ c, x = .bl c ∧ if c = true then Q (.bl true) H1 else tb σ H1 Q) : tOrV ta tb σ H Q := k
theorem c_notV (k : ta σ H fun x H1 => ∃ c, x = .bl c ∧ Q (.bl (!c)) H1) : tNotV ta σ H Q := k
theorem c_bl {b : Bool} {P : Bool → Prop} (k : P b) : ∃ c, V.bl b = V.bl c ∧ P c := ⟨b, rfl, k⟩
theorem c_test {P : Bool → Hp → Prop} (k : te σ H fun x H' => ∃ c, x = .bl c ∧ P c H') : tTest te σ H P := k
theorem c_B {P : Bool → Hp → Prop} (k : te σ H fun x H' => ∃ c, x = .bl c ∧ P c H') : tB te σ H P := k
theorem c_chain {r' : R2} {tc : TE} (k : ta σ H fun x H1 => tb σ H1 fun y H2 => r x y H2 fun z H3 => ∃ c, z = .bl c ∧ (if c = true then tc σ H3 fun w H4 => r' y w H4 Q else Q (.bl false) H3)) : tChain r r' ta tb tc σ H Q := k
section
variable {t u : TT} {P : Bool → Hp → Prop}
theorem c_tand (k : t σ H fun c H1 => if c = true then u σ H1 P else P false H1) : tAnd t u σ H P := k
theorem c_tor (k : t σ H fun c H1 => if c = true then P true H1 else u σ H1 P) : tOr t u σ H P := k
theorem c_tnot (k : t σ H fun c H1 => P (!c) H1) : tNot t σ H P := k
theorem c_if (k : t σ H fun c H1 => if c = true then ta σ H1 Q else tb σ H1 Q) : tIf t ta tb σ H Q := k
end
section
variable {P : List V → Hp → Prop} {tr : TA}
theorem c_nil (k : P [] H) : tNil σ H P := k
theorem c_cons (k : te σ H fun x H1 => tr σ H1 fun xs H2 => P (x :: xs) H2) : tCons te tr σ H P := k
def TupO (xs : List V) (H : Hp) (Q : VK) : Prop := xs.length ≤ sizeLine ∧ ∀ p, H p = none → Q (.ref p) (upd H p (.tup xs))
def LstO (xs : List V) (H : Hp) (Q : VK) : Prop := xs.length ≤ sizeLine ∧ ∀ p, H p = none → Q (.ref p) (upd H p (.lst xs))
theorem c_tup (k : tr σ H fun xs H1 => TupO xs H1 Q) : tTup tr σ H Q := k
theorem c_lst (k : tr σ H fun xs H1 => LstO xs H1 Q) : tLst tr σ H Q := k
theorem c_tupO {xs : List V} (h : Hs B L H) (hl : xs.length ≤ sizeLine) (k : ∀ p H', Hs B ((p, .tup xs) :: L) H' → Q (.ref p) H') : TupO xs H Q := ⟨hl, fun p hp => k p _ (h.new hp)⟩
theorem c_lstO {xs : List V} (h : Hs B L H) (hl : xs.length ≤ sizeLine) (k : ∀ p H', Hs B ((p, .lst xs) :: L) H' → Q (.ref p) H') : LstO xs H Q := ⟨hl, fun p hp => k p _ (h.new hp)⟩
theorem c_cb {r : List V → Hp → VK → Prop} (k : tr σ H fun vs H1 => r vs H1 Q) : tCB r tr σ H Q := k
theorem c_lenL {p : Addr} {xs : List V} (h : SqL K H p xs) (k : Q (.int xs.length) H) : rLenK K [.ref p] H Q := ⟨_, _, rfl, .inl ⟨xs, h, rfl⟩, k⟩
theorem c_lenT {p : Addr} {xs : List V} (h : SqT K H p xs) (k : Q (.int xs.length) H) : rLenK K [.ref p] H Q := ⟨_, _, rfl, .inr ⟨xs, h, rfl⟩, k⟩
theorem c_lenS {z : Str} (h : z.length ≤ sizeLine) (k : Q (.int z.length) H) : rLenK K [.str z] H Q := ⟨_, _, rfl, ⟨h, rfl⟩, k⟩
theorem c_intI (k : Q (.int i) H) : rIntK [.int i] H Q := .inl ⟨i, rfl, k⟩
theorem c_intB {b : Bool} (k : Q (.int (if b then 1 else 0)) H) : rIntK [.bl b] H Q := .inr ⟨b, rfl, k⟩
theorem c_listL {p : Addr} {xs : List V} (h : Hs B L H) (hq : SqL K H p xs) (k : ∀ a H', Hs B ((a, .lst xs) :: L) H' → Q (.ref a) H') : rListK K [.ref p] H Q := ⟨p, xs, rfl, .inl hq, fun a ha => k a _ (h.new ha)⟩
theorem c_listT {p : Addr} {xs : List V} (h : Hs B L H) (hq : SqT K H p xs) (k : ∀ a H', Hs B ((a, .lst xs) :: L) H' → Q (.ref a) H') : rListK K [.ref p] H Q := ⟨p, xs, rfl, .inr hq, fun a ha => k a _ (h.new ha)⟩
theorem c_divmod (h : Hs B L H) (c : CDiv i j) (k : ∀ a H', Hs B ((a, .tup [.int (i / j), .int (i % j)]) :: L) H' → Q (.ref a) H') : rDivmodK [.int i, .int j] H Q := ⟨i, j, rfl, c, fun a ha => k a _ (h.new ha)⟩
theorem c_max2 (k : Q (.int (if j > i then j else i)) H) : rMax2K [.int i, .int j] H Q := ⟨i, j, rfl, k⟩
theorem c_min2 (k : Q (.int (if j < i then j else i)) H) : rMin2K [.int i, .int j] H Q := ⟨i, j, rfl, k⟩
theorem c_abs (k : Q (.int (if i < 0 then -i else i)) H) : rAbsK [.int i] H Q := ⟨i, rfl, k⟩
theorem c_sum {p : Addr} {ns : List Int} (h : SqL K H p (ns.map V.int)) (k : Q (.int ns.sum) H) : rSum K [.ref p] H Q := ⟨p, ns, rfl, h, k⟩
theorem c_all {p : Addr} {bs : List Bool} (h : SqL K H p (bs.map V.bl)) (k : Q (.bl (bs.all id)) H) : rAll K [.ref p] H Q := ⟨p, bs, rfl, h, k⟩
theorem c_any {p : Addr} {bs : List Bool} (h : SqL K H p (bs.map V.bl)) (k : Q (.bl (bs.any id)) H) : rAny K [.ref p] H Q := ⟨p, bs, rfl, h, k⟩
theorem c_cl {sp : Sp} {dvs : List V} {W : WX} (k : tr σ H fun vs H1 => sp (vs ++ dvs) H1 Q fun c d H2 => W c d σ H2) : tCl sp dvs W tr σ H Q := k
theorem c_mt {C : Addr} {m : Str} {sp : Sp} {dvs : List V} {W : WX} (k : te σ H fun x H1 => ∃ a dx fs, x = .ref a ∧ H1 a = some (.ins C dx fs) ∧ fs.lookup m = none ∧ tr σ H1 fun vs H2 => sp (x :: (vs ++ dvs)) H2 Q fun c d H3 => W c d σ H3) : tMt C m sp dvs W te tr σ H Q := k
theorem c_recv {C dx p : Addr} {fs : List (Str × V)} {m : Str} {P : Prop} (h : H p = some (.ins C dx fs)) (hl : fs.lookup m = none) (k : P) : ∃ a dx fs, V.ref p = .ref a ∧ H a = some (.ins C dx fs) ∧ fs.lookup m = none ∧ P := ⟨p, dx, fs, rfl, h, hl, k⟩
end
/-! isinstance -/
theorem tyx_sql {p : Addr} {xs : List V} (h : SqL K H p xs) : TyX K H (.ref p) (.type "list") := by
  rcases h with (h | ⟨u, h⟩) | ⟨o, a, b, h1, h2, _⟩
  · exact .base (.lst h)
  · exact .base (.frz h)
  · exact .kList h1 h2
theorem c_isi {c : V} {t u : Value} {b : Bool} (T : TyX K H x t) (hc : ClsV c u) (e : PySem.W.kitOne K t u = some b) (k : Q (.bl b) H) : rIsi K [x, c] H Q := ⟨x, c, t, u, b, rfl, hc, T, e, k⟩
theorem k_int_int : PySem.W.kitOne K (.type "int") (.type "int") = some true := kit_ty (by decide +kernel)
theorem k_int_bool : PySem.W.kitOne K (.type "int") (.type "bool") = some false := kit_ty (by decide +kernel)
theorem k_list_list : PySem.W.kitOne K (.type "list") (.type "list") = some true := kit_ty (by decide +kernel)
theorem c_isi_ii (k : Q (.bl true) H) : rIsi K [.int i, .ty "int"] H Q := c_isi (.base (.int i)) (.ty _) k_int_int k
theorem c_isi_ib (k : Q (.bl false) H) : rIsi K [.int i, .ty "bool"] H Q := c_isi (.base (.int i)) (.ty _) k_int_bool k
theorem c_isi_ll {p : Addr} {xs : List V} (h : SqL K H p xs) (k : Q (.bl true) H) : rIsi K [.ref p, .ty "list"] H Q := c_isi (tyx_sql h) (.ty _) k_list_list k
/-! fields -/
def FldO (K : PySem.W.Frag) (f : Str) (x : V) (H : Hp) (Q : VK) : Prop := ∃ a C dx fs v, x = .ref a ∧ H a = some (.ins C dx fs) ∧ Cls K C ∧ NoAttr K C f ∧ fs.lookup f = some v ∧ Q v H
theorem c_fld {f : Str} {C dx p : Addr} {fs : List (Str × V)} (h : H p = some (.ins C dx fs)) (hc : Cls K C) (hn : NoAttr K C f) (hl : fs.lookup f = some v) (k : Q v H) : FldO K f (.ref p) H Q := ⟨p, C, dx, fs, v, rfl, h, hc, hn, hl, k⟩
end
/-! ### statements -/
section
variable {σ : St} {H : Hp} {dn : St → Hp → Prop} {dr : VK} {db dc : St → Hp → Prop} {t u : TS} {te : TE} {g : TG} {v : V} {b : Bool}
theorem w_seq (k : t ⟨u ⟨dn, dr, db, dc⟩, dr, db, dc⟩ σ H) : tSeq t u ⟨dn, dr, db, dc⟩ σ H := k
theorem w_asg (k : te σ H fun x H1 => g x σ H1 dn) : tAsg te g ⟨dn, dr, db, dc⟩ σ H := k
theorem w_name {n : Nat} {P : St → Hp → Prop} (k : P (σ.set n (some v)) H) : gName n v σ H P := k
theorem w_drop (k : te σ H fun _ H1 => dn σ H1) : tDrop te ⟨dn, dr, db, dc⟩ σ H := k
theorem w_ret (k : te σ H dr) : tRet te ⟨dn, dr, db, dc⟩ σ H := k
theorem w_if {c : TT} (k : c σ H fun b H1 => if b = true then t ⟨dn, dr, db, dc⟩ σ H1 else u ⟨dn, dr, db, dc⟩ σ H1) : tIfS c t u ⟨dn, dr, db, dc⟩ σ H := k
theorem w_next (k : dn σ H) : tNext ⟨dn, dr, db, dc⟩ σ H := k
theorem i_t {A A' : Prop} (h : b = true) (k : A) : if b = true then A else A' := by rw [if_pos h]; exact k
theorem i_f {A A' : Prop} (h : b = false) (k : A') : if b = true then A else A' := by rw [h, if_neg Bool.false_ne_true]; exact k
theorem i_2 {A A' : Prop} (k : b = true → A) (k' : b = false → A') : if b = true then A else A' := by cases b; exact iteF (k' rfl); exact iteT (k rfl)
theorem w_aug {n : Nat} {ti : TIp} (h : σ[n]? = some (some v)) (k : te σ H fun y H1 => ti v y H1 fun z H2 => dn (σ.set n (some z)) H2) : tAug n te ti ⟨dn, dr, db, dc⟩ σ H := ⟨v, h, k⟩
theorem c_ipAddI {i j : Int} {Q : VK} (k : Q (.int (i + j)) H) : ipAddU (.int i) (.int j) H Q := .inl ⟨i, j, rfl, rfl, k⟩
theorem c_ipSub {i j : Int} {Q : VK} (k : Q (.int (i - j)) H) : ipSubU (.int i) (.int j) H Q := ⟨i, j, rfl, rfl, k⟩
end
/-! ### loops over what has plain items -/
section
variable {α : Type} {K : PySem.W.Frag} {a : Addr} {g : TG} {tb : TS} {dn : St → Hp → Prop} {dr : VK} {db dc : St → Hp → Prop} {σ : St} {H : Hp}
theorem take_split {l : List α} {i : Nat} {x : α} (h : l[i]? = some x) : l = l.take i ++ x :: l.drop (i + 1) ∧ l.take (i + 1) = l.take i ++ [x] := by
  obtain ⟨hi, e⟩ := List.getElem?_eq_some_iff.mp h
  subst e
  refine ⟨?_, by rw [List.take_add_one, h]; rfl⟩
  conv => lhs; rw [← List.take_append_drop i l, List.drop_eq_getElem_cons hi]
theorem for_l (f : α → V) (l : List α) (Pv : List α → St → Hp → Prop) (h0 : Pv [] σ H) (hq : ∀ pre post σ H, l = pre ++ post → Pv pre σ H → SqL K H a (l.map f))
    (hs : ∀ pre x post σ H, l = pre ++ x :: post → Pv pre σ H → g (f x) σ H fun σ2 H2 => tb ⟨Pv (pre ++ [x]), dr, dn, Pv (pre ++ [x])⟩ σ2 H2) (hd : ∀ σ H, Pv l σ H → dn σ H) :
    ∃ W : Nat → Nat → St → Hp → Prop, (∃ m, W 0 m σ H) ∧ ∀ i m σ H, W i m σ H →
      ((Itl K a).stop i H ∧ dn σ H) ∨ ((Itl K a).go i H ∧ ∃ N : St → Hp → Prop, (∀ σ' H', N σ' H' → ∃ m', m' < m ∧ W (i + 1) m' σ' H') ∧ ∀ x H', (Itl K a).yld i H x H' → g x σ H' fun σ2 H2 => tb ⟨N, dr, dn, N⟩ σ2 H2) := by
  refine L2.for_list (D := { nx := dn, rt := dr }) (xs := l.map f) (fun i => Pv (l.take i)) (by simpa using h0) (fun i σ H _ p => hq _ (l.drop i) σ H (List.take_append_drop i l).symm p) (fun i x σ H hx p => ?_) (fun σ H p => hd σ H (by simpa using p))
  rw [List.getElem?_map] at hx
  cases e : l[i]? with
  | none => rw [e] at hx; cases hx
  | some y =>
    rw [e] at hx
    cases hx
    obtain ⟨e1, e2⟩ := take_split e
    have z := hs _ y _ σ H e1 p
    rw [e2]
    exact z
theorem lc_l {tt : TT} {te : TE} {vs : List Nat} {D : Addr} {Qd : Hp → Prop} (f : α → V) (l : List α) (Pv : List α → Hp → Prop) (h0 : Pv [] (upd H D (.lst []))) (hq : ∀ pre post H, l = pre ++ post → Pv pre H → SqL K H a (l.map f))
    (hs : ∀ pre x post H, l = pre ++ x :: post → Pv pre H → g (f x) (wipe σ vs) H fun σ2 H2 => wipe σ2 vs = wipe σ vs ∧ tt σ2 H2 fun b H3 =>
      if b = true then te σ2 H3 fun y H4 => ∃ acc, H4 D = some (.lst acc) ∧ acc.length < sizeLine ∧ Pv (pre ++ [x]) (upd H4 D (.lst (acc ++ [y]))) else Pv (pre ++ [x]) H3) (hd : ∀ H, Pv l H → Qd H) :
    ∃ W : Nat → Nat → Hp → Prop, (∃ m, W 0 m (upd H D (.lst []))) ∧ ∀ i m H, W i m H →
      ((Itl K a).stop i H ∧ Qd H) ∨ ((Itl K a).go i H ∧ ∃ Nx : Hp → Prop, (∀ H', Nx H' → ∃ m', m' < m ∧ W (i + 1) m' H') ∧ ∀ x H', (Itl K a).yld i H x H' → g x (wipe σ vs) H' fun σ2 H2 => wipe σ2 vs = wipe σ vs ∧ tt σ2 H2 fun b H3 =>
        if b = true then te σ2 H3 fun y H4 => ∃ acc, H4 D = some (.lst acc) ∧ acc.length < sizeLine ∧ Nx (upd H4 D (.lst (acc ++ [y]))) else Nx H3) := by
  refine L2.lc_list (xs := l.map f) (fun i => Pv (l.take i)) (by simpa using h0) (fun i H _ p => hq _ (l.drop i) H (List.take_append_drop i l).symm p) (fun i x H hx p => ?_) (fun H p => hd H (by simpa using p))
  rw [List.getElem?_map] at hx
  cases e : l[i]? with
  | none => rw [e] at hx; cases hx
  | some y =>
    rw [e] at hx
    cases hx
    obtain ⟨e1, e2⟩ := take_split e
    have z := hs _ y _ H e1 p
    rw [e2]
    exact z
end
end L2.BP
namespace L2.BP
open PySem PySem.Spec PyProof.Rows
/-- a def as callers see it: what its defaults are, how the written arguments bind, its promise -/
def DOk (P : Program) (w : World) (K : PySem.W.Frag) (mg : Str → Option Value) (base : Heap) (k : Nat) (f : Addr) (ps : List Str) (dvs : List V) (sp : Sp) : Prop :=
  ∃ (fd : FuncData) (ds : List Value), Vals dvs ds ∧ Binds K fd ps ds ∧ FnOk P w K mg base (L2.CX P w) k f fd ps sp ∧ PySem.W.keepIn K (.ref f) = true
abbrev WF : WX := fun _ _ _ _ => False
/-! ### one of two readings of the same expression -/
def tOrE (t u : TE) : TE := fun σ H Q => t σ H Q ∨ u σ H Q
theorem pe_orE {X : Cx} {e : Expr} {t u : TE} (h : PE X e t) (h' : PE X e u) : PE X e (tOrE t u) :=
  ⟨fun pins s σ H Q I z => z.elim (h.run pins s σ H Q I) (h'.run pins s σ H Q I)⟩
/-! ### kinds of things -/
inductive Tg where
  | non | bl (b : Bool) | int (i : Int) | str (x : Str) | lst (xs : List V) | tup (xs : List V) | dic
/-- the thing v is of that kind -/
inductive Th (K : PySem.W.Frag) (H : Hp) : V → Tg → Prop where
  | non : Th K H .non .non
  | bl (b : Bool) : Th K H (.bl b) (.bl b)
  | int (i : Int) : Th K H (.int i) (.int i)
  | str (x : Str) : Th K H (.str x) (.str x)
  | lst {a : Addr} {xs : List V} (h : SqL K H a xs) : Th K H (.ref a) (.lst xs)
  | tup {a : Addr} {xs : List V} (h : SqT K H a xs) : Th K H (.ref a) (.tup xs)
  | dic {a : Addr} {kvs : List (Key × V)} (h : H a = some (.dK kvs)) : Th K H (.ref a) .dic
def Tg.ty : Tg → String
  | .non => "NoneType" | .bl _ => "bool" | .int _ => "int" | .str _ => "str" | .lst _ => "list" | .tup _ => "tuple" | .dic => "dict"
section
variable {K : PySem.W.Frag} {H H' : Hp} {v : V} {g : Tg} {Q : VK}
theorem Th.same (h : Th K H v g) (e : Same H H') : Th K H' v g := by
  cases h with
  | non => exact .non
  | bl b => exact .bl b
  | int i => exact .int i
  | str x => exact .str x
  | lst h => exact .lst (e.seq h)
  | tup h => exact .tup (same_sqt e h)
  | dic h => exact .dic (e _ _ h)
theorem tyx_sqt {p : Addr} {xs : List V} (h : SqT K H p xs) : TyX K H (.ref p) (.type "tuple") := by
  rcases h with (h | ⟨u, h⟩) | ⟨o, a, b, h1, h2, _⟩
  · exact .base (.tup h)
  · exact .fTuple h
  · exact .kTuple h1 h2
theorem Th.tyx (h : Th K H v g) : TyX K H v (.type g.ty) := by
  cases h with
  | non => exact .base .non
  | bl b => exact .base (.bl b)
  | int i => exact .base (.int i)
  | str x => exact .base (.str x)
  | lst h => exact tyx_sql h
  | tup h => exact tyx_sqt h
  | dic h => exact .base (.dK h)
def Tg.isInt : Tg → Bool
  | .bl _ => true | .int _ => true | _ => false
def Tg.isBool : Tg → Bool
  | .bl _ => true | _ => false
def Tg.isList : Tg → Bool
  | .lst _ => true | _ => false
def Tg.isStr : Tg → Bool
  | .str _ => true | _ => false
def Tg.isTup : Tg → Bool
  | .tup _ => true | _ => false
theorem Tg.kInt (g : Tg) : PySem.W.kitOne K (.type g.ty) (.type "int") = some g.isInt := by cases g <;> exact kit_ty (by kernel_rfl)
theorem Tg.kBool (g : Tg) : PySem.W.kitOne K (.type g.ty) (.type "bool") = some g.isBool := by cases g <;> exact kit_ty (by kernel_rfl)
theorem Tg.kList (g : Tg) : PySem.W.kitOne K (.type g.ty) (.type "list") = some g.isList := by cases g <;> exact kit_ty (by kernel_rfl)
theorem Tg.kStr (g : Tg) : PySem.W.kitOne K (.type g.ty) (.type "str") = some g.isStr := by cases g <;> exact kit_ty (by kernel_rfl)
theorem Tg.kTup (g : Tg) : PySem.W.kitOne K (.type g.ty) (.type "tuple") = some g.isTup := by cases g <;> exact kit_ty (by kernel_rfl)
theorem c_isiInt (h : Th K H v g) (k : Q (.bl g.isInt) H) : rIsi K [v, .ty "int"] H Q := c_isi h.tyx (.ty _) g.kInt k
theorem c_isiBool (h : Th K H v g) (k : Q (.bl g.isBool) H) : rIsi K [v, .ty "bool"] H Q := c_isi h.tyx (.ty _) g.kBool k
theorem c_isiList (h : Th K H v g) (k : Q (.bl g.isList) H) : rIsi K [v, .ty "list"] H Q := c_isi h.tyx (.ty _) g.kList k
theorem c_isiStr (h : Th K H v g) (k : Q (.bl g.isStr) H) : rIsi K [v, .ty "str"] H Q := c_isi h.tyx (.ty _) g.kStr k
theorem c_isiTup (h : Th K H v g) (k : Q (.bl g.isTup) H) : rIsi K [v, .ty "tuple"] H Q := c_isi h.tyx (.ty _) g.kTup k
/-- the results of defs that change nothing: a value, a new list, a new tuple -/
def RetV (H : Hp) (Q : VK) (v : V) : Prop := ∀ H', Same H H' → Q v H'
def RetL (H : Hp) (Q : VK) (xs : List V) : Prop := ∀ p H', H p = none → Same H H' → H' p = some (.lst xs) → Q (.ref p) H'
def RetT (H : Hp) (Q : VK) (xs : List V) : Prop := ∀ p H', H p = none → Same H H' → H' p = some (.tup xs) → Q (.ref p) H'
end
section
variable {B H : Hp} {L : List (Addr × HO)} {K : PySem.W.Frag} {Q : VK} {v : V} {xs : List V}
theorem Hs.rv (h : Hs B L H) (k : RetV B Q v) : Q v H := k H h.ex
theorem Hs.rl {p : Addr} (h : Hs B L H) (m : (p, HO.lst xs) ∈ L) (k : RetL B Q xs) : Q (.ref p) H := k p H (h.nb m) h.ex (h.get m)
theorem Hs.rt {p : Addr} (h : Hs B L H) (m : (p, HO.tup xs) ∈ L) (k : RetT B Q xs) : Q (.ref p) H := k p H (h.nb m) h.ex (h.get m)
theorem retV (h : Hs B L H) (k : ∀ H', Hs B L H' → Q v H') : RetV H Q v := fun H' e => k H' (h.same e)
theorem retL (h : Hs B L H) (k : ∀ p H', Hs B ((p, .lst xs) :: L) H' → Q (.ref p) H') : RetL H Q xs := fun p H' hp e hn => k p H' (h.newS hp e hn)
theorem retT (h : Hs B L H) (k : ∀ p H', Hs B ((p, .tup xs) :: L) H' → Q (.ref p) H') : RetT H Q xs := fun p H' hp e hn => k p H' (h.newS hp e hn)
end
end L2.BP
namespace L2.BP
open PySem PySem.Spec PyProof.Rows
/-! ### loops over the picture of the heap: I tells of what is done, the slots, the own objects, the base -/
abbrev Pic : Type := List (Addr × HO)
section
variable {α : Type} {K : PySem.W.Frag} {a : Addr} {g : TG} {tb : TS} {dn : St → Hp → Prop} {dr : VK} {db dc : St → Hp → Prop} {σ : St} {H B : Hp} {L : Pic}
/-- a list that is read stands in the base, or is an own one that is not changed -/
def NxI {β : Type} (I : β → St → Pic → Hp → Prop) (b : β) : St → Hp → Prop := fun σ H => ∃ L B, I b σ L B ∧ Hs B L H
theorem w_forL (f : α → V) (l : List α) (I : List α → St → Pic → Hp → Prop) (hs : Hs B L H) (h0 : I [] σ L B) (hq : ∀ pre post σ' L' B' H', l = pre ++ post → I pre σ' L' B' → Hs B' L' H' → SqL K H' a (l.map f))
    (turn : ∀ pre x post σ' L' B' H', l = pre ++ x :: post → I pre σ' L' B' → Hs B' L' H' → g (f x) σ' H' fun σ2 H2 => tb ⟨NxI I (pre ++ [x]), dr, dn, NxI I (pre ++ [x])⟩ σ2 H2)
    (fin : ∀ σ' L' B' H', I l σ' L' B' → Hs B' L' H' → dn σ' H') :
    ∃ b, V.ref a = .ref b ∧ (∃ xs, SqL K H b xs) ∧ ∃ W : Nat → Nat → St → Hp → Prop, (∃ m, W 0 m σ H) ∧ ∀ i m σ H, W i m σ H →
      ((Itl K b).stop i H ∧ dn σ H) ∨ ((Itl K b).go i H ∧ ∃ N : St → Hp → Prop, (∀ σ' H', N σ' H' → ∃ m', m' < m ∧ W (i + 1) m' σ' H') ∧ ∀ x H', (Itl K b).yld i H x H' → g x σ H' fun σ2 H2 => tb ⟨N, dr, dn, N⟩ σ2 H2) :=
  ⟨a, rfl, ⟨_, hq [] l σ L B H rfl h0 hs⟩, for_l f l (NxI I) ⟨L, B, h0, hs⟩ (fun pre post σ' H' e ⟨_, _, i, h⟩ => hq pre post _ _ _ _ e i h) (fun pre x post σ' H' e ⟨_, _, i, h⟩ => turn pre x post _ _ _ _ e i h) fun σ' H' ⟨_, _, i, h⟩ => fin _ _ _ _ i h⟩
theorem w_forR {lo : Int} {n : Nat} (I : Nat → St → Pic → Hp → Prop) (hs : Hs B L H) (h0 : I 0 σ L B)
    (turn : ∀ i σ' L' B' H', i < n → I i σ' L' B' → Hs B' L' H' → g (.int (lo + i)) σ' H' fun σ2 H2 => tb ⟨NxI I (i + 1), dr, dn, NxI I (i + 1)⟩ σ2 H2)
    (fin : ∀ σ' L' B' H', I n σ' L' B' → Hs B' L' H' → dn σ' H') :
    ∃ W : Nat → Nat → St → Hp → Prop, (∃ m, W 0 m σ H) ∧ ∀ i m σ H, W i m σ H →
      ((Itr lo n).stop i H ∧ dn σ H) ∨ ((Itr lo n).go i H ∧ ∃ N : St → Hp → Prop, (∀ σ' H', N σ' H' → ∃ m', m' < m ∧ W (i + 1) m' σ' H') ∧ ∀ x H', (Itr lo n).yld i H x H' → g x σ H' fun σ2 H2 => tb ⟨N, dr, dn, N⟩ σ2 H2) :=
  L2.for_range (D := { nx := dn, rt := dr }) (NxI I) ⟨L, B, h0, hs⟩ (fun i σ' H' e ⟨_, _, q, h⟩ => turn i _ _ _ _ e q h) fun σ' H' ⟨_, _, q, h⟩ => fin _ _ _ _ q h
theorem c_rng1 {n : Int} {P : It → Hp → Prop} (h1 : -(2 ^ 62) ≤ n) (h2 : n < 2 ^ 62) (k : P (Itr 0 n.toNat) H) : ∃ j : Int, [V.int n] = [.int j] ∧ -(2 ^ 62) ≤ j ∧ j < 2 ^ 62 ∧ P (Itr 0 j.toNat) H := ⟨n, rfl, h1, h2, k⟩
theorem c_rng2 {i j : Int} {P : It → Hp → Prop} (h1 : -(2 ^ 62) ≤ i ∧ i < 2 ^ 62 ∧ -(2 ^ 62) ≤ j ∧ j < 2 ^ 62) (k : P (Itr i (j - i).toNat) H) :
    ∃ i' j' : Int, [V.int i, V.int j] = [.int i', .int j'] ∧ (-(2 ^ 62) ≤ i' ∧ i' < 2 ^ 62 ∧ -(2 ^ 62) ≤ j' ∧ j' < 2 ^ 62) ∧ P (Itr i' (j' - i').toNat) H := ⟨i, j, rfl, h1, k⟩
/-- while: I falls by its number -/
def WhN (I : Nat → St → Pic → Hp → Prop) (m : Nat) : St → Hp → Prop := fun σ H => ∃ m', m' < m ∧ NxI I m' σ H
theorem w_while {c : TT} (I : Nat → St → Pic → Hp → Prop) (m0 : Nat) (hs : Hs B L H) (h0 : I m0 σ L B)
    (turn : ∀ m σ' L' B' H', I m σ' L' B' → Hs B' L' H' → c σ' H' fun b H1 => if b = true then ∃ N : St → Hp → Prop, (∀ σ3 H3, N σ3 H3 → WhN I m σ3 H3) ∧ tb ⟨N, dr, dn, N⟩ σ' H1 else dn σ' H1) :
    tWhile c tb ⟨dn, dr, db, dc⟩ σ H := ⟨fun m => NxI I m, ⟨m0, L, B, h0, hs⟩, fun m σ' H' ⟨_, _, q, h⟩ => turn m σ' _ _ H' q h⟩
theorem w_turn {P : St → Hp → Prop} (k : tb ⟨P, dr, dn, P⟩ σ H) : ∃ N : St → Hp → Prop, (∀ σ3 H3, N σ3 H3 → P σ3 H3) ∧ tb ⟨N, dr, dn, N⟩ σ H := ⟨_, fun _ _ w => w, k⟩
end
/-! ### comprehensions -/
section
variable {α : Type} {K : PySem.W.Frag} {a : Addr} {g : TG} {tt : TT} {te tl : TE} {σ : St} {H B : Hp} {L : Pic} {Q : VK} {vs : List Nat}
/-- the turn's word: what was made so far stands at D -/
def LcN (I : List α → List V → Hp → Prop) (B : Hp) (L : Pic) (D : Addr) (pre : List α) : Hp → Prop := fun H' => ∃ acc B', I pre acc B' ∧ Same B B' ∧ Hs B' ((D, .lst acc) :: L) H'
theorem c_lcL {P : Addr → Hp → Prop} (f : α → V) (l : List α) (I : List α → List V → Hp → Prop) (hs : Hs B L H) (h0 : I [] [] B)
    (hq : ∀ B' H', Same B B' → Hs B' L H' → SqL K H' a (l.map f))
    (turn : ∀ pre x post acc B' D H', l = pre ++ x :: post → I pre acc B' → Same B B' → Hs B' ((D, .lst acc) :: L) H' → g (f x) (wipe σ vs) H' fun σ2 H2 => wipe σ2 vs = wipe σ vs ∧ tt σ2 H2 fun b H3 =>
      if b = true then te σ2 H3 fun y H4 => ∃ acc, H4 D = some (.lst acc) ∧ acc.length < sizeLine ∧ LcN I B L D (pre ++ [x]) (upd H4 D (.lst (acc ++ [y]))) else LcN I B L D (pre ++ [x]) H3)
    (fin : ∀ acc B' D H', I l acc B' → Same B B' → Hs B' ((D, .lst acc) :: L) H' → P D H') :
    ∃ b, V.ref a = .ref b ∧ (∃ xs, SqL K H b xs) ∧ ∀ D, H D = none → ∃ W : Nat → Nat → Hp → Prop, (∃ m, W 0 m (upd H D (.lst []))) ∧ ∀ i m H, W i m H →
      ((Itl K b).stop i H ∧ P D H) ∨ ((Itl K b).go i H ∧ ∃ Nx : Hp → Prop, (∀ H', Nx H' → ∃ m', m' < m ∧ W (i + 1) m' H') ∧ ∀ x H', (Itl K b).yld i H x H' → g x (wipe σ vs) H' fun σ2 H2 => wipe σ2 vs = wipe σ vs ∧ tt σ2 H2 fun b H3 =>
        if b = true then te σ2 H3 fun y H4 => ∃ acc, H4 D = some (.lst acc) ∧ acc.length < sizeLine ∧ Nx (upd H4 D (.lst (acc ++ [y]))) else Nx H3) :=
  ⟨a, rfl, ⟨_, hq B H (Same.refl B) hs⟩, fun D hD => lc_l f l (LcN I B L D) ⟨[], B, h0, Same.refl B, hs.new hD⟩ (fun pre post H' _ ⟨acc, B', _, e, h⟩ => hq B' H' e h.drop)
    (fun pre x post H' e ⟨acc, B', p, e2, h⟩ => turn pre x post acc B' D H' e p e2 h) fun H' ⟨acc, B', p, e, h⟩ => fin acc B' D H' p e h⟩
theorem c_lcR {P : Addr → Hp → Prop} {lo : Int} {n : Nat} (I : Nat → List V → Hp → Prop) (hs : Hs B L H) (h0 : I 0 [] B)
    (turn : ∀ i acc B' D H', i < n → I i acc B' → Same B B' → Hs B' ((D, .lst acc) :: L) H' → g (.int (lo + i)) (wipe σ vs) H' fun σ2 H2 => wipe σ2 vs = wipe σ vs ∧ tt σ2 H2 fun b H3 =>
      if b = true then te σ2 H3 fun y H4 => ∃ acc, H4 D = some (.lst acc) ∧ acc.length < sizeLine ∧ (fun H' => ∃ acc B', I (i + 1) acc B' ∧ Same B B' ∧ Hs B' ((D, .lst acc) :: L) H') (upd H4 D (.lst (acc ++ [y]))) else (fun H' => ∃ acc B', I (i + 1) acc B' ∧ Same B B' ∧ Hs B' ((D, .lst acc) :: L) H') H3)
    (fin : ∀ acc B' D H', I n acc B' → Same B B' → Hs B' ((D, .lst acc) :: L) H' → P D H') :
    ∀ D, H D = none → ∃ W : Nat → Nat → Hp → Prop, (∃ m, W 0 m (upd H D (.lst []))) ∧ ∀ i m H, W i m H →
      ((Itr lo n).stop i H ∧ P D H) ∨ ((Itr lo n).go i H ∧ ∃ Nx : Hp → Prop, (∀ H', Nx H' → ∃ m', m' < m ∧ W (i + 1) m' H') ∧ ∀ x H', (Itr lo n).yld i H x H' → g x (wipe σ vs) H' fun σ2 H2 => wipe σ2 vs = wipe σ vs ∧ tt σ2 H2 fun b H3 =>
        if b = true then te σ2 H3 fun y H4 => ∃ acc, H4 D = some (.lst acc) ∧ acc.length < sizeLine ∧ Nx (upd H4 D (.lst (acc ++ [y]))) else Nx H3) :=
  fun D hD => L2.lc_range (fun i H' => ∃ acc B', I i acc B' ∧ Same B B' ∧ Hs B' ((D, .lst acc) :: L) H') ⟨[], B, h0, Same.refl B, hs.new hD⟩
    (fun i H' e ⟨acc, B', p, e2, h⟩ => turn i acc B' D H' e p e2 h) fun H' ⟨acc, B', p, e, h⟩ => fin acc B' D H' p e h
/-- one item more -/
theorem c_item {D : Addr} {acc : List V} {y : V} {B2 : Hp} {P : List V → Hp → Prop} (h : Hs B2 ((D, .lst acc) :: L) H) (hz : acc.length < sizeLine) (e : Same B B2) (i : P (acc ++ [y]) B2) :
    ∃ acc, H D = some (.lst acc) ∧ acc.length < sizeLine ∧ ∃ acc2 B', P acc2 B' ∧ Same B B' ∧ Hs B' ((D, .lst acc2) :: L) (upd H D (.lst (acc ++ [y]))) :=
  ⟨acc, h.get (.head _), hz, acc ++ [y], B2, i, e, h.u0⟩
theorem c_lc {wi : TI} (k : wi σ H fun J H1 => ∀ D, H1 D = none → ∃ W : Nat → Nat → Hp → Prop, (∃ m, W 0 m (upd H1 D (.lst []))) ∧ ∀ i m H, W i m H →
      (J.stop i H ∧ Q (.ref D) H) ∨ (J.go i H ∧ ∃ Nx : Hp → Prop, (∀ H', Nx H' → ∃ m', m' < m ∧ W (i + 1) m' H') ∧ ∀ x H', J.yld i H x H' → g x (wipe σ vs) H' fun σ2 H2 => wipe σ2 vs = wipe σ vs ∧ tt σ2 H2 fun b H3 =>
        if b = true then te σ2 H3 fun y H4 => ∃ acc, H4 D = some (.lst acc) ∧ acc.length < sizeLine ∧ Nx (upd H4 D (.lst (acc ++ [y]))) else Nx H3)) : tLc wi g tt te vs σ H Q := k
theorem w_for {wi : TI} {tb : TS} {dn : St → Hp → Prop} {dr : VK} {db dc : St → Hp → Prop} (k : wi σ H fun J H1 => ∃ W : Nat → Nat → St → Hp → Prop, (∃ m, W 0 m σ H1) ∧ ∀ i m σ H, W i m σ H →
  (J.stop i H ∧ dn σ H) ∨ (J.go i H ∧ ∃ N : St → Hp → Prop, (∀ σ' H', N σ' H' → ∃ m', m' < m ∧ W (i + 1) m' σ' H') ∧ ∀ x H', J.yld i H x H' → g x σ H' fun σ2 H2 => tb ⟨N, dr, dn, N⟩ σ2 H2)) : tFor wi g tb ⟨dn, dr, db, dc⟩ σ H := k
theorem c_iL {R : It → Hp → Prop} (k : tl σ H fun x H1 => ∃ a, x = .ref a ∧ (∃ xs, SqL K H1 a xs) ∧ R (Itl K a) H1) : iList K tl σ H R := k
theorem c_iT {R : It → Hp → Prop} (k : tl σ H fun x H1 => ∃ a, x = .ref a ∧ (∃ xs, SqT K H1 a xs) ∧ R (Itt K a) H1) : iTup K tl σ H R := k
theorem c_iR1 {ta : TA} {R : It → Hp → Prop} (k : ta σ H fun vs H1 => ∃ j : Int, vs = [.int j] ∧ -(2 ^ 62) ≤ j ∧ j < 2 ^ 62 ∧ R (Itr 0 j.toNat) H1) : iRng1 ta σ H R := k
theorem c_iR2 {ta : TA} {R : It → Hp → Prop} (k : ta σ H fun vs H1 => ∃ i j : Int, vs = [.int i, .int j] ∧ (-(2 ^ 62) ≤ i ∧ i < 2 ^ 62 ∧ -(2 ^ 62) ≤ j ∧ j < 2 ^ 62) ∧ R (Itr i (j - i).toNat) H1) : iRng2 ta σ H R := k
theorem c_yes {P : Bool → Hp → Prop} (k : P true H) : tYes σ H P := k
/-! targets, fields, methods of lists -/
theorem g_tup {n : Nat} {t : TGs} {xs : List V} {P : St → Hp → Prop} (h : SqT K H a xs) (hn : xs.length = n) (k : t xs σ H P) : gTup K n t (.ref a) σ H P := ⟨a, xs, rfl, h, hn, k⟩
theorem g_lst {n : Nat} {t : TGs} {xs : List V} {P : St → Hp → Prop} (h : SqL K H a xs) (hn : xs.length = n) (k : t xs σ H P) : gLst K n t (.ref a) σ H P := ⟨a, xs, rfl, h, hn, k⟩
theorem g_cons {t : TG} {u : TGs} {v : V} {r : List V} {P : St → Hp → Prop} (k : t v σ H fun σ' H' => u r σ' H' P) : gCons t u (v :: r) σ H P := ⟨v, r, rfl, k⟩
theorem g_nil {P : St → Hp → Prop} (k : P σ H) : gNil [] σ H P := ⟨rfl, k⟩
theorem c_tfld {f : Str} (k : te σ H fun x H1 => FldO K f x H1 Q) : tFld K te f σ H Q := k
def PutO (K : PySem.W.Frag) (f : Str) (y x : V) (H : Hp) (P : Hp → Prop) : Prop := ∃ a C dx fs, x = .ref a ∧ H a = some (.ins C dx fs) ∧ Cls K C ∧ NoAttr K C f ∧ fs.length < 1000 ∧ P (upd H a (.ins C dx (putF f y fs)))
theorem w_sfld {f : Str} {ta : TE} {dn : St → Hp → Prop} {dr : VK} {db dc : St → Hp → Prop} (k : te σ H fun y H1 => ta σ H1 fun x H2 => PutO K f y x H2 (dn σ)) : sFld K ta te f ⟨dn, dr, db, dc⟩ σ H := k
theorem w_put0 {f : Str} {C dx : Addr} {y : V} {fs fs' : List (Str × V)} {P : Hp → Prop} (hs : Hs B ((a, .ins C dx fs) :: L) H) (hc : Cls K C) (hn : NoAttr K C f) (hl : fs.length < 1000) (e : putF f y fs = fs')
    (k : ∀ H', Hs B ((a, .ins C dx fs') :: L) H' → P H') : PutO K f y (.ref a) H P :=
  ⟨a, C, dx, fs, rfl, hs.get (.head _), hc, hn, hl, by rw [e]; exact k _ hs.u0⟩
theorem w_put1 {q : Addr × HO} {f : Str} {C dx : Addr} {y : V} {fs fs' : List (Str × V)} {P : Hp → Prop} (hs : Hs B (q :: (a, .ins C dx fs) :: L) H) (hc : Cls K C) (hn : NoAttr K C f) (hl : fs.length < 1000) (e : putF f y fs = fs')
    (k : ∀ H', Hs B (q :: (a, .ins C dx fs') :: L) H' → P H') : PutO K f y (.ref a) H P := w_put0 hs.swap hc hn hl e fun H' h => k H' h.swap
theorem w_put2 {q r : Addr × HO} {f : Str} {C dx : Addr} {y : V} {fs fs' : List (Str × V)} {P : Hp → Prop} (hs : Hs B (q :: r :: (a, .ins C dx fs) :: L) H) (hc : Cls K C) (hn : NoAttr K C f) (hl : fs.length < 1000) (e : putF f y fs = fs')
    (k : ∀ H', Hs B (q :: r :: (a, .ins C dx fs') :: L) H' → P H') : PutO K f y (.ref a) H P := w_put0 hs.rot3 hc hn hl e fun H' h => k H' h.unrot3
def AugO (K : PySem.W.Frag) (f : Str) (x : V) (H : Hp) (P : Addr → Addr → V → Prop) : Prop := ∃ a C dx fs v, x = .ref a ∧ H a = some (.ins C dx fs) ∧ Cls K C ∧ NoAttr K C f ∧ fs.lookup f = some v ∧ P a C v
def AputO (f : Str) (a C : Addr) (z : V) (H : Hp) (P : Hp → Prop) : Prop := ∃ dx' fs', H a = some (.ins C dx' fs') ∧ fs'.length < 1000 ∧ P (upd H a (.ins C dx' (putF f z fs')))
theorem w_sfldAug {f : Str} {ta : TE} {rd : V → V → Hp → VK → Prop} {dn : St → Hp → Prop} {dr : VK} {db dc : St → Hp → Prop} (k : ta σ H fun x H1 => AugO K f x H1 fun a C v => te σ H1 fun y H2 => rd v y H2 fun z H3 => AputO f a C z H3 (dn σ)) : sFldAug K ta te rd f ⟨dn, dr, db, dc⟩ σ H := k
theorem c_fldA {f : Str} {C dx : Addr} {fs : List (Str × V)} {v : V} {P : Addr → Addr → V → Prop} (h : H a = some (.ins C dx fs)) (hc : Cls K C) (hn : NoAttr K C f) (hl : fs.lookup f = some v) (k : P a C v) :
    AugO K f (.ref a) H P := ⟨a, C, dx, fs, v, rfl, h, hc, hn, hl, k⟩
theorem c_radd {i j : Int} (k : Q (.int (i + j)) H) : rAdd (.int i) (.int j) H Q := ⟨i, j, rfl, rfl, k⟩
theorem c_rsub {i j : Int} (k : Q (.int (i - j)) H) : rSub (.int i) (.int j) H Q := ⟨i, j, rfl, rfl, k⟩
theorem w_aput0 {f : Str} {C dx : Addr} {z : V} {fs fs' : List (Str × V)} {P : Hp → Prop} (hs : Hs B ((a, .ins C dx fs) :: L) H) (hl : fs.length < 1000) (e : putF f z fs = fs') (k : ∀ H', Hs B ((a, .ins C dx fs') :: L) H' → P H') :
    AputO f a C z H P := ⟨dx, fs, hs.get (.head _), hl, by rw [e]; exact k _ hs.u0⟩
theorem w_aput1 {q : Addr × HO} {f : Str} {C dx : Addr} {z : V} {fs fs' : List (Str × V)} {P : Hp → Prop} (hs : Hs B (q :: (a, .ins C dx fs) :: L) H) (hl : fs.length < 1000) (e : putF f z fs = fs') (k : ∀ H', Hs B (q :: (a, .ins C dx fs') :: L) H' → P H') :
    AputO f a C z H P := w_aput0 hs.swap hl e fun H' h => k H' h.swap
theorem w_aput2 {q r : Addr × HO} {f : Str} {C dx : Addr} {z : V} {fs fs' : List (Str × V)} {P : Hp → Prop} (hs : Hs B (q :: r :: (a, .ins C dx fs) :: L) H) (hl : fs.length < 1000) (e : putF f z fs = fs') (k : ∀ H', Hs B (q :: r :: (a, .ins C dx fs') :: L) H' → P H') :
    AputO f a C z H P := w_aput0 hs.rot3 hl e fun H' h => k H' h.unrot3
theorem c_bm {T : String} {r : V → List V → Hp → VK → Prop} {t : TA} (k : te σ H fun x H1 => tyV K T x H1 ∧ t σ H1 fun xs H2 => r x xs H2 Q) : tBM K T r te t σ H Q := k
theorem c_bm0 {T : String} {r : V → List V → Hp → VK → Prop} (k : te σ H fun x H1 => tyV K T x H1 ∧ r x [] H1 Q) : tBM0 K T r te σ H Q := k
theorem c_tyL {xs : List V} {P : Prop} (h : SqL K H a xs) (k : P) : tyV K "list" (.ref a) H ∧ P := ⟨.inl ⟨rfl, _, h⟩, k⟩
theorem c_app0 {xs : List V} {y : V} (hs : Hs B ((a, .lst xs) :: L) H) (hz : xs.length < sizeLine) (k : ∀ H', Hs B ((a, .lst (xs ++ [y])) :: L) H' → Q .non H') : rAppend (.ref a) [y] H Q := ⟨a, xs, y, rfl, rfl, hs.get (.head _), hz, k _ hs.u0⟩
theorem c_app1 {q : Addr × HO} {xs : List V} {y : V} (hs : Hs B (q :: (a, .lst xs) :: L) H) (hz : xs.length < sizeLine) (k : ∀ H', Hs B (q :: (a, .lst (xs ++ [y])) :: L) H' → Q .non H') : rAppend (.ref a) [y] H Q := c_app0 hs.swap hz fun H' h => k H' h.swap
theorem c_app2 {q r : Addr × HO} {xs : List V} {y : V} (hs : Hs B (q :: r :: (a, .lst xs) :: L) H) (hz : xs.length < sizeLine) (k : ∀ H', Hs B (q :: r :: (a, .lst (xs ++ [y])) :: L) H' → Q .non H') : rAppend (.ref a) [y] H Q := c_app0 hs.rot3 hz fun H' h => k H' h.unrot3
theorem c_sl {r : V → Option Int → Option Int → Hp → VK → Prop} {lo hi : TO} (k : te σ H fun x H1 => lo σ H1 fun l H2 => hi σ H2 fun u H3 => r x l u H3 Q) : tSl r te lo hi σ H Q := k
theorem c_part {P : Option Int → Hp → Prop} (k : te σ H fun x H1 => ∃ i, x = .int i ∧ P (some i) H1) : tPart te σ H P := k
theorem c_nopart {P : Option Int → Hp → Prop} (k : P none H) : tNoPart σ H P := k
theorem c_i {i : Int} {P : Int → Prop} (k : P i) : ∃ j, V.int i = .int j ∧ P j := ⟨i, rfl, k⟩
theorem small5 {n : Nat} (h : n ≤ 100000) : n < sizeLine := Nat.lt_of_le_of_lt h (by decide)
theorem small5' {n : Nat} (h : n ≤ 100000) : n ≤ sizeLine := Nat.le_trans h (by decide)
end
end L2.BP
namespace L2.BP
open PySem PySem.Spec PyProof.Rows
section
variable {f g : Str} {v w y : V} {r r' : List (Str × V)}
theorem look0 : List.lookup f ((f, v) :: r) = some v := by simp [List.lookup]
theorem lookS (h : ¬ f = g) (e : List.lookup f r = some v) : List.lookup f ((g, w) :: r) = some v := by
  have n : (f == g) = false := by simpa using h
  show (match f == g with | true => some w | false => List.lookup f r) = some v
  rw [n]
  exact e
theorem lookN : List.lookup f ([] : List (Str × V)) = none := rfl
theorem lookNS (h : ¬ f = g) (e : List.lookup f r = none) : List.lookup f ((g, w) :: r) = none := by
  have n : (f == g) = false := by simpa using h
  show (match f == g with | true => some w | false => List.lookup f r) = none
  rw [n]
  exact e
theorem put0 : putF f y ((f, v) :: r) = (f, y) :: r := if_pos rfl
theorem putN : putF f y [] = [(f, y)] := rfl
theorem putS (h : ¬ g = f) (e : putF f y r = r') : putF f y ((g, w) :: r) = (g, w) :: r' := by
  show (if g = f then _ else (g, w) :: putF f y r) = _
  rw [if_neg h, e]
end
section
variable {K : PySem.W.Frag} {σ : St} {H B : Hp} {L : Pic} {Q : VK} {sp : Sp} {W : WX} {dvs vs : List V} {C : Addr}
def MkO (C : Addr) (sp : Sp) (vs : List V) (H : Hp) (Q : VK) (E : XK) : Prop := ∀ x dx, H x = none → H dx = none → dx ≠ x → sp (.ref x :: vs) (upd (upd H dx (.own x)) x (.ins C dx [])) (fun v H2 => v = .non ∧ Q (.ref x) H2) E
theorem c_mk {t : TA} (k : t σ H fun vs H1 => MkO C sp (vs ++ dvs) H1 Q fun c d H2 => W c d σ H2) : tMk C sp dvs W t σ H Q := k
theorem c_mkO {E : XK} (hs : Hs B L H) (k : ∀ x dx H', Hs B ((x, .ins C dx []) :: L) H' → sp (.ref x :: vs) H' (fun v H2 => v = .non ∧ Q (.ref x) H2) E) : MkO C sp vs H Q E := fun x dx hx hdx ne => by
  have h1 := hs.new (o := HO.own x) hdx
  have h2 : (upd H dx (.own x)) x = none := by rw [upd_ne (Ne.symm ne)]; exact hx
  exact k x dx _ (h1.new h2).swap.drop
/-- drop what stands second, third -/
theorem Hs.drop1 {a b : Addr × HO} (h : Hs B (a :: b :: L) H) : Hs B (a :: L) H := h.swap.drop
theorem Hs.drop2 {a b c : Addr × HO} (h : Hs B (a :: b :: c :: L) H) : Hs B (a :: b :: L) H := h.rot3.drop
end
end L2.BP
namespace L2.BP
open PySem PySem.Spec PyProof.Rows
/-! ### walks that hand out pairs; walks of tuples -/
section
variable {α : Type} {K : PySem.W.Frag} {a : Addr} {g : TG} {tb : TS} {dn : St → Hp → Prop} {dr : VK} {db dc : St → Hp → Prop} {σ : St} {H B : Hp} {L : Pic}
/-- what a for asks of its iterator -/
def ForO (J : It) (g : TG) (tb : TS) (dn : St → Hp → Prop) (dr : VK) (σ : St) (H : Hp) : Prop := ∃ W : Nat → Nat → St → Hp → Prop, (∃ m, W 0 m σ H) ∧ ∀ i m σ H, W i m σ H →
  (J.stop i H ∧ dn σ H) ∨ (J.go i H ∧ ∃ N : St → Hp → Prop, (∀ σ' H', N σ' H' → ∃ m', m' < m ∧ W (i + 1) m' σ' H') ∧ ∀ x H', J.yld i H x H' → g x σ H' fun σ2 H2 => tb ⟨N, dr, dn, N⟩ σ2 H2)
theorem get_map {f : α → V} {l : List α} {i : Nat} {x : V} (h : (l.map f)[i]? = some x) : ∃ y, l[i]? = some y ∧ x = f y := by
  rw [List.getElem?_map] at h
  cases e : l[i]? with
  | none => rw [e] at h; cases h
  | some y => rw [e] at h; exact ⟨y, rfl, (Option.some.inj h).symm⟩
theorem w_forE (f : α → V) (l : List α) (I : List α → St → Pic → Hp → Prop) (hs : Hs B L H) (h0 : I [] σ L B) (hq : ∀ pre post σ' L' B' H', l = pre ++ post → I pre σ' L' B' → Hs B' L' H' → SqL K H' a (l.map f))
    (turn : ∀ pre x post σ' L' B' T H', l = pre ++ x :: post → I pre σ' L' B' → Hs B' ((T, .tup [.int ((pre.length : Nat) : Int), f x]) :: L') H' → g (.ref T) σ' H' fun σ2 H2 => tb ⟨NxI I (pre ++ [x]), dr, dn, NxI I (pre ++ [x])⟩ σ2 H2)
    (fin : ∀ σ' L' B' H', I l σ' L' B' → Hs B' L' H' → dn σ' H') : ForO (Ite K a) g tb dn dr σ H := by
  refine ⟨fun i m σ H => m = l.length - i ∧ i ≤ l.length ∧ NxI I (l.take i) σ H, ⟨l.length, by simp, Nat.zero_le _, L, B, by simpa using h0, hs⟩, ?_⟩
  rintro i m σ' H' ⟨rfl, hi, L', B', q, h⟩
  have z := hq (l.take i) (l.drop i) σ' L' B' H' (List.take_append_drop i l).symm q h
  by_cases hlt : i < l.length
  · refine .inr ⟨⟨l.map f, f l[i], z, by simp [hlt]⟩, NxI I (l.take (i + 1)), fun σ2 H2 p => ⟨_, by omega, rfl, hlt, p⟩, ?_⟩
    rintro v H2 ⟨T, x, rfl, hT, rfl, hx⟩
    obtain ⟨y, e1, rfl⟩ := get_map (hx _ z)
    obtain ⟨e2, e3⟩ := take_split e1
    have el : (l.take i).length = i := by rw [List.length_take]; omega
    have w := turn _ y _ σ' L' B' T _ e2 q (by rw [el]; exact h.new hT)
    rw [e3]
    exact w
  · have e : i = l.length := by omega
    subst e
    exact .inl ⟨⟨_, z, by simp⟩, fin _ _ _ _ (by simpa using q) h⟩
/-- over a tuple -/
theorem w_forT (xs : List V) (I : List V → St → Pic → Hp → Prop) (hs : Hs B L H) (h0 : I [] σ L B) (hq : ∀ pre post σ' L' B' H', xs = pre ++ post → I pre σ' L' B' → Hs B' L' H' → SqT K H' a xs)
    (turn : ∀ pre x post σ' L' B' H', xs = pre ++ x :: post → I pre σ' L' B' → Hs B' L' H' → g x σ' H' fun σ2 H2 => tb ⟨NxI I (pre ++ [x]), dr, dn, NxI I (pre ++ [x])⟩ σ2 H2)
    (fin : ∀ σ' L' B' H', I xs σ' L' B' → Hs B' L' H' → dn σ' H') :
    ∃ b, V.ref a = .ref b ∧ (∃ xs, SqT K H b xs) ∧ ForO (Itt K b) g tb dn dr σ H := by
  refine ⟨a, rfl, ⟨_, hq [] xs σ L B H rfl h0 hs⟩, ?_⟩
  refine L2.for_tup (D := { nx := dn, rt := dr }) (K := K) (a := a) (xs := xs) (fun i => NxI I (xs.take i)) ⟨L, B, by simpa using h0, hs⟩ (fun i σ' H' _ ⟨L', B', q, h⟩ => hq (xs.take i) (xs.drop i) σ' L' B' H' (List.take_append_drop i xs).symm q h) (fun i x σ' H' hx ⟨L', B', q, h⟩ => ?_) fun σ' H' ⟨L', B', q, h⟩ => fin _ _ _ _ (by simpa using q) h
  obtain ⟨e1, e2⟩ := take_split hx
  have w := turn _ x _ σ' L' B' H' e1 q h
  rw [e2]
  exact w
/-- over two lists -/
theorem w_forZ {β : Type} {b : Addr} (f : α → V) (f2 : β → V) (l : List α) (l2 : List β) (hl : l.length = l2.length) (I : Nat → St → Pic → Hp → Prop) (hs : Hs B L H) (h0 : I 0 σ L B)
    (hq : ∀ i σ' L' B' H', I i σ' L' B' → Hs B' L' H' → SqL K H' a (l.map f) ∧ SqL K H' b (l2.map f2))
    (turn : ∀ i x y σ' L' B' T H', l[i]? = some x → l2[i]? = some y → I i σ' L' B' → Hs B' ((T, .tup [f x, f2 y]) :: L') H' → g (.ref T) σ' H' fun σ2 H2 => tb ⟨NxI I (i + 1), dr, dn, NxI I (i + 1)⟩ σ2 H2)
    (fin : ∀ σ' L' B' H', I l.length σ' L' B' → Hs B' L' H' → dn σ' H') : ForO (Itz K a b) g tb dn dr σ H := by
  refine ⟨fun i m σ H => m = l.length - i ∧ i ≤ l.length ∧ NxI I i σ H, ⟨l.length, by simp, Nat.zero_le _, L, B, h0, hs⟩, ?_⟩
  rintro i m σ' H' ⟨rfl, hi, L', B', q, h⟩
  obtain ⟨z1, z2⟩ := hq i σ' L' B' H' q h
  by_cases hlt : i < l.length
  · have hlt2 : i < l2.length := by omega
    refine .inr ⟨⟨l.map f, l2.map f2, f l[i], f2 l2[i], z1, z2, by simp [hlt], by simp [hlt2]⟩, NxI I (i + 1), fun σ2 H2 p => ⟨_, by omega, rfl, hlt, p⟩, ?_⟩
    rintro v H2 ⟨T, x, y, rfl, hT, rfl, hx, hy⟩
    obtain ⟨x', e1, rfl⟩ := get_map (hx _ z1)
    obtain ⟨y', e2, rfl⟩ := get_map (hy _ z2)
    exact turn i x' y' σ' L' B' T _ e1 e2 q (h.new hT)
  · have e : i = l.length := by omega
    subst e
    exact .inl ⟨⟨_, _, z1, z2, by simp⟩, fin _ _ _ _ q h⟩
theorem c_iE {ta : TA} {R : It → Hp → Prop} (k : ta σ H fun vs H1 => ∃ a xs, vs = [.ref a] ∧ SqL K H1 a xs ∧ R (Ite K a) H1) : iEnum K ta σ H R := k
theorem c_iE1 {R : It → Hp → Prop} {xs : List V} (h : SqL K H a xs) (k : R (Ite K a) H) : ∃ b xs, [V.ref a] = [.ref b] ∧ SqL K H b xs ∧ R (Ite K b) H := ⟨a, xs, rfl, h, k⟩
theorem c_iZ {ta : TA} {R : It → Hp → Prop} (k : ta σ H fun vs H1 => ∃ a b xs ys, vs = [.ref a, .ref b] ∧ SqL K H1 a xs ∧ SqL K H1 b ys ∧ R (Itz K a b) H1) : iZip K ta σ H R := k
theorem c_iZ1 {R : It → Hp → Prop} {b : Addr} {xs ys : List V} (h : SqL K H a xs) (h2 : SqL K H b ys) (k : R (Itz K a b) H) : ∃ a' b' xs ys, [V.ref a, V.ref b] = [.ref a', .ref b'] ∧ SqL K H a' xs ∧ SqL K H b' ys ∧ R (Itz K a' b') H := ⟨a, b, xs, ys, rfl, h, h2, k⟩
end
section
variable {α : Type} {K : PySem.W.Frag} {a : Addr} {g : TG} {tt : TT} {te tl : TE} {σ : St} {H B : Hp} {L : Pic} {vs : List Nat}
/-- what a comprehension asks of its iterator -/
def LcO (J : It) (g : TG) (tt : TT) (te : TE) (vs : List Nat) (σ : St) (H : Hp) (P : Addr → Hp → Prop) : Prop := ∀ D, H D = none → ∃ W : Nat → Nat → Hp → Prop, (∃ m, W 0 m (upd H D (.lst []))) ∧ ∀ i m H, W i m H →
  (J.stop i H ∧ P D H) ∨ (J.go i H ∧ ∃ Nx : Hp → Prop, (∀ H', Nx H' → ∃ m', m' < m ∧ W (i + 1) m' H') ∧ ∀ x H', J.yld i H x H' → g x (wipe σ vs) H' fun σ2 H2 => wipe σ2 vs = wipe σ vs ∧ tt σ2 H2 fun b H3 =>
    if b = true then te σ2 H3 fun y H4 => ∃ acc, H4 D = some (.lst acc) ∧ acc.length < sizeLine ∧ Nx (upd H4 D (.lst (acc ++ [y]))) else Nx H3)
theorem c_lcE {P : Addr → Hp → Prop} (f : α → V) (l : List α) (I : List α → List V → Hp → Prop) (hs : Hs B L H) (h0 : I [] [] B) (hq : ∀ B' H', Same B B' → Hs B' L H' → SqL K H' a (l.map f))
    (turn : ∀ pre x post acc B' D T H', l = pre ++ x :: post → I pre acc B' → Same B B' → Hs B' ((T, .tup [.int ((pre.length : Nat) : Int), f x]) :: (D, .lst acc) :: L) H' → g (.ref T) (wipe σ vs) H' fun σ2 H2 => wipe σ2 vs = wipe σ vs ∧ tt σ2 H2 fun b H3 =>
      if b = true then te σ2 H3 fun y H4 => ∃ acc, H4 D = some (.lst acc) ∧ acc.length < sizeLine ∧ LcN I B L D (pre ++ [x]) (upd H4 D (.lst (acc ++ [y]))) else LcN I B L D (pre ++ [x]) H3)
    (fin : ∀ acc B' D H', I l acc B' → Same B B' → Hs B' ((D, .lst acc) :: L) H' → P D H') : LcO (Ite K a) g tt te vs σ H P := by
  intro D hD
  refine ⟨fun i m H' => m = l.length - i ∧ i ≤ l.length ∧ LcN I B L D (l.take i) H', ⟨l.length, by simp, Nat.zero_le _, [], B, by simpa using h0, Same.refl B, hs.new hD⟩, ?_⟩
  rintro i m H' ⟨rfl, hi, acc, B', q, e, h⟩
  have z := hq B' H' e h.drop
  by_cases hlt : i < l.length
  · refine .inr ⟨⟨l.map f, f l[i], z, by simp [hlt]⟩, LcN I B L D (l.take (i + 1)), fun H2 p => ⟨_, by omega, rfl, hlt, p⟩, ?_⟩
    rintro v H2 ⟨T, x, rfl, hT, rfl, hx⟩
    obtain ⟨y, e1, rfl⟩ := get_map (hx _ z)
    obtain ⟨e2, e3⟩ := take_split e1
    have el : (l.take i).length = i := by rw [List.length_take]; omega
    have w := turn _ y _ acc B' D T _ e2 q e (by rw [el]; exact h.new hT)
    rw [e3]
    exact w
  · have e' : i = l.length := by omega
    subst e'
    exact .inl ⟨⟨_, z, by simp⟩, fin acc B' D H' (by simpa using q) e h⟩
end
/-! ### lists of tuples -/
section
variable {K : PySem.W.Frag} {H H' : Hp}
/-- each of these values is a tuple of those items -/
inductive Tups (K : PySem.W.Frag) (H : Hp) : List V → List (List V) → Prop where
  | nil : Tups K H [] []
  | cons {a : Addr} {xs : List V} {vs : List V} {r : List (List V)} : SqT K H a xs → Tups K H vs r → Tups K H (V.ref a :: vs) (xs :: r)
theorem Tups.same (e : Same H H') : ∀ {vs : List V} {ps : List (List V)}, Tups K H vs ps → Tups K H' vs ps
  | _, _, .nil => .nil
  | _, _, .cons h t => .cons (same_sqt e h) (Tups.same e t)
theorem Tups.length : ∀ {vs : List V} {ps : List (List V)}, Tups K H vs ps → vs.length = ps.length
  | _, _, .nil => rfl
  | _, _, .cons _ t => congrArg (· + 1) t.length
theorem Tups.snoc {a : Addr} {xs : List V} : ∀ {vs : List V} {ps : List (List V)}, Tups K H vs ps → SqT K H a xs → Tups K H (vs ++ [.ref a]) (ps ++ [xs])
  | _, _, .nil, h => .cons h .nil
  | _, _, .cons z t, h => .cons z (t.snoc h)
theorem Tups.get : ∀ {vs : List V} {ps : List (List V)} {i : Nat} {xs : List V}, Tups K H vs ps → ps[i]? = some xs → ∃ a, vs[i]? = some (.ref a) ∧ SqT K H a xs
  | _, _, 0, _, .cons h _, e => by cases e; exact ⟨_, rfl, h⟩
  | _, _, i + 1, _, .cons _ t, e => t.get (i := i) e
theorem Tups.split {x : V} {post : List V} : ∀ {pre : List V} {ps : List (List V)}, Tups K H (pre ++ x :: post) ps → ∃ a p1 xs p2, x = .ref a ∧ ps = p1 ++ xs :: p2 ∧ p1.length = pre.length ∧ SqT K H a xs
  | [], ps, h => by
    cases (show Tups K H (x :: post) ps from h) with
    | cons hh t => exact ⟨_, [], _, _, rfl, rfl, rfl, hh⟩
  | y :: pre, ps, h => by
    cases (show Tups K H (y :: (pre ++ x :: post)) ps from h) with
    | cons hh t =>
      obtain ⟨a, p1, xs, p2, e1, e2, e3, e4⟩ := Tups.split t
      exact ⟨a, _ :: p1, xs, p2, e1, by rw [e2]; rfl, by simp [e3], e4⟩
end
end L2.BP
namespace L2.BP
open PySem PySem.Spec PyProof.Rows
section
variable {σ : St} {H B : Hp} {L : Pic} {K : PySem.W.Frag} {dn : St → Hp → Prop} {dr : VK} {db dc : St → Hp → Prop} {Q : VK} {tr : TA} {te to_ ti_ : TE} {a b : Addr} {xs ys : List V} {x v w o i : V}
theorem w_break (k : db σ H) : tBreak ⟨dn, dr, db, dc⟩ σ H := k
theorem w_cont (k : dc σ H) : tCont ⟨dn, dr, db, dc⟩ σ H := k
theorem w_retN (k : dr .non H) : tRetN ⟨dn, dr, db, dc⟩ σ H := k
def ParO (m n : Nat) (vs : List V) (σ : St) (dn : St → Hp → Prop) (H : Hp) : Prop := ∃ v w, vs = [v, w] ∧ dn ((σ.set m (some v)).set n (some w)) H
theorem w_par {m n : Nat} (k : tr σ H fun vs H1 => ParO m n vs σ dn H1) : tPar m n tr ⟨dn, dr, db, dc⟩ σ H := k
theorem c_parO {m n : Nat} (k : dn ((σ.set m (some v)).set n (some w)) H) : ParO m n [v, w] σ dn H := ⟨v, w, rfl, k⟩
/-! a list longer by another one, in place -/
theorem c_ext0 (hs : Hs B ((a, .lst xs) :: L) H) (hb : H b = some (.lst ys)) (hz : xs.length + ys.length ≤ sizeLine) (k : ∀ H', Hs B ((a, .lst (xs ++ ys)) :: L) H' → Q (.ref a) H') : ipAddU (.ref a) (.ref b) H Q :=
  .inr (.inl ⟨a, b, xs, ys, rfl, rfl, hs.get (.head _), hb, hz, k _ hs.u0⟩)
theorem c_extM0 (hs : Hs B ((a, .lst xs) :: L) H) (hb : H b = some (.lst ys)) (hz : xs.length + ys.length ≤ sizeLine) (k : ∀ H', Hs B ((a, .lst (xs ++ ys)) :: L) H' → Q .non H') : rExtend (.ref a) [.ref b] H Q :=
  ⟨a, b, xs, ys, rfl, rfl, hs.get (.head _), hb, hz, k _ hs.u0⟩
theorem c_clear0 (hs : Hs B ((a, .lst xs) :: L) H) (k : ∀ H', Hs B ((a, .lst []) :: L) H' → Q .non H') : rClear (.ref a) [] H Q := ⟨a, xs, rfl, rfl, hs.get (.head _), k _ hs.u0⟩
theorem c_reverse0 (hs : Hs B ((a, .lst xs) :: L) H) (k : ∀ H', Hs B ((a, .lst xs.reverse) :: L) H' → Q .non H') : rReverse (.ref a) [] H Q := ⟨a, xs, rfl, rfl, hs.get (.head _), k _ hs.u0⟩
/-! slices of tuples, lists turned round -/
theorem c_slT {lo hi : Option Int} (h : Hs B L H) (hq : SqT K H a xs) (hn : ¬ (HT.sIx xs.length 0 lo = 0 ∧ HT.sIx xs.length xs.length hi = xs.length)) (k : ∀ p H', Hs B ((p, .tup (cutV xs lo hi)) :: L) H' → Q (.ref p) H') : rSlK K (.ref a) lo hi H Q :=
  .inr (.inr ⟨a, xs, rfl, hq, hn, fun p hp => k p _ (h.new hp)⟩)
def RevO (K : PySem.W.Frag) (x : V) (H : Hp) (Q : VK) : Prop := ∃ a xs, x = .ref a ∧ SqL K H a xs ∧ ∀ p, H p = none → Q (.ref p) (upd H p (.lst xs.reverse))
theorem c_rev (k : te σ H fun x H1 => RevO K x H1 Q) : tRevL K te σ H Q := k
theorem c_revO (h : Hs B L H) (hq : SqL K H a xs) (k : ∀ p H', Hs B ((p, .lst xs.reverse) :: L) H' → Q (.ref p) H') : RevO K (.ref a) H Q := ⟨a, xs, rfl, hq, fun p hp => k p _ (h.new hp)⟩
/-! an item written -/
def SetO (o i v : V) (H : Hp) (P : Hp → Prop) : Prop := rSetL o i v H P
theorem g_sub {P : St → Hp → Prop} (k : to_ σ H fun o H1 => ti_ σ H1 fun i H2 => SetO o i v H2 (P σ)) : gSub to_ ti_ rSetL v σ H P := k
theorem w_set0 {j : Int} {m : Nat} {P : Hp → Prop} (hs : Hs B ((a, .lst xs) :: L) H) (e : j = ((m : Nat) : Int)) (hm : m < xs.length) (k : ∀ H', Hs B ((a, .lst (xs.set m v)) :: L) H' → P H') : SetO (.ref a) (.int j) v H P :=
  ⟨a, xs, j, m, rfl, rfl, hs.get (.head _), by subst e; unfold ixN; rw [if_pos (Int.natCast_nonneg _), if_pos (Int.ofNat_lt.mpr hm), Int.toNat_natCast], k _ hs.u0⟩
theorem w_set1 {q : Addr × HO} {j : Int} {m : Nat} {P : Hp → Prop} (hs : Hs B (q :: (a, .lst xs) :: L) H) (e : j = ((m : Nat) : Int)) (hm : m < xs.length) (k : ∀ H', Hs B (q :: (a, .lst (xs.set m v)) :: L) H' → P H') : SetO (.ref a) (.int j) v H P :=
  w_set0 hs.swap e hm fun H' h => k H' h.swap
theorem c_isiS {z : Str} (k : Q (.bl true) H) : rIsi K [.str z, .ty "str"] H Q := c_isiStr (.str z) k
theorem small6 {n : Nat} (h : n ≤ 200000) : n < sizeLine := Nat.lt_of_le_of_lt h (by decide)
theorem small6' {n : Nat} (h : n ≤ 200000) : n ≤ sizeLine := Nat.le_trans h (by decide)
end
end L2.BP
namespace L2.BP
open PySem PySem.Spec PyProof.Rows
section
variable {K : PySem.W.Frag} {W : WX} {vs : List V} {H : Hp} {Q : VK} {E : XK}
/-! ### == of lists -/
theorem eqvAll_ints : ∀ a b : List Int, PyData.eqvAll (a.map PyData.int) (b.map PyData.int) = decide (a = b)
  | [], [] => by simp [PyData.eqvAll]
  | [], y :: r => by simp [PyData.eqvAll]
  | x :: r, [] => by simp [PyData.eqvAll]
  | x :: r, y :: t => by
    rw [List.map_cons, List.map_cons, PyData.eqvAll, eqvAll_ints r t]
    simp only [PyData.eqv]
    by_cases h : x = y <;> by_cases h2 : r = t <;> simp [h, h2]
theorem canAll_ints : ∀ a : List Int, PyData.canLayAll0 (a.map PyData.int) = true
  | [] => by simp [PyData.canLayAll0]
  | x :: r => by
    rw [List.map_cons, PyData.canLayAll0, canAll_ints r]
    simp [PyData.canLay0]
theorem depAll_ints : ∀ a : List Int, PyData.depthAll (a.map PyData.int) ≤ 1
  | [] => by simp [PyData.depthAll]
  | x :: r => by
    have := depAll_ints r
    rw [List.map_cons, PyData.depthAll]
    simp [PyData.depth]
    omega
theorem shaped_ints (a : List Int) : SeqAt.shaped (.list (a.map PyData.int)) = true := by
  unfold SeqAt.shaped
  rw [PyData.canLay0, canAll_ints, PyData.depth]
  have := depAll_ints a
  simp
  omega
theorem c_eqL {p q : Addr} (a b : List Int) (h1 : SqL K H p (a.map V.int)) (h2 : SqL K H q (b.map V.int)) (k : Q (.bl (decide (a = b))) H) : rEqU K (.ref p) (.ref q) H Q := by
  refine c_eqD (.lst h1 (dpa_ints a)) (.lst h2 (dpa_ints b)) (shaped_ints a) (shaped_ints b) ?_
  rw [PyData.eqv, eqvAll_ints]
  exact k
theorem c_neL {p q : Addr} (a b : List Int) (h1 : SqL K H p (a.map V.int)) (h2 : SqL K H q (b.map V.int)) (k : Q (.bl (!decide (a = b))) H) : rNeU K (.ref p) (.ref q) H Q := by
  refine c_neD (.lst h1 (dpa_ints a)) (.lst h2 (dpa_ints b)) (shaped_ints a) (shaped_ints b) ?_
  rw [PyData.eqv, eqvAll_ints]
  exact k
/-! a list of tuples of whole numbers and texts against an equal one -/
def vD : V → PyData
  | .int i => .int i
  | .str x => .str x
  | .bl b => .bool b
  | _ => .none
def flatV : V → Bool
  | .int _ => true
  | .str x => PyData.canLay0 (.str x)
  | .bl _ => true
  | .non => true
  | _ => false
theorem dp_flat : ∀ {v : V}, flatV v = true → Dp K H v (vD v)
  | .int i, _ => .int i
  | .str x, _ => .str x
  | .bl b, _ => .bl b
  | .non, _ => .non
theorem dpa_flat : ∀ {xs : List V}, xs.all flatV = true → DpAll K H xs (xs.map vD)
  | [], _ => .nil
  | x :: r, h => by
    rw [List.all_cons, Bool.and_eq_true] at h
    exact .cons (dp_flat h.1) (dpa_flat h.2)
theorem can_flat : ∀ {v : V}, flatV v = true → (vD v).canLay0 = true ∧ (vD v).depth = 0
  | .int i, _ => ⟨by simp [vD, PyData.canLay0], by simp [vD, PyData.depth]⟩
  | .str x, h => ⟨h, by simp [vD, PyData.depth]⟩
  | .bl b, _ => ⟨by simp [vD, PyData.canLay0], by simp [vD, PyData.depth]⟩
  | .non, _ => ⟨by simp [vD, PyData.canLay0], by simp [vD, PyData.depth]⟩
theorem canAll_flat : ∀ {xs : List V}, xs.all flatV = true → PyData.canLayAll0 (xs.map vD) = true ∧ PyData.depthAll (xs.map vD) ≤ 1
  | [], _ => ⟨by simp [PyData.canLayAll0], by simp [PyData.depthAll]⟩
  | x :: r, h => by
    rw [List.all_cons, Bool.and_eq_true] at h
    obtain ⟨h1, h2⟩ := can_flat h.1
    obtain ⟨h3, h4⟩ := canAll_flat h.2
    rw [List.map_cons, PyData.canLayAll0, PyData.depthAll, h1, h2, h3]
    exact ⟨rfl, by omega⟩
def tupD (xs : List V) : PyData := .tuple (xs.map vD)
theorem canAll_tups : ∀ {xss : List (List V)}, (∀ xs ∈ xss, xs.all flatV = true) → PyData.canLayAll0 (xss.map tupD) = true ∧ PyData.depthAll (xss.map tupD) ≤ 3
  | [], _ => ⟨by simp [PyData.canLayAll0], by simp [PyData.depthAll]⟩
  | x :: r, h => by
    obtain ⟨h1, h2⟩ := canAll_flat (h x (.head _))
    obtain ⟨h3, h4⟩ := canAll_tups fun y hy => h y (.tail _ hy)
    have e1 : (tupD x).canLay0 = true := by
      unfold tupD
      rw [PyData.canLay0, h1]
    have e2 : (tupD x).depth ≤ 2 := by
      unfold tupD
      rw [PyData.depth]
      omega
    rw [List.map_cons, PyData.canLayAll0, PyData.depthAll, h3, e1]
    exact ⟨rfl, by omega⟩
theorem shaped_tups {xss : List (List V)} (h : ∀ xs ∈ xss, xs.all flatV = true) : SeqAt.shaped (.list (xss.map tupD)) = true := by
  obtain ⟨h1, h2⟩ := canAll_tups h
  unfold SeqAt.shaped
  rw [PyData.canLay0, PyData.depth, h1]
  simp
  omega
theorem dpa_tups : ∀ {ws : List V} {xss : List (List V)}, Tups K H ws xss → (∀ xs ∈ xss, xs.all flatV = true) → DpAll K H ws (xss.map tupD)
  | _, _, .nil, _ => .nil
  | _, _, .cons z t, h => .cons (.tup z (dpa_flat (h _ (.head _)))) (dpa_tups t fun y hy => h y (.tail _ hy))
theorem eqv_vD (v : V) : PyData.eqv (vD v) (vD v) = true := by cases v <;> simp [vD, PyData.eqv]
theorem eqvAll_vD : ∀ xs : List V, PyData.eqvAll (xs.map vD) (xs.map vD) = true
  | [] => by simp [PyData.eqvAll]
  | x :: r => by rw [List.map_cons, PyData.eqvAll, eqv_vD, eqvAll_vD r]; rfl
theorem eqvAll_tupD : ∀ xss : List (List V), PyData.eqvAll (xss.map tupD) (xss.map tupD) = true
  | [] => by simp [PyData.eqvAll]
  | x :: r => by
    have e : PyData.eqv (tupD x) (tupD x) = true := by
      unfold tupD
      rw [PyData.eqv, eqvAll_vD]
    rw [List.map_cons, PyData.eqvAll, e, eqvAll_tupD r]
    rfl
theorem eqv_tups {xss : List (List V)} : PyData.eqv (.list (xss.map tupD)) (.list (xss.map tupD)) = true := by rw [PyData.eqv, eqvAll_tupD]
/-- two lists of equal tuples -/
theorem c_neT {p q : Addr} {ws us : List V} {xss : List (List V)} (hf : ∀ xs ∈ xss, xs.all flatV = true) (h1 : SqL K H p ws) (t1 : Tups K H ws xss) (h2 : SqL K H q us) (t2 : Tups K H us xss) (k : Q (.bl false) H) : rNeU K (.ref p) (.ref q) H Q := by
  refine c_neD (.lst h1 (dpa_tups t1 hf)) (.lst h2 (dpa_tups t2 hf)) (shaped_tups hf) (shaped_tups hf) ?_
  rw [eqv_tups]
  exact k
theorem c_eqT {p q : Addr} {ws us : List V} {xss : List (List V)} (hf : ∀ xs ∈ xss, xs.all flatV = true) (h1 : SqL K H p ws) (t1 : Tups K H ws xss) (h2 : SqL K H q us) (t2 : Tups K H us xss) (k : Q (.bl true) H) : rEqU K (.ref p) (.ref q) H Q := by
  refine c_eqD (.lst h1 (dpa_tups t1 hf)) (.lst h2 (dpa_tups t2 hf)) (shaped_tups hf) (shaped_tups hf) ?_
  rw [eqv_tups]
  exact k
end
end L2.BP
namespace L2.BP
open PySem PySem.Spec PyProof.Rows
/-- both ways of an if meet again -/
theorem w_cut {t u : TS} {dn : St → Hp → Prop} {dr : VK} {db dc : St → Hp → Prop} {σ : St} {H : Hp} (Mid : St → Hp → Prop) (h1 : t ⟨Mid, dr, db, dc⟩ σ H) (h2 : ∀ σ' H', Mid σ' H' → u ⟨dn, dr, db, dc⟩ σ' H') : Evl.tCut t u ⟨dn, dr, db, dc⟩ σ H := ⟨Mid, h1, h2⟩
end L2.BP
namespace L2.BP
open PySem PySem.Spec PyProof.Rows
section
variable {X : Cx} {K : PySem.W.Frag} {σ : St} {H B : Hp} {L : Pic} {Q : VK} {te to_ ti_ : TE} {v : V} {P : St → Hp → Prop}
/-! a field as one of several targets -/
def gAttr (K : PySem.W.Frag) (ta : TE) (f : Str) : TG := fun v σ H P => ta σ H fun x H1 => PutO K f v x H1 (P σ)
theorem pg_attr {o : Expr} {f : Str} {pos : Pos} {ta : TE} (ho : PE X o ta) : PG X (.Attribute o f pos) (gAttr X.K ta f) := by
  refine ⟨fun pins s σ H v u Q I r h => ?_⟩
  show wpAny _ _ (do let ov ← holding [u] (eval o X.env); standAt pos.atName; holding [u, ov] (setAttr ov f u); release [u, ov] []) _ _ _
  refine wpAny_bind (wpAny_holding (thn (ho.run pins s σ H _ I h) fun ov s1 ⟨x, H1, I1, r1, a, C, dx, fs, ex, ea, c, n, l, q⟩ => ?_))
  subst ex
  obtain rfl : ov = Value.ref a := r1
  refine wpAny_bind (wpAny_standAt (wpAny_bind (wpAny_holding ?_)))
  exact setattr_ok I1 ea c n l r fun s2 I2 => wpAny_release ⟨σ, _, I2, q⟩
theorem g_attr {f : Str} (k : te σ H fun x H1 => PutO K f v x H1 (P σ)) : gAttr K te f v σ H P := k
/-! how many different ones -/
def LsO (K : PySem.W.Frag) (x : V) (H : Hp) (Q : VK) : Prop := ∃ (l : Addr) (ns : List Int), x = .ref l ∧ SqL K H l (ns.map V.int) ∧ ns.Nodup ∧ ns.length ≤ 4000 ∧ Q (.int (ns.length : Nat)) H
theorem c_lenset (k : te σ H fun x H1 => LsO K x H1 Q) : RZ.tLenSetI K te σ H Q := k
theorem c_lsO {a : Addr} {ns : List Int} (h : SqL K H a (ns.map V.int)) (hn : ns.Nodup) (hl : ns.length ≤ 4000) (k : Q (.int (ns.length : Nat)) H) : LsO K (.ref a) H Q := ⟨a, ns, rfl, h, hn, hl, k⟩
/-! dicts that are written out -/
def DispO (p : Addr) (ps : List (V × V)) (H : Hp) (Q : VK) : Prop := H p = some (.dK []) ∧ ∃ kvs : List (Key × V), ps = kvs.map (fun kv => (kV kv.1, kv.2)) ∧ kvs.length ≤ 15 ∧ Q (.ref p) (upd H p (.dK (mergeK [] kvs)))
theorem c_disp {trs : List (TE × TE)} (hs : Hs B L H) (k : ∀ p H', Hs B ((p, .dK []) :: L) H' → tPairs trs σ H' fun ps H2 => DispO p ps H2 Q) : tDisp trs σ H Q := fun p hp => k p _ (hs.new hp)
theorem c_tpc {tk tv : TE} {r : List (TE × TE)} {R : List (V × V) → Hp → Prop} (k : tk σ H fun x H1 => tv σ H1 fun y H2 => tPairs r σ H2 fun ps H3 => R ((x, y) :: ps) H3) : tPairs ((tk, tv) :: r) σ H R := k
theorem c_tpn {R : List (V × V) → Hp → Prop} (k : R [] H) : tPairs [] σ H R := k
theorem c_dispO {p : Addr} {ps : List (V × V)} (kvs : List (Key × V)) (hs : Hs B ((p, .dK []) :: L) H) (e : ps = kvs.map (fun kv => (kV kv.1, kv.2))) (hl : kvs.length ≤ 15) (k : ∀ H', Hs B ((p, .dK (mergeK [] kvs)) :: L) H' → Q (.ref p) H') : DispO p ps H Q :=
  ⟨hs.get (.head _), kvs, e, hl, k _ hs.u0⟩
def DgO (x y : V) (H : Hp) (Q : VK) : Prop := ∃ a v, x = .ref a ∧ DGet H a y (some v) ∧ Q v H
theorem c_dget {td ty : TE} (k : td σ H fun x H1 => ty σ H1 fun y H2 => DgO x y H2 Q) : tDGet td ty σ H Q := k
theorem c_dgO {a : Addr} {kvs : List (Key × V)} {key : Key} (h : H a = some (.dK kvs)) (e : valV kvs key = some v) (k : Q v H) : DgO (.ref a) (kV key) H Q := ⟨a, v, rfl, by rw [← e]; exact DGet.k h, k⟩
/-! in a list -/
theorem inV_int (i : Int) : ∀ ns : List Int, L2.inV (.int i) (ns.map V.int) = decide (i ∈ ns)
  | [] => by simp [L2.inV]
  | n :: r => by
    have ih := inV_int i r
    have e : L2.eqV (.int n) (.int i) = decide (n = i) := by
      show (n == i) = decide (n = i)
      by_cases h : n = i <;> simp [h]
    unfold L2.inV at ih ⊢
    rw [List.map_cons, List.any_cons, ih, e]
    by_cases h : n = i
    · simp [h]
    · simp [h, Ne.symm h]
theorem flat_ints (ns : List Int) : (ns.map V.int).all L2.flatV = true := by simp [L2.flatV]
theorem c_inL {a : Addr} {i : Int} (ns : List Int) (h : SqL K H a (ns.map V.int)) (k : Q (.bl (decide (i ∈ ns))) H) : rInU K (.int i) (.ref a) H Q :=
  .inl ⟨a, _, rfl, .inl h, rfl, flat_ints ns, by rw [inV_int]; exact k⟩
theorem c_niL {a : Addr} {i : Int} (ns : List Int) (h : SqL K H a (ns.map V.int)) (k : Q (.bl (!decide (i ∈ ns))) H) : rNiU K (.int i) (.ref a) H Q :=
  .inl ⟨a, _, rfl, .inl h, rfl, flat_ints ns, by rw [inV_int]; exact k⟩
theorem c_inT {a : Addr} {i : Int} (ns : List Int) (h : SqT K H a (ns.map V.int)) (k : Q (.bl (decide (i ∈ ns))) H) : rInU K (.int i) (.ref a) H Q :=
  .inl ⟨a, _, rfl, .inr h, rfl, flat_ints ns, by rw [inV_int]; exact k⟩
theorem xor_nat (a b : Nat) : Builtin.bitXor ((a : Nat) : Int) ((b : Nat) : Int) = ((a ^^^ b : Nat) : Int) := by
  rw [Bits.bitXor_pp (Int.natCast_nonneg a) (Int.natCast_nonneg b), Int.toNat_natCast, Int.toNat_natCast]
end
end L2.BP
namespace L2.BP
open PySem PySem.Spec PyProof.Rows
section
variable {K : PySem.W.Frag} {σ : St} {H B : Hp} {L : Pic} {Q : VK} {ta tb : TE} {a : Addr} {xs : List V}
/-- x or y, by what is empty -/
def OrO (K : PySem.W.Frag) (x : V) (tb : TE) (σ : St) (H : Hp) (Q : VK) : Prop := ∃ k, TruV K x H k ∧ if k = true then Q x H else tb σ H Q
theorem c_orT (k : ta σ H fun x H1 => OrO K x tb σ H1 Q) : tOrT K ta tb σ H Q := k
theorem c_orL (h : SqL K H a xs) (k1 : xs ≠ [] → Q (.ref a) H) (k2 : xs = [] → tb σ H Q) : OrO K (.ref a) tb σ H Q := by
  refine ⟨!xs.isEmpty, .inl ⟨xs, h, rfl⟩, ?_⟩
  cases xs with
  | nil => exact iteF (k2 rfl)
  | cons x r => exact iteT (k1 (by simp))
end
end L2.BP
namespace L2.BP
open PySem PySem.Spec PyProof.Rows
/-! ### a class without an __init__ of its own -/
structure Mk0 (K : PySem.W.Frag) (C : Addr) : Prop where
  makes : PySem.W.makesIn K C = true
  init : PySem.W.findIn K (.ref C) "__init__" = some (some (.builtin "object.__init__"))
  kp : PySem.W.keepIn K (.ref C) = true
section
variable {X : Cx} {C : Addr} {x : Str} {p pos : Pos}
/-- C(): a bare object -/
def MadeO (C : Addr) (H : Hp) (Q : VK) : Prop := ∀ x dx, H x = none → H dx = none → dx ≠ x → Q (.ref x) (upd (upd H dx (.own x)) x (.ins C dx []))
def tMade (C : Addr) : TE := fun _ H Q => MadeO C H Q
theorem run_made {pins : List (Addr × Obj)} {σ : St} {H : Hp} {s : Shared} {Q : VK} (M : Mk0 X.K C) (I : Inv X pins σ H s) (h : MadeO C H Q) : wpAny (model X.prog X.w) X.A (call (.ref C) []) (EP X pins σ Q) X.xe s := by
  have q := h (s.heap.objs.size + 1) s.heap.objs.size (I.hok.fresh (Nat.le_succ _)) (I.hok.fresh (Nat.le_refl _)) (Nat.ne_of_lt (Nat.lt_succ_self _))
  have J := Inv.made (C := C) I
  have Y := PySem.W.makes_of (M := model X.prog X.w) I.kIn M.makes
  refine wpAny_call (make_map0 I.kIn M.makes M.init (fun self => PySem.W.Looks.of_pure (PySem.W.oi_bind self)) ?_)
  have e2 : ((s.heap.push PySem.W.emptyDict).push (PySem.W.instObj C s.heap.objs.size)).get? (s.heap.objs.size + 1) = some (PySem.W.instObj C s.heap.objs.size) := by
    have := Heap.get?_push_size (s.heap.push PySem.W.emptyDict) (o := PySem.W.instObj C s.heap.objs.size) rfl
    rwa [Heap.size_push] at this
  have t1 : PySem.W.Looks (model X.prog X.w) ((s.heap.push PySem.W.emptyDict).push (PySem.W.instObj C s.heap.objs.size)) (typeOf (.ref (s.heap.objs.size + 1))) (.ref C) := (PySem.W.Looks.ld e2).andThen .now
  have t2 : PySem.W.Looks (model X.prog X.w) ((s.heap.push PySem.W.emptyDict).push (PySem.W.instObj C s.heap.objs.size)) (isInstance (.ref (s.heap.objs.size + 1)) (.type "object")) true :=
    t1.andThen (Y.top.keeps fun b o e => Heap.get?_push_of_some _ (Heap.get?_push_of_some _ e))
  refine codeAny_call_builtin PySem.W.oi_plain PySem.W.entry_oi (@PySem.W.check_slot (model X.prog X.w) _ _ _ "object.__init__" "object" "__init__" (.ref (s.heap.objs.size + 1)) [] [] _ PySem.W.oi_kind PySem.W.oi_split t2 (PySem.W.oi_args (.ref (s.heap.objs.size + 1))) ?_)
  rw [PySem.W.oi_run]
  exact wpAny_pure (And.intro rfl ⟨V.ref (s.heap.objs.size + 1), _, J, rfl, q⟩)
theorem pe_made (M : Mk0 X.K C) (hg : Gl X x) (hm : X.mg x = some (.ref C)) (hdb : (x == ("__debug__" : Str)) = false := by decide) : PE X (.Call (.Name x p) [] [] pos) (tMade C) := by
  constructor
  intro pins s σ H Q I h
  exact wpAny_Call_Name_kw (ld_glob I hg hm (PySem.W.callWith_K0 I.kIn M.kp (run_made M I h)) hdb)
end
section
variable {K : PySem.W.Frag} {σ : St} {H B : Hp} {L : Pic} {Q : VK} {C : Addr}
theorem c_made (k : MadeO C H Q) : tMade C σ H Q := k
theorem c_madeO (hs : Hs B L H) (k : ∀ x dx H', Hs B ((x, .ins C dx []) :: L) H' → Q (.ref x) H') : MadeO C H Q := fun x dx hx hdx ne => by
  have h1 := hs.new (o := HO.own x) hdx
  have h2 : (upd H dx (.own x)) x = none := by rw [upd_ne (Ne.symm ne)]; exact hx
  exact k x dx _ (h1.new h2).swap.drop
end
end L2.BP
namespace L2.BP
open PySem PySem.Spec PyProof.Rows
/-! ### walks by steps, and of texts -/
section
variable {K : PySem.W.Frag} {a : Addr} {g : TG} {tb : TS} {dn : St → Hp → Prop} {dr : VK} {db dc : St → Hp → Prop} {σ : St} {H B : Hp} {L : Pic}
theorem w_forC {lo c : Int} {n : Nat} (I : Nat → St → Pic → Hp → Prop) (hs : Hs B L H) (h0 : I 0 σ L B)
    (turn : ∀ i σ' L' B' H', i < n → I i σ' L' B' → Hs B' L' H' → g (.int (lo + (i : Nat) * c)) σ' H' fun σ2 H2 => tb ⟨NxI I (i + 1), dr, dn, NxI I (i + 1)⟩ σ2 H2)
    (fin : ∀ σ' L' B' H', I n σ' L' B' → Hs B' L' H' → dn σ' H') : ForO (Itc lo c n) g tb dn dr σ H := by
  refine ⟨fun i m σ H => m = n - i ∧ i ≤ n ∧ NxI I i σ H, ⟨n, by simp, Nat.zero_le _, L, B, h0, hs⟩, ?_⟩
  rintro i m σ' H' ⟨rfl, hi, L', B', q, h⟩
  by_cases hlt : i < n
  · refine .inr ⟨hlt, NxI I (i + 1), fun σ2 H2 p => ⟨_, by omega, rfl, hlt, p⟩, ?_⟩
    rintro v H2 ⟨rfl, rfl⟩
    exact turn i σ' L' B' _ hlt q h
  · have e : i = n := by omega
    subst e
    exact .inl ⟨Nat.le_refl _, fin _ _ _ _ q h⟩
theorem w_forS {x : Str} (I : Nat → St → Pic → Hp → Prop) (hs : Hs B L H) (h0 : I 0 σ L B)
    (turn : ∀ i c σ' L' B' H', x.cps[i]? = some c → I i σ' L' B' → Hs B' L' H' → g (.str ⟨#[c]⟩) σ' H' fun σ2 H2 => tb ⟨NxI I (i + 1), dr, dn, NxI I (i + 1)⟩ σ2 H2)
    (fin : ∀ σ' L' B' H', I x.cps.size σ' L' B' → Hs B' L' H' → dn σ' H') : ForO (Its x) g tb dn dr σ H := by
  refine ⟨fun i m σ H => m = x.cps.size - i ∧ i ≤ x.cps.size ∧ NxI I i σ H, ⟨x.cps.size, by simp, Nat.zero_le _, L, B, h0, hs⟩, ?_⟩
  rintro i m σ' H' ⟨rfl, hi, L', B', q, h⟩
  by_cases hlt : i < x.cps.size
  · refine .inr ⟨hlt, NxI I (i + 1), fun σ2 H2 p => ⟨_, by omega, rfl, hlt, p⟩, ?_⟩
    rintro v H2 ⟨rfl, c, hc, rfl⟩
    exact turn i c σ' L' B' _ hc q h
  · have e : i = x.cps.size := by omega
    subst e
    exact .inl ⟨Nat.le_refl _, fin _ _ _ _ q h⟩
def RcO (R : It → Hp → Prop) (vs : List V) (H : Hp) : Prop := ∃ (i j c : Int) (n : Nat), vs = [.int i, .int j, .int c] ∧ RgC i j c n ∧ R (Itc i c n) H
theorem c_iR3 {ta : TA} {R : It → Hp → Prop} (k : ta σ H fun vs H1 => RcO R vs H1) : iRng3 ta σ H R := k
theorem c_rcO {R : It → Hp → Prop} {i j c : Int} (n : Nat) (h : RgC i j c n) (k : R (Itc i c n) H) : RcO R [.int i, .int j, .int c] H := ⟨i, j, c, n, rfl, h, k⟩
def SsO (R : It → Hp → Prop) (v : V) (H : Hp) : Prop := ∃ x, v = .str x ∧ R (Its x) H
theorem c_iS {te : TE} {R : It → Hp → Prop} (k : te σ H fun v H1 => SsO R v H1) : iStr te σ H R := k
theorem c_ssO {R : It → Hp → Prop} {x : Str} (k : R (Its x) H) : SsO R (.str x) H := ⟨x, rfl, k⟩
end
end L2.BP
namespace L2.BP
open PySem PySem.Spec PyProof.Rows
section
variable {H B : Hp} {L : Pic} {K : PySem.W.Frag} {σ : St} {Q : VK}
theorem Hs.rot4 {a b c d : Addr × HO} (h : Hs B (a :: b :: c :: d :: L) H) : Hs B (d :: a :: b :: c :: L) H := h.perm (List.perm_middle (l₁ := [a, b, c]))
theorem Hs.rot5 {a b c d e : Addr × HO} (h : Hs B (a :: b :: c :: d :: e :: L) H) : Hs B (e :: a :: b :: c :: d :: L) H := h.perm (List.perm_middle (l₁ := [a, b, c, d]))
theorem c_alt1 {t u : TE} (k : t σ H Q) : tOrE t u σ H Q := .inl k
theorem c_alt2 {t u : TE} (k : u σ H Q) : tOrE t u σ H Q := .inr k
theorem c_eqNN (k : Q (.bl true) H) : rEqU K .non .non H Q := .inl ⟨rfl, k⟩
theorem c_neNN (k : Q (.bl false) H) : rNeU K .non .non H Q := .inl ⟨rfl, k⟩
end
end L2.BP
namespace L2.BP
open PySem PySem.Spec PyProof.Rows
/-! ### isinstance of an own class -/
structure InsC (K : PySem.W.Frag) (C : Addr) : Prop where
  ha : PySem.W.findIn K (.ref C) "__class__" = some (some (.builtin "object.__class__"))
  hn : PySem.W.specialIn K (.builtin "object.__class__") "__get__" = some (some (.builtin "getset_descriptor.__get__"))
  htk : PySem.W.takesIn K (.builtin "object.__class__") = some true
  hm : PySem.W.mroIn K C (.type "object") = some true
theorem c_isiC {K : PySem.W.Frag} {H : Hp} {Q : VK} {x C D dx : Addr} {fs : List (Str × V)} {b : Bool} (h : H x = some (.ins C dx fs)) (cl : Cls K C) (i : InsC K C) (e : PySem.W.kitOne K (.ref C) (.ref D) = some b) (k : Q (.bl b) H) : rIsi K [.ref x, .ref D] H Q :=
  c_isi (.base (.ins h cl i.ha i.hn i.htk i.hm)) (.own D) e k
end L2.BP
namespace L2.BP
open PySem PySem.Spec PyProof.Rows
section
variable {K : PySem.W.Frag} {g : TG} {tt : TT} {te : TE} {σ : St} {H B : Hp} {L : Pic} {vs : List Nat}
/-- a comprehension whose turns change own objects -/
def LcV (I : Nat → List V → Pic → Hp → Prop) (D : Addr) (i : Nat) : Hp → Prop := fun H' => ∃ acc L' B', I i acc L' B' ∧ Hs B' ((D, .lst acc) :: L') H'
theorem c_lcRV {P : Addr → Hp → Prop} {lo : Int} {n : Nat} (I : Nat → List V → Pic → Hp → Prop) (hs : Hs B L H) (h0 : I 0 [] L B)
    (turn : ∀ i acc L' B' D H', i < n → I i acc L' B' → Hs B' ((D, .lst acc) :: L') H' → g (.int (lo + i)) (wipe σ vs) H' fun σ2 H2 => wipe σ2 vs = wipe σ vs ∧ tt σ2 H2 fun b H3 =>
      if b = true then te σ2 H3 fun y H4 => ∃ acc, H4 D = some (.lst acc) ∧ acc.length < sizeLine ∧ LcV I D (i + 1) (upd H4 D (.lst (acc ++ [y]))) else LcV I D (i + 1) H3)
    (fin : ∀ acc L' B' D H', I n acc L' B' → Hs B' ((D, .lst acc) :: L') H' → P D H') :
    ∀ D, H D = none → ∃ W : Nat → Nat → Hp → Prop, (∃ m, W 0 m (upd H D (.lst []))) ∧ ∀ i m H, W i m H →
      ((Itr lo n).stop i H ∧ P D H) ∨ ((Itr lo n).go i H ∧ ∃ Nx : Hp → Prop, (∀ H', Nx H' → ∃ m', m' < m ∧ W (i + 1) m' H') ∧ ∀ x H', (Itr lo n).yld i H x H' → g x (wipe σ vs) H' fun σ2 H2 => wipe σ2 vs = wipe σ vs ∧ tt σ2 H2 fun b H3 =>
        if b = true then te σ2 H3 fun y H4 => ∃ acc, H4 D = some (.lst acc) ∧ acc.length < sizeLine ∧ Nx (upd H4 D (.lst (acc ++ [y]))) else Nx H3) :=
  fun D hD => L2.lc_range (LcV I D) ⟨[], L, B, h0, hs.new hD⟩ (fun i H' e ⟨acc, L', B', p, h⟩ => turn i acc L' B' D H' e p h) fun H' ⟨acc, L', B', p, h⟩ => fin acc L' B' D H' p h
theorem c_itemV {D : Addr} {acc : List V} {y : V} {B2 : Hp} {P : List V → Pic → Hp → Prop} (h : Hs B2 ((D, .lst acc) :: L) H) (hz : acc.length < sizeLine) (i : P (acc ++ [y]) L B2) :
    ∃ acc, H D = some (.lst acc) ∧ acc.length < sizeLine ∧ ∃ acc2 L' B', P acc2 L' B' ∧ Hs B' ((D, .lst acc2) :: L') (upd H D (.lst (acc ++ [y]))) :=
  ⟨acc, h.get (.head _), hz, acc ++ [y], L, B2, i, h.u0⟩
end
end L2.BP
namespace L2.BP
open PySem PySem.Spec PyProof.Rows
theorem Tups.snocFix {K : PySem.W.Frag} {B : Hp} {t : Addr} {xs : List V} {acc : List V} {ps : List (List V)} (h : Tups K B acc ps) (hn : B t = none) : Tups K (upd B t (.tup xs)) (acc ++ [.ref t]) (ps ++ [xs]) := (h.same (same_upd hn)).snoc (SqT.of upd_same)
end L2.BP
section
open L2.BP
/-! steps, as rows of the tactic that the library names walk_at -/
local macro_rules | `(tactic| walk_at "mem") => `(tactic| first | exact .head _ | exact .tail _ (.head _) | exact .tail _ (.tail _ (.head _)) | exact .tail _ (.tail _ (.tail _ (.head _))) | exact .tail _ (.tail _ (.tail _ (.tail _ (.head _)))) | exact .tail _ (.tail _ (.tail _ (.tail _ (.tail _ (.head _))))))
local macro_rules | `(tactic| walk_at "get") => `(tactic| first | assumption | ((with_reducible apply Hs.get); (· assumption); (· walk_at "mem")) | exact (Hs.ex (by assumption)) _ _ (by assumption))
local macro_rules | `(tactic| walk_at "sq") => `(tactic| first | assumption | ((with_reducible apply Hs.sql); (· assumption); (· walk_at "mem")) | ((with_reducible apply Hs.bl); (· assumption); (· assumption)) | ((with_reducible apply SqL.of); (walk_at "get")))
local macro_rules | `(tactic| walk_at "sqt") => `(tactic| first | assumption | ((with_reducible apply Hs.sqt); (· assumption); (· walk_at "mem")) | ((with_reducible apply Hs.bt); (· assumption); (· assumption)) | ((with_reducible apply SqT.of); (walk_at "get")))
local macro_rules | `(tactic| walk_at "bd") => `(tactic| first | decide | omega | assumption)
local macro_rules | `(tactic| walk_at "cmul") => `(tactic| first | exact .inr ⟨by decide, by decide⟩ | exact .inl ⟨by decide, by decide⟩ | exact .inl ⟨by omega, by omega⟩ | exact .inr ⟨by omega, by omega⟩ | assumption)
local macro_rules | `(tactic| walk_at "yes") => `(tactic| first | rfl | assumption | exact decide_eq_true (by first | assumption | omega) | (simp only [Bool.not_eq_true', decide_eq_true_eq, decide_eq_false_iff_not, Bool.and_eq_true, Bool.or_eq_true] <;> omega))
local macro_rules | `(tactic| walk_at "no") => `(tactic| first | rfl | assumption | exact decide_eq_false (by first | assumption | omega) | (simp only [Bool.not_eq_false', decide_eq_true_eq, decide_eq_false_iff_not, Bool.and_eq_false_iff, Bool.or_eq_false_iff] <;> omega))
local macro_rules | `(tactic| walk_at "look") => `(tactic| first | (with_reducible exact look0) | ((with_reducible apply lookS); (· (decide +kernel)); walk_at "look"))
local macro_rules | `(tactic| walk_at "lookn") => `(tactic| first | (with_reducible exact lookN) | ((with_reducible apply lookNS); (· (decide +kernel)); walk_at "lookn"))
local macro_rules | `(tactic| walk_at "put") => `(tactic| first | (with_reducible exact put0) | (with_reducible exact putN) | ((with_reducible apply putS); (· (decide +kernel)); walk_at "put"))
local macro_rules | `(tactic| walk_at "few") => `(tactic| (exact of_decide_eq_true rfl))
local macro_rules | `(tactic| walk_at "s") => `(tactic| first
  | ((with_reducible apply c_var); (· exact rfl))
  | (with_reducible apply c_c)
  | (with_reducible apply c_op)
  | (with_reducible apply w_seq)
  | (with_reducible apply w_asg)
  | (with_reducible apply w_name)
  | (with_reducible apply w_if)
  | (with_reducible apply c_test)
  | (with_reducible apply c_bl)
  | ((with_reducible apply i_t); (· walk_at "yes"))
  | ((with_reducible apply i_f); (· walk_at "no"))
  | (with_reducible apply c_cons)
  | (with_reducible apply c_nil)
  | (with_reducible apply c_cb)
  | (with_reducible apply c_cl)
  | (with_reducible apply w_ret)
  | (with_reducible apply w_drop)
  | (with_reducible apply w_break)
  | (with_reducible apply w_cont)
  | (with_reducible apply w_retN)
  | (with_reducible apply w_par)
  | (with_reducible apply c_parO)
  | (with_reducible apply c_rev)
  | (with_reducible apply g_sub)
  | (with_reducible apply g_attr)
  | (with_reducible apply c_orT)
  | (with_reducible apply c_lenset)
  | (with_reducible apply c_dget)
  | (with_reducible apply c_tpc)
  | (with_reducible apply c_tpn)
  | ((with_reducible apply c_disp); (· assumption); intro _ _ _)
  | (with_reducible apply w_next)
  | (with_reducible apply c_addI)
  | (with_reducible apply c_sub)
  | ((with_reducible apply c_mulI); (· walk_at "cmul"))
  | ((with_reducible apply c_mod); (· walk_at "bd"))
  | ((with_reducible apply c_div); (· exact ⟨by walk_at "bd", by walk_at "bd"⟩))
  | (with_reducible apply c_lt)
  | (with_reducible apply c_le)
  | (with_reducible apply c_gt)
  | (with_reducible apply c_ge)
  | (with_reducible apply c_eqI)
  | ((with_reducible apply c_eqL); (· walk_at "sq"); (· walk_at "sq"))
  | ((with_reducible apply c_neL); (· walk_at "sq"); (· walk_at "sq"))
  | (with_reducible apply c_neI)
  | (with_reducible apply c_eqB)
  | (with_reducible apply c_neB)
  | (with_reducible apply c_eqS)
  | (with_reducible apply c_neS)
  | (with_reducible apply c_isN)
  | (with_reducible apply c_notN)
  | (with_reducible apply c_isB)
  | (with_reducible apply c_notB)
  | (with_reducible apply c_un)
  | (with_reducible apply c_neg)
  | (with_reducible apply c_and)
  | (with_reducible apply c_or)
  | (with_reducible apply c_xor)
  | ((with_reducible apply c_shr); (· walk_at "bd"))
  | ((with_reducible apply c_shl); (· exact ⟨by walk_at "bd", by walk_at "bd", by walk_at "bd"⟩))
  | (with_reducible apply c_B)
  | (with_reducible apply c_tand)
  | (with_reducible apply c_tor)
  | (with_reducible apply c_tnot)
  | (with_reducible apply c_andV)
  | (with_reducible apply c_orV)
  | (with_reducible apply c_notV)
  | (with_reducible apply c_chain)
  | (with_reducible apply c_if)
  | (with_reducible apply c_isi_ii)
  | (with_reducible apply c_isi_ib)
  | ((with_reducible apply c_lenL); (· walk_at "sq"))
  | ((with_reducible apply c_lenT); (· walk_at "sqt"))
  | (with_reducible apply c_isiS)
  | ((with_reducible apply c_ixL); (· (walk_at "sq")); (· first | exact rfl | assumption))
  | ((with_reducible apply c_ixT); (· (walk_at "sqt")); (· first | exact rfl | assumption))
  | (with_reducible apply c_tup)
  | (with_reducible apply c_lst)
  | ((with_reducible apply c_tupO); (· assumption); (· exact small5' (of_decide_eq_true rfl)); intro _ _ _)
  | ((with_reducible apply c_lstO); (· assumption); (· exact small5' (of_decide_eq_true rfl)); intro _ _ _)
  | ((with_reducible apply w_aug); (· exact rfl))
  | (with_reducible apply c_ipAddI)
  | (with_reducible apply c_ipSub)
  | (with_reducible apply c_intI)
  | (with_reducible apply c_intB)
  | (with_reducible apply c_max2)
  | (with_reducible apply c_mt)
  | ((with_reducible apply c_recv); (· (walk_at "get")); (· (walk_at "lookn")))
  | (with_reducible apply c_tfld)
  | ((with_reducible apply c_fld); (· (walk_at "get")); (· assumption); (· assumption); (· (walk_at "look")))
  | (with_reducible apply w_sfld)
  | (with_reducible apply w_sfldAug)
  | ((with_reducible apply c_fldA); (· (walk_at "get")); (· assumption); (· assumption); (· (walk_at "look")))
  | (with_reducible apply c_radd)
  | (with_reducible apply c_rsub)
  | ((with_reducible apply w_put0); (· assumption); (· assumption); (· assumption); (· (walk_at "few")); (· (walk_at "put")); intro _ _)
  | ((with_reducible apply w_put1); (· assumption); (· assumption); (· assumption); (· (walk_at "few")); (· (walk_at "put")); intro _ _)
  | ((with_reducible apply w_put2); (· assumption); (· assumption); (· assumption); (· (walk_at "few")); (· (walk_at "put")); intro _ _)
  | ((with_reducible apply w_aput0); (· assumption); (· (walk_at "few")); (· (walk_at "put")); intro _ _)
  | ((with_reducible apply w_aput1); (· assumption); (· (walk_at "few")); (· (walk_at "put")); intro _ _)
  | ((with_reducible apply w_aput2); (· assumption); (· (walk_at "few")); (· (walk_at "put")); intro _ _)
  | (with_reducible apply c_bm)
  | (with_reducible apply c_bm0)
  | ((with_reducible apply c_tyL); (· (walk_at "sq")))
  | (with_reducible apply c_sl)
  | (with_reducible apply c_part)
  | (with_reducible apply c_nopart)
  | (with_reducible apply c_i)
  | (with_reducible apply c_lc)
  | (with_reducible apply w_for)
  | (with_reducible apply c_iL)
  | (with_reducible apply c_iT)
  | (with_reducible apply c_iR1)
  | (with_reducible apply c_iR3)
  | (with_reducible apply c_iS)
  | (with_reducible apply c_ssO)
  | (with_reducible apply c_made)
  | ((with_reducible apply c_madeO); (· assumption); intro _ _ _ _)
  | (with_reducible apply c_iR2)
  | (with_reducible apply c_yes)
  | (with_reducible apply g_cons)
  | (with_reducible apply g_nil)
  | ((with_reducible apply g_tup); (· (walk_at "sqt")); (· exact rfl))
  | (with_reducible apply c_mk)
  | ((with_reducible apply c_mkO); (· assumption); intro _ _ _ _)
  | (with_reducible apply c_iE)
  | (with_reducible apply c_iZ)
  | ((with_reducible apply c_iE1); (· walk_at "sq"))
  | ((with_reducible apply c_slL); (· assumption); (· walk_at "sq"); intro _ _ _)
  | ((with_reducible apply c_listL); (· assumption); (· walk_at "sq"); intro _ _ _)
  | (with_reducible apply c_min2))
local macro_rules | `(tactic| walk_at "go") => `(tactic| repeat walk_at "s")
namespace L2.BR
open PySem PySem.Spec PyProof.Rows L2.BP
variable {K : PySem.W.Frag} {W : WX} {vs : List V} {H : Hp} {Q : VK} {E : XK}
/-! ### rows -/
def Tg.isByte : Tg → Bool
  | .int i => decide (0 ≤ i) && decide (i ≤ 255)
  | _ => false
def sp_is_byte (K : PySem.W.Frag) : Sp := fun vs H Q _ => ∃ (v : V) (g : Tg), vs = [v] ∧ Th K H v g ∧ Q (.bl (Tg.isByte g)) H
theorem len_is_byte (h : sp_is_byte K vs H Q E) : vs.length = 1 := by
  obtain ⟨v, g, rfl, _⟩ := h
  rfl
def t_is_byte (K : PySem.W.Frag) (W : WX) : TS :=
  (tRet ((tAndV (tCB (rIsi K) (tCons (tVar 0) (tCons (tC (.ty "int")) tNil))) (tAndV (tNotV (tCB (rIsi K) (tCons (tVar 0) (tCons (tC (.ty "bool")) tNil)))) (tChain rLeU rLeU (tC (.int 0)) (tVar 0) (tC (.int 255)))))))
theorem rd_is_byte (h : sp_is_byte K vs H Q E) : t_is_byte K W { nx := fun _ H' => Q .non H', rt := Q } (start ["thing"] vs) H := by
  obtain ⟨v, g, rfl, hT, q⟩ := h
  have hs := Hs.start H
  unfold t_is_byte
  cases hT with
  | int i =>
    have q : Q (.bl (decide (0 ≤ i) && decide (i ≤ 255))) H := q
    walk_at "go"
    cases e : decide ((0 : Int) ≤ i) with
    | false =>
      rw [e] at q
      walk_at "go"
      exact q
    | true =>
      rw [e] at q
      walk_at "go"
      exact q
  | bl b =>
    walk_at "go"
    refine c_isiInt (.bl b) ?_
    walk_at "go"
    refine c_isiBool (.bl b) ?_
    walk_at "go"
    exact q
  | non => walk_at "go"; refine c_isiInt .non ?_; walk_at "go"; exact q
  | str x => walk_at "go"; refine c_isiInt (.str x) ?_; walk_at "go"; exact q
  | lst z => walk_at "go"; refine c_isiInt (.lst z) ?_; walk_at "go"; exact q
  | tup z => walk_at "go"; refine c_isiInt (.tup z) ?_; walk_at "go"; exact q
  | dic z => walk_at "go"; refine c_isiInt (.dic z) ?_; walk_at "go"; exact q
/-- whether a thing is a byte, by itself -/
def byteV : V → Bool
  | .int i => decide (0 ≤ i) && decide (i ≤ 255)
  | _ => false
theorem byteV_of {v : V} {g : Tg} (h : Th K H v g) : Tg.isByte g = byteV v := by cases h <;> rfl
def Tg.isRow : Tg → Bool
  | .lst xs => xs.all byteV
  | _ => false
/-- the thing may be looked at: its items are things, too -/
def Tg.ok (K : PySem.W.Frag) (H : Hp) : Tg → Prop
  | .lst xs => (∀ x ∈ xs, ∃ g, Th K H x g) ∧ xs.length ≤ 100000
  | _ => True
def sp_is_row (K : PySem.W.Frag) : Sp := fun vs H Q _ => ∃ (v : V) (g : Tg), vs = [v] ∧ Th K H v g ∧ Tg.ok K H g ∧ RetV H Q (.bl (Tg.isRow g))
theorem len_is_row (h : sp_is_row K vs H Q E) : vs.length = 1 := by
  obtain ⟨v, g, rfl, _⟩ := h
  rfl
def t_is_row (K : PySem.W.Frag) (W : WX) : TS :=
  (tRet ((tAndV (tCB (rIsi K) (tCons (tVar 0) (tCons (tC (.ty "list")) tNil))) (tCB (rAll K) (tCons (tLc (iList K (tVar 0)) (gName 1) tYes (tCl (sp_is_byte K) [] WF (tCons (tVar 1) tNil)) [1]) tNil)))))
theorem rd_is_row (h : sp_is_row K vs H Q E) : t_is_row K W { nx := fun _ H' => Q .non H', rt := Q } (start ["thing", "number"] vs) H := by
  obtain ⟨v, g, rfl, hT, hok, q⟩ := h
  have hs := Hs.start H
  unfold t_is_row
  cases hT with
  | @lst a xs z =>
    walk_at "go"
    refine c_isiList (.lst z) ?_
    walk_at "go"
    refine c_lcL (f := id) xs (fun pre acc B => acc = (pre.map byteV).map V.bl) hs rfl (fun B' H' e h => by rw [List.map_id]; exact (e.trans h.ex).seq z) ?_ ?_
    · intro pre x post acc B' D H' e i eB h
      obtain ⟨g, hg⟩ := hok.1 x (by rw [e]; simp)
      walk_at "go"
      refine ⟨rfl, ?_⟩
      walk_at "go"
      refine ⟨x, g, rfl, hg.same (eB.trans h.ex), ?_⟩
      subst i
      refine c_item h (small5 ?_) eB ?_
      · have := congrArg List.length e
        have := hok.2
        simp at *
        omega
      · rw [byteV_of hg]
        simp
    · intro acc B' D H' i eB h
      subst i
      walk_at "go"
      refine c_all (h.sql (.head _)) ?_
      have e : ((xs.map byteV).all id) = xs.all byteV := by simp
      rw [e]
      exact q _ (eB.trans h.ex)
  | non => walk_at "go"; refine c_isiList .non ?_; walk_at "go"; exact q _ hs.ex
  | bl b => walk_at "go"; refine c_isiList (.bl b) ?_; walk_at "go"; exact q _ hs.ex
  | int i => walk_at "go"; refine c_isiList (.int i) ?_; walk_at "go"; exact q _ hs.ex
  | str x => walk_at "go"; refine c_isiList (.str x) ?_; walk_at "go"; exact q _ hs.ex
  | tup z => walk_at "go"; refine c_isiList (.tup z) ?_; walk_at "go"; exact q _ hs.ex
  | dic z => walk_at "go"; refine c_isiList (.dic z) ?_; walk_at "go"; exact q _ hs.ex
/-- a row: its numbers -/
def Bytes (ns : List Int) : Prop := ∀ n ∈ ns, 0 ≤ n ∧ n ≤ 255
theorem ints_of : ∀ {xs : List V}, xs.all byteV = true → ∃ ns : List Int, xs = ns.map V.int ∧ Bytes ns
  | [], _ => ⟨[], rfl, fun _ h => nomatch h⟩
  | x :: r, h => by
    simp only [List.all_cons, Bool.and_eq_true] at h
    obtain ⟨ns, e, hb⟩ := ints_of h.2
    cases x with
    | int i =>
      refine ⟨i :: ns, by rw [e]; rfl, fun n hn => ?_⟩
      rcases List.mem_cons.mp hn with z | z
      · have h1 := h.1
        simp only [byteV, Bool.and_eq_true, decide_eq_true_eq] at h1
        rw [z]
        exact h1
      · exact hb n z
    | _ => cases h.1
theorem all_byteV {ns : List Int} (h : Bytes ns) : (ns.map V.int).all byteV = true := by
  rw [List.all_eq_true]
  intro x hx
  obtain ⟨n, hn, rfl⟩ := List.mem_map.mp hx
  have := h n hn
  simp only [byteV, Bool.and_eq_true, decide_eq_true_eq]
  exact this
theorem ok_ints {H : Hp} {ns : List Int} (h : ns.length ≤ 100000) : Tg.ok K H (.lst (ns.map V.int)) := by
  refine ⟨fun x hx => ?_, by rw [List.length_map]; exact h⟩
  obtain ⟨n, _, rfl⟩ := List.mem_map.mp hx
  exact ⟨_, .int n⟩
theorem cutV_ints (ns : List Int) (lo hi : Option Int) : cutV (ns.map V.int) lo hi = ((ns.drop (HT.sIx ns.length 0 lo)).take (HT.sIx ns.length ns.length hi - HT.sIx ns.length 0 lo)).map V.int := by
  unfold cutV
  rw [List.length_map, List.map_take, List.map_drop]
theorem sIx_at (n d k : Nat) (h : k ≤ n) : HT.sIx n d (some ((k : Nat) : Int)) = k := by rw [HT.sIx_nat]; omega
theorem map_int_inj : ∀ {a b : List Int}, a.map V.int = b.map V.int → a = b
  | [], [], _ => rfl
  | [], _ :: _, h => by cases h
  | _ :: _, [], h => by cases h
  | x :: r, y :: t, h => by
    injection h with h1 h2
    injection h1 with h1
    rw [h1, map_int_inj h2]
theorem ne_f {a b : Int} (h : a = b) : (!decide (a = b)) = false := by rw [decide_eq_true h]; rfl
theorem cut_take (ns : List Int) (m : Nat) : cutV (ns.map V.int) none (some ((m : Nat) : Int)) = (ns.take m).map V.int := by
  rw [cutV_ints, HT.sIx_nat, HT.sIx_none, List.drop_zero, Nat.sub_zero]
  congr 1
  by_cases h : m ≤ ns.length
  · rw [Nat.min_eq_left h]
  · rw [Nat.min_eq_right (by omega), List.take_of_length_le (Nat.le_refl _), List.take_of_length_le (by omega)]
theorem cut_drop (ns : List Int) (m : Nat) : cutV (ns.map V.int) (some ((m : Nat) : Int)) none = (ns.drop m).map V.int := by
  rw [cutV_ints, HT.sIx_nat, HT.sIx_none]
  congr 1
  by_cases h : m ≤ ns.length
  · rw [Nat.min_eq_left h, List.take_of_length_le (by rw [List.length_drop]; omega)]
  · rw [Nat.min_eq_right (by omega), List.drop_of_length_le (Nat.le_refl _), List.drop_of_length_le (by omega), List.take_nil]
theorem cut_mid (ns : List Int) (a b : Nat) (h1 : a ≤ b) (h2 : b ≤ ns.length) : cutV (ns.map V.int) (some ((a : Nat) : Int)) (some ((b : Nat) : Int)) = ((ns.drop a).take (b - a)).map V.int := by
  rw [cutV_ints, HT.sIx_nat _ 0 a, HT.sIx_nat _ _ b, Nat.min_eq_left (show a ≤ ns.length by omega), Nat.min_eq_left h2]
theorem at_nat {ns : List Int} {k : Nat} (h : k < ns.length) : atI (ns.map V.int) ((k : Nat) : Int) = some (.int (ns.getD k 0)) := by
  rw [atI_nat (v := .int (ns.getD k 0))]
  rw [List.getElem?_map, List.getElem?_eq_getElem h, List.getD_eq_getElem?_getD, List.getElem?_eq_getElem h]
  rfl
theorem at_i {ns : List Int} {i : Int} {k : Nat} (e : i = ((k : Nat) : Int)) (h : k < ns.length) : atI (ns.map V.int) i = some (.int (ns.getD k 0)) := by rw [e]; exact at_nat h
def sp_need_row (K : PySem.W.Frag) : Sp := fun vs H Q E => ∃ (v : V) (g : Tg), vs = [v] ∧ Th K H v g ∧ Tg.ok K H g ∧
  (∀ xs, g = .lst xs → Tg.isRow g = true → RetL H Q xs) ∧ (Tg.isRow g = false → ∀ H', Same H H' → E (.ref (He.ga K "BadRow")) none H')
theorem len_need_row (h : sp_need_row K vs H Q E) : vs.length = 1 := by
  obtain ⟨v, g, rfl, _⟩ := h
  rfl
def t_need_row (K : PySem.W.Frag) (W : WX) : TS :=
  (tSeq (tIfS (tNot (tB (tCl (sp_is_row K) [] W (tCons (tVar 0) tNil)))) (tRz (He.ga K "BadRow") W) tNext)
    (tRet (tCB (rListK K) (tCons (tVar 0) tNil))))
theorem rd_need_row (h : sp_need_row K vs H Q E) : t_need_row K (fun c d _ H2 => E c d H2) { nx := fun _ H' => Q .non H', rt := Q } (start ["thing"] vs) H := by
  obtain ⟨v, g, rfl, hT, hok, q, qe⟩ := h
  have hs := Hs.start H
  unfold t_need_row
  walk_at "go"
  refine ⟨v, g, rfl, hT, hok, retV hs fun H1 h1 => ?_⟩
  walk_at "go"
  cases e : Tg.isRow g with
  | false =>
    walk_at "go"
    exact qe e _ h1.ex
  | true =>
    cases hT with
    | @lst a xs z =>
      walk_at "go"
      rename_i p H2 h2
      exact h2.rl (.head _) (q xs rfl e)
    | _ => cases e
end L2.BR

namespace L2.BR
open PySem PySem.Spec PyProof.Rows L2.BP
variable {K : PySem.W.Frag}
/-! ### the script's cells -/
def cellAt (ns : List Int) (k : Int) : Int := if k < ns.length then ns.getD k.toNat 0 else 0
def sp__law_cell_at (K : PySem.W.Frag) : Sp := fun vs H Q _ => ∃ (a : Addr) (ns : List Int) (k : Int), vs = [.ref a, .int k] ∧ SqL K H a (ns.map V.int) ∧ 0 ≤ k ∧ Q (.int (cellAt ns k)) H
theorem len__law_cell_at {vs : List V} {H : Hp} {Q : VK} {E : XK} (h : sp__law_cell_at K vs H Q E) : vs.length = 2 := by
  obtain ⟨a, ns, k, rfl, _⟩ := h
  rfl
theorem at_ints {ns : List Int} {k : Int} (h0 : 0 ≤ k) (h : k < ns.length) : atI (ns.map V.int) k = some (.int (ns.getD k.toNat 0)) := by
  obtain ⟨n, rfl⟩ := Int.eq_ofNat_of_zero_le h0
  have hn : n < ns.length := by omega
  rw [atI_nat (v := .int (ns.getD n 0))]
  · rfl
  · rw [List.getElem?_map, List.getElem?_eq_getElem hn, List.getD_eq_getElem?_getD, List.getElem?_eq_getElem hn]
    rfl
def t__law_cell_at (K : PySem.W.Frag) (W : WX) : TS :=
  (tSeq (tIfS (tTest (tOp rLtU (tVar 1) (tCB (rLenK K) (tCons (tVar 0) tNil)))) (tRet (tOp (rIx K) (tVar 0) (tVar 1))) tNext)
    (tRet (tC (.int 0))))
theorem rd__law_cell_at {W : WX} {vs : List V} {H : Hp} {Q : VK} {E : XK} (h : sp__law_cell_at K vs H Q E) : t__law_cell_at K W { nx := fun _ H' => Q .non H', rt := Q } (start ["_law_script", "_law_k"] vs) H := by
  obtain ⟨a, ns, k, rfl, hS, h0, q⟩ := h
  have hs := Hs.start H
  unfold t__law_cell_at
  walk_at "go"
  refine i_2 (fun c => ?_) (fun c => ?_)
  · have c := of_decide_eq_true c
    rw [List.length_map] at c
    walk_at "go"
    refine c_ixL (by walk_at "sq") (at_ints h0 c) ?_
    rw [show cellAt ns k = ns.getD k.toNat 0 from if_pos c] at q
    exact q
  · have c := of_decide_eq_false c
    rw [List.length_map] at c
    walk_at "go"
    rw [show cellAt ns k = 0 from if_neg c] at q
    exact q
end L2.BR

namespace L2.BR
open PySem PySem.Spec PyProof.Rows L2.BP
/-! ### texts of noughts and ones -/
def numOf : List Bool → Nat
  | [] => 0
  | b :: r => b.toNat * 2 ^ r.length + numOf r
def bitsOf (n : Nat) : Nat → List Bool
  | 0 => []
  | s + 1 => (n / 2 ^ s % 2 == 1) :: bitsOf n s
theorem bitsOf_length (n : Nat) : ∀ s, (bitsOf n s).length = s
  | 0 => rfl
  | s + 1 => congrArg (· + 1) (bitsOf_length n s)
theorem numOf_lt : ∀ b : List Bool, numOf b < 2 ^ b.length
  | [] => by decide
  | x :: r => by
    have h := numOf_lt r
    have e : (2 : Nat) ^ (x :: r).length = 2 ^ r.length + 2 ^ r.length := by rw [List.length_cons, Nat.pow_succ]; omega
    rw [e]
    unfold numOf
    cases x
    · simp; omega
    · simp; omega
theorem numOf_append : ∀ a b : List Bool, numOf (a ++ b) = numOf a * 2 ^ b.length + numOf b
  | [], b => by simp [numOf]
  | x :: r, b => by
    show x.toNat * 2 ^ (r ++ b).length + numOf (r ++ b) = (x.toNat * 2 ^ r.length + numOf r) * 2 ^ b.length + numOf b
    rw [numOf_append r b, List.length_append, Nat.pow_add, Nat.add_mul, Nat.mul_assoc, Nat.add_assoc]
theorem numOf_bitsOf (n : Nat) : ∀ s, numOf (bitsOf n s) = n % 2 ^ s
  | 0 => by simp [numOf, bitsOf, Nat.mod_one]
  | s + 1 => by
    show (n / 2 ^ s % 2 == 1).toNat * 2 ^ (bitsOf n s).length + numOf (bitsOf n s) = _
    rw [bitsOf_length, numOf_bitsOf n s, Nat.pow_succ, Nat.mod_mul]
    have h : (n / 2 ^ s % 2 == 1).toNat = n / 2 ^ s % 2 := by
      rcases Nat.mod_two_eq_zero_or_one (n / 2 ^ s) with h | h <;> rw [h] <;> rfl
    rw [h, Nat.mul_comm, Nat.add_comm]
theorem numOf_small {n s : Nat} (h : n < 2 ^ s) : numOf (bitsOf n s) = n := by rw [numOf_bitsOf, Nat.mod_eq_of_lt h]
theorem numOf_inj : ∀ a b : List Bool, a.length = b.length → numOf a = numOf b → a = b
  | [], [], _, _ => rfl
  | [], _ :: _, h, _ => by cases h
  | _ :: _, [], h, _ => by cases h
  | x :: r, y :: t, h, e => by
    have hl : r.length = t.length := Nat.succ.inj h
    have e : x.toNat * 2 ^ r.length + numOf r = y.toNat * 2 ^ t.length + numOf t := e
    have h1 := numOf_lt r
    have h2 := numOf_lt t
    rw [← hl] at e h2
    cases x <;> cases y <;> simp at e ⊢
    · exact numOf_inj r t hl e
    · omega
    · omega
    · exact numOf_inj r t hl e
theorem bitsOf_numOf (b : List Bool) : bitsOf (numOf b) b.length = b := by
  refine numOf_inj _ _ (bitsOf_length _ _) ?_
  rw [numOf_small (numOf_lt b)]
theorem numOf_take_div (b : List Bool) (k : Nat) : numOf b / 2 ^ (b.length - k) = numOf (b.take k) := by
  have e := numOf_append (b.take k) (b.drop k)
  rw [List.take_append_drop] at e
  have h := numOf_lt (b.drop k)
  rw [List.length_drop] at e h
  rw [e, Nat.mul_comm, Nat.mul_add_div (Nat.two_pow_pos _), Nat.div_eq_of_lt h, Nat.add_zero]
theorem numOf_drop_mod (b : List Bool) (k : Nat) : numOf b % 2 ^ (b.length - k) = numOf (b.drop k) := by
  have e := numOf_append (b.take k) (b.drop k)
  rw [List.take_append_drop] at e
  have h := numOf_lt (b.drop k)
  rw [List.length_drop] at e h
  rw [e, Nat.mul_comm, Nat.mul_add_mod, Nat.mod_eq_of_lt h]
theorem numOf_noughts (k : Nat) : numOf (List.replicate k false) = 0 := by
  induction k with
  | zero => rfl
  | succ k ih => rw [List.replicate_succ]; unfold numOf; rw [ih]; simp
/-! the bytes that stand whole in a text, the text filled by noughts -/
def byteAt (b : List Bool) (i : Nat) : Nat := numOf ((b.drop (8 * i)).take 8)
def wholeTo (b : List Bool) (n : Nat) : List Int := (List.range n).map fun i => ((byteAt b i : Nat) : Int)
def pad8 (b : List Bool) : List Bool := b ++ List.replicate ((8 - b.length % 8) % 8) false
def rowOf (b : List Bool) : List Int := wholeTo (pad8 b) ((b.length + 7) / 8)
theorem wholeTo_length (b : List Bool) (n : Nat) : (wholeTo b n).length = n := by unfold wholeTo; simp
theorem wholeTo_succ (b : List Bool) (n : Nat) : wholeTo b (n + 1) = wholeTo b n ++ [((byteAt b n : Nat) : Int)] := by unfold wholeTo; rw [List.range_succ, List.map_append]; rfl
theorem byteAt_append {b c : List Bool} {i : Nat} (h : 8 * i + 8 ≤ b.length) : byteAt (b ++ c) i = byteAt b i := by
  unfold byteAt
  rw [List.drop_append_of_le_length (by omega), List.take_append_of_le_length (by rw [List.length_drop]; omega)]
theorem wholeTo_append {b c : List Bool} {n : Nat} (h : 8 * n ≤ b.length) : wholeTo (b ++ c) n = wholeTo b n := by
  unfold wholeTo
  refine List.map_congr_left fun i hi => ?_
  have := List.mem_range.mp hi
  rw [byteAt_append (by omega)]
theorem byteAt_lt (b : List Bool) (i : Nat) : byteAt b i < 256 := by
  have h := numOf_lt ((b.drop (8 * i)).take 8)
  have e : ((b.drop (8 * i)).take 8).length ≤ 8 := by rw [List.length_take]; omega
  exact Nat.lt_of_lt_of_le h (Nat.pow_le_pow_right (by decide) e)
theorem pad8_length (b : List Bool) : (pad8 b).length = 8 * ((b.length + 7) / 8) := by unfold pad8; rw [List.length_append, List.length_replicate]; omega
theorem rowOf_length (b : List Bool) : (rowOf b).length = (b.length + 7) / 8 := wholeTo_length _ _
theorem rowOf_bytes (b : List Bool) : ∀ n ∈ rowOf b, 0 ≤ n ∧ n ≤ 255 := by
  intro n hn
  unfold rowOf wholeTo at hn
  obtain ⟨i, _, rfl⟩ := List.mem_map.mp hn
  have := byteAt_lt (pad8 b) i
  omega
/-- the bits of a row -/
def bitsRow (ns : List Int) : List Bool := ns.flatMap fun n => bitsOf n.toNat 8
theorem bitsRow_length (ns : List Int) : (bitsRow ns).length = 8 * ns.length := by
  induction ns with
  | nil => rfl
  | cons n r ih =>
    unfold bitsRow at ih ⊢
    rw [List.flatMap_cons, List.length_append, ih, bitsOf_length, List.length_cons]
    omega
theorem bitsRow_wholeTo (b : List Bool) : ∀ n, 8 * n ≤ b.length → bitsRow (wholeTo b n) = b.take (8 * n)
  | 0, _ => by simp [wholeTo, bitsRow]
  | n + 1, h => by
    have ih := bitsRow_wholeTo b n (by omega)
    rw [wholeTo_succ]
    unfold bitsRow at ih ⊢
    rw [List.flatMap_append, ih]
    have e : bitsOf (byteAt b n) 8 = (b.drop (8 * n)).take 8 := by
      have l : ((b.drop (8 * n)).take 8).length = 8 := by rw [List.length_take, List.length_drop]; omega
      have z := bitsOf_numOf ((b.drop (8 * n)).take 8)
      rw [l] at z
      exact z
    show b.take (8 * n) ++ (bitsOf ((byteAt b n : Nat) : Int).toNat 8 ++ []) = _
    rw [Int.toNat_natCast, e, List.append_nil]
    rw [show 8 * (n + 1) = 8 * n + 8 by omega, List.take_add]
theorem bitsRow_rowOf (b : List Bool) : bitsRow (rowOf b) = pad8 b := by
  unfold rowOf
  rw [bitsRow_wholeTo _ _ (by rw [pad8_length]; exact Nat.le_refl _)]
  exact List.take_of_length_le (by rw [pad8_length]; exact Nat.le_refl _)
theorem bitsRow_snoc (ns : List Int) (n : Int) : bitsRow (ns ++ [n]) = bitsRow ns ++ bitsOf n.toNat 8 := by
  unfold bitsRow
  rw [List.flatMap_append, List.flatMap_cons, List.flatMap_nil, List.append_nil]
end L2.BR

namespace L2.BR
open PySem PySem.Spec PyProof.Rows L2.BP
variable {K : PySem.W.Frag} {W : WX} {vs : List V} {H : Hp} {Q : VK} {E : XK}
/-! ### rows of bits, readers -/
structure KBitRow (K : PySem.W.Frag) : Prop where
  c : Cls K (He.ga K "BitRow")
  n1 : NoAttr K (He.ga K "BitRow") "full"
  n2 : NoAttr K (He.ga K "BitRow") "part"
  n3 : NoAttr K (He.ga K "BitRow") "filled"
structure KBitReader (K : PySem.W.Frag) : Prop where
  c : Cls K (He.ga K "BitReader")
  n1 : NoAttr K (He.ga K "BitReader") "source"
  n2 : NoAttr K (He.ga K "BitReader") "taken"
def Tg.isNum : Tg → Bool
  | .int _ => true
  | _ => false
def sp_is_number (K : PySem.W.Frag) : Sp := fun vs H Q _ => ∃ (v : V) (g : Tg), vs = [v] ∧ Th K H v g ∧ Q (.bl (Tg.isNum g)) H
theorem len_is_number (h : sp_is_number K vs H Q E) : vs.length = 1 := by
  obtain ⟨v, g, rfl, _⟩ := h
  rfl
def t_is_number (K : PySem.W.Frag) (W : WX) : TS :=
  (tRet ((tAndV (tCB (rIsi K) (tCons (tVar 0) (tCons (tC (.ty "int")) tNil))) (tNotV (tCB (rIsi K) (tCons (tVar 0) (tCons (tC (.ty "bool")) tNil)))))))
theorem rd_is_number (h : sp_is_number K vs H Q E) : t_is_number K W { nx := fun _ H' => Q .non H', rt := Q } (start ["thing"] vs) H := by
  obtain ⟨v, g, rfl, hT, q⟩ := h
  have hs := Hs.start H
  unfold t_is_number
  walk_at "go"
  refine c_isiInt hT ?_
  cases g with
  | int i => walk_at "go"; refine c_isiBool hT ?_; walk_at "go"; exact q
  | bl b => walk_at "go"; refine c_isiBool hT ?_; walk_at "go"; exact q
  | _ => walk_at "go"; exact q
def sizeOk : Tg → Bool
  | .int i => decide (0 ≤ i) && decide (i ≤ 24)
  | _ => false
def sp_need_size (K : PySem.W.Frag) : Sp := fun vs H Q E => ∃ (v : V) (g : Tg), vs = [v] ∧ Th K H v g ∧ (sizeOk g = true → Q .non H) ∧ (sizeOk g = false → E (.ref (He.ga K "BadBits")) none H)
theorem len_need_size (h : sp_need_size K vs H Q E) : vs.length = 1 := by
  obtain ⟨v, g, rfl, _⟩ := h
  rfl
def t_need_size (K : PySem.W.Frag) (W : WX) : TS :=
  (tIfS ((tOr (tNot (tB (tCl (sp_is_number K) [] W (tCons (tVar 0) tNil)))) (tNot (tTest (tChain rLeU rLeU (tC (.int 0)) (tVar 0) (tC (.int 24))))))) (tRz (He.ga K "BadBits") W) tNext)
theorem rd_need_size (h : sp_need_size K vs H Q E) : t_need_size K (fun c d _ H2 => E c d H2) { nx := fun _ H' => Q .non H', rt := Q } (start ["size"] vs) H := by
  obtain ⟨v, g, rfl, hT, q, qe⟩ := h
  have hs := Hs.start H
  unfold t_need_size
  walk_at "go"
  refine ⟨v, g, rfl, hT, ?_⟩
  cases hT with
  | int i =>
    simp only [sizeOk] at q qe
    walk_at "go"
    cases e : decide ((0 : Int) ≤ i) with
    | false =>
      rw [e] at qe
      walk_at "go"
      exact qe rfl
    | true =>
      rw [e] at q qe
      walk_at "go"
      cases e2 : decide (i ≤ (24 : Int)) with
      | false =>
        rw [e2] at qe
        walk_at "go"
        exact qe rfl
      | true =>
        rw [e2] at q
        walk_at "go"
        exact q rfl
  | non => walk_at "go"; exact qe rfl
  | bl b => walk_at "go"; exact qe rfl
  | str x => walk_at "go"; exact qe rfl
  | lst z => walk_at "go"; exact qe rfl
  | tup z => walk_at "go"; exact qe rfl
  | dic z => walk_at "go"; exact qe rfl
/-! a row of bits as it stands -/
abbrev brO (K : PySem.W.Frag) (dx f : Addr) (b : List Bool) : HO := .ins (He.ga K "BitRow") dx [("full", .ref f), ("part", .int ((numOf (b.drop (8 * (b.length / 8))) : Nat) : Int)), ("filled", .int ((b.length % 8 : Nat) : Int))]
abbrev brL (b : List Bool) : HO := .lst ((wholeTo b (b.length / 8)).map V.int)
def sp_BitRow___init__ (K : PySem.W.Frag) : Sp := fun vs H Q _ => ∃ (B : Hp) (L : Pic) (x dx : Addr), vs = [.ref x] ∧ Hs B ((x, .ins (He.ga K "BitRow") dx []) :: L) H ∧
  ∀ f H', Hs B ((x, brO K dx f []) :: (f, brL []) :: L) H' → Q .non H'
theorem len_BitRow___init__ (h : sp_BitRow___init__ K vs H Q E) : vs.length = 1 := by
  obtain ⟨B, L, x, dx, rfl, _⟩ := h
  rfl
def t_BitRow___init__ (K : PySem.W.Frag) (W : WX) : TS :=
  (tSeq (sFld K (tVar 0) (tLst tNil) "full")
    (tSeq (sFld K (tVar 0) (tC (.int 0)) "part")
    (sFld K (tVar 0) (tC (.int 0)) "filled")))
theorem rd_BitRow___init__ (kBitRow : KBitRow K) (h : sp_BitRow___init__ K vs H Q E) : t_BitRow___init__ K W { nx := fun _ H' => Q .non H', rt := Q } (start ["self"] vs) H := by
  obtain ⟨B, L, x, dx, rfl, hs, q⟩ := h
  obtain ⟨hc, n1, n2, n3⟩ := kBitRow
  unfold t_BitRow___init__
  walk_at "go"
  rename_i f H1 h1 H2 h2 H3 h3 H4 h4
  exact q f H4 h4.swap
theorem shr_nat (a k : Nat) : ((a : Nat) : Int) / 2 ^ k = ((a / 2 ^ k : Nat) : Int) := by push_cast; rfl
theorem two_cast (k : Nat) : (2 : Int) ^ k = ((2 ^ k : Nat) : Int) := by push_cast; rfl
theorem mask_nat (a k : Nat) : Builtin.bitAnd ((a : Nat) : Int) (1 * 2 ^ k - 1) = ((a % 2 ^ k : Nat) : Int) := by
  rw [Int.one_mul, Bits.bitAnd_mask k (Int.natCast_nonneg a)]
  push_cast
  rfl
theorem join_nat {a b k : Nat} (h : b < 2 ^ k) : Builtin.bitOr (((a : Nat) : Int) * 2 ^ k) ((b : Nat) : Int) = ((a * 2 ^ k + b : Nat) : Int) := by
  have h2 : ((b : Nat) : Int) < 2 ^ k := by rw [two_cast]; exact Int.ofNat_lt.mpr h
  rw [Bits.bitOr_join' (Int.natCast_nonneg b) h2 (Int.natCast_nonneg a)]
  push_cast
  rw [Int.add_comm]
/-- what may be put -/
def putOk : Tg → Tg → Bool
  | .int n, .int s => decide (0 ≤ n) && decide (n < 2 ^ s.toNat)
  | _, _ => false
def sp_BitRow_put (K : PySem.W.Frag) : Sp := fun vs H Q E => ∃ (B : Hp) (L : Pic) (x dx f : Addr) (b : List Bool) (v w : V) (g k : Tg), vs = [.ref x, v, w] ∧ Th K H v g ∧ Th K H w k ∧
  Hs B ((x, brO K dx f b) :: (f, brL b) :: L) H ∧ b.length ≤ 700000 ∧
  (∀ n s : Nat, g = .int n → k = .int s → s ≤ 24 → n < 2 ^ s → ∀ H', Hs B ((x, brO K dx f (b ++ bitsOf n s)) :: (f, brL (b ++ bitsOf n s)) :: L) H' → Q .non H') ∧
  ((sizeOk k && putOk g k) = false → E (.ref (He.ga K "BadBits")) none H)
theorem len_BitRow_put (h : sp_BitRow_put K vs H Q E) : vs.length = 3 := by
  obtain ⟨B, L, x, dx, f, b, v, w, g, k, rfl, _⟩ := h
  rfl
def t_BitRow_put (K : PySem.W.Frag) (W : WX) : TS :=
  (tSeq (tDrop (tCl (sp_need_size K) [] W (tCons (tVar 2) tNil)))
    (tSeq (tIfS ((tOr (tNot (tB (tCl (sp_is_number K) [] W (tCons (tVar 1) tNil)))) (tOr (tTest (tOp rLtU (tVar 1) (tC (.int 0)))) (tTest (tOp rGtU (tOp rShrU (tVar 1) (tVar 2)) (tC (.int 0))))))) (tRz (He.ga K "BadBits") W) tNext)
    (tSeq (sFld K (tVar 0) (tOp rOrU (tOp rShlU (tFld K (tVar 0) "part") (tVar 2)) (tVar 1)) "part")
    (tSeq (sFldAug K (tVar 0) (tVar 2) rAdd "filled")
    (tWhile (tTest (tOp rGeU (tFld K (tVar 0) "filled") (tC (.int 8)))) (tSeq (sFldAug K (tVar 0) (tC (.int 8)) rSub "filled")
    (tSeq (tDrop (tBM K "list" rAppend (tFld K (tVar 0) "full") (tCons (tOp rShrU (tFld K (tVar 0) "part") (tFld K (tVar 0) "filled")) tNil)))
    (sFld K (tVar 0) (tOp rAndU (tFld K (tVar 0) "part") (tOp rSubU (tOp rShlU (tC (.int 1)) (tFld K (tVar 0) "filled")) (tC (.int 1)))) "part"))))))))
theorem rd_BitRow_put (kBitRow : KBitRow K) (h : sp_BitRow_put K vs H Q E) : t_BitRow_put K (fun c d _ H2 => E c d H2) { nx := fun _ H' => Q .non H', rt := Q } (start ["self", "number", "size"] vs) H := by
  obtain ⟨B, L, x, dx, f, b, v, w, g, k, rfl, hT, hT2, hs, hb, q, qe⟩ := h
  obtain ⟨hc, n1, n2, n3⟩ := kBitRow
  unfold t_BitRow_put
  walk_at "go"
  refine ⟨w, k, rfl, hT2, fun hk => ?_, fun hk => qe (by rw [hk]; rfl)⟩
  rw [hk, Bool.true_and] at qe
  walk_at "go"
  refine ⟨v, g, rfl, hT, ?_⟩
  cases hT2 with
  | int s =>
    simp only [sizeOk] at hk
    simp only [Bool.and_eq_true, decide_eq_true_eq] at hk
    cases hT with
    | int n =>
      simp only [putOk] at qe
      walk_at "go"
      refine i_2 (fun c => ?_) (fun c => ?_)
      · have c := of_decide_eq_true c
        rw [decide_eq_false (by omega : ¬ 0 ≤ n)] at qe
        walk_at "go"
        exact qe rfl
      have c := of_decide_eq_false c
      walk_at "go"
      obtain ⟨S, rfl⟩ := Int.eq_ofNat_of_zero_le hk.1
      obtain ⟨M, rfl⟩ := Int.eq_ofNat_of_zero_le (Int.not_lt.mp c)
      rw [decide_eq_true (by omega : (0 : Int) ≤ ((M : Nat) : Int))] at qe
      rw [Int.toNat_natCast, shr_nat]
      rw [Int.toNat_natCast, two_cast] at qe
      have hp : 0 < 2 ^ S := Nat.two_pow_pos S
      by_cases hM : M < 2 ^ S
      · rw [Nat.div_eq_of_lt hM]
        walk_at "go"
        have hS : S ≤ 24 := by omega
        have q := q M S rfl rfl hS hM
        refine c_shl ?_ ?_
        · refine ⟨by omega, by omega, ?_⟩
          have h1 := numOf_lt (b.drop (8 * (b.length / 8)))
          have h2 : (b.drop (8 * (b.length / 8))).length ≤ 8 := by rw [List.length_drop]; omega
          have h3 := Nat.lt_of_lt_of_le h1 (Nat.pow_le_pow_right (by decide) h2)
          rw [Int.natAbs_natCast]
          exact Nat.lt_trans h3 (by decide)
        walk_at "go"
        rename_i H1 h1 H2 h2
        rw [Int.toNat_natCast, join_nat hM] at h2
        have e1 : numOf (b.drop (8 * (b.length / 8))) * 2 ^ S + M = numOf ((b ++ bitsOf M S).drop (8 * (b.length / 8))) := by
          rw [List.drop_append_of_le_length (by omega), numOf_append, bitsOf_length, numOf_small hM]
        rw [e1] at h2
        have hcl : (b ++ bitsOf M S).length = b.length + S := by rw [List.length_append, bitsOf_length]
        have e2 : brL b = HO.lst ((wholeTo (b ++ bitsOf M S) (b.length / 8)).map V.int) := by
          show HO.lst _ = HO.lst _
          rw [wholeTo_append (by omega)]
        rw [e2] at h2
        generalize b ++ bitsOf M S = c at *
        refine w_while (fun m σ' L' B' => ∃ j, m = c.length - 8 * j ∧ 8 * j ≤ c.length ∧ σ' = [some (.ref x), some (.int M), some (.int S)] ∧ B' = B ∧
          L' = (x, .ins (He.ga K "BitRow") dx [("full", .ref f), ("part", .int ((numOf (c.drop (8 * j)) : Nat) : Int)), ("filled", .int ((m : Nat) : Int))]) :: (f, .lst ((wholeTo c j).map V.int)) :: L) (c.length - 8 * (b.length / 8)) h2 ⟨b.length / 8, rfl, by omega, rfl, rfl, ?_⟩ ?_
        · have e3 : ((b.length % 8 : Nat) : Int) + ((S : Nat) : Int) = ((c.length - 8 * (b.length / 8) : Nat) : Int) := by omega
          rw [e3]
        · rintro m σ' L' B' H' ⟨j, hm, hj, rfl, rfl, rfl⟩ h'
          walk_at "go"
          by_cases h8 : 8 ≤ m
          · refine i_t (decide_eq_true (by omega)) (w_turn ?_)
            walk_at "go"
            rename_i H3 h3
            have e4 : (m : Int) - 8 = ((m - 8 : Nat) : Int) := by omega
            rw [e4, Int.toNat_natCast, shr_nat]
            have hl : (c.drop (8 * j)).length = m := by rw [List.length_drop, hm]
            have e5 := numOf_take_div (c.drop (8 * j)) 8
            rw [hl] at e5
            rw [e5]
            refine c_app1 h3 (small5 ?_) fun H4 h4 => ?_
            · rw [List.length_map, wholeTo_length]
              omega
            rw [e4] at h4
            walk_at "go"
            rename_i H5 h5
            rw [Int.toNat_natCast, mask_nat] at h5
            have e6 := numOf_drop_mod (c.drop (8 * j)) 8
            rw [hl, List.drop_drop] at e6
            rw [e6] at h5
            refine ⟨m - 8, by omega, _, _, ⟨j + 1, by omega, by omega, rfl, rfl, ?_⟩, h5⟩
            rw [wholeTo_succ, List.map_append]
            rfl
          · refine i_f (decide_eq_false (by omega)) ?_
            have ej : j = c.length / 8 := by omega
            subst ej
            have em : m = c.length % 8 := by omega
            rw [em] at h'
            exact q H' h'
      · have hd : 1 ≤ M / 2 ^ S := (Nat.one_le_div_iff hp).mpr (Nat.le_of_not_lt hM)
        rw [decide_eq_false (by omega : ¬ ((M : Nat) : Int) < ((2 ^ S : Nat) : Int))] at qe
        walk_at "go"
        exact qe rfl
    | non => walk_at "go"; exact qe rfl
    | bl b => walk_at "go"; exact qe rfl
    | str x => walk_at "go"; exact qe rfl
    | lst z => walk_at "go"; exact qe rfl
    | tup z => walk_at "go"; exact qe rfl
    | dic z => walk_at "go"; exact qe rfl
  | _ => cases hk
def sp_BitRow_many (K : PySem.W.Frag) : Sp := fun vs H Q _ => ∃ (B : Hp) (L : Pic) (x dx f : Addr) (b : List Bool), vs = [.ref x] ∧ Hs B ((x, brO K dx f b) :: (f, brL b) :: L) H ∧ Q (.int ((b.length : Nat) : Int)) H
theorem len_BitRow_many (h : sp_BitRow_many K vs H Q E) : vs.length = 1 := by
  obtain ⟨B, L, x, dx, f, b, rfl, _⟩ := h
  rfl
def t_BitRow_many (K : PySem.W.Frag) (W : WX) : TS :=
  (tRet (tOp rAddU (tOp rMulU (tC (.int 8)) (tCB (rLenK K) (tCons (tFld K (tVar 0) "full") tNil))) (tFld K (tVar 0) "filled")))
theorem rd_BitRow_many (kBitRow : KBitRow K) (h : sp_BitRow_many K vs H Q E) : t_BitRow_many K W { nx := fun _ H' => Q .non H', rt := Q } (start ["self"] vs) H := by
  obtain ⟨B, L, x, dx, f, b, rfl, hs, q⟩ := h
  obtain ⟨hc, n1, n2, n3⟩ := kBitRow
  unfold t_BitRow_many
  walk_at "go"
  rw [List.length_map, wholeTo_length]
  have e : (8 : Int) * ((b.length / 8 : Nat) : Int) + ((b.length % 8 : Nat) : Int) = ((b.length : Nat) : Int) := by omega
  rw [e]
  exact q
def sp_BitRow_row (K : PySem.W.Frag) : Sp := fun vs H Q _ => ∃ (B : Hp) (L : Pic) (x dx f : Addr) (b : List Bool), vs = [.ref x] ∧ Hs B ((x, brO K dx f b) :: (f, brL b) :: L) H ∧ b.length ≤ 700000 ∧ RetL H Q ((rowOf b).map V.int)
theorem len_BitRow_row (h : sp_BitRow_row K vs H Q E) : vs.length = 1 := by
  obtain ⟨B, L, x, dx, f, b, rfl, _⟩ := h
  rfl
theorem rowOf_whole {b : List Bool} (h : b.length % 8 = 0) : rowOf b = wholeTo b (b.length / 8) := by
  unfold rowOf pad8
  rw [show (8 - b.length % 8) % 8 = 0 by omega, List.replicate_zero, List.append_nil, show (b.length + 7) / 8 = b.length / 8 by omega]
theorem rowOf_part {b : List Bool} (h : b.length % 8 ≠ 0) : rowOf b = wholeTo b (b.length / 8) ++ [((numOf (b.drop (8 * (b.length / 8))) * 2 ^ (8 - b.length % 8) : Nat) : Int)] := by
  unfold rowOf
  rw [show (b.length + 7) / 8 = b.length / 8 + 1 by omega, wholeTo_succ]
  unfold pad8
  rw [wholeTo_append (by omega)]
  congr 2
  unfold byteAt
  rw [List.drop_append_of_le_length (by omega), List.take_of_length_le (by rw [List.length_append, List.length_drop, List.length_replicate]; omega), numOf_append, numOf_noughts, List.length_replicate, show (8 - b.length % 8) % 8 = 8 - b.length % 8 by omega, Nat.add_zero]
def t_BitRow_row (K : PySem.W.Frag) (W : WX) : TS :=
  (tSeq (tIfS (tTest (tOp (rEqU K) (tFld K (tVar 0) "filled") (tC (.int 0)))) (tRet (tCB (rListK K) (tCons (tFld K (tVar 0) "full") tNil))) tNext)
    (tRet (tOp rAddU (tFld K (tVar 0) "full") (tLst (tCons (tOp rShlU (tFld K (tVar 0) "part") (tOp rSubU (tC (.int 8)) (tFld K (tVar 0) "filled"))) tNil)))))
theorem rd_BitRow_row (kBitRow : KBitRow K) (h : sp_BitRow_row K vs H Q E) : t_BitRow_row K W { nx := fun _ H' => Q .non H', rt := Q } (start ["self"] vs) H := by
  obtain ⟨B, L, x, dx, f, b, rfl, hs, hb, q⟩ := h
  obtain ⟨hc, n1, n2, n3⟩ := kBitRow
  have hx := hs.get (.head _)
  have hf := hs.get (.tail _ (.head _))
  clear hs
  have h0 := Hs.start H
  unfold t_BitRow_row
  walk_at "go"
  by_cases h8 : b.length % 8 = 0
  · refine i_t (decide_eq_true (by omega)) ?_
    walk_at "go"
    refine c_listL h0 (SqL.of hf) fun p H1 h1 => ?_
    rw [rowOf_whole h8] at q
    exact h1.rl (.head _) q
  · refine i_f (decide_eq_false (by omega)) ?_
    walk_at "go"
    rw [show (8 : Int) - ((b.length % 8 : Nat) : Int) = ((8 - b.length % 8 : Nat) : Int) by omega]
    refine c_shl ?_ ?_
    · refine ⟨by omega, by omega, ?_⟩
      have h1 := numOf_lt (b.drop (8 * (b.length / 8)))
      have h2 : (b.drop (8 * (b.length / 8))).length ≤ 8 := by rw [List.length_drop]; omega
      have h3 := Nat.lt_of_lt_of_le h1 (Nat.pow_le_pow_right (by decide) h2)
      rw [Int.natAbs_natCast]
      exact Nat.lt_trans h3 (by decide)
    walk_at "go"
    rename_i p H1 h1
    refine c_addL h1 (h1.ex _ _ hf) (h1.get (.head _)) ?_ fun r H2 h2 => ?_
    · rw [List.length_map, wholeTo_length]
      exact small5' (by simp; omega)
    rw [rowOf_part h8, List.map_append] at q
    refine h2.drop1.rl (.head _) ?_
    rw [Int.toNat_natCast]
    have e : ((numOf (b.drop (8 * (b.length / 8))) * 2 ^ (8 - b.length % 8) : Nat) : Int) = ((numOf (b.drop (8 * (b.length / 8))) : Nat) : Int) * 2 ^ (8 - b.length % 8) := by push_cast; rfl
    rw [e] at q
    exact q
/-! a reader as it stands -/
abbrev rdO (K : PySem.W.Frag) (dx s : Addr) (t : Nat) : HO := .ins (He.ga K "BitReader") dx [("source", .ref s), ("taken", .int ((t : Nat) : Int))]
def sp_BitReader___init__ (K : PySem.W.Frag) : Sp := fun vs H Q E => ∃ (B : Hp) (L : Pic) (x dx : Addr) (v : V) (g : Tg), vs = [.ref x, v] ∧ Hs B ((x, .ins (He.ga K "BitReader") dx []) :: L) H ∧ Th K H v g ∧ Tg.ok K H g ∧
  (∀ ns, g = .lst (ns.map V.int) → Bytes ns → ∀ s H', Hs B ((x, rdO K dx s 0) :: (s, .lst (ns.map V.int)) :: L) H' → Q .non H') ∧
  (Tg.isRow g = false → ∀ H', Hs B ((x, .ins (He.ga K "BitReader") dx []) :: L) H' → E (.ref (He.ga K "BadRow")) none H')
theorem len_BitReader___init__ (h : sp_BitReader___init__ K vs H Q E) : vs.length = 2 := by
  obtain ⟨B, L, x, dx, v, g, rfl, _⟩ := h
  rfl
def t_BitReader___init__ (K : PySem.W.Frag) (W : WX) : TS :=
  (tSeq (sFld K (tVar 0) (tCl (sp_need_row K) [] W (tCons (tVar 1) tNil)) "source")
    (sFld K (tVar 0) (tC (.int 0)) "taken"))
theorem rd_BitReader___init__ (kBitReader : KBitReader K) (h : sp_BitReader___init__ K vs H Q E) : t_BitReader___init__ K (fun c d _ H2 => E c d H2) { nx := fun _ H' => Q .non H', rt := Q } (start ["self", "row"] vs) H := by
  obtain ⟨B, L, x, dx, v, g, rfl, hs, hT, hok, q, qe⟩ := h
  obtain ⟨hc, n1, n2⟩ := kBitReader
  unfold t_BitReader___init__
  walk_at "go"
  refine ⟨v, g, rfl, hT, hok, fun xs e hr => ?_, fun hr H' e => qe hr H' (hs.same e)⟩
  subst e
  obtain ⟨ns, rfl, hb⟩ := ints_of (show xs.all byteV = true from hr)
  refine retL hs fun s H1 h1 => ?_
  walk_at "go"
  rename_i H2 h2 H3 h3
  exact q ns rfl hb s H3 h3.swap
def sp_BitReader_left (K : PySem.W.Frag) : Sp := fun vs H Q _ => ∃ (B : Hp) (L : Pic) (x dx s : Addr) (t : Nat) (ns : List Int), vs = [.ref x] ∧ Hs B ((x, rdO K dx s t) :: (s, .lst (ns.map V.int)) :: L) H ∧ Q (.int (8 * ((ns.length : Nat) : Int) - ((t : Nat) : Int))) H
theorem len_BitReader_left (h : sp_BitReader_left K vs H Q E) : vs.length = 1 := by
  obtain ⟨B, L, x, dx, s, t, ns, rfl, _⟩ := h
  rfl
def t_BitReader_left (K : PySem.W.Frag) (W : WX) : TS :=
  (tRet (tOp rSubU (tOp rMulU (tC (.int 8)) (tCB (rLenK K) (tCons (tFld K (tVar 0) "source") tNil))) (tFld K (tVar 0) "taken")))
theorem rd_BitReader_left (kBitReader : KBitReader K) (h : sp_BitReader_left K vs H Q E) : t_BitReader_left K W { nx := fun _ H' => Q .non H', rt := Q } (start ["self"] vs) H := by
  obtain ⟨B, L, x, dx, s, t, ns, rfl, hs, q⟩ := h
  obtain ⟨hc, n1, n2⟩ := kBitReader
  unfold t_BitReader_left
  walk_at "go"
  rw [List.length_map]
  exact q
theorem bitsRow_drop : ∀ (ns : List Int) (k : Nat), bitsRow (ns.drop k) = (bitsRow ns).drop (8 * k)
  | [], k => by simp [bitsRow]
  | n :: r, 0 => rfl
  | n :: r, k + 1 => by
    have ih := bitsRow_drop r k
    unfold bitsRow at ih ⊢
    have e : (bitsOf n.toNat 8).drop (8 * (k + 1)) = [] := List.drop_of_length_le (by rw [bitsOf_length]; omega)
    rw [List.drop_succ_cons, ih, List.flatMap_cons, List.drop_append, bitsOf_length, e, show 8 * (k + 1) - 8 = 8 * k by omega, List.nil_append]
theorem bitsRow_take : ∀ (ns : List Int) (k : Nat), bitsRow (ns.take k) = (bitsRow ns).take (8 * k)
  | [], k => by simp [bitsRow]
  | n :: r, 0 => rfl
  | n :: r, k + 1 => by
    have ih := bitsRow_take r k
    unfold bitsRow at ih ⊢
    have e : (bitsOf n.toNat 8).take (8 * (k + 1)) = bitsOf n.toNat 8 := List.take_of_length_le (by rw [bitsOf_length]; omega)
    rw [List.take_succ_cons, List.flatMap_cons, ih, List.flatMap_cons, List.take_append, bitsOf_length, e, show 8 * (k + 1) - 8 = 8 * k by omega]
/-- what the next so many bits tell -/
def takenNum (ns : List Int) (t i : Nat) : Nat := numOf (((bitsRow ns).drop t).take i)
def sp_BitReader_take (K : PySem.W.Frag) : Sp := fun vs H Q E => ∃ (B : Hp) (L : Pic) (x dx s : Addr) (t : Nat) (ns : List Int) (v : V) (g : Tg), vs = [.ref x, v] ∧ Th K H v g ∧ Hs B ((x, rdO K dx s t) :: (s, .lst (ns.map V.int)) :: L) H ∧ Bytes ns ∧ t ≤ 8 * ns.length ∧ ns.length ≤ 100000 ∧
  (∀ i : Nat, g = .int i → i ≤ 24 → t + i ≤ 8 * ns.length → ∀ H', Hs B ((x, rdO K dx s (t + i)) :: (s, .lst (ns.map V.int)) :: L) H' → Q (.int ((takenNum ns t i : Nat) : Int)) H') ∧
  (sizeOk g = false → E (.ref (He.ga K "BadBits")) none H) ∧ (∀ i : Nat, g = .int i → i ≤ 24 → 8 * ns.length < t + i → E (.ref (He.ga K "NoBits")) none H)
theorem len_BitReader_take (h : sp_BitReader_take K vs H Q E) : vs.length = 2 := by
  obtain ⟨B, L, x, dx, s, t, ns, v, g, rfl, _⟩ := h
  rfl
def t_BitReader_take (K : PySem.W.Frag) (W : WX) : TS :=
  (tSeq (tDrop (tCl (sp_need_size K) [] W (tCons (tVar 1) tNil)))
    (tSeq (tIfS (tTest (tOp rLtU (tMt (He.ga K "BitReader") "left" (sp_BitReader_left K) [] W (tVar 0) tNil) (tVar 1))) (tRz (He.ga K "NoBits") W) tNext)
    (tSeq (tAsg (tCB (rDivmodK) (tCons (tFld K (tVar 0) "taken") (tCons (tC (.int 8)) tNil))) (gTup K 2 (gCons (gName 2) (gCons (gName 3) gNil))))
    (tSeq (tAsg (tCB (rDivmodK) (tCons (tOp rSubU (tOp rAddU (tOp rAddU (tFld K (tVar 0) "taken") (tVar 1)) (tC (.int 8))) (tC (.int 1))) (tCons (tC (.int 8)) tNil))) (gTup K 2 (gCons (gName 4) (gCons (gName 5) gNil))))
    (tSeq (tAsg (tC (.int 0)) (gName 6))
    (tSeq (tFor (iList K (tSl (rSlK K) (tFld K (tVar 0) "source") (tPart (tVar 2)) (tPart (tVar 4)))) (gName 7) (tAsg (tOp rOrU (tOp rShlU (tVar 6) (tC (.int 8))) (tVar 7)) (gName 6)))
    (tSeq (tAsg (tOp rAndU (tVar 6) (tOp rSubU (tOp rShlU (tC (.int 1)) (tOp rSubU (tOp rMulU (tC (.int 8)) (tOp rSubU (tVar 4) (tVar 2))) (tVar 3))) (tC (.int 1)))) (gName 6))
    (tSeq (sFldAug K (tVar 0) (tVar 1) rAdd "taken")
    (tRet (tOp rShrU (tVar 6) (tOp rSubU (tOp rSubU (tC (.int 8)) (tC (.int 1))) (tVar 5))))))))))))
theorem rd_BitReader_take (kBitReader : KBitReader K) (h : sp_BitReader_take K vs H Q E) : t_BitReader_take K (fun c d _ H2 => E c d H2) { nx := fun _ H' => Q .non H', rt := Q } (start ["self", "size", "begin", "over", "end", "rest", "number", "byte"] vs) H := by
  obtain ⟨B, L, x, dx, s, t, ns, v, g, rfl, hT, hs, hb, ht, hl, q, qe, qn⟩ := h
  have kB := kBitReader
  obtain ⟨hc, n1, n2⟩ := kBitReader
  unfold t_BitReader_take
  walk_at "go"
  refine ⟨v, g, rfl, hT, fun hk => ?_, qe⟩
  walk_at "go"
  refine ⟨B, L, x, dx, s, t, ns, rfl, hs, ?_⟩
  cases hT with
  | int i =>
    simp only [sizeOk, Bool.and_eq_true, decide_eq_true_eq] at hk
    obtain ⟨I, rfl⟩ := Int.eq_ofNat_of_zero_le hk.1
    have hI : I ≤ 24 := by omega
    have q := q I rfl hI
    have qn := qn I rfl hI
    walk_at "go"
    by_cases hlt : 8 * ns.length < t + I
    · refine i_t (decide_eq_true (by omega)) ?_
      walk_at "go"
      exact qn hlt
    refine i_f (decide_eq_false (by omega)) ?_
    have q := q (by omega)
    walk_at "go"
    have e1 : ((t : Nat) : Int) / 8 = ((t / 8 : Nat) : Int) := by omega
    have e2 : ((t : Nat) : Int) % 8 = ((t % 8 : Nat) : Int) := by omega
    have e3 : (((t : Nat) : Int) + ((I : Nat) : Int) + 8 - 1) / 8 = (((t + I + 7) / 8 : Nat) : Int) := by omega
    have e4 : (((t : Nat) : Int) + ((I : Nat) : Int) + 8 - 1) % 8 = (((t + I + 7) % 8 : Nat) : Int) := by omega
    refine c_divmod hs ⟨by decide, by decide⟩ fun p1 H1 h1 => ?_
    rw [e1, e2] at h1
    walk_at "go"
    refine c_divmod h1 ⟨by decide, by decide⟩ fun p2 H2 h2 => ?_
    rw [e3, e4] at h2
    have ht2 := h2.sqt (K := K) (.head _)
    have h3 := h2.drop.drop
    walk_at "go"
    rename_i p3 H3 h4
    rw [cutV_ints, sIx_at _ _ _ (by omega), sIx_at _ _ _ (by omega)] at h4
    have hcl : ((ns.drop (t / 8)).take ((t + I + 7) / 8 - t / 8)).length = (t + I + 7) / 8 - t / 8 := by rw [List.length_take, List.length_drop]; omega
    have hcb : bitsRow ((ns.drop (t / 8)).take ((t + I + 7) / 8 - t / 8)) = ((bitsRow ns).drop (8 * (t / 8))).take (8 * ((t + I + 7) / 8 - t / 8)) := by rw [bitsRow_take, bitsRow_drop]
    have hby : Bytes ((ns.drop (t / 8)).take ((t + I + 7) / 8 - t / 8)) := fun n hn => hb n (List.mem_of_mem_drop (List.mem_of_mem_take hn))
    generalize (ns.drop (t / 8)).take ((t + I + 7) / 8 - t / 8) = cs at *
    refine w_forL V.int cs (fun pre σ' L' B' => ∃ w, σ' = [some (.ref x), some (.int I), some (.int ((t / 8 : Nat) : Int)), some (.int ((t % 8 : Nat) : Int)), some (.int (((t + I + 7) / 8 : Nat) : Int)), some (.int (((t + I + 7) % 8 : Nat) : Int)), some (.int ((numOf (bitsRow pre) : Nat) : Int)), w] ∧
      B' = B ∧ L' = (p3, .lst (cs.map V.int)) :: (x, rdO K dx s t) :: (s, .lst (ns.map V.int)) :: L) h4 ⟨none, rfl, rfl, rfl⟩ ?_ ?_ ?_
    · rintro pre post σ' L' B' H' _ ⟨w, _, rfl, rfl⟩ h
      exact h.sql (.head _)
    · rintro pre n post σ' L' B' H' e ⟨w, rfl, rfl, rfl⟩ h
      walk_at "go"
      have hpl : pre.length < 5 := by
        have := congrArg List.length e
        simp at this
        omega
      refine c_shl ?_ ?_
      · refine ⟨by omega, by omega, ?_⟩
        have z1 := numOf_lt (bitsRow pre)
        rw [bitsRow_length] at z1
        have z2 := Nat.lt_of_lt_of_le z1 (Nat.pow_le_pow_right (by decide) (show 8 * pre.length ≤ 32 by omega))
        rw [Int.natAbs_natCast]
        exact Nat.lt_trans z2 (by decide)
      walk_at "go"
      have hn := hby n (by rw [e]; simp)
      obtain ⟨m, rfl⟩ := Int.eq_ofNat_of_zero_le hn.1
      have hm : m < 2 ^ 8 := by omega
      refine ⟨_, _, ⟨some (.int m), ?_, rfl, rfl⟩, h⟩
      rw [bitsRow_snoc, numOf_append, bitsOf_length, Int.toNat_natCast, numOf_small hm, show (8 : Int).toNat = 8 from rfl, join_nat hm]
      rfl
    · rintro σ' L' B' H' ⟨w, rfl, rfl, rfl⟩ h
      walk_at "go"
      have e5 : (8 : Int) * ((((t + I + 7) / 8 : Nat) : Int) - ((t / 8 : Nat) : Int)) - ((t % 8 : Nat) : Int) = (((8 * ((t + I + 7) / 8 - t / 8) - t % 8 : Nat)) : Int) := by omega
      rename_i H5 h5
      rw [e5, show (8 : Int) - 1 - (((t + I + 7) % 8 : Nat) : Int) = ((7 - (t + I + 7) % 8 : Nat) : Int) by omega]
      rw [Int.toNat_natCast, Int.toNat_natCast, mask_nat, shr_nat]
      have l1 : (bitsRow cs).length = 8 * ((t + I + 7) / 8 - t / 8) := by rw [bitsRow_length, hcl]
      have z1 := numOf_drop_mod (bitsRow cs) (t % 8)
      rw [l1] at z1
      rw [z1]
      have z2 := numOf_take_div ((bitsRow cs).drop (t % 8)) I
      rw [List.length_drop, l1, show 8 * ((t + I + 7) / 8 - t / 8) - t % 8 - I = 7 - (t + I + 7) % 8 by omega] at z2
      rw [z2]
      have z3 : ((bitsRow cs).drop (t % 8)).take I = ((bitsRow ns).drop t).take I := by
        rw [hcb, List.drop_take, List.drop_drop, List.take_take, show 8 * (t / 8) + t % 8 = t by omega, show min I (8 * ((t + I + 7) / 8 - t / 8) - t % 8) = I by omega]
      rw [z3]
      have e6 : ((t : Nat) : Int) + ((I : Nat) : Int) = ((t + I : Nat) : Int) := by omega
      rw [e6] at h5
      exact q H5 h5.drop
  | _ => cases hk
theorem use_take {B : Hp} {L : Pic} {x dx s : Addr} {t : Nat} {ns : List Int} (i : Nat) {j : Int} (e : j = ((i : Nat) : Int)) (h : Hs B ((x, rdO K dx s t) :: (s, .lst (ns.map V.int)) :: L) H) (hb : Bytes ns) (hl : ns.length ≤ 100000) (hi : i ≤ 24)
    (ht : t + i ≤ 8 * ns.length) (k : ∀ H', Hs B ((x, rdO K dx s (t + i)) :: (s, .lst (ns.map V.int)) :: L) H' → Q (.int ((takenNum ns t i : Nat) : Int)) H') : sp_BitReader_take K [.ref x, .int j] H Q E := by
  subst e
  refine ⟨B, L, x, dx, s, t, ns, _, _, rfl, .int _, h, hb, by omega, hl, fun i' e' _ _ => ?_, fun z => ?_, fun i' e' _ h2 => ?_⟩
  · cases Int.ofNat.inj (Tg.int.inj e')
    exact k
  · simp only [sizeOk, Bool.and_eq_false_iff, decide_eq_false_iff_not] at z
    omega
  · cases Int.ofNat.inj (Tg.int.inj e')
    omega
theorem use_put {B : Hp} {L : Pic} {x dx f : Addr} {b : List Bool} {n s : Nat} {i j : Int} (ei : i = ((n : Nat) : Int)) (ej : j = ((s : Nat) : Int)) (h : Hs B ((x, brO K dx f b) :: (f, brL b) :: L) H) (hb : b.length ≤ 700000) (hs : s ≤ 24) (hn : n < 2 ^ s)
    (k : ∀ H', Hs B ((x, brO K dx f (b ++ bitsOf n s)) :: (f, brL (b ++ bitsOf n s)) :: L) H' → Q .non H') : sp_BitRow_put K [.ref x, .int i, .int j] H Q E := by
  subst ei ej
  refine ⟨B, L, x, dx, f, b, _, _, .int ((n : Nat) : Int), .int ((s : Nat) : Int), rfl, .int _, .int _, h, hb, fun n' s' e1 e2 _ _ => ?_, fun z => ?_⟩
  · cases Int.ofNat.inj (Tg.int.inj e1)
    cases Int.ofNat.inj (Tg.int.inj e2)
    exact k
  · simp only [sizeOk, putOk, Int.toNat_natCast, two_cast, Bool.and_eq_false_iff, decide_eq_false_iff_not] at z
    omega
theorem take_at {ns : List Int} {t v i : Nat} {rest : List Bool} (ht : t ≤ 8 * ns.length) (h : (bitsRow ns).drop t = bitsOf v i ++ rest) (hv : v < 2 ^ i) : takenNum ns t i = v ∧ t + i ≤ 8 * ns.length := by
  have z := congrArg List.length h
  rw [List.length_drop, List.length_append, bitsOf_length, bitsRow_length] at z
  refine ⟨?_, by omega⟩
  unfold takenNum
  rw [h, List.take_append_of_le_length (by rw [bitsOf_length]; omega), List.take_of_length_le (by rw [bitsOf_length]; omega), numOf_small hv]
/-- what comes of a reader next, put on behind -/
theorem drop_next {l : List Bool} {t v i : Nat} {rest : List Bool} (h : l.drop t = bitsOf v i ++ rest) : l.drop (t + i) = rest := by
  rw [← List.drop_drop, h, List.drop_append_of_le_length (by rw [bitsOf_length]; omega), List.drop_of_length_le (by rw [bitsOf_length]; omega), List.nil_append]
end L2.BR

namespace L2.BR
open PySem PySem.Spec PyProof.Rows L2.BP
variable {K : PySem.W.Frag} {W : WX} {vs : List V} {H : Hp} {Q : VK} {E : XK}
def sp_BitReader_place (K : PySem.W.Frag) : Sp := fun vs H Q _ => ∃ (B : Hp) (L : Pic) (x dx s : Addr) (t : Nat) (ns : List Int), vs = [.ref x] ∧ Hs B ((x, rdO K dx s t) :: (s, .lst (ns.map V.int)) :: L) H ∧ Q (.int ((t : Nat) : Int)) H
theorem len_BitReader_place (h : sp_BitReader_place K vs H Q E) : vs.length = 1 := by
  obtain ⟨B, L, x, dx, s, t, ns, rfl, _⟩ := h
  rfl
def t_BitReader_place (K : PySem.W.Frag) (W : WX) : TS :=
  (tRet (tFld K (tVar 0) "taken"))
theorem rd_BitReader_place (kBitReader : KBitReader K) (h : sp_BitReader_place K vs H Q E) : t_BitReader_place K W { nx := fun _ H' => Q .non H', rt := Q } (start ["self"] vs) H := by
  obtain ⟨B, L, x, dx, s, t, ns, rfl, hs, q⟩ := h
  obtain ⟨hc, n1, n2⟩ := kBitReader
  unfold t_BitReader_place
  walk_at "go"
  exact q
end L2.BR

namespace L2.BR
open PySem PySem.Spec PyProof.Rows L2.BP
variable {K : PySem.W.Frag} {W : WX} {vs : List V} {H : Hp} {Q : VK} {E : XK}
/-! ### ways: texts and windows of a block -/
def sp_need_text (K : PySem.W.Frag) : Sp := fun vs H Q _ => ∃ (a : Addr) (ns : List Int), vs = [.ref a] ∧ SqL K H a (ns.map V.int) ∧ Bytes ns ∧ 1 ≤ ns.length ∧ ns.length ≤ 64 ∧ RetL H Q (ns.map V.int)
theorem len_need_text (h : sp_need_text K vs H Q E) : vs.length = 1 := by
  obtain ⟨a, ns, rfl, _⟩ := h
  rfl
def t_need_text (K : PySem.W.Frag) (W : WX) : TS :=
  (tSeq (tAsg (tCl (sp_need_row K) [] W (tCons (tVar 0) tNil)) (gName 1))
    (tSeq (tIfS (tNot (tTest (tChain rLeU rLeU (tC (.int 1)) (tCB (rLenK K) (tCons (tVar 1) tNil)) (tC (.int 64))))) (tRz (He.ga K "BadRow") W) tNext)
    (tRet (tVar 1))))
theorem rd_need_text (h : sp_need_text K vs H Q E) : t_need_text K (fun c d _ H2 => E c d H2) { nx := fun _ H' => Q .non H', rt := Q } (start ["text", "found"] vs) H := by
  obtain ⟨a, ns, rfl, hS, hb, h1, h2, q⟩ := h
  have hs := Hs.start H
  unfold t_need_text
  walk_at "go"
  refine ⟨.ref a, _, rfl, .lst hS, ok_ints (by omega), fun xs e _ => ?_, fun z => ?_⟩
  rotate_left
  · rw [show Tg.isRow (.lst (ns.map V.int)) = true from all_byteV hb] at z
    cases z
  cases Tg.lst.inj e
  refine retL hs fun p H1 h3 => ?_
  walk_at "go"
  rw [List.length_map]
  refine i_t (decide_eq_true (by omega)) ?_
  walk_at "go"
  exact h3.rl (.head _) q
/-- what a block's window may be -/
def WinW (g : Tg) (ws : List Int) : Prop := (g = .non ∧ ws = []) ∨ (g = .lst (ws.map V.int) ∧ Bytes ws ∧ ws.length ≤ 192)
def sp_need_window_ways (K : PySem.W.Frag) : Sp := fun vs H Q _ => ∃ (v : V) (g : Tg) (ws : List Int), vs = [v] ∧ Th K H v g ∧ WinW g ws ∧ RetL H Q (ws.map V.int)
theorem len_need_window_ways (h : sp_need_window_ways K vs H Q E) : vs.length = 1 := by
  obtain ⟨v, g, ws, rfl, _⟩ := h
  rfl
def t_need_window_ways (K : PySem.W.Frag) (W : WX) : TS :=
  (tSeq (tIfS (tTest (tOp rIsU (tVar 0) (tC .non))) (tRet (tLst tNil)) tNext)
    (tSeq (tAsg (tCl (sp_need_row K) [] W (tCons (tVar 0) tNil)) (gName 1))
    (tSeq (tIfS (tTest (tOp rGtU (tCB (rLenK K) (tCons (tVar 1) tNil)) (tC (.int 192)))) (tRz (He.ga K "BadRow") W) tNext)
    (tRet (tVar 1)))))
theorem rd_need_window_ways (h : sp_need_window_ways K vs H Q E) : t_need_window_ways K (fun c d _ H2 => E c d H2) { nx := fun _ H' => Q .non H', rt := Q } (start ["before", "found"] vs) H := by
  obtain ⟨v, g, ws, rfl, hT, hw, q⟩ := h
  have hs := Hs.start H
  unfold t_need_window_ways
  rcases hw with ⟨rfl, rfl⟩ | ⟨rfl, hb, hl⟩
  · cases hT
    walk_at "go"
    rename_i p H1 h1
    exact h1.rl (.head _) q
  · cases hT with
    | @lst a xs z =>
      walk_at "go"
      refine ⟨.ref a, _, rfl, .lst z, ok_ints (by omega), fun xs e _ => ?_, fun y => ?_⟩
      rotate_left
      · rw [show Tg.isRow (.lst (ws.map V.int)) = true from all_byteV hb] at y
        cases y
      cases Tg.lst.inj e
      refine retL hs fun p H1 h3 => ?_
      walk_at "go"
      rw [List.length_map]
      refine i_f (decide_eq_false (by omega)) ?_
      walk_at "go"
      exact h3.rl (.head _) q
end L2.BR

namespace L2.BR
open PySem PySem.Spec PyProof.Rows L2.BP
variable {K : PySem.W.Frag} {W : WX} {vs : List V} {H : Hp} {Q : VK} {E : XK}
/-! ### texts of noughts and ones -/
def dig (b : Bool) : Nat := if b then 49 else 48
def digS (b : List Bool) : Str := ⟨(b.map dig).toArray⟩
theorem digS_len (b : List Bool) : (digS b).length = b.length := by simp [digS, Str.length]
theorem digS_app (a b : List Bool) : digS a ++ digS b = digS (a ++ b) := by
  show Str.append _ _ = _
  simp [Str.append, digS]
theorem digS_rep {k : Nat} (h : k < 8) : repS "0" k = digS (List.replicate k false) := by
  revert k
  decide +kernel
theorem digS_101 : ("101" : Str) = digS [true, false, true] := by decide +kernel
theorem digS_nil : ("" : Str) = digS [] := by decide +kernel
theorem digS_cut (b : List Bool) {i j : Int} {m n : Nat} (ei : i = ((m : Nat) : Int)) (ej : j = ((n : Nat) : Int)) (h : m ≤ n) (hn : n ≤ b.length) : cutS (digS b) (some i) (some j) = digS ((b.drop m).take (n - m)) := by
  subst ei ej
  unfold cutS
  rw [HT.sIx_nat, HT.sIx_nat, digS_len, Nat.min_eq_left hn, Nat.min_eq_left (Nat.le_trans h hn)]
  unfold digS
  simp
theorem digS_at {b : List Bool} {i c : Nat} (h : (digS b).cps[i]? = some c) : ∃ x, b[i]? = some x ∧ c = dig x := by
  unfold digS at h
  rw [List.getElem?_toArray, List.getElem?_map] at h
  cases e : b[i]? with
  | none => rw [e] at h; cases h
  | some x => rw [e] at h; exact ⟨x, rfl, (Option.some.inj h).symm⟩
theorem dig_one (b : Bool) : decide ((⟨#[dig b]⟩ : Str) = "1") = b := by cases b <;> decide +kernel
theorem dig_at {n : Nat} : atI ("01" : Str).cps.toList ((n % 2 : Nat) : Int) = some (dig (n % 2 == 1)) := by
  rcases Nat.mod_two_eq_zero_or_one n with e | e <;> rw [e] <;> decide +kernel
theorem dig_S (b : Bool) : (⟨#[dig b]⟩ : Str) = digS [b] := rfl
theorem bitsOf_at (n : Nat) : ∀ s j, j < s → (bitsOf n s)[j]? = some (n / 2 ^ (s - 1 - j) % 2 == 1)
  | 0, _, h => absurd h (Nat.not_lt_zero _)
  | s + 1, 0, _ => rfl
  | s + 1, j + 1, h => by
    have ih := bitsOf_at n s j (by omega)
    rw [show s + 1 - 1 - (j + 1) = s - 1 - j by omega]
    exact ih
theorem bits_take (n : Nat) {s j : Nat} (h : j < s) : (bitsOf n s).take (j + 1) = (bitsOf n s).take j ++ [n / 2 ^ (s - 1 - j) % 2 == 1] := by
  rw [List.take_add_one, bitsOf_at n s j h]
  rfl
theorem num_take {b : List Bool} {i : Nat} {x : Bool} (h : b[i]? = some x) : numOf (b.take (i + 1)) = 2 * numOf (b.take i) + x.toNat := by
  rw [List.take_add_one, h, numOf_append]
  cases x <;> simp [numOf] <;> omega
theorem rgC8 {j : Int} {m : Nat} (e : j = 8 * ((m : Nat) : Int)) (hm : m ≤ 1000000) : RgC 0 j 8 m := by
  subst e
  have hz : Builtin.Range.rangeSize 0 (8 * ((m : Nat) : Int)) 8 = m := by
    unfold Builtin.Range.rangeSize
    simp only [show ((8 : Int) > 0) from by decide, if_true]
    split <;> omega
  refine ⟨by decide, by decide, ?_, hz⟩
  unfold Builtin.Range.small
  rw [hz]
  have f : ∀ z : Int, -1000000 ≤ z → z ≤ 9000000 → Builtin.Range.rangeFitsLong z = true := fun z h1 h2 => by
    unfold Builtin.Range.rangeFitsLong
    rw [decide_eq_true (show -(2 ^ 63) ≤ z by omega), decide_eq_true (show z < 2 ^ 63 by omega)]
    rfl
  rw [if_pos (by decide), f 0 (by decide) (by decide), f 8 (by decide) (by decide), f (8 * ((m : Nat) : Int)) (by omega) (by omega), f ((m : Nat) : Int) (by omega) (by omega), f (8 * ((m : Nat) : Int) + (8 - 1)) (by omega) (by omega)]
  simp
def GoodP (p : Nat × Nat) : Prop := p.2 ≤ 24 ∧ p.1 < 2 ^ p.2
abbrev pairP (p : Nat × Nat) : List V := [.int ((p.1 : Nat) : Int), .int ((p.2 : Nat) : Int)]
def parB (ps : List (Nat × Nat)) : List Bool := ps.flatMap fun p => bitsOf p.1 p.2
theorem parB_append (a b : List (Nat × Nat)) : parB (a ++ b) = parB a ++ parB b := by unfold parB; rw [List.flatMap_append]
theorem parB_take {ps : List (Nat × Nat)} {i : Nat} {p : Nat × Nat} (h : ps[i]? = some p) : parB (ps.take (i + 1)) = parB (ps.take i) ++ bitsOf p.1 p.2 := by
  rw [List.take_add_one, h, parB_append]
  simp [parB]
theorem parB_len : ∀ {ps : List (Nat × Nat)}, (∀ p ∈ ps, GoodP p) → (parB ps).length ≤ 24 * ps.length
  | [], _ => Nat.zero_le _
  | p :: r, h => by
    have h1 := (h p (.head _)).1
    have h2 := parB_len fun q hq => h q (.tail _ hq)
    show (bitsOf p.1 p.2 ++ parB r).length ≤ _
    rw [List.length_append, bitsOf_length, List.length_cons]
    omega
theorem tups_P {α : Type} {f : α → List V} {ps : List α} {acc pre post : List V} {x : V} (h : Tups K H acc (ps.map f)) (e : acc = pre ++ x :: post) : ∃ a p, x = .ref a ∧ ps[pre.length]? = some p ∧ SqT K H a (f p) := by
  subst e
  obtain ⟨a, p1, xs, p2, rfl, e2, e3, e4⟩ := h.split
  have e5 : (ps.map f)[pre.length]? = some xs := by
    rw [e2, ← e3]
    simp
  rw [List.getElem?_map] at e5
  cases e6 : ps[pre.length]? with
  | none => rw [e6] at e5; cases e5
  | some p =>
    rw [e6] at e5
    cases e5
    exact ⟨a, p, rfl, rfl, e4⟩
def sp__law_digits (K : PySem.W.Frag) : Sp := fun vs H Q _ => ∃ (a : Addr) (ws : List V) (ps : List (Nat × Nat)), vs = [.ref a] ∧ SqL K H a ws ∧ Tups K H ws (ps.map pairP) ∧ (∀ p ∈ ps, GoodP p) ∧ ps.length ≤ 8000 ∧ RetV H Q (.str (digS (parB ps)))
theorem len__law_digits (h : sp__law_digits K vs H Q E) : vs.length = 1 := by
  obtain ⟨a, ws, ps, rfl, _⟩ := h
  rfl
def t__law_digits (K : PySem.W.Frag) (W : WX) : TS :=
  (tSeq (tAsg (tC (.str "")) (gName 1))
    (tSeq (tFor (iList K (tVar 0)) (gTup K 2 (gCons (gName 2) (gCons (gName 3) gNil))) (tFor (iRng1 (tCons (tVar 3) tNil)) (gName 4) (tAsg (tOp rAddU (tVar 1) (tOp (rIx K) (tC (.str "01")) (tOp rModU (tOp rDivU (tVar 2) (tOp rShlU (tC (.int 1)) (tOp rSubU (tOp rSubU (tVar 3) (tC (.int 1))) (tVar 4)))) (tC (.int 2))))) (gName 1))))
    (tRet (tVar 1))))
theorem rd__law_digits (h : sp__law_digits K vs H Q E) : t__law_digits K W { nx := fun _ H' => Q .non H', rt := Q } (start ["_law_parts", "_law_found", "_law_number", "_law_size", "_law_k"] vs) H := by
  obtain ⟨a, ws, ps, rfl, hS, hT, hg, hl, q⟩ := h
  have hs := Hs.start H
  unfold t__law_digits
  walk_at "go"
  have hxl : ws.length = ps.length := by rw [hT.length, List.length_map]
  refine w_forL id ws (fun pre σ' L' B' => ∃ w2 w3 w4, σ' = [some (.ref a), some (.str (digS (parB (ps.take pre.length)))), w2, w3, w4] ∧ B' = H ∧ L' = []) hs ⟨none, none, none, by rw [digS_nil]; rfl, rfl, rfl⟩ ?_ ?_ ?_
  · rintro pre post σ' L' B' H' _ ⟨w2, w3, w4, _, rfl, rfl⟩ h
    rw [List.map_id]
    exact h.bl hS
  · rintro pre y post σ' L' B' H' e ⟨w2, w3, w4, rfl, rfl, rfl⟩ h
    obtain ⟨u, p, rfl, hp, hu⟩ := tups_P hT e
    have hu' := h.bt hu
    obtain ⟨hg1, hg2⟩ := hg p (List.mem_of_getElem? hp)
    have hb := parB_len (ps := ps.take pre.length) (fun p hp => hg p (List.mem_of_mem_take hp))
    rw [List.length_take] at hb
    rw [id_eq]
    walk_at "go"
    refine ⟨_, rfl, by omega, by omega, ?_⟩
    rw [Int.toNat_natCast]
    refine w_forR (fun j σ' L' B'' => ∃ w4, σ' = [some (.ref a), some (.str (digS (parB (ps.take pre.length) ++ (bitsOf p.1 p.2).take j))), some (.int ((p.1 : Nat) : Int)), some (.int ((p.2 : Nat) : Int)), w4] ∧ B'' = B' ∧ L' = []) h ⟨_, by rw [List.take_zero, List.append_nil]; rfl, rfl, rfl⟩ ?_ ?_
    · rintro j σ' L' B'' H2 hj ⟨w4, rfl, rfl, rfl⟩ h2
      have e1 : (1 * 2 ^ (((p.2 : Nat) : Int) - 1 - (0 + ((j : Nat) : Int))).toNat : Int) = ((2 ^ (p.2 - 1 - j) : Nat) : Int) := by
        rw [show (((p.2 : Nat) : Int) - 1 - (0 + ((j : Nat) : Int))).toNat = p.2 - 1 - j by omega]
        push_cast
        omega
      have e2 : 2 ^ (p.2 - 1 - j) ≤ 2 ^ 24 := Nat.pow_le_pow_right (by decide) (by omega)
      have e3 : 0 < 2 ^ (p.2 - 1 - j) := Nat.two_pow_pos _
      walk_at "go"
      rw [e1]
      rw [show ((p.1 : Nat) : Int) / ((2 ^ (p.2 - 1 - j) : Nat) : Int) = ((p.1 / 2 ^ (p.2 - 1 - j) : Nat) : Int) by push_cast; rfl]
      rw [show ((p.1 / 2 ^ (p.2 - 1 - j) : Nat) : Int) % 2 = ((p.1 / 2 ^ (p.2 - 1 - j) % 2 : Nat) : Int) by push_cast; rfl]
      refine c_ixS (by decide +kernel) dig_at ?_
      rw [dig_S]
      refine c_addS (small6' (by rw [digS_len, digS_len, List.length_append, List.length_take, List.length_singleton, bitsOf_length]; omega)) ?_
      rw [digS_app, List.append_assoc, ← bits_take _ hj]
      walk_at "go"
      exact ⟨_, _, ⟨_, rfl, rfl, rfl⟩, h2⟩
    · rintro σ' L' B'' H2 ⟨w4, rfl, rfl, rfl⟩ h2
      rw [List.take_of_length_le (l := bitsOf p.1 p.2) (i := p.2) (by rw [bitsOf_length]; exact Nat.le_refl _), ← parB_take hp]
      exact ⟨_, _, ⟨_, _, _, by rw [List.length_append, List.length_singleton], rfl, rfl⟩, h2⟩
  · rintro σ' L' B' H' ⟨w2, w3, w4, rfl, rfl, rfl⟩ h
    walk_at "go"
    rw [hxl, List.take_of_length_le (Nat.le_refl _)]
    exact q _ h.ex
def sp__law_row_of (K : PySem.W.Frag) : Sp := fun vs H Q _ => ∃ (b : List Bool), vs = [.str (digS b)] ∧ b.length ≤ 100000 ∧ RetL H Q ((rowOf b).map V.int)
theorem len__law_row_of (h : sp__law_row_of K vs H Q E) : vs.length = 1 := by
  obtain ⟨b, rfl, _⟩ := h
  rfl
def t__law_row_of (K : PySem.W.Frag) (W : WX) : TS :=
  (tSeq (tAsg (tLst tNil) (gName 1))
    (tSeq (tAsg (tOp rAddU (tVar 0) (tOp rMulU (tC (.str "0")) (tOp rModU (tOp rSubU (tC (.int 8)) (tOp rModU (tCB (rLenK K) (tCons (tVar 0) tNil)) (tC (.int 8)))) (tC (.int 8))))) (gName 2))
    (tSeq (tFor (iRng3 (tCons (tC (.int 0)) (tCons (tCB (rLenK K) (tCons (tVar 2) tNil)) (tCons (tC (.int 8)) tNil)))) (gName 3) (tSeq (tAsg (tC (.int 0)) (gName 4))
    (tSeq (tFor (iStr (tSl (rSlK K) (tVar 2) (tPart (tVar 3)) (tPart (tOp rAddU (tVar 3) (tC (.int 8)))))) (gName 5) (tAsg (tOp rAddU (tOp rMulU (tC (.int 2)) (tVar 4)) (tCB (rIntK) (tCons (tOp (rEqU K) (tVar 5) (tC (.str "1"))) tNil))) (gName 4)))
    (tDrop (tBM K "list" rAppend (tVar 1) (tCons (tVar 4) tNil))))))
    (tRet (tVar 1)))))
theorem rd__law_row_of (h : sp__law_row_of K vs H Q E) : t__law_row_of K W { nx := fun _ H' => Q .non H', rt := Q } (start ["_law_digits_here", "_law_found", "_law_filled", "_law_k", "_law_number", "_law_digit"] vs) H := by
  obtain ⟨b, rfl, hb, q⟩ := h
  have hs := Hs.start H
  have hpl := pad8_length b
  unfold t__law_row_of
  walk_at "go"
  refine c_lenS (small6' (by rw [digS_len]; omega)) ?_
  rw [digS_len]
  walk_at "go"
  refine c_repS (n := (8 - b.length % 8) % 8) (by omega) (by omega) (by decide +kernel) (by rw [digS_rep (Nat.mod_lt _ (by decide)), digS_len, List.length_replicate]; omega) ?_
  rw [digS_rep (Nat.mod_lt _ (by decide))]
  refine c_addS (small6' (by rw [digS_len, digS_len, List.length_replicate]; omega)) ?_
  rw [digS_app, show b ++ List.replicate ((8 - b.length % 8) % 8) false = pad8 b from rfl]
  walk_at "go"
  refine c_lenS (small6' (by rw [digS_len, hpl]; omega)) ?_
  rw [digS_len, hpl]
  walk_at "go"
  refine c_rcO ((b.length + 7) / 8) (rgC8 (by omega) (by omega)) ?_
  rename_i f H1 h1
  refine w_forC (fun i σ' L' B' => ∃ w3 w4 w5, σ' = [some (.str (digS b)), some (.ref f), some (.str (digS (pad8 b))), w3, w4, w5] ∧ B' = H ∧ L' = [(f, .lst ((wholeTo (pad8 b) i).map V.int))]) h1 ⟨none, none, none, rfl, rfl, rfl⟩ ?_ ?_
  · rintro i σ' L' B' H' hi ⟨w3, w4, w5, rfl, rfl, rfl⟩ h
    walk_at "go"
    refine c_slS (small6' (by rw [digS_len, hpl]; omega)) ?_
    rw [digS_cut _ (m := 8 * i) (n := 8 * i + 8) (by omega) (by omega) (by omega) (by omega), show 8 * i + 8 - 8 * i = 8 by omega]
    walk_at "go"
    refine w_forS (fun j σ' L' B'' => ∃ w5, σ' = [some (.str (digS b)), some (.ref f), some (.str (digS (pad8 b))), some (.int (0 + ((i : Nat) : Int) * 8)), some (.int ((numOf ((((pad8 b).drop (8 * i)).take 8).take j) : Nat) : Int)), w5] ∧ B'' = B' ∧ L' = [(f, .lst ((wholeTo (pad8 b) i).map V.int))]) h ⟨_, rfl, rfl, rfl⟩ ?_ ?_
    · rintro j c σ' L' B'' H2 hc ⟨w5, rfl, rfl, rfl⟩ h2
      obtain ⟨x, hx, rfl⟩ := digS_at hc
      walk_at "go"
      rw [dig_one]
      walk_at "go"
      refine ⟨_, _, ⟨some (.str ⟨#[dig x]⟩), ?_, rfl, rfl⟩, h2⟩
      rw [num_take hx]
      cases x <;> rfl
    · rintro σ' L' B'' H2 ⟨w5, rfl, rfl, rfl⟩ h2
      rw [List.take_of_length_le (by show _ ≤ (digS _).length; rw [digS_len]; exact Nat.le_refl _)]
      walk_at "go"
      refine c_app0 h2 (small6 (by rw [List.length_map, wholeTo_length]; omega)) fun H3 h3 => ?_
      walk_at "go"
      refine ⟨_, _, ⟨_, _, _, rfl, rfl, ?_⟩, h3⟩
      rw [wholeTo_succ, List.map_append]
      rfl
  · rintro σ' L' B' H' ⟨w3, w4, w5, rfl, rfl, rfl⟩ h
    walk_at "go"
    exact h.rl (.head _) q
end L2.BR

namespace L2.BR
open PySem PySem.Spec PyProof.Rows L2.BP
variable {K : PySem.W.Frag} {W : WX} {vs : List V} {H : Hp} {Q : VK} {E : XK}
/-! ### drawn numbers, signs, texts behind windows -/
def sp__law_drawn (K : PySem.W.Frag) : Sp := fun vs H Q _ => ∃ c k : Int, vs = [.int c, .int k] ∧ 0 ≤ k ∧ k ≤ 100000 ∧ ∀ m : Int, 0 ≤ m → Q (.int m) H
theorem len__law_drawn (h : sp__law_drawn K vs H Q E) : vs.length = 2 := by
  obtain ⟨c, k, rfl, _⟩ := h
  rfl
def t__law_drawn (K : PySem.W.Frag) (W : WX) : TS :=
  (tSeq (tAsg (tOp rModU (tOp rMulU (tOp rAddU (tOp rAddU (tOp rAddU (tVar 0) (tOp rMulU (tOp rMulU (tC (.int 101)) (tVar 1)) (tVar 1))) (tOp rMulU (tC (.int 7)) (tVar 1))) (tC (.int 13))) (tC (.int 48271))) (tC (.int 2147483647))) (gName 2))
    (tRet (tOp rDivU (tOp rModU (tOp rMulU (tOp rAddU (tOp rDivU (tVar 2) (tC (.int 7))) (tVar 1)) (tC (.int 16807))) (tC (.int 2147483629))) (tC (.int 64)))))
theorem rd__law_drawn (h : sp__law_drawn K vs H Q E) : t__law_drawn K W { nx := fun _ H' => Q .non H', rt := Q } (start ["_law_seed", "_law_k", "_law_mixed"] vs) H := by
  obtain ⟨c, k, rfl, h0, h1, q⟩ := h
  have hs := Hs.start H
  unfold t__law_drawn
  walk_at "go"
  exact q _ (by omega)
theorem bytes_at {ns : List Int} {i : Nat} (h : Bytes ns) (hi : i < ns.length) : 0 ≤ ns.getD i 0 ∧ ns.getD i 0 ≤ 255 := by
  rw [List.getD_eq_getElem?_getD, List.getElem?_eq_getElem hi]
  exact h _ (List.getElem_mem hi)
theorem bytes_snoc {ns : List Int} {x : Int} (h : Bytes ns) (hx : 0 ≤ x ∧ x ≤ 255) : Bytes (ns ++ [x]) := fun n hn => by
  rcases List.mem_append.mp hn with z | z
  · exact h n z
  · rw [List.mem_singleton.mp z]
    exact hx
theorem at_last {ns : List Int} (h : ns ≠ []) : atI (ns.map V.int) (-1) = some (.int (ns.getD (ns.length - 1) 0)) := by
  have hl : 0 < ns.length := List.length_pos_iff.mpr h
  have e : ixN (ns.map V.int).length (-1) = some (ns.length - 1) := by
    unfold ixN
    rw [List.length_map, if_neg (by decide), if_pos (by omega)]
    congr 1
    omega
  unfold atI
  rw [e]
  show (ns.map V.int)[ns.length - 1]? = _
  rw [List.getElem?_map, List.getElem?_eq_getElem (by omega), List.getD_eq_getElem?_getD, List.getElem?_eq_getElem (by omega)]
  rfl
def sp__law_signs (K : PySem.W.Frag) : Sp := fun vs H Q _ => ∃ (c : Int) (z : Nat) (j : Int) (a : Addr) (ns : List Int), vs = [.int c, .int j, .ref a] ∧ j = ((z : Nat) : Int) ∧ SqL K H a (ns.map V.int) ∧ Bytes ns ∧ ns.length ≤ 1000 ∧ z ≤ 1000 ∧
  ∀ ts : List Int, Bytes ts → ts.length = z → RetL H Q (ts.map V.int)
theorem len__law_signs (h : sp__law_signs K vs H Q E) : vs.length = 3 := by
  obtain ⟨c, z, j, a, ns, rfl, _⟩ := h
  rfl
def t__law_signs (K : PySem.W.Frag) (W : WX) : TS :=
  (tSeq (tAsg (tCB (rListK K) (tCons (tVar 2) tNil)) (gName 3))
    (tSeq (tAsg (tLc (iRng1 (tCons (tOp rAddU (tC (.int 1)) (tOp rModU (tOp rDivU (tVar 0) (tC (.int 4))) (tC (.int 6)))) tNil)) (gName 4) tYes (tOp rModU (tCl (sp__law_drawn K) [] WF (tCons (tVar 0) (tCons (tOp rAddU (tC (.int 300)) (tVar 4)) tNil))) (tC (.int 256))) [4]) (gName 5))
    (tSeq (tAsg (tOp rAddU (tC (.int 1)) (tOp rModU (tCl (sp__law_drawn K) [] W (tCons (tVar 0) (tCons (tC (.int 400)) tNil))) (tCB (rMax2K) (tCons (tC (.int 1)) (tCons (tOp rAddU (tCB (rLenK K) (tCons (tVar 2) tNil)) (tC (.int 9))) tNil))))) (gName 6))
    (tSeq (tFor (iRng1 (tCons (tVar 1) tNil)) (gName 4) (tSeq (tAsg (tCl (sp__law_drawn K) [] W (tCons (tVar 0) (tCons (tVar 4) tNil))) (gName 7))
    (tSeq (tAsg (tOp (rIx K) (tVar 5) (tOp rModU (tVar 7) (tCB (rLenK K) (tCons (tVar 5) tNil)))) (gName 8))
    (Evl.tCut (tIfS (tTest (tOp (rEqU K) (tOp rModU (tVar 0) (tC (.int 4))) (tC (.int 0)))) (tAsg (tOp rModU (tVar 7) (tC (.int 256))) (gName 8)) (tIfS ((tAnd (tTest (tOp (rEqU K) (tOp rModU (tVar 0) (tC (.int 4))) (tC (.int 2)))) (tAnd (tTest (tOp rGtU (tOp rModU (tOp rDivU (tVar 7) (tC (.int 8))) (tC (.int 5))) (tC (.int 0)))) (tTest (tOp (rNeU K) (tVar 3) (tLst tNil)))))) (tAsg (tOp (rIx K) (tVar 3) (tUn rNegU (tC (.int 1)))) (gName 8)) (tIfS ((tAnd (tTest (tOp (rEqU K) (tOp rModU (tVar 0) (tC (.int 4))) (tC (.int 3)))) (tAnd (tTest (tOp rGtU (tOp rModU (tOp rDivU (tVar 7) (tC (.int 8))) (tC (.int 9))) (tC (.int 0)))) (tTest (tOp rLeU (tVar 6) (tCB (rLenK K) (tCons (tVar 3) tNil))))))) (tAsg (tOp (rIx K) (tVar 3) (tOp rSubU (tCB (rLenK K) (tCons (tVar 3) tNil)) (tVar 6))) (gName 8)) tNext)))
    (tDrop (tBM K "list" rAppend (tVar 3) (tCons (tVar 8) tNil)))))))
    (tRet (tSl (rSlK K) (tVar 3) (tPart (tCB (rLenK K) (tCons (tVar 2) tNil))) tNoPart))))))
theorem rd__law_signs (h : sp__law_signs K vs H Q E) : t__law_signs K W { nx := fun _ H' => Q .non H', rt := Q } (start ["_law_cell", "_law_size", "_law_ahead", "_law_found", "_law_k", "_law_some", "_law_back", "_law_number", "_law_sign"] vs) H := by
  obtain ⟨c, z, j, a, ns, rfl, rfl, hS, hb, hl, hz, q⟩ := h
  have hs := Hs.start H
  unfold t__law_signs
  walk_at "go"
  rename_i f H1 h1
  refine ⟨_, rfl, by omega, by omega, ?_⟩
  obtain ⟨k, ek, hk1, hk2⟩ : ∃ k : Nat, (1 + c / 4 % 6).toNat = k ∧ 1 ≤ k ∧ k ≤ 6 := ⟨_, rfl, by omega, by omega⟩
  rw [ek]
  refine c_lcR (fun i acc B' => (∃ ts : List Int, Bytes ts ∧ ts.length = i ∧ acc = ts.map V.int) ∧ B' = H) h1 ⟨⟨[], fun _ h => (nomatch h), rfl, rfl⟩, rfl⟩ ?_ ?_
  · rintro i acc B' D H2 hi ⟨⟨ts, hb, htl, rfl⟩, rfl⟩ _ h
    walk_at "go"
    refine ⟨rfl, ?_⟩
    walk_at "go"
    refine ⟨_, _, rfl, by omega, by omega, fun y hy => ?_⟩
    walk_at "go"
    exact c_item h (small5 (by rw [List.length_map]; omega)) (Same.refl _) ⟨⟨ts ++ [y % 256], bytes_snoc hb ⟨by omega, by omega⟩, by rw [List.length_append, List.length_singleton, htl], by rw [List.map_append]; rfl⟩, rfl⟩
  rintro acc B' D H2 ⟨⟨ss, hsb, hsl, rfl⟩, rfl⟩ _ h2
  have hS2 := h2.bl hS
  clear h1 hs
  walk_at "go"
  refine ⟨_, _, rfl, by omega, by omega, fun y hy => ?_⟩
  walk_at "go"
  rw [List.length_map]
  obtain ⟨mx, emx, hmx⟩ : ∃ mx : Int, (if ((ns.length : Nat) : Int) + 9 > 1 then ((ns.length : Nat) : Int) + 9 else 1) = mx ∧ 0 < mx := by
    refine ⟨_, rfl, ?_⟩
    split <;> omega
  rw [emx]
  have hbk := Int.emod_nonneg y (show mx ≠ 0 by omega)
  walk_at "go"
  generalize y % mx = bk at *
  refine ⟨_, rfl, by omega, by omega, ?_⟩
  rw [Int.toNat_natCast]
  refine w_forR (fun i σ' L' B'' => ∃ (r : List Int) (w4 w7 w8 : Option V), Bytes r ∧ r.length = i ∧ σ' = [some (.int c), some (.int ((z : Nat) : Int)), some (.ref a), some (.ref f), w4, some (.ref D), some (.int (1 + bk)), w7, w8] ∧ B'' = B' ∧ L' = [(D, .lst (ss.map V.int)), (f, .lst ((ns ++ r).map V.int))]) h2
    ⟨[], none, none, none, fun _ h => (nomatch h), rfl, rfl, rfl, by rw [List.append_nil]⟩ ?_ ?_
  · rintro i σ' L' B'' H3 hi ⟨r, w4, w7, w8, hrb, hrl, rfl, rfl, rfl⟩ h3
    have hfb : Bytes (ns ++ r) := fun n hn => by
      rcases List.mem_append.mp hn with q | q
      · exact hb n q
      · exact hrb n q
    walk_at "go"
    refine ⟨_, _, rfl, by omega, by omega, fun y hy => ?_⟩
    walk_at "go"
    rw [List.length_map]
    have hsl' : ((ss.length : Nat) : Int) ≠ 0 := by omega
    have m1 := Int.emod_nonneg y hsl'
    have m2 := Int.emod_lt_of_pos y (show (0 : Int) < ((ss.length : Nat) : Int) by omega)
    have i1 : atI (ss.map V.int) (y % ((ss.length : Nat) : Int)) = some (.int (ss.getD (y % ((ss.length : Nat) : Int)).toNat 0)) := at_i (by omega) (by omega)
    have hx1 := bytes_at (i := (y % ((ss.length : Nat) : Int)).toNat) hsb (by omega)
    walk_at "go"
    generalize ss.getD (y % ((ss.length : Nat) : Int)).toNat 0 = x1 at *
    refine w_cut (fun σ2 H4 => ∃ x : Int, 0 ≤ x ∧ x ≤ 255 ∧ Hs B'' [(D, .lst (ss.map V.int)), (f, .lst ((ns ++ r).map V.int))] H4 ∧ σ2 = [some (.int c), some (.int ((z : Nat) : Int)), some (.ref a), some (.ref f), some (.int (0 + ((i : Nat) : Int))), some (.ref D), some (.int (1 + bk)), some (.int y), some (.int x)]) ?_ ?_
    · walk_at "go"
      refine i_2 (fun c1 => ?_) (fun c1 => ?_)
      · walk_at "go"
        exact ⟨y % 256, by omega, by omega, h3, rfl⟩
      · walk_at "go"
        refine i_2 (fun c2 => ?_) (fun c2 => ?_)
        · walk_at "go"
          refine i_2 (fun c3 => ?_) (fun c3 => ?_)
          · walk_at "go"
            rename_i e H4 h4
            refine c_neL (ns ++ r) [] (h4.sql (.tail _ (.tail _ (.head _)))) (h4.sql (.head _)) ?_
            refine c_bl ?_
            have h5 := h4.drop
            clear h4
            by_cases c4 : ns ++ r = []
            · refine i_f (by rw [decide_eq_true c4]; rfl) ?_
              walk_at "go"
              refine i_2 (fun c5 => ?_) (fun c5 => ?_)
              · walk_at "go"
                refine i_2 (fun c6 => ?_) (fun c6 => ?_)
                · walk_at "go"
                  rw [List.length_map]
                  refine i_2 (fun c7 => ?_) (fun c7 => ?_)
                  · have c7 := of_decide_eq_true c7
                    have hlt : (((ns ++ r).length : Nat) - (1 + bk)).toNat < (ns ++ r).length := by omega
                    have hx3 := bytes_at hfb hlt
                    walk_at "go"
                    rw [List.length_map]
                    refine c_ixL (h5.sql (.tail _ (.head _))) (at_i (k := (((ns ++ r).length : Nat) - (1 + bk)).toNat) (by omega) hlt) ?_
                    walk_at "go"
                    exact ⟨_, hx3.1, hx3.2, h5, rfl⟩
                  · walk_at "go"
                    exact ⟨x1, hx1.1, hx1.2, h5, rfl⟩
                · walk_at "go"
                  exact ⟨x1, hx1.1, hx1.2, h5, rfl⟩
              · walk_at "go"
                exact ⟨x1, hx1.1, hx1.2, h5, rfl⟩
            · refine i_t (by rw [decide_eq_false c4]; rfl) ?_
              have hx4 := bytes_at (i := (ns ++ r).length - 1) hfb (by have := List.length_pos_iff.mpr c4; omega)
              walk_at "go"
              refine c_ixL (h5.sql (.tail _ (.head _))) (at_last c4) ?_
              walk_at "go"
              exact ⟨_, hx4.1, hx4.2, h5, rfl⟩
          · skip
            walk_at "go"
            refine i_2 (fun c5 => ?_) (fun c5 => ?_)
            · walk_at "go"
              refine i_2 (fun c6 => ?_) (fun c6 => ?_)
              · walk_at "go"
                rw [List.length_map]
                refine i_2 (fun c7 => ?_) (fun c7 => ?_)
                · have c7 := of_decide_eq_true c7
                  have hlt : (((ns ++ r).length : Nat) - (1 + bk)).toNat < (ns ++ r).length := by omega
                  have hx3 := bytes_at hfb hlt
                  walk_at "go"
                  rw [List.length_map]
                  refine c_ixL (h3.sql (.tail _ (.head _))) (at_i (k := (((ns ++ r).length : Nat) - (1 + bk)).toNat) (by omega) hlt) ?_
                  walk_at "go"
                  exact ⟨_, hx3.1, hx3.2, h3, rfl⟩
                · walk_at "go"
                  exact ⟨x1, hx1.1, hx1.2, h3, rfl⟩
              · walk_at "go"
                exact ⟨x1, hx1.1, hx1.2, h3, rfl⟩
            · walk_at "go"
              exact ⟨x1, hx1.1, hx1.2, h3, rfl⟩
        · skip
          walk_at "go"
          refine i_2 (fun c5 => ?_) (fun c5 => ?_)
          · walk_at "go"
            refine i_2 (fun c6 => ?_) (fun c6 => ?_)
            · walk_at "go"
              rw [List.length_map]
              refine i_2 (fun c7 => ?_) (fun c7 => ?_)
              · have c7 := of_decide_eq_true c7
                have hlt : (((ns ++ r).length : Nat) - (1 + bk)).toNat < (ns ++ r).length := by omega
                have hx3 := bytes_at hfb hlt
                walk_at "go"
                rw [List.length_map]
                refine c_ixL (h3.sql (.tail _ (.head _))) (at_i (k := (((ns ++ r).length : Nat) - (1 + bk)).toNat) (by omega) hlt) ?_
                walk_at "go"
                exact ⟨_, hx3.1, hx3.2, h3, rfl⟩
              · walk_at "go"
                exact ⟨x1, hx1.1, hx1.2, h3, rfl⟩
            · walk_at "go"
              exact ⟨x1, hx1.1, hx1.2, h3, rfl⟩
          · walk_at "go"
            exact ⟨x1, hx1.1, hx1.2, h3, rfl⟩
    · rintro σ2 H4 ⟨x, hx0, hx2, h4, rfl⟩
      walk_at "go"
      refine c_app1 h4 (small6 (by rw [List.length_map, List.length_append]; omega)) fun H5 h5 => ?_
      walk_at "go"
      refine ⟨_, _, ⟨r ++ [x], _, _, _, bytes_snoc hrb ⟨hx0, hx2⟩, by rw [List.length_append, List.length_singleton, hrl], rfl, rfl, ?_⟩, h5⟩
      rw [← List.append_assoc, List.map_append (l₁ := ns ++ r)]
      rfl
  · rintro σ' L' B'' H3 ⟨r, w4, w7, w8, hrb, hrl, rfl, rfl, rfl⟩ h3
    have hS3 := h3.bl hS
    walk_at "go"
    rename_i p H4 h4
    rw [List.length_map, cut_drop, List.drop_left] at h4
    exact h4.rl (.head _) (q r hrb hrl)
def sp__law_text_by (K : PySem.W.Frag) : Sp := fun vs H Q _ => ∃ (a : Addr) (ns : List Int) (k : Int), vs = [.ref a, .int k] ∧ SqL K H a (ns.map V.int) ∧ 0 ≤ k ∧ k ≤ 1000 ∧
  ∀ (ts ws : List Int) (p t w : Addr) (H' : Hp), Bytes ts → Bytes ws → 1 ≤ ts.length → ts.length ≤ 64 → ws.length ≤ 192 → Same H H' → SqT K H' p [.ref t, .ref w] → H' t = some (.lst (ts.map V.int)) → H' w = some (.lst (ws.map V.int)) → Q (.ref p) H'
theorem len__law_text_by (h : sp__law_text_by K vs H Q E) : vs.length = 2 := by
  obtain ⟨a, ns, k, rfl, _⟩ := h
  rfl
def t__law_text_by (K : PySem.W.Frag) (W : WX) : TS :=
  (tSeq (tAsg (tCl (sp__law_cell_at K) [] W (tCons (tVar 0) (tCons (tVar 1) tNil))) (gName 2))
    (tSeq (tAsg (tOp (rIx K) (tLst (tCons (tC (.int 0)) (tCons (tOp rModU (tOp rDivU (tVar 2) (tC (.int 8))) (tC (.int 31))) (tCons (tOp rModU (tOp rDivU (tVar 2) (tC (.int 8))) (tC (.int 31))) (tCons (tC (.int 0)) tNil))))) (tOp rModU (tVar 2) (tC (.int 4)))) (gName 3))
    (tSeq (tAsg (tOp rAddU (tC (.int 1)) (tOp rModU (tOp rDivU (tVar 2) (tC (.int 300))) (tC (.int 24)))) (gName 4))
    (Evl.tCut (tIfS (tTest (tOp (rEqU K) (tOp rModU (tOp rDivU (tVar 2) (tC (.int 4))) (tC (.int 16))) (tC (.int 5)))) (tSeq (tAsg (tOp rAddU (tC (.int 160)) (tOp rModU (tOp rDivU (tVar 2) (tC (.int 64))) (tC (.int 33)))) (gName 3))
    (tAsg (tOp rAddU (tC (.int 1)) (tOp rModU (tOp rDivU (tVar 2) (tC (.int 64))) (tC (.int 9)))) (gName 4))) tNext)
    (Evl.tCut (tIfS (tTest (tOp (rEqU K) (tOp rModU (tOp rDivU (tVar 2) (tC (.int 4))) (tC (.int 16))) (tC (.int 6)))) (tSeq (tAsg (tC (.int 0)) (gName 3))
    (tAsg (tOp rSubU (tC (.int 64)) (tOp rModU (tOp rDivU (tVar 2) (tC (.int 64))) (tC (.int 9)))) (gName 4))) tNext)
    (tSeq (tAsg (tCl (sp__law_signs K) [] W (tCons (tCl (sp__law_cell_at K) [] W (tCons (tVar 0) (tCons (tOp rAddU (tVar 1) (tC (.int 1))) tNil))) (tCons (tVar 3) (tCons (tLst tNil) tNil)))) (gName 5))
    (tRet (tTup (tCons (tCl (sp__law_signs K) [] W (tCons (tCl (sp__law_cell_at K) [] W (tCons (tVar 0) (tCons (tOp rAddU (tVar 1) (tC (.int 2))) tNil))) (tCons (tVar 4) (tCons (tVar 5) tNil)))) (tCons (tVar 5) tNil))))))))))
theorem rd__law_text_by (h : sp__law_text_by K vs H Q E) : t__law_text_by K W { nx := fun _ H' => Q .non H', rt := Q } (start ["_law_script", "_law_first", "_law_cell", "_law_wide", "_law_size", "_law_before"] vs) H := by
  obtain ⟨a, ns, k, rfl, hS, hk, hk2, q⟩ := h
  have hs := Hs.start H
  unfold t__law_text_by
  walk_at "go"
  refine ⟨a, ns, k, rfl, hS, hk, ?_⟩
  generalize cellAt ns k = c
  walk_at "go"
  rename_i l H1 h1
  obtain ⟨wd, ewd, hwd⟩ : ∃ wd : Int, atI [V.int 0, V.int (c / 8 % 31), V.int (c / 8 % 31), V.int 0] (c % 4) = some (.int wd) ∧ 0 ≤ wd ∧ wd ≤ 30 := by
    have hj : c % 4 = 0 ∨ c % 4 = 1 ∨ c % 4 = 2 ∨ c % 4 = 3 := by omega
    rcases hj with e | e | e | e <;> rw [e]
    · exact ⟨0, rfl, by omega, by omega⟩
    · exact ⟨c / 8 % 31, rfl, by omega, by omega⟩
    · exact ⟨c / 8 % 31, rfl, by omega, by omega⟩
    · exact ⟨0, rfl, by omega, by omega⟩
  refine c_ixL (h1.sql (.head _)) ewd ?_
  have h2 := h1.drop
  clear h1
  walk_at "go"
  refine w_cut (fun σ2 H2 => ∃ wd sz : Int, 0 ≤ wd ∧ wd ≤ 192 ∧ 1 ≤ sz ∧ sz ≤ 64 ∧ Hs H [] H2 ∧ σ2 = [some (.ref a), some (.int k), some (.int c), some (.int wd), some (.int sz), none]) ?_ ?_
  · walk_at "go"
    refine i_2 (fun _ => ?_) (fun _ => ?_)
    · walk_at "go"
      exact ⟨160 + c / 64 % 33, 1 + c / 64 % 9, by omega, by omega, by omega, by omega, h2, rfl⟩
    · walk_at "go"
      exact ⟨wd, 1 + c / 300 % 24, by omega, by omega, by omega, by omega, h2, rfl⟩
  rintro σ2 H2 ⟨wd, sz, w1, w2, s1, s2, h3, rfl⟩
  clear h2 ewd hwd
  walk_at "go"
  refine w_cut (fun σ2 H2 => ∃ wd sz : Int, 0 ≤ wd ∧ wd ≤ 192 ∧ 1 ≤ sz ∧ sz ≤ 64 ∧ Hs H [] H2 ∧ σ2 = [some (.ref a), some (.int k), some (.int c), some (.int wd), some (.int sz), none]) ?_ ?_
  · walk_at "go"
    refine i_2 (fun _ => ?_) (fun _ => ?_)
    · walk_at "go"
      exact ⟨0, 64 - c / 64 % 9, by omega, by omega, by omega, by omega, h3, rfl⟩
    · walk_at "go"
      exact ⟨wd, sz, w1, w2, s1, s2, h3, rfl⟩
  rintro σ2 H3 ⟨wd, sz, w1, w2, s1, s2, h4, rfl⟩
  clear h3
  obtain ⟨wd, rfl⟩ := Int.eq_ofNat_of_zero_le w1
  obtain ⟨sz, rfl⟩ := Int.eq_ofNat_of_zero_le (show 0 ≤ sz by omega)
  have hS4 := h4.bl hS
  walk_at "go"
  refine ⟨a, ns, _, rfl, hS4, by omega, ?_⟩
  walk_at "go"
  rename_i e H4 h5
  refine ⟨_, wd, _, e, [], rfl, rfl, h5.sql (.head _), fun _ h => (nomatch h), by decide, by omega, fun ws hwb hwl => retL h5 fun w H5 h6 => ?_⟩
  have h7 := h6.drop1
  have hS6 := h6.bl hS
  clear h6 h5
  walk_at "go"
  refine ⟨a, ns, _, rfl, hS6, by omega, ?_⟩
  walk_at "go"
  refine ⟨_, sz, _, w, ws, rfl, rfl, h7.sql (.head _), hwb, by omega, by omega, fun ts htb htl => retL h7 fun t H6 h8 => ?_⟩
  walk_at "go"
  rename_i p H7 h9
  exact q ts ws p t w H7 htb hwb (by omega) (by omega) (by omega) h9.ex (h9.sqt (.head _)) (h9.get (.tail _ (.head _))) (h9.get (.tail _ (.tail _ (.head _))))
end L2.BR

namespace L2.BR
open PySem PySem.Spec PyProof.Rows L2.BP
/-! ### runs -/
def rn (ts : List Int) : Nat → Nat → Nat → List (Nat × Int)
  | 0, _, _ => []
  | m + 1, p, b => if ts[p]? = ts[b]? then rn ts m (p + 1) b else (p - b, ts.getD b 0) :: rn ts m (p + 1) p
def runs (ts : List Int) : List (Nat × Int) := rn ts ts.length 1 0
theorem rn_same {ts : List Int} {m p b : Nat} (h : ts[p]? = ts[b]?) : rn ts (m + 1) p b = rn ts m (p + 1) b := by
  conv => lhs; unfold rn
  rw [if_pos h]
theorem rn_new {ts : List Int} {m p b : Nat} (h : ¬ ts[p]? = ts[b]?) : rn ts (m + 1) p b = (p - b, ts.getD b 0) :: rn ts m (p + 1) p := by
  conv => lhs; unfold rn
  rw [if_neg h]
def expand (l : List (Nat × Int)) : List Int := l.flatMap fun r => List.replicate r.1 r.2
theorem expand_cons (r : Nat × Int) (l : List (Nat × Int)) : expand (r :: l) = List.replicate r.1 r.2 ++ expand l := rfl
theorem alike_rep {ts : List Int} {b : Nat} (hb : b < ts.length) : ∀ k, b + k ≤ ts.length → (∀ j, b ≤ j → j < b + k → ts[j]? = ts[b]?) → ts.drop b = List.replicate k (ts.getD b 0) ++ ts.drop (b + k)
  | 0, _, _ => rfl
  | k + 1, h, ha => by
    rw [alike_rep hb k (by omega) fun j h1 h2 => ha j h1 (by omega)]
    have e : ts.drop (b + k) = ts.getD b 0 :: ts.drop (b + (k + 1)) := by
      rw [List.drop_eq_getElem_cons (by omega : b + k < ts.length)]
      have := ha (b + k) (by omega) (by omega)
      rw [List.getElem?_eq_getElem (by omega), List.getElem?_eq_getElem hb] at this
      rw [List.getD_eq_getElem?_getD, List.getElem?_eq_getElem hb, Option.getD_some, ← Option.some.inj this]
      rfl
    rw [e, List.replicate_succ', List.append_assoc]
    rfl
theorem rn_expand {ts : List Int} : ∀ m p b, m + p = ts.length + 1 → b < p → (m = 0 → b = ts.length) → (∀ j, b ≤ j → j < p → j < ts.length → ts[j]? = ts[b]?) → expand (rn ts m p b) = ts.drop b
  | 0, p, b, _, _, h3, _ => by
    rw [h3 rfl, List.drop_of_length_le (Nat.le_refl _)]
    rfl
  | m + 1, p, b, h1, h2, _, h4 => by
    have hb : b < ts.length := by omega
    by_cases e : ts[p]? = ts[b]?
    · rw [rn_same e]
      have hp : p < ts.length := by
        rw [List.getElem?_eq_getElem hb] at e
        exact (List.getElem?_eq_some_iff.mp e).1
      refine rn_expand m (p + 1) b (by omega) (by omega) (fun z => by omega) fun j j1 j2 j3 => ?_
      by_cases hj : j = p
      · rw [hj]
        exact e
      · exact h4 j j1 (by omega) j3
    · rw [rn_new e, expand_cons, rn_expand m (p + 1) p (by omega) (by omega) (fun z => by omega) fun j j1 j2 j3 => by rw [show j = p by omega]]
      have := alike_rep hb (p - b) (by omega) fun j j1 j2 => h4 j j1 (by omega) (by omega)
      rw [this, show b + (p - b) = p by omega]
theorem runs_expand {ts : List Int} : expand (runs ts) = ts := by
  unfold runs
  rw [rn_expand ts.length 1 0 rfl (by decide) (fun z => z.symm) fun j _ j2 _ => by rw [show j = 0 by omega], List.drop_zero]
def RunOk (r : Nat × Int) : Prop := 1 ≤ r.1 ∧ r.1 ≤ 64 ∧ 0 ≤ r.2 ∧ r.2 ≤ 255
theorem rn_ok {ts : List Int} (hb : ∀ n ∈ ts, 0 ≤ n ∧ n ≤ 255) (hl : ts.length ≤ 64) : ∀ m p b, m + p = ts.length + 1 → b < p → (m = 0 → b = ts.length) → ∀ r ∈ rn ts m p b, RunOk r
  | 0, _, _, _, _, _, r, h => nomatch h
  | m + 1, p, b, h1, h2, h3, r, h => by
    have hbl : b < ts.length := by omega
    by_cases e : ts[p]? = ts[b]?
    · rw [rn_same e] at h
      have hp : p < ts.length := by
        rw [List.getElem?_eq_getElem hbl] at e
        exact (List.getElem?_eq_some_iff.mp e).1
      exact rn_ok hb hl m (p + 1) b (by omega) (by omega) (fun z => by omega) r h
    · rw [rn_new e] at h
      rcases List.mem_cons.mp h with rfl | h
      · have := hb (ts.getD b 0) (by rw [List.getD_eq_getElem?_getD, List.getElem?_eq_getElem hbl]; exact List.getElem_mem hbl)
        exact ⟨by show 1 ≤ p - b; omega, by show p - b ≤ 64; omega, this.1, this.2⟩
      · exact rn_ok hb hl m (p + 1) p (by omega) (by omega) (fun z => by omega) r h
theorem runs_ok {ts : List Int} (hb : ∀ n ∈ ts, 0 ≤ n ∧ n ≤ 255) (hl : ts.length ≤ 64) : ∀ r ∈ runs ts, RunOk r := rn_ok hb hl ts.length 1 0 rfl (by decide) fun z => z.symm
theorem rn_len (ts : List Int) : ∀ m p b, (rn ts m p b).length ≤ m
  | 0, _, _ => Nat.le_refl _
  | m + 1, p, b => by
    by_cases e : ts[p]? = ts[b]?
    · rw [rn_same e]
      have := rn_len ts m (p + 1) b
      omega
    · rw [rn_new e, List.length_cons]
      have := rn_len ts m (p + 1) p
      omega
def runB (r : Nat × Int) : List Bool := bitsOf (r.1 - 1) 6 ++ bitsOf r.2.toNat 8
def runsB (l : List (Nat × Int)) : List Bool := l.flatMap runB
theorem runsB_len (l : List (Nat × Int)) : (runsB l).length = 14 * l.length := by
  induction l with
  | nil => rfl
  | cons r l ih =>
    show (runB r ++ runsB l).length = _
    rw [List.length_append, ih, List.length_cons]
    unfold runB
    rw [List.length_append, bitsOf_length, bitsOf_length]
    omega
theorem runsB_take {l : List (Nat × Int)} {i : Nat} {r : Nat × Int} (h : l[i]? = some r) : runsB (l.take (i + 1)) = runsB (l.take i) ++ runB r := by
  unfold runsB
  rw [List.take_add_one, h, List.flatMap_append]
  simp
/-- what a way puts for a text: raw, or by runs -/
def wB (k : Bool) (ts : List Int) : List Bool := if k then runsB (runs ts) else bitsRow ts
theorem wB_len (k : Bool) (ts : List Int) : (wB k ts).length ≤ 14 * ts.length := by
  cases k with
  | false =>
    show (bitsRow ts).length ≤ _
    rw [bitsRow_length]
    omega
  | true =>
    show (runsB (runs ts)).length ≤ _
    rw [runsB_len]
    have := rn_len ts ts.length 1 0
    unfold runs
    omega
end L2.BR

namespace L2.BR
open PySem PySem.Spec PyProof.Rows L2.BP
variable {K : PySem.W.Frag} {W : WX} {vs : List V} {H : Hp} {Q : VK} {E : XK}
/-! ### the raw way, the run way -/
theorem wbytes {g : Tg} {ws : List Int} (h : WinW g ws) : Bytes ws ∧ ws.length ≤ 192 := by
  rcases h with ⟨_, rfl⟩ | ⟨_, h1, h2⟩
  · exact ⟨fun _ h => (nomatch h), Nat.zero_le _⟩
  · exact ⟨h1, h2⟩
theorem bitsRow_cons (n : Int) (r : List Int) : bitsRow (n :: r) = bitsOf n.toNat 8 ++ bitsRow r := rfl
theorem take_succ_at {ts : List Int} {i : Nat} {n : Int} (h : ts[i]? = some n) : ts.take (i + 1) = ts.take i ++ [n] := by
  rw [List.take_add_one, h]
  rfl
theorem pre_at {α : Type} {l pre post : List α} {x : α} (e : l = pre ++ x :: post) : l[pre.length]? = some x := by
  rw [e]
  simp
theorem getD_run {ns : List Int} {i j : Nat} (h : ns[i]? = ns[j]?) : ns.getD i 0 = ns.getD j 0 := by rw [List.getD_eq_getElem?_getD, List.getD_eq_getElem?_getD, h]
theorem opt_run {ns : List Int} {i j : Nat} (hi : i < ns.length) (hj : j < ns.length) : (ns[i]? = ns[j]?) ↔ (ns.getD i 0 = ns.getD j 0) := by
  rw [List.getD_eq_getElem?_getD, List.getD_eq_getElem?_getD, List.getElem?_eq_getElem hi, List.getElem?_eq_getElem hj]
  simp
abbrev runV (r : Nat × Int) : List V := [V.int ((r.1 : Nat) : Int), V.int r.2]
def sp_runs_of (K : PySem.W.Frag) : Sp := fun vs H Q _ => ∃ (B : Hp) (L : Pic) (a : Addr) (ts : List Int), vs = [.ref a] ∧ Hs B L H ∧ (∀ B' H', Same B B' → Hs B' L H' → SqL K H' a (ts.map V.int)) ∧ ts.length ≤ 1000 ∧ 1 ≤ ts.length ∧
  ∀ B' p xs H', Same B B' → Tups K B' xs ((runs ts).map runV) → Hs B' ((p, .lst xs) :: L) H' → Q (.ref p) H'
theorem len_runs_of (h : sp_runs_of K vs H Q E) : vs.length = 1 := by
  obtain ⟨B, L, a, ts, rfl, _⟩ := h
  rfl
def t_runs_of (K : PySem.W.Frag) (W : WX) : TS :=
  (tSeq (tAsg (tLst tNil) (gName 1))
    (tSeq (tAsg (tC (.int 0)) (gName 2))
    (tSeq (tFor (iRng2 (tCons (tC (.int 1)) (tCons (tOp rAddU (tCB (rLenK K) (tCons (tVar 0) tNil)) (tC (.int 1))) tNil))) (gName 3) (tIfS ((tOr (tTest (tOp (rEqU K) (tVar 3) (tCB (rLenK K) (tCons (tVar 0) tNil)))) (tTest (tOp (rNeU K) (tOp (rIx K) (tVar 0) (tVar 3)) (tOp (rIx K) (tVar 0) (tVar 2)))))) (tSeq (tDrop (tBM K "list" rAppend (tVar 1) (tCons (tTup (tCons (tOp rSubU (tVar 3) (tVar 2)) (tCons (tOp (rIx K) (tVar 0) (tVar 2)) tNil))) tNil)))
    (tAsg (tVar 3) (gName 2))) tNext))
    (tRet (tVar 1)))))
theorem rd_runs_of (h : sp_runs_of K vs H Q E) : t_runs_of K W { nx := fun _ H' => Q .non H', rt := Q } (start ["signs", "found", "begin", "place"] vs) H := by
  obtain ⟨B, L, a, ts, rfl, hs, hS, hl, hl1, q⟩ := h
  have hS0 := hS B H (Same.refl _) hs
  unfold t_runs_of
  walk_at "go"
  rename_i f H1 h1
  refine c_lenL (hS B H1 (Same.refl _) h1.drop) ?_
  walk_at "go"
  rw [List.length_map]
  refine ⟨1, _, rfl, ⟨by decide, by decide, by omega, by omega⟩, ?_⟩
  rw [show (((ts.length : Nat) : Int) + 1 - 1).toNat = ts.length by omega]
  refine w_forR (fun i σ' L' B' => ∃ (b : Nat) (l : List (Nat × Int)) (xs : List V) (w3 : Option V), runs ts = l ++ rn ts (ts.length - i) (i + 1) b ∧ b ≤ i ∧ (i < ts.length → b < ts.length) ∧ l.length ≤ i ∧ Same B B' ∧ Tups K B' xs (l.map runV) ∧
    σ' = [some (.ref a), some (.ref f), some (.int ((b : Nat) : Int)), w3] ∧ L' = (f, .lst xs) :: L) h1 ⟨0, [], [], none, rfl, Nat.le_refl _, fun h => h, Nat.le_refl _, Same.refl _, .nil, rfl, rfl⟩ ?_ ?_
  · rintro i σ' L' B' H' hi ⟨b, l, xs, w3, hr, hb, hbl, hll, hB, hT, rfl, rfl⟩ h
    have hS' := hS B' H' hB h.drop
    have hbl := hbl hi
    have hxl : xs.length = l.length := by rw [hT.length, List.length_map]
    have ib : atI (ts.map V.int) ((b : Nat) : Int) = some (.int (ts.getD b 0)) := at_nat hbl
    have em : ts.length - i = (ts.length - (i + 1)) + 1 := by omega
    rw [em] at hr
    have new : ¬ ts[i + 1]? = ts[b]? → (tSeq (tDrop (tBM K "list" rAppend (tVar 1) (tCons (tTup (tCons (tOp rSubU (tVar 3) (tVar 2)) (tCons (tOp (rIx K) (tVar 0) (tVar 2)) tNil))) tNil)))
        (tAsg (tVar 3) (gName 2))) ⟨NxI (fun i σ' L' B' => ∃ (b : Nat) (l : List (Nat × Int)) (xs : List V) (w3 : Option V), runs ts = l ++ rn ts (ts.length - i) (i + 1) b ∧ b ≤ i ∧ (i < ts.length → b < ts.length) ∧ l.length ≤ i ∧ Same B B' ∧ Tups K B' xs (l.map runV) ∧
    σ' = [some (.ref a), some (.ref f), some (.int ((b : Nat) : Int)), w3] ∧ L' = (f, .lst xs) :: L) (i + 1), Q, fun σ H => tRet (tVar 1) ⟨fun _ H' => Q .non H', Q, fun _ _ => True, fun _ _ => True⟩ σ H, NxI (fun i σ' L' B' => ∃ (b : Nat) (l : List (Nat × Int)) (xs : List V) (w3 : Option V), runs ts = l ++ rn ts (ts.length - i) (i + 1) b ∧ b ≤ i ∧ (i < ts.length → b < ts.length) ∧ l.length ≤ i ∧ Same B B' ∧ Tups K B' xs (l.map runV) ∧
    σ' = [some (.ref a), some (.ref f), some (.int ((b : Nat) : Int)), w3] ∧ L' = (f, .lst xs) :: L) (i + 1)⟩
        [some (.ref a), some (.ref f), some (.int ((b : Nat) : Int)), some (.int (1 + ((i : Nat) : Int)))] H' := by
      intro hne
      rw [rn_new hne] at hr
      walk_at "go"
      rename_i u G1 g1
      have k1 := g1.nb (.head _)
      refine c_app0 g1.fix (small6 (by omega)) fun G2 g2 => ?_
      walk_at "go"
      refine ⟨_, _, ⟨i + 1, l ++ [(i + 1 - b, ts.getD b 0)], _, some (.int (1 + ((i : Nat) : Int))), by rw [hr, List.append_assoc]; rfl, Nat.le_refl _, fun h => h, by rw [List.length_append, List.length_singleton]; omega, hB.trans (same_upd k1), ?_, ?_, rfl⟩, g2⟩
      · rw [List.map_append, show [(i + 1 - b, ts.getD b 0)].map runV = [[V.int (1 + ((i : Nat) : Int) - ((b : Nat) : Int)), V.int (ts.getD b 0)]] by simp; omega]
        exact hT.snocFix k1
      · rw [Int.add_comm 1 ((i : Nat) : Int)]
        rfl
    walk_at "go"
    rw [List.length_map]
    by_cases c1 : i + 1 = ts.length
    · refine i_t (decide_eq_true (by omega)) ?_
      refine i_t rfl ?_
      exact new fun z => by
        rw [c1, List.getElem?_eq_none (Nat.le_refl _), List.getElem?_eq_getElem hbl] at z
        cases z
    · refine i_f (decide_eq_false (by omega)) ?_
      have i1 : atI (ts.map V.int) (1 + ((i : Nat) : Int)) = some (.int (ts.getD (i + 1) 0)) := at_i (by omega) (by omega)
      walk_at "go"
      by_cases c2 : ts[i + 1]? = ts[b]?
      · refine i_f (ne_f (getD_run c2)) ?_
        walk_at "go"
        rw [rn_same c2] at hr
        exact ⟨_, _, ⟨b, l, _, _, hr, by omega, fun _ => hbl, by omega, hB, hT, rfl, rfl⟩, h⟩
      · refine i_t (by rw [decide_eq_false fun z => c2 ((opt_run (by omega) hbl).mpr z)]; rfl) ?_
        exact new c2
  · rintro σ' L' B' H' ⟨b, l, xs, w3, hr, hb, hbl, hll, hB, hT, rfl, rfl⟩ h
    walk_at "go"
    rw [Nat.sub_self] at hr
    unfold rn at hr
    rw [List.append_nil] at hr
    rw [← hr] at hT
    exact q B' f xs H' hB hT h
theorem tups_R {α : Type} {f : α → List V} {ps : List α} {acc pre post : List V} {x : V} (h : Tups K H acc (ps.map f)) (e : acc = pre ++ x :: post) : ∃ a p, x = .ref a ∧ ps[pre.length]? = some p ∧ SqT K H a (f p) := by
  subst e
  obtain ⟨a, p1, xs, p2, rfl, e2, e3, e4⟩ := h.split
  have e5 : (ps.map f)[pre.length]? = some xs := by
    rw [e2, ← e3]
    simp
  rw [List.getElem?_map] at e5
  cases e6 : ps[pre.length]? with
  | none => rw [e6] at e5; cases e5
  | some p =>
    rw [e6] at e5
    cases e5
    exact ⟨a, p, rfl, rfl, e4⟩
def sp_RawWay_tell (K : PySem.W.Frag) : Sp := fun vs H Q _ => ∃ (B : Hp) (L : Pic) (o x dx f t : Addr) (v : V) (g : Tg) (b : List Bool) (ts ws : List Int), vs = [.ref o, .ref x, .ref t, v] ∧ Hs B ((x, brO K dx f b) :: (f, brL b) :: L) H ∧ SqL K H t (ts.map V.int) ∧ Bytes ts ∧ 1 ≤ ts.length ∧ ts.length ≤ 64 ∧ Th K H v g ∧ WinW g ws ∧ b.length ≤ 600000 ∧
  ∀ B2 H', Same B B2 → Hs B2 ((x, brO K dx f (b ++ bitsRow ts)) :: (f, brL (b ++ bitsRow ts)) :: L) H' → Q .non H'
theorem len_RawWay_tell (h : sp_RawWay_tell K vs H Q E) : vs.length = 4 := by
  obtain ⟨B, L, o, x, dx, f, t, v, g, b, ts, ws, rfl, _⟩ := h
  rfl
def t_RawWay_tell (K : PySem.W.Frag) (W : WX) : TS :=
  (tSeq (tAsg (tCl (sp_need_text K) [] W (tCons (tVar 2) tNil)) (gName 4))
    (tSeq (tDrop (tCl (sp_need_window_ways K) [] W (tCons (tVar 3) tNil)))
    (tFor (iList K (tVar 4)) (gName 5) (tDrop (tMt (He.ga K "BitRow") "put" (sp_BitRow_put K) [] W (tVar 1) (tCons (tVar 5) (tCons (tC (.int 8)) tNil)))))))
theorem rd_RawWay_tell (h : sp_RawWay_tell K vs H Q E) : t_RawWay_tell K (fun c d _ H2 => E c d H2) { nx := fun _ H' => Q .non H', rt := Q } (start ["self", "bits", "text", "before", "signs", "sign"] vs) H := by
  obtain ⟨B, L, o, x, dx, f, t, v, g, b, ts, ws, rfl, hs, hS, hb, hl1, hl2, hT, hw, hbl, q⟩ := h
  unfold t_RawWay_tell
  walk_at "go"
  refine ⟨t, ts, rfl, hS, hb, hl1, hl2, ?_⟩
  intro s H1 hn1 e1 hr1
  have h1 := hs.newS hn1 e1 hr1
  walk_at "go"
  refine ⟨v, g, ws, rfl, hT.same e1, hw, retL h1 fun w H2 h2 => ?_⟩
  have h3 := h2.drop
  have k1 := h3.nb (.head _)
  have h4 := h3.fix
  have hsq : SqL K (upd B s (.lst (ts.map V.int))) s (ts.map V.int) := SqL.of upd_same
  have sm := same_upd (o := HO.lst (ts.map V.int)) k1
  clear hs h1 h2 h3
  generalize upd B s (.lst (ts.map V.int)) = B3 at *
  walk_at "go"
  refine w_forL V.int ts (fun pre σ' L' B' => ∃ w5, σ' = [some (.ref o), some (.ref x), some (.ref t), some v, some (.ref s), w5] ∧ B' = B3 ∧ L' = (x, brO K dx f (b ++ bitsRow (ts.take pre.length))) :: (f, brL (b ++ bitsRow (ts.take pre.length))) :: L) h4 ⟨none, rfl, rfl, by simp [bitsRow]⟩ ?_ ?_ ?_
  · rintro pre post σ' L' B' H' _ ⟨w5, _, rfl, rfl⟩ h
    exact h.bl hsq
  · rintro pre n post σ' L' B' H' e ⟨w5, rfl, rfl, rfl⟩ h
    have hn := pre_at e
    have hnb := hb n (List.mem_of_getElem? hn)
    have hbt := bitsRow_length (ts.take pre.length)
    rw [List.length_take] at hbt
    walk_at "go"
    refine use_put (n := n.toNat) (s := 8) (by omega) rfl h (by rw [List.length_append]; omega) (by decide) (by show _ < 256; omega) fun H5 h6 => ?_
    rw [List.append_assoc, ← bitsRow_snoc, ← take_succ_at hn] at h6
    exact ⟨_, _, ⟨_, rfl, rfl, by rw [List.length_append, List.length_singleton]⟩, h6⟩
  · rintro σ' L' B' H' ⟨w5, rfl, rfl, rfl⟩ h
    rw [List.take_of_length_le (Nat.le_refl _)] at h
    exact q B' H' sm h
def sp_RunWay_tell (K : PySem.W.Frag) : Sp := fun vs H Q _ => ∃ (B : Hp) (L : Pic) (o x dx f t : Addr) (v : V) (g : Tg) (b : List Bool) (ts ws : List Int), vs = [.ref o, .ref x, .ref t, v] ∧ Hs B ((x, brO K dx f b) :: (f, brL b) :: L) H ∧ SqL K H t (ts.map V.int) ∧ Bytes ts ∧ 1 ≤ ts.length ∧ ts.length ≤ 64 ∧ Th K H v g ∧ WinW g ws ∧ b.length ≤ 600000 ∧
  ∀ B2 H', Same B B2 → Hs B2 ((x, brO K dx f (b ++ runsB (runs ts))) :: (f, brL (b ++ runsB (runs ts))) :: L) H' → Q .non H'
theorem len_RunWay_tell (h : sp_RunWay_tell K vs H Q E) : vs.length = 4 := by
  obtain ⟨B, L, o, x, dx, f, t, v, g, b, ts, ws, rfl, _⟩ := h
  rfl
def t_RunWay_tell (K : PySem.W.Frag) (W : WX) : TS :=
  (tSeq (tAsg (tCl (sp_need_text K) [] W (tCons (tVar 2) tNil)) (gName 4))
    (tSeq (tDrop (tCl (sp_need_window_ways K) [] W (tCons (tVar 3) tNil)))
    (tFor (iList K (tCl (sp_runs_of K) [] W (tCons (tVar 4) tNil))) (gTup K 2 (gCons (gName 5) (gCons (gName 6) gNil))) (tSeq (tDrop (tMt (He.ga K "BitRow") "put" (sp_BitRow_put K) [] W (tVar 1) (tCons (tOp rSubU (tVar 5) (tC (.int 1))) (tCons (tC (.int 6)) tNil))))
    (tDrop (tMt (He.ga K "BitRow") "put" (sp_BitRow_put K) [] W (tVar 1) (tCons (tVar 6) (tCons (tC (.int 8)) tNil))))))))
theorem rd_RunWay_tell (h : sp_RunWay_tell K vs H Q E) : t_RunWay_tell K (fun c d _ H2 => E c d H2) { nx := fun _ H' => Q .non H', rt := Q } (start ["self", "bits", "text", "before", "signs", "many", "sign"] vs) H := by
  obtain ⟨B, L, o, x, dx, f, t, v, g, b, ts, ws, rfl, hs, hS, hb, hl1, hl2, hT, hw, hbl, q⟩ := h
  unfold t_RunWay_tell
  walk_at "go"
  refine ⟨t, ts, rfl, hS, hb, hl1, hl2, ?_⟩
  intro s H1 hn1 e1 hr1
  have h1 := hs.newS hn1 e1 hr1
  walk_at "go"
  refine ⟨v, g, ws, rfl, hT.same e1, hw, retL h1 fun w H2 h2 => ?_⟩
  have h3 := h2.drop
  clear hs h1 h2
  walk_at "go"
  refine ⟨B, _, s, ts, rfl, h3, fun B' H' _ h => h.sql (.head _), by omega, hl1, fun B2 p xs H3 hB hTu h4 => ?_⟩
  have hxl : xs.length = (runs ts).length := by rw [hTu.length, List.length_map]
  have hrl := rn_len ts ts.length 1 0
  have k1 := h4.nb (.head _)
  have h5 := h4.fix.drop
  have sm := same_upd (o := HO.lst xs) k1
  have hp : SqL K (upd B2 p (.lst xs)) p xs := SqL.of upd_same
  have hTu4 := hTu.same sm
  have sm2 := hB.trans sm
  have hro := runs_ok hb hl2
  clear h3 h4 hTu hB sm k1
  generalize upd B2 p (.lst xs) = B3 at *
  change (runs ts).length ≤ ts.length at hrl
  generalize runs ts = rs at *
  refine w_forL id xs (fun pre σ' L' B' => ∃ w5 w6, σ' = [some (.ref o), some (.ref x), some (.ref t), some v, some (.ref s), w5, w6] ∧ B' = B3 ∧ L' = (x, brO K dx f (b ++ runsB (rs.take pre.length))) :: (f, brL (b ++ runsB (rs.take pre.length))) :: L) h5 ⟨none, none, rfl, rfl, by simp [runsB]⟩ ?_ ?_ ?_
  · rintro pre post σ' L' B' H' _ ⟨w5, w6, _, rfl, rfl⟩ h
    rw [List.map_id]
    exact h.bl hp
  · rintro pre y post σ' L' B' H' e ⟨w5, w6, rfl, rfl, rfl⟩ h
    obtain ⟨u, r, rfl, hr, hu⟩ := tups_R hTu4 e
    obtain ⟨r1, r2, r3, r4⟩ := hro r (List.mem_of_getElem? hr)
    have hu' := h.bt hu
    have hbt := runsB_len (rs.take pre.length)
    rw [List.length_take] at hbt
    rw [id_eq]
    walk_at "go"
    refine use_put (n := r.1 - 1) (s := 6) (by omega) rfl h (by rw [List.length_append]; omega) (by decide) (by show _ < 64; omega) fun H5 h6 => ?_
    walk_at "go"
    refine use_put (n := r.2.toNat) (s := 8) (by omega) rfl h6 (by rw [List.length_append, List.length_append, bitsOf_length]; omega) (by decide) (by show _ < 256; omega) fun H6 h7 => ?_
    rw [List.append_assoc (b ++ _), show bitsOf (r.1 - 1) 6 ++ bitsOf r.2.toNat 8 = runB r from rfl, List.append_assoc, ← runsB_take hr] at h7
    exact ⟨_, _, ⟨_, _, rfl, rfl, by rw [List.length_append, List.length_singleton]⟩, h7⟩
  · rintro σ' L' B' H' ⟨w5, w6, rfl, rfl, rfl⟩ h
    rw [hxl, List.take_of_length_le (Nat.le_refl _)] at h
    exact q B' H' sm2 h
def sp_RawWay_read (K : PySem.W.Frag) : Sp := fun vs H Q _ => ∃ (B : Hp) (L : Pic) (o x dx s : Addr) (v : V) (t n : Nat) (row ts : List Int) (tail : List Bool), vs = [.ref o, .ref x, .int ((n : Nat) : Int), v] ∧
  Hs B ((x, rdO K dx s t) :: (s, .lst (row.map V.int)) :: L) H ∧ Bytes row ∧ row.length ≤ 100000 ∧ t ≤ 8 * row.length ∧ n = ts.length ∧ ts.length ≤ 64 ∧ Bytes ts ∧ (bitsRow row).drop t = bitsRow ts ++ tail ∧
  ∀ p H', Hs B ((p, .lst (ts.map V.int)) :: (x, rdO K dx s (t + (bitsRow ts).length)) :: (s, .lst (row.map V.int)) :: L) H' → Q (.ref p) H'
theorem len_RawWay_read (h : sp_RawWay_read K vs H Q E) : vs.length = 4 := by
  obtain ⟨B, L, o, x, dx, s, v, t, n, row, ts, tail, rfl, _⟩ := h
  rfl
theorem bits_at {l : List Bool} {t i : Nat} {ts : List Int} {tail : List Bool} {n : Int} (h : l.drop t = bitsRow ts ++ tail) (hn : ts[i]? = some n) : l.drop (t + 8 * i) = bitsOf n.toNat 8 ++ (bitsRow (ts.drop (i + 1)) ++ tail) := by
  have hi := (List.getElem?_eq_some_iff.mp hn).1
  have e : ts.drop i = n :: ts.drop (i + 1) := by
    rw [List.drop_eq_getElem_cons hi]
    rw [List.getElem?_eq_getElem hi] at hn
    rw [Option.some.inj hn]
  rw [← List.drop_drop, h, List.drop_append_of_le_length (by rw [bitsRow_length]; omega), ← bitsRow_drop, e, bitsRow_cons, List.append_assoc]
def t_RawWay_read (K : PySem.W.Frag) (W : WX) : TS :=
  (tRet (tLc (iRng1 (tCons (tVar 2) tNil)) (gName 4) tYes (tMt (He.ga K "BitReader") "take" (sp_BitReader_take K) [] WF (tVar 1) (tCons (tC (.int 8)) tNil)) [4]))
theorem rd_RawWay_read (h : sp_RawWay_read K vs H Q E) : t_RawWay_read K (fun c d _ H2 => E c d H2) { nx := fun _ H' => Q .non H', rt := Q } (start ["self", "reader", "count", "before", "place"] vs) H := by
  obtain ⟨B, L, o, x, dx, s, v, t, n, row, ts, tail, rfl, hs, hb, hl, ht, rfl, htl, htb, hd, q⟩ := h
  unfold t_RawWay_read
  walk_at "go"
  refine ⟨_, rfl, by omega, by omega, ?_⟩
  rw [Int.toNat_natCast]
  refine c_lcRV (fun i acc L' B' => acc = (ts.take i).map V.int ∧ B' = B ∧ t + 8 * i ≤ 8 * row.length ∧ L' = (x, rdO K dx s (t + 8 * i)) :: (s, .lst (row.map V.int)) :: L) hs ⟨rfl, rfl, by omega, rfl⟩ ?_ ?_
  · rintro i acc L' B' D H2 hi ⟨rfl, rfl, hti, rfl⟩ h
    have hn : ts[i]? = some ts[i] := List.getElem?_eq_getElem hi
    have hnb := htb _ (List.getElem_mem hi)
    generalize ts[i] = n at *
    have hda := bits_at hd hn
    obtain ⟨t1, t2⟩ := take_at hti hda (by show _ < 256; omega)
    walk_at "go"
    refine ⟨rfl, ?_⟩
    walk_at "go"
    refine use_take 8 rfl h.unrot3 hb hl (by decide) t2 fun H3 h4 => ?_
    rw [t1]
    refine c_itemV h4.rot3 (small5 (by rw [List.length_map, List.length_take]; omega)) ⟨?_, rfl, by omega, by rw [Nat.mul_succ, Nat.add_assoc]⟩
    rw [take_succ_at hn, List.map_append, show ((n.toNat : Nat) : Int) = n by omega]
    rfl
  · rintro acc L' B' D H2 ⟨rfl, rfl, hti, rfl⟩ h
    rw [List.take_of_length_le (Nat.le_refl _)] at h
    rw [← bitsRow_length] at h
    exact q D H2 h

theorem runsB_cons (r : Nat × Int) (l : List (Nat × Int)) : runsB (r :: l) = runB r ++ runsB l := rfl
def sp_RunWay_read (K : PySem.W.Frag) : Sp := fun vs H Q _ => ∃ (B : Hp) (L : Pic) (o x dx s : Addr) (v : V) (t n : Nat) (row : List Int) (rs : List (Nat × Int)) (tail : List Bool), vs = [.ref o, .ref x, .int ((n : Nat) : Int), v] ∧
  Hs B ((x, rdO K dx s t) :: (s, .lst (row.map V.int)) :: L) H ∧ Bytes row ∧ row.length ≤ 100000 ∧ t ≤ 8 * row.length ∧ n = (expand rs).length ∧ n ≤ 64 ∧ (∀ r ∈ rs, RunOk r) ∧ (bitsRow row).drop t = runsB rs ++ tail ∧
  ∀ p H', Hs B ((p, .lst ((expand rs).map V.int)) :: (x, rdO K dx s (t + (runsB rs).length)) :: (s, .lst (row.map V.int)) :: L) H' → Q (.ref p) H'
theorem len_RunWay_read (h : sp_RunWay_read K vs H Q E) : vs.length = 4 := by
  obtain ⟨B, L, o, x, dx, s, v, t, n, row, rs, tail, rfl, _⟩ := h
  rfl
def t_RunWay_read (K : PySem.W.Frag) (W : WX) : TS :=
  (tSeq (tAsg (tLst tNil) (gName 4))
    (tSeq (tWhile (tTest (tOp rLtU (tCB (rLenK K) (tCons (tVar 4) tNil)) (tVar 2))) (tSeq (tAsg (tOp rAddU (tMt (He.ga K "BitReader") "take" (sp_BitReader_take K) [] W (tVar 1) (tCons (tC (.int 6)) tNil)) (tC (.int 1))) (gName 5))
    (tSeq (tAsg (tMt (He.ga K "BitReader") "take" (sp_BitReader_take K) [] W (tVar 1) (tCons (tC (.int 8)) tNil)) (gName 6))
    (tSeq (tIfS (tTest (tOp rGtU (tOp rAddU (tCB (rLenK K) (tCons (tVar 4) tNil)) (tVar 5)) (tVar 2))) (tRz (He.ga K "BadBody") W) tNext)
    (tDrop (tBM K "list" rExtend (tVar 4) (tCons (tOp rMulU (tLst (tCons (tVar 6) tNil)) (tVar 5)) tNil)))))))
    (tRet (tVar 4))))
theorem rd_RunWay_read (h : sp_RunWay_read K vs H Q E) : t_RunWay_read K (fun c d _ H2 => E c d H2) { nx := fun _ H' => Q .non H', rt := Q } (start ["self", "reader", "count", "before", "signs", "many", "sign"] vs) H := by
  obtain ⟨B, L, o, x, dx, s, v, t, n, row, rs, tail, rfl, hs, hb, hl, ht, hn, hn64, hok, hd, q⟩ := h
  unfold t_RunWay_read
  walk_at "go"
  rename_i f H1 h1
  clear hs
  refine w_while (fun m σ' L' B' => ∃ (l : List Int) (r : List (Nat × Int)) (u : Nat) (w5 w6 : Option V), l ++ expand r = expand rs ∧ (∀ c ∈ r, RunOk c) ∧ m = n - l.length ∧ u ≤ 8 * row.length ∧ (bitsRow row).drop u = runsB r ++ tail ∧ u + (runsB r).length = t + (runsB rs).length ∧
    σ' = [some (.ref o), some (.ref x), some (.int ((n : Nat) : Int)), some v, some (.ref f), w5, w6] ∧ B' = B ∧ L' = (f, .lst (l.map V.int)) :: (x, rdO K dx s u) :: (s, .lst (row.map V.int)) :: L) n h1
    ⟨[], rs, t, none, none, rfl, hok, rfl, ht, hd, rfl, rfl, rfl, rfl⟩ ?_
  rintro m σ' L' B' H' ⟨l, r, u, w5, w6, e1, hokr, rfl, hu, hdu, hlu, rfl, rfl, rfl⟩ h
  have e2 : l.length + (expand r).length = n := by rw [hn, ← e1, List.length_append]
  walk_at "go"
  rw [List.length_map]
  by_cases hlt : l.length < n
  · refine i_t (decide_eq_true (by omega)) (w_turn ?_)
    have h' := Hs.unrot3 h
    clear h h1
    cases r with
    | nil =>
      have e3 : (expand []).length = 0 := rfl
      omega
    | cons c r =>
      obtain ⟨c1, c2, c3, c4⟩ := hokr c (.head _)
      have hokr2 : ∀ c ∈ r, RunOk c := fun c h => hokr c (.tail _ h)
      rw [expand_cons, List.length_append, List.length_replicate] at e2
      rw [expand_cons, ← List.append_assoc] at e1
      rw [runsB_cons, show runB c = bitsOf (c.1 - 1) 6 ++ bitsOf c.2.toNat 8 from rfl, List.append_assoc, List.append_assoc] at hdu
      rw [runsB_cons, show runB c = bitsOf (c.1 - 1) 6 ++ bitsOf c.2.toNat 8 from rfl, List.length_append, List.length_append, bitsOf_length, bitsOf_length] at hlu
      obtain ⟨t1, t2⟩ := take_at hu hdu (by show _ < 64; omega)
      have hd2 := drop_next hdu
      obtain ⟨t3, t4⟩ := take_at t2 hd2 (by show _ < 256; omega)
      have hd3 := drop_next hd2
      walk_at "go"
      refine use_take 6 rfl h' hb hl (by decide) t2 fun H3 h4 => ?_
      rw [t1]
      walk_at "go"
      refine use_take 8 rfl h4 hb hl (by decide) t4 fun H4 h5 => ?_
      rw [t3, show ((c.2.toNat : Nat) : Int) = c.2 by omega, show (((c.1 - 1 : Nat) : Int) + 1) = ((c.1 : Nat) : Int) by omega]
      walk_at "go"
      rw [List.length_map]
      refine i_f (decide_eq_false (by omega)) ?_
      walk_at "go"
      rename_i u2 H5 h6
      refine c_rep h6 (h6.get (.head _)) (by omega) (by omega) (small6' (by rw [List.length_singleton]; omega)) fun u3 H6 h7 => ?_
      rw [Int.toNat_natCast, List.flatten_replicate_singleton] at h7
      walk_at "go"
      refine c_extM0 h7.rot5 (h7.get (.head _)) (small6' (by rw [List.length_map, List.length_replicate]; omega)) fun H7 h8 => ?_
      have h9 := h8.drop1.drop1
      rw [show l.map V.int ++ List.replicate c.1 (V.int c.2) = (l ++ List.replicate c.1 c.2).map V.int by rw [List.map_append, List.map_replicate]] at h9
      exact ⟨_, by rw [List.length_append, List.length_replicate]; omega, _, _, ⟨l ++ List.replicate c.1 c.2, r, u + 6 + 8, _, _, e1, hokr2, rfl, t4, hd3, by omega, rfl, rfl, rfl⟩, h9⟩
  · refine i_f (decide_eq_false (by omega)) ?_
    have hr0 : r = [] := by
      cases r with
      | nil => rfl
      | cons c r =>
        have c1 := (hokr c (.head _)).1
        rw [expand_cons, List.length_append, List.length_replicate] at e2
        omega
    subst hr0
    rw [show expand [] = [] from rfl, List.append_nil] at e1
    walk_at "go"
    rw [e1, show u = t + (runsB rs).length by simpa [runsB] using hlu] at h
    exact q f H' h
/-! the two ways as one -/
abbrev wC (K : PySem.W.Frag) (k : Bool) : Addr := if k then He.ga K "RunWay" else He.ga K "RawWay"
def sp_RawWay_number (K : PySem.W.Frag) : Sp := fun vs H Q _ => ∃ v, vs = [v] ∧ Q (.int 0) H
theorem len_RawWay_number (h : sp_RawWay_number K vs H Q E) : vs.length = 1 := by
  obtain ⟨v, rfl, _⟩ := h
  rfl
def t_RawWay_number (K : PySem.W.Frag) (W : WX) : TS :=
  (tRet (tC (.int 0)))
theorem rd_RawWay_number (h : sp_RawWay_number K vs H Q E) : t_RawWay_number K W { nx := fun _ H' => Q .non H', rt := Q } (start ["self"] vs) H := by
  obtain ⟨v, rfl, q⟩ := h
  unfold t_RawWay_number
  walk_at "go"
  exact q
def sp_RunWay_number (K : PySem.W.Frag) : Sp := fun vs H Q _ => ∃ v, vs = [v] ∧ Q (.int 1) H
theorem len_RunWay_number (h : sp_RunWay_number K vs H Q E) : vs.length = 1 := by
  obtain ⟨v, rfl, _⟩ := h
  rfl
def t_RunWay_number (K : PySem.W.Frag) (W : WX) : TS :=
  (tRet (tC (.int 1)))
theorem rd_RunWay_number (h : sp_RunWay_number K vs H Q E) : t_RunWay_number K W { nx := fun _ H' => Q .non H', rt := Q } (start ["self"] vs) H := by
  obtain ⟨v, rfl, q⟩ := h
  unfold t_RunWay_number
  walk_at "go"
  exact q
theorem use_tellW {k : Bool} {B : Hp} {L : Pic} {o x dx f t : Addr} {v : V} {g : Tg} {b : List Bool} {ts ws : List Int} (hs : Hs B ((x, brO K dx f b) :: (f, brL b) :: L) H) (hS : SqL K H t (ts.map V.int)) (hb : Bytes ts) (h1 : 1 ≤ ts.length) (h2 : ts.length ≤ 64) (hT : Th K H v g) (hw : WinW g ws) (hl : b.length ≤ 600000)
    (q : ∀ B2 H', Same B B2 → Hs B2 ((x, brO K dx f (b ++ wB k ts)) :: (f, brL (b ++ wB k ts)) :: L) H' → Q .non H') : (if k then sp_RunWay_tell K else sp_RawWay_tell K) [.ref o, .ref x, .ref t, v] H Q E := by
  cases k
  · exact ⟨B, L, o, x, dx, f, t, v, g, b, ts, ws, rfl, hs, hS, hb, h1, h2, hT, hw, hl, q⟩
  · exact ⟨B, L, o, x, dx, f, t, v, g, b, ts, ws, rfl, hs, hS, hb, h1, h2, hT, hw, hl, q⟩
theorem use_readW {k : Bool} {B : Hp} {L : Pic} {o x dx s : Addr} {v : V} {t : Nat} {j : Int} {row ts : List Int} {tail : List Bool} (e : j = ((ts.length : Nat) : Int)) (hs : Hs B ((x, rdO K dx s t) :: (s, .lst (row.map V.int)) :: L) H) (hb : Bytes row) (hl : row.length ≤ 100000) (ht : t ≤ 8 * row.length) (htl : ts.length ≤ 64) (htb : Bytes ts)
    (hd : (bitsRow row).drop t = wB k ts ++ tail) (q : ∀ p H', Hs B ((p, .lst (ts.map V.int)) :: (x, rdO K dx s (t + (wB k ts).length)) :: (s, .lst (row.map V.int)) :: L) H' → Q (.ref p) H') : (if k then sp_RunWay_read K else sp_RawWay_read K) [.ref o, .ref x, .int j, v] H Q E := by
  subst e
  cases k
  · exact ⟨B, L, o, x, dx, s, v, t, _, row, ts, tail, rfl, hs, hb, hl, ht, rfl, htl, htb, hd, q⟩
  · exact ⟨B, L, o, x, dx, s, v, t, _, row, runs ts, tail, rfl, hs, hb, hl, ht, by rw [runs_expand], htl, runs_ok htb htl, hd, by rw [runs_expand]; exact q⟩
/-- a call of a way that is raw or by runs: the base is none of them -/
theorem c_way {σ : St} {n : Nat} {m : Str} {sp0 spA spB : Sp} {dvs : List V} {W : WX} {tr : TA} {o dx : Addr} {k : Bool} (hv : σ[n]? = some (some (.ref o))) (ho : H o = some (.ins (wC K k) dx []))
    (q : tr σ H fun vs H2 => (if k then spB else spA) (.ref o :: (vs ++ dvs)) H2 Q fun c d H3 => W c d σ H3) :
    tOrE (tMt (He.ga K "Way") m sp0 dvs W (tVar n) tr) (tOrE (tMt (He.ga K "RawWay") m spA dvs W (tVar n) tr) (tMt (He.ga K "RunWay") m spB dvs W (tVar n) tr)) σ H Q := by
  cases k
  · exact c_alt2 (c_alt1 (c_mt (c_var hv ⟨o, dx, [], rfl, ho, rfl, q⟩)))
  · exact c_alt2 (c_alt2 (c_mt (c_var hv ⟨o, dx, [], rfl, ho, rfl, q⟩)))
def sp_Way_number (K : PySem.W.Frag) : Sp := fun vs H Q _ => False
theorem len_Way_number (h : sp_Way_number K vs H Q E) : vs.length = 1 := h.elim
def t_Way_number (K : PySem.W.Frag) (W : WX) : TS :=
  (tRet (tOp rSubU (tC (.int 0)) (tC (.int 1))))
theorem rd_Way_number (h : sp_Way_number K vs H Q E) : t_Way_number K W { nx := fun _ H' => Q .non H', rt := Q } (start ["self"] vs) H := h.elim
def sp_Way_tell (K : PySem.W.Frag) : Sp := fun vs H Q _ => False
theorem len_Way_tell (h : sp_Way_tell K vs H Q E) : vs.length = 4 := h.elim
def t_Way_tell (K : PySem.W.Frag) (W : WX) : TS :=
  (tSeq (tDrop (tCl (sp_need_text K) [] W (tCons (tVar 2) tNil)))
    (tDrop (tCl (sp_need_window_ways K) [] W (tCons (tVar 3) tNil))))
theorem rd_Way_tell (h : sp_Way_tell K vs H Q E) : t_Way_tell K (fun c d _ H2 => E c d H2) { nx := fun _ H' => Q .non H', rt := Q } (start ["self", "bits", "text", "before"] vs) H := h.elim
def sp_Way_read (K : PySem.W.Frag) : Sp := fun vs H Q _ => False
theorem len_Way_read (h : sp_Way_read K vs H Q E) : vs.length = 4 := h.elim
def t_Way_read (K : PySem.W.Frag) (W : WX) : TS :=
  (tRet (tLst tNil))
theorem rd_Way_read (h : sp_Way_read K vs H Q E) : t_Way_read K W { nx := fun _ H' => Q .non H', rt := Q } (start ["self", "reader", "count", "before"] vs) H := h.elim
def sp_Way_cost (K : PySem.W.Frag) : Sp := fun vs H Q _ => ∃ (k : Bool) (o dx t : Addr) (v : V) (g : Tg) (ts ws : List Int), vs = [.ref o, .ref t, v] ∧ H o = some (.ins (wC K k) dx []) ∧ SqL K H t (ts.map V.int) ∧ Bytes ts ∧ 1 ≤ ts.length ∧ ts.length ≤ 64 ∧ Th K H v g ∧ WinW g ws ∧
  RetV H Q (.int (((wB k ts).length : Nat) : Int))
theorem len_Way_cost (h : sp_Way_cost K vs H Q E) : vs.length = 3 := by
  obtain ⟨k, o, dx, t, v, g, ts, ws, rfl, _⟩ := h
  rfl
def t_Way_cost (K : PySem.W.Frag) (W : WX) : TS :=
  (tSeq (tAsg (tMk (He.ga K "BitRow") (sp_BitRow___init__ K) [] W tNil) (gName 3))
    (tSeq (tDrop (tOrE (tMt (He.ga K "Way") "tell" (sp_Way_tell K) [] W (tVar 0) (tCons (tVar 3) (tCons (tVar 1) (tCons (tVar 2) tNil)))) (tOrE (tMt (He.ga K "RawWay") "tell" (sp_RawWay_tell K) [] W (tVar 0) (tCons (tVar 3) (tCons (tVar 1) (tCons (tVar 2) tNil)))) (tMt (He.ga K "RunWay") "tell" (sp_RunWay_tell K) [] W (tVar 0) (tCons (tVar 3) (tCons (tVar 1) (tCons (tVar 2) tNil)))))))
    (tRet (tMt (He.ga K "BitRow") "many" (sp_BitRow_many K) [] W (tVar 3) tNil))))
theorem rd_Way_cost (h : sp_Way_cost K vs H Q E) : t_Way_cost K (fun c d _ H2 => E c d H2) { nx := fun _ H' => Q .non H', rt := Q } (start ["self", "text", "before", "bits"] vs) H := by
  obtain ⟨k, o, dx, t, v, g, ts, ws, rfl, ho, hS, hb, hl1, hl2, hT, hw, q⟩ := h
  have hs := Hs.start H
  unfold t_Way_cost
  walk_at "go"
  rename_i x dx2 H1 h1
  refine ⟨H, [], x, dx2, rfl, h1, fun f H2 h2 => ⟨rfl, ?_⟩⟩
  clear h1 hs
  walk_at "go"
  refine c_way (k := k) (dx := dx) rfl (h2.ex _ _ ho) ?_
  walk_at "go"
  refine use_tellW (B := H) (L := []) h2 (h2.bl hS) hb hl1 hl2 (hT.same h2.ex) hw (by simp) fun B2 H3 hB h3 => ?_
  rw [List.nil_append] at h3
  clear h2
  walk_at "go"
  refine ⟨_, _, x, dx2, f, _, rfl, h3, ?_⟩
  exact q _ (hB.trans h3.ex)
end L2.BR

namespace L2.BR
open PySem PySem.Spec PyProof.Rows L2.BP
variable {K : PySem.W.Frag} {W : WX} {vs : List V} {H : Hp} {Q : VK} {E : XK}
structure KRaw (K : PySem.W.Frag) : Prop where
  c : Cls K (He.ga K "RawWay")
  i : InsC K (He.ga K "RawWay")
  is : PySem.W.kitOne K (.ref (He.ga K "RawWay")) (.ref (He.ga K "Way")) = some true
structure KRun (K : PySem.W.Frag) : Prop where
  c : Cls K (He.ga K "RunWay")
  i : InsC K (He.ga K "RunWay")
  is : PySem.W.kitOne K (.ref (He.ga K "RunWay")) (.ref (He.ga K "Way")) = some true
/-! ### the law's runs -/
def rpP (l : List (Nat × Int)) : List (Nat × Nat) := l.flatMap fun r => [(r.1 - 1, 6), (r.2.toNat, 8)]
theorem rpP_snoc (l : List (Nat × Int)) (r : Nat × Int) : rpP (l ++ [r]) = rpP l ++ [(r.1 - 1, 6)] ++ [(r.2.toNat, 8)] := by
  unfold rpP
  rw [List.flatMap_append]
  simp
theorem rpP_len (l : List (Nat × Int)) : (rpP l).length = 2 * l.length := by
  induction l with
  | nil => rfl
  | cons r l ih =>
    rw [show rpP (r :: l) = (r.1 - 1, 6) :: (r.2.toNat, 8) :: rpP l from rfl, List.length_cons, List.length_cons, List.length_cons, ih]
    omega
theorem rpP_bits (l : List (Nat × Int)) : parB (rpP l) = runsB l := by
  induction l with
  | nil => rfl
  | cons r l ih =>
    rw [show rpP (r :: l) = [(r.1 - 1, 6), (r.2.toNat, 8)] ++ rpP l from rfl, parB_append, ih, runsB_cons]
    congr 1
theorem rpP_good {l : List (Nat × Int)} (h : ∀ r ∈ l, RunOk r) : ∀ p ∈ rpP l, GoodP p := by
  intro p hp
  obtain ⟨r, hr, hp⟩ := List.mem_flatMap.mp hp
  obtain ⟨h1, h2, h3, h4⟩ := h r hr
  rcases List.mem_cons.mp hp with rfl | hp
  · exact ⟨by show 6 ≤ 24; decide, by show _ < 64; omega⟩
  · cases List.mem_singleton.mp hp
    exact ⟨by show 8 ≤ 24; decide, by show _ < 256; omega⟩
def sgP (ts : List Int) : List (Nat × Nat) := ts.map fun n => (n.toNat, 8)
theorem sgP_bits (ts : List Int) : parB (sgP ts) = bitsRow ts := by
  induction ts with
  | nil => rfl
  | cons n r ih =>
    rw [bitsRow_cons, ← ih]
    rfl
theorem sgP_good {ts : List Int} (h : Bytes ts) : ∀ p ∈ sgP ts, GoodP p := by
  intro p hp
  obtain ⟨n, hn, rfl⟩ := List.mem_map.mp hp
  have := h n hn
  exact ⟨by show 8 ≤ 24; decide, by show _ < 256; omega⟩
theorem cut_one {ts : List Int} {k : Nat} : cutV (ts.map V.int) (some ((k : Int) + 1)) (some ((k : Int) + 2)) = ((ts.drop (k + 1)).take 1).map V.int := by
  unfold cutV
  rw [show ((k : Int) + 1) = ((k + 1 : Nat) : Int) by omega, show ((k : Int) + 2) = ((k + 2 : Nat) : Int) by omega, HT.sIx_nat, HT.sIx_nat, List.length_map]
  by_cases h : k + 2 ≤ ts.length
  · rw [Nat.min_eq_left (show k + 1 ≤ ts.length by omega), Nat.min_eq_left h, show k + 2 - (k + 1) = 1 by omega, ← List.map_drop, ← List.map_take]
  · have e : (ts.drop (k + 1)).take 1 = [] := by rw [List.drop_of_length_le (by omega)]; rfl
    rw [e, Nat.min_eq_right (show ts.length ≤ k + 2 by omega)]
    rw [show ts.length - min (k + 1) ts.length = 0 by omega]
    rfl
theorem one_iff {ts : List Int} {k : Nat} (h : k < ts.length) : ((ts.drop (k + 1)).take 1 = [ts.getD k 0]) ↔ ts[k + 1]? = ts[k]? := by
  rw [List.getD_eq_getElem?_getD, List.getElem?_eq_getElem h, Option.getD_some]
  by_cases h2 : k + 1 < ts.length
  · rw [List.drop_eq_getElem_cons h2, List.getElem?_eq_getElem h2, List.take_succ_cons, List.take_zero]
    constructor
    · intro z
      rw [(List.cons.inj z).1]
    · intro z
      rw [Option.some.inj z]
  · rw [List.drop_of_length_le (by omega), List.getElem?_eq_none (by omega)]
    simp
def sp__law_runs (K : PySem.W.Frag) : Sp := fun vs H Q _ => ∃ (a : Addr) (ts : List Int), vs = [.ref a] ∧ SqL K H a (ts.map V.int) ∧ ts.length ≤ 64 ∧ 1 ≤ ts.length ∧ Bytes ts ∧
  ∀ p xs H', Same H H' → Tups K H' xs ((rpP (runs ts)).map pairP) → SqL K H' p xs → Q (.ref p) H'
theorem len__law_runs (h : sp__law_runs K vs H Q E) : vs.length = 1 := by
  obtain ⟨a, ts, rfl, _⟩ := h
  rfl
def t__law_runs (K : PySem.W.Frag) (W : WX) : TS :=
  (tSeq (tAsg (tLst tNil) (gName 1))
    (tSeq (tAsg (tC (.int 0)) (gName 2))
    (tSeq (tFor (iRng1 (tCons (tCB (rLenK K) (tCons (tVar 0) tNil)) tNil)) (gName 3) (tSeq (tAsg (tOp rAddU (tVar 2) (tC (.int 1))) (gName 2))
    (tIfS (tTest (tOp (rNeU K) (tSl (rSlK K) (tVar 0) (tPart (tOp rAddU (tVar 3) (tC (.int 1)))) (tPart (tOp rAddU (tVar 3) (tC (.int 2))))) (tLst (tCons (tOp (rIx K) (tVar 0) (tVar 3)) tNil)))) (tSeq (tAsg (tOp rAddU (tVar 1) (tLst (tCons (tTup (tCons (tOp rSubU (tVar 2) (tC (.int 1))) (tCons (tC (.int 6)) tNil))) (tCons (tTup (tCons (tOp (rIx K) (tVar 0) (tVar 3)) (tCons (tC (.int 8)) tNil))) tNil)))) (gName 1))
    (tAsg (tC (.int 0)) (gName 2))) tNext)))
    (tRet (tVar 1)))))
theorem rd__law_runs (h : sp__law_runs K vs H Q E) : t__law_runs K W { nx := fun _ H' => Q .non H', rt := Q } (start ["_law_text", "_law_parts", "_law_many", "_law_k"] vs) H := by
  obtain ⟨a, ts, rfl, hS, hl, hl1, hb, q⟩ := h
  have hs := Hs.start H
  unfold t__law_runs
  walk_at "go"
  rename_i f H1 h1
  rw [List.length_map]
  refine ⟨_, rfl, by omega, by omega, ?_⟩
  rw [Int.toNat_natCast]
  refine w_forR (fun k σ' L' B' => ∃ (b : Nat) (l : List (Nat × Int)) (xs : List V) (p : Addr) (w3 : Option V), runs ts = l ++ rn ts (ts.length - k) (k + 1) b ∧ b ≤ k ∧ (k < ts.length → ts[k]? = ts[b]?) ∧ l.length ≤ k ∧ Same H B' ∧ Tups K B' xs ((rpP l).map pairP) ∧
    σ' = [some (.ref a), some (.ref p), some (.int ((k : Int) - (b : Int))), w3] ∧ L' = [(p, .lst xs)]) h1 ⟨0, [], [], f, none, rfl, Nat.le_refl _, fun _ => rfl, Nat.le_refl _, Same.refl _, .nil, rfl, rfl⟩ ?_ ?_
  · rintro k σ' L' B' H' hk ⟨b, l, xs, p, w3, hr, hbk, hbe, hll, hB, hT, rfl, rfl⟩ h
    have hbe := hbe hk
    have hSB := hB.seq hS
    have hxl : xs.length = 2 * l.length := by rw [hT.length, List.length_map, rpP_len]
    have em : ts.length - k = (ts.length - (k + 1)) + 1 := by omega
    rw [em] at hr
    have ik : atI (ts.map V.int) (0 + ((k : Nat) : Int)) = some (.int (ts.getD k 0)) := by rw [Int.zero_add]; exact at_nat hk
    walk_at "go"
    rename_i p1 H2 h2 p2 H3 h3
    rw [Int.zero_add, cut_one] at h2 h3
    refine c_neL ((ts.drop (k + 1)).take 1) [ts.getD k 0] (h3.sql (.tail _ (.head _))) (h3.sql (.head _)) ?_
    have h4 := h3.drop.drop
    clear h2 h3 h
    walk_at "go"
    by_cases c : ts[k + 1]? = ts[k]?
    · refine i_f (by rw [decide_eq_true ((one_iff hk).mpr c)]; rfl) ?_
      rw [rn_same (c.trans hbe)] at hr
      walk_at "go"
      refine ⟨_, _, ⟨b, l, xs, p, some (.int (0 + (k : Int))), hr, by omega, fun _ => c.trans hbe, by omega, hB, hT, ?_, rfl⟩, h4⟩
      rw [show ((k : Int) - (b : Int) + 1) = (((k + 1 : Nat) : Int) - (b : Int)) by omega]
      rfl
    · refine i_t (by rw [decide_eq_false fun z => c ((one_iff hk).mp z)]; rfl) ?_
      rw [rn_new (fun z => c (z.trans hbe.symm))] at hr
      have hn := hb (ts.getD k 0) (by rw [List.getD_eq_getElem?_getD, List.getElem?_eq_getElem hk]; exact List.getElem_mem hk)
      have hgd : ts.getD k 0 = ts.getD b 0 := getD_run hbe
      walk_at "go"
      rename_i u1 G1 g1 u2 G2 g2 u3 G3 g3
      clear h4 g1 g2
      refine c_addL g3 (g3.get (.tail _ (.tail _ (.tail _ (.head _))))) (g3.get (.head _)) (small6' (by rw [hxl, List.length_cons, List.length_cons, List.length_nil]; omega)) fun r G4 g4 => ?_
      have k1 := g3.nb (.tail _ (.tail _ (.head _)))
      have g5 := g4.drop1.rot3.fix
      have k2 := g5.nb (.tail _ (.head _))
      have g6 := g5.swap.fix.drop1
      walk_at "go"
      refine ⟨_, _, ⟨k + 1, l ++ [(k + 1 - b, ts.getD b 0)], _, r, some (.int (0 + (k : Int))), by rw [hr, List.append_assoc]; rfl, Nat.le_refl _, fun _ => rfl, by rw [List.length_append, List.length_singleton]; omega, (hB.trans (same_upd k1)).trans (same_upd k2), ?_, ?_, rfl⟩, g6⟩
      · rw [rpP_snoc, List.map_append, List.map_append, show xs ++ [V.ref u1, V.ref u2] = xs ++ [V.ref u1] ++ [V.ref u2] by rw [List.append_assoc]; rfl,
          show [(k + 1 - b - 1, 6)].map pairP = [[V.int ((k : Int) - (b : Int) + 1 - 1), V.int 6]] by simp; omega,
          show [((ts.getD b 0).toNat, 8)].map pairP = [[V.int (ts.getD k 0), V.int 8]] by rw [← hgd]; show [[V.int (((ts.getD k 0).toNat : Nat) : Int), V.int 8]] = _; rw [show (((ts.getD k 0).toNat : Nat) : Int) = ts.getD k 0 by omega]]
        exact (hT.snocFix k1).snocFix k2
      · rw [show (((k + 1 : Nat) : Int) - ((k + 1 : Nat) : Int)) = 0 by omega]
        rfl
  · rintro σ' L' B' H' ⟨b, l, xs, p, w3, hr, hbk, hbe, hll, hB, hT, rfl, rfl⟩ h
    rw [Nat.sub_self] at hr
    unfold rn at hr
    rw [List.append_nil] at hr
    walk_at "go"
    rw [← hr] at hT
    exact q p xs H' (hB.trans h.ex) (hT.same h.ex) (h.sql (.head _))
/-! ### what is told, what is read -/
theorem wB_len' {k : Bool} {ts : List Int} (h : ts.length ≤ 64) : (wB k ts).length ≤ 896 := by
  have := wB_len k ts
  omega
theorem one_P {n z : Nat} : parB [(n, z)] = bitsOf n z := by simp [parB]
def sp__law_told (K : PySem.W.Frag) : Sp := fun vs H Q _ => ∃ (k : Bool) (o dx pa ph t : Addr) (n z : Nat) (v : V) (g : Tg) (ts ws : List Int), vs = [.ref o, .ref pa, .ref ph, .str (digS (wB k ts))] ∧ H o = some (.ins (wC K k) dx []) ∧ SqT K H pa (pairP (n, z)) ∧ GoodP (n, z) ∧ SqL K H ph [.ref t, v] ∧ SqL K H t (ts.map V.int) ∧ Bytes ts ∧ 1 ≤ ts.length ∧ ts.length ≤ 64 ∧ Th K H v g ∧ WinW g ws ∧
  RetV H Q (.bl true)
theorem len__law_told (h : sp__law_told K vs H Q E) : vs.length = 4 := by
  obtain ⟨k, o, dx, pa, ph, t, n, z, v, g, ts, ws, rfl, _⟩ := h
  rfl
def t__law_told (K : PySem.W.Frag) (W : WX) : TS :=
  (tSeq (tAsg (tMk (He.ga K "BitRow") (sp_BitRow___init__ K) [] W tNil) (gName 4))
    (tSeq (tDrop (tMt (He.ga K "BitRow") "put" (sp_BitRow_put K) [] W (tVar 4) (tCons (tOp (rIx K) (tVar 1) (tC (.int 0))) (tCons (tOp (rIx K) (tVar 1) (tC (.int 1))) tNil))))
    (tSeq (tIfS (tTest (tOp rNotU (tOrE (tMt (He.ga K "Way") "tell" (sp_Way_tell K) [] W (tVar 0) (tCons (tVar 4) (tCons (tOp (rIx K) (tVar 2) (tC (.int 0))) (tCons (tOp (rIx K) (tVar 2) (tC (.int 1))) tNil)))) (tOrE (tMt (He.ga K "RawWay") "tell" (sp_RawWay_tell K) [] W (tVar 0) (tCons (tVar 4) (tCons (tOp (rIx K) (tVar 2) (tC (.int 0))) (tCons (tOp (rIx K) (tVar 2) (tC (.int 1))) tNil)))) (tMt (He.ga K "RunWay") "tell" (sp_RunWay_tell K) [] W (tVar 0) (tCons (tVar 4) (tCons (tOp (rIx K) (tVar 2) (tC (.int 0))) (tCons (tOp (rIx K) (tVar 2) (tC (.int 1))) tNil)))))) (tC .non))) (tRet (tC (.bl false))) tNext)
    (tRet ((tAndV (tOp (rEqU K) (tMt (He.ga K "BitRow") "many" (sp_BitRow_many K) [] W (tVar 4) tNil) (tOp rAddU (tOp (rIx K) (tVar 1) (tC (.int 1))) (tCB (rLenK K) (tCons (tVar 3) tNil)))) (tOp (rEqU K) (tMt (He.ga K "BitRow") "row" (sp_BitRow_row K) [] W (tVar 4) tNil) (tCl (sp__law_row_of K) [] W (tCons (tOp rAddU (tCl (sp__law_digits K) [] W (tCons (tLst (tCons (tVar 1) tNil)) tNil)) (tVar 3)) tNil)))))))))
theorem rd__law_told (h : sp__law_told K vs H Q E) : t__law_told K (fun c d _ H2 => E c d H2) { nx := fun _ H' => Q .non H', rt := Q } (start ["_law_way", "_law_ahead", "_law_handed", "_law_due", "_law_bits"] vs) H := by
  obtain ⟨k, o, dx, pa, ph, t, n, z, v, g, ts, ws, rfl, ho, hpa, hgp, hph, hS, hb, hl1, hl2, hT, hw, q⟩ := h
  have hs := Hs.start H
  have hbl := wB_len' (k := k) hl2
  unfold t__law_told
  walk_at "go"
  rename_i x dx2 H1 h1
  refine ⟨H, [], x, dx2, rfl, h1, fun f H2 h2 => ⟨rfl, ?_⟩⟩
  clear h1 hs
  have hpa2 := h2.bt hpa
  walk_at "go"
  refine use_put (n := n) (s := z) rfl rfl h2 (by simp) hgp.1 hgp.2 fun H3 h3 => ?_
  clear h2 hpa2
  rw [List.nil_append] at h3
  have hph3 := h3.bl hph
  have hpa3 := h3.bt hpa
  walk_at "go"
  refine c_way (k := k) (dx := dx) rfl (h3.ex _ _ ho) ?_
  walk_at "go"
  have hg1 := hgp.1
  have hg1' : z ≤ 24 := hg1
  refine use_tellW (B := H) (L := []) h3 (h3.bl hS) hb hl1 hl2 (hT.same h3.ex) hw (by rw [bitsOf_length]; omega) fun B2 H4 hB h4 => ?_
  clear h3 hph3 hpa3
  have hpa4 : SqT K H4 pa (pairP (n, z)) := h4.bt (same_sqt hB hpa)
  walk_at "go"
  refine ⟨_, _, x, dx2, f, _, rfl, h4, ?_⟩
  walk_at "go"
  refine c_lenS (small6' (by rw [digS_len]; omega)) ?_
  rw [digS_len, List.length_append, bitsOf_length]
  walk_at "go"
  refine ⟨_, _, x, dx2, f, _, rfl, h4, by rw [List.length_append, bitsOf_length]; omega, retL h4 fun r H5 h5 => ?_⟩
  clear hpa4
  walk_at "go"
  rename_i u H6 h6
  refine ⟨u, _, [(n, z)], rfl, h6.sql (.head _), .cons (h6.bt (same_sqt hB hpa)) .nil, fun p hp => by cases List.mem_singleton.mp hp; exact hgp, by show 1 ≤ 8000; decide, retV h6 fun H7 h7 => ?_⟩
  rw [one_P]
  walk_at "go"
  refine c_addS (small6' (by rw [digS_len, digS_len, bitsOf_length]; omega)) ?_
  rw [digS_app]
  walk_at "go"
  refine ⟨_, rfl, by rw [List.length_append, bitsOf_length]; omega, retL h7 fun r2 H8 h8 => ?_⟩
  refine c_eqL _ _ (h8.sql (.tail _ (.tail _ (.head _)))) (h8.sql (.head _)) ?_
  rw [decide_eq_true rfl]
  exact q _ (hB.trans h8.ex)
def sp__law_read (K : PySem.W.Frag) : Sp := fun vs H Q _ => ∃ (k : Bool) (o dx pa t : Addr) (n z : Nat) (v : V) (ts : List Int), vs = [.ref o, .ref pa, .ref t, v, .str (digS (wB k ts))] ∧ H o = some (.ins (wC K k) dx []) ∧ SqT K H pa (pairP (n, z)) ∧ GoodP (n, z) ∧ SqL K H t (ts.map V.int) ∧ Bytes ts ∧ ts.length ≤ 64 ∧
  RetV H Q (.bl true)
theorem len__law_read (h : sp__law_read K vs H Q E) : vs.length = 5 := by
  obtain ⟨k, o, dx, pa, t, n, z, v, ts, rfl, _⟩ := h
  rfl
def t__law_read (K : PySem.W.Frag) (W : WX) : TS :=
  (tSeq (tAsg (tMk (He.ga K "BitReader") (sp_BitReader___init__ K) [] W (tCons (tOp rAddU (tCl (sp__law_row_of K) [] W (tCons (tOp rAddU (tCl (sp__law_digits K) [] W (tCons (tLst (tCons (tVar 1) tNil)) tNil)) (tVar 4)) tNil)) (tLst (tCons (tC (.int 170)) tNil))) tNil)) (gName 5))
    (tSeq (tDrop (tMt (He.ga K "BitReader") "take" (sp_BitReader_take K) [] W (tVar 5) (tCons (tOp (rIx K) (tVar 1) (tC (.int 1))) tNil)))
    (tSeq (tAsg (tOrE (tMt (He.ga K "Way") "read" (sp_Way_read K) [] W (tVar 0) (tCons (tVar 5) (tCons (tCB (rLenK K) (tCons (tVar 2) tNil)) (tCons (tVar 3) tNil)))) (tOrE (tMt (He.ga K "RawWay") "read" (sp_RawWay_read K) [] W (tVar 0) (tCons (tVar 5) (tCons (tCB (rLenK K) (tCons (tVar 2) tNil)) (tCons (tVar 3) tNil)))) (tMt (He.ga K "RunWay") "read" (sp_RunWay_read K) [] W (tVar 0) (tCons (tVar 5) (tCons (tCB (rLenK K) (tCons (tVar 2) tNil)) (tCons (tVar 3) tNil)))))) (gName 6))
    (tSeq (tIfS ((tOr (tNot (tB (tCB (rIsi K) (tCons (tVar 6) (tCons (tC (.ty "list")) tNil))))) (tOr (tTest (tOp (rNeU K) (tVar 6) (tVar 2))) (tTest (tOp (rNeU K) (tMt (He.ga K "BitReader") "place" (sp_BitReader_place K) [] W (tVar 5) tNil) (tOp rAddU (tOp (rIx K) (tVar 1) (tC (.int 1))) (tCB (rLenK K) (tCons (tVar 4) tNil)))))))) (tRet (tC (.bl false))) tNext)
    (tRet (tOp (rEqU K) (tLc (iList K (tVar 6)) (gName 7) ((tOr (tNot (tB (tCB (rIsi K) (tCons (tVar 7) (tCons (tC (.ty "int")) tNil))))) (tB (tCB (rIsi K) (tCons (tVar 7) (tCons (tC (.ty "bool")) tNil)))))) (tVar 7) [7]) (tLst tNil)))))))
theorem rd__law_read (h : sp__law_read K vs H Q E) : t__law_read K (fun c d _ H2 => E c d H2) { nx := fun _ H' => Q .non H', rt := Q } (start ["_law_way", "_law_ahead", "_law_text", "_law_before", "_law_due", "_law_reader", "_law_found", "_law_sign"] vs) H := by
  obtain ⟨k, o, dx, pa, t, n, z, v, ts, rfl, ho, hpa, hgp, hS, htb, hl2, q⟩ := h
  have hs := Hs.start H
  have hbl := wB_len' (k := k) hl2
  have hz : z ≤ 24 := hgp.1
  unfold t__law_read
  walk_at "go"
  rename_i u H1 h1
  refine ⟨u, _, [(n, z)], rfl, h1.sql (.head _), .cons (h1.bt hpa) .nil, fun p hp => by cases List.mem_singleton.mp hp; exact hgp, by show 1 ≤ 8000; decide, retV h1 fun H2 h2 => ?_⟩
  rw [one_P]
  walk_at "go"
  refine c_addS (small6' (by rw [digS_len, digS_len, bitsOf_length]; omega)) ?_
  rw [digS_app]
  walk_at "go"
  have hb3 : (bitsOf n z ++ wB k ts).length = z + (wB k ts).length := by rw [List.length_append, bitsOf_length]
  have hrl := rowOf_length (bitsOf n z ++ wB k ts)
  have hpad := bitsRow_rowOf (bitsOf n z ++ wB k ts)
  have h3 := h2.drop
  clear h1 h2
  refine ⟨_, rfl, by omega, retL h3 fun r H4 h4 => ?_⟩
  walk_at "go"
  rename_i l H5 h5
  refine c_addL h5 (h5.get (.tail _ (.head _))) (h5.get (.head _)) (small6' (by rw [List.length_map, hrl, List.length_singleton]; omega)) fun r2 H6 h6 => ?_
  rw [show (rowOf (bitsOf n z ++ wB k ts)).map V.int ++ [V.int 170] = (rowOf (bitsOf n z ++ wB k ts) ++ [170]).map V.int by rw [List.map_append]; rfl] at h6
  have hrb : Bytes (rowOf (bitsOf n z ++ wB k ts) ++ [170]) := bytes_snoc (rowOf_bytes _) ⟨by decide, by decide⟩
  have hrl2 : (rowOf (bitsOf n z ++ wB k ts) ++ [170]).length = ((bitsOf n z ++ wB k ts).length + 7) / 8 + 1 := by rw [List.length_append, hrl]; rfl
  have hbits : ∃ tail, bitsRow (rowOf (bitsOf n z ++ wB k ts) ++ [170]) = bitsOf n z ++ (wB k ts ++ tail) := by
    refine ⟨List.replicate ((8 - (bitsOf n z ++ wB k ts).length % 8) % 8) false ++ bitsOf (170 : Int).toNat 8, ?_⟩
    rw [bitsRow_snoc, hpad, pad8, List.append_assoc, List.append_assoc]
  obtain ⟨tail, hbits⟩ := hbits
  generalize rowOf (bitsOf n z ++ wB k ts) ++ [170] = row at *
  have h7 := h6.drop1.drop1
  clear h3 h4 h5 h6
  walk_at "go"
  rename_i x dx2 H7 h8
  refine ⟨_, _, x, dx2, .ref r2, .lst (row.map V.int), rfl, h8, .lst (h8.sql (.tail _ (.head _))), ok_ints (by omega), fun ns' e' hb' s2 H8 h9 => ⟨rfl, ?_⟩, fun z => ?_⟩
  rotate_left
  · rw [show Tg.isRow (.lst (row.map V.int)) = true from all_byteV hrb] at z
    cases z
  rw [← map_int_inj (Tg.lst.inj e')] at h9
  have h10 := h9.drop2
  clear h7 h8 h9
  have hpa10 := h10.bt hpa
  walk_at "go"
  refine use_take z rfl h10 hrb (by omega) hz (by omega) fun H9 h11 => ?_
  clear h10 hpa10
  have hdt : (bitsRow row).drop (0 + z) = wB k ts ++ tail := by
    rw [hbits, Nat.zero_add, List.drop_append_of_le_length (by rw [bitsOf_length]; omega), List.drop_of_length_le (by rw [bitsOf_length]; omega), List.nil_append]
  walk_at "go"
  refine c_way (k := k) (dx := dx) rfl (h11.ex _ _ ho) ?_
  have hS11 := h11.bl hS
  walk_at "go"
  refine use_readW (k := k) (ts := ts) (by rw [List.length_map]) h11 hrb (by omega) (by omega) hl2 htb hdt fun p H10 h12 => ?_
  clear h11 hS11
  have hS12 := h12.bl hS
  walk_at "go"
  refine c_isi_ll (h12.sql (.head _)) ?_
  have hpa12 := h12.bt hpa
  walk_at "go"
  refine ⟨_, _, x, dx2, s2, _, _, rfl, h12.drop, ?_⟩
  walk_at "go"
  refine c_lenS (small6' (by rw [digS_len]; omega)) ?_
  rw [digS_len]
  walk_at "go"
  have hpn := h12.nb (.head _)
  have h13 := h12.fix
  have hps : SqL K (upd H p (.lst (ts.map V.int))) p (ts.map V.int) := SqL.of upd_same
  have sm := same_upd (o := HO.lst (ts.map V.int)) hpn
  generalize upd H p (.lst (ts.map V.int)) = B2 at *
  refine c_lcL V.int ts (fun pre acc B' => acc = [] ∧ B' = B2) h13 ⟨rfl, rfl⟩ (fun B' H' e h => h.bl (e.seq hps)) ?_ ?_
  · rintro pre y post acc B' D H' e ⟨rfl, rfl⟩ e2 h
    walk_at "go"
    refine ⟨rfl, ?_⟩
    walk_at "go"
    exact ⟨[], _, ⟨rfl, rfl⟩, e2, h⟩
  · rintro acc B' D H' ⟨rfl, rfl⟩ e2 h
    walk_at "go"
    rename_i u2 H11 h14
    refine c_eqL [] [] (h14.sql (.tail _ (.head _))) (h14.sql (.head _)) ?_
    rw [decide_eq_true rfl]
    exact q _ (sm.trans h14.ex)
/-! ### the whole -/
theorem c_eqLN {p q a1 b1 : Addr} (u : List Int) (hp : SqL K H p [.ref a1, .non]) (h1 : SqL K H a1 (u.map V.int)) (hq : SqL K H q [.ref b1, .non]) (h3 : SqL K H b1 (u.map V.int)) (k : Q (.bl true) H) :
    rEqU K (.ref p) (.ref q) H Q := by
  have hs : SeqAt.shaped (.list [.list (u.map PyData.int), .none]) = true := by
    have z1 := depAll_ints u
    unfold SeqAt.shaped
    simp only [PyData.canLay0, PyData.canLayAll0, canAll_ints, PyData.depth, PyData.depthAll]
    simp
    omega
  refine c_eqD (.lst hp (.cons (.lst h1 (dpa_ints u)) (.cons .non .nil))) (.lst hq (.cons (.lst h3 (dpa_ints u)) (.cons .non .nil))) hs hs ?_
  simp only [PyData.eqv, PyData.eqvAll, eqvAll_ints, decide_true, Bool.and_self]
  exact k
theorem c_eqLL {p q a1 a2 b1 b2 : Addr} (u v : List Int) (hp : SqL K H p [.ref a1, .ref a2]) (h1 : SqL K H a1 (u.map V.int)) (h2 : SqL K H a2 (v.map V.int)) (hq : SqL K H q [.ref b1, .ref b2]) (h3 : SqL K H b1 (u.map V.int)) (h4 : SqL K H b2 (v.map V.int)) (k : Q (.bl true) H) :
    rEqU K (.ref p) (.ref q) H Q := by
  have hs : SeqAt.shaped (.list [.list (u.map PyData.int), .list (v.map PyData.int)]) = true := by
    have z1 := depAll_ints u
    have z2 := depAll_ints v
    unfold SeqAt.shaped
    simp only [PyData.canLay0, PyData.canLayAll0, canAll_ints, PyData.depth, PyData.depthAll]
    simp
    omega
  refine c_eqD (.lst hp (.cons (.lst h1 (dpa_ints u)) (.cons (.lst h2 (dpa_ints v)) .nil))) (.lst hq (.cons (.lst h3 (dpa_ints u)) (.cons (.lst h4 (dpa_ints v)) .nil))) hs hs ?_
  simp only [PyData.eqv, PyData.eqvAll, eqvAll_ints, decide_true, Bool.and_self]
  exact k
theorem c_eqH {p q a1 b1 : Addr} {v v2 : V} {g : Tg} {u ws : List Int} (hp : SqL K H p [.ref a1, v2]) (h1 : SqL K H a1 (u.map V.int)) (h2 : Th K H v2 g) (hq : SqL K H q [.ref b1, v]) (h3 : SqL K H b1 (u.map V.int)) (h4 : Th K H v g) (hw : WinW g ws) (k : Q (.bl true) H) :
    rEqU K (.ref p) (.ref q) H Q := by
  rcases hw with ⟨rfl, rfl⟩ | ⟨rfl, _, _⟩
  · cases h2
    cases h4
    exact c_eqLN u hp h1 hq h3 k
  · cases h2 with
    | lst z2 => cases h4 with
      | lst z4 => exact c_eqLL u ws hp h1 z2 hq h3 z4 k
theorem c_kept {B : Hp} {L : Pic} {σ : St} {n m : Nat} {v x0 : V} {g : Tg} {ws : List Int} {ph w : Addr} (hv : σ[n]? = some (some (.ref ph))) (hv2 : σ[m]? = some (some (.ref w))) (hph : SqL K H ph [x0, v]) (hwS : SqL K H w (ws.map V.int)) (hs : Hs B L H) (hT : Th K B v g) (hw : WinW g ws)
    (k : ∀ v2 B2 H', Same B B2 → Th K B2 v2 g → Hs B2 L H' → Q v2 H') :
    if decide (v = .non) = true then tOp (rIx K) (tVar n) (tC (.int 1)) σ H Q else tCB (rListK K) (tCons (tVar m) tNil) σ H Q := by
  rcases hw with ⟨rfl, rfl⟩ | ⟨rfl, _, _⟩
  · cases hT
    exact i_t (decide_eq_true rfl) (c_op (c_var hv (c_c (c_ixL hph rfl (k .non B H (Same.refl _) .non hs)))))
  · cases hT with
    | @lst a xs z => exact i_f (decide_eq_false (by simp)) (c_cb (c_cons (c_var hv2 (c_nil (c_listL hs hwS fun a2 H' h' => k (.ref a2) _ H' (same_upd (h'.nb (.head _))) (.lst (SqL.of upd_same)) h'.fix)))))
abbrev wO (o1 o2 : Addr) (k : Bool) : Addr := if k then o2 else o1
def sp_law (K : PySem.W.Frag) : Sp := fun vs H Q _ => ∃ (a : Addr) (ns : List Int), vs = [.ref a] ∧ SqL K H a (ns.map V.int) ∧ ns.length ≤ 63 ∧ ∀ H', Q (.bl true) H'
theorem len_law (h : sp_law K vs H Q E) : vs.length = 1 := by
  obtain ⟨a, ns, rfl, _⟩ := h
  rfl
def t_law (K : PySem.W.Frag) (W : WX) : TS :=
  (tSeq (tAsg (tCl (sp__law_text_by K) [] W (tCons (tVar 0) (tCons (tC (.int 2)) tNil))) (gTup K 2 (gCons (gName 1) (gCons (gName 2) gNil))))
    (tSeq (tAsg (tOp rModU (tCl (sp__law_cell_at K) [] W (tCons (tVar 0) (tCons (tC (.int 0)) tNil))) (tC (.int 21))) (gName 3))
    (tSeq (tAsg (tTup (tCons (tOp rModU (tCl (sp__law_cell_at K) [] W (tCons (tVar 0) (tCons (tC (.int 1)) tNil))) (tOp rShlU (tC (.int 1)) (tVar 3))) (tCons (tVar 3) tNil))) (gName 4))
    (tSeq (tAsg (tMade (He.ga K "RawWay")) (gName 5))
    (tSeq (tAsg (tMade (He.ga K "RunWay")) (gName 6))
    (tSeq (tIfS ((tOr (tNot (tB (tCB (rIsi K) (tCons (tVar 5) (tCons (tC (.ref (He.ga K "Way"))) tNil))))) (tOr (tNot (tB (tCB (rIsi K) (tCons (tVar 6) (tCons (tC (.ref (He.ga K "Way"))) tNil))))) (tOr (tTest (tOp (rNeU K) (tOrE (tMt (He.ga K "Way") "number" (sp_Way_number K) [] W (tVar 5) tNil) (tOrE (tMt (He.ga K "RawWay") "number" (sp_RawWay_number K) [] W (tVar 5) tNil) (tMt (He.ga K "RunWay") "number" (sp_RunWay_number K) [] W (tVar 5) tNil))) (tC (.int 0)))) (tTest (tOp (rNeU K) (tOrE (tMt (He.ga K "Way") "number" (sp_Way_number K) [] W (tVar 6) tNil) (tOrE (tMt (He.ga K "RawWay") "number" (sp_RawWay_number K) [] W (tVar 6) tNil) (tMt (He.ga K "RunWay") "number" (sp_RunWay_number K) [] W (tVar 6) tNil))) (tC (.int 1)))))))) (tRet (tC (.bl false))) tNext)
    (tSeq (tAsg (tLst (tCons (tCl (sp__law_digits K) [] W (tCons (tLc (iList K (tVar 1)) (gName 14) tYes (tTup (tCons (tVar 14) (tCons (tC (.int 8)) tNil))) [14]) tNil)) (tCons (tCl (sp__law_digits K) [] W (tCons (tCl (sp__law_runs K) [] W (tCons (tVar 1) tNil)) tNil)) tNil))) (gName 7))
    (tSeq (tAsg (tLst (tCons (tCB (rListK K) (tCons (tVar 1) tNil)) (tCons (tCB (rListK K) (tCons (tVar 2) tNil)) tNil))) (gName 8))
    (Evl.tCut (tIfS ((tAnd (tTest (tOp (rEqU K) (tVar 2) (tLst tNil))) (tTest (tOp (rEqU K) (tOp rModU (tOp rDivU (tCl (sp__law_cell_at K) [] W (tCons (tVar 0) (tCons (tC (.int 0)) tNil))) (tC (.int 21))) (tC (.int 2))) (tC (.int 1)))))) (tAsg (tC .non) (gSub (tVar 8) (tC (.int 1)) rSetL)) tNext)
    (tSeq (tAsg (tLst (tCons (tCB (rListK K) (tCons (tVar 1) tNil)) (tCons (tIf (tTest (tOp rIsU (tOp (rIx K) (tVar 8) (tC (.int 1))) (tC .non))) (tOp (rIx K) (tVar 8) (tC (.int 1))) (tCB (rListK K) (tCons (tVar 2) tNil))) tNil))) (gName 9))
    (tSeq (tFor (iRng1 (tCons (tC (.int 2)) tNil)) (gName 10) (tFor (iTup K (tTup (tCons (tTup (tCons (tVar 5) (tCons (tOp (rIx K) (tVar 7) (tC (.int 0))) tNil))) (tCons (tTup (tCons (tVar 6) (tCons (tOp (rIx K) (tVar 7) (tC (.int 1))) tNil))) tNil)))) (gTup K 2 (gCons (gName 11) (gCons (gName 12) gNil))) (tSeq (tAsg (tOrE (tMt (He.ga K "Way") "cost" (sp_Way_cost K) [] W (tVar 11) (tCons (tOp (rIx K) (tVar 8) (tC (.int 0))) (tCons (tOp (rIx K) (tVar 8) (tC (.int 1))) tNil))) (tOrE (tMt (He.ga K "RawWay") "cost" (sp_Way_cost K) [] W (tVar 11) (tCons (tOp (rIx K) (tVar 8) (tC (.int 0))) (tCons (tOp (rIx K) (tVar 8) (tC (.int 1))) tNil))) (tMt (He.ga K "RunWay") "cost" (sp_Way_cost K) [] W (tVar 11) (tCons (tOp (rIx K) (tVar 8) (tC (.int 0))) (tCons (tOp (rIx K) (tVar 8) (tC (.int 1))) tNil))))) (gName 13))
    (tSeq (tIfS ((tOr (tNot (tB (tCB (rIsi K) (tCons (tVar 13) (tCons (tC (.ty "int")) tNil))))) (tOr (tB (tCB (rIsi K) (tCons (tVar 13) (tCons (tC (.ty "bool")) tNil)))) (tTest (tOp (rNeU K) (tVar 13) (tCB (rLenK K) (tCons (tVar 12) tNil))))))) (tRet (tC (.bl false))) tNext)
    (tIfS ((tOr (tNot (tB (tCl (sp__law_told K) [] W (tCons (tVar 11) (tCons (tVar 4) (tCons (tVar 8) (tCons (tVar 12) tNil))))))) (tNot (tB (tCl (sp__law_read K) [] W (tCons (tVar 11) (tCons (tVar 4) (tCons (tVar 1) (tCons (tOp (rIx K) (tVar 8) (tC (.int 1))) (tCons (tVar 12) tNil)))))))))) (tRet (tC (.bl false))) tNext)))))
    (tRet (tOp (rEqU K) (tVar 8) (tVar 9))))))))))))))
theorem rd_law (kRaw : KRaw K) (kRun : KRun K) (h : sp_law K vs H Q E) : t_law K (fun c d _ H2 => E c d H2) { nx := fun _ H' => Q .non H', rt := Q } (start ["_law_script", "_law_text", "_law_before", "_law_size", "_law_ahead", "_law_raw", "_law_run", "_law_dues", "_law_handed", "_law_kept", "_law_turn", "_law_way", "_law_due", "_law_cost", "_law_sign"] vs) H := by
  obtain ⟨a, ns, rfl, hS, hl, q⟩ := h
  have hs := Hs.start H
  obtain ⟨ra, ri, ris⟩ := kRaw
  obtain ⟨na, ni, nis⟩ := kRun
  unfold t_law
  walk_at "go"
  refine ⟨a, ns, 2, rfl, hS, by decide, by decide, fun ts ws p0 t w H1 htb hwb ht1 ht2 hwl e1 hp0 ht hw => ?_⟩
  have hS1 := e1.seq hS
  have h1 := Hs.start H1
  clear hs
  walk_at "go"
  refine ⟨a, ns, 0, rfl, hS1, by decide, ?_⟩
  obtain ⟨z, hz, hz20⟩ : ∃ z : Nat, cellAt ns 0 % 21 = ((z : Nat) : Int) ∧ z ≤ 20 := ⟨(cellAt ns 0 % 21).toNat, by omega, by omega⟩
  walk_at "go"
  refine ⟨a, ns, 1, rfl, hS1, by decide, ?_⟩
  rw [hz]
  walk_at "go"
  rw [Int.toNat_natCast, Int.one_mul]
  have hp2 : (0 : Int) < 2 ^ z := Int.pow_pos (by decide)
  refine c_mod hp2 ?_
  obtain ⟨n, hn, hnz⟩ : ∃ n : Nat, cellAt ns 1 % 2 ^ z = ((n : Nat) : Int) ∧ n < 2 ^ z := by
    have a1 := Int.emod_nonneg (cellAt ns 1) (by omega : (2 ^ z : Int) ≠ 0)
    have a2 := Int.emod_lt_of_pos (cellAt ns 1) hp2
    have a3 : ((2 ^ z : Nat) : Int) = 2 ^ z := by rw [Int.natCast_pow]; rfl
    exact ⟨(cellAt ns 1 % 2 ^ z).toNat, by omega, by omega⟩
  have hgp : GoodP (n, z) := ⟨by show z ≤ 24; omega, hnz⟩
  rw [hn]
  walk_at "go"
  rename_i pa H2 h2 o1 dx1 H3 h3 o2 dx2 H4 h4
  have ho1 := h4.get (.tail _ (.head _))
  have ho2 := h4.get (.head _)
  refine c_isiC ho1 ra ri ris ?_
  walk_at "go"
  refine c_isiC ho2 na ni nis ?_
  walk_at "go"
  refine c_alt2 (c_alt1 ?_)
  walk_at "go"
  refine ⟨_, rfl, ?_⟩
  walk_at "go"
  refine c_alt2 (c_alt2 ?_)
  walk_at "go"
  refine ⟨_, rfl, ?_⟩
  have hpa4 : SqT K H4 pa (pairP (n, z)) := h4.sqt (.tail _ (.tail _ (.head _)))
  have ht4 : SqL K H4 t (ts.map V.int) := .of (h4.ex _ _ ht)
  have hw4 : SqL K H4 w (ws.map V.int) := .of (h4.ex _ _ hw)
  have hS4 := h4.bl hS1
  have h5 := Hs.start H4
  clear h1 h2 h3 h4 ht hw hS1 hp0 e1
  walk_at "go"
  refine c_lcL V.int ts (fun pre acc B' => Tups K B' acc ((sgP pre).map pairP)) h5 .nil (fun B' H' e h => h.bl (e.seq ht4)) ?_ ?_
  · rintro pre y post acc B' D H' e hT e2 h
    have hyb := htb y (by rw [e]; simp)
    have hal := hT.length
    rw [List.length_map, show (sgP pre).length = pre.length from List.length_map _] at hal
    have hpl : pre.length ≤ 64 := by rw [e, List.length_append] at ht2; omega
    walk_at "go"
    refine ⟨rfl, ?_⟩
    walk_at "go"
    rename_i u H6 h6
    have k1 := h6.nb (.head _)
    refine c_item h6.fix (small5 (by omega)) (e2.trans (same_upd k1)) ?_
    show Tups K _ _ ((sgP (pre ++ [y])).map pairP)
    rw [show sgP (pre ++ [y]) = sgP pre ++ [(y.toNat, 8)] by simp [sgP], List.map_append, show [(y.toNat, 8)].map pairP = [[V.int y, V.int 8]] by simp; omega]
    exact hT.snocFix k1
  rintro acc B' D H' hT e2 h
  refine ⟨D, acc, sgP ts, rfl, h.sql (.head _), hT.same h.ex, sgP_good htb, by rw [sgP, List.length_map]; omega, retV h fun H6 h6 => ?_⟩
  rw [sgP_bits]
  have ht5 := e2.seq ht4
  have hw5 := e2.seq hw4
  have hrl := rn_len ts ts.length 1 0
  walk_at "go"
  refine ⟨t, ts, rfl, h6.bl ht5, ht2, ht1, htb, fun p xs H7 e7 hT7 hp7 => ?_⟩
  walk_at "go"
  refine ⟨p, xs, rpP (runs ts), rfl, hp7, hT7, rpP_good (runs_ok htb ht2), by rw [rpP_len]; unfold runs; omega, retV (h6.same e7).drop fun H8 h8 => ?_⟩
  rw [rpP_bits]
  clear h6 e7 hT7 hp7 hT h h5
  walk_at "go"
  rename_i pd G1 g1 t2 G2 g2 w2 G3 g3 ph G4 g4
  have k1 := g4.swap.nb (.head _)
  have k2 := g4.swap.fix.swap.nb (.head _)
  have k3 := g4.swap.fix.swap.fix.swap.nb (.head _)
  have g5 := g4.swap.fix.swap.fix.swap.fix
  have hw2 : SqL K (upd B' w2 (.lst (ws.map V.int))) w2 (ws.map V.int) := SqL.of upd_same
  have hw2 := (same_upd (o := HO.lst (ts.map V.int)) k2).seq hw2
  have hw2 := (same_upd (o := HO.lst [.str (digS (bitsRow ts)), .str (digS (runsB (runs ts)))]) k3).seq hw2
  have ht27 : SqL K (upd (upd B' w2 (.lst (ws.map V.int))) t2 (.lst (ts.map V.int))) t2 (ts.map V.int) := SqL.of upd_same
  have ht27 := (same_upd (o := HO.lst [.str (digS (bitsRow ts)), .str (digS (runsB (runs ts)))]) k3).seq ht27
  have hpd : SqL K (upd (upd (upd B' w2 (.lst (ws.map V.int))) t2 (.lst (ts.map V.int))) pd (.lst [.str (digS (bitsRow ts)), .str (digS (runsB (runs ts)))])) pd [.str (digS (bitsRow ts)), .str (digS (runsB (runs ts)))] := SqL.of upd_same
  have s5 := e2.trans (((same_upd (o := HO.lst (ws.map V.int)) k1).trans (same_upd (o := HO.lst (ts.map V.int)) k2)).trans (same_upd (o := HO.lst [.str (digS (bitsRow ts)), .str (digS (runsB (runs ts)))]) k3))
  clear g1 g2 g3 g4 h8 ht5 hw5
  generalize upd (upd (upd B' w2 (.lst (ws.map V.int))) t2 (.lst (ts.map V.int))) pd (.lst [.str (digS (bitsRow ts)), .str (digS (runsB (runs ts)))]) = B5 at *
  have ht5 := s5.seq ht4
  have hw5 := s5.seq hw4
  have hS5 := s5.seq hS4
  have hpa5 := same_sqt s5 hpa4
  have ho15 := s5 _ _ ho1
  have ho25 := s5 _ _ ho2
  clear k1 k2 k3 ht4 hw4 hS4 hpa4 ho1 ho2 s5 e2
  refine w_cut (fun σ2 H6 => ∃ (v : V) (g : Tg), Th K B5 v g ∧ WinW g ws ∧ Hs B5 [(ph, .lst [.ref t2, v])] H6 ∧ σ2 = [some (.ref a), some (.ref t), some (.ref w), some (.int ((z : Nat) : Int)), some (.ref pa), some (.ref o1), some (.ref o2), some (.ref pd), some (.ref ph), none, none, none, none, none, none]) ?_ ?_
  · walk_at "go"
    rename_i e0 H6 h6
    refine c_eqL ws [] (h6.bl hw5) (h6.sql (.head _)) ?_
    refine c_bl ?_
    have h7 := h6.drop
    clear h6
    by_cases cw : ws = []
    · refine i_t (decide_eq_true cw) ?_
      walk_at "go"
      refine ⟨a, ns, 0, rfl, h7.bl hS5, by decide, ?_⟩
      walk_at "go"
      refine i_2 (fun _ => ?_) (fun _ => ?_)
      · walk_at "go"
        refine w_set0 (m := 1) h7 rfl (by show 1 < 2; decide) fun H8 h8 => ?_
        exact ⟨.non, .non, .non, .inl ⟨rfl, cw⟩, h8, rfl⟩
      · walk_at "go"
        exact ⟨.ref w2, .lst (ws.map V.int), .lst hw2, .inr ⟨rfl, hwb, hwl⟩, h7, rfl⟩
    · refine i_f (decide_eq_false cw) ?_
      walk_at "go"
      exact ⟨.ref w2, .lst (ws.map V.int), .lst hw2, .inr ⟨rfl, hwb, hwl⟩, h7, rfl⟩
  rintro σ2 H6 ⟨v, g, hTh, hwin, h6, rfl⟩
  clear g5
  walk_at "go"
  rename_i t3 H7 h7
  refine c_kept rfl rfl (h7.sql (.tail _ (.head _))) (h7.bl hw5) h7 hTh hwin fun v2 B6 H8 sm hT2 h8 => ?_
  walk_at "go"
  rename_i pk H9 h9
  have hpk : SqL K H9 pk [.ref t3, v2] := h9.sql (.head _)
  have ht3 : SqL K H9 t3 (ts.map V.int) := h9.sql (.tail _ (.head _))
  have hph : SqL K H9 ph [.ref t2, v] := h9.sql (.tail _ (.tail _ (.head _)))
  have s9 := sm.trans h9.ex
  have hTv := hTh.same s9
  have hTv2 := hT2.same h9.ex
  have ht9 := s9.seq ht5
  have ht29 := s9.seq ht27
  have hpd9 := s9.seq hpd
  have hpa9 := same_sqt s9 hpa5
  have ho19 := s9 _ _ ho15
  have ho29 := s9 _ _ ho25
  have hA := Hs.start H9
  have hbl := fun k => wB_len' (k := k) ht2
  clear h6 h7 h8 h9 sm hTh hT2 ht5 ht27 hpd hpa5 ho15 ho25 hw5 hw2 hS5 s9
  refine ⟨2, rfl, by decide, by decide, ?_⟩
  rw [show (2 : Int).toNat = 2 from rfl]
  refine w_forR (fun i σ' L' B' => ∃ w10 w11 w12 w13, Same H9 B' ∧ L' = [] ∧ σ' = [some (.ref a), some (.ref t), some (.ref w), some (.int ((z : Nat) : Int)), some (.ref pa), some (.ref o1), some (.ref o2), some (.ref pd), some (.ref ph), some (.ref pk), w10, w11, w12, w13, none]) hA ⟨none, none, none, none, Same.refl _, rfl, rfl⟩ ?_ ?_
  · rintro i σ' L' B' H' hi ⟨w10, w11, w12, w13, sB, rfl, rfl⟩ h
    have hpdB := sB.seq hpd9
    clear hA
    walk_at "go"
    rename_i p1 G1 g1 p2 G2 g2 p3 G3 g3
    have hp3 : SqT K G3 p3 [.ref p1, .ref p2] := g3.sqt (.head _)
    have hTu : Tups K G3 [.ref p1, .ref p2] ([false, true].map fun k => [.ref (wO o1 o2 k), .str (digS (wB k ts))]) := .cons (g3.sqt (.tail _ (.tail _ (.head _)))) (.cons (g3.sqt (.tail _ (.head _))) .nil)
    have s3 := sB.trans g3.ex
    have hoK : ∀ k, G3 (wO o1 o2 k) = some (.ins (wC K k) (wO dx1 dx2 k) []) := by
      intro k
      cases k
      · exact s3 _ _ ho19
      · exact s3 _ _ ho29
    have hph3 := s3.seq hph
    have ht23 := s3.seq ht29
    have htt3 := s3.seq ht9
    have hpa3 := same_sqt s3 hpa9
    have hTv3 := hTv.same s3
    have hB := Hs.start G3
    clear g1 g2 g3 h
    refine w_forT [.ref p1, .ref p2] (fun pre σ' L' B' => ∃ w11 w12 w13, B' = G3 ∧ L' = [] ∧ σ' = [some (.ref a), some (.ref t), some (.ref w), some (.int ((z : Nat) : Int)), some (.ref pa), some (.ref o1), some (.ref o2), some (.ref pd), some (.ref ph), some (.ref pk), some (.int (0 + (i : Int))), w11, w12, w13, none]) hB ⟨_, _, _, rfl, rfl, rfl⟩ ?_ ?_ ?_
    · rintro pre post σ' L' B' H' _ ⟨w11, w12, w13, rfl, rfl, _⟩ h
      exact h.bt hp3
    · rintro pre y post σ' L' B' H' e ⟨w11, w12, w13, rfl, rfl, rfl⟩ h
      obtain ⟨u, k, rfl, hk, hu⟩ := tups_R hTu e
      have hu' := h.bt hu
      walk_at "go"
      have hph4 := h.bl hph3
      refine c_way (k := k) (dx := wO dx1 dx2 k) rfl (h.ex _ _ (hoK k)) ?_
      walk_at "go"
      rw [ite_self]
      refine ⟨k, _, _, t2, v, g, ts, ws, rfl, h.ex _ _ (hoK k), h.bl ht23, htb, ht1, ht2, hTv3.same h.ex, hwin, retV h fun H10 h10 => ?_⟩
      clear hu' hph4 h
      walk_at "go"
      refine c_lenS (small6' (by have := hbl k; rw [digS_len]; omega)) ?_
      rw [digS_len]
      walk_at "go"
      refine ⟨k, _, _, pa, ph, t2, n, z, v, g, ts, ws, rfl, h10.ex _ _ (hoK k), h10.bt hpa3, hgp, h10.bl hph3, h10.bl ht23, htb, ht1, ht2, hTv3.same h10.ex, hwin, retV h10 fun H11 h11 => ?_⟩
      have hph5 := h11.bl hph3
      clear h10
      walk_at "go"
      refine ⟨k, _, _, pa, t, n, z, v, ts, rfl, h11.ex _ _ (hoK k), h11.bt hpa3, hgp, h11.bl htt3, htb, ht2, retV h11 fun H12 h12 => ?_⟩
      walk_at "go"
      exact ⟨_, _, ⟨_, _, _, rfl, rfl, rfl⟩, h12⟩
    · rintro σ' L' B' H' ⟨w11, w12, w13, rfl, rfl, rfl⟩ h
      exact ⟨_, _, ⟨_, _, _, _, s3, rfl, rfl⟩, h⟩
  · rintro σ' L' B' H' ⟨w10, w11, w12, w13, sB, rfl, rfl⟩ h
    walk_at "go"
    refine c_eqH (h.bl (sB.seq hph)) (h.bl (sB.seq ht29)) ((hTv.same sB).same h.ex) (h.bl (sB.seq hpk)) (h.bl (sB.seq ht3)) ((hTv2.same sB).same h.ex) hwin ?_
    exact q _
end L2.BR

end
namespace L2.BH
open PySem PySem.Spec PyProof.Rows L2
def top (i : Nat) : Stmt := PySem.Challenge.pw_balepress_k17_raw_and_runs.main.body.getD i (.Pass ⟨0, 0, 0, 0⟩)
abbrev s__wall : Stmt := top 0
abbrev s_is_byte : Stmt := top 9
abbrev s_is_row : Stmt := top 10
abbrev s_need_row : Stmt := top 11
abbrev s_is_number : Stmt := top 15
abbrev s_need_size : Stmt := top 16
abbrev s_BitRow___init__ : Stmt := inClass (top 17) 0
abbrev s_BitRow_put : Stmt := inClass (top 17) 1
abbrev s_BitRow_many : Stmt := inClass (top 17) 2
abbrev s_BitRow_row : Stmt := inClass (top 17) 3
abbrev s_BitReader___init__ : Stmt := inClass (top 18) 0
abbrev s_BitReader_left : Stmt := inClass (top 18) 1
abbrev s_BitReader_place : Stmt := inClass (top 18) 2
abbrev s_BitReader_go : Stmt := inClass (top 18) 3
abbrev s_BitReader_take : Stmt := inClass (top 18) 4
abbrev s_BitReader_at_end : Stmt := inClass (top 18) 5
abbrev s_need_text : Stmt := top 22
abbrev s_need_window : Stmt := top 23
abbrev s_runs_of : Stmt := top 24
abbrev s_Way_number : Stmt := inClass (top 25) 0
abbrev s_Way_tell : Stmt := inClass (top 25) 1
abbrev s_Way_read : Stmt := inClass (top 25) 2
abbrev s_Way_cost : Stmt := inClass (top 25) 3
abbrev s_RawWay_number : Stmt := inClass (top 26) 0
abbrev s_RawWay_tell : Stmt := inClass (top 26) 1
abbrev s_RawWay_read : Stmt := inClass (top 26) 2
abbrev s_RunWay_number : Stmt := inClass (top 27) 0
abbrev s_RunWay_tell : Stmt := inClass (top 27) 1
abbrev s_RunWay_read : Stmt := inClass (top 27) 2
abbrev s__law_cell_at : Stmt := top 29
abbrev s__law_drawn : Stmt := top 30
abbrev s__law_signs : Stmt := top 31
abbrev s__law_text_by : Stmt := top 32
abbrev s__law_digits : Stmt := top 33
abbrev s__law_row_of : Stmt := top 34
abbrev s__law_runs : Stmt := top 35
abbrev s__law_told : Stmt := top 36
abbrev s__law_read : Stmt := top 37
abbrev s_law : Stmt := top 38
def d__wall : He.DefD := ⟨("_wall", none), "_wall", "_wall", defArgs s__wall, defBody s__wall, defScope s__wall, [], []⟩
def d_is_byte : He.DefD := ⟨("is_byte", none), "is_byte", "is_byte", defArgs s_is_byte, defBody s_is_byte, defScope s_is_byte, [], []⟩
def d_is_row : He.DefD := ⟨("is_row", none), "is_row", "is_row", defArgs s_is_row, defBody s_is_row, defScope s_is_row, [], []⟩
def d_need_row : He.DefD := ⟨("need_row", none), "need_row", "need_row", defArgs s_need_row, defBody s_need_row, defScope s_need_row, [], []⟩
def d_is_number : He.DefD := ⟨("is_number", none), "is_number", "is_number", defArgs s_is_number, defBody s_is_number, defScope s_is_number, [], []⟩
def d_need_size : He.DefD := ⟨("need_size", none), "need_size", "need_size", defArgs s_need_size, defBody s_need_size, defScope s_need_size, [], []⟩
def d_BitRow___init__ : He.DefD := ⟨("BitRow", some "__init__"), "__init__", "BitRow.__init__", defArgs s_BitRow___init__, defBody s_BitRow___init__, defScope s_BitRow___init__, [], []⟩
def d_BitRow_put : He.DefD := ⟨("BitRow", some "put"), "put", "BitRow.put", defArgs s_BitRow_put, defBody s_BitRow_put, defScope s_BitRow_put, [], []⟩
def d_BitRow_many : He.DefD := ⟨("BitRow", some "many"), "many", "BitRow.many", defArgs s_BitRow_many, defBody s_BitRow_many, defScope s_BitRow_many, [], []⟩
def d_BitRow_row : He.DefD := ⟨("BitRow", some "row"), "row", "BitRow.row", defArgs s_BitRow_row, defBody s_BitRow_row, defScope s_BitRow_row, [], []⟩
def d_BitReader___init__ : He.DefD := ⟨("BitReader", some "__init__"), "__init__", "BitReader.__init__", defArgs s_BitReader___init__, defBody s_BitReader___init__, defScope s_BitReader___init__, [], []⟩
def d_BitReader_left : He.DefD := ⟨("BitReader", some "left"), "left", "BitReader.left", defArgs s_BitReader_left, defBody s_BitReader_left, defScope s_BitReader_left, [], []⟩
def d_BitReader_place : He.DefD := ⟨("BitReader", some "place"), "place", "BitReader.place", defArgs s_BitReader_place, defBody s_BitReader_place, defScope s_BitReader_place, [], []⟩
def d_BitReader_go : He.DefD := ⟨("BitReader", some "go"), "go", "BitReader.go", defArgs s_BitReader_go, defBody s_BitReader_go, defScope s_BitReader_go, [], []⟩
def d_BitReader_take : He.DefD := ⟨("BitReader", some "take"), "take", "BitReader.take", defArgs s_BitReader_take, defBody s_BitReader_take, defScope s_BitReader_take, [], []⟩
def d_BitReader_at_end : He.DefD := ⟨("BitReader", some "at_end"), "at_end", "BitReader.at_end", defArgs s_BitReader_at_end, defBody s_BitReader_at_end, defScope s_BitReader_at_end, [], []⟩
def d_need_text : He.DefD := ⟨("need_text", none), "need_text", "need_text", defArgs s_need_text, defBody s_need_text, defScope s_need_text, [], []⟩
def d_need_window : He.DefD := ⟨("need_window", none), "need_window", "need_window", defArgs s_need_window, defBody s_need_window, defScope s_need_window, [], []⟩
def d_runs_of : He.DefD := ⟨("runs_of", none), "runs_of", "runs_of", defArgs s_runs_of, defBody s_runs_of, defScope s_runs_of, [], []⟩
def d_Way_number : He.DefD := ⟨("Way", some "number"), "number", "Way.number", defArgs s_Way_number, defBody s_Way_number, defScope s_Way_number, [], []⟩
def d_Way_tell : He.DefD := ⟨("Way", some "tell"), "tell", "Way.tell", defArgs s_Way_tell, defBody s_Way_tell, defScope s_Way_tell, [], []⟩
def d_Way_read : He.DefD := ⟨("Way", some "read"), "read", "Way.read", defArgs s_Way_read, defBody s_Way_read, defScope s_Way_read, [], []⟩
def d_Way_cost : He.DefD := ⟨("Way", some "cost"), "cost", "Way.cost", defArgs s_Way_cost, defBody s_Way_cost, defScope s_Way_cost, [], []⟩
def d_RawWay_number : He.DefD := ⟨("RawWay", some "number"), "number", "RawWay.number", defArgs s_RawWay_number, defBody s_RawWay_number, defScope s_RawWay_number, [], []⟩
def d_RawWay_tell : He.DefD := ⟨("RawWay", some "tell"), "tell", "RawWay.tell", defArgs s_RawWay_tell, defBody s_RawWay_tell, defScope s_RawWay_tell, [], []⟩
def d_RawWay_read : He.DefD := ⟨("RawWay", some "read"), "read", "RawWay.read", defArgs s_RawWay_read, defBody s_RawWay_read, defScope s_RawWay_read, [], []⟩
def d_RunWay_number : He.DefD := ⟨("RunWay", some "number"), "number", "RunWay.number", defArgs s_RunWay_number, defBody s_RunWay_number, defScope s_RunWay_number, [], []⟩
def d_RunWay_tell : He.DefD := ⟨("RunWay", some "tell"), "tell", "RunWay.tell", defArgs s_RunWay_tell, defBody s_RunWay_tell, defScope s_RunWay_tell, [], []⟩
def d_RunWay_read : He.DefD := ⟨("RunWay", some "read"), "read", "RunWay.read", defArgs s_RunWay_read, defBody s_RunWay_read, defScope s_RunWay_read, [], []⟩
def d__law_cell_at : He.DefD := ⟨("_law_cell_at", none), "_law_cell_at", "_law_cell_at", defArgs s__law_cell_at, defBody s__law_cell_at, defScope s__law_cell_at, [], []⟩
def d__law_drawn : He.DefD := ⟨("_law_drawn", none), "_law_drawn", "_law_drawn", defArgs s__law_drawn, defBody s__law_drawn, defScope s__law_drawn, [], []⟩
def d__law_signs : He.DefD := ⟨("_law_signs", none), "_law_signs", "_law_signs", defArgs s__law_signs, defBody s__law_signs, defScope s__law_signs, [], []⟩
def d__law_text_by : He.DefD := ⟨("_law_text_by", none), "_law_text_by", "_law_text_by", defArgs s__law_text_by, defBody s__law_text_by, defScope s__law_text_by, [], []⟩
def d__law_digits : He.DefD := ⟨("_law_digits", none), "_law_digits", "_law_digits", defArgs s__law_digits, defBody s__law_digits, defScope s__law_digits, [], []⟩
def d__law_row_of : He.DefD := ⟨("_law_row_of", none), "_law_row_of", "_law_row_of", defArgs s__law_row_of, defBody s__law_row_of, defScope s__law_row_of, [], []⟩
def d__law_runs : He.DefD := ⟨("_law_runs", none), "_law_runs", "_law_runs", defArgs s__law_runs, defBody s__law_runs, defScope s__law_runs, [], []⟩
def d__law_told : He.DefD := ⟨("_law_told", none), "_law_told", "_law_told", defArgs s__law_told, defBody s__law_told, defScope s__law_told, [], []⟩
def d__law_read : He.DefD := ⟨("_law_read", none), "_law_read", "_law_read", defArgs s__law_read, defBody s__law_read, defScope s__law_read, [], []⟩
def d_law : He.DefD := ⟨("law", none), "law", "law", defArgs s_law, defBody s_law, defScope s_law, [], []⟩
def fn : List He.DefD := [d__wall, d_is_byte, d_is_row, d_need_row, d_is_number, d_need_size, d_BitRow___init__, d_BitRow_put, d_BitRow_many, d_BitRow_row, d_BitReader___init__, d_BitReader_left, d_BitReader_place, d_BitReader_go, d_BitReader_take, d_BitReader_at_end, d_need_text, d_need_window, d_runs_of, d_Way_number, d_Way_tell, d_Way_read, d_Way_cost, d_RawWay_number, d_RawWay_tell, d_RawWay_read, d_RunWay_number, d_RunWay_tell, d_RunWay_read, d__law_cell_at, d__law_drawn, d__law_signs, d__law_text_by, d__law_digits, d__law_row_of, d__law_runs, d__law_told, d__law_read, d_law]
def fa : List He.Fa := [.glo "_wall", .glo "PressError", .exc "PressError", .glo "BadRow", .exc "BadRow", .glo "BadBits", .exc "BadBits", .glo "NoBits", .exc "NoBits", .glo "BadBody", .exc "BadBody", .int "MOST_BYTE" 255, .glo "is_byte", .glo "is_row", .glo "need_row", .int "BYTE" 8, .int "MOST_SIZE" 24, .glo "is_number", .glo "need_size", .glo "BitRow", .cls "BitRow", .noat "BitRow" "full", .noat "BitRow" "part", .noat "BitRow" "filled", .meth "BitRow" "__init__", .meth "BitRow" "put", .meth "BitRow" "many", .meth "BitRow" "row", .mkr "BitRow", .glo "BitReader", .cls "BitReader", .noat "BitReader" "source", .noat "BitReader" "taken", .meth "BitReader" "__init__", .meth "BitReader" "left", .meth "BitReader" "place", .meth "BitReader" "go", .meth "BitReader" "take", .meth "BitReader" "at_end", .mkr "BitReader", .int "MOST_SIGNS" 64, .int "MOST_WINDOW" 192, .glo "need_text", .glo "need_window", .glo "runs_of", .glo "Way", .cls "Way", .meth "Way" "number", .meth "Way" "tell", .meth "Way" "read", .meth "Way" "cost", .glo "RawWay", .cls "RawWay", .meth "RawWay" "number", .meth "RawWay" "tell", .meth "RawWay" "read", .meth "RawWay" "cost", .glo "RunWay", .cls "RunWay", .meth "RunWay" "number", .meth "RunWay" "tell", .meth "RunWay" "read", .meth "RunWay" "cost", .glo "_law_cell_at", .glo "_law_drawn", .glo "_law_signs", .glo "_law_text_by", .glo "_law_digits", .glo "_law_row_of", .glo "_law_runs", .glo "_law_told", .glo "_law_read", .glo "law", .free "all", .free "bool", .free "divmod", .free "int", .free "isinstance", .free "len", .free "list", .free "max", .free "range", .free "ValueError"]
abbrev R : PySem.W.OpenRow := PySem.W.OpenLaw.row PySem.Challenge.rw_balepress_k17_raw_and_runs
def exs : List (PySem.W.Frag → Bool) := [fun K => (He.eqO (PySem.W.findIn K (.ref (He.ga K "BitRow")) "__class__") (some (some (.builtin "object.__class__"))) && (He.eqO (PySem.W.specialIn K (.builtin "object.__class__") "__get__") (some (some (.builtin "getset_descriptor.__get__"))) && (decide (PySem.W.takesIn K (.builtin "object.__class__") = some true) && decide (PySem.W.mroIn K (He.ga K "BitRow") (.type "object") = some true)))),
  fun K => decide (PySem.W.kitOne K (.ref (He.ga K "BitRow")) (.ref (He.ga K "Way")) = some false),
  fun K => (He.eqO (PySem.W.findIn K (.ref (He.ga K "BitReader")) "__class__") (some (some (.builtin "object.__class__"))) && (He.eqO (PySem.W.specialIn K (.builtin "object.__class__") "__get__") (some (some (.builtin "getset_descriptor.__get__"))) && (decide (PySem.W.takesIn K (.builtin "object.__class__") = some true) && decide (PySem.W.mroIn K (He.ga K "BitReader") (.type "object") = some true)))),
  fun K => decide (PySem.W.kitOne K (.ref (He.ga K "BitReader")) (.ref (He.ga K "Way")) = some false),
  fun K => (He.eqO (PySem.W.findIn K (.ref (He.ga K "Way")) "__init__") (some (some (.builtin "object.__init__"))) && (PySem.W.makesIn K (He.ga K "Way") && PySem.W.keepIn K (.ref (He.ga K "Way")))),
  fun K => (He.eqO (PySem.W.findIn K (.ref (He.ga K "Way")) "__class__") (some (some (.builtin "object.__class__"))) && (He.eqO (PySem.W.specialIn K (.builtin "object.__class__") "__get__") (some (some (.builtin "getset_descriptor.__get__"))) && (decide (PySem.W.takesIn K (.builtin "object.__class__") = some true) && decide (PySem.W.mroIn K (He.ga K "Way") (.type "object") = some true)))),
  fun K => decide (PySem.W.kitOne K (.ref (He.ga K "Way")) (.ref (He.ga K "Way")) = some true),
  fun K => (He.eqO (PySem.W.findIn K (.ref (He.ga K "RawWay")) "__init__") (some (some (.builtin "object.__init__"))) && (PySem.W.makesIn K (He.ga K "RawWay") && PySem.W.keepIn K (.ref (He.ga K "RawWay")))),
  fun K => (He.eqO (PySem.W.findIn K (.ref (He.ga K "RawWay")) "__class__") (some (some (.builtin "object.__class__"))) && (He.eqO (PySem.W.specialIn K (.builtin "object.__class__") "__get__") (some (some (.builtin "getset_descriptor.__get__"))) && (decide (PySem.W.takesIn K (.builtin "object.__class__") = some true) && decide (PySem.W.mroIn K (He.ga K "RawWay") (.type "object") = some true)))),
  fun K => decide (PySem.W.kitOne K (.ref (He.ga K "RawWay")) (.ref (He.ga K "Way")) = some true),
  fun K => decide (He.ma K (He.ga K "RawWay") "cost" = He.ma K (He.ga K "Way") "cost"),
  fun K => (He.eqO (PySem.W.findIn K (.ref (He.ga K "RunWay")) "__init__") (some (some (.builtin "object.__init__"))) && (PySem.W.makesIn K (He.ga K "RunWay") && PySem.W.keepIn K (.ref (He.ga K "RunWay")))),
  fun K => (He.eqO (PySem.W.findIn K (.ref (He.ga K "RunWay")) "__class__") (some (some (.builtin "object.__class__"))) && (He.eqO (PySem.W.specialIn K (.builtin "object.__class__") "__get__") (some (some (.builtin "getset_descriptor.__get__"))) && (decide (PySem.W.takesIn K (.builtin "object.__class__") = some true) && decide (PySem.W.mroIn K (He.ga K "RunWay") (.type "object") = some true)))),
  fun K => decide (PySem.W.kitOne K (.ref (He.ga K "RunWay")) (.ref (He.ga K "Way")) = some true),
  fun K => decide (He.ma K (He.ga K "RunWay") "cost" = He.ma K (He.ga K "Way") "cost")]
def ex (K : PySem.W.Frag) : Bool := exs.all fun e => e K
theorem ex_at {K : PySem.W.Frag} (h : ex K = true) (i : Nat) {e : PySem.W.Frag → Bool} (he : exs[i]? = some e := by rfl) : e K = true := List.all_eq_true.mp h e (List.mem_of_getElem? he)
abbrev hk : PySem.W.Hook := He.hookX 6 fa fn [] [] ex
def ob (s : PySem.W.SharedT) : He.AlX := He.obsX 6 fa fn [] [] ex (HandSHeadRun.getT s)
theorem ob_eq (s : PySem.W.SharedT) : ob s = hk.obs s.abs := He.obsX_eq (HandSHeadRun.getT_eq s)
def loose0 : List PySem.Str := ["_wall", "PressError", "ValueError", "BadRow", "BadBits", "NoBits", "BadBody", "MOST_BYTE", "is_byte", "is_row", "need_row", "BYTE", "MOST_SIZE", "is_number", "need_size", "BitRow", "BitReader", "MOST_SIGNS", "MOST_WINDOW", "need_text", "need_window", "runs_of", "Way", "RawWay", "RunWay", "_law_cell_at", "_law_drawn", "_law_signs", "_law_text_by", "_law_digits"]
def loose1 : List PySem.Str := ["_law_row_of", "_law_runs", "_law_told", "_law_read"]
abbrev loose : List PySem.Str := loose0 ++ loose1
theorem run (w : World) : HandSHeadRun.RunEq R (PySem.W.view R.prog [38]) hk ob 40000 loose w := by
  intro os
  kernel_rfl
end L2.BH
namespace L2.BW
open PySem PySem.Spec PyProof.Rows L2.BP L2.BR L2.BH
structure Tx (K : PySem.W.Frag) (mg : Str → Option Value) : Prop where
  g__wall : mg "_wall" = some (.ref (He.ga K "_wall"))
  g_PressError : mg "PressError" = some (.ref (He.ga K "PressError"))
  x_PressError : PySem.W.excIn K (He.ga K "PressError") He.veBase "ValueError.__new__" = true ∧ PySem.W.keepIn K (.ref (He.ga K "PressError")) = true ∧ PySem.W.subIn K (.ref (He.ga K "PressError")) (.type "BaseException") = some true ∧ PySem.W.typeIn K (.ref (He.ga K "PressError")) = some (.type "type")
  g_BadRow : mg "BadRow" = some (.ref (He.ga K "BadRow"))
  x_BadRow : PySem.W.excIn K (He.ga K "BadRow") He.veBase "ValueError.__new__" = true ∧ PySem.W.keepIn K (.ref (He.ga K "BadRow")) = true ∧ PySem.W.subIn K (.ref (He.ga K "BadRow")) (.type "BaseException") = some true ∧ PySem.W.typeIn K (.ref (He.ga K "BadRow")) = some (.type "type")
  g_BadBits : mg "BadBits" = some (.ref (He.ga K "BadBits"))
  x_BadBits : PySem.W.excIn K (He.ga K "BadBits") He.veBase "ValueError.__new__" = true ∧ PySem.W.keepIn K (.ref (He.ga K "BadBits")) = true ∧ PySem.W.subIn K (.ref (He.ga K "BadBits")) (.type "BaseException") = some true ∧ PySem.W.typeIn K (.ref (He.ga K "BadBits")) = some (.type "type")
  g_NoBits : mg "NoBits" = some (.ref (He.ga K "NoBits"))
  x_NoBits : PySem.W.excIn K (He.ga K "NoBits") He.veBase "ValueError.__new__" = true ∧ PySem.W.keepIn K (.ref (He.ga K "NoBits")) = true ∧ PySem.W.subIn K (.ref (He.ga K "NoBits")) (.type "BaseException") = some true ∧ PySem.W.typeIn K (.ref (He.ga K "NoBits")) = some (.type "type")
  g_BadBody : mg "BadBody" = some (.ref (He.ga K "BadBody"))
  x_BadBody : PySem.W.excIn K (He.ga K "BadBody") He.veBase "ValueError.__new__" = true ∧ PySem.W.keepIn K (.ref (He.ga K "BadBody")) = true ∧ PySem.W.subIn K (.ref (He.ga K "BadBody")) (.type "BaseException") = some true ∧ PySem.W.typeIn K (.ref (He.ga K "BadBody")) = some (.type "type")
  g_MOST_BYTE : ∃ t, mg "MOST_BYTE" = some (.int 255 t)
  g_is_byte : mg "is_byte" = some (.ref (He.ga K "is_byte"))
  g_is_row : mg "is_row" = some (.ref (He.ga K "is_row"))
  g_need_row : mg "need_row" = some (.ref (He.ga K "need_row"))
  g_BYTE : ∃ t, mg "BYTE" = some (.int 8 t)
  g_MOST_SIZE : ∃ t, mg "MOST_SIZE" = some (.int 24 t)
  g_is_number : mg "is_number" = some (.ref (He.ga K "is_number"))
  g_need_size : mg "need_size" = some (.ref (He.ga K "need_size"))
  g_BitRow : mg "BitRow" = some (.ref (He.ga K "BitRow"))
  c_BitRow : Cls K (He.ga K "BitRow")
  n_BitRow_full : NoAttr K (He.ga K "BitRow") "full"
  n_BitRow_part : NoAttr K (He.ga K "BitRow") "part"
  n_BitRow_filled : NoAttr K (He.ga K "BitRow") "filled"
  m_BitRow___init__ : Meth K (He.ga K "BitRow") "__init__" (He.ma K (He.ga K "BitRow") "__init__")
  m_BitRow_put : Meth K (He.ga K "BitRow") "put" (He.ma K (He.ga K "BitRow") "put")
  m_BitRow_many : Meth K (He.ga K "BitRow") "many" (He.ma K (He.ga K "BitRow") "many")
  m_BitRow_row : Meth K (He.ga K "BitRow") "row" (He.ma K (He.ga K "BitRow") "row")
  k_BitRow : Mk K (He.ga K "BitRow") (He.ma K (He.ga K "BitRow") "__init__")
  g_BitReader : mg "BitReader" = some (.ref (He.ga K "BitReader"))
  c_BitReader : Cls K (He.ga K "BitReader")
  n_BitReader_source : NoAttr K (He.ga K "BitReader") "source"
  n_BitReader_taken : NoAttr K (He.ga K "BitReader") "taken"
  m_BitReader___init__ : Meth K (He.ga K "BitReader") "__init__" (He.ma K (He.ga K "BitReader") "__init__")
  m_BitReader_left : Meth K (He.ga K "BitReader") "left" (He.ma K (He.ga K "BitReader") "left")
  m_BitReader_place : Meth K (He.ga K "BitReader") "place" (He.ma K (He.ga K "BitReader") "place")
  m_BitReader_go : Meth K (He.ga K "BitReader") "go" (He.ma K (He.ga K "BitReader") "go")
  m_BitReader_take : Meth K (He.ga K "BitReader") "take" (He.ma K (He.ga K "BitReader") "take")
  m_BitReader_at_end : Meth K (He.ga K "BitReader") "at_end" (He.ma K (He.ga K "BitReader") "at_end")
  k_BitReader : Mk K (He.ga K "BitReader") (He.ma K (He.ga K "BitReader") "__init__")
  g_MOST_SIGNS : ∃ t, mg "MOST_SIGNS" = some (.int 64 t)
  g_MOST_WINDOW : ∃ t, mg "MOST_WINDOW" = some (.int 192 t)
  g_need_text : mg "need_text" = some (.ref (He.ga K "need_text"))
  g_need_window : mg "need_window" = some (.ref (He.ga K "need_window"))
  g_runs_of : mg "runs_of" = some (.ref (He.ga K "runs_of"))
  g_Way : mg "Way" = some (.ref (He.ga K "Way"))
  c_Way : Cls K (He.ga K "Way")
  m_Way_number : Meth K (He.ga K "Way") "number" (He.ma K (He.ga K "Way") "number")
  m_Way_tell : Meth K (He.ga K "Way") "tell" (He.ma K (He.ga K "Way") "tell")
  m_Way_read : Meth K (He.ga K "Way") "read" (He.ma K (He.ga K "Way") "read")
  m_Way_cost : Meth K (He.ga K "Way") "cost" (He.ma K (He.ga K "Way") "cost")
  g_RawWay : mg "RawWay" = some (.ref (He.ga K "RawWay"))
  c_RawWay : Cls K (He.ga K "RawWay")
  m_RawWay_number : Meth K (He.ga K "RawWay") "number" (He.ma K (He.ga K "RawWay") "number")
  m_RawWay_tell : Meth K (He.ga K "RawWay") "tell" (He.ma K (He.ga K "RawWay") "tell")
  m_RawWay_read : Meth K (He.ga K "RawWay") "read" (He.ma K (He.ga K "RawWay") "read")
  m_RawWay_cost : Meth K (He.ga K "RawWay") "cost" (He.ma K (He.ga K "Way") "cost")
  g_RunWay : mg "RunWay" = some (.ref (He.ga K "RunWay"))
  c_RunWay : Cls K (He.ga K "RunWay")
  m_RunWay_number : Meth K (He.ga K "RunWay") "number" (He.ma K (He.ga K "RunWay") "number")
  m_RunWay_tell : Meth K (He.ga K "RunWay") "tell" (He.ma K (He.ga K "RunWay") "tell")
  m_RunWay_read : Meth K (He.ga K "RunWay") "read" (He.ma K (He.ga K "RunWay") "read")
  m_RunWay_cost : Meth K (He.ga K "RunWay") "cost" (He.ma K (He.ga K "Way") "cost")
  g__law_cell_at : mg "_law_cell_at" = some (.ref (He.ga K "_law_cell_at"))
  g__law_drawn : mg "_law_drawn" = some (.ref (He.ga K "_law_drawn"))
  g__law_signs : mg "_law_signs" = some (.ref (He.ga K "_law_signs"))
  g__law_text_by : mg "_law_text_by" = some (.ref (He.ga K "_law_text_by"))
  g__law_digits : mg "_law_digits" = some (.ref (He.ga K "_law_digits"))
  g__law_row_of : mg "_law_row_of" = some (.ref (He.ga K "_law_row_of"))
  g__law_runs : mg "_law_runs" = some (.ref (He.ga K "_law_runs"))
  g__law_told : mg "_law_told" = some (.ref (He.ga K "_law_told"))
  g__law_read : mg "_law_read" = some (.ref (He.ga K "_law_read"))
  g_law : mg "law" = some (.ref (He.ga K "law"))
  f_all : mg "all" = none
  f_bool : mg "bool" = none
  f_divmod : mg "divmod" = none
  f_int : mg "int" = none
  f_isinstance : mg "isinstance" = none
  f_len : mg "len" = none
  f_list : mg "list" = none
  f_max : mg "max" = none
  f_range : mg "range" = none
  f_ValueError : mg "ValueError" = none
  i_BitRow : L2.BP.InsC K (He.ga K "BitRow")
  s_BitRow_Way : PySem.W.kitOne K (.ref (He.ga K "BitRow")) (.ref (He.ga K "Way")) = some false
  i_BitReader : L2.BP.InsC K (He.ga K "BitReader")
  s_BitReader_Way : PySem.W.kitOne K (.ref (He.ga K "BitReader")) (.ref (He.ga K "Way")) = some false
  z_Way : L2.BP.Mk0 K (He.ga K "Way")
  i_Way : L2.BP.InsC K (He.ga K "Way")
  s_Way_Way : PySem.W.kitOne K (.ref (He.ga K "Way")) (.ref (He.ga K "Way")) = some true
  z_RawWay : L2.BP.Mk0 K (He.ga K "RawWay")
  i_RawWay : L2.BP.InsC K (He.ga K "RawWay")
  s_RawWay_Way : PySem.W.kitOne K (.ref (He.ga K "RawWay")) (.ref (He.ga K "Way")) = some true
  z_RunWay : L2.BP.Mk0 K (He.ga K "RunWay")
  i_RunWay : L2.BP.InsC K (He.ga K "RunWay")
  s_RunWay_Way : PySem.W.kitOne K (.ref (He.ga K "RunWay")) (.ref (He.ga K "Way")) = some true
  d__law_cell_at : ∃ fd, FunD K d__law_cell_at.name d__law_cell_at.qual d__law_cell_at.params d__law_cell_at.body d__law_cell_at.scope (d__law_cell_at.dvs K) (d__law_cell_at.kws K) (He.fAd K d__law_cell_at.at_) fd
  d__law_drawn : ∃ fd, FunD K d__law_drawn.name d__law_drawn.qual d__law_drawn.params d__law_drawn.body d__law_drawn.scope (d__law_drawn.dvs K) (d__law_drawn.kws K) (He.fAd K d__law_drawn.at_) fd
  d__law_signs : ∃ fd, FunD K d__law_signs.name d__law_signs.qual d__law_signs.params d__law_signs.body d__law_signs.scope (d__law_signs.dvs K) (d__law_signs.kws K) (He.fAd K d__law_signs.at_) fd
  d__law_text_by : ∃ fd, FunD K d__law_text_by.name d__law_text_by.qual d__law_text_by.params d__law_text_by.body d__law_text_by.scope (d__law_text_by.dvs K) (d__law_text_by.kws K) (He.fAd K d__law_text_by.at_) fd
  d_Way_number : ∃ fd, FunD K d_Way_number.name d_Way_number.qual d_Way_number.params d_Way_number.body d_Way_number.scope (d_Way_number.dvs K) (d_Way_number.kws K) (He.fAd K d_Way_number.at_) fd
  d_RawWay_number : ∃ fd, FunD K d_RawWay_number.name d_RawWay_number.qual d_RawWay_number.params d_RawWay_number.body d_RawWay_number.scope (d_RawWay_number.dvs K) (d_RawWay_number.kws K) (He.fAd K d_RawWay_number.at_) fd
  d_RunWay_number : ∃ fd, FunD K d_RunWay_number.name d_RunWay_number.qual d_RunWay_number.params d_RunWay_number.body d_RunWay_number.scope (d_RunWay_number.dvs K) (d_RunWay_number.kws K) (He.fAd K d_RunWay_number.at_) fd
  d__law_digits : ∃ fd, FunD K d__law_digits.name d__law_digits.qual d__law_digits.params d__law_digits.body d__law_digits.scope (d__law_digits.dvs K) (d__law_digits.kws K) (He.fAd K d__law_digits.at_) fd
  d__law_runs : ∃ fd, FunD K d__law_runs.name d__law_runs.qual d__law_runs.params d__law_runs.body d__law_runs.scope (d__law_runs.dvs K) (d__law_runs.kws K) (He.fAd K d__law_runs.at_) fd
  d_BitRow___init__ : ∃ fd, FunD K d_BitRow___init__.name d_BitRow___init__.qual d_BitRow___init__.params d_BitRow___init__.body d_BitRow___init__.scope (d_BitRow___init__.dvs K) (d_BitRow___init__.kws K) (He.fAd K d_BitRow___init__.at_) fd
  d_is_byte : ∃ fd, FunD K d_is_byte.name d_is_byte.qual d_is_byte.params d_is_byte.body d_is_byte.scope (d_is_byte.dvs K) (d_is_byte.kws K) (He.fAd K d_is_byte.at_) fd
  d_is_row : ∃ fd, FunD K d_is_row.name d_is_row.qual d_is_row.params d_is_row.body d_is_row.scope (d_is_row.dvs K) (d_is_row.kws K) (He.fAd K d_is_row.at_) fd
  d_need_row : ∃ fd, FunD K d_need_row.name d_need_row.qual d_need_row.params d_need_row.body d_need_row.scope (d_need_row.dvs K) (d_need_row.kws K) (He.fAd K d_need_row.at_) fd
  d_need_text : ∃ fd, FunD K d_need_text.name d_need_text.qual d_need_text.params d_need_text.body d_need_text.scope (d_need_text.dvs K) (d_need_text.kws K) (He.fAd K d_need_text.at_) fd
  d_need_window : ∃ fd, FunD K d_need_window.name d_need_window.qual d_need_window.params d_need_window.body d_need_window.scope (d_need_window.dvs K) (d_need_window.kws K) (He.fAd K d_need_window.at_) fd
  d_Way_tell : ∃ fd, FunD K d_Way_tell.name d_Way_tell.qual d_Way_tell.params d_Way_tell.body d_Way_tell.scope (d_Way_tell.dvs K) (d_Way_tell.kws K) (He.fAd K d_Way_tell.at_) fd
  d_is_number : ∃ fd, FunD K d_is_number.name d_is_number.qual d_is_number.params d_is_number.body d_is_number.scope (d_is_number.dvs K) (d_is_number.kws K) (He.fAd K d_is_number.at_) fd
  d_need_size : ∃ fd, FunD K d_need_size.name d_need_size.qual d_need_size.params d_need_size.body d_need_size.scope (d_need_size.dvs K) (d_need_size.kws K) (He.fAd K d_need_size.at_) fd
  d_BitRow_put : ∃ fd, FunD K d_BitRow_put.name d_BitRow_put.qual d_BitRow_put.params d_BitRow_put.body d_BitRow_put.scope (d_BitRow_put.dvs K) (d_BitRow_put.kws K) (He.fAd K d_BitRow_put.at_) fd
  d_RawWay_tell : ∃ fd, FunD K d_RawWay_tell.name d_RawWay_tell.qual d_RawWay_tell.params d_RawWay_tell.body d_RawWay_tell.scope (d_RawWay_tell.dvs K) (d_RawWay_tell.kws K) (He.fAd K d_RawWay_tell.at_) fd
  d_runs_of : ∃ fd, FunD K d_runs_of.name d_runs_of.qual d_runs_of.params d_runs_of.body d_runs_of.scope (d_runs_of.dvs K) (d_runs_of.kws K) (He.fAd K d_runs_of.at_) fd
  d_RunWay_tell : ∃ fd, FunD K d_RunWay_tell.name d_RunWay_tell.qual d_RunWay_tell.params d_RunWay_tell.body d_RunWay_tell.scope (d_RunWay_tell.dvs K) (d_RunWay_tell.kws K) (He.fAd K d_RunWay_tell.at_) fd
  d_BitRow_many : ∃ fd, FunD K d_BitRow_many.name d_BitRow_many.qual d_BitRow_many.params d_BitRow_many.body d_BitRow_many.scope (d_BitRow_many.dvs K) (d_BitRow_many.kws K) (He.fAd K d_BitRow_many.at_) fd
  d_Way_cost : ∃ fd, FunD K d_Way_cost.name d_Way_cost.qual d_Way_cost.params d_Way_cost.body d_Way_cost.scope (d_Way_cost.dvs K) (d_Way_cost.kws K) (He.fAd K d_Way_cost.at_) fd
  d_BitRow_row : ∃ fd, FunD K d_BitRow_row.name d_BitRow_row.qual d_BitRow_row.params d_BitRow_row.body d_BitRow_row.scope (d_BitRow_row.dvs K) (d_BitRow_row.kws K) (He.fAd K d_BitRow_row.at_) fd
  d__law_row_of : ∃ fd, FunD K d__law_row_of.name d__law_row_of.qual d__law_row_of.params d__law_row_of.body d__law_row_of.scope (d__law_row_of.dvs K) (d__law_row_of.kws K) (He.fAd K d__law_row_of.at_) fd
  d__law_told : ∃ fd, FunD K d__law_told.name d__law_told.qual d__law_told.params d__law_told.body d__law_told.scope (d__law_told.dvs K) (d__law_told.kws K) (He.fAd K d__law_told.at_) fd
  d_BitReader___init__ : ∃ fd, FunD K d_BitReader___init__.name d_BitReader___init__.qual d_BitReader___init__.params d_BitReader___init__.body d_BitReader___init__.scope (d_BitReader___init__.dvs K) (d_BitReader___init__.kws K) (He.fAd K d_BitReader___init__.at_) fd
  d_BitReader_left : ∃ fd, FunD K d_BitReader_left.name d_BitReader_left.qual d_BitReader_left.params d_BitReader_left.body d_BitReader_left.scope (d_BitReader_left.dvs K) (d_BitReader_left.kws K) (He.fAd K d_BitReader_left.at_) fd
  d_BitReader_take : ∃ fd, FunD K d_BitReader_take.name d_BitReader_take.qual d_BitReader_take.params d_BitReader_take.body d_BitReader_take.scope (d_BitReader_take.dvs K) (d_BitReader_take.kws K) (He.fAd K d_BitReader_take.at_) fd
  d_Way_read : ∃ fd, FunD K d_Way_read.name d_Way_read.qual d_Way_read.params d_Way_read.body d_Way_read.scope (d_Way_read.dvs K) (d_Way_read.kws K) (He.fAd K d_Way_read.at_) fd
  d_RawWay_read : ∃ fd, FunD K d_RawWay_read.name d_RawWay_read.qual d_RawWay_read.params d_RawWay_read.body d_RawWay_read.scope (d_RawWay_read.dvs K) (d_RawWay_read.kws K) (He.fAd K d_RawWay_read.at_) fd
  d_RunWay_read : ∃ fd, FunD K d_RunWay_read.name d_RunWay_read.qual d_RunWay_read.params d_RunWay_read.body d_RunWay_read.scope (d_RunWay_read.dvs K) (d_RunWay_read.kws K) (He.fAd K d_RunWay_read.at_) fd
  d_BitReader_place : ∃ fd, FunD K d_BitReader_place.name d_BitReader_place.qual d_BitReader_place.params d_BitReader_place.body d_BitReader_place.scope (d_BitReader_place.dvs K) (d_BitReader_place.kws K) (He.fAd K d_BitReader_place.at_) fd
  d__law_read : ∃ fd, FunD K d__law_read.name d__law_read.qual d__law_read.params d__law_read.body d__law_read.scope (d__law_read.dvs K) (d__law_read.kws K) (He.fAd K d__law_read.at_) fd
  d_law : ∃ fd, FunD K d_law.name d_law.qual d_law.params d_law.body d_law.scope (d_law.dvs K) (d_law.kws K) (He.fAd K d_law.at_) fd
theorem tx_of {K : PySem.W.Frag} {h : Heap} {mg : Str → Option Value} (X : K.In h) (G : h.Ns mainGlobals mg) (c : He.SaysD fa fn K) (ce : ex K = true) : Tx K mg where
  g__wall := He.glo_ok X G (c.fact 0 (f := .glo "_wall") rfl)
  g_PressError := He.glo_ok X G (c.fact 1 (f := .glo "PressError") rfl)
  x_PressError := He.exc_ok (c.fact 2 (f := .exc "PressError") rfl)
  g_BadRow := He.glo_ok X G (c.fact 3 (f := .glo "BadRow") rfl)
  x_BadRow := He.exc_ok (c.fact 4 (f := .exc "BadRow") rfl)
  g_BadBits := He.glo_ok X G (c.fact 5 (f := .glo "BadBits") rfl)
  x_BadBits := He.exc_ok (c.fact 6 (f := .exc "BadBits") rfl)
  g_NoBits := He.glo_ok X G (c.fact 7 (f := .glo "NoBits") rfl)
  x_NoBits := He.exc_ok (c.fact 8 (f := .exc "NoBits") rfl)
  g_BadBody := He.glo_ok X G (c.fact 9 (f := .glo "BadBody") rfl)
  x_BadBody := He.exc_ok (c.fact 10 (f := .exc "BadBody") rfl)
  g_MOST_BYTE := He.int_ok X G (c.fact 11 (f := .int "MOST_BYTE" 255) rfl)
  g_is_byte := He.glo_ok X G (c.fact 12 (f := .glo "is_byte") rfl)
  g_is_row := He.glo_ok X G (c.fact 13 (f := .glo "is_row") rfl)
  g_need_row := He.glo_ok X G (c.fact 14 (f := .glo "need_row") rfl)
  g_BYTE := He.int_ok X G (c.fact 15 (f := .int "BYTE" 8) rfl)
  g_MOST_SIZE := He.int_ok X G (c.fact 16 (f := .int "MOST_SIZE" 24) rfl)
  g_is_number := He.glo_ok X G (c.fact 17 (f := .glo "is_number") rfl)
  g_need_size := He.glo_ok X G (c.fact 18 (f := .glo "need_size") rfl)
  g_BitRow := He.glo_ok X G (c.fact 19 (f := .glo "BitRow") rfl)
  c_BitRow := He.cls_ok (c.fact 20 (f := .cls "BitRow") rfl)
  n_BitRow_full := He.noat_ok (c.fact 21 (f := .noat "BitRow" "full") rfl)
  n_BitRow_part := He.noat_ok (c.fact 22 (f := .noat "BitRow" "part") rfl)
  n_BitRow_filled := He.noat_ok (c.fact 23 (f := .noat "BitRow" "filled") rfl)
  m_BitRow___init__ := He.meth_ok (c.fact 24 (f := .meth "BitRow" "__init__") rfl)
  m_BitRow_put := He.meth_ok (c.fact 25 (f := .meth "BitRow" "put") rfl)
  m_BitRow_many := He.meth_ok (c.fact 26 (f := .meth "BitRow" "many") rfl)
  m_BitRow_row := He.meth_ok (c.fact 27 (f := .meth "BitRow" "row") rfl)
  k_BitRow := He.mkr_ok (c.fact 28 (f := .mkr "BitRow") rfl)
  g_BitReader := He.glo_ok X G (c.fact 29 (f := .glo "BitReader") rfl)
  c_BitReader := He.cls_ok (c.fact 30 (f := .cls "BitReader") rfl)
  n_BitReader_source := He.noat_ok (c.fact 31 (f := .noat "BitReader" "source") rfl)
  n_BitReader_taken := He.noat_ok (c.fact 32 (f := .noat "BitReader" "taken") rfl)
  m_BitReader___init__ := He.meth_ok (c.fact 33 (f := .meth "BitReader" "__init__") rfl)
  m_BitReader_left := He.meth_ok (c.fact 34 (f := .meth "BitReader" "left") rfl)
  m_BitReader_place := He.meth_ok (c.fact 35 (f := .meth "BitReader" "place") rfl)
  m_BitReader_go := He.meth_ok (c.fact 36 (f := .meth "BitReader" "go") rfl)
  m_BitReader_take := He.meth_ok (c.fact 37 (f := .meth "BitReader" "take") rfl)
  m_BitReader_at_end := He.meth_ok (c.fact 38 (f := .meth "BitReader" "at_end") rfl)
  k_BitReader := He.mkr_ok (c.fact 39 (f := .mkr "BitReader") rfl)
  g_MOST_SIGNS := He.int_ok X G (c.fact 40 (f := .int "MOST_SIGNS" 64) rfl)
  g_MOST_WINDOW := He.int_ok X G (c.fact 41 (f := .int "MOST_WINDOW" 192) rfl)
  g_need_text := He.glo_ok X G (c.fact 42 (f := .glo "need_text") rfl)
  g_need_window := He.glo_ok X G (c.fact 43 (f := .glo "need_window") rfl)
  g_runs_of := He.glo_ok X G (c.fact 44 (f := .glo "runs_of") rfl)
  g_Way := He.glo_ok X G (c.fact 45 (f := .glo "Way") rfl)
  c_Way := He.cls_ok (c.fact 46 (f := .cls "Way") rfl)
  m_Way_number := He.meth_ok (c.fact 47 (f := .meth "Way" "number") rfl)
  m_Way_tell := He.meth_ok (c.fact 48 (f := .meth "Way" "tell") rfl)
  m_Way_read := He.meth_ok (c.fact 49 (f := .meth "Way" "read") rfl)
  m_Way_cost := He.meth_ok (c.fact 50 (f := .meth "Way" "cost") rfl)
  g_RawWay := He.glo_ok X G (c.fact 51 (f := .glo "RawWay") rfl)
  c_RawWay := He.cls_ok (c.fact 52 (f := .cls "RawWay") rfl)
  m_RawWay_number := He.meth_ok (c.fact 53 (f := .meth "RawWay" "number") rfl)
  m_RawWay_tell := He.meth_ok (c.fact 54 (f := .meth "RawWay" "tell") rfl)
  m_RawWay_read := He.meth_ok (c.fact 55 (f := .meth "RawWay" "read") rfl)
  m_RawWay_cost := (by have e : He.ma K (He.ga K "RawWay") "cost" = He.ma K (He.ga K "Way") "cost" := (by have h := ex_at ce 10; exact of_decide_eq_true h); rw [← e]; exact He.meth_ok (c.fact 56 (f := .meth "RawWay" "cost") rfl))
  g_RunWay := He.glo_ok X G (c.fact 57 (f := .glo "RunWay") rfl)
  c_RunWay := He.cls_ok (c.fact 58 (f := .cls "RunWay") rfl)
  m_RunWay_number := He.meth_ok (c.fact 59 (f := .meth "RunWay" "number") rfl)
  m_RunWay_tell := He.meth_ok (c.fact 60 (f := .meth "RunWay" "tell") rfl)
  m_RunWay_read := He.meth_ok (c.fact 61 (f := .meth "RunWay" "read") rfl)
  m_RunWay_cost := (by have e : He.ma K (He.ga K "RunWay") "cost" = He.ma K (He.ga K "Way") "cost" := (by have h := ex_at ce 14; exact of_decide_eq_true h); rw [← e]; exact He.meth_ok (c.fact 62 (f := .meth "RunWay" "cost") rfl))
  g__law_cell_at := He.glo_ok X G (c.fact 63 (f := .glo "_law_cell_at") rfl)
  g__law_drawn := He.glo_ok X G (c.fact 64 (f := .glo "_law_drawn") rfl)
  g__law_signs := He.glo_ok X G (c.fact 65 (f := .glo "_law_signs") rfl)
  g__law_text_by := He.glo_ok X G (c.fact 66 (f := .glo "_law_text_by") rfl)
  g__law_digits := He.glo_ok X G (c.fact 67 (f := .glo "_law_digits") rfl)
  g__law_row_of := He.glo_ok X G (c.fact 68 (f := .glo "_law_row_of") rfl)
  g__law_runs := He.glo_ok X G (c.fact 69 (f := .glo "_law_runs") rfl)
  g__law_told := He.glo_ok X G (c.fact 70 (f := .glo "_law_told") rfl)
  g__law_read := He.glo_ok X G (c.fact 71 (f := .glo "_law_read") rfl)
  g_law := He.glo_ok X G (c.fact 72 (f := .glo "law") rfl)
  f_all := He.free_ok X G (c.fact 73 (f := .free "all") rfl)
  f_bool := He.free_ok X G (c.fact 74 (f := .free "bool") rfl)
  f_divmod := He.free_ok X G (c.fact 75 (f := .free "divmod") rfl)
  f_int := He.free_ok X G (c.fact 76 (f := .free "int") rfl)
  f_isinstance := He.free_ok X G (c.fact 77 (f := .free "isinstance") rfl)
  f_len := He.free_ok X G (c.fact 78 (f := .free "len") rfl)
  f_list := He.free_ok X G (c.fact 79 (f := .free "list") rfl)
  f_max := He.free_ok X G (c.fact 80 (f := .free "max") rfl)
  f_range := He.free_ok X G (c.fact 81 (f := .free "range") rfl)
  f_ValueError := He.free_ok X G (c.fact 82 (f := .free "ValueError") rfl)
  i_BitRow := by have h := ex_at ce 0; have z := He.ba h; have z2 := He.ba z.2; have z3 := He.ba z2.2; exact ⟨He.eqO_ok z.1, He.eqO_ok z2.1, of_decide_eq_true z3.1, of_decide_eq_true z3.2⟩
  s_BitRow_Way := by have h := ex_at ce 1; exact of_decide_eq_true h
  i_BitReader := by have h := ex_at ce 2; have z := He.ba h; have z2 := He.ba z.2; have z3 := He.ba z2.2; exact ⟨He.eqO_ok z.1, He.eqO_ok z2.1, of_decide_eq_true z3.1, of_decide_eq_true z3.2⟩
  s_BitReader_Way := by have h := ex_at ce 3; exact of_decide_eq_true h
  z_Way := by have h := ex_at ce 4; have z := He.ba h; have z2 := He.ba z.2; exact ⟨z2.1, He.eqO_ok z.1, z2.2⟩
  i_Way := by have h := ex_at ce 5; have z := He.ba h; have z2 := He.ba z.2; have z3 := He.ba z2.2; exact ⟨He.eqO_ok z.1, He.eqO_ok z2.1, of_decide_eq_true z3.1, of_decide_eq_true z3.2⟩
  s_Way_Way := by have h := ex_at ce 6; exact of_decide_eq_true h
  z_RawWay := by have h := ex_at ce 7; have z := He.ba h; have z2 := He.ba z.2; exact ⟨z2.1, He.eqO_ok z.1, z2.2⟩
  i_RawWay := by have h := ex_at ce 8; have z := He.ba h; have z2 := He.ba z.2; have z3 := He.ba z2.2; exact ⟨He.eqO_ok z.1, He.eqO_ok z2.1, of_decide_eq_true z3.1, of_decide_eq_true z3.2⟩
  s_RawWay_Way := by have h := ex_at ce 9; exact of_decide_eq_true h
  z_RunWay := by have h := ex_at ce 11; have z := He.ba h; have z2 := He.ba z.2; exact ⟨z2.1, He.eqO_ok z.1, z2.2⟩
  i_RunWay := by have h := ex_at ce 12; have z := He.ba h; have z2 := He.ba z.2; have z3 := He.ba z2.2; exact ⟨He.eqO_ok z.1, He.eqO_ok z2.1, of_decide_eq_true z3.1, of_decide_eq_true z3.2⟩
  s_RunWay_Way := by have h := ex_at ce 13; exact of_decide_eq_true h
  d__law_cell_at := c.def_ 29 (d := d__law_cell_at) rfl
  d__law_drawn := c.def_ 30 (d := d__law_drawn) rfl
  d__law_signs := c.def_ 31 (d := d__law_signs) rfl
  d__law_text_by := c.def_ 32 (d := d__law_text_by) rfl
  d_Way_number := c.def_ 19 (d := d_Way_number) rfl
  d_RawWay_number := c.def_ 23 (d := d_RawWay_number) rfl
  d_RunWay_number := c.def_ 26 (d := d_RunWay_number) rfl
  d__law_digits := c.def_ 33 (d := d__law_digits) rfl
  d__law_runs := c.def_ 35 (d := d__law_runs) rfl
  d_BitRow___init__ := c.def_ 6 (d := d_BitRow___init__) rfl
  d_is_byte := c.def_ 1 (d := d_is_byte) rfl
  d_is_row := c.def_ 2 (d := d_is_row) rfl
  d_need_row := c.def_ 3 (d := d_need_row) rfl
  d_need_text := c.def_ 16 (d := d_need_text) rfl
  d_need_window := c.def_ 17 (d := d_need_window) rfl
  d_Way_tell := c.def_ 20 (d := d_Way_tell) rfl
  d_is_number := c.def_ 4 (d := d_is_number) rfl
  d_need_size := c.def_ 5 (d := d_need_size) rfl
  d_BitRow_put := c.def_ 7 (d := d_BitRow_put) rfl
  d_RawWay_tell := c.def_ 24 (d := d_RawWay_tell) rfl
  d_runs_of := c.def_ 18 (d := d_runs_of) rfl
  d_RunWay_tell := c.def_ 27 (d := d_RunWay_tell) rfl
  d_BitRow_many := c.def_ 8 (d := d_BitRow_many) rfl
  d_Way_cost := c.def_ 22 (d := d_Way_cost) rfl
  d_BitRow_row := c.def_ 9 (d := d_BitRow_row) rfl
  d__law_row_of := c.def_ 34 (d := d__law_row_of) rfl
  d__law_told := c.def_ 36 (d := d__law_told) rfl
  d_BitReader___init__ := c.def_ 10 (d := d_BitReader___init__) rfl
  d_BitReader_left := c.def_ 11 (d := d_BitReader_left) rfl
  d_BitReader_take := c.def_ 14 (d := d_BitReader_take) rfl
  d_Way_read := c.def_ 21 (d := d_Way_read) rfl
  d_RawWay_read := c.def_ 25 (d := d_RawWay_read) rfl
  d_RunWay_read := c.def_ 28 (d := d_RunWay_read) rfl
  d_BitReader_place := c.def_ 12 (d := d_BitReader_place) rfl
  d__law_read := c.def_ 37 (d := d__law_read) rfl
  d_law := c.def_ 38 (d := d_law) rfl
theorem of_KBitRow {K : PySem.W.Frag} {mg : Str → Option Value} (T : Tx K mg) : KBitRow K := ⟨T.c_BitRow, T.n_BitRow_full, T.n_BitRow_part, T.n_BitRow_filled⟩
theorem of_KBitReader {K : PySem.W.Frag} {mg : Str → Option Value} (T : Tx K mg) : KBitReader K := ⟨T.c_BitReader, T.n_BitReader_source, T.n_BitReader_taken⟩
theorem of_KRaw {K : PySem.W.Frag} {mg : Str → Option Value} (T : Tx K mg) : KRaw K := ⟨T.c_RawWay, T.i_RawWay, T.s_RawWay_Way⟩
theorem of_KRun {K : PySem.W.Frag} {mg : Str → Option Value} (T : Tx K mg) : KRun K := ⟨T.c_RunWay, T.i_RunWay, T.s_RunWay_Way⟩
abbrev N__law_cell_at : List Str := ["_law_script", "_law_k"]
theorem sc__law_cell_at : FnScope N__law_cell_at ["_law_script", "_law_k"] (defScope s__law_cell_at) := ⟨rfl, rfl, rfl, by decide +kernel, rfl, by decide +kernel, by decide +kernel⟩
theorem wk__law_cell_at {P : Program} {w : World} {K : PySem.W.Frag} {mg : Str → Option Value} {base : Heap} (T : Tx K mg)  {f : Addr} {cdv : Value} {A : Around} {outer : List Env} {s : Shared} {H : Hp} {E : XK}
    (hr : Room 0 (A.deeper (envOfC "_law_cell_at" (defScope s__law_cell_at) s.heap.objs.size f cdv))) :
    PSs (cxOf (L2.CX P w) P w K mg base N__law_cell_at "_law_cell_at" (defScope s__law_cell_at) f cdv A outer s H E) (defBody s__law_cell_at) (t__law_cell_at K (fun c d _ H2 => E c d H2)) := by
  have hu1 := hu_of hr
  have hu64 := hr.units
  have tk : Takes (cxOf (L2.CX P w) P w K mg base N__law_cell_at "_law_cell_at" (defScope s__law_cell_at) f cdv A outer s H E) (fun c d _ H2 => E c d H2) := takes_of rfl rfl rfl rfl
  exact (pss_cons (ps_if (pt_cmpR op_ltU (pv 1) (pe_callB cr_lenK (by rfl) T.f_len bb_len (pa_cons (pv 0) pa_nil)) (nomark _)) (pss_one (ps_ret (pe_ix ix_seq (pv 0) (pv 1) (fun _ _ => rfl)))) pss_nil)
    (pss_one (ps_ret (pe_int))))
theorem fn__law_cell_at {P : Program} {w : World} {K : PySem.W.Frag} {mg : Str → Option Value} {base : Heap} (T : Tx K mg) {f : Addr} {fd : FuncData} (F : FunD K d__law_cell_at.name d__law_cell_at.qual d__law_cell_at.params d__law_cell_at.body d__law_cell_at.scope (d__law_cell_at.dvs K) (d__law_cell_at.kws K) f fd) :
    FnOk P w K mg base (L2.CX P w) 1 f fd ["_law_script", "_law_k"] (sp__law_cell_at K) :=
  F.ok sc__law_cell_at (fun vs H Q E h => len__law_cell_at h) (fun cdv A outer s H vs Q E hr h => ⟨t__law_cell_at K (fun c d _ H2 => E c d H2), wk__law_cell_at T  hr, rd__law_cell_at  h⟩)
theorem ok__law_cell_at_2 {P : Program} {w : World} {K : PySem.W.Frag} {mg : Str → Option Value} {base : Heap} (T : Tx K mg) : DOk P w K mg base 1 (He.fAd K ("_law_cell_at", none)) ["_law_script", "_law_k"] [] (sp__law_cell_at K) := by
  obtain ⟨fd, F⟩ := T.d__law_cell_at
  exact ⟨fd, [], .nil, FunD.bindsN F fun _ _ _ _ _ _ us hl => match us, hl with | [_, _], _ => rfl, fn__law_cell_at T F, F.kp⟩
abbrev N__law_drawn : List Str := ["_law_seed", "_law_k", "_law_mixed"]
theorem sc__law_drawn : FnScope N__law_drawn ["_law_seed", "_law_k"] (defScope s__law_drawn) := ⟨rfl, rfl, rfl, by decide +kernel, rfl, by decide +kernel, by decide +kernel⟩
theorem wk__law_drawn {P : Program} {w : World} {K : PySem.W.Frag} {mg : Str → Option Value} {base : Heap} (T : Tx K mg)  {f : Addr} {cdv : Value} {A : Around} {outer : List Env} {s : Shared} {H : Hp} {E : XK}
    (hr : Room 0 (A.deeper (envOfC "_law_drawn" (defScope s__law_drawn) s.heap.objs.size f cdv))) :
    PSs (cxOf (L2.CX P w) P w K mg base N__law_drawn "_law_drawn" (defScope s__law_drawn) f cdv A outer s H E) (defBody s__law_drawn) (t__law_drawn K (fun c d _ H2 => E c d H2)) := by
  have hu1 := hu_of hr
  have hu64 := hr.units
  have tk : Takes (cxOf (L2.CX P w) P w K mg base N__law_drawn "_law_drawn" (defScope s__law_drawn) f cdv A outer s H E) (fun c d _ H2 => E c d H2) := takes_of rfl rfl rfl rfl
  exact (pss_cons (ps_set (i := 2) sc__law_drawn.nd rfl (Or.inl rfl) (pe_op op_modU (pe_op op_mulU (pe_op op_addU (pe_op op_addU (pe_op op_addU (pv 0) (pe_op op_mulU (pe_op op_mulU (pe_int) (pv 1)) (pv 1))) (pe_op op_mulU (pe_int) (pv 1))) (pe_int)) (pe_int)) (pe_int)))
    (pss_one (ps_ret (pe_op op_divU (pe_op op_modU (pe_op op_mulU (pe_op op_addU (pe_op op_divU (pv 2) (pe_int)) (pv 1)) (pe_int)) (pe_int)) (pe_int)))))
theorem fn__law_drawn {P : Program} {w : World} {K : PySem.W.Frag} {mg : Str → Option Value} {base : Heap} (T : Tx K mg) {f : Addr} {fd : FuncData} (F : FunD K d__law_drawn.name d__law_drawn.qual d__law_drawn.params d__law_drawn.body d__law_drawn.scope (d__law_drawn.dvs K) (d__law_drawn.kws K) f fd) :
    FnOk P w K mg base (L2.CX P w) 1 f fd ["_law_seed", "_law_k"] (sp__law_drawn K) :=
  F.ok sc__law_drawn (fun vs H Q E h => len__law_drawn h) (fun cdv A outer s H vs Q E hr h => ⟨t__law_drawn K (fun c d _ H2 => E c d H2), wk__law_drawn T  hr, rd__law_drawn  h⟩)
theorem ok__law_drawn_2 {P : Program} {w : World} {K : PySem.W.Frag} {mg : Str → Option Value} {base : Heap} (T : Tx K mg) : DOk P w K mg base 1 (He.fAd K ("_law_drawn", none)) ["_law_seed", "_law_k"] [] (sp__law_drawn K) := by
  obtain ⟨fd, F⟩ := T.d__law_drawn
  exact ⟨fd, [], .nil, FunD.bindsN F fun _ _ _ _ _ _ us hl => match us, hl with | [_, _], _ => rfl, fn__law_drawn T F, F.kp⟩
abbrev N__law_signs : List Str := ["_law_cell", "_law_size", "_law_ahead", "_law_found", "_law_k", "_law_some", "_law_back", "_law_number", "_law_sign"]
theorem sc__law_signs : FnScope N__law_signs ["_law_cell", "_law_size", "_law_ahead"] (defScope s__law_signs) := ⟨rfl, rfl, rfl, by decide +kernel, rfl, by decide +kernel, by decide +kernel⟩
theorem wk__law_signs {P : Program} {w : World} {K : PySem.W.Frag} {mg : Str → Option Value} {base : Heap} (T : Tx K mg) (O0 : DOk P w K mg base 1 (He.fAd K ("_law_drawn", none)) ["_law_seed", "_law_k"] [] (sp__law_drawn K)) {f : Addr} {cdv : Value} {A : Around} {outer : List Env} {s : Shared} {H : Hp} {E : XK}
    (hr : Room 1 (A.deeper (envOfC "_law_signs" (defScope s__law_signs) s.heap.objs.size f cdv))) :
    PSs (cxOf (L2.CX P w) P w K mg base N__law_signs "_law_signs" (defScope s__law_signs) f cdv A outer s H E) (defBody s__law_signs) (t__law_signs K (fun c d _ H2 => E c d H2)) := by
  obtain ⟨fd0, ds0, v0, b0, G0, q0⟩ := O0
  have hu1 := hu_of hr
  have hu64 := hr.units
  have tk : Takes (cxOf (L2.CX P w) P w K mg base N__law_signs "_law_signs" (defScope s__law_signs) f cdv A outer s H E) (fun c d _ H2 => E c d H2) := takes_of rfl rfl rfl rfl
  exact (pss_cons (ps_set (i := 3) sc__law_signs.nd rfl (Or.inl rfl) (pe_callTy cr_listK (by rfl) T.f_list bt_list (pa_cons (pv 2) pa_nil)))
    (pss_cons (ps_setLc (i := 5) (own := [("_law_k", 4)]) rfl sc__law_signs.nd rfl rfl (sw_true rfl rfl rfl (by decide +kernel)) (pi_range1 rfl T.f_range (pa_cons (pe_op op_addU (pe_int) (pe_op op_modU (pe_op op_divU (pv 0) (pe_int)) (pe_int))) pa_nil)) (blkOk_by (own := [("_law_k", 4)]) (N := N__law_signs) (sc := defScope s__law_signs) (by decide +kernel)) (fun _ _ _ _ _ => (pg_name (i := 4) sc__law_signs.nd rfl (Or.inl rfl))) (fun _ _ _ _ _ => pts_nil) (fun _ _ _ _ _ => (pe_op op_modU (pe_cl G0 (hr.mono (by decide)) rfl T.g__law_drawn q0 b0 v0 takes0 (pa_cons (pv 0) (pa_cons (pe_op op_addU (pe_int) (pv 4)) pa_nil))) (pe_int))))
    (pss_cons (ps_set (i := 6) sc__law_signs.nd rfl (Or.inl rfl) (pe_op op_addU (pe_int) (pe_op op_modU (pe_cl G0 (hr.mono (by decide)) rfl T.g__law_drawn q0 b0 v0 tk (pa_cons (pv 0) (pa_cons (pe_int) pa_nil))) (pe_callB (cr_max2K rfl) (by rfl) T.f_max bb_max (pa_cons (pe_int) (pa_cons (pe_op op_addU (pe_callB cr_lenK (by rfl) T.f_len bb_len (pa_cons (pv 2) pa_nil)) (pe_int)) pa_nil))))))
    (pss_cons (ps_for (passes_of rfl) rfl (pi_range1 rfl T.f_range (pa_cons (pv 1) pa_nil)) (pg_name (i := 4) sc__law_signs.nd rfl (Or.inl rfl)) (pss_cons (ps_set (i := 7) sc__law_signs.nd rfl (Or.inl rfl) (pe_cl G0 (hr.mono (by decide)) rfl T.g__law_drawn q0 b0 v0 tk (pa_cons (pv 0) (pa_cons (pv 4) pa_nil))))
    (pss_cons (ps_set (i := 8) sc__law_signs.nd rfl (Or.inl rfl) (pe_ix ix_seq (pv 5) (pe_op op_modU (pv 7) (pe_callB cr_lenK (by rfl) T.f_len bb_len (pa_cons (pv 5) pa_nil))) (fun _ _ => rfl)))
    (Evl.pss_cut (ps_if (pt_cmpR (op_eqU hu64) (pe_op op_modU (pv 0) (pe_int)) (pe_int) (nomark _)) (pss_one (ps_set (i := 8) sc__law_signs.nd rfl (Or.inl rfl) (pe_op op_modU (pv 7) (pe_int)))) (pss_one (ps_if (PW.pt (pw_and (pt_cmpR (op_eqU hu64) (pe_op op_modU (pv 0) (pe_int)) (pe_int) (nomark _)) (pw_and (pt_cmpR op_gtU (pe_op op_modU (pe_op op_divU (pv 7) (pe_int)) (pe_int)) (pe_int) (nomark _)) (pw_and1 (pt_cmpR (op_neU hu64) (pv 3) (pe_lst pa_nil) (nomark _)))))) (pss_one (ps_set (i := 8) sc__law_signs.nd rfl (Or.inl rfl) (pe_ix ix_seq (pv 3) (pe_un un_negU (pe_int)) (fun _ _ => rfl)))) (pss_one (ps_if (PW.pt (pw_and (pt_cmpR (op_eqU hu64) (pe_op op_modU (pv 0) (pe_int)) (pe_int) (nomark _)) (pw_and (pt_cmpR op_gtU (pe_op op_modU (pe_op op_divU (pv 7) (pe_int)) (pe_int)) (pe_int) (nomark _)) (pw_and1 (pt_cmpR op_leU (pv 6) (pe_callB cr_lenK (by rfl) T.f_len bb_len (pa_cons (pv 3) pa_nil)) (nomark _)))))) (pss_one (ps_set (i := 8) sc__law_signs.nd rfl (Or.inl rfl) (pe_ix ix_seq (pv 3) (pe_op op_subU (pe_callB cr_lenK (by rfl) T.f_len bb_len (pa_cons (pv 3) pa_nil)) (pv 6)) (fun _ _ => rfl)))) pss_nil)))))
    (pss_one (ps_expr (pe_bm PySem.F.plainAttrs_list PySem.F.slot_list_append PySem.F.type_list_append mt_append (pv 3) (pa_cons (pv 8) pa_nil))))))))
    (pss_one (ps_ret (pe_slice sl_K (pv 3) (po_some (pe_callB cr_lenK (by rfl) T.f_len bb_len (pa_cons (pv 2) pa_nil))) po_none)))))))
theorem fn__law_signs {P : Program} {w : World} {K : PySem.W.Frag} {mg : Str → Option Value} {base : Heap} (T : Tx K mg) {f : Addr} {fd : FuncData} (F : FunD K d__law_signs.name d__law_signs.qual d__law_signs.params d__law_signs.body d__law_signs.scope (d__law_signs.dvs K) (d__law_signs.kws K) f fd) :
    FnOk P w K mg base (L2.CX P w) 2 f fd ["_law_cell", "_law_size", "_law_ahead"] (sp__law_signs K) :=
  F.ok sc__law_signs (fun vs H Q E h => len__law_signs h) (fun cdv A outer s H vs Q E hr h => ⟨t__law_signs K (fun c d _ H2 => E c d H2), wk__law_signs T (ok__law_drawn_2 T) hr, rd__law_signs  h⟩)
theorem ok__law_signs_3 {P : Program} {w : World} {K : PySem.W.Frag} {mg : Str → Option Value} {base : Heap} (T : Tx K mg) : DOk P w K mg base 2 (He.fAd K ("_law_signs", none)) ["_law_cell", "_law_size", "_law_ahead"] [] (sp__law_signs K) := by
  obtain ⟨fd, F⟩ := T.d__law_signs
  exact ⟨fd, [], .nil, FunD.bindsN F fun _ _ _ _ _ _ us hl => match us, hl with | [_, _, _], _ => rfl, fn__law_signs T F, F.kp⟩
abbrev N__law_text_by : List Str := ["_law_script", "_law_first", "_law_cell", "_law_wide", "_law_size", "_law_before"]
theorem sc__law_text_by : FnScope N__law_text_by ["_law_script", "_law_first"] (defScope s__law_text_by) := ⟨rfl, rfl, rfl, by decide +kernel, rfl, by decide +kernel, by decide +kernel⟩
theorem wk__law_text_by {P : Program} {w : World} {K : PySem.W.Frag} {mg : Str → Option Value} {base : Heap} (T : Tx K mg) (O0 : DOk P w K mg base 1 (He.fAd K ("_law_cell_at", none)) ["_law_script", "_law_k"] [] (sp__law_cell_at K)) (O1 : DOk P w K mg base 2 (He.fAd K ("_law_signs", none)) ["_law_cell", "_law_size", "_law_ahead"] [] (sp__law_signs K)) {f : Addr} {cdv : Value} {A : Around} {outer : List Env} {s : Shared} {H : Hp} {E : XK}
    (hr : Room 2 (A.deeper (envOfC "_law_text_by" (defScope s__law_text_by) s.heap.objs.size f cdv))) :
    PSs (cxOf (L2.CX P w) P w K mg base N__law_text_by "_law_text_by" (defScope s__law_text_by) f cdv A outer s H E) (defBody s__law_text_by) (t__law_text_by K (fun c d _ H2 => E c d H2)) := by
  obtain ⟨fd0, ds0, v0, b0, G0, q0⟩ := O0
  obtain ⟨fd1, ds1, v1, b1, G1, q1⟩ := O1
  have hu1 := hu_of hr
  have hu64 := hr.units
  have tk : Takes (cxOf (L2.CX P w) P w K mg base N__law_text_by "_law_text_by" (defScope s__law_text_by) f cdv A outer s H E) (fun c d _ H2 => E c d H2) := takes_of rfl rfl rfl rfl
  exact (pss_cons (ps_set (i := 2) sc__law_text_by.nd rfl (Or.inl rfl) (pe_cl G0 (hr.mono (by decide)) rfl T.g__law_cell_at q0 b0 v0 tk (pa_cons (pv 0) (pa_cons (pv 1) pa_nil))))
    (pss_cons (ps_set (i := 3) sc__law_text_by.nd rfl (Or.inl rfl) (pe_ix ix_seq (pe_lst (pa_cons (pe_int) (pa_cons (pe_op op_modU (pe_op op_divU (pv 2) (pe_int)) (pe_int)) (pa_cons (pe_op op_modU (pe_op op_divU (pv 2) (pe_int)) (pe_int)) (pa_cons (pe_int) pa_nil))))) (pe_op op_modU (pv 2) (pe_int)) (fun _ _ => rfl)))
    (pss_cons (ps_set (i := 4) sc__law_text_by.nd rfl (Or.inl rfl) (pe_op op_addU (pe_int) (pe_op op_modU (pe_op op_divU (pv 2) (pe_int)) (pe_int))))
    (Evl.pss_cut (ps_if (pt_cmpR (op_eqU hu64) (pe_op op_modU (pe_op op_divU (pv 2) (pe_int)) (pe_int)) (pe_int) (nomark _)) (pss_cons (ps_set (i := 3) sc__law_text_by.nd rfl (Or.inl rfl) (pe_op op_addU (pe_int) (pe_op op_modU (pe_op op_divU (pv 2) (pe_int)) (pe_int))))
    (pss_one (ps_set (i := 4) sc__law_text_by.nd rfl (Or.inl rfl) (pe_op op_addU (pe_int) (pe_op op_modU (pe_op op_divU (pv 2) (pe_int)) (pe_int)))))) pss_nil)
    (Evl.pss_cut (ps_if (pt_cmpR (op_eqU hu64) (pe_op op_modU (pe_op op_divU (pv 2) (pe_int)) (pe_int)) (pe_int) (nomark _)) (pss_cons (ps_set (i := 3) sc__law_text_by.nd rfl (Or.inl rfl) (pe_int))
    (pss_one (ps_set (i := 4) sc__law_text_by.nd rfl (Or.inl rfl) (pe_op op_subU (pe_int) (pe_op op_modU (pe_op op_divU (pv 2) (pe_int)) (pe_int)))))) pss_nil)
    (pss_cons (ps_set (i := 5) sc__law_text_by.nd rfl (Or.inl rfl) (pe_cl G1 (hr.mono (by decide)) rfl T.g__law_signs q1 b1 v1 tk (pa_cons (pe_cl G0 (hr.mono (by decide)) rfl T.g__law_cell_at q0 b0 v0 tk (pa_cons (pv 0) (pa_cons (pe_op op_addU (pv 1) (pe_int)) pa_nil))) (pa_cons (pv 3) (pa_cons (pe_lst pa_nil) pa_nil)))))
    (pss_one (ps_ret (pe_tup (pa_cons (pe_cl G1 (hr.mono (by decide)) rfl T.g__law_signs q1 b1 v1 tk (pa_cons (pe_cl G0 (hr.mono (by decide)) rfl T.g__law_cell_at q0 b0 v0 tk (pa_cons (pv 0) (pa_cons (pe_op op_addU (pv 1) (pe_int)) pa_nil))) (pa_cons (pv 4) (pa_cons (pv 5) pa_nil)))) (pa_cons (pv 5) pa_nil)))))))))))
theorem fn__law_text_by {P : Program} {w : World} {K : PySem.W.Frag} {mg : Str → Option Value} {base : Heap} (T : Tx K mg) {f : Addr} {fd : FuncData} (F : FunD K d__law_text_by.name d__law_text_by.qual d__law_text_by.params d__law_text_by.body d__law_text_by.scope (d__law_text_by.dvs K) (d__law_text_by.kws K) f fd) :
    FnOk P w K mg base (L2.CX P w) 3 f fd ["_law_script", "_law_first"] (sp__law_text_by K) :=
  F.ok sc__law_text_by (fun vs H Q E h => len__law_text_by h) (fun cdv A outer s H vs Q E hr h => ⟨t__law_text_by K (fun c d _ H2 => E c d H2), wk__law_text_by T (ok__law_cell_at_2 T) (ok__law_signs_3 T) hr, rd__law_text_by  h⟩)
theorem ok__law_text_by_2 {P : Program} {w : World} {K : PySem.W.Frag} {mg : Str → Option Value} {base : Heap} (T : Tx K mg) : DOk P w K mg base 3 (He.fAd K ("_law_text_by", none)) ["_law_script", "_law_first"] [] (sp__law_text_by K) := by
  obtain ⟨fd, F⟩ := T.d__law_text_by
  exact ⟨fd, [], .nil, FunD.bindsN F fun _ _ _ _ _ _ us hl => match us, hl with | [_, _], _ => rfl, fn__law_text_by T F, F.kp⟩
abbrev N_Way_number : List Str := ["self"]
theorem sc_Way_number : FnScope N_Way_number ["self"] (defScope s_Way_number) := ⟨rfl, rfl, rfl, by decide +kernel, rfl, by decide +kernel, by decide +kernel⟩
theorem wk_Way_number {P : Program} {w : World} {K : PySem.W.Frag} {mg : Str → Option Value} {base : Heap} (T : Tx K mg)  {f : Addr} {cdv : Value} {A : Around} {outer : List Env} {s : Shared} {H : Hp} {E : XK}
    (hr : Room 0 (A.deeper (envOfC "Way.number" (defScope s_Way_number) s.heap.objs.size f cdv))) :
    PSs (cxOf (L2.CX P w) P w K mg base N_Way_number "Way.number" (defScope s_Way_number) f cdv A outer s H E) (defBody s_Way_number) (t_Way_number K (fun c d _ H2 => E c d H2)) := by
  have hu1 := hu_of hr
  have hu64 := hr.units
  have tk : Takes (cxOf (L2.CX P w) P w K mg base N_Way_number "Way.number" (defScope s_Way_number) f cdv A outer s H E) (fun c d _ H2 => E c d H2) := takes_of rfl rfl rfl rfl
  exact (pss_one (ps_ret (pe_op op_subU (pe_int) (pe_int))))
theorem fn_Way_number {P : Program} {w : World} {K : PySem.W.Frag} {mg : Str → Option Value} {base : Heap} (T : Tx K mg) {f : Addr} {fd : FuncData} (F : FunD K d_Way_number.name d_Way_number.qual d_Way_number.params d_Way_number.body d_Way_number.scope (d_Way_number.dvs K) (d_Way_number.kws K) f fd) :
    FnOk P w K mg base (L2.CX P w) 1 f fd ["self"] (sp_Way_number K) :=
  F.ok sc_Way_number (fun vs H Q E h => len_Way_number h) (fun cdv A outer s H vs Q E hr h => ⟨t_Way_number K (fun c d _ H2 => E c d H2), wk_Way_number T  hr, rd_Way_number  h⟩)
theorem ok_Way_number_1 {P : Program} {w : World} {K : PySem.W.Frag} {mg : Str → Option Value} {base : Heap} (T : Tx K mg) : DOk P w K mg base 1 (He.fAd K ("Way", some "number")) ["self"] [] (sp_Way_number K) := by
  obtain ⟨fd, F⟩ := T.d_Way_number
  exact ⟨fd, [], .nil, FunD.bindsN F fun _ _ _ _ _ _ us hl => match us, hl with | [_], _ => rfl, fn_Way_number T F, F.kp⟩
abbrev N_RawWay_number : List Str := ["self"]
theorem sc_RawWay_number : FnScope N_RawWay_number ["self"] (defScope s_RawWay_number) := ⟨rfl, rfl, rfl, by decide +kernel, rfl, by decide +kernel, by decide +kernel⟩
theorem wk_RawWay_number {P : Program} {w : World} {K : PySem.W.Frag} {mg : Str → Option Value} {base : Heap} (T : Tx K mg)  {f : Addr} {cdv : Value} {A : Around} {outer : List Env} {s : Shared} {H : Hp} {E : XK}
    (hr : Room 0 (A.deeper (envOfC "RawWay.number" (defScope s_RawWay_number) s.heap.objs.size f cdv))) :
    PSs (cxOf (L2.CX P w) P w K mg base N_RawWay_number "RawWay.number" (defScope s_RawWay_number) f cdv A outer s H E) (defBody s_RawWay_number) (t_RawWay_number K (fun c d _ H2 => E c d H2)) := by
  have hu1 := hu_of hr
  have hu64 := hr.units
  have tk : Takes (cxOf (L2.CX P w) P w K mg base N_RawWay_number "RawWay.number" (defScope s_RawWay_number) f cdv A outer s H E) (fun c d _ H2 => E c d H2) := takes_of rfl rfl rfl rfl
  exact (pss_one (ps_ret (pe_int)))
theorem fn_RawWay_number {P : Program} {w : World} {K : PySem.W.Frag} {mg : Str → Option Value} {base : Heap} (T : Tx K mg) {f : Addr} {fd : FuncData} (F : FunD K d_RawWay_number.name d_RawWay_number.qual d_RawWay_number.params d_RawWay_number.body d_RawWay_number.scope (d_RawWay_number.dvs K) (d_RawWay_number.kws K) f fd) :
    FnOk P w K mg base (L2.CX P w) 1 f fd ["self"] (sp_RawWay_number K) :=
  F.ok sc_RawWay_number (fun vs H Q E h => len_RawWay_number h) (fun cdv A outer s H vs Q E hr h => ⟨t_RawWay_number K (fun c d _ H2 => E c d H2), wk_RawWay_number T  hr, rd_RawWay_number  h⟩)
theorem ok_RawWay_number_1 {P : Program} {w : World} {K : PySem.W.Frag} {mg : Str → Option Value} {base : Heap} (T : Tx K mg) : DOk P w K mg base 1 (He.fAd K ("RawWay", some "number")) ["self"] [] (sp_RawWay_number K) := by
  obtain ⟨fd, F⟩ := T.d_RawWay_number
  exact ⟨fd, [], .nil, FunD.bindsN F fun _ _ _ _ _ _ us hl => match us, hl with | [_], _ => rfl, fn_RawWay_number T F, F.kp⟩
abbrev N_RunWay_number : List Str := ["self"]
theorem sc_RunWay_number : FnScope N_RunWay_number ["self"] (defScope s_RunWay_number) := ⟨rfl, rfl, rfl, by decide +kernel, rfl, by decide +kernel, by decide +kernel⟩
theorem wk_RunWay_number {P : Program} {w : World} {K : PySem.W.Frag} {mg : Str → Option Value} {base : Heap} (T : Tx K mg)  {f : Addr} {cdv : Value} {A : Around} {outer : List Env} {s : Shared} {H : Hp} {E : XK}
    (hr : Room 0 (A.deeper (envOfC "RunWay.number" (defScope s_RunWay_number) s.heap.objs.size f cdv))) :
    PSs (cxOf (L2.CX P w) P w K mg base N_RunWay_number "RunWay.number" (defScope s_RunWay_number) f cdv A outer s H E) (defBody s_RunWay_number) (t_RunWay_number K (fun c d _ H2 => E c d H2)) := by
  have hu1 := hu_of hr
  have hu64 := hr.units
  have tk : Takes (cxOf (L2.CX P w) P w K mg base N_RunWay_number "RunWay.number" (defScope s_RunWay_number) f cdv A outer s H E) (fun c d _ H2 => E c d H2) := takes_of rfl rfl rfl rfl
  exact (pss_one (ps_ret (pe_int)))
theorem fn_RunWay_number {P : Program} {w : World} {K : PySem.W.Frag} {mg : Str → Option Value} {base : Heap} (T : Tx K mg) {f : Addr} {fd : FuncData} (F : FunD K d_RunWay_number.name d_RunWay_number.qual d_RunWay_number.params d_RunWay_number.body d_RunWay_number.scope (d_RunWay_number.dvs K) (d_RunWay_number.kws K) f fd) :
    FnOk P w K mg base (L2.CX P w) 1 f fd ["self"] (sp_RunWay_number K) :=
  F.ok sc_RunWay_number (fun vs H Q E h => len_RunWay_number h) (fun cdv A outer s H vs Q E hr h => ⟨t_RunWay_number K (fun c d _ H2 => E c d H2), wk_RunWay_number T  hr, rd_RunWay_number  h⟩)
theorem ok_RunWay_number_1 {P : Program} {w : World} {K : PySem.W.Frag} {mg : Str → Option Value} {base : Heap} (T : Tx K mg) : DOk P w K mg base 1 (He.fAd K ("RunWay", some "number")) ["self"] [] (sp_RunWay_number K) := by
  obtain ⟨fd, F⟩ := T.d_RunWay_number
  exact ⟨fd, [], .nil, FunD.bindsN F fun _ _ _ _ _ _ us hl => match us, hl with | [_], _ => rfl, fn_RunWay_number T F, F.kp⟩
abbrev N__law_digits : List Str := ["_law_parts", "_law_found", "_law_number", "_law_size", "_law_k"]
theorem sc__law_digits : FnScope N__law_digits ["_law_parts"] (defScope s__law_digits) := ⟨rfl, rfl, rfl, by decide +kernel, rfl, by decide +kernel, by decide +kernel⟩
theorem wk__law_digits {P : Program} {w : World} {K : PySem.W.Frag} {mg : Str → Option Value} {base : Heap} (T : Tx K mg)  {f : Addr} {cdv : Value} {A : Around} {outer : List Env} {s : Shared} {H : Hp} {E : XK}
    (hr : Room 0 (A.deeper (envOfC "_law_digits" (defScope s__law_digits) s.heap.objs.size f cdv))) :
    PSs (cxOf (L2.CX P w) P w K mg base N__law_digits "_law_digits" (defScope s__law_digits) f cdv A outer s H E) (defBody s__law_digits) (t__law_digits K (fun c d _ H2 => E c d H2)) := by
  have hu1 := hu_of hr
  have hu64 := hr.units
  have tk : Takes (cxOf (L2.CX P w) P w K mg base N__law_digits "_law_digits" (defScope s__law_digits) f cdv A outer s H E) (fun c d _ H2 => E c d H2) := takes_of rfl rfl rfl rfl
  exact (pss_cons (ps_set (i := 1) sc__law_digits.nd rfl (Or.inl rfl) (pe_str))
    (pss_cons (ps_for (passes_of rfl) rfl (pi_list (pv 0)) (pg_tup rfl (pgs_cons (pg_name (i := 2) sc__law_digits.nd rfl (Or.inl rfl)) (pgs_cons (pg_name (i := 3) sc__law_digits.nd rfl (Or.inl rfl)) pgs_nil))) (pss_one (ps_for (passes_of rfl) rfl (pi_range1 rfl T.f_range (pa_cons (pv 3) pa_nil)) (pg_name (i := 4) sc__law_digits.nd rfl (Or.inl rfl)) (pss_one (ps_set (i := 1) sc__law_digits.nd rfl (Or.inl rfl) (pe_op op_addU (pv 1) (pe_ix ix_seq (pe_str) (pe_op op_modU (pe_op op_divU (pv 2) (pe_op op_shlU (pe_int) (pe_op op_subU (pe_op op_subU (pv 3) (pe_int)) (pv 4)))) (pe_int)) (fun _ _ => rfl))))))))
    (pss_one (ps_ret (pv 1)))))
theorem fn__law_digits {P : Program} {w : World} {K : PySem.W.Frag} {mg : Str → Option Value} {base : Heap} (T : Tx K mg) {f : Addr} {fd : FuncData} (F : FunD K d__law_digits.name d__law_digits.qual d__law_digits.params d__law_digits.body d__law_digits.scope (d__law_digits.dvs K) (d__law_digits.kws K) f fd) :
    FnOk P w K mg base (L2.CX P w) 1 f fd ["_law_parts"] (sp__law_digits K) :=
  F.ok sc__law_digits (fun vs H Q E h => len__law_digits h) (fun cdv A outer s H vs Q E hr h => ⟨t__law_digits K (fun c d _ H2 => E c d H2), wk__law_digits T  hr, rd__law_digits  h⟩)
theorem ok__law_digits_1 {P : Program} {w : World} {K : PySem.W.Frag} {mg : Str → Option Value} {base : Heap} (T : Tx K mg) : DOk P w K mg base 1 (He.fAd K ("_law_digits", none)) ["_law_parts"] [] (sp__law_digits K) := by
  obtain ⟨fd, F⟩ := T.d__law_digits
  exact ⟨fd, [], .nil, FunD.bindsN F fun _ _ _ _ _ _ us hl => match us, hl with | [_], _ => rfl, fn__law_digits T F, F.kp⟩
abbrev N__law_runs : List Str := ["_law_text", "_law_parts", "_law_many", "_law_k"]
theorem sc__law_runs : FnScope N__law_runs ["_law_text"] (defScope s__law_runs) := ⟨rfl, rfl, rfl, by decide +kernel, rfl, by decide +kernel, by decide +kernel⟩
theorem wk__law_runs {P : Program} {w : World} {K : PySem.W.Frag} {mg : Str → Option Value} {base : Heap} (T : Tx K mg)  {f : Addr} {cdv : Value} {A : Around} {outer : List Env} {s : Shared} {H : Hp} {E : XK}
    (hr : Room 0 (A.deeper (envOfC "_law_runs" (defScope s__law_runs) s.heap.objs.size f cdv))) :
    PSs (cxOf (L2.CX P w) P w K mg base N__law_runs "_law_runs" (defScope s__law_runs) f cdv A outer s H E) (defBody s__law_runs) (t__law_runs K (fun c d _ H2 => E c d H2)) := by
  have hu1 := hu_of hr
  have hu64 := hr.units
  have tk : Takes (cxOf (L2.CX P w) P w K mg base N__law_runs "_law_runs" (defScope s__law_runs) f cdv A outer s H E) (fun c d _ H2 => E c d H2) := takes_of rfl rfl rfl rfl
  exact (pss_cons (ps_set (i := 1) sc__law_runs.nd rfl (Or.inl rfl) (pe_lst pa_nil))
    (pss_cons (ps_set (i := 2) sc__law_runs.nd rfl (Or.inl rfl) (pe_int))
    (pss_cons (ps_for (passes_of rfl) rfl (pi_range1 rfl T.f_range (pa_cons (pe_callB cr_lenK (by rfl) T.f_len bb_len (pa_cons (pv 0) pa_nil)) pa_nil)) (pg_name (i := 3) sc__law_runs.nd rfl (Or.inl rfl)) (pss_cons (ps_set (i := 2) sc__law_runs.nd rfl (Or.inl rfl) (pe_op op_addU (pv 2) (pe_int)))
    (pss_one (ps_if (pt_cmpR (op_neU hu64) (pe_slice sl_K (pv 0) (po_some (pe_op op_addU (pv 3) (pe_int))) (po_some (pe_op op_addU (pv 3) (pe_int)))) (pe_lst (pa_cons (pe_ix ix_seq (pv 0) (pv 3) (fun _ _ => rfl)) pa_nil)) (nomark _)) (pss_cons (ps_set (i := 1) sc__law_runs.nd rfl (Or.inl rfl) (pe_op op_addU (pv 1) (pe_lst (pa_cons (pe_tup (pa_cons (pe_op op_subU (pv 2) (pe_int)) (pa_cons (pe_int) pa_nil))) (pa_cons (pe_tup (pa_cons (pe_ix ix_seq (pv 0) (pv 3) (fun _ _ => rfl)) (pa_cons (pe_int) pa_nil))) pa_nil)))))
    (pss_one (ps_set (i := 2) sc__law_runs.nd rfl (Or.inl rfl) (pe_int)))) pss_nil))))
    (pss_one (ps_ret (pv 1))))))
theorem fn__law_runs {P : Program} {w : World} {K : PySem.W.Frag} {mg : Str → Option Value} {base : Heap} (T : Tx K mg) {f : Addr} {fd : FuncData} (F : FunD K d__law_runs.name d__law_runs.qual d__law_runs.params d__law_runs.body d__law_runs.scope (d__law_runs.dvs K) (d__law_runs.kws K) f fd) :
    FnOk P w K mg base (L2.CX P w) 1 f fd ["_law_text"] (sp__law_runs K) :=
  F.ok sc__law_runs (fun vs H Q E h => len__law_runs h) (fun cdv A outer s H vs Q E hr h => ⟨t__law_runs K (fun c d _ H2 => E c d H2), wk__law_runs T  hr, rd__law_runs  h⟩)
theorem ok__law_runs_1 {P : Program} {w : World} {K : PySem.W.Frag} {mg : Str → Option Value} {base : Heap} (T : Tx K mg) : DOk P w K mg base 1 (He.fAd K ("_law_runs", none)) ["_law_text"] [] (sp__law_runs K) := by
  obtain ⟨fd, F⟩ := T.d__law_runs
  exact ⟨fd, [], .nil, FunD.bindsN F fun _ _ _ _ _ _ us hl => match us, hl with | [_], _ => rfl, fn__law_runs T F, F.kp⟩
abbrev N_BitRow___init__ : List Str := ["self"]
theorem sc_BitRow___init__ : FnScope N_BitRow___init__ ["self"] (defScope s_BitRow___init__) := ⟨rfl, rfl, rfl, by decide +kernel, rfl, by decide +kernel, by decide +kernel⟩
theorem wk_BitRow___init__ {P : Program} {w : World} {K : PySem.W.Frag} {mg : Str → Option Value} {base : Heap} (T : Tx K mg)  {f : Addr} {cdv : Value} {A : Around} {outer : List Env} {s : Shared} {H : Hp} {E : XK}
    (hr : Room 0 (A.deeper (envOfC "BitRow.__init__" (defScope s_BitRow___init__) s.heap.objs.size f cdv))) :
    PSs (cxOf (L2.CX P w) P w K mg base N_BitRow___init__ "BitRow.__init__" (defScope s_BitRow___init__) f cdv A outer s H E) (defBody s_BitRow___init__) (t_BitRow___init__ K (fun c d _ H2 => E c d H2)) := by
  have hu1 := hu_of hr
  have hu64 := hr.units
  have tk : Takes (cxOf (L2.CX P w) P w K mg base N_BitRow___init__ "BitRow.__init__" (defScope s_BitRow___init__) f cdv A outer s H E) (fun c d _ H2 => E c d H2) := takes_of rfl rfl rfl rfl
  exact (pss_cons (ps_fld (pv 0) (pe_lst pa_nil) rfl)
    (pss_cons (ps_fld (pv 0) (pe_int) rfl)
    (pss_one (ps_fld (pv 0) (pe_int) rfl))))
theorem fn_BitRow___init__ {P : Program} {w : World} {K : PySem.W.Frag} {mg : Str → Option Value} {base : Heap} (T : Tx K mg) {f : Addr} {fd : FuncData} (F : FunD K d_BitRow___init__.name d_BitRow___init__.qual d_BitRow___init__.params d_BitRow___init__.body d_BitRow___init__.scope (d_BitRow___init__.dvs K) (d_BitRow___init__.kws K) f fd) :
    FnOk P w K mg base (L2.CX P w) 1 f fd ["self"] (sp_BitRow___init__ K) :=
  F.ok sc_BitRow___init__ (fun vs H Q E h => len_BitRow___init__ h) (fun cdv A outer s H vs Q E hr h => ⟨t_BitRow___init__ K (fun c d _ H2 => E c d H2), wk_BitRow___init__ T  hr, rd_BitRow___init__ (of_KBitRow T) h⟩)
theorem ok_BitRow___init___1 {P : Program} {w : World} {K : PySem.W.Frag} {mg : Str → Option Value} {base : Heap} (T : Tx K mg) : DOk P w K mg base 1 (He.fAd K ("BitRow", some "__init__")) ["self"] [] (sp_BitRow___init__ K) := by
  obtain ⟨fd, F⟩ := T.d_BitRow___init__
  exact ⟨fd, [], .nil, FunD.bindsN F fun _ _ _ _ _ _ us hl => match us, hl with | [_], _ => rfl, fn_BitRow___init__ T F, F.kp⟩
abbrev N_is_byte : List Str := ["thing"]
theorem sc_is_byte : FnScope N_is_byte ["thing"] (defScope s_is_byte) := ⟨rfl, rfl, rfl, by decide +kernel, rfl, by decide +kernel, by decide +kernel⟩
theorem wk_is_byte {P : Program} {w : World} {K : PySem.W.Frag} {mg : Str → Option Value} {base : Heap} (T : Tx K mg)  {f : Addr} {cdv : Value} {A : Around} {outer : List Env} {s : Shared} {H : Hp} {E : XK}
    (hr : Room 0 (A.deeper (envOfC "is_byte" (defScope s_is_byte) s.heap.objs.size f cdv))) :
    PSs (cxOf (L2.CX P w) P w K mg base N_is_byte "is_byte" (defScope s_is_byte) f cdv A outer s H E) (defBody s_is_byte) (t_is_byte K (fun c d _ H2 => E c d H2)) := by
  have hu1 := hu_of hr
  have hu64 := hr.units
  have tk : Takes (cxOf (L2.CX P w) P w K mg base N_is_byte "is_byte" (defScope s_is_byte) f cdv A outer s H E) (fun c d _ H2 => E c d H2) := takes_of rfl rfl rfl rfl
  exact (pss_one (ps_ret ((pe_and (pe_callB call_isi (by rfl) T.f_isinstance bb_isinstance (pa_cons (pv 0) (pa_cons (pe_bty rfl T.f_int bt_int) pa_nil))) (pe_and (pe_not (pe_callB call_isi (by rfl) T.f_isinstance bb_isinstance (pa_cons (pv 0) (pa_cons (pe_bty rfl T.f_bool bt_bool) pa_nil)))) (pe_one (pe_chain op_leU op_leU (pe_int) (pv 0) (pe_gint rfl T.g_MOST_BYTE))))))))
theorem fn_is_byte {P : Program} {w : World} {K : PySem.W.Frag} {mg : Str → Option Value} {base : Heap} (T : Tx K mg) {f : Addr} {fd : FuncData} (F : FunD K d_is_byte.name d_is_byte.qual d_is_byte.params d_is_byte.body d_is_byte.scope (d_is_byte.dvs K) (d_is_byte.kws K) f fd) :
    FnOk P w K mg base (L2.CX P w) 1 f fd ["thing"] (sp_is_byte K) :=
  F.ok sc_is_byte (fun vs H Q E h => len_is_byte h) (fun cdv A outer s H vs Q E hr h => ⟨t_is_byte K (fun c d _ H2 => E c d H2), wk_is_byte T  hr, rd_is_byte  h⟩)
theorem ok_is_byte_1 {P : Program} {w : World} {K : PySem.W.Frag} {mg : Str → Option Value} {base : Heap} (T : Tx K mg) : DOk P w K mg base 1 (He.fAd K ("is_byte", none)) ["thing"] [] (sp_is_byte K) := by
  obtain ⟨fd, F⟩ := T.d_is_byte
  exact ⟨fd, [], .nil, FunD.bindsN F fun _ _ _ _ _ _ us hl => match us, hl with | [_], _ => rfl, fn_is_byte T F, F.kp⟩
abbrev N_is_row : List Str := ["thing", "number"]
theorem sc_is_row : FnScope N_is_row ["thing"] (defScope s_is_row) := ⟨rfl, rfl, rfl, by decide +kernel, rfl, by decide +kernel, by decide +kernel⟩
theorem wk_is_row {P : Program} {w : World} {K : PySem.W.Frag} {mg : Str → Option Value} {base : Heap} (T : Tx K mg) (O0 : DOk P w K mg base 1 (He.fAd K ("is_byte", none)) ["thing"] [] (sp_is_byte K)) {f : Addr} {cdv : Value} {A : Around} {outer : List Env} {s : Shared} {H : Hp} {E : XK}
    (hr : Room 1 (A.deeper (envOfC "is_row" (defScope s_is_row) s.heap.objs.size f cdv))) :
    PSs (cxOf (L2.CX P w) P w K mg base N_is_row "is_row" (defScope s_is_row) f cdv A outer s H E) (defBody s_is_row) (t_is_row K (fun c d _ H2 => E c d H2)) := by
  obtain ⟨fd0, ds0, v0, b0, G0, q0⟩ := O0
  have hu1 := hu_of hr
  have hu64 := hr.units
  have tk : Takes (cxOf (L2.CX P w) P w K mg base N_is_row "is_row" (defScope s_is_row) f cdv A outer s H E) (fun c d _ H2 => E c d H2) := takes_of rfl rfl rfl rfl
  exact (pss_one (ps_ret ((pe_and (pe_callB call_isi (by rfl) T.f_isinstance bb_isinstance (pa_cons (pv 0) (pa_cons (pe_bty rfl T.f_list bt_list) pa_nil))) (pe_one (pe_callB (cr_all rfl) (by rfl) T.f_all bb_all (pa_cons (pe_lc (own := [("number", 1)]) rfl sc_is_row.nd (pi_list (pv 0)) (blkOk_by (own := [("number", 1)]) (N := N_is_row) (sc := defScope s_is_row) (by decide +kernel)) (fun _ _ _ _ _ => (pg_name (i := 1) sc_is_row.nd rfl (Or.inl rfl))) (fun _ _ _ _ _ => pts_nil) (fun _ _ _ _ _ => (pe_cl G0 (hr.mono (by decide)) rfl T.g_is_byte q0 b0 v0 takes0 (pa_cons (pv 1) pa_nil)))) pa_nil)))))))
theorem fn_is_row {P : Program} {w : World} {K : PySem.W.Frag} {mg : Str → Option Value} {base : Heap} (T : Tx K mg) {f : Addr} {fd : FuncData} (F : FunD K d_is_row.name d_is_row.qual d_is_row.params d_is_row.body d_is_row.scope (d_is_row.dvs K) (d_is_row.kws K) f fd) :
    FnOk P w K mg base (L2.CX P w) 2 f fd ["thing"] (sp_is_row K) :=
  F.ok sc_is_row (fun vs H Q E h => len_is_row h) (fun cdv A outer s H vs Q E hr h => ⟨t_is_row K (fun c d _ H2 => E c d H2), wk_is_row T (ok_is_byte_1 T) hr, rd_is_row  h⟩)
theorem ok_is_row_1 {P : Program} {w : World} {K : PySem.W.Frag} {mg : Str → Option Value} {base : Heap} (T : Tx K mg) : DOk P w K mg base 2 (He.fAd K ("is_row", none)) ["thing"] [] (sp_is_row K) := by
  obtain ⟨fd, F⟩ := T.d_is_row
  exact ⟨fd, [], .nil, FunD.bindsN F fun _ _ _ _ _ _ us hl => match us, hl with | [_], _ => rfl, fn_is_row T F, F.kp⟩
abbrev N_need_row : List Str := ["thing"]
theorem sc_need_row : FnScope N_need_row ["thing"] (defScope s_need_row) := ⟨rfl, rfl, rfl, by decide +kernel, rfl, by decide +kernel, by decide +kernel⟩
theorem wk_need_row {P : Program} {w : World} {K : PySem.W.Frag} {mg : Str → Option Value} {base : Heap} (T : Tx K mg) (O0 : DOk P w K mg base 2 (He.fAd K ("is_row", none)) ["thing"] [] (sp_is_row K)) {f : Addr} {cdv : Value} {A : Around} {outer : List Env} {s : Shared} {H : Hp} {E : XK}
    (hr : Room 2 (A.deeper (envOfC "need_row" (defScope s_need_row) s.heap.objs.size f cdv))) :
    PSs (cxOf (L2.CX P w) P w K mg base N_need_row "need_row" (defScope s_need_row) f cdv A outer s H E) (defBody s_need_row) (t_need_row K (fun c d _ H2 => E c d H2)) := by
  obtain ⟨fd0, ds0, v0, b0, G0, q0⟩ := O0
  have hu1 := hu_of hr
  have hu64 := hr.units
  have tk : Takes (cxOf (L2.CX P w) P w K mg base N_need_row "need_row" (defScope s_need_row) f cdv A outer s H E) (fun c d _ H2 => E c d H2) := takes_of rfl rfl rfl rfl
  exact (pss_cons (ps_if (pt_not (pt_val (pe_cl G0 (hr.mono (by decide)) rfl T.g_is_row q0 b0 v0 tk (pa_cons (pv 0) pa_nil)))) (pss_one (ps_rz rfl tk T.x_BadRow T.g_BadRow rfl)) pss_nil)
    (pss_one (ps_ret (pe_callTy cr_listK (by rfl) T.f_list bt_list (pa_cons (pv 0) pa_nil)))))
theorem fn_need_row {P : Program} {w : World} {K : PySem.W.Frag} {mg : Str → Option Value} {base : Heap} (T : Tx K mg) {f : Addr} {fd : FuncData} (F : FunD K d_need_row.name d_need_row.qual d_need_row.params d_need_row.body d_need_row.scope (d_need_row.dvs K) (d_need_row.kws K) f fd) :
    FnOk P w K mg base (L2.CX P w) 3 f fd ["thing"] (sp_need_row K) :=
  F.ok sc_need_row (fun vs H Q E h => len_need_row h) (fun cdv A outer s H vs Q E hr h => ⟨t_need_row K (fun c d _ H2 => E c d H2), wk_need_row T (ok_is_row_1 T) hr, rd_need_row  h⟩)
theorem ok_need_row_1 {P : Program} {w : World} {K : PySem.W.Frag} {mg : Str → Option Value} {base : Heap} (T : Tx K mg) : DOk P w K mg base 3 (He.fAd K ("need_row", none)) ["thing"] [] (sp_need_row K) := by
  obtain ⟨fd, F⟩ := T.d_need_row
  exact ⟨fd, [], .nil, FunD.bindsN F fun _ _ _ _ _ _ us hl => match us, hl with | [_], _ => rfl, fn_need_row T F, F.kp⟩
abbrev N_need_text : List Str := ["text", "found"]
theorem sc_need_text : FnScope N_need_text ["text"] (defScope s_need_text) := ⟨rfl, rfl, rfl, by decide +kernel, rfl, by decide +kernel, by decide +kernel⟩
theorem wk_need_text {P : Program} {w : World} {K : PySem.W.Frag} {mg : Str → Option Value} {base : Heap} (T : Tx K mg) (O0 : DOk P w K mg base 3 (He.fAd K ("need_row", none)) ["thing"] [] (sp_need_row K)) {f : Addr} {cdv : Value} {A : Around} {outer : List Env} {s : Shared} {H : Hp} {E : XK}
    (hr : Room 3 (A.deeper (envOfC "need_text" (defScope s_need_text) s.heap.objs.size f cdv))) :
    PSs (cxOf (L2.CX P w) P w K mg base N_need_text "need_text" (defScope s_need_text) f cdv A outer s H E) (defBody s_need_text) (t_need_text K (fun c d _ H2 => E c d H2)) := by
  obtain ⟨fd0, ds0, v0, b0, G0, q0⟩ := O0
  have hu1 := hu_of hr
  have hu64 := hr.units
  have tk : Takes (cxOf (L2.CX P w) P w K mg base N_need_text "need_text" (defScope s_need_text) f cdv A outer s H E) (fun c d _ H2 => E c d H2) := takes_of rfl rfl rfl rfl
  exact (pss_cons (ps_set (i := 1) sc_need_text.nd rfl (Or.inl rfl) (pe_cl G0 (hr.mono (by decide)) rfl T.g_need_row q0 b0 v0 tk (pa_cons (pv 0) pa_nil)))
    (pss_cons (ps_if (pt_not (pt_chain op_leU op_leU (pe_int) (pe_callB cr_lenK (by rfl) T.f_len bb_len (pa_cons (pv 1) pa_nil)) (pe_gint rfl T.g_MOST_SIGNS))) (pss_one (ps_rz rfl tk T.x_BadRow T.g_BadRow rfl)) pss_nil)
    (pss_one (ps_ret (pv 1)))))
theorem fn_need_text {P : Program} {w : World} {K : PySem.W.Frag} {mg : Str → Option Value} {base : Heap} (T : Tx K mg) {f : Addr} {fd : FuncData} (F : FunD K d_need_text.name d_need_text.qual d_need_text.params d_need_text.body d_need_text.scope (d_need_text.dvs K) (d_need_text.kws K) f fd) :
    FnOk P w K mg base (L2.CX P w) 4 f fd ["text"] (sp_need_text K) :=
  F.ok sc_need_text (fun vs H Q E h => len_need_text h) (fun cdv A outer s H vs Q E hr h => ⟨t_need_text K (fun c d _ H2 => E c d H2), wk_need_text T (ok_need_row_1 T) hr, rd_need_text  h⟩)
theorem ok_need_text_1 {P : Program} {w : World} {K : PySem.W.Frag} {mg : Str → Option Value} {base : Heap} (T : Tx K mg) : DOk P w K mg base 4 (He.fAd K ("need_text", none)) ["text"] [] (sp_need_text K) := by
  obtain ⟨fd, F⟩ := T.d_need_text
  exact ⟨fd, [], .nil, FunD.bindsN F fun _ _ _ _ _ _ us hl => match us, hl with | [_], _ => rfl, fn_need_text T F, F.kp⟩
abbrev N_need_window : List Str := ["before", "found"]
theorem sc_need_window : FnScope N_need_window ["before"] (defScope s_need_window) := ⟨rfl, rfl, rfl, by decide +kernel, rfl, by decide +kernel, by decide +kernel⟩
theorem wk_need_window {P : Program} {w : World} {K : PySem.W.Frag} {mg : Str → Option Value} {base : Heap} (T : Tx K mg) (O0 : DOk P w K mg base 3 (He.fAd K ("need_row", none)) ["thing"] [] (sp_need_row K)) {f : Addr} {cdv : Value} {A : Around} {outer : List Env} {s : Shared} {H : Hp} {E : XK}
    (hr : Room 3 (A.deeper (envOfC "need_window" (defScope s_need_window) s.heap.objs.size f cdv))) :
    PSs (cxOf (L2.CX P w) P w K mg base N_need_window "need_window" (defScope s_need_window) f cdv A outer s H E) (defBody s_need_window) (t_need_window_ways K (fun c d _ H2 => E c d H2)) := by
  obtain ⟨fd0, ds0, v0, b0, G0, q0⟩ := O0
  have hu1 := hu_of hr
  have hu64 := hr.units
  have tk : Takes (cxOf (L2.CX P w) P w K mg base N_need_window "need_window" (defScope s_need_window) f cdv A outer s H E) (fun c d _ H2 => E c d H2) := takes_of rfl rfl rfl rfl
  exact (pss_cons (ps_if (pt_cmpR op_isU (pv 0) (pe_non) (nomark _)) (pss_one (ps_ret (pe_lst pa_nil))) pss_nil)
    (pss_cons (ps_set (i := 1) sc_need_window.nd rfl (Or.inl rfl) (pe_cl G0 (hr.mono (by decide)) rfl T.g_need_row q0 b0 v0 tk (pa_cons (pv 0) pa_nil)))
    (pss_cons (ps_if (pt_cmpR op_gtU (pe_callB cr_lenK (by rfl) T.f_len bb_len (pa_cons (pv 1) pa_nil)) (pe_gint rfl T.g_MOST_WINDOW) (nomark _)) (pss_one (ps_rz rfl tk T.x_BadRow T.g_BadRow rfl)) pss_nil)
    (pss_one (ps_ret (pv 1))))))
theorem fn_need_window {P : Program} {w : World} {K : PySem.W.Frag} {mg : Str → Option Value} {base : Heap} (T : Tx K mg) {f : Addr} {fd : FuncData} (F : FunD K d_need_window.name d_need_window.qual d_need_window.params d_need_window.body d_need_window.scope (d_need_window.dvs K) (d_need_window.kws K) f fd) :
    FnOk P w K mg base (L2.CX P w) 4 f fd ["before"] (sp_need_window_ways K) :=
  F.ok sc_need_window (fun vs H Q E h => len_need_window_ways h) (fun cdv A outer s H vs Q E hr h => ⟨t_need_window_ways K (fun c d _ H2 => E c d H2), wk_need_window T (ok_need_row_1 T) hr, rd_need_window_ways  h⟩)
theorem ok_need_window_1 {P : Program} {w : World} {K : PySem.W.Frag} {mg : Str → Option Value} {base : Heap} (T : Tx K mg) : DOk P w K mg base 4 (He.fAd K ("need_window", none)) ["before"] [] (sp_need_window_ways K) := by
  obtain ⟨fd, F⟩ := T.d_need_window
  exact ⟨fd, [], .nil, FunD.bindsN F fun _ _ _ _ _ _ us hl => match us, hl with | [_], _ => rfl, fn_need_window T F, F.kp⟩
abbrev N_Way_tell : List Str := ["self", "bits", "text", "before"]
theorem sc_Way_tell : FnScope N_Way_tell ["self", "bits", "text", "before"] (defScope s_Way_tell) := ⟨rfl, rfl, rfl, by decide +kernel, rfl, by decide +kernel, by decide +kernel⟩
theorem wk_Way_tell {P : Program} {w : World} {K : PySem.W.Frag} {mg : Str → Option Value} {base : Heap} (T : Tx K mg) (O0 : DOk P w K mg base 4 (He.fAd K ("need_text", none)) ["text"] [] (sp_need_text K)) (O1 : DOk P w K mg base 4 (He.fAd K ("need_window", none)) ["before"] [] (sp_need_window_ways K)) {f : Addr} {cdv : Value} {A : Around} {outer : List Env} {s : Shared} {H : Hp} {E : XK}
    (hr : Room 4 (A.deeper (envOfC "Way.tell" (defScope s_Way_tell) s.heap.objs.size f cdv))) :
    PSs (cxOf (L2.CX P w) P w K mg base N_Way_tell "Way.tell" (defScope s_Way_tell) f cdv A outer s H E) (defBody s_Way_tell) (t_Way_tell K (fun c d _ H2 => E c d H2)) := by
  obtain ⟨fd0, ds0, v0, b0, G0, q0⟩ := O0
  obtain ⟨fd1, ds1, v1, b1, G1, q1⟩ := O1
  have hu1 := hu_of hr
  have hu64 := hr.units
  have tk : Takes (cxOf (L2.CX P w) P w K mg base N_Way_tell "Way.tell" (defScope s_Way_tell) f cdv A outer s H E) (fun c d _ H2 => E c d H2) := takes_of rfl rfl rfl rfl
  exact (pss_cons (ps_expr (pe_cl G0 (hr.mono (by decide)) rfl T.g_need_text q0 b0 v0 tk (pa_cons (pv 2) pa_nil)))
    (pss_one (ps_expr (pe_cl G1 (hr.mono (by decide)) rfl T.g_need_window q1 b1 v1 tk (pa_cons (pv 3) pa_nil)))))
theorem fn_Way_tell {P : Program} {w : World} {K : PySem.W.Frag} {mg : Str → Option Value} {base : Heap} (T : Tx K mg) {f : Addr} {fd : FuncData} (F : FunD K d_Way_tell.name d_Way_tell.qual d_Way_tell.params d_Way_tell.body d_Way_tell.scope (d_Way_tell.dvs K) (d_Way_tell.kws K) f fd) :
    FnOk P w K mg base (L2.CX P w) 5 f fd ["self", "bits", "text", "before"] (sp_Way_tell K) :=
  F.ok sc_Way_tell (fun vs H Q E h => len_Way_tell h) (fun cdv A outer s H vs Q E hr h => ⟨t_Way_tell K (fun c d _ H2 => E c d H2), wk_Way_tell T (ok_need_text_1 T) (ok_need_window_1 T) hr, rd_Way_tell  h⟩)
theorem ok_Way_tell_4 {P : Program} {w : World} {K : PySem.W.Frag} {mg : Str → Option Value} {base : Heap} (T : Tx K mg) : DOk P w K mg base 5 (He.fAd K ("Way", some "tell")) ["self", "bits", "text", "before"] [] (sp_Way_tell K) := by
  obtain ⟨fd, F⟩ := T.d_Way_tell
  exact ⟨fd, [], .nil, FunD.bindsN F fun _ _ _ _ _ _ us hl => match us, hl with | [_, _, _, _], _ => rfl, fn_Way_tell T F, F.kp⟩
abbrev N_is_number : List Str := ["thing"]
theorem sc_is_number : FnScope N_is_number ["thing"] (defScope s_is_number) := ⟨rfl, rfl, rfl, by decide +kernel, rfl, by decide +kernel, by decide +kernel⟩
theorem wk_is_number {P : Program} {w : World} {K : PySem.W.Frag} {mg : Str → Option Value} {base : Heap} (T : Tx K mg)  {f : Addr} {cdv : Value} {A : Around} {outer : List Env} {s : Shared} {H : Hp} {E : XK}
    (hr : Room 0 (A.deeper (envOfC "is_number" (defScope s_is_number) s.heap.objs.size f cdv))) :
    PSs (cxOf (L2.CX P w) P w K mg base N_is_number "is_number" (defScope s_is_number) f cdv A outer s H E) (defBody s_is_number) (t_is_number K (fun c d _ H2 => E c d H2)) := by
  have hu1 := hu_of hr
  have hu64 := hr.units
  have tk : Takes (cxOf (L2.CX P w) P w K mg base N_is_number "is_number" (defScope s_is_number) f cdv A outer s H E) (fun c d _ H2 => E c d H2) := takes_of rfl rfl rfl rfl
  exact (pss_one (ps_ret ((pe_and (pe_callB call_isi (by rfl) T.f_isinstance bb_isinstance (pa_cons (pv 0) (pa_cons (pe_bty rfl T.f_int bt_int) pa_nil))) (pe_one (pe_not (pe_callB call_isi (by rfl) T.f_isinstance bb_isinstance (pa_cons (pv 0) (pa_cons (pe_bty rfl T.f_bool bt_bool) pa_nil)))))))))
theorem fn_is_number {P : Program} {w : World} {K : PySem.W.Frag} {mg : Str → Option Value} {base : Heap} (T : Tx K mg) {f : Addr} {fd : FuncData} (F : FunD K d_is_number.name d_is_number.qual d_is_number.params d_is_number.body d_is_number.scope (d_is_number.dvs K) (d_is_number.kws K) f fd) :
    FnOk P w K mg base (L2.CX P w) 1 f fd ["thing"] (sp_is_number K) :=
  F.ok sc_is_number (fun vs H Q E h => len_is_number h) (fun cdv A outer s H vs Q E hr h => ⟨t_is_number K (fun c d _ H2 => E c d H2), wk_is_number T  hr, rd_is_number  h⟩)
theorem ok_is_number_1 {P : Program} {w : World} {K : PySem.W.Frag} {mg : Str → Option Value} {base : Heap} (T : Tx K mg) : DOk P w K mg base 1 (He.fAd K ("is_number", none)) ["thing"] [] (sp_is_number K) := by
  obtain ⟨fd, F⟩ := T.d_is_number
  exact ⟨fd, [], .nil, FunD.bindsN F fun _ _ _ _ _ _ us hl => match us, hl with | [_], _ => rfl, fn_is_number T F, F.kp⟩
abbrev N_need_size : List Str := ["size"]
theorem sc_need_size : FnScope N_need_size ["size"] (defScope s_need_size) := ⟨rfl, rfl, rfl, by decide +kernel, rfl, by decide +kernel, by decide +kernel⟩
theorem wk_need_size {P : Program} {w : World} {K : PySem.W.Frag} {mg : Str → Option Value} {base : Heap} (T : Tx K mg) (O0 : DOk P w K mg base 1 (He.fAd K ("is_number", none)) ["thing"] [] (sp_is_number K)) {f : Addr} {cdv : Value} {A : Around} {outer : List Env} {s : Shared} {H : Hp} {E : XK}
    (hr : Room 1 (A.deeper (envOfC "need_size" (defScope s_need_size) s.heap.objs.size f cdv))) :
    PSs (cxOf (L2.CX P w) P w K mg base N_need_size "need_size" (defScope s_need_size) f cdv A outer s H E) (defBody s_need_size) (t_need_size K (fun c d _ H2 => E c d H2)) := by
  obtain ⟨fd0, ds0, v0, b0, G0, q0⟩ := O0
  have hu1 := hu_of hr
  have hu64 := hr.units
  have tk : Takes (cxOf (L2.CX P w) P w K mg base N_need_size "need_size" (defScope s_need_size) f cdv A outer s H E) (fun c d _ H2 => E c d H2) := takes_of rfl rfl rfl rfl
  exact (pss_one (ps_if (PW.pt (pw_or (pt_not (pt_val (pe_cl G0 (hr.mono (by decide)) rfl T.g_is_number q0 b0 v0 tk (pa_cons (pv 0) pa_nil)))) (pw_or1 (pt_not (pt_chain op_leU op_leU (pe_int) (pv 0) (pe_gint rfl T.g_MOST_SIZE)))))) (pss_one (ps_rz rfl tk T.x_BadBits T.g_BadBits rfl)) pss_nil))
theorem fn_need_size {P : Program} {w : World} {K : PySem.W.Frag} {mg : Str → Option Value} {base : Heap} (T : Tx K mg) {f : Addr} {fd : FuncData} (F : FunD K d_need_size.name d_need_size.qual d_need_size.params d_need_size.body d_need_size.scope (d_need_size.dvs K) (d_need_size.kws K) f fd) :
    FnOk P w K mg base (L2.CX P w) 2 f fd ["size"] (sp_need_size K) :=
  F.ok sc_need_size (fun vs H Q E h => len_need_size h) (fun cdv A outer s H vs Q E hr h => ⟨t_need_size K (fun c d _ H2 => E c d H2), wk_need_size T (ok_is_number_1 T) hr, rd_need_size  h⟩)
theorem ok_need_size_1 {P : Program} {w : World} {K : PySem.W.Frag} {mg : Str → Option Value} {base : Heap} (T : Tx K mg) : DOk P w K mg base 2 (He.fAd K ("need_size", none)) ["size"] [] (sp_need_size K) := by
  obtain ⟨fd, F⟩ := T.d_need_size
  exact ⟨fd, [], .nil, FunD.bindsN F fun _ _ _ _ _ _ us hl => match us, hl with | [_], _ => rfl, fn_need_size T F, F.kp⟩
abbrev N_BitRow_put : List Str := ["self", "number", "size"]
theorem sc_BitRow_put : FnScope N_BitRow_put ["self", "number", "size"] (defScope s_BitRow_put) := ⟨rfl, rfl, rfl, by decide +kernel, rfl, by decide +kernel, by decide +kernel⟩
theorem wk_BitRow_put {P : Program} {w : World} {K : PySem.W.Frag} {mg : Str → Option Value} {base : Heap} (T : Tx K mg) (O0 : DOk P w K mg base 2 (He.fAd K ("need_size", none)) ["size"] [] (sp_need_size K)) (O1 : DOk P w K mg base 1 (He.fAd K ("is_number", none)) ["thing"] [] (sp_is_number K)) {f : Addr} {cdv : Value} {A : Around} {outer : List Env} {s : Shared} {H : Hp} {E : XK}
    (hr : Room 2 (A.deeper (envOfC "BitRow.put" (defScope s_BitRow_put) s.heap.objs.size f cdv))) :
    PSs (cxOf (L2.CX P w) P w K mg base N_BitRow_put "BitRow.put" (defScope s_BitRow_put) f cdv A outer s H E) (defBody s_BitRow_put) (t_BitRow_put K (fun c d _ H2 => E c d H2)) := by
  obtain ⟨fd0, ds0, v0, b0, G0, q0⟩ := O0
  obtain ⟨fd1, ds1, v1, b1, G1, q1⟩ := O1
  have hu1 := hu_of hr
  have hu64 := hr.units
  have tk : Takes (cxOf (L2.CX P w) P w K mg base N_BitRow_put "BitRow.put" (defScope s_BitRow_put) f cdv A outer s H E) (fun c d _ H2 => E c d H2) := takes_of rfl rfl rfl rfl
  exact (pss_cons (ps_expr (pe_cl G0 (hr.mono (by decide)) rfl T.g_need_size q0 b0 v0 tk (pa_cons (pv 2) pa_nil)))
    (pss_cons (ps_if (PW.pt (pw_or (pt_not (pt_val (pe_cl G1 (hr.mono (by decide)) rfl T.g_is_number q1 b1 v1 tk (pa_cons (pv 1) pa_nil)))) (pw_or (pt_cmpR op_ltU (pv 1) (pe_int) (nomark _)) (pw_or1 (pt_cmpR op_gtU (pe_op op_shrU (pv 1) (pv 2)) (pe_int) (nomark _)))))) (pss_one (ps_rz rfl tk T.x_BadBits T.g_BadBits rfl)) pss_nil)
    (pss_cons (ps_fld (pv 0) (pe_op op_orU (pe_op op_shlU (pe_fld (pv 0) rfl) (pv 2)) (pv 1)) rfl)
    (pss_cons (ps_fldaug (pv 0) (pv 2) in_add)
    (pss_one (ps_while (passes_of rfl) (pt_cmpR op_geU (pe_fld (pv 0) rfl) (pe_gint rfl T.g_BYTE) (nomark _)) (pss_cons (ps_fldaug (pv 0) (pe_gint rfl T.g_BYTE) in_sub)
    (pss_cons (ps_expr (pe_bm PySem.F.plainAttrs_list PySem.F.slot_list_append PySem.F.type_list_append mt_append (pe_fld (pv 0) rfl) (pa_cons (pe_op op_shrU (pe_fld (pv 0) rfl) (pe_fld (pv 0) rfl)) pa_nil)))
    (pss_one (ps_fld (pv 0) (pe_op op_andU (pe_fld (pv 0) rfl) (pe_op op_subU (pe_op op_shlU (pe_int) (pe_fld (pv 0) rfl)) (pe_int))) rfl))))))))))
theorem fn_BitRow_put {P : Program} {w : World} {K : PySem.W.Frag} {mg : Str → Option Value} {base : Heap} (T : Tx K mg) {f : Addr} {fd : FuncData} (F : FunD K d_BitRow_put.name d_BitRow_put.qual d_BitRow_put.params d_BitRow_put.body d_BitRow_put.scope (d_BitRow_put.dvs K) (d_BitRow_put.kws K) f fd) :
    FnOk P w K mg base (L2.CX P w) 3 f fd ["self", "number", "size"] (sp_BitRow_put K) :=
  F.ok sc_BitRow_put (fun vs H Q E h => len_BitRow_put h) (fun cdv A outer s H vs Q E hr h => ⟨t_BitRow_put K (fun c d _ H2 => E c d H2), wk_BitRow_put T (ok_need_size_1 T) (ok_is_number_1 T) hr, rd_BitRow_put (of_KBitRow T) h⟩)
theorem ok_BitRow_put_3 {P : Program} {w : World} {K : PySem.W.Frag} {mg : Str → Option Value} {base : Heap} (T : Tx K mg) : DOk P w K mg base 3 (He.fAd K ("BitRow", some "put")) ["self", "number", "size"] [] (sp_BitRow_put K) := by
  obtain ⟨fd, F⟩ := T.d_BitRow_put
  exact ⟨fd, [], .nil, FunD.bindsN F fun _ _ _ _ _ _ us hl => match us, hl with | [_, _, _], _ => rfl, fn_BitRow_put T F, F.kp⟩
abbrev N_RawWay_tell : List Str := ["self", "bits", "text", "before", "signs", "sign"]
theorem sc_RawWay_tell : FnScope N_RawWay_tell ["self", "bits", "text", "before"] (defScope s_RawWay_tell) := ⟨rfl, rfl, rfl, by decide +kernel, rfl, by decide +kernel, by decide +kernel⟩
theorem wk_RawWay_tell {P : Program} {w : World} {K : PySem.W.Frag} {mg : Str → Option Value} {base : Heap} (T : Tx K mg) (O0 : DOk P w K mg base 4 (He.fAd K ("need_text", none)) ["text"] [] (sp_need_text K)) (O1 : DOk P w K mg base 4 (He.fAd K ("need_window", none)) ["before"] [] (sp_need_window_ways K)) (O2 : DOk P w K mg base 3 (He.fAd K ("BitRow", some "put")) ["self", "number", "size"] [] (sp_BitRow_put K)) {f : Addr} {cdv : Value} {A : Around} {outer : List Env} {s : Shared} {H : Hp} {E : XK}
    (hr : Room 4 (A.deeper (envOfC "RawWay.tell" (defScope s_RawWay_tell) s.heap.objs.size f cdv))) :
    PSs (cxOf (L2.CX P w) P w K mg base N_RawWay_tell "RawWay.tell" (defScope s_RawWay_tell) f cdv A outer s H E) (defBody s_RawWay_tell) (t_RawWay_tell K (fun c d _ H2 => E c d H2)) := by
  obtain ⟨fd0, ds0, v0, b0, G0, q0⟩ := O0
  obtain ⟨fd1, ds1, v1, b1, G1, q1⟩ := O1
  obtain ⟨fd2, ds2, v2, b2, G2, q2⟩ := O2
  have hu1 := hu_of hr
  have hu64 := hr.units
  have tk : Takes (cxOf (L2.CX P w) P w K mg base N_RawWay_tell "RawWay.tell" (defScope s_RawWay_tell) f cdv A outer s H E) (fun c d _ H2 => E c d H2) := takes_of rfl rfl rfl rfl
  exact (pss_cons (ps_set (i := 4) sc_RawWay_tell.nd rfl (Or.inl rfl) (pe_cl G0 (hr.mono (by decide)) rfl T.g_need_text q0 b0 v0 tk (pa_cons (pv 2) pa_nil)))
    (pss_cons (ps_expr (pe_cl G1 (hr.mono (by decide)) rfl T.g_need_window q1 b1 v1 tk (pa_cons (pv 3) pa_nil)))
    (pss_one (ps_for (passes_of rfl) rfl (pi_list (pv 4)) (pg_name (i := 5) sc_RawWay_tell.nd rfl (Or.inl rfl)) (pss_one (ps_expr (pe_mt' (pv 1) T.c_BitRow T.m_BitRow_put G2 (hr.mono (by decide)) b2 v2 tk (pa_cons (pv 5) (pa_cons (pe_int) pa_nil)))))))))
theorem fn_RawWay_tell {P : Program} {w : World} {K : PySem.W.Frag} {mg : Str → Option Value} {base : Heap} (T : Tx K mg) {f : Addr} {fd : FuncData} (F : FunD K d_RawWay_tell.name d_RawWay_tell.qual d_RawWay_tell.params d_RawWay_tell.body d_RawWay_tell.scope (d_RawWay_tell.dvs K) (d_RawWay_tell.kws K) f fd) :
    FnOk P w K mg base (L2.CX P w) 5 f fd ["self", "bits", "text", "before"] (sp_RawWay_tell K) :=
  F.ok sc_RawWay_tell (fun vs H Q E h => len_RawWay_tell h) (fun cdv A outer s H vs Q E hr h => ⟨t_RawWay_tell K (fun c d _ H2 => E c d H2), wk_RawWay_tell T (ok_need_text_1 T) (ok_need_window_1 T) (ok_BitRow_put_3 T) hr, rd_RawWay_tell  h⟩)
theorem ok_RawWay_tell_4 {P : Program} {w : World} {K : PySem.W.Frag} {mg : Str → Option Value} {base : Heap} (T : Tx K mg) : DOk P w K mg base 5 (He.fAd K ("RawWay", some "tell")) ["self", "bits", "text", "before"] [] (sp_RawWay_tell K) := by
  obtain ⟨fd, F⟩ := T.d_RawWay_tell
  exact ⟨fd, [], .nil, FunD.bindsN F fun _ _ _ _ _ _ us hl => match us, hl with | [_, _, _, _], _ => rfl, fn_RawWay_tell T F, F.kp⟩
abbrev N_runs_of : List Str := ["signs", "found", "begin", "place"]
theorem sc_runs_of : FnScope N_runs_of ["signs"] (defScope s_runs_of) := ⟨rfl, rfl, rfl, by decide +kernel, rfl, by decide +kernel, by decide +kernel⟩
theorem wk_runs_of {P : Program} {w : World} {K : PySem.W.Frag} {mg : Str → Option Value} {base : Heap} (T : Tx K mg)  {f : Addr} {cdv : Value} {A : Around} {outer : List Env} {s : Shared} {H : Hp} {E : XK}
    (hr : Room 0 (A.deeper (envOfC "runs_of" (defScope s_runs_of) s.heap.objs.size f cdv))) :
    PSs (cxOf (L2.CX P w) P w K mg base N_runs_of "runs_of" (defScope s_runs_of) f cdv A outer s H E) (defBody s_runs_of) (t_runs_of K (fun c d _ H2 => E c d H2)) := by
  have hu1 := hu_of hr
  have hu64 := hr.units
  have tk : Takes (cxOf (L2.CX P w) P w K mg base N_runs_of "runs_of" (defScope s_runs_of) f cdv A outer s H E) (fun c d _ H2 => E c d H2) := takes_of rfl rfl rfl rfl
  exact (pss_cons (ps_set (i := 1) sc_runs_of.nd rfl (Or.inl rfl) (pe_lst pa_nil))
    (pss_cons (ps_set (i := 2) sc_runs_of.nd rfl (Or.inl rfl) (pe_int))
    (pss_cons (ps_for (passes_of rfl) rfl (pi_range2 rfl T.f_range (pa_cons (pe_int) (pa_cons (pe_op op_addU (pe_callB cr_lenK (by rfl) T.f_len bb_len (pa_cons (pv 0) pa_nil)) (pe_int)) pa_nil))) (pg_name (i := 3) sc_runs_of.nd rfl (Or.inl rfl)) (pss_one (ps_if (PW.pt (pw_or (pt_cmpR (op_eqU hu64) (pv 3) (pe_callB cr_lenK (by rfl) T.f_len bb_len (pa_cons (pv 0) pa_nil)) (nomark _)) (pw_or1 (pt_cmpR (op_neU hu64) (pe_ix ix_seq (pv 0) (pv 3) (fun _ _ => rfl)) (pe_ix ix_seq (pv 0) (pv 2) (fun _ _ => rfl)) (nomark _))))) (pss_cons (ps_expr (pe_bm PySem.F.plainAttrs_list PySem.F.slot_list_append PySem.F.type_list_append mt_append (pv 1) (pa_cons (pe_tup (pa_cons (pe_op op_subU (pv 3) (pv 2)) (pa_cons (pe_ix ix_seq (pv 0) (pv 2) (fun _ _ => rfl)) pa_nil))) pa_nil)))
    (pss_one (ps_set (i := 2) sc_runs_of.nd rfl (Or.inl rfl) (pv 3)))) pss_nil)))
    (pss_one (ps_ret (pv 1))))))
theorem fn_runs_of {P : Program} {w : World} {K : PySem.W.Frag} {mg : Str → Option Value} {base : Heap} (T : Tx K mg) {f : Addr} {fd : FuncData} (F : FunD K d_runs_of.name d_runs_of.qual d_runs_of.params d_runs_of.body d_runs_of.scope (d_runs_of.dvs K) (d_runs_of.kws K) f fd) :
    FnOk P w K mg base (L2.CX P w) 1 f fd ["signs"] (sp_runs_of K) :=
  F.ok sc_runs_of (fun vs H Q E h => len_runs_of h) (fun cdv A outer s H vs Q E hr h => ⟨t_runs_of K (fun c d _ H2 => E c d H2), wk_runs_of T  hr, rd_runs_of  h⟩)
theorem ok_runs_of_1 {P : Program} {w : World} {K : PySem.W.Frag} {mg : Str → Option Value} {base : Heap} (T : Tx K mg) : DOk P w K mg base 1 (He.fAd K ("runs_of", none)) ["signs"] [] (sp_runs_of K) := by
  obtain ⟨fd, F⟩ := T.d_runs_of
  exact ⟨fd, [], .nil, FunD.bindsN F fun _ _ _ _ _ _ us hl => match us, hl with | [_], _ => rfl, fn_runs_of T F, F.kp⟩
abbrev N_RunWay_tell : List Str := ["self", "bits", "text", "before", "signs", "many", "sign"]
theorem sc_RunWay_tell : FnScope N_RunWay_tell ["self", "bits", "text", "before"] (defScope s_RunWay_tell) := ⟨rfl, rfl, rfl, by decide +kernel, rfl, by decide +kernel, by decide +kernel⟩
theorem wk_RunWay_tell {P : Program} {w : World} {K : PySem.W.Frag} {mg : Str → Option Value} {base : Heap} (T : Tx K mg) (O0 : DOk P w K mg base 4 (He.fAd K ("need_text", none)) ["text"] [] (sp_need_text K)) (O1 : DOk P w K mg base 4 (He.fAd K ("need_window", none)) ["before"] [] (sp_need_window_ways K)) (O2 : DOk P w K mg base 1 (He.fAd K ("runs_of", none)) ["signs"] [] (sp_runs_of K)) (O3 : DOk P w K mg base 3 (He.fAd K ("BitRow", some "put")) ["self", "number", "size"] [] (sp_BitRow_put K)) {f : Addr} {cdv : Value} {A : Around} {outer : List Env} {s : Shared} {H : Hp} {E : XK}
    (hr : Room 4 (A.deeper (envOfC "RunWay.tell" (defScope s_RunWay_tell) s.heap.objs.size f cdv))) :
    PSs (cxOf (L2.CX P w) P w K mg base N_RunWay_tell "RunWay.tell" (defScope s_RunWay_tell) f cdv A outer s H E) (defBody s_RunWay_tell) (t_RunWay_tell K (fun c d _ H2 => E c d H2)) := by
  obtain ⟨fd0, ds0, v0, b0, G0, q0⟩ := O0
  obtain ⟨fd1, ds1, v1, b1, G1, q1⟩ := O1
  obtain ⟨fd2, ds2, v2, b2, G2, q2⟩ := O2
  obtain ⟨fd3, ds3, v3, b3, G3, q3⟩ := O3
  have hu1 := hu_of hr
  have hu64 := hr.units
  have tk : Takes (cxOf (L2.CX P w) P w K mg base N_RunWay_tell "RunWay.tell" (defScope s_RunWay_tell) f cdv A outer s H E) (fun c d _ H2 => E c d H2) := takes_of rfl rfl rfl rfl
  exact (pss_cons (ps_set (i := 4) sc_RunWay_tell.nd rfl (Or.inl rfl) (pe_cl G0 (hr.mono (by decide)) rfl T.g_need_text q0 b0 v0 tk (pa_cons (pv 2) pa_nil)))
    (pss_cons (ps_expr (pe_cl G1 (hr.mono (by decide)) rfl T.g_need_window q1 b1 v1 tk (pa_cons (pv 3) pa_nil)))
    (pss_one (ps_for (passes_of rfl) rfl (pi_list (pe_cl G2 (hr.mono (by decide)) rfl T.g_runs_of q2 b2 v2 tk (pa_cons (pv 4) pa_nil))) (pg_tup rfl (pgs_cons (pg_name (i := 5) sc_RunWay_tell.nd rfl (Or.inl rfl)) (pgs_cons (pg_name (i := 6) sc_RunWay_tell.nd rfl (Or.inl rfl)) pgs_nil))) (pss_cons (ps_expr (pe_mt' (pv 1) T.c_BitRow T.m_BitRow_put G3 (hr.mono (by decide)) b3 v3 tk (pa_cons (pe_op op_subU (pv 5) (pe_int)) (pa_cons (pe_int) pa_nil))))
    (pss_one (ps_expr (pe_mt' (pv 1) T.c_BitRow T.m_BitRow_put G3 (hr.mono (by decide)) b3 v3 tk (pa_cons (pv 6) (pa_cons (pe_int) pa_nil))))))))))
theorem fn_RunWay_tell {P : Program} {w : World} {K : PySem.W.Frag} {mg : Str → Option Value} {base : Heap} (T : Tx K mg) {f : Addr} {fd : FuncData} (F : FunD K d_RunWay_tell.name d_RunWay_tell.qual d_RunWay_tell.params d_RunWay_tell.body d_RunWay_tell.scope (d_RunWay_tell.dvs K) (d_RunWay_tell.kws K) f fd) :
    FnOk P w K mg base (L2.CX P w) 5 f fd ["self", "bits", "text", "before"] (sp_RunWay_tell K) :=
  F.ok sc_RunWay_tell (fun vs H Q E h => len_RunWay_tell h) (fun cdv A outer s H vs Q E hr h => ⟨t_RunWay_tell K (fun c d _ H2 => E c d H2), wk_RunWay_tell T (ok_need_text_1 T) (ok_need_window_1 T) (ok_runs_of_1 T) (ok_BitRow_put_3 T) hr, rd_RunWay_tell  h⟩)
theorem ok_RunWay_tell_4 {P : Program} {w : World} {K : PySem.W.Frag} {mg : Str → Option Value} {base : Heap} (T : Tx K mg) : DOk P w K mg base 5 (He.fAd K ("RunWay", some "tell")) ["self", "bits", "text", "before"] [] (sp_RunWay_tell K) := by
  obtain ⟨fd, F⟩ := T.d_RunWay_tell
  exact ⟨fd, [], .nil, FunD.bindsN F fun _ _ _ _ _ _ us hl => match us, hl with | [_, _, _, _], _ => rfl, fn_RunWay_tell T F, F.kp⟩
abbrev N_BitRow_many : List Str := ["self"]
theorem sc_BitRow_many : FnScope N_BitRow_many ["self"] (defScope s_BitRow_many) := ⟨rfl, rfl, rfl, by decide +kernel, rfl, by decide +kernel, by decide +kernel⟩
theorem wk_BitRow_many {P : Program} {w : World} {K : PySem.W.Frag} {mg : Str → Option Value} {base : Heap} (T : Tx K mg)  {f : Addr} {cdv : Value} {A : Around} {outer : List Env} {s : Shared} {H : Hp} {E : XK}
    (hr : Room 0 (A.deeper (envOfC "BitRow.many" (defScope s_BitRow_many) s.heap.objs.size f cdv))) :
    PSs (cxOf (L2.CX P w) P w K mg base N_BitRow_many "BitRow.many" (defScope s_BitRow_many) f cdv A outer s H E) (defBody s_BitRow_many) (t_BitRow_many K (fun c d _ H2 => E c d H2)) := by
  have hu1 := hu_of hr
  have hu64 := hr.units
  have tk : Takes (cxOf (L2.CX P w) P w K mg base N_BitRow_many "BitRow.many" (defScope s_BitRow_many) f cdv A outer s H E) (fun c d _ H2 => E c d H2) := takes_of rfl rfl rfl rfl
  exact (pss_one (ps_ret (pe_op op_addU (pe_op op_mulU (pe_gint rfl T.g_BYTE) (pe_callB cr_lenK (by rfl) T.f_len bb_len (pa_cons (pe_fld (pv 0) rfl) pa_nil))) (pe_fld (pv 0) rfl))))
theorem fn_BitRow_many {P : Program} {w : World} {K : PySem.W.Frag} {mg : Str → Option Value} {base : Heap} (T : Tx K mg) {f : Addr} {fd : FuncData} (F : FunD K d_BitRow_many.name d_BitRow_many.qual d_BitRow_many.params d_BitRow_many.body d_BitRow_many.scope (d_BitRow_many.dvs K) (d_BitRow_many.kws K) f fd) :
    FnOk P w K mg base (L2.CX P w) 1 f fd ["self"] (sp_BitRow_many K) :=
  F.ok sc_BitRow_many (fun vs H Q E h => len_BitRow_many h) (fun cdv A outer s H vs Q E hr h => ⟨t_BitRow_many K (fun c d _ H2 => E c d H2), wk_BitRow_many T  hr, rd_BitRow_many (of_KBitRow T) h⟩)
theorem ok_BitRow_many_1 {P : Program} {w : World} {K : PySem.W.Frag} {mg : Str → Option Value} {base : Heap} (T : Tx K mg) : DOk P w K mg base 1 (He.fAd K ("BitRow", some "many")) ["self"] [] (sp_BitRow_many K) := by
  obtain ⟨fd, F⟩ := T.d_BitRow_many
  exact ⟨fd, [], .nil, FunD.bindsN F fun _ _ _ _ _ _ us hl => match us, hl with | [_], _ => rfl, fn_BitRow_many T F, F.kp⟩
abbrev N_Way_cost : List Str := ["self", "text", "before", "bits"]
theorem sc_Way_cost : FnScope N_Way_cost ["self", "text", "before"] (defScope s_Way_cost) := ⟨rfl, rfl, rfl, by decide +kernel, rfl, by decide +kernel, by decide +kernel⟩
theorem wk_Way_cost {P : Program} {w : World} {K : PySem.W.Frag} {mg : Str → Option Value} {base : Heap} (T : Tx K mg) (O0 : DOk P w K mg base 1 (He.fAd K ("BitRow", some "__init__")) ["self"] [] (sp_BitRow___init__ K)) (O1 : DOk P w K mg base 5 (He.fAd K ("Way", some "tell")) ["self", "bits", "text", "before"] [] (sp_Way_tell K)) (O2 : DOk P w K mg base 5 (He.fAd K ("RawWay", some "tell")) ["self", "bits", "text", "before"] [] (sp_RawWay_tell K)) (O3 : DOk P w K mg base 5 (He.fAd K ("RunWay", some "tell")) ["self", "bits", "text", "before"] [] (sp_RunWay_tell K)) (O4 : DOk P w K mg base 1 (He.fAd K ("BitRow", some "many")) ["self"] [] (sp_BitRow_many K)) {f : Addr} {cdv : Value} {A : Around} {outer : List Env} {s : Shared} {H : Hp} {E : XK}
    (hr : Room 5 (A.deeper (envOfC "Way.cost" (defScope s_Way_cost) s.heap.objs.size f cdv))) :
    PSs (cxOf (L2.CX P w) P w K mg base N_Way_cost "Way.cost" (defScope s_Way_cost) f cdv A outer s H E) (defBody s_Way_cost) (t_Way_cost K (fun c d _ H2 => E c d H2)) := by
  obtain ⟨fd0, ds0, v0, b0, G0, q0⟩ := O0
  obtain ⟨fd1, ds1, v1, b1, G1, q1⟩ := O1
  obtain ⟨fd2, ds2, v2, b2, G2, q2⟩ := O2
  obtain ⟨fd3, ds3, v3, b3, G3, q3⟩ := O3
  obtain ⟨fd4, ds4, v4, b4, G4, q4⟩ := O4
  have hu1 := hu_of hr
  have hu64 := hr.units
  have tk : Takes (cxOf (L2.CX P w) P w K mg base N_Way_cost "Way.cost" (defScope s_Way_cost) f cdv A outer s H E) (fun c d _ H2 => E c d H2) := takes_of rfl rfl rfl rfl
  exact (pss_cons (ps_set (i := 3) sc_Way_cost.nd rfl (Or.inl rfl) (pe_mk0' T.k_BitRow G0 (hr.mono (by decide)) rfl T.g_BitRow b0 v0 tk))
    (pss_cons (ps_expr (pe_orE (pe_mt' (pv 0) T.c_Way T.m_Way_tell G1 (hr.mono (by decide)) b1 v1 tk (pa_cons (pv 3) (pa_cons (pv 1) (pa_cons (pv 2) pa_nil)))) (pe_orE (pe_mt' (pv 0) T.c_RawWay T.m_RawWay_tell G2 (hr.mono (by decide)) b2 v2 tk (pa_cons (pv 3) (pa_cons (pv 1) (pa_cons (pv 2) pa_nil)))) (pe_mt' (pv 0) T.c_RunWay T.m_RunWay_tell G3 (hr.mono (by decide)) b3 v3 tk (pa_cons (pv 3) (pa_cons (pv 1) (pa_cons (pv 2) pa_nil)))))))
    (pss_one (ps_ret (pe_mt0' (pv 3) T.c_BitRow T.m_BitRow_many G4 (hr.mono (by decide)) b4 v4 tk)))))
theorem fn_Way_cost {P : Program} {w : World} {K : PySem.W.Frag} {mg : Str → Option Value} {base : Heap} (T : Tx K mg) {f : Addr} {fd : FuncData} (F : FunD K d_Way_cost.name d_Way_cost.qual d_Way_cost.params d_Way_cost.body d_Way_cost.scope (d_Way_cost.dvs K) (d_Way_cost.kws K) f fd) :
    FnOk P w K mg base (L2.CX P w) 6 f fd ["self", "text", "before"] (sp_Way_cost K) :=
  F.ok sc_Way_cost (fun vs H Q E h => len_Way_cost h) (fun cdv A outer s H vs Q E hr h => ⟨t_Way_cost K (fun c d _ H2 => E c d H2), wk_Way_cost T (ok_BitRow___init___1 T) (ok_Way_tell_4 T) (ok_RawWay_tell_4 T) (ok_RunWay_tell_4 T) (ok_BitRow_many_1 T) hr, rd_Way_cost  h⟩)
theorem ok_Way_cost_3 {P : Program} {w : World} {K : PySem.W.Frag} {mg : Str → Option Value} {base : Heap} (T : Tx K mg) : DOk P w K mg base 6 (He.fAd K ("Way", some "cost")) ["self", "text", "before"] [] (sp_Way_cost K) := by
  obtain ⟨fd, F⟩ := T.d_Way_cost
  exact ⟨fd, [], .nil, FunD.bindsN F fun _ _ _ _ _ _ us hl => match us, hl with | [_, _, _], _ => rfl, fn_Way_cost T F, F.kp⟩
abbrev N_BitRow_row : List Str := ["self"]
theorem sc_BitRow_row : FnScope N_BitRow_row ["self"] (defScope s_BitRow_row) := ⟨rfl, rfl, rfl, by decide +kernel, rfl, by decide +kernel, by decide +kernel⟩
theorem wk_BitRow_row {P : Program} {w : World} {K : PySem.W.Frag} {mg : Str → Option Value} {base : Heap} (T : Tx K mg)  {f : Addr} {cdv : Value} {A : Around} {outer : List Env} {s : Shared} {H : Hp} {E : XK}
    (hr : Room 0 (A.deeper (envOfC "BitRow.row" (defScope s_BitRow_row) s.heap.objs.size f cdv))) :
    PSs (cxOf (L2.CX P w) P w K mg base N_BitRow_row "BitRow.row" (defScope s_BitRow_row) f cdv A outer s H E) (defBody s_BitRow_row) (t_BitRow_row K (fun c d _ H2 => E c d H2)) := by
  have hu1 := hu_of hr
  have hu64 := hr.units
  have tk : Takes (cxOf (L2.CX P w) P w K mg base N_BitRow_row "BitRow.row" (defScope s_BitRow_row) f cdv A outer s H E) (fun c d _ H2 => E c d H2) := takes_of rfl rfl rfl rfl
  exact (pss_cons (ps_if (pt_cmpR (op_eqU hu64) (pe_fld (pv 0) rfl) (pe_int) (nomark _)) (pss_one (ps_ret (pe_callTy cr_listK (by rfl) T.f_list bt_list (pa_cons (pe_fld (pv 0) rfl) pa_nil)))) pss_nil)
    (pss_one (ps_ret (pe_op op_addU (pe_fld (pv 0) rfl) (pe_lst (pa_cons (pe_op op_shlU (pe_fld (pv 0) rfl) (pe_op op_subU (pe_gint rfl T.g_BYTE) (pe_fld (pv 0) rfl))) pa_nil))))))
theorem fn_BitRow_row {P : Program} {w : World} {K : PySem.W.Frag} {mg : Str → Option Value} {base : Heap} (T : Tx K mg) {f : Addr} {fd : FuncData} (F : FunD K d_BitRow_row.name d_BitRow_row.qual d_BitRow_row.params d_BitRow_row.body d_BitRow_row.scope (d_BitRow_row.dvs K) (d_BitRow_row.kws K) f fd) :
    FnOk P w K mg base (L2.CX P w) 1 f fd ["self"] (sp_BitRow_row K) :=
  F.ok sc_BitRow_row (fun vs H Q E h => len_BitRow_row h) (fun cdv A outer s H vs Q E hr h => ⟨t_BitRow_row K (fun c d _ H2 => E c d H2), wk_BitRow_row T  hr, rd_BitRow_row (of_KBitRow T) h⟩)
theorem ok_BitRow_row_1 {P : Program} {w : World} {K : PySem.W.Frag} {mg : Str → Option Value} {base : Heap} (T : Tx K mg) : DOk P w K mg base 1 (He.fAd K ("BitRow", some "row")) ["self"] [] (sp_BitRow_row K) := by
  obtain ⟨fd, F⟩ := T.d_BitRow_row
  exact ⟨fd, [], .nil, FunD.bindsN F fun _ _ _ _ _ _ us hl => match us, hl with | [_], _ => rfl, fn_BitRow_row T F, F.kp⟩
abbrev N__law_row_of : List Str := ["_law_digits_here", "_law_found", "_law_filled", "_law_k", "_law_number", "_law_digit"]
theorem sc__law_row_of : FnScope N__law_row_of ["_law_digits_here"] (defScope s__law_row_of) := ⟨rfl, rfl, rfl, by decide +kernel, rfl, by decide +kernel, by decide +kernel⟩
theorem wk__law_row_of {P : Program} {w : World} {K : PySem.W.Frag} {mg : Str → Option Value} {base : Heap} (T : Tx K mg)  {f : Addr} {cdv : Value} {A : Around} {outer : List Env} {s : Shared} {H : Hp} {E : XK}
    (hr : Room 0 (A.deeper (envOfC "_law_row_of" (defScope s__law_row_of) s.heap.objs.size f cdv))) :
    PSs (cxOf (L2.CX P w) P w K mg base N__law_row_of "_law_row_of" (defScope s__law_row_of) f cdv A outer s H E) (defBody s__law_row_of) (t__law_row_of K (fun c d _ H2 => E c d H2)) := by
  have hu1 := hu_of hr
  have hu64 := hr.units
  have tk : Takes (cxOf (L2.CX P w) P w K mg base N__law_row_of "_law_row_of" (defScope s__law_row_of) f cdv A outer s H E) (fun c d _ H2 => E c d H2) := takes_of rfl rfl rfl rfl
  exact (pss_cons (ps_set (i := 1) sc__law_row_of.nd rfl (Or.inl rfl) (pe_lst pa_nil))
    (pss_cons (ps_set (i := 2) sc__law_row_of.nd rfl (Or.inl rfl) (pe_op op_addU (pv 0) (pe_op op_mulU (pe_str) (pe_op op_modU (pe_op op_subU (pe_int) (pe_op op_modU (pe_callB cr_lenK (by rfl) T.f_len bb_len (pa_cons (pv 0) pa_nil)) (pe_int))) (pe_int)))))
    (pss_cons (ps_for (passes_of rfl) rfl (pi_range3 rfl T.f_range (pa_cons (pe_int) (pa_cons (pe_callB cr_lenK (by rfl) T.f_len bb_len (pa_cons (pv 2) pa_nil)) (pa_cons (pe_int) pa_nil)))) (pg_name (i := 3) sc__law_row_of.nd rfl (Or.inl rfl)) (pss_cons (ps_set (i := 4) sc__law_row_of.nd rfl (Or.inl rfl) (pe_int))
    (pss_cons (ps_for (passes_of rfl) rfl (pi_str (pe_slice sl_K (pv 2) (po_some (pv 3)) (po_some (pe_op op_addU (pv 3) (pe_int))))) (pg_name (i := 5) sc__law_row_of.nd rfl (Or.inl rfl)) (pss_one (ps_set (i := 4) sc__law_row_of.nd rfl (Or.inl rfl) (pe_op op_addU (pe_op op_mulU (pe_int) (pv 4)) (pe_callTy cr_intK (by rfl) T.f_int bt_int (pa_cons (pe_cmpR (op_eqU hu64) (pv 5) (pe_str) (nomark _)) pa_nil))))))
    (pss_one (ps_expr (pe_bm PySem.F.plainAttrs_list PySem.F.slot_list_append PySem.F.type_list_append mt_append (pv 1) (pa_cons (pv 4) pa_nil)))))))
    (pss_one (ps_ret (pv 1))))))
theorem fn__law_row_of {P : Program} {w : World} {K : PySem.W.Frag} {mg : Str → Option Value} {base : Heap} (T : Tx K mg) {f : Addr} {fd : FuncData} (F : FunD K d__law_row_of.name d__law_row_of.qual d__law_row_of.params d__law_row_of.body d__law_row_of.scope (d__law_row_of.dvs K) (d__law_row_of.kws K) f fd) :
    FnOk P w K mg base (L2.CX P w) 1 f fd ["_law_digits_here"] (sp__law_row_of K) :=
  F.ok sc__law_row_of (fun vs H Q E h => len__law_row_of h) (fun cdv A outer s H vs Q E hr h => ⟨t__law_row_of K (fun c d _ H2 => E c d H2), wk__law_row_of T  hr, rd__law_row_of  h⟩)
theorem ok__law_row_of_1 {P : Program} {w : World} {K : PySem.W.Frag} {mg : Str → Option Value} {base : Heap} (T : Tx K mg) : DOk P w K mg base 1 (He.fAd K ("_law_row_of", none)) ["_law_digits_here"] [] (sp__law_row_of K) := by
  obtain ⟨fd, F⟩ := T.d__law_row_of
  exact ⟨fd, [], .nil, FunD.bindsN F fun _ _ _ _ _ _ us hl => match us, hl with | [_], _ => rfl, fn__law_row_of T F, F.kp⟩
abbrev N__law_told : List Str := ["_law_way", "_law_ahead", "_law_handed", "_law_due", "_law_bits"]
theorem sc__law_told : FnScope N__law_told ["_law_way", "_law_ahead", "_law_handed", "_law_due"] (defScope s__law_told) := ⟨rfl, rfl, rfl, by decide +kernel, rfl, by decide +kernel, by decide +kernel⟩
theorem wk__law_told {P : Program} {w : World} {K : PySem.W.Frag} {mg : Str → Option Value} {base : Heap} (T : Tx K mg) (O0 : DOk P w K mg base 1 (He.fAd K ("BitRow", some "__init__")) ["self"] [] (sp_BitRow___init__ K)) (O1 : DOk P w K mg base 3 (He.fAd K ("BitRow", some "put")) ["self", "number", "size"] [] (sp_BitRow_put K)) (O2 : DOk P w K mg base 5 (He.fAd K ("Way", some "tell")) ["self", "bits", "text", "before"] [] (sp_Way_tell K)) (O3 : DOk P w K mg base 5 (He.fAd K ("RawWay", some "tell")) ["self", "bits", "text", "before"] [] (sp_RawWay_tell K)) (O4 : DOk P w K mg base 5 (He.fAd K ("RunWay", some "tell")) ["self", "bits", "text", "before"] [] (sp_RunWay_tell K)) (O5 : DOk P w K mg base 1 (He.fAd K ("BitRow", some "many")) ["self"] [] (sp_BitRow_many K)) (O6 : DOk P w K mg base 1 (He.fAd K ("BitRow", some "row")) ["self"] [] (sp_BitRow_row K)) (O7 : DOk P w K mg base 1 (He.fAd K ("_law_row_of", none)) ["_law_digits_here"] [] (sp__law_row_of K)) (O8 : DOk P w K mg base 1 (He.fAd K ("_law_digits", none)) ["_law_parts"] [] (sp__law_digits K)) {f : Addr} {cdv : Value} {A : Around} {outer : List Env} {s : Shared} {H : Hp} {E : XK}
    (hr : Room 5 (A.deeper (envOfC "_law_told" (defScope s__law_told) s.heap.objs.size f cdv))) :
    PSs (cxOf (L2.CX P w) P w K mg base N__law_told "_law_told" (defScope s__law_told) f cdv A outer s H E) (defBody s__law_told) (t__law_told K (fun c d _ H2 => E c d H2)) := by
  obtain ⟨fd0, ds0, v0, b0, G0, q0⟩ := O0
  obtain ⟨fd1, ds1, v1, b1, G1, q1⟩ := O1
  obtain ⟨fd2, ds2, v2, b2, G2, q2⟩ := O2
  obtain ⟨fd3, ds3, v3, b3, G3, q3⟩ := O3
  obtain ⟨fd4, ds4, v4, b4, G4, q4⟩ := O4
  obtain ⟨fd5, ds5, v5, b5, G5, q5⟩ := O5
  obtain ⟨fd6, ds6, v6, b6, G6, q6⟩ := O6
  obtain ⟨fd7, ds7, v7, b7, G7, q7⟩ := O7
  obtain ⟨fd8, ds8, v8, b8, G8, q8⟩ := O8
  have hu1 := hu_of hr
  have hu64 := hr.units
  have tk : Takes (cxOf (L2.CX P w) P w K mg base N__law_told "_law_told" (defScope s__law_told) f cdv A outer s H E) (fun c d _ H2 => E c d H2) := takes_of rfl rfl rfl rfl
  exact (pss_cons (ps_set (i := 4) sc__law_told.nd rfl (Or.inl rfl) (pe_mk0' T.k_BitRow G0 (hr.mono (by decide)) rfl T.g_BitRow b0 v0 tk))
    (pss_cons (ps_expr (pe_mt' (pv 4) T.c_BitRow T.m_BitRow_put G1 (hr.mono (by decide)) b1 v1 tk (pa_cons (pe_ix ix_seq (pv 1) (pe_int) (fun _ _ => rfl)) (pa_cons (pe_ix ix_seq (pv 1) (pe_int) (fun _ _ => rfl)) pa_nil))))
    (pss_cons (ps_if (pt_cmpR op_notU (pe_orE (pe_mt' (pv 0) T.c_Way T.m_Way_tell G2 (hr.mono (by decide)) b2 v2 tk (pa_cons (pv 4) (pa_cons (pe_ix ix_seq (pv 2) (pe_int) (fun _ _ => rfl)) (pa_cons (pe_ix ix_seq (pv 2) (pe_int) (fun _ _ => rfl)) pa_nil)))) (pe_orE (pe_mt' (pv 0) T.c_RawWay T.m_RawWay_tell G3 (hr.mono (by decide)) b3 v3 tk (pa_cons (pv 4) (pa_cons (pe_ix ix_seq (pv 2) (pe_int) (fun _ _ => rfl)) (pa_cons (pe_ix ix_seq (pv 2) (pe_int) (fun _ _ => rfl)) pa_nil)))) (pe_mt' (pv 0) T.c_RunWay T.m_RunWay_tell G4 (hr.mono (by decide)) b4 v4 tk (pa_cons (pv 4) (pa_cons (pe_ix ix_seq (pv 2) (pe_int) (fun _ _ => rfl)) (pa_cons (pe_ix ix_seq (pv 2) (pe_int) (fun _ _ => rfl)) pa_nil)))))) (pe_non) (nomark _)) (pss_one (ps_ret (pe_bl))) pss_nil)
    (pss_one (ps_ret ((pe_and (pe_cmpR (op_eqU hu64) (pe_mt0' (pv 4) T.c_BitRow T.m_BitRow_many G5 (hr.mono (by decide)) b5 v5 tk) (pe_op op_addU (pe_ix ix_seq (pv 1) (pe_int) (fun _ _ => rfl)) (pe_callB cr_lenK (by rfl) T.f_len bb_len (pa_cons (pv 3) pa_nil))) (nomark _)) (pe_one (pe_cmpR (op_eqU hu64) (pe_mt0' (pv 4) T.c_BitRow T.m_BitRow_row G6 (hr.mono (by decide)) b6 v6 tk) (pe_cl G7 (hr.mono (by decide)) rfl T.g__law_row_of q7 b7 v7 tk (pa_cons (pe_op op_addU (pe_cl G8 (hr.mono (by decide)) rfl T.g__law_digits q8 b8 v8 tk (pa_cons (pe_lst (pa_cons (pv 1) pa_nil)) pa_nil)) (pv 3)) pa_nil)) (nomark _))))))))))
theorem fn__law_told {P : Program} {w : World} {K : PySem.W.Frag} {mg : Str → Option Value} {base : Heap} (T : Tx K mg) {f : Addr} {fd : FuncData} (F : FunD K d__law_told.name d__law_told.qual d__law_told.params d__law_told.body d__law_told.scope (d__law_told.dvs K) (d__law_told.kws K) f fd) :
    FnOk P w K mg base (L2.CX P w) 6 f fd ["_law_way", "_law_ahead", "_law_handed", "_law_due"] (sp__law_told K) :=
  F.ok sc__law_told (fun vs H Q E h => len__law_told h) (fun cdv A outer s H vs Q E hr h => ⟨t__law_told K (fun c d _ H2 => E c d H2), wk__law_told T (ok_BitRow___init___1 T) (ok_BitRow_put_3 T) (ok_Way_tell_4 T) (ok_RawWay_tell_4 T) (ok_RunWay_tell_4 T) (ok_BitRow_many_1 T) (ok_BitRow_row_1 T) (ok__law_row_of_1 T) (ok__law_digits_1 T) hr, rd__law_told  h⟩)
theorem ok__law_told_4 {P : Program} {w : World} {K : PySem.W.Frag} {mg : Str → Option Value} {base : Heap} (T : Tx K mg) : DOk P w K mg base 6 (He.fAd K ("_law_told", none)) ["_law_way", "_law_ahead", "_law_handed", "_law_due"] [] (sp__law_told K) := by
  obtain ⟨fd, F⟩ := T.d__law_told
  exact ⟨fd, [], .nil, FunD.bindsN F fun _ _ _ _ _ _ us hl => match us, hl with | [_, _, _, _], _ => rfl, fn__law_told T F, F.kp⟩
abbrev N_BitReader___init__ : List Str := ["self", "row"]
theorem sc_BitReader___init__ : FnScope N_BitReader___init__ ["self", "row"] (defScope s_BitReader___init__) := ⟨rfl, rfl, rfl, by decide +kernel, rfl, by decide +kernel, by decide +kernel⟩
theorem wk_BitReader___init__ {P : Program} {w : World} {K : PySem.W.Frag} {mg : Str → Option Value} {base : Heap} (T : Tx K mg) (O0 : DOk P w K mg base 3 (He.fAd K ("need_row", none)) ["thing"] [] (sp_need_row K)) {f : Addr} {cdv : Value} {A : Around} {outer : List Env} {s : Shared} {H : Hp} {E : XK}
    (hr : Room 3 (A.deeper (envOfC "BitReader.__init__" (defScope s_BitReader___init__) s.heap.objs.size f cdv))) :
    PSs (cxOf (L2.CX P w) P w K mg base N_BitReader___init__ "BitReader.__init__" (defScope s_BitReader___init__) f cdv A outer s H E) (defBody s_BitReader___init__) (t_BitReader___init__ K (fun c d _ H2 => E c d H2)) := by
  obtain ⟨fd0, ds0, v0, b0, G0, q0⟩ := O0
  have hu1 := hu_of hr
  have hu64 := hr.units
  have tk : Takes (cxOf (L2.CX P w) P w K mg base N_BitReader___init__ "BitReader.__init__" (defScope s_BitReader___init__) f cdv A outer s H E) (fun c d _ H2 => E c d H2) := takes_of rfl rfl rfl rfl
  exact (pss_cons (ps_fld (pv 0) (pe_cl G0 (hr.mono (by decide)) rfl T.g_need_row q0 b0 v0 tk (pa_cons (pv 1) pa_nil)) rfl)
    (pss_one (ps_fld (pv 0) (pe_int) rfl)))
theorem fn_BitReader___init__ {P : Program} {w : World} {K : PySem.W.Frag} {mg : Str → Option Value} {base : Heap} (T : Tx K mg) {f : Addr} {fd : FuncData} (F : FunD K d_BitReader___init__.name d_BitReader___init__.qual d_BitReader___init__.params d_BitReader___init__.body d_BitReader___init__.scope (d_BitReader___init__.dvs K) (d_BitReader___init__.kws K) f fd) :
    FnOk P w K mg base (L2.CX P w) 4 f fd ["self", "row"] (sp_BitReader___init__ K) :=
  F.ok sc_BitReader___init__ (fun vs H Q E h => len_BitReader___init__ h) (fun cdv A outer s H vs Q E hr h => ⟨t_BitReader___init__ K (fun c d _ H2 => E c d H2), wk_BitReader___init__ T (ok_need_row_1 T) hr, rd_BitReader___init__ (of_KBitReader T) h⟩)
theorem ok_BitReader___init___2 {P : Program} {w : World} {K : PySem.W.Frag} {mg : Str → Option Value} {base : Heap} (T : Tx K mg) : DOk P w K mg base 4 (He.fAd K ("BitReader", some "__init__")) ["self", "row"] [] (sp_BitReader___init__ K) := by
  obtain ⟨fd, F⟩ := T.d_BitReader___init__
  exact ⟨fd, [], .nil, FunD.bindsN F fun _ _ _ _ _ _ us hl => match us, hl with | [_, _], _ => rfl, fn_BitReader___init__ T F, F.kp⟩
abbrev N_BitReader_left : List Str := ["self"]
theorem sc_BitReader_left : FnScope N_BitReader_left ["self"] (defScope s_BitReader_left) := ⟨rfl, rfl, rfl, by decide +kernel, rfl, by decide +kernel, by decide +kernel⟩
theorem wk_BitReader_left {P : Program} {w : World} {K : PySem.W.Frag} {mg : Str → Option Value} {base : Heap} (T : Tx K mg)  {f : Addr} {cdv : Value} {A : Around} {outer : List Env} {s : Shared} {H : Hp} {E : XK}
    (hr : Room 0 (A.deeper (envOfC "BitReader.left" (defScope s_BitReader_left) s.heap.objs.size f cdv))) :
    PSs (cxOf (L2.CX P w) P w K mg base N_BitReader_left "BitReader.left" (defScope s_BitReader_left) f cdv A outer s H E) (defBody s_BitReader_left) (t_BitReader_left K (fun c d _ H2 => E c d H2)) := by
  have hu1 := hu_of hr
  have hu64 := hr.units
  have tk : Takes (cxOf (L2.CX P w) P w K mg base N_BitReader_left "BitReader.left" (defScope s_BitReader_left) f cdv A outer s H E) (fun c d _ H2 => E c d H2) := takes_of rfl rfl rfl rfl
  exact (pss_one (ps_ret (pe_op op_subU (pe_op op_mulU (pe_gint rfl T.g_BYTE) (pe_callB cr_lenK (by rfl) T.f_len bb_len (pa_cons (pe_fld (pv 0) rfl) pa_nil))) (pe_fld (pv 0) rfl))))
theorem fn_BitReader_left {P : Program} {w : World} {K : PySem.W.Frag} {mg : Str → Option Value} {base : Heap} (T : Tx K mg) {f : Addr} {fd : FuncData} (F : FunD K d_BitReader_left.name d_BitReader_left.qual d_BitReader_left.params d_BitReader_left.body d_BitReader_left.scope (d_BitReader_left.dvs K) (d_BitReader_left.kws K) f fd) :
    FnOk P w K mg base (L2.CX P w) 1 f fd ["self"] (sp_BitReader_left K) :=
  F.ok sc_BitReader_left (fun vs H Q E h => len_BitReader_left h) (fun cdv A outer s H vs Q E hr h => ⟨t_BitReader_left K (fun c d _ H2 => E c d H2), wk_BitReader_left T  hr, rd_BitReader_left (of_KBitReader T) h⟩)
theorem ok_BitReader_left_1 {P : Program} {w : World} {K : PySem.W.Frag} {mg : Str → Option Value} {base : Heap} (T : Tx K mg) : DOk P w K mg base 1 (He.fAd K ("BitReader", some "left")) ["self"] [] (sp_BitReader_left K) := by
  obtain ⟨fd, F⟩ := T.d_BitReader_left
  exact ⟨fd, [], .nil, FunD.bindsN F fun _ _ _ _ _ _ us hl => match us, hl with | [_], _ => rfl, fn_BitReader_left T F, F.kp⟩
abbrev N_BitReader_take : List Str := ["self", "size", "begin", "over", "end", "rest", "number", "byte"]
theorem sc_BitReader_take : FnScope N_BitReader_take ["self", "size"] (defScope s_BitReader_take) := ⟨rfl, rfl, rfl, by decide +kernel, rfl, by decide +kernel, by decide +kernel⟩
theorem wk_BitReader_take {P : Program} {w : World} {K : PySem.W.Frag} {mg : Str → Option Value} {base : Heap} (T : Tx K mg) (O0 : DOk P w K mg base 2 (He.fAd K ("need_size", none)) ["size"] [] (sp_need_size K)) (O1 : DOk P w K mg base 1 (He.fAd K ("BitReader", some "left")) ["self"] [] (sp_BitReader_left K)) {f : Addr} {cdv : Value} {A : Around} {outer : List Env} {s : Shared} {H : Hp} {E : XK}
    (hr : Room 2 (A.deeper (envOfC "BitReader.take" (defScope s_BitReader_take) s.heap.objs.size f cdv))) :
    PSs (cxOf (L2.CX P w) P w K mg base N_BitReader_take "BitReader.take" (defScope s_BitReader_take) f cdv A outer s H E) (defBody s_BitReader_take) (t_BitReader_take K (fun c d _ H2 => E c d H2)) := by
  obtain ⟨fd0, ds0, v0, b0, G0, q0⟩ := O0
  obtain ⟨fd1, ds1, v1, b1, G1, q1⟩ := O1
  have hu1 := hu_of hr
  have hu64 := hr.units
  have tk : Takes (cxOf (L2.CX P w) P w K mg base N_BitReader_take "BitReader.take" (defScope s_BitReader_take) f cdv A outer s H E) (fun c d _ H2 => E c d H2) := takes_of rfl rfl rfl rfl
  exact (pss_cons (ps_expr (pe_cl G0 (hr.mono (by decide)) rfl T.g_need_size q0 b0 v0 tk (pa_cons (pv 1) pa_nil)))
    (pss_cons (ps_if (pt_cmpR op_ltU (pe_mt0' (pv 0) T.c_BitReader T.m_BitReader_left G1 (hr.mono (by decide)) b1 v1 tk) (pv 1) (nomark _)) (pss_one (ps_rz rfl tk T.x_NoBits T.g_NoBits rfl)) pss_nil)
    (pss_cons (ps_asg (pe_callB cr_divmodK (by rfl) T.f_divmod bb_divmod (pa_cons (pe_fld (pv 0) rfl) (pa_cons (pe_gint rfl T.g_BYTE) pa_nil))) (pg_tup rfl (pgs_cons (pg_name (i := 2) sc_BitReader_take.nd rfl (Or.inl rfl)) (pgs_cons (pg_name (i := 3) sc_BitReader_take.nd rfl (Or.inl rfl)) pgs_nil))))
    (pss_cons (ps_asg (pe_callB cr_divmodK (by rfl) T.f_divmod bb_divmod (pa_cons (pe_op op_subU (pe_op op_addU (pe_op op_addU (pe_fld (pv 0) rfl) (pv 1)) (pe_gint rfl T.g_BYTE)) (pe_int)) (pa_cons (pe_gint rfl T.g_BYTE) pa_nil))) (pg_tup rfl (pgs_cons (pg_name (i := 4) sc_BitReader_take.nd rfl (Or.inl rfl)) (pgs_cons (pg_name (i := 5) sc_BitReader_take.nd rfl (Or.inl rfl)) pgs_nil))))
    (pss_cons (ps_set (i := 6) sc_BitReader_take.nd rfl (Or.inl rfl) (pe_int))
    (pss_cons (ps_for (passes_of rfl) rfl (pi_list (pe_slice sl_K (pe_fld (pv 0) rfl) (po_some (pv 2)) (po_some (pv 4)))) (pg_name (i := 7) sc_BitReader_take.nd rfl (Or.inl rfl)) (pss_one (ps_set (i := 6) sc_BitReader_take.nd rfl (Or.inl rfl) (pe_op op_orU (pe_op op_shlU (pv 6) (pe_gint rfl T.g_BYTE)) (pv 7)))))
    (pss_cons (ps_set (i := 6) sc_BitReader_take.nd rfl (Or.inl rfl) (pe_op op_andU (pv 6) (pe_op op_subU (pe_op op_shlU (pe_int) (pe_op op_subU (pe_op op_mulU (pe_gint rfl T.g_BYTE) (pe_op op_subU (pv 4) (pv 2))) (pv 3))) (pe_int))))
    (pss_cons (ps_fldaug (pv 0) (pv 1) in_add)
    (pss_one (ps_ret (pe_op op_shrU (pv 6) (pe_op op_subU (pe_op op_subU (pe_gint rfl T.g_BYTE) (pe_int)) (pv 5)))))))))))))
theorem fn_BitReader_take {P : Program} {w : World} {K : PySem.W.Frag} {mg : Str → Option Value} {base : Heap} (T : Tx K mg) {f : Addr} {fd : FuncData} (F : FunD K d_BitReader_take.name d_BitReader_take.qual d_BitReader_take.params d_BitReader_take.body d_BitReader_take.scope (d_BitReader_take.dvs K) (d_BitReader_take.kws K) f fd) :
    FnOk P w K mg base (L2.CX P w) 3 f fd ["self", "size"] (sp_BitReader_take K) :=
  F.ok sc_BitReader_take (fun vs H Q E h => len_BitReader_take h) (fun cdv A outer s H vs Q E hr h => ⟨t_BitReader_take K (fun c d _ H2 => E c d H2), wk_BitReader_take T (ok_need_size_1 T) (ok_BitReader_left_1 T) hr, rd_BitReader_take (of_KBitReader T) h⟩)
theorem ok_BitReader_take_2 {P : Program} {w : World} {K : PySem.W.Frag} {mg : Str → Option Value} {base : Heap} (T : Tx K mg) : DOk P w K mg base 3 (He.fAd K ("BitReader", some "take")) ["self", "size"] [] (sp_BitReader_take K) := by
  obtain ⟨fd, F⟩ := T.d_BitReader_take
  exact ⟨fd, [], .nil, FunD.bindsN F fun _ _ _ _ _ _ us hl => match us, hl with | [_, _], _ => rfl, fn_BitReader_take T F, F.kp⟩
abbrev N_Way_read : List Str := ["self", "reader", "count", "before"]
theorem sc_Way_read : FnScope N_Way_read ["self", "reader", "count", "before"] (defScope s_Way_read) := ⟨rfl, rfl, rfl, by decide +kernel, rfl, by decide +kernel, by decide +kernel⟩
theorem wk_Way_read {P : Program} {w : World} {K : PySem.W.Frag} {mg : Str → Option Value} {base : Heap} (T : Tx K mg)  {f : Addr} {cdv : Value} {A : Around} {outer : List Env} {s : Shared} {H : Hp} {E : XK}
    (hr : Room 0 (A.deeper (envOfC "Way.read" (defScope s_Way_read) s.heap.objs.size f cdv))) :
    PSs (cxOf (L2.CX P w) P w K mg base N_Way_read "Way.read" (defScope s_Way_read) f cdv A outer s H E) (defBody s_Way_read) (t_Way_read K (fun c d _ H2 => E c d H2)) := by
  have hu1 := hu_of hr
  have hu64 := hr.units
  have tk : Takes (cxOf (L2.CX P w) P w K mg base N_Way_read "Way.read" (defScope s_Way_read) f cdv A outer s H E) (fun c d _ H2 => E c d H2) := takes_of rfl rfl rfl rfl
  exact (pss_one (ps_ret (pe_lst pa_nil)))
theorem fn_Way_read {P : Program} {w : World} {K : PySem.W.Frag} {mg : Str → Option Value} {base : Heap} (T : Tx K mg) {f : Addr} {fd : FuncData} (F : FunD K d_Way_read.name d_Way_read.qual d_Way_read.params d_Way_read.body d_Way_read.scope (d_Way_read.dvs K) (d_Way_read.kws K) f fd) :
    FnOk P w K mg base (L2.CX P w) 1 f fd ["self", "reader", "count", "before"] (sp_Way_read K) :=
  F.ok sc_Way_read (fun vs H Q E h => len_Way_read h) (fun cdv A outer s H vs Q E hr h => ⟨t_Way_read K (fun c d _ H2 => E c d H2), wk_Way_read T  hr, rd_Way_read  h⟩)
theorem ok_Way_read_4 {P : Program} {w : World} {K : PySem.W.Frag} {mg : Str → Option Value} {base : Heap} (T : Tx K mg) : DOk P w K mg base 1 (He.fAd K ("Way", some "read")) ["self", "reader", "count", "before"] [] (sp_Way_read K) := by
  obtain ⟨fd, F⟩ := T.d_Way_read
  exact ⟨fd, [], .nil, FunD.bindsN F fun _ _ _ _ _ _ us hl => match us, hl with | [_, _, _, _], _ => rfl, fn_Way_read T F, F.kp⟩
abbrev N_RawWay_read : List Str := ["self", "reader", "count", "before", "place"]
theorem sc_RawWay_read : FnScope N_RawWay_read ["self", "reader", "count", "before"] (defScope s_RawWay_read) := ⟨rfl, rfl, rfl, by decide +kernel, rfl, by decide +kernel, by decide +kernel⟩
theorem wk_RawWay_read {P : Program} {w : World} {K : PySem.W.Frag} {mg : Str → Option Value} {base : Heap} (T : Tx K mg) (O0 : DOk P w K mg base 3 (He.fAd K ("BitReader", some "take")) ["self", "size"] [] (sp_BitReader_take K)) {f : Addr} {cdv : Value} {A : Around} {outer : List Env} {s : Shared} {H : Hp} {E : XK}
    (hr : Room 3 (A.deeper (envOfC "RawWay.read" (defScope s_RawWay_read) s.heap.objs.size f cdv))) :
    PSs (cxOf (L2.CX P w) P w K mg base N_RawWay_read "RawWay.read" (defScope s_RawWay_read) f cdv A outer s H E) (defBody s_RawWay_read) (t_RawWay_read K (fun c d _ H2 => E c d H2)) := by
  obtain ⟨fd0, ds0, v0, b0, G0, q0⟩ := O0
  have hu1 := hu_of hr
  have hu64 := hr.units
  have tk : Takes (cxOf (L2.CX P w) P w K mg base N_RawWay_read "RawWay.read" (defScope s_RawWay_read) f cdv A outer s H E) (fun c d _ H2 => E c d H2) := takes_of rfl rfl rfl rfl
  exact (pss_one (ps_ret (pe_lc (own := [("place", 4)]) rfl sc_RawWay_read.nd (pi_range1 rfl T.f_range (pa_cons (pv 2) pa_nil)) (blkOk_by (own := [("place", 4)]) (N := N_RawWay_read) (sc := defScope s_RawWay_read) (by decide +kernel)) (fun _ _ _ _ _ => (pg_name (i := 4) sc_RawWay_read.nd rfl (Or.inl rfl))) (fun _ _ _ _ _ => pts_nil) (fun _ _ _ _ _ => (pe_mt' (pv 1) T.c_BitReader T.m_BitReader_take G0 (hr.mono (by decide)) b0 v0 takes0 (pa_cons (pe_int) pa_nil))))))
theorem fn_RawWay_read {P : Program} {w : World} {K : PySem.W.Frag} {mg : Str → Option Value} {base : Heap} (T : Tx K mg) {f : Addr} {fd : FuncData} (F : FunD K d_RawWay_read.name d_RawWay_read.qual d_RawWay_read.params d_RawWay_read.body d_RawWay_read.scope (d_RawWay_read.dvs K) (d_RawWay_read.kws K) f fd) :
    FnOk P w K mg base (L2.CX P w) 4 f fd ["self", "reader", "count", "before"] (sp_RawWay_read K) :=
  F.ok sc_RawWay_read (fun vs H Q E h => len_RawWay_read h) (fun cdv A outer s H vs Q E hr h => ⟨t_RawWay_read K (fun c d _ H2 => E c d H2), wk_RawWay_read T (ok_BitReader_take_2 T) hr, rd_RawWay_read  h⟩)
theorem ok_RawWay_read_4 {P : Program} {w : World} {K : PySem.W.Frag} {mg : Str → Option Value} {base : Heap} (T : Tx K mg) : DOk P w K mg base 4 (He.fAd K ("RawWay", some "read")) ["self", "reader", "count", "before"] [] (sp_RawWay_read K) := by
  obtain ⟨fd, F⟩ := T.d_RawWay_read
  exact ⟨fd, [], .nil, FunD.bindsN F fun _ _ _ _ _ _ us hl => match us, hl with | [_, _, _, _], _ => rfl, fn_RawWay_read T F, F.kp⟩
abbrev N_RunWay_read : List Str := ["self", "reader", "count", "before", "signs", "many", "sign"]
theorem sc_RunWay_read : FnScope N_RunWay_read ["self", "reader", "count", "before"] (defScope s_RunWay_read) := ⟨rfl, rfl, rfl, by decide +kernel, rfl, by decide +kernel, by decide +kernel⟩
theorem wk_RunWay_read {P : Program} {w : World} {K : PySem.W.Frag} {mg : Str → Option Value} {base : Heap} (T : Tx K mg) (O0 : DOk P w K mg base 3 (He.fAd K ("BitReader", some "take")) ["self", "size"] [] (sp_BitReader_take K)) {f : Addr} {cdv : Value} {A : Around} {outer : List Env} {s : Shared} {H : Hp} {E : XK}
    (hr : Room 3 (A.deeper (envOfC "RunWay.read" (defScope s_RunWay_read) s.heap.objs.size f cdv))) :
    PSs (cxOf (L2.CX P w) P w K mg base N_RunWay_read "RunWay.read" (defScope s_RunWay_read) f cdv A outer s H E) (defBody s_RunWay_read) (t_RunWay_read K (fun c d _ H2 => E c d H2)) := by
  obtain ⟨fd0, ds0, v0, b0, G0, q0⟩ := O0
  have hu1 := hu_of hr
  have hu64 := hr.units
  have tk : Takes (cxOf (L2.CX P w) P w K mg base N_RunWay_read "RunWay.read" (defScope s_RunWay_read) f cdv A outer s H E) (fun c d _ H2 => E c d H2) := takes_of rfl rfl rfl rfl
  exact (pss_cons (ps_set (i := 4) sc_RunWay_read.nd rfl (Or.inl rfl) (pe_lst pa_nil))
    (pss_cons (ps_while (passes_of rfl) (pt_cmpR op_ltU (pe_callB cr_lenK (by rfl) T.f_len bb_len (pa_cons (pv 4) pa_nil)) (pv 2) (nomark _)) (pss_cons (ps_set (i := 5) sc_RunWay_read.nd rfl (Or.inl rfl) (pe_op op_addU (pe_mt' (pv 1) T.c_BitReader T.m_BitReader_take G0 (hr.mono (by decide)) b0 v0 tk (pa_cons (pe_int) pa_nil)) (pe_int)))
    (pss_cons (ps_set (i := 6) sc_RunWay_read.nd rfl (Or.inl rfl) (pe_mt' (pv 1) T.c_BitReader T.m_BitReader_take G0 (hr.mono (by decide)) b0 v0 tk (pa_cons (pe_int) pa_nil)))
    (pss_cons (ps_if (pt_cmpR op_gtU (pe_op op_addU (pe_callB cr_lenK (by rfl) T.f_len bb_len (pa_cons (pv 4) pa_nil)) (pv 5)) (pv 2) (nomark _)) (pss_one (ps_rz rfl tk T.x_BadBody T.g_BadBody rfl)) pss_nil)
    (pss_one (ps_expr (pe_bm PySem.F.plainAttrs_list PySem.F.slot_list_extend PySem.F.type_list_extend mt_extend (pv 4) (pa_cons (pe_op op_mulU (pe_lst (pa_cons (pv 6) pa_nil)) (pv 5)) pa_nil))))))))
    (pss_one (ps_ret (pv 4)))))
theorem fn_RunWay_read {P : Program} {w : World} {K : PySem.W.Frag} {mg : Str → Option Value} {base : Heap} (T : Tx K mg) {f : Addr} {fd : FuncData} (F : FunD K d_RunWay_read.name d_RunWay_read.qual d_RunWay_read.params d_RunWay_read.body d_RunWay_read.scope (d_RunWay_read.dvs K) (d_RunWay_read.kws K) f fd) :
    FnOk P w K mg base (L2.CX P w) 4 f fd ["self", "reader", "count", "before"] (sp_RunWay_read K) :=
  F.ok sc_RunWay_read (fun vs H Q E h => len_RunWay_read h) (fun cdv A outer s H vs Q E hr h => ⟨t_RunWay_read K (fun c d _ H2 => E c d H2), wk_RunWay_read T (ok_BitReader_take_2 T) hr, rd_RunWay_read  h⟩)
theorem ok_RunWay_read_4 {P : Program} {w : World} {K : PySem.W.Frag} {mg : Str → Option Value} {base : Heap} (T : Tx K mg) : DOk P w K mg base 4 (He.fAd K ("RunWay", some "read")) ["self", "reader", "count", "before"] [] (sp_RunWay_read K) := by
  obtain ⟨fd, F⟩ := T.d_RunWay_read
  exact ⟨fd, [], .nil, FunD.bindsN F fun _ _ _ _ _ _ us hl => match us, hl with | [_, _, _, _], _ => rfl, fn_RunWay_read T F, F.kp⟩
abbrev N_BitReader_place : List Str := ["self"]
theorem sc_BitReader_place : FnScope N_BitReader_place ["self"] (defScope s_BitReader_place) := ⟨rfl, rfl, rfl, by decide +kernel, rfl, by decide +kernel, by decide +kernel⟩
theorem wk_BitReader_place {P : Program} {w : World} {K : PySem.W.Frag} {mg : Str → Option Value} {base : Heap} (T : Tx K mg)  {f : Addr} {cdv : Value} {A : Around} {outer : List Env} {s : Shared} {H : Hp} {E : XK}
    (hr : Room 0 (A.deeper (envOfC "BitReader.place" (defScope s_BitReader_place) s.heap.objs.size f cdv))) :
    PSs (cxOf (L2.CX P w) P w K mg base N_BitReader_place "BitReader.place" (defScope s_BitReader_place) f cdv A outer s H E) (defBody s_BitReader_place) (t_BitReader_place K (fun c d _ H2 => E c d H2)) := by
  have hu1 := hu_of hr
  have hu64 := hr.units
  have tk : Takes (cxOf (L2.CX P w) P w K mg base N_BitReader_place "BitReader.place" (defScope s_BitReader_place) f cdv A outer s H E) (fun c d _ H2 => E c d H2) := takes_of rfl rfl rfl rfl
  exact (pss_one (ps_ret (pe_fld (pv 0) rfl)))
theorem fn_BitReader_place {P : Program} {w : World} {K : PySem.W.Frag} {mg : Str → Option Value} {base : Heap} (T : Tx K mg) {f : Addr} {fd : FuncData} (F : FunD K d_BitReader_place.name d_BitReader_place.qual d_BitReader_place.params d_BitReader_place.body d_BitReader_place.scope (d_BitReader_place.dvs K) (d_BitReader_place.kws K) f fd) :
    FnOk P w K mg base (L2.CX P w) 1 f fd ["self"] (sp_BitReader_place K) :=
  F.ok sc_BitReader_place (fun vs H Q E h => len_BitReader_place h) (fun cdv A outer s H vs Q E hr h => ⟨t_BitReader_place K (fun c d _ H2 => E c d H2), wk_BitReader_place T  hr, rd_BitReader_place (of_KBitReader T) h⟩)
theorem ok_BitReader_place_1 {P : Program} {w : World} {K : PySem.W.Frag} {mg : Str → Option Value} {base : Heap} (T : Tx K mg) : DOk P w K mg base 1 (He.fAd K ("BitReader", some "place")) ["self"] [] (sp_BitReader_place K) := by
  obtain ⟨fd, F⟩ := T.d_BitReader_place
  exact ⟨fd, [], .nil, FunD.bindsN F fun _ _ _ _ _ _ us hl => match us, hl with | [_], _ => rfl, fn_BitReader_place T F, F.kp⟩
abbrev N__law_read : List Str := ["_law_way", "_law_ahead", "_law_text", "_law_before", "_law_due", "_law_reader", "_law_found", "_law_sign"]
theorem sc__law_read : FnScope N__law_read ["_law_way", "_law_ahead", "_law_text", "_law_before", "_law_due"] (defScope s__law_read) := ⟨rfl, rfl, rfl, by decide +kernel, rfl, by decide +kernel, by decide +kernel⟩
theorem wk__law_read {P : Program} {w : World} {K : PySem.W.Frag} {mg : Str → Option Value} {base : Heap} (T : Tx K mg) (O0 : DOk P w K mg base 4 (He.fAd K ("BitReader", some "__init__")) ["self", "row"] [] (sp_BitReader___init__ K)) (O1 : DOk P w K mg base 1 (He.fAd K ("_law_row_of", none)) ["_law_digits_here"] [] (sp__law_row_of K)) (O2 : DOk P w K mg base 1 (He.fAd K ("_law_digits", none)) ["_law_parts"] [] (sp__law_digits K)) (O3 : DOk P w K mg base 3 (He.fAd K ("BitReader", some "take")) ["self", "size"] [] (sp_BitReader_take K)) (O4 : DOk P w K mg base 1 (He.fAd K ("Way", some "read")) ["self", "reader", "count", "before"] [] (sp_Way_read K)) (O5 : DOk P w K mg base 4 (He.fAd K ("RawWay", some "read")) ["self", "reader", "count", "before"] [] (sp_RawWay_read K)) (O6 : DOk P w K mg base 4 (He.fAd K ("RunWay", some "read")) ["self", "reader", "count", "before"] [] (sp_RunWay_read K)) (O7 : DOk P w K mg base 1 (He.fAd K ("BitReader", some "place")) ["self"] [] (sp_BitReader_place K)) {f : Addr} {cdv : Value} {A : Around} {outer : List Env} {s : Shared} {H : Hp} {E : XK}
    (hr : Room 5 (A.deeper (envOfC "_law_read" (defScope s__law_read) s.heap.objs.size f cdv))) :
    PSs (cxOf (L2.CX P w) P w K mg base N__law_read "_law_read" (defScope s__law_read) f cdv A outer s H E) (defBody s__law_read) (t__law_read K (fun c d _ H2 => E c d H2)) := by
  obtain ⟨fd0, ds0, v0, b0, G0, q0⟩ := O0
  obtain ⟨fd1, ds1, v1, b1, G1, q1⟩ := O1
  obtain ⟨fd2, ds2, v2, b2, G2, q2⟩ := O2
  obtain ⟨fd3, ds3, v3, b3, G3, q3⟩ := O3
  obtain ⟨fd4, ds4, v4, b4, G4, q4⟩ := O4
  obtain ⟨fd5, ds5, v5, b5, G5, q5⟩ := O5
  obtain ⟨fd6, ds6, v6, b6, G6, q6⟩ := O6
  obtain ⟨fd7, ds7, v7, b7, G7, q7⟩ := O7
  have hu1 := hu_of hr
  have hu64 := hr.units
  have tk : Takes (cxOf (L2.CX P w) P w K mg base N__law_read "_law_read" (defScope s__law_read) f cdv A outer s H E) (fun c d _ H2 => E c d H2) := takes_of rfl rfl rfl rfl
  exact (pss_cons (ps_set (i := 5) sc__law_read.nd rfl (Or.inl rfl) (pe_mk' T.k_BitReader G0 (hr.mono (by decide)) rfl T.g_BitReader b0 v0 tk (pa_cons (pe_op op_addU (pe_cl G1 (hr.mono (by decide)) rfl T.g__law_row_of q1 b1 v1 tk (pa_cons (pe_op op_addU (pe_cl G2 (hr.mono (by decide)) rfl T.g__law_digits q2 b2 v2 tk (pa_cons (pe_lst (pa_cons (pv 1) pa_nil)) pa_nil)) (pv 4)) pa_nil)) (pe_lst (pa_cons (pe_int) pa_nil))) pa_nil)))
    (pss_cons (ps_expr (pe_mt' (pv 5) T.c_BitReader T.m_BitReader_take G3 (hr.mono (by decide)) b3 v3 tk (pa_cons (pe_ix ix_seq (pv 1) (pe_int) (fun _ _ => rfl)) pa_nil)))
    (pss_cons (ps_set (i := 6) sc__law_read.nd rfl (Or.inl rfl) (pe_orE (pe_mt' (pv 0) T.c_Way T.m_Way_read G4 (hr.mono (by decide)) b4 v4 tk (pa_cons (pv 5) (pa_cons (pe_callB cr_lenK (by rfl) T.f_len bb_len (pa_cons (pv 2) pa_nil)) (pa_cons (pv 3) pa_nil)))) (pe_orE (pe_mt' (pv 0) T.c_RawWay T.m_RawWay_read G5 (hr.mono (by decide)) b5 v5 tk (pa_cons (pv 5) (pa_cons (pe_callB cr_lenK (by rfl) T.f_len bb_len (pa_cons (pv 2) pa_nil)) (pa_cons (pv 3) pa_nil)))) (pe_mt' (pv 0) T.c_RunWay T.m_RunWay_read G6 (hr.mono (by decide)) b6 v6 tk (pa_cons (pv 5) (pa_cons (pe_callB cr_lenK (by rfl) T.f_len bb_len (pa_cons (pv 2) pa_nil)) (pa_cons (pv 3) pa_nil)))))))
    (pss_cons (ps_if (PW.pt (pw_or (pt_not (pt_val (pe_callB call_isi (by rfl) T.f_isinstance bb_isinstance (pa_cons (pv 6) (pa_cons (pe_bty rfl T.f_list bt_list) pa_nil))))) (pw_or (pt_cmpR (op_neU hu64) (pv 6) (pv 2) (nomark _)) (pw_or1 (pt_cmpR (op_neU hu64) (pe_mt0' (pv 5) T.c_BitReader T.m_BitReader_place G7 (hr.mono (by decide)) b7 v7 tk) (pe_op op_addU (pe_ix ix_seq (pv 1) (pe_int) (fun _ _ => rfl)) (pe_callB cr_lenK (by rfl) T.f_len bb_len (pa_cons (pv 4) pa_nil))) (nomark _)))))) (pss_one (ps_ret (pe_bl))) pss_nil)
    (pss_one (ps_ret (pe_cmpR (op_eqU hu64) (pe_lc (own := [("_law_sign", 7)]) rfl sc__law_read.nd (pi_list (pv 6)) (blkOk_by (own := [("_law_sign", 7)]) (N := N__law_read) (sc := defScope s__law_read) (by decide +kernel)) (fun _ _ _ _ _ => (pg_name (i := 7) sc__law_read.nd rfl (Or.inl rfl))) (fun _ _ _ _ _ => pts_one (PW.pt (pw_or (pt_not (pt_val (pe_callB call_isi (by rfl) T.f_isinstance bb_isinstance (pa_cons (pv 7) (pa_cons (pe_bty rfl T.f_int bt_int) pa_nil))))) (pw_or1 (pt_val (pe_callB call_isi (by rfl) T.f_isinstance bb_isinstance (pa_cons (pv 7) (pa_cons (pe_bty rfl T.f_bool bt_bool) pa_nil)))))))) (fun _ _ _ _ _ => (pv 7))) (pe_lst pa_nil) (nomark _))))))))
theorem fn__law_read {P : Program} {w : World} {K : PySem.W.Frag} {mg : Str → Option Value} {base : Heap} (T : Tx K mg) {f : Addr} {fd : FuncData} (F : FunD K d__law_read.name d__law_read.qual d__law_read.params d__law_read.body d__law_read.scope (d__law_read.dvs K) (d__law_read.kws K) f fd) :
    FnOk P w K mg base (L2.CX P w) 6 f fd ["_law_way", "_law_ahead", "_law_text", "_law_before", "_law_due"] (sp__law_read K) :=
  F.ok sc__law_read (fun vs H Q E h => len__law_read h) (fun cdv A outer s H vs Q E hr h => ⟨t__law_read K (fun c d _ H2 => E c d H2), wk__law_read T (ok_BitReader___init___2 T) (ok__law_row_of_1 T) (ok__law_digits_1 T) (ok_BitReader_take_2 T) (ok_Way_read_4 T) (ok_RawWay_read_4 T) (ok_RunWay_read_4 T) (ok_BitReader_place_1 T) hr, rd__law_read  h⟩)
theorem ok__law_read_5 {P : Program} {w : World} {K : PySem.W.Frag} {mg : Str → Option Value} {base : Heap} (T : Tx K mg) : DOk P w K mg base 6 (He.fAd K ("_law_read", none)) ["_law_way", "_law_ahead", "_law_text", "_law_before", "_law_due"] [] (sp__law_read K) := by
  obtain ⟨fd, F⟩ := T.d__law_read
  exact ⟨fd, [], .nil, FunD.bindsN F fun _ _ _ _ _ _ us hl => match us, hl with | [_, _, _, _, _], _ => rfl, fn__law_read T F, F.kp⟩
abbrev N_law : List Str := ["_law_script", "_law_text", "_law_before", "_law_size", "_law_ahead", "_law_raw", "_law_run", "_law_dues", "_law_handed", "_law_kept", "_law_turn", "_law_way", "_law_due", "_law_cost", "_law_sign"]
theorem sc_law : FnScope N_law ["_law_script"] (defScope s_law) := ⟨rfl, rfl, rfl, by decide +kernel, rfl, by decide +kernel, by decide +kernel⟩
theorem wk_law {P : Program} {w : World} {K : PySem.W.Frag} {mg : Str → Option Value} {base : Heap} (T : Tx K mg) (O0 : DOk P w K mg base 3 (He.fAd K ("_law_text_by", none)) ["_law_script", "_law_first"] [] (sp__law_text_by K)) (O1 : DOk P w K mg base 1 (He.fAd K ("_law_cell_at", none)) ["_law_script", "_law_k"] [] (sp__law_cell_at K)) (O2 : DOk P w K mg base 1 (He.fAd K ("Way", some "number")) ["self"] [] (sp_Way_number K)) (O3 : DOk P w K mg base 1 (He.fAd K ("RawWay", some "number")) ["self"] [] (sp_RawWay_number K)) (O4 : DOk P w K mg base 1 (He.fAd K ("RunWay", some "number")) ["self"] [] (sp_RunWay_number K)) (O5 : DOk P w K mg base 1 (He.fAd K ("_law_digits", none)) ["_law_parts"] [] (sp__law_digits K)) (O6 : DOk P w K mg base 1 (He.fAd K ("_law_runs", none)) ["_law_text"] [] (sp__law_runs K)) (O7 : DOk P w K mg base 6 (He.fAd K ("Way", some "cost")) ["self", "text", "before"] [] (sp_Way_cost K)) (O8 : DOk P w K mg base 6 (He.fAd K ("_law_told", none)) ["_law_way", "_law_ahead", "_law_handed", "_law_due"] [] (sp__law_told K)) (O9 : DOk P w K mg base 6 (He.fAd K ("_law_read", none)) ["_law_way", "_law_ahead", "_law_text", "_law_before", "_law_due"] [] (sp__law_read K)) {f : Addr} {cdv : Value} {A : Around} {outer : List Env} {s : Shared} {H : Hp} {E : XK}
    (hr : Room 6 (A.deeper (envOfC "law" (defScope s_law) s.heap.objs.size f cdv))) :
    PSs (cxOf (L2.CX P w) P w K mg base N_law "law" (defScope s_law) f cdv A outer s H E) (defBody s_law) (t_law K (fun c d _ H2 => E c d H2)) := by
  obtain ⟨fd0, ds0, v0, b0, G0, q0⟩ := O0
  obtain ⟨fd1, ds1, v1, b1, G1, q1⟩ := O1
  obtain ⟨fd2, ds2, v2, b2, G2, q2⟩ := O2
  obtain ⟨fd3, ds3, v3, b3, G3, q3⟩ := O3
  obtain ⟨fd4, ds4, v4, b4, G4, q4⟩ := O4
  obtain ⟨fd5, ds5, v5, b5, G5, q5⟩ := O5
  obtain ⟨fd6, ds6, v6, b6, G6, q6⟩ := O6
  obtain ⟨fd7, ds7, v7, b7, G7, q7⟩ := O7
  obtain ⟨fd8, ds8, v8, b8, G8, q8⟩ := O8
  obtain ⟨fd9, ds9, v9, b9, G9, q9⟩ := O9
  have hu1 := hu_of hr
  have hu64 := hr.units
  have tk : Takes (cxOf (L2.CX P w) P w K mg base N_law "law" (defScope s_law) f cdv A outer s H E) (fun c d _ H2 => E c d H2) := takes_of rfl rfl rfl rfl
  exact (pss_cons (ps_asg (pe_cl G0 (hr.mono (by decide)) rfl T.g__law_text_by q0 b0 v0 tk (pa_cons (pv 0) (pa_cons (pe_int) pa_nil))) (pg_tup rfl (pgs_cons (pg_name (i := 1) sc_law.nd rfl (Or.inl rfl)) (pgs_cons (pg_name (i := 2) sc_law.nd rfl (Or.inl rfl)) pgs_nil))))
    (pss_cons (ps_set (i := 3) sc_law.nd rfl (Or.inl rfl) (pe_op op_modU (pe_cl G1 (hr.mono (by decide)) rfl T.g__law_cell_at q1 b1 v1 tk (pa_cons (pv 0) (pa_cons (pe_int) pa_nil))) (pe_int)))
    (pss_cons (ps_set (i := 4) sc_law.nd rfl (Or.inl rfl) (pe_tup (pa_cons (pe_op op_modU (pe_cl G1 (hr.mono (by decide)) rfl T.g__law_cell_at q1 b1 v1 tk (pa_cons (pv 0) (pa_cons (pe_int) pa_nil))) (pe_op op_shlU (pe_int) (pv 3))) (pa_cons (pv 3) pa_nil))))
    (pss_cons (ps_set (i := 5) sc_law.nd rfl (Or.inl rfl) (pe_made T.z_RawWay rfl T.g_RawWay))
    (pss_cons (ps_set (i := 6) sc_law.nd rfl (Or.inl rfl) (pe_made T.z_RunWay rfl T.g_RunWay))
    (pss_cons (ps_if (PW.pt (pw_or (pt_not (pt_val (pe_callB call_isi (by rfl) T.f_isinstance bb_isinstance (pa_cons (pv 5) (pa_cons (pe_gref rfl T.g_Way) pa_nil))))) (pw_or (pt_not (pt_val (pe_callB call_isi (by rfl) T.f_isinstance bb_isinstance (pa_cons (pv 6) (pa_cons (pe_gref rfl T.g_Way) pa_nil))))) (pw_or (pt_cmpR (op_neU hu64) (pe_orE (pe_mt0' (pv 5) T.c_Way T.m_Way_number G2 (hr.mono (by decide)) b2 v2 tk) (pe_orE (pe_mt0' (pv 5) T.c_RawWay T.m_RawWay_number G3 (hr.mono (by decide)) b3 v3 tk) (pe_mt0' (pv 5) T.c_RunWay T.m_RunWay_number G4 (hr.mono (by decide)) b4 v4 tk))) (pe_int) (nomark _)) (pw_or1 (pt_cmpR (op_neU hu64) (pe_orE (pe_mt0' (pv 6) T.c_Way T.m_Way_number G2 (hr.mono (by decide)) b2 v2 tk) (pe_orE (pe_mt0' (pv 6) T.c_RawWay T.m_RawWay_number G3 (hr.mono (by decide)) b3 v3 tk) (pe_mt0' (pv 6) T.c_RunWay T.m_RunWay_number G4 (hr.mono (by decide)) b4 v4 tk))) (pe_int) (nomark _))))))) (pss_one (ps_ret (pe_bl))) pss_nil)
    (pss_cons (ps_set (i := 7) sc_law.nd rfl (Or.inl rfl) (pe_lst (pa_cons (pe_cl G5 (hr.mono (by decide)) rfl T.g__law_digits q5 b5 v5 tk (pa_cons (pe_lc (own := [("_law_sign", 14)]) rfl sc_law.nd (pi_list (pv 1)) (blkOk_by (own := [("_law_sign", 14)]) (N := N_law) (sc := defScope s_law) (by decide +kernel)) (fun _ _ _ _ _ => (pg_name (i := 14) sc_law.nd rfl (Or.inl rfl))) (fun _ _ _ _ _ => pts_nil) (fun _ _ _ _ _ => (pe_tup (pa_cons (pv 14) (pa_cons (pe_int) pa_nil))))) pa_nil)) (pa_cons (pe_cl G5 (hr.mono (by decide)) rfl T.g__law_digits q5 b5 v5 tk (pa_cons (pe_cl G6 (hr.mono (by decide)) rfl T.g__law_runs q6 b6 v6 tk (pa_cons (pv 1) pa_nil)) pa_nil)) pa_nil))))
    (pss_cons (ps_set (i := 8) sc_law.nd rfl (Or.inl rfl) (pe_lst (pa_cons (pe_callTy cr_listK (by rfl) T.f_list bt_list (pa_cons (pv 1) pa_nil)) (pa_cons (pe_callTy cr_listK (by rfl) T.f_list bt_list (pa_cons (pv 2) pa_nil)) pa_nil))))
    (Evl.pss_cut (ps_if (PW.pt (pw_and (pt_cmpR (op_eqU hu64) (pv 2) (pe_lst pa_nil) (nomark _)) (pw_and1 (pt_cmpR (op_eqU hu64) (pe_op op_modU (pe_op op_divU (pe_cl G1 (hr.mono (by decide)) rfl T.g__law_cell_at q1 b1 v1 tk (pa_cons (pv 0) (pa_cons (pe_int) pa_nil))) (pe_int)) (pe_int)) (pe_int) (nomark _))))) (pss_one (ps_asg (pe_non) (pg_sub (pv 8) (pe_int) set_list))) pss_nil)
    (pss_cons (ps_set (i := 9) sc_law.nd rfl (Or.inl rfl) (pe_lst (pa_cons (pe_callTy cr_listK (by rfl) T.f_list bt_list (pa_cons (pv 1) pa_nil)) (pa_cons (pe_ifExp (pt_cmpR op_isU (pe_ix ix_seq (pv 8) (pe_int) (fun _ _ => rfl)) (pe_non) (nomark _)) (pe_ix ix_seq (pv 8) (pe_int) (fun _ _ => rfl)) (pe_callTy cr_listK (by rfl) T.f_list bt_list (pa_cons (pv 2) pa_nil))) pa_nil))))
    (pss_cons (ps_for (passes_of rfl) rfl (pi_range1 rfl T.f_range (pa_cons (pe_int) pa_nil)) (pg_name (i := 10) sc_law.nd rfl (Or.inl rfl)) (pss_one (ps_for (passes_of rfl) rfl (pi_tup (pe_tup (pa_cons (pe_tup (pa_cons (pv 5) (pa_cons (pe_ix ix_seq (pv 7) (pe_int) (fun _ _ => rfl)) pa_nil))) (pa_cons (pe_tup (pa_cons (pv 6) (pa_cons (pe_ix ix_seq (pv 7) (pe_int) (fun _ _ => rfl)) pa_nil))) pa_nil)))) (pg_tup rfl (pgs_cons (pg_name (i := 11) sc_law.nd rfl (Or.inl rfl)) (pgs_cons (pg_name (i := 12) sc_law.nd rfl (Or.inl rfl)) pgs_nil))) (pss_cons (ps_set (i := 13) sc_law.nd rfl (Or.inl rfl) (pe_orE (pe_mt' (pv 11) T.c_Way T.m_Way_cost G7 (hr.mono (by decide)) b7 v7 tk (pa_cons (pe_ix ix_seq (pv 8) (pe_int) (fun _ _ => rfl)) (pa_cons (pe_ix ix_seq (pv 8) (pe_int) (fun _ _ => rfl)) pa_nil))) (pe_orE (pe_mt' (pv 11) T.c_RawWay T.m_RawWay_cost G7 (hr.mono (by decide)) b7 v7 tk (pa_cons (pe_ix ix_seq (pv 8) (pe_int) (fun _ _ => rfl)) (pa_cons (pe_ix ix_seq (pv 8) (pe_int) (fun _ _ => rfl)) pa_nil))) (pe_mt' (pv 11) T.c_RunWay T.m_RunWay_cost G7 (hr.mono (by decide)) b7 v7 tk (pa_cons (pe_ix ix_seq (pv 8) (pe_int) (fun _ _ => rfl)) (pa_cons (pe_ix ix_seq (pv 8) (pe_int) (fun _ _ => rfl)) pa_nil))))))
    (pss_cons (ps_if (PW.pt (pw_or (pt_not (pt_val (pe_callB call_isi (by rfl) T.f_isinstance bb_isinstance (pa_cons (pv 13) (pa_cons (pe_bty rfl T.f_int bt_int) pa_nil))))) (pw_or (pt_val (pe_callB call_isi (by rfl) T.f_isinstance bb_isinstance (pa_cons (pv 13) (pa_cons (pe_bty rfl T.f_bool bt_bool) pa_nil)))) (pw_or1 (pt_cmpR (op_neU hu64) (pv 13) (pe_callB cr_lenK (by rfl) T.f_len bb_len (pa_cons (pv 12) pa_nil)) (nomark _)))))) (pss_one (ps_ret (pe_bl))) pss_nil)
    (pss_one (ps_if (PW.pt (pw_or (pt_not (pt_val (pe_cl G8 (hr.mono (by decide)) rfl T.g__law_told q8 b8 v8 tk (pa_cons (pv 11) (pa_cons (pv 4) (pa_cons (pv 8) (pa_cons (pv 12) pa_nil))))))) (pw_or1 (pt_not (pt_val (pe_cl G9 (hr.mono (by decide)) rfl T.g__law_read q9 b9 v9 tk (pa_cons (pv 11) (pa_cons (pv 4) (pa_cons (pv 1) (pa_cons (pe_ix ix_seq (pv 8) (pe_int) (fun _ _ => rfl)) (pa_cons (pv 12) pa_nil))))))))))) (pss_one (ps_ret (pe_bl))) pss_nil)))))))
    (pss_one (ps_ret (pe_cmpR (op_eqU hu64) (pv 8) (pv 9) (nomark _)))))))))))))))
theorem fn_law {P : Program} {w : World} {K : PySem.W.Frag} {mg : Str → Option Value} {base : Heap} (T : Tx K mg) {f : Addr} {fd : FuncData} (F : FunD K d_law.name d_law.qual d_law.params d_law.body d_law.scope (d_law.dvs K) (d_law.kws K) f fd) :
    FnOk P w K mg base (L2.CX P w) 7 f fd ["_law_script"] (sp_law K) :=
  F.ok sc_law (fun vs H Q E h => len_law h) (fun cdv A outer s H vs Q E hr h => ⟨t_law K (fun c d _ H2 => E c d H2), wk_law T (ok__law_text_by_2 T) (ok__law_cell_at_2 T) (ok_Way_number_1 T) (ok_RawWay_number_1 T) (ok_RunWay_number_1 T) (ok__law_digits_1 T) (ok__law_runs_1 T) (ok_Way_cost_3 T) (ok__law_told_4 T) (ok__law_read_5 T) hr, rd_law (of_KRaw T) (of_KRun T) h⟩)
end L2.BW
namespace L2.BW
open PySem PySem.Spec PyProof.Rows
theorem calmly {P : Program} {w : World} {K : PySem.W.Frag} {mg : Str → Option Value} {base : Heap} {k : Nat} {f : Addr} {fd : FuncData} {ps : List Str} {sp : Sp}
    (hE : ∀ vs H Q E, sp vs H Q E → sp vs H Q fun _ _ _ => False) (F : FnOk P w K mg base (L2.CX P w) k f fd ps sp) : FnOk P w K mg base CX0 k f fd ps sp :=
  ⟨F.len, fun A outer s H args us vs Q E hr he hb hv hs => codeAny_mono (F.run A outer s H args us vs Q _ hr he hb hv (hE _ _ _ _ hs)) fun r s' z => by
    match r, z with
    | .error e, z =>
      obtain ⟨_, _, _, _, _, _, _, _, _, _, _, _, z⟩ := z
      exact z.elim
    | .ok (.ret u), z => exact z⟩
end L2.BW
open PySem PySem.W PySem.Calls PyProof.Rows
theorem PySem.Challenge.cw_balepress_k17_raw_and_runs_holds : PySem.Challenge.rw_balepress_k17_raw_and_runs.Holds := by
  w_on; o_law
  refine HandSHeadRun.head_any (r := OpenLaw.row PySem.Challenge.rw_balepress_k17_raw_and_runs) (q := view (OpenLaw.row PySem.Challenge.rw_balepress_k17_raw_and_runs).prog [38]) (H := L2.BH.hk) (ob := L2.BH.ob) (M := 40000) (loose := L2.BH.loose) (d := HandSHeadRun.topDef (OpenLaw.row PySem.Challenge.rw_balepress_k17_raw_and_runs).prog 38) (kwd := [])
    L2.BH.ob_eq (by kernel_rfl) (fun s => by kernel_rfl) L2.BH.run (by kernel_rfl) (by kernel_rfl) (by kernel_rfl) (by rfl) (by first | assumption | decide +kernel) (by decide +kernel)
    ⟨rfl, rfl, rfl, rfl, rfl, by decide +kernel⟩ ?hw ?hc
  case hw => w_witness2
  case hc =>
    refine L2.walk_ofE (l := PySem.Challenge.rw_balepress_k17_raw_and_runs) (n := 63) (k := 7) (x := "_law_script") (CX := L2.CX0) rfl (by decide) (by kernel_rfl) ⟨rfl, by decide, by decide⟩ ?F (fun _ _ _ _ z => z)
    intro w mg fa h Y G hmg0
    obtain ⟨K, KX, c⟩ := Y
    have hmg : mg ("law" : PySem.Str) = some (.ref fa) := by
      have e : (HandSHeadRun.topDef (OpenLaw.row PySem.Challenge.rw_balepress_k17_raw_and_runs).prog 38).name = ("law" : PySem.Str) := by kernel_rfl
      exact e ▸ hmg0
    have T := L2.BW.tx_of KX G c.t.d c.more
    obtain ⟨fd, F⟩ := T.d_law
    have e := hmg.symm.trans T.g_law
    cases e
    have b := L2.FunD.bindsA (ps := ["_law_script"]) F fun _ _ _ _ _ _ us hl => match us, hl with | [_], _ => rfl
    exact ⟨K, fd, L2.BR.sp_law K, KX, fun s v => b s [v] rfl, fun H a ns hl _ hS => ⟨a, ns, rfl, hS, hl, fun _ => rfl⟩, fun base _ _ => L2.BW.calmly (fun _ _ _ _ h => h) (L2.BW.fn_law T F)⟩
