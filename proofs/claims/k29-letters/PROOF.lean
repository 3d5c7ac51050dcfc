import PyProof.Rows.All
import Wide.All
import OpenK.AllK
import Wide.FinOn
import HandS.ForMost
import HandS.ForExc
import HandS.Defaults
import HandS.CallSlots
import HandS.IsInst
import HandS.Style
import HandS.Small
import HandS.Conv
import HandS.TryElse
import HandS.HeadHook2
import HandS.Evl
import HandS.Flow
import HandS.Zip
import HandS.Text
import HandS.ExcIs
import PyProof.StrOps2
import KE.KStateDown
import Lean
import HandS.HeadEnd
import HandS.Head0
import HandS.Head1
import HandS.Head2
import HandS.HeadHook1
import HandS.HeadHook4
import PySem.Challenge.RW_balepress_k29_letters
set_option Elab.async false
set_option linter.all false
set_option maxRecDepth 100000
set_option maxHeartbeats 0
/-! BLib: rules that take several kinds of values at once, calls that may let an error out at the caller's slots, and a picture of the heap as a list of own objects over a base. -/
namespace L2.BP
open PySem PySem.Spec PyProof.Rows
section
variable {X : Cx}
/-! ### operators, by kinds -/
def rAddStr : R2 := fun x y H Q => ∃ i j, x = .str i ∧ y = .str j ∧ i.length + j.length ≤ sizeLine ∧ Q (.str (i ++ j)) H
def rAddI : R2 := rI0 fun i j => .int (i + j)
def rAddU : R2 := fun x y H Q => rAddI x y H Q ∨ rAddStr x y H Q ∨ rCat x y H Q
theorem op_addU : OpR X (binaryOp .Add) rAddU := OpR.or op_add (OpR.or op_add_str op_cat)
def rSubU : R2 := rI0 fun i j => .int (i - j)
theorem op_subU : OpR X (binaryOp .Sub) rSubU := op_sub
def rMulI : R2 := rI CMul fun i j => .int (i * j)
def repS (z : Str) (k : Nat) : Str := if k = 0 then Str.empty else if k = 1 ∨ z.length = 0 then z else ⟨(List.replicate k z.cps).foldl (· ++ ·) #[]⟩
def rRepS : R2 := fun x y H Q => ∃ (z : Str) (k : Nat), x = .str z ∧ y = .int ((k : Nat) : Int) ∧ k ≤ 1000 ∧ z.length ≤ 1000 ∧ (repS z k).length ≤ 1000000 ∧ Q (.str (repS z k)) H
theorem op_repS : OpR X (binaryOp .Mult) rRepS := by
  intro pins s σ H x y v u Q I rx ry h
  obtain ⟨z, k, rfl, rfl, hk, hz, hl, q⟩ := h
  obtain ⟨t, rfl⟩ := rx
  obtain ⟨t', rfl⟩ := ry
  have hm : z.length * k ≤ 1000 * 1000 := Nat.mul_le_mul hz hk
  refine PySem.P.mul_str ?_ ?_ ?_ ?_
  · rw [decide_eq_false (by omega), decide_eq_false (by omega)]
    rfl
  · intro h1 h2 h3
    have h4 : 9223372036854775 ≤ (2 ^ 63 - 1) / ((k : Nat) : Int) := by
      refine (Int.le_ediv_iff_mul_le (by omega)).mpr ?_
      omega
    omega
  · intro h1 h2
    unfold Builtin.Str.tooLong
    rw [Int.toNat_natCast]
    exact decide_eq_false (Nat.not_lt.mpr (Nat.le_trans hm (by decide)))
  · unfold repS at q hl
    by_cases h0 : k = 0
    · subst h0
      rw [if_pos rfl] at q
      rw [if_pos (by decide)]
      exact ⟨by decide, .str Str.empty, H, I.tok _, ⟨_, rfl⟩, q⟩
    · rw [if_neg h0] at q hl
      rw [if_neg (by omega)]
      by_cases h1 : k = 1 ∨ z.length = 0
      · rw [if_pos h1] at q
        have e : ((((k : Nat) : Int) == 1) || z.length == 0) = true := by
          rcases h1 with e | e
          · subst e
            rfl
          · rw [e]
            simp
        rw [e, if_pos rfl]
        exact ⟨.str z, H, I, ⟨_, rfl⟩, q⟩
      · rw [if_neg h1] at q hl
        have e : ((((k : Nat) : Int) == 1) || z.length == 0) = false := by
          have e1 : ¬ k = 1 := fun h => h1 (.inl h)
          have e2 : ¬ z.length = 0 := fun h => h1 (.inr h)
          have e3 : (((k : Nat) : Int) == 1) = false := by
            rw [beq_eq_false_iff_ne]
            omega
          have e4 : (z.length == 0) = false := by
            rw [beq_eq_false_iff_ne]
            exact e2
          rw [e3, e4]
          rfl
        rw [e, if_neg Bool.false_ne_true, Int.toNat_natCast]
        exact ⟨Nat.le_trans hl (by decide), .str _, H, I.tok _, ⟨_, rfl⟩, q⟩
def rMulU : R2 := fun x y H Q => rMulI x y H Q ∨ rRep x y H Q ∨ rRepS x y H Q
theorem op_mulU : OpR X (binaryOp .Mult) rMulU := OpR.or op_mul (OpR.or op_rep op_repS)
def rDivU : R2 := rI CDiv fun i j => .int (i / j)
theorem op_divU : OpR X (binaryOp .FloorDiv) rDivU := op_fdiv
def rModU : R2 := rI (fun _ j => 0 < j) fun i j => .int (i % j)
theorem op_modU : OpR X (binaryOp .Mod) rModU := op_mod
def rPowU : R2 := rI CPow fun i j => .int (i ^ j.toNat)
theorem op_powU : OpR X (binaryOp .Pow) rPowU := op_pow
def rShlU : R2 := rI CPow fun i j => .int (i * 2 ^ j.toNat)
theorem op_shlU : OpR X (binaryOp .LShift) rShlU := op_shl
def rShrU : R2 := rI (fun _ j => 0 ≤ j) fun i j => .int (i / 2 ^ j.toNat)
theorem op_shrU : OpR X (binaryOp .RShift) rShrU := op_shr
def rAndU : R2 := rI0 fun i j => .int (Builtin.bitAnd i j)
theorem op_andU : OpR X (binaryOp .BitAnd) rAndU := op_and
def rOrU : R2 := rI0 fun i j => .int (Builtin.bitOr i j)
theorem op_orU : OpR X (binaryOp .BitOr) rOrU := op_or
def rXorU : R2 := rI0 fun i j => .int (Builtin.bitXor i j)
theorem op_xorU : OpR X (binaryOp .BitXor) rXorU := op_xor
def rNegU : V → Hp → VK → Prop := rU fun i => .int (-i)
theorem un_negU : UnR X (unaryOp .USub) rNegU := un_neg
def rLtU : R2 := rI0 fun i j => .bl (decide (i < j))
theorem op_ltU : OpR X (compareOp .Lt) rLtU := op_lt
def rLeU : R2 := rI0 fun i j => .bl (decide (i ≤ j))
theorem op_leU : OpR X (compareOp .LtE) rLeU := op_le
def rGtU : R2 := rI0 fun i j => .bl (decide (j < i))
theorem op_gtU : OpR X (compareOp .Gt) rGtU := op_gt
def rGeU : R2 := rI0 fun i j => .bl (decide (j ≤ i))
theorem op_geU : OpR X (compareOp .GtE) rGeU := op_ge
def rEqU (K : PySem.W.Frag) : R2 := fun x y H Q => rEq x y H Q ∨ rEqD K x y H Q
theorem op_eqU (hu : X.A.units + 64 < cLine) : OpR X (compareOp .Eq) (rEqU X.K) := OpR.or op_eq (op_eqD hu)
def rNeU (K : PySem.W.Frag) : R2 := fun x y H Q => rNe x y H Q ∨ rNeD K x y H Q
theorem op_neU (hu : X.A.units + 64 < cLine) : OpR X (compareOp .NotEq) (rNeU X.K) := OpR.or op_ne (op_neD hu)
def rInStr : R2 := fun x y H Q => ∃ i j, x = .str i ∧ y = .str j ∧ Q (.bl (!(Builtin.Str.occurrences j i 0 j.length 1).isEmpty)) H
def rNiStr : R2 := fun x y H Q => ∃ i j, x = .str i ∧ y = .str j ∧ Q (.bl (!(!(Builtin.Str.occurrences j i 0 j.length 1).isEmpty))) H
def rInU (K : PySem.W.Frag) : R2 := fun x y H Q => rIn K false x y H Q ∨ rInStr x y H Q
theorem op_inU : OpR X (compareOp .In) (rInU X.K) := OpR.or op_in_seq op_in_str
def rNiU (K : PySem.W.Frag) : R2 := fun x y H Q => rIn K true x y H Q ∨ rNiStr x y H Q
theorem op_niU : OpR X (compareOp .NotIn) (rNiU X.K) := OpR.or op_notIn_seq op_notIn_str
def rIsNo : R2 := fun x y H Q => y = .non ∧ Q (.bl (decide (x = .non))) H
def rNotNo : R2 := fun x y H Q => y = .non ∧ Q (.bl (!decide (x = .non))) H
def rIsU : R2 := fun x y H Q => rIsNo x y H Q ∨ rIsB x y H Q
theorem op_isU : OpR X (compareOp .Is) rIsU := OpR.or op_isN op_isBl
def rNotU : R2 := fun x y H Q => rNotNo x y H Q ∨ rNotB x y H Q
theorem op_notU : OpR X (compareOp .IsNot) rNotU := OpR.or op_notN op_notBl
/-! ### in place -/
def ipAddI : TIp := ipI fun i j => i + j
def ipAddU : TIp := fun x y H Q => ipAddI x y H Q ∨ rExt2 x y H Q ∨ rAddStr x y H Q
theorem ip_addU : PIp X .Add ipAddU := fun pins s σ H x y v u Q I rx ry h => by
  rcases h with h | h | h
  · exact ip_add pins s σ H x y v u Q I rx ry h
  · exact iop_ext pins s σ H x y v u Q I rx ry h
  · exact iop_add_str pins s σ H x y v u Q I rx ry h
def ipSubU : TIp := ipI fun i j => i - j
theorem ip_subU : PIp X .Sub ipSubU := ip_sub
/-! ### slices, walks -/

end
end L2.BP
namespace L2.BP
open PySem PySem.Spec PyProof.Rows
/-! ### calls that may let an error out, wished for at the caller's slots -/
section
variable {X : Cx} {k : Nat} {f C : Addr} {fd : FuncData} {ps : List Str} {sp : Sp} {dvs : List V} {ds : List Value} {W : WX} {x m : Str} {p pos apos : Pos} {e o : Expr} {es : List Expr} {ta : TE} {t : TA}
/-- f(e, ..) -/
def tCl (sp : Sp) (dvs : List V) (W : WX) (t : TA) : TE := fun σ H Q => t σ H fun vs H1 => sp (vs ++ dvs) H1 Q fun c d H2 => W c d σ H2
theorem pe_cl (F : FnOk X.prog X.w X.K X.mg X.base (L2.CX X.prog X.w) k f fd ps sp) (hr : Room k X.A) (hg : Gl X x) (hm : X.mg x = some (.ref f)) (hk : PySem.W.keepIn X.K (.ref f) = true)
    (hb : Binds X.K fd ps ds) (hd : Vals dvs ds) (tk : Takes X W) (ha : PA X (e :: es) t) (hdb : (x == ("__debug__" : Str)) = false := by decide)
    (he : starEach (e :: es) X.env = (false, eval e X.env) :: starEach es X.env := by rfl) (hpl : (backTo pos (starEach es X.env)).any (·.1) = false := by rfl) :
    PE X (.Call (.Name x p) (e :: es) [] pos) (tCl sp dvs W t) :=
  pe_callSD (E := WE W) F hr hg hm hk hb hd (fun σ => passAt tk σ) ha hdb he hpl
theorem pe_cl0 (F : FnOk X.prog X.w X.K X.mg X.base (L2.CX X.prog X.w) k f fd ps sp) (hr : Room k X.A) (hg : Gl X x) (hm : X.mg x = some (.ref f)) (hk : PySem.W.keepIn X.K (.ref f) = true)
    (hb : Binds X.K fd ps ds) (hd : Vals dvs ds) (tk : Takes X W) (hdb : (x == ("__debug__" : Str)) = false := by decide) :
    PE X (.Call (.Name x p) [] [] pos) (tCl sp dvs W tNil) := by
  constructor
  intro pins s σ H Q I h
  have go := run_fnSD (E := WE W) (us := []) F hr hb hd (passAt tk σ) I .nil h
  exact wpAny_Call_Name_kw (ld_glob I hg hm (PySem.W.callWith_K0 I.kIn hk go) hdb)
/-- o.m(e, ..) -/
def tMt (C : Addr) (m : Str) (sp : Sp) (dvs : List V) (W : WX) (ta : TE) (t : TA) : TE := fun σ H Q => ta σ H fun x H1 => ∃ a dx fs, x = .ref a ∧ H1 a = some (.ins C dx fs) ∧ fs.lookup m = none ∧
  t σ H1 fun vs H2 => sp (x :: (vs ++ dvs)) H2 Q fun c d H3 => W c d σ H3
theorem pe_mt' {pl : Sem Bool} (he : PE X o ta) (c : Cls X.K C) (hm : Meth X.K C m f) (F : FnOk X.prog X.w X.K X.mg X.base (L2.CX X.prog X.w) k f fd ps sp) (hr : Room k X.A)
    (hb : Binds X.K fd ps ds) (hd : Vals dvs ds) (tk : Takes X W) (ha : PA X (e :: es) t)
    (hst : starEach (e :: es) X.env = (false, eval e X.env) :: starEach es X.env := by rfl) (hpl : (backTo pos (starEach es X.env)).any (·.1) = false := by rfl)
    (ht : eval (.Call (.Attribute o m apos) (e :: es) [] pos) X.env = (do
      let ov ← eval o X.env; standAt apos.atName
      let (f, first) ← holding [ov] (getMethod ov m pl); callWith pos f first (backTo pos (starEach (e :: es) X.env)) (backToKw pos (keywordEach [] X.env))) := by rfl) :
    PE X (.Call (.Attribute o m apos) (e :: es) [] pos) (tMt C m sp dvs W ta t) := by
  constructor
  intro pins s σ H Q I h
  refine PySem.W.methodCall_KW (pl := pl) (thn (he.run pins s σ H _ I h) ?_) ht
  rintro u s1 ⟨x, H1, I1, rx, a, dx, fs, rfl, ea, l, q⟩
  cases (show u = Value.ref a from rx)
  refine getmeth_ok I1 ea c hm l (PySem.W.callWith_K (first := [.ref a]) (h₀ := X.base) I.ok.mod.kin hm.kp ?_ hst hpl)
  refine thn (ha.run pos pins s1 σ H1 _ I1 q) ?_
  rintro us s2 ⟨vs, H2, I2, r, q2⟩
  exact ⟨I2.kIn, run_fnSD (E := WE W) (us := .ref a :: us) (vs := .ref a :: vs) F hr hb hd (passAt tk σ) I2 (.cons rfl r) q2⟩
theorem pe_mt0' {pl : Sem Bool} (he : PE X o ta) (c : Cls X.K C) (hm : Meth X.K C m f) (F : FnOk X.prog X.w X.K X.mg X.base (L2.CX X.prog X.w) k f fd ps sp) (hr : Room k X.A)
    (hb : Binds X.K fd ps ds) (hd : Vals dvs ds) (tk : Takes X W)
    (ht : eval (.Call (.Attribute o m apos) [] [] pos) X.env = (do
      let ov ← eval o X.env; standAt apos.atName
      let (f, first) ← holding [ov] (getMethod ov m pl); callWith pos f first (backTo pos (starEach [] X.env)) (backToKw pos (keywordEach [] X.env))) := by rfl) :
    PE X (.Call (.Attribute o m apos) [] [] pos) (tMt C m sp dvs W ta tNil) := by
  constructor
  intro pins s σ H Q I h
  refine PySem.W.methodCall_KW (pl := pl) (thn (he.run pins s σ H _ I h) ?_) ht
  rintro u s1 ⟨x, H1, I1, rx, a, dx, fs, rfl, ea, l, q⟩
  cases (show u = Value.ref a from rx)
  refine getmeth_ok I1 ea c hm l ?_
  have go := run_fnSD (E := WE W) (us := [.ref a]) (vs := [.ref a]) F hr hb hd (passAt tk σ) I1 (.cons rfl .nil) q
  exact PySem.W.callWith_K0 (first := [.ref a]) I1.kIn hm.kp go
/-- C(e, ..) -/
def tMk (C : Addr) (sp : Sp) (dvs : List V) (W : WX) (t : TA) : TE := fun σ H Q => t σ H fun vs H1 => ∀ x dx, H1 x = none → H1 dx = none → dx ≠ x →
  sp (.ref x :: (vs ++ dvs)) (upd (upd H1 dx (.own x)) x (.ins C dx [])) (fun v H2 => v = .non ∧ Q (.ref x) H2) fun c d H2 => W c d σ H2
theorem run_mk {pins : List (Addr × Obj)} {σ : St} {H : Hp} {s : Shared} {Q : VK} {us : List Value} {vs : List V} (M : Mk X.K C f) (F : FnOk X.prog X.w X.K X.mg X.base (L2.CX X.prog X.w) k f fd ps sp) (hr : Room (k + 1) X.A)
    (hb : Binds X.K fd ps ds) (hd : Vals dvs ds) (tk : Takes X W) (I : Inv X pins σ H s) (r : Vals vs us)
    (h : ∀ x dx, H x = none → H dx = none → dx ≠ x → sp (.ref x :: (vs ++ dvs)) (upd (upd H dx (.own x)) x (.ins C dx [])) (fun v H2 => v = .non ∧ Q (.ref x) H2) fun c d H2 => W c d σ H2) :
    wpAny (model X.prog X.w) X.A (call (.ref C) us) (EP X pins σ Q) X.xe s := by
  have hq := h (s.heap.objs.size + 1) s.heap.objs.size (I.hok.fresh (Nat.le_succ _)) (I.hok.fresh (Nat.le_refl _)) (Nat.ne_of_lt (Nat.lt_succ_self _))
  have J := Inv.made (C := C) I
  have rr : Vals (V.ref (s.heap.objs.size + 1) :: (vs ++ dvs)) (Value.ref (s.heap.objs.size + 1) :: (us ++ ds)) := .cons rfl (r.append hd)
  have hl : (Value.ref (s.heap.objs.size + 1) :: us ++ ds).length = ps.length := by
    have e1 := rr.length
    rw [F.len _ _ _ _ hq] at e1
    exact e1.symm
  have run := F.run _ X.stack _ _ ⟨Value.ref (s.heap.objs.size + 1) :: us, []⟩ (Value.ref (s.heap.objs.size + 1) :: (us ++ ds)) _ _ _ (hr.make C us []) (J.env0.make C us []) (hb _ (Value.ref (s.heap.objs.size + 1) :: us) J.kIn hl) rr hq
  refine wpAny_call (make_map (f := f) I.kIn M.makes M.init (beq_iff_eq.mp M.fn) (codeAny_mono run ?_))
  intro r s' z
  match r, z with
  | .error e, z => exact (passAt tk σ) pins _ _ e s' J z
  | .ok (.ret u), z =>
    obtain ⟨v, H', J3, rv, ev, q3⟩ := J.after z
    subst ev
    exact ⟨rv, ⟨V.ref (s.heap.objs.size + 1), H', J3, rfl, q3⟩⟩
theorem pe_mk' (M : Mk X.K C f) (F : FnOk X.prog X.w X.K X.mg X.base (L2.CX X.prog X.w) k f fd ps sp) (hr : Room (k + 1) X.A) (hg : Gl X x) (hm : X.mg x = some (.ref C))
    (hb : Binds X.K fd ps ds) (hd : Vals dvs ds) (tk : Takes X W) (ha : PA X (e :: es) t) (hdb : (x == ("__debug__" : Str)) = false := by decide)
    (he : starEach (e :: es) X.env = (false, eval e X.env) :: starEach es X.env := by rfl) (hpl : (backTo pos (starEach es X.env)).any (·.1) = false := by rfl) :
    PE X (.Call (.Name x p) (e :: es) [] pos) (tMk C sp dvs W t) := by
  constructor
  intro pins s σ H Q I h
  refine wpAny_Call_Name_kw (ld_glob I hg hm (PySem.W.callWith_K (h₀ := X.base) I.ok.mod.kin M.kp ?_ he hpl) hdb)
  refine thn (ha.run pos pins s σ H _ I h) ?_
  rintro us s1 ⟨vs, H1, I1, r, q⟩
  exact ⟨I1.kIn, run_mk M F hr hb hd tk I1 r q⟩
theorem pe_mk0' (M : Mk X.K C f) (F : FnOk X.prog X.w X.K X.mg X.base (L2.CX X.prog X.w) k f fd ps sp) (hr : Room (k + 1) X.A) (hg : Gl X x) (hm : X.mg x = some (.ref C))
    (hb : Binds X.K fd ps ds) (hd : Vals dvs ds) (tk : Takes X W) (hdb : (x == ("__debug__" : Str)) = false := by decide) :
    PE X (.Call (.Name x p) [] [] pos) (tMk C sp dvs W tNil) := by
  constructor
  intro pins s σ H Q I h
  have go := run_mk (us := []) M F hr hb hd tk I .nil h
  exact wpAny_Call_Name_kw (ld_glob I hg hm (PySem.W.callWith_K0 I.kIn M.kp go) hdb)
end
/-! ### an error raised -/
def tRz (C : Addr) (W : WX) : TS := fun _ σ H => W (.ref C) none σ H
theorem ps_rz {X : Cx} {W : WX} {C : Addr} {x m : Str} {j : Nat} {p p2 pos pos2 : Pos} (hc : X.calm = true) (tk : Takes X W) (q : PySem.W.excIn X.K C He.veBase "ValueError.__new__" = true ∧ PySem.W.keepIn X.K (.ref C) = true ∧ PySem.W.subIn X.K (.ref C) (.type "BaseException") = some true ∧ PySem.W.typeIn X.K (.ref C) = some (.type "type"))
    (gC : X.mg x = some (.ref C)) (hg : Gl X x) (hdb : (x == ("__debug__" : Str)) = false := by decide) :
    PS X (.Raise (some (.Call (.Name x p) [.Constant (.str m) j p2] [] pos)) none pos2) (tRz C W) :=
  ps_raise hc tk (pmk_own PySem.F.excBase_ValueError q.1 gC q.2.1 (raises_own q.2.2.1 q.2.2.2) hg hdb)
/-! ### names of the module -/
section
variable {X : Cx} {x : Str} {pos : Pos}
theorem pe_gint {i : Int} (hg : Gl X x) (hm : ∃ t, X.mg x = some (.int i t)) (hd : (x == ("__debug__" : Str)) = false := by decide) : PE X (.Name x pos) (tC (.int i)) :=
  hm.elim fun t h => pe_glob (v := .int i) hg h ⟨t, rfl⟩ hd
theorem pe_gstr {z : Str} (hg : Gl X x) (hm : ∃ t, X.mg x = some (.str z t)) (hd : (x == ("__debug__" : Str)) = false := by decide) : PE X (.Name x pos) (tC (.str z)) :=
  hm.elim fun t h => pe_glob (v := .str z) hg h ⟨t, rfl⟩ hd
theorem pe_gref {a : Addr} (hg : Gl X x) (hm : X.mg x = some (.ref a)) (hd : (x == ("__debug__" : Str)) = false := by decide) : PE X (.Name x pos) (tC (.ref a)) := pe_glob (v := .ref a) hg hm rfl hd
theorem pe_bty {n : String} (hg : Gl X x) (hm : X.mg x = none) (hv : bootBuiltins x = some (.type n)) (hn : x ≠ "__name__" := by decide) (hd : (x == ("__debug__" : Str)) = false := by decide) : PE X (.Name x pos) (tC (.ty n)) := pe_bltn (v := .ty n) hg hm hv rfl hn hd
end
theorem bt_int : bootBuiltins "int" = some (.type "int") := by decide +kernel
theorem bt_bool : bootBuiltins "bool" = some (.type "bool") := by decide +kernel
theorem bt_str : bootBuiltins "str" = some (.type "str") := by decide +kernel
theorem bt_list : bootBuiltins "list" = some (.type "list") := by decide +kernel
theorem bt_tuple : bootBuiltins "tuple" = some (.type "tuple") := by decide +kernel
theorem bt_dict : bootBuiltins "dict" = some (.type "dict") := by decide +kernel
theorem bt_ValueError : bootBuiltins "ValueError" = some (.type "ValueError") := by decide +kernel
theorem bt_set : bootBuiltins "set" = some (.type "set") := by decide +kernel
theorem bb_len : bootBuiltins "len" = some (.builtin "len") := by decide +kernel
theorem bb_isinstance : bootBuiltins "isinstance" = some (.builtin "isinstance") := by decide +kernel
theorem bb_all : bootBuiltins "all" = some (.builtin "all") := by decide +kernel
theorem bb_any : bootBuiltins "any" = some (.builtin "any") := by decide +kernel
theorem bb_sum : bootBuiltins "sum" = some (.builtin "sum") := by decide +kernel
theorem bb_min : bootBuiltins "min" = some (.builtin "min") := by decide +kernel
theorem bb_max : bootBuiltins "max" = some (.builtin "max") := by decide +kernel
theorem bb_abs : bootBuiltins "abs" = some (.builtin "abs") := by decide +kernel
theorem bb_divmod : bootBuiltins "divmod" = some (.builtin "divmod") := by decide +kernel
theorem bb_sorted : bootBuiltins "sorted" = some (.builtin "sorted") := by decide +kernel
theorem bb_repr : bootBuiltins "repr" = some (.builtin "repr") := by decide +kernel
/-! ### calls of built-ins by several kinds -/
section
variable {X : Cx}
def rLenK (K : PySem.W.Frag) : List V → Hp → VK → Prop := fun xs H Q => ∃ x n, xs = [x] ∧ LenV K x H n ∧ Q (.int n) H
theorem cr_lenK : CallR X (.builtin "len") (rLenK X.K) := call_len
def rIntK : List V → Hp → VK → Prop := fun xs H Q => (∃ i, xs = [.int i] ∧ Q (.int i) H) ∨ ∃ k, xs = [.bl k] ∧ Q (.int (if k then 1 else 0)) H
theorem cr_intK : CallR X (.type "int") rIntK := call_int1
def rListK (K : PySem.W.Frag) : List V → Hp → VK → Prop := fun xs H Q => ∃ p ys, xs = [.ref p] ∧ (SqL K H p ys ∨ SqT K H p ys) ∧ ∀ l, H l = none → Q (.ref l) (upd H l (.lst ys))
theorem cr_listK : CallR X (.type "list") (rListK X.K) := call_list_of
def rTupleK (K : PySem.W.Frag) : List V → Hp → VK → Prop := fun xs H Q => ∃ p ys, xs = [.ref p] ∧ ((SqL K H p ys ∧ ∀ l, H l = none → Q (.ref l) (upd H l (.tup ys))) ∨ (SqT K H p ys ∧ Q (.ref p) H))
theorem cr_tupleK : CallR X (.type "tuple") (rTupleK X.K) := call_tuple_of
def rDivmodK : List V → Hp → VK → Prop := fun xs H Q => ∃ i j, xs = [.int i, .int j] ∧ CDiv i j ∧ ∀ p, H p = none → Q (.ref p) (upd H p (.tup [.int (i / j), .int (i % j)]))
theorem cr_divmodK : CallR X (.builtin "divmod") rDivmodK := call_divmod
def rMax2K : List V → Hp → VK → Prop := fun xs H Q => ∃ i j, xs = [.int i, .int j] ∧ Q (.int (if j > i then j else i)) H
theorem cr_max2K (hc : X.calm = true) : CallR X (.builtin "max") rMax2K := call_max2 hc
def rMin2K : List V → Hp → VK → Prop := fun xs H Q => ∃ i j, xs = [.int i, .int j] ∧ Q (.int (if j < i then j else i)) H
theorem cr_min2K (hc : X.calm = true) : CallR X (.builtin "min") rMin2K := call_min2 hc
def rAbsK : List V → Hp → VK → Prop := fun xs H Q => ∃ i, xs = [.int i] ∧ Q (.int (if i < 0 then -i else i)) H
theorem cr_absK : CallR X (.builtin "abs") rAbsK := call_abs
def rSlK (K : PySem.W.Frag) : V → Option Int → Option Int → Hp → VK → Prop := fun x lo hi H Q => rSlL K x lo hi H Q ∨ rSlS x lo hi H Q ∨ rSlT K x lo hi H Q
theorem sl_K : SlR X (rSlK X.K) := SlR.or sl_list (SlR.or sl_str sl_tup)
end
end L2.BP
namespace L2.BP
open PySem PySem.Spec PyProof.Rows
/-! ### the heap as own objects over a base -/
structure Hs (B : Hp) (L : List (Addr × HO)) (H : Hp) : Prop where
  ex : Same B H
  nd : (L.map (·.1)).Nodup
  own : ∀ q ∈ L, H q.1 = some q.2 ∧ B q.1 = none
section
variable {B H H' : Hp} {L : List (Addr × HO)} {p : Addr} {o o' : HO} {K : PySem.W.Frag}
theorem Hs.start (H : Hp) : Hs H [] H := ⟨Same.refl H, .nil, fun _ h => nomatch h⟩
theorem Hs.same (h : Hs B L H) (s : Same H H') : Hs B L H' := ⟨h.ex.trans s, h.nd, fun q m => ⟨s _ _ (h.own q m).1, (h.own q m).2⟩⟩
theorem Hs.newS (h : Hs B L H) (hp : H p = none) (s : Same H H') (hn : H' p = some o) : Hs B ((p, o) :: L) H' where
  ex := h.ex.trans s
  nd := by
    refine List.nodup_cons.mpr ⟨fun m => ?_, h.nd⟩
    obtain ⟨q, mq, e⟩ := List.mem_map.mp m
    have z := (h.own q mq).1
    rw [e, hp] at z
    cases z
  own := fun q m => by
    rcases List.mem_cons.mp m with rfl | m
    · exact ⟨hn, h.ex.free hp⟩
    · exact ⟨s _ _ (h.own q m).1, (h.own q m).2⟩
theorem same_upd (hp : H p = none) : Same H (upd H p o) := fun b u e => by rw [upd_ne (ne_of_none e hp)]; exact e
theorem Hs.new (h : Hs B L H) (hp : H p = none) : Hs B ((p, o) :: L) (upd H p o) := h.newS hp (same_upd hp) upd_same
theorem Hs.drop {q : Addr × HO} (h : Hs B (q :: L) H) : Hs B L H := ⟨h.ex, (List.nodup_cons.mp h.nd).2, fun z m => h.own z (List.mem_cons_of_mem _ m)⟩
theorem Hs.get (h : Hs B L H) (m : (p, o) ∈ L) : H p = some o := (h.own _ m).1
theorem Hs.nb (h : Hs B L H) (m : (p, o) ∈ L) : B p = none := (h.own _ m).2
/-- the first of the own objects changed -/
theorem Hs.chg (h : Hs B ((p, o) :: L) H) (k : ∀ b u, b ≠ p → H b = some u → H' b = some u) (hn : H' p = some o') : Hs B ((p, o') :: L) H' where
  ex := fun b u e => k b u (ne_of_none e (h.nb (o := o) (.head _))) (h.ex b u e)
  nd := h.nd
  own := fun q m => by
    rcases List.mem_cons.mp m with rfl | m
    · exact ⟨hn, h.nb (o := o) (.head _)⟩
    · refine ⟨k _ _ (fun z => ?_) (h.own q (.tail _ m)).1, (h.own q (.tail _ m)).2⟩
      exact (List.nodup_cons.mp h.nd).1 (List.mem_map.mpr ⟨q, m, z⟩)
theorem Hs.perm {L' : List (Addr × HO)} (h : Hs B L H) (q : L.Perm L') : Hs B L' H := ⟨h.ex, (q.map _).nodup_iff.mp h.nd, fun z m => h.own z (q.mem_iff.mpr m)⟩
theorem Hs.swap {a b : Addr × HO} (h : Hs B (a :: b :: L) H) : Hs B (b :: a :: L) H := h.perm (.swap b a L)
theorem Hs.rot3 {a b c : Addr × HO} (h : Hs B (a :: b :: c :: L) H) : Hs B (c :: a :: b :: L) H := h.perm ((List.Perm.cons a (.swap c b L)).trans (.swap c a (b :: L)))
theorem Hs.unrot3 {a b c : Addr × HO} (h : Hs B (c :: a :: b :: L) H) : Hs B (a :: b :: c :: L) H := h.perm (((List.Perm.cons a (.swap c b L)).trans (.swap c a (b :: L))).symm)
theorem Hs.u0 (h : Hs B ((p, o) :: L) H) : Hs B ((p, o') :: L) (upd H p o') := h.chg (fun b u n e => by rw [upd_ne n]; exact e) upd_same
theorem Hs.u1 {a : Addr × HO} (h : Hs B (a :: (p, o) :: L) H) : Hs B (a :: (p, o') :: L) (upd H p o') := h.swap.u0.swap
theorem Hs.u2 {a b : Addr × HO} (h : Hs B (a :: b :: (p, o) :: L) H) : Hs B (a :: b :: (p, o') :: L) (upd H p o') := h.rot3.u0.unrot3
theorem Hs.u3 {a b c : Addr × HO} (h : Hs B (a :: b :: c :: (p, o) :: L) H) : Hs B (a :: b :: c :: (p, o') :: L) (upd H p o') := by
  have e : (a :: b :: c :: (p, o) :: L).Perm ((p, o) :: a :: b :: c :: L) := (List.perm_middle (l₁ := [a, b, c]) (a := (p, o)) (l₂ := L))
  have e' : ((p, o') :: a :: b :: c :: L).Perm (a :: b :: c :: (p, o') :: L) := (List.perm_middle (l₁ := [a, b, c]) (a := (p, o')) (l₂ := L)).symm
  exact ((h.perm e).u0 (o' := o')).perm e'
/-- the first one is laid to the base: it changes no more -/
theorem Hs.fix (h : Hs B ((p, o) :: L) H) : Hs (upd B p o) L H where
  ex := fun b u e => by
    by_cases hb : b = p
    · subst hb
      rw [upd_same] at e
      cases e
      exact h.get (.head _)
    · rw [upd_ne hb] at e
      exact h.ex b u e
  nd := (List.nodup_cons.mp h.nd).2
  own := fun q m => by
    refine ⟨(h.own q (.tail _ m)).1, ?_⟩
    have n : q.1 ≠ p := fun z => (List.nodup_cons.mp h.nd).1 (List.mem_map.mpr ⟨q, m, z⟩)
    rw [upd_ne n]
    exact (h.own q (.tail _ m)).2
theorem Hs.sql {xs : List V} (h : Hs B L H) (m : (p, HO.lst xs) ∈ L) : SqL K H p xs := .of (h.get m)
theorem Hs.sqt {xs : List V} (h : Hs B L H) (m : (p, HO.tup xs) ∈ L) : SqT K H p xs := .of (h.get m)
theorem Hs.bl {xs : List V} (h : Hs B L H) (m : SqL K B p xs) : SqL K H p xs := h.ex.seq m
theorem same_sqt {xs : List V} (e : Same H H') (h : SqT K H p xs) : SqT K H' p xs := by
  rcases h with (h | ⟨u, h⟩) | h
  · exact .inl (.inl (e _ _ h))
  · exact .inl (.inr ⟨u, e _ _ h⟩)
  · exact .inr h
theorem Hs.bt {xs : List V} (h : Hs B L H) (m : SqT K B p xs) : SqT K H p xs := same_sqt h.ex m
mutual
theorem dp_same (e : Same H H') : ∀ {v : V} {d : PyData}, Dp K H v d → Dp K H' v d
  | _, _, .non => .non
  | _, _, .bl b => .bl b
  | _, _, .int i => .int i
  | _, _, .str x => .str x
  | _, _, .lst h a => .lst (e.seq h) (dpa_same e a)
  | _, _, .tup h a => .tup (same_sqt e h) (dpa_same e a)
theorem dpa_same (e : Same H H') : ∀ {vs : List V} {ds : List PyData}, DpAll K H vs ds → DpAll K H' vs ds
  | _, _, .nil => .nil
  | _, _, .cons h a => .cons (dp_same e h) (dpa_same e a)
end
theorem dpa_ints : ∀ ns : List Int, DpAll K H (ns.map V.int) (ns.map PyData.int)
  | [] => .nil
  | n :: r => .cons (.int n) (dpa_ints r)
end
/-! ### readings, step by step -/
section
variable {σ : St} {H : Hp} {Q : VK} {v x y : V} {i j : Int} {ta tb te : TE} {K : PySem.W.Frag} {r : R2} {B : Hp} {L : List (Addr × HO)}
theorem c_var {n : Nat} (h : σ[n]? = some (some v)) (k : Q v H) : tVar n σ H Q := ⟨v, h, k⟩
theorem c_c (k : Q v H) : tC v σ H Q := k
theorem c_op (k : ta σ H fun x H1 => tb σ H1 fun y H2 => r x y H2 Q) : tOp r ta tb σ H Q := k
theorem c_un {r : V → Hp → VK → Prop} (k : ta σ H fun x H1 => r x H1 Q) : tUn r ta σ H Q := k
theorem c_addI (k : Q (.int (i + j)) H) : rAddU (.int i) (.int j) H Q := .inl ⟨i, j, rfl, rfl, k⟩
theorem c_addS {a b : Str} (h : a.length + b.length ≤ sizeLine) (k : Q (.str (a ++ b)) H) : rAddU (.str a) (.str b) H Q := .inr (.inl ⟨a, b, rfl, rfl, h, k⟩)
theorem c_addL {p q : Addr} {xs ys : List V} (h : Hs B L H) (hp : H p = some (.lst xs)) (hq : H q = some (.lst ys)) (hl : xs.length + ys.length ≤ sizeLine)
    (k : ∀ a H', Hs B ((a, .lst (xs ++ ys)) :: L) H' → Q (.ref a) H') : rAddU (.ref p) (.ref q) H Q :=
  .inr (.inr ⟨p, q, xs, ys, rfl, rfl, hp, hq, hl, fun a ha => k a _ (h.new ha)⟩)
theorem c_sub (k : Q (.int (i - j)) H) : rSubU (.int i) (.int j) H Q := ⟨i, j, rfl, rfl, k⟩
theorem c_mulI (h : CMul i j) (k : Q (.int (i * j)) H) : rMulU (.int i) (.int j) H Q := .inl ⟨i, j, rfl, rfl, h, k⟩
theorem c_rep {p : Addr} {xs : List V} (h : Hs B L H) (hp : H p = some (.lst xs)) (h1 : -(2 ^ 63) ≤ j) (h2 : j < 2 ^ 63) (hl : xs.length * j.toNat ≤ sizeLine)
    (k : ∀ a H', Hs B ((a, .lst (List.replicate j.toNat xs).flatten) :: L) H' → Q (.ref a) H') : rMulU (.ref p) (.int j) H Q :=
  .inr (.inl ⟨p, j, xs, rfl, rfl, hp, h1, h2, hl, fun a ha => k a _ (h.new ha)⟩)
theorem c_repS {z : Str} {n : Nat} (e : j = ((n : Nat) : Int)) (h1 : n ≤ 1000) (h2 : z.length ≤ 1000) (h3 : (repS z n).length ≤ 1000000) (k : Q (.str (repS z n)) H) : rMulU (.str z) (.int j) H Q := .inr (.inr ⟨z, n, rfl, by rw [e], h1, h2, h3, k⟩)
theorem c_div (h : CDiv i j) (k : Q (.int (i / j)) H) : rDivU (.int i) (.int j) H Q := ⟨i, j, rfl, rfl, h, k⟩
theorem c_mod (h : 0 < j) (k : Q (.int (i % j)) H) : rModU (.int i) (.int j) H Q := ⟨i, j, rfl, rfl, h, k⟩
theorem c_pow (h : CPow i j) (k : Q (.int (i ^ j.toNat)) H) : rPowU (.int i) (.int j) H Q := ⟨i, j, rfl, rfl, h, k⟩
theorem c_shl (h : CPow i j) (k : Q (.int (i * 2 ^ j.toNat)) H) : rShlU (.int i) (.int j) H Q := ⟨i, j, rfl, rfl, h, k⟩
theorem c_shr (h : 0 ≤ j) (k : Q (.int (i / 2 ^ j.toNat)) H) : rShrU (.int i) (.int j) H Q := ⟨i, j, rfl, rfl, h, k⟩
theorem c_and (k : Q (.int (Builtin.bitAnd i j)) H) : rAndU (.int i) (.int j) H Q := ⟨i, j, rfl, rfl, k⟩
theorem c_or (k : Q (.int (Builtin.bitOr i j)) H) : rOrU (.int i) (.int j) H Q := ⟨i, j, rfl, rfl, k⟩
theorem c_xor (k : Q (.int (Builtin.bitXor i j)) H) : rXorU (.int i) (.int j) H Q := ⟨i, j, rfl, rfl, k⟩
theorem c_neg (k : Q (.int (-i)) H) : rNegU (.int i) H Q := ⟨i, rfl, k⟩
theorem c_lt (k : Q (.bl (decide (i < j))) H) : rLtU (.int i) (.int j) H Q := ⟨i, j, rfl, rfl, k⟩
theorem c_le (k : Q (.bl (decide (i ≤ j))) H) : rLeU (.int i) (.int j) H Q := ⟨i, j, rfl, rfl, k⟩
theorem c_gt (k : Q (.bl (decide (j < i))) H) : rGtU (.int i) (.int j) H Q := ⟨i, j, rfl, rfl, k⟩
theorem c_ge (k : Q (.bl (decide (j ≤ i))) H) : rGeU (.int i) (.int j) H Q := ⟨i, j, rfl, rfl, k⟩
theorem dec_of {p q : Prop} [Decidable p] [Decidable q] (h : p ↔ q) : decide p = decide q := by by_cases z : p <;> simp [z, h.mp, mt h.mpr] <;> simp_all
theorem c_eqI (k : Q (.bl (decide (i = j))) H) : rEqU K (.int i) (.int j) H Q := .inl ⟨rfl, by rw [dec_of (show V.int i = V.int j ↔ i = j by simp)]; exact k⟩
theorem c_neI (k : Q (.bl (!decide (i = j))) H) : rNeU K (.int i) (.int j) H Q := .inl ⟨rfl, by rw [dec_of (show V.int i = V.int j ↔ i = j by simp)]; exact k⟩
theorem c_eqS {a b : Str} (k : Q (.bl (decide (a = b))) H) : rEqU K (.str a) (.str b) H Q := .inl ⟨rfl, by rw [dec_of (show V.str a = V.str b ↔ a = b by simp)]; exact k⟩
theorem c_neS {a b : Str} (k : Q (.bl (!decide (a = b))) H) : rNeU K (.str a) (.str b) H Q := .inl ⟨rfl, by rw [dec_of (show V.str a = V.str b ↔ a = b by simp)]; exact k⟩
theorem c_eqB {a b : Bool} (k : Q (.bl (decide (a = b))) H) : rEqU K (.bl a) (.bl b) H Q := .inl ⟨rfl, by rw [dec_of (show V.bl a = V.bl b ↔ a = b by simp)]; exact k⟩
theorem c_neB {a b : Bool} (k : Q (.bl (!decide (a = b))) H) : rNeU K (.bl a) (.bl b) H Q := .inl ⟨rfl, by rw [dec_of (show V.bl a = V.bl b ↔ a = b by simp)]; exact k⟩
theorem c_eqD {d e : PyData} (hx : Dp K H x d) (hy : Dp K H y e) (h1 : SeqAt.shaped d = true) (h2 : SeqAt.shaped e = true) (k : Q (.bl (PyData.eqv d e)) H) : rEqU K x y H Q := .inr ⟨d, e, hx, hy, h1, h2, k⟩
theorem c_neD {d e : PyData} (hx : Dp K H x d) (hy : Dp K H y e) (h1 : SeqAt.shaped d = true) (h2 : SeqAt.shaped e = true) (k : Q (.bl (!PyData.eqv d e)) H) : rNeU K x y H Q := .inr ⟨d, e, hx, hy, h1, h2, k⟩
theorem c_isN (k : Q (.bl (decide (x = .non))) H) : rIsU x .non H Q := .inl ⟨rfl, k⟩
theorem c_notN (k : Q (.bl (!decide (x = .non))) H) : rNotU x .non H Q := .inl ⟨rfl, k⟩
theorem c_isB {a b : Bool} (k : Q (.bl (decide (a = b))) H) : rIsU (.bl a) (.bl b) H Q := .inr ⟨a, b, rfl, rfl, k⟩
theorem c_notB {a b : Bool} (k : Q (.bl (!decide (a = b))) H) : rNotU (.bl a) (.bl b) H Q := .inr ⟨a, b, rfl, rfl, k⟩
theorem c_ixL {p : Addr} {xs : List V} (h : SqL K H p xs) (ha : atI xs i = some v) (k : Q v H) : rIx K (.ref p) (.int i) H Q := .inl ⟨p, xs, i, v, rfl, rfl, h, ha, k⟩
theorem c_ixT {p : Addr} {xs : List V} (h : SqT K H p xs) (ha : atI xs i = some v) (k : Q v H) : rIx K (.ref p) (.int i) H Q := .inr (.inl ⟨p, xs, i, v, rfl, rfl, h, ha, k⟩)
theorem c_ixS {z : Str} {c : Nat} (h : z.length ≤ sizeLine) (ha : atI z.cps.toList i = some c) (k : Q (.str ⟨#[c]⟩) H) : rIx K (.str z) (.int i) H Q := .inr (.inr ⟨z, i, c, rfl, rfl, h, ha, k⟩)
theorem c_slL {p : Addr} {xs : List V} {lo hi : Option Int} (h : Hs B L H) (hq : SqL K H p xs) (k : ∀ a H', Hs B ((a, .lst (cutV xs lo hi)) :: L) H' → Q (.ref a) H') : rSlK K (.ref p) lo hi H Q :=
  .inl ⟨p, xs, rfl, hq, fun a ha => k a _ (h.new ha)⟩
theorem c_slS {z : Str} {lo hi : Option Int} (h : z.length ≤ sizeLine) (k : Q (.str (cutS z lo hi)) H) : rSlK K (.str z) lo hi H Q := .inr (.inl ⟨z, rfl, h, k⟩)
theorem c_andV (k : ta σ H fun x H1 => ∃ c, x = .bl c ∧ if c = true then tb σ H1 Q else Q (.bl false) H1) : tAndV ta tb σ H Q := k
theorem c_orV (k : ta σ H fun x H1 => ∃ c, x = .bl c ∧ if c = true then Q (.bl true) H1 else tb σ H1 Q) : tOrV ta tb σ H Q := k
theorem c_notV (k : ta σ H fun x H1 => ∃ c, x = .bl c ∧ Q (.bl (!c)) H1) : tNotV ta σ H Q := k
theorem c_bl {b : Bool} {P : Bool → Prop} (k : P b) : ∃ c, V.bl b = V.bl c ∧ P c := ⟨b, rfl, k⟩
theorem c_test {P : Bool → Hp → Prop} (k : te σ H fun x H' => ∃ c, x = .bl c ∧ P c H') : tTest te σ H P := k
theorem c_B {P : Bool → Hp → Prop} (k : te σ H fun x H' => ∃ c, x = .bl c ∧ P c H') : tB te σ H P := k
theorem c_chain {r' : R2} {tc : TE} (k : ta σ H fun x H1 => tb σ H1 fun y H2 => r x y H2 fun z H3 => ∃ c, z = .bl c ∧ (if c = true then tc σ H3 fun w H4 => r' y w H4 Q else Q (.bl false) H3)) : tChain r r' ta tb tc σ H Q := k
section
variable {t u : TT} {P : Bool → Hp → Prop}
theorem c_tand (k : t σ H fun c H1 => if c = true then u σ H1 P else P false H1) : tAnd t u σ H P := k
theorem c_tor (k : t σ H fun c H1 => if c = true then P true H1 else u σ H1 P) : tOr t u σ H P := k
theorem c_tnot (k : t σ H fun c H1 => P (!c) H1) : tNot t σ H P := k
theorem c_if (k : t σ H fun c H1 => if c = true then ta σ H1 Q else tb σ H1 Q) : tIf t ta tb σ H Q := k
end
section
variable {P : List V → Hp → Prop} {tr : TA}
theorem c_nil (k : P [] H) : tNil σ H P := k
theorem c_cons (k : te σ H fun x H1 => tr σ H1 fun xs H2 => P (x :: xs) H2) : tCons te tr σ H P := k
def TupO (xs : List V) (H : Hp) (Q : VK) : Prop := xs.length ≤ sizeLine ∧ ∀ p, H p = none → Q (.ref p) (upd H p (.tup xs))
def LstO (xs : List V) (H : Hp) (Q : VK) : Prop := xs.length ≤ sizeLine ∧ ∀ p, H p = none → Q (.ref p) (upd H p (.lst xs))
theorem c_tup (k : tr σ H fun xs H1 => TupO xs H1 Q) : tTup tr σ H Q := k
theorem c_lst (k : tr σ H fun xs H1 => LstO xs H1 Q) : tLst tr σ H Q := k
theorem c_tupO {xs : List V} (h : Hs B L H) (hl : xs.length ≤ sizeLine) (k : ∀ p H', Hs B ((p, .tup xs) :: L) H' → Q (.ref p) H') : TupO xs H Q := ⟨hl, fun p hp => k p _ (h.new hp)⟩
theorem c_lstO {xs : List V} (h : Hs B L H) (hl : xs.length ≤ sizeLine) (k : ∀ p H', Hs B ((p, .lst xs) :: L) H' → Q (.ref p) H') : LstO xs H Q := ⟨hl, fun p hp => k p _ (h.new hp)⟩
theorem c_cb {r : List V → Hp → VK → Prop} (k : tr σ H fun vs H1 => r vs H1 Q) : tCB r tr σ H Q := k
theorem c_lenL {p : Addr} {xs : List V} (h : SqL K H p xs) (k : Q (.int xs.length) H) : rLenK K [.ref p] H Q := ⟨_, _, rfl, .inl ⟨xs, h, rfl⟩, k⟩
theorem c_lenT {p : Addr} {xs : List V} (h : SqT K H p xs) (k : Q (.int xs.length) H) : rLenK K [.ref p] H Q := ⟨_, _, rfl, .inr ⟨xs, h, rfl⟩, k⟩
theorem c_lenS {z : Str} (h : z.length ≤ sizeLine) (k : Q (.int z.length) H) : rLenK K [.str z] H Q := ⟨_, _, rfl, ⟨h, rfl⟩, k⟩
theorem c_intI (k : Q (.int i) H) : rIntK [.int i] H Q := .inl ⟨i, rfl, k⟩
theorem c_intB {b : Bool} (k : Q (.int (if b then 1 else 0)) H) : rIntK [.bl b] H Q := .inr ⟨b, rfl, k⟩
theorem c_listL {p : Addr} {xs : List V} (h : Hs B L H) (hq : SqL K H p xs) (k : ∀ a H', Hs B ((a, .lst xs) :: L) H' → Q (.ref a) H') : rListK K [.ref p] H Q := ⟨p, xs, rfl, .inl hq, fun a ha => k a _ (h.new ha)⟩
theorem c_listT {p : Addr} {xs : List V} (h : Hs B L H) (hq : SqT K H p xs) (k : ∀ a H', Hs B ((a, .lst xs) :: L) H' → Q (.ref a) H') : rListK K [.ref p] H Q := ⟨p, xs, rfl, .inr hq, fun a ha => k a _ (h.new ha)⟩
theorem c_divmod (h : Hs B L H) (c : CDiv i j) (k : ∀ a H', Hs B ((a, .tup [.int (i / j), .int (i % j)]) :: L) H' → Q (.ref a) H') : rDivmodK [.int i, .int j] H Q := ⟨i, j, rfl, c, fun a ha => k a _ (h.new ha)⟩
theorem c_max2 (k : Q (.int (if j > i then j else i)) H) : rMax2K [.int i, .int j] H Q := ⟨i, j, rfl, k⟩
theorem c_min2 (k : Q (.int (if j < i then j else i)) H) : rMin2K [.int i, .int j] H Q := ⟨i, j, rfl, k⟩
theorem c_abs (k : Q (.int (if i < 0 then -i else i)) H) : rAbsK [.int i] H Q := ⟨i, rfl, k⟩
theorem c_sum {p : Addr} {ns : List Int} (h : SqL K H p (ns.map V.int)) (k : Q (.int ns.sum) H) : rSum K [.ref p] H Q := ⟨p, ns, rfl, h, k⟩
theorem c_all {p : Addr} {bs : List Bool} (h : SqL K H p (bs.map V.bl)) (k : Q (.bl (bs.all id)) H) : rAll K [.ref p] H Q := ⟨p, bs, rfl, h, k⟩
theorem c_any {p : Addr} {bs : List Bool} (h : SqL K H p (bs.map V.bl)) (k : Q (.bl (bs.any id)) H) : rAny K [.ref p] H Q := ⟨p, bs, rfl, h, k⟩
theorem c_cl {sp : Sp} {dvs : List V} {W : WX} (k : tr σ H fun vs H1 => sp (vs ++ dvs) H1 Q fun c d H2 => W c d σ H2) : tCl sp dvs W tr σ H Q := k
theorem c_mt {C : Addr} {m : Str} {sp : Sp} {dvs : List V} {W : WX} (k : te σ H fun x H1 => ∃ a dx fs, x = .ref a ∧ H1 a = some (.ins C dx fs) ∧ fs.lookup m = none ∧ tr σ H1 fun vs H2 => sp (x :: (vs ++ dvs)) H2 Q fun c d H3 => W c d σ H3) : tMt C m sp dvs W te tr σ H Q := k
theorem c_recv {C dx p : Addr} {fs : List (Str × V)} {m : Str} {P : Prop} (h : H p = some (.ins C dx fs)) (hl : fs.lookup m = none) (k : P) : ∃ a dx fs, V.ref p = .ref a ∧ H a = some (.ins C dx fs) ∧ fs.lookup m = none ∧ P := ⟨p, dx, fs, rfl, h, hl, k⟩
end
/-! isinstance -/
theorem tyx_sql {p : Addr} {xs : List V} (h : SqL K H p xs) : TyX K H (.ref p) (.type "list") := by
  rcases h with (h | ⟨u, h⟩) | ⟨o, a, b, h1, h2, _⟩
  · exact .base (.lst h)
  · exact .base (.frz h)
  · exact .kList h1 h2
theorem c_isi {c : V} {t u : Value} {b : Bool} (T : TyX K H x t) (hc : ClsV c u) (e : PySem.W.kitOne K t u = some b) (k : Q (.bl b) H) : rIsi K [x, c] H Q := ⟨x, c, t, u, b, rfl, hc, T, e, k⟩
theorem k_int_int : PySem.W.kitOne K (.type "int") (.type "int") = some true := kit_ty (by decide +kernel)
theorem k_int_bool : PySem.W.kitOne K (.type "int") (.type "bool") = some false := kit_ty (by decide +kernel)
theorem k_list_list : PySem.W.kitOne K (.type "list") (.type "list") = some true := kit_ty (by decide +kernel)
theorem c_isi_ii (k : Q (.bl true) H) : rIsi K [.int i, .ty "int"] H Q := c_isi (.base (.int i)) (.ty _) k_int_int k
theorem c_isi_ib (k : Q (.bl false) H) : rIsi K [.int i, .ty "bool"] H Q := c_isi (.base (.int i)) (.ty _) k_int_bool k
theorem c_isi_ll {p : Addr} {xs : List V} (h : SqL K H p xs) (k : Q (.bl true) H) : rIsi K [.ref p, .ty "list"] H Q := c_isi (tyx_sql h) (.ty _) k_list_list k
/-! fields -/
def FldO (K : PySem.W.Frag) (f : Str) (x : V) (H : Hp) (Q : VK) : Prop := ∃ a C dx fs v, x = .ref a ∧ H a = some (.ins C dx fs) ∧ Cls K C ∧ NoAttr K C f ∧ fs.lookup f = some v ∧ Q v H
theorem c_fld {f : Str} {C dx p : Addr} {fs : List (Str × V)} (h : H p = some (.ins C dx fs)) (hc : Cls K C) (hn : NoAttr K C f) (hl : fs.lookup f = some v) (k : Q v H) : FldO K f (.ref p) H Q := ⟨p, C, dx, fs, v, rfl, h, hc, hn, hl, k⟩
end
/-! ### statements -/
section
variable {σ : St} {H : Hp} {dn : St → Hp → Prop} {dr : VK} {db dc : St → Hp → Prop} {t u : TS} {te : TE} {g : TG} {v : V} {b : Bool}
theorem w_seq (k : t ⟨u ⟨dn, dr, db, dc⟩, dr, db, dc⟩ σ H) : tSeq t u ⟨dn, dr, db, dc⟩ σ H := k
theorem w_asg (k : te σ H fun x H1 => g x σ H1 dn) : tAsg te g ⟨dn, dr, db, dc⟩ σ H := k
theorem w_name {n : Nat} {P : St → Hp → Prop} (k : P (σ.set n (some v)) H) : gName n v σ H P := k
theorem w_drop (k : te σ H fun _ H1 => dn σ H1) : tDrop te ⟨dn, dr, db, dc⟩ σ H := k
theorem w_ret (k : te σ H dr) : tRet te ⟨dn, dr, db, dc⟩ σ H := k
theorem w_if {c : TT} (k : c σ H fun b H1 => if b = true then t ⟨dn, dr, db, dc⟩ σ H1 else u ⟨dn, dr, db, dc⟩ σ H1) : tIfS c t u ⟨dn, dr, db, dc⟩ σ H := k
theorem w_next (k : dn σ H) : tNext ⟨dn, dr, db, dc⟩ σ H := k
theorem i_t {A A' : Prop} (h : b = true) (k : A) : if b = true then A else A' := by rw [if_pos h]; exact k
theorem i_f {A A' : Prop} (h : b = false) (k : A') : if b = true then A else A' := by rw [h, if_neg Bool.false_ne_true]; exact k
theorem i_2 {A A' : Prop} (k : b = true → A) (k' : b = false → A') : if b = true then A else A' := by cases b; exact iteF (k' rfl); exact iteT (k rfl)
theorem w_aug {n : Nat} {ti : TIp} (h : σ[n]? = some (some v)) (k : te σ H fun y H1 => ti v y H1 fun z H2 => dn (σ.set n (some z)) H2) : tAug n te ti ⟨dn, dr, db, dc⟩ σ H := ⟨v, h, k⟩
theorem c_ipAddI {i j : Int} {Q : VK} (k : Q (.int (i + j)) H) : ipAddU (.int i) (.int j) H Q := .inl ⟨i, j, rfl, rfl, k⟩
theorem c_ipSub {i j : Int} {Q : VK} (k : Q (.int (i - j)) H) : ipSubU (.int i) (.int j) H Q := ⟨i, j, rfl, rfl, k⟩
end
/-! ### loops over what has plain items -/
section
variable {α : Type} {K : PySem.W.Frag} {a : Addr} {g : TG} {tb : TS} {dn : St → Hp → Prop} {dr : VK} {db dc : St → Hp → Prop} {σ : St} {H : Hp}
theorem take_split {l : List α} {i : Nat} {x : α} (h : l[i]? = some x) : l = l.take i ++ x :: l.drop (i + 1) ∧ l.take (i + 1) = l.take i ++ [x] := by
  obtain ⟨hi, e⟩ := List.getElem?_eq_some_iff.mp h
  subst e
  refine ⟨?_, by rw [List.take_add_one, h]; rfl⟩
  conv => lhs; rw [← List.take_append_drop i l, List.drop_eq_getElem_cons hi]
theorem for_l (f : α → V) (l : List α) (Pv : List α → St → Hp → Prop) (h0 : Pv [] σ H) (hq : ∀ pre post σ H, l = pre ++ post → Pv pre σ H → SqL K H a (l.map f))
    (hs : ∀ pre x post σ H, l = pre ++ x :: post → Pv pre σ H → g (f x) σ H fun σ2 H2 => tb ⟨Pv (pre ++ [x]), dr, dn, Pv (pre ++ [x])⟩ σ2 H2) (hd : ∀ σ H, Pv l σ H → dn σ H) :
    ∃ W : Nat → Nat → St → Hp → Prop, (∃ m, W 0 m σ H) ∧ ∀ i m σ H, W i m σ H →
      ((Itl K a).stop i H ∧ dn σ H) ∨ ((Itl K a).go i H ∧ ∃ N : St → Hp → Prop, (∀ σ' H', N σ' H' → ∃ m', m' < m ∧ W (i + 1) m' σ' H') ∧ ∀ x H', (Itl K a).yld i H x H' → g x σ H' fun σ2 H2 => tb ⟨N, dr, dn, N⟩ σ2 H2) := by
  refine L2.for_list (D := { nx := dn, rt := dr }) (xs := l.map f) (fun i => Pv (l.take i)) (by simpa using h0) (fun i σ H _ p => hq _ (l.drop i) σ H (List.take_append_drop i l).symm p) (fun i x σ H hx p => ?_) (fun σ H p => hd σ H (by simpa using p))
  rw [List.getElem?_map] at hx
  cases e : l[i]? with
  | none => rw [e] at hx; cases hx
  | some y =>
    rw [e] at hx
    cases hx
    obtain ⟨e1, e2⟩ := take_split e
    have z := hs _ y _ σ H e1 p
    rw [e2]
    exact z
theorem lc_l {tt : TT} {te : TE} {vs : List Nat} {D : Addr} {Qd : Hp → Prop} (f : α → V) (l : List α) (Pv : List α → Hp → Prop) (h0 : Pv [] (upd H D (.lst []))) (hq : ∀ pre post H, l = pre ++ post → Pv pre H → SqL K H a (l.map f))
    (hs : ∀ pre x post H, l = pre ++ x :: post → Pv pre H → g (f x) (wipe σ vs) H fun σ2 H2 => wipe σ2 vs = wipe σ vs ∧ tt σ2 H2 fun b H3 =>
      if b = true then te σ2 H3 fun y H4 => ∃ acc, H4 D = some (.lst acc) ∧ acc.length < sizeLine ∧ Pv (pre ++ [x]) (upd H4 D (.lst (acc ++ [y]))) else Pv (pre ++ [x]) H3) (hd : ∀ H, Pv l H → Qd H) :
    ∃ W : Nat → Nat → Hp → Prop, (∃ m, W 0 m (upd H D (.lst []))) ∧ ∀ i m H, W i m H →
      ((Itl K a).stop i H ∧ Qd H) ∨ ((Itl K a).go i H ∧ ∃ Nx : Hp → Prop, (∀ H', Nx H' → ∃ m', m' < m ∧ W (i + 1) m' H') ∧ ∀ x H', (Itl K a).yld i H x H' → g x (wipe σ vs) H' fun σ2 H2 => wipe σ2 vs = wipe σ vs ∧ tt σ2 H2 fun b H3 =>
        if b = true then te σ2 H3 fun y H4 => ∃ acc, H4 D = some (.lst acc) ∧ acc.length < sizeLine ∧ Nx (upd H4 D (.lst (acc ++ [y]))) else Nx H3) := by
  refine L2.lc_list (xs := l.map f) (fun i => Pv (l.take i)) (by simpa using h0) (fun i H _ p => hq _ (l.drop i) H (List.take_append_drop i l).symm p) (fun i x H hx p => ?_) (fun H p => hd H (by simpa using p))
  rw [List.getElem?_map] at hx
  cases e : l[i]? with
  | none => rw [e] at hx; cases hx
  | some y =>
    rw [e] at hx
    cases hx
    obtain ⟨e1, e2⟩ := take_split e
    have z := hs _ y _ H e1 p
    rw [e2]
    exact z
end
end L2.BP
namespace L2.BP
open PySem PySem.Spec PyProof.Rows
/-- a def as callers see it: what its defaults are, how the written arguments bind, its promise -/
def DOk (P : Program) (w : World) (K : PySem.W.Frag) (mg : Str → Option Value) (base : Heap) (k : Nat) (f : Addr) (ps : List Str) (dvs : List V) (sp : Sp) : Prop :=
  ∃ (fd : FuncData) (ds : List Value), Vals dvs ds ∧ Binds K fd ps ds ∧ FnOk P w K mg base (L2.CX P w) k f fd ps sp ∧ PySem.W.keepIn K (.ref f) = true
abbrev WF : WX := fun _ _ _ _ => False
/-! ### one of two readings of the same expression -/
def tOrE (t u : TE) : TE := fun σ H Q => t σ H Q ∨ u σ H Q
theorem pe_orE {X : Cx} {e : Expr} {t u : TE} (h : PE X e t) (h' : PE X e u) : PE X e (tOrE t u) :=
  ⟨fun pins s σ H Q I z => z.elim (h.run pins s σ H Q I) (h'.run pins s σ H Q I)⟩
/-! ### kinds of things -/
inductive Tg where
  | non | bl (b : Bool) | int (i : Int) | str (x : Str) | lst (xs : List V) | tup (xs : List V) | dic
/-- the thing v is of that kind -/
inductive Th (K : PySem.W.Frag) (H : Hp) : V → Tg → Prop where
  | non : Th K H .non .non
  | bl (b : Bool) : Th K H (.bl b) (.bl b)
  | int (i : Int) : Th K H (.int i) (.int i)
  | str (x : Str) : Th K H (.str x) (.str x)
  | lst {a : Addr} {xs : List V} (h : SqL K H a xs) : Th K H (.ref a) (.lst xs)
  | tup {a : Addr} {xs : List V} (h : SqT K H a xs) : Th K H (.ref a) (.tup xs)
  | dic {a : Addr} {kvs : List (Key × V)} (h : H a = some (.dK kvs)) : Th K H (.ref a) .dic
def Tg.ty : Tg → String
  | .non => "NoneType" | .bl _ => "bool" | .int _ => "int" | .str _ => "str" | .lst _ => "list" | .tup _ => "tuple" | .dic => "dict"
section
variable {K : PySem.W.Frag} {H H' : Hp} {v : V} {g : Tg} {Q : VK}
theorem Th.same (h : Th K H v g) (e : Same H H') : Th K H' v g := by
  cases h with
  | non => exact .non
  | bl b => exact .bl b
  | int i => exact .int i
  | str x => exact .str x
  | lst h => exact .lst (e.seq h)
  | tup h => exact .tup (same_sqt e h)
  | dic h => exact .dic (e _ _ h)
theorem tyx_sqt {p : Addr} {xs : List V} (h : SqT K H p xs) : TyX K H (.ref p) (.type "tuple") := by
  rcases h with (h | ⟨u, h⟩) | ⟨o, a, b, h1, h2, _⟩
  · exact .base (.tup h)
  · exact .fTuple h
  · exact .kTuple h1 h2
theorem Th.tyx (h : Th K H v g) : TyX K H v (.type g.ty) := by
  cases h with
  | non => exact .base .non
  | bl b => exact .base (.bl b)
  | int i => exact .base (.int i)
  | str x => exact .base (.str x)
  | lst h => exact tyx_sql h
  | tup h => exact tyx_sqt h
  | dic h => exact .base (.dK h)
def Tg.isInt : Tg → Bool
  | .bl _ => true | .int _ => true | _ => false
def Tg.isBool : Tg → Bool
  | .bl _ => true | _ => false
def Tg.isList : Tg → Bool
  | .lst _ => true | _ => false
def Tg.isStr : Tg → Bool
  | .str _ => true | _ => false
def Tg.isTup : Tg → Bool
  | .tup _ => true | _ => false
theorem Tg.kInt (g : Tg) : PySem.W.kitOne K (.type g.ty) (.type "int") = some g.isInt := by cases g <;> exact kit_ty (by kernel_rfl)
theorem Tg.kBool (g : Tg) : PySem.W.kitOne K (.type g.ty) (.type "bool") = some g.isBool := by cases g <;> exact kit_ty (by kernel_rfl)
theorem Tg.kList (g : Tg) : PySem.W.kitOne K (.type g.ty) (.type "list") = some g.isList := by cases g <;> exact kit_ty (by kernel_rfl)
theorem Tg.kStr (g : Tg) : PySem.W.kitOne K (.type g.ty) (.type "str") = some g.isStr := by cases g <;> exact kit_ty (by kernel_rfl)
theorem Tg.kTup (g : Tg) : PySem.W.kitOne K (.type g.ty) (.type "tuple") = some g.isTup := by cases g <;> exact kit_ty (by kernel_rfl)
theorem c_isiInt (h : Th K H v g) (k : Q (.bl g.isInt) H) : rIsi K [v, .ty "int"] H Q := c_isi h.tyx (.ty _) g.kInt k
theorem c_isiBool (h : Th K H v g) (k : Q (.bl g.isBool) H) : rIsi K [v, .ty "bool"] H Q := c_isi h.tyx (.ty _) g.kBool k
theorem c_isiList (h : Th K H v g) (k : Q (.bl g.isList) H) : rIsi K [v, .ty "list"] H Q := c_isi h.tyx (.ty _) g.kList k
theorem c_isiStr (h : Th K H v g) (k : Q (.bl g.isStr) H) : rIsi K [v, .ty "str"] H Q := c_isi h.tyx (.ty _) g.kStr k
theorem c_isiTup (h : Th K H v g) (k : Q (.bl g.isTup) H) : rIsi K [v, .ty "tuple"] H Q := c_isi h.tyx (.ty _) g.kTup k
/-- the results of defs that change nothing: a value, a new list, a new tuple -/
def RetV (H : Hp) (Q : VK) (v : V) : Prop := ∀ H', Same H H' → Q v H'
def RetL (H : Hp) (Q : VK) (xs : List V) : Prop := ∀ p H', H p = none → Same H H' → H' p = some (.lst xs) → Q (.ref p) H'
def RetT (H : Hp) (Q : VK) (xs : List V) : Prop := ∀ p H', H p = none → Same H H' → H' p = some (.tup xs) → Q (.ref p) H'
end
section
variable {B H : Hp} {L : List (Addr × HO)} {K : PySem.W.Frag} {Q : VK} {v : V} {xs : List V}
theorem Hs.rv (h : Hs B L H) (k : RetV B Q v) : Q v H := k H h.ex
theorem Hs.rl {p : Addr} (h : Hs B L H) (m : (p, HO.lst xs) ∈ L) (k : RetL B Q xs) : Q (.ref p) H := k p H (h.nb m) h.ex (h.get m)
theorem Hs.rt {p : Addr} (h : Hs B L H) (m : (p, HO.tup xs) ∈ L) (k : RetT B Q xs) : Q (.ref p) H := k p H (h.nb m) h.ex (h.get m)
theorem retV (h : Hs B L H) (k : ∀ H', Hs B L H' → Q v H') : RetV H Q v := fun H' e => k H' (h.same e)
theorem retL (h : Hs B L H) (k : ∀ p H', Hs B ((p, .lst xs) :: L) H' → Q (.ref p) H') : RetL H Q xs := fun p H' hp e hn => k p H' (h.newS hp e hn)
theorem retT (h : Hs B L H) (k : ∀ p H', Hs B ((p, .tup xs) :: L) H' → Q (.ref p) H') : RetT H Q xs := fun p H' hp e hn => k p H' (h.newS hp e hn)
end
end L2.BP
namespace L2.BP
open PySem PySem.Spec PyProof.Rows
/-! ### loops over the picture of the heap: I tells of what is done, the slots, the own objects, the base -/
abbrev Pic : Type := List (Addr × HO)
section
variable {α : Type} {K : PySem.W.Frag} {a : Addr} {g : TG} {tb : TS} {dn : St → Hp → Prop} {dr : VK} {db dc : St → Hp → Prop} {σ : St} {H B : Hp} {L : Pic}
/-- a list that is read stands in the base, or is an own one that is not changed -/
def NxI {β : Type} (I : β → St → Pic → Hp → Prop) (b : β) : St → Hp → Prop := fun σ H => ∃ L B, I b σ L B ∧ Hs B L H
theorem w_forL (f : α → V) (l : List α) (I : List α → St → Pic → Hp → Prop) (hs : Hs B L H) (h0 : I [] σ L B) (hq : ∀ pre post σ' L' B' H', l = pre ++ post → I pre σ' L' B' → Hs B' L' H' → SqL K H' a (l.map f))
    (turn : ∀ pre x post σ' L' B' H', l = pre ++ x :: post → I pre σ' L' B' → Hs B' L' H' → g (f x) σ' H' fun σ2 H2 => tb ⟨NxI I (pre ++ [x]), dr, dn, NxI I (pre ++ [x])⟩ σ2 H2)
    (fin : ∀ σ' L' B' H', I l σ' L' B' → Hs B' L' H' → dn σ' H') :
    ∃ b, V.ref a = .ref b ∧ (∃ xs, SqL K H b xs) ∧ ∃ W : Nat → Nat → St → Hp → Prop, (∃ m, W 0 m σ H) ∧ ∀ i m σ H, W i m σ H →
      ((Itl K b).stop i H ∧ dn σ H) ∨ ((Itl K b).go i H ∧ ∃ N : St → Hp → Prop, (∀ σ' H', N σ' H' → ∃ m', m' < m ∧ W (i + 1) m' σ' H') ∧ ∀ x H', (Itl K b).yld i H x H' → g x σ H' fun σ2 H2 => tb ⟨N, dr, dn, N⟩ σ2 H2) :=
  ⟨a, rfl, ⟨_, hq [] l σ L B H rfl h0 hs⟩, for_l f l (NxI I) ⟨L, B, h0, hs⟩ (fun pre post σ' H' e ⟨_, _, i, h⟩ => hq pre post _ _ _ _ e i h) (fun pre x post σ' H' e ⟨_, _, i, h⟩ => turn pre x post _ _ _ _ e i h) fun σ' H' ⟨_, _, i, h⟩ => fin _ _ _ _ i h⟩
theorem w_forR {lo : Int} {n : Nat} (I : Nat → St → Pic → Hp → Prop) (hs : Hs B L H) (h0 : I 0 σ L B)
    (turn : ∀ i σ' L' B' H', i < n → I i σ' L' B' → Hs B' L' H' → g (.int (lo + i)) σ' H' fun σ2 H2 => tb ⟨NxI I (i + 1), dr, dn, NxI I (i + 1)⟩ σ2 H2)
    (fin : ∀ σ' L' B' H', I n σ' L' B' → Hs B' L' H' → dn σ' H') :
    ∃ W : Nat → Nat → St → Hp → Prop, (∃ m, W 0 m σ H) ∧ ∀ i m σ H, W i m σ H →
      ((Itr lo n).stop i H ∧ dn σ H) ∨ ((Itr lo n).go i H ∧ ∃ N : St → Hp → Prop, (∀ σ' H', N σ' H' → ∃ m', m' < m ∧ W (i + 1) m' σ' H') ∧ ∀ x H', (Itr lo n).yld i H x H' → g x σ H' fun σ2 H2 => tb ⟨N, dr, dn, N⟩ σ2 H2) :=
  L2.for_range (D := { nx := dn, rt := dr }) (NxI I) ⟨L, B, h0, hs⟩ (fun i σ' H' e ⟨_, _, q, h⟩ => turn i _ _ _ _ e q h) fun σ' H' ⟨_, _, q, h⟩ => fin _ _ _ _ q h
theorem c_rng1 {n : Int} {P : It → Hp → Prop} (h1 : -(2 ^ 62) ≤ n) (h2 : n < 2 ^ 62) (k : P (Itr 0 n.toNat) H) : ∃ j : Int, [V.int n] = [.int j] ∧ -(2 ^ 62) ≤ j ∧ j < 2 ^ 62 ∧ P (Itr 0 j.toNat) H := ⟨n, rfl, h1, h2, k⟩
theorem c_rng2 {i j : Int} {P : It → Hp → Prop} (h1 : -(2 ^ 62) ≤ i ∧ i < 2 ^ 62 ∧ -(2 ^ 62) ≤ j ∧ j < 2 ^ 62) (k : P (Itr i (j - i).toNat) H) :
    ∃ i' j' : Int, [V.int i, V.int j] = [.int i', .int j'] ∧ (-(2 ^ 62) ≤ i' ∧ i' < 2 ^ 62 ∧ -(2 ^ 62) ≤ j' ∧ j' < 2 ^ 62) ∧ P (Itr i' (j' - i').toNat) H := ⟨i, j, rfl, h1, k⟩
/-- while: I falls by its number -/
def WhN (I : Nat → St → Pic → Hp → Prop) (m : Nat) : St → Hp → Prop := fun σ H => ∃ m', m' < m ∧ NxI I m' σ H
theorem w_while {c : TT} (I : Nat → St → Pic → Hp → Prop) (m0 : Nat) (hs : Hs B L H) (h0 : I m0 σ L B)
    (turn : ∀ m σ' L' B' H', I m σ' L' B' → Hs B' L' H' → c σ' H' fun b H1 => if b = true then ∃ N : St → Hp → Prop, (∀ σ3 H3, N σ3 H3 → WhN I m σ3 H3) ∧ tb ⟨N, dr, dn, N⟩ σ' H1 else dn σ' H1) :
    tWhile c tb ⟨dn, dr, db, dc⟩ σ H := ⟨fun m => NxI I m, ⟨m0, L, B, h0, hs⟩, fun m σ' H' ⟨_, _, q, h⟩ => turn m σ' _ _ H' q h⟩
theorem w_turn {P : St → Hp → Prop} (k : tb ⟨P, dr, dn, P⟩ σ H) : ∃ N : St → Hp → Prop, (∀ σ3 H3, N σ3 H3 → P σ3 H3) ∧ tb ⟨N, dr, dn, N⟩ σ H := ⟨_, fun _ _ w => w, k⟩
end
/-! ### comprehensions -/
section
variable {α : Type} {K : PySem.W.Frag} {a : Addr} {g : TG} {tt : TT} {te tl : TE} {σ : St} {H B : Hp} {L : Pic} {Q : VK} {vs : List Nat}
/-- the turn's word: what was made so far stands at D -/
def LcN (I : List α → List V → Hp → Prop) (B : Hp) (L : Pic) (D : Addr) (pre : List α) : Hp → Prop := fun H' => ∃ acc B', I pre acc B' ∧ Same B B' ∧ Hs B' ((D, .lst acc) :: L) H'
theorem c_lcL {P : Addr → Hp → Prop} (f : α → V) (l : List α) (I : List α → List V → Hp → Prop) (hs : Hs B L H) (h0 : I [] [] B)
    (hq : ∀ B' H', Same B B' → Hs B' L H' → SqL K H' a (l.map f))
    (turn : ∀ pre x post acc B' D H', l = pre ++ x :: post → I pre acc B' → Same B B' → Hs B' ((D, .lst acc) :: L) H' → g (f x) (wipe σ vs) H' fun σ2 H2 => wipe σ2 vs = wipe σ vs ∧ tt σ2 H2 fun b H3 =>
      if b = true then te σ2 H3 fun y H4 => ∃ acc, H4 D = some (.lst acc) ∧ acc.length < sizeLine ∧ LcN I B L D (pre ++ [x]) (upd H4 D (.lst (acc ++ [y]))) else LcN I B L D (pre ++ [x]) H3)
    (fin : ∀ acc B' D H', I l acc B' → Same B B' → Hs B' ((D, .lst acc) :: L) H' → P D H') :
    ∃ b, V.ref a = .ref b ∧ (∃ xs, SqL K H b xs) ∧ ∀ D, H D = none → ∃ W : Nat → Nat → Hp → Prop, (∃ m, W 0 m (upd H D (.lst []))) ∧ ∀ i m H, W i m H →
      ((Itl K b).stop i H ∧ P D H) ∨ ((Itl K b).go i H ∧ ∃ Nx : Hp → Prop, (∀ H', Nx H' → ∃ m', m' < m ∧ W (i + 1) m' H') ∧ ∀ x H', (Itl K b).yld i H x H' → g x (wipe σ vs) H' fun σ2 H2 => wipe σ2 vs = wipe σ vs ∧ tt σ2 H2 fun b H3 =>
        if b = true then te σ2 H3 fun y H4 => ∃ acc, H4 D = some (.lst acc) ∧ acc.length < sizeLine ∧ Nx (upd H4 D (.lst (acc ++ [y]))) else Nx H3) :=
  ⟨a, rfl, ⟨_, hq B H (Same.refl B) hs⟩, fun D hD => lc_l f l (LcN I B L D) ⟨[], B, h0, Same.refl B, hs.new hD⟩ (fun pre post H' _ ⟨acc, B', _, e, h⟩ => hq B' H' e h.drop)
    (fun pre x post H' e ⟨acc, B', p, e2, h⟩ => turn pre x post acc B' D H' e p e2 h) fun H' ⟨acc, B', p, e, h⟩ => fin acc B' D H' p e h⟩
theorem c_lcR {P : Addr → Hp → Prop} {lo : Int} {n : Nat} (I : Nat → List V → Hp → Prop) (hs : Hs B L H) (h0 : I 0 [] B)
    (turn : ∀ i acc B' D H', i < n → I i acc B' → Same B B' → Hs B' ((D, .lst acc) :: L) H' → g (.int (lo + i)) (wipe σ vs) H' fun σ2 H2 => wipe σ2 vs = wipe σ vs ∧ tt σ2 H2 fun b H3 =>
      if b = true then te σ2 H3 fun y H4 => ∃ acc, H4 D = some (.lst acc) ∧ acc.length < sizeLine ∧ (fun H' => ∃ acc B', I (i + 1) acc B' ∧ Same B B' ∧ Hs B' ((D, .lst acc) :: L) H') (upd H4 D (.lst (acc ++ [y]))) else (fun H' => ∃ acc B', I (i + 1) acc B' ∧ Same B B' ∧ Hs B' ((D, .lst acc) :: L) H') H3)
    (fin : ∀ acc B' D H', I n acc B' → Same B B' → Hs B' ((D, .lst acc) :: L) H' → P D H') :
    ∀ D, H D = none → ∃ W : Nat → Nat → Hp → Prop, (∃ m, W 0 m (upd H D (.lst []))) ∧ ∀ i m H, W i m H →
      ((Itr lo n).stop i H ∧ P D H) ∨ ((Itr lo n).go i H ∧ ∃ Nx : Hp → Prop, (∀ H', Nx H' → ∃ m', m' < m ∧ W (i + 1) m' H') ∧ ∀ x H', (Itr lo n).yld i H x H' → g x (wipe σ vs) H' fun σ2 H2 => wipe σ2 vs = wipe σ vs ∧ tt σ2 H2 fun b H3 =>
        if b = true then te σ2 H3 fun y H4 => ∃ acc, H4 D = some (.lst acc) ∧ acc.length < sizeLine ∧ Nx (upd H4 D (.lst (acc ++ [y]))) else Nx H3) :=
  fun D hD => L2.lc_range (fun i H' => ∃ acc B', I i acc B' ∧ Same B B' ∧ Hs B' ((D, .lst acc) :: L) H') ⟨[], B, h0, Same.refl B, hs.new hD⟩
    (fun i H' e ⟨acc, B', p, e2, h⟩ => turn i acc B' D H' e p e2 h) fun H' ⟨acc, B', p, e, h⟩ => fin acc B' D H' p e h
/-- one item more -/
theorem c_item {D : Addr} {acc : List V} {y : V} {B2 : Hp} {P : List V → Hp → Prop} (h : Hs B2 ((D, .lst acc) :: L) H) (hz : acc.length < sizeLine) (e : Same B B2) (i : P (acc ++ [y]) B2) :
    ∃ acc, H D = some (.lst acc) ∧ acc.length < sizeLine ∧ ∃ acc2 B', P acc2 B' ∧ Same B B' ∧ Hs B' ((D, .lst acc2) :: L) (upd H D (.lst (acc ++ [y]))) :=
  ⟨acc, h.get (.head _), hz, acc ++ [y], B2, i, e, h.u0⟩
theorem c_lc {wi : TI} (k : wi σ H fun J H1 => ∀ D, H1 D = none → ∃ W : Nat → Nat → Hp → Prop, (∃ m, W 0 m (upd H1 D (.lst []))) ∧ ∀ i m H, W i m H →
      (J.stop i H ∧ Q (.ref D) H) ∨ (J.go i H ∧ ∃ Nx : Hp → Prop, (∀ H', Nx H' → ∃ m', m' < m ∧ W (i + 1) m' H') ∧ ∀ x H', J.yld i H x H' → g x (wipe σ vs) H' fun σ2 H2 => wipe σ2 vs = wipe σ vs ∧ tt σ2 H2 fun b H3 =>
        if b = true then te σ2 H3 fun y H4 => ∃ acc, H4 D = some (.lst acc) ∧ acc.length < sizeLine ∧ Nx (upd H4 D (.lst (acc ++ [y]))) else Nx H3)) : tLc wi g tt te vs σ H Q := k
theorem w_for {wi : TI} {tb : TS} {dn : St → Hp → Prop} {dr : VK} {db dc : St → Hp → Prop} (k : wi σ H fun J H1 => ∃ W : Nat → Nat → St → Hp → Prop, (∃ m, W 0 m σ H1) ∧ ∀ i m σ H, W i m σ H →
  (J.stop i H ∧ dn σ H) ∨ (J.go i H ∧ ∃ N : St → Hp → Prop, (∀ σ' H', N σ' H' → ∃ m', m' < m ∧ W (i + 1) m' σ' H') ∧ ∀ x H', J.yld i H x H' → g x σ H' fun σ2 H2 => tb ⟨N, dr, dn, N⟩ σ2 H2)) : tFor wi g tb ⟨dn, dr, db, dc⟩ σ H := k
theorem c_iL {R : It → Hp → Prop} (k : tl σ H fun x H1 => ∃ a, x = .ref a ∧ (∃ xs, SqL K H1 a xs) ∧ R (Itl K a) H1) : iList K tl σ H R := k
theorem c_iT {R : It → Hp → Prop} (k : tl σ H fun x H1 => ∃ a, x = .ref a ∧ (∃ xs, SqT K H1 a xs) ∧ R (Itt K a) H1) : iTup K tl σ H R := k
theorem c_iR1 {ta : TA} {R : It → Hp → Prop} (k : ta σ H fun vs H1 => ∃ j : Int, vs = [.int j] ∧ -(2 ^ 62) ≤ j ∧ j < 2 ^ 62 ∧ R (Itr 0 j.toNat) H1) : iRng1 ta σ H R := k
theorem c_iR2 {ta : TA} {R : It → Hp → Prop} (k : ta σ H fun vs H1 => ∃ i j : Int, vs = [.int i, .int j] ∧ (-(2 ^ 62) ≤ i ∧ i < 2 ^ 62 ∧ -(2 ^ 62) ≤ j ∧ j < 2 ^ 62) ∧ R (Itr i (j - i).toNat) H1) : iRng2 ta σ H R := k
theorem c_yes {P : Bool → Hp → Prop} (k : P true H) : tYes σ H P := k
/-! targets, fields, methods of lists -/
theorem g_tup {n : Nat} {t : TGs} {xs : List V} {P : St → Hp → Prop} (h : SqT K H a xs) (hn : xs.length = n) (k : t xs σ H P) : gTup K n t (.ref a) σ H P := ⟨a, xs, rfl, h, hn, k⟩
theorem g_lst {n : Nat} {t : TGs} {xs : List V} {P : St → Hp → Prop} (h : SqL K H a xs) (hn : xs.length = n) (k : t xs σ H P) : gLst K n t (.ref a) σ H P := ⟨a, xs, rfl, h, hn, k⟩
theorem g_cons {t : TG} {u : TGs} {v : V} {r : List V} {P : St → Hp → Prop} (k : t v σ H fun σ' H' => u r σ' H' P) : gCons t u (v :: r) σ H P := ⟨v, r, rfl, k⟩
theorem g_nil {P : St → Hp → Prop} (k : P σ H) : gNil [] σ H P := ⟨rfl, k⟩
theorem c_tfld {f : Str} (k : te σ H fun x H1 => FldO K f x H1 Q) : tFld K te f σ H Q := k
def PutO (K : PySem.W.Frag) (f : Str) (y x : V) (H : Hp) (P : Hp → Prop) : Prop := ∃ a C dx fs, x = .ref a ∧ H a = some (.ins C dx fs) ∧ Cls K C ∧ NoAttr K C f ∧ fs.length < 1000 ∧ P (upd H a (.ins C dx (putF f y fs)))
theorem w_sfld {f : Str} {ta : TE} {dn : St → Hp → Prop} {dr : VK} {db dc : St → Hp → Prop} (k : te σ H fun y H1 => ta σ H1 fun x H2 => PutO K f y x H2 (dn σ)) : sFld K ta te f ⟨dn, dr, db, dc⟩ σ H := k
theorem w_put0 {f : Str} {C dx : Addr} {y : V} {fs fs' : List (Str × V)} {P : Hp → Prop} (hs : Hs B ((a, .ins C dx fs) :: L) H) (hc : Cls K C) (hn : NoAttr K C f) (hl : fs.length < 1000) (e : putF f y fs = fs')
    (k : ∀ H', Hs B ((a, .ins C dx fs') :: L) H' → P H') : PutO K f y (.ref a) H P :=
  ⟨a, C, dx, fs, rfl, hs.get (.head _), hc, hn, hl, by rw [e]; exact k _ hs.u0⟩
theorem w_put1 {q : Addr × HO} {f : Str} {C dx : Addr} {y : V} {fs fs' : List (Str × V)} {P : Hp → Prop} (hs : Hs B (q :: (a, .ins C dx fs) :: L) H) (hc : Cls K C) (hn : NoAttr K C f) (hl : fs.length < 1000) (e : putF f y fs = fs')
    (k : ∀ H', Hs B (q :: (a, .ins C dx fs') :: L) H' → P H') : PutO K f y (.ref a) H P := w_put0 hs.swap hc hn hl e fun H' h => k H' h.swap
theorem w_put2 {q r : Addr × HO} {f : Str} {C dx : Addr} {y : V} {fs fs' : List (Str × V)} {P : Hp → Prop} (hs : Hs B (q :: r :: (a, .ins C dx fs) :: L) H) (hc : Cls K C) (hn : NoAttr K C f) (hl : fs.length < 1000) (e : putF f y fs = fs')
    (k : ∀ H', Hs B (q :: r :: (a, .ins C dx fs') :: L) H' → P H') : PutO K f y (.ref a) H P := w_put0 hs.rot3 hc hn hl e fun H' h => k H' h.unrot3
def AugO (K : PySem.W.Frag) (f : Str) (x : V) (H : Hp) (P : Addr → Addr → V → Prop) : Prop := ∃ a C dx fs v, x = .ref a ∧ H a = some (.ins C dx fs) ∧ Cls K C ∧ NoAttr K C f ∧ fs.lookup f = some v ∧ P a C v
def AputO (f : Str) (a C : Addr) (z : V) (H : Hp) (P : Hp → Prop) : Prop := ∃ dx' fs', H a = some (.ins C dx' fs') ∧ fs'.length < 1000 ∧ P (upd H a (.ins C dx' (putF f z fs')))
theorem w_sfldAug {f : Str} {ta : TE} {rd : V → V → Hp → VK → Prop} {dn : St → Hp → Prop} {dr : VK} {db dc : St → Hp → Prop} (k : ta σ H fun x H1 => AugO K f x H1 fun a C v => te σ H1 fun y H2 => rd v y H2 fun z H3 => AputO f a C z H3 (dn σ)) : sFldAug K ta te rd f ⟨dn, dr, db, dc⟩ σ H := k
theorem c_fldA {f : Str} {C dx : Addr} {fs : List (Str × V)} {v : V} {P : Addr → Addr → V → Prop} (h : H a = some (.ins C dx fs)) (hc : Cls K C) (hn : NoAttr K C f) (hl : fs.lookup f = some v) (k : P a C v) :
    AugO K f (.ref a) H P := ⟨a, C, dx, fs, v, rfl, h, hc, hn, hl, k⟩
theorem c_radd {i j : Int} (k : Q (.int (i + j)) H) : rAdd (.int i) (.int j) H Q := ⟨i, j, rfl, rfl, k⟩
theorem c_rsub {i j : Int} (k : Q (.int (i - j)) H) : rSub (.int i) (.int j) H Q := ⟨i, j, rfl, rfl, k⟩
theorem w_aput0 {f : Str} {C dx : Addr} {z : V} {fs fs' : List (Str × V)} {P : Hp → Prop} (hs : Hs B ((a, .ins C dx fs) :: L) H) (hl : fs.length < 1000) (e : putF f z fs = fs') (k : ∀ H', Hs B ((a, .ins C dx fs') :: L) H' → P H') :
    AputO f a C z H P := ⟨dx, fs, hs.get (.head _), hl, by rw [e]; exact k _ hs.u0⟩
theorem w_aput1 {q : Addr × HO} {f : Str} {C dx : Addr} {z : V} {fs fs' : List (Str × V)} {P : Hp → Prop} (hs : Hs B (q :: (a, .ins C dx fs) :: L) H) (hl : fs.length < 1000) (e : putF f z fs = fs') (k : ∀ H', Hs B (q :: (a, .ins C dx fs') :: L) H' → P H') :
    AputO f a C z H P := w_aput0 hs.swap hl e fun H' h => k H' h.swap
theorem w_aput2 {q r : Addr × HO} {f : Str} {C dx : Addr} {z : V} {fs fs' : List (Str × V)} {P : Hp → Prop} (hs : Hs B (q :: r :: (a, .ins C dx fs) :: L) H) (hl : fs.length < 1000) (e : putF f z fs = fs') (k : ∀ H', Hs B (q :: r :: (a, .ins C dx fs') :: L) H' → P H') :
    AputO f a C z H P := w_aput0 hs.rot3 hl e fun H' h => k H' h.unrot3
theorem c_bm {T : String} {r : V → List V → Hp → VK → Prop} {t : TA} (k : te σ H fun x H1 => tyV K T x H1 ∧ t σ H1 fun xs H2 => r x xs H2 Q) : tBM K T r te t σ H Q := k
theorem c_bm0 {T : String} {r : V → List V → Hp → VK → Prop} (k : te σ H fun x H1 => tyV K T x H1 ∧ r x [] H1 Q) : tBM0 K T r te σ H Q := k
theorem c_tyL {xs : List V} {P : Prop} (h : SqL K H a xs) (k : P) : tyV K "list" (.ref a) H ∧ P := ⟨.inl ⟨rfl, _, h⟩, k⟩
theorem c_app0 {xs : List V} {y : V} (hs : Hs B ((a, .lst xs) :: L) H) (hz : xs.length < sizeLine) (k : ∀ H', Hs B ((a, .lst (xs ++ [y])) :: L) H' → Q .non H') : rAppend (.ref a) [y] H Q := ⟨a, xs, y, rfl, rfl, hs.get (.head _), hz, k _ hs.u0⟩
theorem c_app1 {q : Addr × HO} {xs : List V} {y : V} (hs : Hs B (q :: (a, .lst xs) :: L) H) (hz : xs.length < sizeLine) (k : ∀ H', Hs B (q :: (a, .lst (xs ++ [y])) :: L) H' → Q .non H') : rAppend (.ref a) [y] H Q := c_app0 hs.swap hz fun H' h => k H' h.swap
theorem c_app2 {q r : Addr × HO} {xs : List V} {y : V} (hs : Hs B (q :: r :: (a, .lst xs) :: L) H) (hz : xs.length < sizeLine) (k : ∀ H', Hs B (q :: r :: (a, .lst (xs ++ [y])) :: L) H' → Q .non H') : rAppend (.ref a) [y] H Q := c_app0 hs.rot3 hz fun H' h => k H' h.unrot3
theorem c_sl {r : V → Option Int → Option Int → Hp → VK → Prop} {lo hi : TO} (k : te σ H fun x H1 => lo σ H1 fun l H2 => hi σ H2 fun u H3 => r x l u H3 Q) : tSl r te lo hi σ H Q := k
theorem c_part {P : Option Int → Hp → Prop} (k : te σ H fun x H1 => ∃ i, x = .int i ∧ P (some i) H1) : tPart te σ H P := k
theorem c_nopart {P : Option Int → Hp → Prop} (k : P none H) : tNoPart σ H P := k
theorem c_i {i : Int} {P : Int → Prop} (k : P i) : ∃ j, V.int i = .int j ∧ P j := ⟨i, rfl, k⟩
theorem small5 {n : Nat} (h : n ≤ 100000) : n < sizeLine := Nat.lt_of_le_of_lt h (by decide)
theorem small5' {n : Nat} (h : n ≤ 100000) : n ≤ sizeLine := Nat.le_trans h (by decide)
end
end L2.BP
namespace L2.BP
open PySem PySem.Spec PyProof.Rows
section
variable {f g : Str} {v w y : V} {r r' : List (Str × V)}
theorem look0 : List.lookup f ((f, v) :: r) = some v := by simp [List.lookup]
theorem lookS (h : ¬ f = g) (e : List.lookup f r = some v) : List.lookup f ((g, w) :: r) = some v := by
  have n : (f == g) = false := by simpa using h
  show (match f == g with | true => some w | false => List.lookup f r) = some v
  rw [n]
  exact e
theorem lookN : List.lookup f ([] : List (Str × V)) = none := rfl
theorem lookNS (h : ¬ f = g) (e : List.lookup f r = none) : List.lookup f ((g, w) :: r) = none := by
  have n : (f == g) = false := by simpa using h
  show (match f == g with | true => some w | false => List.lookup f r) = none
  rw [n]
  exact e
theorem put0 : putF f y ((f, v) :: r) = (f, y) :: r := if_pos rfl
theorem putN : putF f y [] = [(f, y)] := rfl
theorem putS (h : ¬ g = f) (e : putF f y r = r') : putF f y ((g, w) :: r) = (g, w) :: r' := by
  show (if g = f then _ else (g, w) :: putF f y r) = _
  rw [if_neg h, e]
end
section
variable {K : PySem.W.Frag} {σ : St} {H B : Hp} {L : Pic} {Q : VK} {sp : Sp} {W : WX} {dvs vs : List V} {C : Addr}
def MkO (C : Addr) (sp : Sp) (vs : List V) (H : Hp) (Q : VK) (E : XK) : Prop := ∀ x dx, H x = none → H dx = none → dx ≠ x → sp (.ref x :: vs) (upd (upd H dx (.own x)) x (.ins C dx [])) (fun v H2 => v = .non ∧ Q (.ref x) H2) E
theorem c_mk {t : TA} (k : t σ H fun vs H1 => MkO C sp (vs ++ dvs) H1 Q fun c d H2 => W c d σ H2) : tMk C sp dvs W t σ H Q := k
theorem c_mkO {E : XK} (hs : Hs B L H) (k : ∀ x dx H', Hs B ((x, .ins C dx []) :: L) H' → sp (.ref x :: vs) H' (fun v H2 => v = .non ∧ Q (.ref x) H2) E) : MkO C sp vs H Q E := fun x dx hx hdx ne => by
  have h1 := hs.new (o := HO.own x) hdx
  have h2 : (upd H dx (.own x)) x = none := by rw [upd_ne (Ne.symm ne)]; exact hx
  exact k x dx _ (h1.new h2).swap.drop
/-- drop what stands second, third -/
theorem Hs.drop1 {a b : Addr × HO} (h : Hs B (a :: b :: L) H) : Hs B (a :: L) H := h.swap.drop
theorem Hs.drop2 {a b c : Addr × HO} (h : Hs B (a :: b :: c :: L) H) : Hs B (a :: b :: L) H := h.rot3.drop
end
end L2.BP
namespace L2.BP
open PySem PySem.Spec PyProof.Rows
/-! ### walks that hand out pairs; walks of tuples -/
section
variable {α : Type} {K : PySem.W.Frag} {a : Addr} {g : TG} {tb : TS} {dn : St → Hp → Prop} {dr : VK} {db dc : St → Hp → Prop} {σ : St} {H B : Hp} {L : Pic}
/-- what a for asks of its iterator -/
def ForO (J : It) (g : TG) (tb : TS) (dn : St → Hp → Prop) (dr : VK) (σ : St) (H : Hp) : Prop := ∃ W : Nat → Nat → St → Hp → Prop, (∃ m, W 0 m σ H) ∧ ∀ i m σ H, W i m σ H →
  (J.stop i H ∧ dn σ H) ∨ (J.go i H ∧ ∃ N : St → Hp → Prop, (∀ σ' H', N σ' H' → ∃ m', m' < m ∧ W (i + 1) m' σ' H') ∧ ∀ x H', J.yld i H x H' → g x σ H' fun σ2 H2 => tb ⟨N, dr, dn, N⟩ σ2 H2)
theorem get_map {f : α → V} {l : List α} {i : Nat} {x : V} (h : (l.map f)[i]? = some x) : ∃ y, l[i]? = some y ∧ x = f y := by
  rw [List.getElem?_map] at h
  cases e : l[i]? with
  | none => rw [e] at h; cases h
  | some y => rw [e] at h; exact ⟨y, rfl, (Option.some.inj h).symm⟩
theorem w_forE (f : α → V) (l : List α) (I : List α → St → Pic → Hp → Prop) (hs : Hs B L H) (h0 : I [] σ L B) (hq : ∀ pre post σ' L' B' H', l = pre ++ post → I pre σ' L' B' → Hs B' L' H' → SqL K H' a (l.map f))
    (turn : ∀ pre x post σ' L' B' T H', l = pre ++ x :: post → I pre σ' L' B' → Hs B' ((T, .tup [.int ((pre.length : Nat) : Int), f x]) :: L') H' → g (.ref T) σ' H' fun σ2 H2 => tb ⟨NxI I (pre ++ [x]), dr, dn, NxI I (pre ++ [x])⟩ σ2 H2)
    (fin : ∀ σ' L' B' H', I l σ' L' B' → Hs B' L' H' → dn σ' H') : ForO (Ite K a) g tb dn dr σ H := by
  refine ⟨fun i m σ H => m = l.length - i ∧ i ≤ l.length ∧ NxI I (l.take i) σ H, ⟨l.length, by simp, Nat.zero_le _, L, B, by simpa using h0, hs⟩, ?_⟩
  rintro i m σ' H' ⟨rfl, hi, L', B', q, h⟩
  have z := hq (l.take i) (l.drop i) σ' L' B' H' (List.take_append_drop i l).symm q h
  by_cases hlt : i < l.length
  · refine .inr ⟨⟨l.map f, f l[i], z, by simp [hlt]⟩, NxI I (l.take (i + 1)), fun σ2 H2 p => ⟨_, by omega, rfl, hlt, p⟩, ?_⟩
    rintro v H2 ⟨T, x, rfl, hT, rfl, hx⟩
    obtain ⟨y, e1, rfl⟩ := get_map (hx _ z)
    obtain ⟨e2, e3⟩ := take_split e1
    have el : (l.take i).length = i := by rw [List.length_take]; omega
    have w := turn _ y _ σ' L' B' T _ e2 q (by rw [el]; exact h.new hT)
    rw [e3]
    exact w
  · have e : i = l.length := by omega
    subst e
    exact .inl ⟨⟨_, z, by simp⟩, fin _ _ _ _ (by simpa using q) h⟩
/-- over a tuple -/
theorem w_forT (xs : List V) (I : List V → St → Pic → Hp → Prop) (hs : Hs B L H) (h0 : I [] σ L B) (hq : ∀ pre post σ' L' B' H', xs = pre ++ post → I pre σ' L' B' → Hs B' L' H' → SqT K H' a xs)
    (turn : ∀ pre x post σ' L' B' H', xs = pre ++ x :: post → I pre σ' L' B' → Hs B' L' H' → g x σ' H' fun σ2 H2 => tb ⟨NxI I (pre ++ [x]), dr, dn, NxI I (pre ++ [x])⟩ σ2 H2)
    (fin : ∀ σ' L' B' H', I xs σ' L' B' → Hs B' L' H' → dn σ' H') :
    ∃ b, V.ref a = .ref b ∧ (∃ xs, SqT K H b xs) ∧ ForO (Itt K b) g tb dn dr σ H := by
  refine ⟨a, rfl, ⟨_, hq [] xs σ L B H rfl h0 hs⟩, ?_⟩
  refine L2.for_tup (D := { nx := dn, rt := dr }) (K := K) (a := a) (xs := xs) (fun i => NxI I (xs.take i)) ⟨L, B, by simpa using h0, hs⟩ (fun i σ' H' _ ⟨L', B', q, h⟩ => hq (xs.take i) (xs.drop i) σ' L' B' H' (List.take_append_drop i xs).symm q h) (fun i x σ' H' hx ⟨L', B', q, h⟩ => ?_) fun σ' H' ⟨L', B', q, h⟩ => fin _ _ _ _ (by simpa using q) h
  obtain ⟨e1, e2⟩ := take_split hx
  have w := turn _ x _ σ' L' B' H' e1 q h
  rw [e2]
  exact w
/-- over two lists -/
theorem w_forZ {β : Type} {b : Addr} (f : α → V) (f2 : β → V) (l : List α) (l2 : List β) (hl : l.length = l2.length) (I : Nat → St → Pic → Hp → Prop) (hs : Hs B L H) (h0 : I 0 σ L B)
    (hq : ∀ i σ' L' B' H', I i σ' L' B' → Hs B' L' H' → SqL K H' a (l.map f) ∧ SqL K H' b (l2.map f2))
    (turn : ∀ i x y σ' L' B' T H', l[i]? = some x → l2[i]? = some y → I i σ' L' B' → Hs B' ((T, .tup [f x, f2 y]) :: L') H' → g (.ref T) σ' H' fun σ2 H2 => tb ⟨NxI I (i + 1), dr, dn, NxI I (i + 1)⟩ σ2 H2)
    (fin : ∀ σ' L' B' H', I l.length σ' L' B' → Hs B' L' H' → dn σ' H') : ForO (Itz K a b) g tb dn dr σ H := by
  refine ⟨fun i m σ H => m = l.length - i ∧ i ≤ l.length ∧ NxI I i σ H, ⟨l.length, by simp, Nat.zero_le _, L, B, h0, hs⟩, ?_⟩
  rintro i m σ' H' ⟨rfl, hi, L', B', q, h⟩
  obtain ⟨z1, z2⟩ := hq i σ' L' B' H' q h
  by_cases hlt : i < l.length
  · have hlt2 : i < l2.length := by omega
    refine .inr ⟨⟨l.map f, l2.map f2, f l[i], f2 l2[i], z1, z2, by simp [hlt], by simp [hlt2]⟩, NxI I (i + 1), fun σ2 H2 p => ⟨_, by omega, rfl, hlt, p⟩, ?_⟩
    rintro v H2 ⟨T, x, y, rfl, hT, rfl, hx, hy⟩
    obtain ⟨x', e1, rfl⟩ := get_map (hx _ z1)
    obtain ⟨y', e2, rfl⟩ := get_map (hy _ z2)
    exact turn i x' y' σ' L' B' T _ e1 e2 q (h.new hT)
  · have e : i = l.length := by omega
    subst e
    exact .inl ⟨⟨_, _, z1, z2, by simp⟩, fin _ _ _ _ q h⟩
theorem c_iE {ta : TA} {R : It → Hp → Prop} (k : ta σ H fun vs H1 => ∃ a xs, vs = [.ref a] ∧ SqL K H1 a xs ∧ R (Ite K a) H1) : iEnum K ta σ H R := k
theorem c_iE1 {R : It → Hp → Prop} {xs : List V} (h : SqL K H a xs) (k : R (Ite K a) H) : ∃ b xs, [V.ref a] = [.ref b] ∧ SqL K H b xs ∧ R (Ite K b) H := ⟨a, xs, rfl, h, k⟩
theorem c_iZ {ta : TA} {R : It → Hp → Prop} (k : ta σ H fun vs H1 => ∃ a b xs ys, vs = [.ref a, .ref b] ∧ SqL K H1 a xs ∧ SqL K H1 b ys ∧ R (Itz K a b) H1) : iZip K ta σ H R := k
theorem c_iZ1 {R : It → Hp → Prop} {b : Addr} {xs ys : List V} (h : SqL K H a xs) (h2 : SqL K H b ys) (k : R (Itz K a b) H) : ∃ a' b' xs ys, [V.ref a, V.ref b] = [.ref a', .ref b'] ∧ SqL K H a' xs ∧ SqL K H b' ys ∧ R (Itz K a' b') H := ⟨a, b, xs, ys, rfl, h, h2, k⟩
end
section
variable {α : Type} {K : PySem.W.Frag} {a : Addr} {g : TG} {tt : TT} {te tl : TE} {σ : St} {H B : Hp} {L : Pic} {vs : List Nat}
/-- what a comprehension asks of its iterator -/
def LcO (J : It) (g : TG) (tt : TT) (te : TE) (vs : List Nat) (σ : St) (H : Hp) (P : Addr → Hp → Prop) : Prop := ∀ D, H D = none → ∃ W : Nat → Nat → Hp → Prop, (∃ m, W 0 m (upd H D (.lst []))) ∧ ∀ i m H, W i m H →
  (J.stop i H ∧ P D H) ∨ (J.go i H ∧ ∃ Nx : Hp → Prop, (∀ H', Nx H' → ∃ m', m' < m ∧ W (i + 1) m' H') ∧ ∀ x H', J.yld i H x H' → g x (wipe σ vs) H' fun σ2 H2 => wipe σ2 vs = wipe σ vs ∧ tt σ2 H2 fun b H3 =>
    if b = true then te σ2 H3 fun y H4 => ∃ acc, H4 D = some (.lst acc) ∧ acc.length < sizeLine ∧ Nx (upd H4 D (.lst (acc ++ [y]))) else Nx H3)
theorem c_lcE {P : Addr → Hp → Prop} (f : α → V) (l : List α) (I : List α → List V → Hp → Prop) (hs : Hs B L H) (h0 : I [] [] B) (hq : ∀ B' H', Same B B' → Hs B' L H' → SqL K H' a (l.map f))
    (turn : ∀ pre x post acc B' D T H', l = pre ++ x :: post → I pre acc B' → Same B B' → Hs B' ((T, .tup [.int ((pre.length : Nat) : Int), f x]) :: (D, .lst acc) :: L) H' → g (.ref T) (wipe σ vs) H' fun σ2 H2 => wipe σ2 vs = wipe σ vs ∧ tt σ2 H2 fun b H3 =>
      if b = true then te σ2 H3 fun y H4 => ∃ acc, H4 D = some (.lst acc) ∧ acc.length < sizeLine ∧ LcN I B L D (pre ++ [x]) (upd H4 D (.lst (acc ++ [y]))) else LcN I B L D (pre ++ [x]) H3)
    (fin : ∀ acc B' D H', I l acc B' → Same B B' → Hs B' ((D, .lst acc) :: L) H' → P D H') : LcO (Ite K a) g tt te vs σ H P := by
  intro D hD
  refine ⟨fun i m H' => m = l.length - i ∧ i ≤ l.length ∧ LcN I B L D (l.take i) H', ⟨l.length, by simp, Nat.zero_le _, [], B, by simpa using h0, Same.refl B, hs.new hD⟩, ?_⟩
  rintro i m H' ⟨rfl, hi, acc, B', q, e, h⟩
  have z := hq B' H' e h.drop
  by_cases hlt : i < l.length
  · refine .inr ⟨⟨l.map f, f l[i], z, by simp [hlt]⟩, LcN I B L D (l.take (i + 1)), fun H2 p => ⟨_, by omega, rfl, hlt, p⟩, ?_⟩
    rintro v H2 ⟨T, x, rfl, hT, rfl, hx⟩
    obtain ⟨y, e1, rfl⟩ := get_map (hx _ z)
    obtain ⟨e2, e3⟩ := take_split e1
    have el : (l.take i).length = i := by rw [List.length_take]; omega
    have w := turn _ y _ acc B' D T _ e2 q e (by rw [el]; exact h.new hT)
    rw [e3]
    exact w
  · have e' : i = l.length := by omega
    subst e'
    exact .inl ⟨⟨_, z, by simp⟩, fin acc B' D H' (by simpa using q) e h⟩
end
/-! ### lists of tuples -/
section
variable {K : PySem.W.Frag} {H H' : Hp}
/-- each of these values is a tuple of those items -/
inductive Tups (K : PySem.W.Frag) (H : Hp) : List V → List (List V) → Prop where
  | nil : Tups K H [] []
  | cons {a : Addr} {xs : List V} {vs : List V} {r : List (List V)} : SqT K H a xs → Tups K H vs r → Tups K H (V.ref a :: vs) (xs :: r)
theorem Tups.same (e : Same H H') : ∀ {vs : List V} {ps : List (List V)}, Tups K H vs ps → Tups K H' vs ps
  | _, _, .nil => .nil
  | _, _, .cons h t => .cons (same_sqt e h) (Tups.same e t)
theorem Tups.length : ∀ {vs : List V} {ps : List (List V)}, Tups K H vs ps → vs.length = ps.length
  | _, _, .nil => rfl
  | _, _, .cons _ t => congrArg (· + 1) t.length
theorem Tups.snoc {a : Addr} {xs : List V} : ∀ {vs : List V} {ps : List (List V)}, Tups K H vs ps → SqT K H a xs → Tups K H (vs ++ [.ref a]) (ps ++ [xs])
  | _, _, .nil, h => .cons h .nil
  | _, _, .cons z t, h => .cons z (t.snoc h)
theorem Tups.get : ∀ {vs : List V} {ps : List (List V)} {i : Nat} {xs : List V}, Tups K H vs ps → ps[i]? = some xs → ∃ a, vs[i]? = some (.ref a) ∧ SqT K H a xs
  | _, _, 0, _, .cons h _, e => by cases e; exact ⟨_, rfl, h⟩
  | _, _, i + 1, _, .cons _ t, e => t.get (i := i) e
theorem Tups.split {x : V} {post : List V} : ∀ {pre : List V} {ps : List (List V)}, Tups K H (pre ++ x :: post) ps → ∃ a p1 xs p2, x = .ref a ∧ ps = p1 ++ xs :: p2 ∧ p1.length = pre.length ∧ SqT K H a xs
  | [], ps, h => by
    cases (show Tups K H (x :: post) ps from h) with
    | cons hh t => exact ⟨_, [], _, _, rfl, rfl, rfl, hh⟩
  | y :: pre, ps, h => by
    cases (show Tups K H (y :: (pre ++ x :: post)) ps from h) with
    | cons hh t =>
      obtain ⟨a, p1, xs, p2, e1, e2, e3, e4⟩ := Tups.split t
      exact ⟨a, _ :: p1, xs, p2, e1, by rw [e2]; rfl, by simp [e3], e4⟩
end
end L2.BP
namespace L2.BP
open PySem PySem.Spec PyProof.Rows
section
variable {σ : St} {H B : Hp} {L : Pic} {K : PySem.W.Frag} {dn : St → Hp → Prop} {dr : VK} {db dc : St → Hp → Prop} {Q : VK} {tr : TA} {te to_ ti_ : TE} {a b : Addr} {xs ys : List V} {x v w o i : V}
theorem w_break (k : db σ H) : tBreak ⟨dn, dr, db, dc⟩ σ H := k
theorem w_cont (k : dc σ H) : tCont ⟨dn, dr, db, dc⟩ σ H := k
theorem w_retN (k : dr .non H) : tRetN ⟨dn, dr, db, dc⟩ σ H := k
def ParO (m n : Nat) (vs : List V) (σ : St) (dn : St → Hp → Prop) (H : Hp) : Prop := ∃ v w, vs = [v, w] ∧ dn ((σ.set m (some v)).set n (some w)) H
theorem w_par {m n : Nat} (k : tr σ H fun vs H1 => ParO m n vs σ dn H1) : tPar m n tr ⟨dn, dr, db, dc⟩ σ H := k
theorem c_parO {m n : Nat} (k : dn ((σ.set m (some v)).set n (some w)) H) : ParO m n [v, w] σ dn H := ⟨v, w, rfl, k⟩
/-! a list longer by another one, in place -/
theorem c_ext0 (hs : Hs B ((a, .lst xs) :: L) H) (hb : H b = some (.lst ys)) (hz : xs.length + ys.length ≤ sizeLine) (k : ∀ H', Hs B ((a, .lst (xs ++ ys)) :: L) H' → Q (.ref a) H') : ipAddU (.ref a) (.ref b) H Q :=
  .inr (.inl ⟨a, b, xs, ys, rfl, rfl, hs.get (.head _), hb, hz, k _ hs.u0⟩)
theorem c_extM0 (hs : Hs B ((a, .lst xs) :: L) H) (hb : H b = some (.lst ys)) (hz : xs.length + ys.length ≤ sizeLine) (k : ∀ H', Hs B ((a, .lst (xs ++ ys)) :: L) H' → Q .non H') : rExtend (.ref a) [.ref b] H Q :=
  ⟨a, b, xs, ys, rfl, rfl, hs.get (.head _), hb, hz, k _ hs.u0⟩
theorem c_clear0 (hs : Hs B ((a, .lst xs) :: L) H) (k : ∀ H', Hs B ((a, .lst []) :: L) H' → Q .non H') : rClear (.ref a) [] H Q := ⟨a, xs, rfl, rfl, hs.get (.head _), k _ hs.u0⟩
theorem c_reverse0 (hs : Hs B ((a, .lst xs) :: L) H) (k : ∀ H', Hs B ((a, .lst xs.reverse) :: L) H' → Q .non H') : rReverse (.ref a) [] H Q := ⟨a, xs, rfl, rfl, hs.get (.head _), k _ hs.u0⟩
/-! slices of tuples, lists turned round -/
theorem c_slT {lo hi : Option Int} (h : Hs B L H) (hq : SqT K H a xs) (hn : ¬ (HT.sIx xs.length 0 lo = 0 ∧ HT.sIx xs.length xs.length hi = xs.length)) (k : ∀ p H', Hs B ((p, .tup (cutV xs lo hi)) :: L) H' → Q (.ref p) H') : rSlK K (.ref a) lo hi H Q :=
  .inr (.inr ⟨a, xs, rfl, hq, hn, fun p hp => k p _ (h.new hp)⟩)
def RevO (K : PySem.W.Frag) (x : V) (H : Hp) (Q : VK) : Prop := ∃ a xs, x = .ref a ∧ SqL K H a xs ∧ ∀ p, H p = none → Q (.ref p) (upd H p (.lst xs.reverse))
theorem c_rev (k : te σ H fun x H1 => RevO K x H1 Q) : tRevL K te σ H Q := k
theorem c_revO (h : Hs B L H) (hq : SqL K H a xs) (k : ∀ p H', Hs B ((p, .lst xs.reverse) :: L) H' → Q (.ref p) H') : RevO K (.ref a) H Q := ⟨a, xs, rfl, hq, fun p hp => k p _ (h.new hp)⟩
/-! an item written -/
def SetO (o i v : V) (H : Hp) (P : Hp → Prop) : Prop := rSetL o i v H P
theorem g_sub {P : St → Hp → Prop} (k : to_ σ H fun o H1 => ti_ σ H1 fun i H2 => SetO o i v H2 (P σ)) : gSub to_ ti_ rSetL v σ H P := k
theorem w_set0 {j : Int} {m : Nat} {P : Hp → Prop} (hs : Hs B ((a, .lst xs) :: L) H) (e : j = ((m : Nat) : Int)) (hm : m < xs.length) (k : ∀ H', Hs B ((a, .lst (xs.set m v)) :: L) H' → P H') : SetO (.ref a) (.int j) v H P :=
  ⟨a, xs, j, m, rfl, rfl, hs.get (.head _), by subst e; unfold ixN; rw [if_pos (Int.natCast_nonneg _), if_pos (Int.ofNat_lt.mpr hm), Int.toNat_natCast], k _ hs.u0⟩
theorem w_set1 {q : Addr × HO} {j : Int} {m : Nat} {P : Hp → Prop} (hs : Hs B (q :: (a, .lst xs) :: L) H) (e : j = ((m : Nat) : Int)) (hm : m < xs.length) (k : ∀ H', Hs B (q :: (a, .lst (xs.set m v)) :: L) H' → P H') : SetO (.ref a) (.int j) v H P :=
  w_set0 hs.swap e hm fun H' h => k H' h.swap
theorem c_isiS {z : Str} (k : Q (.bl true) H) : rIsi K [.str z, .ty "str"] H Q := c_isiStr (.str z) k
theorem small6 {n : Nat} (h : n ≤ 200000) : n < sizeLine := Nat.lt_of_le_of_lt h (by decide)
theorem small6' {n : Nat} (h : n ≤ 200000) : n ≤ sizeLine := Nat.le_trans h (by decide)
end
end L2.BP
namespace L2.BP
open PySem PySem.Spec PyProof.Rows
section
variable {K : PySem.W.Frag} {W : WX} {vs : List V} {H : Hp} {Q : VK} {E : XK}
/-! ### == of lists -/
theorem eqvAll_ints : ∀ a b : List Int, PyData.eqvAll (a.map PyData.int) (b.map PyData.int) = decide (a = b)
  | [], [] => by simp [PyData.eqvAll]
  | [], y :: r => by simp [PyData.eqvAll]
  | x :: r, [] => by simp [PyData.eqvAll]
  | x :: r, y :: t => by
    rw [List.map_cons, List.map_cons, PyData.eqvAll, eqvAll_ints r t]
    simp only [PyData.eqv]
    by_cases h : x = y <;> by_cases h2 : r = t <;> simp [h, h2]
theorem canAll_ints : ∀ a : List Int, PyData.canLayAll0 (a.map PyData.int) = true
  | [] => by simp [PyData.canLayAll0]
  | x :: r => by
    rw [List.map_cons, PyData.canLayAll0, canAll_ints r]
    simp [PyData.canLay0]
theorem depAll_ints : ∀ a : List Int, PyData.depthAll (a.map PyData.int) ≤ 1
  | [] => by simp [PyData.depthAll]
  | x :: r => by
    have := depAll_ints r
    rw [List.map_cons, PyData.depthAll]
    simp [PyData.depth]
    omega
theorem shaped_ints (a : List Int) : SeqAt.shaped (.list (a.map PyData.int)) = true := by
  unfold SeqAt.shaped
  rw [PyData.canLay0, canAll_ints, PyData.depth]
  have := depAll_ints a
  simp
  omega
theorem c_eqL {p q : Addr} (a b : List Int) (h1 : SqL K H p (a.map V.int)) (h2 : SqL K H q (b.map V.int)) (k : Q (.bl (decide (a = b))) H) : rEqU K (.ref p) (.ref q) H Q := by
  refine c_eqD (.lst h1 (dpa_ints a)) (.lst h2 (dpa_ints b)) (shaped_ints a) (shaped_ints b) ?_
  rw [PyData.eqv, eqvAll_ints]
  exact k
theorem c_neL {p q : Addr} (a b : List Int) (h1 : SqL K H p (a.map V.int)) (h2 : SqL K H q (b.map V.int)) (k : Q (.bl (!decide (a = b))) H) : rNeU K (.ref p) (.ref q) H Q := by
  refine c_neD (.lst h1 (dpa_ints a)) (.lst h2 (dpa_ints b)) (shaped_ints a) (shaped_ints b) ?_
  rw [PyData.eqv, eqvAll_ints]
  exact k
/-! a list of tuples of whole numbers and texts against an equal one -/
def vD : V → PyData
  | .int i => .int i
  | .str x => .str x
  | .bl b => .bool b
  | _ => .none
def flatV : V → Bool
  | .int _ => true
  | .str x => PyData.canLay0 (.str x)
  | .bl _ => true
  | .non => true
  | _ => false
theorem dp_flat : ∀ {v : V}, flatV v = true → Dp K H v (vD v)
  | .int i, _ => .int i
  | .str x, _ => .str x
  | .bl b, _ => .bl b
  | .non, _ => .non
theorem dpa_flat : ∀ {xs : List V}, xs.all flatV = true → DpAll K H xs (xs.map vD)
  | [], _ => .nil
  | x :: r, h => by
    rw [List.all_cons, Bool.and_eq_true] at h
    exact .cons (dp_flat h.1) (dpa_flat h.2)
theorem can_flat : ∀ {v : V}, flatV v = true → (vD v).canLay0 = true ∧ (vD v).depth = 0
  | .int i, _ => ⟨by simp [vD, PyData.canLay0], by simp [vD, PyData.depth]⟩
  | .str x, h => ⟨h, by simp [vD, PyData.depth]⟩
  | .bl b, _ => ⟨by simp [vD, PyData.canLay0], by simp [vD, PyData.depth]⟩
  | .non, _ => ⟨by simp [vD, PyData.canLay0], by simp [vD, PyData.depth]⟩
theorem canAll_flat : ∀ {xs : List V}, xs.all flatV = true → PyData.canLayAll0 (xs.map vD) = true ∧ PyData.depthAll (xs.map vD) ≤ 1
  | [], _ => ⟨by simp [PyData.canLayAll0], by simp [PyData.depthAll]⟩
  | x :: r, h => by
    rw [List.all_cons, Bool.and_eq_true] at h
    obtain ⟨h1, h2⟩ := can_flat h.1
    obtain ⟨h3, h4⟩ := canAll_flat h.2
    rw [List.map_cons, PyData.canLayAll0, PyData.depthAll, h1, h2, h3]
    exact ⟨rfl, by omega⟩
def tupD (xs : List V) : PyData := .tuple (xs.map vD)
theorem canAll_tups : ∀ {xss : List (List V)}, (∀ xs ∈ xss, xs.all flatV = true) → PyData.canLayAll0 (xss.map tupD) = true ∧ PyData.depthAll (xss.map tupD) ≤ 3
  | [], _ => ⟨by simp [PyData.canLayAll0], by simp [PyData.depthAll]⟩
  | x :: r, h => by
    obtain ⟨h1, h2⟩ := canAll_flat (h x (.head _))
    obtain ⟨h3, h4⟩ := canAll_tups fun y hy => h y (.tail _ hy)
    have e1 : (tupD x).canLay0 = true := by
      unfold tupD
      rw [PyData.canLay0, h1]
    have e2 : (tupD x).depth ≤ 2 := by
      unfold tupD
      rw [PyData.depth]
      omega
    rw [List.map_cons, PyData.canLayAll0, PyData.depthAll, h3, e1]
    exact ⟨rfl, by omega⟩
theorem shaped_tups {xss : List (List V)} (h : ∀ xs ∈ xss, xs.all flatV = true) : SeqAt.shaped (.list (xss.map tupD)) = true := by
  obtain ⟨h1, h2⟩ := canAll_tups h
  unfold SeqAt.shaped
  rw [PyData.canLay0, PyData.depth, h1]
  simp
  omega
theorem dpa_tups : ∀ {ws : List V} {xss : List (List V)}, Tups K H ws xss → (∀ xs ∈ xss, xs.all flatV = true) → DpAll K H ws (xss.map tupD)
  | _, _, .nil, _ => .nil
  | _, _, .cons z t, h => .cons (.tup z (dpa_flat (h _ (.head _)))) (dpa_tups t fun y hy => h y (.tail _ hy))
theorem eqv_vD (v : V) : PyData.eqv (vD v) (vD v) = true := by cases v <;> simp [vD, PyData.eqv]
theorem eqvAll_vD : ∀ xs : List V, PyData.eqvAll (xs.map vD) (xs.map vD) = true
  | [] => by simp [PyData.eqvAll]
  | x :: r => by rw [List.map_cons, PyData.eqvAll, eqv_vD, eqvAll_vD r]; rfl
theorem eqvAll_tupD : ∀ xss : List (List V), PyData.eqvAll (xss.map tupD) (xss.map tupD) = true
  | [] => by simp [PyData.eqvAll]
  | x :: r => by
    have e : PyData.eqv (tupD x) (tupD x) = true := by
      unfold tupD
      rw [PyData.eqv, eqvAll_vD]
    rw [List.map_cons, PyData.eqvAll, e, eqvAll_tupD r]
    rfl
theorem eqv_tups {xss : List (List V)} : PyData.eqv (.list (xss.map tupD)) (.list (xss.map tupD)) = true := by rw [PyData.eqv, eqvAll_tupD]
/-- two lists of equal tuples -/
theorem c_neT {p q : Addr} {ws us : List V} {xss : List (List V)} (hf : ∀ xs ∈ xss, xs.all flatV = true) (h1 : SqL K H p ws) (t1 : Tups K H ws xss) (h2 : SqL K H q us) (t2 : Tups K H us xss) (k : Q (.bl false) H) : rNeU K (.ref p) (.ref q) H Q := by
  refine c_neD (.lst h1 (dpa_tups t1 hf)) (.lst h2 (dpa_tups t2 hf)) (shaped_tups hf) (shaped_tups hf) ?_
  rw [eqv_tups]
  exact k
theorem c_eqT {p q : Addr} {ws us : List V} {xss : List (List V)} (hf : ∀ xs ∈ xss, xs.all flatV = true) (h1 : SqL K H p ws) (t1 : Tups K H ws xss) (h2 : SqL K H q us) (t2 : Tups K H us xss) (k : Q (.bl true) H) : rEqU K (.ref p) (.ref q) H Q := by
  refine c_eqD (.lst h1 (dpa_tups t1 hf)) (.lst h2 (dpa_tups t2 hf)) (shaped_tups hf) (shaped_tups hf) ?_
  rw [eqv_tups]
  exact k
end
end L2.BP
namespace L2.BP
open PySem PySem.Spec PyProof.Rows
/-- both ways of an if meet again -/
theorem w_cut {t u : TS} {dn : St → Hp → Prop} {dr : VK} {db dc : St → Hp → Prop} {σ : St} {H : Hp} (Mid : St → Hp → Prop) (h1 : t ⟨Mid, dr, db, dc⟩ σ H) (h2 : ∀ σ' H', Mid σ' H' → u ⟨dn, dr, db, dc⟩ σ' H') : Evl.tCut t u ⟨dn, dr, db, dc⟩ σ H := ⟨Mid, h1, h2⟩
end L2.BP
namespace L2.BP
open PySem PySem.Spec PyProof.Rows
section
variable {X : Cx} {K : PySem.W.Frag} {σ : St} {H B : Hp} {L : Pic} {Q : VK} {te to_ ti_ : TE} {v : V} {P : St → Hp → Prop}
/-! a field as one of several targets -/
def gAttr (K : PySem.W.Frag) (ta : TE) (f : Str) : TG := fun v σ H P => ta σ H fun x H1 => PutO K f v x H1 (P σ)
theorem pg_attr {o : Expr} {f : Str} {pos : Pos} {ta : TE} (ho : PE X o ta) : PG X (.Attribute o f pos) (gAttr X.K ta f) := by
  refine ⟨fun pins s σ H v u Q I r h => ?_⟩
  show wpAny _ _ (do let ov ← holding [u] (eval o X.env); standAt pos.atName; holding [u, ov] (setAttr ov f u); release [u, ov] []) _ _ _
  refine wpAny_bind (wpAny_holding (thn (ho.run pins s σ H _ I h) fun ov s1 ⟨x, H1, I1, r1, a, C, dx, fs, ex, ea, c, n, l, q⟩ => ?_))
  subst ex
  obtain rfl : ov = Value.ref a := r1
  refine wpAny_bind (wpAny_standAt (wpAny_bind (wpAny_holding ?_)))
  exact setattr_ok I1 ea c n l r fun s2 I2 => wpAny_release ⟨σ, _, I2, q⟩
theorem g_attr {f : Str} (k : te σ H fun x H1 => PutO K f v x H1 (P σ)) : gAttr K te f v σ H P := k
/-! how many different ones -/
def LsO (K : PySem.W.Frag) (x : V) (H : Hp) (Q : VK) : Prop := ∃ (l : Addr) (ns : List Int), x = .ref l ∧ SqL K H l (ns.map V.int) ∧ ns.Nodup ∧ ns.length ≤ 4000 ∧ Q (.int (ns.length : Nat)) H
theorem c_lenset (k : te σ H fun x H1 => LsO K x H1 Q) : RZ.tLenSetI K te σ H Q := k
theorem c_lsO {a : Addr} {ns : List Int} (h : SqL K H a (ns.map V.int)) (hn : ns.Nodup) (hl : ns.length ≤ 4000) (k : Q (.int (ns.length : Nat)) H) : LsO K (.ref a) H Q := ⟨a, ns, rfl, h, hn, hl, k⟩
/-! dicts that are written out -/
def DispO (p : Addr) (ps : List (V × V)) (H : Hp) (Q : VK) : Prop := H p = some (.dK []) ∧ ∃ kvs : List (Key × V), ps = kvs.map (fun kv => (kV kv.1, kv.2)) ∧ kvs.length ≤ 15 ∧ Q (.ref p) (upd H p (.dK (mergeK [] kvs)))
theorem c_disp {trs : List (TE × TE)} (hs : Hs B L H) (k : ∀ p H', Hs B ((p, .dK []) :: L) H' → tPairs trs σ H' fun ps H2 => DispO p ps H2 Q) : tDisp trs σ H Q := fun p hp => k p _ (hs.new hp)
theorem c_tpc {tk tv : TE} {r : List (TE × TE)} {R : List (V × V) → Hp → Prop} (k : tk σ H fun x H1 => tv σ H1 fun y H2 => tPairs r σ H2 fun ps H3 => R ((x, y) :: ps) H3) : tPairs ((tk, tv) :: r) σ H R := k
theorem c_tpn {R : List (V × V) → Hp → Prop} (k : R [] H) : tPairs [] σ H R := k
theorem c_dispO {p : Addr} {ps : List (V × V)} (kvs : List (Key × V)) (hs : Hs B ((p, .dK []) :: L) H) (e : ps = kvs.map (fun kv => (kV kv.1, kv.2))) (hl : kvs.length ≤ 15) (k : ∀ H', Hs B ((p, .dK (mergeK [] kvs)) :: L) H' → Q (.ref p) H') : DispO p ps H Q :=
  ⟨hs.get (.head _), kvs, e, hl, k _ hs.u0⟩
def DgO (x y : V) (H : Hp) (Q : VK) : Prop := ∃ a v, x = .ref a ∧ DGet H a y (some v) ∧ Q v H
theorem c_dget {td ty : TE} (k : td σ H fun x H1 => ty σ H1 fun y H2 => DgO x y H2 Q) : tDGet td ty σ H Q := k
theorem c_dgO {a : Addr} {kvs : List (Key × V)} {key : Key} (h : H a = some (.dK kvs)) (e : valV kvs key = some v) (k : Q v H) : DgO (.ref a) (kV key) H Q := ⟨a, v, rfl, by rw [← e]; exact DGet.k h, k⟩
/-! in a list -/
theorem inV_int (i : Int) : ∀ ns : List Int, L2.inV (.int i) (ns.map V.int) = decide (i ∈ ns)
  | [] => by simp [L2.inV]
  | n :: r => by
    have ih := inV_int i r
    have e : L2.eqV (.int n) (.int i) = decide (n = i) := by
      show (n == i) = decide (n = i)
      by_cases h : n = i <;> simp [h]
    unfold L2.inV at ih ⊢
    rw [List.map_cons, List.any_cons, ih, e]
    by_cases h : n = i
    · simp [h]
    · simp [h, Ne.symm h]
theorem flat_ints (ns : List Int) : (ns.map V.int).all L2.flatV = true := by simp [L2.flatV]
theorem c_inL {a : Addr} {i : Int} (ns : List Int) (h : SqL K H a (ns.map V.int)) (k : Q (.bl (decide (i ∈ ns))) H) : rInU K (.int i) (.ref a) H Q :=
  .inl ⟨a, _, rfl, .inl h, rfl, flat_ints ns, by rw [inV_int]; exact k⟩
theorem c_niL {a : Addr} {i : Int} (ns : List Int) (h : SqL K H a (ns.map V.int)) (k : Q (.bl (!decide (i ∈ ns))) H) : rNiU K (.int i) (.ref a) H Q :=
  .inl ⟨a, _, rfl, .inl h, rfl, flat_ints ns, by rw [inV_int]; exact k⟩
theorem c_inT {a : Addr} {i : Int} (ns : List Int) (h : SqT K H a (ns.map V.int)) (k : Q (.bl (decide (i ∈ ns))) H) : rInU K (.int i) (.ref a) H Q :=
  .inl ⟨a, _, rfl, .inr h, rfl, flat_ints ns, by rw [inV_int]; exact k⟩
theorem xor_nat (a b : Nat) : Builtin.bitXor ((a : Nat) : Int) ((b : Nat) : Int) = ((a ^^^ b : Nat) : Int) := by
  rw [Bits.bitXor_pp (Int.natCast_nonneg a) (Int.natCast_nonneg b), Int.toNat_natCast, Int.toNat_natCast]
end
end L2.BP
namespace L2.BP
open PySem PySem.Spec PyProof.Rows
section
variable {K : PySem.W.Frag} {σ : St} {H B : Hp} {L : Pic} {Q : VK} {ta tb : TE} {a : Addr} {xs : List V}
/-- x or y, by what is empty -/
def OrO (K : PySem.W.Frag) (x : V) (tb : TE) (σ : St) (H : Hp) (Q : VK) : Prop := ∃ k, TruV K x H k ∧ if k = true then Q x H else tb σ H Q
theorem c_orT (k : ta σ H fun x H1 => OrO K x tb σ H1 Q) : tOrT K ta tb σ H Q := k
theorem c_orL (h : SqL K H a xs) (k1 : xs ≠ [] → Q (.ref a) H) (k2 : xs = [] → tb σ H Q) : OrO K (.ref a) tb σ H Q := by
  refine ⟨!xs.isEmpty, .inl ⟨xs, h, rfl⟩, ?_⟩
  cases xs with
  | nil => exact iteF (k2 rfl)
  | cons x r => exact iteT (k1 (by simp))
end
end L2.BP
namespace L2.BP
open PySem PySem.Spec PyProof.Rows
/-! ### a class without an __init__ of its own -/
structure Mk0 (K : PySem.W.Frag) (C : Addr) : Prop where
  makes : PySem.W.makesIn K C = true
  init : PySem.W.findIn K (.ref C) "__init__" = some (some (.builtin "object.__init__"))
  kp : PySem.W.keepIn K (.ref C) = true
section
variable {X : Cx} {C : Addr} {x : Str} {p pos : Pos}
/-- C(): a bare object -/
def MadeO (C : Addr) (H : Hp) (Q : VK) : Prop := ∀ x dx, H x = none → H dx = none → dx ≠ x → Q (.ref x) (upd (upd H dx (.own x)) x (.ins C dx []))
def tMade (C : Addr) : TE := fun _ H Q => MadeO C H Q
theorem run_made {pins : List (Addr × Obj)} {σ : St} {H : Hp} {s : Shared} {Q : VK} (M : Mk0 X.K C) (I : Inv X pins σ H s) (h : MadeO C H Q) : wpAny (model X.prog X.w) X.A (call (.ref C) []) (EP X pins σ Q) X.xe s := by
  have q := h (s.heap.objs.size + 1) s.heap.objs.size (I.hok.fresh (Nat.le_succ _)) (I.hok.fresh (Nat.le_refl _)) (Nat.ne_of_lt (Nat.lt_succ_self _))
  have J := Inv.made (C := C) I
  have Y := PySem.W.makes_of (M := model X.prog X.w) I.kIn M.makes
  refine wpAny_call (make_map0 I.kIn M.makes M.init (fun self => PySem.W.Looks.of_pure (PySem.W.oi_bind self)) ?_)
  have e2 : ((s.heap.push PySem.W.emptyDict).push (PySem.W.instObj C s.heap.objs.size)).get? (s.heap.objs.size + 1) = some (PySem.W.instObj C s.heap.objs.size) := by
    have := Heap.get?_push_size (s.heap.push PySem.W.emptyDict) (o := PySem.W.instObj C s.heap.objs.size) rfl
    rwa [Heap.size_push] at this
  have t1 : PySem.W.Looks (model X.prog X.w) ((s.heap.push PySem.W.emptyDict).push (PySem.W.instObj C s.heap.objs.size)) (typeOf (.ref (s.heap.objs.size + 1))) (.ref C) := (PySem.W.Looks.ld e2).andThen .now
  have t2 : PySem.W.Looks (model X.prog X.w) ((s.heap.push PySem.W.emptyDict).push (PySem.W.instObj C s.heap.objs.size)) (isInstance (.ref (s.heap.objs.size + 1)) (.type "object")) true :=
    t1.andThen (Y.top.keeps fun b o e => Heap.get?_push_of_some _ (Heap.get?_push_of_some _ e))
  refine codeAny_call_builtin PySem.W.oi_plain PySem.W.entry_oi (@PySem.W.check_slot (model X.prog X.w) _ _ _ "object.__init__" "object" "__init__" (.ref (s.heap.objs.size + 1)) [] [] _ PySem.W.oi_kind PySem.W.oi_split t2 (PySem.W.oi_args (.ref (s.heap.objs.size + 1))) ?_)
  rw [PySem.W.oi_run]
  exact wpAny_pure (And.intro rfl ⟨V.ref (s.heap.objs.size + 1), _, J, rfl, q⟩)
theorem pe_made (M : Mk0 X.K C) (hg : Gl X x) (hm : X.mg x = some (.ref C)) (hdb : (x == ("__debug__" : Str)) = false := by decide) : PE X (.Call (.Name x p) [] [] pos) (tMade C) := by
  constructor
  intro pins s σ H Q I h
  exact wpAny_Call_Name_kw (ld_glob I hg hm (PySem.W.callWith_K0 I.kIn M.kp (run_made M I h)) hdb)
end
section
variable {K : PySem.W.Frag} {σ : St} {H B : Hp} {L : Pic} {Q : VK} {C : Addr}
theorem c_made (k : MadeO C H Q) : tMade C σ H Q := k
theorem c_madeO (hs : Hs B L H) (k : ∀ x dx H', Hs B ((x, .ins C dx []) :: L) H' → Q (.ref x) H') : MadeO C H Q := fun x dx hx hdx ne => by
  have h1 := hs.new (o := HO.own x) hdx
  have h2 : (upd H dx (.own x)) x = none := by rw [upd_ne (Ne.symm ne)]; exact hx
  exact k x dx _ (h1.new h2).swap.drop
end
end L2.BP
namespace L2.BP
open PySem PySem.Spec PyProof.Rows
/-! ### walks by steps, and of texts -/
section
variable {K : PySem.W.Frag} {a : Addr} {g : TG} {tb : TS} {dn : St → Hp → Prop} {dr : VK} {db dc : St → Hp → Prop} {σ : St} {H B : Hp} {L : Pic}
theorem w_forC {lo c : Int} {n : Nat} (I : Nat → St → Pic → Hp → Prop) (hs : Hs B L H) (h0 : I 0 σ L B)
    (turn : ∀ i σ' L' B' H', i < n → I i σ' L' B' → Hs B' L' H' → g (.int (lo + (i : Nat) * c)) σ' H' fun σ2 H2 => tb ⟨NxI I (i + 1), dr, dn, NxI I (i + 1)⟩ σ2 H2)
    (fin : ∀ σ' L' B' H', I n σ' L' B' → Hs B' L' H' → dn σ' H') : ForO (Itc lo c n) g tb dn dr σ H := by
  refine ⟨fun i m σ H => m = n - i ∧ i ≤ n ∧ NxI I i σ H, ⟨n, by simp, Nat.zero_le _, L, B, h0, hs⟩, ?_⟩
  rintro i m σ' H' ⟨rfl, hi, L', B', q, h⟩
  by_cases hlt : i < n
  · refine .inr ⟨hlt, NxI I (i + 1), fun σ2 H2 p => ⟨_, by omega, rfl, hlt, p⟩, ?_⟩
    rintro v H2 ⟨rfl, rfl⟩
    exact turn i σ' L' B' _ hlt q h
  · have e : i = n := by omega
    subst e
    exact .inl ⟨Nat.le_refl _, fin _ _ _ _ q h⟩
theorem w_forS {x : Str} (I : Nat → St → Pic → Hp → Prop) (hs : Hs B L H) (h0 : I 0 σ L B)
    (turn : ∀ i c σ' L' B' H', x.cps[i]? = some c → I i σ' L' B' → Hs B' L' H' → g (.str ⟨#[c]⟩) σ' H' fun σ2 H2 => tb ⟨NxI I (i + 1), dr, dn, NxI I (i + 1)⟩ σ2 H2)
    (fin : ∀ σ' L' B' H', I x.cps.size σ' L' B' → Hs B' L' H' → dn σ' H') : ForO (Its x) g tb dn dr σ H := by
  refine ⟨fun i m σ H => m = x.cps.size - i ∧ i ≤ x.cps.size ∧ NxI I i σ H, ⟨x.cps.size, by simp, Nat.zero_le _, L, B, h0, hs⟩, ?_⟩
  rintro i m σ' H' ⟨rfl, hi, L', B', q, h⟩
  by_cases hlt : i < x.cps.size
  · refine .inr ⟨hlt, NxI I (i + 1), fun σ2 H2 p => ⟨_, by omega, rfl, hlt, p⟩, ?_⟩
    rintro v H2 ⟨rfl, c, hc, rfl⟩
    exact turn i c σ' L' B' _ hc q h
  · have e : i = x.cps.size := by omega
    subst e
    exact .inl ⟨Nat.le_refl _, fin _ _ _ _ q h⟩
def RcO (R : It → Hp → Prop) (vs : List V) (H : Hp) : Prop := ∃ (i j c : Int) (n : Nat), vs = [.int i, .int j, .int c] ∧ RgC i j c n ∧ R (Itc i c n) H
theorem c_iR3 {ta : TA} {R : It → Hp → Prop} (k : ta σ H fun vs H1 => RcO R vs H1) : iRng3 ta σ H R := k
theorem c_rcO {R : It → Hp → Prop} {i j c : Int} (n : Nat) (h : RgC i j c n) (k : R (Itc i c n) H) : RcO R [.int i, .int j, .int c] H := ⟨i, j, c, n, rfl, h, k⟩
def SsO (R : It → Hp → Prop) (v : V) (H : Hp) : Prop := ∃ x, v = .str x ∧ R (Its x) H
theorem c_iS {te : TE} {R : It → Hp → Prop} (k : te σ H fun v H1 => SsO R v H1) : iStr te σ H R := k
theorem c_ssO {R : It → Hp → Prop} {x : Str} (k : R (Its x) H) : SsO R (.str x) H := ⟨x, rfl, k⟩
end
end L2.BP
namespace L2.BP
open PySem PySem.Spec PyProof.Rows
section
variable {H B : Hp} {L : Pic} {K : PySem.W.Frag} {σ : St} {Q : VK}
theorem Hs.rot4 {a b c d : Addr × HO} (h : Hs B (a :: b :: c :: d :: L) H) : Hs B (d :: a :: b :: c :: L) H := h.perm (List.perm_middle (l₁ := [a, b, c]))
theorem Hs.rot5 {a b c d e : Addr × HO} (h : Hs B (a :: b :: c :: d :: e :: L) H) : Hs B (e :: a :: b :: c :: d :: L) H := h.perm (List.perm_middle (l₁ := [a, b, c, d]))
theorem c_alt1 {t u : TE} (k : t σ H Q) : tOrE t u σ H Q := .inl k
theorem c_alt2 {t u : TE} (k : u σ H Q) : tOrE t u σ H Q := .inr k
theorem c_eqNN (k : Q (.bl true) H) : rEqU K .non .non H Q := .inl ⟨rfl, k⟩
theorem c_neNN (k : Q (.bl false) H) : rNeU K .non .non H Q := .inl ⟨rfl, k⟩
end
end L2.BP
namespace L2.BP
open PySem PySem.Spec PyProof.Rows
/-! ### isinstance of an own class -/
structure InsC (K : PySem.W.Frag) (C : Addr) : Prop where
  ha : PySem.W.findIn K (.ref C) "__class__" = some (some (.builtin "object.__class__"))
  hn : PySem.W.specialIn K (.builtin "object.__class__") "__get__" = some (some (.builtin "getset_descriptor.__get__"))
  htk : PySem.W.takesIn K (.builtin "object.__class__") = some true
  hm : PySem.W.mroIn K C (.type "object") = some true
theorem c_isiC {K : PySem.W.Frag} {H : Hp} {Q : VK} {x C D dx : Addr} {fs : List (Str × V)} {b : Bool} (h : H x = some (.ins C dx fs)) (cl : Cls K C) (i : InsC K C) (e : PySem.W.kitOne K (.ref C) (.ref D) = some b) (k : Q (.bl b) H) : rIsi K [.ref x, .ref D] H Q :=
  c_isi (.base (.ins h cl i.ha i.hn i.htk i.hm)) (.own D) e k
end L2.BP
namespace L2.BP
open PySem PySem.Spec PyProof.Rows
section
variable {K : PySem.W.Frag} {g : TG} {tt : TT} {te : TE} {σ : St} {H B : Hp} {L : Pic} {vs : List Nat}
/-- a comprehension whose turns change own objects -/
def LcV (I : Nat → List V → Pic → Hp → Prop) (D : Addr) (i : Nat) : Hp → Prop := fun H' => ∃ acc L' B', I i acc L' B' ∧ Hs B' ((D, .lst acc) :: L') H'
theorem c_lcRV {P : Addr → Hp → Prop} {lo : Int} {n : Nat} (I : Nat → List V → Pic → Hp → Prop) (hs : Hs B L H) (h0 : I 0 [] L B)
    (turn : ∀ i acc L' B' D H', i < n → I i acc L' B' → Hs B' ((D, .lst acc) :: L') H' → g (.int (lo + i)) (wipe σ vs) H' fun σ2 H2 => wipe σ2 vs = wipe σ vs ∧ tt σ2 H2 fun b H3 =>
      if b = true then te σ2 H3 fun y H4 => ∃ acc, H4 D = some (.lst acc) ∧ acc.length < sizeLine ∧ LcV I D (i + 1) (upd H4 D (.lst (acc ++ [y]))) else LcV I D (i + 1) H3)
    (fin : ∀ acc L' B' D H', I n acc L' B' → Hs B' ((D, .lst acc) :: L') H' → P D H') :
    ∀ D, H D = none → ∃ W : Nat → Nat → Hp → Prop, (∃ m, W 0 m (upd H D (.lst []))) ∧ ∀ i m H, W i m H →
      ((Itr lo n).stop i H ∧ P D H) ∨ ((Itr lo n).go i H ∧ ∃ Nx : Hp → Prop, (∀ H', Nx H' → ∃ m', m' < m ∧ W (i + 1) m' H') ∧ ∀ x H', (Itr lo n).yld i H x H' → g x (wipe σ vs) H' fun σ2 H2 => wipe σ2 vs = wipe σ vs ∧ tt σ2 H2 fun b H3 =>
        if b = true then te σ2 H3 fun y H4 => ∃ acc, H4 D = some (.lst acc) ∧ acc.length < sizeLine ∧ Nx (upd H4 D (.lst (acc ++ [y]))) else Nx H3) :=
  fun D hD => L2.lc_range (LcV I D) ⟨[], L, B, h0, hs.new hD⟩ (fun i H' e ⟨acc, L', B', p, h⟩ => turn i acc L' B' D H' e p h) fun H' ⟨acc, L', B', p, h⟩ => fin acc L' B' D H' p h
theorem c_itemV {D : Addr} {acc : List V} {y : V} {B2 : Hp} {P : List V → Pic → Hp → Prop} (h : Hs B2 ((D, .lst acc) :: L) H) (hz : acc.length < sizeLine) (i : P (acc ++ [y]) L B2) :
    ∃ acc, H D = some (.lst acc) ∧ acc.length < sizeLine ∧ ∃ acc2 L' B', P acc2 L' B' ∧ Hs B' ((D, .lst acc2) :: L') (upd H D (.lst (acc ++ [y]))) :=
  ⟨acc, h.get (.head _), hz, acc ++ [y], L, B2, i, h.u0⟩
end
end L2.BP
namespace L2.BP
open PySem PySem.Spec PyProof.Rows
theorem Tups.snocFix {K : PySem.W.Frag} {B : Hp} {t : Addr} {xs : List V} {acc : List V} {ps : List (List V)} (h : Tups K B acc ps) (hn : B t = none) : Tups K (upd B t (.tup xs)) (acc ++ [.ref t]) (ps ++ [xs]) := (h.same (same_upd hn)).snoc (SqT.of upd_same)
end L2.BP
namespace L2.BP
open PySem PySem.Spec PyProof.Rows
/-! ### try: .. except X as e: suite -/
def tTryAs (K : PySem.W.Frag) (c : Value) (i : Nat) (tb : WX → TS) (ts : Addr → Value → Option Addr → TS) (W : WX) : TS := fun D σ H => tb (wAs K c i ts W D) D σ H
section
variable {K : PySem.W.Frag} {c cls : Value} {d : Option Addr} {i : Nat} {tb : WX → TS} {ts : Addr → Value → Option Addr → TS} {W : WX} {D : Ends} {σ : St} {H B : Hp} {L : Pic} {Q : VK}
theorem ps_tryAs {X : Cx} {x n : Str} {c : Value} {i : Nat} {body suite : List Stmt} {b₀ : Stmt} {np pos pos' : Pos} {tb : WX → TS} {ts : Addr → Value → Option Addr → TS} {Wout : WX} (hs : X.stack = X.env :: X.outer) (hf : X.env.frame = some X.env.locals) (hN : X.N.Nodup) (hi : X.N[i]? = some n) (hln : X.env.kindOf n = some .local) (hc : Names X x c) (tk : Takes X Wout)
    (hb : ∀ (W : WX) (pn : List (Addr × Obj)) (xe : Value → Shared → Prop), Takes (X.tr pn xe) W → PassesOwn (model X.prog X.w) X.A X.env xe → PSs (X.tr pn xe) body (tb W))
    (hsu : ∀ (a : Addr) (oe : Obj) (cls : Value) (d : Option Addr) (pn : List (Addr × Obj)), Zc cls d oe → (∃ vs, oe.data = .fields vs) → PSs (X.suite a ((a, oe) :: pn)) (b₀ :: suite) (ts a cls d)) :
    PS X (.Try body [.ExceptHandler (some (.Name x np)) (some n) (b₀ :: suite) pos'] [] [] pos) (tTryAs X.K c i tb ts Wout) := ps_try_as hs hf hN hi hln hc tk hb hsu
theorem w_tryAs (k : tb (wAs K c i ts W D) D σ H) : tTryAs K c i tb ts W D σ H := k
theorem c_wAs (e : PySem.W.exmOne K cls c = some true) (k : ∀ a, H a = none → ts a cls d { nx := fun σ' H' => D.nx (σ'.set i none) H', rt := D.rt, bk := fun σ' H' => D.bk (σ'.set i none) H', ct := fun σ' H' => D.ct (σ'.set i none) H' } (σ.set i (some (.ref a))) H) : wAs K c i ts W D cls d σ H :=
  ⟨true, e, fun _ => k, fun z => nomatch z⟩
/-- isinstance(e, c), e what the suite holds: an exception of the class cls -/
def rIsX (K : PySem.W.Frag) (a : Addr) (cls : Value) (d : Option Addr) : List V → Hp → VK → Prop := fun xs H Q => ∃ (D : Addr) (c : V) (cv : Value) (b : Bool), cls = .ref D ∧ d = none ∧ ExcC K D ∧ xs = [.ref a, c] ∧ (∀ u, RelV c u → u = cv) ∧ PySem.W.kitOne K (.ref D) cv = some b ∧ Q (.bl b) H
theorem call_isX {X : Cx} {a : Addr} {oe : Obj} {pn : List (Addr × Obj)} {cls : Value} {d : Option Addr} (hz : Zc cls d oe) (hf : ∃ vs, oe.data = .fields vs) : CallR (X.suite a ((a, oe) :: pn)) (.builtin "isinstance") (rIsX X.K a cls d) := by
  intro pins s σ H xs us Q I r h
  obtain ⟨D, c, cv, b, rfl, rfl, C, e1, e2, e3, q⟩ := h
  exact call_isE C hz hf pins s σ H xs us Q I r ⟨c, cv, b, e1, e2, e3, q⟩
theorem c_isXc {a D C : Addr} {b : Bool} (x : ExcC K D) (e : PySem.W.kitOne K (.ref D) (.ref C) = some b) (k : Q (.bl b) H) : rIsX K a (.ref D) none [.ref a, .ref C] H Q := ⟨D, .ref C, .ref C, b, rfl, rfl, x, rfl, fun _ r => r, e, k⟩
theorem c_isXv {a D : Addr} {t : String} {b : Bool} (x : ExcC K D) (e : PySem.W.kitOne K (.ref D) (.type t) = some b) (k : Q (.bl b) H) : rIsX K a (.ref D) none [.ref a, .ty t] H Q := ⟨D, .ty t, .type t, b, rfl, rfl, x, rfl, fun _ r => r, e, k⟩
theorem c_dnewK (hs : Hs B L H) (k : ∀ p H', Hs B ((p, .dK []) :: L) H' → Q (.ref p) H') : tDNewK σ H Q := fun p hp => k p _ (hs.new hp)
theorem c_tupL {p : Addr} {xs : List V} (h : Hs B L H) (hq : SqL K H p xs) (k : ∀ a H', Hs B ((a, .tup xs) :: L) H' → Q (.ref a) H') : rTupleK K [.ref p] H Q := ⟨p, xs, rfl, .inl ⟨hq, fun a ha => k a _ (h.new ha)⟩⟩
end
/-! ### texts: find, upper, join -/
def rFindK : V → List V → Hp → VK → Prop := fun x xs H Q => ∃ a b, x = .str a ∧ xs = [.str b] ∧ Q (.int (Txt.find a b)) H
def rUpperK : V → List V → Hp → VK → Prop := fun x xs H Q => ∃ a, x = .str a ∧ xs = [] ∧ a.length ≤ 5592405 ∧ Q (.str (Txt.upper a)) H
def rJoinK (K : PySem.W.Frag) : V → List V → Hp → VK → Prop := fun x xs H Q => ∃ a p, ∃ ys : List Str, x = .str a ∧ xs = [.ref p] ∧ (SqL K H p (ys.map V.str) ∨ SqT K H p (ys.map V.str)) ∧ (ys.map (·.length)).sum + ys.length * a.length ≤ 16777216 ∧ Q (.str (Txt.join a ys)) H
section
variable {X : Cx} {o e : Expr} {to te : TE} {K : PySem.W.Frag} {σ : St} {H B : Hp} {L : Pic} {Q : VK}
theorem pe_find {apos pos : Pos} (ho : PE X o to) (he : PE X e te) (hs : starEach [e] X.env = [(false, eval e X.env)] := by rfl) (hbase : attributeBase o "find" X.env (eval o X.env) = eval o X.env := by rfl) (hline : (apos.endLine == pos.line) = true := by rfl) :
    PE X (.Call (.Attribute o "find" apos) [e] [] pos) (tM1 rFindK to te) := pe_m1 F.slot_str_find F.type_str_find mt_find ho he hs hbase hline
theorem pe_upperK {apos pos : Pos} (ho : PE X o to) (hbase : attributeBase o "upper" X.env (eval o X.env) = eval o X.env := by rfl) (hline : (apos.endLine == pos.line) = true := by rfl) :
    PE X (.Call (.Attribute o "upper" apos) [] [] pos) (tM0 rUpperK to) := pe_m0 F.slot_str_upper F.type_str_upper mt_upper ho hbase hline
theorem pe_joinK {apos pos : Pos} (ho : PE X o to) (he : PE X e te) (hs : starEach [e] X.env = [(false, eval e X.env)] := by rfl) (hbase : attributeBase o "join" X.env (eval o X.env) = eval o X.env := by rfl) (hline : (apos.endLine == pos.line) = true := by rfl) :
    PE X (.Call (.Attribute o "join" apos) [e] [] pos) (tM1 (rJoinK X.K) to te) := pe_m1 F.slot_str_join F.type_str_join mt_join ho he hs hbase hline
def StrO (x : V) (P : Prop) : Prop := (∃ a, x = .str a) ∧ P
theorem c_m0 {r : V → List V → Hp → VK → Prop} (k : to σ H fun x H1 => StrO x (r x [] H1 Q)) : tM0 r to σ H Q := k
theorem c_m1 {r : V → List V → Hp → VK → Prop} (k : to σ H fun x H1 => StrO x (te σ H1 fun y H2 => r x [y] H2 Q)) : tM1 r to te σ H Q := k
theorem c_strO {a : Str} {P : Prop} (k : P) : StrO (.str a) P := ⟨⟨a, rfl⟩, k⟩
theorem c_find {a b : Str} (k : Q (.int (Txt.find a b)) H) : rFindK (.str a) [.str b] H Q := ⟨a, b, rfl, rfl, k⟩
theorem c_upper {a : Str} (h : a.length ≤ 5592405) (k : Q (.str (Txt.upper a)) H) : rUpperK (.str a) [] H Q := ⟨a, rfl, rfl, h, k⟩
theorem c_join {a : Str} {p : Addr} {ys : List Str} (h : SqL K H p (ys.map V.str)) (hl : (ys.map (·.length)).sum + ys.length * a.length ≤ 16777216) (k : Q (.str (Txt.join a ys)) H) : rJoinK K (.str a) [.ref p] H Q := ⟨a, p, ys, rfl, rfl, .inl h, hl, k⟩
end
/-! ### a comprehension over a text -/
section
variable {K : PySem.W.Frag} {g : TG} {tt : TT} {te : TE} {σ : St} {H B : Hp} {L : Pic} {vs : List Nat} {P : Addr → Hp → Prop}
theorem c_lcS {x : Str} (I : Nat → List V → Hp → Prop) (hs : Hs B L H) (h0 : I 0 [] B)
    (turn : ∀ i c acc B' D H', x.cps[i]? = some c → I i acc B' → Same B B' → Hs B' ((D, .lst acc) :: L) H' → g (.str ⟨#[c]⟩) (wipe σ vs) H' fun σ2 H2 => wipe σ2 vs = wipe σ vs ∧ tt σ2 H2 fun b H3 =>
      if b = true then te σ2 H3 fun y H4 => ∃ acc, H4 D = some (.lst acc) ∧ acc.length < sizeLine ∧ (fun H' => ∃ acc B', I (i + 1) acc B' ∧ Same B B' ∧ Hs B' ((D, .lst acc) :: L) H') (upd H4 D (.lst (acc ++ [y]))) else (fun H' => ∃ acc B', I (i + 1) acc B' ∧ Same B B' ∧ Hs B' ((D, .lst acc) :: L) H') H3)
    (fin : ∀ acc B' D H', I x.cps.size acc B' → Same B B' → Hs B' ((D, .lst acc) :: L) H' → P D H') :
    ∀ D, H D = none → ∃ W : Nat → Nat → Hp → Prop, (∃ m, W 0 m (upd H D (.lst []))) ∧ ∀ i m H, W i m H →
      ((Its x).stop i H ∧ P D H) ∨ ((Its x).go i H ∧ ∃ Nx : Hp → Prop, (∀ H', Nx H' → ∃ m', m' < m ∧ W (i + 1) m' H') ∧ ∀ v H', (Its x).yld i H v H' → g v (wipe σ vs) H' fun σ2 H2 => wipe σ2 vs = wipe σ vs ∧ tt σ2 H2 fun b H3 =>
        if b = true then te σ2 H3 fun y H4 => ∃ acc, H4 D = some (.lst acc) ∧ acc.length < sizeLine ∧ Nx (upd H4 D (.lst (acc ++ [y]))) else Nx H3) := by
  intro D hD
  refine ⟨fun i m H => m = x.cps.size - i ∧ i ≤ x.cps.size ∧ ∃ acc B', I i acc B' ∧ Same B B' ∧ Hs B' ((D, .lst acc) :: L) H, ⟨x.cps.size, by simp, Nat.zero_le _, [], B, h0, Same.refl B, hs.new hD⟩, ?_⟩
  rintro i m H' ⟨rfl, hi, acc, B', q, e, h⟩
  by_cases hlt : i < x.cps.size
  · refine .inr ⟨hlt, fun H' => ∃ acc B', I (i + 1) acc B' ∧ Same B B' ∧ Hs B' ((D, .lst acc) :: L) H', fun H2 p => ⟨_, by omega, rfl, hlt, p⟩, ?_⟩
    rintro v H2 ⟨rfl, c, hc, rfl⟩
    exact turn i c acc B' D _ hc q e h
  · have e2 : i = x.cps.size := by omega
    subst e2
    exact .inl ⟨Nat.le_refl _, fin _ _ _ _ q e h⟩
end
end L2.BP
section
open L2.BP
/-! steps, as rows of the tactic that the library names walk_at -/
local macro_rules | `(tactic| walk_at "mem") => `(tactic| first | exact .head _ | exact .tail _ (.head _) | exact .tail _ (.tail _ (.head _)) | exact .tail _ (.tail _ (.tail _ (.head _))) | exact .tail _ (.tail _ (.tail _ (.tail _ (.head _)))) | exact .tail _ (.tail _ (.tail _ (.tail _ (.tail _ (.head _))))))
local macro_rules | `(tactic| walk_at "get") => `(tactic| first | assumption | ((with_reducible apply Hs.get); (· assumption); (· walk_at "mem")) | exact (Hs.ex (by assumption)) _ _ (by assumption))
local macro_rules | `(tactic| walk_at "sq") => `(tactic| first | assumption | ((with_reducible apply Hs.sql); (· assumption); (· walk_at "mem")) | ((with_reducible apply Hs.bl); (· assumption); (· assumption)) | ((with_reducible apply SqL.of); (walk_at "get")))
local macro_rules | `(tactic| walk_at "sqt") => `(tactic| first | assumption | ((with_reducible apply Hs.sqt); (· assumption); (· walk_at "mem")) | ((with_reducible apply Hs.bt); (· assumption); (· assumption)) | ((with_reducible apply SqT.of); (walk_at "get")))
local macro_rules | `(tactic| walk_at "bd") => `(tactic| first | decide | omega | assumption)
local macro_rules | `(tactic| walk_at "cmul") => `(tactic| first | exact .inr ⟨by decide, by decide⟩ | exact .inl ⟨by decide, by decide⟩ | exact .inl ⟨by omega, by omega⟩ | exact .inr ⟨by omega, by omega⟩ | assumption)
local macro_rules | `(tactic| walk_at "yes") => `(tactic| first | rfl | assumption | exact decide_eq_true (by first | assumption | omega) | (simp only [Bool.not_eq_true', decide_eq_true_eq, decide_eq_false_iff_not, Bool.and_eq_true, Bool.or_eq_true] <;> omega))
local macro_rules | `(tactic| walk_at "no") => `(tactic| first | rfl | assumption | exact decide_eq_false (by first | assumption | omega) | (simp only [Bool.not_eq_false', decide_eq_true_eq, decide_eq_false_iff_not, Bool.and_eq_false_iff, Bool.or_eq_false_iff] <;> omega))
local macro_rules | `(tactic| walk_at "look") => `(tactic| first | (with_reducible exact look0) | ((with_reducible apply lookS); (· (decide +kernel)); walk_at "look"))
local macro_rules | `(tactic| walk_at "lookn") => `(tactic| first | (with_reducible exact lookN) | ((with_reducible apply lookNS); (· (decide +kernel)); walk_at "lookn"))
local macro_rules | `(tactic| walk_at "put") => `(tactic| first | (with_reducible exact put0) | (with_reducible exact putN) | ((with_reducible apply putS); (· (decide +kernel)); walk_at "put"))
local macro_rules | `(tactic| walk_at "few") => `(tactic| (exact of_decide_eq_true rfl))
local macro_rules | `(tactic| walk_at "s") => `(tactic| first
  | ((with_reducible apply c_var); (· exact rfl))
  | (with_reducible apply c_c)
  | (with_reducible apply c_op)
  | (with_reducible apply w_seq)
  | (with_reducible apply w_asg)
  | (with_reducible apply w_name)
  | (with_reducible apply w_if)
  | (with_reducible apply c_test)
  | (with_reducible apply c_bl)
  | ((with_reducible apply i_t); (· walk_at "yes"))
  | ((with_reducible apply i_f); (· walk_at "no"))
  | (with_reducible apply c_cons)
  | (with_reducible apply c_nil)
  | (with_reducible apply c_cb)
  | (with_reducible apply c_cl)
  | (with_reducible apply w_ret)
  | (with_reducible apply w_drop)
  | (with_reducible apply w_break)
  | (with_reducible apply w_cont)
  | (with_reducible apply w_retN)
  | (with_reducible apply w_par)
  | (with_reducible apply c_parO)
  | (with_reducible apply c_rev)
  | (with_reducible apply g_sub)
  | (with_reducible apply g_attr)
  | (with_reducible apply c_orT)
  | (with_reducible apply c_lenset)
  | (with_reducible apply c_dget)
  | (with_reducible apply c_tpc)
  | (with_reducible apply c_tpn)
  | ((with_reducible apply c_disp); (· assumption); intro _ _ _)
  | (with_reducible apply w_next)
  | (with_reducible apply c_addI)
  | (with_reducible apply c_sub)
  | ((with_reducible apply c_mulI); (· walk_at "cmul"))
  | ((with_reducible apply c_mod); (· walk_at "bd"))
  | ((with_reducible apply c_div); (· exact ⟨by walk_at "bd", by walk_at "bd"⟩))
  | (with_reducible apply c_lt)
  | (with_reducible apply c_le)
  | (with_reducible apply c_gt)
  | (with_reducible apply c_ge)
  | (with_reducible apply c_eqI)
  | ((with_reducible apply c_eqL); (· walk_at "sq"); (· walk_at "sq"))
  | ((with_reducible apply c_neL); (· walk_at "sq"); (· walk_at "sq"))
  | (with_reducible apply c_neI)
  | (with_reducible apply c_eqB)
  | (with_reducible apply c_neB)
  | (with_reducible apply c_eqS)
  | (with_reducible apply c_neS)
  | (with_reducible apply c_isN)
  | (with_reducible apply c_notN)
  | (with_reducible apply c_isB)
  | (with_reducible apply c_notB)
  | (with_reducible apply c_un)
  | (with_reducible apply c_neg)
  | (with_reducible apply c_and)
  | (with_reducible apply c_or)
  | (with_reducible apply c_xor)
  | ((with_reducible apply c_shr); (· walk_at "bd"))
  | ((with_reducible apply c_shl); (· exact ⟨by walk_at "bd", by walk_at "bd", by walk_at "bd"⟩))
  | (with_reducible apply c_B)
  | (with_reducible apply c_tand)
  | (with_reducible apply c_tor)
  | (with_reducible apply c_tnot)
  | (with_reducible apply c_andV)
  | (with_reducible apply c_orV)
  | (with_reducible apply c_notV)
  | (with_reducible apply c_chain)
  | (with_reducible apply c_if)
  | (with_reducible apply c_isi_ii)
  | (with_reducible apply c_isi_ib)
  | ((with_reducible apply c_lenL); (· walk_at "sq"))
  | ((with_reducible apply c_lenT); (· walk_at "sqt"))
  | (with_reducible apply c_isiS)
  | ((with_reducible apply c_ixL); (· (walk_at "sq")); (· first | exact rfl | assumption))
  | ((with_reducible apply c_ixT); (· (walk_at "sqt")); (· first | exact rfl | assumption))
  | (with_reducible apply c_tup)
  | (with_reducible apply c_lst)
  | ((with_reducible apply c_tupO); (· assumption); (· exact small5' (of_decide_eq_true rfl)); intro _ _ _)
  | ((with_reducible apply c_lstO); (· assumption); (· exact small5' (of_decide_eq_true rfl)); intro _ _ _)
  | ((with_reducible apply w_aug); (· exact rfl))
  | (with_reducible apply c_ipAddI)
  | (with_reducible apply c_ipSub)
  | (with_reducible apply c_intI)
  | (with_reducible apply c_intB)
  | (with_reducible apply c_max2)
  | (with_reducible apply c_mt)
  | ((with_reducible apply c_recv); (· (walk_at "get")); (· (walk_at "lookn")))
  | (with_reducible apply c_tfld)
  | ((with_reducible apply c_fld); (· (walk_at "get")); (· assumption); (· assumption); (· (walk_at "look")))
  | (with_reducible apply w_sfld)
  | (with_reducible apply w_sfldAug)
  | ((with_reducible apply c_fldA); (· (walk_at "get")); (· assumption); (· assumption); (· (walk_at "look")))
  | (with_reducible apply c_radd)
  | (with_reducible apply c_rsub)
  | ((with_reducible apply w_put0); (· assumption); (· assumption); (· assumption); (· (walk_at "few")); (· (walk_at "put")); intro _ _)
  | ((with_reducible apply w_put1); (· assumption); (· assumption); (· assumption); (· (walk_at "few")); (· (walk_at "put")); intro _ _)
  | ((with_reducible apply w_put2); (· assumption); (· assumption); (· assumption); (· (walk_at "few")); (· (walk_at "put")); intro _ _)
  | ((with_reducible apply w_aput0); (· assumption); (· (walk_at "few")); (· (walk_at "put")); intro _ _)
  | ((with_reducible apply w_aput1); (· assumption); (· (walk_at "few")); (· (walk_at "put")); intro _ _)
  | ((with_reducible apply w_aput2); (· assumption); (· (walk_at "few")); (· (walk_at "put")); intro _ _)
  | (with_reducible apply c_bm)
  | (with_reducible apply c_bm0)
  | ((with_reducible apply c_tyL); (· (walk_at "sq")))
  | (with_reducible apply c_sl)
  | (with_reducible apply c_part)
  | (with_reducible apply c_nopart)
  | (with_reducible apply c_i)
  | (with_reducible apply c_lc)
  | (with_reducible apply w_for)
  | (with_reducible apply c_iL)
  | (with_reducible apply c_iT)
  | (with_reducible apply c_iR1)
  | (with_reducible apply c_iR3)
  | (with_reducible apply c_iS)
  | (with_reducible apply c_ssO)
  | (with_reducible apply c_made)
  | ((with_reducible apply c_madeO); (· assumption); intro _ _ _ _)
  | (with_reducible apply c_iR2)
  | (with_reducible apply c_yes)
  | (with_reducible apply g_cons)
  | (with_reducible apply g_nil)
  | ((with_reducible apply g_tup); (· (walk_at "sqt")); (· exact rfl))
  | (with_reducible apply c_mk)
  | ((with_reducible apply c_mkO); (· assumption); intro _ _ _ _)
  | (with_reducible apply c_iE)
  | (with_reducible apply c_iZ)
  | ((with_reducible apply c_iE1); (· walk_at "sq"))
  | ((with_reducible apply c_slL); (· assumption); (· walk_at "sq"); intro _ _ _)
  | ((with_reducible apply c_listL); (· assumption); (· walk_at "sq"); intro _ _ _)
  | (with_reducible apply c_min2))
local macro_rules | `(tactic| walk_at "go") => `(tactic| repeat walk_at "s")
namespace L2.BR
open PySem PySem.Spec PyProof.Rows L2.BP
variable {K : PySem.W.Frag} {W : WX} {vs : List V} {H : Hp} {Q : VK} {E : XK}
/-! ### rows -/
def Tg.isByte : Tg → Bool
  | .int i => decide (0 ≤ i) && decide (i ≤ 255)
  | _ => false
def sp_is_byte (K : PySem.W.Frag) : Sp := fun vs H Q _ => ∃ (v : V) (g : Tg), vs = [v] ∧ Th K H v g ∧ Q (.bl (Tg.isByte g)) H
theorem len_is_byte (h : sp_is_byte K vs H Q E) : vs.length = 1 := by
  obtain ⟨v, g, rfl, _⟩ := h
  rfl
def t_is_byte (K : PySem.W.Frag) (W : WX) : TS :=
  (tRet ((tAndV (tCB (rIsi K) (tCons (tVar 0) (tCons (tC (.ty "int")) tNil))) (tAndV (tNotV (tCB (rIsi K) (tCons (tVar 0) (tCons (tC (.ty "bool")) tNil)))) (tChain rLeU rLeU (tC (.int 0)) (tVar 0) (tC (.int 255)))))))
theorem rd_is_byte (h : sp_is_byte K vs H Q E) : t_is_byte K W { nx := fun _ H' => Q .non H', rt := Q } (start ["thing"] vs) H := by
  obtain ⟨v, g, rfl, hT, q⟩ := h
  have hs := Hs.start H
  unfold t_is_byte
  cases hT with
  | int i =>
    have q : Q (.bl (decide (0 ≤ i) && decide (i ≤ 255))) H := q
    walk_at "go"
    cases e : decide ((0 : Int) ≤ i) with
    | false =>
      rw [e] at q
      walk_at "go"
      exact q
    | true =>
      rw [e] at q
      walk_at "go"
      exact q
  | bl b =>
    walk_at "go"
    refine c_isiInt (.bl b) ?_
    walk_at "go"
    refine c_isiBool (.bl b) ?_
    walk_at "go"
    exact q
  | non => walk_at "go"; refine c_isiInt .non ?_; walk_at "go"; exact q
  | str x => walk_at "go"; refine c_isiInt (.str x) ?_; walk_at "go"; exact q
  | lst z => walk_at "go"; refine c_isiInt (.lst z) ?_; walk_at "go"; exact q
  | tup z => walk_at "go"; refine c_isiInt (.tup z) ?_; walk_at "go"; exact q
  | dic z => walk_at "go"; refine c_isiInt (.dic z) ?_; walk_at "go"; exact q
/-- whether a thing is a byte, by itself -/
def byteV : V → Bool
  | .int i => decide (0 ≤ i) && decide (i ≤ 255)
  | _ => false
theorem byteV_of {v : V} {g : Tg} (h : Th K H v g) : Tg.isByte g = byteV v := by cases h <;> rfl
def Tg.isRow : Tg → Bool
  | .lst xs => xs.all byteV
  | _ => false
/-- the thing may be looked at: its items are things, too -/
def Tg.ok (K : PySem.W.Frag) (H : Hp) : Tg → Prop
  | .lst xs => (∀ x ∈ xs, ∃ g, Th K H x g) ∧ xs.length ≤ 100000
  | _ => True
def sp_is_row (K : PySem.W.Frag) : Sp := fun vs H Q _ => ∃ (v : V) (g : Tg), vs = [v] ∧ Th K H v g ∧ Tg.ok K H g ∧ RetV H Q (.bl (Tg.isRow g))
theorem len_is_row (h : sp_is_row K vs H Q E) : vs.length = 1 := by
  obtain ⟨v, g, rfl, _⟩ := h
  rfl
def t_is_row (K : PySem.W.Frag) (W : WX) : TS :=
  (tRet ((tAndV (tCB (rIsi K) (tCons (tVar 0) (tCons (tC (.ty "list")) tNil))) (tCB (rAll K) (tCons (tLc (iList K (tVar 0)) (gName 1) tYes (tCl (sp_is_byte K) [] WF (tCons (tVar 1) tNil)) [1]) tNil)))))
theorem rd_is_row (h : sp_is_row K vs H Q E) : t_is_row K W { nx := fun _ H' => Q .non H', rt := Q } (start ["thing", "number"] vs) H := by
  obtain ⟨v, g, rfl, hT, hok, q⟩ := h
  have hs := Hs.start H
  unfold t_is_row
  cases hT with
  | @lst a xs z =>
    walk_at "go"
    refine c_isiList (.lst z) ?_
    walk_at "go"
    refine c_lcL (f := id) xs (fun pre acc B => acc = (pre.map byteV).map V.bl) hs rfl (fun B' H' e h => by rw [List.map_id]; exact (e.trans h.ex).seq z) ?_ ?_
    · intro pre x post acc B' D H' e i eB h
      obtain ⟨g, hg⟩ := hok.1 x (by rw [e]; simp)
      walk_at "go"
      refine ⟨rfl, ?_⟩
      walk_at "go"
      refine ⟨x, g, rfl, hg.same (eB.trans h.ex), ?_⟩
      subst i
      refine c_item h (small5 ?_) eB ?_
      · have := congrArg List.length e
        have := hok.2
        simp at *
        omega
      · rw [byteV_of hg]
        simp
    · intro acc B' D H' i eB h
      subst i
      walk_at "go"
      refine c_all (h.sql (.head _)) ?_
      have e : ((xs.map byteV).all id) = xs.all byteV := by simp
      rw [e]
      exact q _ (eB.trans h.ex)
  | non => walk_at "go"; refine c_isiList .non ?_; walk_at "go"; exact q _ hs.ex
  | bl b => walk_at "go"; refine c_isiList (.bl b) ?_; walk_at "go"; exact q _ hs.ex
  | int i => walk_at "go"; refine c_isiList (.int i) ?_; walk_at "go"; exact q _ hs.ex
  | str x => walk_at "go"; refine c_isiList (.str x) ?_; walk_at "go"; exact q _ hs.ex
  | tup z => walk_at "go"; refine c_isiList (.tup z) ?_; walk_at "go"; exact q _ hs.ex
  | dic z => walk_at "go"; refine c_isiList (.dic z) ?_; walk_at "go"; exact q _ hs.ex
/-- a row: its numbers -/
def Bytes (ns : List Int) : Prop := ∀ n ∈ ns, 0 ≤ n ∧ n ≤ 255
theorem ints_of : ∀ {xs : List V}, xs.all byteV = true → ∃ ns : List Int, xs = ns.map V.int ∧ Bytes ns
  | [], _ => ⟨[], rfl, fun _ h => nomatch h⟩
  | x :: r, h => by
    simp only [List.all_cons, Bool.and_eq_true] at h
    obtain ⟨ns, e, hb⟩ := ints_of h.2
    cases x with
    | int i =>
      refine ⟨i :: ns, by rw [e]; rfl, fun n hn => ?_⟩
      rcases List.mem_cons.mp hn with z | z
      · have h1 := h.1
        simp only [byteV, Bool.and_eq_true, decide_eq_true_eq] at h1
        rw [z]
        exact h1
      · exact hb n z
    | _ => cases h.1
theorem all_byteV {ns : List Int} (h : Bytes ns) : (ns.map V.int).all byteV = true := by
  rw [List.all_eq_true]
  intro x hx
  obtain ⟨n, hn, rfl⟩ := List.mem_map.mp hx
  have := h n hn
  simp only [byteV, Bool.and_eq_true, decide_eq_true_eq]
  exact this
theorem ok_ints {H : Hp} {ns : List Int} (h : ns.length ≤ 100000) : Tg.ok K H (.lst (ns.map V.int)) := by
  refine ⟨fun x hx => ?_, by rw [List.length_map]; exact h⟩
  obtain ⟨n, _, rfl⟩ := List.mem_map.mp hx
  exact ⟨_, .int n⟩
theorem cutV_ints (ns : List Int) (lo hi : Option Int) : cutV (ns.map V.int) lo hi = ((ns.drop (HT.sIx ns.length 0 lo)).take (HT.sIx ns.length ns.length hi - HT.sIx ns.length 0 lo)).map V.int := by
  unfold cutV
  rw [List.length_map, List.map_take, List.map_drop]
theorem sIx_at (n d k : Nat) (h : k ≤ n) : HT.sIx n d (some ((k : Nat) : Int)) = k := by rw [HT.sIx_nat]; omega
theorem map_int_inj : ∀ {a b : List Int}, a.map V.int = b.map V.int → a = b
  | [], [], _ => rfl
  | [], _ :: _, h => by cases h
  | _ :: _, [], h => by cases h
  | x :: r, y :: t, h => by
    injection h with h1 h2
    injection h1 with h1
    rw [h1, map_int_inj h2]
theorem ne_f {a b : Int} (h : a = b) : (!decide (a = b)) = false := by rw [decide_eq_true h]; rfl
theorem cut_take (ns : List Int) (m : Nat) : cutV (ns.map V.int) none (some ((m : Nat) : Int)) = (ns.take m).map V.int := by
  rw [cutV_ints, HT.sIx_nat, HT.sIx_none, List.drop_zero, Nat.sub_zero]
  congr 1
  by_cases h : m ≤ ns.length
  · rw [Nat.min_eq_left h]
  · rw [Nat.min_eq_right (by omega), List.take_of_length_le (Nat.le_refl _), List.take_of_length_le (by omega)]
theorem cut_drop (ns : List Int) (m : Nat) : cutV (ns.map V.int) (some ((m : Nat) : Int)) none = (ns.drop m).map V.int := by
  rw [cutV_ints, HT.sIx_nat, HT.sIx_none]
  congr 1
  by_cases h : m ≤ ns.length
  · rw [Nat.min_eq_left h, List.take_of_length_le (by rw [List.length_drop]; omega)]
  · rw [Nat.min_eq_right (by omega), List.drop_of_length_le (Nat.le_refl _), List.drop_of_length_le (by omega), List.take_nil]
theorem cut_mid (ns : List Int) (a b : Nat) (h1 : a ≤ b) (h2 : b ≤ ns.length) : cutV (ns.map V.int) (some ((a : Nat) : Int)) (some ((b : Nat) : Int)) = ((ns.drop a).take (b - a)).map V.int := by
  rw [cutV_ints, HT.sIx_nat _ 0 a, HT.sIx_nat _ _ b, Nat.min_eq_left (show a ≤ ns.length by omega), Nat.min_eq_left h2]
theorem at_nat {ns : List Int} {k : Nat} (h : k < ns.length) : atI (ns.map V.int) ((k : Nat) : Int) = some (.int (ns.getD k 0)) := by
  rw [atI_nat (v := .int (ns.getD k 0))]
  rw [List.getElem?_map, List.getElem?_eq_getElem h, List.getD_eq_getElem?_getD, List.getElem?_eq_getElem h]
  rfl
theorem at_i {ns : List Int} {i : Int} {k : Nat} (e : i = ((k : Nat) : Int)) (h : k < ns.length) : atI (ns.map V.int) i = some (.int (ns.getD k 0)) := by rw [e]; exact at_nat h
def sp_need_row (K : PySem.W.Frag) : Sp := fun vs H Q E => ∃ (v : V) (g : Tg), vs = [v] ∧ Th K H v g ∧ Tg.ok K H g ∧
  (∀ xs, g = .lst xs → Tg.isRow g = true → RetL H Q xs) ∧ (Tg.isRow g = false → ∀ H', Same H H' → E (.ref (He.ga K "BadRow")) none H')
theorem len_need_row (h : sp_need_row K vs H Q E) : vs.length = 1 := by
  obtain ⟨v, g, rfl, _⟩ := h
  rfl
def t_need_row (K : PySem.W.Frag) (W : WX) : TS :=
  (tSeq (tIfS (tNot (tB (tCl (sp_is_row K) [] W (tCons (tVar 0) tNil)))) (tRz (He.ga K "BadRow") W) tNext)
    (tRet (tCB (rListK K) (tCons (tVar 0) tNil))))
theorem rd_need_row (h : sp_need_row K vs H Q E) : t_need_row K (fun c d _ H2 => E c d H2) { nx := fun _ H' => Q .non H', rt := Q } (start ["thing"] vs) H := by
  obtain ⟨v, g, rfl, hT, hok, q, qe⟩ := h
  have hs := Hs.start H
  unfold t_need_row
  walk_at "go"
  refine ⟨v, g, rfl, hT, hok, retV hs fun H1 h1 => ?_⟩
  walk_at "go"
  cases e : Tg.isRow g with
  | false =>
    walk_at "go"
    exact qe e _ h1.ex
  | true =>
    cases hT with
    | @lst a xs z =>
      walk_at "go"
      rename_i p H2 h2
      exact h2.rl (.head _) (q xs rfl e)
    | _ => cases e
end L2.BR

namespace L2.BR
open PySem PySem.Spec PyProof.Rows L2.BP
variable {K : PySem.W.Frag}
/-! ### the script's cells -/
def cellAt (ns : List Int) (k : Int) : Int := if k < ns.length then ns.getD k.toNat 0 else 0
def sp__law_cell_at (K : PySem.W.Frag) : Sp := fun vs H Q _ => ∃ (a : Addr) (ns : List Int) (k : Int), vs = [.ref a, .int k] ∧ SqL K H a (ns.map V.int) ∧ 0 ≤ k ∧ Q (.int (cellAt ns k)) H
theorem len__law_cell_at {vs : List V} {H : Hp} {Q : VK} {E : XK} (h : sp__law_cell_at K vs H Q E) : vs.length = 2 := by
  obtain ⟨a, ns, k, rfl, _⟩ := h
  rfl
theorem at_ints {ns : List Int} {k : Int} (h0 : 0 ≤ k) (h : k < ns.length) : atI (ns.map V.int) k = some (.int (ns.getD k.toNat 0)) := by
  obtain ⟨n, rfl⟩ := Int.eq_ofNat_of_zero_le h0
  have hn : n < ns.length := by omega
  rw [atI_nat (v := .int (ns.getD n 0))]
  · rfl
  · rw [List.getElem?_map, List.getElem?_eq_getElem hn, List.getD_eq_getElem?_getD, List.getElem?_eq_getElem hn]
    rfl
def t__law_cell_at (K : PySem.W.Frag) (W : WX) : TS :=
  (tSeq (tIfS (tTest (tOp rLtU (tVar 1) (tCB (rLenK K) (tCons (tVar 0) tNil)))) (tRet (tOp (rIx K) (tVar 0) (tVar 1))) tNext)
    (tRet (tC (.int 0))))
theorem rd__law_cell_at {W : WX} {vs : List V} {H : Hp} {Q : VK} {E : XK} (h : sp__law_cell_at K vs H Q E) : t__law_cell_at K W { nx := fun _ H' => Q .non H', rt := Q } (start ["_law_script", "_law_k"] vs) H := by
  obtain ⟨a, ns, k, rfl, hS, h0, q⟩ := h
  have hs := Hs.start H
  unfold t__law_cell_at
  walk_at "go"
  refine i_2 (fun c => ?_) (fun c => ?_)
  · have c := of_decide_eq_true c
    rw [List.length_map] at c
    walk_at "go"
    refine c_ixL (by walk_at "sq") (at_ints h0 c) ?_
    rw [show cellAt ns k = ns.getD k.toNat 0 from if_pos c] at q
    exact q
  · have c := of_decide_eq_false c
    rw [List.length_map] at c
    walk_at "go"
    rw [show cellAt ns k = 0 from if_neg c] at q
    exact q
end L2.BR

namespace L2.BR
open PySem PySem.Spec PyProof.Rows L2.BP
/-! ### letters -/
def chS (l : List Nat) : Str := ⟨l.toArray⟩
theorem chS_of (x : Str) : chS x.cps.toList = x := by
  obtain ⟨a⟩ := x
  simp [chS]
theorem chS_len (l : List Nat) : (chS l).length = l.length := by simp [chS, Str.length]
theorem chS_cps (l : List Nat) : (chS l).cps.toList = l := by simp [chS]
theorem chS_size (l : List Nat) : (chS l).cps.size = l.length := by simp [chS]
theorem chS_at (l : List Nat) (i : Nat) : (chS l).cps[i]? = l[i]? := by simp [chS]
theorem chS_app (a b : List Nat) : chS a ++ chS b = chS (a ++ b) := by
  show Str.append _ _ = _
  simp [Str.append, chS]
theorem chS_cut (b : List Nat) {i j : Int} {m n : Nat} (ei : i = ((m : Nat) : Int)) (ej : j = ((n : Nat) : Int)) (h : m ≤ n) (hn : n ≤ b.length) : cutS (chS b) (some i) (some j) = chS ((b.drop m).take (n - m)) := by
  subst ei ej
  unfold cutS
  rw [HT.sIx_nat, HT.sIx_nat, chS_len, Nat.min_eq_left hn, Nat.min_eq_left (Nat.le_trans h hn)]
  unfold chS
  simp
theorem chS_cut0 (b : List Nat) {j : Int} {n : Nat} (ej : j = ((n : Nat) : Int)) (hn : n ≤ b.length) : cutS (chS b) none (some j) = chS (b.take n) := by
  subst ej
  unfold cutS
  rw [HT.sIx_none, HT.sIx_nat, chS_len, Nat.min_eq_left hn]
  unfold chS
  simp
theorem chS_cut1 (b : List Nat) {i : Int} {m : Nat} (ei : i = ((m : Nat) : Int)) (hn : m ≤ b.length) : cutS (chS b) (some i) none = chS (b.drop m) := by
  subst ei
  unfold cutS
  rw [HT.sIx_nat, HT.sIx_none, chS_len, Nat.min_eq_left hn]
  unfold chS
  simp
  rw [List.take_of_length_le (by rw [List.length_drop]; omega)]
theorem join_ch (r : List (List Nat)) : ∀ acc : Array Nat, (r.map chS).foldl (fun (a : Array Nat) (p : Str) => a ++ (#[] : Array Nat) ++ p.cps) acc = acc ++ r.flatten.toArray := by
  induction r with
  | nil => intro acc; simp
  | cons x r ih =>
    intro acc
    rw [List.map_cons, List.foldl_cons, ih]
    simp [chS]
theorem chS_join (r : List (List Nat)) : Txt.join "" (r.map chS) = chS r.flatten := by
  show Builtin.Str.glued _ _ = _
  unfold Builtin.Str.glued
  rw [show ("" : Str).cps = #[] by decide +kernel]
  cases r with
  | nil => rfl
  | cons x r =>
    rw [List.map_cons, List.drop_succ_cons, List.drop_zero, List.headD_cons, join_ch]
    simp [chS]
theorem letter_at (n : Nat) (h : n < 16) : atI ("abcdefghijklmnop" : Str).cps.toList ((n : Nat) : Int) = some (97 + n) := by
  have z : ∀ m : Fin 16, atI ("abcdefghijklmnop" : Str).cps.toList ((m.val : Nat) : Int) = some (97 + m.val) := by decide +kernel
  exact z ⟨n, h⟩
def isL (c : Nat) : Bool := decide (97 ≤ c) && decide (c ≤ 112)
def fnd (c : Nat) : Int := if isL c then ((c - 97 : Nat) : Int) else -1
theorem letter_find (c : Nat) (h : c < 128) : Txt.find "abcdefghijklmnop" (chS [c]) = fnd c := by
  have z : ∀ m : Fin 128, Txt.find "abcdefghijklmnop" (chS [m.val]) = fnd m.val := by decide +kernel
  exact z ⟨c, h⟩
theorem upper_at (c : Nat) (h : isL c = true) : Unicode.upperOf c = [c - 32] := by
  have z : ∀ m : Fin 128, isL m.val = true → Unicode.upperOf m.val = [m.val - 32] := by decide +kernel
  have hc : c < 128 := by
    simp [isL] at h
    omega
  exact z ⟨c, hc⟩ h
theorem upper_ch {l : List Nat} (h : ∀ c ∈ l, isL c = true) : Txt.upper (chS l) = chS (l.map (· - 32)) := by
  show (⟨placed (chS l) fun _ c => Unicode.upperOf c⟩ : Str) = _
  unfold placed chS
  congr 1
  apply Array.toList_inj.mp
  rw [Array.toList_flatten, Array.toList_mapIdx]
  simp only [List.toList_toArray]
  have hm : ∀ (f : Nat → Array Nat) (l : List Nat), (l.mapIdx fun _ c => f c) = l.map f := by
    intro f l
    apply List.ext_getElem?
    intro i
    rw [List.getElem?_mapIdx, List.getElem?_map]
  rw [hm]
  rw [List.map_map]
  induction l with
  | nil => rfl
  | cons c r ih =>
    have h1 := h c (.head _)
    rw [List.map_cons, List.flatten_cons, ih fun c hc => h c (.tail _ hc), List.map_cons]
    show (Unicode.upperOf c).toArray.toList ++ _ = _
    rw [upper_at c h1]
    rfl
/-- pairs of letters -/
def okl : List Nat → Bool
  | [] => true
  | [_] => false
  | a :: b :: r => isL a && (isL b && okl r)
def unl : List Nat → List Int
  | a :: b :: r => (16 * fnd a + fnd b) :: unl r
  | _ => []
def lett : List Int → List Nat
  | [] => []
  | n :: r => (97 + (n / 16).toNat) :: (97 + (n % 16).toNat) :: lett r
theorem lett_len : ∀ ns : List Int, (lett ns).length = 2 * ns.length
  | [] => rfl
  | n :: r => by
    show (lett r).length + 1 + 1 = _
    rw [lett_len r, List.length_cons]
    omega
theorem lett_snoc (n : Int) : ∀ r : List Int, lett (r ++ [n]) = lett r ++ [97 + (n / 16).toNat, 97 + (n % 16).toNat]
  | [] => rfl
  | x :: r => by
    show (97 + (x / 16).toNat) :: (97 + (x % 16).toNat) :: lett (r ++ [n]) = _
    rw [lett_snoc n r]
    rfl
theorem isL_of {n : Nat} (h : n < 16) : isL (97 + n) = true := by
  unfold isL
  rw [decide_eq_true (show 97 ≤ 97 + n by omega), decide_eq_true (show 97 + n ≤ 112 by omega)]
  rfl
theorem fnd_of {n : Nat} (h : n < 16) : fnd (97 + n) = ((n : Nat) : Int) := by
  unfold fnd
  rw [if_pos (isL_of h)]
  omega
theorem lett_ok : ∀ {ns : List Int}, (∀ n ∈ ns, 0 ≤ n ∧ n ≤ 255) → okl (lett ns) = true ∧ unl (lett ns) = ns ∧ ∀ c ∈ lett ns, isL c = true
  | [], _ => ⟨rfl, rfl, fun _ h => nomatch h⟩
  | n :: r, h => by
    obtain ⟨h1, h2⟩ := h n (.head _)
    obtain ⟨i1, i2, i3⟩ := lett_ok fun n hn => h n (.tail _ hn)
    have a1 : (n / 16).toNat < 16 := by omega
    have a2 : (n % 16).toNat < 16 := by omega
    refine ⟨?_, ?_, ?_⟩
    · show (isL _ && (isL _ && okl (lett r))) = true
      rw [isL_of a1, isL_of a2, i1]
      rfl
    · show (16 * fnd _ + fnd _) :: unl (lett r) = _
      rw [fnd_of a1, fnd_of a2, i2]
      congr 1
      omega
    · intro c hc
      rcases List.mem_cons.mp hc with rfl | hc
      · exact isL_of a1
      · rcases List.mem_cons.mp hc with rfl | hc
        · exact isL_of a2
        · exact i3 c hc
theorem okl_even : ∀ l : List Nat, okl l = true → l.length % 2 = 0
  | [], _ => rfl
  | [_], h => by cases h
  | a :: b :: r, h => by
    simp only [okl, Bool.and_eq_true] at h
    have := okl_even r h.2.2
    show (r.length + 1 + 1) % 2 = 0
    omega
theorem okl_all : ∀ l : List Nat, okl l = true → ∀ c ∈ l, isL c = true
  | [], _, c, hc => nomatch hc
  | [_], h, _, _ => by cases h
  | a :: b :: r, h, c, hc => by
    simp only [okl, Bool.and_eq_true] at h
    rcases List.mem_cons.mp hc with rfl | hc
    · exact h.1
    · rcases List.mem_cons.mp hc with rfl | hc
      · exact h.2.1
      · exact okl_all r h.2.2 c hc
theorem okl_app : ∀ l m : List Nat, okl l = true → okl (l ++ m) = okl m ∧ unl (l ++ m) = unl l ++ unl m
  | [], m, _ => ⟨rfl, rfl⟩
  | [_], _, h => by cases h
  | a :: b :: r, m, h => by
    simp only [okl, Bool.and_eq_true] at h
    obtain ⟨i1, i2⟩ := okl_app r m h.2.2
    refine ⟨?_, ?_⟩
    · show (isL a && (isL b && okl (r ++ m))) = _
      rw [h.1, h.2.1, i1]
      rfl
    · show _ :: unl (r ++ m) = _
      rw [i2]
      rfl
theorem unl_lett : ∀ l : List Nat, okl l = true → lett (unl l) = l ∧ (∀ n ∈ unl l, 0 ≤ n ∧ n ≤ 255) ∧ 2 * (unl l).length = l.length
  | [], _ => ⟨rfl, fun _ h => (nomatch h), rfl⟩
  | [_], h => by cases h
  | a :: b :: r, h => by
    simp only [okl, Bool.and_eq_true] at h
    obtain ⟨i1, i2, i3⟩ := unl_lett r h.2.2
    have f : ∀ c, isL c = true → 97 ≤ c ∧ c ≤ 112 ∧ fnd c = (c : Int) - 97 := by
      intro c hc
      have z : 97 ≤ c ∧ c ≤ 112 := by simpa [isL] using hc
      refine ⟨z.1, z.2, ?_⟩
      unfold fnd
      rw [if_pos hc]
      omega
    obtain ⟨a1, a2, a3⟩ := f a h.1
    obtain ⟨b1, b2, b3⟩ := f b h.2.1
    refine ⟨?_, ?_, ?_⟩
    · show (97 + ((16 * fnd a + fnd b) / 16).toNat) :: (97 + ((16 * fnd a + fnd b) % 16).toNat) :: lett (unl r) = _
      rw [i1, a3, b3]
      congr 1
      · omega
      · congr 1
        omega
    · intro n hn
      rcases List.mem_cons.mp hn with rfl | hn
      · omega
      · exact i2 n hn
    · show 2 * ((unl r).length + 1) = r.length + 1 + 1
      omega
theorem okl_no {l : List Nat} {c : Nat} (hc : c ∈ l) (h : isL c = false) : okl l = false := by
  cases e : okl l with
  | false => rfl
  | true =>
    have := okl_all l e c hc
    rw [h] at this
    cases this
theorem okl_odd {l : List Nat} (h : l.length % 2 = 1) : okl l = false := by
  cases e : okl l with
  | false => rfl
  | true =>
    have := okl_even l e
    omega
theorem isL_lt {c : Nat} (h : isL c = true) : c < 128 := by
  have z : 97 ≤ c ∧ c ≤ 112 := by simpa [isL] using h
  omega
end L2.BR

namespace L2.BR
open PySem PySem.Spec PyProof.Rows L2.BP
variable {K : PySem.W.Frag} {W : WX} {vs : List V} {H : Hp} {Q : VK} {E : XK}
/-! ### letters -/
def Tg.okl : Tg → Bool
  | .str x => L2.BR.okl x.cps.toList
  | _ => false
def sp_lettered (K : PySem.W.Frag) : Sp := fun vs H Q E => ∃ (v : V) (g : Tg), vs = [v] ∧ Th K H v g ∧ Tg.ok K H g ∧ (∀ ns : List Int, g = .lst (ns.map V.int) → ns.length ≤ 1000 ∧ (Bytes ns → RetV H Q (.str (chS (lett ns))))) ∧
  (Tg.isRow g = false → ∀ H', Same H H' → E (.ref (He.ga K "BadRow")) none H')
theorem len_lettered (h : sp_lettered K vs H Q E) : vs.length = 1 := by
  obtain ⟨v, g, rfl, _⟩ := h
  rfl
def t_lettered (K : PySem.W.Frag) (W : WX) : TS :=
  (tSeq (tAsg (tLst tNil) (gName 1))
    (tSeq (tFor (iList K (tCl (sp_need_row K) [] W (tCons (tVar 0) tNil))) (gName 2) (tSeq (tAsg (tCB (rDivmodK) (tCons (tVar 2) (tCons (tC (.int 16)) tNil))) (gTup K 2 (gCons (gName 3) (gCons (gName 4) gNil))))
    (tDrop (tBM K "list" rAppend (tVar 1) (tCons (tOp rAddU (tOp (rIx K) (tC (.str "abcdefghijklmnop")) (tVar 3)) (tOp (rIx K) (tC (.str "abcdefghijklmnop")) (tVar 4))) tNil)))))
    (tRet (tM1 (rJoinK K) (tC (.str "")) (tVar 1)))))
theorem rd_lettered (h : sp_lettered K vs H Q E) : t_lettered K (fun c d _ H2 => E c d H2) { nx := fun _ H' => Q .non H', rt := Q } (start ["row", "found", "byte", "high", "low"] vs) H := by
  obtain ⟨v, g, rfl, hT, hok, q, qe⟩ := h
  have hs := Hs.start H
  unfold t_lettered
  walk_at "go"
  rename_i f H1 h1
  refine ⟨v, g, rfl, hT.same h1.ex, ?_, fun xs e hr => ?_, fun z H' e => qe z H' (h1.ex.trans e)⟩
  · cases g with
    | lst xs => exact ⟨fun x hx => (hok.1 x hx).imp fun _ h => h.same h1.ex, hok.2⟩
    | _ => trivial
  subst e
  obtain ⟨ns, rfl, hb⟩ := ints_of hr
  obtain ⟨hl, q⟩ := q ns rfl
  have q := q hb
  refine retL h1 fun r H2 h2 => ?_
  clear h1 hs
  have k1 := h2.nb (.head _)
  have h3 := h2.fix
  have hr : SqL K (upd H r (.lst (ns.map V.int))) r (ns.map V.int) := SqL.of upd_same
  have sm := same_upd (o := HO.lst (ns.map V.int)) k1
  generalize upd H r (.lst (ns.map V.int)) = B2 at *
  clear h2
  walk_at "go"
  refine w_forL V.int ns (fun pre σ' L' B' => ∃ w2 w3 w4, σ' = [some v, some (.ref f), w2, w3, w4] ∧ B' = B2 ∧ L' = [(f, .lst ((pre.map fun n => chS [97 + (n / 16).toNat, 97 + (n % 16).toNat]).map V.str))]) h3 ⟨none, none, none, rfl, rfl, rfl⟩ ?_ ?_ ?_
  · rintro pre post σ' L' B' H' _ ⟨w2, w3, w4, _, rfl, rfl⟩ h
    exact h.bl hr
  · rintro pre n post σ' L' B' H' e ⟨w2, w3, w4, rfl, rfl, rfl⟩ h
    have hnb := hb n (by rw [e]; simp)
    have hpl : pre.length ≤ 1000 := by rw [e, List.length_append] at hl; omega
    walk_at "go"
    refine c_divmod h ⟨by omega, by omega⟩ fun a H4 h4 => ?_
    have ht := h4.sqt (K := K) (.head _)
    walk_at "go"
    have e1 : n / 16 = (((n / 16).toNat : Nat) : Int) := by omega
    have e2 : n % 16 = (((n % 16).toNat : Nat) : Int) := by omega
    refine c_ixS (by decide) (by rw [e1]; exact letter_at _ (by omega)) ?_
    walk_at "go"
    refine c_ixS (by decide) (by rw [e2]; exact letter_at _ (by omega)) ?_
    refine c_addS (by show 1 + 1 ≤ _; decide) ?_
    walk_at "go"
    refine c_app1 h4 (small6 (by rw [List.length_map, List.length_map]; omega)) fun H5 h5 => ?_
    have h6 := h5.drop
    refine ⟨_, _, ⟨_, _, _, rfl, rfl, ?_⟩, h6⟩
    rw [List.map_append, List.map_append]
    rfl
  · rintro σ' L' B' H' ⟨w2, w3, w4, rfl, rfl, rfl⟩ h
    walk_at "go"
    refine c_m1 ?_
    walk_at "go"
    refine c_strO ?_
    walk_at "go"
    refine c_join (h.sql (.head _)) ?_ ?_
    · have z : ∀ l : List Int, ((l.map fun n => chS [97 + (n / 16).toNat, 97 + (n % 16).toNat]).map (·.length)).sum = 2 * l.length := by
        intro l
        induction l with
        | nil => rfl
        | cons x r ih =>
          rw [List.map_cons, List.map_cons, List.sum_cons, ih, chS_len]
          show 2 + 2 * r.length = 2 * (r.length + 1)
          omega
      rw [z, show ("" : Str).length = 0 by decide, Nat.mul_zero]
      rw [Nat.add_zero]
      exact Nat.le_trans (Nat.mul_le_mul_left 2 hl) (by decide)
    · have e : ns.map (fun n => chS [97 + (n / 16).toNat, 97 + (n % 16).toNat]) = (ns.map fun n => [97 + (n / 16).toNat, 97 + (n % 16).toNat]).map chS := by rw [List.map_map]; rfl
      have e2 : ∀ l : List Int, (l.map fun n => [97 + (n / 16).toNat, 97 + (n % 16).toNat]).flatten = lett l := by
        intro l
        induction l with
        | nil => rfl
        | cons x r ih =>
          rw [List.map_cons, List.flatten_cons, ih]
          rfl
      rw [e, chS_join, e2]
      exact q H' (sm.trans h.ex)
def sp_row_in (K : PySem.W.Frag) : Sp := fun vs H Q E => ∃ (v : V) (g : Tg), vs = [v] ∧ Th K H v g ∧ (∀ l : List Nat, g = .str (chS l) → (∀ c ∈ l, c < 128) ∧ l.length ≤ 1000 ∧ (okl l = true → RetL H Q ((unl l).map V.int))) ∧
  (Tg.okl g = false → ∀ H', Same H H' → E (.ref (He.ga K "BadLetters")) none H')
theorem len_row_in (h : sp_row_in K vs H Q E) : vs.length = 1 := by
  obtain ⟨v, g, rfl, _⟩ := h
  rfl
theorem rgC2 {j : Int} {m : Nat} (e : j = 2 * ((m : Nat) : Int)) (hm : m ≤ 1000000) : RgC 0 j 2 m := by
  subst e
  have hz : Builtin.Range.rangeSize 0 (2 * ((m : Nat) : Int)) 2 = m := by
    unfold Builtin.Range.rangeSize
    simp only [show ((2 : Int) > 0) from by decide, if_true]
    split <;> omega
  refine ⟨by decide, by decide, ?_, hz⟩
  unfold Builtin.Range.small
  rw [hz]
  have f : ∀ z : Int, -1000000 ≤ z → z ≤ 9000000 → Builtin.Range.rangeFitsLong z = true := fun z h1 h2 => by
    unfold Builtin.Range.rangeFitsLong
    rw [decide_eq_true (show -(2 ^ 63) ≤ z by omega), decide_eq_true (show z < 2 ^ 63 by omega)]
    rfl
  rw [if_pos (by decide), f 0 (by decide) (by decide), f 2 (by decide) (by decide), f (2 * ((m : Nat) : Int)) (by omega) (by omega), f ((m : Nat) : Int) (by omega) (by omega), f (2 * ((m : Nat) : Int) + (2 - 1)) (by omega) (by omega)]
  simp
theorem okl_step {l : List Nat} {i a b : Nat} (h : okl (l.take (2 * i)) = true) (ha : l[2 * i]? = some a) (hb : l[2 * i + 1]? = some b) : (l.drop (2 * i)).take 2 = [a, b] ∧ l.take (2 * (i + 1)) = l.take (2 * i) ++ [a, b] := by
  have h1 := List.getElem?_eq_some_iff.mp ha
  have h2 := List.getElem?_eq_some_iff.mp hb
  obtain ⟨h1, rfl⟩ := h1
  obtain ⟨h2, rfl⟩ := h2
  have e : (l.drop (2 * i)).take 2 = [l[2 * i], l[2 * i + 1]] := by
    rw [List.drop_eq_getElem_cons h1, List.drop_eq_getElem_cons h2]
    rfl
  refine ⟨e, ?_⟩
  rw [show 2 * (i + 1) = 2 * i + 2 by omega, List.take_add, e]
theorem none_back {H B : Hp} {p : Addr} (s : Same H B) (h : B p = none) : H p = none := by
  cases e : H p with
  | none => rfl
  | some u =>
    have z := s _ _ e
    rw [h] at z
    cases z
theorem fnd_neg {c : Nat} : fnd c = -1 ↔ isL c = false := by
  unfold fnd
  cases isL c with
  | true => simp
  | false => simp
def t_row_in (K : PySem.W.Frag) (W : WX) : TS :=
  (tSeq (tIfS ((tOr (tNot (tB (tCB (rIsi K) (tCons (tVar 0) (tCons (tC (.ty "str")) tNil))))) (tTest (tOp (rEqU K) (tOp rModU (tCB (rLenK K) (tCons (tVar 0) tNil)) (tC (.int 2))) (tC (.int 1)))))) (tRz (He.ga K "BadLetters") W) tNext)
    (tSeq (tAsg (tLst tNil) (gName 1))
    (tSeq (tFor (iRng3 (tCons (tC (.int 0)) (tCons (tCB (rLenK K) (tCons (tVar 0) tNil)) (tCons (tC (.int 2)) tNil)))) (gName 2) (tSeq (tAsg (tLc (iStr (tSl (rSlK K) (tVar 0) (tPart (tVar 2)) (tPart (tOp rAddU (tVar 2) (tC (.int 2)))))) (gName 4) tYes (tM1 rFindK (tC (.str "abcdefghijklmnop")) (tVar 4)) [4]) (gName 3))
    (tSeq (tIfS (tTest (tOp (rInU K) (tUn rNegU (tC (.int 1))) (tVar 3))) (tRz (He.ga K "BadLetters") W) tNext)
    (tDrop (tBM K "list" rAppend (tVar 1) (tCons (tOp rAddU (tOp rMulU (tC (.int 16)) (tOp (rIx K) (tVar 3) (tC (.int 0)))) (tOp (rIx K) (tVar 3) (tC (.int 1)))) tNil))))))
    (tRet (tVar 1)))))
theorem rd_row_in (h : sp_row_in K vs H Q E) : t_row_in K (fun c d _ H2 => E c d H2) { nx := fun _ H' => Q .non H', rt := Q } (start ["letters", "found", "at", "pair", "letter"] vs) H := by
  obtain ⟨v, g, rfl, hT, q, qe⟩ := h
  have hs := Hs.start H
  unfold t_row_in
  walk_at "go"
  refine c_isiStr hT ?_
  cases g with
  | str x =>
    obtain ⟨l, rfl⟩ : ∃ l, x = chS l := ⟨x.cps.toList, (chS_of x).symm⟩
    obtain ⟨hlt, hl, q⟩ := q l rfl
    have qe : okl l = false → ∀ H', Same H H' → E (.ref (He.ga K "BadLetters")) none H' := fun z => qe (by show okl (chS l).cps.toList = false; rw [chS_cps]; exact z)
    cases hT
    walk_at "go"
    refine c_lenS (small6' (by rw [chS_len]; omega)) ?_
    rw [chS_len]
    walk_at "go"
    by_cases odd : l.length % 2 = 1
    · refine i_t (decide_eq_true (by omega)) ?_
      exact qe (okl_odd odd) _ hs.ex
    · refine i_f (decide_eq_false (by omega)) ?_
      walk_at "go"
      rename_i f H1 h1
      refine c_lenS (small6' (by rw [chS_len]; omega)) ?_
      rw [chS_len]
      walk_at "go"
      refine c_rcO (l.length / 2) (rgC2 (by omega) (by omega)) ?_
      refine w_forC (fun i σ' L' B' => ∃ w2 w3, σ' = [some (.str (chS l)), some (.ref f), w2, w3, none] ∧ Same H B' ∧ okl (l.take (2 * i)) = true ∧ L' = [(f, .lst ((unl (l.take (2 * i))).map V.int))]) h1 ⟨none, none, rfl, Same.refl _, rfl, rfl⟩ ?_ ?_
      · rintro i σ' L' B' H' hi ⟨w2, w3, rfl, sB, ho, rfl⟩ h
        obtain ⟨a, ha⟩ : ∃ a, l[2 * i]? = some a := ⟨_, List.getElem?_eq_getElem (by omega)⟩
        obtain ⟨b, hb⟩ : ∃ b, l[2 * i + 1]? = some b := ⟨_, List.getElem?_eq_getElem (by omega)⟩
        obtain ⟨s1, s2⟩ := okl_step ho ha hb
        have hal := hlt a (List.mem_of_getElem? ha)
        have hbl := hlt b (List.mem_of_getElem? hb)
        clear h1
        walk_at "go"
        refine c_slS (small6' (by rw [chS_len]; omega)) ?_
        rw [chS_cut _ (m := 2 * i) (n := 2 * i + 2) (by omega) (by omega) (by omega) (by omega), show 2 * i + 2 - 2 * i = 2 by omega, s1]
        walk_at "go"
        refine c_lcS (fun j acc B'' => acc = ([fnd a, fnd b].take j).map V.int ∧ B'' = B') h ⟨rfl, rfl⟩ ?_ ?_
        · rintro j c acc B'' D H2 hc ⟨rfl, rfl⟩ e2 h2
          rw [chS_at] at hc
          walk_at "go"
          refine ⟨rfl, ?_⟩
          walk_at "go"
          refine c_m1 ?_
          walk_at "go"
          refine c_strO ?_
          walk_at "go"
          have hcl : c < 128 ∧ j < 2 ∧ ([fnd a, fnd b].take (j + 1)) = [fnd a, fnd b].take j ++ [fnd c] := by
            match j, hc with
            | 0, hc => cases hc; exact ⟨hal, by decide, rfl⟩
            | 1, hc => cases hc; exact ⟨hbl, by decide, rfl⟩
            | j + 2, hc => cases hc
          refine c_find ?_
          rw [show (⟨#[c]⟩ : Str) = chS [c] from rfl, letter_find c hcl.1]
          refine c_item h2 (small5 (by rw [List.length_map, List.length_take]; omega)) e2 ⟨?_, rfl⟩
          rw [hcl.2.2, List.map_append]
          rfl
        · rintro acc B'' D H2 ⟨rfl, rfl⟩ e2 h2
          rw [chS_size] at h2
          rw [show ([fnd a, fnd b].take [a, b].length) = [fnd a, fnd b] from rfl] at h2
          walk_at "go"
          refine c_inL [fnd a, fnd b] (h2.sql (.head _)) ?_
          walk_at "go"
          by_cases good : isL a = true ∧ isL b = true
          · refine i_f (decide_eq_false (by
              intro z
              rcases List.mem_cons.mp z with z | z
              · have := fnd_neg.mp z.symm
                rw [good.1] at this
                cases this
              · have := fnd_neg.mp (List.mem_singleton.mp z).symm
                rw [good.2] at this
                cases this)) ?_
            have i0 : atI ([fnd a, fnd b].map V.int) 0 = some (.int (fnd a)) := rfl
            have i1 : atI ([fnd a, fnd b].map V.int) 1 = some (.int (fnd b)) := rfl
            walk_at "go"
            refine c_app1 h2 (small6 (by
              have := (unl_lett _ ho).2.2
              rw [List.length_take] at this
              rw [List.length_map]
              omega)) fun H3 h3 => ?_
            have h4 := h3.drop
            have z := okl_app (l.take (2 * i)) [a, b] ho
            refine ⟨_, _, ⟨_, _, rfl, sB, ?_, ?_⟩, h4⟩
            · rw [s2, z.1]
              show (isL a && (isL b && true)) = true
              rw [good.1, good.2]
              rfl
            · rw [s2, z.2, List.map_append]
              rfl
          · refine i_t (decide_eq_true (by
              rw [Classical.not_and_iff_not_or_not] at good
              rcases good with g1 | g1
              · rw [fnd_neg.mpr (Bool.eq_false_iff.mpr g1)]
                exact .head _
              · rw [fnd_neg.mpr (Bool.eq_false_iff.mpr g1)]
                exact .tail _ (.head _))) ?_
            refine qe ?_ _ (sB.trans h2.ex)
            rw [Classical.not_and_iff_not_or_not] at good
            rcases good with g1 | g1
            · exact okl_no (List.mem_of_getElem? ha) (Bool.eq_false_iff.mpr g1)
            · exact okl_no (List.mem_of_getElem? hb) (Bool.eq_false_iff.mpr g1)
      · rintro σ' L' B' H' ⟨w2, w3, rfl, sB, ho, rfl⟩ h
        rw [List.take_of_length_le (by omega)] at ho h
        walk_at "go"
        exact (h.rl (.head _) (fun p H2 hp e hn => q ho p H2 (none_back sB hp) (sB.trans e) hn))
  | _ =>
    walk_at "go"
    exact qe rfl _ hs.ex
end L2.BR

namespace L2.BR
open PySem PySem.Spec PyProof.Rows L2.BP
variable {K : PySem.W.Frag} {W : WX} {vs : List V} {H : Hp} {Q : VK} {E : XK}
structure KExc29 (K : PySem.W.Frag) : Prop where
  r : ExcC K (He.ga K "BadRow")
  rp : PySem.W.exmOne K (.ref (He.ga K "BadRow")) (.ref (He.ga K "PressError")) = some true
  rr : PySem.W.kitOne K (.ref (He.ga K "BadRow")) (.ref (He.ga K "BadRow")) = some true
  rl : PySem.W.kitOne K (.ref (He.ga K "BadRow")) (.ref (He.ga K "BadLetters")) = some false
  rv : PySem.W.kitOne K (.ref (He.ga K "BadRow")) (.type "ValueError") = some true
  l : ExcC K (He.ga K "BadLetters")
  lp : PySem.W.exmOne K (.ref (He.ga K "BadLetters")) (.ref (He.ga K "PressError")) = some true
  lr : PySem.W.kitOne K (.ref (He.ga K "BadLetters")) (.ref (He.ga K "BadRow")) = some false
  ll : PySem.W.kitOne K (.ref (He.ga K "BadLetters")) (.ref (He.ga K "BadLetters")) = some true
  lv : PySem.W.kitOne K (.ref (He.ga K "BadLetters")) (.type "ValueError") = some true
theorem bytes_snoc {ns : List Int} {n : Int} (h : Bytes ns) (hn : 0 ≤ n ∧ n ≤ 255) : Bytes (ns ++ [n]) := by
  intro x hx
  rcases List.mem_append.mp hx with z | z
  · exact h x z
  · rw [List.mem_singleton.mp z]
    exact hn
def sp__law_mixed (K : PySem.W.Frag) : Sp := fun vs H Q _ => ∃ c k : Int, vs = [.int c, .int k] ∧ 0 ≤ k ∧ k ≤ 100000 ∧ ∀ m : Int, 0 ≤ m → Q (.int m) H
theorem len__law_mixed (h : sp__law_mixed K vs H Q E) : vs.length = 2 := by
  obtain ⟨c, k, rfl, _⟩ := h
  rfl
def t__law_mixed (K : PySem.W.Frag) (W : WX) : TS :=
  (tRet (tOp rModU (tOp rMulU (tOp rModU (tOp rMulU (tOp rAddU (tOp rAddU (tVar 0) (tOp rMulU (tOp rMulU (tC (.int 7919)) (tVar 1)) (tVar 1))) (tOp rMulU (tC (.int 104729)) (tVar 1))) (tC (.int 48271))) (tC (.int 2147483647))) (tC (.int 69621))) (tC (.int 2147483629))))
theorem rd__law_mixed (h : sp__law_mixed K vs H Q E) : t__law_mixed K W { nx := fun _ H' => Q .non H', rt := Q } (start ["_law_cell", "_law_k"] vs) H := by
  obtain ⟨c, k, rfl, h0, h1, q⟩ := h
  have hs := Hs.start H
  have hk : k * k ≤ 100000 * 100000 := Int.mul_le_mul h1 h1 h0 (by decide)
  unfold t__law_mixed
  walk_at "go"
  exact q _ (Int.emod_nonneg _ (by decide))
def sp__law_is_number (K : PySem.W.Frag) : Sp := fun vs H Q _ => ∃ i : Int, vs = [.int i] ∧ Q (.bl true) H
theorem len__law_is_number (h : sp__law_is_number K vs H Q E) : vs.length = 1 := by
  obtain ⟨i, rfl, _⟩ := h
  rfl
def t__law_is_number (K : PySem.W.Frag) (W : WX) : TS :=
  (tRet ((tAndV (tCB (rIsi K) (tCons (tVar 0) (tCons (tC (.ty "int")) tNil))) (tNotV (tCB (rIsi K) (tCons (tVar 0) (tCons (tC (.ty "bool")) tNil)))))))
theorem rd__law_is_number (h : sp__law_is_number K vs H Q E) : t__law_is_number K W { nx := fun _ H' => Q .non H', rt := Q } (start ["_law_thing"] vs) H := by
  obtain ⟨i, rfl, q⟩ := h
  unfold t__law_is_number
  walk_at "go"
  exact q
def sp__law_letters (K : PySem.W.Frag) : Sp := fun vs H Q _ => ∃ (a : Addr) (ns : List Int), vs = [.ref a] ∧ SqL K H a (ns.map V.int) ∧ Bytes ns ∧ ns.length ≤ 1000 ∧ RetV H Q (.str (chS (lett ns)))
theorem len__law_letters (h : sp__law_letters K vs H Q E) : vs.length = 1 := by
  obtain ⟨a, ns, rfl, _⟩ := h
  rfl
theorem sum_two : ∀ l : List Int, ((l.map fun n => chS [97 + (n / 16).toNat, 97 + (n % 16).toNat]).map (·.length)).sum = 2 * l.length
  | [] => rfl
  | x :: r => by
    rw [List.map_cons, List.map_cons, List.sum_cons, sum_two r, chS_len]
    show 2 + 2 * r.length = 2 * (r.length + 1)
    omega
theorem lett_flat : ∀ l : List Int, (l.map fun n => [97 + (n / 16).toNat, 97 + (n % 16).toNat]).flatten = lett l
  | [] => rfl
  | x :: r => by
    rw [List.map_cons, List.flatten_cons, lett_flat r]
    rfl
def t__law_letters (K : PySem.W.Frag) (W : WX) : TS :=
  (tRet (tM1 (rJoinK K) (tC (.str "")) (tLc (iList K (tVar 0)) (gName 1) tYes (tOp rAddU (tOp (rIx K) (tC (.str "abcdefghijklmnop")) (tOp rDivU (tVar 1) (tC (.int 16)))) (tOp (rIx K) (tC (.str "abcdefghijklmnop")) (tOp rModU (tVar 1) (tC (.int 16))))) [1])))
theorem rd__law_letters (h : sp__law_letters K vs H Q E) : t__law_letters K W { nx := fun _ H' => Q .non H', rt := Q } (start ["_law_row", "_law_number"] vs) H := by
  obtain ⟨a, ns, rfl, hS, hb, hl, q⟩ := h
  have hs := Hs.start H
  unfold t__law_letters
  walk_at "go"
  refine c_m1 ?_
  walk_at "go"
  refine c_strO ?_
  walk_at "go"
  refine c_lcL V.int ns (fun pre acc B' => acc = (pre.map fun n => chS [97 + (n / 16).toNat, 97 + (n % 16).toNat]).map V.str ∧ B' = H) hs ⟨rfl, rfl⟩ (fun B' H' e h => h.bl (e.seq hS)) ?_ ?_
  · rintro pre n post acc B' D H' e ⟨rfl, rfl⟩ e2 h
    have hnb := hb n (by rw [e]; simp)
    have hpl : pre.length ≤ 1000 := by rw [e, List.length_append] at hl; omega
    have e1 : n / 16 = (((n / 16).toNat : Nat) : Int) := by omega
    have e2' : n % 16 = (((n % 16).toNat : Nat) : Int) := by omega
    walk_at "go"
    refine ⟨rfl, ?_⟩
    walk_at "go"
    refine c_ixS (by decide) (by rw [e1]; exact letter_at _ (by omega)) ?_
    walk_at "go"
    refine c_ixS (by decide) (by rw [e2']; exact letter_at _ (by omega)) ?_
    refine c_addS (by show 1 + 1 ≤ _; decide) ?_
    refine c_item h (small5 (by rw [List.length_map, List.length_map]; omega)) e2 ⟨?_, rfl⟩
    rw [List.map_append, List.map_append]
    rfl
  · rintro acc B' D H' ⟨rfl, rfl⟩ e2 h
    walk_at "go"
    refine c_join (h.sql (.head _)) ?_ ?_
    · rw [sum_two, show ("" : Str).length = 0 by decide, Nat.mul_zero, Nat.add_zero]
      exact Nat.le_trans (Nat.mul_le_mul_left 2 hl) (by decide)
    · have e : ns.map (fun n => chS [97 + (n / 16).toNat, 97 + (n % 16).toNat]) = (ns.map fun n => [97 + (n / 16).toNat, 97 + (n % 16).toNat]).map chS := by rw [List.map_map]; rfl
      rw [e, chS_join, lett_flat]
      exact q H' h.ex
def sp__law_word (K : PySem.W.Frag) : Sp := fun vs H Q _ => ∃ (way : Int) (v : V) (g : Tg), vs = [.int way, v] ∧ Th K H v g ∧
  ((way = 0 ∧ Tg.ok K H g ∧ Tg.isRow g = false ∧ (∀ ns : List Int, g = .lst (ns.map V.int) → ns.length ≤ 1000) ∧ RetV H Q (.str "row")) ∨
   (way = 1 ∧ (∀ l : List Nat, g = .str (chS l) → (∀ c ∈ l, c < 128) ∧ l.length ≤ 1000) ∧ Tg.okl g = false ∧ RetV H Q (.str "letters")))
theorem len__law_word (h : sp__law_word K vs H Q E) : vs.length = 2 := by
  obtain ⟨way, v, g, rfl, _⟩ := h
  rfl
def t__law_word (K : PySem.W.Frag) (W : WX) : TS :=
  (tSeq (tTryAs K (.ref (He.ga K "PressError")) 2 (fun W => (tIfS (tTest (tOp (rEqU K) (tVar 0) (tC (.int 0)))) (tDrop (tCl (sp_lettered K) [] W (tCons (tVar 1) tNil))) (tDrop (tCl (sp_row_in K) [] W (tCons (tVar 1) tNil)))))
    (fun a cls d => (tSeq (tIfS ((tOr (tNot (tB (tCB (rIsX K a cls d) (tCons (tVar 2) (tCons (tC (.ty "ValueError")) tNil))))) (tTest (tOp (rEqU K) (tCB (rIsX K a cls d) (tCons (tVar 2) (tCons (tC (.ref (He.ga K "BadRow"))) tNil))) (tCB (rIsX K a cls d) (tCons (tVar 2) (tCons (tC (.ref (He.ga K "BadLetters"))) tNil))))))) (tRet (tC (.str "other"))) tNext)
    (tRet (tOp (rIx K) (tLst (tCons (tC (.str "row")) (tCons (tC (.str "letters")) tNil))) (tCB (rIntK) (tCons (tCB (rIsX K a cls d) (tCons (tVar 2) (tCons (tC (.ref (He.ga K "BadLetters"))) tNil))) tNil)))))) W)
    (tRet (tC (.str "told"))))
theorem rd__law_word (kExc29 : KExc29 K) (h : sp__law_word K vs H Q E) : t__law_word K (fun c d _ H2 => E c d H2) { nx := fun _ H' => Q .non H', rt := Q } (start ["_law_way", "_law_thing", "e"] vs) H := by
  obtain ⟨way, v, g, rfl, hT, h⟩ := h
  obtain ⟨r, rp, rr, rl, rv, l, lp, lr, ll, lv⟩ := kExc29
  have hs := Hs.start H
  unfold t__law_word
  walk_at "go"
  refine w_tryAs ?_
  rcases h with ⟨rfl, hok, hrow, hsm, q⟩ | ⟨rfl, hch, hbad, q⟩
  · walk_at "go"
    refine ⟨v, g, rfl, hT, hok, fun ns e => ⟨hsm ns e, fun hb => ?_⟩, fun _ H1 e1 => ?_⟩
    · rw [e, show Tg.isRow (.lst (ns.map V.int)) = true from all_byteV hb] at hrow
      cases hrow
    · refine c_wAs rp fun a ha => ?_
      have h1 := Hs.start H1
      walk_at "go"
      refine c_isXv r rv ?_
      walk_at "go"
      refine c_isXc r rr ?_
      walk_at "go"
      refine c_isXc r rl ?_
      walk_at "go"
      refine c_isXc r rl ?_
      walk_at "go"
      rename_i H5 h5
      exact q _ (e1.trans h5.ex)
  · walk_at "go"
    refine ⟨v, g, rfl, hT, fun l e => ⟨(hch l e).1, (hch l e).2, fun hb => ?_⟩, fun _ H1 e1 => ?_⟩
    · rw [e, show Tg.okl (.str (chS l)) = okl (chS l).cps.toList from rfl, chS_cps, hb] at hbad
      cases hbad
    · refine c_wAs lp fun a ha => ?_
      have h1 := Hs.start H1
      walk_at "go"
      refine c_isXv l lv ?_
      walk_at "go"
      refine c_isXc l lr ?_
      walk_at "go"
      refine c_isXc l ll ?_
      walk_at "go"
      refine c_isXc l ll ?_
      walk_at "go"
      rename_i H5 h5
      exact q _ (e1.trans h5.ex)
theorem sign_at : ∀ m : Fin 10, atI ("qAPz 0-\n_{" : Str).cps.toList ((m.val : Nat) : Int) = some (("qAPz 0-\n_{" : Str).cps.toList.getD m.val 0) ∧ ("qAPz 0-\n_{" : Str).cps.toList.getD m.val 0 < 128 ∧ isL (("qAPz 0-\n_{" : Str).cps.toList.getD m.val 0) = false := by decide +kernel
theorem chS_inj {a b : List Nat} (h : chS a = chS b) : a = b := by
  have z := congrArg (fun x : Str => x.cps.toList) h
  simpa [chS] using z
theorem bent_done {L : List Nat} (h1 : ∀ c ∈ L, c < 128) (h2 : L.length ≤ 1000) (h3 : okl L = false) : (∀ l : List Nat, Tg.str (chS L) = .str (chS l) → (∀ c ∈ l, c < 128) ∧ l.length ≤ 1000) ∧ Tg.okl (.str (chS L)) = false := by
  refine ⟨fun l e => ?_, ?_⟩
  · rw [← chS_inj (Tg.str.inj e)]
    exact ⟨h1, h2⟩
  · show okl (chS L).cps.toList = false
    rw [chS_cps]
    exact h3
def sp__law_bent (K : PySem.W.Frag) : Sp := fun vs H Q _ => ∃ (l : List Nat) (cell : Int), vs = [.str (chS l), .int cell] ∧ okl l = true ∧ l.length ≤ 200 ∧
  ∀ v g H', Same H H' → Th K H' v g → (∀ l : List Nat, g = .str (chS l) → (∀ c ∈ l, c < 128) ∧ l.length ≤ 1000) → Tg.okl g = false → Q v H'
theorem len__law_bent (h : sp__law_bent K vs H Q E) : vs.length = 2 := by
  obtain ⟨l, cell, rfl, _⟩ := h
  rfl
def t__law_bent (K : PySem.W.Frag) (W : WX) : TS :=
  (tSeq (tAsg (tOp rModU (tOp rDivU (tVar 1) (tC (.int 8))) (tOp rAddU (tCB (rLenK K) (tCons (tVar 0) tNil)) (tC (.int 1)))) (gName 2))
    (tSeq (tAsg (tOp (rIx K) (tC (.str "qAPz 0-\n_{")) (tOp rModU (tOp rDivU (tVar 1) (tC (.int 800))) (tC (.int 10)))) (gName 3))
    (tSeq (tIfS (tTest (tOp rLtU (tOp rModU (tVar 1) (tC (.int 8))) (tC (.int 3)))) (tRet (tOp rAddU (tOp rAddU (tOp rAddU (tSl (rSlK K) (tVar 0) tNoPart (tPart (tVar 2))) (tVar 3)) (tSl (rSlK K) (tVar 0) (tPart (tVar 2)) tNoPart)) (tC (.str "a")))) tNext)
    (tSeq (tIfS (tTest (tOp (rEqU K) (tOp rModU (tVar 1) (tC (.int 8))) (tC (.int 3)))) (tRet (tOp rAddU (tOp rAddU (tSl (rSlK K) (tVar 0) tNoPart (tPart (tVar 2))) (tC (.str "c"))) (tSl (rSlK K) (tVar 0) (tPart (tVar 2)) tNoPart))) tNext)
    (tSeq (tIfS (tTest (tOp (rEqU K) (tOp rModU (tVar 1) (tC (.int 8))) (tC (.int 4)))) (tRet (tOp rAddU (tVar 0) (tC (.str "a")))) tNext)
    (tSeq (tIfS (tTest (tOp (rEqU K) (tOp rModU (tVar 1) (tC (.int 8))) (tC (.int 5)))) (tRet (tM0 rUpperK (tOp rAddU (tVar 0) (tC (.str "aa"))))) tNext)
    (tRet (tOp (rIx K) (tLst (tCons (tC .non) (tCons (tC (.int 5)) (tCons (tLst (tCons (tC (.str "aa")) tNil)) (tCons (tTup (tCons (tC (.str "a")) (tCons (tC (.str "b")) tNil))) (tCons (tDNewK) (tCons (tC (.bl true)) tNil))))))) (tOp rModU (tOp rDivU (tVar 1) (tC (.int 8))) (tC (.int 6)))))))))))
theorem rd__law_bent (h : sp__law_bent K vs H Q E) : t__law_bent K W { nx := fun _ H' => Q .non H', rt := Q } (start ["_law_letters_here", "_law_cell", "_law_at", "_law_sign"] vs) H := by
  obtain ⟨l, cell, rfl, hk, hl, q⟩ := h
  have hs := Hs.start H
  have hall := okl_all l hk
  have hev := okl_even l hk
  have hlt : ∀ c ∈ l, c < 128 := fun c hc => isL_lt (hall c hc)
  unfold t__law_bent
  walk_at "go"
  refine c_lenS (small6' (by rw [chS_len]; omega)) ?_
  rw [chS_len]
  walk_at "go"
  obtain ⟨m, hm, hml⟩ : ∃ m : Nat, cell / 8 % ((l.length : Int) + 1) = ((m : Nat) : Int) ∧ m ≤ l.length := by
    have a1 := Int.emod_nonneg (cell / 8) (by omega : ((l.length : Int) + 1) ≠ 0)
    have a2 := Int.emod_lt_of_pos (cell / 8) (by omega : (0 : Int) < (l.length : Int) + 1)
    exact ⟨(cell / 8 % ((l.length : Int) + 1)).toNat, by omega, by omega⟩
  obtain ⟨n, hn, hnl⟩ : ∃ n : Nat, cell / 800 % 10 = ((n : Nat) : Int) ∧ n < 10 := ⟨(cell / 800 % 10).toNat, by omega, by omega⟩
  obtain ⟨s1, s2, s3⟩ := sign_at ⟨n, hnl⟩
  rw [hm, hn]
  refine c_ixS (by decide) s1 ?_
  generalize ("qAPz 0-\n_{" : Str).cps.toList.getD n 0 = c at *
  rw [show (⟨#[c]⟩ : Str) = chS [c] from rfl]
  walk_at "go"
  have fin : ∀ L H', Same H H' → (∀ c ∈ L, c < 128) → L.length ≤ 1000 → okl L = false → Q (.str (chS L)) H' := fun L H' e h1 h2 h3 => q _ _ H' e (.str _) (bent_done h1 h2 h3).1 (bent_done h1 h2 h3).2
  have ltk : ∀ c ∈ l.take m, c < 128 := fun c hc => hlt c (List.mem_of_mem_take hc)
  have ldr : ∀ c ∈ l.drop m, c < 128 := fun c hc => hlt c (List.mem_of_mem_drop hc)
  have ll1 : (l.take m).length = m := by rw [List.length_take]; omega
  have ll2 : (l.drop m).length = l.length - m := List.length_drop
  by_cases c1 : cell % 8 < 3
  · refine i_t (decide_eq_true c1) ?_
    walk_at "go"
    refine c_slS (small6' (by rw [chS_len]; omega)) ?_
    rw [chS_cut0 _ rfl hml]
    walk_at "go"
    refine c_addS (small6' (by rw [chS_len, chS_len, ll1, List.length_singleton]; omega)) ?_
    rw [chS_app]
    walk_at "go"
    refine c_slS (small6' (by rw [chS_len]; omega)) ?_
    rw [chS_cut1 _ rfl hml]
    refine c_addS (small6' (by rw [chS_len, chS_len, List.length_append, ll1, ll2, List.length_singleton]; omega)) ?_
    rw [chS_app]
    walk_at "go"
    refine c_addS (small6' (by rw [chS_len, List.length_append, List.length_append, ll1, ll2, List.length_singleton]; show m + 1 + (l.length - m) + 1 ≤ _; omega)) ?_
    rw [show ("a" : Str) = chS [97] by decide +kernel, chS_app]
    refine fin _ _ hs.ex (fun x hx => ?_) (by simp only [List.length_append, ll1, ll2, List.length_singleton]; omega) (okl_no (c := c) (by simp) s3)
    simp only [List.mem_append, List.mem_singleton] at hx
    rcases hx with ((hx | hx) | hx) | hx
    · exact ltk x hx
    · rw [hx]; exact s2
    · exact ldr x hx
    · rw [hx]; decide
  refine i_f (decide_eq_false c1) ?_
  walk_at "go"
  by_cases c2 : cell % 8 = 3
  · refine i_t (decide_eq_true c2) ?_
    walk_at "go"
    refine c_slS (small6' (by rw [chS_len]; omega)) ?_
    rw [chS_cut0 _ rfl hml]
    walk_at "go"
    refine c_addS (small6' (by rw [chS_len, ll1]; show m + 1 ≤ _; omega)) ?_
    rw [show ("c" : Str) = chS [99] by decide +kernel, chS_app]
    walk_at "go"
    refine c_slS (small6' (by rw [chS_len]; omega)) ?_
    rw [chS_cut1 _ rfl hml]
    refine c_addS (small6' (by rw [chS_len, chS_len, List.length_append, ll1, ll2, List.length_singleton]; omega)) ?_
    rw [chS_app]
    refine fin _ _ hs.ex (fun x hx => ?_) (by simp only [List.length_append, ll1, ll2, List.length_singleton]; omega) (okl_odd (by simp only [List.length_append, ll1, ll2, List.length_singleton]; omega))
    simp only [List.mem_append, List.mem_singleton] at hx
    rcases hx with (hx | hx) | hx
    · exact ltk x hx
    · rw [hx]; decide
    · exact ldr x hx
  refine i_f (decide_eq_false c2) ?_
  walk_at "go"
  by_cases c3 : cell % 8 = 4
  · refine i_t (decide_eq_true c3) ?_
    walk_at "go"
    refine c_addS (small6' (by rw [chS_len]; show l.length + 1 ≤ _; omega)) ?_
    rw [show ("a" : Str) = chS [97] by decide +kernel, chS_app]
    refine fin _ _ hs.ex (fun x hx => ?_) (by simp only [List.length_append, List.length_singleton]; omega) (okl_odd (by simp only [List.length_append, List.length_singleton]; omega))
    simp only [List.mem_append, List.mem_singleton] at hx
    rcases hx with hx | hx
    · exact hlt x hx
    · rw [hx]; decide
  refine i_f (decide_eq_false c3) ?_
  walk_at "go"
  by_cases c4 : cell % 8 = 5
  · refine i_t (decide_eq_true c4) ?_
    walk_at "go"
    refine c_m0 ?_
    walk_at "go"
    refine c_addS (small6' (by rw [chS_len]; show l.length + 2 ≤ _; omega)) ?_
    rw [show ("aa" : Str) = chS [97, 97] by decide +kernel, chS_app]
    refine c_strO ?_
    have hup : ∀ c ∈ l ++ [97, 97], isL c = true := by
      intro c hc
      rcases List.mem_append.mp hc with z | z
      · exact hall c z
      · have e : c = 97 := by simpa using z
        rw [e]
        decide
    refine c_upper (by rw [chS_len, List.length_append]; show l.length + 2 ≤ _; omega) ?_
    rw [upper_ch hup]
    refine fin _ _ hs.ex (fun x hx => ?_) (by rw [List.length_map, List.length_append]; show l.length + 2 ≤ _; omega) (okl_no (c := 65) (by simp) (by decide))
    obtain ⟨y, hy, rfl⟩ := List.mem_map.mp hx
    have := isL_lt (hup y hy)
    omega
  refine i_f (decide_eq_false c4) ?_
  walk_at "go"
  rename_i p1 H1 h1 p2 H2 h2
  refine c_dnewK h2 fun p3 H3 h3 => ?_
  walk_at "go"
  rename_i p4 H4 h4
  obtain ⟨k, hk6, hkl⟩ : ∃ k : Nat, cell / 8 % 6 = ((k : Nat) : Int) ∧ k < 6 := ⟨(cell / 8 % 6).toNat, by omega, by omega⟩
  rw [hk6]
  have nostr : ∀ (g : Tg), (∀ x, g ≠ .str x) → (∀ l : List Nat, g = .str (chS l) → (∀ c ∈ l, c < 128) ∧ l.length ≤ 1000) := fun g h l e => absurd e (h _)
  rcases (by omega : k = 0 ∨ k = 1 ∨ k = 2 ∨ k = 3 ∨ k = 4 ∨ k = 5) with rfl | rfl | rfl | rfl | rfl | rfl
  · exact c_ixL (h4.sql (.head _)) (v := .non) rfl (q _ _ _ h4.ex .non (nostr _ fun _ z => nomatch z) rfl)
  · exact c_ixL (h4.sql (.head _)) (v := .int 5) rfl (q _ _ _ h4.ex (.int 5) (nostr _ fun _ z => nomatch z) rfl)
  · exact c_ixL (h4.sql (.head _)) (v := .ref p1) rfl (q _ _ _ h4.ex (.lst (h4.sql (.tail _ (.tail _ (.tail _ (.head _)))))) (nostr _ fun _ z => nomatch z) rfl)
  · exact c_ixL (h4.sql (.head _)) (v := .ref p2) rfl (q _ _ _ h4.ex (.tup (h4.sqt (.tail _ (.tail _ (.head _))))) (nostr _ fun _ z => nomatch z) rfl)
  · exact c_ixL (h4.sql (.head _)) (v := .ref p3) rfl (q _ _ _ h4.ex (.dic (h4.get (.tail _ (.head _)))) (nostr _ fun _ z => nomatch z) rfl)
  · exact c_ixL (h4.sql (.head _)) (v := .bl true) rfl (q _ _ _ h4.ex (.bl true) (nostr _ fun _ z => nomatch z) rfl)
def sp_law (K : PySem.W.Frag) : Sp := fun vs H Q _ => ∃ (a : Addr) (ns : List Int), vs = [.ref a] ∧ SqL K H a (ns.map V.int) ∧ ns.length ≤ 63 ∧ ∀ H', Q (.bl true) H'
theorem len_law (h : sp_law K vs H Q E) : vs.length = 1 := by
  obtain ⟨a, ns, rfl, _⟩ := h
  rfl
def t_law (K : PySem.W.Frag) (W : WX) : TS :=
  (tSeq (tAsg (tLst tNil) (gName 1))
    (tSeq (tFor (iRng1 (tCons (tOp rModU (tCl (sp__law_cell_at K) [] W (tCons (tVar 0) (tCons (tC (.int 0)) tNil))) (tC (.int 41))) tNil)) (gName 2) (tSeq (tAsg (tCl (sp__law_mixed K) [] W (tCons (tCl (sp__law_cell_at K) [] W (tCons (tVar 0) (tCons (tOp rAddU (tC (.int 2)) (tOp rModU (tVar 2) (tC (.int 20)))) tNil))) (tCons (tVar 2) tNil))) (gName 3))
    (tDrop (tBM K "list" rAppend (tVar 1) (tCons (tOp (rIx K) (tLst (tCons (tC (.int 0)) (tCons (tC (.int 255)) (tCons (tC (.int 15)) (tCons (tC (.int 16)) (tCons (tC (.int 240)) (tCons (tOp rModU (tOp rDivU (tVar 3) (tC (.int 8))) (tC (.int 256))) (tCons (tOp rModU (tOp rDivU (tVar 3) (tC (.int 8))) (tC (.int 256))) (tCons (tOp rModU (tOp rDivU (tVar 3) (tC (.int 8))) (tC (.int 256))) tNil))))))))) (tOp rModU (tVar 3) (tC (.int 8)))) tNil)))))
    (tSeq (tAsg (tCB (rListK K) (tCons (tVar 1) tNil)) (gName 4))
    (tSeq (tAsg (tCl (sp_lettered K) [] W (tCons (tVar 4) tNil)) (gName 5))
    (tSeq (tIfS ((tOr (tNot (tB (tCB (rIsi K) (tCons (tVar 5) (tCons (tC (.ty "str")) tNil))))) (tOr (tTest (tOp (rNeU K) (tVar 5) (tCl (sp__law_letters K) [] W (tCons (tVar 1) tNil)))) (tTest (tOp (rNeU K) (tVar 4) (tVar 1)))))) (tRet (tC (.bl false))) tNext)
    (tSeq (tAsg (tCl (sp_row_in K) [] W (tCons (tVar 5) tNil)) (gName 6))
    (tSeq (tIfS ((tOr (tNot (tB (tCB (rIsi K) (tCons (tVar 6) (tCons (tC (.ty "list")) tNil))))) (tOr (tTest (tOp (rNeU K) (tVar 6) (tVar 1))) (tNot (tB (tCB (rAll K) (tCons (tLc (iList K (tVar 6)) (gName 3) tYes (tCl (sp__law_is_number K) [] WF (tCons (tVar 3) tNil)) [3]) tNil))))))) (tRet (tC (.bl false))) tNext)
    (tSeq (tDrop (tBM K "list" rAppend (tVar 6) (tCons (tC (.int 0)) tNil)))
    (tSeq (tIfS ((tOr (tTest (tOp (rNeU K) (tCl (sp_row_in K) [] W (tCons (tVar 5) tNil)) (tVar 1))) (tTest (tOp (rNeU K) (tCl (sp_lettered K) [] W (tCons (tCl (sp_row_in K) [] W (tCons (tOp rAddU (tC (.str "pa")) (tVar 5)) tNil)) tNil)) (tOp rAddU (tC (.str "pa")) (tVar 5)))))) (tRet (tC (.bl false))) tNext)
    (tSeq (tAsg (tCl (sp__law_cell_at K) [] W (tCons (tVar 0) (tCons (tC (.int 1)) tNil))) (gName 7))
    (tSeq (tIfS (tTest (tOp (rNeU K) (tCl (sp__law_word K) [] W (tCons (tC (.int 1)) (tCons (tCl (sp__law_bent K) [] W (tCons (tVar 5) (tCons (tVar 7) tNil))) tNil))) (tC (.str "letters")))) (tRet (tC (.bl false))) tNext)
    (tSeq (tAsg (tOp (rIx K) (tLst (tCons (tOp rAddU (tVar 1) (tLst (tCons (tC (.int 256)) tNil))) (tCons (tOp rAddU (tVar 1) (tLst (tCons (tUn rNegU (tC (.int 1))) tNil))) (tCons (tLst (tCons (tC (.bl true)) tNil)) (tCons (tC .non) (tCons (tC (.str "aa")) (tCons (tCB (rTupleK K) (tCons (tVar 1) tNil)) (tCons (tDNewK) (tCons (tC (.int 5)) (tCons (tLst (tCons (tC .non) tNil)) (tCons (tLst (tCons (tLst (tCons (tC (.int 0)) tNil)) tNil)) tNil))))))))))) (tOp rModU (tOp rDivU (tVar 7) (tC (.int 5))) (tC (.int 10)))) (gName 8))
    (tRet ((tAndV (tOp (rEqU K) (tCl (sp__law_word K) [] W (tCons (tC (.int 0)) (tCons (tVar 8) tNil))) (tC (.str "row"))) (tAndV (tOp (rEqU K) (tCl (sp_lettered K) [] W (tCons (tVar 4) tNil)) (tVar 5)) (tOp (rEqU K) (tVar 4) (tVar 1))))))))))))))))))
theorem rd_law (h : sp_law K vs H Q E) : t_law K (fun c d _ H2 => E c d H2) { nx := fun _ H' => Q .non H', rt := Q } (start ["_law_script", "_law_row", "_law_k", "_law_number", "_law_handed", "_law_letters_here", "_law_found", "_law_cell", "_law_odd"] vs) H := by
  obtain ⟨a, ns, rfl, hS, hl, q⟩ := h
  have hs := Hs.start H
  unfold t_law
  walk_at "go"
  rename_i f H1 h1
  refine ⟨a, ns, 0, rfl, h1.bl hS, by decide, ?_⟩
  obtain ⟨z, hz, hz40⟩ : ∃ z : Nat, cellAt ns 0 % 41 = ((z : Nat) : Int) ∧ z ≤ 40 := ⟨(cellAt ns 0 % 41).toNat, by omega, by omega⟩
  walk_at "go"
  rw [hz]
  refine ⟨_, rfl, by omega, by omega, ?_⟩
  rw [Int.toNat_natCast]
  refine w_forR (fun i σ' L' B' => ∃ (row : List Int) (w2 w3 : Option V), Bytes row ∧ row.length = i ∧ σ' = [some (.ref a), some (.ref f), w2, w3, none, none, none, none, none] ∧ B' = H ∧ L' = [(f, .lst (row.map V.int))]) h1 ⟨[], none, none, (fun _ h => nomatch h), rfl, rfl, rfl, rfl⟩ ?_ ?_
  · rintro i σ' L' B' H' hi ⟨row, w2, w3, hb, hrl, rfl, rfl, rfl⟩ h
    clear h1
    walk_at "go"
    refine ⟨a, ns, _, rfl, h.bl hS, by omega, ?_⟩
    walk_at "go"
    refine ⟨_, _, rfl, by omega, by omega, fun m hm => ?_⟩
    walk_at "go"
    rename_i p H2 h2
    obtain ⟨x, hx, hx0, hx1⟩ : ∃ x : Int, atI [V.int 0, V.int 255, V.int 15, V.int 16, V.int 240, V.int (m / 8 % 256), V.int (m / 8 % 256), V.int (m / 8 % 256)] (m % 8) = some (.int x) ∧ 0 ≤ x ∧ x ≤ 255 := by
      obtain ⟨k, hk, hkl⟩ : ∃ k : Nat, m % 8 = ((k : Nat) : Int) ∧ k < 8 := ⟨(m % 8).toNat, by omega, by omega⟩
      rw [hk]
      rcases (by omega : k = 0 ∨ k = 1 ∨ k = 2 ∨ k = 3 ∨ k = 4 ∨ k = 5 ∨ k = 6 ∨ k = 7) with rfl | rfl | rfl | rfl | rfl | rfl | rfl | rfl
      · exact ⟨_, rfl, by decide, by decide⟩
      · exact ⟨_, rfl, by decide, by decide⟩
      · exact ⟨_, rfl, by decide, by decide⟩
      · exact ⟨_, rfl, by decide, by decide⟩
      · exact ⟨_, rfl, by decide, by decide⟩
      · exact ⟨_, rfl, by omega, by omega⟩
      · exact ⟨_, rfl, by omega, by omega⟩
      · exact ⟨_, rfl, by omega, by omega⟩
    refine c_ixL (h2.sql (.head _)) hx ?_
    walk_at "go"
    refine c_app1 h2 (small6 (by rw [List.length_map]; omega)) fun H3 h3 => ?_
    refine ⟨_, _, ⟨row ++ [x], _, _, bytes_snoc hb ⟨hx0, hx1⟩, by rw [List.length_append, List.length_singleton]; omega, rfl, rfl, ?_⟩, h3.drop⟩
    rw [List.map_append]
    rfl
  rintro σ' L' B' H' ⟨row, w2, w3, hb, hrl, rfl, rfl, rfl⟩ h
  obtain ⟨k1, k2, k3⟩ := lett_ok hb
  have hll := lett_len row
  clear h1 hs
  have inj : ∀ ns' : List Int, Tg.lst (row.map V.int) = .lst (ns'.map V.int) → ns' = row := fun ns' e => (map_int_inj (Tg.lst.inj e)).symm
  have nrow : Tg.isRow (.lst (row.map V.int)) = false → False := fun z => by
    rw [show Tg.isRow (.lst (row.map V.int)) = true from all_byteV hb] at z
    cases z
  have nok : ∀ l, okl l = true → Tg.okl (.str (chS l)) = false → False := fun l h z => by
    rw [show Tg.okl (.str (chS l)) = okl (chS l).cps.toList from rfl, chS_cps, h] at z
    cases z
  walk_at "go"
  rename_i hd H2 h2
  refine ⟨_, _, rfl, .lst (h2.sql (.head _)), ok_ints (by omega), fun ns' e => ⟨by rw [inj ns' e]; omega, fun _ => retV h2 fun H3 h3 => ?_⟩, fun z => (nrow z).elim⟩
  rw [inj ns' e]
  clear h h2
  walk_at "go"
  refine ⟨f, row, rfl, h3.sql (.tail _ (.head _)), hb, by omega, retV h3 fun H4 h4 => ?_⟩
  clear h3
  walk_at "go"
  try rw [decide_eq_true rfl]
  try walk_at "go"
  try rw [decide_eq_true rfl]
  try walk_at "go"
  refine ⟨_, _, rfl, .str _, fun l e => ⟨fun c hc => isL_lt (k3 c (by rw [chS_inj (Tg.str.inj e)]; exact hc)), by rw [← chS_inj (Tg.str.inj e)]; omega, fun _ => ?_⟩, fun z => (nok _ k1 z).elim⟩
  rw [← chS_inj (Tg.str.inj e), k2]
  refine retL h4 fun r H5 h5 => ?_
  clear h4
  walk_at "go"
  refine c_isi_ll (h5.sql (.head _)) ?_
  walk_at "go"
  try rw [decide_eq_true rfl]
  try walk_at "go"
  have hrr := h5.sql (K := K) (.head _)
  refine c_lcL V.int row (fun pre acc B'' => acc = (pre.map fun _ => true).map V.bl ∧ B'' = B') h5 ⟨rfl, rfl⟩ (fun B'' H' e h => h.sql (.head _)) ?_ ?_
  · rintro pre y post acc B'' D H6 e ⟨rfl, rfl⟩ e2 h6
    have hpl : pre.length ≤ 64 := by have := congrArg List.length e; rw [List.length_append] at this; omega
    walk_at "go"
    refine ⟨rfl, ?_⟩
    walk_at "go"
    refine ⟨y, rfl, ?_⟩
    refine c_item h6 (small5 (by rw [List.length_map, List.length_map]; omega)) e2 ⟨?_, rfl⟩
    rw [List.map_append, List.map_append]
    rfl
  rintro acc B'' D H6 ⟨rfl, rfl⟩ e2 h6
  walk_at "go"
  refine c_all (h6.sql (.head _)) ?_
  rw [show (row.map fun _ => true).all id = true by simp]
  walk_at "go"
  have h7 := h6.drop
  clear h5 h6 hrr
  refine c_app0 h7 (small6 (by rw [List.length_map]; omega)) fun H8 h8 => ?_
  have h9 := h8.drop
  clear h7 h8
  walk_at "go"
  refine ⟨_, _, rfl, .str _, fun l e => ⟨fun c hc => isL_lt (k3 c (by rw [chS_inj (Tg.str.inj e)]; exact hc)), by rw [← chS_inj (Tg.str.inj e)]; omega, fun _ => ?_⟩, fun z => (nok _ k1 z).elim⟩
  rw [← chS_inj (Tg.str.inj e), k2]
  refine retL h9 fun r2 H10 h10 => ?_
  clear h9
  walk_at "go"
  try rw [decide_eq_true rfl]
  try walk_at "go"
  have pa : okl ([112, 97] ++ lett row) = true := k1
  have pal : ([112, 97] ++ lett row).length = 2 + 2 * row.length := by rw [List.length_append, hll]; rfl
  have hb2 : Bytes (240 :: row) := fun n hn => by
    rcases List.mem_cons.mp hn with rfl | hn
    · exact ⟨by decide, by decide⟩
    · exact hb n hn
  have pu : unl ([112, 97] ++ lett row) = 240 :: row := by
    show (16 * fnd 112 + fnd 97) :: unl (lett row) = _
    rw [k2]
    rfl
  have pl : lett (240 :: row) = [112, 97] ++ lett row := rfl
  refine c_addS (small6' (by rw [chS_len, hll]; show 2 + 2 * row.length ≤ _; omega)) ?_
  rw [show ("pa" : Str) = chS [112, 97] by decide +kernel, chS_app]
  refine ⟨_, _, rfl, .str _, fun l e => ⟨fun c hc => isL_lt (okl_all _ pa c (by rw [chS_inj (Tg.str.inj e)]; exact hc)), by rw [← chS_inj (Tg.str.inj e), pal]; omega, fun _ => ?_⟩, fun z => (nok _ pa z).elim⟩
  rw [← chS_inj (Tg.str.inj e), pu]
  refine retL h10 fun r3 H11 h11 => ?_
  clear h10
  walk_at "go"
  refine ⟨_, _, rfl, .lst (h11.sql (.head _)), ok_ints (by rw [List.length_cons]; omega), fun ns' e => ⟨by rw [(map_int_inj (Tg.lst.inj e)).symm, List.length_cons]; omega, fun _ => retV h11 fun H12 h12 => ?_⟩, fun z => ?_⟩
  rotate_left
  · rw [show Tg.isRow (.lst ((240 :: row).map V.int)) = true from all_byteV hb2] at z
    cases z
  rw [(map_int_inj (Tg.lst.inj e)).symm, pl]
  have h13 := h12.drop.drop
  clear h11 h12
  walk_at "go"
  refine c_addS (small6' (by rw [chS_len, chS_len, hll]; show 2 + 2 * row.length ≤ _; omega)) ?_
  rw [chS_app]
  walk_at "go"
  try rw [decide_eq_true rfl]
  try walk_at "go"
  refine ⟨a, ns, 1, rfl, h13.bl hS, by decide, ?_⟩
  generalize cellAt ns 1 = cell
  walk_at "go"
  refine ⟨lett row, cell, rfl, k1, by omega, fun v g H14 e14 hT hch hbad => ?_⟩
  have h14 := h13.same e14
  clear h13
  walk_at "go"
  refine ⟨1, v, g, rfl, hT, .inr ⟨rfl, hch, hbad, retV h14 fun H15 h15 => ?_⟩⟩
  have hf0 : H15 f = some (.lst (row.map V.int)) := h15.get (.tail _ (.head _))
  have hd0 : H15 hd = some (.lst (row.map V.int)) := h15.get (.head _)
  have h16 := Hs.start H15
  have hfS : SqL K H15 f (row.map V.int) := .of hf0
  clear h14 h15 hT hch hbad e14
  walk_at "go"
  try rw [decide_eq_true rfl]
  try walk_at "go"
  rename_i p1 G1 g1
  refine c_addL g1 (g1.ex _ _ hf0) (g1.get (.head _)) (small6' (by rw [List.length_map, List.length_singleton]; omega)) fun q1 G2 g2 => ?_
  clear h16 g1
  walk_at "go"
  rename_i p2 G3 g3
  refine c_addL g3 (g3.ex _ _ hf0) (g3.get (.head _)) (small6' (by rw [List.length_map, List.length_singleton]; omega)) fun q2 G4 g4 => ?_
  clear g2 g3
  walk_at "go"
  rename_i p3 G5 g5
  refine c_tupL g5 (g5.bl hfS) fun p4 G6 g6 => ?_
  clear g4 g5
  walk_at "go"
  refine c_dnewK g6 fun p5 G7 g7 => ?_
  clear g6
  walk_at "go"
  rename_i p6 G8 g8 p7 G9 g9 p8 G10 g10 p9 G11 g11
  clear g7 g8 g9 g10
  have hdS : SqL K H15 hd (row.map V.int) := .of hd0
  have sm : ∀ {xs : List V}, xs.length ≤ 1000 → ∀ ns' : List Int, Tg.lst xs = .lst (ns'.map V.int) → ns'.length ≤ 1000 := fun {xs} h ns' e => by
    rw [Tg.lst.inj e, List.length_map] at h
    exact h
  have nl : ∀ {g : Tg}, (∀ xs, g ≠ .lst xs) → ∀ ns' : List Int, g = .lst (ns'.map V.int) → ns'.length ≤ 1000 := fun h ns' e => absurd e (h _)
  have bad : ∀ y : Int, (decide (0 ≤ y) && decide (y ≤ 255)) = false → Tg.ok K G11 (.lst (row.map V.int ++ [V.int y])) ∧ Tg.isRow (.lst (row.map V.int ++ [V.int y])) = false := by
    intro y hy
    refine ⟨?_, ?_⟩
    · rw [show row.map V.int ++ [V.int y] = (row ++ [y]).map V.int by rw [List.map_append]; rfl]
      exact ok_ints (by rw [List.length_append, List.length_singleton]; omega)
    · show (row.map V.int ++ [V.int y]).all byteV = false
      rw [List.all_append]
      show (_ && ((decide (0 ≤ y) && decide (y ≤ 255)) && true)) = false
      rw [hy]
      simp
  have main : ∃ (v : V) (g : Tg), atI [V.ref q1, V.ref q2, V.ref p3, V.non, V.str "aa", V.ref p4, V.ref p5, V.int 5, V.ref p6, V.ref p8] (cell / 5 % 10) = some v ∧ Th K G11 v g ∧ Tg.ok K G11 g ∧ Tg.isRow g = false ∧ (∀ ns' : List Int, g = .lst (ns'.map V.int) → ns'.length ≤ 1000) := by
    obtain ⟨k, hk, hkl⟩ : ∃ k : Nat, cell / 5 % 10 = ((k : Nat) : Int) ∧ k < 10 := ⟨(cell / 5 % 10).toNat, by omega, by omega⟩
    rw [hk]
    have t1 := g11.sql (K := K) (.tail _ (.head _))
    have t2 := g11.sql (K := K) (.tail _ (.tail _ (.head _)))
    have t3 := g11.sql (K := K) (.tail _ (.tail _ (.tail _ (.head _))))
    have t4 := g11.get (.tail _ (.tail _ (.tail _ (.tail _ (.head _)))))
    have t5 := g11.sqt (K := K) (.tail _ (.tail _ (.tail _ (.tail _ (.tail _ (.head _))))))
    have t6 := g11.sql (K := K) (.tail _ (.tail _ (.tail _ (.tail _ (.tail _ (.tail _ (.head _)))))))
    have t7 := g11.sql (K := K) (.tail _ (.tail _ (.tail _ (.tail _ (.tail _ (.tail _ (.tail _ (.head _))))))))
    have t9 := g11.sql (K := K) (.tail _ (.tail _ (.tail _ (.tail _ (.tail _ (.tail _ (.tail _ (.tail _ (.tail _ (.head _))))))))))
    rcases (by omega : k = 0 ∨ k = 1 ∨ k = 2 ∨ k = 3 ∨ k = 4 ∨ k = 5 ∨ k = 6 ∨ k = 7 ∨ k = 8 ∨ k = 9) with rfl | rfl | rfl | rfl | rfl | rfl | rfl | rfl | rfl | rfl
    · exact ⟨_, _, rfl, .lst t9, (bad 256 (by decide)).1, (bad 256 (by decide)).2, sm (by rw [List.length_append, List.length_map, List.length_singleton]; omega)⟩
    · exact ⟨_, _, rfl, .lst t7, (bad (-1) (by decide)).1, (bad (-1) (by decide)).2, sm (by rw [List.length_append, List.length_map, List.length_singleton]; omega)⟩
    · exact ⟨_, _, rfl, .lst t6, ⟨fun x hx => by rw [List.mem_singleton.mp hx]; exact ⟨_, .bl true⟩, by decide⟩, rfl, sm (by decide)⟩
    · exact ⟨_, _, rfl, .non, trivial, rfl, nl fun _ z => nomatch z⟩
    · exact ⟨_, _, rfl, .str _, trivial, rfl, nl fun _ z => nomatch z⟩
    · exact ⟨_, _, rfl, .tup t5, trivial, rfl, nl fun _ z => nomatch z⟩
    · exact ⟨_, _, rfl, .dic t4, trivial, rfl, nl fun _ z => nomatch z⟩
    · exact ⟨_, _, rfl, .int 5, trivial, rfl, nl fun _ z => nomatch z⟩
    · exact ⟨_, _, rfl, .lst t3, ⟨fun x hx => by rw [List.mem_singleton.mp hx]; exact ⟨_, .non⟩, by show 1 ≤ 100000; decide⟩, rfl, sm (by show 1 ≤ 1000; decide)⟩
    · exact ⟨_, _, rfl, .lst t1, ⟨fun x hx => by rw [List.mem_singleton.mp hx]; exact ⟨_, .lst t2⟩, by show 1 ≤ 100000; decide⟩, rfl, sm (by show 1 ≤ 1000; decide)⟩
  obtain ⟨v, g, hv, hT, hok, hrow, hsm⟩ := main
  refine c_ixL (g11.sql (.head _)) hv ?_
  walk_at "go"
  refine ⟨0, v, g, rfl, hT, .inl ⟨rfl, hok, hrow, hsm, retV g11 fun H17 h17 => ?_⟩⟩
  clear g11
  walk_at "go"
  refine ⟨_, _, rfl, .lst (h17.bl hdS), ok_ints (by omega), fun ns' e => ⟨by rw [inj ns' e]; omega, fun _ => retV h17 fun H18 h18 => ?_⟩, fun z => (nrow z).elim⟩
  rw [inj ns' e]
  clear h17
  walk_at "go"
  try rw [decide_eq_true rfl]
  try walk_at "go"
  try rw [decide_eq_true rfl]
  exact q _
end L2.BR

end
namespace L2.BH
open PySem PySem.Spec PyProof.Rows L2
def top (i : Nat) : Stmt := PySem.Challenge.pw_balepress_k29_letters.main.body.getD i (.Pass ⟨0, 0, 0, 0⟩)
abbrev s_is_byte : Stmt := top 6
abbrev s_is_row : Stmt := top 7
abbrev s_need_row : Stmt := top 8
abbrev s_lettered : Stmt := top 11
abbrev s_row_in : Stmt := top 12
abbrev s__law_cell_at : Stmt := top 14
abbrev s__law_mixed : Stmt := top 15
abbrev s__law_is_number : Stmt := top 16
abbrev s__law_word : Stmt := top 17
abbrev s__law_letters : Stmt := top 18
abbrev s__law_bent : Stmt := top 19
abbrev s_law : Stmt := top 20
def d_is_byte : He.DefD := ⟨("is_byte", none), "is_byte", "is_byte", defArgs s_is_byte, defBody s_is_byte, defScope s_is_byte, [], []⟩
def d_is_row : He.DefD := ⟨("is_row", none), "is_row", "is_row", defArgs s_is_row, defBody s_is_row, defScope s_is_row, [], []⟩
def d_need_row : He.DefD := ⟨("need_row", none), "need_row", "need_row", defArgs s_need_row, defBody s_need_row, defScope s_need_row, [], []⟩
def d_lettered : He.DefD := ⟨("lettered", none), "lettered", "lettered", defArgs s_lettered, defBody s_lettered, defScope s_lettered, [], []⟩
def d_row_in : He.DefD := ⟨("row_in", none), "row_in", "row_in", defArgs s_row_in, defBody s_row_in, defScope s_row_in, [], []⟩
def d__law_cell_at : He.DefD := ⟨("_law_cell_at", none), "_law_cell_at", "_law_cell_at", defArgs s__law_cell_at, defBody s__law_cell_at, defScope s__law_cell_at, [], []⟩
def d__law_mixed : He.DefD := ⟨("_law_mixed", none), "_law_mixed", "_law_mixed", defArgs s__law_mixed, defBody s__law_mixed, defScope s__law_mixed, [], []⟩
def d__law_is_number : He.DefD := ⟨("_law_is_number", none), "_law_is_number", "_law_is_number", defArgs s__law_is_number, defBody s__law_is_number, defScope s__law_is_number, [], []⟩
def d__law_word : He.DefD := ⟨("_law_word", none), "_law_word", "_law_word", defArgs s__law_word, defBody s__law_word, defScope s__law_word, [], []⟩
def d__law_letters : He.DefD := ⟨("_law_letters", none), "_law_letters", "_law_letters", defArgs s__law_letters, defBody s__law_letters, defScope s__law_letters, [], []⟩
def d__law_bent : He.DefD := ⟨("_law_bent", none), "_law_bent", "_law_bent", defArgs s__law_bent, defBody s__law_bent, defScope s__law_bent, [], []⟩
def d_law : He.DefD := ⟨("law", none), "law", "law", defArgs s_law, defBody s_law, defScope s_law, [], []⟩
def fn : List He.DefD := [d_is_byte, d_is_row, d_need_row, d_lettered, d_row_in, d__law_cell_at, d__law_mixed, d__law_is_number, d__law_word, d__law_letters, d__law_bent, d_law]
def fa : List He.Fa := [.glo "PressError", .exc "PressError", .glo "BadRow", .exc "BadRow", .glo "BadLetters", .exc "BadLetters", .int "MOST_BYTE" 255, .glo "is_byte", .glo "is_row", .glo "need_row", .str "LETTERS" "abcdefghijklmnop", .glo "lettered", .glo "row_in", .glo "_law_cell_at", .glo "_law_mixed", .glo "_law_is_number", .glo "_law_word", .glo "_law_letters", .glo "_law_bent", .glo "law", .free "all", .free "bool", .free "divmod", .free "int", .free "isinstance", .free "len", .free "list", .free "range", .free "str", .free "tuple", .free "ValueError"]
abbrev R : PySem.W.OpenRow := PySem.W.OpenLaw.row PySem.Challenge.rw_balepress_k29_letters
def exs : List (PySem.W.Frag → Bool) := [fun K => (He.eqO (PySem.W.findIn K (.ref (He.ga K "BadRow")) "__getattribute__") (some (some (.builtin "BaseException.__getattribute__"))) && (He.eqO (PySem.W.findIn K (.ref (He.ga K "BadRow")) "__getattr__") (some none) && (decide (PySem.W.subIn K (.ref (He.ga K "BadRow")) (.type "BaseException") = some true) && (PySem.W.hasDictIn K (He.ga K "BadRow") && (He.eqO (PySem.W.findIn K (.ref (He.ga K "BadRow")) "__class__") (some (some (.builtin "object.__class__"))) && (He.eqO (PySem.W.specialIn K (.builtin "object.__class__") "__get__") (some (some (.builtin "getset_descriptor.__get__"))) && (decide (PySem.W.takesIn K (.builtin "object.__class__") = some true) && (decide (PySem.W.mroIn K (He.ga K "BadRow") (.type "object") = some true))))))))),
  fun K => decide (PySem.W.exmOne K (.ref (He.ga K "BadRow")) (.ref (He.ga K "PressError")) = some true),
  fun K => decide (PySem.W.kitOne K (.ref (He.ga K "BadRow")) (.ref (He.ga K "BadRow")) = some true),
  fun K => decide (PySem.W.kitOne K (.ref (He.ga K "BadRow")) (.ref (He.ga K "BadLetters")) = some false),
  fun K => decide (PySem.W.kitOne K (.ref (He.ga K "BadRow")) (.type "ValueError") = some true),
  fun K => (He.eqO (PySem.W.findIn K (.ref (He.ga K "BadLetters")) "__getattribute__") (some (some (.builtin "BaseException.__getattribute__"))) && (He.eqO (PySem.W.findIn K (.ref (He.ga K "BadLetters")) "__getattr__") (some none) && (decide (PySem.W.subIn K (.ref (He.ga K "BadLetters")) (.type "BaseException") = some true) && (PySem.W.hasDictIn K (He.ga K "BadLetters") && (He.eqO (PySem.W.findIn K (.ref (He.ga K "BadLetters")) "__class__") (some (some (.builtin "object.__class__"))) && (He.eqO (PySem.W.specialIn K (.builtin "object.__class__") "__get__") (some (some (.builtin "getset_descriptor.__get__"))) && (decide (PySem.W.takesIn K (.builtin "object.__class__") = some true) && (decide (PySem.W.mroIn K (He.ga K "BadLetters") (.type "object") = some true))))))))),
  fun K => decide (PySem.W.exmOne K (.ref (He.ga K "BadLetters")) (.ref (He.ga K "PressError")) = some true),
  fun K => decide (PySem.W.kitOne K (.ref (He.ga K "BadLetters")) (.ref (He.ga K "BadRow")) = some false),
  fun K => decide (PySem.W.kitOne K (.ref (He.ga K "BadLetters")) (.ref (He.ga K "BadLetters")) = some true),
  fun K => decide (PySem.W.kitOne K (.ref (He.ga K "BadLetters")) (.type "ValueError") = some true)]
def ex (K : PySem.W.Frag) : Bool := exs.all fun e => e K
theorem ex_at {K : PySem.W.Frag} (h : ex K = true) (i : Nat) {e : PySem.W.Frag → Bool} (he : exs[i]? = some e := by rfl) : e K = true := List.all_eq_true.mp h e (List.mem_of_getElem? he)
abbrev hk : PySem.W.Hook := He.hookX 6 fa fn [] [] ex
def ob (s : PySem.W.SharedT) : He.AlX := He.obsX 6 fa fn [] [] ex (HandSHeadRun.getT s)
theorem ob_eq (s : PySem.W.SharedT) : ob s = hk.obs s.abs := He.obsX_eq (HandSHeadRun.getT_eq s)
def loose0 : List PySem.Str := ["PressError", "ValueError", "BadRow", "BadLetters", "MOST_BYTE", "is_byte", "is_row", "need_row", "LETTERS", "lettered", "row_in", "_law_cell_at", "_law_mixed", "_law_is_number", "_law_word", "_law_letters", "_law_bent"]
abbrev loose : List PySem.Str := loose0
theorem run (w : World) : HandSHeadRun.RunEq R (PySem.W.view R.prog [20]) hk ob 40000 loose w := by
  intro os
  kernel_rfl
end L2.BH
namespace L2.BW
open PySem PySem.Spec PyProof.Rows L2.BP L2.BR L2.BH
structure Tx (K : PySem.W.Frag) (mg : Str → Option Value) : Prop where
  g_PressError : mg "PressError" = some (.ref (He.ga K "PressError"))
  x_PressError : PySem.W.excIn K (He.ga K "PressError") He.veBase "ValueError.__new__" = true ∧ PySem.W.keepIn K (.ref (He.ga K "PressError")) = true ∧ PySem.W.subIn K (.ref (He.ga K "PressError")) (.type "BaseException") = some true ∧ PySem.W.typeIn K (.ref (He.ga K "PressError")) = some (.type "type")
  g_BadRow : mg "BadRow" = some (.ref (He.ga K "BadRow"))
  x_BadRow : PySem.W.excIn K (He.ga K "BadRow") He.veBase "ValueError.__new__" = true ∧ PySem.W.keepIn K (.ref (He.ga K "BadRow")) = true ∧ PySem.W.subIn K (.ref (He.ga K "BadRow")) (.type "BaseException") = some true ∧ PySem.W.typeIn K (.ref (He.ga K "BadRow")) = some (.type "type")
  g_BadLetters : mg "BadLetters" = some (.ref (He.ga K "BadLetters"))
  x_BadLetters : PySem.W.excIn K (He.ga K "BadLetters") He.veBase "ValueError.__new__" = true ∧ PySem.W.keepIn K (.ref (He.ga K "BadLetters")) = true ∧ PySem.W.subIn K (.ref (He.ga K "BadLetters")) (.type "BaseException") = some true ∧ PySem.W.typeIn K (.ref (He.ga K "BadLetters")) = some (.type "type")
  g_MOST_BYTE : ∃ t, mg "MOST_BYTE" = some (.int 255 t)
  g_is_byte : mg "is_byte" = some (.ref (He.ga K "is_byte"))
  g_is_row : mg "is_row" = some (.ref (He.ga K "is_row"))
  g_need_row : mg "need_row" = some (.ref (He.ga K "need_row"))
  g_LETTERS : ∃ t, mg "LETTERS" = some (.str "abcdefghijklmnop" t)
  g_lettered : mg "lettered" = some (.ref (He.ga K "lettered"))
  g_row_in : mg "row_in" = some (.ref (He.ga K "row_in"))
  g__law_cell_at : mg "_law_cell_at" = some (.ref (He.ga K "_law_cell_at"))
  g__law_mixed : mg "_law_mixed" = some (.ref (He.ga K "_law_mixed"))
  g__law_is_number : mg "_law_is_number" = some (.ref (He.ga K "_law_is_number"))
  g__law_word : mg "_law_word" = some (.ref (He.ga K "_law_word"))
  g__law_letters : mg "_law_letters" = some (.ref (He.ga K "_law_letters"))
  g__law_bent : mg "_law_bent" = some (.ref (He.ga K "_law_bent"))
  g_law : mg "law" = some (.ref (He.ga K "law"))
  f_all : mg "all" = none
  f_bool : mg "bool" = none
  f_divmod : mg "divmod" = none
  f_int : mg "int" = none
  f_isinstance : mg "isinstance" = none
  f_len : mg "len" = none
  f_list : mg "list" = none
  f_range : mg "range" = none
  f_str : mg "str" = none
  f_tuple : mg "tuple" = none
  f_ValueError : mg "ValueError" = none
  e_BadRow : L2.ExcC K (He.ga K "BadRow")
  y_BadRow_PressError : PySem.W.exmOne K (.ref (He.ga K "BadRow")) (.ref (He.ga K "PressError")) = some true
  s_BadRow_BadRow : PySem.W.kitOne K (.ref (He.ga K "BadRow")) (.ref (He.ga K "BadRow")) = some true
  s_BadRow_BadLetters : PySem.W.kitOne K (.ref (He.ga K "BadRow")) (.ref (He.ga K "BadLetters")) = some false
  v_BadRow_ValueError : PySem.W.kitOne K (.ref (He.ga K "BadRow")) (.type "ValueError") = some true
  e_BadLetters : L2.ExcC K (He.ga K "BadLetters")
  y_BadLetters_PressError : PySem.W.exmOne K (.ref (He.ga K "BadLetters")) (.ref (He.ga K "PressError")) = some true
  s_BadLetters_BadRow : PySem.W.kitOne K (.ref (He.ga K "BadLetters")) (.ref (He.ga K "BadRow")) = some false
  s_BadLetters_BadLetters : PySem.W.kitOne K (.ref (He.ga K "BadLetters")) (.ref (He.ga K "BadLetters")) = some true
  v_BadLetters_ValueError : PySem.W.kitOne K (.ref (He.ga K "BadLetters")) (.type "ValueError") = some true
  d__law_cell_at : ∃ fd, FunD K d__law_cell_at.name d__law_cell_at.qual d__law_cell_at.params d__law_cell_at.body d__law_cell_at.scope (d__law_cell_at.dvs K) (d__law_cell_at.kws K) (He.fAd K d__law_cell_at.at_) fd
  d__law_mixed : ∃ fd, FunD K d__law_mixed.name d__law_mixed.qual d__law_mixed.params d__law_mixed.body d__law_mixed.scope (d__law_mixed.dvs K) (d__law_mixed.kws K) (He.fAd K d__law_mixed.at_) fd
  d_is_byte : ∃ fd, FunD K d_is_byte.name d_is_byte.qual d_is_byte.params d_is_byte.body d_is_byte.scope (d_is_byte.dvs K) (d_is_byte.kws K) (He.fAd K d_is_byte.at_) fd
  d_is_row : ∃ fd, FunD K d_is_row.name d_is_row.qual d_is_row.params d_is_row.body d_is_row.scope (d_is_row.dvs K) (d_is_row.kws K) (He.fAd K d_is_row.at_) fd
  d_need_row : ∃ fd, FunD K d_need_row.name d_need_row.qual d_need_row.params d_need_row.body d_need_row.scope (d_need_row.dvs K) (d_need_row.kws K) (He.fAd K d_need_row.at_) fd
  d_lettered : ∃ fd, FunD K d_lettered.name d_lettered.qual d_lettered.params d_lettered.body d_lettered.scope (d_lettered.dvs K) (d_lettered.kws K) (He.fAd K d_lettered.at_) fd
  d__law_letters : ∃ fd, FunD K d__law_letters.name d__law_letters.qual d__law_letters.params d__law_letters.body d__law_letters.scope (d__law_letters.dvs K) (d__law_letters.kws K) (He.fAd K d__law_letters.at_) fd
  d_row_in : ∃ fd, FunD K d_row_in.name d_row_in.qual d_row_in.params d_row_in.body d_row_in.scope (d_row_in.dvs K) (d_row_in.kws K) (He.fAd K d_row_in.at_) fd
  d__law_is_number : ∃ fd, FunD K d__law_is_number.name d__law_is_number.qual d__law_is_number.params d__law_is_number.body d__law_is_number.scope (d__law_is_number.dvs K) (d__law_is_number.kws K) (He.fAd K d__law_is_number.at_) fd
  d__law_word : ∃ fd, FunD K d__law_word.name d__law_word.qual d__law_word.params d__law_word.body d__law_word.scope (d__law_word.dvs K) (d__law_word.kws K) (He.fAd K d__law_word.at_) fd
  d__law_bent : ∃ fd, FunD K d__law_bent.name d__law_bent.qual d__law_bent.params d__law_bent.body d__law_bent.scope (d__law_bent.dvs K) (d__law_bent.kws K) (He.fAd K d__law_bent.at_) fd
  d_law : ∃ fd, FunD K d_law.name d_law.qual d_law.params d_law.body d_law.scope (d_law.dvs K) (d_law.kws K) (He.fAd K d_law.at_) fd
theorem tx_of {K : PySem.W.Frag} {h : Heap} {mg : Str → Option Value} (X : K.In h) (G : h.Ns mainGlobals mg) (c : He.SaysD fa fn K) (ce : ex K = true) : Tx K mg where
  g_PressError := He.glo_ok X G (c.fact 0 (f := .glo "PressError") rfl)
  x_PressError := He.exc_ok (c.fact 1 (f := .exc "PressError") rfl)
  g_BadRow := He.glo_ok X G (c.fact 2 (f := .glo "BadRow") rfl)
  x_BadRow := He.exc_ok (c.fact 3 (f := .exc "BadRow") rfl)
  g_BadLetters := He.glo_ok X G (c.fact 4 (f := .glo "BadLetters") rfl)
  x_BadLetters := He.exc_ok (c.fact 5 (f := .exc "BadLetters") rfl)
  g_MOST_BYTE := He.int_ok X G (c.fact 6 (f := .int "MOST_BYTE" 255) rfl)
  g_is_byte := He.glo_ok X G (c.fact 7 (f := .glo "is_byte") rfl)
  g_is_row := He.glo_ok X G (c.fact 8 (f := .glo "is_row") rfl)
  g_need_row := He.glo_ok X G (c.fact 9 (f := .glo "need_row") rfl)
  g_LETTERS := He.str_ok X G (c.fact 10 (f := .str "LETTERS" "abcdefghijklmnop") rfl)
  g_lettered := He.glo_ok X G (c.fact 11 (f := .glo "lettered") rfl)
  g_row_in := He.glo_ok X G (c.fact 12 (f := .glo "row_in") rfl)
  g__law_cell_at := He.glo_ok X G (c.fact 13 (f := .glo "_law_cell_at") rfl)
  g__law_mixed := He.glo_ok X G (c.fact 14 (f := .glo "_law_mixed") rfl)
  g__law_is_number := He.glo_ok X G (c.fact 15 (f := .glo "_law_is_number") rfl)
  g__law_word := He.glo_ok X G (c.fact 16 (f := .glo "_law_word") rfl)
  g__law_letters := He.glo_ok X G (c.fact 17 (f := .glo "_law_letters") rfl)
  g__law_bent := He.glo_ok X G (c.fact 18 (f := .glo "_law_bent") rfl)
  g_law := He.glo_ok X G (c.fact 19 (f := .glo "law") rfl)
  f_all := He.free_ok X G (c.fact 20 (f := .free "all") rfl)
  f_bool := He.free_ok X G (c.fact 21 (f := .free "bool") rfl)
  f_divmod := He.free_ok X G (c.fact 22 (f := .free "divmod") rfl)
  f_int := He.free_ok X G (c.fact 23 (f := .free "int") rfl)
  f_isinstance := He.free_ok X G (c.fact 24 (f := .free "isinstance") rfl)
  f_len := He.free_ok X G (c.fact 25 (f := .free "len") rfl)
  f_list := He.free_ok X G (c.fact 26 (f := .free "list") rfl)
  f_range := He.free_ok X G (c.fact 27 (f := .free "range") rfl)
  f_str := He.free_ok X G (c.fact 28 (f := .free "str") rfl)
  f_tuple := He.free_ok X G (c.fact 29 (f := .free "tuple") rfl)
  f_ValueError := He.free_ok X G (c.fact 30 (f := .free "ValueError") rfl)
  e_BadRow := by have h := ex_at ce 0; have z0 := He.ba h; have z1 := He.ba z0.2; have z2 := He.ba z1.2; have z3 := He.ba z2.2; have z4 := He.ba z3.2; have z5 := He.ba z4.2; have z6 := He.ba z5.2; exact ⟨He.eqO_ok z0.1, He.eqO_ok z1.1, of_decide_eq_true z2.1, z3.1, He.eqO_ok z4.1, He.eqO_ok z5.1, of_decide_eq_true z6.1, of_decide_eq_true z6.2⟩
  y_BadRow_PressError := by have h := ex_at ce 1; exact of_decide_eq_true h
  s_BadRow_BadRow := by have h := ex_at ce 2; exact of_decide_eq_true h
  s_BadRow_BadLetters := by have h := ex_at ce 3; exact of_decide_eq_true h
  v_BadRow_ValueError := by have h := ex_at ce 4; exact of_decide_eq_true h
  e_BadLetters := by have h := ex_at ce 5; have z0 := He.ba h; have z1 := He.ba z0.2; have z2 := He.ba z1.2; have z3 := He.ba z2.2; have z4 := He.ba z3.2; have z5 := He.ba z4.2; have z6 := He.ba z5.2; exact ⟨He.eqO_ok z0.1, He.eqO_ok z1.1, of_decide_eq_true z2.1, z3.1, He.eqO_ok z4.1, He.eqO_ok z5.1, of_decide_eq_true z6.1, of_decide_eq_true z6.2⟩
  y_BadLetters_PressError := by have h := ex_at ce 6; exact of_decide_eq_true h
  s_BadLetters_BadRow := by have h := ex_at ce 7; exact of_decide_eq_true h
  s_BadLetters_BadLetters := by have h := ex_at ce 8; exact of_decide_eq_true h
  v_BadLetters_ValueError := by have h := ex_at ce 9; exact of_decide_eq_true h
  d__law_cell_at := c.def_ 5 (d := d__law_cell_at) rfl
  d__law_mixed := c.def_ 6 (d := d__law_mixed) rfl
  d_is_byte := c.def_ 0 (d := d_is_byte) rfl
  d_is_row := c.def_ 1 (d := d_is_row) rfl
  d_need_row := c.def_ 2 (d := d_need_row) rfl
  d_lettered := c.def_ 3 (d := d_lettered) rfl
  d__law_letters := c.def_ 9 (d := d__law_letters) rfl
  d_row_in := c.def_ 4 (d := d_row_in) rfl
  d__law_is_number := c.def_ 7 (d := d__law_is_number) rfl
  d__law_word := c.def_ 8 (d := d__law_word) rfl
  d__law_bent := c.def_ 10 (d := d__law_bent) rfl
  d_law := c.def_ 11 (d := d_law) rfl
theorem of_KExc29 {K : PySem.W.Frag} {mg : Str → Option Value} (T : Tx K mg) : KExc29 K := ⟨T.e_BadRow, T.y_BadRow_PressError, T.s_BadRow_BadRow, T.s_BadRow_BadLetters, T.v_BadRow_ValueError, T.e_BadLetters, T.y_BadLetters_PressError, T.s_BadLetters_BadRow, T.s_BadLetters_BadLetters, T.v_BadLetters_ValueError⟩
abbrev N__law_cell_at : List Str := ["_law_script", "_law_k"]
theorem sc__law_cell_at : FnScope N__law_cell_at ["_law_script", "_law_k"] (defScope s__law_cell_at) := ⟨rfl, rfl, rfl, by decide +kernel, rfl, by decide +kernel, by decide +kernel⟩
theorem wk__law_cell_at {P : Program} {w : World} {K : PySem.W.Frag} {mg : Str → Option Value} {base : Heap} (T : Tx K mg)  {f : Addr} {cdv : Value} {A : Around} {outer : List Env} {s : Shared} {H : Hp} {E : XK}
    (hr : Room 0 (A.deeper (envOfC "_law_cell_at" (defScope s__law_cell_at) s.heap.objs.size f cdv))) :
    PSs (cxOf (L2.CX P w) P w K mg base N__law_cell_at "_law_cell_at" (defScope s__law_cell_at) f cdv A outer s H E) (defBody s__law_cell_at) (t__law_cell_at K (fun c d _ H2 => E c d H2)) := by
  have hu1 := hu_of hr
  have hu64 := hr.units
  have tk : Takes (cxOf (L2.CX P w) P w K mg base N__law_cell_at "_law_cell_at" (defScope s__law_cell_at) f cdv A outer s H E) (fun c d _ H2 => E c d H2) := takes_of rfl rfl rfl rfl
  exact (pss_cons (ps_if (pt_cmpR op_ltU (pv 1) (pe_callB cr_lenK (by rfl) T.f_len bb_len (pa_cons (pv 0) pa_nil)) (nomark _)) (pss_one (ps_ret (pe_ix ix_seq (pv 0) (pv 1) (fun _ _ => rfl)))) pss_nil)
    (pss_one (ps_ret (pe_int))))
theorem fn__law_cell_at {P : Program} {w : World} {K : PySem.W.Frag} {mg : Str → Option Value} {base : Heap} (T : Tx K mg) {f : Addr} {fd : FuncData} (F : FunD K d__law_cell_at.name d__law_cell_at.qual d__law_cell_at.params d__law_cell_at.body d__law_cell_at.scope (d__law_cell_at.dvs K) (d__law_cell_at.kws K) f fd) :
    FnOk P w K mg base (L2.CX P w) 1 f fd ["_law_script", "_law_k"] (sp__law_cell_at K) :=
  F.ok sc__law_cell_at (fun vs H Q E h => len__law_cell_at h) (fun cdv A outer s H vs Q E hr h => ⟨t__law_cell_at K (fun c d _ H2 => E c d H2), wk__law_cell_at T  hr, rd__law_cell_at  h⟩)
theorem ok__law_cell_at_2 {P : Program} {w : World} {K : PySem.W.Frag} {mg : Str → Option Value} {base : Heap} (T : Tx K mg) : DOk P w K mg base 1 (He.fAd K ("_law_cell_at", none)) ["_law_script", "_law_k"] [] (sp__law_cell_at K) := by
  obtain ⟨fd, F⟩ := T.d__law_cell_at
  exact ⟨fd, [], .nil, FunD.bindsN F fun _ _ _ _ _ _ us hl => match us, hl with | [_, _], _ => rfl, fn__law_cell_at T F, F.kp⟩
abbrev N__law_mixed : List Str := ["_law_cell", "_law_k"]
theorem sc__law_mixed : FnScope N__law_mixed ["_law_cell", "_law_k"] (defScope s__law_mixed) := ⟨rfl, rfl, rfl, by decide +kernel, rfl, by decide +kernel, by decide +kernel⟩
theorem wk__law_mixed {P : Program} {w : World} {K : PySem.W.Frag} {mg : Str → Option Value} {base : Heap} (T : Tx K mg)  {f : Addr} {cdv : Value} {A : Around} {outer : List Env} {s : Shared} {H : Hp} {E : XK}
    (hr : Room 0 (A.deeper (envOfC "_law_mixed" (defScope s__law_mixed) s.heap.objs.size f cdv))) :
    PSs (cxOf (L2.CX P w) P w K mg base N__law_mixed "_law_mixed" (defScope s__law_mixed) f cdv A outer s H E) (defBody s__law_mixed) (t__law_mixed K (fun c d _ H2 => E c d H2)) := by
  have hu1 := hu_of hr
  have hu64 := hr.units
  have tk : Takes (cxOf (L2.CX P w) P w K mg base N__law_mixed "_law_mixed" (defScope s__law_mixed) f cdv A outer s H E) (fun c d _ H2 => E c d H2) := takes_of rfl rfl rfl rfl
  exact (pss_one (ps_ret (pe_op op_modU (pe_op op_mulU (pe_op op_modU (pe_op op_mulU (pe_op op_addU (pe_op op_addU (pv 0) (pe_op op_mulU (pe_op op_mulU (pe_int) (pv 1)) (pv 1))) (pe_op op_mulU (pe_int) (pv 1))) (pe_int)) (pe_int)) (pe_int)) (pe_int))))
theorem fn__law_mixed {P : Program} {w : World} {K : PySem.W.Frag} {mg : Str → Option Value} {base : Heap} (T : Tx K mg) {f : Addr} {fd : FuncData} (F : FunD K d__law_mixed.name d__law_mixed.qual d__law_mixed.params d__law_mixed.body d__law_mixed.scope (d__law_mixed.dvs K) (d__law_mixed.kws K) f fd) :
    FnOk P w K mg base (L2.CX P w) 1 f fd ["_law_cell", "_law_k"] (sp__law_mixed K) :=
  F.ok sc__law_mixed (fun vs H Q E h => len__law_mixed h) (fun cdv A outer s H vs Q E hr h => ⟨t__law_mixed K (fun c d _ H2 => E c d H2), wk__law_mixed T  hr, rd__law_mixed  h⟩)
theorem ok__law_mixed_2 {P : Program} {w : World} {K : PySem.W.Frag} {mg : Str → Option Value} {base : Heap} (T : Tx K mg) : DOk P w K mg base 1 (He.fAd K ("_law_mixed", none)) ["_law_cell", "_law_k"] [] (sp__law_mixed K) := by
  obtain ⟨fd, F⟩ := T.d__law_mixed
  exact ⟨fd, [], .nil, FunD.bindsN F fun _ _ _ _ _ _ us hl => match us, hl with | [_, _], _ => rfl, fn__law_mixed T F, F.kp⟩
abbrev N_is_byte : List Str := ["thing"]
theorem sc_is_byte : FnScope N_is_byte ["thing"] (defScope s_is_byte) := ⟨rfl, rfl, rfl, by decide +kernel, rfl, by decide +kernel, by decide +kernel⟩
theorem wk_is_byte {P : Program} {w : World} {K : PySem.W.Frag} {mg : Str → Option Value} {base : Heap} (T : Tx K mg)  {f : Addr} {cdv : Value} {A : Around} {outer : List Env} {s : Shared} {H : Hp} {E : XK}
    (hr : Room 0 (A.deeper (envOfC "is_byte" (defScope s_is_byte) s.heap.objs.size f cdv))) :
    PSs (cxOf (L2.CX P w) P w K mg base N_is_byte "is_byte" (defScope s_is_byte) f cdv A outer s H E) (defBody s_is_byte) (t_is_byte K (fun c d _ H2 => E c d H2)) := by
  have hu1 := hu_of hr
  have hu64 := hr.units
  have tk : Takes (cxOf (L2.CX P w) P w K mg base N_is_byte "is_byte" (defScope s_is_byte) f cdv A outer s H E) (fun c d _ H2 => E c d H2) := takes_of rfl rfl rfl rfl
  exact (pss_one (ps_ret ((pe_and (pe_callB call_isi (by rfl) T.f_isinstance bb_isinstance (pa_cons (pv 0) (pa_cons (pe_bty rfl T.f_int bt_int) pa_nil))) (pe_and (pe_not (pe_callB call_isi (by rfl) T.f_isinstance bb_isinstance (pa_cons (pv 0) (pa_cons (pe_bty rfl T.f_bool bt_bool) pa_nil)))) (pe_one (pe_chain op_leU op_leU (pe_int) (pv 0) (pe_gint rfl T.g_MOST_BYTE))))))))
theorem fn_is_byte {P : Program} {w : World} {K : PySem.W.Frag} {mg : Str → Option Value} {base : Heap} (T : Tx K mg) {f : Addr} {fd : FuncData} (F : FunD K d_is_byte.name d_is_byte.qual d_is_byte.params d_is_byte.body d_is_byte.scope (d_is_byte.dvs K) (d_is_byte.kws K) f fd) :
    FnOk P w K mg base (L2.CX P w) 1 f fd ["thing"] (sp_is_byte K) :=
  F.ok sc_is_byte (fun vs H Q E h => len_is_byte h) (fun cdv A outer s H vs Q E hr h => ⟨t_is_byte K (fun c d _ H2 => E c d H2), wk_is_byte T  hr, rd_is_byte  h⟩)
theorem ok_is_byte_1 {P : Program} {w : World} {K : PySem.W.Frag} {mg : Str → Option Value} {base : Heap} (T : Tx K mg) : DOk P w K mg base 1 (He.fAd K ("is_byte", none)) ["thing"] [] (sp_is_byte K) := by
  obtain ⟨fd, F⟩ := T.d_is_byte
  exact ⟨fd, [], .nil, FunD.bindsN F fun _ _ _ _ _ _ us hl => match us, hl with | [_], _ => rfl, fn_is_byte T F, F.kp⟩
abbrev N_is_row : List Str := ["thing", "number"]
theorem sc_is_row : FnScope N_is_row ["thing"] (defScope s_is_row) := ⟨rfl, rfl, rfl, by decide +kernel, rfl, by decide +kernel, by decide +kernel⟩
theorem wk_is_row {P : Program} {w : World} {K : PySem.W.Frag} {mg : Str → Option Value} {base : Heap} (T : Tx K mg) (O0 : DOk P w K mg base 1 (He.fAd K ("is_byte", none)) ["thing"] [] (sp_is_byte K)) {f : Addr} {cdv : Value} {A : Around} {outer : List Env} {s : Shared} {H : Hp} {E : XK}
    (hr : Room 1 (A.deeper (envOfC "is_row" (defScope s_is_row) s.heap.objs.size f cdv))) :
    PSs (cxOf (L2.CX P w) P w K mg base N_is_row "is_row" (defScope s_is_row) f cdv A outer s H E) (defBody s_is_row) (t_is_row K (fun c d _ H2 => E c d H2)) := by
  obtain ⟨fd0, ds0, v0, b0, G0, q0⟩ := O0
  have hu1 := hu_of hr
  have hu64 := hr.units
  have tk : Takes (cxOf (L2.CX P w) P w K mg base N_is_row "is_row" (defScope s_is_row) f cdv A outer s H E) (fun c d _ H2 => E c d H2) := takes_of rfl rfl rfl rfl
  exact (pss_one (ps_ret ((pe_and (pe_callB call_isi (by rfl) T.f_isinstance bb_isinstance (pa_cons (pv 0) (pa_cons (pe_bty rfl T.f_list bt_list) pa_nil))) (pe_one (pe_callB (cr_all rfl) (by rfl) T.f_all bb_all (pa_cons (pe_lc (own := [("number", 1)]) rfl sc_is_row.nd (pi_list (pv 0)) (blkOk_by (own := [("number", 1)]) (N := N_is_row) (sc := defScope s_is_row) (by decide +kernel)) (fun _ _ _ _ _ => (pg_name (i := 1) sc_is_row.nd rfl (Or.inl rfl))) (fun _ _ _ _ _ => pts_nil) (fun _ _ _ _ _ => (pe_cl G0 (hr.mono (by decide)) rfl T.g_is_byte q0 b0 v0 takes0 (pa_cons (pv 1) pa_nil)))) pa_nil)))))))
theorem fn_is_row {P : Program} {w : World} {K : PySem.W.Frag} {mg : Str → Option Value} {base : Heap} (T : Tx K mg) {f : Addr} {fd : FuncData} (F : FunD K d_is_row.name d_is_row.qual d_is_row.params d_is_row.body d_is_row.scope (d_is_row.dvs K) (d_is_row.kws K) f fd) :
    FnOk P w K mg base (L2.CX P w) 2 f fd ["thing"] (sp_is_row K) :=
  F.ok sc_is_row (fun vs H Q E h => len_is_row h) (fun cdv A outer s H vs Q E hr h => ⟨t_is_row K (fun c d _ H2 => E c d H2), wk_is_row T (ok_is_byte_1 T) hr, rd_is_row  h⟩)
theorem ok_is_row_1 {P : Program} {w : World} {K : PySem.W.Frag} {mg : Str → Option Value} {base : Heap} (T : Tx K mg) : DOk P w K mg base 2 (He.fAd K ("is_row", none)) ["thing"] [] (sp_is_row K) := by
  obtain ⟨fd, F⟩ := T.d_is_row
  exact ⟨fd, [], .nil, FunD.bindsN F fun _ _ _ _ _ _ us hl => match us, hl with | [_], _ => rfl, fn_is_row T F, F.kp⟩
abbrev N_need_row : List Str := ["thing"]
theorem sc_need_row : FnScope N_need_row ["thing"] (defScope s_need_row) := ⟨rfl, rfl, rfl, by decide +kernel, rfl, by decide +kernel, by decide +kernel⟩
theorem wk_need_row {P : Program} {w : World} {K : PySem.W.Frag} {mg : Str → Option Value} {base : Heap} (T : Tx K mg) (O0 : DOk P w K mg base 2 (He.fAd K ("is_row", none)) ["thing"] [] (sp_is_row K)) {f : Addr} {cdv : Value} {A : Around} {outer : List Env} {s : Shared} {H : Hp} {E : XK}
    (hr : Room 2 (A.deeper (envOfC "need_row" (defScope s_need_row) s.heap.objs.size f cdv))) :
    PSs (cxOf (L2.CX P w) P w K mg base N_need_row "need_row" (defScope s_need_row) f cdv A outer s H E) (defBody s_need_row) (t_need_row K (fun c d _ H2 => E c d H2)) := by
  obtain ⟨fd0, ds0, v0, b0, G0, q0⟩ := O0
  have hu1 := hu_of hr
  have hu64 := hr.units
  have tk : Takes (cxOf (L2.CX P w) P w K mg base N_need_row "need_row" (defScope s_need_row) f cdv A outer s H E) (fun c d _ H2 => E c d H2) := takes_of rfl rfl rfl rfl
  exact (pss_cons (ps_if (pt_not (pt_val (pe_cl G0 (hr.mono (by decide)) rfl T.g_is_row q0 b0 v0 tk (pa_cons (pv 0) pa_nil)))) (pss_one (ps_rz rfl tk T.x_BadRow T.g_BadRow rfl)) pss_nil)
    (pss_one (ps_ret (pe_callTy cr_listK (by rfl) T.f_list bt_list (pa_cons (pv 0) pa_nil)))))
theorem fn_need_row {P : Program} {w : World} {K : PySem.W.Frag} {mg : Str → Option Value} {base : Heap} (T : Tx K mg) {f : Addr} {fd : FuncData} (F : FunD K d_need_row.name d_need_row.qual d_need_row.params d_need_row.body d_need_row.scope (d_need_row.dvs K) (d_need_row.kws K) f fd) :
    FnOk P w K mg base (L2.CX P w) 3 f fd ["thing"] (sp_need_row K) :=
  F.ok sc_need_row (fun vs H Q E h => len_need_row h) (fun cdv A outer s H vs Q E hr h => ⟨t_need_row K (fun c d _ H2 => E c d H2), wk_need_row T (ok_is_row_1 T) hr, rd_need_row  h⟩)
theorem ok_need_row_1 {P : Program} {w : World} {K : PySem.W.Frag} {mg : Str → Option Value} {base : Heap} (T : Tx K mg) : DOk P w K mg base 3 (He.fAd K ("need_row", none)) ["thing"] [] (sp_need_row K) := by
  obtain ⟨fd, F⟩ := T.d_need_row
  exact ⟨fd, [], .nil, FunD.bindsN F fun _ _ _ _ _ _ us hl => match us, hl with | [_], _ => rfl, fn_need_row T F, F.kp⟩
abbrev N_lettered : List Str := ["row", "found", "byte", "high", "low"]
theorem sc_lettered : FnScope N_lettered ["row"] (defScope s_lettered) := ⟨rfl, rfl, rfl, by decide +kernel, rfl, by decide +kernel, by decide +kernel⟩
theorem wk_lettered {P : Program} {w : World} {K : PySem.W.Frag} {mg : Str → Option Value} {base : Heap} (T : Tx K mg) (O0 : DOk P w K mg base 3 (He.fAd K ("need_row", none)) ["thing"] [] (sp_need_row K)) {f : Addr} {cdv : Value} {A : Around} {outer : List Env} {s : Shared} {H : Hp} {E : XK}
    (hr : Room 3 (A.deeper (envOfC "lettered" (defScope s_lettered) s.heap.objs.size f cdv))) :
    PSs (cxOf (L2.CX P w) P w K mg base N_lettered "lettered" (defScope s_lettered) f cdv A outer s H E) (defBody s_lettered) (t_lettered K (fun c d _ H2 => E c d H2)) := by
  obtain ⟨fd0, ds0, v0, b0, G0, q0⟩ := O0
  have hu1 := hu_of hr
  have hu64 := hr.units
  have tk : Takes (cxOf (L2.CX P w) P w K mg base N_lettered "lettered" (defScope s_lettered) f cdv A outer s H E) (fun c d _ H2 => E c d H2) := takes_of rfl rfl rfl rfl
  exact (pss_cons (ps_set (i := 1) sc_lettered.nd rfl (Or.inl rfl) (pe_lst pa_nil))
    (pss_cons (ps_for (passes_of rfl) rfl (pi_list (pe_cl G0 (hr.mono (by decide)) rfl T.g_need_row q0 b0 v0 tk (pa_cons (pv 0) pa_nil))) (pg_name (i := 2) sc_lettered.nd rfl (Or.inl rfl)) (pss_cons (ps_asg (pe_callB cr_divmodK (by rfl) T.f_divmod bb_divmod (pa_cons (pv 2) (pa_cons (pe_int) pa_nil))) (pg_tup rfl (pgs_cons (pg_name (i := 3) sc_lettered.nd rfl (Or.inl rfl)) (pgs_cons (pg_name (i := 4) sc_lettered.nd rfl (Or.inl rfl)) pgs_nil))))
    (pss_one (ps_expr (pe_bm PySem.F.plainAttrs_list PySem.F.slot_list_append PySem.F.type_list_append mt_append (pv 1) (pa_cons (pe_op op_addU (pe_ix ix_seq (pe_gstr rfl T.g_LETTERS) (pv 3) (fun _ _ => rfl)) (pe_ix ix_seq (pe_gstr rfl T.g_LETTERS) (pv 4) (fun _ _ => rfl))) pa_nil))))))
    (pss_one (ps_ret (pe_joinK (pe_str) (pv 1))))))
theorem fn_lettered {P : Program} {w : World} {K : PySem.W.Frag} {mg : Str → Option Value} {base : Heap} (T : Tx K mg) {f : Addr} {fd : FuncData} (F : FunD K d_lettered.name d_lettered.qual d_lettered.params d_lettered.body d_lettered.scope (d_lettered.dvs K) (d_lettered.kws K) f fd) :
    FnOk P w K mg base (L2.CX P w) 4 f fd ["row"] (sp_lettered K) :=
  F.ok sc_lettered (fun vs H Q E h => len_lettered h) (fun cdv A outer s H vs Q E hr h => ⟨t_lettered K (fun c d _ H2 => E c d H2), wk_lettered T (ok_need_row_1 T) hr, rd_lettered  h⟩)
theorem ok_lettered_1 {P : Program} {w : World} {K : PySem.W.Frag} {mg : Str → Option Value} {base : Heap} (T : Tx K mg) : DOk P w K mg base 4 (He.fAd K ("lettered", none)) ["row"] [] (sp_lettered K) := by
  obtain ⟨fd, F⟩ := T.d_lettered
  exact ⟨fd, [], .nil, FunD.bindsN F fun _ _ _ _ _ _ us hl => match us, hl with | [_], _ => rfl, fn_lettered T F, F.kp⟩
abbrev N__law_letters : List Str := ["_law_row", "_law_number"]
theorem sc__law_letters : FnScope N__law_letters ["_law_row"] (defScope s__law_letters) := ⟨rfl, rfl, rfl, by decide +kernel, rfl, by decide +kernel, by decide +kernel⟩
theorem wk__law_letters {P : Program} {w : World} {K : PySem.W.Frag} {mg : Str → Option Value} {base : Heap} (T : Tx K mg)  {f : Addr} {cdv : Value} {A : Around} {outer : List Env} {s : Shared} {H : Hp} {E : XK}
    (hr : Room 0 (A.deeper (envOfC "_law_letters" (defScope s__law_letters) s.heap.objs.size f cdv))) :
    PSs (cxOf (L2.CX P w) P w K mg base N__law_letters "_law_letters" (defScope s__law_letters) f cdv A outer s H E) (defBody s__law_letters) (t__law_letters K (fun c d _ H2 => E c d H2)) := by
  have hu1 := hu_of hr
  have hu64 := hr.units
  have tk : Takes (cxOf (L2.CX P w) P w K mg base N__law_letters "_law_letters" (defScope s__law_letters) f cdv A outer s H E) (fun c d _ H2 => E c d H2) := takes_of rfl rfl rfl rfl
  exact (pss_one (ps_ret (pe_joinK (pe_str) (pe_lc (own := [("_law_number", 1)]) rfl sc__law_letters.nd (pi_list (pv 0)) (blkOk_by (own := [("_law_number", 1)]) (N := N__law_letters) (sc := defScope s__law_letters) (by decide +kernel)) (fun _ _ _ _ _ => (pg_name (i := 1) sc__law_letters.nd rfl (Or.inl rfl))) (fun _ _ _ _ _ => pts_nil) (fun _ _ _ _ _ => (pe_op op_addU (pe_ix ix_seq (pe_str) (pe_op op_divU (pv 1) (pe_int)) (fun _ _ => rfl)) (pe_ix ix_seq (pe_str) (pe_op op_modU (pv 1) (pe_int)) (fun _ _ => rfl))))))))
theorem fn__law_letters {P : Program} {w : World} {K : PySem.W.Frag} {mg : Str → Option Value} {base : Heap} (T : Tx K mg) {f : Addr} {fd : FuncData} (F : FunD K d__law_letters.name d__law_letters.qual d__law_letters.params d__law_letters.body d__law_letters.scope (d__law_letters.dvs K) (d__law_letters.kws K) f fd) :
    FnOk P w K mg base (L2.CX P w) 1 f fd ["_law_row"] (sp__law_letters K) :=
  F.ok sc__law_letters (fun vs H Q E h => len__law_letters h) (fun cdv A outer s H vs Q E hr h => ⟨t__law_letters K (fun c d _ H2 => E c d H2), wk__law_letters T  hr, rd__law_letters  h⟩)
theorem ok__law_letters_1 {P : Program} {w : World} {K : PySem.W.Frag} {mg : Str → Option Value} {base : Heap} (T : Tx K mg) : DOk P w K mg base 1 (He.fAd K ("_law_letters", none)) ["_law_row"] [] (sp__law_letters K) := by
  obtain ⟨fd, F⟩ := T.d__law_letters
  exact ⟨fd, [], .nil, FunD.bindsN F fun _ _ _ _ _ _ us hl => match us, hl with | [_], _ => rfl, fn__law_letters T F, F.kp⟩
abbrev N_row_in : List Str := ["letters", "found", "at", "pair", "letter"]
theorem sc_row_in : FnScope N_row_in ["letters"] (defScope s_row_in) := ⟨rfl, rfl, rfl, by decide +kernel, rfl, by decide +kernel, by decide +kernel⟩
theorem wk_row_in {P : Program} {w : World} {K : PySem.W.Frag} {mg : Str → Option Value} {base : Heap} (T : Tx K mg)  {f : Addr} {cdv : Value} {A : Around} {outer : List Env} {s : Shared} {H : Hp} {E : XK}
    (hr : Room 0 (A.deeper (envOfC "row_in" (defScope s_row_in) s.heap.objs.size f cdv))) :
    PSs (cxOf (L2.CX P w) P w K mg base N_row_in "row_in" (defScope s_row_in) f cdv A outer s H E) (defBody s_row_in) (t_row_in K (fun c d _ H2 => E c d H2)) := by
  have hu1 := hu_of hr
  have hu64 := hr.units
  have tk : Takes (cxOf (L2.CX P w) P w K mg base N_row_in "row_in" (defScope s_row_in) f cdv A outer s H E) (fun c d _ H2 => E c d H2) := takes_of rfl rfl rfl rfl
  exact (pss_cons (ps_if (PW.pt (pw_or (pt_not (pt_val (pe_callB call_isi (by rfl) T.f_isinstance bb_isinstance (pa_cons (pv 0) (pa_cons (pe_bty rfl T.f_str bt_str) pa_nil))))) (pw_or1 (pt_cmpR (op_eqU hu64) (pe_op op_modU (pe_callB cr_lenK (by rfl) T.f_len bb_len (pa_cons (pv 0) pa_nil)) (pe_int)) (pe_int) (nomark _))))) (pss_one (ps_rz rfl tk T.x_BadLetters T.g_BadLetters rfl)) pss_nil)
    (pss_cons (ps_set (i := 1) sc_row_in.nd rfl (Or.inl rfl) (pe_lst pa_nil))
    (pss_cons (ps_for (passes_of rfl) rfl (pi_range3 rfl T.f_range (pa_cons (pe_int) (pa_cons (pe_callB cr_lenK (by rfl) T.f_len bb_len (pa_cons (pv 0) pa_nil)) (pa_cons (pe_int) pa_nil)))) (pg_name (i := 2) sc_row_in.nd rfl (Or.inl rfl)) (pss_cons (ps_setLc (i := 3) (own := [("letter", 4)]) rfl sc_row_in.nd rfl rfl (sw_true rfl rfl rfl (by decide +kernel)) (pi_str (pe_slice sl_K (pv 0) (po_some (pv 2)) (po_some (pe_op op_addU (pv 2) (pe_int))))) (blkOk_by (own := [("letter", 4)]) (N := N_row_in) (sc := defScope s_row_in) (by decide +kernel)) (fun _ _ _ _ _ => (pg_name (i := 4) sc_row_in.nd rfl (Or.inl rfl))) (fun _ _ _ _ _ => pts_nil) (fun _ _ _ _ _ => (pe_find (pe_gstr rfl T.g_LETTERS) (pv 4))))
    (pss_cons (ps_if (pt_cmpR op_inU (pe_un un_negU (pe_int)) (pv 3) (by rfl)) (pss_one (ps_rz rfl tk T.x_BadLetters T.g_BadLetters rfl)) pss_nil)
    (pss_one (ps_expr (pe_bm PySem.F.plainAttrs_list PySem.F.slot_list_append PySem.F.type_list_append mt_append (pv 1) (pa_cons (pe_op op_addU (pe_op op_mulU (pe_int) (pe_ix ix_seq (pv 3) (pe_int) (fun _ _ => rfl))) (pe_ix ix_seq (pv 3) (pe_int) (fun _ _ => rfl))) pa_nil)))))))
    (pss_one (ps_ret (pv 1))))))
theorem fn_row_in {P : Program} {w : World} {K : PySem.W.Frag} {mg : Str → Option Value} {base : Heap} (T : Tx K mg) {f : Addr} {fd : FuncData} (F : FunD K d_row_in.name d_row_in.qual d_row_in.params d_row_in.body d_row_in.scope (d_row_in.dvs K) (d_row_in.kws K) f fd) :
    FnOk P w K mg base (L2.CX P w) 1 f fd ["letters"] (sp_row_in K) :=
  F.ok sc_row_in (fun vs H Q E h => len_row_in h) (fun cdv A outer s H vs Q E hr h => ⟨t_row_in K (fun c d _ H2 => E c d H2), wk_row_in T  hr, rd_row_in  h⟩)
theorem ok_row_in_1 {P : Program} {w : World} {K : PySem.W.Frag} {mg : Str → Option Value} {base : Heap} (T : Tx K mg) : DOk P w K mg base 1 (He.fAd K ("row_in", none)) ["letters"] [] (sp_row_in K) := by
  obtain ⟨fd, F⟩ := T.d_row_in
  exact ⟨fd, [], .nil, FunD.bindsN F fun _ _ _ _ _ _ us hl => match us, hl with | [_], _ => rfl, fn_row_in T F, F.kp⟩
abbrev N__law_is_number : List Str := ["_law_thing"]
theorem sc__law_is_number : FnScope N__law_is_number ["_law_thing"] (defScope s__law_is_number) := ⟨rfl, rfl, rfl, by decide +kernel, rfl, by decide +kernel, by decide +kernel⟩
theorem wk__law_is_number {P : Program} {w : World} {K : PySem.W.Frag} {mg : Str → Option Value} {base : Heap} (T : Tx K mg)  {f : Addr} {cdv : Value} {A : Around} {outer : List Env} {s : Shared} {H : Hp} {E : XK}
    (hr : Room 0 (A.deeper (envOfC "_law_is_number" (defScope s__law_is_number) s.heap.objs.size f cdv))) :
    PSs (cxOf (L2.CX P w) P w K mg base N__law_is_number "_law_is_number" (defScope s__law_is_number) f cdv A outer s H E) (defBody s__law_is_number) (t__law_is_number K (fun c d _ H2 => E c d H2)) := by
  have hu1 := hu_of hr
  have hu64 := hr.units
  have tk : Takes (cxOf (L2.CX P w) P w K mg base N__law_is_number "_law_is_number" (defScope s__law_is_number) f cdv A outer s H E) (fun c d _ H2 => E c d H2) := takes_of rfl rfl rfl rfl
  exact (pss_one (ps_ret ((pe_and (pe_callB call_isi (by rfl) T.f_isinstance bb_isinstance (pa_cons (pv 0) (pa_cons (pe_bty rfl T.f_int bt_int) pa_nil))) (pe_one (pe_not (pe_callB call_isi (by rfl) T.f_isinstance bb_isinstance (pa_cons (pv 0) (pa_cons (pe_bty rfl T.f_bool bt_bool) pa_nil)))))))))
theorem fn__law_is_number {P : Program} {w : World} {K : PySem.W.Frag} {mg : Str → Option Value} {base : Heap} (T : Tx K mg) {f : Addr} {fd : FuncData} (F : FunD K d__law_is_number.name d__law_is_number.qual d__law_is_number.params d__law_is_number.body d__law_is_number.scope (d__law_is_number.dvs K) (d__law_is_number.kws K) f fd) :
    FnOk P w K mg base (L2.CX P w) 1 f fd ["_law_thing"] (sp__law_is_number K) :=
  F.ok sc__law_is_number (fun vs H Q E h => len__law_is_number h) (fun cdv A outer s H vs Q E hr h => ⟨t__law_is_number K (fun c d _ H2 => E c d H2), wk__law_is_number T  hr, rd__law_is_number  h⟩)
theorem ok__law_is_number_1 {P : Program} {w : World} {K : PySem.W.Frag} {mg : Str → Option Value} {base : Heap} (T : Tx K mg) : DOk P w K mg base 1 (He.fAd K ("_law_is_number", none)) ["_law_thing"] [] (sp__law_is_number K) := by
  obtain ⟨fd, F⟩ := T.d__law_is_number
  exact ⟨fd, [], .nil, FunD.bindsN F fun _ _ _ _ _ _ us hl => match us, hl with | [_], _ => rfl, fn__law_is_number T F, F.kp⟩
abbrev N__law_word : List Str := ["_law_way", "_law_thing", "e"]
theorem sc__law_word : FnScope N__law_word ["_law_way", "_law_thing"] (defScope s__law_word) := ⟨rfl, rfl, rfl, by decide +kernel, rfl, by decide +kernel, by decide +kernel⟩
theorem wk__law_word {P : Program} {w : World} {K : PySem.W.Frag} {mg : Str → Option Value} {base : Heap} (T : Tx K mg) (O0 : DOk P w K mg base 4 (He.fAd K ("lettered", none)) ["row"] [] (sp_lettered K)) (O1 : DOk P w K mg base 1 (He.fAd K ("row_in", none)) ["letters"] [] (sp_row_in K)) {f : Addr} {cdv : Value} {A : Around} {outer : List Env} {s : Shared} {H : Hp} {E : XK}
    (hr : Room 4 (A.deeper (envOfC "_law_word" (defScope s__law_word) s.heap.objs.size f cdv))) :
    PSs (cxOf (L2.CX P w) P w K mg base N__law_word "_law_word" (defScope s__law_word) f cdv A outer s H E) (defBody s__law_word) (t__law_word K (fun c d _ H2 => E c d H2)) := by
  obtain ⟨fd0, ds0, v0, b0, G0, q0⟩ := O0
  obtain ⟨fd1, ds1, v1, b1, G1, q1⟩ := O1
  have hu1 := hu_of hr
  have hu64 := hr.units
  have tk : Takes (cxOf (L2.CX P w) P w K mg base N__law_word "_law_word" (defScope s__law_word) f cdv A outer s H E) (fun c d _ H2 => E c d H2) := takes_of rfl rfl rfl rfl
  exact (pss_cons (ps_tryAs rfl rfl sc__law_word.nd rfl rfl ⟨rfl, by decide, .inl T.g_PressError⟩ tk (fun W pn xe tk po => (pss_one (ps_if (pt_cmpR (op_eqU hu64) (pv 0) (pe_int) (nomark _)) (pss_one (ps_expr (pe_cl G0 (hr.mono (by decide)) rfl T.g_lettered q0 b0 v0 tk (pa_cons (pv 1) pa_nil)))) (pss_one (ps_expr (pe_cl G1 (hr.mono (by decide)) rfl T.g_row_in q1 b1 v1 tk (pa_cons (pv 1) pa_nil)))))))
    (fun a oe cls d pn hz hf => (pss_cons (ps_if (PW.pt (pw_or (pt_not (pt_val (pe_callB (call_isX hz hf) (by rfl) T.f_isinstance bb_isinstance (pa_cons (pv 2) (pa_cons (pe_bty rfl T.f_ValueError bt_ValueError) pa_nil))))) (pw_or1 (pt_cmpR (op_eqU hu64) (pe_callB (call_isX hz hf) (by rfl) T.f_isinstance bb_isinstance (pa_cons (pv 2) (pa_cons (pe_gref rfl T.g_BadRow) pa_nil))) (pe_callB (call_isX hz hf) (by rfl) T.f_isinstance bb_isinstance (pa_cons (pv 2) (pa_cons (pe_gref rfl T.g_BadLetters) pa_nil))) (nomark _))))) (pss_one (ps_ret (pe_str))) pss_nil)
    (pss_one (ps_ret (pe_ix ix_seq (pe_lst (pa_cons (pe_str) (pa_cons (pe_str) pa_nil))) (pe_callTy cr_intK (by rfl) T.f_int bt_int (pa_cons (pe_callB (call_isX hz hf) (by rfl) T.f_isinstance bb_isinstance (pa_cons (pv 2) (pa_cons (pe_gref rfl T.g_BadLetters) pa_nil))) pa_nil)) (fun _ _ => rfl)))))))
    (pss_one (ps_ret (pe_str))))
theorem fn__law_word {P : Program} {w : World} {K : PySem.W.Frag} {mg : Str → Option Value} {base : Heap} (T : Tx K mg) {f : Addr} {fd : FuncData} (F : FunD K d__law_word.name d__law_word.qual d__law_word.params d__law_word.body d__law_word.scope (d__law_word.dvs K) (d__law_word.kws K) f fd) :
    FnOk P w K mg base (L2.CX P w) 5 f fd ["_law_way", "_law_thing"] (sp__law_word K) :=
  F.ok sc__law_word (fun vs H Q E h => len__law_word h) (fun cdv A outer s H vs Q E hr h => ⟨t__law_word K (fun c d _ H2 => E c d H2), wk__law_word T (ok_lettered_1 T) (ok_row_in_1 T) hr, rd__law_word (of_KExc29 T) h⟩)
theorem ok__law_word_2 {P : Program} {w : World} {K : PySem.W.Frag} {mg : Str → Option Value} {base : Heap} (T : Tx K mg) : DOk P w K mg base 5 (He.fAd K ("_law_word", none)) ["_law_way", "_law_thing"] [] (sp__law_word K) := by
  obtain ⟨fd, F⟩ := T.d__law_word
  exact ⟨fd, [], .nil, FunD.bindsN F fun _ _ _ _ _ _ us hl => match us, hl with | [_, _], _ => rfl, fn__law_word T F, F.kp⟩
abbrev N__law_bent : List Str := ["_law_letters_here", "_law_cell", "_law_at", "_law_sign"]
theorem sc__law_bent : FnScope N__law_bent ["_law_letters_here", "_law_cell"] (defScope s__law_bent) := ⟨rfl, rfl, rfl, by decide +kernel, rfl, by decide +kernel, by decide +kernel⟩
theorem wk__law_bent {P : Program} {w : World} {K : PySem.W.Frag} {mg : Str → Option Value} {base : Heap} (T : Tx K mg)  {f : Addr} {cdv : Value} {A : Around} {outer : List Env} {s : Shared} {H : Hp} {E : XK}
    (hr : Room 0 (A.deeper (envOfC "_law_bent" (defScope s__law_bent) s.heap.objs.size f cdv))) :
    PSs (cxOf (L2.CX P w) P w K mg base N__law_bent "_law_bent" (defScope s__law_bent) f cdv A outer s H E) (defBody s__law_bent) (t__law_bent K (fun c d _ H2 => E c d H2)) := by
  have hu1 := hu_of hr
  have hu64 := hr.units
  have tk : Takes (cxOf (L2.CX P w) P w K mg base N__law_bent "_law_bent" (defScope s__law_bent) f cdv A outer s H E) (fun c d _ H2 => E c d H2) := takes_of rfl rfl rfl rfl
  exact (pss_cons (ps_set (i := 2) sc__law_bent.nd rfl (Or.inl rfl) (pe_op op_modU (pe_op op_divU (pv 1) (pe_int)) (pe_op op_addU (pe_callB cr_lenK (by rfl) T.f_len bb_len (pa_cons (pv 0) pa_nil)) (pe_int))))
    (pss_cons (ps_set (i := 3) sc__law_bent.nd rfl (Or.inl rfl) (pe_ix ix_seq (pe_str) (pe_op op_modU (pe_op op_divU (pv 1) (pe_int)) (pe_int)) (fun _ _ => rfl)))
    (pss_cons (ps_if (pt_cmpR op_ltU (pe_op op_modU (pv 1) (pe_int)) (pe_int) (nomark _)) (pss_one (ps_ret (pe_op op_addU (pe_op op_addU (pe_op op_addU (pe_slice sl_K (pv 0) po_none (po_some (pv 2))) (pv 3)) (pe_slice sl_K (pv 0) (po_some (pv 2)) po_none)) (pe_str)))) pss_nil)
    (pss_cons (ps_if (pt_cmpR (op_eqU hu64) (pe_op op_modU (pv 1) (pe_int)) (pe_int) (nomark _)) (pss_one (ps_ret (pe_op op_addU (pe_op op_addU (pe_slice sl_K (pv 0) po_none (po_some (pv 2))) (pe_str)) (pe_slice sl_K (pv 0) (po_some (pv 2)) po_none)))) pss_nil)
    (pss_cons (ps_if (pt_cmpR (op_eqU hu64) (pe_op op_modU (pv 1) (pe_int)) (pe_int) (nomark _)) (pss_one (ps_ret (pe_op op_addU (pv 0) (pe_str)))) pss_nil)
    (pss_cons (ps_if (pt_cmpR (op_eqU hu64) (pe_op op_modU (pv 1) (pe_int)) (pe_int) (nomark _)) (pss_one (ps_ret (pe_upperK (pe_op op_addU (pv 0) (pe_str))))) pss_nil)
    (pss_one (ps_ret (pe_ix ix_seq (pe_lst (pa_cons (pe_non) (pa_cons (pe_int) (pa_cons (pe_lst (pa_cons (pe_str) pa_nil)) (pa_cons (pe_tup (pa_cons (pe_str) (pa_cons (pe_str) pa_nil))) (pa_cons (pe_dnewK) (pa_cons (pe_bl) pa_nil))))))) (pe_op op_modU (pe_op op_divU (pv 1) (pe_int)) (pe_int)) (fun _ _ => rfl))))))))))
theorem fn__law_bent {P : Program} {w : World} {K : PySem.W.Frag} {mg : Str → Option Value} {base : Heap} (T : Tx K mg) {f : Addr} {fd : FuncData} (F : FunD K d__law_bent.name d__law_bent.qual d__law_bent.params d__law_bent.body d__law_bent.scope (d__law_bent.dvs K) (d__law_bent.kws K) f fd) :
    FnOk P w K mg base (L2.CX P w) 1 f fd ["_law_letters_here", "_law_cell"] (sp__law_bent K) :=
  F.ok sc__law_bent (fun vs H Q E h => len__law_bent h) (fun cdv A outer s H vs Q E hr h => ⟨t__law_bent K (fun c d _ H2 => E c d H2), wk__law_bent T  hr, rd__law_bent  h⟩)
theorem ok__law_bent_2 {P : Program} {w : World} {K : PySem.W.Frag} {mg : Str → Option Value} {base : Heap} (T : Tx K mg) : DOk P w K mg base 1 (He.fAd K ("_law_bent", none)) ["_law_letters_here", "_law_cell"] [] (sp__law_bent K) := by
  obtain ⟨fd, F⟩ := T.d__law_bent
  exact ⟨fd, [], .nil, FunD.bindsN F fun _ _ _ _ _ _ us hl => match us, hl with | [_, _], _ => rfl, fn__law_bent T F, F.kp⟩
abbrev N_law : List Str := ["_law_script", "_law_row", "_law_k", "_law_number", "_law_handed", "_law_letters_here", "_law_found", "_law_cell", "_law_odd"]
theorem sc_law : FnScope N_law ["_law_script"] (defScope s_law) := ⟨rfl, rfl, rfl, by decide +kernel, rfl, by decide +kernel, by decide +kernel⟩
theorem wk_law {P : Program} {w : World} {K : PySem.W.Frag} {mg : Str → Option Value} {base : Heap} (T : Tx K mg) (O0 : DOk P w K mg base 1 (He.fAd K ("_law_cell_at", none)) ["_law_script", "_law_k"] [] (sp__law_cell_at K)) (O1 : DOk P w K mg base 1 (He.fAd K ("_law_mixed", none)) ["_law_cell", "_law_k"] [] (sp__law_mixed K)) (O2 : DOk P w K mg base 4 (He.fAd K ("lettered", none)) ["row"] [] (sp_lettered K)) (O3 : DOk P w K mg base 1 (He.fAd K ("_law_letters", none)) ["_law_row"] [] (sp__law_letters K)) (O4 : DOk P w K mg base 1 (He.fAd K ("row_in", none)) ["letters"] [] (sp_row_in K)) (O5 : DOk P w K mg base 1 (He.fAd K ("_law_is_number", none)) ["_law_thing"] [] (sp__law_is_number K)) (O6 : DOk P w K mg base 5 (He.fAd K ("_law_word", none)) ["_law_way", "_law_thing"] [] (sp__law_word K)) (O7 : DOk P w K mg base 1 (He.fAd K ("_law_bent", none)) ["_law_letters_here", "_law_cell"] [] (sp__law_bent K)) {f : Addr} {cdv : Value} {A : Around} {outer : List Env} {s : Shared} {H : Hp} {E : XK}
    (hr : Room 5 (A.deeper (envOfC "law" (defScope s_law) s.heap.objs.size f cdv))) :
    PSs (cxOf (L2.CX P w) P w K mg base N_law "law" (defScope s_law) f cdv A outer s H E) (defBody s_law) (t_law K (fun c d _ H2 => E c d H2)) := by
  obtain ⟨fd0, ds0, v0, b0, G0, q0⟩ := O0
  obtain ⟨fd1, ds1, v1, b1, G1, q1⟩ := O1
  obtain ⟨fd2, ds2, v2, b2, G2, q2⟩ := O2
  obtain ⟨fd3, ds3, v3, b3, G3, q3⟩ := O3
  obtain ⟨fd4, ds4, v4, b4, G4, q4⟩ := O4
  obtain ⟨fd5, ds5, v5, b5, G5, q5⟩ := O5
  obtain ⟨fd6, ds6, v6, b6, G6, q6⟩ := O6
  obtain ⟨fd7, ds7, v7, b7, G7, q7⟩ := O7
  have hu1 := hu_of hr
  have hu64 := hr.units
  have tk : Takes (cxOf (L2.CX P w) P w K mg base N_law "law" (defScope s_law) f cdv A outer s H E) (fun c d _ H2 => E c d H2) := takes_of rfl rfl rfl rfl
  exact (pss_cons (ps_set (i := 1) sc_law.nd rfl (Or.inl rfl) (pe_lst pa_nil))
    (pss_cons (ps_for (passes_of rfl) rfl (pi_range1 rfl T.f_range (pa_cons (pe_op op_modU (pe_cl G0 (hr.mono (by decide)) rfl T.g__law_cell_at q0 b0 v0 tk (pa_cons (pv 0) (pa_cons (pe_int) pa_nil))) (pe_int)) pa_nil)) (pg_name (i := 2) sc_law.nd rfl (Or.inl rfl)) (pss_cons (ps_set (i := 3) sc_law.nd rfl (Or.inl rfl) (pe_cl G1 (hr.mono (by decide)) rfl T.g__law_mixed q1 b1 v1 tk (pa_cons (pe_cl G0 (hr.mono (by decide)) rfl T.g__law_cell_at q0 b0 v0 tk (pa_cons (pv 0) (pa_cons (pe_op op_addU (pe_int) (pe_op op_modU (pv 2) (pe_int))) pa_nil))) (pa_cons (pv 2) pa_nil))))
    (pss_one (ps_expr (pe_bm PySem.F.plainAttrs_list PySem.F.slot_list_append PySem.F.type_list_append mt_append (pv 1) (pa_cons (pe_ix ix_seq (pe_lst (pa_cons (pe_int) (pa_cons (pe_int) (pa_cons (pe_int) (pa_cons (pe_int) (pa_cons (pe_int) (pa_cons (pe_op op_modU (pe_op op_divU (pv 3) (pe_int)) (pe_int)) (pa_cons (pe_op op_modU (pe_op op_divU (pv 3) (pe_int)) (pe_int)) (pa_cons (pe_op op_modU (pe_op op_divU (pv 3) (pe_int)) (pe_int)) pa_nil))))))))) (pe_op op_modU (pv 3) (pe_int)) (fun _ _ => rfl)) pa_nil))))))
    (pss_cons (ps_set (i := 4) sc_law.nd rfl (Or.inl rfl) (pe_callTy cr_listK (by rfl) T.f_list bt_list (pa_cons (pv 1) pa_nil)))
    (pss_cons (ps_set (i := 5) sc_law.nd rfl (Or.inl rfl) (pe_cl G2 (hr.mono (by decide)) rfl T.g_lettered q2 b2 v2 tk (pa_cons (pv 4) pa_nil)))
    (pss_cons (ps_if (PW.pt (pw_or (pt_not (pt_val (pe_callB call_isi (by rfl) T.f_isinstance bb_isinstance (pa_cons (pv 5) (pa_cons (pe_bty rfl T.f_str bt_str) pa_nil))))) (pw_or (pt_cmpR (op_neU hu64) (pv 5) (pe_cl G3 (hr.mono (by decide)) rfl T.g__law_letters q3 b3 v3 tk (pa_cons (pv 1) pa_nil)) (nomark _)) (pw_or1 (pt_cmpR (op_neU hu64) (pv 4) (pv 1) (nomark _)))))) (pss_one (ps_ret (pe_bl))) pss_nil)
    (pss_cons (ps_set (i := 6) sc_law.nd rfl (Or.inl rfl) (pe_cl G4 (hr.mono (by decide)) rfl T.g_row_in q4 b4 v4 tk (pa_cons (pv 5) pa_nil)))
    (pss_cons (ps_if (PW.pt (pw_or (pt_not (pt_val (pe_callB call_isi (by rfl) T.f_isinstance bb_isinstance (pa_cons (pv 6) (pa_cons (pe_bty rfl T.f_list bt_list) pa_nil))))) (pw_or (pt_cmpR (op_neU hu64) (pv 6) (pv 1) (nomark _)) (pw_or1 (pt_not (pt_val (pe_callB (cr_all rfl) (by rfl) T.f_all bb_all (pa_cons (pe_lc (own := [("_law_number", 3)]) rfl sc_law.nd (pi_list (pv 6)) (blkOk_by (own := [("_law_number", 3)]) (N := N_law) (sc := defScope s_law) (by decide +kernel)) (fun _ _ _ _ _ => (pg_name (i := 3) sc_law.nd rfl (Or.inl rfl))) (fun _ _ _ _ _ => pts_nil) (fun _ _ _ _ _ => (pe_cl G5 (hr.mono (by decide)) rfl T.g__law_is_number q5 b5 v5 takes0 (pa_cons (pv 3) pa_nil)))) pa_nil)))))))) (pss_one (ps_ret (pe_bl))) pss_nil)
    (pss_cons (ps_expr (pe_bm PySem.F.plainAttrs_list PySem.F.slot_list_append PySem.F.type_list_append mt_append (pv 6) (pa_cons (pe_int) pa_nil)))
    (pss_cons (ps_if (PW.pt (pw_or (pt_cmpR (op_neU hu64) (pe_cl G4 (hr.mono (by decide)) rfl T.g_row_in q4 b4 v4 tk (pa_cons (pv 5) pa_nil)) (pv 1) (nomark _)) (pw_or1 (pt_cmpR (op_neU hu64) (pe_cl G2 (hr.mono (by decide)) rfl T.g_lettered q2 b2 v2 tk (pa_cons (pe_cl G4 (hr.mono (by decide)) rfl T.g_row_in q4 b4 v4 tk (pa_cons (pe_op op_addU (pe_str) (pv 5)) pa_nil)) pa_nil)) (pe_op op_addU (pe_str) (pv 5)) (nomark _))))) (pss_one (ps_ret (pe_bl))) pss_nil)
    (pss_cons (ps_set (i := 7) sc_law.nd rfl (Or.inl rfl) (pe_cl G0 (hr.mono (by decide)) rfl T.g__law_cell_at q0 b0 v0 tk (pa_cons (pv 0) (pa_cons (pe_int) pa_nil))))
    (pss_cons (ps_if (pt_cmpR (op_neU hu64) (pe_cl G6 (hr.mono (by decide)) rfl T.g__law_word q6 b6 v6 tk (pa_cons (pe_int) (pa_cons (pe_cl G7 (hr.mono (by decide)) rfl T.g__law_bent q7 b7 v7 tk (pa_cons (pv 5) (pa_cons (pv 7) pa_nil))) pa_nil))) (pe_str) (nomark _)) (pss_one (ps_ret (pe_bl))) pss_nil)
    (pss_cons (ps_set (i := 8) sc_law.nd rfl (Or.inl rfl) (pe_ix ix_seq (pe_lst (pa_cons (pe_op op_addU (pv 1) (pe_lst (pa_cons (pe_int) pa_nil))) (pa_cons (pe_op op_addU (pv 1) (pe_lst (pa_cons (pe_un un_negU (pe_int)) pa_nil))) (pa_cons (pe_lst (pa_cons (pe_bl) pa_nil)) (pa_cons (pe_non) (pa_cons (pe_str) (pa_cons (pe_callTy cr_tupleK (by rfl) T.f_tuple bt_tuple (pa_cons (pv 1) pa_nil)) (pa_cons (pe_dnewK) (pa_cons (pe_int) (pa_cons (pe_lst (pa_cons (pe_non) pa_nil)) (pa_cons (pe_lst (pa_cons (pe_lst (pa_cons (pe_int) pa_nil)) pa_nil)) pa_nil))))))))))) (pe_op op_modU (pe_op op_divU (pv 7) (pe_int)) (pe_int)) (fun _ _ => rfl)))
    (pss_one (ps_ret ((pe_and (pe_cmpR (op_eqU hu64) (pe_cl G6 (hr.mono (by decide)) rfl T.g__law_word q6 b6 v6 tk (pa_cons (pe_int) (pa_cons (pv 8) pa_nil))) (pe_str) (nomark _)) (pe_and (pe_cmpR (op_eqU hu64) (pe_cl G2 (hr.mono (by decide)) rfl T.g_lettered q2 b2 v2 tk (pa_cons (pv 4) pa_nil)) (pv 5) (nomark _)) (pe_one (pe_cmpR (op_eqU hu64) (pv 4) (pv 1) (nomark _))))))))))))))))))))
theorem fn_law {P : Program} {w : World} {K : PySem.W.Frag} {mg : Str → Option Value} {base : Heap} (T : Tx K mg) {f : Addr} {fd : FuncData} (F : FunD K d_law.name d_law.qual d_law.params d_law.body d_law.scope (d_law.dvs K) (d_law.kws K) f fd) :
    FnOk P w K mg base (L2.CX P w) 6 f fd ["_law_script"] (sp_law K) :=
  F.ok sc_law (fun vs H Q E h => len_law h) (fun cdv A outer s H vs Q E hr h => ⟨t_law K (fun c d _ H2 => E c d H2), wk_law T (ok__law_cell_at_2 T) (ok__law_mixed_2 T) (ok_lettered_1 T) (ok__law_letters_1 T) (ok_row_in_1 T) (ok__law_is_number_1 T) (ok__law_word_2 T) (ok__law_bent_2 T) hr, rd_law  h⟩)
end L2.BW
namespace L2.BW
open PySem PySem.Spec PyProof.Rows
theorem calmly {P : Program} {w : World} {K : PySem.W.Frag} {mg : Str → Option Value} {base : Heap} {k : Nat} {f : Addr} {fd : FuncData} {ps : List Str} {sp : Sp}
    (hE : ∀ vs H Q E, sp vs H Q E → sp vs H Q fun _ _ _ => False) (F : FnOk P w K mg base (L2.CX P w) k f fd ps sp) : FnOk P w K mg base CX0 k f fd ps sp :=
  ⟨F.len, fun A outer s H args us vs Q E hr he hb hv hs => codeAny_mono (F.run A outer s H args us vs Q _ hr he hb hv (hE _ _ _ _ hs)) fun r s' z => by
    match r, z with
    | .error e, z =>
      obtain ⟨_, _, _, _, _, _, _, _, _, _, _, _, z⟩ := z
      exact z.elim
    | .ok (.ret u), z => exact z⟩
end L2.BW
open PySem PySem.W PySem.Calls PyProof.Rows
theorem PySem.Challenge.cw_balepress_k29_letters_holds : PySem.Challenge.rw_balepress_k29_letters.Holds := by
  w_on; o_law
  refine HandSHeadRun.head_any (r := OpenLaw.row PySem.Challenge.rw_balepress_k29_letters) (q := view (OpenLaw.row PySem.Challenge.rw_balepress_k29_letters).prog [20]) (H := L2.BH.hk) (ob := L2.BH.ob) (M := 40000) (loose := L2.BH.loose) (d := HandSHeadRun.topDef (OpenLaw.row PySem.Challenge.rw_balepress_k29_letters).prog 20) (kwd := [])
    L2.BH.ob_eq (by kernel_rfl) (fun s => by kernel_rfl) L2.BH.run (by kernel_rfl) (by kernel_rfl) (by kernel_rfl) (by rfl) (by first | assumption | decide +kernel) (by decide +kernel)
    ⟨rfl, rfl, rfl, rfl, rfl, by decide +kernel⟩ ?hw ?hc
  case hw => w_witness2
  case hc =>
    refine L2.walk_ofE (l := PySem.Challenge.rw_balepress_k29_letters) (n := 63) (k := 6) (x := "_law_script") (CX := L2.CX0) rfl (by decide) (by kernel_rfl) ⟨rfl, by decide, by decide⟩ ?F (fun _ _ _ _ z => z)
    intro w mg fa h Y G hmg0
    obtain ⟨K, KX, c⟩ := Y
    have hmg : mg ("law" : PySem.Str) = some (.ref fa) := by
      have e : (HandSHeadRun.topDef (OpenLaw.row PySem.Challenge.rw_balepress_k29_letters).prog 20).name = ("law" : PySem.Str) := by kernel_rfl
      exact e ▸ hmg0
    have T := L2.BW.tx_of KX G c.t.d c.more
    obtain ⟨fd, F⟩ := T.d_law
    have e := hmg.symm.trans T.g_law
    cases e
    have b := L2.FunD.bindsA (ps := ["_law_script"]) F fun _ _ _ _ _ _ us hl => match us, hl with | [_], _ => rfl
    exact ⟨K, fd, L2.BR.sp_law K, KX, fun s v => b s [v] rfl, fun H a ns hl _ hS => ⟨a, ns, rfl, hS, hl, fun _ => rfl⟩, fun base _ _ => L2.BW.calmly (fun _ _ _ _ h => h) (L2.BW.fn_law T F)⟩
