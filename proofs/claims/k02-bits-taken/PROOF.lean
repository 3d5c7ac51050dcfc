import PyProof.Rows.All
import Wide.All
import OpenK.AllK
import Wide.FinOn
import HandS.ForMost
import HandS.ForExc
import HandS.Defaults
import HandS.CallSlots
import HandS.IsInst
import HandS.Style
import HandS.Small
import HandS.Conv
import HandS.TryElse
import HandS.HeadHook2
import HandS.Evl
import HandS.Flow
import HandS.Zip
import HandS.Text
import HandS.ExcIs
import HandS.ExcCtx
import HandS.WideBits
import HandS.Hot
import HandS.HotCalls
import PyProof.StrOps2
import KE.KStateDown
import Lean
import HandS.HeadEnd
import HandS.Head0
import HandS.Head1
import HandS.Head2
import HandS.HeadHook1
import HandS.HeadHook4
import PySem.Challenge.RW_balepress_k02_bits_taken
set_option Elab.async false
set_option linter.all false
set_option maxRecDepth 100000
set_option maxHeartbeats 0
/-! BLib: rules that take several kinds of values at once, calls that may let an error out at the caller's slots, and a picture of the heap as a list of own objects over a base. -/
namespace L2.BP
open PySem PySem.Spec PyProof.Rows
section
variable {X : Cx}
/-! ### operators, by kinds -/
def rAddStr : R2 := fun x y H Q => ∃ i j, x = .str i ∧ y = .str j ∧ i.length + j.length ≤ sizeLine ∧ Q (.str (i ++ j)) H
def rAddI : R2 := rI0 fun i j => .int (i + j)
def rAddU : R2 := fun x y H Q => rAddI x y H Q ∨ rAddStr x y H Q ∨ rCat x y H Q
theorem op_addU : OpR X (binaryOp .Add) rAddU := OpR.or op_add (OpR.or op_add_str op_cat)
def rSubU : R2 := rI0 fun i j => .int (i - j)
theorem op_subU : OpR X (binaryOp .Sub) rSubU := op_sub
def rMulI : R2 := rI CMul fun i j => .int (i * j)
def repS (z : Str) (k : Nat) : Str := if k = 0 then Str.empty else if k = 1 ∨ z.length = 0 then z else ⟨(List.replicate k z.cps).foldl (· ++ ·) #[]⟩
def rRepS : R2 := fun x y H Q => ∃ (z : Str) (k : Nat), x = .str z ∧ y = .int ((k : Nat) : Int) ∧ k ≤ 1000 ∧ z.length ≤ 1000 ∧ (repS z k).length ≤ 1000000 ∧ Q (.str (repS z k)) H
theorem op_repS : OpR X (binaryOp .Mult) rRepS := by
  intro pins s σ H x y v u Q I rx ry h
  obtain ⟨z, k, rfl, rfl, hk, hz, hl, q⟩ := h
  obtain ⟨t, rfl⟩ := rx
  obtain ⟨t', rfl⟩ := ry
  have hm : z.length * k ≤ 1000 * 1000 := Nat.mul_le_mul hz hk
  refine PySem.P.mul_str ?_ ?_ ?_ ?_
  · rw [decide_eq_false (by omega), decide_eq_false (by omega)]
    rfl
  · intro h1 h2 h3
    have h4 : 9223372036854775 ≤ (2 ^ 63 - 1) / ((k : Nat) : Int) := by
      refine (Int.le_ediv_iff_mul_le (by omega)).mpr ?_
      omega
    omega
  · intro h1 h2
    unfold Builtin.Str.tooLong
    rw [Int.toNat_natCast]
    exact decide_eq_false (Nat.not_lt.mpr (Nat.le_trans hm (by decide)))
  · unfold repS at q hl
    by_cases h0 : k = 0
    · subst h0
      rw [if_pos rfl] at q
      rw [if_pos (by decide)]
      exact ⟨by decide, .str Str.empty, H, I.tok _, ⟨_, rfl⟩, q⟩
    · rw [if_neg h0] at q hl
      rw [if_neg (by omega)]
      by_cases h1 : k = 1 ∨ z.length = 0
      · rw [if_pos h1] at q
        have e : ((((k : Nat) : Int) == 1) || z.length == 0) = true := by
          rcases h1 with e | e
          · subst e
            rfl
          · rw [e]
            simp
        rw [e, if_pos rfl]
        exact ⟨.str z, H, I, ⟨_, rfl⟩, q⟩
      · rw [if_neg h1] at q hl
        have e : ((((k : Nat) : Int) == 1) || z.length == 0) = false := by
          have e1 : ¬ k = 1 := fun h => h1 (.inl h)
          have e2 : ¬ z.length = 0 := fun h => h1 (.inr h)
          have e3 : (((k : Nat) : Int) == 1) = false := by
            rw [beq_eq_false_iff_ne]
            omega
          have e4 : (z.length == 0) = false := by
            rw [beq_eq_false_iff_ne]
            exact e2
          rw [e3, e4]
          rfl
        rw [e, if_neg Bool.false_ne_true, Int.toNat_natCast]
        exact ⟨Nat.le_trans hl (by decide), .str _, H, I.tok _, ⟨_, rfl⟩, q⟩
def rMulU : R2 := fun x y H Q => rMulI x y H Q ∨ rRep x y H Q ∨ rRepS x y H Q
theorem op_mulU : OpR X (binaryOp .Mult) rMulU := OpR.or op_mul (OpR.or op_rep op_repS)
def rDivU : R2 := rI CDiv fun i j => .int (i / j)
theorem op_divU : OpR X (binaryOp .FloorDiv) rDivU := op_fdiv
def rModU : R2 := rI (fun _ j => 0 < j) fun i j => .int (i % j)
theorem op_modU : OpR X (binaryOp .Mod) rModU := op_mod
def rPowU : R2 := rI CPow fun i j => .int (i ^ j.toNat)
theorem op_powU : OpR X (binaryOp .Pow) rPowU := op_pow
def rShlU : R2 := fun x y H Q => rI CPow (fun i j => .int (i * 2 ^ j.toNat)) x y H Q ∨ rI CShl (fun i j => .int (i * 2 ^ j.toNat)) x y H Q
theorem op_shlU : OpR X (binaryOp .LShift) rShlU := OpR.or op_shl op_shlW
def rShrU : R2 := rI (fun _ j => 0 ≤ j) fun i j => .int (i / 2 ^ j.toNat)
theorem op_shrU : OpR X (binaryOp .RShift) rShrU := op_shr
def rAndU : R2 := rI0 fun i j => .int (Builtin.bitAnd i j)
theorem op_andU : OpR X (binaryOp .BitAnd) rAndU := op_and
def rOrU : R2 := rI0 fun i j => .int (Builtin.bitOr i j)
theorem op_orU : OpR X (binaryOp .BitOr) rOrU := op_or
def rXorU : R2 := rI0 fun i j => .int (Builtin.bitXor i j)
theorem op_xorU : OpR X (binaryOp .BitXor) rXorU := op_xor
def rNegU : V → Hp → VK → Prop := rU fun i => .int (-i)
theorem un_negU : UnR X (unaryOp .USub) rNegU := un_neg
def rLtU : R2 := rI0 fun i j => .bl (decide (i < j))
theorem op_ltU : OpR X (compareOp .Lt) rLtU := op_lt
def rLeU : R2 := rI0 fun i j => .bl (decide (i ≤ j))
theorem op_leU : OpR X (compareOp .LtE) rLeU := op_le
def rGtU : R2 := rI0 fun i j => .bl (decide (j < i))
theorem op_gtU : OpR X (compareOp .Gt) rGtU := op_gt
def rGeU : R2 := rI0 fun i j => .bl (decide (j ≤ i))
theorem op_geU : OpR X (compareOp .GtE) rGeU := op_ge
def rEqU (K : PySem.W.Frag) : R2 := fun x y H Q => rEq x y H Q ∨ rEqD K x y H Q
theorem op_eqU (hu : X.A.units + 64 < cLine) : OpR X (compareOp .Eq) (rEqU X.K) := OpR.or op_eq (op_eqD hu)
def rNeU (K : PySem.W.Frag) : R2 := fun x y H Q => rNe x y H Q ∨ rNeD K x y H Q
theorem op_neU (hu : X.A.units + 64 < cLine) : OpR X (compareOp .NotEq) (rNeU X.K) := OpR.or op_ne (op_neD hu)
def rInStr : R2 := fun x y H Q => ∃ i j, x = .str i ∧ y = .str j ∧ Q (.bl (!(Builtin.Str.occurrences j i 0 j.length 1).isEmpty)) H
def rNiStr : R2 := fun x y H Q => ∃ i j, x = .str i ∧ y = .str j ∧ Q (.bl (!(!(Builtin.Str.occurrences j i 0 j.length 1).isEmpty))) H
def rInU (K : PySem.W.Frag) : R2 := fun x y H Q => rIn K false x y H Q ∨ rInStr x y H Q
theorem op_inU : OpR X (compareOp .In) (rInU X.K) := OpR.or op_in_seq op_in_str
def rNiU (K : PySem.W.Frag) : R2 := fun x y H Q => rIn K true x y H Q ∨ rNiStr x y H Q
theorem op_niU : OpR X (compareOp .NotIn) (rNiU X.K) := OpR.or op_notIn_seq op_notIn_str
def rIsNo : R2 := fun x y H Q => y = .non ∧ Q (.bl (decide (x = .non))) H
def rNotNo : R2 := fun x y H Q => y = .non ∧ Q (.bl (!decide (x = .non))) H
def rIsU : R2 := fun x y H Q => rIsNo x y H Q ∨ rIsB x y H Q
theorem op_isU : OpR X (compareOp .Is) rIsU := OpR.or op_isN op_isBl
def rNotU : R2 := fun x y H Q => rNotNo x y H Q ∨ rNotB x y H Q
theorem op_notU : OpR X (compareOp .IsNot) rNotU := OpR.or op_notN op_notBl
/-! ### in place -/
def ipAddI : TIp := ipI fun i j => i + j
def ipAddU : TIp := fun x y H Q => ipAddI x y H Q ∨ rExt2 x y H Q ∨ rAddStr x y H Q
theorem ip_addU : PIp X .Add ipAddU := fun pins s σ H x y v u Q I rx ry h => by
  rcases h with h | h | h
  · exact ip_add pins s σ H x y v u Q I rx ry h
  · exact iop_ext pins s σ H x y v u Q I rx ry h
  · exact iop_add_str pins s σ H x y v u Q I rx ry h
def ipSubU : TIp := ipI fun i j => i - j
theorem ip_subU : PIp X .Sub ipSubU := ip_sub
/-! ### slices, walks -/

end
end L2.BP
namespace L2.BP
open PySem PySem.Spec PyProof.Rows
/-! ### calls that may let an error out, wished for at the caller's slots -/
section
variable {X : Cx} {k : Nat} {f C : Addr} {fd : FuncData} {ps : List Str} {sp : Sp} {dvs : List V} {ds : List Value} {W : WX} {x m : Str} {p pos apos : Pos} {e o : Expr} {es : List Expr} {ta : TE} {t : TA}
/-- f(e, ..) -/
def tCl (sp : Sp) (dvs : List V) (W : WX) (t : TA) : TE := fun σ H Q => t σ H fun vs H1 => sp (vs ++ dvs) H1 Q fun c d H2 => W c d σ H2
theorem pe_cl (F : FnOk X.prog X.w X.K X.mg X.base (L2.CX X.prog X.w) k f fd ps sp) (hr : Room k X.A) (hg : Gl X x) (hm : X.mg x = some (.ref f)) (hk : PySem.W.keepIn X.K (.ref f) = true)
    (hb : Binds X.K fd ps ds) (hd : Vals dvs ds) (tk : Takes X W) (ha : PA X (e :: es) t) (hdb : (x == ("__debug__" : Str)) = false := by decide)
    (he : starEach (e :: es) X.env = (false, eval e X.env) :: starEach es X.env := by rfl) (hpl : (backTo pos (starEach es X.env)).any (·.1) = false := by rfl) :
    PE X (.Call (.Name x p) (e :: es) [] pos) (tCl sp dvs W t) :=
  pe_callSD (E := WE W) F hr hg hm hk hb hd (fun σ => passAt tk σ) ha hdb he hpl
theorem pe_cl0 (F : FnOk X.prog X.w X.K X.mg X.base (L2.CX X.prog X.w) k f fd ps sp) (hr : Room k X.A) (hg : Gl X x) (hm : X.mg x = some (.ref f)) (hk : PySem.W.keepIn X.K (.ref f) = true)
    (hb : Binds X.K fd ps ds) (hd : Vals dvs ds) (tk : Takes X W) (hdb : (x == ("__debug__" : Str)) = false := by decide) :
    PE X (.Call (.Name x p) [] [] pos) (tCl sp dvs W tNil) := by
  constructor
  intro pins s σ H Q I h
  have go := run_fnSD (E := WE W) (us := []) F hr hb hd (passAt tk σ) I .nil h
  exact wpAny_Call_Name_kw (ld_glob I hg hm (PySem.W.callWith_K0 I.kIn hk go) hdb)
/-- o.m(e, ..) -/
def tMt (C : Addr) (m : Str) (sp : Sp) (dvs : List V) (W : WX) (ta : TE) (t : TA) : TE := fun σ H Q => ta σ H fun x H1 => ∃ a dx fs, x = .ref a ∧ H1 a = some (.ins C dx fs) ∧ fs.lookup m = none ∧
  t σ H1 fun vs H2 => sp (x :: (vs ++ dvs)) H2 Q fun c d H3 => W c d σ H3
theorem pe_mt' {pl : Sem Bool} (he : PE X o ta) (c : Cls X.K C) (hm : Meth X.K C m f) (F : FnOk X.prog X.w X.K X.mg X.base (L2.CX X.prog X.w) k f fd ps sp) (hr : Room k X.A)
    (hb : Binds X.K fd ps ds) (hd : Vals dvs ds) (tk : Takes X W) (ha : PA X (e :: es) t)
    (hst : starEach (e :: es) X.env = (false, eval e X.env) :: starEach es X.env := by rfl) (hpl : (backTo pos (starEach es X.env)).any (·.1) = false := by rfl)
    (ht : eval (.Call (.Attribute o m apos) (e :: es) [] pos) X.env = (do
      let ov ← eval o X.env; standAt apos.atName
      let (f, first) ← holding [ov] (getMethod ov m pl); callWith pos f first (backTo pos (starEach (e :: es) X.env)) (backToKw pos (keywordEach [] X.env))) := by rfl) :
    PE X (.Call (.Attribute o m apos) (e :: es) [] pos) (tMt C m sp dvs W ta t) := by
  constructor
  intro pins s σ H Q I h
  refine PySem.W.methodCall_KW (pl := pl) (thn (he.run pins s σ H _ I h) ?_) ht
  rintro u s1 ⟨x, H1, I1, rx, a, dx, fs, rfl, ea, l, q⟩
  cases (show u = Value.ref a from rx)
  refine getmeth_ok I1 ea c hm l (PySem.W.callWith_K (first := [.ref a]) (h₀ := X.base) I.ok.mod.kin hm.kp ?_ hst hpl)
  refine thn (ha.run pos pins s1 σ H1 _ I1 q) ?_
  rintro us s2 ⟨vs, H2, I2, r, q2⟩
  exact ⟨I2.kIn, run_fnSD (E := WE W) (us := .ref a :: us) (vs := .ref a :: vs) F hr hb hd (passAt tk σ) I2 (.cons rfl r) q2⟩
theorem pe_mt0' {pl : Sem Bool} (he : PE X o ta) (c : Cls X.K C) (hm : Meth X.K C m f) (F : FnOk X.prog X.w X.K X.mg X.base (L2.CX X.prog X.w) k f fd ps sp) (hr : Room k X.A)
    (hb : Binds X.K fd ps ds) (hd : Vals dvs ds) (tk : Takes X W)
    (ht : eval (.Call (.Attribute o m apos) [] [] pos) X.env = (do
      let ov ← eval o X.env; standAt apos.atName
      let (f, first) ← holding [ov] (getMethod ov m pl); callWith pos f first (backTo pos (starEach [] X.env)) (backToKw pos (keywordEach [] X.env))) := by rfl) :
    PE X (.Call (.Attribute o m apos) [] [] pos) (tMt C m sp dvs W ta tNil) := by
  constructor
  intro pins s σ H Q I h
  refine PySem.W.methodCall_KW (pl := pl) (thn (he.run pins s σ H _ I h) ?_) ht
  rintro u s1 ⟨x, H1, I1, rx, a, dx, fs, rfl, ea, l, q⟩
  cases (show u = Value.ref a from rx)
  refine getmeth_ok I1 ea c hm l ?_
  have go := run_fnSD (E := WE W) (us := [.ref a]) (vs := [.ref a]) F hr hb hd (passAt tk σ) I1 (.cons rfl .nil) q
  exact PySem.W.callWith_K0 (first := [.ref a]) I1.kIn hm.kp go
/-- C(e, ..) -/
def tMk (C : Addr) (sp : Sp) (dvs : List V) (W : WX) (t : TA) : TE := fun σ H Q => t σ H fun vs H1 => ∀ x dx, H1 x = none → H1 dx = none → dx ≠ x →
  sp (.ref x :: (vs ++ dvs)) (upd (upd H1 dx (.own x)) x (.ins C dx [])) (fun v H2 => v = .non ∧ Q (.ref x) H2) fun c d H2 => W c d σ H2
theorem run_mk {pins : List (Addr × Obj)} {σ : St} {H : Hp} {s : Shared} {Q : VK} {us : List Value} {vs : List V} (M : Mk X.K C f) (F : FnOk X.prog X.w X.K X.mg X.base (L2.CX X.prog X.w) k f fd ps sp) (hr : Room (k + 1) X.A)
    (hb : Binds X.K fd ps ds) (hd : Vals dvs ds) (tk : Takes X W) (I : Inv X pins σ H s) (r : Vals vs us)
    (h : ∀ x dx, H x = none → H dx = none → dx ≠ x → sp (.ref x :: (vs ++ dvs)) (upd (upd H dx (.own x)) x (.ins C dx [])) (fun v H2 => v = .non ∧ Q (.ref x) H2) fun c d H2 => W c d σ H2) :
    wpAny (model X.prog X.w) X.A (call (.ref C) us) (EP X pins σ Q) X.xe s := by
  have hq := h (s.heap.objs.size + 1) s.heap.objs.size (I.hok.fresh (Nat.le_succ _)) (I.hok.fresh (Nat.le_refl _)) (Nat.ne_of_lt (Nat.lt_succ_self _))
  have J := Inv.made (C := C) I
  have rr : Vals (V.ref (s.heap.objs.size + 1) :: (vs ++ dvs)) (Value.ref (s.heap.objs.size + 1) :: (us ++ ds)) := .cons rfl (r.append hd)
  have hl : (Value.ref (s.heap.objs.size + 1) :: us ++ ds).length = ps.length := by
    have e1 := rr.length
    rw [F.len _ _ _ _ hq] at e1
    exact e1.symm
  have run := F.run _ X.stack _ _ ⟨Value.ref (s.heap.objs.size + 1) :: us, []⟩ (Value.ref (s.heap.objs.size + 1) :: (us ++ ds)) _ _ _ (hr.make C us []) (J.env0.make C us []) (hb _ (Value.ref (s.heap.objs.size + 1) :: us) J.kIn hl) rr hq
  refine wpAny_call (make_map (f := f) I.kIn M.makes M.init (beq_iff_eq.mp M.fn) (codeAny_mono run ?_))
  intro r s' z
  match r, z with
  | .error e, z => exact (passAt tk σ) pins _ _ e s' J z
  | .ok (.ret u), z =>
    obtain ⟨v, H', J3, rv, ev, q3⟩ := J.after z
    subst ev
    exact ⟨rv, ⟨V.ref (s.heap.objs.size + 1), H', J3, rfl, q3⟩⟩
theorem pe_mk' (M : Mk X.K C f) (F : FnOk X.prog X.w X.K X.mg X.base (L2.CX X.prog X.w) k f fd ps sp) (hr : Room (k + 1) X.A) (hg : Gl X x) (hm : X.mg x = some (.ref C))
    (hb : Binds X.K fd ps ds) (hd : Vals dvs ds) (tk : Takes X W) (ha : PA X (e :: es) t) (hdb : (x == ("__debug__" : Str)) = false := by decide)
    (he : starEach (e :: es) X.env = (false, eval e X.env) :: starEach es X.env := by rfl) (hpl : (backTo pos (starEach es X.env)).any (·.1) = false := by rfl) :
    PE X (.Call (.Name x p) (e :: es) [] pos) (tMk C sp dvs W t) := by
  constructor
  intro pins s σ H Q I h
  refine wpAny_Call_Name_kw (ld_glob I hg hm (PySem.W.callWith_K (h₀ := X.base) I.ok.mod.kin M.kp ?_ he hpl) hdb)
  refine thn (ha.run pos pins s σ H _ I h) ?_
  rintro us s1 ⟨vs, H1, I1, r, q⟩
  exact ⟨I1.kIn, run_mk M F hr hb hd tk I1 r q⟩
theorem pe_mk0' (M : Mk X.K C f) (F : FnOk X.prog X.w X.K X.mg X.base (L2.CX X.prog X.w) k f fd ps sp) (hr : Room (k + 1) X.A) (hg : Gl X x) (hm : X.mg x = some (.ref C))
    (hb : Binds X.K fd ps ds) (hd : Vals dvs ds) (tk : Takes X W) (hdb : (x == ("__debug__" : Str)) = false := by decide) :
    PE X (.Call (.Name x p) [] [] pos) (tMk C sp dvs W tNil) := by
  constructor
  intro pins s σ H Q I h
  have go := run_mk (us := []) M F hr hb hd tk I .nil h
  exact wpAny_Call_Name_kw (ld_glob I hg hm (PySem.W.callWith_K0 I.kIn M.kp go) hdb)
end
/-! ### an error raised -/
def tRz (C : Addr) (W : WX) : TS := fun _ σ H => W (.ref C) none σ H
theorem ps_rz {X : Cx} {W : WX} {C : Addr} {x m : Str} {j : Nat} {p p2 pos pos2 : Pos} (hc : X.calm = true) (tk : Takes X W) (q : PySem.W.excIn X.K C He.veBase "ValueError.__new__" = true ∧ PySem.W.keepIn X.K (.ref C) = true ∧ PySem.W.subIn X.K (.ref C) (.type "BaseException") = some true ∧ PySem.W.typeIn X.K (.ref C) = some (.type "type"))
    (gC : X.mg x = some (.ref C)) (hg : Gl X x) (hdb : (x == ("__debug__" : Str)) = false := by decide) :
    PS X (.Raise (some (.Call (.Name x p) [.Constant (.str m) j p2] [] pos)) none pos2) (tRz C W) :=
  ps_raise hc tk (pmk_own PySem.F.excBase_ValueError q.1 gC q.2.1 (raises_own q.2.2.1 q.2.2.2) hg hdb)
/-! ### names of the module -/
section
variable {X : Cx} {x : Str} {pos : Pos}
theorem pe_gint {i : Int} (hg : Gl X x) (hm : ∃ t, X.mg x = some (.int i t)) (hd : (x == ("__debug__" : Str)) = false := by decide) : PE X (.Name x pos) (tC (.int i)) :=
  hm.elim fun t h => pe_glob (v := .int i) hg h ⟨t, rfl⟩ hd
theorem pe_gstr {z : Str} (hg : Gl X x) (hm : ∃ t, X.mg x = some (.str z t)) (hd : (x == ("__debug__" : Str)) = false := by decide) : PE X (.Name x pos) (tC (.str z)) :=
  hm.elim fun t h => pe_glob (v := .str z) hg h ⟨t, rfl⟩ hd
theorem pe_gref {a : Addr} (hg : Gl X x) (hm : X.mg x = some (.ref a)) (hd : (x == ("__debug__" : Str)) = false := by decide) : PE X (.Name x pos) (tC (.ref a)) := pe_glob (v := .ref a) hg hm rfl hd
theorem pe_bty {n : String} (hg : Gl X x) (hm : X.mg x = none) (hv : bootBuiltins x = some (.type n)) (hn : x ≠ "__name__" := by decide) (hd : (x == ("__debug__" : Str)) = false := by decide) : PE X (.Name x pos) (tC (.ty n)) := pe_bltn (v := .ty n) hg hm hv rfl hn hd
end
theorem bt_int : bootBuiltins "int" = some (.type "int") := by decide +kernel
theorem bt_bool : bootBuiltins "bool" = some (.type "bool") := by decide +kernel
theorem bt_str : bootBuiltins "str" = some (.type "str") := by decide +kernel
theorem bt_list : bootBuiltins "list" = some (.type "list") := by decide +kernel
theorem bt_tuple : bootBuiltins "tuple" = some (.type "tuple") := by decide +kernel
theorem bt_dict : bootBuiltins "dict" = some (.type "dict") := by decide +kernel
theorem bt_ValueError : bootBuiltins "ValueError" = some (.type "ValueError") := by decide +kernel
theorem bt_set : bootBuiltins "set" = some (.type "set") := by decide +kernel
theorem bb_len : bootBuiltins "len" = some (.builtin "len") := by decide +kernel
theorem bb_isinstance : bootBuiltins "isinstance" = some (.builtin "isinstance") := by decide +kernel
theorem bb_all : bootBuiltins "all" = some (.builtin "all") := by decide +kernel
theorem bb_any : bootBuiltins "any" = some (.builtin "any") := by decide +kernel
theorem bb_sum : bootBuiltins "sum" = some (.builtin "sum") := by decide +kernel
theorem bb_min : bootBuiltins "min" = some (.builtin "min") := by decide +kernel
theorem bb_max : bootBuiltins "max" = some (.builtin "max") := by decide +kernel
theorem bb_abs : bootBuiltins "abs" = some (.builtin "abs") := by decide +kernel
theorem bb_divmod : bootBuiltins "divmod" = some (.builtin "divmod") := by decide +kernel
theorem bb_sorted : bootBuiltins "sorted" = some (.builtin "sorted") := by decide +kernel
theorem bb_repr : bootBuiltins "repr" = some (.builtin "repr") := by decide +kernel
/-! ### calls of built-ins by several kinds -/
section
variable {X : Cx}
def rLenK (K : PySem.W.Frag) : List V → Hp → VK → Prop := fun xs H Q => ∃ x n, xs = [x] ∧ LenV K x H n ∧ Q (.int n) H
theorem cr_lenK : CallR X (.builtin "len") (rLenK X.K) := call_len
def rIntK : List V → Hp → VK → Prop := fun xs H Q => (∃ i, xs = [.int i] ∧ Q (.int i) H) ∨ ∃ k, xs = [.bl k] ∧ Q (.int (if k then 1 else 0)) H
theorem cr_intK : CallR X (.type "int") rIntK := call_int1
def rListK (K : PySem.W.Frag) : List V → Hp → VK → Prop := fun xs H Q => ∃ p ys, xs = [.ref p] ∧ (SqL K H p ys ∨ SqT K H p ys) ∧ ∀ l, H l = none → Q (.ref l) (upd H l (.lst ys))
theorem cr_listK : CallR X (.type "list") (rListK X.K) := call_list_of
def rTupleK (K : PySem.W.Frag) : List V → Hp → VK → Prop := fun xs H Q => ∃ p ys, xs = [.ref p] ∧ ((SqL K H p ys ∧ ∀ l, H l = none → Q (.ref l) (upd H l (.tup ys))) ∨ (SqT K H p ys ∧ Q (.ref p) H))
theorem cr_tupleK : CallR X (.type "tuple") (rTupleK X.K) := call_tuple_of
def rDivmodK : List V → Hp → VK → Prop := fun xs H Q => ∃ i j, xs = [.int i, .int j] ∧ CDiv i j ∧ ∀ p, H p = none → Q (.ref p) (upd H p (.tup [.int (i / j), .int (i % j)]))
theorem cr_divmodK : CallR X (.builtin "divmod") rDivmodK := call_divmod
def rMax2K : List V → Hp → VK → Prop := fun xs H Q => ∃ i j, xs = [.int i, .int j] ∧ Q (.int (if j > i then j else i)) H
theorem cr_max2K (hc : X.calm = true) : CallR X (.builtin "max") rMax2K := call_max2 hc
def rMin2K : List V → Hp → VK → Prop := fun xs H Q => ∃ i j, xs = [.int i, .int j] ∧ Q (.int (if j < i then j else i)) H
theorem cr_min2K (hc : X.calm = true) : CallR X (.builtin "min") rMin2K := call_min2 hc
def rAbsK : List V → Hp → VK → Prop := fun xs H Q => ∃ i, xs = [.int i] ∧ Q (.int (if i < 0 then -i else i)) H
theorem cr_absK : CallR X (.builtin "abs") rAbsK := call_abs
def rSlK (K : PySem.W.Frag) : V → Option Int → Option Int → Hp → VK → Prop := fun x lo hi H Q => rSlL K x lo hi H Q ∨ rSlS x lo hi H Q ∨ rSlT K x lo hi H Q
theorem sl_K : SlR X (rSlK X.K) := SlR.or sl_list (SlR.or sl_str sl_tup)
end
end L2.BP
namespace L2.BP
open PySem PySem.Spec PyProof.Rows
/-! ### the heap as own objects over a base -/
structure Hs (B : Hp) (L : List (Addr × HO)) (H : Hp) : Prop where
  ex : Same B H
  nd : (L.map (·.1)).Nodup
  own : ∀ q ∈ L, H q.1 = some q.2 ∧ B q.1 = none
section
variable {B H H' : Hp} {L : List (Addr × HO)} {p : Addr} {o o' : HO} {K : PySem.W.Frag}
theorem Hs.start (H : Hp) : Hs H [] H := ⟨Same.refl H, .nil, fun _ h => nomatch h⟩
theorem Hs.same (h : Hs B L H) (s : Same H H') : Hs B L H' := ⟨h.ex.trans s, h.nd, fun q m => ⟨s _ _ (h.own q m).1, (h.own q m).2⟩⟩
theorem Hs.newS (h : Hs B L H) (hp : H p = none) (s : Same H H') (hn : H' p = some o) : Hs B ((p, o) :: L) H' where
  ex := h.ex.trans s
  nd := by
    refine List.nodup_cons.mpr ⟨fun m => ?_, h.nd⟩
    obtain ⟨q, mq, e⟩ := List.mem_map.mp m
    have z := (h.own q mq).1
    rw [e, hp] at z
    cases z
  own := fun q m => by
    rcases List.mem_cons.mp m with rfl | m
    · exact ⟨hn, h.ex.free hp⟩
    · exact ⟨s _ _ (h.own q m).1, (h.own q m).2⟩
theorem same_upd (hp : H p = none) : Same H (upd H p o) := fun b u e => by rw [upd_ne (ne_of_none e hp)]; exact e
theorem Hs.new (h : Hs B L H) (hp : H p = none) : Hs B ((p, o) :: L) (upd H p o) := h.newS hp (same_upd hp) upd_same
theorem Hs.drop {q : Addr × HO} (h : Hs B (q :: L) H) : Hs B L H := ⟨h.ex, (List.nodup_cons.mp h.nd).2, fun z m => h.own z (List.mem_cons_of_mem _ m)⟩
theorem Hs.get (h : Hs B L H) (m : (p, o) ∈ L) : H p = some o := (h.own _ m).1
theorem Hs.nb (h : Hs B L H) (m : (p, o) ∈ L) : B p = none := (h.own _ m).2
/-- the first of the own objects changed -/
theorem Hs.chg (h : Hs B ((p, o) :: L) H) (k : ∀ b u, b ≠ p → H b = some u → H' b = some u) (hn : H' p = some o') : Hs B ((p, o') :: L) H' where
  ex := fun b u e => k b u (ne_of_none e (h.nb (o := o) (.head _))) (h.ex b u e)
  nd := h.nd
  own := fun q m => by
    rcases List.mem_cons.mp m with rfl | m
    · exact ⟨hn, h.nb (o := o) (.head _)⟩
    · refine ⟨k _ _ (fun z => ?_) (h.own q (.tail _ m)).1, (h.own q (.tail _ m)).2⟩
      exact (List.nodup_cons.mp h.nd).1 (List.mem_map.mpr ⟨q, m, z⟩)
theorem Hs.perm {L' : List (Addr × HO)} (h : Hs B L H) (q : L.Perm L') : Hs B L' H := ⟨h.ex, (q.map _).nodup_iff.mp h.nd, fun z m => h.own z (q.mem_iff.mpr m)⟩
theorem Hs.swap {a b : Addr × HO} (h : Hs B (a :: b :: L) H) : Hs B (b :: a :: L) H := h.perm (.swap b a L)
theorem Hs.rot3 {a b c : Addr × HO} (h : Hs B (a :: b :: c :: L) H) : Hs B (c :: a :: b :: L) H := h.perm ((List.Perm.cons a (.swap c b L)).trans (.swap c a (b :: L)))
theorem Hs.unrot3 {a b c : Addr × HO} (h : Hs B (c :: a :: b :: L) H) : Hs B (a :: b :: c :: L) H := h.perm (((List.Perm.cons a (.swap c b L)).trans (.swap c a (b :: L))).symm)
theorem Hs.u0 (h : Hs B ((p, o) :: L) H) : Hs B ((p, o') :: L) (upd H p o') := h.chg (fun b u n e => by rw [upd_ne n]; exact e) upd_same
theorem Hs.u1 {a : Addr × HO} (h : Hs B (a :: (p, o) :: L) H) : Hs B (a :: (p, o') :: L) (upd H p o') := h.swap.u0.swap
theorem Hs.u2 {a b : Addr × HO} (h : Hs B (a :: b :: (p, o) :: L) H) : Hs B (a :: b :: (p, o') :: L) (upd H p o') := h.rot3.u0.unrot3
theorem Hs.u3 {a b c : Addr × HO} (h : Hs B (a :: b :: c :: (p, o) :: L) H) : Hs B (a :: b :: c :: (p, o') :: L) (upd H p o') := by
  have e : (a :: b :: c :: (p, o) :: L).Perm ((p, o) :: a :: b :: c :: L) := (List.perm_middle (l₁ := [a, b, c]) (a := (p, o)) (l₂ := L))
  have e' : ((p, o') :: a :: b :: c :: L).Perm (a :: b :: c :: (p, o') :: L) := (List.perm_middle (l₁ := [a, b, c]) (a := (p, o')) (l₂ := L)).symm
  exact ((h.perm e).u0 (o' := o')).perm e'
/-- the first one is laid to the base: it changes no more -/
theorem Hs.fix (h : Hs B ((p, o) :: L) H) : Hs (upd B p o) L H where
  ex := fun b u e => by
    by_cases hb : b = p
    · subst hb
      rw [upd_same] at e
      cases e
      exact h.get (.head _)
    · rw [upd_ne hb] at e
      exact h.ex b u e
  nd := (List.nodup_cons.mp h.nd).2
  own := fun q m => by
    refine ⟨(h.own q (.tail _ m)).1, ?_⟩
    have n : q.1 ≠ p := fun z => (List.nodup_cons.mp h.nd).1 (List.mem_map.mpr ⟨q, m, z⟩)
    rw [upd_ne n]
    exact (h.own q (.tail _ m)).2
theorem Hs.sql {xs : List V} (h : Hs B L H) (m : (p, HO.lst xs) ∈ L) : SqL K H p xs := .of (h.get m)
theorem Hs.sqt {xs : List V} (h : Hs B L H) (m : (p, HO.tup xs) ∈ L) : SqT K H p xs := .of (h.get m)
theorem Hs.bl {xs : List V} (h : Hs B L H) (m : SqL K B p xs) : SqL K H p xs := h.ex.seq m
theorem same_sqt {xs : List V} (e : Same H H') (h : SqT K H p xs) : SqT K H' p xs := by
  rcases h with (h | ⟨u, h⟩) | h
  · exact .inl (.inl (e _ _ h))
  · exact .inl (.inr ⟨u, e _ _ h⟩)
  · exact .inr h
theorem Hs.bt {xs : List V} (h : Hs B L H) (m : SqT K B p xs) : SqT K H p xs := same_sqt h.ex m
mutual
theorem dp_same (e : Same H H') : ∀ {v : V} {d : PyData}, Dp K H v d → Dp K H' v d
  | _, _, .non => .non
  | _, _, .bl b => .bl b
  | _, _, .int i => .int i
  | _, _, .str x => .str x
  | _, _, .lst h a => .lst (e.seq h) (dpa_same e a)
  | _, _, .tup h a => .tup (same_sqt e h) (dpa_same e a)
theorem dpa_same (e : Same H H') : ∀ {vs : List V} {ds : List PyData}, DpAll K H vs ds → DpAll K H' vs ds
  | _, _, .nil => .nil
  | _, _, .cons h a => .cons (dp_same e h) (dpa_same e a)
end
theorem dpa_ints : ∀ ns : List Int, DpAll K H (ns.map V.int) (ns.map PyData.int)
  | [] => .nil
  | n :: r => .cons (.int n) (dpa_ints r)
end
/-! ### readings, step by step -/
section
variable {σ : St} {H : Hp} {Q : VK} {v x y : V} {i j : Int} {ta tb te : TE} {K : PySem.W.Frag} {r : R2} {B : Hp} {L : List (Addr × HO)}
theorem c_var {n : Nat} (h : σ[n]? = some (some v)) (k : Q v H) : tVar n σ H Q := ⟨v, h, k⟩
theorem c_c (k : Q v H) : tC v σ H Q := k
theorem c_op (k : ta σ H fun x H1 => tb σ H1 fun y H2 => r x y H2 Q) : tOp r ta tb σ H Q := k
theorem c_un {r : V → Hp → VK → Prop} (k : ta σ H fun x H1 => r x H1 Q) : tUn r ta σ H Q := k
theorem c_addI (k : Q (.int (i + j)) H) : rAddU (.int i) (.int j) H Q := .inl ⟨i, j, rfl, rfl, k⟩
theorem c_addS {a b : Str} (h : a.length + b.length ≤ sizeLine) (k : Q (.str (a ++ b)) H) : rAddU (.str a) (.str b) H Q := .inr (.inl ⟨a, b, rfl, rfl, h, k⟩)
theorem c_addL {p q : Addr} {xs ys : List V} (h : Hs B L H) (hp : H p = some (.lst xs)) (hq : H q = some (.lst ys)) (hl : xs.length + ys.length ≤ sizeLine)
    (k : ∀ a H', Hs B ((a, .lst (xs ++ ys)) :: L) H' → Q (.ref a) H') : rAddU (.ref p) (.ref q) H Q :=
  .inr (.inr ⟨p, q, xs, ys, rfl, rfl, hp, hq, hl, fun a ha => k a _ (h.new ha)⟩)
theorem c_sub (k : Q (.int (i - j)) H) : rSubU (.int i) (.int j) H Q := ⟨i, j, rfl, rfl, k⟩
theorem c_mulI (h : CMul i j) (k : Q (.int (i * j)) H) : rMulU (.int i) (.int j) H Q := .inl ⟨i, j, rfl, rfl, h, k⟩
theorem c_rep {p : Addr} {xs : List V} (h : Hs B L H) (hp : H p = some (.lst xs)) (h1 : -(2 ^ 63) ≤ j) (h2 : j < 2 ^ 63) (hl : xs.length * j.toNat ≤ sizeLine)
    (k : ∀ a H', Hs B ((a, .lst (List.replicate j.toNat xs).flatten) :: L) H' → Q (.ref a) H') : rMulU (.ref p) (.int j) H Q :=
  .inr (.inl ⟨p, j, xs, rfl, rfl, hp, h1, h2, hl, fun a ha => k a _ (h.new ha)⟩)
theorem c_repS {z : Str} {n : Nat} (e : j = ((n : Nat) : Int)) (h1 : n ≤ 1000) (h2 : z.length ≤ 1000) (h3 : (repS z n).length ≤ 1000000) (k : Q (.str (repS z n)) H) : rMulU (.str z) (.int j) H Q := .inr (.inr ⟨z, n, rfl, by rw [e], h1, h2, h3, k⟩)
theorem c_div (h : CDiv i j) (k : Q (.int (i / j)) H) : rDivU (.int i) (.int j) H Q := ⟨i, j, rfl, rfl, h, k⟩
theorem c_mod (h : 0 < j) (k : Q (.int (i % j)) H) : rModU (.int i) (.int j) H Q := ⟨i, j, rfl, rfl, h, k⟩
theorem c_pow (h : CPow i j) (k : Q (.int (i ^ j.toNat)) H) : rPowU (.int i) (.int j) H Q := ⟨i, j, rfl, rfl, h, k⟩
theorem c_shl (h : CPow i j) (k : Q (.int (i * 2 ^ j.toNat)) H) : rShlU (.int i) (.int j) H Q := .inl ⟨i, j, rfl, rfl, h, k⟩
theorem c_shlW (h : CShl i j) (k : Q (.int (i * 2 ^ j.toNat)) H) : rShlU (.int i) (.int j) H Q := .inr ⟨i, j, rfl, rfl, h, k⟩
theorem c_shr (h : 0 ≤ j) (k : Q (.int (i / 2 ^ j.toNat)) H) : rShrU (.int i) (.int j) H Q := ⟨i, j, rfl, rfl, h, k⟩
theorem c_and (k : Q (.int (Builtin.bitAnd i j)) H) : rAndU (.int i) (.int j) H Q := ⟨i, j, rfl, rfl, k⟩
theorem c_or (k : Q (.int (Builtin.bitOr i j)) H) : rOrU (.int i) (.int j) H Q := ⟨i, j, rfl, rfl, k⟩
theorem c_xor (k : Q (.int (Builtin.bitXor i j)) H) : rXorU (.int i) (.int j) H Q := ⟨i, j, rfl, rfl, k⟩
theorem c_neg (k : Q (.int (-i)) H) : rNegU (.int i) H Q := ⟨i, rfl, k⟩
theorem c_lt (k : Q (.bl (decide (i < j))) H) : rLtU (.int i) (.int j) H Q := ⟨i, j, rfl, rfl, k⟩
theorem c_le (k : Q (.bl (decide (i ≤ j))) H) : rLeU (.int i) (.int j) H Q := ⟨i, j, rfl, rfl, k⟩
theorem c_gt (k : Q (.bl (decide (j < i))) H) : rGtU (.int i) (.int j) H Q := ⟨i, j, rfl, rfl, k⟩
theorem c_ge (k : Q (.bl (decide (j ≤ i))) H) : rGeU (.int i) (.int j) H Q := ⟨i, j, rfl, rfl, k⟩
theorem dec_of {p q : Prop} [Decidable p] [Decidable q] (h : p ↔ q) : decide p = decide q := by by_cases z : p <;> simp [z, h.mp, mt h.mpr] <;> simp_all
theorem c_eqI (k : Q (.bl (decide (i = j))) H) : rEqU K (.int i) (.int j) H Q := .inl ⟨rfl, by rw [dec_of (show V.int i = V.int j ↔ i = j by simp)]; exact k⟩
theorem c_neI (k : Q (.bl (!decide (i = j))) H) : rNeU K (.int i) (.int j) H Q := .inl ⟨rfl, by rw [dec_of (show V.int i = V.int j ↔ i = j by simp)]; exact k⟩
theorem c_eqS {a b : Str} (k : Q (.bl (decide (a = b))) H) : rEqU K (.str a) (.str b) H Q := .inl ⟨rfl, by rw [dec_of (show V.str a = V.str b ↔ a = b by simp)]; exact k⟩
theorem c_neS {a b : Str} (k : Q (.bl (!decide (a = b))) H) : rNeU K (.str a) (.str b) H Q := .inl ⟨rfl, by rw [dec_of (show V.str a = V.str b ↔ a = b by simp)]; exact k⟩
theorem c_eqB {a b : Bool} (k : Q (.bl (decide (a = b))) H) : rEqU K (.bl a) (.bl b) H Q := .inl ⟨rfl, by rw [dec_of (show V.bl a = V.bl b ↔ a = b by simp)]; exact k⟩
theorem c_neB {a b : Bool} (k : Q (.bl (!decide (a = b))) H) : rNeU K (.bl a) (.bl b) H Q := .inl ⟨rfl, by rw [dec_of (show V.bl a = V.bl b ↔ a = b by simp)]; exact k⟩
theorem c_eqD {d e : PyData} (hx : Dp K H x d) (hy : Dp K H y e) (h1 : SeqAt.shaped d = true) (h2 : SeqAt.shaped e = true) (k : Q (.bl (PyData.eqv d e)) H) : rEqU K x y H Q := .inr ⟨d, e, hx, hy, h1, h2, k⟩
theorem c_neD {d e : PyData} (hx : Dp K H x d) (hy : Dp K H y e) (h1 : SeqAt.shaped d = true) (h2 : SeqAt.shaped e = true) (k : Q (.bl (!PyData.eqv d e)) H) : rNeU K x y H Q := .inr ⟨d, e, hx, hy, h1, h2, k⟩
theorem c_isN (k : Q (.bl (decide (x = .non))) H) : rIsU x .non H Q := .inl ⟨rfl, k⟩
theorem c_notN (k : Q (.bl (!decide (x = .non))) H) : rNotU x .non H Q := .inl ⟨rfl, k⟩
theorem c_isB {a b : Bool} (k : Q (.bl (decide (a = b))) H) : rIsU (.bl a) (.bl b) H Q := .inr ⟨a, b, rfl, rfl, k⟩
theorem c_notB {a b : Bool} (k : Q (.bl (!decide (a = b))) H) : rNotU (.bl a) (.bl b) H Q := .inr ⟨a, b, rfl, rfl, k⟩
theorem c_ixL {p : Addr} {xs : List V} (h : SqL K H p xs) (ha : atI xs i = some v) (k : Q v H) : rIx K (.ref p) (.int i) H Q := .inl ⟨p, xs, i, v, rfl, rfl, h, ha, k⟩
theorem c_ixT {p : Addr} {xs : List V} (h : SqT K H p xs) (ha : atI xs i = some v) (k : Q v H) : rIx K (.ref p) (.int i) H Q := .inr (.inl ⟨p, xs, i, v, rfl, rfl, h, ha, k⟩)
theorem c_ixS {z : Str} {c : Nat} (h : z.length ≤ sizeLine) (ha : atI z.cps.toList i = some c) (k : Q (.str ⟨#[c]⟩) H) : rIx K (.str z) (.int i) H Q := .inr (.inr ⟨z, i, c, rfl, rfl, h, ha, k⟩)
theorem c_slL {p : Addr} {xs : List V} {lo hi : Option Int} (h : Hs B L H) (hq : SqL K H p xs) (k : ∀ a H', Hs B ((a, .lst (cutV xs lo hi)) :: L) H' → Q (.ref a) H') : rSlK K (.ref p) lo hi H Q :=
  .inl ⟨p, xs, rfl, hq, fun a ha => k a _ (h.new ha)⟩
theorem c_slS {z : Str} {lo hi : Option Int} (h : z.length ≤ sizeLine) (k : Q (.str (cutS z lo hi)) H) : rSlK K (.str z) lo hi H Q := .inr (.inl ⟨z, rfl, h, k⟩)
theorem c_andV (k : ta σ H fun x H1 => ∃ c, x = .bl c ∧ if c = true then tb σ H1 Q else Q (.bl false) H1) : tAndV ta tb σ H Q := k
theorem c_orV (k : ta σ H fun x H1 => ∃ c, x = .bl c ∧ if c = true then Q (.bl true) H1 else tb σ H1 Q) : tOrV ta tb σ H Q := k
theorem c_notV (k : ta σ H fun x H1 => ∃ c, x = .bl c ∧ Q (.bl (!c)) H1) : tNotV ta σ H Q := k
theorem c_bl {b : Bool} {P : Bool → Prop} (k : P b) : ∃ c, V.bl b = V.bl c ∧ P c := ⟨b, rfl, k⟩
theorem c_test {P : Bool → Hp → Prop} (k : te σ H fun x H' => ∃ c, x = .bl c ∧ P c H') : tTest te σ H P := k
theorem c_B {P : Bool → Hp → Prop} (k : te σ H fun x H' => ∃ c, x = .bl c ∧ P c H') : tB te σ H P := k
theorem c_chain {r' : R2} {tc : TE} (k : ta σ H fun x H1 => tb σ H1 fun y H2 => r x y H2 fun z H3 => ∃ c, z = .bl c ∧ (if c = true then tc σ H3 fun w H4 => r' y w H4 Q else Q (.bl false) H3)) : tChain r r' ta tb tc σ H Q := k
section
variable {t u : TT} {P : Bool → Hp → Prop}
theorem c_tand (k : t σ H fun c H1 => if c = true then u σ H1 P else P false H1) : tAnd t u σ H P := k
theorem c_tor (k : t σ H fun c H1 => if c = true then P true H1 else u σ H1 P) : tOr t u σ H P := k
theorem c_tnot (k : t σ H fun c H1 => P (!c) H1) : tNot t σ H P := k
theorem c_if (k : t σ H fun c H1 => if c = true then ta σ H1 Q else tb σ H1 Q) : tIf t ta tb σ H Q := k
end
section
variable {P : List V → Hp → Prop} {tr : TA}
theorem c_nil (k : P [] H) : tNil σ H P := k
theorem c_cons (k : te σ H fun x H1 => tr σ H1 fun xs H2 => P (x :: xs) H2) : tCons te tr σ H P := k
def TupO (xs : List V) (H : Hp) (Q : VK) : Prop := xs.length ≤ sizeLine ∧ ∀ p, H p = none → Q (.ref p) (upd H p (.tup xs))
def LstO (xs : List V) (H : Hp) (Q : VK) : Prop := xs.length ≤ sizeLine ∧ ∀ p, H p = none → Q (.ref p) (upd H p (.lst xs))
theorem c_tup (k : tr σ H fun xs H1 => TupO xs H1 Q) : tTup tr σ H Q := k
theorem c_lst (k : tr σ H fun xs H1 => LstO xs H1 Q) : tLst tr σ H Q := k
theorem c_tupO {xs : List V} (h : Hs B L H) (hl : xs.length ≤ sizeLine) (k : ∀ p H', Hs B ((p, .tup xs) :: L) H' → Q (.ref p) H') : TupO xs H Q := ⟨hl, fun p hp => k p _ (h.new hp)⟩
theorem c_lstO {xs : List V} (h : Hs B L H) (hl : xs.length ≤ sizeLine) (k : ∀ p H', Hs B ((p, .lst xs) :: L) H' → Q (.ref p) H') : LstO xs H Q := ⟨hl, fun p hp => k p _ (h.new hp)⟩
theorem c_cb {r : List V → Hp → VK → Prop} (k : tr σ H fun vs H1 => r vs H1 Q) : tCB r tr σ H Q := k
theorem c_lenL {p : Addr} {xs : List V} (h : SqL K H p xs) (k : Q (.int xs.length) H) : rLenK K [.ref p] H Q := ⟨_, _, rfl, .inl ⟨xs, h, rfl⟩, k⟩
theorem c_lenT {p : Addr} {xs : List V} (h : SqT K H p xs) (k : Q (.int xs.length) H) : rLenK K [.ref p] H Q := ⟨_, _, rfl, .inr ⟨xs, h, rfl⟩, k⟩
theorem c_lenS {z : Str} (h : z.length ≤ sizeLine) (k : Q (.int z.length) H) : rLenK K [.str z] H Q := ⟨_, _, rfl, ⟨h, rfl⟩, k⟩
theorem c_intI (k : Q (.int i) H) : rIntK [.int i] H Q := .inl ⟨i, rfl, k⟩
theorem c_intB {b : Bool} (k : Q (.int (if b then 1 else 0)) H) : rIntK [.bl b] H Q := .inr ⟨b, rfl, k⟩
theorem c_listL {p : Addr} {xs : List V} (h : Hs B L H) (hq : SqL K H p xs) (k : ∀ a H', Hs B ((a, .lst xs) :: L) H' → Q (.ref a) H') : rListK K [.ref p] H Q := ⟨p, xs, rfl, .inl hq, fun a ha => k a _ (h.new ha)⟩
theorem c_listT {p : Addr} {xs : List V} (h : Hs B L H) (hq : SqT K H p xs) (k : ∀ a H', Hs B ((a, .lst xs) :: L) H' → Q (.ref a) H') : rListK K [.ref p] H Q := ⟨p, xs, rfl, .inr hq, fun a ha => k a _ (h.new ha)⟩
theorem c_divmod (h : Hs B L H) (c : CDiv i j) (k : ∀ a H', Hs B ((a, .tup [.int (i / j), .int (i % j)]) :: L) H' → Q (.ref a) H') : rDivmodK [.int i, .int j] H Q := ⟨i, j, rfl, c, fun a ha => k a _ (h.new ha)⟩
theorem c_max2 (k : Q (.int (if j > i then j else i)) H) : rMax2K [.int i, .int j] H Q := ⟨i, j, rfl, k⟩
theorem c_min2 (k : Q (.int (if j < i then j else i)) H) : rMin2K [.int i, .int j] H Q := ⟨i, j, rfl, k⟩
theorem c_abs (k : Q (.int (if i < 0 then -i else i)) H) : rAbsK [.int i] H Q := ⟨i, rfl, k⟩
theorem c_sum {p : Addr} {ns : List Int} (h : SqL K H p (ns.map V.int)) (k : Q (.int ns.sum) H) : rSum K [.ref p] H Q := ⟨p, ns, rfl, h, k⟩
theorem c_all {p : Addr} {bs : List Bool} (h : SqL K H p (bs.map V.bl)) (k : Q (.bl (bs.all id)) H) : rAll K [.ref p] H Q := ⟨p, bs, rfl, h, k⟩
theorem c_any {p : Addr} {bs : List Bool} (h : SqL K H p (bs.map V.bl)) (k : Q (.bl (bs.any id)) H) : rAny K [.ref p] H Q := ⟨p, bs, rfl, h, k⟩
theorem c_cl {sp : Sp} {dvs : List V} {W : WX} (k : tr σ H fun vs H1 => sp (vs ++ dvs) H1 Q fun c d H2 => W c d σ H2) : tCl sp dvs W tr σ H Q := k
theorem c_mt {C : Addr} {m : Str} {sp : Sp} {dvs : List V} {W : WX} (k : te σ H fun x H1 => ∃ a dx fs, x = .ref a ∧ H1 a = some (.ins C dx fs) ∧ fs.lookup m = none ∧ tr σ H1 fun vs H2 => sp (x :: (vs ++ dvs)) H2 Q fun c d H3 => W c d σ H3) : tMt C m sp dvs W te tr σ H Q := k
theorem c_recv {C dx p : Addr} {fs : List (Str × V)} {m : Str} {P : Prop} (h : H p = some (.ins C dx fs)) (hl : fs.lookup m = none) (k : P) : ∃ a dx fs, V.ref p = .ref a ∧ H a = some (.ins C dx fs) ∧ fs.lookup m = none ∧ P := ⟨p, dx, fs, rfl, h, hl, k⟩
end
/-! isinstance -/
theorem tyx_sql {p : Addr} {xs : List V} (h : SqL K H p xs) : TyX K H (.ref p) (.type "list") := by
  rcases h with (h | ⟨u, h⟩) | ⟨o, a, b, h1, h2, _⟩
  · exact .base (.lst h)
  · exact .base (.frz h)
  · exact .kList h1 h2
theorem c_isi {c : V} {t u : Value} {b : Bool} (T : TyX K H x t) (hc : ClsV c u) (e : PySem.W.kitOne K t u = some b) (k : Q (.bl b) H) : rIsi K [x, c] H Q := ⟨x, c, t, u, b, rfl, hc, T, e, k⟩
theorem k_int_int : PySem.W.kitOne K (.type "int") (.type "int") = some true := kit_ty (by decide +kernel)
theorem k_int_bool : PySem.W.kitOne K (.type "int") (.type "bool") = some false := kit_ty (by decide +kernel)
theorem k_list_list : PySem.W.kitOne K (.type "list") (.type "list") = some true := kit_ty (by decide +kernel)
theorem c_isi_ii (k : Q (.bl true) H) : rIsi K [.int i, .ty "int"] H Q := c_isi (.base (.int i)) (.ty _) k_int_int k
theorem c_isi_ib (k : Q (.bl false) H) : rIsi K [.int i, .ty "bool"] H Q := c_isi (.base (.int i)) (.ty _) k_int_bool k
theorem c_isi_ll {p : Addr} {xs : List V} (h : SqL K H p xs) (k : Q (.bl true) H) : rIsi K [.ref p, .ty "list"] H Q := c_isi (tyx_sql h) (.ty _) k_list_list k
/-! fields -/
def FldO (K : PySem.W.Frag) (f : Str) (x : V) (H : Hp) (Q : VK) : Prop := ∃ a C dx fs v, x = .ref a ∧ H a = some (.ins C dx fs) ∧ Cls K C ∧ NoAttr K C f ∧ fs.lookup f = some v ∧ Q v H
theorem c_fld {f : Str} {C dx p : Addr} {fs : List (Str × V)} (h : H p = some (.ins C dx fs)) (hc : Cls K C) (hn : NoAttr K C f) (hl : fs.lookup f = some v) (k : Q v H) : FldO K f (.ref p) H Q := ⟨p, C, dx, fs, v, rfl, h, hc, hn, hl, k⟩
end
/-! ### statements -/
section
variable {σ : St} {H : Hp} {dn : St → Hp → Prop} {dr : VK} {db dc : St → Hp → Prop} {t u : TS} {te : TE} {g : TG} {v : V} {b : Bool}
theorem w_seq (k : t ⟨u ⟨dn, dr, db, dc⟩, dr, db, dc⟩ σ H) : tSeq t u ⟨dn, dr, db, dc⟩ σ H := k
theorem w_asg (k : te σ H fun x H1 => g x σ H1 dn) : tAsg te g ⟨dn, dr, db, dc⟩ σ H := k
theorem w_name {n : Nat} {P : St → Hp → Prop} (k : P (σ.set n (some v)) H) : gName n v σ H P := k
theorem w_drop (k : te σ H fun _ H1 => dn σ H1) : tDrop te ⟨dn, dr, db, dc⟩ σ H := k
theorem w_ret (k : te σ H dr) : tRet te ⟨dn, dr, db, dc⟩ σ H := k
theorem w_if {c : TT} (k : c σ H fun b H1 => if b = true then t ⟨dn, dr, db, dc⟩ σ H1 else u ⟨dn, dr, db, dc⟩ σ H1) : tIfS c t u ⟨dn, dr, db, dc⟩ σ H := k
theorem w_next (k : dn σ H) : tNext ⟨dn, dr, db, dc⟩ σ H := k
theorem i_t {A A' : Prop} (h : b = true) (k : A) : if b = true then A else A' := by rw [if_pos h]; exact k
theorem i_f {A A' : Prop} (h : b = false) (k : A') : if b = true then A else A' := by rw [h, if_neg Bool.false_ne_true]; exact k
theorem i_2 {A A' : Prop} (k : b = true → A) (k' : b = false → A') : if b = true then A else A' := by cases b; exact iteF (k' rfl); exact iteT (k rfl)
theorem w_aug {n : Nat} {ti : TIp} (h : σ[n]? = some (some v)) (k : te σ H fun y H1 => ti v y H1 fun z H2 => dn (σ.set n (some z)) H2) : tAug n te ti ⟨dn, dr, db, dc⟩ σ H := ⟨v, h, k⟩
theorem c_ipAddI {i j : Int} {Q : VK} (k : Q (.int (i + j)) H) : ipAddU (.int i) (.int j) H Q := .inl ⟨i, j, rfl, rfl, k⟩
theorem c_ipSub {i j : Int} {Q : VK} (k : Q (.int (i - j)) H) : ipSubU (.int i) (.int j) H Q := ⟨i, j, rfl, rfl, k⟩
end
/-! ### loops over what has plain items -/
section
variable {α : Type} {K : PySem.W.Frag} {a : Addr} {g : TG} {tb : TS} {dn : St → Hp → Prop} {dr : VK} {db dc : St → Hp → Prop} {σ : St} {H : Hp}
theorem take_split {l : List α} {i : Nat} {x : α} (h : l[i]? = some x) : l = l.take i ++ x :: l.drop (i + 1) ∧ l.take (i + 1) = l.take i ++ [x] := by
  obtain ⟨hi, e⟩ := List.getElem?_eq_some_iff.mp h
  subst e
  refine ⟨?_, by rw [List.take_add_one, h]; rfl⟩
  conv => lhs; rw [← List.take_append_drop i l, List.drop_eq_getElem_cons hi]
theorem for_l (f : α → V) (l : List α) (Pv : List α → St → Hp → Prop) (h0 : Pv [] σ H) (hq : ∀ pre post σ H, l = pre ++ post → Pv pre σ H → SqL K H a (l.map f))
    (hs : ∀ pre x post σ H, l = pre ++ x :: post → Pv pre σ H → g (f x) σ H fun σ2 H2 => tb ⟨Pv (pre ++ [x]), dr, dn, Pv (pre ++ [x])⟩ σ2 H2) (hd : ∀ σ H, Pv l σ H → dn σ H) :
    ∃ W : Nat → Nat → St → Hp → Prop, (∃ m, W 0 m σ H) ∧ ∀ i m σ H, W i m σ H →
      ((Itl K a).stop i H ∧ dn σ H) ∨ ((Itl K a).go i H ∧ ∃ N : St → Hp → Prop, (∀ σ' H', N σ' H' → ∃ m', m' < m ∧ W (i + 1) m' σ' H') ∧ ∀ x H', (Itl K a).yld i H x H' → g x σ H' fun σ2 H2 => tb ⟨N, dr, dn, N⟩ σ2 H2) := by
  refine L2.for_list (D := { nx := dn, rt := dr }) (xs := l.map f) (fun i => Pv (l.take i)) (by simpa using h0) (fun i σ H _ p => hq _ (l.drop i) σ H (List.take_append_drop i l).symm p) (fun i x σ H hx p => ?_) (fun σ H p => hd σ H (by simpa using p))
  rw [List.getElem?_map] at hx
  cases e : l[i]? with
  | none => rw [e] at hx; cases hx
  | some y =>
    rw [e] at hx
    cases hx
    obtain ⟨e1, e2⟩ := take_split e
    have z := hs _ y _ σ H e1 p
    rw [e2]
    exact z
theorem lc_l {tt : TT} {te : TE} {vs : List Nat} {D : Addr} {Qd : Hp → Prop} (f : α → V) (l : List α) (Pv : List α → Hp → Prop) (h0 : Pv [] (upd H D (.lst []))) (hq : ∀ pre post H, l = pre ++ post → Pv pre H → SqL K H a (l.map f))
    (hs : ∀ pre x post H, l = pre ++ x :: post → Pv pre H → g (f x) (wipe σ vs) H fun σ2 H2 => wipe σ2 vs = wipe σ vs ∧ tt σ2 H2 fun b H3 =>
      if b = true then te σ2 H3 fun y H4 => ∃ acc, H4 D = some (.lst acc) ∧ acc.length < sizeLine ∧ Pv (pre ++ [x]) (upd H4 D (.lst (acc ++ [y]))) else Pv (pre ++ [x]) H3) (hd : ∀ H, Pv l H → Qd H) :
    ∃ W : Nat → Nat → Hp → Prop, (∃ m, W 0 m (upd H D (.lst []))) ∧ ∀ i m H, W i m H →
      ((Itl K a).stop i H ∧ Qd H) ∨ ((Itl K a).go i H ∧ ∃ Nx : Hp → Prop, (∀ H', Nx H' → ∃ m', m' < m ∧ W (i + 1) m' H') ∧ ∀ x H', (Itl K a).yld i H x H' → g x (wipe σ vs) H' fun σ2 H2 => wipe σ2 vs = wipe σ vs ∧ tt σ2 H2 fun b H3 =>
        if b = true then te σ2 H3 fun y H4 => ∃ acc, H4 D = some (.lst acc) ∧ acc.length < sizeLine ∧ Nx (upd H4 D (.lst (acc ++ [y]))) else Nx H3) := by
  refine L2.lc_list (xs := l.map f) (fun i => Pv (l.take i)) (by simpa using h0) (fun i H _ p => hq _ (l.drop i) H (List.take_append_drop i l).symm p) (fun i x H hx p => ?_) (fun H p => hd H (by simpa using p))
  rw [List.getElem?_map] at hx
  cases e : l[i]? with
  | none => rw [e] at hx; cases hx
  | some y =>
    rw [e] at hx
    cases hx
    obtain ⟨e1, e2⟩ := take_split e
    have z := hs _ y _ H e1 p
    rw [e2]
    exact z
end
end L2.BP
namespace L2.BP
open PySem PySem.Spec PyProof.Rows
/-- a def as callers see it: what its defaults are, how the written arguments bind, its promise -/
def DOk (P : Program) (w : World) (K : PySem.W.Frag) (mg : Str → Option Value) (base : Heap) (k : Nat) (f : Addr) (ps : List Str) (dvs : List V) (sp : Sp) : Prop :=
  ∃ (fd : FuncData) (ds : List Value), Vals dvs ds ∧ Binds K fd ps ds ∧ FnOk P w K mg base (L2.CX P w) k f fd ps sp ∧ PySem.W.keepIn K (.ref f) = true
abbrev WF : WX := fun _ _ _ _ => False
/-! ### one of two readings of the same expression -/
def tOrE (t u : TE) : TE := fun σ H Q => t σ H Q ∨ u σ H Q
theorem pe_orE {X : Cx} {e : Expr} {t u : TE} (h : PE X e t) (h' : PE X e u) : PE X e (tOrE t u) :=
  ⟨fun pins s σ H Q I z => z.elim (h.run pins s σ H Q I) (h'.run pins s σ H Q I)⟩
/-! ### kinds of things -/
inductive Tg where
  | non | bl (b : Bool) | int (i : Int) | str (x : Str) | lst (xs : List V) | tup (xs : List V) | dic
/-- the thing v is of that kind -/
inductive Th (K : PySem.W.Frag) (H : Hp) : V → Tg → Prop where
  | non : Th K H .non .non
  | bl (b : Bool) : Th K H (.bl b) (.bl b)
  | int (i : Int) : Th K H (.int i) (.int i)
  | str (x : Str) : Th K H (.str x) (.str x)
  | lst {a : Addr} {xs : List V} (h : SqL K H a xs) : Th K H (.ref a) (.lst xs)
  | tup {a : Addr} {xs : List V} (h : SqT K H a xs) : Th K H (.ref a) (.tup xs)
  | dic {a : Addr} {kvs : List (Key × V)} (h : H a = some (.dK kvs)) : Th K H (.ref a) .dic
def Tg.ty : Tg → String
  | .non => "NoneType" | .bl _ => "bool" | .int _ => "int" | .str _ => "str" | .lst _ => "list" | .tup _ => "tuple" | .dic => "dict"
section
variable {K : PySem.W.Frag} {H H' : Hp} {v : V} {g : Tg} {Q : VK}
theorem Th.same (h : Th K H v g) (e : Same H H') : Th K H' v g := by
  cases h with
  | non => exact .non
  | bl b => exact .bl b
  | int i => exact .int i
  | str x => exact .str x
  | lst h => exact .lst (e.seq h)
  | tup h => exact .tup (same_sqt e h)
  | dic h => exact .dic (e _ _ h)
theorem tyx_sqt {p : Addr} {xs : List V} (h : SqT K H p xs) : TyX K H (.ref p) (.type "tuple") := by
  rcases h with (h | ⟨u, h⟩) | ⟨o, a, b, h1, h2, _⟩
  · exact .base (.tup h)
  · exact .fTuple h
  · exact .kTuple h1 h2
theorem Th.tyx (h : Th K H v g) : TyX K H v (.type g.ty) := by
  cases h with
  | non => exact .base .non
  | bl b => exact .base (.bl b)
  | int i => exact .base (.int i)
  | str x => exact .base (.str x)
  | lst h => exact tyx_sql h
  | tup h => exact tyx_sqt h
  | dic h => exact .base (.dK h)
def Tg.isInt : Tg → Bool
  | .bl _ => true | .int _ => true | _ => false
def Tg.isBool : Tg → Bool
  | .bl _ => true | _ => false
def Tg.isList : Tg → Bool
  | .lst _ => true | _ => false
def Tg.isStr : Tg → Bool
  | .str _ => true | _ => false
def Tg.isTup : Tg → Bool
  | .tup _ => true | _ => false
theorem Tg.kInt (g : Tg) : PySem.W.kitOne K (.type g.ty) (.type "int") = some g.isInt := by cases g <;> exact kit_ty (by kernel_rfl)
theorem Tg.kBool (g : Tg) : PySem.W.kitOne K (.type g.ty) (.type "bool") = some g.isBool := by cases g <;> exact kit_ty (by kernel_rfl)
theorem Tg.kList (g : Tg) : PySem.W.kitOne K (.type g.ty) (.type "list") = some g.isList := by cases g <;> exact kit_ty (by kernel_rfl)
theorem Tg.kStr (g : Tg) : PySem.W.kitOne K (.type g.ty) (.type "str") = some g.isStr := by cases g <;> exact kit_ty (by kernel_rfl)
theorem Tg.kTup (g : Tg) : PySem.W.kitOne K (.type g.ty) (.type "tuple") = some g.isTup := by cases g <;> exact kit_ty (by kernel_rfl)
theorem c_isiInt (h : Th K H v g) (k : Q (.bl g.isInt) H) : rIsi K [v, .ty "int"] H Q := c_isi h.tyx (.ty _) g.kInt k
theorem c_isiBool (h : Th K H v g) (k : Q (.bl g.isBool) H) : rIsi K [v, .ty "bool"] H Q := c_isi h.tyx (.ty _) g.kBool k
theorem c_isiList (h : Th K H v g) (k : Q (.bl g.isList) H) : rIsi K [v, .ty "list"] H Q := c_isi h.tyx (.ty _) g.kList k
theorem c_isiStr (h : Th K H v g) (k : Q (.bl g.isStr) H) : rIsi K [v, .ty "str"] H Q := c_isi h.tyx (.ty _) g.kStr k
theorem c_isiTup (h : Th K H v g) (k : Q (.bl g.isTup) H) : rIsi K [v, .ty "tuple"] H Q := c_isi h.tyx (.ty _) g.kTup k
/-- the results of defs that change nothing: a value, a new list, a new tuple -/
def RetV (H : Hp) (Q : VK) (v : V) : Prop := ∀ H', Same H H' → Q v H'
def RetL (H : Hp) (Q : VK) (xs : List V) : Prop := ∀ p H', H p = none → Same H H' → H' p = some (.lst xs) → Q (.ref p) H'
def RetT (H : Hp) (Q : VK) (xs : List V) : Prop := ∀ p H', H p = none → Same H H' → H' p = some (.tup xs) → Q (.ref p) H'
end
section
variable {B H : Hp} {L : List (Addr × HO)} {K : PySem.W.Frag} {Q : VK} {v : V} {xs : List V}
theorem Hs.rv (h : Hs B L H) (k : RetV B Q v) : Q v H := k H h.ex
theorem Hs.rl {p : Addr} (h : Hs B L H) (m : (p, HO.lst xs) ∈ L) (k : RetL B Q xs) : Q (.ref p) H := k p H (h.nb m) h.ex (h.get m)
theorem Hs.rt {p : Addr} (h : Hs B L H) (m : (p, HO.tup xs) ∈ L) (k : RetT B Q xs) : Q (.ref p) H := k p H (h.nb m) h.ex (h.get m)
theorem retV (h : Hs B L H) (k : ∀ H', Hs B L H' → Q v H') : RetV H Q v := fun H' e => k H' (h.same e)
theorem retL (h : Hs B L H) (k : ∀ p H', Hs B ((p, .lst xs) :: L) H' → Q (.ref p) H') : RetL H Q xs := fun p H' hp e hn => k p H' (h.newS hp e hn)
theorem retT (h : Hs B L H) (k : ∀ p H', Hs B ((p, .tup xs) :: L) H' → Q (.ref p) H') : RetT H Q xs := fun p H' hp e hn => k p H' (h.newS hp e hn)
end
end L2.BP
namespace L2.BP
open PySem PySem.Spec PyProof.Rows
/-! ### loops over the picture of the heap: I tells of what is done, the slots, the own objects, the base -/
abbrev Pic : Type := List (Addr × HO)
section
variable {α : Type} {K : PySem.W.Frag} {a : Addr} {g : TG} {tb : TS} {dn : St → Hp → Prop} {dr : VK} {db dc : St → Hp → Prop} {σ : St} {H B : Hp} {L : Pic}
/-- a list that is read stands in the base, or is an own one that is not changed -/
def NxI {β : Type} (I : β → St → Pic → Hp → Prop) (b : β) : St → Hp → Prop := fun σ H => ∃ L B, I b σ L B ∧ Hs B L H
theorem w_forL (f : α → V) (l : List α) (I : List α → St → Pic → Hp → Prop) (hs : Hs B L H) (h0 : I [] σ L B) (hq : ∀ pre post σ' L' B' H', l = pre ++ post → I pre σ' L' B' → Hs B' L' H' → SqL K H' a (l.map f))
    (turn : ∀ pre x post σ' L' B' H', l = pre ++ x :: post → I pre σ' L' B' → Hs B' L' H' → g (f x) σ' H' fun σ2 H2 => tb ⟨NxI I (pre ++ [x]), dr, dn, NxI I (pre ++ [x])⟩ σ2 H2)
    (fin : ∀ σ' L' B' H', I l σ' L' B' → Hs B' L' H' → dn σ' H') :
    ∃ b, V.ref a = .ref b ∧ (∃ xs, SqL K H b xs) ∧ ∃ W : Nat → Nat → St → Hp → Prop, (∃ m, W 0 m σ H) ∧ ∀ i m σ H, W i m σ H →
      ((Itl K b).stop i H ∧ dn σ H) ∨ ((Itl K b).go i H ∧ ∃ N : St → Hp → Prop, (∀ σ' H', N σ' H' → ∃ m', m' < m ∧ W (i + 1) m' σ' H') ∧ ∀ x H', (Itl K b).yld i H x H' → g x σ H' fun σ2 H2 => tb ⟨N, dr, dn, N⟩ σ2 H2) :=
  ⟨a, rfl, ⟨_, hq [] l σ L B H rfl h0 hs⟩, for_l f l (NxI I) ⟨L, B, h0, hs⟩ (fun pre post σ' H' e ⟨_, _, i, h⟩ => hq pre post _ _ _ _ e i h) (fun pre x post σ' H' e ⟨_, _, i, h⟩ => turn pre x post _ _ _ _ e i h) fun σ' H' ⟨_, _, i, h⟩ => fin _ _ _ _ i h⟩
theorem w_forR {lo : Int} {n : Nat} (I : Nat → St → Pic → Hp → Prop) (hs : Hs B L H) (h0 : I 0 σ L B)
    (turn : ∀ i σ' L' B' H', i < n → I i σ' L' B' → Hs B' L' H' → g (.int (lo + i)) σ' H' fun σ2 H2 => tb ⟨NxI I (i + 1), dr, dn, NxI I (i + 1)⟩ σ2 H2)
    (fin : ∀ σ' L' B' H', I n σ' L' B' → Hs B' L' H' → dn σ' H') :
    ∃ W : Nat → Nat → St → Hp → Prop, (∃ m, W 0 m σ H) ∧ ∀ i m σ H, W i m σ H →
      ((Itr lo n).stop i H ∧ dn σ H) ∨ ((Itr lo n).go i H ∧ ∃ N : St → Hp → Prop, (∀ σ' H', N σ' H' → ∃ m', m' < m ∧ W (i + 1) m' σ' H') ∧ ∀ x H', (Itr lo n).yld i H x H' → g x σ H' fun σ2 H2 => tb ⟨N, dr, dn, N⟩ σ2 H2) :=
  L2.for_range (D := { nx := dn, rt := dr }) (NxI I) ⟨L, B, h0, hs⟩ (fun i σ' H' e ⟨_, _, q, h⟩ => turn i _ _ _ _ e q h) fun σ' H' ⟨_, _, q, h⟩ => fin _ _ _ _ q h
theorem c_rng1 {n : Int} {P : It → Hp → Prop} (h1 : -(2 ^ 62) ≤ n) (h2 : n < 2 ^ 62) (k : P (Itr 0 n.toNat) H) : ∃ j : Int, [V.int n] = [.int j] ∧ -(2 ^ 62) ≤ j ∧ j < 2 ^ 62 ∧ P (Itr 0 j.toNat) H := ⟨n, rfl, h1, h2, k⟩
theorem c_rng2 {i j : Int} {P : It → Hp → Prop} (h1 : -(2 ^ 62) ≤ i ∧ i < 2 ^ 62 ∧ -(2 ^ 62) ≤ j ∧ j < 2 ^ 62) (k : P (Itr i (j - i).toNat) H) :
    ∃ i' j' : Int, [V.int i, V.int j] = [.int i', .int j'] ∧ (-(2 ^ 62) ≤ i' ∧ i' < 2 ^ 62 ∧ -(2 ^ 62) ≤ j' ∧ j' < 2 ^ 62) ∧ P (Itr i' (j' - i').toNat) H := ⟨i, j, rfl, h1, k⟩
/-- while: I falls by its number -/
def WhN (I : Nat → St → Pic → Hp → Prop) (m : Nat) : St → Hp → Prop := fun σ H => ∃ m', m' < m ∧ NxI I m' σ H
theorem w_while {c : TT} (I : Nat → St → Pic → Hp → Prop) (m0 : Nat) (hs : Hs B L H) (h0 : I m0 σ L B)
    (turn : ∀ m σ' L' B' H', I m σ' L' B' → Hs B' L' H' → c σ' H' fun b H1 => if b = true then ∃ N : St → Hp → Prop, (∀ σ3 H3, N σ3 H3 → WhN I m σ3 H3) ∧ tb ⟨N, dr, dn, N⟩ σ' H1 else dn σ' H1) :
    tWhile c tb ⟨dn, dr, db, dc⟩ σ H := ⟨fun m => NxI I m, ⟨m0, L, B, h0, hs⟩, fun m σ' H' ⟨_, _, q, h⟩ => turn m σ' _ _ H' q h⟩
theorem w_turn {P : St → Hp → Prop} (k : tb ⟨P, dr, dn, P⟩ σ H) : ∃ N : St → Hp → Prop, (∀ σ3 H3, N σ3 H3 → P σ3 H3) ∧ tb ⟨N, dr, dn, N⟩ σ H := ⟨_, fun _ _ w => w, k⟩
end
/-! ### comprehensions -/
section
variable {α : Type} {K : PySem.W.Frag} {a : Addr} {g : TG} {tt : TT} {te tl : TE} {σ : St} {H B : Hp} {L : Pic} {Q : VK} {vs : List Nat}
/-- the turn's word: what was made so far stands at D -/
def LcN (I : List α → List V → Hp → Prop) (B : Hp) (L : Pic) (D : Addr) (pre : List α) : Hp → Prop := fun H' => ∃ acc B', I pre acc B' ∧ Same B B' ∧ Hs B' ((D, .lst acc) :: L) H'
theorem c_lcL {P : Addr → Hp → Prop} (f : α → V) (l : List α) (I : List α → List V → Hp → Prop) (hs : Hs B L H) (h0 : I [] [] B)
    (hq : ∀ B' H', Same B B' → Hs B' L H' → SqL K H' a (l.map f))
    (turn : ∀ pre x post acc B' D H', l = pre ++ x :: post → I pre acc B' → Same B B' → Hs B' ((D, .lst acc) :: L) H' → g (f x) (wipe σ vs) H' fun σ2 H2 => wipe σ2 vs = wipe σ vs ∧ tt σ2 H2 fun b H3 =>
      if b = true then te σ2 H3 fun y H4 => ∃ acc, H4 D = some (.lst acc) ∧ acc.length < sizeLine ∧ LcN I B L D (pre ++ [x]) (upd H4 D (.lst (acc ++ [y]))) else LcN I B L D (pre ++ [x]) H3)
    (fin : ∀ acc B' D H', I l acc B' → Same B B' → Hs B' ((D, .lst acc) :: L) H' → P D H') :
    ∃ b, V.ref a = .ref b ∧ (∃ xs, SqL K H b xs) ∧ ∀ D, H D = none → ∃ W : Nat → Nat → Hp → Prop, (∃ m, W 0 m (upd H D (.lst []))) ∧ ∀ i m H, W i m H →
      ((Itl K b).stop i H ∧ P D H) ∨ ((Itl K b).go i H ∧ ∃ Nx : Hp → Prop, (∀ H', Nx H' → ∃ m', m' < m ∧ W (i + 1) m' H') ∧ ∀ x H', (Itl K b).yld i H x H' → g x (wipe σ vs) H' fun σ2 H2 => wipe σ2 vs = wipe σ vs ∧ tt σ2 H2 fun b H3 =>
        if b = true then te σ2 H3 fun y H4 => ∃ acc, H4 D = some (.lst acc) ∧ acc.length < sizeLine ∧ Nx (upd H4 D (.lst (acc ++ [y]))) else Nx H3) :=
  ⟨a, rfl, ⟨_, hq B H (Same.refl B) hs⟩, fun D hD => lc_l f l (LcN I B L D) ⟨[], B, h0, Same.refl B, hs.new hD⟩ (fun pre post H' _ ⟨acc, B', _, e, h⟩ => hq B' H' e h.drop)
    (fun pre x post H' e ⟨acc, B', p, e2, h⟩ => turn pre x post acc B' D H' e p e2 h) fun H' ⟨acc, B', p, e, h⟩ => fin acc B' D H' p e h⟩
theorem c_lcR {P : Addr → Hp → Prop} {lo : Int} {n : Nat} (I : Nat → List V → Hp → Prop) (hs : Hs B L H) (h0 : I 0 [] B)
    (turn : ∀ i acc B' D H', i < n → I i acc B' → Same B B' → Hs B' ((D, .lst acc) :: L) H' → g (.int (lo + i)) (wipe σ vs) H' fun σ2 H2 => wipe σ2 vs = wipe σ vs ∧ tt σ2 H2 fun b H3 =>
      if b = true then te σ2 H3 fun y H4 => ∃ acc, H4 D = some (.lst acc) ∧ acc.length < sizeLine ∧ (fun H' => ∃ acc B', I (i + 1) acc B' ∧ Same B B' ∧ Hs B' ((D, .lst acc) :: L) H') (upd H4 D (.lst (acc ++ [y]))) else (fun H' => ∃ acc B', I (i + 1) acc B' ∧ Same B B' ∧ Hs B' ((D, .lst acc) :: L) H') H3)
    (fin : ∀ acc B' D H', I n acc B' → Same B B' → Hs B' ((D, .lst acc) :: L) H' → P D H') :
    ∀ D, H D = none → ∃ W : Nat → Nat → Hp → Prop, (∃ m, W 0 m (upd H D (.lst []))) ∧ ∀ i m H, W i m H →
      ((Itr lo n).stop i H ∧ P D H) ∨ ((Itr lo n).go i H ∧ ∃ Nx : Hp → Prop, (∀ H', Nx H' → ∃ m', m' < m ∧ W (i + 1) m' H') ∧ ∀ x H', (Itr lo n).yld i H x H' → g x (wipe σ vs) H' fun σ2 H2 => wipe σ2 vs = wipe σ vs ∧ tt σ2 H2 fun b H3 =>
        if b = true then te σ2 H3 fun y H4 => ∃ acc, H4 D = some (.lst acc) ∧ acc.length < sizeLine ∧ Nx (upd H4 D (.lst (acc ++ [y]))) else Nx H3) :=
  fun D hD => L2.lc_range (fun i H' => ∃ acc B', I i acc B' ∧ Same B B' ∧ Hs B' ((D, .lst acc) :: L) H') ⟨[], B, h0, Same.refl B, hs.new hD⟩
    (fun i H' e ⟨acc, B', p, e2, h⟩ => turn i acc B' D H' e p e2 h) fun H' ⟨acc, B', p, e, h⟩ => fin acc B' D H' p e h
/-- one item more -/
theorem c_item {D : Addr} {acc : List V} {y : V} {B2 : Hp} {P : List V → Hp → Prop} (h : Hs B2 ((D, .lst acc) :: L) H) (hz : acc.length < sizeLine) (e : Same B B2) (i : P (acc ++ [y]) B2) :
    ∃ acc, H D = some (.lst acc) ∧ acc.length < sizeLine ∧ ∃ acc2 B', P acc2 B' ∧ Same B B' ∧ Hs B' ((D, .lst acc2) :: L) (upd H D (.lst (acc ++ [y]))) :=
  ⟨acc, h.get (.head _), hz, acc ++ [y], B2, i, e, h.u0⟩
theorem c_lc {wi : TI} (k : wi σ H fun J H1 => ∀ D, H1 D = none → ∃ W : Nat → Nat → Hp → Prop, (∃ m, W 0 m (upd H1 D (.lst []))) ∧ ∀ i m H, W i m H →
      (J.stop i H ∧ Q (.ref D) H) ∨ (J.go i H ∧ ∃ Nx : Hp → Prop, (∀ H', Nx H' → ∃ m', m' < m ∧ W (i + 1) m' H') ∧ ∀ x H', J.yld i H x H' → g x (wipe σ vs) H' fun σ2 H2 => wipe σ2 vs = wipe σ vs ∧ tt σ2 H2 fun b H3 =>
        if b = true then te σ2 H3 fun y H4 => ∃ acc, H4 D = some (.lst acc) ∧ acc.length < sizeLine ∧ Nx (upd H4 D (.lst (acc ++ [y]))) else Nx H3)) : tLc wi g tt te vs σ H Q := k
theorem w_for {wi : TI} {tb : TS} {dn : St → Hp → Prop} {dr : VK} {db dc : St → Hp → Prop} (k : wi σ H fun J H1 => ∃ W : Nat → Nat → St → Hp → Prop, (∃ m, W 0 m σ H1) ∧ ∀ i m σ H, W i m σ H →
  (J.stop i H ∧ dn σ H) ∨ (J.go i H ∧ ∃ N : St → Hp → Prop, (∀ σ' H', N σ' H' → ∃ m', m' < m ∧ W (i + 1) m' σ' H') ∧ ∀ x H', J.yld i H x H' → g x σ H' fun σ2 H2 => tb ⟨N, dr, dn, N⟩ σ2 H2)) : tFor wi g tb ⟨dn, dr, db, dc⟩ σ H := k
theorem c_iL {R : It → Hp → Prop} (k : tl σ H fun x H1 => ∃ a, x = .ref a ∧ (∃ xs, SqL K H1 a xs) ∧ R (Itl K a) H1) : iList K tl σ H R := k
theorem c_iT {R : It → Hp → Prop} (k : tl σ H fun x H1 => ∃ a, x = .ref a ∧ (∃ xs, SqT K H1 a xs) ∧ R (Itt K a) H1) : iTup K tl σ H R := k
theorem c_iR1 {ta : TA} {R : It → Hp → Prop} (k : ta σ H fun vs H1 => ∃ j : Int, vs = [.int j] ∧ -(2 ^ 62) ≤ j ∧ j < 2 ^ 62 ∧ R (Itr 0 j.toNat) H1) : iRng1 ta σ H R := k
theorem c_iR2 {ta : TA} {R : It → Hp → Prop} (k : ta σ H fun vs H1 => ∃ i j : Int, vs = [.int i, .int j] ∧ (-(2 ^ 62) ≤ i ∧ i < 2 ^ 62 ∧ -(2 ^ 62) ≤ j ∧ j < 2 ^ 62) ∧ R (Itr i (j - i).toNat) H1) : iRng2 ta σ H R := k
theorem c_yes {P : Bool → Hp → Prop} (k : P true H) : tYes σ H P := k
/-! targets, fields, methods of lists -/
theorem g_tup {n : Nat} {t : TGs} {xs : List V} {P : St → Hp → Prop} (h : SqT K H a xs) (hn : xs.length = n) (k : t xs σ H P) : gTup K n t (.ref a) σ H P := ⟨a, xs, rfl, h, hn, k⟩
theorem g_lst {n : Nat} {t : TGs} {xs : List V} {P : St → Hp → Prop} (h : SqL K H a xs) (hn : xs.length = n) (k : t xs σ H P) : gLst K n t (.ref a) σ H P := ⟨a, xs, rfl, h, hn, k⟩
theorem g_cons {t : TG} {u : TGs} {v : V} {r : List V} {P : St → Hp → Prop} (k : t v σ H fun σ' H' => u r σ' H' P) : gCons t u (v :: r) σ H P := ⟨v, r, rfl, k⟩
theorem g_nil {P : St → Hp → Prop} (k : P σ H) : gNil [] σ H P := ⟨rfl, k⟩
theorem c_tfld {f : Str} (k : te σ H fun x H1 => FldO K f x H1 Q) : tFld K te f σ H Q := k
def PutO (K : PySem.W.Frag) (f : Str) (y x : V) (H : Hp) (P : Hp → Prop) : Prop := ∃ a C dx fs, x = .ref a ∧ H a = some (.ins C dx fs) ∧ Cls K C ∧ NoAttr K C f ∧ fs.length < 1000 ∧ P (upd H a (.ins C dx (putF f y fs)))
theorem w_sfld {f : Str} {ta : TE} {dn : St → Hp → Prop} {dr : VK} {db dc : St → Hp → Prop} (k : te σ H fun y H1 => ta σ H1 fun x H2 => PutO K f y x H2 (dn σ)) : sFld K ta te f ⟨dn, dr, db, dc⟩ σ H := k
theorem w_put0 {f : Str} {C dx : Addr} {y : V} {fs fs' : List (Str × V)} {P : Hp → Prop} (hs : Hs B ((a, .ins C dx fs) :: L) H) (hc : Cls K C) (hn : NoAttr K C f) (hl : fs.length < 1000) (e : putF f y fs = fs')
    (k : ∀ H', Hs B ((a, .ins C dx fs') :: L) H' → P H') : PutO K f y (.ref a) H P :=
  ⟨a, C, dx, fs, rfl, hs.get (.head _), hc, hn, hl, by rw [e]; exact k _ hs.u0⟩
theorem w_put1 {q : Addr × HO} {f : Str} {C dx : Addr} {y : V} {fs fs' : List (Str × V)} {P : Hp → Prop} (hs : Hs B (q :: (a, .ins C dx fs) :: L) H) (hc : Cls K C) (hn : NoAttr K C f) (hl : fs.length < 1000) (e : putF f y fs = fs')
    (k : ∀ H', Hs B (q :: (a, .ins C dx fs') :: L) H' → P H') : PutO K f y (.ref a) H P := w_put0 hs.swap hc hn hl e fun H' h => k H' h.swap
theorem w_put2 {q r : Addr × HO} {f : Str} {C dx : Addr} {y : V} {fs fs' : List (Str × V)} {P : Hp → Prop} (hs : Hs B (q :: r :: (a, .ins C dx fs) :: L) H) (hc : Cls K C) (hn : NoAttr K C f) (hl : fs.length < 1000) (e : putF f y fs = fs')
    (k : ∀ H', Hs B (q :: r :: (a, .ins C dx fs') :: L) H' → P H') : PutO K f y (.ref a) H P := w_put0 hs.rot3 hc hn hl e fun H' h => k H' h.unrot3
def AugO (K : PySem.W.Frag) (f : Str) (x : V) (H : Hp) (P : Addr → Addr → V → Prop) : Prop := ∃ a C dx fs v, x = .ref a ∧ H a = some (.ins C dx fs) ∧ Cls K C ∧ NoAttr K C f ∧ fs.lookup f = some v ∧ P a C v
def AputO (f : Str) (a C : Addr) (z : V) (H : Hp) (P : Hp → Prop) : Prop := ∃ dx' fs', H a = some (.ins C dx' fs') ∧ fs'.length < 1000 ∧ P (upd H a (.ins C dx' (putF f z fs')))
theorem w_sfldAug {f : Str} {ta : TE} {rd : V → V → Hp → VK → Prop} {dn : St → Hp → Prop} {dr : VK} {db dc : St → Hp → Prop} (k : ta σ H fun x H1 => AugO K f x H1 fun a C v => te σ H1 fun y H2 => rd v y H2 fun z H3 => AputO f a C z H3 (dn σ)) : sFldAug K ta te rd f ⟨dn, dr, db, dc⟩ σ H := k
theorem c_fldA {f : Str} {C dx : Addr} {fs : List (Str × V)} {v : V} {P : Addr → Addr → V → Prop} (h : H a = some (.ins C dx fs)) (hc : Cls K C) (hn : NoAttr K C f) (hl : fs.lookup f = some v) (k : P a C v) :
    AugO K f (.ref a) H P := ⟨a, C, dx, fs, v, rfl, h, hc, hn, hl, k⟩
theorem c_radd {i j : Int} (k : Q (.int (i + j)) H) : rAdd (.int i) (.int j) H Q := ⟨i, j, rfl, rfl, k⟩
theorem c_rsub {i j : Int} (k : Q (.int (i - j)) H) : rSub (.int i) (.int j) H Q := ⟨i, j, rfl, rfl, k⟩
theorem w_aput0 {f : Str} {C dx : Addr} {z : V} {fs fs' : List (Str × V)} {P : Hp → Prop} (hs : Hs B ((a, .ins C dx fs) :: L) H) (hl : fs.length < 1000) (e : putF f z fs = fs') (k : ∀ H', Hs B ((a, .ins C dx fs') :: L) H' → P H') :
    AputO f a C z H P := ⟨dx, fs, hs.get (.head _), hl, by rw [e]; exact k _ hs.u0⟩
theorem w_aput1 {q : Addr × HO} {f : Str} {C dx : Addr} {z : V} {fs fs' : List (Str × V)} {P : Hp → Prop} (hs : Hs B (q :: (a, .ins C dx fs) :: L) H) (hl : fs.length < 1000) (e : putF f z fs = fs') (k : ∀ H', Hs B (q :: (a, .ins C dx fs') :: L) H' → P H') :
    AputO f a C z H P := w_aput0 hs.swap hl e fun H' h => k H' h.swap
theorem w_aput2 {q r : Addr × HO} {f : Str} {C dx : Addr} {z : V} {fs fs' : List (Str × V)} {P : Hp → Prop} (hs : Hs B (q :: r :: (a, .ins C dx fs) :: L) H) (hl : fs.length < 1000) (e : putF f z fs = fs') (k : ∀ H', Hs B (q :: r :: (a, .ins C dx fs') :: L) H' → P H') :
    AputO f a C z H P := w_aput0 hs.rot3 hl e fun H' h => k H' h.unrot3
theorem c_bm {T : String} {r : V → List V → Hp → VK → Prop} {t : TA} (k : te σ H fun x H1 => tyV K T x H1 ∧ t σ H1 fun xs H2 => r x xs H2 Q) : tBM K T r te t σ H Q := k
theorem c_bm0 {T : String} {r : V → List V → Hp → VK → Prop} (k : te σ H fun x H1 => tyV K T x H1 ∧ r x [] H1 Q) : tBM0 K T r te σ H Q := k
theorem c_tyL {xs : List V} {P : Prop} (h : SqL K H a xs) (k : P) : tyV K "list" (.ref a) H ∧ P := ⟨.inl ⟨rfl, _, h⟩, k⟩
theorem c_app0 {xs : List V} {y : V} (hs : Hs B ((a, .lst xs) :: L) H) (hz : xs.length < sizeLine) (k : ∀ H', Hs B ((a, .lst (xs ++ [y])) :: L) H' → Q .non H') : rAppend (.ref a) [y] H Q := ⟨a, xs, y, rfl, rfl, hs.get (.head _), hz, k _ hs.u0⟩
theorem c_app1 {q : Addr × HO} {xs : List V} {y : V} (hs : Hs B (q :: (a, .lst xs) :: L) H) (hz : xs.length < sizeLine) (k : ∀ H', Hs B (q :: (a, .lst (xs ++ [y])) :: L) H' → Q .non H') : rAppend (.ref a) [y] H Q := c_app0 hs.swap hz fun H' h => k H' h.swap
theorem c_app2 {q r : Addr × HO} {xs : List V} {y : V} (hs : Hs B (q :: r :: (a, .lst xs) :: L) H) (hz : xs.length < sizeLine) (k : ∀ H', Hs B (q :: r :: (a, .lst (xs ++ [y])) :: L) H' → Q .non H') : rAppend (.ref a) [y] H Q := c_app0 hs.rot3 hz fun H' h => k H' h.unrot3
theorem c_sl {r : V → Option Int → Option Int → Hp → VK → Prop} {lo hi : TO} (k : te σ H fun x H1 => lo σ H1 fun l H2 => hi σ H2 fun u H3 => r x l u H3 Q) : tSl r te lo hi σ H Q := k
theorem c_part {P : Option Int → Hp → Prop} (k : te σ H fun x H1 => ∃ i, x = .int i ∧ P (some i) H1) : tPart te σ H P := k
theorem c_nopart {P : Option Int → Hp → Prop} (k : P none H) : tNoPart σ H P := k
theorem c_i {i : Int} {P : Int → Prop} (k : P i) : ∃ j, V.int i = .int j ∧ P j := ⟨i, rfl, k⟩
theorem small5 {n : Nat} (h : n ≤ 100000) : n < sizeLine := Nat.lt_of_le_of_lt h (by decide)
theorem small5' {n : Nat} (h : n ≤ 100000) : n ≤ sizeLine := Nat.le_trans h (by decide)
end
end L2.BP
namespace L2.BP
open PySem PySem.Spec PyProof.Rows
section
variable {f g : Str} {v w y : V} {r r' : List (Str × V)}
theorem look0 : List.lookup f ((f, v) :: r) = some v := by simp [List.lookup]
theorem lookS (h : ¬ f = g) (e : List.lookup f r = some v) : List.lookup f ((g, w) :: r) = some v := by
  have n : (f == g) = false := by simpa using h
  show (match f == g with | true => some w | false => List.lookup f r) = some v
  rw [n]
  exact e
theorem lookN : List.lookup f ([] : List (Str × V)) = none := rfl
theorem lookNS (h : ¬ f = g) (e : List.lookup f r = none) : List.lookup f ((g, w) :: r) = none := by
  have n : (f == g) = false := by simpa using h
  show (match f == g with | true => some w | false => List.lookup f r) = none
  rw [n]
  exact e
theorem put0 : putF f y ((f, v) :: r) = (f, y) :: r := if_pos rfl
theorem putN : putF f y [] = [(f, y)] := rfl
theorem putS (h : ¬ g = f) (e : putF f y r = r') : putF f y ((g, w) :: r) = (g, w) :: r' := by
  show (if g = f then _ else (g, w) :: putF f y r) = _
  rw [if_neg h, e]
end
section
variable {K : PySem.W.Frag} {σ : St} {H B : Hp} {L : Pic} {Q : VK} {sp : Sp} {W : WX} {dvs vs : List V} {C : Addr}
def MkO (C : Addr) (sp : Sp) (vs : List V) (H : Hp) (Q : VK) (E : XK) : Prop := ∀ x dx, H x = none → H dx = none → dx ≠ x → sp (.ref x :: vs) (upd (upd H dx (.own x)) x (.ins C dx [])) (fun v H2 => v = .non ∧ Q (.ref x) H2) E
theorem c_mk {t : TA} (k : t σ H fun vs H1 => MkO C sp (vs ++ dvs) H1 Q fun c d H2 => W c d σ H2) : tMk C sp dvs W t σ H Q := k
theorem c_mkO {E : XK} (hs : Hs B L H) (k : ∀ x dx H', Hs B ((x, .ins C dx []) :: L) H' → sp (.ref x :: vs) H' (fun v H2 => v = .non ∧ Q (.ref x) H2) E) : MkO C sp vs H Q E := fun x dx hx hdx ne => by
  have h1 := hs.new (o := HO.own x) hdx
  have h2 : (upd H dx (.own x)) x = none := by rw [upd_ne (Ne.symm ne)]; exact hx
  exact k x dx _ (h1.new h2).swap.drop
/-- drop what stands second, third -/
theorem Hs.drop1 {a b : Addr × HO} (h : Hs B (a :: b :: L) H) : Hs B (a :: L) H := h.swap.drop
theorem Hs.drop2 {a b c : Addr × HO} (h : Hs B (a :: b :: c :: L) H) : Hs B (a :: b :: L) H := h.rot3.drop
end
end L2.BP
namespace L2.BP
open PySem PySem.Spec PyProof.Rows
/-! ### walks that hand out pairs; walks of tuples -/
section
variable {α : Type} {K : PySem.W.Frag} {a : Addr} {g : TG} {tb : TS} {dn : St → Hp → Prop} {dr : VK} {db dc : St → Hp → Prop} {σ : St} {H B : Hp} {L : Pic}
/-- what a for asks of its iterator -/
def ForO (J : It) (g : TG) (tb : TS) (dn : St → Hp → Prop) (dr : VK) (σ : St) (H : Hp) : Prop := ∃ W : Nat → Nat → St → Hp → Prop, (∃ m, W 0 m σ H) ∧ ∀ i m σ H, W i m σ H →
  (J.stop i H ∧ dn σ H) ∨ (J.go i H ∧ ∃ N : St → Hp → Prop, (∀ σ' H', N σ' H' → ∃ m', m' < m ∧ W (i + 1) m' σ' H') ∧ ∀ x H', J.yld i H x H' → g x σ H' fun σ2 H2 => tb ⟨N, dr, dn, N⟩ σ2 H2)
theorem get_map {f : α → V} {l : List α} {i : Nat} {x : V} (h : (l.map f)[i]? = some x) : ∃ y, l[i]? = some y ∧ x = f y := by
  rw [List.getElem?_map] at h
  cases e : l[i]? with
  | none => rw [e] at h; cases h
  | some y => rw [e] at h; exact ⟨y, rfl, (Option.some.inj h).symm⟩
theorem w_forE (f : α → V) (l : List α) (I : List α → St → Pic → Hp → Prop) (hs : Hs B L H) (h0 : I [] σ L B) (hq : ∀ pre post σ' L' B' H', l = pre ++ post → I pre σ' L' B' → Hs B' L' H' → SqL K H' a (l.map f))
    (turn : ∀ pre x post σ' L' B' T H', l = pre ++ x :: post → I pre σ' L' B' → Hs B' ((T, .tup [.int ((pre.length : Nat) : Int), f x]) :: L') H' → g (.ref T) σ' H' fun σ2 H2 => tb ⟨NxI I (pre ++ [x]), dr, dn, NxI I (pre ++ [x])⟩ σ2 H2)
    (fin : ∀ σ' L' B' H', I l σ' L' B' → Hs B' L' H' → dn σ' H') : ForO (Ite K a) g tb dn dr σ H := by
  refine ⟨fun i m σ H => m = l.length - i ∧ i ≤ l.length ∧ NxI I (l.take i) σ H, ⟨l.length, by simp, Nat.zero_le _, L, B, by simpa using h0, hs⟩, ?_⟩
  rintro i m σ' H' ⟨rfl, hi, L', B', q, h⟩
  have z := hq (l.take i) (l.drop i) σ' L' B' H' (List.take_append_drop i l).symm q h
  by_cases hlt : i < l.length
  · refine .inr ⟨⟨l.map f, f l[i], z, by simp [hlt]⟩, NxI I (l.take (i + 1)), fun σ2 H2 p => ⟨_, by omega, rfl, hlt, p⟩, ?_⟩
    rintro v H2 ⟨T, x, rfl, hT, rfl, hx⟩
    obtain ⟨y, e1, rfl⟩ := get_map (hx _ z)
    obtain ⟨e2, e3⟩ := take_split e1
    have el : (l.take i).length = i := by rw [List.length_take]; omega
    have w := turn _ y _ σ' L' B' T _ e2 q (by rw [el]; exact h.new hT)
    rw [e3]
    exact w
  · have e : i = l.length := by omega
    subst e
    exact .inl ⟨⟨_, z, by simp⟩, fin _ _ _ _ (by simpa using q) h⟩
/-- over a tuple -/
theorem w_forT (xs : List V) (I : List V → St → Pic → Hp → Prop) (hs : Hs B L H) (h0 : I [] σ L B) (hq : ∀ pre post σ' L' B' H', xs = pre ++ post → I pre σ' L' B' → Hs B' L' H' → SqT K H' a xs)
    (turn : ∀ pre x post σ' L' B' H', xs = pre ++ x :: post → I pre σ' L' B' → Hs B' L' H' → g x σ' H' fun σ2 H2 => tb ⟨NxI I (pre ++ [x]), dr, dn, NxI I (pre ++ [x])⟩ σ2 H2)
    (fin : ∀ σ' L' B' H', I xs σ' L' B' → Hs B' L' H' → dn σ' H') :
    ∃ b, V.ref a = .ref b ∧ (∃ xs, SqT K H b xs) ∧ ForO (Itt K b) g tb dn dr σ H := by
  refine ⟨a, rfl, ⟨_, hq [] xs σ L B H rfl h0 hs⟩, ?_⟩
  refine L2.for_tup (D := { nx := dn, rt := dr }) (K := K) (a := a) (xs := xs) (fun i => NxI I (xs.take i)) ⟨L, B, by simpa using h0, hs⟩ (fun i σ' H' _ ⟨L', B', q, h⟩ => hq (xs.take i) (xs.drop i) σ' L' B' H' (List.take_append_drop i xs).symm q h) (fun i x σ' H' hx ⟨L', B', q, h⟩ => ?_) fun σ' H' ⟨L', B', q, h⟩ => fin _ _ _ _ (by simpa using q) h
  obtain ⟨e1, e2⟩ := take_split hx
  have w := turn _ x _ σ' L' B' H' e1 q h
  rw [e2]
  exact w
/-- over two lists -/
theorem w_forZ {β : Type} {b : Addr} (f : α → V) (f2 : β → V) (l : List α) (l2 : List β) (hl : l.length = l2.length) (I : Nat → St → Pic → Hp → Prop) (hs : Hs B L H) (h0 : I 0 σ L B)
    (hq : ∀ i σ' L' B' H', I i σ' L' B' → Hs B' L' H' → SqL K H' a (l.map f) ∧ SqL K H' b (l2.map f2))
    (turn : ∀ i x y σ' L' B' T H', l[i]? = some x → l2[i]? = some y → I i σ' L' B' → Hs B' ((T, .tup [f x, f2 y]) :: L') H' → g (.ref T) σ' H' fun σ2 H2 => tb ⟨NxI I (i + 1), dr, dn, NxI I (i + 1)⟩ σ2 H2)
    (fin : ∀ σ' L' B' H', I l.length σ' L' B' → Hs B' L' H' → dn σ' H') : ForO (Itz K a b) g tb dn dr σ H := by
  refine ⟨fun i m σ H => m = l.length - i ∧ i ≤ l.length ∧ NxI I i σ H, ⟨l.length, by simp, Nat.zero_le _, L, B, h0, hs⟩, ?_⟩
  rintro i m σ' H' ⟨rfl, hi, L', B', q, h⟩
  obtain ⟨z1, z2⟩ := hq i σ' L' B' H' q h
  by_cases hlt : i < l.length
  · have hlt2 : i < l2.length := by omega
    refine .inr ⟨⟨l.map f, l2.map f2, f l[i], f2 l2[i], z1, z2, by simp [hlt], by simp [hlt2]⟩, NxI I (i + 1), fun σ2 H2 p => ⟨_, by omega, rfl, hlt, p⟩, ?_⟩
    rintro v H2 ⟨T, x, y, rfl, hT, rfl, hx, hy⟩
    obtain ⟨x', e1, rfl⟩ := get_map (hx _ z1)
    obtain ⟨y', e2, rfl⟩ := get_map (hy _ z2)
    exact turn i x' y' σ' L' B' T _ e1 e2 q (h.new hT)
  · have e : i = l.length := by omega
    subst e
    exact .inl ⟨⟨_, _, z1, z2, by simp⟩, fin _ _ _ _ q h⟩
theorem c_iE {ta : TA} {R : It → Hp → Prop} (k : ta σ H fun vs H1 => ∃ a xs, vs = [.ref a] ∧ SqL K H1 a xs ∧ R (Ite K a) H1) : iEnum K ta σ H R := k
theorem c_iE1 {R : It → Hp → Prop} {xs : List V} (h : SqL K H a xs) (k : R (Ite K a) H) : ∃ b xs, [V.ref a] = [.ref b] ∧ SqL K H b xs ∧ R (Ite K b) H := ⟨a, xs, rfl, h, k⟩
theorem c_iZ {ta : TA} {R : It → Hp → Prop} (k : ta σ H fun vs H1 => ∃ a b xs ys, vs = [.ref a, .ref b] ∧ SqL K H1 a xs ∧ SqL K H1 b ys ∧ R (Itz K a b) H1) : iZip K ta σ H R := k
theorem c_iZ1 {R : It → Hp → Prop} {b : Addr} {xs ys : List V} (h : SqL K H a xs) (h2 : SqL K H b ys) (k : R (Itz K a b) H) : ∃ a' b' xs ys, [V.ref a, V.ref b] = [.ref a', .ref b'] ∧ SqL K H a' xs ∧ SqL K H b' ys ∧ R (Itz K a' b') H := ⟨a, b, xs, ys, rfl, h, h2, k⟩
end
section
variable {α : Type} {K : PySem.W.Frag} {a : Addr} {g : TG} {tt : TT} {te tl : TE} {σ : St} {H B : Hp} {L : Pic} {vs : List Nat}
/-- what a comprehension asks of its iterator -/
def LcO (J : It) (g : TG) (tt : TT) (te : TE) (vs : List Nat) (σ : St) (H : Hp) (P : Addr → Hp → Prop) : Prop := ∀ D, H D = none → ∃ W : Nat → Nat → Hp → Prop, (∃ m, W 0 m (upd H D (.lst []))) ∧ ∀ i m H, W i m H →
  (J.stop i H ∧ P D H) ∨ (J.go i H ∧ ∃ Nx : Hp → Prop, (∀ H', Nx H' → ∃ m', m' < m ∧ W (i + 1) m' H') ∧ ∀ x H', J.yld i H x H' → g x (wipe σ vs) H' fun σ2 H2 => wipe σ2 vs = wipe σ vs ∧ tt σ2 H2 fun b H3 =>
    if b = true then te σ2 H3 fun y H4 => ∃ acc, H4 D = some (.lst acc) ∧ acc.length < sizeLine ∧ Nx (upd H4 D (.lst (acc ++ [y]))) else Nx H3)
theorem c_lcE {P : Addr → Hp → Prop} (f : α → V) (l : List α) (I : List α → List V → Hp → Prop) (hs : Hs B L H) (h0 : I [] [] B) (hq : ∀ B' H', Same B B' → Hs B' L H' → SqL K H' a (l.map f))
    (turn : ∀ pre x post acc B' D T H', l = pre ++ x :: post → I pre acc B' → Same B B' → Hs B' ((T, .tup [.int ((pre.length : Nat) : Int), f x]) :: (D, .lst acc) :: L) H' → g (.ref T) (wipe σ vs) H' fun σ2 H2 => wipe σ2 vs = wipe σ vs ∧ tt σ2 H2 fun b H3 =>
      if b = true then te σ2 H3 fun y H4 => ∃ acc, H4 D = some (.lst acc) ∧ acc.length < sizeLine ∧ LcN I B L D (pre ++ [x]) (upd H4 D (.lst (acc ++ [y]))) else LcN I B L D (pre ++ [x]) H3)
    (fin : ∀ acc B' D H', I l acc B' → Same B B' → Hs B' ((D, .lst acc) :: L) H' → P D H') : LcO (Ite K a) g tt te vs σ H P := by
  intro D hD
  refine ⟨fun i m H' => m = l.length - i ∧ i ≤ l.length ∧ LcN I B L D (l.take i) H', ⟨l.length, by simp, Nat.zero_le _, [], B, by simpa using h0, Same.refl B, hs.new hD⟩, ?_⟩
  rintro i m H' ⟨rfl, hi, acc, B', q, e, h⟩
  have z := hq B' H' e h.drop
  by_cases hlt : i < l.length
  · refine .inr ⟨⟨l.map f, f l[i], z, by simp [hlt]⟩, LcN I B L D (l.take (i + 1)), fun H2 p => ⟨_, by omega, rfl, hlt, p⟩, ?_⟩
    rintro v H2 ⟨T, x, rfl, hT, rfl, hx⟩
    obtain ⟨y, e1, rfl⟩ := get_map (hx _ z)
    obtain ⟨e2, e3⟩ := take_split e1
    have el : (l.take i).length = i := by rw [List.length_take]; omega
    have w := turn _ y _ acc B' D T _ e2 q e (by rw [el]; exact h.new hT)
    rw [e3]
    exact w
  · have e' : i = l.length := by omega
    subst e'
    exact .inl ⟨⟨_, z, by simp⟩, fin acc B' D H' (by simpa using q) e h⟩
end
/-! ### lists of tuples -/
section
variable {K : PySem.W.Frag} {H H' : Hp}
/-- each of these values is a tuple of those items -/
inductive Tups (K : PySem.W.Frag) (H : Hp) : List V → List (List V) → Prop where
  | nil : Tups K H [] []
  | cons {a : Addr} {xs : List V} {vs : List V} {r : List (List V)} : SqT K H a xs → Tups K H vs r → Tups K H (V.ref a :: vs) (xs :: r)
theorem Tups.same (e : Same H H') : ∀ {vs : List V} {ps : List (List V)}, Tups K H vs ps → Tups K H' vs ps
  | _, _, .nil => .nil
  | _, _, .cons h t => .cons (same_sqt e h) (Tups.same e t)
theorem Tups.length : ∀ {vs : List V} {ps : List (List V)}, Tups K H vs ps → vs.length = ps.length
  | _, _, .nil => rfl
  | _, _, .cons _ t => congrArg (· + 1) t.length
theorem Tups.snoc {a : Addr} {xs : List V} : ∀ {vs : List V} {ps : List (List V)}, Tups K H vs ps → SqT K H a xs → Tups K H (vs ++ [.ref a]) (ps ++ [xs])
  | _, _, .nil, h => .cons h .nil
  | _, _, .cons z t, h => .cons z (t.snoc h)
theorem Tups.get : ∀ {vs : List V} {ps : List (List V)} {i : Nat} {xs : List V}, Tups K H vs ps → ps[i]? = some xs → ∃ a, vs[i]? = some (.ref a) ∧ SqT K H a xs
  | _, _, 0, _, .cons h _, e => by cases e; exact ⟨_, rfl, h⟩
  | _, _, i + 1, _, .cons _ t, e => t.get (i := i) e
theorem Tups.split {x : V} {post : List V} : ∀ {pre : List V} {ps : List (List V)}, Tups K H (pre ++ x :: post) ps → ∃ a p1 xs p2, x = .ref a ∧ ps = p1 ++ xs :: p2 ∧ p1.length = pre.length ∧ SqT K H a xs
  | [], ps, h => by
    cases (show Tups K H (x :: post) ps from h) with
    | cons hh t => exact ⟨_, [], _, _, rfl, rfl, rfl, hh⟩
  | y :: pre, ps, h => by
    cases (show Tups K H (y :: (pre ++ x :: post)) ps from h) with
    | cons hh t =>
      obtain ⟨a, p1, xs, p2, e1, e2, e3, e4⟩ := Tups.split t
      exact ⟨a, _ :: p1, xs, p2, e1, by rw [e2]; rfl, by simp [e3], e4⟩
end
end L2.BP
namespace L2.BP
open PySem PySem.Spec PyProof.Rows
section
variable {σ : St} {H B : Hp} {L : Pic} {K : PySem.W.Frag} {dn : St → Hp → Prop} {dr : VK} {db dc : St → Hp → Prop} {Q : VK} {tr : TA} {te to_ ti_ : TE} {a b : Addr} {xs ys : List V} {x v w o i : V}
theorem w_break (k : db σ H) : tBreak ⟨dn, dr, db, dc⟩ σ H := k
theorem w_cont (k : dc σ H) : tCont ⟨dn, dr, db, dc⟩ σ H := k
theorem w_retN (k : dr .non H) : tRetN ⟨dn, dr, db, dc⟩ σ H := k
def ParO (m n : Nat) (vs : List V) (σ : St) (dn : St → Hp → Prop) (H : Hp) : Prop := ∃ v w, vs = [v, w] ∧ dn ((σ.set m (some v)).set n (some w)) H
theorem w_par {m n : Nat} (k : tr σ H fun vs H1 => ParO m n vs σ dn H1) : tPar m n tr ⟨dn, dr, db, dc⟩ σ H := k
theorem c_parO {m n : Nat} (k : dn ((σ.set m (some v)).set n (some w)) H) : ParO m n [v, w] σ dn H := ⟨v, w, rfl, k⟩
/-! a list longer by another one, in place -/
theorem c_ext0 (hs : Hs B ((a, .lst xs) :: L) H) (hb : H b = some (.lst ys)) (hz : xs.length + ys.length ≤ sizeLine) (k : ∀ H', Hs B ((a, .lst (xs ++ ys)) :: L) H' → Q (.ref a) H') : ipAddU (.ref a) (.ref b) H Q :=
  .inr (.inl ⟨a, b, xs, ys, rfl, rfl, hs.get (.head _), hb, hz, k _ hs.u0⟩)
theorem c_extM0 (hs : Hs B ((a, .lst xs) :: L) H) (hb : H b = some (.lst ys)) (hz : xs.length + ys.length ≤ sizeLine) (k : ∀ H', Hs B ((a, .lst (xs ++ ys)) :: L) H' → Q .non H') : rExtend (.ref a) [.ref b] H Q :=
  ⟨a, b, xs, ys, rfl, rfl, hs.get (.head _), hb, hz, k _ hs.u0⟩
theorem c_clear0 (hs : Hs B ((a, .lst xs) :: L) H) (k : ∀ H', Hs B ((a, .lst []) :: L) H' → Q .non H') : rClear (.ref a) [] H Q := ⟨a, xs, rfl, rfl, hs.get (.head _), k _ hs.u0⟩
theorem c_reverse0 (hs : Hs B ((a, .lst xs) :: L) H) (k : ∀ H', Hs B ((a, .lst xs.reverse) :: L) H' → Q .non H') : rReverse (.ref a) [] H Q := ⟨a, xs, rfl, rfl, hs.get (.head _), k _ hs.u0⟩
/-! slices of tuples, lists turned round -/
theorem c_slT {lo hi : Option Int} (h : Hs B L H) (hq : SqT K H a xs) (hn : ¬ (HT.sIx xs.length 0 lo = 0 ∧ HT.sIx xs.length xs.length hi = xs.length)) (k : ∀ p H', Hs B ((p, .tup (cutV xs lo hi)) :: L) H' → Q (.ref p) H') : rSlK K (.ref a) lo hi H Q :=
  .inr (.inr ⟨a, xs, rfl, hq, hn, fun p hp => k p _ (h.new hp)⟩)
def RevO (K : PySem.W.Frag) (x : V) (H : Hp) (Q : VK) : Prop := ∃ a xs, x = .ref a ∧ SqL K H a xs ∧ ∀ p, H p = none → Q (.ref p) (upd H p (.lst xs.reverse))
theorem c_rev (k : te σ H fun x H1 => RevO K x H1 Q) : tRevL K te σ H Q := k
theorem c_revO (h : Hs B L H) (hq : SqL K H a xs) (k : ∀ p H', Hs B ((p, .lst xs.reverse) :: L) H' → Q (.ref p) H') : RevO K (.ref a) H Q := ⟨a, xs, rfl, hq, fun p hp => k p _ (h.new hp)⟩
/-! an item written -/
def SetO (o i v : V) (H : Hp) (P : Hp → Prop) : Prop := rSetL o i v H P
theorem g_sub {P : St → Hp → Prop} (k : to_ σ H fun o H1 => ti_ σ H1 fun i H2 => SetO o i v H2 (P σ)) : gSub to_ ti_ rSetL v σ H P := k
theorem w_set0 {j : Int} {m : Nat} {P : Hp → Prop} (hs : Hs B ((a, .lst xs) :: L) H) (e : j = ((m : Nat) : Int)) (hm : m < xs.length) (k : ∀ H', Hs B ((a, .lst (xs.set m v)) :: L) H' → P H') : SetO (.ref a) (.int j) v H P :=
  ⟨a, xs, j, m, rfl, rfl, hs.get (.head _), by subst e; unfold ixN; rw [if_pos (Int.natCast_nonneg _), if_pos (Int.ofNat_lt.mpr hm), Int.toNat_natCast], k _ hs.u0⟩
theorem w_set1 {q : Addr × HO} {j : Int} {m : Nat} {P : Hp → Prop} (hs : Hs B (q :: (a, .lst xs) :: L) H) (e : j = ((m : Nat) : Int)) (hm : m < xs.length) (k : ∀ H', Hs B (q :: (a, .lst (xs.set m v)) :: L) H' → P H') : SetO (.ref a) (.int j) v H P :=
  w_set0 hs.swap e hm fun H' h => k H' h.swap
theorem c_isiS {z : Str} (k : Q (.bl true) H) : rIsi K [.str z, .ty "str"] H Q := c_isiStr (.str z) k
theorem small6 {n : Nat} (h : n ≤ 200000) : n < sizeLine := Nat.lt_of_le_of_lt h (by decide)
theorem small6' {n : Nat} (h : n ≤ 200000) : n ≤ sizeLine := Nat.le_trans h (by decide)
end
end L2.BP
namespace L2.BP
open PySem PySem.Spec PyProof.Rows
section
variable {K : PySem.W.Frag} {W : WX} {vs : List V} {H : Hp} {Q : VK} {E : XK}
/-! ### == of lists -/
theorem eqvAll_ints : ∀ a b : List Int, PyData.eqvAll (a.map PyData.int) (b.map PyData.int) = decide (a = b)
  | [], [] => by simp [PyData.eqvAll]
  | [], y :: r => by simp [PyData.eqvAll]
  | x :: r, [] => by simp [PyData.eqvAll]
  | x :: r, y :: t => by
    rw [List.map_cons, List.map_cons, PyData.eqvAll, eqvAll_ints r t]
    simp only [PyData.eqv]
    by_cases h : x = y <;> by_cases h2 : r = t <;> simp [h, h2]
theorem canAll_ints : ∀ a : List Int, PyData.canLayAll0 (a.map PyData.int) = true
  | [] => by simp [PyData.canLayAll0]
  | x :: r => by
    rw [List.map_cons, PyData.canLayAll0, canAll_ints r]
    simp [PyData.canLay0]
theorem depAll_ints : ∀ a : List Int, PyData.depthAll (a.map PyData.int) ≤ 1
  | [] => by simp [PyData.depthAll]
  | x :: r => by
    have := depAll_ints r
    rw [List.map_cons, PyData.depthAll]
    simp [PyData.depth]
    omega
theorem shaped_ints (a : List Int) : SeqAt.shaped (.list (a.map PyData.int)) = true := by
  unfold SeqAt.shaped
  rw [PyData.canLay0, canAll_ints, PyData.depth]
  have := depAll_ints a
  simp
  omega
theorem c_eqL {p q : Addr} (a b : List Int) (h1 : SqL K H p (a.map V.int)) (h2 : SqL K H q (b.map V.int)) (k : Q (.bl (decide (a = b))) H) : rEqU K (.ref p) (.ref q) H Q := by
  refine c_eqD (.lst h1 (dpa_ints a)) (.lst h2 (dpa_ints b)) (shaped_ints a) (shaped_ints b) ?_
  rw [PyData.eqv, eqvAll_ints]
  exact k
theorem c_neL {p q : Addr} (a b : List Int) (h1 : SqL K H p (a.map V.int)) (h2 : SqL K H q (b.map V.int)) (k : Q (.bl (!decide (a = b))) H) : rNeU K (.ref p) (.ref q) H Q := by
  refine c_neD (.lst h1 (dpa_ints a)) (.lst h2 (dpa_ints b)) (shaped_ints a) (shaped_ints b) ?_
  rw [PyData.eqv, eqvAll_ints]
  exact k
/-! a list of tuples of whole numbers and texts against an equal one -/
def vD : V → PyData
  | .int i => .int i
  | .str x => .str x
  | .bl b => .bool b
  | _ => .none
def flatV : V → Bool
  | .int _ => true
  | .str x => PyData.canLay0 (.str x)
  | .bl _ => true
  | .non => true
  | _ => false
theorem dp_flat : ∀ {v : V}, flatV v = true → Dp K H v (vD v)
  | .int i, _ => .int i
  | .str x, _ => .str x
  | .bl b, _ => .bl b
  | .non, _ => .non
theorem dpa_flat : ∀ {xs : List V}, xs.all flatV = true → DpAll K H xs (xs.map vD)
  | [], _ => .nil
  | x :: r, h => by
    rw [List.all_cons, Bool.and_eq_true] at h
    exact .cons (dp_flat h.1) (dpa_flat h.2)
theorem can_flat : ∀ {v : V}, flatV v = true → (vD v).canLay0 = true ∧ (vD v).depth = 0
  | .int i, _ => ⟨by simp [vD, PyData.canLay0], by simp [vD, PyData.depth]⟩
  | .str x, h => ⟨h, by simp [vD, PyData.depth]⟩
  | .bl b, _ => ⟨by simp [vD, PyData.canLay0], by simp [vD, PyData.depth]⟩
  | .non, _ => ⟨by simp [vD, PyData.canLay0], by simp [vD, PyData.depth]⟩
theorem canAll_flat : ∀ {xs : List V}, xs.all flatV = true → PyData.canLayAll0 (xs.map vD) = true ∧ PyData.depthAll (xs.map vD) ≤ 1
  | [], _ => ⟨by simp [PyData.canLayAll0], by simp [PyData.depthAll]⟩
  | x :: r, h => by
    rw [List.all_cons, Bool.and_eq_true] at h
    obtain ⟨h1, h2⟩ := can_flat h.1
    obtain ⟨h3, h4⟩ := canAll_flat h.2
    rw [List.map_cons, PyData.canLayAll0, PyData.depthAll, h1, h2, h3]
    exact ⟨rfl, by omega⟩
def tupD (xs : List V) : PyData := .tuple (xs.map vD)
theorem canAll_tups : ∀ {xss : List (List V)}, (∀ xs ∈ xss, xs.all flatV = true) → PyData.canLayAll0 (xss.map tupD) = true ∧ PyData.depthAll (xss.map tupD) ≤ 3
  | [], _ => ⟨by simp [PyData.canLayAll0], by simp [PyData.depthAll]⟩
  | x :: r, h => by
    obtain ⟨h1, h2⟩ := canAll_flat (h x (.head _))
    obtain ⟨h3, h4⟩ := canAll_tups fun y hy => h y (.tail _ hy)
    have e1 : (tupD x).canLay0 = true := by
      unfold tupD
      rw [PyData.canLay0, h1]
    have e2 : (tupD x).depth ≤ 2 := by
      unfold tupD
      rw [PyData.depth]
      omega
    rw [List.map_cons, PyData.canLayAll0, PyData.depthAll, h3, e1]
    exact ⟨rfl, by omega⟩
theorem shaped_tups {xss : List (List V)} (h : ∀ xs ∈ xss, xs.all flatV = true) : SeqAt.shaped (.list (xss.map tupD)) = true := by
  obtain ⟨h1, h2⟩ := canAll_tups h
  unfold SeqAt.shaped
  rw [PyData.canLay0, PyData.depth, h1]
  simp
  omega
theorem dpa_tups : ∀ {ws : List V} {xss : List (List V)}, Tups K H ws xss → (∀ xs ∈ xss, xs.all flatV = true) → DpAll K H ws (xss.map tupD)
  | _, _, .nil, _ => .nil
  | _, _, .cons z t, h => .cons (.tup z (dpa_flat (h _ (.head _)))) (dpa_tups t fun y hy => h y (.tail _ hy))
theorem eqv_vD (v : V) : PyData.eqv (vD v) (vD v) = true := by cases v <;> simp [vD, PyData.eqv]
theorem eqvAll_vD : ∀ xs : List V, PyData.eqvAll (xs.map vD) (xs.map vD) = true
  | [] => by simp [PyData.eqvAll]
  | x :: r => by rw [List.map_cons, PyData.eqvAll, eqv_vD, eqvAll_vD r]; rfl
theorem eqvAll_tupD : ∀ xss : List (List V), PyData.eqvAll (xss.map tupD) (xss.map tupD) = true
  | [] => by simp [PyData.eqvAll]
  | x :: r => by
    have e : PyData.eqv (tupD x) (tupD x) = true := by
      unfold tupD
      rw [PyData.eqv, eqvAll_vD]
    rw [List.map_cons, PyData.eqvAll, e, eqvAll_tupD r]
    rfl
theorem eqv_tups {xss : List (List V)} : PyData.eqv (.list (xss.map tupD)) (.list (xss.map tupD)) = true := by rw [PyData.eqv, eqvAll_tupD]
/-- two lists of equal tuples -/
theorem c_neT {p q : Addr} {ws us : List V} {xss : List (List V)} (hf : ∀ xs ∈ xss, xs.all flatV = true) (h1 : SqL K H p ws) (t1 : Tups K H ws xss) (h2 : SqL K H q us) (t2 : Tups K H us xss) (k : Q (.bl false) H) : rNeU K (.ref p) (.ref q) H Q := by
  refine c_neD (.lst h1 (dpa_tups t1 hf)) (.lst h2 (dpa_tups t2 hf)) (shaped_tups hf) (shaped_tups hf) ?_
  rw [eqv_tups]
  exact k
theorem c_eqT {p q : Addr} {ws us : List V} {xss : List (List V)} (hf : ∀ xs ∈ xss, xs.all flatV = true) (h1 : SqL K H p ws) (t1 : Tups K H ws xss) (h2 : SqL K H q us) (t2 : Tups K H us xss) (k : Q (.bl true) H) : rEqU K (.ref p) (.ref q) H Q := by
  refine c_eqD (.lst h1 (dpa_tups t1 hf)) (.lst h2 (dpa_tups t2 hf)) (shaped_tups hf) (shaped_tups hf) ?_
  rw [eqv_tups]
  exact k
end
end L2.BP
namespace L2.BP
open PySem PySem.Spec PyProof.Rows
/-- both ways of an if meet again -/
theorem w_cut {t u : TS} {dn : St → Hp → Prop} {dr : VK} {db dc : St → Hp → Prop} {σ : St} {H : Hp} (Mid : St → Hp → Prop) (h1 : t ⟨Mid, dr, db, dc⟩ σ H) (h2 : ∀ σ' H', Mid σ' H' → u ⟨dn, dr, db, dc⟩ σ' H') : Evl.tCut t u ⟨dn, dr, db, dc⟩ σ H := ⟨Mid, h1, h2⟩
end L2.BP
namespace L2.BP
open PySem PySem.Spec PyProof.Rows
section
variable {X : Cx} {K : PySem.W.Frag} {σ : St} {H B : Hp} {L : Pic} {Q : VK} {te to_ ti_ : TE} {v : V} {P : St → Hp → Prop}
/-! a field as one of several targets -/
def gAttr (K : PySem.W.Frag) (ta : TE) (f : Str) : TG := fun v σ H P => ta σ H fun x H1 => PutO K f v x H1 (P σ)
theorem pg_attr {o : Expr} {f : Str} {pos : Pos} {ta : TE} (ho : PE X o ta) : PG X (.Attribute o f pos) (gAttr X.K ta f) := by
  refine ⟨fun pins s σ H v u Q I r h => ?_⟩
  show wpAny _ _ (do let ov ← holding [u] (eval o X.env); standAt pos.atName; holding [u, ov] (setAttr ov f u); release [u, ov] []) _ _ _
  refine wpAny_bind (wpAny_holding (thn (ho.run pins s σ H _ I h) fun ov s1 ⟨x, H1, I1, r1, a, C, dx, fs, ex, ea, c, n, l, q⟩ => ?_))
  subst ex
  obtain rfl : ov = Value.ref a := r1
  refine wpAny_bind (wpAny_standAt (wpAny_bind (wpAny_holding ?_)))
  exact setattr_ok I1 ea c n l r fun s2 I2 => wpAny_release ⟨σ, _, I2, q⟩
theorem g_attr {f : Str} (k : te σ H fun x H1 => PutO K f v x H1 (P σ)) : gAttr K te f v σ H P := k
/-! how many different ones -/
def LsO (K : PySem.W.Frag) (x : V) (H : Hp) (Q : VK) : Prop := ∃ (l : Addr) (ns : List Int), x = .ref l ∧ SqL K H l (ns.map V.int) ∧ ns.Nodup ∧ ns.length ≤ 4000 ∧ Q (.int (ns.length : Nat)) H
theorem c_lenset (k : te σ H fun x H1 => LsO K x H1 Q) : RZ.tLenSetI K te σ H Q := k
theorem c_lsO {a : Addr} {ns : List Int} (h : SqL K H a (ns.map V.int)) (hn : ns.Nodup) (hl : ns.length ≤ 4000) (k : Q (.int (ns.length : Nat)) H) : LsO K (.ref a) H Q := ⟨a, ns, rfl, h, hn, hl, k⟩
/-! dicts that are written out -/
def DispO (p : Addr) (ps : List (V × V)) (H : Hp) (Q : VK) : Prop := H p = some (.dK []) ∧ ∃ kvs : List (Key × V), ps = kvs.map (fun kv => (kV kv.1, kv.2)) ∧ kvs.length ≤ 15 ∧ Q (.ref p) (upd H p (.dK (mergeK [] kvs)))
theorem c_disp {trs : List (TE × TE)} (hs : Hs B L H) (k : ∀ p H', Hs B ((p, .dK []) :: L) H' → tPairs trs σ H' fun ps H2 => DispO p ps H2 Q) : tDisp trs σ H Q := fun p hp => k p _ (hs.new hp)
theorem c_tpc {tk tv : TE} {r : List (TE × TE)} {R : List (V × V) → Hp → Prop} (k : tk σ H fun x H1 => tv σ H1 fun y H2 => tPairs r σ H2 fun ps H3 => R ((x, y) :: ps) H3) : tPairs ((tk, tv) :: r) σ H R := k
theorem c_tpn {R : List (V × V) → Hp → Prop} (k : R [] H) : tPairs [] σ H R := k
theorem c_dispO {p : Addr} {ps : List (V × V)} (kvs : List (Key × V)) (hs : Hs B ((p, .dK []) :: L) H) (e : ps = kvs.map (fun kv => (kV kv.1, kv.2))) (hl : kvs.length ≤ 15) (k : ∀ H', Hs B ((p, .dK (mergeK [] kvs)) :: L) H' → Q (.ref p) H') : DispO p ps H Q :=
  ⟨hs.get (.head _), kvs, e, hl, k _ hs.u0⟩
def DgO (x y : V) (H : Hp) (Q : VK) : Prop := ∃ a v, x = .ref a ∧ DGet H a y (some v) ∧ Q v H
theorem c_dget {td ty : TE} (k : td σ H fun x H1 => ty σ H1 fun y H2 => DgO x y H2 Q) : tDGet td ty σ H Q := k
theorem c_dgO {a : Addr} {kvs : List (Key × V)} {key : Key} (h : H a = some (.dK kvs)) (e : valV kvs key = some v) (k : Q v H) : DgO (.ref a) (kV key) H Q := ⟨a, v, rfl, by rw [← e]; exact DGet.k h, k⟩
/-! in a list -/
theorem inV_int (i : Int) : ∀ ns : List Int, L2.inV (.int i) (ns.map V.int) = decide (i ∈ ns)
  | [] => by simp [L2.inV]
  | n :: r => by
    have ih := inV_int i r
    have e : L2.eqV (.int n) (.int i) = decide (n = i) := by
      show (n == i) = decide (n = i)
      by_cases h : n = i <;> simp [h]
    unfold L2.inV at ih ⊢
    rw [List.map_cons, List.any_cons, ih, e]
    by_cases h : n = i
    · simp [h]
    · simp [h, Ne.symm h]
theorem flat_ints (ns : List Int) : (ns.map V.int).all L2.flatV = true := by simp [L2.flatV]
theorem c_inL {a : Addr} {i : Int} (ns : List Int) (h : SqL K H a (ns.map V.int)) (k : Q (.bl (decide (i ∈ ns))) H) : rInU K (.int i) (.ref a) H Q :=
  .inl ⟨a, _, rfl, .inl h, rfl, flat_ints ns, by rw [inV_int]; exact k⟩
theorem c_niL {a : Addr} {i : Int} (ns : List Int) (h : SqL K H a (ns.map V.int)) (k : Q (.bl (!decide (i ∈ ns))) H) : rNiU K (.int i) (.ref a) H Q :=
  .inl ⟨a, _, rfl, .inl h, rfl, flat_ints ns, by rw [inV_int]; exact k⟩
theorem c_inT {a : Addr} {i : Int} (ns : List Int) (h : SqT K H a (ns.map V.int)) (k : Q (.bl (decide (i ∈ ns))) H) : rInU K (.int i) (.ref a) H Q :=
  .inl ⟨a, _, rfl, .inr h, rfl, flat_ints ns, by rw [inV_int]; exact k⟩
theorem xor_nat (a b : Nat) : Builtin.bitXor ((a : Nat) : Int) ((b : Nat) : Int) = ((a ^^^ b : Nat) : Int) := by
  rw [Bits.bitXor_pp (Int.natCast_nonneg a) (Int.natCast_nonneg b), Int.toNat_natCast, Int.toNat_natCast]
end
end L2.BP
namespace L2.BP
open PySem PySem.Spec PyProof.Rows
section
variable {K : PySem.W.Frag} {σ : St} {H B : Hp} {L : Pic} {Q : VK} {ta tb : TE} {a : Addr} {xs : List V}
/-- x or y, by what is empty -/
def OrO (K : PySem.W.Frag) (x : V) (tb : TE) (σ : St) (H : Hp) (Q : VK) : Prop := ∃ k, TruV K x H k ∧ if k = true then Q x H else tb σ H Q
theorem c_orT (k : ta σ H fun x H1 => OrO K x tb σ H1 Q) : tOrT K ta tb σ H Q := k
theorem c_orL (h : SqL K H a xs) (k1 : xs ≠ [] → Q (.ref a) H) (k2 : xs = [] → tb σ H Q) : OrO K (.ref a) tb σ H Q := by
  refine ⟨!xs.isEmpty, .inl ⟨xs, h, rfl⟩, ?_⟩
  cases xs with
  | nil => exact iteF (k2 rfl)
  | cons x r => exact iteT (k1 (by simp))
end
end L2.BP
namespace L2.BP
open PySem PySem.Spec PyProof.Rows
/-! ### a class without an __init__ of its own -/
structure Mk0 (K : PySem.W.Frag) (C : Addr) : Prop where
  makes : PySem.W.makesIn K C = true
  init : PySem.W.findIn K (.ref C) "__init__" = some (some (.builtin "object.__init__"))
  kp : PySem.W.keepIn K (.ref C) = true
section
variable {X : Cx} {C : Addr} {x : Str} {p pos : Pos}
/-- C(): a bare object -/
def MadeO (C : Addr) (H : Hp) (Q : VK) : Prop := ∀ x dx, H x = none → H dx = none → dx ≠ x → Q (.ref x) (upd (upd H dx (.own x)) x (.ins C dx []))
def tMade (C : Addr) : TE := fun _ H Q => MadeO C H Q
theorem run_made {pins : List (Addr × Obj)} {σ : St} {H : Hp} {s : Shared} {Q : VK} (M : Mk0 X.K C) (I : Inv X pins σ H s) (h : MadeO C H Q) : wpAny (model X.prog X.w) X.A (call (.ref C) []) (EP X pins σ Q) X.xe s := by
  have q := h (s.heap.objs.size + 1) s.heap.objs.size (I.hok.fresh (Nat.le_succ _)) (I.hok.fresh (Nat.le_refl _)) (Nat.ne_of_lt (Nat.lt_succ_self _))
  have J := Inv.made (C := C) I
  have Y := PySem.W.makes_of (M := model X.prog X.w) I.kIn M.makes
  refine wpAny_call (make_map0 I.kIn M.makes M.init (fun self => PySem.W.Looks.of_pure (PySem.W.oi_bind self)) ?_)
  have e2 : ((s.heap.push PySem.W.emptyDict).push (PySem.W.instObj C s.heap.objs.size)).get? (s.heap.objs.size + 1) = some (PySem.W.instObj C s.heap.objs.size) := by
    have := Heap.get?_push_size (s.heap.push PySem.W.emptyDict) (o := PySem.W.instObj C s.heap.objs.size) rfl
    rwa [Heap.size_push] at this
  have t1 : PySem.W.Looks (model X.prog X.w) ((s.heap.push PySem.W.emptyDict).push (PySem.W.instObj C s.heap.objs.size)) (typeOf (.ref (s.heap.objs.size + 1))) (.ref C) := (PySem.W.Looks.ld e2).andThen .now
  have t2 : PySem.W.Looks (model X.prog X.w) ((s.heap.push PySem.W.emptyDict).push (PySem.W.instObj C s.heap.objs.size)) (isInstance (.ref (s.heap.objs.size + 1)) (.type "object")) true :=
    t1.andThen (Y.top.keeps fun b o e => Heap.get?_push_of_some _ (Heap.get?_push_of_some _ e))
  refine codeAny_call_builtin PySem.W.oi_plain PySem.W.entry_oi (@PySem.W.check_slot (model X.prog X.w) _ _ _ "object.__init__" "object" "__init__" (.ref (s.heap.objs.size + 1)) [] [] _ PySem.W.oi_kind PySem.W.oi_split t2 (PySem.W.oi_args (.ref (s.heap.objs.size + 1))) ?_)
  rw [PySem.W.oi_run]
  exact wpAny_pure (And.intro rfl ⟨V.ref (s.heap.objs.size + 1), _, J, rfl, q⟩)
theorem pe_made (M : Mk0 X.K C) (hg : Gl X x) (hm : X.mg x = some (.ref C)) (hdb : (x == ("__debug__" : Str)) = false := by decide) : PE X (.Call (.Name x p) [] [] pos) (tMade C) := by
  constructor
  intro pins s σ H Q I h
  exact wpAny_Call_Name_kw (ld_glob I hg hm (PySem.W.callWith_K0 I.kIn M.kp (run_made M I h)) hdb)
end
section
variable {K : PySem.W.Frag} {σ : St} {H B : Hp} {L : Pic} {Q : VK} {C : Addr}
theorem c_made (k : MadeO C H Q) : tMade C σ H Q := k
theorem c_madeO (hs : Hs B L H) (k : ∀ x dx H', Hs B ((x, .ins C dx []) :: L) H' → Q (.ref x) H') : MadeO C H Q := fun x dx hx hdx ne => by
  have h1 := hs.new (o := HO.own x) hdx
  have h2 : (upd H dx (.own x)) x = none := by rw [upd_ne (Ne.symm ne)]; exact hx
  exact k x dx _ (h1.new h2).swap.drop
end
end L2.BP
namespace L2.BP
open PySem PySem.Spec PyProof.Rows
/-! ### walks by steps, and of texts -/
section
variable {K : PySem.W.Frag} {a : Addr} {g : TG} {tb : TS} {dn : St → Hp → Prop} {dr : VK} {db dc : St → Hp → Prop} {σ : St} {H B : Hp} {L : Pic}
theorem w_forC {lo c : Int} {n : Nat} (I : Nat → St → Pic → Hp → Prop) (hs : Hs B L H) (h0 : I 0 σ L B)
    (turn : ∀ i σ' L' B' H', i < n → I i σ' L' B' → Hs B' L' H' → g (.int (lo + (i : Nat) * c)) σ' H' fun σ2 H2 => tb ⟨NxI I (i + 1), dr, dn, NxI I (i + 1)⟩ σ2 H2)
    (fin : ∀ σ' L' B' H', I n σ' L' B' → Hs B' L' H' → dn σ' H') : ForO (Itc lo c n) g tb dn dr σ H := by
  refine ⟨fun i m σ H => m = n - i ∧ i ≤ n ∧ NxI I i σ H, ⟨n, by simp, Nat.zero_le _, L, B, h0, hs⟩, ?_⟩
  rintro i m σ' H' ⟨rfl, hi, L', B', q, h⟩
  by_cases hlt : i < n
  · refine .inr ⟨hlt, NxI I (i + 1), fun σ2 H2 p => ⟨_, by omega, rfl, hlt, p⟩, ?_⟩
    rintro v H2 ⟨rfl, rfl⟩
    exact turn i σ' L' B' _ hlt q h
  · have e : i = n := by omega
    subst e
    exact .inl ⟨Nat.le_refl _, fin _ _ _ _ q h⟩
theorem w_forS {x : Str} (I : Nat → St → Pic → Hp → Prop) (hs : Hs B L H) (h0 : I 0 σ L B)
    (turn : ∀ i c σ' L' B' H', x.cps[i]? = some c → I i σ' L' B' → Hs B' L' H' → g (.str ⟨#[c]⟩) σ' H' fun σ2 H2 => tb ⟨NxI I (i + 1), dr, dn, NxI I (i + 1)⟩ σ2 H2)
    (fin : ∀ σ' L' B' H', I x.cps.size σ' L' B' → Hs B' L' H' → dn σ' H') : ForO (Its x) g tb dn dr σ H := by
  refine ⟨fun i m σ H => m = x.cps.size - i ∧ i ≤ x.cps.size ∧ NxI I i σ H, ⟨x.cps.size, by simp, Nat.zero_le _, L, B, h0, hs⟩, ?_⟩
  rintro i m σ' H' ⟨rfl, hi, L', B', q, h⟩
  by_cases hlt : i < x.cps.size
  · refine .inr ⟨hlt, NxI I (i + 1), fun σ2 H2 p => ⟨_, by omega, rfl, hlt, p⟩, ?_⟩
    rintro v H2 ⟨rfl, c, hc, rfl⟩
    exact turn i c σ' L' B' _ hc q h
  · have e : i = x.cps.size := by omega
    subst e
    exact .inl ⟨Nat.le_refl _, fin _ _ _ _ q h⟩
def RcO (R : It → Hp → Prop) (vs : List V) (H : Hp) : Prop := ∃ (i j c : Int) (n : Nat), vs = [.int i, .int j, .int c] ∧ RgC i j c n ∧ R (Itc i c n) H
theorem c_iR3 {ta : TA} {R : It → Hp → Prop} (k : ta σ H fun vs H1 => RcO R vs H1) : iRng3 ta σ H R := k
theorem c_rcO {R : It → Hp → Prop} {i j c : Int} (n : Nat) (h : RgC i j c n) (k : R (Itc i c n) H) : RcO R [.int i, .int j, .int c] H := ⟨i, j, c, n, rfl, h, k⟩
def SsO (R : It → Hp → Prop) (v : V) (H : Hp) : Prop := ∃ x, v = .str x ∧ R (Its x) H
theorem c_iS {te : TE} {R : It → Hp → Prop} (k : te σ H fun v H1 => SsO R v H1) : iStr te σ H R := k
theorem c_ssO {R : It → Hp → Prop} {x : Str} (k : R (Its x) H) : SsO R (.str x) H := ⟨x, rfl, k⟩
end
end L2.BP
namespace L2.BP
open PySem PySem.Spec PyProof.Rows
section
variable {H B : Hp} {L : Pic} {K : PySem.W.Frag} {σ : St} {Q : VK}
theorem Hs.rot4 {a b c d : Addr × HO} (h : Hs B (a :: b :: c :: d :: L) H) : Hs B (d :: a :: b :: c :: L) H := h.perm (List.perm_middle (l₁ := [a, b, c]))
theorem Hs.rot5 {a b c d e : Addr × HO} (h : Hs B (a :: b :: c :: d :: e :: L) H) : Hs B (e :: a :: b :: c :: d :: L) H := h.perm (List.perm_middle (l₁ := [a, b, c, d]))
theorem c_alt1 {t u : TE} (k : t σ H Q) : tOrE t u σ H Q := .inl k
theorem c_alt2 {t u : TE} (k : u σ H Q) : tOrE t u σ H Q := .inr k
theorem c_eqNN (k : Q (.bl true) H) : rEqU K .non .non H Q := .inl ⟨rfl, k⟩
theorem c_neNN (k : Q (.bl false) H) : rNeU K .non .non H Q := .inl ⟨rfl, k⟩
end
end L2.BP
namespace L2.BP
open PySem PySem.Spec PyProof.Rows
/-! ### isinstance of an own class -/
structure InsC (K : PySem.W.Frag) (C : Addr) : Prop where
  ha : PySem.W.findIn K (.ref C) "__class__" = some (some (.builtin "object.__class__"))
  hn : PySem.W.specialIn K (.builtin "object.__class__") "__get__" = some (some (.builtin "getset_descriptor.__get__"))
  htk : PySem.W.takesIn K (.builtin "object.__class__") = some true
  hm : PySem.W.mroIn K C (.type "object") = some true
theorem c_isiC {K : PySem.W.Frag} {H : Hp} {Q : VK} {x C D dx : Addr} {fs : List (Str × V)} {b : Bool} (h : H x = some (.ins C dx fs)) (cl : Cls K C) (i : InsC K C) (e : PySem.W.kitOne K (.ref C) (.ref D) = some b) (k : Q (.bl b) H) : rIsi K [.ref x, .ref D] H Q :=
  c_isi (.base (.ins h cl i.ha i.hn i.htk i.hm)) (.own D) e k
end L2.BP
namespace L2.BP
open PySem PySem.Spec PyProof.Rows
section
variable {K : PySem.W.Frag} {g : TG} {tt : TT} {te : TE} {σ : St} {H B : Hp} {L : Pic} {vs : List Nat}
/-- a comprehension whose turns change own objects -/
def LcV (I : Nat → List V → Pic → Hp → Prop) (D : Addr) (i : Nat) : Hp → Prop := fun H' => ∃ acc L' B', I i acc L' B' ∧ Hs B' ((D, .lst acc) :: L') H'
theorem c_lcRV {P : Addr → Hp → Prop} {lo : Int} {n : Nat} (I : Nat → List V → Pic → Hp → Prop) (hs : Hs B L H) (h0 : I 0 [] L B)
    (turn : ∀ i acc L' B' D H', i < n → I i acc L' B' → Hs B' ((D, .lst acc) :: L') H' → g (.int (lo + i)) (wipe σ vs) H' fun σ2 H2 => wipe σ2 vs = wipe σ vs ∧ tt σ2 H2 fun b H3 =>
      if b = true then te σ2 H3 fun y H4 => ∃ acc, H4 D = some (.lst acc) ∧ acc.length < sizeLine ∧ LcV I D (i + 1) (upd H4 D (.lst (acc ++ [y]))) else LcV I D (i + 1) H3)
    (fin : ∀ acc L' B' D H', I n acc L' B' → Hs B' ((D, .lst acc) :: L') H' → P D H') :
    ∀ D, H D = none → ∃ W : Nat → Nat → Hp → Prop, (∃ m, W 0 m (upd H D (.lst []))) ∧ ∀ i m H, W i m H →
      ((Itr lo n).stop i H ∧ P D H) ∨ ((Itr lo n).go i H ∧ ∃ Nx : Hp → Prop, (∀ H', Nx H' → ∃ m', m' < m ∧ W (i + 1) m' H') ∧ ∀ x H', (Itr lo n).yld i H x H' → g x (wipe σ vs) H' fun σ2 H2 => wipe σ2 vs = wipe σ vs ∧ tt σ2 H2 fun b H3 =>
        if b = true then te σ2 H3 fun y H4 => ∃ acc, H4 D = some (.lst acc) ∧ acc.length < sizeLine ∧ Nx (upd H4 D (.lst (acc ++ [y]))) else Nx H3) :=
  fun D hD => L2.lc_range (LcV I D) ⟨[], L, B, h0, hs.new hD⟩ (fun i H' e ⟨acc, L', B', p, h⟩ => turn i acc L' B' D H' e p h) fun H' ⟨acc, L', B', p, h⟩ => fin acc L' B' D H' p h
theorem c_itemV {D : Addr} {acc : List V} {y : V} {B2 : Hp} {P : List V → Pic → Hp → Prop} (h : Hs B2 ((D, .lst acc) :: L) H) (hz : acc.length < sizeLine) (i : P (acc ++ [y]) L B2) :
    ∃ acc, H D = some (.lst acc) ∧ acc.length < sizeLine ∧ ∃ acc2 L' B', P acc2 L' B' ∧ Hs B' ((D, .lst acc2) :: L') (upd H D (.lst (acc ++ [y]))) :=
  ⟨acc, h.get (.head _), hz, acc ++ [y], L, B2, i, h.u0⟩
end
end L2.BP
namespace L2.BP
open PySem PySem.Spec PyProof.Rows
theorem Tups.snocFix {K : PySem.W.Frag} {B : Hp} {t : Addr} {xs : List V} {acc : List V} {ps : List (List V)} (h : Tups K B acc ps) (hn : B t = none) : Tups K (upd B t (.tup xs)) (acc ++ [.ref t]) (ps ++ [xs]) := (h.same (same_upd hn)).snoc (SqT.of upd_same)
end L2.BP
namespace L2.BP
open PySem PySem.Spec PyProof.Rows
/-! ### try: .. except X as e: suite -/
def tTryAs (K : PySem.W.Frag) (c : Value) (i : Nat) (tb : WX → TS) (ts : Addr → Value → Option Addr → TS) (W : WX) : TS := fun D σ H => tb (wAs K c i ts W D) D σ H
section
variable {K : PySem.W.Frag} {c cls : Value} {d : Option Addr} {i : Nat} {tb : WX → TS} {ts : Addr → Value → Option Addr → TS} {W : WX} {D : Ends} {σ : St} {H B : Hp} {L : Pic} {Q : VK}
theorem ps_tryAs {X : Cx} {x n : Str} {c : Value} {i : Nat} {body suite : List Stmt} {b₀ : Stmt} {np pos pos' : Pos} {tb : WX → TS} {ts : Addr → Value → Option Addr → TS} {Wout : WX} (hs : X.stack = X.env :: X.outer) (hf : X.env.frame = some X.env.locals) (hN : X.N.Nodup) (hi : X.N[i]? = some n) (hln : X.env.kindOf n = some .local) (hc : Names X x c) (tk : Takes X Wout)
    (hb : ∀ (W : WX) (pn : List (Addr × Obj)) (xe : Value → Shared → Prop), Takes (X.tr pn xe) W → PassesOwn (model X.prog X.w) X.A X.env xe → PSs (X.tr pn xe) body (tb W))
    (hsu : ∀ (a : Addr) (oe : Obj) (cls : Value) (d : Option Addr) (pn : List (Addr × Obj)), Zc cls d oe → (∃ vs, oe.data = .fields vs) → PSs (X.suite a ((a, oe) :: pn)) (b₀ :: suite) (ts a cls d)) :
    PS X (.Try body [.ExceptHandler (some (.Name x np)) (some n) (b₀ :: suite) pos'] [] [] pos) (tTryAs X.K c i tb ts Wout) := ps_try_as hs hf hN hi hln hc tk hb hsu
theorem w_tryAs (k : tb (wAs K c i ts W D) D σ H) : tTryAs K c i tb ts W D σ H := k
theorem c_wAs (e : PySem.W.exmOne K cls c = some true) (k : ∀ a, H a = none → ts a cls d { nx := fun σ' H' => D.nx (σ'.set i none) H', rt := D.rt, bk := fun σ' H' => D.bk (σ'.set i none) H', ct := fun σ' H' => D.ct (σ'.set i none) H' } (σ.set i (some (.ref a))) H) : wAs K c i ts W D cls d σ H :=
  ⟨true, e, fun _ => k, fun z => nomatch z⟩
/-- isinstance(e, c), e what the suite holds: an exception of the class cls -/
def rIsX (K : PySem.W.Frag) (a : Addr) (cls : Value) (d : Option Addr) : List V → Hp → VK → Prop := fun xs H Q => ∃ (D : Addr) (c : V) (cv : Value) (b : Bool), cls = .ref D ∧ d = none ∧ ExcC K D ∧ xs = [.ref a, c] ∧ (∀ u, RelV c u → u = cv) ∧ PySem.W.kitOne K (.ref D) cv = some b ∧ Q (.bl b) H
theorem call_isX {X : Cx} {a : Addr} {oe : Obj} {pn : List (Addr × Obj)} {cls : Value} {d : Option Addr} (hz : Zc cls d oe) (hf : ∃ vs, oe.data = .fields vs) : CallR (X.suite a ((a, oe) :: pn)) (.builtin "isinstance") (rIsX X.K a cls d) := by
  intro pins s σ H xs us Q I r h
  obtain ⟨D, c, cv, b, rfl, rfl, C, e1, e2, e3, q⟩ := h
  exact call_isE C hz hf pins s σ H xs us Q I r ⟨c, cv, b, e1, e2, e3, q⟩
theorem c_isXc {a D C : Addr} {b : Bool} (x : ExcC K D) (e : PySem.W.kitOne K (.ref D) (.ref C) = some b) (k : Q (.bl b) H) : rIsX K a (.ref D) none [.ref a, .ref C] H Q := ⟨D, .ref C, .ref C, b, rfl, rfl, x, rfl, fun _ r => r, e, k⟩
theorem c_isXv {a D : Addr} {t : String} {b : Bool} (x : ExcC K D) (e : PySem.W.kitOne K (.ref D) (.type t) = some b) (k : Q (.bl b) H) : rIsX K a (.ref D) none [.ref a, .ty t] H Q := ⟨D, .ty t, .type t, b, rfl, rfl, x, rfl, fun _ r => r, e, k⟩
theorem c_dnewK (hs : Hs B L H) (k : ∀ p H', Hs B ((p, .dK []) :: L) H' → Q (.ref p) H') : tDNewK σ H Q := fun p hp => k p _ (hs.new hp)
theorem c_tupL {p : Addr} {xs : List V} (h : Hs B L H) (hq : SqL K H p xs) (k : ∀ a H', Hs B ((a, .tup xs) :: L) H' → Q (.ref a) H') : rTupleK K [.ref p] H Q := ⟨p, xs, rfl, .inl ⟨hq, fun a ha => k a _ (h.new ha)⟩⟩
end
/-! ### texts: find, upper, join -/
def rFindK : V → List V → Hp → VK → Prop := fun x xs H Q => ∃ a b, x = .str a ∧ xs = [.str b] ∧ Q (.int (Txt.find a b)) H
def rUpperK : V → List V → Hp → VK → Prop := fun x xs H Q => ∃ a, x = .str a ∧ xs = [] ∧ a.length ≤ 5592405 ∧ Q (.str (Txt.upper a)) H
def rJoinK (K : PySem.W.Frag) : V → List V → Hp → VK → Prop := fun x xs H Q => ∃ a p, ∃ ys : List Str, x = .str a ∧ xs = [.ref p] ∧ (SqL K H p (ys.map V.str) ∨ SqT K H p (ys.map V.str)) ∧ (ys.map (·.length)).sum + ys.length * a.length ≤ 16777216 ∧ Q (.str (Txt.join a ys)) H
section
variable {X : Cx} {o e : Expr} {to te : TE} {K : PySem.W.Frag} {σ : St} {H B : Hp} {L : Pic} {Q : VK}
theorem pe_find {apos pos : Pos} (ho : PE X o to) (he : PE X e te) (hs : starEach [e] X.env = [(false, eval e X.env)] := by rfl) (hbase : attributeBase o "find" X.env (eval o X.env) = eval o X.env := by rfl) (hline : (apos.endLine == pos.line) = true := by rfl) :
    PE X (.Call (.Attribute o "find" apos) [e] [] pos) (tM1 rFindK to te) := pe_m1 F.slot_str_find F.type_str_find mt_find ho he hs hbase hline
theorem pe_upperK {apos pos : Pos} (ho : PE X o to) (hbase : attributeBase o "upper" X.env (eval o X.env) = eval o X.env := by rfl) (hline : (apos.endLine == pos.line) = true := by rfl) :
    PE X (.Call (.Attribute o "upper" apos) [] [] pos) (tM0 rUpperK to) := pe_m0 F.slot_str_upper F.type_str_upper mt_upper ho hbase hline
theorem pe_joinK {apos pos : Pos} (ho : PE X o to) (he : PE X e te) (hs : starEach [e] X.env = [(false, eval e X.env)] := by rfl) (hbase : attributeBase o "join" X.env (eval o X.env) = eval o X.env := by rfl) (hline : (apos.endLine == pos.line) = true := by rfl) :
    PE X (.Call (.Attribute o "join" apos) [e] [] pos) (tM1 (rJoinK X.K) to te) := pe_m1 F.slot_str_join F.type_str_join mt_join ho he hs hbase hline
def StrO (x : V) (P : Prop) : Prop := (∃ a, x = .str a) ∧ P
theorem c_m0 {r : V → List V → Hp → VK → Prop} (k : to σ H fun x H1 => StrO x (r x [] H1 Q)) : tM0 r to σ H Q := k
theorem c_m1 {r : V → List V → Hp → VK → Prop} (k : to σ H fun x H1 => StrO x (te σ H1 fun y H2 => r x [y] H2 Q)) : tM1 r to te σ H Q := k
theorem c_strO {a : Str} {P : Prop} (k : P) : StrO (.str a) P := ⟨⟨a, rfl⟩, k⟩
theorem c_find {a b : Str} (k : Q (.int (Txt.find a b)) H) : rFindK (.str a) [.str b] H Q := ⟨a, b, rfl, rfl, k⟩
theorem c_upper {a : Str} (h : a.length ≤ 5592405) (k : Q (.str (Txt.upper a)) H) : rUpperK (.str a) [] H Q := ⟨a, rfl, rfl, h, k⟩
theorem c_join {a : Str} {p : Addr} {ys : List Str} (h : SqL K H p (ys.map V.str)) (hl : (ys.map (·.length)).sum + ys.length * a.length ≤ 16777216) (k : Q (.str (Txt.join a ys)) H) : rJoinK K (.str a) [.ref p] H Q := ⟨a, p, ys, rfl, rfl, .inl h, hl, k⟩
end
/-! ### a comprehension over a text -/
section
variable {K : PySem.W.Frag} {g : TG} {tt : TT} {te : TE} {σ : St} {H B : Hp} {L : Pic} {vs : List Nat} {P : Addr → Hp → Prop}
theorem c_lcS {x : Str} (I : Nat → List V → Hp → Prop) (hs : Hs B L H) (h0 : I 0 [] B)
    (turn : ∀ i c acc B' D H', x.cps[i]? = some c → I i acc B' → Same B B' → Hs B' ((D, .lst acc) :: L) H' → g (.str ⟨#[c]⟩) (wipe σ vs) H' fun σ2 H2 => wipe σ2 vs = wipe σ vs ∧ tt σ2 H2 fun b H3 =>
      if b = true then te σ2 H3 fun y H4 => ∃ acc, H4 D = some (.lst acc) ∧ acc.length < sizeLine ∧ (fun H' => ∃ acc B', I (i + 1) acc B' ∧ Same B B' ∧ Hs B' ((D, .lst acc) :: L) H') (upd H4 D (.lst (acc ++ [y]))) else (fun H' => ∃ acc B', I (i + 1) acc B' ∧ Same B B' ∧ Hs B' ((D, .lst acc) :: L) H') H3)
    (fin : ∀ acc B' D H', I x.cps.size acc B' → Same B B' → Hs B' ((D, .lst acc) :: L) H' → P D H') :
    ∀ D, H D = none → ∃ W : Nat → Nat → Hp → Prop, (∃ m, W 0 m (upd H D (.lst []))) ∧ ∀ i m H, W i m H →
      ((Its x).stop i H ∧ P D H) ∨ ((Its x).go i H ∧ ∃ Nx : Hp → Prop, (∀ H', Nx H' → ∃ m', m' < m ∧ W (i + 1) m' H') ∧ ∀ v H', (Its x).yld i H v H' → g v (wipe σ vs) H' fun σ2 H2 => wipe σ2 vs = wipe σ vs ∧ tt σ2 H2 fun b H3 =>
        if b = true then te σ2 H3 fun y H4 => ∃ acc, H4 D = some (.lst acc) ∧ acc.length < sizeLine ∧ Nx (upd H4 D (.lst (acc ++ [y]))) else Nx H3) := by
  intro D hD
  refine ⟨fun i m H => m = x.cps.size - i ∧ i ≤ x.cps.size ∧ ∃ acc B', I i acc B' ∧ Same B B' ∧ Hs B' ((D, .lst acc) :: L) H, ⟨x.cps.size, by simp, Nat.zero_le _, [], B, h0, Same.refl B, hs.new hD⟩, ?_⟩
  rintro i m H' ⟨rfl, hi, acc, B', q, e, h⟩
  by_cases hlt : i < x.cps.size
  · refine .inr ⟨hlt, fun H' => ∃ acc B', I (i + 1) acc B' ∧ Same B B' ∧ Hs B' ((D, .lst acc) :: L) H', fun H2 p => ⟨_, by omega, rfl, hlt, p⟩, ?_⟩
    rintro v H2 ⟨rfl, c, hc, rfl⟩
    exact turn i c acc B' D _ hc q e h
  · have e2 : i = x.cps.size := by omega
    subst e2
    exact .inl ⟨Nat.le_refl _, fin _ _ _ _ q e h⟩
end
end L2.BP
namespace L2.BP
open PySem PySem.Spec PyProof.Rows
/-! ### the same rules where exceptions bear no context (L2N) -/
/-! ### calls that may let an error out, wished for at the caller's slots -/
section
variable {X : Cx} {k : Nat} {f C : Addr} {fd : FuncData} {ps : List Str} {sp : Sp} {dvs : List V} {ds : List Value} {W : WX} {x m : Str} {p pos apos : Pos} {e o : Expr} {es : List Expr} {ta : TE} {t : TA}
/-- f(e, ..) -/
theorem pe_clN (F : FnOk X.prog X.w X.K X.mg X.base (L2N.CX X.prog X.w) k f fd ps sp) (hr : Room k X.A) (hg : Gl X x) (hm : X.mg x = some (.ref f)) (hk : PySem.W.keepIn X.K (.ref f) = true)
    (hb : Binds X.K fd ps ds) (hd : Vals dvs ds) (tk : L2N.Takes X W) (ha : PA X (e :: es) t) (hdb : (x == ("__debug__" : Str)) = false := by decide)
    (he : starEach (e :: es) X.env = (false, eval e X.env) :: starEach es X.env := by rfl) (hpl : (backTo pos (starEach es X.env)).any (·.1) = false := by rfl) :
    PE X (.Call (.Name x p) (e :: es) [] pos) (tCl sp dvs W t) :=
  pe_callSD (E := WE W) F hr hg hm hk hb hd (fun σ => L2N.passAt tk σ) ha hdb he hpl
theorem pe_cl0N (F : FnOk X.prog X.w X.K X.mg X.base (L2N.CX X.prog X.w) k f fd ps sp) (hr : Room k X.A) (hg : Gl X x) (hm : X.mg x = some (.ref f)) (hk : PySem.W.keepIn X.K (.ref f) = true)
    (hb : Binds X.K fd ps ds) (hd : Vals dvs ds) (tk : L2N.Takes X W) (hdb : (x == ("__debug__" : Str)) = false := by decide) :
    PE X (.Call (.Name x p) [] [] pos) (tCl sp dvs W tNil) := by
  constructor
  intro pins s σ H Q I h
  have go := run_fnSD (E := WE W) (us := []) F hr hb hd (L2N.passAt tk σ) I .nil h
  exact wpAny_Call_Name_kw (ld_glob I hg hm (PySem.W.callWith_K0 I.kIn hk go) hdb)
/-- o.m(e, ..) -/
theorem pe_mtN {pl : Sem Bool} (he : PE X o ta) (c : Cls X.K C) (hm : Meth X.K C m f) (F : FnOk X.prog X.w X.K X.mg X.base (L2N.CX X.prog X.w) k f fd ps sp) (hr : Room k X.A)
    (hb : Binds X.K fd ps ds) (hd : Vals dvs ds) (tk : L2N.Takes X W) (ha : PA X (e :: es) t)
    (hst : starEach (e :: es) X.env = (false, eval e X.env) :: starEach es X.env := by rfl) (hpl : (backTo pos (starEach es X.env)).any (·.1) = false := by rfl)
    (ht : eval (.Call (.Attribute o m apos) (e :: es) [] pos) X.env = (do
      let ov ← eval o X.env; standAt apos.atName
      let (f, first) ← holding [ov] (getMethod ov m pl); callWith pos f first (backTo pos (starEach (e :: es) X.env)) (backToKw pos (keywordEach [] X.env))) := by rfl) :
    PE X (.Call (.Attribute o m apos) (e :: es) [] pos) (tMt C m sp dvs W ta t) := by
  constructor
  intro pins s σ H Q I h
  refine PySem.W.methodCall_KW (pl := pl) (thn (he.run pins s σ H _ I h) ?_) ht
  rintro u s1 ⟨x, H1, I1, rx, a, dx, fs, rfl, ea, l, q⟩
  cases (show u = Value.ref a from rx)
  refine getmeth_ok I1 ea c hm l (PySem.W.callWith_K (first := [.ref a]) (h₀ := X.base) I.ok.mod.kin hm.kp ?_ hst hpl)
  refine thn (ha.run pos pins s1 σ H1 _ I1 q) ?_
  rintro us s2 ⟨vs, H2, I2, r, q2⟩
  exact ⟨I2.kIn, run_fnSD (E := WE W) (us := .ref a :: us) (vs := .ref a :: vs) F hr hb hd (L2N.passAt tk σ) I2 (.cons rfl r) q2⟩
theorem pe_mt0N {pl : Sem Bool} (he : PE X o ta) (c : Cls X.K C) (hm : Meth X.K C m f) (F : FnOk X.prog X.w X.K X.mg X.base (L2N.CX X.prog X.w) k f fd ps sp) (hr : Room k X.A)
    (hb : Binds X.K fd ps ds) (hd : Vals dvs ds) (tk : L2N.Takes X W)
    (ht : eval (.Call (.Attribute o m apos) [] [] pos) X.env = (do
      let ov ← eval o X.env; standAt apos.atName
      let (f, first) ← holding [ov] (getMethod ov m pl); callWith pos f first (backTo pos (starEach [] X.env)) (backToKw pos (keywordEach [] X.env))) := by rfl) :
    PE X (.Call (.Attribute o m apos) [] [] pos) (tMt C m sp dvs W ta tNil) := by
  constructor
  intro pins s σ H Q I h
  refine PySem.W.methodCall_KW (pl := pl) (thn (he.run pins s σ H _ I h) ?_) ht
  rintro u s1 ⟨x, H1, I1, rx, a, dx, fs, rfl, ea, l, q⟩
  cases (show u = Value.ref a from rx)
  refine getmeth_ok I1 ea c hm l ?_
  have go := run_fnSD (E := WE W) (us := [.ref a]) (vs := [.ref a]) F hr hb hd (L2N.passAt tk σ) I1 (.cons rfl .nil) q
  exact PySem.W.callWith_K0 (first := [.ref a]) I1.kIn hm.kp go
/-- C(e, ..) -/
theorem run_mkN {pins : List (Addr × Obj)} {σ : St} {H : Hp} {s : Shared} {Q : VK} {us : List Value} {vs : List V} (M : Mk X.K C f) (F : FnOk X.prog X.w X.K X.mg X.base (L2N.CX X.prog X.w) k f fd ps sp) (hr : Room (k + 1) X.A)
    (hb : Binds X.K fd ps ds) (hd : Vals dvs ds) (tk : L2N.Takes X W) (I : Inv X pins σ H s) (r : Vals vs us)
    (h : ∀ x dx, H x = none → H dx = none → dx ≠ x → sp (.ref x :: (vs ++ dvs)) (upd (upd H dx (.own x)) x (.ins C dx [])) (fun v H2 => v = .non ∧ Q (.ref x) H2) fun c d H2 => W c d σ H2) :
    wpAny (model X.prog X.w) X.A (call (.ref C) us) (EP X pins σ Q) X.xe s := by
  have hq := h (s.heap.objs.size + 1) s.heap.objs.size (I.hok.fresh (Nat.le_succ _)) (I.hok.fresh (Nat.le_refl _)) (Nat.ne_of_lt (Nat.lt_succ_self _))
  have J := Inv.made (C := C) I
  have rr : Vals (V.ref (s.heap.objs.size + 1) :: (vs ++ dvs)) (Value.ref (s.heap.objs.size + 1) :: (us ++ ds)) := .cons rfl (r.append hd)
  have hl : (Value.ref (s.heap.objs.size + 1) :: us ++ ds).length = ps.length := by
    have e1 := rr.length
    rw [F.len _ _ _ _ hq] at e1
    exact e1.symm
  have run := F.run _ X.stack _ _ ⟨Value.ref (s.heap.objs.size + 1) :: us, []⟩ (Value.ref (s.heap.objs.size + 1) :: (us ++ ds)) _ _ _ (hr.make C us []) (J.env0.make C us []) (hb _ (Value.ref (s.heap.objs.size + 1) :: us) J.kIn hl) rr hq
  refine wpAny_call (make_map (f := f) I.kIn M.makes M.init (beq_iff_eq.mp M.fn) (codeAny_mono run ?_))
  intro r s' z
  match r, z with
  | .error e, z => exact (L2N.passAt tk σ) pins _ _ e s' J z
  | .ok (.ret u), z =>
    obtain ⟨v, H', J3, rv, ev, q3⟩ := J.after z
    subst ev
    exact ⟨rv, ⟨V.ref (s.heap.objs.size + 1), H', J3, rfl, q3⟩⟩
theorem pe_mkN (M : Mk X.K C f) (F : FnOk X.prog X.w X.K X.mg X.base (L2N.CX X.prog X.w) k f fd ps sp) (hr : Room (k + 1) X.A) (hg : Gl X x) (hm : X.mg x = some (.ref C))
    (hb : Binds X.K fd ps ds) (hd : Vals dvs ds) (tk : L2N.Takes X W) (ha : PA X (e :: es) t) (hdb : (x == ("__debug__" : Str)) = false := by decide)
    (he : starEach (e :: es) X.env = (false, eval e X.env) :: starEach es X.env := by rfl) (hpl : (backTo pos (starEach es X.env)).any (·.1) = false := by rfl) :
    PE X (.Call (.Name x p) (e :: es) [] pos) (tMk C sp dvs W t) := by
  constructor
  intro pins s σ H Q I h
  refine wpAny_Call_Name_kw (ld_glob I hg hm (PySem.W.callWith_K (h₀ := X.base) I.ok.mod.kin M.kp ?_ he hpl) hdb)
  refine thn (ha.run pos pins s σ H _ I h) ?_
  rintro us s1 ⟨vs, H1, I1, r, q⟩
  exact ⟨I1.kIn, run_mkN M F hr hb hd tk I1 r q⟩
theorem pe_mk0N (M : Mk X.K C f) (F : FnOk X.prog X.w X.K X.mg X.base (L2N.CX X.prog X.w) k f fd ps sp) (hr : Room (k + 1) X.A) (hg : Gl X x) (hm : X.mg x = some (.ref C))
    (hb : Binds X.K fd ps ds) (hd : Vals dvs ds) (tk : L2N.Takes X W) (hdb : (x == ("__debug__" : Str)) = false := by decide) :
    PE X (.Call (.Name x p) [] [] pos) (tMk C sp dvs W tNil) := by
  constructor
  intro pins s σ H Q I h
  have go := run_mkN (us := []) M F hr hb hd tk I .nil h
  exact wpAny_Call_Name_kw (ld_glob I hg hm (PySem.W.callWith_K0 I.kIn M.kp go) hdb)
end
/-! ### an error raised -/
theorem ps_rzN {X : Cx} {W : WX} {C : Addr} {x m : Str} {j : Nat} {p p2 pos pos2 : Pos} (hc : X.calm = true) (tk : L2N.Takes X W) (q : PySem.W.excIn X.K C He.veBase "ValueError.__new__" = true ∧ PySem.W.keepIn X.K (.ref C) = true ∧ PySem.W.subIn X.K (.ref C) (.type "BaseException") = some true ∧ PySem.W.typeIn X.K (.ref C) = some (.type "type"))
    (gC : X.mg x = some (.ref C)) (hg : Gl X x) (hdb : (x == ("__debug__" : Str)) = false := by decide) :
    PS X (.Raise (some (.Call (.Name x p) [.Constant (.str m) j p2] [] pos)) none pos2) (tRz C W) :=
  L2N.ps_raise hc tk (L2N.pmk_own PySem.F.excBase_ValueError q.1 gC q.2.1 (raises_own q.2.2.1 q.2.2.2) hg hdb)

theorem takes0N {X : Cx} : L2N.Takes X (fun _ _ _ _ => False) := fun _ _ x => by
  obtain ⟨_, _, _, _, _, _, _, _, _, _, _, _, _, _, _, _, z⟩ := x
  exact z.elim
def DOkN (P : Program) (w : World) (K : PySem.W.Frag) (mg : Str → Option Value) (base : Heap) (k : Nat) (f : Addr) (ps : List Str) (dvs : List V) (sp : Sp) : Prop :=
  ∃ (fd : FuncData) (ds : List Value), Vals dvs ds ∧ Binds K fd ps ds ∧ FnOk P w K mg base (L2N.CX P w) k f fd ps sp ∧ PySem.W.keepIn K (.ref f) = true
theorem ps_tryAsN {X : Cx} {x n : Str} {c : Value} {i : Nat} {body suite : List Stmt} {b₀ : Stmt} {np pos pos' : Pos} {tb : WX → TS} {ts : Addr → Value → Option Addr → TS} {Wout : WX} (hs : X.stack = X.env :: X.outer) (hf : X.env.frame = some X.env.locals) (hN : X.N.Nodup) (hi : X.N[i]? = some n) (hln : X.env.kindOf n = some .local) (hc : Names X x c) (tk : L2N.Takes X Wout)
    (hb : ∀ (W : WX) (pn : List (Addr × Obj)) (xe : Value → Shared → Prop), L2N.Takes (X.tr pn xe) W → PassesOwn (model X.prog X.w) X.A X.env xe → PSs (X.tr pn xe) body (tb W))
    (hsu : ∀ (a : Addr) (oe : Obj) (cls : Value) (d : Option Addr) (pn : List (Addr × Obj)), L2N.Zn cls d oe → (∃ vs, oe.data = .fields vs) → PSs (X.suite a ((a, oe) :: pn)) (b₀ :: suite) (ts a cls d)) :
    PS X (.Try body [.ExceptHandler (some (.Name x np)) (some n) (b₀ :: suite) pos'] [] [] pos) (tTryAs X.K c i tb ts Wout) := L2N.ps_try_as hs hf hN hi hln hc tk hb hsu
end L2.BP
namespace L2.BP
open PySem PySem.Spec PyProof.Rows L2H
/-! ### defs that are handed the exception that an except suite holds -/
/-- such a def's promise: where the exception stands, its class, its dict -/
abbrev SpE : Type := Addr → Value → Option Addr → Sp
structure FnE (P : Program) (w : World) (K : PySem.W.Frag) (mg : Str → Option Value) (base : Heap) (CX : CXT) (k : Nat) (f : Addr) (fd : FuncData) (ps : List Str) (sp : SpE) : Prop where
  len : ∀ a c d vs H Q E, sp a c d vs H Q E → vs.length = ps.length
  run : ∀ (A : Around) (outer : List Env) (s : Shared) (H : Hp) (args : Args) (us : List Value) (vs : List V) (Q : VK) (E : XK) (p : Addr × Obj) (cls : Value) (d : Option Addr), RoomH k A → Hot1 A p → L2N.Zn cls d p.2 → PinOk outer H s p → Env0 P w K mg base A outer s H → BindsTo s fd args (ps.zip us) → Vals vs us → sp p.1 cls d vs H Q E →
    codeAny (model P w) A (.call (.ref f) args) (CR CX outer P w H s Q E) s
def flowVal : Flow → Value
  | .ret u => u
  | _ => .none
/-- a body's end, as the caller takes it -/
theorem bodyEnd {P : Program} {w : World} {K : PySem.W.Frag} {mg : Str → Option Value} {base : Heap} {CX : CXT} {N : List Str} {qual : Str} {scope : Scope} {f : Addr} {cd : Value} {A : Around} {outer : List Env} {s s' : Shared} {H : Hp} {Q : VK} {E : XK} {p : Addr × Obj} {fl : Flow}
    (h : SP (cxH CX P w K mg base N qual scope f cd A outer s H E p) [] { nx := fun _ H' => Q .non H', rt := Q } fl s') : CR CX outer P w H s Q E (.ok (.ret (flowVal fl))) s' := by
  cases fl with
  | brk => exact h.elim fun _ h => h.elim fun _ h => h.2.elim
  | cont => exact h.elim fun _ h => h.elim fun _ h => h.2.elim
  | next =>
    obtain ⟨_, H1, J, q⟩ := h
    exact ⟨.non, H1, J.os, J.bare, J.base, J.hok, rfl, q⟩
  | ret u =>
    obtain ⟨v, _, H1, J, rv, q⟩ := h
    exact ⟨v, H1, J.os, J.bare, J.base, J.hok, rv, q⟩

theorem FunD.okE {P : Program} {w : World} {K : PySem.W.Frag} {mg : Str → Option Value} {base : Heap} {x qual : Str} {params : Arguments} {body : List Stmt} {scope : Scope} {dvs : List V} {kws : List (Str × V)} {f : Addr} {fd : FuncData} {CX : CXT} {N ps : List Str} {k : Nat} {sp : SpE} (F : FunD K x qual params body scope dvs kws f fd) (S : FnScope N ps scope) (len : ∀ a c d vs H Q E, sp a c d vs H Q E → vs.length = ps.length)
    (hbody : ∀ (cdv : Value) (A : Around) (outer : List Env) (s : Shared) (H : Hp) (vs : List V) (Q : VK) (E : XK) (p : Addr × Obj) (cls : Value) (d : Option Addr), Hot1 A p → L2N.Zn cls d p.2 → RoomH k (A.deeper (envOfC qual scope s.heap.objs.size f cdv)) → sp p.1 cls d vs H Q E →
      ∃ t, PSs (cxH CX P w K mg base N qual scope f cdv A outer s H E p) body t ∧ t { nx := fun _ H' => Q .non H', rt := Q } (L2.start N vs) H) : FnE P w K mg base CX (k + 1) f fd ps sp where
  len := len
  run := by
    intro A outer s H args us vs Q E p cls d room hot zn pin env binds vals want
    obtain ⟨_, _, _, _, _, _, _, cdv, _, _, e, look, code, _, _⟩ := F.ex
    subst e
    have world := env.mod.kin.keeps fun b o e => (env.bs b o e).1
    have free := env.mod.nolimit.keeps fun b o e => (env.bs b o e).1
    have kinds : ∀ y ∈ ps.zip us, scope.names.lookup y.1 = some .local ∨ (scope.names.lookup y.1 = some .cell ∧ ((cellsFrom (s.heap.objs.size + 1) scope.names []).lookup y.1).isSome = true) := by
      intro y hy
      cases S.par y.1 (List.of_mem_zip (show (y.1, y.2) ∈ ps.zip us from hy)).1 with
      | inl h => exact Or.inl h
      | inr h => exact Or.inr ⟨h, PySem.W.cellsFrom_some _ _ _ (Or.inl h)⟩
    have entered := codeAny_call_function (prog := P) (w := w) (A := A) (R := CR CX outer P w H s Q E) (s := s) (args := args) room.depth (world _ _ look) rfl S.co S.gen rfl (PySem.W.codeRec_of world code)
    apply entered
    apply binds
    apply wpAny_newFunctionEnv_cells S.kind kinds
    rintro env' rfl s1 made
    refine And.intro (free.keeps made.toInCall.keep) (codeAny_func ?_)
    obtain ⟨t, reads, goal⟩ := hbody cdv A outer s H vs Q E p cls d hot zn (room.deeper _) want
    have start : Inv (cxH CX P w K mg base N qual scope f cdv A outer s H E p) [] (L2.start N vs) H s1 := inv_startH S pin env (len _ _ _ _ _ _ _ want) vals made
    exact wpAny_mono (reads.run [] s1 _ _ _ start goal) (fun fl _ h => by
      have z := bodyEnd h
      cases fl <;> exact z) fun _ _ h => h
section
variable {X : Cx} {k : Nat} {f a : Addr} {oe : Obj} {pn : List (Addr × Obj)} {cls : Value} {d : Option Addr} {fd : FuncData} {ps : List Str} {sp : SpE} {x : Str} {q pos : Pos} {e : Expr} {es : List Expr} {t : TA}
theorem hot_of {A : Around} (hz : L2N.Zn cls d oe) (hf : ∃ vs, oe.data = .fields vs) : Hot1 (A.mark (some (.ref a))) (a, oe) :=
  hf.elim fun vs hv => ⟨rfl, vs, hv, hz.2.2 vs hv⟩
/-- f(.., e, ..) in the suite -/
def tClE (a : Addr) (cls : Value) (d : Option Addr) (sp : SpE) (t : TA) : TE := fun σ H Q => t σ H fun vs H1 => sp a cls d vs H1 Q fun _ _ _ => False
theorem c_clE {σ : St} {H : Hp} {Q : VK} (h : t σ H fun vs H1 => sp a cls d vs H1 Q fun _ _ _ => False) : tClE a cls d sp t σ H Q := h
/-- the def called, nothing let out of it -/
theorem run_clE (F : FnE X.prog X.w X.K X.mg X.base (L2N.CX X.prog X.w) k f fd ps sp) (hr : RoomH k X.A) (hz : L2N.Zn cls d oe) (hf : ∃ vs, oe.data = .fields vs) (hb : Binds X.K fd ps []) {pins : List (Addr × Obj)} {σ : St} {s : Shared} {H : Hp} {Q : VK} {us : List Value} {vs : List V}
    (I : Inv (X.suite a ((a, oe) :: pn)) pins σ H s) (r : Vals vs us) (h : sp a cls d vs H Q fun _ _ _ => False) : wpAny (model X.prog X.w) (X.suite a ((a, oe) :: pn)).A (call (.ref f) us) (EP (X.suite a ((a, oe) :: pn)) pins σ Q) (X.suite a ((a, oe) :: pn)).xe s := by
  have many : us.length = ps.length := r.length ▸ F.len _ _ _ _ _ _ _ h
  have bound := hb s us I.kIn (by simpa using many)
  rw [List.append_nil] at bound
  obtain ⟨g1, g2, g3, g4, g5⟩ := I.pin (a, oe) (List.mem_append_left _ (.head _))
  have away : a ∉ frs (X.suite a ((a, oe) :: pn)).stack := fun hm => by
    rcases List.mem_cons.mp (I.stkSub a hm) with z | z
    · exact g3 z
    · exact g4 z
  have ran := F.run (X.suite a ((a, oe) :: pn)).A (X.suite a ((a, oe) :: pn)).stack s H ⟨us, []⟩ us vs Q (fun _ _ _ => False) (a, oe) cls d ⟨hr.dp, hr.un⟩ (hot_of hz hf) hz ⟨g1, g2, away, g5⟩ I.env0 bound r h
  refine wpAny_call (codeAny_mono ran ?_)
  intro res s' got
  match res, got with
  | .error _, got =>
    obtain ⟨_, _, _, _, _, _, _, _, _, _, _, _, z⟩ := got
    exact z.elim
  | .ok (.ret _), got => exact I.after got
theorem pe_clE (F : FnE X.prog X.w X.K X.mg X.base (L2N.CX X.prog X.w) k f fd ps sp) (hr : RoomH k X.A) (hz : L2N.Zn cls d oe) (hf : ∃ vs, oe.data = .fields vs) (hg : Gl (X.suite a ((a, oe) :: pn)) x) (hm : X.mg x = some (.ref f)) (hk : PySem.W.keepIn X.K (.ref f) = true) (hb : Binds X.K fd ps [])
    (ha : PA (X.suite a ((a, oe) :: pn)) (e :: es) t) (hdb : (x == ("__debug__" : Str)) = false := by decide) (he : starEach (e :: es) X.env = (false, eval e X.env) :: starEach es X.env := by rfl) (hpl : (backTo pos (starEach es X.env)).any (·.1) = false := by rfl) :
    PE (X.suite a ((a, oe) :: pn)) (.Call (.Name x q) (e :: es) [] pos) (tClE a cls d sp t) where
  run := fun pins s σ H Q I h => wpAny_Call_Name_kw (ld_glob I hg hm (PySem.W.callWith_K (h₀ := X.base) I.ok.mod.kin hk
    (thn (ha.run pos pins s σ H _ I h) fun _ s1 z => z.elim fun vs z => z.elim fun H1 z => ⟨z.1.kIn, run_clE F hr hz hf hb z.1 z.2.1 z.2.2⟩) he hpl) hdb)
/-- isinstance(e, c) in the def -/
theorem call_isP {X : Cx} {p : Addr × Obj} {cls : Value} {d : Option Addr} (hp : p ∈ X.pn) (hz : Zc cls d p.2) (hf : ∃ vs, p.2.data = .fields vs) : CallR X (.builtin "isinstance") (rIsX X.K p.1 cls d) := by
  rintro pins s σ H xs us Q I r ⟨D, c, cv, b, rfl, rfl, C, rfl, hcv, e, q⟩
  match us, r with
  | [_, _], .cons rfl (.cons rt .nil) =>
    rw [hcv _ rt]
    have there := (I.pin p (List.mem_append_left _ hp)).1
    have J : PySem.W.InstAt s.heap p.1 p.2 D none := by
      obtain ⟨vs, hv⟩ := hf
      obtain ⟨pa, ⟨_, _, _, _⟩⟩ := p
      obtain ⟨h1, h2⟩ := hz
      dsimp only at h1 h2 hv
      subst h1 h2 hv
      exact ⟨there, rfl, rfl, trivial⟩
    exact PySem.W.kia_one (PySem.W.handS_kitx_exc C.hg C.hk C.hs C.hd C.ha C.hn C.ht C.hm) I.kIn J e (fun z => nomatch z) fun tk => ⟨.bl b, H, I.kept (t' := tk) fun _ _ z => z, rfl, q⟩
theorem hot_fields {A : Around} {p : Addr × Obj} (h : Hot1 A p) : ∃ vs, p.2.data = .fields vs := h.2.elim fun vs z => ⟨vs, z.1⟩
end
end L2.BP
namespace L2.BP
open PySem PySem.Spec PyProof.Rows HotX L2H
/-! ### name = [.. for .. in a list ..], where an exception is handled -/
section
variable {prog : Program} {w : World} {A : Around} {E : Value → Shared → Prop} {s : Shared}
/-- a list's iterator at its end: the StopIteration that is made there has the handled one for its context -/
theorem endHot {it l e1 : Addr} {n : Nat} {xs : Array Value} {Q : Option Value → Shared → Prop} (hot : HotAt A e1 s.heap) (ne : it ≠ e1) (at_ : s.heap.IsListIter it l n) (lst : s.heap.IsList l xs) (out : xs[n]? = none)
    (k : ∀ h', (∀ b o, b ≠ it → s.heap.get? b = some o → h'.get? b = some o) → Q none { s with heap := h' }) : wpAny (model prog w) A (pyNext (.ref it)) Q E s := by
  obtain ⟨held, ox, fields, there, data, ctx⟩ := hot
  obtain ⟨oi, geti, _, di⟩ := id at_
  obtain ⟨ol, getl, _, _, dl⟩ := lst
  have kept : ∀ {b : Addr} {o : Obj} {f : Obj → Obj} {u v : Obj}, b ≠ it → s.heap.get? b = some o → (((s.heap.update it f).push u).push v).get? b = some o := by
    intro b o f u v hb e
    apply Heap.get?_push_of_some
    apply Heap.get?_push_of_some
    rw [Heap.get?_update_other _ _ hb.symm]
    exact e
  unfold pyNext
  apply wpAny_bind
  apply wpAny_attempt
  apply wpAny_callSpecial?_slot (name := Str.ofString "__next__") at_.typeIs slot_listiter_next
  refine wpAny_call_entry slot_listiter_next at_.typeIs entry_listiter_next ?_ (args_listiter_next _)
  change wpAny _ _ (field (.ref it) 0 >>= _) _ _ s
  apply wpAny_bind
  refine wpAny_field geti di (x := .ref l) rfl ?_
  change wpAny _ _ (if (Value.ref l == Value.none) = true then _ else _) _ _ s
  rw [if_neg (by exact Bool.false_ne_true)]
  change wpAny _ _ (field (.ref it) 1 >>= _) _ _ s
  apply wpAny_bind
  refine wpAny_field geti di (x := .int n 0) rfl ?_
  change wpAny _ _ (seqItems? (.ref l) >>= _) _ _ s
  apply wpAny_bind
  apply wpAny_seqItems getl dl
  simp only [Int.toNat_natCast, out]
  apply wpAny_bind
  apply wpAny_rule
  apply wpAny_bind
  refine wpAny_setField geti di (by simp) ?_
  change wpAny _ _ (newExc (.type "StopIteration") [] >>= _) _ _ _
  apply wpAny_bind
  simp only [newExc, newTuple]
  apply wpAny_bind
  refine wpAny_newObj_type ?_ (by size_fits)
  apply wpAny_bind (m := firstArgMember _ _)
  refine wpAny_of_eq (a := Value.none) (by first | rfl | (simp only [firstArgMember]; rfl)) ?_
  refine wpAny_newObj_type ?_ (by size_fits)
  refine raiseNew_hot ⟨held, ox, fields, kept ne.symm there, data, ctx⟩ (Nat.ne_of_lt (Heap.lt_size (Heap.get?_push_of_some _ (by rw [Heap.get?_update_other _ _ ne]; exact there)))) (Heap.get?_push_size _ rfl) rfl (by first | (simp; done) | (simp; omega) | (simp only [Array.size_append]; simp; omega)) ?_
  apply wpAny_bind
  refine wpAny_isInstance (T := "StopIteration") (b := true) ⟨_, Heap.get?_update_self _ (Heap.get?_push_size _ rfl) rfl, rfl⟩ isSubtype_stop ?_
  refine wpAny_pure (k _ fun b o hb e => ?_)
  rw [Heap.get?_update_other _ _ (Nat.ne_of_gt (Heap.lt_size (Heap.get?_push_of_some _ (by rw [Heap.get?_update_other _ _ hb.symm]; exact e))))]
  exact kept hb e
/-- a tuple's iterator at its end -/
theorem endTupHot {it l e1 : Addr} {n : Nat} {xs : Array Value} {Q : Option Value → Shared → Prop} (hot : HotAt A e1 s.heap) (ne : it ≠ e1) (at_ : s.heap.IsTupleIter it l n) (lst : s.heap.IsTuple l xs) (out : xs[n]? = none)
    (k : ∀ h', (∀ b o, b ≠ it → s.heap.get? b = some o → h'.get? b = some o) → Q none { s with heap := h' }) : wpAny (model prog w) A (pyNext (.ref it)) Q E s := by
  obtain ⟨held, ox, fields, there, data, ctx⟩ := hot
  obtain ⟨oi, geti, _, di⟩ := id at_
  obtain ⟨ol, getl, _, _, dl⟩ := lst
  have kept : ∀ {b : Addr} {o : Obj} {f : Obj → Obj} {u v : Obj}, b ≠ it → s.heap.get? b = some o → (((s.heap.update it f).push u).push v).get? b = some o := by
    intro b o f u v hb e
    apply Heap.get?_push_of_some
    apply Heap.get?_push_of_some
    rw [Heap.get?_update_other _ _ hb.symm]
    exact e
  unfold pyNext
  apply wpAny_bind
  apply wpAny_attempt
  apply wpAny_callSpecial?_slot (name := Str.ofString "__next__") at_.typeIs F.slot_tuple_iterator_next
  refine wpAny_call_entry F.slot_tuple_iterator_next at_.typeIs F.entry_tuple_iterator_next ?_ (F.args_tuple_iterator_next_1 _)
  change wpAny _ _ (field (.ref it) 0 >>= _) _ _ s
  apply wpAny_bind
  refine wpAny_field geti di (x := .ref l) rfl ?_
  change wpAny _ _ (if (Value.ref l == Value.none) = true then _ else _) _ _ s
  rw [if_neg (by exact Bool.false_ne_true)]
  change wpAny _ _ (field (.ref it) 1 >>= _) _ _ s
  apply wpAny_bind
  refine wpAny_field geti di (x := .int n 0) rfl ?_
  change wpAny _ _ (seqItems? (.ref l) >>= _) _ _ s
  apply wpAny_bind
  apply wpAny_seqItems getl dl
  simp only [Int.toNat_natCast, out]
  apply wpAny_bind
  apply wpAny_rule
  apply wpAny_bind
  refine wpAny_setField geti di (by simp) ?_
  change wpAny _ _ (newExc (.type "StopIteration") [] >>= _) _ _ _
  apply wpAny_bind
  simp only [newExc, newTuple]
  apply wpAny_bind
  refine wpAny_newObj_type ?_ (by size_fits)
  apply wpAny_bind (m := firstArgMember _ _)
  refine wpAny_of_eq (a := Value.none) (by first | rfl | (simp only [firstArgMember]; rfl)) ?_
  refine wpAny_newObj_type ?_ (by size_fits)
  refine raiseNew_hot ⟨held, ox, fields, kept ne.symm there, data, ctx⟩ (Nat.ne_of_lt (Heap.lt_size (Heap.get?_push_of_some _ (by rw [Heap.get?_update_other _ _ ne]; exact there)))) (Heap.get?_push_size _ rfl) rfl (by first | (simp; done) | (simp; omega) | (simp only [Array.size_append]; simp; omega)) ?_
  apply wpAny_bind
  refine wpAny_isInstance (T := "StopIteration") (b := true) ⟨_, Heap.get?_update_self _ (Heap.get?_push_size _ rfl) rfl, rfl⟩ isSubtype_stop ?_
  refine wpAny_pure (k _ fun b o hb e => ?_)
  rw [Heap.get?_update_other _ _ (Nat.ne_of_gt (Heap.lt_size (Heap.get?_push_of_some _ (by rw [Heap.get?_update_other _ _ hb.symm]; exact e))))]
  exact kept hb e
/-- (a, b, ..) = a tuple -/
theorem tupHot {env : Env} {elts : List Expr} {k1 : Nat} {pos : Pos} {t e1 : Addr} {items : Array Value} {Q : Unit → Shared → Prop} (hot : HotAt A e1 s.heap) (ht : s.heap.IsTuple t items) (hn : (assignEach elts env).length = items.size) (hstar : (assignEach elts env).findIdx? (·.1) = none)
    (h : ∀ h', (∀ b o, b ≠ s.heap.objs.size → s.heap.get? b = some o → h'.get? b = some o) → wpAny (model prog w) A (assignInOrder ((assignEach elts env).map (·.2)) items.toList) Q E { s with heap := h' }) : wpAny (model prog w) A (assign (.Tuple elts k1 pos) env (.ref t)) Q E s := by
  have old : t ≠ s.heap.objs.size := by
    obtain ⟨o, e, _⟩ := ht
    exact Nat.ne_of_lt (Heap.lt_size e)
  obtain ⟨held, ox, fields, there, data, ctx⟩ := hot
  have ne : s.heap.objs.size ≠ e1 := Nat.ne_of_gt (Heap.lt_size there)
  rw [arm_assign_Tuple]
  apply wpAny_bind
  apply wpAny_standAt
  unfold unpack
  rw [hn, hstar]
  apply wpAny_bind
  apply wpAny_holding
  unfold unpackItems
  apply wpAny_bind
  unfold notIterableAtAll
  apply wpAny_bind
  apply wpAny_specialOf ht.typeIs F.slot_tuple_iter.lookup
  apply wpAny_pure
  simp only [Bool.false_eq_true, if_false]
  apply wpAny_bind
  apply wpAny_holding
  apply wpAny_pyIter_tuple ht
  apply wpAny_bind
  apply wpAny_holding
  refine wpAny_draw_tuple old items.size 0 _ _ ⟨_, Heap.get?_push_size _ rfl, rfl, rfl⟩ (ht.push _) (by omega) fun h1 at1 but1 => ?_
  rw [List.drop_zero, List.take_of_length_le (by simp), if_neg (by simp)]
  apply wpAny_bind
  apply wpAny_holding
  have keep1 : ∀ b o, b ≠ s.heap.objs.size → s.heap.get? b = some o → h1.get? b = some o := fun b o hb e => but1.extBut b o hb (Heap.get?_push_of_some _ e)
  refine endTupHot (s := { s with heap := h1 }) (e1 := e1) ⟨held, ox, fields, keep1 _ _ ne.symm there, data, ctx⟩ ne at1 ((ht.push _).extBut but1.extBut old) (by simp) fun h2 keep2 => ?_
  simp only [Option.isSome_none, Bool.false_eq_true, if_false]
  exact wpAny_pure (h h2 fun b o hb e => keep2 b o hb (keep1 b o hb e))
end
/-- a target, the handled exception being pinned -/
structure PGH (X : Cx) (p : Addr × Obj) (tg : Expr) (g : TG) : Prop where
  run : ∀ (pins : List (Addr × Obj)) (s : Shared) (σ : St) (H : Hp) (v : V) (u : Value) (Q : St → Hp → Prop), p ∈ X.pn ++ pins → Inv X pins σ H s → RelV v u → g v σ H Q → wpAny (model X.prog X.w) X.A (assign tg X.env u) (fun _ s' => ∃ σ' H', Inv X pins σ' H' s' ∧ Q σ' H') X.xe s
theorem PGH.of {X : Cx} {p : Addr × Obj} {tg : Expr} {g : TG} (h : PG X tg g) : PGH X p tg g := ⟨fun pins s σ H v u Q _ I r k => h.run pins s σ H v u Q I r k⟩
theorem pg_tupH {X : Cx} {p : Addr × Obj} {es : List Expr} {k n : Nat} {pos : Pos} {t : TGs} (hot : Hot1 X.A p) (h : PGs X es t) (hn : (assignEach es X.env).length = n := by rfl) (hst : (assignEach es X.env).findIdx? (·.1) = none := by rfl) : PGH X p (.Tuple es k pos) (gTup X.K n t) where
  run := by
    rintro pins s σ H v u Q hp I r ⟨a, xs, rfl, hq, hl, more⟩
    cases r
    obtain ⟨its, rv, ht, hz⟩ := I.tuple hq
    obtain ⟨hh, v1, e1, c1⟩ := hot
    refine tupHot (e1 := p.1) ⟨hh, p.2, v1, (I.pin p hp).1, e1, c1⟩ (show s.heap.IsTuple a its.toArray from ht) (by simp [hn, ← hl, rv.length]) hst fun h' keep => ?_
    exact h.run pins _ σ H xs _ Q (I.kept (t' := s.toks) fun b o e => keep b o (Nat.ne_of_lt (Heap.lt_size e)) e) (by simpa using rv) more
section
variable {B : Cx} {tg : Expr} {a it : Addr} {pins : List (Addr × Obj)} {s : Shared} {ρ : St} {H : Hp} {E : Value → Shared → Prop} {p : Addr × Obj}
/-- how the loop over the list at a stands, n turns at most to come -/
def HotLp (B : Cx) (p : Addr × Obj) (it a : Addr) (ρ : St) (W : Nat → Nat → Hp → Prop) (n : Nat) (s : Shared) : Prop := ∃ i H, Inv B [p] ρ H s ∧ s.heap.IsListIter it a i ∧ H it = none ∧ W i n H
theorem fpHot (ex : B.ex = [it]) (pn : B.pn = []) (ne : it ≠ p.1) (I : Inv B [p] ρ H s) (free : H it = none) : FpOk B [p] H it := by
  have mem : it ∈ B.ex := by rw [ex]; exact .head _
  obtain ⟨z1, z2⟩ := I.ok.exf it mem
  refine ⟨free, z1, I.ok.exfs it mem, .inl mem, z2, fun q hq => ?_⟩
  rw [pn] at hq
  rw [List.mem_singleton.mp (show q ∈ [p] from hq)]
  exact ne.symm
theorem turnHot {R : Result → Shared → Prop} {NB : Value → Shared → Prop} {elt : Expr} {ifs : List Expr} {σ : St} {vs : List Nat} {D : Addr} {W : Nat → Nat → Hp → Prop} {g : TG} {tt : TT} {te : TE} {P : Hp → Prop} {n : Nat}
    (hot : Hot1 B.A p) (ex : B.ex = [it]) (pn : B.pn = []) (xe : B.xe = fun _ _ => False) (ne : it ≠ p.1) (hρ : ρ = wipe σ vs) (pg : PGH B p tg g) (pt : PTs B ifs tt) (pe : PE B elt te)
    (leave : ∀ s' H', Inv B [p] ρ H' s' → P H' → R (.ok .next) s')
    (turns : ∀ i m H, W i m H → ((Itl B.K a).stop i H ∧ P H) ∨ ((Itl B.K a).go i H ∧ ∃ Nx : Hp → Prop, (∀ H', Nx H' → ∃ m', m' < m ∧ W (i + 1) m' H') ∧ ∀ x H', (Itl B.K a).yld i H x H' → g x (wipe σ vs) H' fun σ2 H2 => wipe σ2 vs = wipe σ vs ∧ tt σ2 H2 fun b H3 =>
      if b = true then te σ2 H3 fun y H4 => ∃ acc, H4 D = some (.lst acc) ∧ acc.length < sizeLine ∧ Nx (upd H4 D (.lst (acc ++ [y]))) else Nx H3))
    (st : HotLp B p it a ρ W n s) :
    wpAny (model B.prog B.w) B.A (pyNext (.ref it)) (fun r s₁ => match r with
      | none => R (.ok .next) s₁
      | some v => wpAny (model B.prog B.w) B.A (letOwnedTupleGo tg (.ref it) v) (fun _ s₁' => wpAny (model B.prog B.w) B.A (assign tg B.env v) (fun _ s₂ =>
          wpAny (model B.prog B.w) B.A (forIn ifs true fun c r => if r = true then do let ok ← isTrue c B.env (eval c B.env); pure (ForInStep.yield ok) else pure (ForInStep.yield r)) (fun ok s₃ =>
            if ok = true then wpAny (model B.prog B.w) B.A (eval elt B.env) (fun x s₄ =>
              wpAny (model B.prog B.w) B.A (call (.builtin "list.append") [.ref D, x]) (fun _ s₅ => ∃ m, m < n ∧ HotLp B p it a ρ W m s₅) NB s₄) NB s₃
            else ∃ m, m < n ∧ HotLp B p it a ρ W m s₃) NB s₂) NB s₁') NB s₁) NB s := by
  obtain ⟨i, H0, I0, li, fr, w0⟩ := st
  have fp := fpHot ex pn ne I0 fr
  obtain ⟨f0, f1, f2, f3, f4, f5⟩ := id fp
  rcases turns i n H0 w0 with ⟨⟨xs, hq, hx⟩, fin⟩ | ⟨⟨xs, x, hq, hx⟩, Nx, down, step⟩
  · obtain ⟨its, rv, q, _⟩ := I0.list hq
    have many := rv.length
    obtain ⟨hh, v1, e1, c1⟩ := hot
    exact endHot (e1 := p.1) ⟨hh, p.2, v1, (I0.pin p (List.mem_append_right _ (.head _))).1, e1, c1⟩ ne li q.isList (by simp; omega) fun h' kept => leave _ H0 (I0.turned (t' := s.toks) (fun b o hb e => kept b o hb e) f0 f1 f3 f4 f5) fin
  · obtain ⟨its, rv, q, _⟩ := I0.list hq
    obtain ⟨u, hu, ru⟩ := rv.get hx
    refine wpAny_pyNext_list_item li q.isList (x := u) (by simpa using hu) fun h1 li1 but => ?_
    obtain ⟨oi, ei, ci, di⟩ := id li1
    have I1 : Inv B [p] ρ H0 { s with heap := h1 } := I0.turned (t' := s.toks) (fun b o hb e => (but.2 b hb).trans e) f0 f1 f3 f4 f5
    refine go_of (s := { s with heap := h1 }) ei ci di (by decide) ?_
    have J1 := I1.pinned (fp := [it]) (fun b hb => by rw [List.mem_singleton.mp hb]; exact fp) fun b hb => by
      rw [List.mem_singleton.mp hb]
      exact ⟨oi, ei, fun v z => by rw [di] at z; cases z⟩
    have err : ∀ {α : Type} {t : Sem α} {Q Q' : α → Shared → Prop} {s' : Shared}, wpAny (model B.prog B.w) B.A t Q B.xe s' → (∀ r s'', Q r s'' → Q' r s'') → wpAny (model B.prog B.w) B.A t Q' NB s' := by
      intro α t Q Q' s' h hQ
      rw [xe] at h
      exact wpAny_mono h hQ fun _ _ z => z.elim
    subst hρ
    have yes : (Itl B.K a).yld i H0 x H0 := ⟨rfl, fun ys hy => by rw [I0.list_inj hy hq]; exact hx⟩
    refine err (pg.run _ _ _ H0 x u _ (List.mem_append_right _ (.head _)) J1 ru (step x H0 yes)) ?_
    rintro - s2 ⟨σ2, H2, I2, same, q2⟩
    refine err (pt.run _ s2 σ2 H2 _ I2 q2) ?_
    rintro b s3 ⟨H3, I3, q3⟩
    have again : ∀ s' H', Inv B ([p] ++ pinsAt [it] h1) σ2 H' s' → Nx H' → ∃ m, m < n ∧ HotLp B p it a (wipe σ vs) W m s' := by
      intro s' H' I' nx
      obtain ⟨m, hm, w'⟩ := down H' nx
      have stays := I'.pin (it, oi) (List.mem_append_right _ (List.mem_append_right _ (mem_pinsAt (.head _) ei)))
      refine ⟨m, hm, i + 1, H', (I'.unpinned (pins := [p])).weak ?_ ?_, li1.at fun o e => ?_, stays.2.1, w'⟩
      · rw [← same, wipe_length]
      · intro j v e
        rw [← same] at e
        exact (wipe_some e).1
      · rw [ei] at e
        cases e
        exact stays.1
    cases b with
    | false => exact again s3 H3 I3 (by simpa using q3)
    | true =>
      refine err (pe.run _ s3 σ2 H3 _ I3 (by simpa using q3)) ?_
      rintro z s4 ⟨y, H4, I4, ry, acc, hD, hz, nx⟩
      exact app_ok (X := B) I4 hD hz ry fun s5 I5 => again s5 _ I5 nx
end
end L2.BP
namespace L2.BP
open PySem PySem.Spec PyProof.Rows HotX L2H
section
variable {X : Cx}
/-- a list's iterator, fresh -/
theorem iterHot {iter : Expr} {tl : TE} (hl : PE X iter tl) {pins : List (Addr × Obj)} {s : Shared} {σ : St} {H : Hp} {R : It → Hp → Prop} (I : Inv X pins σ H s) (h : iList X.K tl σ H R) :
    wpAny (model X.prog X.w) X.A (eval iter X.env) (fun v s1 => wpAny (model X.prog X.w) X.A (pyIter v) (fun v2 s2 => ∃ (it a : Addr) (H' : Hp), v2 = .ref it ∧ Inv X pins σ H' s2 ∧ s2.heap.IsListIter it a 0 ∧ FpOk X pins H' it ∧ R (Itl X.K a) H') X.xe s1) X.xe s := by
  apply thn (hl.run pins s σ H _ I h)
  rintro v s1 ⟨_, H1, I1, rel, a, rfl, ⟨xs, sq⟩, more⟩
  cases rel
  obtain ⟨its, _, q, _⟩ := I1.list sq
  apply wpAny_pyIter_list q.isList
  exact ⟨_, a, H1, rfl, I1.kept (t' := s1.toks) fun b o e => Heap.get?_push_of_some _ e, ⟨_, Heap.get?_push_size _ rfl, rfl, rfl⟩, I1.fpOk (Nat.le_refl _) (I1.hok.fresh (Nat.le_refl _)), more⟩
theorem ps_setHot {i : Nat} {y : Str} {py : Pos} {elt tg iter : Expr} {ifs : List Expr} {scope : Scope} {own : List (Str × Nat)} {pos spos : Pos} {tl : TE} {g : TG} {tt : TT} {te : TE} {p : Addr × Obj} (hot : Hot1 X.A p) (hp : p ∈ X.pn) (hN : X.N.Nodup) (hy : X.N[i]? = some y) (hyl : X.env.scope.names.lookup y = some .local)
    (hsw : swapsWith (.ListComp elt [⟨tg, iter, ifs, 0⟩] scope pos) (some (.Name y py)) spos.line X.env = pure true) (hi : PE X iter tl) (ok : BlkOk X.N X.env.scope scope own)
    (hg : ∀ (s : Shared) (H : Hp) (C : Addr) (cl : List (Str × Addr)) (fp : List Addr), PGH (X.blk s H scope (compEnvC scope cl C X.env) fp) p tg g) (ht : ∀ (s : Shared) (H : Hp) (C : Addr) (cl : List (Str × Addr)) (fp : List Addr), PTs (X.blk s H scope (compEnvC scope cl C X.env) fp) ifs tt)
    (he : ∀ (s : Shared) (H : Hp) (C : Addr) (cl : List (Str × Addr)) (fp : List Addr), PE (X.blk s H scope (compEnvC scope cl C X.env) fp) elt te) (hs : ∀ x, foldedSetIterable iter X.env x = pure x := by intro _; rfl) :
    PS X (.Assign [.Name y py] (.ListComp elt [⟨tg, iter, ifs, 0⟩] scope pos) spos) (tAsg (tLc (iList X.K tl) g tt te (own.map (·.2))) (gName i)) := by
  constructor
  intro pins s σ H D I want
  have want : tLc (iList X.K tl) g tt te (own.map (·.2)) σ H (fun x H1 => gName i x σ H1 D.nx) := want
  have closed : ∀ z ∈ scope.names, z.2 = .free → ∃ c, X.env.cells.lookup z.1 = some c := fun z hz e => (ok.free z hz e).elim (fun k => I.ok.has _ (.inl k)) fun k => I.ok.has _ (.inr k)
  rw [exec_Assign_Name_used _ _ _ _ hsw]
  apply wpAny_bind
  apply wpAny_standAt
  apply wpAny_bind
  change wpAny _ X.A (do let _ ← comprehension (.ListComp elt [⟨tg, iter, ifs, 0⟩] scope pos) scope X.env (firstIterPos [⟨tg, iter, ifs, 0⟩] pos) (newList []) false (eval iter X.env) (some (assign (.Name y py) X.env))) _ _ s
  apply wpAny_bind
  refine thn (Q := fun _ s' => SP X pins D .next s') ?_ fun _ s' done => wpAny_pure (wpAny_pure done)
  refine wpAny_comprehension_free (use := some (assign (.Name y py) X.env)) rfl hs (closure_ok closed) ok.kind (fun z hz e => by rw [ok.uniq z hz, e]) (thn (iterHot hi I want) fun v s1 hv => thn hv ?_)
  rintro v2 s2 ⟨it, a, H2, rfl, I2, li2, fit, make⟩
  obtain ⟨W, ⟨m0, w0⟩, turns⟩ := make s2.heap.objs.size (I2.hok.fresh (Nat.le_refl _))
  have itIn : it < s2.heap.objs.size := by
    obtain ⟨o, e, _⟩ := li2
    exact Heap.lt_size e
  refine wpAny_newObj_type (newEnv_comp ?_) (Nat.zero_le sizeLine)
  -- the new list
  generalize eD : s2.heap.objs.size = L at w0 turns itIn ⊢
  generalize es3 : ({ s2 with heap := s2.heap.push { cls := .type "list", data := .seq ([] : List Value).toArray } } : Shared) = s3
  have grow3 : ∀ b o, s2.heap.get? b = some o → s3.heap.get? b = some o := fun b o e => by
    rw [← es3]
    exact Heap.get?_push_of_some _ e
  have I3 : Inv X pins σ (upd H2 L (.lst [])) s3 := by
    rw [← es3]
    refine I2.laid (t' := s2.toks) (fun b o e => Heap.get?_push_of_some _ e) (Nat.le_of_eq eD) ⟨Nat.zero_le _, [], 0, .nil, ?_⟩
    rw [← eD]
    exact Heap.get?_push_size _ rfl
  have free3 : upd H2 L (.lst []) it = none := by
    rw [upd_ne (Nat.ne_of_lt itIn)]
    exact fit.1
  generalize upd H2 L (.lst []) = H3 at w0 I3 free3
  have itIn3 : it < s3.heap.objs.size := by
    obtain ⟨o, e, _⟩ := li2
    exact Heap.lt_size (grow3 _ _ e)
  have fit3 : FpOk X pins H3 it := ⟨free3, fit.2⟩
  have P3 := I3.pin p (List.mem_append_left _ hp)
  have ne : it ≠ p.1 := fun z => fit.2.2.2.2.2 p (List.mem_append_left _ hp) z.symm
  -- the block
  have I4 := block_start (fp := [it]) I3 ok hN fun b hb => by
    rw [List.mem_singleton.mp hb]
    exact ⟨fit3, itIn3⟩
  have pg := hg s3 H3 s3.heap.objs.size (cellsFrom (s3.heap.objs.size + 1) scope.names (cloFrom X.env.cells scope.names [])) [it]
  have pt := ht s3 H3 s3.heap.objs.size (cellsFrom (s3.heap.objs.size + 1) scope.names (cloFrom X.env.cells scope.names [])) [it]
  have pe := he s3 H3 s3.heap.objs.size (cellsFrom (s3.heap.objs.size + 1) scope.names (cloFrom X.env.cells scope.names [])) [it]
  change codeAny _ _ (.compStart (.ListComp elt [⟨tg, iter, ifs, 0⟩] scope pos) 0 (.ref it) (.ref L) (compEnvC scope (cellsFrom (s3.heap.objs.size + 1) scope.names (cloFrom X.env.cells scope.names [])) s3.heap.objs.size X.env)) (compPost (model X.prog X.w) X.A X.xe (some (assign (.Name y py) X.env)) (fun _ s' => SP X pins D .next s') (.ref L) s3.heap.objs.size) { s3 with heap := pushCells (s3.heap.push { cls := .type "dict", data := .dict #[] }) scope.names }
  generalize ece : compEnvC scope (cellsFrom (s3.heap.objs.size + 1) scope.names (cloFrom X.env.cells scope.names [])) s3.heap.objs.size X.env = ce at I4 pg pt pe ⊢
  have locs : ce.locals = s3.heap.objs.size := by
    subst ece
    rfl
  have grow4 : ∀ b o, s3.heap.get? b = some o → (pushCells (s3.heap.push { cls := .type "dict", data := .dict #[] }) scope.names).get? b = some o := fun b o e => pushCells_keeps _ _ _ _ (Heap.get?_push_of_some _ e)
  have I5 := I4.pins_of (pins' := [p]) fun q hq => by
    rw [List.mem_singleton.mp hq]
    refine ⟨grow4 _ _ P3.1, P3.2.1, ?_, ?_, P3.2.2.2.2⟩
    · change p.1 ≠ ce.locals
      rw [locs]
      exact Nat.ne_of_lt (Heap.lt_size P3.1)
    · intro z
      rcases List.mem_cons.mp (I3.stkSub _ z) with z | z
      · exact P3.2.2.1 z
      · exact P3.2.2.2.1 z
  have li4 : (pushCells (s3.heap.push { cls := .type "dict", data := .dict #[] }) scope.names).IsListIter it a 0 := li2.at fun o e => grow4 _ _ (grow3 _ _ e)
  generalize es4 : ({ s3 with heap := pushCells (s3.heap.push { cls := .type "dict", data := .dict #[] }) scope.names } : Shared) = s4 at I5 ⊢
  have li4 : s4.heap.IsListIter it a 0 := by
    rw [← es4]
    exact li4
  have loop : codeAny (model X.prog X.w) X.A (.compLoop (.ListComp elt [⟨tg, iter, ifs, 0⟩] scope pos) 0 (.ref it) (.ref L) ce) (compPost (model X.prog X.w) X.A X.xe (some (assign (.Name y py) X.env)) (fun _ s' => SP X pins D .next s') (.ref L) s3.heap.objs.size) s4 := by
    refine compLoop_any (HotLp (X.blk s3 H3 scope ce [it]) p it a (wipe σ (own.map (·.2))) W) (fun n s5 st => ?_) m0 ⟨0, H3, I5, li4, free3, w0⟩
    refine turnHot (B := X.blk s3 H3 scope ce [it]) (σ := σ) (vs := own.map (·.2)) hot rfl rfl rfl ne rfl pg pt pe ?_ turns st
    -- behind the last turn: the name is bound
    intro s6 H6 I6 q
    have back : Inv X pins σ H6 s6 := I3.call' (ch := [it]) I6.os I6.base I6.hok I6.bare fun b hb => by
      rw [List.mem_singleton.mp hb]
      exact ⟨fit3.2.2.2.1, fit3.2.1, fit3.2.2.2.2.1, fit3.2.2.2.2.2⟩
    have clear : H6 s3.heap.objs.size = none := by
      have z : H6 ce.locals = none := I6.free
      rw [locs] at z
      exact z
    obtain ⟨m, names, _⟩ := I6.loc
    have names : s6.heap.Ns ce.locals m := names
    rw [locs] at names
    obtain ⟨f0, f1, f2, f3, f4, f5⟩ := I3.fpOk (H' := H6) (Nat.le_refl _) clear
    change wpAny _ _ (assign (.Name y py) X.env (.ref L)) _ _ _
    refine wpAny_assign_Name (store_ok2 (v := V.ref L) back hN hy (.inl hyl) rfl ?_ (.inr hyl))
    rintro s7 I7 ⟨c, but, place⟩
    have apart : s3.heap.objs.size ≠ c := by
      rcases place with z | z
      · rw [z]
        exact f1
      · exact fun e => f4 y c z e.symm
    exact ⟨m, names.sameBut but apart, fun h8 but8 => ⟨_, H6, I7.turned (t' := s7.toks) (fun b o hb e => (but8.2 b hb).trans e) f0 f1 f3 f4 f5, q⟩⟩
  exact codeAny_compStart_list loop (wpAny_pyIter_listiter li4 loop)
end
end L2.BP
namespace L2.BP
open PySem PySem.Spec PyProof.Rows
theorem noneBack {H B : Hp} {p : Addr} (s : Same H B) (h : B p = none) : H p = none := by
  cases e : H p with
  | none => rfl
  | some u =>
    have z := s _ _ e
    rw [h] at z
    cases z
end L2.BP
namespace L2.BP
open PySem PySem.Spec PyProof.Rows HotX L2H
/-! ### defs called in a suite that don't look at the exception -/
theorem FunD.okH {P : Program} {w : World} {K : PySem.W.Frag} {mg : Str → Option Value} {base : Heap} {x qual : Str} {params : Arguments} {body : List Stmt} {scope : Scope} {dvs : List V} {kws : List (Str × V)} {f : Addr} {fd : FuncData} {CX : CXT} {N ps : List Str} {k : Nat} {sp : Sp} (F : FunD K x qual params body scope dvs kws f fd) (S : FnScope N ps scope) (len : ∀ vs H Q E, sp vs H Q E → vs.length = ps.length)
    (hbody : ∀ (cdv : Value) (A : Around) (outer : List Env) (s : Shared) (H : Hp) (vs : List V) (Q : VK) (E : XK) (p : Addr × Obj), Hot1 A p → RoomH k (A.deeper (envOfC qual scope s.heap.objs.size f cdv)) → sp vs H Q E →
      ∃ t, PSs (cxH CX P w K mg base N qual scope f cdv A outer s H E p) body t ∧ t { nx := fun _ H' => Q .non H', rt := Q } (L2.start N vs) H) : FnH P w K mg base CX (k + 1) f fd ps sp := by
  obtain ⟨_, _, _, _, _, _, _, cdv, _, _, e, look, code, _, _⟩ := F.ex
  subst e
  exact fn_ofH look code S len (hbody cdv)
theorem roomMark {k : Nat} {A : Around} {h : Option Value} (r : RoomH k A) : RoomH k (A.mark h) := ⟨r.dp, r.un⟩
theorem pe_clH {Y : Cx} {k : Nat} {f : Addr} {fd : FuncData} {ps : List Str} {sp : Sp} {x : Str} {q pos : Pos} {e : Expr} {es : List Expr} {t : TA} (F : FnH Y.prog Y.w Y.K Y.mg Y.base (L2N.CX Y.prog Y.w) k f fd ps sp) (hr : RoomH k Y.A) (hc : HotC Y) (hg : Gl Y x) (hm : Y.mg x = some (.ref f)) (hk : PySem.W.keepIn Y.K (.ref f) = true) (hb : Binds Y.K fd ps [])
    (ha : PA Y (e :: es) t) (hdb : (x == ("__debug__" : Str)) = false := by decide) (he : starEach (e :: es) Y.env = (false, eval e Y.env) :: starEach es Y.env := by rfl) (hpl : (backTo pos (starEach es Y.env)).any (·.1) = false := by rfl) :
    PE Y (.Call (.Name x q) (e :: es) [] pos) (tCl sp [] WF t) where
  run := fun pins s σ H Q I h => by
    have same : (fun vs H1 => sp (vs ++ []) H1 Q fun c d H2 => WF c d σ H2) = fun vs H1 => sp vs H1 Q (WE WF σ) := by
      funext vs H1
      rw [List.append_nil]
    have h' : t σ H fun vs H1 => sp vs H1 Q (WE WF σ) := same ▸ h
    exact (pe_callH (E := WE WF) F hr hc hg hm hk hb (fun σ => L2N.passAt takes0N σ) ha hdb he hpl).run pins s σ H Q I h'
/-- a list walked there -/
theorem turn_listH {P : Program} {w : World} {K : PySem.W.Frag} {tg : Expr} (a it : Addr) : TurnH P w K tg (Itl K a) [it] it (fun i h => h.IsListIter it a i) where
  mem := (turn_list (P := P) (w := w) (K := K) (tg := tg) a it).mem
  obj := (turn_list (P := P) (w := w) (K := K) (tg := tg) a it).obj
  keep := (turn_list (P := P) (w := w) (K := K) (tg := tg) a it).keep
  self := (turn_list (P := P) (w := w) (K := K) (tg := tg) a it).self
  item := by
    rintro X rfl rfl rfl _ i pins s σ H E I hf li ⟨xs, x, hq, hx⟩
    obtain ⟨its, rv, q, _⟩ := I.list hq
    obtain ⟨u, hu, ru⟩ := rv.get hx
    obtain ⟨f0, f1, f2, f3, f4, f5⟩ := hf it (.head _)
    refine wpAny_pyNext_list_item li q.isList (x := u) (by simpa using hu) fun h1 li1 but => ⟨u, rfl, ?_⟩
    obtain ⟨oi, ei, ci, di⟩ := id li1
    refine go_of (s := { s with heap := h1 }) ei ci di (by decide) ⟨x, H, I.turned (t' := s.toks) (fun b o hb e => (but.2 b hb).trans e) f0 f1 f3 f4 f5, ru, ⟨rfl, fun ys hy => ?_⟩, li1, fun b hb => (hf b hb).1⟩
    rw [I.list_inj hy hq]
    exact hx
  done := by
    rintro X rfl rfl rfl ⟨p, ⟨hh, v1, e1, c1⟩, hp⟩ i pins s σ H E I hf li ⟨xs, hq, hx⟩
    obtain ⟨its, rv, q, _⟩ := I.list hq
    have many := rv.length
    obtain ⟨f0, f1, f2, f3, f4, f5⟩ := hf it (.head _)
    exact endHot (e1 := p.1) ⟨hh, p.2, v1, (I.pin p (List.mem_append_left _ hp)).1, e1, c1⟩ (fun z => f5 p (List.mem_append_left _ hp) z.symm) li q.isList (by simp; omega) fun h' kept => ⟨rfl, I.turned (t' := s.toks) (fun b o hb e => kept b o hb e) f0 f1 f3 f4 f5⟩
theorem pi_listH {X : Cx} {tg l : Expr} {tl : TE} (hl : PE X l tl) : PIH X tg l (iList X.K tl) where
  run := fun pins s σ H R I h => by
    apply thn (hl.run pins s σ H _ I h)
    rintro v s1 ⟨_, H1, I1, rel, a, rfl, ⟨xs, sq⟩, more⟩
    cases rel
    obtain ⟨its, _, q, _⟩ := I1.list sq
    apply wpAny_pyIter_list q.isList
    refine ⟨_, [s1.heap.objs.size], _, _, H1, rfl, I1.kept (t' := s1.toks) fun b o e => Heap.get?_push_of_some _ e, turn_listH a _, ⟨_, Heap.get?_push_size _ rfl, rfl, rfl⟩, fun b hb => ?_, more⟩
    rw [List.mem_singleton.mp hb]
    exact I1.fpOk (Nat.le_refl _) (I1.hok.fresh (Nat.le_refl _))
end L2.BP
namespace L2.BP
open PySem PySem.Spec PyProof.Rows
/-- the first own objects laid to the base, all at once -/
theorem Hs.fixes : ∀ {N L : Pic} {B H : Hp}, Hs B (N ++ L) H → ∃ B', Same B B' ∧ Hs B' L H ∧ ∀ q ∈ N, B' q.1 = some q.2
  | [], _, B, _, h => ⟨B, Same.refl B, h, fun _ z => nomatch z⟩
  | (p, o) :: N, L, B, H, h => by
    obtain ⟨B', s, h', k⟩ := Hs.fixes (N := N) (L := L) (Hs.fix h)
    refine ⟨B', (same_upd (h.nb (.head _))).trans s, h', fun q hq => ?_⟩
    rcases List.mem_cons.mp hq with rfl | hq
    · exact s _ _ upd_same
    · exact k q hq
end L2.BP
namespace L2.BP
open PySem PySem.Spec PyProof.Rows L2H
/-- o.m() where an exception is handled -/
theorem pe_mt0H {Y : Cx} {C f : Addr} {m : Str} {k : Nat} {fd : FuncData} {ps : List Str} {sp : Sp} {o : Expr} {ta : TE} {pos apos : Pos} {pl : Sem Bool} (he : PE Y o ta) (c : Cls Y.K C) (hm : Meth Y.K C m f) (F : FnH Y.prog Y.w Y.K Y.mg Y.base (L2N.CX Y.prog Y.w) k f fd ps sp) (hr : RoomH k Y.A) (hc : HotC Y)
    (hb : Binds Y.K fd ps []) (ht : eval (.Call (.Attribute o m apos) [] [] pos) Y.env = (do
      let ov ← eval o Y.env; standAt apos.atName
      let (f, first) ← holding [ov] (getMethod ov m pl); callWith pos f first (backTo pos (starEach [] Y.env)) (backToKw pos (keywordEach [] Y.env))) := by rfl) :
    PE Y (.Call (.Attribute o m apos) [] [] pos) (tMt C m sp [] WF ta tNil) where
  run := fun pins s σ H Q I h => by
    refine PySem.W.methodCall_KW (pl := pl) (thn (he.run pins s σ H _ I h) ?_) ht
    rintro u s1 ⟨x, H1, I1, rx, a, dx, fs, rfl, ea, l, q⟩
    cases (show u = Value.ref a from rx)
    have go := run_fnH (E := WE WF) (us := [.ref a]) (vs := [.ref a]) F hr hc hb (L2N.passAt takes0N σ) I1 (.cons rfl .nil) q
    exact getmeth_ok I1 ea c hm l (PySem.W.callWith_K0 (first := [.ref a]) I1.kIn hm.kp go)
end L2.BP
section
open L2.BP
/-! steps, as rows of the tactic that the library names walk_at -/
local macro_rules | `(tactic| walk_at "mem") => `(tactic| first | exact .head _ | exact .tail _ (.head _) | exact .tail _ (.tail _ (.head _)) | exact .tail _ (.tail _ (.tail _ (.head _))) | exact .tail _ (.tail _ (.tail _ (.tail _ (.head _)))) | exact .tail _ (.tail _ (.tail _ (.tail _ (.tail _ (.head _))))))
local macro_rules | `(tactic| walk_at "get") => `(tactic| first | assumption | ((with_reducible apply Hs.get); (· assumption); (· walk_at "mem")) | exact (Hs.ex (by assumption)) _ _ (by assumption))
local macro_rules | `(tactic| walk_at "sq") => `(tactic| first | assumption | ((with_reducible apply Hs.sql); (· assumption); (· walk_at "mem")) | ((with_reducible apply Hs.bl); (· assumption); (· assumption)) | ((with_reducible apply SqL.of); (walk_at "get")))
local macro_rules | `(tactic| walk_at "sqt") => `(tactic| first | assumption | ((with_reducible apply Hs.sqt); (· assumption); (· walk_at "mem")) | ((with_reducible apply Hs.bt); (· assumption); (· assumption)) | ((with_reducible apply SqT.of); (walk_at "get")))
local macro_rules | `(tactic| walk_at "bd") => `(tactic| first | decide | omega | assumption)
local macro_rules | `(tactic| walk_at "cmul") => `(tactic| first | exact .inr ⟨by decide, by decide⟩ | exact .inl ⟨by decide, by decide⟩ | exact .inl ⟨by omega, by omega⟩ | exact .inr ⟨by omega, by omega⟩ | assumption)
local macro_rules | `(tactic| walk_at "yes") => `(tactic| first | rfl | assumption | exact decide_eq_true (by first | assumption | omega) | (simp only [Bool.not_eq_true', decide_eq_true_eq, decide_eq_false_iff_not, Bool.and_eq_true, Bool.or_eq_true] <;> omega))
local macro_rules | `(tactic| walk_at "no") => `(tactic| first | rfl | assumption | exact decide_eq_false (by first | assumption | omega) | (simp only [Bool.not_eq_false', decide_eq_true_eq, decide_eq_false_iff_not, Bool.and_eq_false_iff, Bool.or_eq_false_iff] <;> omega))
local macro_rules | `(tactic| walk_at "look") => `(tactic| first | (with_reducible exact look0) | ((with_reducible apply lookS); (· (decide +kernel)); walk_at "look"))
local macro_rules | `(tactic| walk_at "lookn") => `(tactic| first | (with_reducible exact lookN) | ((with_reducible apply lookNS); (· (decide +kernel)); walk_at "lookn"))
local macro_rules | `(tactic| walk_at "put") => `(tactic| first | (with_reducible exact put0) | (with_reducible exact putN) | ((with_reducible apply putS); (· (decide +kernel)); walk_at "put"))
local macro_rules | `(tactic| walk_at "few") => `(tactic| (exact of_decide_eq_true rfl))
local macro_rules | `(tactic| walk_at "s") => `(tactic| first
  | ((with_reducible apply c_var); (· exact rfl))
  | (with_reducible apply c_c)
  | (with_reducible apply c_op)
  | (with_reducible apply w_seq)
  | (with_reducible apply w_asg)
  | (with_reducible apply w_name)
  | (with_reducible apply w_if)
  | (with_reducible apply c_test)
  | (with_reducible apply c_bl)
  | ((with_reducible apply i_t); (· walk_at "yes"))
  | ((with_reducible apply i_f); (· walk_at "no"))
  | (with_reducible apply c_cons)
  | (with_reducible apply c_nil)
  | (with_reducible apply c_cb)
  | (with_reducible apply c_cl)
  | (with_reducible apply w_ret)
  | (with_reducible apply w_drop)
  | (with_reducible apply w_break)
  | (with_reducible apply w_cont)
  | (with_reducible apply w_retN)
  | (with_reducible apply w_par)
  | (with_reducible apply c_parO)
  | (with_reducible apply c_rev)
  | (with_reducible apply g_sub)
  | (with_reducible apply g_attr)
  | (with_reducible apply c_orT)
  | (with_reducible apply c_lenset)
  | (with_reducible apply c_dget)
  | (with_reducible apply c_tpc)
  | (with_reducible apply c_tpn)
  | ((with_reducible apply c_disp); (· assumption); intro _ _ _)
  | (with_reducible apply w_next)
  | (with_reducible apply c_addI)
  | (with_reducible apply c_sub)
  | ((with_reducible apply c_mulI); (· walk_at "cmul"))
  | ((with_reducible apply c_mod); (· walk_at "bd"))
  | ((with_reducible apply c_div); (· exact ⟨by walk_at "bd", by walk_at "bd"⟩))
  | (with_reducible apply c_lt)
  | (with_reducible apply c_le)
  | (with_reducible apply c_gt)
  | (with_reducible apply c_ge)
  | (with_reducible apply c_eqI)
  | ((with_reducible apply c_eqL); (· walk_at "sq"); (· walk_at "sq"))
  | ((with_reducible apply c_neL); (· walk_at "sq"); (· walk_at "sq"))
  | (with_reducible apply c_neI)
  | (with_reducible apply c_eqB)
  | (with_reducible apply c_neB)
  | (with_reducible apply c_eqS)
  | (with_reducible apply c_neS)
  | (with_reducible apply c_isN)
  | (with_reducible apply c_notN)
  | (with_reducible apply c_isB)
  | (with_reducible apply c_notB)
  | (with_reducible apply c_un)
  | (with_reducible apply c_neg)
  | (with_reducible apply c_and)
  | (with_reducible apply c_or)
  | (with_reducible apply c_xor)
  | ((with_reducible apply c_shr); (· walk_at "bd"))
  | ((with_reducible apply c_shl); (· exact ⟨by walk_at "bd", by walk_at "bd", by walk_at "bd"⟩))
  | (with_reducible apply c_B)
  | (with_reducible apply c_tand)
  | (with_reducible apply c_tor)
  | (with_reducible apply c_tnot)
  | (with_reducible apply c_andV)
  | (with_reducible apply c_orV)
  | (with_reducible apply c_notV)
  | (with_reducible apply c_chain)
  | (with_reducible apply c_if)
  | (with_reducible apply c_isi_ii)
  | (with_reducible apply c_isi_ib)
  | ((with_reducible apply c_lenL); (· walk_at "sq"))
  | ((with_reducible apply c_lenT); (· walk_at "sqt"))
  | (with_reducible apply c_isiS)
  | ((with_reducible apply c_ixL); (· (walk_at "sq")); (· first | exact rfl | assumption))
  | ((with_reducible apply c_ixT); (· (walk_at "sqt")); (· first | exact rfl | assumption))
  | (with_reducible apply c_tup)
  | (with_reducible apply c_lst)
  | ((with_reducible apply c_tupO); (· assumption); (· exact small5' (of_decide_eq_true rfl)); intro _ _ _)
  | ((with_reducible apply c_lstO); (· assumption); (· exact small5' (of_decide_eq_true rfl)); intro _ _ _)
  | ((with_reducible apply w_aug); (· exact rfl))
  | (with_reducible apply c_ipAddI)
  | (with_reducible apply c_ipSub)
  | (with_reducible apply c_intI)
  | (with_reducible apply c_intB)
  | (with_reducible apply c_max2)
  | (with_reducible apply c_mt)
  | ((with_reducible apply c_recv); (· (walk_at "get")); (· (walk_at "lookn")))
  | (with_reducible apply c_tfld)
  | ((with_reducible apply c_fld); (· (walk_at "get")); (· assumption); (· assumption); (· (walk_at "look")))
  | (with_reducible apply w_sfld)
  | (with_reducible apply w_sfldAug)
  | ((with_reducible apply c_fldA); (· (walk_at "get")); (· assumption); (· assumption); (· (walk_at "look")))
  | (with_reducible apply c_radd)
  | (with_reducible apply c_rsub)
  | ((with_reducible apply w_put0); (· assumption); (· assumption); (· assumption); (· (walk_at "few")); (· (walk_at "put")); intro _ _)
  | ((with_reducible apply w_put1); (· assumption); (· assumption); (· assumption); (· (walk_at "few")); (· (walk_at "put")); intro _ _)
  | ((with_reducible apply w_put2); (· assumption); (· assumption); (· assumption); (· (walk_at "few")); (· (walk_at "put")); intro _ _)
  | ((with_reducible apply w_aput0); (· assumption); (· (walk_at "few")); (· (walk_at "put")); intro _ _)
  | ((with_reducible apply w_aput1); (· assumption); (· (walk_at "few")); (· (walk_at "put")); intro _ _)
  | ((with_reducible apply w_aput2); (· assumption); (· (walk_at "few")); (· (walk_at "put")); intro _ _)
  | (with_reducible apply c_bm)
  | (with_reducible apply c_bm0)
  | ((with_reducible apply c_tyL); (· (walk_at "sq")))
  | (with_reducible apply c_sl)
  | (with_reducible apply c_part)
  | (with_reducible apply c_nopart)
  | (with_reducible apply c_i)
  | (with_reducible apply c_lc)
  | (with_reducible apply w_for)
  | (with_reducible apply c_iL)
  | (with_reducible apply c_iT)
  | (with_reducible apply c_iR1)
  | (with_reducible apply c_iR3)
  | (with_reducible apply c_iS)
  | (with_reducible apply c_ssO)
  | (with_reducible apply c_made)
  | ((with_reducible apply c_madeO); (· assumption); intro _ _ _ _)
  | (with_reducible apply c_iR2)
  | (with_reducible apply c_yes)
  | (with_reducible apply g_cons)
  | (with_reducible apply g_nil)
  | ((with_reducible apply g_tup); (· (walk_at "sqt")); (· exact rfl))
  | (with_reducible apply c_mk)
  | ((with_reducible apply c_mkO); (· assumption); intro _ _ _ _)
  | (with_reducible apply c_iE)
  | (with_reducible apply c_iZ)
  | ((with_reducible apply c_iE1); (· walk_at "sq"))
  | ((with_reducible apply c_slL); (· assumption); (· walk_at "sq"); intro _ _ _)
  | ((with_reducible apply c_listL); (· assumption); (· walk_at "sq"); intro _ _ _)
  | (with_reducible apply c_min2))
local macro_rules | `(tactic| walk_at "go") => `(tactic| repeat walk_at "s")
local macro_rules | `(tactic| walk_at "deep") => `(tactic| repeat (first | exact List.Mem.head _ | apply List.Mem.tail))
namespace L2.BR
open PySem PySem.Spec PyProof.Rows L2.BP
variable {K : PySem.W.Frag} {W : WX} {vs : List V} {H : Hp} {Q : VK} {E : XK}
/-! ### rows -/
def Tg.isByte : Tg → Bool
  | .int i => decide (0 ≤ i) && decide (i ≤ 255)
  | _ => false
def sp_is_byte (K : PySem.W.Frag) : Sp := fun vs H Q _ => ∃ (v : V) (g : Tg), vs = [v] ∧ Th K H v g ∧ Q (.bl (Tg.isByte g)) H
theorem len_is_byte (h : sp_is_byte K vs H Q E) : vs.length = 1 := by
  obtain ⟨v, g, rfl, _⟩ := h
  rfl
def t_is_byte (K : PySem.W.Frag) (W : WX) : TS :=
  (tRet ((tAndV (tCB (rIsi K) (tCons (tVar 0) (tCons (tC (.ty "int")) tNil))) (tAndV (tNotV (tCB (rIsi K) (tCons (tVar 0) (tCons (tC (.ty "bool")) tNil)))) (tChain rLeU rLeU (tC (.int 0)) (tVar 0) (tC (.int 255)))))))
theorem rd_is_byte (h : sp_is_byte K vs H Q E) : t_is_byte K W { nx := fun _ H' => Q .non H', rt := Q } (start ["thing"] vs) H := by
  obtain ⟨v, g, rfl, hT, q⟩ := h
  have hs := Hs.start H
  unfold t_is_byte
  cases hT with
  | int i =>
    have q : Q (.bl (decide (0 ≤ i) && decide (i ≤ 255))) H := q
    walk_at "go"
    cases e : decide ((0 : Int) ≤ i) with
    | false =>
      rw [e] at q
      walk_at "go"
      exact q
    | true =>
      rw [e] at q
      walk_at "go"
      exact q
  | bl b =>
    walk_at "go"
    refine c_isiInt (.bl b) ?_
    walk_at "go"
    refine c_isiBool (.bl b) ?_
    walk_at "go"
    exact q
  | non => walk_at "go"; refine c_isiInt .non ?_; walk_at "go"; exact q
  | str x => walk_at "go"; refine c_isiInt (.str x) ?_; walk_at "go"; exact q
  | lst z => walk_at "go"; refine c_isiInt (.lst z) ?_; walk_at "go"; exact q
  | tup z => walk_at "go"; refine c_isiInt (.tup z) ?_; walk_at "go"; exact q
  | dic z => walk_at "go"; refine c_isiInt (.dic z) ?_; walk_at "go"; exact q
/-- whether a thing is a byte, by itself -/
def byteV : V → Bool
  | .int i => decide (0 ≤ i) && decide (i ≤ 255)
  | _ => false
theorem byteV_of {v : V} {g : Tg} (h : Th K H v g) : Tg.isByte g = byteV v := by cases h <;> rfl
def Tg.isRow : Tg → Bool
  | .lst xs => xs.all byteV
  | _ => false
/-- the thing may be looked at: its items are things, too -/
def Tg.ok (K : PySem.W.Frag) (H : Hp) : Tg → Prop
  | .lst xs => (∀ x ∈ xs, ∃ g, Th K H x g) ∧ xs.length ≤ 100000
  | _ => True
def sp_is_row (K : PySem.W.Frag) : Sp := fun vs H Q _ => ∃ (v : V) (g : Tg), vs = [v] ∧ Th K H v g ∧ Tg.ok K H g ∧ RetV H Q (.bl (Tg.isRow g))
theorem len_is_row (h : sp_is_row K vs H Q E) : vs.length = 1 := by
  obtain ⟨v, g, rfl, _⟩ := h
  rfl
def t_is_row (K : PySem.W.Frag) (W : WX) : TS :=
  (tRet ((tAndV (tCB (rIsi K) (tCons (tVar 0) (tCons (tC (.ty "list")) tNil))) (tCB (rAll K) (tCons (tLc (iList K (tVar 0)) (gName 1) tYes (tCl (sp_is_byte K) [] WF (tCons (tVar 1) tNil)) [1]) tNil)))))
theorem rd_is_row (h : sp_is_row K vs H Q E) : t_is_row K W { nx := fun _ H' => Q .non H', rt := Q } (start ["thing", "number"] vs) H := by
  obtain ⟨v, g, rfl, hT, hok, q⟩ := h
  have hs := Hs.start H
  unfold t_is_row
  cases hT with
  | @lst a xs z =>
    walk_at "go"
    refine c_isiList (.lst z) ?_
    walk_at "go"
    refine c_lcL (f := id) xs (fun pre acc B => acc = (pre.map byteV).map V.bl) hs rfl (fun B' H' e h => by rw [List.map_id]; exact (e.trans h.ex).seq z) ?_ ?_
    · intro pre x post acc B' D H' e i eB h
      obtain ⟨g, hg⟩ := hok.1 x (by rw [e]; simp)
      walk_at "go"
      refine ⟨rfl, ?_⟩
      walk_at "go"
      refine ⟨x, g, rfl, hg.same (eB.trans h.ex), ?_⟩
      subst i
      refine c_item h (small5 ?_) eB ?_
      · have := congrArg List.length e
        have := hok.2
        simp at *
        omega
      · rw [byteV_of hg]
        simp
    · intro acc B' D H' i eB h
      subst i
      walk_at "go"
      refine c_all (h.sql (.head _)) ?_
      have e : ((xs.map byteV).all id) = xs.all byteV := by simp
      rw [e]
      exact q _ (eB.trans h.ex)
  | non => walk_at "go"; refine c_isiList .non ?_; walk_at "go"; exact q _ hs.ex
  | bl b => walk_at "go"; refine c_isiList (.bl b) ?_; walk_at "go"; exact q _ hs.ex
  | int i => walk_at "go"; refine c_isiList (.int i) ?_; walk_at "go"; exact q _ hs.ex
  | str x => walk_at "go"; refine c_isiList (.str x) ?_; walk_at "go"; exact q _ hs.ex
  | tup z => walk_at "go"; refine c_isiList (.tup z) ?_; walk_at "go"; exact q _ hs.ex
  | dic z => walk_at "go"; refine c_isiList (.dic z) ?_; walk_at "go"; exact q _ hs.ex
/-- a row: its numbers -/
def Bytes (ns : List Int) : Prop := ∀ n ∈ ns, 0 ≤ n ∧ n ≤ 255
theorem ints_of : ∀ {xs : List V}, xs.all byteV = true → ∃ ns : List Int, xs = ns.map V.int ∧ Bytes ns
  | [], _ => ⟨[], rfl, fun _ h => nomatch h⟩
  | x :: r, h => by
    simp only [List.all_cons, Bool.and_eq_true] at h
    obtain ⟨ns, e, hb⟩ := ints_of h.2
    cases x with
    | int i =>
      refine ⟨i :: ns, by rw [e]; rfl, fun n hn => ?_⟩
      rcases List.mem_cons.mp hn with z | z
      · have h1 := h.1
        simp only [byteV, Bool.and_eq_true, decide_eq_true_eq] at h1
        rw [z]
        exact h1
      · exact hb n z
    | _ => cases h.1
theorem all_byteV {ns : List Int} (h : Bytes ns) : (ns.map V.int).all byteV = true := by
  rw [List.all_eq_true]
  intro x hx
  obtain ⟨n, hn, rfl⟩ := List.mem_map.mp hx
  have := h n hn
  simp only [byteV, Bool.and_eq_true, decide_eq_true_eq]
  exact this
theorem ok_ints {H : Hp} {ns : List Int} (h : ns.length ≤ 100000) : Tg.ok K H (.lst (ns.map V.int)) := by
  refine ⟨fun x hx => ?_, by rw [List.length_map]; exact h⟩
  obtain ⟨n, _, rfl⟩ := List.mem_map.mp hx
  exact ⟨_, .int n⟩
theorem cutV_ints (ns : List Int) (lo hi : Option Int) : cutV (ns.map V.int) lo hi = ((ns.drop (HT.sIx ns.length 0 lo)).take (HT.sIx ns.length ns.length hi - HT.sIx ns.length 0 lo)).map V.int := by
  unfold cutV
  rw [List.length_map, List.map_take, List.map_drop]
theorem sIx_at (n d k : Nat) (h : k ≤ n) : HT.sIx n d (some ((k : Nat) : Int)) = k := by rw [HT.sIx_nat]; omega
theorem map_int_inj : ∀ {a b : List Int}, a.map V.int = b.map V.int → a = b
  | [], [], _ => rfl
  | [], _ :: _, h => by cases h
  | _ :: _, [], h => by cases h
  | x :: r, y :: t, h => by
    injection h with h1 h2
    injection h1 with h1
    rw [h1, map_int_inj h2]
theorem ne_f {a b : Int} (h : a = b) : (!decide (a = b)) = false := by rw [decide_eq_true h]; rfl
theorem cut_take (ns : List Int) (m : Nat) : cutV (ns.map V.int) none (some ((m : Nat) : Int)) = (ns.take m).map V.int := by
  rw [cutV_ints, HT.sIx_nat, HT.sIx_none, List.drop_zero, Nat.sub_zero]
  congr 1
  by_cases h : m ≤ ns.length
  · rw [Nat.min_eq_left h]
  · rw [Nat.min_eq_right (by omega), List.take_of_length_le (Nat.le_refl _), List.take_of_length_le (by omega)]
theorem cut_drop (ns : List Int) (m : Nat) : cutV (ns.map V.int) (some ((m : Nat) : Int)) none = (ns.drop m).map V.int := by
  rw [cutV_ints, HT.sIx_nat, HT.sIx_none]
  congr 1
  by_cases h : m ≤ ns.length
  · rw [Nat.min_eq_left h, List.take_of_length_le (by rw [List.length_drop]; omega)]
  · rw [Nat.min_eq_right (by omega), List.drop_of_length_le (Nat.le_refl _), List.drop_of_length_le (by omega), List.take_nil]
theorem cut_mid (ns : List Int) (a b : Nat) (h1 : a ≤ b) (h2 : b ≤ ns.length) : cutV (ns.map V.int) (some ((a : Nat) : Int)) (some ((b : Nat) : Int)) = ((ns.drop a).take (b - a)).map V.int := by
  rw [cutV_ints, HT.sIx_nat _ 0 a, HT.sIx_nat _ _ b, Nat.min_eq_left (show a ≤ ns.length by omega), Nat.min_eq_left h2]
theorem at_nat {ns : List Int} {k : Nat} (h : k < ns.length) : atI (ns.map V.int) ((k : Nat) : Int) = some (.int (ns.getD k 0)) := by
  rw [atI_nat (v := .int (ns.getD k 0))]
  rw [List.getElem?_map, List.getElem?_eq_getElem h, List.getD_eq_getElem?_getD, List.getElem?_eq_getElem h]
  rfl
theorem at_i {ns : List Int} {i : Int} {k : Nat} (e : i = ((k : Nat) : Int)) (h : k < ns.length) : atI (ns.map V.int) i = some (.int (ns.getD k 0)) := by rw [e]; exact at_nat h
def sp_need_row (K : PySem.W.Frag) : Sp := fun vs H Q E => ∃ (v : V) (g : Tg), vs = [v] ∧ Th K H v g ∧ Tg.ok K H g ∧
  (∀ xs, g = .lst xs → Tg.isRow g = true → RetL H Q xs) ∧ (Tg.isRow g = false → ∀ H', Same H H' → E (.ref (He.ga K "BadRow")) none H')
theorem len_need_row (h : sp_need_row K vs H Q E) : vs.length = 1 := by
  obtain ⟨v, g, rfl, _⟩ := h
  rfl
def t_need_row (K : PySem.W.Frag) (W : WX) : TS :=
  (tSeq (tIfS (tNot (tB (tCl (sp_is_row K) [] W (tCons (tVar 0) tNil)))) (tRz (He.ga K "BadRow") W) tNext)
    (tRet (tCB (rListK K) (tCons (tVar 0) tNil))))
theorem rd_need_row (h : sp_need_row K vs H Q E) : t_need_row K (fun c d _ H2 => E c d H2) { nx := fun _ H' => Q .non H', rt := Q } (start ["thing"] vs) H := by
  obtain ⟨v, g, rfl, hT, hok, q, qe⟩ := h
  have hs := Hs.start H
  unfold t_need_row
  walk_at "go"
  refine ⟨v, g, rfl, hT, hok, retV hs fun H1 h1 => ?_⟩
  walk_at "go"
  cases e : Tg.isRow g with
  | false =>
    walk_at "go"
    exact qe e _ h1.ex
  | true =>
    cases hT with
    | @lst a xs z =>
      walk_at "go"
      rename_i p H2 h2
      exact h2.rl (.head _) (q xs rfl e)
    | _ => cases e
end L2.BR

namespace L2.BR
open PySem PySem.Spec PyProof.Rows L2.BP
variable {K : PySem.W.Frag}
/-! ### the script's cells -/
def cellAt (ns : List Int) (k : Int) : Int := if k < ns.length then ns.getD k.toNat 0 else 0
def sp__law_cell_at (K : PySem.W.Frag) : Sp := fun vs H Q _ => ∃ (a : Addr) (ns : List Int) (k : Int), vs = [.ref a, .int k] ∧ SqL K H a (ns.map V.int) ∧ 0 ≤ k ∧ Q (.int (cellAt ns k)) H
theorem len__law_cell_at {vs : List V} {H : Hp} {Q : VK} {E : XK} (h : sp__law_cell_at K vs H Q E) : vs.length = 2 := by
  obtain ⟨a, ns, k, rfl, _⟩ := h
  rfl
theorem at_ints {ns : List Int} {k : Int} (h0 : 0 ≤ k) (h : k < ns.length) : atI (ns.map V.int) k = some (.int (ns.getD k.toNat 0)) := by
  obtain ⟨n, rfl⟩ := Int.eq_ofNat_of_zero_le h0
  have hn : n < ns.length := by omega
  rw [atI_nat (v := .int (ns.getD n 0))]
  · rfl
  · rw [List.getElem?_map, List.getElem?_eq_getElem hn, List.getD_eq_getElem?_getD, List.getElem?_eq_getElem hn]
    rfl
def t__law_cell_at (K : PySem.W.Frag) (W : WX) : TS :=
  (tSeq (tIfS (tTest (tOp rLtU (tVar 1) (tCB (rLenK K) (tCons (tVar 0) tNil)))) (tRet (tOp (rIx K) (tVar 0) (tVar 1))) tNext)
    (tRet (tC (.int 0))))
theorem rd__law_cell_at {W : WX} {vs : List V} {H : Hp} {Q : VK} {E : XK} (h : sp__law_cell_at K vs H Q E) : t__law_cell_at K W { nx := fun _ H' => Q .non H', rt := Q } (start ["_law_script", "_law_k"] vs) H := by
  obtain ⟨a, ns, k, rfl, hS, h0, q⟩ := h
  have hs := Hs.start H
  unfold t__law_cell_at
  walk_at "go"
  refine i_2 (fun c => ?_) (fun c => ?_)
  · have c := of_decide_eq_true c
    rw [List.length_map] at c
    walk_at "go"
    refine c_ixL (by walk_at "sq") (at_ints h0 c) ?_
    rw [show cellAt ns k = ns.getD k.toNat 0 from if_pos c] at q
    exact q
  · have c := of_decide_eq_false c
    rw [List.length_map] at c
    walk_at "go"
    rw [show cellAt ns k = 0 from if_neg c] at q
    exact q
end L2.BR

namespace L2.BR
open PySem PySem.Spec PyProof.Rows L2.BP
/-! ### texts of noughts and ones -/
def numOf : List Bool → Nat
  | [] => 0
  | b :: r => b.toNat * 2 ^ r.length + numOf r
def bitsOf (n : Nat) : Nat → List Bool
  | 0 => []
  | s + 1 => (n / 2 ^ s % 2 == 1) :: bitsOf n s
theorem bitsOf_length (n : Nat) : ∀ s, (bitsOf n s).length = s
  | 0 => rfl
  | s + 1 => congrArg (· + 1) (bitsOf_length n s)
theorem numOf_lt : ∀ b : List Bool, numOf b < 2 ^ b.length
  | [] => by decide
  | x :: r => by
    have h := numOf_lt r
    have e : (2 : Nat) ^ (x :: r).length = 2 ^ r.length + 2 ^ r.length := by rw [List.length_cons, Nat.pow_succ]; omega
    rw [e]
    unfold numOf
    cases x
    · simp; omega
    · simp; omega
theorem numOf_append : ∀ a b : List Bool, numOf (a ++ b) = numOf a * 2 ^ b.length + numOf b
  | [], b => by simp [numOf]
  | x :: r, b => by
    show x.toNat * 2 ^ (r ++ b).length + numOf (r ++ b) = (x.toNat * 2 ^ r.length + numOf r) * 2 ^ b.length + numOf b
    rw [numOf_append r b, List.length_append, Nat.pow_add, Nat.add_mul, Nat.mul_assoc, Nat.add_assoc]
theorem numOf_bitsOf (n : Nat) : ∀ s, numOf (bitsOf n s) = n % 2 ^ s
  | 0 => by simp [numOf, bitsOf, Nat.mod_one]
  | s + 1 => by
    show (n / 2 ^ s % 2 == 1).toNat * 2 ^ (bitsOf n s).length + numOf (bitsOf n s) = _
    rw [bitsOf_length, numOf_bitsOf n s, Nat.pow_succ, Nat.mod_mul]
    have h : (n / 2 ^ s % 2 == 1).toNat = n / 2 ^ s % 2 := by
      rcases Nat.mod_two_eq_zero_or_one (n / 2 ^ s) with h | h <;> rw [h] <;> rfl
    rw [h, Nat.mul_comm, Nat.add_comm]
theorem numOf_small {n s : Nat} (h : n < 2 ^ s) : numOf (bitsOf n s) = n := by rw [numOf_bitsOf, Nat.mod_eq_of_lt h]
theorem numOf_inj : ∀ a b : List Bool, a.length = b.length → numOf a = numOf b → a = b
  | [], [], _, _ => rfl
  | [], _ :: _, h, _ => by cases h
  | _ :: _, [], h, _ => by cases h
  | x :: r, y :: t, h, e => by
    have hl : r.length = t.length := Nat.succ.inj h
    have e : x.toNat * 2 ^ r.length + numOf r = y.toNat * 2 ^ t.length + numOf t := e
    have h1 := numOf_lt r
    have h2 := numOf_lt t
    rw [← hl] at e h2
    cases x <;> cases y <;> simp at e ⊢
    · exact numOf_inj r t hl e
    · omega
    · omega
    · exact numOf_inj r t hl e
theorem bitsOf_numOf (b : List Bool) : bitsOf (numOf b) b.length = b := by
  refine numOf_inj _ _ (bitsOf_length _ _) ?_
  rw [numOf_small (numOf_lt b)]
theorem numOf_take_div (b : List Bool) (k : Nat) : numOf b / 2 ^ (b.length - k) = numOf (b.take k) := by
  have e := numOf_append (b.take k) (b.drop k)
  rw [List.take_append_drop] at e
  have h := numOf_lt (b.drop k)
  rw [List.length_drop] at e h
  rw [e, Nat.mul_comm, Nat.mul_add_div (Nat.two_pow_pos _), Nat.div_eq_of_lt h, Nat.add_zero]
theorem numOf_drop_mod (b : List Bool) (k : Nat) : numOf b % 2 ^ (b.length - k) = numOf (b.drop k) := by
  have e := numOf_append (b.take k) (b.drop k)
  rw [List.take_append_drop] at e
  have h := numOf_lt (b.drop k)
  rw [List.length_drop] at e h
  rw [e, Nat.mul_comm, Nat.mul_add_mod, Nat.mod_eq_of_lt h]
theorem numOf_noughts (k : Nat) : numOf (List.replicate k false) = 0 := by
  induction k with
  | zero => rfl
  | succ k ih => rw [List.replicate_succ]; unfold numOf; rw [ih]; simp
/-! the bytes that stand whole in a text, the text filled by noughts -/
def byteAt (b : List Bool) (i : Nat) : Nat := numOf ((b.drop (8 * i)).take 8)
def wholeTo (b : List Bool) (n : Nat) : List Int := (List.range n).map fun i => ((byteAt b i : Nat) : Int)
def pad8 (b : List Bool) : List Bool := b ++ List.replicate ((8 - b.length % 8) % 8) false
def rowOf (b : List Bool) : List Int := wholeTo (pad8 b) ((b.length + 7) / 8)
theorem wholeTo_length (b : List Bool) (n : Nat) : (wholeTo b n).length = n := by unfold wholeTo; simp
theorem wholeTo_succ (b : List Bool) (n : Nat) : wholeTo b (n + 1) = wholeTo b n ++ [((byteAt b n : Nat) : Int)] := by unfold wholeTo; rw [List.range_succ, List.map_append]; rfl
theorem byteAt_append {b c : List Bool} {i : Nat} (h : 8 * i + 8 ≤ b.length) : byteAt (b ++ c) i = byteAt b i := by
  unfold byteAt
  rw [List.drop_append_of_le_length (by omega), List.take_append_of_le_length (by rw [List.length_drop]; omega)]
theorem wholeTo_append {b c : List Bool} {n : Nat} (h : 8 * n ≤ b.length) : wholeTo (b ++ c) n = wholeTo b n := by
  unfold wholeTo
  refine List.map_congr_left fun i hi => ?_
  have := List.mem_range.mp hi
  rw [byteAt_append (by omega)]
theorem byteAt_lt (b : List Bool) (i : Nat) : byteAt b i < 256 := by
  have h := numOf_lt ((b.drop (8 * i)).take 8)
  have e : ((b.drop (8 * i)).take 8).length ≤ 8 := by rw [List.length_take]; omega
  exact Nat.lt_of_lt_of_le h (Nat.pow_le_pow_right (by decide) e)
theorem pad8_length (b : List Bool) : (pad8 b).length = 8 * ((b.length + 7) / 8) := by unfold pad8; rw [List.length_append, List.length_replicate]; omega
theorem rowOf_length (b : List Bool) : (rowOf b).length = (b.length + 7) / 8 := wholeTo_length _ _
theorem rowOf_bytes (b : List Bool) : ∀ n ∈ rowOf b, 0 ≤ n ∧ n ≤ 255 := by
  intro n hn
  unfold rowOf wholeTo at hn
  obtain ⟨i, _, rfl⟩ := List.mem_map.mp hn
  have := byteAt_lt (pad8 b) i
  omega
/-- the bits of a row -/
def bitsRow (ns : List Int) : List Bool := ns.flatMap fun n => bitsOf n.toNat 8
theorem bitsRow_length (ns : List Int) : (bitsRow ns).length = 8 * ns.length := by
  induction ns with
  | nil => rfl
  | cons n r ih =>
    unfold bitsRow at ih ⊢
    rw [List.flatMap_cons, List.length_append, ih, bitsOf_length, List.length_cons]
    omega
theorem bitsRow_wholeTo (b : List Bool) : ∀ n, 8 * n ≤ b.length → bitsRow (wholeTo b n) = b.take (8 * n)
  | 0, _ => by simp [wholeTo, bitsRow]
  | n + 1, h => by
    have ih := bitsRow_wholeTo b n (by omega)
    rw [wholeTo_succ]
    unfold bitsRow at ih ⊢
    rw [List.flatMap_append, ih]
    have e : bitsOf (byteAt b n) 8 = (b.drop (8 * n)).take 8 := by
      have l : ((b.drop (8 * n)).take 8).length = 8 := by rw [List.length_take, List.length_drop]; omega
      have z := bitsOf_numOf ((b.drop (8 * n)).take 8)
      rw [l] at z
      exact z
    show b.take (8 * n) ++ (bitsOf ((byteAt b n : Nat) : Int).toNat 8 ++ []) = _
    rw [Int.toNat_natCast, e, List.append_nil]
    rw [show 8 * (n + 1) = 8 * n + 8 by omega, List.take_add]
theorem bitsRow_rowOf (b : List Bool) : bitsRow (rowOf b) = pad8 b := by
  unfold rowOf
  rw [bitsRow_wholeTo _ _ (by rw [pad8_length]; exact Nat.le_refl _)]
  exact List.take_of_length_le (by rw [pad8_length]; exact Nat.le_refl _)
theorem bitsRow_snoc (ns : List Int) (n : Int) : bitsRow (ns ++ [n]) = bitsRow ns ++ bitsOf n.toNat 8 := by
  unfold bitsRow
  rw [List.flatMap_append, List.flatMap_cons, List.flatMap_nil, List.append_nil]
end L2.BR

namespace L2.BR
open PySem PySem.Spec PyProof.Rows L2.BP
variable {K : PySem.W.Frag} {W : WX} {vs : List V} {H : Hp} {Q : VK} {E : XK}
/-! ### rows of bits, readers -/
structure KBitReader (K : PySem.W.Frag) : Prop where
  c : Cls K (He.ga K "BitReader")
  n1 : NoAttr K (He.ga K "BitReader") "source"
  n2 : NoAttr K (He.ga K "BitReader") "taken"
def Tg.isNum : Tg → Bool
  | .int _ => true
  | _ => false
def sp_is_number (K : PySem.W.Frag) : Sp := fun vs H Q _ => ∃ (v : V) (g : Tg), vs = [v] ∧ Th K H v g ∧ Q (.bl (Tg.isNum g)) H
theorem len_is_number (h : sp_is_number K vs H Q E) : vs.length = 1 := by
  obtain ⟨v, g, rfl, _⟩ := h
  rfl
def t_is_number (K : PySem.W.Frag) (W : WX) : TS :=
  (tRet ((tAndV (tCB (rIsi K) (tCons (tVar 0) (tCons (tC (.ty "int")) tNil))) (tNotV (tCB (rIsi K) (tCons (tVar 0) (tCons (tC (.ty "bool")) tNil)))))))
theorem rd_is_number (h : sp_is_number K vs H Q E) : t_is_number K W { nx := fun _ H' => Q .non H', rt := Q } (start ["thing"] vs) H := by
  obtain ⟨v, g, rfl, hT, q⟩ := h
  have hs := Hs.start H
  unfold t_is_number
  walk_at "go"
  refine c_isiInt hT ?_
  cases g with
  | int i => walk_at "go"; refine c_isiBool hT ?_; walk_at "go"; exact q
  | bl b => walk_at "go"; refine c_isiBool hT ?_; walk_at "go"; exact q
  | _ => walk_at "go"; exact q
def sizeOk : Tg → Bool
  | .int i => decide (0 ≤ i) && decide (i ≤ 24)
  | _ => false
def sp_need_size (K : PySem.W.Frag) : Sp := fun vs H Q E => ∃ (v : V) (g : Tg), vs = [v] ∧ Th K H v g ∧ (sizeOk g = true → Q .non H) ∧ (sizeOk g = false → E (.ref (He.ga K "BadBits")) none H)
theorem len_need_size (h : sp_need_size K vs H Q E) : vs.length = 1 := by
  obtain ⟨v, g, rfl, _⟩ := h
  rfl
def t_need_size (K : PySem.W.Frag) (W : WX) : TS :=
  (tIfS ((tOr (tNot (tB (tCl (sp_is_number K) [] W (tCons (tVar 0) tNil)))) (tNot (tTest (tChain rLeU rLeU (tC (.int 0)) (tVar 0) (tC (.int 24))))))) (tRz (He.ga K "BadBits") W) tNext)
theorem rd_need_size (h : sp_need_size K vs H Q E) : t_need_size K (fun c d _ H2 => E c d H2) { nx := fun _ H' => Q .non H', rt := Q } (start ["size"] vs) H := by
  obtain ⟨v, g, rfl, hT, q, qe⟩ := h
  have hs := Hs.start H
  unfold t_need_size
  walk_at "go"
  refine ⟨v, g, rfl, hT, ?_⟩
  cases hT with
  | int i =>
    simp only [sizeOk] at q qe
    walk_at "go"
    cases e : decide ((0 : Int) ≤ i) with
    | false =>
      rw [e] at qe
      walk_at "go"
      exact qe rfl
    | true =>
      rw [e] at q qe
      walk_at "go"
      cases e2 : decide (i ≤ (24 : Int)) with
      | false =>
        rw [e2] at qe
        walk_at "go"
        exact qe rfl
      | true =>
        rw [e2] at q
        walk_at "go"
        exact q rfl
  | non => walk_at "go"; exact qe rfl
  | bl b => walk_at "go"; exact qe rfl
  | str x => walk_at "go"; exact qe rfl
  | lst z => walk_at "go"; exact qe rfl
  | tup z => walk_at "go"; exact qe rfl
  | dic z => walk_at "go"; exact qe rfl
theorem shr_nat (a k : Nat) : ((a : Nat) : Int) / 2 ^ k = ((a / 2 ^ k : Nat) : Int) := by push_cast; rfl
theorem two_cast (k : Nat) : (2 : Int) ^ k = ((2 ^ k : Nat) : Int) := by push_cast; rfl
theorem mask_nat (a k : Nat) : Builtin.bitAnd ((a : Nat) : Int) (1 * 2 ^ k - 1) = ((a % 2 ^ k : Nat) : Int) := by
  rw [Int.one_mul, Bits.bitAnd_mask k (Int.natCast_nonneg a)]
  push_cast
  rfl
theorem join_nat {a b k : Nat} (h : b < 2 ^ k) : Builtin.bitOr (((a : Nat) : Int) * 2 ^ k) ((b : Nat) : Int) = ((a * 2 ^ k + b : Nat) : Int) := by
  have h2 : ((b : Nat) : Int) < 2 ^ k := by rw [two_cast]; exact Int.ofNat_lt.mpr h
  rw [Bits.bitOr_join' (Int.natCast_nonneg b) h2 (Int.natCast_nonneg a)]
  push_cast
  rw [Int.add_comm]
/-! a reader as it stands -/
abbrev rdO (K : PySem.W.Frag) (dx s : Addr) (t : Nat) : HO := .ins (He.ga K "BitReader") dx [("source", .ref s), ("taken", .int ((t : Nat) : Int))]
end L2.BR

namespace L2.BR
open PySem PySem.Spec PyProof.Rows L2.BP
variable {K : PySem.W.Frag} {W : WX} {vs : List V} {H : Hp} {Q : VK} {E : XK}
def sp_BitReader___init__ (K : PySem.W.Frag) : Sp := fun vs H Q E => ∃ (B : Hp) (L : Pic) (x dx : Addr) (v : V) (g : Tg), vs = [.ref x, v] ∧ Hs B ((x, .ins (He.ga K "BitReader") dx []) :: L) H ∧ Th K H v g ∧ Tg.ok K H g ∧
  (∀ ns, g = .lst (ns.map V.int) → Bytes ns → ∀ s H', Hs B ((x, rdO K dx s 0) :: (s, .lst (ns.map V.int)) :: L) H' → Q .non H') ∧
  (Tg.isRow g = false → ∀ H', Hs B ((x, .ins (He.ga K "BitReader") dx []) :: L) H' → E (.ref (He.ga K "BadRow")) none H')
theorem len_BitReader___init__ (h : sp_BitReader___init__ K vs H Q E) : vs.length = 2 := by
  obtain ⟨B, L, x, dx, v, g, rfl, _⟩ := h
  rfl
def t_BitReader___init__ (K : PySem.W.Frag) (W : WX) : TS :=
  (tSeq (sFld K (tVar 0) (tCl (sp_need_row K) [] W (tCons (tVar 1) tNil)) "source")
    (sFld K (tVar 0) (tC (.int 0)) "taken"))
theorem rd_BitReader___init__ (kBitReader : KBitReader K) (h : sp_BitReader___init__ K vs H Q E) : t_BitReader___init__ K (fun c d _ H2 => E c d H2) { nx := fun _ H' => Q .non H', rt := Q } (start ["self", "row"] vs) H := by
  obtain ⟨B, L, x, dx, v, g, rfl, hs, hT, hok, q, qe⟩ := h
  obtain ⟨hc, n1, n2⟩ := kBitReader
  unfold t_BitReader___init__
  walk_at "go"
  refine ⟨v, g, rfl, hT, hok, fun xs e hr => ?_, fun hr H' e => qe hr H' (hs.same e)⟩
  subst e
  obtain ⟨ns, rfl, hb⟩ := ints_of (show xs.all byteV = true from hr)
  refine retL hs fun s H1 h1 => ?_
  walk_at "go"
  rename_i H2 h2 H3 h3
  exact q ns rfl hb s H3 h3.swap
def sp_BitReader_left (K : PySem.W.Frag) : Sp := fun vs H Q _ => ∃ (B : Hp) (L : Pic) (x dx s : Addr) (t : Nat) (ns : List Int), vs = [.ref x] ∧ Hs B ((x, rdO K dx s t) :: (s, .lst (ns.map V.int)) :: L) H ∧ Q (.int (8 * ((ns.length : Nat) : Int) - ((t : Nat) : Int))) H
theorem len_BitReader_left (h : sp_BitReader_left K vs H Q E) : vs.length = 1 := by
  obtain ⟨B, L, x, dx, s, t, ns, rfl, _⟩ := h
  rfl
def t_BitReader_left (K : PySem.W.Frag) (W : WX) : TS :=
  (tRet (tOp rSubU (tOp rMulU (tC (.int 8)) (tCB (rLenK K) (tCons (tFld K (tVar 0) "source") tNil))) (tFld K (tVar 0) "taken")))
theorem rd_BitReader_left (kBitReader : KBitReader K) (h : sp_BitReader_left K vs H Q E) : t_BitReader_left K W { nx := fun _ H' => Q .non H', rt := Q } (start ["self"] vs) H := by
  obtain ⟨B, L, x, dx, s, t, ns, rfl, hs, q⟩ := h
  obtain ⟨hc, n1, n2⟩ := kBitReader
  unfold t_BitReader_left
  walk_at "go"
  rw [List.length_map]
  exact q
theorem bitsRow_drop : ∀ (ns : List Int) (k : Nat), bitsRow (ns.drop k) = (bitsRow ns).drop (8 * k)
  | [], k => by simp [bitsRow]
  | n :: r, 0 => rfl
  | n :: r, k + 1 => by
    have ih := bitsRow_drop r k
    unfold bitsRow at ih ⊢
    have e : (bitsOf n.toNat 8).drop (8 * (k + 1)) = [] := List.drop_of_length_le (by rw [bitsOf_length]; omega)
    rw [List.drop_succ_cons, ih, List.flatMap_cons, List.drop_append, bitsOf_length, e, show 8 * (k + 1) - 8 = 8 * k by omega, List.nil_append]
theorem bitsRow_take : ∀ (ns : List Int) (k : Nat), bitsRow (ns.take k) = (bitsRow ns).take (8 * k)
  | [], k => by simp [bitsRow]
  | n :: r, 0 => rfl
  | n :: r, k + 1 => by
    have ih := bitsRow_take r k
    unfold bitsRow at ih ⊢
    have e : (bitsOf n.toNat 8).take (8 * (k + 1)) = bitsOf n.toNat 8 := List.take_of_length_le (by rw [bitsOf_length]; omega)
    rw [List.take_succ_cons, List.flatMap_cons, ih, List.flatMap_cons, List.take_append, bitsOf_length, e, show 8 * (k + 1) - 8 = 8 * k by omega]
/-- what the next so many bits tell -/
def takenNum (ns : List Int) (t i : Nat) : Nat := numOf (((bitsRow ns).drop t).take i)
def sp_BitReader_take (K : PySem.W.Frag) : Sp := fun vs H Q E => ∃ (B : Hp) (L : Pic) (x dx s : Addr) (t : Nat) (ns : List Int) (v : V) (g : Tg), vs = [.ref x, v] ∧ Th K H v g ∧ Hs B ((x, rdO K dx s t) :: (s, .lst (ns.map V.int)) :: L) H ∧ Bytes ns ∧ t ≤ 8 * ns.length ∧ ns.length ≤ 100000 ∧
  (∀ i : Nat, g = .int i → i ≤ 24 → t + i ≤ 8 * ns.length → ∀ H', Hs B ((x, rdO K dx s (t + i)) :: (s, .lst (ns.map V.int)) :: L) H' → Q (.int ((takenNum ns t i : Nat) : Int)) H') ∧
  (sizeOk g = false → E (.ref (He.ga K "BadBits")) none H) ∧ (∀ i : Nat, g = .int i → i ≤ 24 → 8 * ns.length < t + i → E (.ref (He.ga K "NoBits")) none H)
theorem len_BitReader_take (h : sp_BitReader_take K vs H Q E) : vs.length = 2 := by
  obtain ⟨B, L, x, dx, s, t, ns, v, g, rfl, _⟩ := h
  rfl
def t_BitReader_take (K : PySem.W.Frag) (W : WX) : TS :=
  (tSeq (tDrop (tCl (sp_need_size K) [] W (tCons (tVar 1) tNil)))
    (tSeq (tIfS (tTest (tOp rLtU (tMt (He.ga K "BitReader") "left" (sp_BitReader_left K) [] W (tVar 0) tNil) (tVar 1))) (tRz (He.ga K "NoBits") W) tNext)
    (tSeq (tAsg (tCB (rDivmodK) (tCons (tFld K (tVar 0) "taken") (tCons (tC (.int 8)) tNil))) (gTup K 2 (gCons (gName 2) (gCons (gName 3) gNil))))
    (tSeq (tAsg (tCB (rDivmodK) (tCons (tOp rSubU (tOp rAddU (tOp rAddU (tFld K (tVar 0) "taken") (tVar 1)) (tC (.int 8))) (tC (.int 1))) (tCons (tC (.int 8)) tNil))) (gTup K 2 (gCons (gName 4) (gCons (gName 5) gNil))))
    (tSeq (tAsg (tC (.int 0)) (gName 6))
    (tSeq (tFor (iList K (tSl (rSlK K) (tFld K (tVar 0) "source") (tPart (tVar 2)) (tPart (tVar 4)))) (gName 7) (tAsg (tOp rOrU (tOp rShlU (tVar 6) (tC (.int 8))) (tVar 7)) (gName 6)))
    (tSeq (tAsg (tOp rAndU (tVar 6) (tOp rSubU (tOp rShlU (tC (.int 1)) (tOp rSubU (tOp rMulU (tC (.int 8)) (tOp rSubU (tVar 4) (tVar 2))) (tVar 3))) (tC (.int 1)))) (gName 6))
    (tSeq (sFldAug K (tVar 0) (tVar 1) rAdd "taken")
    (tRet (tOp rShrU (tVar 6) (tOp rSubU (tOp rSubU (tC (.int 8)) (tC (.int 1))) (tVar 5))))))))))))
theorem rd_BitReader_take (kBitReader : KBitReader K) (h : sp_BitReader_take K vs H Q E) : t_BitReader_take K (fun c d _ H2 => E c d H2) { nx := fun _ H' => Q .non H', rt := Q } (start ["self", "size", "begin", "over", "end", "rest", "number", "byte"] vs) H := by
  obtain ⟨B, L, x, dx, s, t, ns, v, g, rfl, hT, hs, hb, ht, hl, q, qe, qn⟩ := h
  have kB := kBitReader
  obtain ⟨hc, n1, n2⟩ := kBitReader
  unfold t_BitReader_take
  walk_at "go"
  refine ⟨v, g, rfl, hT, fun hk => ?_, qe⟩
  walk_at "go"
  refine ⟨B, L, x, dx, s, t, ns, rfl, hs, ?_⟩
  cases hT with
  | int i =>
    simp only [sizeOk, Bool.and_eq_true, decide_eq_true_eq] at hk
    obtain ⟨I, rfl⟩ := Int.eq_ofNat_of_zero_le hk.1
    have hI : I ≤ 24 := by omega
    have q := q I rfl hI
    have qn := qn I rfl hI
    walk_at "go"
    by_cases hlt : 8 * ns.length < t + I
    · refine i_t (decide_eq_true (by omega)) ?_
      walk_at "go"
      exact qn hlt
    refine i_f (decide_eq_false (by omega)) ?_
    have q := q (by omega)
    walk_at "go"
    have e1 : ((t : Nat) : Int) / 8 = ((t / 8 : Nat) : Int) := by omega
    have e2 : ((t : Nat) : Int) % 8 = ((t % 8 : Nat) : Int) := by omega
    have e3 : (((t : Nat) : Int) + ((I : Nat) : Int) + 8 - 1) / 8 = (((t + I + 7) / 8 : Nat) : Int) := by omega
    have e4 : (((t : Nat) : Int) + ((I : Nat) : Int) + 8 - 1) % 8 = (((t + I + 7) % 8 : Nat) : Int) := by omega
    refine c_divmod hs ⟨by decide, by decide⟩ fun p1 H1 h1 => ?_
    rw [e1, e2] at h1
    walk_at "go"
    refine c_divmod h1 ⟨by decide, by decide⟩ fun p2 H2 h2 => ?_
    rw [e3, e4] at h2
    have ht2 := h2.sqt (K := K) (.head _)
    have h3 := h2.drop.drop
    walk_at "go"
    rename_i p3 H3 h4
    rw [cutV_ints, sIx_at _ _ _ (by omega), sIx_at _ _ _ (by omega)] at h4
    have hcl : ((ns.drop (t / 8)).take ((t + I + 7) / 8 - t / 8)).length = (t + I + 7) / 8 - t / 8 := by rw [List.length_take, List.length_drop]; omega
    have hcb : bitsRow ((ns.drop (t / 8)).take ((t + I + 7) / 8 - t / 8)) = ((bitsRow ns).drop (8 * (t / 8))).take (8 * ((t + I + 7) / 8 - t / 8)) := by rw [bitsRow_take, bitsRow_drop]
    have hby : Bytes ((ns.drop (t / 8)).take ((t + I + 7) / 8 - t / 8)) := fun n hn => hb n (List.mem_of_mem_drop (List.mem_of_mem_take hn))
    generalize (ns.drop (t / 8)).take ((t + I + 7) / 8 - t / 8) = cs at *
    refine w_forL V.int cs (fun pre σ' L' B' => ∃ w, σ' = [some (.ref x), some (.int I), some (.int ((t / 8 : Nat) : Int)), some (.int ((t % 8 : Nat) : Int)), some (.int (((t + I + 7) / 8 : Nat) : Int)), some (.int (((t + I + 7) % 8 : Nat) : Int)), some (.int ((numOf (bitsRow pre) : Nat) : Int)), w] ∧
      B' = B ∧ L' = (p3, .lst (cs.map V.int)) :: (x, rdO K dx s t) :: (s, .lst (ns.map V.int)) :: L) h4 ⟨none, rfl, rfl, rfl⟩ ?_ ?_ ?_
    · rintro pre post σ' L' B' H' _ ⟨w, _, rfl, rfl⟩ h
      exact h.sql (.head _)
    · rintro pre n post σ' L' B' H' e ⟨w, rfl, rfl, rfl⟩ h
      walk_at "go"
      have hpl : pre.length < 5 := by
        have := congrArg List.length e
        simp at this
        omega
      refine c_shl ?_ ?_
      · refine ⟨by omega, by omega, ?_⟩
        have z1 := numOf_lt (bitsRow pre)
        rw [bitsRow_length] at z1
        have z2 := Nat.lt_of_lt_of_le z1 (Nat.pow_le_pow_right (by decide) (show 8 * pre.length ≤ 32 by omega))
        rw [Int.natAbs_natCast]
        exact Nat.lt_trans z2 (by decide)
      walk_at "go"
      have hn := hby n (by rw [e]; simp)
      obtain ⟨m, rfl⟩ := Int.eq_ofNat_of_zero_le hn.1
      have hm : m < 2 ^ 8 := by omega
      refine ⟨_, _, ⟨some (.int m), ?_, rfl, rfl⟩, h⟩
      rw [bitsRow_snoc, numOf_append, bitsOf_length, Int.toNat_natCast, numOf_small hm, show (8 : Int).toNat = 8 from rfl, join_nat hm]
      rfl
    · rintro σ' L' B' H' ⟨w, rfl, rfl, rfl⟩ h
      walk_at "go"
      have e5 : (8 : Int) * ((((t + I + 7) / 8 : Nat) : Int) - ((t / 8 : Nat) : Int)) - ((t % 8 : Nat) : Int) = (((8 * ((t + I + 7) / 8 - t / 8) - t % 8 : Nat)) : Int) := by omega
      rename_i H5 h5
      rw [e5, show (8 : Int) - 1 - (((t + I + 7) % 8 : Nat) : Int) = ((7 - (t + I + 7) % 8 : Nat) : Int) by omega]
      rw [Int.toNat_natCast, Int.toNat_natCast, mask_nat, shr_nat]
      have l1 : (bitsRow cs).length = 8 * ((t + I + 7) / 8 - t / 8) := by rw [bitsRow_length, hcl]
      have z1 := numOf_drop_mod (bitsRow cs) (t % 8)
      rw [l1] at z1
      rw [z1]
      have z2 := numOf_take_div ((bitsRow cs).drop (t % 8)) I
      rw [List.length_drop, l1, show 8 * ((t + I + 7) / 8 - t / 8) - t % 8 - I = 7 - (t + I + 7) % 8 by omega] at z2
      rw [z2]
      have z3 : ((bitsRow cs).drop (t % 8)).take I = ((bitsRow ns).drop t).take I := by
        rw [hcb, List.drop_take, List.drop_drop, List.take_take, show 8 * (t / 8) + t % 8 = t by omega, show min I (8 * ((t + I + 7) / 8 - t / 8) - t % 8) = I by omega]
      rw [z3]
      have e6 : ((t : Nat) : Int) + ((I : Nat) : Int) = ((t + I : Nat) : Int) := by omega
      rw [e6] at h5
      exact q H5 h5.drop
  | _ => cases hk
theorem use_take {B : Hp} {L : Pic} {x dx s : Addr} {t : Nat} {ns : List Int} (i : Nat) {j : Int} (e : j = ((i : Nat) : Int)) (h : Hs B ((x, rdO K dx s t) :: (s, .lst (ns.map V.int)) :: L) H) (hb : Bytes ns) (hl : ns.length ≤ 100000) (hi : i ≤ 24)
    (ht : t + i ≤ 8 * ns.length) (k : ∀ H', Hs B ((x, rdO K dx s (t + i)) :: (s, .lst (ns.map V.int)) :: L) H' → Q (.int ((takenNum ns t i : Nat) : Int)) H') : sp_BitReader_take K [.ref x, .int j] H Q E := by
  subst e
  refine ⟨B, L, x, dx, s, t, ns, _, _, rfl, .int _, h, hb, by omega, hl, fun i' e' _ _ => ?_, fun z => ?_, fun i' e' _ h2 => ?_⟩
  · cases Int.ofNat.inj (Tg.int.inj e')
    exact k
  · simp only [sizeOk, Bool.and_eq_false_iff, decide_eq_false_iff_not] at z
    omega
  · cases Int.ofNat.inj (Tg.int.inj e')
    omega
theorem take_at {ns : List Int} {t v i : Nat} {rest : List Bool} (ht : t ≤ 8 * ns.length) (h : (bitsRow ns).drop t = bitsOf v i ++ rest) (hv : v < 2 ^ i) : takenNum ns t i = v ∧ t + i ≤ 8 * ns.length := by
  have z := congrArg List.length h
  rw [List.length_drop, List.length_append, bitsOf_length, bitsRow_length] at z
  refine ⟨?_, by omega⟩
  unfold takenNum
  rw [h, List.take_append_of_le_length (by rw [bitsOf_length]; omega), List.take_of_length_le (by rw [bitsOf_length]; omega), numOf_small hv]
/-- what comes of a reader next, put on behind -/
theorem drop_next {l : List Bool} {t v i : Nat} {rest : List Bool} (h : l.drop t = bitsOf v i ++ rest) : l.drop (t + i) = rest := by
  rw [← List.drop_drop, h, List.drop_append_of_le_length (by rw [bitsOf_length]; omega), List.drop_of_length_le (by rw [bitsOf_length]; omega), List.nil_append]
end L2.BR

namespace L2.BR
open PySem PySem.Spec PyProof.Rows L2.BP
variable {K : PySem.W.Frag} {W : WX} {vs : List V} {H : Hp} {Q : VK} {E : XK}
def sp_BitReader_place (K : PySem.W.Frag) : Sp := fun vs H Q _ => ∃ (B : Hp) (L : Pic) (x dx s : Addr) (t : Nat) (ns : List Int), vs = [.ref x] ∧ Hs B ((x, rdO K dx s t) :: (s, .lst (ns.map V.int)) :: L) H ∧ Q (.int ((t : Nat) : Int)) H
theorem len_BitReader_place (h : sp_BitReader_place K vs H Q E) : vs.length = 1 := by
  obtain ⟨B, L, x, dx, s, t, ns, rfl, _⟩ := h
  rfl
def t_BitReader_place (K : PySem.W.Frag) (W : WX) : TS :=
  (tRet (tFld K (tVar 0) "taken"))
theorem rd_BitReader_place (kBitReader : KBitReader K) (h : sp_BitReader_place K vs H Q E) : t_BitReader_place K W { nx := fun _ H' => Q .non H', rt := Q } (start ["self"] vs) H := by
  obtain ⟨B, L, x, dx, s, t, ns, rfl, hs, q⟩ := h
  obtain ⟨hc, n1, n2⟩ := kBitReader
  unfold t_BitReader_place
  walk_at "go"
  exact q
end L2.BR

namespace L2.BR
open PySem PySem.Spec PyProof.Rows L2.BP
variable {K : PySem.W.Frag} {W : WX} {vs : List V} {H : Hp} {Q : VK} {E : XK}
def sp_BitReader_at_end (K : PySem.W.Frag) : Sp := fun vs H Q _ => ∃ (B : Hp) (L : Pic) (x dx s : Addr) (t : Nat) (ns : List Int), vs = [.ref x] ∧ Hs B ((x, rdO K dx s t) :: (s, .lst (ns.map V.int)) :: L) H ∧ Bytes ns ∧ t ≤ 8 * ns.length ∧
  Q (.bl (decide (8 * ns.length - t < 8) && decide (numOf ((bitsRow ns).drop t) = 0))) H
theorem len_BitReader_at_end (h : sp_BitReader_at_end K vs H Q E) : vs.length = 1 := by
  obtain ⟨B, L, x, dx, s, t, ns, rfl, _⟩ := h
  rfl
def t_BitReader_at_end (K : PySem.W.Frag) (W : WX) : TS :=
  (tSeq (tIfS (tTest (tOp rGeU (tMt (He.ga K "BitReader") "left" (sp_BitReader_left K) [] W (tVar 0) tNil) (tC (.int 8)))) (tRet (tC (.bl false))) tNext)
    (tSeq (tIfS (tTest (tOp (rEqU K) (tMt (He.ga K "BitReader") "left" (sp_BitReader_left K) [] W (tVar 0) tNil) (tC (.int 0)))) (tRet (tC (.bl true))) tNext)
    (tRet (tOp (rEqU K) (tOp rAndU (tOp (rIx K) (tFld K (tVar 0) "source") (tUn rNegU (tC (.int 1)))) (tOp rSubU (tOp rShlU (tC (.int 1)) (tMt (He.ga K "BitReader") "left" (sp_BitReader_left K) [] W (tVar 0) tNil)) (tC (.int 1)))) (tC (.int 0))))))
theorem rd_BitReader_at_end (kBitReader : KBitReader K) (h : sp_BitReader_at_end K vs H Q E) : t_BitReader_at_end K W { nx := fun _ H' => Q .non H', rt := Q } (start ["self"] vs) H := by
  obtain ⟨B, L, x, dx, s, t, ns, rfl, hs, hb, ht, q⟩ := h
  obtain ⟨hc, n1, n2⟩ := kBitReader
  unfold t_BitReader_at_end
  walk_at "go"
  refine ⟨B, L, x, dx, s, t, ns, rfl, hs, ?_⟩
  walk_at "go"
  by_cases h8 : 8 ≤ 8 * ns.length - t
  · refine i_t (decide_eq_true (by omega)) ?_
    walk_at "go"
    rw [decide_eq_false (by omega)] at q
    exact q
  refine i_f (decide_eq_false (by omega)) ?_
  rw [decide_eq_true (by omega), Bool.true_and] at q
  walk_at "go"
  refine ⟨B, L, x, dx, s, t, ns, rfl, hs, ?_⟩
  walk_at "go"
  by_cases h0 : 8 * ns.length = t
  · refine i_t (decide_eq_true (by omega)) ?_
    walk_at "go"
    rw [List.drop_of_length_le (by rw [bitsRow_length]; omega)] at q
    exact q
  refine i_f (decide_eq_false (by omega)) ?_
  walk_at "go"
  have hne : ns ≠ [] := by
    rintro rfl
    simp at ht
    exact h0 (by simp; omega)
  obtain ⟨pre, n, rfl⟩ : ∃ pre n, ns = pre ++ [n] := ⟨ns.dropLast, ns.getLast hne, (List.dropLast_concat_getLast hne).symm⟩
  refine c_ixL (v := .int n) (hs.sql (.tail _ (.head _))) ?_ ?_
  · rw [List.map_append]
    exact atI_last _ _
  have hn := hb n (by simp)
  obtain ⟨m, rfl⟩ := Int.eq_ofNat_of_zero_le hn.1
  have hm : m < 2 ^ 8 := by omega
  rw [List.length_append, List.length_singleton] at h8 h0 ht
  walk_at "go"
  refine ⟨B, L, x, dx, s, t, pre ++ [((m : Nat) : Int)], rfl, hs, ?_⟩
  rw [List.length_append, List.length_singleton, show (8 : Int) * ((pre.length + 1 : Nat) : Int) - ((t : Nat) : Int) = ((8 * (pre.length + 1) - t : Nat) : Int) by omega]
  walk_at "go"
  rw [Int.toNat_natCast, mask_nat]
  have e : (bitsRow (pre ++ [((m : Nat) : Int)])).drop t = (bitsOf m 8).drop (8 - (8 * (pre.length + 1) - t)) := by
    rw [bitsRow_snoc, Int.toNat_natCast, List.drop_append, bitsRow_length, List.drop_of_length_le (by rw [bitsRow_length]; omega), List.nil_append, show t - 8 * pre.length = 8 - (8 * (pre.length + 1) - t) by omega]
  have z := numOf_drop_mod (bitsOf m 8) (8 - (8 * (pre.length + 1) - t))
  rw [bitsOf_length, numOf_small hm, show 8 - (8 - (8 * (pre.length + 1) - t)) = 8 * (pre.length + 1) - t by omega] at z
  rw [e, ← z] at q
  rw [show decide (((m % 2 ^ (8 * (pre.length + 1) - t) : Nat) : Int) = 0) = decide (m % 2 ^ (8 * (pre.length + 1) - t) = 0) from dec_of (by omega)]
  exact q
end L2.BR

namespace L2.BR
open PySem PySem.Spec PyProof.Rows L2.BP
variable {K : PySem.W.Frag} {W : WX} {vs : List V} {H : Hp} {Q : VK} {E : XK}
/-! ### texts of noughts and ones -/
def dig (b : Bool) : Nat := if b then 49 else 48
def digS (b : List Bool) : Str := ⟨(b.map dig).toArray⟩
theorem digS_len (b : List Bool) : (digS b).length = b.length := by simp [digS, Str.length]
theorem digS_app (a b : List Bool) : digS a ++ digS b = digS (a ++ b) := by
  show Str.append _ _ = _
  simp [Str.append, digS]
theorem digS_rep {k : Nat} (h : k < 8) : repS "0" k = digS (List.replicate k false) := by
  revert k
  decide +kernel
theorem digS_101 : ("101" : Str) = digS [true, false, true] := by decide +kernel
theorem digS_nil : ("" : Str) = digS [] := by decide +kernel
theorem digS_cut (b : List Bool) {i j : Int} {m n : Nat} (ei : i = ((m : Nat) : Int)) (ej : j = ((n : Nat) : Int)) (h : m ≤ n) (hn : n ≤ b.length) : cutS (digS b) (some i) (some j) = digS ((b.drop m).take (n - m)) := by
  subst ei ej
  unfold cutS
  rw [HT.sIx_nat, HT.sIx_nat, digS_len, Nat.min_eq_left hn, Nat.min_eq_left (Nat.le_trans h hn)]
  unfold digS
  simp
theorem digS_at {b : List Bool} {i c : Nat} (h : (digS b).cps[i]? = some c) : ∃ x, b[i]? = some x ∧ c = dig x := by
  unfold digS at h
  rw [List.getElem?_toArray, List.getElem?_map] at h
  cases e : b[i]? with
  | none => rw [e] at h; cases h
  | some x => rw [e] at h; exact ⟨x, rfl, (Option.some.inj h).symm⟩
theorem dig_one (b : Bool) : decide ((⟨#[dig b]⟩ : Str) = "1") = b := by cases b <;> decide +kernel
theorem dig_at {n : Nat} : atI ("01" : Str).cps.toList ((n % 2 : Nat) : Int) = some (dig (n % 2 == 1)) := by
  rcases Nat.mod_two_eq_zero_or_one n with e | e <;> rw [e] <;> decide +kernel
theorem dig_S (b : Bool) : (⟨#[dig b]⟩ : Str) = digS [b] := rfl
theorem bitsOf_at (n : Nat) : ∀ s j, j < s → (bitsOf n s)[j]? = some (n / 2 ^ (s - 1 - j) % 2 == 1)
  | 0, _, h => absurd h (Nat.not_lt_zero _)
  | s + 1, 0, _ => rfl
  | s + 1, j + 1, h => by
    have ih := bitsOf_at n s j (by omega)
    rw [show s + 1 - 1 - (j + 1) = s - 1 - j by omega]
    exact ih
theorem bits_take (n : Nat) {s j : Nat} (h : j < s) : (bitsOf n s).take (j + 1) = (bitsOf n s).take j ++ [n / 2 ^ (s - 1 - j) % 2 == 1] := by
  rw [List.take_add_one, bitsOf_at n s j h]
  rfl
theorem num_take {b : List Bool} {i : Nat} {x : Bool} (h : b[i]? = some x) : numOf (b.take (i + 1)) = 2 * numOf (b.take i) + x.toNat := by
  rw [List.take_add_one, h, numOf_append]
  cases x <;> simp [numOf] <;> omega
theorem rgC8 {j : Int} {m : Nat} (e : j = 8 * ((m : Nat) : Int)) (hm : m ≤ 1000000) : RgC 0 j 8 m := by
  subst e
  have hz : Builtin.Range.rangeSize 0 (8 * ((m : Nat) : Int)) 8 = m := by
    unfold Builtin.Range.rangeSize
    simp only [show ((8 : Int) > 0) from by decide, if_true]
    split <;> omega
  refine ⟨by decide, by decide, ?_, hz⟩
  unfold Builtin.Range.small
  rw [hz]
  have f : ∀ z : Int, -1000000 ≤ z → z ≤ 9000000 → Builtin.Range.rangeFitsLong z = true := fun z h1 h2 => by
    unfold Builtin.Range.rangeFitsLong
    rw [decide_eq_true (show -(2 ^ 63) ≤ z by omega), decide_eq_true (show z < 2 ^ 63 by omega)]
    rfl
  rw [if_pos (by decide), f 0 (by decide) (by decide), f 8 (by decide) (by decide), f (8 * ((m : Nat) : Int)) (by omega) (by omega), f ((m : Nat) : Int) (by omega) (by omega), f (8 * ((m : Nat) : Int) + (8 - 1)) (by omega) (by omega)]
  simp
end L2.BR

namespace L2.BR
open PySem PySem.Spec PyProof.Rows L2.BP
variable {K : PySem.W.Frag} {W : WX} {vs : List V} {H : Hp} {Q : VK} {E : XK}
/-! ### the word of a caught error -/
def wordL : List (Str × Str) := [("row", "BadRow"), ("bits", "BadBits"), ("nobits", "NoBits"), ("shares", "BadShares"), ("lengths", "BadLengths"), ("code", "BadCode"), ("table", "BadTable"), ("cut", "Cut"), ("pieces", "BadPieces"), ("body", "BadBody"), ("head", "BadHead"), ("check", "BadCheck"), ("mark", "BadMark"), ("tail", "BadTail"), ("behind", "Behind"), ("over", "Over"), ("range", "NoRange"), ("letters", "BadLetters")]
structure WordOf (K : PySem.W.Frag) (D : Addr) (w : Str) : Prop where
  x : ExcC K D
  v : PySem.W.kitOne K (.ref D) (.type "ValueError") = some true
  f : ∀ p ∈ wordL, PySem.W.kitOne K (.ref D) (.ref (He.ga K p.2)) = some (decide (p.1 = w))
  one : (wordL.map fun p => (p.1, decide (p.1 = w))).filter (·.2) = [(w, true)]
abbrev pairW (p : Str × Bool) : List V := [.str p.1, .bl p.2]
theorem tups_W {α : Type} {f : α → List V} {ps : List α} {acc pre post : List V} {x : V} (h : Tups K H acc (ps.map f)) (e : acc = pre ++ x :: post) : ∃ a p, x = .ref a ∧ ps[pre.length]? = some p ∧ SqT K H a (f p) := by
  subst e
  obtain ⟨a, p1, xs, p2, rfl, e2, e3, e4⟩ := h.split
  have e5 : (ps.map f)[pre.length]? = some xs := by
    rw [e2, ← e3]
    simp
  rw [List.getElem?_map] at e5
  cases e6 : ps[pre.length]? with
  | none => rw [e6] at e5; cases e5
  | some p =>
    rw [e6] at e5
    cases e5
    exact ⟨a, p, rfl, rfl, e4⟩
section
variable {B : Hp} {l l2 u1 u2 u3 : Addr} {xs a b c : List V} {ps : List (List V)}
theorem word1 (h : Hs B [(l2, .lst [.ref u1]), (u1, .tup a), (l, .lst xs)] H) (hT : Tups K B xs ps) (hl : xs.length ≤ 100) (k : ∀ r B' H', Tups K B' (xs ++ [.ref u1]) (ps ++ [a]) → Same B B' → Hs B' [(r, .lst (xs ++ [.ref u1]))] H' → Q (.ref r) H') : rAddU (.ref l) (.ref l2) H Q := by
  refine c_addL h (h.get (.tail _ (.tail _ (.head _)))) (h.get (.head _)) (small6' (by rw [List.length_singleton]; omega)) fun r H' h' => ?_
  have k1 := h.nb (.tail _ (.head _))
  exact k r _ H' (hT.snocFix k1) (same_upd k1) h'.drop1.swap.fix.drop1
theorem word2 (h : Hs B [(l2, .lst [.ref u1, .ref u2]), (u2, .tup b), (u1, .tup a), (l, .lst xs)] H) (hT : Tups K B xs ps) (hl : xs.length ≤ 100) (k : ∀ r B' H', Tups K B' (xs ++ [.ref u1, .ref u2]) (ps ++ [a, b]) → Same B B' → Hs B' [(r, .lst (xs ++ [.ref u1, .ref u2]))] H' → Q (.ref r) H') : rAddU (.ref l) (.ref l2) H Q := by
  refine c_addL h (h.get (.tail _ (.tail _ (.tail _ (.head _))))) (h.get (.head _)) (small6' (by show xs.length + 2 ≤ _; omega)) fun r H' h' => ?_
  have k1 := h'.drop1.rot3.nb (.head _)
  have h2 := h'.drop1.rot3.fix.swap
  have k2 := h2.nb (.head _)
  have z := (hT.snocFix (xs := a) k1).snocFix (xs := b) k2
  rw [List.append_assoc, List.append_assoc] at z
  exact k r _ H' z ((same_upd k1).trans (same_upd k2)) h2.fix.drop1
theorem word3 (h : Hs B [(l2, .lst [.ref u1, .ref u2, .ref u3]), (u3, .tup c), (u2, .tup b), (u1, .tup a), (l, .lst xs)] H) (hT : Tups K B xs ps) (hl : xs.length ≤ 100) (k : ∀ r B' H', Tups K B' (xs ++ [.ref u1, .ref u2, .ref u3]) (ps ++ [a, b, c]) → Same B B' → Hs B' [(r, .lst (xs ++ [.ref u1, .ref u2, .ref u3]))] H' → Q (.ref r) H') : rAddU (.ref l) (.ref l2) H Q := by
  refine c_addL h (h.get (.tail _ (.tail _ (.tail _ (.tail _ (.head _)))))) (h.get (.head _)) (small6' (by show xs.length + 3 ≤ _; omega)) fun r H' h' => ?_
  have k1 := h'.drop1.rot4.nb (.head _)
  have h2 := h'.drop1.rot4.fix.rot3
  have k2 := h2.nb (.head _)
  have h3 := h2.fix.swap
  have k3 := h3.nb (.head _)
  have z := ((hT.snocFix (xs := a) k1).snocFix (xs := b) k2).snocFix (xs := c) k3
  rw [List.append_assoc, List.append_assoc, List.append_assoc, List.append_assoc] at z
  exact k r _ H' z (((same_upd k1).trans (same_upd k2)).trans (same_upd k3)) h3.fix.drop1
end
def sp__law_word (K : PySem.W.Frag) : SpE := fun a cls d vs H Q _ => ∃ (D : Addr) (w : Str), cls = .ref D ∧ d = none ∧ vs = [.ref a] ∧ WordOf K D w ∧ RetT H Q [.str w]
theorem len__law_word {a : Addr} {cls : Value} {d : Option Addr} (h : sp__law_word K a cls d vs H Q E) : vs.length = 1 := by
  obtain ⟨D, w, _, _, rfl, _⟩ := h
  rfl
def t__law_word (K : PySem.W.Frag) (a : Addr) (cls : Value) (d : Option Addr) : TS :=
  (tSeq (tAsg (tLst (tCons (tTup (tCons (tC (.str "row")) (tCons (tCB (rIsX K a cls d) (tCons (tVar 0) (tCons (tC (.ref (He.ga K "BadRow"))) tNil))) tNil))) (tCons (tTup (tCons (tC (.str "bits")) (tCons (tCB (rIsX K a cls d) (tCons (tVar 0) (tCons (tC (.ref (He.ga K "BadBits"))) tNil))) tNil))) (tCons (tTup (tCons (tC (.str "nobits")) (tCons (tCB (rIsX K a cls d) (tCons (tVar 0) (tCons (tC (.ref (He.ga K "NoBits"))) tNil))) tNil))) tNil)))) (gName 1))
    (tSeq (tAsg (tOp rAddU (tVar 1) (tLst (tCons (tTup (tCons (tC (.str "shares")) (tCons (tCB (rIsX K a cls d) (tCons (tVar 0) (tCons (tC (.ref (He.ga K "BadShares"))) tNil))) tNil))) (tCons (tTup (tCons (tC (.str "lengths")) (tCons (tCB (rIsX K a cls d) (tCons (tVar 0) (tCons (tC (.ref (He.ga K "BadLengths"))) tNil))) tNil))) tNil)))) (gName 1))
    (tSeq (tAsg (tOp rAddU (tVar 1) (tLst (tCons (tTup (tCons (tC (.str "code")) (tCons (tCB (rIsX K a cls d) (tCons (tVar 0) (tCons (tC (.ref (He.ga K "BadCode"))) tNil))) tNil))) (tCons (tTup (tCons (tC (.str "table")) (tCons (tCB (rIsX K a cls d) (tCons (tVar 0) (tCons (tC (.ref (He.ga K "BadTable"))) tNil))) tNil))) (tCons (tTup (tCons (tC (.str "cut")) (tCons (tCB (rIsX K a cls d) (tCons (tVar 0) (tCons (tC (.ref (He.ga K "Cut"))) tNil))) tNil))) tNil))))) (gName 1))
    (tSeq (tAsg (tOp rAddU (tVar 1) (tLst (tCons (tTup (tCons (tC (.str "pieces")) (tCons (tCB (rIsX K a cls d) (tCons (tVar 0) (tCons (tC (.ref (He.ga K "BadPieces"))) tNil))) tNil))) (tCons (tTup (tCons (tC (.str "body")) (tCons (tCB (rIsX K a cls d) (tCons (tVar 0) (tCons (tC (.ref (He.ga K "BadBody"))) tNil))) tNil))) tNil)))) (gName 1))
    (tSeq (tAsg (tOp rAddU (tVar 1) (tLst (tCons (tTup (tCons (tC (.str "head")) (tCons (tCB (rIsX K a cls d) (tCons (tVar 0) (tCons (tC (.ref (He.ga K "BadHead"))) tNil))) tNil))) (tCons (tTup (tCons (tC (.str "check")) (tCons (tCB (rIsX K a cls d) (tCons (tVar 0) (tCons (tC (.ref (He.ga K "BadCheck"))) tNil))) tNil))) tNil)))) (gName 1))
    (tSeq (tAsg (tOp rAddU (tVar 1) (tLst (tCons (tTup (tCons (tC (.str "mark")) (tCons (tCB (rIsX K a cls d) (tCons (tVar 0) (tCons (tC (.ref (He.ga K "BadMark"))) tNil))) tNil))) (tCons (tTup (tCons (tC (.str "tail")) (tCons (tCB (rIsX K a cls d) (tCons (tVar 0) (tCons (tC (.ref (He.ga K "BadTail"))) tNil))) tNil))) tNil)))) (gName 1))
    (tSeq (tAsg (tOp rAddU (tVar 1) (tLst (tCons (tTup (tCons (tC (.str "behind")) (tCons (tCB (rIsX K a cls d) (tCons (tVar 0) (tCons (tC (.ref (He.ga K "Behind"))) tNil))) tNil))) (tCons (tTup (tCons (tC (.str "over")) (tCons (tCB (rIsX K a cls d) (tCons (tVar 0) (tCons (tC (.ref (He.ga K "Over"))) tNil))) tNil))) (tCons (tTup (tCons (tC (.str "range")) (tCons (tCB (rIsX K a cls d) (tCons (tVar 0) (tCons (tC (.ref (He.ga K "NoRange"))) tNil))) tNil))) tNil))))) (gName 1))
    (tSeq (tAsg (tOp rAddU (tVar 1) (tLst (tCons (tTup (tCons (tC (.str "letters")) (tCons (tCB (rIsX K a cls d) (tCons (tVar 0) (tCons (tC (.ref (He.ga K "BadLetters"))) tNil))) tNil))) tNil))) (gName 1))
    (tSeq (tAsg (tLc (iList K (tVar 1)) (gTup K 2 (gCons (gName 3) (gCons (gName 4) gNil))) (tB (tVar 4)) (tVar 3) [3, 4]) (gName 2))
    (tRet (tIf (tB (tCB (rIsX K a cls d) (tCons (tVar 0) (tCons (tC (.ty "ValueError")) tNil)))) (tCB (rTupleK K) (tCons (tVar 2) tNil)) (tTup (tCons (tC (.str "bare")) tNil)))))))))))))
theorem rd__law_word {a : Addr} {cls : Value} {d : Option Addr} (h : sp__law_word K a cls d vs H Q E) : t__law_word K a cls d { nx := fun _ H' => Q .non H', rt := Q } (start ["_law_e", "_law_some", "_law_found", "_law_word_here", "_law_fits"] vs) H := by
  obtain ⟨D, w, rfl, rfl, rfl, W, q⟩ := h
  have hs := Hs.start H
  have f : ∀ (u c : Str), (u, c) ∈ wordL → PySem.W.kitOne K (.ref D) (.ref (He.ga K c)) = some (decide (u = w)) := fun u c m => W.f (u, c) m
  unfold t__law_word
  walk_at "go"
  refine c_isXc W.x (f "row" "BadRow" (by decide)) ?_
  walk_at "go"
  refine c_isXc W.x (f "bits" "BadBits" (by decide)) ?_
  walk_at "go"
  refine c_isXc W.x (f "nobits" "NoBits" (by decide)) ?_
  walk_at "go"
  rename_i t1 H1 h1 t2 H2 h2 t3 H3 h3 l4 H4 h4
  have k1 := h4.rot4.nb (.head _)
  have h5 := h4.rot4.fix.rot3
  have k2 := h5.nb (.head _)
  have h6 := h5.fix.swap
  have k3 := h6.nb (.head _)
  have hT := (((Tups.nil (K := K) (H := H)).snocFix (xs := pairW ("row", decide ("row" = w))) k1).snocFix (xs := pairW ("bits", decide ("bits" = w))) k2).snocFix (xs := pairW ("nobits", decide ("nobits" = w))) k3
  have sm := ((same_upd (o := HO.tup (pairW ("row", decide ("row" = w)))) k1).trans (same_upd (o := HO.tup (pairW ("bits", decide ("bits" = w)))) k2)).trans (same_upd (o := HO.tup (pairW ("nobits", decide ("nobits" = w)))) k3)
  have h7 := h6.fix
  clear h1 h2 h3 h4 h5 h6 hs k1 k2 k3
  generalize upd (upd (upd H t1 (.tup (pairW ("row", decide ("row" = w))))) t2 (.tup (pairW ("bits", decide ("bits" = w))))) t3 (.tup (pairW ("nobits", decide ("nobits" = w)))) = B1 at *
  refine c_isXc W.x (f "shares" "BadShares" (by decide)) ?_
  walk_at "go"
  refine c_isXc W.x (f "lengths" "BadLengths" (by decide)) ?_
  walk_at "go"
  rename_i a0_0 G0_0 g0_0 a0_1 G0_1 g0_1 b0 F0 f0
  refine word2 f0 hT (by simp) fun r0 B0_ H0_ hT0 s0_ h0_ => ?_
  have sm0 := sm.trans s0_
  clear h7 hT g0_0 g0_1 f0 s0_
  walk_at "go"
  refine c_isXc W.x (f "code" "BadCode" (by decide)) ?_
  walk_at "go"
  refine c_isXc W.x (f "table" "BadTable" (by decide)) ?_
  walk_at "go"
  refine c_isXc W.x (f "cut" "Cut" (by decide)) ?_
  walk_at "go"
  rename_i a1_0 G1_0 g1_0 a1_1 G1_1 g1_1 a1_2 G1_2 g1_2 b1 F1 f1
  refine word3 f1 hT0 (by simp) fun r1 B1_ H1_ hT1 s1_ h1_ => ?_
  have sm1 := sm0.trans s1_
  clear h0_ hT0 g1_0 g1_1 g1_2 f1 s1_
  walk_at "go"
  refine c_isXc W.x (f "pieces" "BadPieces" (by decide)) ?_
  walk_at "go"
  refine c_isXc W.x (f "body" "BadBody" (by decide)) ?_
  walk_at "go"
  rename_i a2_0 G2_0 g2_0 a2_1 G2_1 g2_1 b2 F2 f2
  refine word2 f2 hT1 (by simp) fun r2 B2_ H2_ hT2 s2_ h2_ => ?_
  have sm2 := sm1.trans s2_
  clear h1_ hT1 g2_0 g2_1 f2 s2_
  walk_at "go"
  refine c_isXc W.x (f "head" "BadHead" (by decide)) ?_
  walk_at "go"
  refine c_isXc W.x (f "check" "BadCheck" (by decide)) ?_
  walk_at "go"
  rename_i a3_0 G3_0 g3_0 a3_1 G3_1 g3_1 b3 F3 f3
  refine word2 f3 hT2 (by simp) fun r3 B3_ H3_ hT3 s3_ h3_ => ?_
  have sm3 := sm2.trans s3_
  clear h2_ hT2 g3_0 g3_1 f3 s3_
  walk_at "go"
  refine c_isXc W.x (f "mark" "BadMark" (by decide)) ?_
  walk_at "go"
  refine c_isXc W.x (f "tail" "BadTail" (by decide)) ?_
  walk_at "go"
  rename_i a4_0 G4_0 g4_0 a4_1 G4_1 g4_1 b4 F4 f4
  refine word2 f4 hT3 (by simp) fun r4 B4_ H4_ hT4 s4_ h4_ => ?_
  have sm4 := sm3.trans s4_
  clear h3_ hT3 g4_0 g4_1 f4 s4_
  walk_at "go"
  refine c_isXc W.x (f "behind" "Behind" (by decide)) ?_
  walk_at "go"
  refine c_isXc W.x (f "over" "Over" (by decide)) ?_
  walk_at "go"
  refine c_isXc W.x (f "range" "NoRange" (by decide)) ?_
  walk_at "go"
  rename_i a5_0 G5_0 g5_0 a5_1 G5_1 g5_1 a5_2 G5_2 g5_2 b5 F5 f5
  refine word3 f5 hT4 (by simp) fun r5 B5_ H5_ hT5 s5_ h5_ => ?_
  have sm5 := sm4.trans s5_
  clear h4_ hT4 g5_0 g5_1 g5_2 f5 s5_
  walk_at "go"
  refine c_isXc W.x (f "letters" "BadLetters" (by decide)) ?_
  walk_at "go"
  rename_i a6_0 G6_0 g6_0 b6 F6 f6
  refine word1 f6 hT5 (by simp) fun r6 B6_ H6_ hT6 s6_ h6_ => ?_
  have sm6 := sm5.trans s6_
  clear h5_ hT5 g6_0 f6 s6_
  walk_at "go"
  obtain ⟨xs, hTx, hx⟩ : ∃ xs, Tups K B6_ xs ((wordL.map fun p => (p.1, decide (p.1 = w))).map pairW) ∧ Hs B6_ [(r6, .lst xs)] H6_ := ⟨_, hT6, h6_⟩
  clear hT6 h6_
  have hone := W.one
  have hws : (wordL.map fun p => (p.1, decide (p.1 = w))).length = 18 := by rw [List.length_map]; rfl
  generalize (wordL.map fun p => (p.1, decide (p.1 = w))) = ws at hTx hone hws
  have hlen : xs.length = ws.length := by rw [hTx.length, List.length_map]
  refine c_lcL (id : V → V) xs (fun pre acc B' => acc = ((ws.take pre.length).filter (·.2)).map (fun p => V.str p.1) ∧ B' = B6_) hx ⟨rfl, rfl⟩ (fun B' H' e h => by rw [List.map_id]; exact h.sql (.head _)) ?_ ?_
  · rintro pre y post acc B' D2 H' e ⟨rfl, rfl⟩ e2 h
    obtain ⟨u, pq, rfl, hp, hu⟩ := tups_W hTx e
    have hu' := h.bt hu
    have htk : ws.take (pre ++ [V.ref u]).length = ws.take pre.length ++ [pq] := by
      rw [List.length_append, List.length_singleton, List.take_add_one, hp]
      rfl
    have hsm : (((ws.take pre.length).filter (·.2)).map (fun p => V.str p.1)).length < sizeLine := by
      rw [List.length_map]
      have z1 := List.length_filter_le (fun p : Str × Bool => p.2) (ws.take pre.length)
      rw [List.length_take] at z1
      exact small6 (by omega)
    rw [id_eq]
    walk_at "go"
    refine ⟨rfl, ?_⟩
    walk_at "go"
    obtain ⟨pw, pb⟩ := pq
    cases pb with
    | true =>
      walk_at "go"
      refine c_item h hsm e2 ⟨?_, rfl⟩
      rw [htk, List.filter_append, List.map_append]
      rfl
    | false =>
      walk_at "go"
      refine ⟨_, _, ⟨?_, rfl⟩, e2, h⟩
      rw [htk, List.filter_append]
      simp
  · rintro acc B' D2 H' ⟨rfl, rfl⟩ e2 h
    rw [hlen, List.take_of_length_le (Nat.le_refl _), hone] at h
    walk_at "go"
    refine c_isXv W.x W.v ?_
    walk_at "go"
    refine c_tupL h (h.sql (.head _)) fun t H2 h2 => ?_
    exact q t H2 (noneBack sm6 (h2.nb (.head _))) (sm6.trans h2.ex) (h2.get (.head _))
end L2.BR

namespace L2.BR
open PySem PySem.Spec PyProof.Rows L2.BP
variable {K : PySem.W.Frag}
structure KWBadRow (K : PySem.W.Frag) : Prop where
  x : ExcC K (He.ga K "BadRow")
  p : PySem.W.exmOne K (.ref (He.ga K "BadRow")) (.ref (He.ga K "PressError")) = some true
  v : PySem.W.kitOne K (.ref (He.ga K "BadRow")) (.type "ValueError") = some true
  f0 : PySem.W.kitOne K (.ref (He.ga K "BadRow")) (.ref (He.ga K "BadRow")) = some true
  f1 : PySem.W.kitOne K (.ref (He.ga K "BadRow")) (.ref (He.ga K "BadBits")) = some false
  f2 : PySem.W.kitOne K (.ref (He.ga K "BadRow")) (.ref (He.ga K "NoBits")) = some false
  f3 : PySem.W.kitOne K (.ref (He.ga K "BadRow")) (.ref (He.ga K "BadShares")) = some false
  f4 : PySem.W.kitOne K (.ref (He.ga K "BadRow")) (.ref (He.ga K "BadLengths")) = some false
  f5 : PySem.W.kitOne K (.ref (He.ga K "BadRow")) (.ref (He.ga K "BadCode")) = some false
  f6 : PySem.W.kitOne K (.ref (He.ga K "BadRow")) (.ref (He.ga K "BadTable")) = some false
  f7 : PySem.W.kitOne K (.ref (He.ga K "BadRow")) (.ref (He.ga K "Cut")) = some false
  f8 : PySem.W.kitOne K (.ref (He.ga K "BadRow")) (.ref (He.ga K "BadPieces")) = some false
  f9 : PySem.W.kitOne K (.ref (He.ga K "BadRow")) (.ref (He.ga K "BadBody")) = some false
  f10 : PySem.W.kitOne K (.ref (He.ga K "BadRow")) (.ref (He.ga K "BadHead")) = some false
  f11 : PySem.W.kitOne K (.ref (He.ga K "BadRow")) (.ref (He.ga K "BadCheck")) = some false
  f12 : PySem.W.kitOne K (.ref (He.ga K "BadRow")) (.ref (He.ga K "BadMark")) = some false
  f13 : PySem.W.kitOne K (.ref (He.ga K "BadRow")) (.ref (He.ga K "BadTail")) = some false
  f14 : PySem.W.kitOne K (.ref (He.ga K "BadRow")) (.ref (He.ga K "Behind")) = some false
  f15 : PySem.W.kitOne K (.ref (He.ga K "BadRow")) (.ref (He.ga K "Over")) = some false
  f16 : PySem.W.kitOne K (.ref (He.ga K "BadRow")) (.ref (He.ga K "NoRange")) = some false
  f17 : PySem.W.kitOne K (.ref (He.ga K "BadRow")) (.ref (He.ga K "BadLetters")) = some false
theorem KWBadRow.word (k : KWBadRow K) : WordOf K (He.ga K "BadRow") "row" := by
  refine ⟨k.x, k.v, fun p m => ?_, by decide +kernel⟩
  simp only [wordL, List.mem_cons, List.not_mem_nil, or_false] at m
  rcases m with rfl | rfl | rfl | rfl | rfl | rfl | rfl | rfl | rfl | rfl | rfl | rfl | rfl | rfl | rfl | rfl | rfl | rfl
  · rw [show decide (("row" : Str) = "row") = true by decide +kernel]
    exact k.f0
  · rw [show decide (("bits" : Str) = "row") = false by decide +kernel]
    exact k.f1
  · rw [show decide (("nobits" : Str) = "row") = false by decide +kernel]
    exact k.f2
  · rw [show decide (("shares" : Str) = "row") = false by decide +kernel]
    exact k.f3
  · rw [show decide (("lengths" : Str) = "row") = false by decide +kernel]
    exact k.f4
  · rw [show decide (("code" : Str) = "row") = false by decide +kernel]
    exact k.f5
  · rw [show decide (("table" : Str) = "row") = false by decide +kernel]
    exact k.f6
  · rw [show decide (("cut" : Str) = "row") = false by decide +kernel]
    exact k.f7
  · rw [show decide (("pieces" : Str) = "row") = false by decide +kernel]
    exact k.f8
  · rw [show decide (("body" : Str) = "row") = false by decide +kernel]
    exact k.f9
  · rw [show decide (("head" : Str) = "row") = false by decide +kernel]
    exact k.f10
  · rw [show decide (("check" : Str) = "row") = false by decide +kernel]
    exact k.f11
  · rw [show decide (("mark" : Str) = "row") = false by decide +kernel]
    exact k.f12
  · rw [show decide (("tail" : Str) = "row") = false by decide +kernel]
    exact k.f13
  · rw [show decide (("behind" : Str) = "row") = false by decide +kernel]
    exact k.f14
  · rw [show decide (("over" : Str) = "row") = false by decide +kernel]
    exact k.f15
  · rw [show decide (("range" : Str) = "row") = false by decide +kernel]
    exact k.f16
  · rw [show decide (("letters" : Str) = "row") = false by decide +kernel]
    exact k.f17
end L2.BR

namespace L2.BR
open PySem PySem.Spec PyProof.Rows L2.BP
variable {K : PySem.W.Frag}
structure KWBadBits (K : PySem.W.Frag) : Prop where
  x : ExcC K (He.ga K "BadBits")
  p : PySem.W.exmOne K (.ref (He.ga K "BadBits")) (.ref (He.ga K "PressError")) = some true
  v : PySem.W.kitOne K (.ref (He.ga K "BadBits")) (.type "ValueError") = some true
  f0 : PySem.W.kitOne K (.ref (He.ga K "BadBits")) (.ref (He.ga K "BadRow")) = some false
  f1 : PySem.W.kitOne K (.ref (He.ga K "BadBits")) (.ref (He.ga K "BadBits")) = some true
  f2 : PySem.W.kitOne K (.ref (He.ga K "BadBits")) (.ref (He.ga K "NoBits")) = some false
  f3 : PySem.W.kitOne K (.ref (He.ga K "BadBits")) (.ref (He.ga K "BadShares")) = some false
  f4 : PySem.W.kitOne K (.ref (He.ga K "BadBits")) (.ref (He.ga K "BadLengths")) = some false
  f5 : PySem.W.kitOne K (.ref (He.ga K "BadBits")) (.ref (He.ga K "BadCode")) = some false
  f6 : PySem.W.kitOne K (.ref (He.ga K "BadBits")) (.ref (He.ga K "BadTable")) = some false
  f7 : PySem.W.kitOne K (.ref (He.ga K "BadBits")) (.ref (He.ga K "Cut")) = some false
  f8 : PySem.W.kitOne K (.ref (He.ga K "BadBits")) (.ref (He.ga K "BadPieces")) = some false
  f9 : PySem.W.kitOne K (.ref (He.ga K "BadBits")) (.ref (He.ga K "BadBody")) = some false
  f10 : PySem.W.kitOne K (.ref (He.ga K "BadBits")) (.ref (He.ga K "BadHead")) = some false
  f11 : PySem.W.kitOne K (.ref (He.ga K "BadBits")) (.ref (He.ga K "BadCheck")) = some false
  f12 : PySem.W.kitOne K (.ref (He.ga K "BadBits")) (.ref (He.ga K "BadMark")) = some false
  f13 : PySem.W.kitOne K (.ref (He.ga K "BadBits")) (.ref (He.ga K "BadTail")) = some false
  f14 : PySem.W.kitOne K (.ref (He.ga K "BadBits")) (.ref (He.ga K "Behind")) = some false
  f15 : PySem.W.kitOne K (.ref (He.ga K "BadBits")) (.ref (He.ga K "Over")) = some false
  f16 : PySem.W.kitOne K (.ref (He.ga K "BadBits")) (.ref (He.ga K "NoRange")) = some false
  f17 : PySem.W.kitOne K (.ref (He.ga K "BadBits")) (.ref (He.ga K "BadLetters")) = some false
theorem KWBadBits.word (k : KWBadBits K) : WordOf K (He.ga K "BadBits") "bits" := by
  refine ⟨k.x, k.v, fun p m => ?_, by decide +kernel⟩
  simp only [wordL, List.mem_cons, List.not_mem_nil, or_false] at m
  rcases m with rfl | rfl | rfl | rfl | rfl | rfl | rfl | rfl | rfl | rfl | rfl | rfl | rfl | rfl | rfl | rfl | rfl | rfl
  · rw [show decide (("row" : Str) = "bits") = false by decide +kernel]
    exact k.f0
  · rw [show decide (("bits" : Str) = "bits") = true by decide +kernel]
    exact k.f1
  · rw [show decide (("nobits" : Str) = "bits") = false by decide +kernel]
    exact k.f2
  · rw [show decide (("shares" : Str) = "bits") = false by decide +kernel]
    exact k.f3
  · rw [show decide (("lengths" : Str) = "bits") = false by decide +kernel]
    exact k.f4
  · rw [show decide (("code" : Str) = "bits") = false by decide +kernel]
    exact k.f5
  · rw [show decide (("table" : Str) = "bits") = false by decide +kernel]
    exact k.f6
  · rw [show decide (("cut" : Str) = "bits") = false by decide +kernel]
    exact k.f7
  · rw [show decide (("pieces" : Str) = "bits") = false by decide +kernel]
    exact k.f8
  · rw [show decide (("body" : Str) = "bits") = false by decide +kernel]
    exact k.f9
  · rw [show decide (("head" : Str) = "bits") = false by decide +kernel]
    exact k.f10
  · rw [show decide (("check" : Str) = "bits") = false by decide +kernel]
    exact k.f11
  · rw [show decide (("mark" : Str) = "bits") = false by decide +kernel]
    exact k.f12
  · rw [show decide (("tail" : Str) = "bits") = false by decide +kernel]
    exact k.f13
  · rw [show decide (("behind" : Str) = "bits") = false by decide +kernel]
    exact k.f14
  · rw [show decide (("over" : Str) = "bits") = false by decide +kernel]
    exact k.f15
  · rw [show decide (("range" : Str) = "bits") = false by decide +kernel]
    exact k.f16
  · rw [show decide (("letters" : Str) = "bits") = false by decide +kernel]
    exact k.f17
end L2.BR

namespace L2.BR
open PySem PySem.Spec PyProof.Rows L2.BP
variable {K : PySem.W.Frag}
structure KWNoBits (K : PySem.W.Frag) : Prop where
  x : ExcC K (He.ga K "NoBits")
  p : PySem.W.exmOne K (.ref (He.ga K "NoBits")) (.ref (He.ga K "PressError")) = some true
  v : PySem.W.kitOne K (.ref (He.ga K "NoBits")) (.type "ValueError") = some true
  f0 : PySem.W.kitOne K (.ref (He.ga K "NoBits")) (.ref (He.ga K "BadRow")) = some false
  f1 : PySem.W.kitOne K (.ref (He.ga K "NoBits")) (.ref (He.ga K "BadBits")) = some false
  f2 : PySem.W.kitOne K (.ref (He.ga K "NoBits")) (.ref (He.ga K "NoBits")) = some true
  f3 : PySem.W.kitOne K (.ref (He.ga K "NoBits")) (.ref (He.ga K "BadShares")) = some false
  f4 : PySem.W.kitOne K (.ref (He.ga K "NoBits")) (.ref (He.ga K "BadLengths")) = some false
  f5 : PySem.W.kitOne K (.ref (He.ga K "NoBits")) (.ref (He.ga K "BadCode")) = some false
  f6 : PySem.W.kitOne K (.ref (He.ga K "NoBits")) (.ref (He.ga K "BadTable")) = some false
  f7 : PySem.W.kitOne K (.ref (He.ga K "NoBits")) (.ref (He.ga K "Cut")) = some false
  f8 : PySem.W.kitOne K (.ref (He.ga K "NoBits")) (.ref (He.ga K "BadPieces")) = some false
  f9 : PySem.W.kitOne K (.ref (He.ga K "NoBits")) (.ref (He.ga K "BadBody")) = some false
  f10 : PySem.W.kitOne K (.ref (He.ga K "NoBits")) (.ref (He.ga K "BadHead")) = some false
  f11 : PySem.W.kitOne K (.ref (He.ga K "NoBits")) (.ref (He.ga K "BadCheck")) = some false
  f12 : PySem.W.kitOne K (.ref (He.ga K "NoBits")) (.ref (He.ga K "BadMark")) = some false
  f13 : PySem.W.kitOne K (.ref (He.ga K "NoBits")) (.ref (He.ga K "BadTail")) = some false
  f14 : PySem.W.kitOne K (.ref (He.ga K "NoBits")) (.ref (He.ga K "Behind")) = some false
  f15 : PySem.W.kitOne K (.ref (He.ga K "NoBits")) (.ref (He.ga K "Over")) = some false
  f16 : PySem.W.kitOne K (.ref (He.ga K "NoBits")) (.ref (He.ga K "NoRange")) = some false
  f17 : PySem.W.kitOne K (.ref (He.ga K "NoBits")) (.ref (He.ga K "BadLetters")) = some false
theorem KWNoBits.word (k : KWNoBits K) : WordOf K (He.ga K "NoBits") "nobits" := by
  refine ⟨k.x, k.v, fun p m => ?_, by decide +kernel⟩
  simp only [wordL, List.mem_cons, List.not_mem_nil, or_false] at m
  rcases m with rfl | rfl | rfl | rfl | rfl | rfl | rfl | rfl | rfl | rfl | rfl | rfl | rfl | rfl | rfl | rfl | rfl | rfl
  · rw [show decide (("row" : Str) = "nobits") = false by decide +kernel]
    exact k.f0
  · rw [show decide (("bits" : Str) = "nobits") = false by decide +kernel]
    exact k.f1
  · rw [show decide (("nobits" : Str) = "nobits") = true by decide +kernel]
    exact k.f2
  · rw [show decide (("shares" : Str) = "nobits") = false by decide +kernel]
    exact k.f3
  · rw [show decide (("lengths" : Str) = "nobits") = false by decide +kernel]
    exact k.f4
  · rw [show decide (("code" : Str) = "nobits") = false by decide +kernel]
    exact k.f5
  · rw [show decide (("table" : Str) = "nobits") = false by decide +kernel]
    exact k.f6
  · rw [show decide (("cut" : Str) = "nobits") = false by decide +kernel]
    exact k.f7
  · rw [show decide (("pieces" : Str) = "nobits") = false by decide +kernel]
    exact k.f8
  · rw [show decide (("body" : Str) = "nobits") = false by decide +kernel]
    exact k.f9
  · rw [show decide (("head" : Str) = "nobits") = false by decide +kernel]
    exact k.f10
  · rw [show decide (("check" : Str) = "nobits") = false by decide +kernel]
    exact k.f11
  · rw [show decide (("mark" : Str) = "nobits") = false by decide +kernel]
    exact k.f12
  · rw [show decide (("tail" : Str) = "nobits") = false by decide +kernel]
    exact k.f13
  · rw [show decide (("behind" : Str) = "nobits") = false by decide +kernel]
    exact k.f14
  · rw [show decide (("over" : Str) = "nobits") = false by decide +kernel]
    exact k.f15
  · rw [show decide (("range" : Str) = "nobits") = false by decide +kernel]
    exact k.f16
  · rw [show decide (("letters" : Str) = "nobits") = false by decide +kernel]
    exact k.f17
end L2.BR

namespace L2.BR
open PySem PySem.Spec PyProof.Rows L2.BP
variable {K : PySem.W.Frag} {W : WX} {vs : List V} {H : Hp} {Q : VK} {E : XK}
/-- two flat tuples -/
theorem dp_tup {p : Addr} {xs : List V} (hf : xs.all L2.BP.flatV = true) (h : SqT K H p xs) : Dp K H (.ref p) (tupD xs) := .tup h (dpa_flat hf)
theorem shaped_tup {xs : List V} (hf : xs.all L2.BP.flatV = true) : SeqAt.shaped (tupD xs) = true := by
  obtain ⟨z1, z2⟩ := canAll_flat hf
  unfold SeqAt.shaped tupD
  simp only [PyData.canLay0, PyData.depth, z1]
  simp
  omega
theorem c_eqTup {p q : Addr} {xs : List V} (hf : xs.all L2.BP.flatV = true) (h1 : SqT K H p xs) (h2 : SqT K H q xs) (k : Q (.bl true) H) : rEqU K (.ref p) (.ref q) H Q := by
  refine c_eqD (dp_tup hf h1) (dp_tup hf h2) (shaped_tup hf) (shaped_tup hf) ?_
  rw [show PyData.eqv (tupD xs) (tupD xs) = true by unfold tupD; rw [PyData.eqv, eqvAll_vD]]
  exact k
theorem c_neTup {p q : Addr} {xs : List V} (hf : xs.all L2.BP.flatV = true) (h1 : SqT K H p xs) (h2 : SqT K H q xs) (k : Q (.bl false) H) : rNeU K (.ref p) (.ref q) H Q := by
  refine c_neD (dp_tup hf h1) (dp_tup hf h2) (shaped_tup hf) (shaped_tup hf) ?_
  rw [show PyData.eqv (tupD xs) (tupD xs) = true by unfold tupD; rw [PyData.eqv, eqvAll_vD]]
  exact k
theorem mem_cutV {xs : List V} {lo hi : Option Int} {x : V} (h : x ∈ cutV xs lo hi) : x ∈ xs := by
  unfold cutV at h
  exact List.mem_of_mem_drop (List.mem_of_mem_take h)
theorem cutV_le (xs : List V) (lo hi : Option Int) : (cutV xs lo hi).length ≤ xs.length := by
  unfold cutV
  rw [List.length_take, List.length_drop]
  omega
theorem ok_same {H' : Hp} {g : Tg} (h : Tg.ok K H g) (e : Same H H') : Tg.ok K H' g := by
  cases g with
  | lst xs => exact ⟨fun x hx => (h.1 x hx).imp fun _ z => z.same e, h.2⟩
  | _ => trivial
theorem mixed_ok {row : List Int} {ov : V} {og : Tg} {lo hi lo' hi' : Option Int} (ho : Th K H ov og) (hl : row.length ≤ 1000) : Tg.ok K H (.lst (cutV (row.map V.int) lo hi ++ [ov] ++ cutV (row.map V.int) lo' hi')) := by
  refine ⟨fun x hx => ?_, ?_⟩
  · have allI : ∀ x ∈ row.map V.int, ∃ g, Th K H x g := fun x hx => by
      obtain ⟨n, _, rfl⟩ := List.mem_map.mp hx
      exact ⟨_, .int n⟩
    rcases List.mem_append.mp hx with hx | hx
    · rcases List.mem_append.mp hx with hx | hx
      · exact allI x (mem_cutV hx)
      · rw [List.mem_singleton.mp hx]
        exact ⟨og, ho⟩
    · exact allI x (mem_cutV hx)
  · have z1 := cutV_le (row.map V.int) lo hi
    have z2 := cutV_le (row.map V.int) lo' hi'
    rw [List.length_map] at z1 z2
    rw [List.length_append, List.length_append, List.length_singleton]
    omega
end L2.BR

namespace L2.BR
open PySem PySem.Spec PyProof.Rows L2.BP
variable {K : PySem.W.Frag} {W : WX} {vs : List V} {H : Hp} {Q : VK} {E : XK}
/-- whether a thing is a place of a row of so many bytes -/
def Tg.isPlace (n : Nat) : Tg → Bool
  | .int i => decide (0 ≤ i) && decide (i ≤ 8 * ((n : Nat) : Int))
  | _ => false
def sp_BitReader_go (K : PySem.W.Frag) : Sp := fun vs H Q E => ∃ (B : Hp) (L : Pic) (x dx s : Addr) (t : Nat) (ns : List Int) (v : V) (g : Tg), vs = [.ref x, v] ∧ Th K H v g ∧ Hs B ((x, rdO K dx s t) :: (s, .lst (ns.map V.int)) :: L) H ∧
  (∀ i : Nat, g = .int i → i ≤ 8 * ns.length → ∀ H', Hs B ((x, rdO K dx s i) :: (s, .lst (ns.map V.int)) :: L) H' → Q .non H') ∧
  (Tg.isPlace ns.length g = false → E (.ref (He.ga K "BadBits")) none H)
theorem len_BitReader_go (h : sp_BitReader_go K vs H Q E) : vs.length = 2 := by
  obtain ⟨B, L, x, dx, s, t, ns, v, g, rfl, _⟩ := h
  rfl
def t_BitReader_go (K : PySem.W.Frag) (W : WX) : TS :=
  (tSeq (tIfS ((tOr (tNot (tB (tCl (sp_is_number K) [] W (tCons (tVar 1) tNil)))) (tNot (tTest (tChain rLeU rLeU (tC (.int 0)) (tVar 1) (tOp rMulU (tC (.int 8)) (tCB (rLenK K) (tCons (tFld K (tVar 0) "source") tNil)))))))) (tRz (He.ga K "BadBits") W) tNext)
    (sFld K (tVar 0) (tVar 1) "taken"))
theorem rd_BitReader_go (kBitReader : KBitReader K) (h : sp_BitReader_go K vs H Q E) : t_BitReader_go K (fun c d _ H2 => E c d H2) { nx := fun _ H' => Q .non H', rt := Q } (start ["self", "place"] vs) H := by
  obtain ⟨B, L, x, dx, s, t, ns, v, g, rfl, hT, hs, q, qe⟩ := h
  obtain ⟨hc, n1, n2⟩ := kBitReader
  unfold t_BitReader_go
  walk_at "go"
  refine ⟨v, g, rfl, hT, ?_⟩
  cases hT with
  | int i =>
    simp only [Tg.isPlace] at qe
    walk_at "go"
    cases e : decide ((0 : Int) ≤ i) with
    | false =>
      rw [e] at qe
      walk_at "go"
      exact qe rfl
    | true =>
      rw [e] at qe
      obtain ⟨I, rfl⟩ := Int.eq_ofNat_of_zero_le (of_decide_eq_true e)
      walk_at "go"
      rw [List.length_map]
      by_cases c : I ≤ 8 * ns.length
      · rw [decide_eq_true (by omega : ((I : Nat) : Int) ≤ 8 * ((ns.length : Nat) : Int))]
        walk_at "go"
        rename_i H2 h2
        exact q I rfl c H2 h2
      · rw [decide_eq_false (by omega : ¬ ((I : Nat) : Int) ≤ 8 * ((ns.length : Nat) : Int))] at qe ⊢
        walk_at "go"
        exact qe rfl
  | non => walk_at "go"; exact qe rfl
  | bl b => walk_at "go"; exact qe rfl
  | str x => walk_at "go"; exact qe rfl
  | lst z => walk_at "go"; exact qe rfl
  | tup z => walk_at "go"; exact qe rfl
  | dic z => walk_at "go"; exact qe rfl
end L2.BR

namespace L2.BR
open PySem PySem.Spec PyProof.Rows L2.BP
variable {K : PySem.W.Frag} {W : WX} {vs : List V} {H : Hp} {Q : VK} {E : XK}
def sp__law_mixed (K : PySem.W.Frag) : Sp := fun vs H Q _ => ∃ c k : Int, vs = [.int c, .int k] ∧ 0 ≤ k ∧ k ≤ 100000 ∧ ∀ m : Int, 0 ≤ m → Q (.int m) H
theorem len__law_mixed (h : sp__law_mixed K vs H Q E) : vs.length = 2 := by
  obtain ⟨c, k, rfl, _⟩ := h
  rfl
def t__law_mixed (K : PySem.W.Frag) (W : WX) : TS :=
  (tRet (tOp rModU (tOp rMulU (tOp rModU (tOp rAddU (tOp rAddU (tOp rAddU (tOp rMulU (tVar 0) (tC (.int 48271))) (tOp rMulU (tOp rMulU (tC (.int 16807)) (tVar 1)) (tVar 1))) (tOp rMulU (tC (.int 69621)) (tVar 1))) (tC (.int 11))) (tC (.int 2147483647))) (tC (.int 69621))) (tC (.int 2147483629))))
theorem rd__law_mixed (h : sp__law_mixed K vs H Q E) : t__law_mixed K W { nx := fun _ H' => Q .non H', rt := Q } (start ["_law_cell", "_law_k"] vs) H := by
  obtain ⟨c, k, rfl, h0, h1, q⟩ := h
  have hs := Hs.start H
  unfold t__law_mixed
  walk_at "go"
  exact q _ (Int.emod_nonneg _ (by decide))
end L2.BR

namespace L2.BR
open PySem PySem.Spec PyProof.Rows L2.BP
variable {K : PySem.W.Frag} {W : WX} {vs : List V} {H : Hp} {Q : VK} {E : XK}
theorem digS_drop (b : List Bool) {i : Int} {m : Nat} (e : i = ((m : Nat) : Int)) (h : m ≤ b.length) : cutS (digS b) (some i) none = digS (b.drop m) := by
  subst e
  unfold cutS
  rw [HT.sIx_nat, digS_len, Nat.min_eq_left h]
  unfold digS
  simp [HT.sIx]
  rw [List.take_of_length_le (by rw [List.length_drop, List.length_map]; exact Nat.le_refl _)]
theorem digS_take (b : List Bool) {i : Int} {m : Nat} (e : i = ((m : Nat) : Int)) (h : m ≤ b.length) : cutS (digS b) none (some i) = digS (b.take m) := by
  subst e
  unfold cutS
  rw [HT.sIx_nat, digS_len, Nat.min_eq_left h]
  unfold digS
  simp [HT.sIx]
theorem no_one {b : List Bool} (h : b.length < 8) : (Builtin.Str.occurrences (digS b) "1" 0 (digS b).length 1).isEmpty = decide (numOf b = 0) := by
  have z : ∀ s : Fin 8, ∀ n : Fin (2 ^ s.val), (Builtin.Str.occurrences (digS (bitsOf n.val s.val)) "1" 0 (digS (bitsOf n.val s.val)).length 1).isEmpty = decide (n.val = 0) := by decide +kernel
  have z2 := z ⟨b.length, h⟩ ⟨numOf b, numOf_lt b⟩
  rw [bitsOf_numOf] at z2
  exact z2
def sp__law_digits_of (K : PySem.W.Frag) : Sp := fun vs H Q _ => ∃ (a : Addr) (ns : List Int), vs = [.ref a] ∧ SqL K H a (ns.map V.int) ∧ Bytes ns ∧ ns.length ≤ 1000 ∧ RetV H Q (.str (digS (bitsRow ns)))
theorem len__law_digits_of (h : sp__law_digits_of K vs H Q E) : vs.length = 1 := by
  obtain ⟨a, ns, rfl, _⟩ := h
  rfl
def t__law_digits_of (K : PySem.W.Frag) (W : WX) : TS :=
  (tSeq (tAsg (tC (.str "")) (gName 1))
    (tSeq (tFor (iList K (tVar 0)) (gName 2) (tFor (iRng1 (tCons (tC (.int 8)) tNil)) (gName 3) (tAsg (tOp rAddU (tVar 1) (tOp (rIx K) (tC (.str "01")) (tOp rModU (tOp rShrU (tVar 2) (tOp rSubU (tC (.int 7)) (tVar 3))) (tC (.int 2))))) (gName 1))))
    (tRet (tVar 1))))
theorem rd__law_digits_of (h : sp__law_digits_of K vs H Q E) : t__law_digits_of K W { nx := fun _ H' => Q .non H', rt := Q } (start ["_law_row", "_law_found", "_law_byte", "_law_k"] vs) H := by
  obtain ⟨a, ns, rfl, hS, hb, hl, q⟩ := h
  have hs := Hs.start H
  unfold t__law_digits_of
  walk_at "go"
  refine w_forL V.int ns (fun pre σ' L' B' => ∃ w2 w3, σ' = [some (.ref a), some (.str (digS (bitsRow pre))), w2, w3] ∧ B' = H ∧ L' = []) hs ⟨none, none, by rw [show bitsRow [] = [] from rfl, digS_nil]; rfl, rfl, rfl⟩ ?_ ?_ ?_
  · rintro pre post σ' L' B' H' _ ⟨w2, w3, rfl, rfl, rfl⟩ h
    exact h.bl hS
  · rintro pre n post σ' L' B' H' e ⟨w2, w3, rfl, eB, rfl⟩ h
    have hn := hb n (by rw [e]; simp)
    have hpl : pre.length < 1000 := by
      have := congrArg List.length e
      simp at this
      omega
    obtain ⟨m, rfl⟩ := Int.eq_ofNat_of_zero_le hn.1
    walk_at "go"
    refine ⟨_, rfl, by omega, by omega, ?_⟩
    refine w_forR (fun i σ' L' B'' => ∃ w3, σ' = [some (.ref a), some (.str (digS (bitsRow pre ++ (bitsOf m 8).take i))), some (.int ((m : Nat) : Int)), w3] ∧ B'' = B' ∧ L' = []) h ⟨w3, by simp, rfl, rfl⟩ ?_ ?_
    · rintro i σ' L' B'' H2 hi ⟨w3, rfl, rfl, rfl⟩ h2
      have hi8 : i < 8 := hi
      walk_at "go"
      rw [show (7 : Int) - (0 + ((i : Nat) : Int)) = ((8 - 1 - i : Nat) : Int) by omega, Int.toNat_natCast, shr_nat]
      refine c_ixS (by decide) (by rw [show (((m / 2 ^ (8 - 1 - i) : Nat) : Int) % 2) = ((m / 2 ^ (8 - 1 - i) % 2 : Nat) : Int) by omega]; exact dig_at) ?_
      rw [dig_S]
      walk_at "go"
      refine c_addS (small6' (by rw [digS_len, digS_len, List.length_append, bitsRow_length, List.length_take, bitsOf_length]; show _ + 1 ≤ _; omega)) ?_
      rw [digS_app, List.append_assoc, ← bits_take m hi8]
      walk_at "go"
      exact ⟨_, _, ⟨some (.int (0 + ((i : Nat) : Int))), rfl, rfl, rfl⟩, h2⟩
    · rintro σ' L' B'' H2 ⟨w3, rfl, rfl, rfl⟩ h2
      walk_at "go"
      rw [show ((8 : Int).toNat) = 8 from rfl, List.take_of_length_le (by rw [bitsOf_length]; exact Nat.le_refl _)]
      rw [show bitsRow pre ++ bitsOf m 8 = bitsRow (pre ++ [((m : Nat) : Int)]) by rw [bitsRow_snoc, Int.toNat_natCast]]
      exact ⟨_, _, ⟨_, _, rfl, eB, rfl⟩, h2⟩
  · rintro σ' L' B' H' ⟨w2, w3, rfl, rfl, rfl⟩ h
    walk_at "go"
    exact q _ h.ex
def sp__law_number (K : PySem.W.Frag) : Sp := fun vs H Q _ => ∃ (b : List Bool), vs = [.str (digS b)] ∧ b.length ≤ 1000 ∧ RetV H Q (.int ((numOf b : Nat) : Int))
theorem len__law_number (h : sp__law_number K vs H Q E) : vs.length = 1 := by
  obtain ⟨b, rfl, _⟩ := h
  rfl
def t__law_number (K : PySem.W.Frag) (W : WX) : TS :=
  (tSeq (tAsg (tC (.int 0)) (gName 1))
    (tSeq (tFor (iStr (tVar 0)) (gName 2) (tAsg (tOp rAddU (tOp rMulU (tC (.int 2)) (tVar 1)) (tCB (rIntK) (tCons (tOp (rEqU K) (tVar 2) (tC (.str "1"))) tNil))) (gName 1)))
    (tRet (tVar 1))))
theorem rd__law_number (h : sp__law_number K vs H Q E) : t__law_number K W { nx := fun _ H' => Q .non H', rt := Q } (start ["_law_digits", "_law_found", "_law_digit"] vs) H := by
  obtain ⟨b, rfl, hb, q⟩ := h
  have hs := Hs.start H
  unfold t__law_number
  walk_at "go"
  refine w_forS (fun j σ' L' B' => ∃ w2, σ' = [some (.str (digS b)), some (.int ((numOf (b.take j) : Nat) : Int)), w2] ∧ B' = H ∧ L' = []) hs ⟨none, rfl, rfl, rfl⟩ ?_ ?_
  · rintro j c σ' L' B' H2 hc ⟨w2, rfl, rfl, rfl⟩ h2
    obtain ⟨x, hx, rfl⟩ := digS_at hc
    walk_at "go"
    rw [dig_one]
    walk_at "go"
    refine ⟨_, _, ⟨some (.str ⟨#[dig x]⟩), ?_, rfl, rfl⟩, h2⟩
    rw [num_take hx]
    cases x <;> rfl
  · rintro σ' L' B' H2 ⟨w2, rfl, rfl, rfl⟩ h2
    rw [List.take_of_length_le (by show _ ≤ (digS _).length; rw [digS_len]; exact Nat.le_refl _)]
    walk_at "go"
    exact q _ h2.ex
def sp__law_taken (K : PySem.W.Frag) : Sp := fun vs H Q E => ∃ (B : Hp) (L : Pic) (x dx s : Addr) (t : Nat) (ns : List Int) (v : V) (g : Tg), vs = [.ref x, v] ∧ Th K H v g ∧ Hs B ((x, rdO K dx s t) :: (s, .lst (ns.map V.int)) :: L) H ∧ Bytes ns ∧ t ≤ 8 * ns.length ∧ ns.length ≤ 100000 ∧
  (∀ i : Nat, g = .int i → i ≤ 24 → t + i ≤ 8 * ns.length → ∀ p H', Hs B ((p, .lst [.int ((takenNum ns t i : Nat) : Int)]) :: (x, rdO K dx s (t + i)) :: (s, .lst (ns.map V.int)) :: L) H' → Q (.ref p) H') ∧
  (sizeOk g = false → ∀ p H', Hs B ((p, .tup [.str "bits"]) :: (x, rdO K dx s t) :: (s, .lst (ns.map V.int)) :: L) H' → Q (.ref p) H') ∧
  (∀ i : Nat, g = .int i → i ≤ 24 → 8 * ns.length < t + i → ∀ p H', Hs B ((p, .tup [.str "nobits"]) :: (x, rdO K dx s t) :: (s, .lst (ns.map V.int)) :: L) H' → Q (.ref p) H')
theorem len__law_taken (h : sp__law_taken K vs H Q E) : vs.length = 2 := by
  obtain ⟨B, L, x, dx, s, t, ns, v, g, rfl, _⟩ := h
  rfl
def t__law_taken (K : PySem.W.Frag) (W : WX) : TS :=
  (tTryAs K (.ref (He.ga K "PressError")) 2 (fun W => (tRet (tLst (tCons (tMt (He.ga K "BitReader") "take" (sp_BitReader_take K) [] W (tVar 0) (tCons (tVar 1) tNil)) tNil))))
    (fun a cls d => (tRet (tClE a cls d (sp__law_word K) (tCons (tVar 2) tNil)))) W)
theorem rd__law_taken (kWBadBits : KWBadBits K) (kWNoBits : KWNoBits K) (h : sp__law_taken K vs H Q E) : t__law_taken K (fun c d _ H2 => E c d H2) { nx := fun _ H' => Q .non H', rt := Q } (start ["_law_reader", "_law_size", "_law_e"] vs) H := by
  obtain ⟨B, L, x, dx, s, t, ns, v, g, rfl, hT, hs, hb, ht, hl, q, qe, qn⟩ := h
  unfold t__law_taken
  walk_at "go"
  refine w_tryAs ?_
  walk_at "go"
  refine ⟨B, L, x, dx, s, t, ns, v, g, rfl, hT, hs, hb, ht, hl, fun i e1 e2 e3 H1 h1 => ?_, fun z => ?_, fun i e1 e2 e3 => ?_⟩
  · walk_at "go"
    rename_i p H2 h2
    exact q i e1 e2 e3 p H2 h2
  · refine c_wAs kWBadBits.p fun a ha => ?_
    walk_at "go"
    refine c_clE ?_
    walk_at "go"
    exact ⟨_, "bits", rfl, rfl, rfl, kWBadBits.word, retT hs fun p H' h' => qe z p H' h'⟩
  · refine c_wAs kWNoBits.p fun a ha => ?_
    walk_at "go"
    refine c_clE ?_
    walk_at "go"
    exact ⟨_, "nobits", rfl, rfl, rfl, kWNoBits.word, retT hs fun p H' h' => qn i e1 e2 e3 p H' h'⟩
def sp__law_truth (K : PySem.W.Frag) : Sp := fun vs H Q _ => ∃ (b : Bool), vs = [.bl b] ∧ Q (.int (if b then 1 else 0)) H
theorem len__law_truth (h : sp__law_truth K vs H Q E) : vs.length = 1 := by
  obtain ⟨b, rfl, _⟩ := h
  rfl
def t__law_truth (K : PySem.W.Frag) (W : WX) : TS :=
  (tRet (tIf ((tOr (tTest (tOp rIsU (tVar 0) (tC (.bl true)))) (tTest (tOp rIsU (tVar 0) (tC (.bl false)))))) (tCB (rIntK) (tCons (tVar 0) tNil)) (tC (.int 2))))
theorem rd__law_truth (h : sp__law_truth K vs H Q E) : t__law_truth K W { nx := fun _ H' => Q .non H', rt := Q } (start ["_law_found"] vs) H := by
  obtain ⟨b, rfl, q⟩ := h
  unfold t__law_truth
  cases b <;> walk_at "go" <;> exact q
def sp__law_stands (K : PySem.W.Frag) : Sp := fun vs H Q _ => ∃ (B : Hp) (L : Pic) (x dx s : Addr) (t : Nat) (ns : List Int) (w : Int), vs = [.ref x, .str (digS (bitsRow ns)), .str (digS ((bitsRow ns).drop t)), .int w] ∧ Hs B ((x, rdO K dx s t) :: (s, .lst (ns.map V.int)) :: L) H ∧ Bytes ns ∧ t ≤ 8 * ns.length ∧ ns.length ≤ 1000 ∧
  ∀ H', Hs B ((x, rdO K dx s t) :: (s, .lst (ns.map V.int)) :: L) H' → Q (.bl true) H'
theorem len__law_stands (h : sp__law_stands K vs H Q E) : vs.length = 4 := by
  obtain ⟨B, L, x, dx, s, t, ns, w, rfl, _⟩ := h
  rfl
def t__law_stands (K : PySem.W.Frag) (W : WX) : TS :=
  (tSeq (tFor (iRng1 (tCons (tC (.int 3)) tNil)) (gName 4) (tSeq (tAsg (tOp rModU (tOp rAddU (tOp rDivU (tVar 3) (tC (.int 3))) (tOp rMulU (tVar 4) (tOp rAddU (tC (.int 1)) (tOp rModU (tVar 3) (tC (.int 2)))))) (tC (.int 3))) (gName 5))
    (tSeq (tIfS ((tAnd (tTest (tOp (rEqU K) (tVar 5) (tC (.int 0)))) ((tOr (tB (tCB (rIsi K) (tCons (tMt (He.ga K "BitReader") "left" (sp_BitReader_left K) [] W (tVar 0) tNil) (tCons (tC (.ty "bool")) tNil)))) (tTest (tOp (rNeU K) (tMt (He.ga K "BitReader") "left" (sp_BitReader_left K) [] W (tVar 0) tNil) (tCB (rLenK K) (tCons (tVar 2) tNil)))))))) (tRet (tC (.bl false))) tNext)
    (tSeq (tIfS ((tAnd (tTest (tOp (rEqU K) (tVar 5) (tC (.int 1)))) (tTest (tOp (rNeU K) (tCl (sp__law_truth K) [] W (tCons (tMt (He.ga K "BitReader") "at_end" (sp_BitReader_at_end K) [] W (tVar 0) tNil) tNil)) (tCB (rIntK) (tCons ((tAndV (tOp rLtU (tCB (rLenK K) (tCons (tVar 2) tNil)) (tC (.int 8))) (tOp (rNiU K) (tC (.str "1")) (tVar 2)))) tNil)))))) (tRet (tC (.bl false))) tNext)
    (tSeq (tAsg (tMt (He.ga K "BitReader") "place" (sp_BitReader_place K) [] W (tVar 0) tNil) (gName 6))
    (tIfS ((tAnd (tTest (tOp (rEqU K) (tVar 5) (tC (.int 2)))) ((tOr (tB (tCB (rIsi K) (tCons (tVar 6) (tCons (tC (.ty "bool")) tNil)))) (tTest (tOp (rNeU K) (tVar 6) (tOp rSubU (tCB (rLenK K) (tCons (tVar 1) tNil)) (tCB (rLenK K) (tCons (tVar 2) tNil))))))))) (tRet (tC (.bl false))) tNext))))))
    (tRet (tC (.bl true))))
theorem rd__law_stands (h : sp__law_stands K vs H Q E) : t__law_stands K W { nx := fun _ H' => Q .non H', rt := Q } (start ["_law_reader", "_law_whole", "_law_digits", "_law_way", "_law_turn", "_law_ask", "_law_found"] vs) H := by
  obtain ⟨B, L, x, dx, s, t, ns, w, rfl, hs, hb, ht, hl, q⟩ := h
  have hbl := bitsRow_length ns
  unfold t__law_stands
  walk_at "go"
  refine ⟨_, rfl, by omega, by omega, ?_⟩
  refine w_forR (fun i σ' L' B' => ∃ w4 w5 w6, σ' = [some (.ref x), some (.str (digS (bitsRow ns))), some (.str (digS ((bitsRow ns).drop t))), some (.int w), w4, w5, w6] ∧ B' = B ∧ L' = (x, rdO K dx s t) :: (s, .lst (ns.map V.int)) :: L) hs ⟨none, none, none, rfl, rfl, rfl⟩ ?_ ?_
  · rintro i σ' L' B' H' hi ⟨w4, w5, w6, rfl, rfl, rfl⟩ h
    walk_at "go"
    obtain ⟨k, hk, hkl⟩ : ∃ k : Nat, (w / 3 + (0 + ((i : Nat) : Int)) * (1 + w % 2)) % 3 = ((k : Nat) : Int) ∧ k < 3 := ⟨((w / 3 + (0 + ((i : Nat) : Int)) * (1 + w % 2)) % 3).toNat, by omega, by omega⟩
    rw [hk]
    have hln : (digS ((bitsRow ns).drop t)).length = 8 * ns.length - t := by rw [digS_len, List.length_drop, hbl]
    have hlw : (digS (bitsRow ns)).length = 8 * ns.length := by rw [digS_len, hbl]
    have lft : (8 : Int) * ((ns.length : Nat) : Int) - ((t : Nat) : Int) = ((8 * ns.length - t : Nat) : Int) := by omega
    rcases (by omega : k = 0 ∨ k = 1 ∨ k = 2) with rfl | rfl | rfl
    · walk_at "go"
      refine ⟨_, _, x, dx, s, t, ns, rfl, h, ?_⟩
      walk_at "go"
      refine ⟨_, _, x, dx, s, t, ns, rfl, h, ?_⟩
      walk_at "go"
      refine c_lenS (small6' (by rw [hln]; omega)) ?_
      rw [hln, lft]
      walk_at "go"
      try refine i_f (ne_f rfl) ?_
      walk_at "go"
      refine ⟨_, _, x, dx, s, t, ns, rfl, h, ?_⟩
      walk_at "go"
      exact ⟨_, _, ⟨_, _, _, rfl, rfl, rfl⟩, h⟩
    · walk_at "go"
      refine ⟨_, _, x, dx, s, t, ns, rfl, h, hb, ht, ?_⟩
      walk_at "go"
      refine ⟨_, rfl, ?_⟩
      walk_at "go"
      refine c_lenS (small6' (by rw [hln]; omega)) ?_
      rw [hln]
      walk_at "go"
      have hd7 : ((bitsRow ns).drop t).length = 8 * ns.length - t := by rw [List.length_drop, hbl]
      by_cases c8 : 8 * ns.length - t < 8
      · have z := no_one (b := (bitsRow ns).drop t) (by omega)
        rw [decide_eq_true c8, decide_eq_true (by omega : ((8 * ns.length - t : Nat) : Int) < 8)]
        walk_at "go"
        refine .inr ⟨_, _, rfl, rfl, ?_⟩
        rw [z]
        cases decide (numOf ((bitsRow ns).drop t) = 0) <;>
        · walk_at "go"
          refine ⟨_, _, x, dx, s, t, ns, rfl, h, ?_⟩
          walk_at "go"
          exact ⟨_, _, ⟨_, _, _, rfl, rfl, rfl⟩, h⟩
      · rw [decide_eq_false c8, decide_eq_false (by omega : ¬ ((8 * ns.length - t : Nat) : Int) < 8)]
        walk_at "go"
        refine ⟨_, _, x, dx, s, t, ns, rfl, h, ?_⟩
        walk_at "go"
        exact ⟨_, _, ⟨_, _, _, rfl, rfl, rfl⟩, h⟩
    · walk_at "go"
      refine ⟨_, _, x, dx, s, t, ns, rfl, h, ?_⟩
      walk_at "go"
      refine c_lenS (small6' (by rw [hlw]; omega)) ?_
      rw [hlw]
      walk_at "go"
      refine c_lenS (small6' (by rw [hln]; omega)) ?_
      rw [hln]
      walk_at "go"
      exact ⟨_, _, ⟨_, _, _, rfl, rfl, rfl⟩, h⟩
  · rintro σ' L' B' H' ⟨w4, w5, w6, rfl, rfl, rfl⟩ h
    walk_at "go"
    exact q _ h
def sp__law_gone (K : PySem.W.Frag) : Sp := fun vs H Q _ => ∃ (B : Hp) (L : Pic) (x dx s : Addr) (t : Nat) (ns : List Int) (w : Int), vs = [.ref x, .str (digS (bitsRow ns)), .str (digS ((bitsRow ns).drop t)), .int w] ∧ Hs B ((x, rdO K dx s t) :: (s, .lst (ns.map V.int)) :: L) H ∧ Bytes ns ∧ t ≤ 8 * ns.length ∧ ns.length ≤ 1000 ∧
  ∀ t' B' H', t' ≤ 8 * ns.length → Same B B' → Hs B' ((x, rdO K dx s t') :: (s, .lst (ns.map V.int)) :: L) H' → Q (.str (digS ((bitsRow ns).drop t'))) H'
theorem len__law_gone (h : sp__law_gone K vs H Q E) : vs.length = 4 := by
  obtain ⟨B, L, x, dx, s, t, ns, w, rfl, _⟩ := h
  rfl
def t__law_gone (K : PySem.W.Frag) (W : WX) : TS :=
  (tSeq (tAsg (tOp (rIx K) (tLst (tCons (tUn rNegU (tC (.int 1))) (tCons (tOp rAddU (tCB (rLenK K) (tCons (tVar 1) tNil)) (tC (.int 1))) (tCons (tC (.bl true)) (tCons (tC .non) (tCons (tC (.str "0")) (tCons (tOp rPowU (tC (.int 10)) (tC (.int 20))) tNil))))))) (tOp rModU (tVar 3) (tC (.int 6)))) (gName 4))
    (tSeq (tTryAs K (.ref (He.ga K "PressError")) 5 (fun W => (tSeq (tDrop (tMt (He.ga K "BitReader") "go" (sp_BitReader_go K) [] W (tVar 0) (tCons (tVar 4) tNil)))
    (tRet (tC .non))))
    (fun a cls d => (tIfS ((tOr (tTest (tOp (rNeU K) (tClE a cls d (sp__law_word K) (tCons (tVar 5) tNil)) (tTup (tCons (tC (.str "bits")) tNil)))) (tNot (tB (tCl (sp__law_stands K) [] WF (tCons (tVar 0) (tCons (tVar 1) (tCons (tVar 2) (tCons (tVar 3) tNil))))))))) (tRet (tC .non)) tNext)) W)
    (tSeq (tAsg (tOp rModU (tOp rDivU (tVar 3) (tC (.int 6))) (tOp rAddU (tCB (rLenK K) (tCons (tVar 1) tNil)) (tC (.int 1)))) (gName 6))
    (tRet (tIf (tTest (tOp rIsU (tMt (He.ga K "BitReader") "go" (sp_BitReader_go K) [] W (tVar 0) (tCons (tVar 6) tNil)) (tC .non))) (tSl (rSlK K) (tVar 1) (tPart (tVar 6)) tNoPart) (tC .non))))))
theorem rd__law_gone (kWBadBits : KWBadBits K) (h : sp__law_gone K vs H Q E) : t__law_gone K (fun c d _ H2 => E c d H2) { nx := fun _ H' => Q .non H', rt := Q } (start ["_law_reader", "_law_whole", "_law_digits", "_law_cell", "_law_odd", "_law_e", "_law_place"] vs) H := by
  obtain ⟨B, L, x, dx, s, t, ns, w, rfl, hs, hb, ht, hl, q⟩ := h
  have hbl := bitsRow_length ns
  have hlw : (digS (bitsRow ns)).length = 8 * ns.length := by rw [digS_len, hbl]
  unfold t__law_gone
  walk_at "go"
  refine c_lenS (small6' (by rw [hlw]; omega)) ?_
  rw [hlw]
  walk_at "go"
  refine c_pow ⟨by decide, by decide, by decide⟩ ?_
  walk_at "go"
  rename_i l1 H1 h1
  obtain ⟨v, g, hv, hT, hg⟩ : ∃ (v : V) (g : Tg), atI [V.int (-1), V.int (((8 * ns.length : Nat) : Int) + 1), V.bl true, V.non, V.str "0", V.int (10 ^ (20 : Int).toNat)] (w % 6) = some v ∧ (∀ H', Th K H' v g) ∧ Tg.isPlace ns.length g = false := by
    obtain ⟨k, hk, hkl⟩ : ∃ k : Nat, w % 6 = ((k : Nat) : Int) ∧ k < 6 := ⟨(w % 6).toNat, by omega, by omega⟩
    rw [hk]
    have e20 : ((10 : Int) ^ (20 : Int).toNat) = 100000000000000000000 := by decide +kernel
    rcases (by omega : k = 0 ∨ k = 1 ∨ k = 2 ∨ k = 3 ∨ k = 4 ∨ k = 5) with rfl | rfl | rfl | rfl | rfl | rfl
    · exact ⟨_, _, rfl, fun _ => .int _, rfl⟩
    · exact ⟨_, _, rfl, fun _ => .int _, by simp only [Tg.isPlace, Bool.and_eq_false_iff, decide_eq_false_iff_not]; omega⟩
    · exact ⟨_, _, rfl, fun _ => .bl _, rfl⟩
    · exact ⟨_, _, rfl, fun _ => .non, rfl⟩
    · exact ⟨_, _, rfl, fun _ => .str _, rfl⟩
    · exact ⟨_, _, rfl, fun _ => .int _, by rw [e20]; simp only [Tg.isPlace, Bool.and_eq_false_iff, decide_eq_false_iff_not]; omega⟩
  refine c_ixL (h1.sql (.head _)) hv ?_
  have h2 := h1.drop
  clear h1
  walk_at "go"
  refine w_tryAs ?_
  walk_at "go"
  refine ⟨B, L, x, dx, s, t, ns, v, g, rfl, hT _, h2, fun i e1 e2 => ?_, fun _ => ?_⟩
  · exfalso
    rw [e1] at hg
    simp only [Tg.isPlace, Bool.and_eq_false_iff, decide_eq_false_iff_not] at hg
    omega
  refine c_wAs kWBadBits.p fun a ha => ?_
  walk_at "go"
  refine c_clE ?_
  walk_at "go"
  refine ⟨_, "bits", rfl, rfl, rfl, kWBadBits.word, retT h2 fun p H2 h3 => ?_⟩
  walk_at "go"
  rename_i p2 H3 h4
  refine c_neTup (xs := [.str "bits"]) (by decide +kernel) (h4.sqt (.tail _ (.head _))) (h4.sqt (.head _)) ?_
  obtain ⟨B', s', h5, _⟩ := Hs.fixes (N := [_, _]) h4
  clear h3 h4
  walk_at "go"
  refine ⟨B', L, x, dx, s, t, ns, w, rfl, h5, hb, ht, hl, fun H6 h6 => ?_⟩
  walk_at "go"
  refine c_lenS (small6' (by rw [hlw]; omega)) ?_
  rw [hlw]
  walk_at "go"
  obtain ⟨k, hk, hkl⟩ : ∃ k : Nat, w / 6 % (((8 * ns.length : Nat) : Int) + 1) = ((k : Nat) : Int) ∧ k ≤ 8 * ns.length := by
    have z1 := Int.emod_nonneg (w / 6) (by omega : ((8 * ns.length : Nat) : Int) + 1 ≠ 0)
    have z2 := Int.emod_lt_of_pos (w / 6) (by omega : 0 < ((8 * ns.length : Nat) : Int) + 1)
    exact ⟨(w / 6 % (((8 * ns.length : Nat) : Int) + 1)).toNat, by omega, by omega⟩
  rw [hk]
  refine ⟨B', L, x, dx, s, t, ns, _, _, rfl, .int _, h6, fun i e1 e2 H7 h7 => ?_, fun z => ?_⟩
  rotate_left
  · exfalso
    simp only [Tg.isPlace, Bool.and_eq_false_iff, decide_eq_false_iff_not] at z
    omega
  cases Int.ofNat.inj (Tg.int.inj e1)
  walk_at "go"
  refine c_slS (small6' (by rw [hlw]; omega)) ?_
  rw [digS_drop _ rfl (by rw [hbl]; omega)]
  walk_at "go"
  exact q k B' H7 hkl s' h7
def sp__law_step (K : PySem.W.Frag) : Sp := fun vs H Q _ => ∃ (B : Hp) (L : Pic) (x dx s : Addr) (t : Nat) (ns : List Int) (w : Int), vs = [.ref x, .str (digS (bitsRow ns)), .str (digS ((bitsRow ns).drop t)), .int w] ∧ Hs B ((x, rdO K dx s t) :: (s, .lst (ns.map V.int)) :: L) H ∧ Bytes ns ∧ t ≤ 8 * ns.length ∧ ns.length ≤ 1000 ∧
  ∀ t' B' H', t' ≤ 8 * ns.length → Same B B' → Hs B' ((x, rdO K dx s t') :: (s, .lst (ns.map V.int)) :: L) H' → Q (.str (digS ((bitsRow ns).drop t'))) H'
theorem len__law_step (h : sp__law_step K vs H Q E) : vs.length = 4 := by
  obtain ⟨B, L, x, dx, s, t, ns, w, rfl, _⟩ := h
  rfl
def t__law_step (K : PySem.W.Frag) (W : WX) : TS :=
  (tSeq (tIfS (tTest (tOp (rEqU K) (tOp rModU (tVar 3) (tC (.int 7))) (tC (.int 5)))) (tRet (tCl (sp__law_gone K) [] W (tCons (tVar 0) (tCons (tVar 1) (tCons (tVar 2) (tCons (tOp rDivU (tVar 3) (tC (.int 7))) tNil)))))) tNext)
    (Evl.tCut (tIfS (tTest (tOp (rEqU K) (tOp rModU (tVar 3) (tC (.int 9))) (tC (.int 4)))) (tSeq (tAsg (tOp (rIx K) (tLst (tCons (tUn rNegU (tC (.int 1))) (tCons (tC (.int 25)) (tCons (tC (.bl true)) (tCons (tC .non) (tCons (tC (.str "3")) (tCons (tOp rPowU (tC (.int 10)) (tC (.int 20))) tNil))))))) (tOp rModU (tOp rDivU (tVar 3) (tC (.int 9))) (tC (.int 6)))) (gName 4))
    (tIfS (tTest (tOp (rNeU K) (tCl (sp__law_taken K) [] W (tCons (tVar 0) (tCons (tVar 4) tNil))) (tTup (tCons (tC (.str "bits")) tNil)))) (tRet (tC .non)) tNext)) tNext)
    (tSeq (tAsg (tOp rModU (tOp rDivU (tVar 3) (tC (.int 54))) (tC (.int 25))) (gName 4))
    (Evl.tCut (tIfS (tTest (tOp rGtU (tVar 4) (tCB (rLenK K) (tCons (tVar 2) tNil)))) (tSeq (tIfS ((tOr (tTest (tOp (rNeU K) (tCl (sp__law_taken K) [] W (tCons (tVar 0) (tCons (tVar 4) tNil))) (tTup (tCons (tC (.str "nobits")) tNil)))) (tNot (tB (tCl (sp__law_stands K) [] W (tCons (tVar 0) (tCons (tVar 1) (tCons (tVar 2) (tCons (tVar 3) tNil))))))))) (tRet (tC .non)) tNext)
    (tAsg (tCB (rLenK K) (tCons (tVar 2) tNil)) (gName 4))) tNext)
    (tSeq (tAsg (tCl (sp__law_taken K) [] W (tCons (tVar 0) (tCons (tVar 4) tNil))) (gName 5))
    (tSeq (tIfS ((tOr (tB (tCB (rIsi K) (tCons (tVar 5) (tCons (tC (.ty "tuple")) tNil)))) (tOr (tB (tCB (rIsi K) (tCons (tOp (rIx K) (tVar 5) (tC (.int 0))) (tCons (tC (.ty "bool")) tNil)))) (tTest (tOp (rNeU K) (tOp (rIx K) (tVar 5) (tC (.int 0))) (tCl (sp__law_number K) [] W (tCons (tSl (rSlK K) (tVar 2) tNoPart (tPart (tVar 4))) tNil))))))) (tRet (tC .non)) tNext)
    (tRet (tSl (rSlK K) (tVar 2) (tPart (tVar 4)) tNoPart))))))))
theorem rd__law_step (h : sp__law_step K vs H Q E) : t__law_step K (fun c d _ H2 => E c d H2) { nx := fun _ H' => Q .non H', rt := Q } (start ["_law_reader", "_law_whole", "_law_digits", "_law_cell", "_law_size", "_law_found"] vs) H := by
  obtain ⟨B, L, x, dx, s, t, ns, w, rfl, hs, hb, ht, hl, q⟩ := h
  have hbl := bitsRow_length ns
  have hln : (digS ((bitsRow ns).drop t)).length = 8 * ns.length - t := by rw [digS_len, List.length_drop, hbl]
  unfold t__law_step
  walk_at "go"
  refine i_2 (fun _ => ?_) (fun _ => ?_)
  · walk_at "go"
    exact ⟨B, L, x, dx, s, t, ns, _, rfl, hs, hb, ht, hl, q⟩
  walk_at "go"
  refine w_cut (fun σ2 H6 => ∃ (B' : Hp) (w4 : Option V), Same B B' ∧ Hs B' ((x, rdO K dx s t) :: (s, .lst (ns.map V.int)) :: L) H6 ∧ σ2 = [some (.ref x), some (.str (digS (bitsRow ns))), some (.str (digS ((bitsRow ns).drop t))), some (.int w), w4, none]) ?_ ?_
  · walk_at "go"
    refine i_2 (fun _ => ?_) (fun _ => ?_)
    · walk_at "go"
      refine c_pow ⟨by decide, by decide, by decide⟩ ?_
      walk_at "go"
      rename_i l1 H1 h1
      obtain ⟨v, g, hv, hT, hg⟩ : ∃ (v : V) (g : Tg), atI [V.int (-1), V.int 25, V.bl true, V.non, V.str "3", V.int (10 ^ (20 : Int).toNat)] (w / 9 % 6) = some v ∧ (∀ H', Th K H' v g) ∧ sizeOk g = false := by
        obtain ⟨k, hk, hkl⟩ : ∃ k : Nat, w / 9 % 6 = ((k : Nat) : Int) ∧ k < 6 := ⟨(w / 9 % 6).toNat, by omega, by omega⟩
        rw [hk]
        have e20 : ((10 : Int) ^ (20 : Int).toNat) = 100000000000000000000 := by decide +kernel
        rcases (by omega : k = 0 ∨ k = 1 ∨ k = 2 ∨ k = 3 ∨ k = 4 ∨ k = 5) with rfl | rfl | rfl | rfl | rfl | rfl
        · exact ⟨_, _, rfl, fun _ => .int _, rfl⟩
        · exact ⟨_, _, rfl, fun _ => .int _, rfl⟩
        · exact ⟨_, _, rfl, fun _ => .bl _, rfl⟩
        · exact ⟨_, _, rfl, fun _ => .non, rfl⟩
        · exact ⟨_, _, rfl, fun _ => .str _, rfl⟩
        · exact ⟨_, _, rfl, fun _ => .int _, by rw [e20]; decide⟩
      refine c_ixL (h1.sql (.head _)) hv ?_
      have h2 := h1.drop
      clear h1
      walk_at "go"
      refine ⟨B, L, x, dx, s, t, ns, v, g, rfl, hT _, h2, hb, ht, by omega, fun i e1 e2 _ => ?_, fun _ p H3 h3 => ?_, fun i e1 e2 _ => ?_⟩
      · exfalso
        rw [e1] at hg
        simp only [sizeOk, Bool.and_eq_false_iff, decide_eq_false_iff_not] at hg
        omega
      rotate_left
      · exfalso
        rw [e1] at hg
        simp only [sizeOk, Bool.and_eq_false_iff, decide_eq_false_iff_not] at hg
        omega
      walk_at "go"
      rename_i p2 H4 h4
      refine c_neTup (xs := [.str "bits"]) (by decide +kernel) (h4.sqt (.tail _ (.head _))) (h4.sqt (.head _)) ?_
      obtain ⟨B', s', h5, _⟩ := Hs.fixes (N := [_, _]) h4
      walk_at "go"
      exact ⟨B', _, s', h5, rfl⟩
    · walk_at "go"
      exact ⟨B, none, Same.refl _, hs, rfl⟩
  rintro σ2 H6 ⟨B1, w4, s1, h1, rfl⟩
  clear hs
  walk_at "go"
  obtain ⟨z, hz, hz24⟩ : ∃ z : Nat, w / 54 % 25 = ((z : Nat) : Int) ∧ z ≤ 24 := ⟨(w / 54 % 25).toNat, by omega, by omega⟩
  rw [hz]
  walk_at "go"
  refine w_cut (fun σ2 H6 => ∃ (B' : Hp) (i : Nat), i ≤ 24 ∧ t + i ≤ 8 * ns.length ∧ Same B B' ∧ Hs B' ((x, rdO K dx s t) :: (s, .lst (ns.map V.int)) :: L) H6 ∧ σ2 = [some (.ref x), some (.str (digS (bitsRow ns))), some (.str (digS ((bitsRow ns).drop t))), some (.int w), some (.int ((i : Nat) : Int)), none]) ?_ ?_
  · walk_at "go"
    refine c_lenS (small6' (by rw [hln]; omega)) ?_
    rw [hln]
    walk_at "go"
    by_cases c : 8 * ns.length - t < z
    · refine i_t (decide_eq_true (by omega)) ?_
      walk_at "go"
      refine ⟨B1, L, x, dx, s, t, ns, _, _, rfl, .int _, h1, hb, ht, by omega, fun i e1 e2 e3 => ?_, fun e => ?_, fun i e1 e2 _ p H3 h3 => ?_⟩
      · cases Int.ofNat.inj (Tg.int.inj e1)
        omega
      · exfalso
        simp only [sizeOk, Bool.and_eq_false_iff, decide_eq_false_iff_not] at e
        omega
      walk_at "go"
      rename_i p2 H4 h4
      refine c_neTup (xs := [.str "nobits"]) (by decide +kernel) (h4.sqt (.tail _ (.head _))) (h4.sqt (.head _)) ?_
      obtain ⟨B', s', h5, _⟩ := Hs.fixes (N := [_, _]) h4
      walk_at "go"
      refine ⟨B', L, x, dx, s, t, ns, w, rfl, h5, hb, ht, hl, fun H6 h6 => ?_⟩
      walk_at "go"
      refine c_lenS (small6' (by rw [hln]; omega)) ?_
      rw [hln]
      walk_at "go"
      exact ⟨B', 8 * ns.length - t, by omega, by omega, s1.trans s', h6, rfl⟩
    · refine i_f (decide_eq_false (by omega)) ?_
      walk_at "go"
      exact ⟨B1, z, hz24, by omega, s1, h1, rfl⟩
  clear h1 s1 hz hz24
  rintro σ2 H6 ⟨B2, i, hi, hti, s2, h2, rfl⟩
  walk_at "go"
  refine ⟨B2, L, x, dx, s, t, ns, _, _, rfl, .int _, h2, hb, ht, by omega, fun i' e1 e2 e3 p H3 h3 => ?_, fun e => ?_, fun i' e1 e2 e3 => ?_⟩
  rotate_left
  · exfalso
    simp only [sizeOk, Bool.and_eq_false_iff, decide_eq_false_iff_not] at e
    omega
  · cases Int.ofNat.inj (Tg.int.inj e1)
    omega
  cases Int.ofNat.inj (Tg.int.inj e1)
  walk_at "go"
  refine c_isi (tyx_sql (h3.sql (.head _))) (.ty _) (show PySem.W.kitOne K (.type "list") (.type "tuple") = some false from kit_ty (by decide +kernel)) ?_
  walk_at "go"
  refine c_slS (small6' (by rw [hln]; omega)) ?_
  rw [digS_take _ rfl (by rw [List.length_drop, hbl]; omega)]
  walk_at "go"
  refine ⟨_, rfl, by rw [List.length_take, List.length_drop, hbl]; omega, retV h3 fun H4 h4 => ?_⟩
  walk_at "go"
  try rw [show takenNum ns t i = numOf (((bitsRow ns).drop t).take i) from rfl]
  try refine i_f (ne_f rfl) ?_
  walk_at "go"
  refine c_slS (small6' (by rw [hln]; omega)) ?_
  rw [digS_drop _ rfl (by rw [List.length_drop, hbl]; omega), List.drop_drop]
  walk_at "go"
  exact q (t + i) B2 H4 hti s2 h4.drop
def sp__law_refused (K : PySem.W.Frag) : Sp := fun vs H Q _ => ∃ (w : Int), vs = [.int w] ∧ RetV H Q (.bl true)
theorem len__law_refused (h : sp__law_refused K vs H Q E) : vs.length = 1 := by
  obtain ⟨w, rfl, _⟩ := h
  rfl
def t__law_refused (K : PySem.W.Frag) (W : WX) : TS :=
  (tSeq (tAsg (tOp (rIx K) (tLst (tCons (tC .non) (tCons (tTup (tCons (tC (.int 1)) (tCons (tC (.int 2)) tNil))) (tCons (tLst (tCons (tC (.int 256)) tNil)) (tCons (tLst (tCons (tUn rNegU (tC (.int 1))) tNil)) (tCons (tLst (tCons (tC (.bl true)) tNil)) (tCons (tC (.str "12")) (tCons (tLst (tCons (tC (.int 1)) (tCons (tC .non) tNil))) (tCons (tDNewK) tNil))))))))) (tOp rModU (tVar 0) (tC (.int 8)))) (gName 1))
    (tSeq (tTryAs K (.ref (He.ga K "PressError")) 2 (fun W => (tDrop (tMk (He.ga K "BitReader") (sp_BitReader___init__ K) [] W (tCons (tVar 1) tNil))))
    (fun a cls d => (tRet (tOp (rEqU K) (tClE a cls d (sp__law_word K) (tCons (tVar 2) tNil)) (tTup (tCons (tC (.str "row")) tNil))))) W)
    (tRet (tC (.bl false)))))
theorem rd__law_refused (kWBadRow : KWBadRow K) (h : sp__law_refused K vs H Q E) : t__law_refused K (fun c d _ H2 => E c d H2) { nx := fun _ H' => Q .non H', rt := Q } (start ["_law_cell", "_law_odd", "_law_e"] vs) H := by
  obtain ⟨w, rfl, q⟩ := h
  have hs := Hs.start H
  unfold t__law_refused
  walk_at "go"
  rename_i p1 H1 h1 p2 H2 h2 p3 H3 h3 p4 H4 h4 p5 H5 h5
  refine c_dnewK h5 fun p6 H6 h6 => ?_
  walk_at "go"
  rename_i l7 H7 h7
  obtain ⟨v, g, hv, hT, hok, hr⟩ : ∃ (v : V) (g : Tg), atI [V.non, V.ref p1, V.ref p2, V.ref p3, V.ref p4, V.str "12", V.ref p5, V.ref p6] (w % 8) = some v ∧ Th K H7 v g ∧ Tg.ok K H7 g ∧ Tg.isRow g = false := by
    obtain ⟨k, hk, hkl⟩ : ∃ k : Nat, w % 8 = ((k : Nat) : Int) ∧ k < 8 := ⟨(w % 8).toNat, by omega, by omega⟩
    rw [hk]
    rcases (by omega : k = 0 ∨ k = 1 ∨ k = 2 ∨ k = 3 ∨ k = 4 ∨ k = 5 ∨ k = 6 ∨ k = 7) with rfl | rfl | rfl | rfl | rfl | rfl | rfl | rfl
    · exact ⟨_, _, rfl, .non, trivial, rfl⟩
    · exact ⟨_, _, rfl, .tup (h7.sqt (by walk_at "deep")), trivial, rfl⟩
    · exact ⟨_, _, rfl, .lst (h7.sql (by walk_at "deep")), ok_ints (ns := [256]) (by decide), by decide⟩
    · exact ⟨_, _, rfl, .lst (h7.sql (by walk_at "deep")), ok_ints (ns := [-1]) (by decide), by decide⟩
    · refine ⟨_, _, rfl, .lst (h7.sql (by walk_at "deep")), ⟨fun y hy => ?_, by show 1 ≤ 100000; decide⟩, by decide⟩
      rw [List.mem_singleton.mp hy]
      exact ⟨_, .bl _⟩
    · exact ⟨_, _, rfl, .str _, trivial, rfl⟩
    · refine ⟨_, _, rfl, .lst (h7.sql (by walk_at "deep")), ⟨fun y hy => ?_, by show 2 ≤ 100000; decide⟩, by decide⟩
      rcases List.mem_cons.mp hy with rfl | hy
      · exact ⟨_, .int _⟩
      · rw [List.mem_singleton.mp hy]
        exact ⟨_, .non⟩
    · exact ⟨_, _, rfl, .dic (h7.get (by walk_at "deep")), trivial, rfl⟩
  refine c_ixL (h7.sql (.head _)) hv ?_
  have h8 := Hs.start H7
  have s8 := h7.ex
  clear h1 h2 h3 h4 h5 h6 h7 hs
  walk_at "go"
  refine w_tryAs ?_
  walk_at "go"
  rename_i x dx H8 h9
  refine ⟨_, _, x, dx, v, g, rfl, h9, hT.same h9.ex, ok_same hok h9.ex, fun ms e hb s2 H9 h10 => ?_, fun _ H9 h10 => ?_⟩
  · exfalso
    rw [e] at hr
    rw [show Tg.isRow (.lst (ms.map V.int)) = true from all_byteV hb] at hr
    cases hr
  refine c_wAs kWBadRow.p fun ea hea => ?_
  walk_at "go"
  refine c_clE ?_
  walk_at "go"
  refine ⟨_, "row", rfl, rfl, rfl, kWBadRow.word, retT h10 fun p H11 h11 => ?_⟩
  walk_at "go"
  rename_i p2 H12 h12
  refine c_eqTup (xs := [.str "row"]) (by decide +kernel) (h12.sqt (.tail _ (.head _))) (h12.sqt (.head _)) ?_
  exact q _ (s8.trans h12.ex)
theorem bytes_rev {ns : List Int} (h : Bytes ns) : Bytes ns.reverse := fun n hn => h n (List.mem_reverse.mp hn)
def sp_law (K : PySem.W.Frag) : Sp := fun vs H Q _ => ∃ (a : Addr) (ns : List Int), vs = [.ref a] ∧ SqL K H a (ns.map V.int) ∧ ns.length ≤ 63 ∧ ∀ H', Q (.bl true) H'
theorem len_law (h : sp_law K vs H Q E) : vs.length = 1 := by
  obtain ⟨a, ns, rfl, _⟩ := h
  rfl
def t_law (K : PySem.W.Frag) (W : WX) : TS :=
  (tSeq (tAsg (tOp rModU (tCl (sp__law_cell_at K) [] W (tCons (tVar 0) (tCons (tC (.int 0)) tNil))) (tC (.int 31))) (gName 1))
    (tSeq (tAsg (tLc (iRng1 (tCons (tVar 1) tNil)) (gName 2) tYes (tOp rModU (tOp rDivU (tCl (sp__law_mixed K) [] WF (tCons (tCl (sp__law_cell_at K) [] WF (tCons (tVar 0) (tCons (tC (.int 1)) tNil))) (tCons (tVar 2) tNil))) (tC (.int 7))) (tC (.int 256))) [2]) (gName 3))
    (Evl.tCut (tIfS (tTest (tOp (rEqU K) (tOp rModU (tOp rDivU (tCl (sp__law_cell_at K) [] W (tCons (tVar 0) (tCons (tC (.int 0)) tNil))) (tC (.int 31))) (tC (.int 3))) (tC (.int 1)))) (tAsg (tOp rAddU (tSl (rSlK K) (tVar 3) tNoPart (tPart (tUn rNegU (tC (.int 1))))) (tLst (tCons (tOp (rIx K) (tLst (tCons (tC (.int 0)) (tCons (tC (.int 128)) (tCons (tC (.int 192)) (tCons (tC (.int 8)) tNil))))) (tOp rModU (tOp rDivU (tCl (sp__law_cell_at K) [] W (tCons (tVar 0) (tCons (tC (.int 0)) tNil))) (tC (.int 93))) (tC (.int 4)))) tNil))) (gName 3)) tNext)
    (tSeq (tAsg (tCB (rListK K) (tCons (tVar 3) tNil)) (gName 4))
    (tSeq (tAsg (tMk (He.ga K "BitReader") (sp_BitReader___init__ K) [] W (tCons (tVar 4) tNil)) (gName 5))
    (tSeq (tAsg (tMk (He.ga K "BitReader") (sp_BitReader___init__ K) [] W (tCons (tRevL K (tVar 3)) tNil)) (gName 6))
    (tSeq (tDrop (tBM0 K "list" rClear (tVar 4)))
    (tSeq (tAsg (tCl (sp__law_digits_of K) [] W (tCons (tVar 3) tNil)) (gName 7))
    (tSeq (tAsg (tCl (sp__law_digits_of K) [] W (tCons (tRevL K (tVar 3)) tNil)) (gName 8))
    (tSeq (tAsg (tVar 7) (gName 9))
    (tSeq (tAsg (tVar 8) (gName 10))
    (tSeq (tFor (iRng2 (tCons (tC (.int 2)) (tCons (tCB (rMin2K) (tCons (tC (.int 22)) (tCons (tCB (rLenK K) (tCons (tVar 0) tNil)) tNil))) tNil))) (gName 2) (tSeq (tAsg (tCl (sp__law_mixed K) [] W (tCons (tOp (rIx K) (tVar 0) (tVar 2)) (tCons (tVar 2) tNil))) (gName 11))
    (Evl.tCut (tIfS (tTest (tOp (rEqU K) (tOp rModU (tVar 11) (tC (.int 5))) (tC (.int 2)))) (tAsg (tCl (sp__law_step K) [] W (tCons (tVar 6) (tCons (tVar 8) (tCons (tVar 10) (tCons (tOp rDivU (tVar 11) (tC (.int 5))) tNil))))) (gName 10)) (tAsg (tCl (sp__law_step K) [] W (tCons (tVar 5) (tCons (tVar 7) (tCons (tVar 9) (tCons (tOp rDivU (tVar 11) (tC (.int 5))) tNil))))) (gName 9)))
    (tSeq (tIfS ((tOr (tTest (tOp rIsU (tVar 9) (tC .non))) (tTest (tOp rIsU (tVar 10) (tC .non))))) (tRet (tC (.bl false))) tNext)
    (tIfS ((tOr (tNot (tB (tCl (sp__law_stands K) [] W (tCons (tVar 5) (tCons (tVar 7) (tCons (tVar 9) (tCons (tOp rDivU (tVar 11) (tC (.int 5))) tNil))))))) (tNot (tB (tCl (sp__law_stands K) [] W (tCons (tVar 6) (tCons (tVar 8) (tCons (tVar 10) (tCons (tOp rDivU (tVar 11) (tC (.int 7))) tNil))))))))) (tRet (tC (.bl false))) tNext)))))
    (tRet (tCl (sp__law_refused K) [] W (tCons (tCl (sp__law_cell_at K) [] W (tCons (tVar 0) (tCons (tC (.int 1)) tNil))) tNil)))))))))))))))
theorem rd_law (h : sp_law K vs H Q E) : t_law K (fun c d _ H2 => E c d H2) { nx := fun _ H' => Q .non H', rt := Q } (start ["_law_script", "_law_many", "_law_k", "_law_row", "_law_handed", "_law_reader", "_law_other", "_law_whole", "_law_back", "_law_digits", "_law_turned", "_law_cell"] vs) H := by
  obtain ⟨a, ns, rfl, hS, hl, q⟩ := h
  have hs := Hs.start H
  unfold t_law
  walk_at "go"
  refine ⟨a, ns, _, rfl, hS, by decide, ?_⟩
  walk_at "go"
  obtain ⟨n, hn, hn30⟩ : ∃ n : Nat, cellAt ns 0 % 31 = ((n : Nat) : Int) ∧ n ≤ 30 := ⟨(cellAt ns 0 % 31).toNat, by omega, by omega⟩
  rw [hn]
  refine ⟨_, rfl, by omega, by omega, ?_⟩
  rw [Int.toNat_natCast]
  refine c_lcR (fun i acc B' => ∃ row : List Int, acc = row.map V.int ∧ row.length = i ∧ Bytes row ∧ B' = H) hs ⟨[], rfl, rfl, (fun _ z => nomatch z), rfl⟩ ?_ ?_
  · rintro i acc B' D H' hi ⟨row, rfl, hrl, hrb, rfl⟩ e2 h
    walk_at "go"
    refine ⟨rfl, ?_⟩
    walk_at "go"
    refine ⟨a, ns, 1, rfl, h.bl hS, by decide, ?_⟩
    walk_at "go"
    refine ⟨_, _, rfl, by omega, by omega, fun m hm => ?_⟩
    walk_at "go"
    refine c_item h (small5 (by rw [List.length_map]; omega)) e2 ⟨row ++ [m / 7 % 256], ?_, by rw [List.length_append, List.length_singleton]; omega, fun y hy => ?_, rfl⟩
    · rw [List.map_append]
      rfl
    · rcases List.mem_append.mp hy with z | z
      · exact hrb y z
      · rw [List.mem_singleton.mp z]
        omega
  rintro acc B' D H' ⟨row, rfl, hrl, hrb, rfl⟩ e2 h
  have hD := h.sql (K := K) (.head _)
  have h1 := Hs.start H'
  have hS1 := h.bl hS
  clear h hs
  walk_at "go"
  refine w_cut (fun σ2 H6 => ∃ (ra : Addr) (row : List Int), Bytes row ∧ row.length ≤ 40 ∧ SqL K H6 ra (row.map V.int) ∧ Same H' H6 ∧ σ2 = [some (.ref a), some (.int ((n : Nat) : Int)), none, some (.ref ra), none, none, none, none, none, none, none, none]) ?_ ?_
  · walk_at "go"
    refine ⟨a, ns, 0, rfl, hS1, by decide, ?_⟩
    walk_at "go"
    refine i_2 (fun _ => ?_) (fun _ => ?_)
    · walk_at "go"
      rename_i l2 H2 h2 l3 H3 h3
      rw [cutV_ints] at h3
      refine ⟨a, ns, 0, rfl, h3.bl hS1, by decide, ?_⟩
      walk_at "go"
      obtain ⟨y, hy, hy0⟩ : ∃ y : Int, atI [V.int 0, V.int 128, V.int 192, V.int 8] (cellAt ns 0 / 93 % 4) = some (.int y) ∧ 0 ≤ y ∧ y ≤ 255 := by
        obtain ⟨k, hk, hkl⟩ : ∃ k : Nat, cellAt ns 0 / 93 % 4 = ((k : Nat) : Int) ∧ k < 4 := ⟨(cellAt ns 0 / 93 % 4).toNat, by omega, by omega⟩
        rw [hk]
        rcases (by omega : k = 0 ∨ k = 1 ∨ k = 2 ∨ k = 3) with rfl | rfl | rfl | rfl
        · exact ⟨_, rfl, by decide, by decide⟩
        · exact ⟨_, rfl, by decide, by decide⟩
        · exact ⟨_, rfl, by decide, by decide⟩
        · exact ⟨_, rfl, by decide, by decide⟩
      refine c_ixL (h3.sql (.head _)) hy ?_
      have h4 := h3.drop
      clear h2 h3
      obtain ⟨cut, hcut, hcl, hcb⟩ : ∃ cut : List Int, ((row.drop (HT.sIx row.length 0 none)).take (HT.sIx row.length row.length (some (-1)) - HT.sIx row.length 0 none)) = cut ∧ cut.length ≤ row.length ∧ Bytes cut := ⟨_, rfl, by rw [List.length_take, List.length_drop]; omega, fun z hz => hrb z (List.mem_of_mem_drop (List.mem_of_mem_take hz))⟩
      rw [hcut] at h4
      walk_at "go"
      rename_i l4 H4 h5
      refine c_addL h5 (h5.get (.tail _ (.head _))) (h5.get (.head _)) (small6' (by rw [List.length_map, List.length_singleton]; omega)) fun l5 H5 h6 => ?_
      walk_at "go"
      refine ⟨l5, cut ++ [y], fun z hz => ?_, by rw [List.length_append, List.length_singleton]; omega, ?_, h6.ex, rfl⟩
      · rcases List.mem_append.mp hz with z1 | z1
        · exact hcb z z1
        · rw [List.mem_singleton.mp z1]
          exact hy0
      · rw [List.map_append]
        exact h6.sql (.head _)
    · walk_at "go"
      exact ⟨D, row, hrb, by omega, hD, Same.refl _, rfl⟩
  clear hrl hrb hD row
  rintro σ2 H6 ⟨ra, row, hb, hrl, hR, s6, rfl⟩
  have h6 := Hs.start H6
  have hS6 := s6.seq hS1
  clear h1 hS1 s6 e2
  walk_at "go"
  rename_i hd H7 h7 x dx H8 h8
  refine ⟨_, _, x, dx, _, _, rfl, h8, .lst (h8.sql (by walk_at "deep")), ok_ints (by omega), fun ms e _ s1 H9 h9 => ⟨rfl, ?_⟩, fun z => ?_⟩
  rotate_left
  · rw [show Tg.isRow (.lst (row.map V.int)) = true from all_byteV hb] at z
    cases z
  rw [← map_int_inj (Tg.lst.inj e)] at h9
  clear h8 h7 e
  have hR9 := h9.bl hR
  walk_at "go"
  refine c_revO h9 hR9 fun rv H10 h10 => ?_
  rw [← List.map_reverse] at h10
  walk_at "go"
  rename_i y dy H11 h11
  refine ⟨_, _, y, dy, _, _, rfl, h11, .lst (h11.sql (by walk_at "deep")), ok_ints (by rw [List.length_reverse]; omega), fun ms e _ s2 H12 h12 => ⟨rfl, ?_⟩, fun z => ?_⟩
  rotate_left
  · rw [show Tg.isRow (.lst (row.reverse.map V.int)) = true from all_byteV (bytes_rev hb)] at z
    cases z
  rw [← map_int_inj (Tg.lst.inj e)] at h12
  have h13 := h12.rot3.drop.rot5
  clear h9 h10 h11 h12 e
  walk_at "go"
  refine c_clear0 h13 fun H13 h14 => ?_
  have h15 := h14.drop
  clear h13 h14
  have hRc := h15.bl hR
  have hSc := h15.bl hS6
  walk_at "go"
  refine ⟨ra, row, rfl, hRc, hb, by omega, retV h15 fun H14 h16 => ?_⟩
  have hRd := h16.bl hR
  walk_at "go"
  refine c_revO h16 hRd fun rv2 H15 h17 => ?_
  rw [← List.map_reverse] at h17
  walk_at "go"
  refine ⟨rv2, row.reverse, rfl, h17.sql (.head _), bytes_rev hb, by rw [List.length_reverse]; omega, retV h17 fun H16 h18 => ?_⟩
  have h19 := h18.drop
  clear h15 h16 h17 h18 hRc hSc hRd
  have hSe := h19.bl hS6
  have hrl2 : row.reverse.length ≤ 40 := by rw [List.length_reverse]; exact hrl
  have hrb2 := bytes_rev hb
  generalize row.reverse = wor at *
  walk_at "go"
  rw [List.length_map]
  obtain ⟨hi, hhi, hil⟩ : ∃ hi : Nat, (if ((ns.length : Nat) : Int) < 22 then ((ns.length : Nat) : Int) else 22) = ((hi : Nat) : Int) ∧ hi ≤ ns.length := by
    by_cases c : ((ns.length : Nat) : Int) < 22
    · exact ⟨ns.length, if_pos c, Nat.le_refl _⟩
    · exact ⟨22, if_neg c, by omega⟩
  rw [hhi]
  refine ⟨_, _, rfl, ⟨by omega, by omega, by omega, by omega⟩, ?_⟩
  refine w_forR (fun i σ' L' B' => ∃ (t1 t2 : Nat) (v2 v11 : Option V), t1 ≤ 8 * row.length ∧ t2 ≤ 8 * wor.length ∧ Same H6 B' ∧
    σ' = [some (.ref a), some (.int ((n : Nat) : Int)), v2, some (.ref ra), some (.ref hd), some (.ref x), some (.ref y), some (.str (digS (bitsRow row))), some (.str (digS (bitsRow wor))), some (.str (digS ((bitsRow row).drop t1))), some (.str (digS ((bitsRow wor).drop t2))), v11] ∧
    L' = [(y, rdO K dy s2 t2), (s2, .lst (wor.map V.int)), (x, rdO K dx s1 t1), (s1, .lst (row.map V.int))]) h19 ⟨0, 0, none, none, Nat.zero_le _, Nat.zero_le _, Same.refl _, rfl, rfl⟩ ?_ ?_
  · rintro i σ' L' B' H' hi2 ⟨t1, t2, v2, v11, ht1, ht2, sB, rfl, rfl⟩ h
    have hSB := h.bl (sB.seq hS6)
    have ik : atI (ns.map V.int) (2 + ((i : Nat) : Int)) = some (.int (ns.getD (2 + i) 0)) := at_i (by omega) (by omega)
    walk_at "go"
    refine ⟨_, _, rfl, by omega, by omega, fun m hm => ?_⟩
    walk_at "go"
    refine w_cut (fun σ2 H7 => ∃ (t1 t2 : Nat) (B2 : Hp), t1 ≤ 8 * row.length ∧ t2 ≤ 8 * wor.length ∧ Same H6 B2 ∧ Hs B2 [(y, rdO K dy s2 t2), (s2, .lst (wor.map V.int)), (x, rdO K dx s1 t1), (s1, .lst (row.map V.int))] H7 ∧
      σ2 = [some (.ref a), some (.int ((n : Nat) : Int)), some (.int (2 + ((i : Nat) : Int))), some (.ref ra), some (.ref hd), some (.ref x), some (.ref y), some (.str (digS (bitsRow row))), some (.str (digS (bitsRow wor))), some (.str (digS ((bitsRow row).drop t1))), some (.str (digS ((bitsRow wor).drop t2))), some (.int m)]) ?_ ?_
    · walk_at "go"
      refine i_2 (fun _ => ?_) (fun _ => ?_)
      · walk_at "go"
        refine ⟨B', _, y, dy, s2, t2, wor, _, rfl, h, hrb2, ht2, by omega, fun t' B3 H8 ht' s3 h8 => ?_⟩
        walk_at "go"
        exact ⟨t1, t', B3, ht1, ht', sB.trans s3, h8, rfl⟩
      · walk_at "go"
        refine ⟨B', _, x, dx, s1, t1, row, _, rfl, h.rot4.rot4, hb, ht1, by omega, fun t' B3 H8 ht' s3 h8 => ?_⟩
        walk_at "go"
        exact ⟨t', t2, B3, ht', ht2, sB.trans s3, h8.rot4.rot4, rfl⟩
    clear h sB ht1 ht2
    rintro σ2 H7 ⟨t1, t2, B2, ht1, ht2, sB, h, rfl⟩
    walk_at "go"
    refine ⟨B2, _, x, dx, s1, t1, row, _, rfl, h.rot4.rot4, hb, ht1, by omega, fun H8 h8 => ?_⟩
    walk_at "go"
    refine ⟨B2, _, y, dy, s2, t2, wor, _, rfl, h8.rot4.rot4, hrb2, ht2, by omega, fun H9 h9 => ?_⟩
    walk_at "go"
    exact ⟨_, _, ⟨t1, t2, _, _, ht1, ht2, sB, rfl, rfl⟩, h9⟩
  · rintro σ' L' B' H' ⟨t1, t2, v2, v11, ht1, ht2, sB, rfl, rfl⟩ h
    have hSB := h.bl (sB.seq hS6)
    walk_at "go"
    refine ⟨a, ns, 1, rfl, hSB, by decide, ?_⟩
    walk_at "go"
    exact ⟨_, rfl, fun H8 _ => q H8⟩
end L2.BR

end
namespace L2.BH
open PySem PySem.Spec PyProof.Rows L2
def top (i : Nat) : Stmt := PySem.Challenge.pw_balepress_k02_bits_taken.main.body.getD i (.Pass ⟨0, 0, 0, 0⟩)
abbrev s_is_byte : Stmt := top 22
abbrev s_is_row : Stmt := top 23
abbrev s_need_row : Stmt := top 24
abbrev s_is_number : Stmt := top 28
abbrev s_need_size : Stmt := top 29
abbrev s_BitReader___init__ : Stmt := inClass (top 30) 0
abbrev s_BitReader_left : Stmt := inClass (top 30) 1
abbrev s_BitReader_place : Stmt := inClass (top 30) 2
abbrev s_BitReader_go : Stmt := inClass (top 30) 3
abbrev s_BitReader_take : Stmt := inClass (top 30) 4
abbrev s_BitReader_at_end : Stmt := inClass (top 30) 5
abbrev s__law_cell_at : Stmt := top 32
abbrev s__law_mixed : Stmt := top 33
abbrev s__law_word : Stmt := top 34
abbrev s__law_digits_of : Stmt := top 35
abbrev s__law_number : Stmt := top 36
abbrev s__law_taken : Stmt := top 37
abbrev s__law_stands : Stmt := top 38
abbrev s__law_truth : Stmt := top 39
abbrev s__law_gone : Stmt := top 40
abbrev s__law_step : Stmt := top 41
abbrev s__law_refused : Stmt := top 42
abbrev s_law : Stmt := top 43
def d_is_byte : He.DefD := ⟨("is_byte", none), "is_byte", "is_byte", defArgs s_is_byte, defBody s_is_byte, defScope s_is_byte, [], []⟩
def d_is_row : He.DefD := ⟨("is_row", none), "is_row", "is_row", defArgs s_is_row, defBody s_is_row, defScope s_is_row, [], []⟩
def d_need_row : He.DefD := ⟨("need_row", none), "need_row", "need_row", defArgs s_need_row, defBody s_need_row, defScope s_need_row, [], []⟩
def d_is_number : He.DefD := ⟨("is_number", none), "is_number", "is_number", defArgs s_is_number, defBody s_is_number, defScope s_is_number, [], []⟩
def d_need_size : He.DefD := ⟨("need_size", none), "need_size", "need_size", defArgs s_need_size, defBody s_need_size, defScope s_need_size, [], []⟩
def d_BitReader___init__ : He.DefD := ⟨("BitReader", some "__init__"), "__init__", "BitReader.__init__", defArgs s_BitReader___init__, defBody s_BitReader___init__, defScope s_BitReader___init__, [], []⟩
def d_BitReader_left : He.DefD := ⟨("BitReader", some "left"), "left", "BitReader.left", defArgs s_BitReader_left, defBody s_BitReader_left, defScope s_BitReader_left, [], []⟩
def d_BitReader_place : He.DefD := ⟨("BitReader", some "place"), "place", "BitReader.place", defArgs s_BitReader_place, defBody s_BitReader_place, defScope s_BitReader_place, [], []⟩
def d_BitReader_go : He.DefD := ⟨("BitReader", some "go"), "go", "BitReader.go", defArgs s_BitReader_go, defBody s_BitReader_go, defScope s_BitReader_go, [], []⟩
def d_BitReader_take : He.DefD := ⟨("BitReader", some "take"), "take", "BitReader.take", defArgs s_BitReader_take, defBody s_BitReader_take, defScope s_BitReader_take, [], []⟩
def d_BitReader_at_end : He.DefD := ⟨("BitReader", some "at_end"), "at_end", "BitReader.at_end", defArgs s_BitReader_at_end, defBody s_BitReader_at_end, defScope s_BitReader_at_end, [], []⟩
def d__law_cell_at : He.DefD := ⟨("_law_cell_at", none), "_law_cell_at", "_law_cell_at", defArgs s__law_cell_at, defBody s__law_cell_at, defScope s__law_cell_at, [], []⟩
def d__law_mixed : He.DefD := ⟨("_law_mixed", none), "_law_mixed", "_law_mixed", defArgs s__law_mixed, defBody s__law_mixed, defScope s__law_mixed, [], []⟩
def d__law_word : He.DefD := ⟨("_law_word", none), "_law_word", "_law_word", defArgs s__law_word, defBody s__law_word, defScope s__law_word, [], []⟩
def d__law_digits_of : He.DefD := ⟨("_law_digits_of", none), "_law_digits_of", "_law_digits_of", defArgs s__law_digits_of, defBody s__law_digits_of, defScope s__law_digits_of, [], []⟩
def d__law_number : He.DefD := ⟨("_law_number", none), "_law_number", "_law_number", defArgs s__law_number, defBody s__law_number, defScope s__law_number, [], []⟩
def d__law_taken : He.DefD := ⟨("_law_taken", none), "_law_taken", "_law_taken", defArgs s__law_taken, defBody s__law_taken, defScope s__law_taken, [], []⟩
def d__law_stands : He.DefD := ⟨("_law_stands", none), "_law_stands", "_law_stands", defArgs s__law_stands, defBody s__law_stands, defScope s__law_stands, [], []⟩
def d__law_truth : He.DefD := ⟨("_law_truth", none), "_law_truth", "_law_truth", defArgs s__law_truth, defBody s__law_truth, defScope s__law_truth, [], []⟩
def d__law_gone : He.DefD := ⟨("_law_gone", none), "_law_gone", "_law_gone", defArgs s__law_gone, defBody s__law_gone, defScope s__law_gone, [], []⟩
def d__law_step : He.DefD := ⟨("_law_step", none), "_law_step", "_law_step", defArgs s__law_step, defBody s__law_step, defScope s__law_step, [], []⟩
def d__law_refused : He.DefD := ⟨("_law_refused", none), "_law_refused", "_law_refused", defArgs s__law_refused, defBody s__law_refused, defScope s__law_refused, [], []⟩
def d_law : He.DefD := ⟨("law", none), "law", "law", defArgs s_law, defBody s_law, defScope s_law, [], []⟩
def fn : List He.DefD := [d_is_byte, d_is_row, d_need_row, d_is_number, d_need_size, d_BitReader___init__, d_BitReader_left, d_BitReader_place, d_BitReader_go, d_BitReader_take, d_BitReader_at_end, d__law_cell_at, d__law_mixed, d__law_word, d__law_digits_of, d__law_number, d__law_taken, d__law_stands, d__law_truth, d__law_gone, d__law_step, d__law_refused, d_law]
def fa : List He.Fa := [.glo "PressError", .exc "PressError", .glo "BadRow", .exc "BadRow", .glo "BadBits", .exc "BadBits", .glo "NoBits", .exc "NoBits", .glo "BadShares", .exc "BadShares", .glo "BadLengths", .exc "BadLengths", .glo "BadCode", .exc "BadCode", .glo "BadTable", .exc "BadTable", .glo "BadPieces", .exc "BadPieces", .glo "BadBody", .exc "BadBody", .glo "BadHead", .exc "BadHead", .glo "BadCheck", .exc "BadCheck", .glo "BadMark", .exc "BadMark", .glo "BadTail", .exc "BadTail", .glo "Cut", .exc "Cut", .glo "Behind", .exc "Behind", .glo "Over", .exc "Over", .glo "NoRange", .exc "NoRange", .glo "BadLetters", .exc "BadLetters", .int "MOST_BYTE" 255, .glo "is_byte", .glo "is_row", .glo "need_row", .int "BYTE" 8, .int "MOST_SIZE" 24, .glo "is_number", .glo "need_size", .glo "BitReader", .cls "BitReader", .noat "BitReader" "source", .noat "BitReader" "taken", .meth "BitReader" "__init__", .meth "BitReader" "left", .meth "BitReader" "place", .meth "BitReader" "go", .meth "BitReader" "take", .meth "BitReader" "at_end", .mkr "BitReader", .glo "_law_cell_at", .glo "_law_mixed", .glo "_law_word", .glo "_law_digits_of", .glo "_law_number", .glo "_law_taken", .glo "_law_stands", .glo "_law_truth", .glo "_law_gone", .glo "_law_step", .glo "_law_refused", .glo "law", .free "all", .free "bool", .free "divmod", .free "int", .free "isinstance", .free "len", .free "list", .free "min", .free "range", .free "tuple", .free "ValueError"]
abbrev R : PySem.W.OpenRow := PySem.W.OpenLaw.row PySem.Challenge.rw_balepress_k02_bits_taken
def exs : List (PySem.W.Frag → Bool) := [fun K => (He.eqO (PySem.W.findIn K (.ref (He.ga K "BadRow")) "__getattribute__") (some (some (.builtin "BaseException.__getattribute__"))) && (He.eqO (PySem.W.findIn K (.ref (He.ga K "BadRow")) "__getattr__") (some none) && (decide (PySem.W.subIn K (.ref (He.ga K "BadRow")) (.type "BaseException") = some true) && (PySem.W.hasDictIn K (He.ga K "BadRow") && (He.eqO (PySem.W.findIn K (.ref (He.ga K "BadRow")) "__class__") (some (some (.builtin "object.__class__"))) && (He.eqO (PySem.W.specialIn K (.builtin "object.__class__") "__get__") (some (some (.builtin "getset_descriptor.__get__"))) && (decide (PySem.W.takesIn K (.builtin "object.__class__") = some true) && (decide (PySem.W.mroIn K (He.ga K "BadRow") (.type "object") = some true))))))))),
  fun K => decide (PySem.W.exmOne K (.ref (He.ga K "BadRow")) (.ref (He.ga K "PressError")) = some true),
  fun K => decide (PySem.W.kitOne K (.ref (He.ga K "BadRow")) (.ref (He.ga K "BadRow")) = some true),
  fun K => decide (PySem.W.kitOne K (.ref (He.ga K "BadRow")) (.ref (He.ga K "BadBits")) = some false),
  fun K => decide (PySem.W.kitOne K (.ref (He.ga K "BadRow")) (.ref (He.ga K "NoBits")) = some false),
  fun K => decide (PySem.W.kitOne K (.ref (He.ga K "BadRow")) (.ref (He.ga K "BadShares")) = some false),
  fun K => decide (PySem.W.kitOne K (.ref (He.ga K "BadRow")) (.ref (He.ga K "BadLengths")) = some false),
  fun K => decide (PySem.W.kitOne K (.ref (He.ga K "BadRow")) (.ref (He.ga K "BadCode")) = some false),
  fun K => decide (PySem.W.kitOne K (.ref (He.ga K "BadRow")) (.ref (He.ga K "BadTable")) = some false),
  fun K => decide (PySem.W.kitOne K (.ref (He.ga K "BadRow")) (.ref (He.ga K "Cut")) = some false),
  fun K => decide (PySem.W.kitOne K (.ref (He.ga K "BadRow")) (.ref (He.ga K "BadPieces")) = some false),
  fun K => decide (PySem.W.kitOne K (.ref (He.ga K "BadRow")) (.ref (He.ga K "BadBody")) = some false),
  fun K => decide (PySem.W.kitOne K (.ref (He.ga K "BadRow")) (.ref (He.ga K "BadHead")) = some false),
  fun K => decide (PySem.W.kitOne K (.ref (He.ga K "BadRow")) (.ref (He.ga K "BadCheck")) = some false),
  fun K => decide (PySem.W.kitOne K (.ref (He.ga K "BadRow")) (.ref (He.ga K "BadMark")) = some false),
  fun K => decide (PySem.W.kitOne K (.ref (He.ga K "BadRow")) (.ref (He.ga K "BadTail")) = some false),
  fun K => decide (PySem.W.kitOne K (.ref (He.ga K "BadRow")) (.ref (He.ga K "Behind")) = some false),
  fun K => decide (PySem.W.kitOne K (.ref (He.ga K "BadRow")) (.ref (He.ga K "Over")) = some false),
  fun K => decide (PySem.W.kitOne K (.ref (He.ga K "BadRow")) (.ref (He.ga K "NoRange")) = some false),
  fun K => decide (PySem.W.kitOne K (.ref (He.ga K "BadRow")) (.ref (He.ga K "BadLetters")) = some false),
  fun K => decide (PySem.W.kitOne K (.ref (He.ga K "BadRow")) (.type "ValueError") = some true),
  fun K => (He.eqO (PySem.W.findIn K (.ref (He.ga K "BadBits")) "__getattribute__") (some (some (.builtin "BaseException.__getattribute__"))) && (He.eqO (PySem.W.findIn K (.ref (He.ga K "BadBits")) "__getattr__") (some none) && (decide (PySem.W.subIn K (.ref (He.ga K "BadBits")) (.type "BaseException") = some true) && (PySem.W.hasDictIn K (He.ga K "BadBits") && (He.eqO (PySem.W.findIn K (.ref (He.ga K "BadBits")) "__class__") (some (some (.builtin "object.__class__"))) && (He.eqO (PySem.W.specialIn K (.builtin "object.__class__") "__get__") (some (some (.builtin "getset_descriptor.__get__"))) && (decide (PySem.W.takesIn K (.builtin "object.__class__") = some true) && (decide (PySem.W.mroIn K (He.ga K "BadBits") (.type "object") = some true))))))))),
  fun K => decide (PySem.W.exmOne K (.ref (He.ga K "BadBits")) (.ref (He.ga K "PressError")) = some true),
  fun K => decide (PySem.W.kitOne K (.ref (He.ga K "BadBits")) (.ref (He.ga K "BadRow")) = some false),
  fun K => decide (PySem.W.kitOne K (.ref (He.ga K "BadBits")) (.ref (He.ga K "BadBits")) = some true),
  fun K => decide (PySem.W.kitOne K (.ref (He.ga K "BadBits")) (.ref (He.ga K "NoBits")) = some false),
  fun K => decide (PySem.W.kitOne K (.ref (He.ga K "BadBits")) (.ref (He.ga K "BadShares")) = some false),
  fun K => decide (PySem.W.kitOne K (.ref (He.ga K "BadBits")) (.ref (He.ga K "BadLengths")) = some false),
  fun K => decide (PySem.W.kitOne K (.ref (He.ga K "BadBits")) (.ref (He.ga K "BadCode")) = some false),
  fun K => decide (PySem.W.kitOne K (.ref (He.ga K "BadBits")) (.ref (He.ga K "BadTable")) = some false),
  fun K => decide (PySem.W.kitOne K (.ref (He.ga K "BadBits")) (.ref (He.ga K "Cut")) = some false),
  fun K => decide (PySem.W.kitOne K (.ref (He.ga K "BadBits")) (.ref (He.ga K "BadPieces")) = some false),
  fun K => decide (PySem.W.kitOne K (.ref (He.ga K "BadBits")) (.ref (He.ga K "BadBody")) = some false),
  fun K => decide (PySem.W.kitOne K (.ref (He.ga K "BadBits")) (.ref (He.ga K "BadHead")) = some false),
  fun K => decide (PySem.W.kitOne K (.ref (He.ga K "BadBits")) (.ref (He.ga K "BadCheck")) = some false),
  fun K => decide (PySem.W.kitOne K (.ref (He.ga K "BadBits")) (.ref (He.ga K "BadMark")) = some false),
  fun K => decide (PySem.W.kitOne K (.ref (He.ga K "BadBits")) (.ref (He.ga K "BadTail")) = some false),
  fun K => decide (PySem.W.kitOne K (.ref (He.ga K "BadBits")) (.ref (He.ga K "Behind")) = some false),
  fun K => decide (PySem.W.kitOne K (.ref (He.ga K "BadBits")) (.ref (He.ga K "Over")) = some false),
  fun K => decide (PySem.W.kitOne K (.ref (He.ga K "BadBits")) (.ref (He.ga K "NoRange")) = some false),
  fun K => decide (PySem.W.kitOne K (.ref (He.ga K "BadBits")) (.ref (He.ga K "BadLetters")) = some false),
  fun K => decide (PySem.W.kitOne K (.ref (He.ga K "BadBits")) (.type "ValueError") = some true),
  fun K => (He.eqO (PySem.W.findIn K (.ref (He.ga K "NoBits")) "__getattribute__") (some (some (.builtin "BaseException.__getattribute__"))) && (He.eqO (PySem.W.findIn K (.ref (He.ga K "NoBits")) "__getattr__") (some none) && (decide (PySem.W.subIn K (.ref (He.ga K "NoBits")) (.type "BaseException") = some true) && (PySem.W.hasDictIn K (He.ga K "NoBits") && (He.eqO (PySem.W.findIn K (.ref (He.ga K "NoBits")) "__class__") (some (some (.builtin "object.__class__"))) && (He.eqO (PySem.W.specialIn K (.builtin "object.__class__") "__get__") (some (some (.builtin "getset_descriptor.__get__"))) && (decide (PySem.W.takesIn K (.builtin "object.__class__") = some true) && (decide (PySem.W.mroIn K (He.ga K "NoBits") (.type "object") = some true))))))))),
  fun K => decide (PySem.W.exmOne K (.ref (He.ga K "NoBits")) (.ref (He.ga K "PressError")) = some true),
  fun K => decide (PySem.W.kitOne K (.ref (He.ga K "NoBits")) (.ref (He.ga K "BadRow")) = some false),
  fun K => decide (PySem.W.kitOne K (.ref (He.ga K "NoBits")) (.ref (He.ga K "BadBits")) = some false),
  fun K => decide (PySem.W.kitOne K (.ref (He.ga K "NoBits")) (.ref (He.ga K "NoBits")) = some true),
  fun K => decide (PySem.W.kitOne K (.ref (He.ga K "NoBits")) (.ref (He.ga K "BadShares")) = some false),
  fun K => decide (PySem.W.kitOne K (.ref (He.ga K "NoBits")) (.ref (He.ga K "BadLengths")) = some false),
  fun K => decide (PySem.W.kitOne K (.ref (He.ga K "NoBits")) (.ref (He.ga K "BadCode")) = some false),
  fun K => decide (PySem.W.kitOne K (.ref (He.ga K "NoBits")) (.ref (He.ga K "BadTable")) = some false),
  fun K => decide (PySem.W.kitOne K (.ref (He.ga K "NoBits")) (.ref (He.ga K "Cut")) = some false),
  fun K => decide (PySem.W.kitOne K (.ref (He.ga K "NoBits")) (.ref (He.ga K "BadPieces")) = some false),
  fun K => decide (PySem.W.kitOne K (.ref (He.ga K "NoBits")) (.ref (He.ga K "BadBody")) = some false),
  fun K => decide (PySem.W.kitOne K (.ref (He.ga K "NoBits")) (.ref (He.ga K "BadHead")) = some false),
  fun K => decide (PySem.W.kitOne K (.ref (He.ga K "NoBits")) (.ref (He.ga K "BadCheck")) = some false),
  fun K => decide (PySem.W.kitOne K (.ref (He.ga K "NoBits")) (.ref (He.ga K "BadMark")) = some false),
  fun K => decide (PySem.W.kitOne K (.ref (He.ga K "NoBits")) (.ref (He.ga K "BadTail")) = some false),
  fun K => decide (PySem.W.kitOne K (.ref (He.ga K "NoBits")) (.ref (He.ga K "Behind")) = some false),
  fun K => decide (PySem.W.kitOne K (.ref (He.ga K "NoBits")) (.ref (He.ga K "Over")) = some false),
  fun K => decide (PySem.W.kitOne K (.ref (He.ga K "NoBits")) (.ref (He.ga K "NoRange")) = some false),
  fun K => decide (PySem.W.kitOne K (.ref (He.ga K "NoBits")) (.ref (He.ga K "BadLetters")) = some false),
  fun K => decide (PySem.W.kitOne K (.ref (He.ga K "NoBits")) (.type "ValueError") = some true)]
def ex (K : PySem.W.Frag) : Bool := exs.all fun e => e K
theorem ex_at {K : PySem.W.Frag} (h : ex K = true) (i : Nat) {e : PySem.W.Frag → Bool} (he : exs[i]? = some e := by rfl) : e K = true := List.all_eq_true.mp h e (List.mem_of_getElem? he)
abbrev hk : PySem.W.Hook := He.hookX 6 fa fn [] [] ex
def ob (s : PySem.W.SharedT) : He.AlX := He.obsX 6 fa fn [] [] ex (HandSHeadRun.getT s)
theorem ob_eq (s : PySem.W.SharedT) : ob s = hk.obs s.abs := He.obsX_eq (HandSHeadRun.getT_eq s)
def loose0 : List PySem.Str := ["PressError", "ValueError", "BadRow", "BadBits", "NoBits", "BadShares", "BadLengths", "BadCode", "BadTable", "BadPieces", "BadBody", "BadHead", "BadCheck", "BadMark", "BadTail", "Cut", "Behind", "Over", "NoRange", "BadLetters", "MOST_BYTE", "is_byte", "is_row", "need_row", "BYTE", "MOST_SIZE", "is_number", "need_size", "BitReader", "_law_cell_at"]
def loose1 : List PySem.Str := ["_law_mixed", "_law_word", "_law_digits_of", "_law_number", "_law_taken", "_law_stands", "_law_truth", "_law_gone", "_law_step", "_law_refused"]
abbrev loose : List PySem.Str := loose0 ++ loose1
theorem run (w : World) : HandSHeadRun.RunEq R (PySem.W.view R.prog [43]) hk ob 40000 loose w := by
  intro os
  kernel_rfl
end L2.BH
namespace L2.BW
open PySem PySem.Spec PyProof.Rows L2.BP L2.BR L2.BH L2H
structure Tx (K : PySem.W.Frag) (mg : Str → Option Value) : Prop where
  g_PressError : mg "PressError" = some (.ref (He.ga K "PressError"))
  x_PressError : PySem.W.excIn K (He.ga K "PressError") He.veBase "ValueError.__new__" = true ∧ PySem.W.keepIn K (.ref (He.ga K "PressError")) = true ∧ PySem.W.subIn K (.ref (He.ga K "PressError")) (.type "BaseException") = some true ∧ PySem.W.typeIn K (.ref (He.ga K "PressError")) = some (.type "type")
  g_BadRow : mg "BadRow" = some (.ref (He.ga K "BadRow"))
  x_BadRow : PySem.W.excIn K (He.ga K "BadRow") He.veBase "ValueError.__new__" = true ∧ PySem.W.keepIn K (.ref (He.ga K "BadRow")) = true ∧ PySem.W.subIn K (.ref (He.ga K "BadRow")) (.type "BaseException") = some true ∧ PySem.W.typeIn K (.ref (He.ga K "BadRow")) = some (.type "type")
  g_BadBits : mg "BadBits" = some (.ref (He.ga K "BadBits"))
  x_BadBits : PySem.W.excIn K (He.ga K "BadBits") He.veBase "ValueError.__new__" = true ∧ PySem.W.keepIn K (.ref (He.ga K "BadBits")) = true ∧ PySem.W.subIn K (.ref (He.ga K "BadBits")) (.type "BaseException") = some true ∧ PySem.W.typeIn K (.ref (He.ga K "BadBits")) = some (.type "type")
  g_NoBits : mg "NoBits" = some (.ref (He.ga K "NoBits"))
  x_NoBits : PySem.W.excIn K (He.ga K "NoBits") He.veBase "ValueError.__new__" = true ∧ PySem.W.keepIn K (.ref (He.ga K "NoBits")) = true ∧ PySem.W.subIn K (.ref (He.ga K "NoBits")) (.type "BaseException") = some true ∧ PySem.W.typeIn K (.ref (He.ga K "NoBits")) = some (.type "type")
  g_BadShares : mg "BadShares" = some (.ref (He.ga K "BadShares"))
  x_BadShares : PySem.W.excIn K (He.ga K "BadShares") He.veBase "ValueError.__new__" = true ∧ PySem.W.keepIn K (.ref (He.ga K "BadShares")) = true ∧ PySem.W.subIn K (.ref (He.ga K "BadShares")) (.type "BaseException") = some true ∧ PySem.W.typeIn K (.ref (He.ga K "BadShares")) = some (.type "type")
  g_BadLengths : mg "BadLengths" = some (.ref (He.ga K "BadLengths"))
  x_BadLengths : PySem.W.excIn K (He.ga K "BadLengths") He.veBase "ValueError.__new__" = true ∧ PySem.W.keepIn K (.ref (He.ga K "BadLengths")) = true ∧ PySem.W.subIn K (.ref (He.ga K "BadLengths")) (.type "BaseException") = some true ∧ PySem.W.typeIn K (.ref (He.ga K "BadLengths")) = some (.type "type")
  g_BadCode : mg "BadCode" = some (.ref (He.ga K "BadCode"))
  x_BadCode : PySem.W.excIn K (He.ga K "BadCode") He.veBase "ValueError.__new__" = true ∧ PySem.W.keepIn K (.ref (He.ga K "BadCode")) = true ∧ PySem.W.subIn K (.ref (He.ga K "BadCode")) (.type "BaseException") = some true ∧ PySem.W.typeIn K (.ref (He.ga K "BadCode")) = some (.type "type")
  g_BadTable : mg "BadTable" = some (.ref (He.ga K "BadTable"))
  x_BadTable : PySem.W.excIn K (He.ga K "BadTable") He.veBase "ValueError.__new__" = true ∧ PySem.W.keepIn K (.ref (He.ga K "BadTable")) = true ∧ PySem.W.subIn K (.ref (He.ga K "BadTable")) (.type "BaseException") = some true ∧ PySem.W.typeIn K (.ref (He.ga K "BadTable")) = some (.type "type")
  g_BadPieces : mg "BadPieces" = some (.ref (He.ga K "BadPieces"))
  x_BadPieces : PySem.W.excIn K (He.ga K "BadPieces") He.veBase "ValueError.__new__" = true ∧ PySem.W.keepIn K (.ref (He.ga K "BadPieces")) = true ∧ PySem.W.subIn K (.ref (He.ga K "BadPieces")) (.type "BaseException") = some true ∧ PySem.W.typeIn K (.ref (He.ga K "BadPieces")) = some (.type "type")
  g_BadBody : mg "BadBody" = some (.ref (He.ga K "BadBody"))
  x_BadBody : PySem.W.excIn K (He.ga K "BadBody") He.veBase "ValueError.__new__" = true ∧ PySem.W.keepIn K (.ref (He.ga K "BadBody")) = true ∧ PySem.W.subIn K (.ref (He.ga K "BadBody")) (.type "BaseException") = some true ∧ PySem.W.typeIn K (.ref (He.ga K "BadBody")) = some (.type "type")
  g_BadHead : mg "BadHead" = some (.ref (He.ga K "BadHead"))
  x_BadHead : PySem.W.excIn K (He.ga K "BadHead") He.veBase "ValueError.__new__" = true ∧ PySem.W.keepIn K (.ref (He.ga K "BadHead")) = true ∧ PySem.W.subIn K (.ref (He.ga K "BadHead")) (.type "BaseException") = some true ∧ PySem.W.typeIn K (.ref (He.ga K "BadHead")) = some (.type "type")
  g_BadCheck : mg "BadCheck" = some (.ref (He.ga K "BadCheck"))
  x_BadCheck : PySem.W.excIn K (He.ga K "BadCheck") He.veBase "ValueError.__new__" = true ∧ PySem.W.keepIn K (.ref (He.ga K "BadCheck")) = true ∧ PySem.W.subIn K (.ref (He.ga K "BadCheck")) (.type "BaseException") = some true ∧ PySem.W.typeIn K (.ref (He.ga K "BadCheck")) = some (.type "type")
  g_BadMark : mg "BadMark" = some (.ref (He.ga K "BadMark"))
  x_BadMark : PySem.W.excIn K (He.ga K "BadMark") He.veBase "ValueError.__new__" = true ∧ PySem.W.keepIn K (.ref (He.ga K "BadMark")) = true ∧ PySem.W.subIn K (.ref (He.ga K "BadMark")) (.type "BaseException") = some true ∧ PySem.W.typeIn K (.ref (He.ga K "BadMark")) = some (.type "type")
  g_BadTail : mg "BadTail" = some (.ref (He.ga K "BadTail"))
  x_BadTail : PySem.W.excIn K (He.ga K "BadTail") He.veBase "ValueError.__new__" = true ∧ PySem.W.keepIn K (.ref (He.ga K "BadTail")) = true ∧ PySem.W.subIn K (.ref (He.ga K "BadTail")) (.type "BaseException") = some true ∧ PySem.W.typeIn K (.ref (He.ga K "BadTail")) = some (.type "type")
  g_Cut : mg "Cut" = some (.ref (He.ga K "Cut"))
  x_Cut : PySem.W.excIn K (He.ga K "Cut") He.veBase "ValueError.__new__" = true ∧ PySem.W.keepIn K (.ref (He.ga K "Cut")) = true ∧ PySem.W.subIn K (.ref (He.ga K "Cut")) (.type "BaseException") = some true ∧ PySem.W.typeIn K (.ref (He.ga K "Cut")) = some (.type "type")
  g_Behind : mg "Behind" = some (.ref (He.ga K "Behind"))
  x_Behind : PySem.W.excIn K (He.ga K "Behind") He.veBase "ValueError.__new__" = true ∧ PySem.W.keepIn K (.ref (He.ga K "Behind")) = true ∧ PySem.W.subIn K (.ref (He.ga K "Behind")) (.type "BaseException") = some true ∧ PySem.W.typeIn K (.ref (He.ga K "Behind")) = some (.type "type")
  g_Over : mg "Over" = some (.ref (He.ga K "Over"))
  x_Over : PySem.W.excIn K (He.ga K "Over") He.veBase "ValueError.__new__" = true ∧ PySem.W.keepIn K (.ref (He.ga K "Over")) = true ∧ PySem.W.subIn K (.ref (He.ga K "Over")) (.type "BaseException") = some true ∧ PySem.W.typeIn K (.ref (He.ga K "Over")) = some (.type "type")
  g_NoRange : mg "NoRange" = some (.ref (He.ga K "NoRange"))
  x_NoRange : PySem.W.excIn K (He.ga K "NoRange") He.veBase "ValueError.__new__" = true ∧ PySem.W.keepIn K (.ref (He.ga K "NoRange")) = true ∧ PySem.W.subIn K (.ref (He.ga K "NoRange")) (.type "BaseException") = some true ∧ PySem.W.typeIn K (.ref (He.ga K "NoRange")) = some (.type "type")
  g_BadLetters : mg "BadLetters" = some (.ref (He.ga K "BadLetters"))
  x_BadLetters : PySem.W.excIn K (He.ga K "BadLetters") He.veBase "ValueError.__new__" = true ∧ PySem.W.keepIn K (.ref (He.ga K "BadLetters")) = true ∧ PySem.W.subIn K (.ref (He.ga K "BadLetters")) (.type "BaseException") = some true ∧ PySem.W.typeIn K (.ref (He.ga K "BadLetters")) = some (.type "type")
  g_MOST_BYTE : ∃ t, mg "MOST_BYTE" = some (.int 255 t)
  g_is_byte : mg "is_byte" = some (.ref (He.ga K "is_byte"))
  g_is_row : mg "is_row" = some (.ref (He.ga K "is_row"))
  g_need_row : mg "need_row" = some (.ref (He.ga K "need_row"))
  g_BYTE : ∃ t, mg "BYTE" = some (.int 8 t)
  g_MOST_SIZE : ∃ t, mg "MOST_SIZE" = some (.int 24 t)
  g_is_number : mg "is_number" = some (.ref (He.ga K "is_number"))
  g_need_size : mg "need_size" = some (.ref (He.ga K "need_size"))
  g_BitReader : mg "BitReader" = some (.ref (He.ga K "BitReader"))
  c_BitReader : Cls K (He.ga K "BitReader")
  n_BitReader_source : NoAttr K (He.ga K "BitReader") "source"
  n_BitReader_taken : NoAttr K (He.ga K "BitReader") "taken"
  m_BitReader___init__ : Meth K (He.ga K "BitReader") "__init__" (He.ma K (He.ga K "BitReader") "__init__")
  m_BitReader_left : Meth K (He.ga K "BitReader") "left" (He.ma K (He.ga K "BitReader") "left")
  m_BitReader_place : Meth K (He.ga K "BitReader") "place" (He.ma K (He.ga K "BitReader") "place")
  m_BitReader_go : Meth K (He.ga K "BitReader") "go" (He.ma K (He.ga K "BitReader") "go")
  m_BitReader_take : Meth K (He.ga K "BitReader") "take" (He.ma K (He.ga K "BitReader") "take")
  m_BitReader_at_end : Meth K (He.ga K "BitReader") "at_end" (He.ma K (He.ga K "BitReader") "at_end")
  k_BitReader : Mk K (He.ga K "BitReader") (He.ma K (He.ga K "BitReader") "__init__")
  g__law_cell_at : mg "_law_cell_at" = some (.ref (He.ga K "_law_cell_at"))
  g__law_mixed : mg "_law_mixed" = some (.ref (He.ga K "_law_mixed"))
  g__law_word : mg "_law_word" = some (.ref (He.ga K "_law_word"))
  g__law_digits_of : mg "_law_digits_of" = some (.ref (He.ga K "_law_digits_of"))
  g__law_number : mg "_law_number" = some (.ref (He.ga K "_law_number"))
  g__law_taken : mg "_law_taken" = some (.ref (He.ga K "_law_taken"))
  g__law_stands : mg "_law_stands" = some (.ref (He.ga K "_law_stands"))
  g__law_truth : mg "_law_truth" = some (.ref (He.ga K "_law_truth"))
  g__law_gone : mg "_law_gone" = some (.ref (He.ga K "_law_gone"))
  g__law_step : mg "_law_step" = some (.ref (He.ga K "_law_step"))
  g__law_refused : mg "_law_refused" = some (.ref (He.ga K "_law_refused"))
  g_law : mg "law" = some (.ref (He.ga K "law"))
  f_all : mg "all" = none
  f_bool : mg "bool" = none
  f_divmod : mg "divmod" = none
  f_int : mg "int" = none
  f_isinstance : mg "isinstance" = none
  f_len : mg "len" = none
  f_list : mg "list" = none
  f_min : mg "min" = none
  f_range : mg "range" = none
  f_tuple : mg "tuple" = none
  f_ValueError : mg "ValueError" = none
  e_BadRow : L2.ExcC K (He.ga K "BadRow")
  y_BadRow_PressError : PySem.W.exmOne K (.ref (He.ga K "BadRow")) (.ref (He.ga K "PressError")) = some true
  s_BadRow_BadRow : PySem.W.kitOne K (.ref (He.ga K "BadRow")) (.ref (He.ga K "BadRow")) = some true
  s_BadRow_BadBits : PySem.W.kitOne K (.ref (He.ga K "BadRow")) (.ref (He.ga K "BadBits")) = some false
  s_BadRow_NoBits : PySem.W.kitOne K (.ref (He.ga K "BadRow")) (.ref (He.ga K "NoBits")) = some false
  s_BadRow_BadShares : PySem.W.kitOne K (.ref (He.ga K "BadRow")) (.ref (He.ga K "BadShares")) = some false
  s_BadRow_BadLengths : PySem.W.kitOne K (.ref (He.ga K "BadRow")) (.ref (He.ga K "BadLengths")) = some false
  s_BadRow_BadCode : PySem.W.kitOne K (.ref (He.ga K "BadRow")) (.ref (He.ga K "BadCode")) = some false
  s_BadRow_BadTable : PySem.W.kitOne K (.ref (He.ga K "BadRow")) (.ref (He.ga K "BadTable")) = some false
  s_BadRow_Cut : PySem.W.kitOne K (.ref (He.ga K "BadRow")) (.ref (He.ga K "Cut")) = some false
  s_BadRow_BadPieces : PySem.W.kitOne K (.ref (He.ga K "BadRow")) (.ref (He.ga K "BadPieces")) = some false
  s_BadRow_BadBody : PySem.W.kitOne K (.ref (He.ga K "BadRow")) (.ref (He.ga K "BadBody")) = some false
  s_BadRow_BadHead : PySem.W.kitOne K (.ref (He.ga K "BadRow")) (.ref (He.ga K "BadHead")) = some false
  s_BadRow_BadCheck : PySem.W.kitOne K (.ref (He.ga K "BadRow")) (.ref (He.ga K "BadCheck")) = some false
  s_BadRow_BadMark : PySem.W.kitOne K (.ref (He.ga K "BadRow")) (.ref (He.ga K "BadMark")) = some false
  s_BadRow_BadTail : PySem.W.kitOne K (.ref (He.ga K "BadRow")) (.ref (He.ga K "BadTail")) = some false
  s_BadRow_Behind : PySem.W.kitOne K (.ref (He.ga K "BadRow")) (.ref (He.ga K "Behind")) = some false
  s_BadRow_Over : PySem.W.kitOne K (.ref (He.ga K "BadRow")) (.ref (He.ga K "Over")) = some false
  s_BadRow_NoRange : PySem.W.kitOne K (.ref (He.ga K "BadRow")) (.ref (He.ga K "NoRange")) = some false
  s_BadRow_BadLetters : PySem.W.kitOne K (.ref (He.ga K "BadRow")) (.ref (He.ga K "BadLetters")) = some false
  v_BadRow_ValueError : PySem.W.kitOne K (.ref (He.ga K "BadRow")) (.type "ValueError") = some true
  e_BadBits : L2.ExcC K (He.ga K "BadBits")
  y_BadBits_PressError : PySem.W.exmOne K (.ref (He.ga K "BadBits")) (.ref (He.ga K "PressError")) = some true
  s_BadBits_BadRow : PySem.W.kitOne K (.ref (He.ga K "BadBits")) (.ref (He.ga K "BadRow")) = some false
  s_BadBits_BadBits : PySem.W.kitOne K (.ref (He.ga K "BadBits")) (.ref (He.ga K "BadBits")) = some true
  s_BadBits_NoBits : PySem.W.kitOne K (.ref (He.ga K "BadBits")) (.ref (He.ga K "NoBits")) = some false
  s_BadBits_BadShares : PySem.W.kitOne K (.ref (He.ga K "BadBits")) (.ref (He.ga K "BadShares")) = some false
  s_BadBits_BadLengths : PySem.W.kitOne K (.ref (He.ga K "BadBits")) (.ref (He.ga K "BadLengths")) = some false
  s_BadBits_BadCode : PySem.W.kitOne K (.ref (He.ga K "BadBits")) (.ref (He.ga K "BadCode")) = some false
  s_BadBits_BadTable : PySem.W.kitOne K (.ref (He.ga K "BadBits")) (.ref (He.ga K "BadTable")) = some false
  s_BadBits_Cut : PySem.W.kitOne K (.ref (He.ga K "BadBits")) (.ref (He.ga K "Cut")) = some false
  s_BadBits_BadPieces : PySem.W.kitOne K (.ref (He.ga K "BadBits")) (.ref (He.ga K "BadPieces")) = some false
  s_BadBits_BadBody : PySem.W.kitOne K (.ref (He.ga K "BadBits")) (.ref (He.ga K "BadBody")) = some false
  s_BadBits_BadHead : PySem.W.kitOne K (.ref (He.ga K "BadBits")) (.ref (He.ga K "BadHead")) = some false
  s_BadBits_BadCheck : PySem.W.kitOne K (.ref (He.ga K "BadBits")) (.ref (He.ga K "BadCheck")) = some false
  s_BadBits_BadMark : PySem.W.kitOne K (.ref (He.ga K "BadBits")) (.ref (He.ga K "BadMark")) = some false
  s_BadBits_BadTail : PySem.W.kitOne K (.ref (He.ga K "BadBits")) (.ref (He.ga K "BadTail")) = some false
  s_BadBits_Behind : PySem.W.kitOne K (.ref (He.ga K "BadBits")) (.ref (He.ga K "Behind")) = some false
  s_BadBits_Over : PySem.W.kitOne K (.ref (He.ga K "BadBits")) (.ref (He.ga K "Over")) = some false
  s_BadBits_NoRange : PySem.W.kitOne K (.ref (He.ga K "BadBits")) (.ref (He.ga K "NoRange")) = some false
  s_BadBits_BadLetters : PySem.W.kitOne K (.ref (He.ga K "BadBits")) (.ref (He.ga K "BadLetters")) = some false
  v_BadBits_ValueError : PySem.W.kitOne K (.ref (He.ga K "BadBits")) (.type "ValueError") = some true
  e_NoBits : L2.ExcC K (He.ga K "NoBits")
  y_NoBits_PressError : PySem.W.exmOne K (.ref (He.ga K "NoBits")) (.ref (He.ga K "PressError")) = some true
  s_NoBits_BadRow : PySem.W.kitOne K (.ref (He.ga K "NoBits")) (.ref (He.ga K "BadRow")) = some false
  s_NoBits_BadBits : PySem.W.kitOne K (.ref (He.ga K "NoBits")) (.ref (He.ga K "BadBits")) = some false
  s_NoBits_NoBits : PySem.W.kitOne K (.ref (He.ga K "NoBits")) (.ref (He.ga K "NoBits")) = some true
  s_NoBits_BadShares : PySem.W.kitOne K (.ref (He.ga K "NoBits")) (.ref (He.ga K "BadShares")) = some false
  s_NoBits_BadLengths : PySem.W.kitOne K (.ref (He.ga K "NoBits")) (.ref (He.ga K "BadLengths")) = some false
  s_NoBits_BadCode : PySem.W.kitOne K (.ref (He.ga K "NoBits")) (.ref (He.ga K "BadCode")) = some false
  s_NoBits_BadTable : PySem.W.kitOne K (.ref (He.ga K "NoBits")) (.ref (He.ga K "BadTable")) = some false
  s_NoBits_Cut : PySem.W.kitOne K (.ref (He.ga K "NoBits")) (.ref (He.ga K "Cut")) = some false
  s_NoBits_BadPieces : PySem.W.kitOne K (.ref (He.ga K "NoBits")) (.ref (He.ga K "BadPieces")) = some false
  s_NoBits_BadBody : PySem.W.kitOne K (.ref (He.ga K "NoBits")) (.ref (He.ga K "BadBody")) = some false
  s_NoBits_BadHead : PySem.W.kitOne K (.ref (He.ga K "NoBits")) (.ref (He.ga K "BadHead")) = some false
  s_NoBits_BadCheck : PySem.W.kitOne K (.ref (He.ga K "NoBits")) (.ref (He.ga K "BadCheck")) = some false
  s_NoBits_BadMark : PySem.W.kitOne K (.ref (He.ga K "NoBits")) (.ref (He.ga K "BadMark")) = some false
  s_NoBits_BadTail : PySem.W.kitOne K (.ref (He.ga K "NoBits")) (.ref (He.ga K "BadTail")) = some false
  s_NoBits_Behind : PySem.W.kitOne K (.ref (He.ga K "NoBits")) (.ref (He.ga K "Behind")) = some false
  s_NoBits_Over : PySem.W.kitOne K (.ref (He.ga K "NoBits")) (.ref (He.ga K "Over")) = some false
  s_NoBits_NoRange : PySem.W.kitOne K (.ref (He.ga K "NoBits")) (.ref (He.ga K "NoRange")) = some false
  s_NoBits_BadLetters : PySem.W.kitOne K (.ref (He.ga K "NoBits")) (.ref (He.ga K "BadLetters")) = some false
  v_NoBits_ValueError : PySem.W.kitOne K (.ref (He.ga K "NoBits")) (.type "ValueError") = some true
  d__law_cell_at : ∃ fd, FunD K d__law_cell_at.name d__law_cell_at.qual d__law_cell_at.params d__law_cell_at.body d__law_cell_at.scope (d__law_cell_at.dvs K) (d__law_cell_at.kws K) (He.fAd K d__law_cell_at.at_) fd
  d__law_mixed : ∃ fd, FunD K d__law_mixed.name d__law_mixed.qual d__law_mixed.params d__law_mixed.body d__law_mixed.scope (d__law_mixed.dvs K) (d__law_mixed.kws K) (He.fAd K d__law_mixed.at_) fd
  d_is_byte : ∃ fd, FunD K d_is_byte.name d_is_byte.qual d_is_byte.params d_is_byte.body d_is_byte.scope (d_is_byte.dvs K) (d_is_byte.kws K) (He.fAd K d_is_byte.at_) fd
  d_is_row : ∃ fd, FunD K d_is_row.name d_is_row.qual d_is_row.params d_is_row.body d_is_row.scope (d_is_row.dvs K) (d_is_row.kws K) (He.fAd K d_is_row.at_) fd
  d_need_row : ∃ fd, FunD K d_need_row.name d_need_row.qual d_need_row.params d_need_row.body d_need_row.scope (d_need_row.dvs K) (d_need_row.kws K) (He.fAd K d_need_row.at_) fd
  d_BitReader___init__ : ∃ fd, FunD K d_BitReader___init__.name d_BitReader___init__.qual d_BitReader___init__.params d_BitReader___init__.body d_BitReader___init__.scope (d_BitReader___init__.dvs K) (d_BitReader___init__.kws K) (He.fAd K d_BitReader___init__.at_) fd
  d__law_digits_of : ∃ fd, FunD K d__law_digits_of.name d__law_digits_of.qual d__law_digits_of.params d__law_digits_of.body d__law_digits_of.scope (d__law_digits_of.dvs K) (d__law_digits_of.kws K) (He.fAd K d__law_digits_of.at_) fd
  d_is_number : ∃ fd, FunD K d_is_number.name d_is_number.qual d_is_number.params d_is_number.body d_is_number.scope (d_is_number.dvs K) (d_is_number.kws K) (He.fAd K d_is_number.at_) fd
  d_BitReader_go : ∃ fd, FunD K d_BitReader_go.name d_BitReader_go.qual d_BitReader_go.params d_BitReader_go.body d_BitReader_go.scope (d_BitReader_go.dvs K) (d_BitReader_go.kws K) (He.fAd K d_BitReader_go.at_) fd
  d__law_word : ∃ fd, FunD K d__law_word.name d__law_word.qual d__law_word.params d__law_word.body d__law_word.scope (d__law_word.dvs K) (d__law_word.kws K) (He.fAd K d__law_word.at_) fd
  d_BitReader_left : ∃ fd, FunD K d_BitReader_left.name d_BitReader_left.qual d_BitReader_left.params d_BitReader_left.body d_BitReader_left.scope (d_BitReader_left.dvs K) (d_BitReader_left.kws K) (He.fAd K d_BitReader_left.at_) fd
  d__law_truth : ∃ fd, FunD K d__law_truth.name d__law_truth.qual d__law_truth.params d__law_truth.body d__law_truth.scope (d__law_truth.dvs K) (d__law_truth.kws K) (He.fAd K d__law_truth.at_) fd
  d_BitReader_at_end : ∃ fd, FunD K d_BitReader_at_end.name d_BitReader_at_end.qual d_BitReader_at_end.params d_BitReader_at_end.body d_BitReader_at_end.scope (d_BitReader_at_end.dvs K) (d_BitReader_at_end.kws K) (He.fAd K d_BitReader_at_end.at_) fd
  d_BitReader_place : ∃ fd, FunD K d_BitReader_place.name d_BitReader_place.qual d_BitReader_place.params d_BitReader_place.body d_BitReader_place.scope (d_BitReader_place.dvs K) (d_BitReader_place.kws K) (He.fAd K d_BitReader_place.at_) fd
  d__law_stands : ∃ fd, FunD K d__law_stands.name d__law_stands.qual d__law_stands.params d__law_stands.body d__law_stands.scope (d__law_stands.dvs K) (d__law_stands.kws K) (He.fAd K d__law_stands.at_) fd
  d__law_gone : ∃ fd, FunD K d__law_gone.name d__law_gone.qual d__law_gone.params d__law_gone.body d__law_gone.scope (d__law_gone.dvs K) (d__law_gone.kws K) (He.fAd K d__law_gone.at_) fd
  d_need_size : ∃ fd, FunD K d_need_size.name d_need_size.qual d_need_size.params d_need_size.body d_need_size.scope (d_need_size.dvs K) (d_need_size.kws K) (He.fAd K d_need_size.at_) fd
  d_BitReader_take : ∃ fd, FunD K d_BitReader_take.name d_BitReader_take.qual d_BitReader_take.params d_BitReader_take.body d_BitReader_take.scope (d_BitReader_take.dvs K) (d_BitReader_take.kws K) (He.fAd K d_BitReader_take.at_) fd
  d__law_taken : ∃ fd, FunD K d__law_taken.name d__law_taken.qual d__law_taken.params d__law_taken.body d__law_taken.scope (d__law_taken.dvs K) (d__law_taken.kws K) (He.fAd K d__law_taken.at_) fd
  d__law_number : ∃ fd, FunD K d__law_number.name d__law_number.qual d__law_number.params d__law_number.body d__law_number.scope (d__law_number.dvs K) (d__law_number.kws K) (He.fAd K d__law_number.at_) fd
  d__law_step : ∃ fd, FunD K d__law_step.name d__law_step.qual d__law_step.params d__law_step.body d__law_step.scope (d__law_step.dvs K) (d__law_step.kws K) (He.fAd K d__law_step.at_) fd
  d__law_refused : ∃ fd, FunD K d__law_refused.name d__law_refused.qual d__law_refused.params d__law_refused.body d__law_refused.scope (d__law_refused.dvs K) (d__law_refused.kws K) (He.fAd K d__law_refused.at_) fd
  d_law : ∃ fd, FunD K d_law.name d_law.qual d_law.params d_law.body d_law.scope (d_law.dvs K) (d_law.kws K) (He.fAd K d_law.at_) fd
theorem tx_of {K : PySem.W.Frag} {h : Heap} {mg : Str → Option Value} (X : K.In h) (G : h.Ns mainGlobals mg) (c : He.SaysD fa fn K) (ce : ex K = true) : Tx K mg where
  g_PressError := He.glo_ok X G (c.fact 0 (f := .glo "PressError") rfl)
  x_PressError := He.exc_ok (c.fact 1 (f := .exc "PressError") rfl)
  g_BadRow := He.glo_ok X G (c.fact 2 (f := .glo "BadRow") rfl)
  x_BadRow := He.exc_ok (c.fact 3 (f := .exc "BadRow") rfl)
  g_BadBits := He.glo_ok X G (c.fact 4 (f := .glo "BadBits") rfl)
  x_BadBits := He.exc_ok (c.fact 5 (f := .exc "BadBits") rfl)
  g_NoBits := He.glo_ok X G (c.fact 6 (f := .glo "NoBits") rfl)
  x_NoBits := He.exc_ok (c.fact 7 (f := .exc "NoBits") rfl)
  g_BadShares := He.glo_ok X G (c.fact 8 (f := .glo "BadShares") rfl)
  x_BadShares := He.exc_ok (c.fact 9 (f := .exc "BadShares") rfl)
  g_BadLengths := He.glo_ok X G (c.fact 10 (f := .glo "BadLengths") rfl)
  x_BadLengths := He.exc_ok (c.fact 11 (f := .exc "BadLengths") rfl)
  g_BadCode := He.glo_ok X G (c.fact 12 (f := .glo "BadCode") rfl)
  x_BadCode := He.exc_ok (c.fact 13 (f := .exc "BadCode") rfl)
  g_BadTable := He.glo_ok X G (c.fact 14 (f := .glo "BadTable") rfl)
  x_BadTable := He.exc_ok (c.fact 15 (f := .exc "BadTable") rfl)
  g_BadPieces := He.glo_ok X G (c.fact 16 (f := .glo "BadPieces") rfl)
  x_BadPieces := He.exc_ok (c.fact 17 (f := .exc "BadPieces") rfl)
  g_BadBody := He.glo_ok X G (c.fact 18 (f := .glo "BadBody") rfl)
  x_BadBody := He.exc_ok (c.fact 19 (f := .exc "BadBody") rfl)
  g_BadHead := He.glo_ok X G (c.fact 20 (f := .glo "BadHead") rfl)
  x_BadHead := He.exc_ok (c.fact 21 (f := .exc "BadHead") rfl)
  g_BadCheck := He.glo_ok X G (c.fact 22 (f := .glo "BadCheck") rfl)
  x_BadCheck := He.exc_ok (c.fact 23 (f := .exc "BadCheck") rfl)
  g_BadMark := He.glo_ok X G (c.fact 24 (f := .glo "BadMark") rfl)
  x_BadMark := He.exc_ok (c.fact 25 (f := .exc "BadMark") rfl)
  g_BadTail := He.glo_ok X G (c.fact 26 (f := .glo "BadTail") rfl)
  x_BadTail := He.exc_ok (c.fact 27 (f := .exc "BadTail") rfl)
  g_Cut := He.glo_ok X G (c.fact 28 (f := .glo "Cut") rfl)
  x_Cut := He.exc_ok (c.fact 29 (f := .exc "Cut") rfl)
  g_Behind := He.glo_ok X G (c.fact 30 (f := .glo "Behind") rfl)
  x_Behind := He.exc_ok (c.fact 31 (f := .exc "Behind") rfl)
  g_Over := He.glo_ok X G (c.fact 32 (f := .glo "Over") rfl)
  x_Over := He.exc_ok (c.fact 33 (f := .exc "Over") rfl)
  g_NoRange := He.glo_ok X G (c.fact 34 (f := .glo "NoRange") rfl)
  x_NoRange := He.exc_ok (c.fact 35 (f := .exc "NoRange") rfl)
  g_BadLetters := He.glo_ok X G (c.fact 36 (f := .glo "BadLetters") rfl)
  x_BadLetters := He.exc_ok (c.fact 37 (f := .exc "BadLetters") rfl)
  g_MOST_BYTE := He.int_ok X G (c.fact 38 (f := .int "MOST_BYTE" 255) rfl)
  g_is_byte := He.glo_ok X G (c.fact 39 (f := .glo "is_byte") rfl)
  g_is_row := He.glo_ok X G (c.fact 40 (f := .glo "is_row") rfl)
  g_need_row := He.glo_ok X G (c.fact 41 (f := .glo "need_row") rfl)
  g_BYTE := He.int_ok X G (c.fact 42 (f := .int "BYTE" 8) rfl)
  g_MOST_SIZE := He.int_ok X G (c.fact 43 (f := .int "MOST_SIZE" 24) rfl)
  g_is_number := He.glo_ok X G (c.fact 44 (f := .glo "is_number") rfl)
  g_need_size := He.glo_ok X G (c.fact 45 (f := .glo "need_size") rfl)
  g_BitReader := He.glo_ok X G (c.fact 46 (f := .glo "BitReader") rfl)
  c_BitReader := He.cls_ok (c.fact 47 (f := .cls "BitReader") rfl)
  n_BitReader_source := He.noat_ok (c.fact 48 (f := .noat "BitReader" "source") rfl)
  n_BitReader_taken := He.noat_ok (c.fact 49 (f := .noat "BitReader" "taken") rfl)
  m_BitReader___init__ := He.meth_ok (c.fact 50 (f := .meth "BitReader" "__init__") rfl)
  m_BitReader_left := He.meth_ok (c.fact 51 (f := .meth "BitReader" "left") rfl)
  m_BitReader_place := He.meth_ok (c.fact 52 (f := .meth "BitReader" "place") rfl)
  m_BitReader_go := He.meth_ok (c.fact 53 (f := .meth "BitReader" "go") rfl)
  m_BitReader_take := He.meth_ok (c.fact 54 (f := .meth "BitReader" "take") rfl)
  m_BitReader_at_end := He.meth_ok (c.fact 55 (f := .meth "BitReader" "at_end") rfl)
  k_BitReader := He.mkr_ok (c.fact 56 (f := .mkr "BitReader") rfl)
  g__law_cell_at := He.glo_ok X G (c.fact 57 (f := .glo "_law_cell_at") rfl)
  g__law_mixed := He.glo_ok X G (c.fact 58 (f := .glo "_law_mixed") rfl)
  g__law_word := He.glo_ok X G (c.fact 59 (f := .glo "_law_word") rfl)
  g__law_digits_of := He.glo_ok X G (c.fact 60 (f := .glo "_law_digits_of") rfl)
  g__law_number := He.glo_ok X G (c.fact 61 (f := .glo "_law_number") rfl)
  g__law_taken := He.glo_ok X G (c.fact 62 (f := .glo "_law_taken") rfl)
  g__law_stands := He.glo_ok X G (c.fact 63 (f := .glo "_law_stands") rfl)
  g__law_truth := He.glo_ok X G (c.fact 64 (f := .glo "_law_truth") rfl)
  g__law_gone := He.glo_ok X G (c.fact 65 (f := .glo "_law_gone") rfl)
  g__law_step := He.glo_ok X G (c.fact 66 (f := .glo "_law_step") rfl)
  g__law_refused := He.glo_ok X G (c.fact 67 (f := .glo "_law_refused") rfl)
  g_law := He.glo_ok X G (c.fact 68 (f := .glo "law") rfl)
  f_all := He.free_ok X G (c.fact 69 (f := .free "all") rfl)
  f_bool := He.free_ok X G (c.fact 70 (f := .free "bool") rfl)
  f_divmod := He.free_ok X G (c.fact 71 (f := .free "divmod") rfl)
  f_int := He.free_ok X G (c.fact 72 (f := .free "int") rfl)
  f_isinstance := He.free_ok X G (c.fact 73 (f := .free "isinstance") rfl)
  f_len := He.free_ok X G (c.fact 74 (f := .free "len") rfl)
  f_list := He.free_ok X G (c.fact 75 (f := .free "list") rfl)
  f_min := He.free_ok X G (c.fact 76 (f := .free "min") rfl)
  f_range := He.free_ok X G (c.fact 77 (f := .free "range") rfl)
  f_tuple := He.free_ok X G (c.fact 78 (f := .free "tuple") rfl)
  f_ValueError := He.free_ok X G (c.fact 79 (f := .free "ValueError") rfl)
  e_BadRow := by have h := ex_at ce 0; have z0 := He.ba h; have z1 := He.ba z0.2; have z2 := He.ba z1.2; have z3 := He.ba z2.2; have z4 := He.ba z3.2; have z5 := He.ba z4.2; have z6 := He.ba z5.2; exact ⟨He.eqO_ok z0.1, He.eqO_ok z1.1, of_decide_eq_true z2.1, z3.1, He.eqO_ok z4.1, He.eqO_ok z5.1, of_decide_eq_true z6.1, of_decide_eq_true z6.2⟩
  y_BadRow_PressError := by have h := ex_at ce 1; exact of_decide_eq_true h
  s_BadRow_BadRow := by have h := ex_at ce 2; exact of_decide_eq_true h
  s_BadRow_BadBits := by have h := ex_at ce 3; exact of_decide_eq_true h
  s_BadRow_NoBits := by have h := ex_at ce 4; exact of_decide_eq_true h
  s_BadRow_BadShares := by have h := ex_at ce 5; exact of_decide_eq_true h
  s_BadRow_BadLengths := by have h := ex_at ce 6; exact of_decide_eq_true h
  s_BadRow_BadCode := by have h := ex_at ce 7; exact of_decide_eq_true h
  s_BadRow_BadTable := by have h := ex_at ce 8; exact of_decide_eq_true h
  s_BadRow_Cut := by have h := ex_at ce 9; exact of_decide_eq_true h
  s_BadRow_BadPieces := by have h := ex_at ce 10; exact of_decide_eq_true h
  s_BadRow_BadBody := by have h := ex_at ce 11; exact of_decide_eq_true h
  s_BadRow_BadHead := by have h := ex_at ce 12; exact of_decide_eq_true h
  s_BadRow_BadCheck := by have h := ex_at ce 13; exact of_decide_eq_true h
  s_BadRow_BadMark := by have h := ex_at ce 14; exact of_decide_eq_true h
  s_BadRow_BadTail := by have h := ex_at ce 15; exact of_decide_eq_true h
  s_BadRow_Behind := by have h := ex_at ce 16; exact of_decide_eq_true h
  s_BadRow_Over := by have h := ex_at ce 17; exact of_decide_eq_true h
  s_BadRow_NoRange := by have h := ex_at ce 18; exact of_decide_eq_true h
  s_BadRow_BadLetters := by have h := ex_at ce 19; exact of_decide_eq_true h
  v_BadRow_ValueError := by have h := ex_at ce 20; exact of_decide_eq_true h
  e_BadBits := by have h := ex_at ce 21; have z0 := He.ba h; have z1 := He.ba z0.2; have z2 := He.ba z1.2; have z3 := He.ba z2.2; have z4 := He.ba z3.2; have z5 := He.ba z4.2; have z6 := He.ba z5.2; exact ⟨He.eqO_ok z0.1, He.eqO_ok z1.1, of_decide_eq_true z2.1, z3.1, He.eqO_ok z4.1, He.eqO_ok z5.1, of_decide_eq_true z6.1, of_decide_eq_true z6.2⟩
  y_BadBits_PressError := by have h := ex_at ce 22; exact of_decide_eq_true h
  s_BadBits_BadRow := by have h := ex_at ce 23; exact of_decide_eq_true h
  s_BadBits_BadBits := by have h := ex_at ce 24; exact of_decide_eq_true h
  s_BadBits_NoBits := by have h := ex_at ce 25; exact of_decide_eq_true h
  s_BadBits_BadShares := by have h := ex_at ce 26; exact of_decide_eq_true h
  s_BadBits_BadLengths := by have h := ex_at ce 27; exact of_decide_eq_true h
  s_BadBits_BadCode := by have h := ex_at ce 28; exact of_decide_eq_true h
  s_BadBits_BadTable := by have h := ex_at ce 29; exact of_decide_eq_true h
  s_BadBits_Cut := by have h := ex_at ce 30; exact of_decide_eq_true h
  s_BadBits_BadPieces := by have h := ex_at ce 31; exact of_decide_eq_true h
  s_BadBits_BadBody := by have h := ex_at ce 32; exact of_decide_eq_true h
  s_BadBits_BadHead := by have h := ex_at ce 33; exact of_decide_eq_true h
  s_BadBits_BadCheck := by have h := ex_at ce 34; exact of_decide_eq_true h
  s_BadBits_BadMark := by have h := ex_at ce 35; exact of_decide_eq_true h
  s_BadBits_BadTail := by have h := ex_at ce 36; exact of_decide_eq_true h
  s_BadBits_Behind := by have h := ex_at ce 37; exact of_decide_eq_true h
  s_BadBits_Over := by have h := ex_at ce 38; exact of_decide_eq_true h
  s_BadBits_NoRange := by have h := ex_at ce 39; exact of_decide_eq_true h
  s_BadBits_BadLetters := by have h := ex_at ce 40; exact of_decide_eq_true h
  v_BadBits_ValueError := by have h := ex_at ce 41; exact of_decide_eq_true h
  e_NoBits := by have h := ex_at ce 42; have z0 := He.ba h; have z1 := He.ba z0.2; have z2 := He.ba z1.2; have z3 := He.ba z2.2; have z4 := He.ba z3.2; have z5 := He.ba z4.2; have z6 := He.ba z5.2; exact ⟨He.eqO_ok z0.1, He.eqO_ok z1.1, of_decide_eq_true z2.1, z3.1, He.eqO_ok z4.1, He.eqO_ok z5.1, of_decide_eq_true z6.1, of_decide_eq_true z6.2⟩
  y_NoBits_PressError := by have h := ex_at ce 43; exact of_decide_eq_true h
  s_NoBits_BadRow := by have h := ex_at ce 44; exact of_decide_eq_true h
  s_NoBits_BadBits := by have h := ex_at ce 45; exact of_decide_eq_true h
  s_NoBits_NoBits := by have h := ex_at ce 46; exact of_decide_eq_true h
  s_NoBits_BadShares := by have h := ex_at ce 47; exact of_decide_eq_true h
  s_NoBits_BadLengths := by have h := ex_at ce 48; exact of_decide_eq_true h
  s_NoBits_BadCode := by have h := ex_at ce 49; exact of_decide_eq_true h
  s_NoBits_BadTable := by have h := ex_at ce 50; exact of_decide_eq_true h
  s_NoBits_Cut := by have h := ex_at ce 51; exact of_decide_eq_true h
  s_NoBits_BadPieces := by have h := ex_at ce 52; exact of_decide_eq_true h
  s_NoBits_BadBody := by have h := ex_at ce 53; exact of_decide_eq_true h
  s_NoBits_BadHead := by have h := ex_at ce 54; exact of_decide_eq_true h
  s_NoBits_BadCheck := by have h := ex_at ce 55; exact of_decide_eq_true h
  s_NoBits_BadMark := by have h := ex_at ce 56; exact of_decide_eq_true h
  s_NoBits_BadTail := by have h := ex_at ce 57; exact of_decide_eq_true h
  s_NoBits_Behind := by have h := ex_at ce 58; exact of_decide_eq_true h
  s_NoBits_Over := by have h := ex_at ce 59; exact of_decide_eq_true h
  s_NoBits_NoRange := by have h := ex_at ce 60; exact of_decide_eq_true h
  s_NoBits_BadLetters := by have h := ex_at ce 61; exact of_decide_eq_true h
  v_NoBits_ValueError := by have h := ex_at ce 62; exact of_decide_eq_true h
  d__law_cell_at := c.def_ 11 (d := d__law_cell_at) rfl
  d__law_mixed := c.def_ 12 (d := d__law_mixed) rfl
  d_is_byte := c.def_ 0 (d := d_is_byte) rfl
  d_is_row := c.def_ 1 (d := d_is_row) rfl
  d_need_row := c.def_ 2 (d := d_need_row) rfl
  d_BitReader___init__ := c.def_ 5 (d := d_BitReader___init__) rfl
  d__law_digits_of := c.def_ 14 (d := d__law_digits_of) rfl
  d_is_number := c.def_ 3 (d := d_is_number) rfl
  d_BitReader_go := c.def_ 8 (d := d_BitReader_go) rfl
  d__law_word := c.def_ 13 (d := d__law_word) rfl
  d_BitReader_left := c.def_ 6 (d := d_BitReader_left) rfl
  d__law_truth := c.def_ 18 (d := d__law_truth) rfl
  d_BitReader_at_end := c.def_ 10 (d := d_BitReader_at_end) rfl
  d_BitReader_place := c.def_ 7 (d := d_BitReader_place) rfl
  d__law_stands := c.def_ 17 (d := d__law_stands) rfl
  d__law_gone := c.def_ 19 (d := d__law_gone) rfl
  d_need_size := c.def_ 4 (d := d_need_size) rfl
  d_BitReader_take := c.def_ 9 (d := d_BitReader_take) rfl
  d__law_taken := c.def_ 16 (d := d__law_taken) rfl
  d__law_number := c.def_ 15 (d := d__law_number) rfl
  d__law_step := c.def_ 20 (d := d__law_step) rfl
  d__law_refused := c.def_ 21 (d := d__law_refused) rfl
  d_law := c.def_ 22 (d := d_law) rfl
theorem of_KBitReader {K : PySem.W.Frag} {mg : Str → Option Value} (T : Tx K mg) : KBitReader K := ⟨T.c_BitReader, T.n_BitReader_source, T.n_BitReader_taken⟩
theorem of_KWBadBits {K : PySem.W.Frag} {mg : Str → Option Value} (T : Tx K mg) : KWBadBits K := ⟨T.e_BadBits, T.y_BadBits_PressError, T.v_BadBits_ValueError, T.s_BadBits_BadRow, T.s_BadBits_BadBits, T.s_BadBits_NoBits, T.s_BadBits_BadShares, T.s_BadBits_BadLengths, T.s_BadBits_BadCode, T.s_BadBits_BadTable, T.s_BadBits_Cut, T.s_BadBits_BadPieces, T.s_BadBits_BadBody, T.s_BadBits_BadHead, T.s_BadBits_BadCheck, T.s_BadBits_BadMark, T.s_BadBits_BadTail, T.s_BadBits_Behind, T.s_BadBits_Over, T.s_BadBits_NoRange, T.s_BadBits_BadLetters⟩
theorem of_KWNoBits {K : PySem.W.Frag} {mg : Str → Option Value} (T : Tx K mg) : KWNoBits K := ⟨T.e_NoBits, T.y_NoBits_PressError, T.v_NoBits_ValueError, T.s_NoBits_BadRow, T.s_NoBits_BadBits, T.s_NoBits_NoBits, T.s_NoBits_BadShares, T.s_NoBits_BadLengths, T.s_NoBits_BadCode, T.s_NoBits_BadTable, T.s_NoBits_Cut, T.s_NoBits_BadPieces, T.s_NoBits_BadBody, T.s_NoBits_BadHead, T.s_NoBits_BadCheck, T.s_NoBits_BadMark, T.s_NoBits_BadTail, T.s_NoBits_Behind, T.s_NoBits_Over, T.s_NoBits_NoRange, T.s_NoBits_BadLetters⟩
theorem of_KWBadRow {K : PySem.W.Frag} {mg : Str → Option Value} (T : Tx K mg) : KWBadRow K := ⟨T.e_BadRow, T.y_BadRow_PressError, T.v_BadRow_ValueError, T.s_BadRow_BadRow, T.s_BadRow_BadBits, T.s_BadRow_NoBits, T.s_BadRow_BadShares, T.s_BadRow_BadLengths, T.s_BadRow_BadCode, T.s_BadRow_BadTable, T.s_BadRow_Cut, T.s_BadRow_BadPieces, T.s_BadRow_BadBody, T.s_BadRow_BadHead, T.s_BadRow_BadCheck, T.s_BadRow_BadMark, T.s_BadRow_BadTail, T.s_BadRow_Behind, T.s_BadRow_Over, T.s_BadRow_NoRange, T.s_BadRow_BadLetters⟩
abbrev N__law_cell_at : List Str := ["_law_script", "_law_k"]
theorem sc__law_cell_at : FnScope N__law_cell_at ["_law_script", "_law_k"] (defScope s__law_cell_at) := ⟨rfl, rfl, rfl, by decide +kernel, rfl, by decide +kernel, by decide +kernel⟩
theorem wk__law_cell_at {P : Program} {w : World} {K : PySem.W.Frag} {mg : Str → Option Value} {base : Heap} (T : Tx K mg)  {f : Addr} {cdv : Value} {A : Around} {outer : List Env} {s : Shared} {H : Hp} {E : XK}
    (hr : Room 0 (A.deeper (envOfC "_law_cell_at" (defScope s__law_cell_at) s.heap.objs.size f cdv))) :
    PSs (cxOf (L2N.CX P w) P w K mg base N__law_cell_at "_law_cell_at" (defScope s__law_cell_at) f cdv A outer s H E) (defBody s__law_cell_at) (t__law_cell_at K (fun c d _ H2 => E c d H2)) := by
  have hu1 := hu_of hr
  have hu64 := hr.units
  have tk : L2N.Takes (cxOf (L2N.CX P w) P w K mg base N__law_cell_at "_law_cell_at" (defScope s__law_cell_at) f cdv A outer s H E) (fun c d _ H2 => E c d H2) := L2N.takes_of rfl rfl rfl rfl
  exact (pss_cons (ps_if (pt_cmpR op_ltU (pv 1) (pe_callB cr_lenK (by rfl) T.f_len bb_len (pa_cons (pv 0) pa_nil)) (nomark _)) (pss_one (ps_ret (pe_ix ix_seq (pv 0) (pv 1) (fun _ _ => rfl)))) pss_nil)
    (pss_one (ps_ret (pe_int))))
theorem fn__law_cell_at {P : Program} {w : World} {K : PySem.W.Frag} {mg : Str → Option Value} {base : Heap} (T : Tx K mg) {f : Addr} {fd : FuncData} (F : FunD K d__law_cell_at.name d__law_cell_at.qual d__law_cell_at.params d__law_cell_at.body d__law_cell_at.scope (d__law_cell_at.dvs K) (d__law_cell_at.kws K) f fd) :
    FnOk P w K mg base (L2N.CX P w) 1 f fd ["_law_script", "_law_k"] (sp__law_cell_at K) :=
  F.ok sc__law_cell_at (fun vs H Q E h => len__law_cell_at h) (fun cdv A outer s H vs Q E hr h => ⟨t__law_cell_at K (fun c d _ H2 => E c d H2), wk__law_cell_at T  hr, rd__law_cell_at  h⟩)
theorem ok__law_cell_at_2 {P : Program} {w : World} {K : PySem.W.Frag} {mg : Str → Option Value} {base : Heap} (T : Tx K mg) : DOkN P w K mg base 1 (He.fAd K ("_law_cell_at", none)) ["_law_script", "_law_k"] [] (sp__law_cell_at K) := by
  obtain ⟨fd, F⟩ := T.d__law_cell_at
  exact ⟨fd, [], .nil, FunD.bindsN F fun _ _ _ _ _ _ us hl => match us, hl with | [_, _], _ => rfl, fn__law_cell_at T F, F.kp⟩
abbrev N__law_mixed : List Str := ["_law_cell", "_law_k"]
theorem sc__law_mixed : FnScope N__law_mixed ["_law_cell", "_law_k"] (defScope s__law_mixed) := ⟨rfl, rfl, rfl, by decide +kernel, rfl, by decide +kernel, by decide +kernel⟩
theorem wk__law_mixed {P : Program} {w : World} {K : PySem.W.Frag} {mg : Str → Option Value} {base : Heap} (T : Tx K mg)  {f : Addr} {cdv : Value} {A : Around} {outer : List Env} {s : Shared} {H : Hp} {E : XK}
    (hr : Room 0 (A.deeper (envOfC "_law_mixed" (defScope s__law_mixed) s.heap.objs.size f cdv))) :
    PSs (cxOf (L2N.CX P w) P w K mg base N__law_mixed "_law_mixed" (defScope s__law_mixed) f cdv A outer s H E) (defBody s__law_mixed) (t__law_mixed K (fun c d _ H2 => E c d H2)) := by
  have hu1 := hu_of hr
  have hu64 := hr.units
  have tk : L2N.Takes (cxOf (L2N.CX P w) P w K mg base N__law_mixed "_law_mixed" (defScope s__law_mixed) f cdv A outer s H E) (fun c d _ H2 => E c d H2) := L2N.takes_of rfl rfl rfl rfl
  exact (pss_one (ps_ret (pe_op op_modU (pe_op op_mulU (pe_op op_modU (pe_op op_addU (pe_op op_addU (pe_op op_addU (pe_op op_mulU (pv 0) (pe_int)) (pe_op op_mulU (pe_op op_mulU (pe_int) (pv 1)) (pv 1))) (pe_op op_mulU (pe_int) (pv 1))) (pe_int)) (pe_int)) (pe_int)) (pe_int))))
theorem fn__law_mixed {P : Program} {w : World} {K : PySem.W.Frag} {mg : Str → Option Value} {base : Heap} (T : Tx K mg) {f : Addr} {fd : FuncData} (F : FunD K d__law_mixed.name d__law_mixed.qual d__law_mixed.params d__law_mixed.body d__law_mixed.scope (d__law_mixed.dvs K) (d__law_mixed.kws K) f fd) :
    FnOk P w K mg base (L2N.CX P w) 1 f fd ["_law_cell", "_law_k"] (sp__law_mixed K) :=
  F.ok sc__law_mixed (fun vs H Q E h => len__law_mixed h) (fun cdv A outer s H vs Q E hr h => ⟨t__law_mixed K (fun c d _ H2 => E c d H2), wk__law_mixed T  hr, rd__law_mixed  h⟩)
theorem ok__law_mixed_2 {P : Program} {w : World} {K : PySem.W.Frag} {mg : Str → Option Value} {base : Heap} (T : Tx K mg) : DOkN P w K mg base 1 (He.fAd K ("_law_mixed", none)) ["_law_cell", "_law_k"] [] (sp__law_mixed K) := by
  obtain ⟨fd, F⟩ := T.d__law_mixed
  exact ⟨fd, [], .nil, FunD.bindsN F fun _ _ _ _ _ _ us hl => match us, hl with | [_, _], _ => rfl, fn__law_mixed T F, F.kp⟩
abbrev N_is_byte : List Str := ["thing"]
theorem sc_is_byte : FnScope N_is_byte ["thing"] (defScope s_is_byte) := ⟨rfl, rfl, rfl, by decide +kernel, rfl, by decide +kernel, by decide +kernel⟩
theorem wk_is_byte {P : Program} {w : World} {K : PySem.W.Frag} {mg : Str → Option Value} {base : Heap} (T : Tx K mg)  {f : Addr} {cdv : Value} {A : Around} {outer : List Env} {s : Shared} {H : Hp} {E : XK}
    (hr : Room 0 (A.deeper (envOfC "is_byte" (defScope s_is_byte) s.heap.objs.size f cdv))) :
    PSs (cxOf (L2N.CX P w) P w K mg base N_is_byte "is_byte" (defScope s_is_byte) f cdv A outer s H E) (defBody s_is_byte) (t_is_byte K (fun c d _ H2 => E c d H2)) := by
  have hu1 := hu_of hr
  have hu64 := hr.units
  have tk : L2N.Takes (cxOf (L2N.CX P w) P w K mg base N_is_byte "is_byte" (defScope s_is_byte) f cdv A outer s H E) (fun c d _ H2 => E c d H2) := L2N.takes_of rfl rfl rfl rfl
  exact (pss_one (ps_ret ((pe_and (pe_callB call_isi (by rfl) T.f_isinstance bb_isinstance (pa_cons (pv 0) (pa_cons (pe_bty rfl T.f_int bt_int) pa_nil))) (pe_and (pe_not (pe_callB call_isi (by rfl) T.f_isinstance bb_isinstance (pa_cons (pv 0) (pa_cons (pe_bty rfl T.f_bool bt_bool) pa_nil)))) (pe_one (pe_chain op_leU op_leU (pe_int) (pv 0) (pe_gint rfl T.g_MOST_BYTE))))))))
theorem fn_is_byte {P : Program} {w : World} {K : PySem.W.Frag} {mg : Str → Option Value} {base : Heap} (T : Tx K mg) {f : Addr} {fd : FuncData} (F : FunD K d_is_byte.name d_is_byte.qual d_is_byte.params d_is_byte.body d_is_byte.scope (d_is_byte.dvs K) (d_is_byte.kws K) f fd) :
    FnOk P w K mg base (L2N.CX P w) 1 f fd ["thing"] (sp_is_byte K) :=
  F.ok sc_is_byte (fun vs H Q E h => len_is_byte h) (fun cdv A outer s H vs Q E hr h => ⟨t_is_byte K (fun c d _ H2 => E c d H2), wk_is_byte T  hr, rd_is_byte  h⟩)
theorem ok_is_byte_1 {P : Program} {w : World} {K : PySem.W.Frag} {mg : Str → Option Value} {base : Heap} (T : Tx K mg) : DOkN P w K mg base 1 (He.fAd K ("is_byte", none)) ["thing"] [] (sp_is_byte K) := by
  obtain ⟨fd, F⟩ := T.d_is_byte
  exact ⟨fd, [], .nil, FunD.bindsN F fun _ _ _ _ _ _ us hl => match us, hl with | [_], _ => rfl, fn_is_byte T F, F.kp⟩
abbrev N_is_row : List Str := ["thing", "number"]
theorem sc_is_row : FnScope N_is_row ["thing"] (defScope s_is_row) := ⟨rfl, rfl, rfl, by decide +kernel, rfl, by decide +kernel, by decide +kernel⟩
theorem wk_is_row {P : Program} {w : World} {K : PySem.W.Frag} {mg : Str → Option Value} {base : Heap} (T : Tx K mg) (O0 : DOkN P w K mg base 1 (He.fAd K ("is_byte", none)) ["thing"] [] (sp_is_byte K)) {f : Addr} {cdv : Value} {A : Around} {outer : List Env} {s : Shared} {H : Hp} {E : XK}
    (hr : Room 1 (A.deeper (envOfC "is_row" (defScope s_is_row) s.heap.objs.size f cdv))) :
    PSs (cxOf (L2N.CX P w) P w K mg base N_is_row "is_row" (defScope s_is_row) f cdv A outer s H E) (defBody s_is_row) (t_is_row K (fun c d _ H2 => E c d H2)) := by
  obtain ⟨fd0, ds0, v0, b0, G0, q0⟩ := O0
  have hu1 := hu_of hr
  have hu64 := hr.units
  have tk : L2N.Takes (cxOf (L2N.CX P w) P w K mg base N_is_row "is_row" (defScope s_is_row) f cdv A outer s H E) (fun c d _ H2 => E c d H2) := L2N.takes_of rfl rfl rfl rfl
  exact (pss_one (ps_ret ((pe_and (pe_callB call_isi (by rfl) T.f_isinstance bb_isinstance (pa_cons (pv 0) (pa_cons (pe_bty rfl T.f_list bt_list) pa_nil))) (pe_one (pe_callB (cr_all rfl) (by rfl) T.f_all bb_all (pa_cons (pe_lc (own := [("number", 1)]) rfl sc_is_row.nd (pi_list (pv 0)) (blkOk_by (own := [("number", 1)]) (N := N_is_row) (sc := defScope s_is_row) (by decide +kernel)) (fun _ _ _ _ _ => (pg_name (i := 1) sc_is_row.nd rfl (Or.inl rfl))) (fun _ _ _ _ _ => pts_nil) (fun _ _ _ _ _ => (pe_clN G0 (hr.mono (by decide)) rfl T.g_is_byte q0 b0 v0 takes0N (pa_cons (pv 1) pa_nil)))) pa_nil)))))))
theorem fn_is_row {P : Program} {w : World} {K : PySem.W.Frag} {mg : Str → Option Value} {base : Heap} (T : Tx K mg) {f : Addr} {fd : FuncData} (F : FunD K d_is_row.name d_is_row.qual d_is_row.params d_is_row.body d_is_row.scope (d_is_row.dvs K) (d_is_row.kws K) f fd) :
    FnOk P w K mg base (L2N.CX P w) 2 f fd ["thing"] (sp_is_row K) :=
  F.ok sc_is_row (fun vs H Q E h => len_is_row h) (fun cdv A outer s H vs Q E hr h => ⟨t_is_row K (fun c d _ H2 => E c d H2), wk_is_row T (ok_is_byte_1 T) hr, rd_is_row  h⟩)
theorem ok_is_row_1 {P : Program} {w : World} {K : PySem.W.Frag} {mg : Str → Option Value} {base : Heap} (T : Tx K mg) : DOkN P w K mg base 2 (He.fAd K ("is_row", none)) ["thing"] [] (sp_is_row K) := by
  obtain ⟨fd, F⟩ := T.d_is_row
  exact ⟨fd, [], .nil, FunD.bindsN F fun _ _ _ _ _ _ us hl => match us, hl with | [_], _ => rfl, fn_is_row T F, F.kp⟩
abbrev N_need_row : List Str := ["thing"]
theorem sc_need_row : FnScope N_need_row ["thing"] (defScope s_need_row) := ⟨rfl, rfl, rfl, by decide +kernel, rfl, by decide +kernel, by decide +kernel⟩
theorem wk_need_row {P : Program} {w : World} {K : PySem.W.Frag} {mg : Str → Option Value} {base : Heap} (T : Tx K mg) (O0 : DOkN P w K mg base 2 (He.fAd K ("is_row", none)) ["thing"] [] (sp_is_row K)) {f : Addr} {cdv : Value} {A : Around} {outer : List Env} {s : Shared} {H : Hp} {E : XK}
    (hr : Room 2 (A.deeper (envOfC "need_row" (defScope s_need_row) s.heap.objs.size f cdv))) :
    PSs (cxOf (L2N.CX P w) P w K mg base N_need_row "need_row" (defScope s_need_row) f cdv A outer s H E) (defBody s_need_row) (t_need_row K (fun c d _ H2 => E c d H2)) := by
  obtain ⟨fd0, ds0, v0, b0, G0, q0⟩ := O0
  have hu1 := hu_of hr
  have hu64 := hr.units
  have tk : L2N.Takes (cxOf (L2N.CX P w) P w K mg base N_need_row "need_row" (defScope s_need_row) f cdv A outer s H E) (fun c d _ H2 => E c d H2) := L2N.takes_of rfl rfl rfl rfl
  exact (pss_cons (ps_if (pt_not (pt_val (pe_clN G0 (hr.mono (by decide)) rfl T.g_is_row q0 b0 v0 tk (pa_cons (pv 0) pa_nil)))) (pss_one (ps_rzN rfl tk T.x_BadRow T.g_BadRow rfl)) pss_nil)
    (pss_one (ps_ret (pe_callTy cr_listK (by rfl) T.f_list bt_list (pa_cons (pv 0) pa_nil)))))
theorem fn_need_row {P : Program} {w : World} {K : PySem.W.Frag} {mg : Str → Option Value} {base : Heap} (T : Tx K mg) {f : Addr} {fd : FuncData} (F : FunD K d_need_row.name d_need_row.qual d_need_row.params d_need_row.body d_need_row.scope (d_need_row.dvs K) (d_need_row.kws K) f fd) :
    FnOk P w K mg base (L2N.CX P w) 3 f fd ["thing"] (sp_need_row K) :=
  F.ok sc_need_row (fun vs H Q E h => len_need_row h) (fun cdv A outer s H vs Q E hr h => ⟨t_need_row K (fun c d _ H2 => E c d H2), wk_need_row T (ok_is_row_1 T) hr, rd_need_row  h⟩)
theorem ok_need_row_1 {P : Program} {w : World} {K : PySem.W.Frag} {mg : Str → Option Value} {base : Heap} (T : Tx K mg) : DOkN P w K mg base 3 (He.fAd K ("need_row", none)) ["thing"] [] (sp_need_row K) := by
  obtain ⟨fd, F⟩ := T.d_need_row
  exact ⟨fd, [], .nil, FunD.bindsN F fun _ _ _ _ _ _ us hl => match us, hl with | [_], _ => rfl, fn_need_row T F, F.kp⟩
abbrev N_BitReader___init__ : List Str := ["self", "row"]
theorem sc_BitReader___init__ : FnScope N_BitReader___init__ ["self", "row"] (defScope s_BitReader___init__) := ⟨rfl, rfl, rfl, by decide +kernel, rfl, by decide +kernel, by decide +kernel⟩
theorem wk_BitReader___init__ {P : Program} {w : World} {K : PySem.W.Frag} {mg : Str → Option Value} {base : Heap} (T : Tx K mg) (O0 : DOkN P w K mg base 3 (He.fAd K ("need_row", none)) ["thing"] [] (sp_need_row K)) {f : Addr} {cdv : Value} {A : Around} {outer : List Env} {s : Shared} {H : Hp} {E : XK}
    (hr : Room 3 (A.deeper (envOfC "BitReader.__init__" (defScope s_BitReader___init__) s.heap.objs.size f cdv))) :
    PSs (cxOf (L2N.CX P w) P w K mg base N_BitReader___init__ "BitReader.__init__" (defScope s_BitReader___init__) f cdv A outer s H E) (defBody s_BitReader___init__) (t_BitReader___init__ K (fun c d _ H2 => E c d H2)) := by
  obtain ⟨fd0, ds0, v0, b0, G0, q0⟩ := O0
  have hu1 := hu_of hr
  have hu64 := hr.units
  have tk : L2N.Takes (cxOf (L2N.CX P w) P w K mg base N_BitReader___init__ "BitReader.__init__" (defScope s_BitReader___init__) f cdv A outer s H E) (fun c d _ H2 => E c d H2) := L2N.takes_of rfl rfl rfl rfl
  exact (pss_cons (ps_fld (pv 0) (pe_clN G0 (hr.mono (by decide)) rfl T.g_need_row q0 b0 v0 tk (pa_cons (pv 1) pa_nil)) rfl)
    (pss_one (ps_fld (pv 0) (pe_int) rfl)))
theorem fn_BitReader___init__ {P : Program} {w : World} {K : PySem.W.Frag} {mg : Str → Option Value} {base : Heap} (T : Tx K mg) {f : Addr} {fd : FuncData} (F : FunD K d_BitReader___init__.name d_BitReader___init__.qual d_BitReader___init__.params d_BitReader___init__.body d_BitReader___init__.scope (d_BitReader___init__.dvs K) (d_BitReader___init__.kws K) f fd) :
    FnOk P w K mg base (L2N.CX P w) 4 f fd ["self", "row"] (sp_BitReader___init__ K) :=
  F.ok sc_BitReader___init__ (fun vs H Q E h => len_BitReader___init__ h) (fun cdv A outer s H vs Q E hr h => ⟨t_BitReader___init__ K (fun c d _ H2 => E c d H2), wk_BitReader___init__ T (ok_need_row_1 T) hr, rd_BitReader___init__ (of_KBitReader T) h⟩)
theorem ok_BitReader___init___2 {P : Program} {w : World} {K : PySem.W.Frag} {mg : Str → Option Value} {base : Heap} (T : Tx K mg) : DOkN P w K mg base 4 (He.fAd K ("BitReader", some "__init__")) ["self", "row"] [] (sp_BitReader___init__ K) := by
  obtain ⟨fd, F⟩ := T.d_BitReader___init__
  exact ⟨fd, [], .nil, FunD.bindsN F fun _ _ _ _ _ _ us hl => match us, hl with | [_, _], _ => rfl, fn_BitReader___init__ T F, F.kp⟩
abbrev N__law_digits_of : List Str := ["_law_row", "_law_found", "_law_byte", "_law_k"]
theorem sc__law_digits_of : FnScope N__law_digits_of ["_law_row"] (defScope s__law_digits_of) := ⟨rfl, rfl, rfl, by decide +kernel, rfl, by decide +kernel, by decide +kernel⟩
theorem wk__law_digits_of {P : Program} {w : World} {K : PySem.W.Frag} {mg : Str → Option Value} {base : Heap} (T : Tx K mg)  {f : Addr} {cdv : Value} {A : Around} {outer : List Env} {s : Shared} {H : Hp} {E : XK}
    (hr : Room 0 (A.deeper (envOfC "_law_digits_of" (defScope s__law_digits_of) s.heap.objs.size f cdv))) :
    PSs (cxOf (L2N.CX P w) P w K mg base N__law_digits_of "_law_digits_of" (defScope s__law_digits_of) f cdv A outer s H E) (defBody s__law_digits_of) (t__law_digits_of K (fun c d _ H2 => E c d H2)) := by
  have hu1 := hu_of hr
  have hu64 := hr.units
  have tk : L2N.Takes (cxOf (L2N.CX P w) P w K mg base N__law_digits_of "_law_digits_of" (defScope s__law_digits_of) f cdv A outer s H E) (fun c d _ H2 => E c d H2) := L2N.takes_of rfl rfl rfl rfl
  exact (pss_cons (ps_set (i := 1) sc__law_digits_of.nd rfl (Or.inl rfl) (pe_str))
    (pss_cons (ps_for (passes_of rfl) rfl (pi_list (pv 0)) (pg_name (i := 2) sc__law_digits_of.nd rfl (Or.inl rfl)) (pss_one (ps_for (passes_of rfl) rfl (pi_range1 rfl T.f_range (pa_cons (pe_int) pa_nil)) (pg_name (i := 3) sc__law_digits_of.nd rfl (Or.inl rfl)) (pss_one (ps_set (i := 1) sc__law_digits_of.nd rfl (Or.inl rfl) (pe_op op_addU (pv 1) (pe_ix ix_seq (pe_str) (pe_op op_modU (pe_op op_shrU (pv 2) (pe_op op_subU (pe_int) (pv 3))) (pe_int)) (fun _ _ => rfl))))))))
    (pss_one (ps_ret (pv 1)))))
theorem fn__law_digits_of {P : Program} {w : World} {K : PySem.W.Frag} {mg : Str → Option Value} {base : Heap} (T : Tx K mg) {f : Addr} {fd : FuncData} (F : FunD K d__law_digits_of.name d__law_digits_of.qual d__law_digits_of.params d__law_digits_of.body d__law_digits_of.scope (d__law_digits_of.dvs K) (d__law_digits_of.kws K) f fd) :
    FnOk P w K mg base (L2N.CX P w) 1 f fd ["_law_row"] (sp__law_digits_of K) :=
  F.ok sc__law_digits_of (fun vs H Q E h => len__law_digits_of h) (fun cdv A outer s H vs Q E hr h => ⟨t__law_digits_of K (fun c d _ H2 => E c d H2), wk__law_digits_of T  hr, rd__law_digits_of  h⟩)
theorem ok__law_digits_of_1 {P : Program} {w : World} {K : PySem.W.Frag} {mg : Str → Option Value} {base : Heap} (T : Tx K mg) : DOkN P w K mg base 1 (He.fAd K ("_law_digits_of", none)) ["_law_row"] [] (sp__law_digits_of K) := by
  obtain ⟨fd, F⟩ := T.d__law_digits_of
  exact ⟨fd, [], .nil, FunD.bindsN F fun _ _ _ _ _ _ us hl => match us, hl with | [_], _ => rfl, fn__law_digits_of T F, F.kp⟩
abbrev N_is_number : List Str := ["thing"]
theorem sc_is_number : FnScope N_is_number ["thing"] (defScope s_is_number) := ⟨rfl, rfl, rfl, by decide +kernel, rfl, by decide +kernel, by decide +kernel⟩
theorem wk_is_number {P : Program} {w : World} {K : PySem.W.Frag} {mg : Str → Option Value} {base : Heap} (T : Tx K mg)  {f : Addr} {cdv : Value} {A : Around} {outer : List Env} {s : Shared} {H : Hp} {E : XK}
    (hr : Room 0 (A.deeper (envOfC "is_number" (defScope s_is_number) s.heap.objs.size f cdv))) :
    PSs (cxOf (L2N.CX P w) P w K mg base N_is_number "is_number" (defScope s_is_number) f cdv A outer s H E) (defBody s_is_number) (t_is_number K (fun c d _ H2 => E c d H2)) := by
  have hu1 := hu_of hr
  have hu64 := hr.units
  have tk : L2N.Takes (cxOf (L2N.CX P w) P w K mg base N_is_number "is_number" (defScope s_is_number) f cdv A outer s H E) (fun c d _ H2 => E c d H2) := L2N.takes_of rfl rfl rfl rfl
  exact (pss_one (ps_ret ((pe_and (pe_callB call_isi (by rfl) T.f_isinstance bb_isinstance (pa_cons (pv 0) (pa_cons (pe_bty rfl T.f_int bt_int) pa_nil))) (pe_one (pe_not (pe_callB call_isi (by rfl) T.f_isinstance bb_isinstance (pa_cons (pv 0) (pa_cons (pe_bty rfl T.f_bool bt_bool) pa_nil)))))))))
theorem fn_is_number {P : Program} {w : World} {K : PySem.W.Frag} {mg : Str → Option Value} {base : Heap} (T : Tx K mg) {f : Addr} {fd : FuncData} (F : FunD K d_is_number.name d_is_number.qual d_is_number.params d_is_number.body d_is_number.scope (d_is_number.dvs K) (d_is_number.kws K) f fd) :
    FnOk P w K mg base (L2N.CX P w) 1 f fd ["thing"] (sp_is_number K) :=
  F.ok sc_is_number (fun vs H Q E h => len_is_number h) (fun cdv A outer s H vs Q E hr h => ⟨t_is_number K (fun c d _ H2 => E c d H2), wk_is_number T  hr, rd_is_number  h⟩)
theorem ok_is_number_1 {P : Program} {w : World} {K : PySem.W.Frag} {mg : Str → Option Value} {base : Heap} (T : Tx K mg) : DOkN P w K mg base 1 (He.fAd K ("is_number", none)) ["thing"] [] (sp_is_number K) := by
  obtain ⟨fd, F⟩ := T.d_is_number
  exact ⟨fd, [], .nil, FunD.bindsN F fun _ _ _ _ _ _ us hl => match us, hl with | [_], _ => rfl, fn_is_number T F, F.kp⟩
abbrev N_BitReader_go : List Str := ["self", "place"]
theorem sc_BitReader_go : FnScope N_BitReader_go ["self", "place"] (defScope s_BitReader_go) := ⟨rfl, rfl, rfl, by decide +kernel, rfl, by decide +kernel, by decide +kernel⟩
theorem wk_BitReader_go {P : Program} {w : World} {K : PySem.W.Frag} {mg : Str → Option Value} {base : Heap} (T : Tx K mg) (O0 : DOkN P w K mg base 1 (He.fAd K ("is_number", none)) ["thing"] [] (sp_is_number K)) {f : Addr} {cdv : Value} {A : Around} {outer : List Env} {s : Shared} {H : Hp} {E : XK}
    (hr : Room 1 (A.deeper (envOfC "BitReader.go" (defScope s_BitReader_go) s.heap.objs.size f cdv))) :
    PSs (cxOf (L2N.CX P w) P w K mg base N_BitReader_go "BitReader.go" (defScope s_BitReader_go) f cdv A outer s H E) (defBody s_BitReader_go) (t_BitReader_go K (fun c d _ H2 => E c d H2)) := by
  obtain ⟨fd0, ds0, v0, b0, G0, q0⟩ := O0
  have hu1 := hu_of hr
  have hu64 := hr.units
  have tk : L2N.Takes (cxOf (L2N.CX P w) P w K mg base N_BitReader_go "BitReader.go" (defScope s_BitReader_go) f cdv A outer s H E) (fun c d _ H2 => E c d H2) := L2N.takes_of rfl rfl rfl rfl
  exact (pss_cons (ps_if (PW.pt (pw_or (pt_not (pt_val (pe_clN G0 (hr.mono (by decide)) rfl T.g_is_number q0 b0 v0 tk (pa_cons (pv 1) pa_nil)))) (pw_or1 (pt_not (pt_chain op_leU op_leU (pe_int) (pv 1) (pe_op op_mulU (pe_gint rfl T.g_BYTE) (pe_callB cr_lenK (by rfl) T.f_len bb_len (pa_cons (pe_fld (pv 0) rfl) pa_nil)))))))) (pss_one (ps_rzN rfl tk T.x_BadBits T.g_BadBits rfl)) pss_nil)
    (pss_one (ps_fld (pv 0) (pv 1) rfl)))
theorem fn_BitReader_go {P : Program} {w : World} {K : PySem.W.Frag} {mg : Str → Option Value} {base : Heap} (T : Tx K mg) {f : Addr} {fd : FuncData} (F : FunD K d_BitReader_go.name d_BitReader_go.qual d_BitReader_go.params d_BitReader_go.body d_BitReader_go.scope (d_BitReader_go.dvs K) (d_BitReader_go.kws K) f fd) :
    FnOk P w K mg base (L2N.CX P w) 2 f fd ["self", "place"] (sp_BitReader_go K) :=
  F.ok sc_BitReader_go (fun vs H Q E h => len_BitReader_go h) (fun cdv A outer s H vs Q E hr h => ⟨t_BitReader_go K (fun c d _ H2 => E c d H2), wk_BitReader_go T (ok_is_number_1 T) hr, rd_BitReader_go (of_KBitReader T) h⟩)
theorem ok_BitReader_go_2 {P : Program} {w : World} {K : PySem.W.Frag} {mg : Str → Option Value} {base : Heap} (T : Tx K mg) : DOkN P w K mg base 2 (He.fAd K ("BitReader", some "go")) ["self", "place"] [] (sp_BitReader_go K) := by
  obtain ⟨fd, F⟩ := T.d_BitReader_go
  exact ⟨fd, [], .nil, FunD.bindsN F fun _ _ _ _ _ _ us hl => match us, hl with | [_, _], _ => rfl, fn_BitReader_go T F, F.kp⟩
abbrev N__law_word : List Str := ["_law_e", "_law_some", "_law_found", "_law_word_here", "_law_fits"]
theorem sc__law_word : FnScope N__law_word ["_law_e"] (defScope s__law_word) := ⟨rfl, rfl, rfl, by decide +kernel, rfl, by decide +kernel, by decide +kernel⟩
theorem wk__law_word {P : Program} {w : World} {K : PySem.W.Frag} {mg : Str → Option Value} {base : Heap} (T : Tx K mg) {f : Addr} {cdv : Value} {A : Around} {outer : List Env} {s : Shared} {H : Hp} {E : XK} {p : Addr × Obj} {cls : Value} {d : Option Addr} (hot : Hot1 A p) (hz : L2N.Zn cls d p.2)
    (hr : RoomH 0 (A.deeper (envOfC "_law_word" (defScope s__law_word) s.heap.objs.size f cdv))) :
    PSs (cxH (L2N.CX P w) P w K mg base N__law_word "_law_word" (defScope s__law_word) f cdv A outer s H E p) (defBody s__law_word) (t__law_word K p.1 cls d) := by
  have hu64 : (A.deeper (envOfC "_law_word" (defScope s__law_word) s.heap.objs.size f cdv)).units + 64 < cLine := by
    have z := hr.un
    omega
  exact (pss_cons (ps_set (i := 1) sc__law_word.nd rfl (Or.inl rfl) (pe_lst (pa_cons (pe_tup (pa_cons (pe_str) (pa_cons (pe_callB (call_isP (.head _) hz.zc (hot_fields hot)) (by rfl) T.f_isinstance bb_isinstance (pa_cons (pv 0) (pa_cons (pe_gref rfl T.g_BadRow) pa_nil))) pa_nil))) (pa_cons (pe_tup (pa_cons (pe_str) (pa_cons (pe_callB (call_isP (.head _) hz.zc (hot_fields hot)) (by rfl) T.f_isinstance bb_isinstance (pa_cons (pv 0) (pa_cons (pe_gref rfl T.g_BadBits) pa_nil))) pa_nil))) (pa_cons (pe_tup (pa_cons (pe_str) (pa_cons (pe_callB (call_isP (.head _) hz.zc (hot_fields hot)) (by rfl) T.f_isinstance bb_isinstance (pa_cons (pv 0) (pa_cons (pe_gref rfl T.g_NoBits) pa_nil))) pa_nil))) pa_nil)))))
    (pss_cons (ps_set (i := 1) sc__law_word.nd rfl (Or.inl rfl) (pe_op op_addU (pv 1) (pe_lst (pa_cons (pe_tup (pa_cons (pe_str) (pa_cons (pe_callB (call_isP (.head _) hz.zc (hot_fields hot)) (by rfl) T.f_isinstance bb_isinstance (pa_cons (pv 0) (pa_cons (pe_gref rfl T.g_BadShares) pa_nil))) pa_nil))) (pa_cons (pe_tup (pa_cons (pe_str) (pa_cons (pe_callB (call_isP (.head _) hz.zc (hot_fields hot)) (by rfl) T.f_isinstance bb_isinstance (pa_cons (pv 0) (pa_cons (pe_gref rfl T.g_BadLengths) pa_nil))) pa_nil))) pa_nil)))))
    (pss_cons (ps_set (i := 1) sc__law_word.nd rfl (Or.inl rfl) (pe_op op_addU (pv 1) (pe_lst (pa_cons (pe_tup (pa_cons (pe_str) (pa_cons (pe_callB (call_isP (.head _) hz.zc (hot_fields hot)) (by rfl) T.f_isinstance bb_isinstance (pa_cons (pv 0) (pa_cons (pe_gref rfl T.g_BadCode) pa_nil))) pa_nil))) (pa_cons (pe_tup (pa_cons (pe_str) (pa_cons (pe_callB (call_isP (.head _) hz.zc (hot_fields hot)) (by rfl) T.f_isinstance bb_isinstance (pa_cons (pv 0) (pa_cons (pe_gref rfl T.g_BadTable) pa_nil))) pa_nil))) (pa_cons (pe_tup (pa_cons (pe_str) (pa_cons (pe_callB (call_isP (.head _) hz.zc (hot_fields hot)) (by rfl) T.f_isinstance bb_isinstance (pa_cons (pv 0) (pa_cons (pe_gref rfl T.g_Cut) pa_nil))) pa_nil))) pa_nil))))))
    (pss_cons (ps_set (i := 1) sc__law_word.nd rfl (Or.inl rfl) (pe_op op_addU (pv 1) (pe_lst (pa_cons (pe_tup (pa_cons (pe_str) (pa_cons (pe_callB (call_isP (.head _) hz.zc (hot_fields hot)) (by rfl) T.f_isinstance bb_isinstance (pa_cons (pv 0) (pa_cons (pe_gref rfl T.g_BadPieces) pa_nil))) pa_nil))) (pa_cons (pe_tup (pa_cons (pe_str) (pa_cons (pe_callB (call_isP (.head _) hz.zc (hot_fields hot)) (by rfl) T.f_isinstance bb_isinstance (pa_cons (pv 0) (pa_cons (pe_gref rfl T.g_BadBody) pa_nil))) pa_nil))) pa_nil)))))
    (pss_cons (ps_set (i := 1) sc__law_word.nd rfl (Or.inl rfl) (pe_op op_addU (pv 1) (pe_lst (pa_cons (pe_tup (pa_cons (pe_str) (pa_cons (pe_callB (call_isP (.head _) hz.zc (hot_fields hot)) (by rfl) T.f_isinstance bb_isinstance (pa_cons (pv 0) (pa_cons (pe_gref rfl T.g_BadHead) pa_nil))) pa_nil))) (pa_cons (pe_tup (pa_cons (pe_str) (pa_cons (pe_callB (call_isP (.head _) hz.zc (hot_fields hot)) (by rfl) T.f_isinstance bb_isinstance (pa_cons (pv 0) (pa_cons (pe_gref rfl T.g_BadCheck) pa_nil))) pa_nil))) pa_nil)))))
    (pss_cons (ps_set (i := 1) sc__law_word.nd rfl (Or.inl rfl) (pe_op op_addU (pv 1) (pe_lst (pa_cons (pe_tup (pa_cons (pe_str) (pa_cons (pe_callB (call_isP (.head _) hz.zc (hot_fields hot)) (by rfl) T.f_isinstance bb_isinstance (pa_cons (pv 0) (pa_cons (pe_gref rfl T.g_BadMark) pa_nil))) pa_nil))) (pa_cons (pe_tup (pa_cons (pe_str) (pa_cons (pe_callB (call_isP (.head _) hz.zc (hot_fields hot)) (by rfl) T.f_isinstance bb_isinstance (pa_cons (pv 0) (pa_cons (pe_gref rfl T.g_BadTail) pa_nil))) pa_nil))) pa_nil)))))
    (pss_cons (ps_set (i := 1) sc__law_word.nd rfl (Or.inl rfl) (pe_op op_addU (pv 1) (pe_lst (pa_cons (pe_tup (pa_cons (pe_str) (pa_cons (pe_callB (call_isP (.head _) hz.zc (hot_fields hot)) (by rfl) T.f_isinstance bb_isinstance (pa_cons (pv 0) (pa_cons (pe_gref rfl T.g_Behind) pa_nil))) pa_nil))) (pa_cons (pe_tup (pa_cons (pe_str) (pa_cons (pe_callB (call_isP (.head _) hz.zc (hot_fields hot)) (by rfl) T.f_isinstance bb_isinstance (pa_cons (pv 0) (pa_cons (pe_gref rfl T.g_Over) pa_nil))) pa_nil))) (pa_cons (pe_tup (pa_cons (pe_str) (pa_cons (pe_callB (call_isP (.head _) hz.zc (hot_fields hot)) (by rfl) T.f_isinstance bb_isinstance (pa_cons (pv 0) (pa_cons (pe_gref rfl T.g_NoRange) pa_nil))) pa_nil))) pa_nil))))))
    (pss_cons (ps_set (i := 1) sc__law_word.nd rfl (Or.inl rfl) (pe_op op_addU (pv 1) (pe_lst (pa_cons (pe_tup (pa_cons (pe_str) (pa_cons (pe_callB (call_isP (.head _) hz.zc (hot_fields hot)) (by rfl) T.f_isinstance bb_isinstance (pa_cons (pv 0) (pa_cons (pe_gref rfl T.g_BadLetters) pa_nil))) pa_nil))) pa_nil))))
    (pss_cons (ps_setHot (i := 2) (own := [("_law_word_here", 3), ("_law_fits", 4)]) hot (.head _) sc__law_word.nd rfl rfl (sw_true rfl rfl rfl (by decide +kernel)) ((pv 1)) (blkOk_by (own := [("_law_word_here", 3), ("_law_fits", 4)]) (N := N__law_word) (sc := defScope s__law_word) (by decide +kernel)) (fun _ _ _ _ _ => (pg_tupH hot (pgs_cons (pg_name (i := 3) sc__law_word.nd rfl (Or.inl rfl)) (pgs_cons (pg_name (i := 4) sc__law_word.nd rfl (Or.inl rfl)) pgs_nil)))) (fun _ _ _ _ _ => pts_one (pt_val (pv 4))) (fun _ _ _ _ _ => (pv 3)))
    (pss_one (ps_ret (pe_ifExp (pt_val (pe_callB (call_isP (.head _) hz.zc (hot_fields hot)) (by rfl) T.f_isinstance bb_isinstance (pa_cons (pv 0) (pa_cons (pe_bty rfl T.f_ValueError bt_ValueError) pa_nil)))) (pe_callTy cr_tupleK (by rfl) T.f_tuple bt_tuple (pa_cons (pv 2) pa_nil)) (pe_tup (pa_cons (pe_str) pa_nil))))))))))))))
theorem ok__law_word_1 {P : Program} {w : World} {K : PySem.W.Frag} {mg : Str → Option Value} {base : Heap} (T : Tx K mg) : ∃ fd, Binds K fd ["_law_e"] [] ∧ FnE P w K mg base (L2N.CX P w) 1 (He.fAd K ("_law_word", none)) fd ["_law_e"] (sp__law_word K) ∧ PySem.W.keepIn K (.ref (He.fAd K ("_law_word", none))) = true := by
  obtain ⟨fd, F⟩ := T.d__law_word
  exact ⟨fd, FunD.bindsN F fun _ _ _ _ _ _ us hl => match us, hl with | [_], _ => rfl, FunD.okE F sc__law_word (fun a c d vs H Q E h => len__law_word h) (fun cdv A outer s H vs Q E p cls d hot hz hr h => ⟨t__law_word K p.1 cls d, wk__law_word T hot hz hr, rd__law_word  h⟩), F.kp⟩
abbrev N_BitReader_left : List Str := ["self"]
theorem sc_BitReader_left : FnScope N_BitReader_left ["self"] (defScope s_BitReader_left) := ⟨rfl, rfl, rfl, by decide +kernel, rfl, by decide +kernel, by decide +kernel⟩
theorem wk_BitReader_left {P : Program} {w : World} {K : PySem.W.Frag} {mg : Str → Option Value} {base : Heap} (T : Tx K mg)  {f : Addr} {cdv : Value} {A : Around} {outer : List Env} {s : Shared} {H : Hp} {E : XK}
    (hr : Room 0 (A.deeper (envOfC "BitReader.left" (defScope s_BitReader_left) s.heap.objs.size f cdv))) :
    PSs (cxOf (L2N.CX P w) P w K mg base N_BitReader_left "BitReader.left" (defScope s_BitReader_left) f cdv A outer s H E) (defBody s_BitReader_left) (t_BitReader_left K (fun c d _ H2 => E c d H2)) := by
  have hu1 := hu_of hr
  have hu64 := hr.units
  have tk : L2N.Takes (cxOf (L2N.CX P w) P w K mg base N_BitReader_left "BitReader.left" (defScope s_BitReader_left) f cdv A outer s H E) (fun c d _ H2 => E c d H2) := L2N.takes_of rfl rfl rfl rfl
  exact (pss_one (ps_ret (pe_op op_subU (pe_op op_mulU (pe_gint rfl T.g_BYTE) (pe_callB cr_lenK (by rfl) T.f_len bb_len (pa_cons (pe_fld (pv 0) rfl) pa_nil))) (pe_fld (pv 0) rfl))))
theorem wkH_BitReader_left {P : Program} {w : World} {K : PySem.W.Frag} {mg : Str → Option Value} {base : Heap} (T : Tx K mg)  {f : Addr} {cdv : Value} {A : Around} {outer : List Env} {s : Shared} {H : Hp} {E : XK} {p : Addr × Obj} (hot : Hot1 A p)
    (hr : RoomH 0 (A.deeper (envOfC "BitReader.left" (defScope s_BitReader_left) s.heap.objs.size f cdv))) :
    PSs (cxH (L2N.CX P w) P w K mg base N_BitReader_left "BitReader.left" (defScope s_BitReader_left) f cdv A outer s H E p) (defBody s_BitReader_left) (t_BitReader_left K WF) := by
  have hu64 : (A.deeper (envOfC "BitReader.left" (defScope s_BitReader_left) s.heap.objs.size f cdv)).units + 64 < cLine := by
    have z := hr.un
    omega
  exact (pss_one (ps_ret (pe_op op_subU (pe_op op_mulU (pe_gint rfl T.g_BYTE) (pe_callB cr_lenK (by rfl) T.f_len bb_len (pa_cons (pe_fld (pv 0) rfl) pa_nil))) (pe_fld (pv 0) rfl))))
theorem okH_BitReader_left {P : Program} {w : World} {K : PySem.W.Frag} {mg : Str → Option Value} {base : Heap} (T : Tx K mg) : ∃ fd, Binds K fd ["self"] [] ∧ FnH P w K mg base (L2N.CX P w) 1 (He.fAd K ("BitReader", some "left")) fd ["self"] (sp_BitReader_left K) ∧ PySem.W.keepIn K (.ref (He.fAd K ("BitReader", some "left"))) = true := by
  obtain ⟨fd, F⟩ := T.d_BitReader_left
  exact ⟨fd, FunD.bindsN F fun _ _ _ _ _ _ us hl => match us, hl with | [_], _ => rfl, FunD.okH F sc_BitReader_left (fun vs H Q E h => len_BitReader_left h) (fun cdv A outer s H vs Q E p hot hr h => ⟨t_BitReader_left K WF, wkH_BitReader_left T  hot hr, rd_BitReader_left (E := fun _ _ _ => False) (of_KBitReader T) h⟩), F.kp⟩
theorem fn_BitReader_left {P : Program} {w : World} {K : PySem.W.Frag} {mg : Str → Option Value} {base : Heap} (T : Tx K mg) {f : Addr} {fd : FuncData} (F : FunD K d_BitReader_left.name d_BitReader_left.qual d_BitReader_left.params d_BitReader_left.body d_BitReader_left.scope (d_BitReader_left.dvs K) (d_BitReader_left.kws K) f fd) :
    FnOk P w K mg base (L2N.CX P w) 1 f fd ["self"] (sp_BitReader_left K) :=
  F.ok sc_BitReader_left (fun vs H Q E h => len_BitReader_left h) (fun cdv A outer s H vs Q E hr h => ⟨t_BitReader_left K (fun c d _ H2 => E c d H2), wk_BitReader_left T  hr, rd_BitReader_left (of_KBitReader T) h⟩)
theorem ok_BitReader_left_1 {P : Program} {w : World} {K : PySem.W.Frag} {mg : Str → Option Value} {base : Heap} (T : Tx K mg) : DOkN P w K mg base 1 (He.fAd K ("BitReader", some "left")) ["self"] [] (sp_BitReader_left K) := by
  obtain ⟨fd, F⟩ := T.d_BitReader_left
  exact ⟨fd, [], .nil, FunD.bindsN F fun _ _ _ _ _ _ us hl => match us, hl with | [_], _ => rfl, fn_BitReader_left T F, F.kp⟩
abbrev N__law_truth : List Str := ["_law_found"]
theorem sc__law_truth : FnScope N__law_truth ["_law_found"] (defScope s__law_truth) := ⟨rfl, rfl, rfl, by decide +kernel, rfl, by decide +kernel, by decide +kernel⟩
theorem wk__law_truth {P : Program} {w : World} {K : PySem.W.Frag} {mg : Str → Option Value} {base : Heap} (T : Tx K mg)  {f : Addr} {cdv : Value} {A : Around} {outer : List Env} {s : Shared} {H : Hp} {E : XK}
    (hr : Room 0 (A.deeper (envOfC "_law_truth" (defScope s__law_truth) s.heap.objs.size f cdv))) :
    PSs (cxOf (L2N.CX P w) P w K mg base N__law_truth "_law_truth" (defScope s__law_truth) f cdv A outer s H E) (defBody s__law_truth) (t__law_truth K (fun c d _ H2 => E c d H2)) := by
  have hu1 := hu_of hr
  have hu64 := hr.units
  have tk : L2N.Takes (cxOf (L2N.CX P w) P w K mg base N__law_truth "_law_truth" (defScope s__law_truth) f cdv A outer s H E) (fun c d _ H2 => E c d H2) := L2N.takes_of rfl rfl rfl rfl
  exact (pss_one (ps_ret (pe_ifExp (PW.pt (pw_or (pt_cmpR op_isU (pv 0) (pe_bl) (nomark _)) (pw_or1 (pt_cmpR op_isU (pv 0) (pe_bl) (nomark _))))) (pe_callTy cr_intK (by rfl) T.f_int bt_int (pa_cons (pv 0) pa_nil)) (pe_int))))
theorem wkH__law_truth {P : Program} {w : World} {K : PySem.W.Frag} {mg : Str → Option Value} {base : Heap} (T : Tx K mg)  {f : Addr} {cdv : Value} {A : Around} {outer : List Env} {s : Shared} {H : Hp} {E : XK} {p : Addr × Obj} (hot : Hot1 A p)
    (hr : RoomH 0 (A.deeper (envOfC "_law_truth" (defScope s__law_truth) s.heap.objs.size f cdv))) :
    PSs (cxH (L2N.CX P w) P w K mg base N__law_truth "_law_truth" (defScope s__law_truth) f cdv A outer s H E p) (defBody s__law_truth) (t__law_truth K WF) := by
  have hu64 : (A.deeper (envOfC "_law_truth" (defScope s__law_truth) s.heap.objs.size f cdv)).units + 64 < cLine := by
    have z := hr.un
    omega
  exact (pss_one (ps_ret (pe_ifExp (PW.pt (pw_or (pt_cmpR op_isU (pv 0) (pe_bl) (nomark _)) (pw_or1 (pt_cmpR op_isU (pv 0) (pe_bl) (nomark _))))) (pe_callTy cr_intK (by rfl) T.f_int bt_int (pa_cons (pv 0) pa_nil)) (pe_int))))
theorem okH__law_truth {P : Program} {w : World} {K : PySem.W.Frag} {mg : Str → Option Value} {base : Heap} (T : Tx K mg) : ∃ fd, Binds K fd ["_law_found"] [] ∧ FnH P w K mg base (L2N.CX P w) 1 (He.fAd K ("_law_truth", none)) fd ["_law_found"] (sp__law_truth K) ∧ PySem.W.keepIn K (.ref (He.fAd K ("_law_truth", none))) = true := by
  obtain ⟨fd, F⟩ := T.d__law_truth
  exact ⟨fd, FunD.bindsN F fun _ _ _ _ _ _ us hl => match us, hl with | [_], _ => rfl, FunD.okH F sc__law_truth (fun vs H Q E h => len__law_truth h) (fun cdv A outer s H vs Q E p hot hr h => ⟨t__law_truth K WF, wkH__law_truth T  hot hr, rd__law_truth (E := fun _ _ _ => False)  h⟩), F.kp⟩
theorem fn__law_truth {P : Program} {w : World} {K : PySem.W.Frag} {mg : Str → Option Value} {base : Heap} (T : Tx K mg) {f : Addr} {fd : FuncData} (F : FunD K d__law_truth.name d__law_truth.qual d__law_truth.params d__law_truth.body d__law_truth.scope (d__law_truth.dvs K) (d__law_truth.kws K) f fd) :
    FnOk P w K mg base (L2N.CX P w) 1 f fd ["_law_found"] (sp__law_truth K) :=
  F.ok sc__law_truth (fun vs H Q E h => len__law_truth h) (fun cdv A outer s H vs Q E hr h => ⟨t__law_truth K (fun c d _ H2 => E c d H2), wk__law_truth T  hr, rd__law_truth  h⟩)
theorem ok__law_truth_1 {P : Program} {w : World} {K : PySem.W.Frag} {mg : Str → Option Value} {base : Heap} (T : Tx K mg) : DOkN P w K mg base 1 (He.fAd K ("_law_truth", none)) ["_law_found"] [] (sp__law_truth K) := by
  obtain ⟨fd, F⟩ := T.d__law_truth
  exact ⟨fd, [], .nil, FunD.bindsN F fun _ _ _ _ _ _ us hl => match us, hl with | [_], _ => rfl, fn__law_truth T F, F.kp⟩
abbrev N_BitReader_at_end : List Str := ["self"]
theorem sc_BitReader_at_end : FnScope N_BitReader_at_end ["self"] (defScope s_BitReader_at_end) := ⟨rfl, rfl, rfl, by decide +kernel, rfl, by decide +kernel, by decide +kernel⟩
theorem wk_BitReader_at_end {P : Program} {w : World} {K : PySem.W.Frag} {mg : Str → Option Value} {base : Heap} (T : Tx K mg) (O0 : DOkN P w K mg base 1 (He.fAd K ("BitReader", some "left")) ["self"] [] (sp_BitReader_left K)) {f : Addr} {cdv : Value} {A : Around} {outer : List Env} {s : Shared} {H : Hp} {E : XK}
    (hr : Room 1 (A.deeper (envOfC "BitReader.at_end" (defScope s_BitReader_at_end) s.heap.objs.size f cdv))) :
    PSs (cxOf (L2N.CX P w) P w K mg base N_BitReader_at_end "BitReader.at_end" (defScope s_BitReader_at_end) f cdv A outer s H E) (defBody s_BitReader_at_end) (t_BitReader_at_end K (fun c d _ H2 => E c d H2)) := by
  obtain ⟨fd0, ds0, v0, b0, G0, q0⟩ := O0
  have hu1 := hu_of hr
  have hu64 := hr.units
  have tk : L2N.Takes (cxOf (L2N.CX P w) P w K mg base N_BitReader_at_end "BitReader.at_end" (defScope s_BitReader_at_end) f cdv A outer s H E) (fun c d _ H2 => E c d H2) := L2N.takes_of rfl rfl rfl rfl
  exact (pss_cons (ps_if (pt_cmpR op_geU (pe_mt0N (pv 0) T.c_BitReader T.m_BitReader_left G0 (hr.mono (by decide)) b0 v0 tk) (pe_gint rfl T.g_BYTE) (nomark _)) (pss_one (ps_ret (pe_bl))) pss_nil)
    (pss_cons (ps_if (pt_cmpR (op_eqU hu64) (pe_mt0N (pv 0) T.c_BitReader T.m_BitReader_left G0 (hr.mono (by decide)) b0 v0 tk) (pe_int) (nomark _)) (pss_one (ps_ret (pe_bl))) pss_nil)
    (pss_one (ps_ret (pe_cmpR (op_eqU hu64) (pe_op op_andU (pe_ix ix_seq (pe_fld (pv 0) rfl) (pe_un un_negU (pe_int)) (fun _ _ => rfl)) (pe_op op_subU (pe_op op_shlU (pe_int) (pe_mt0N (pv 0) T.c_BitReader T.m_BitReader_left G0 (hr.mono (by decide)) b0 v0 tk)) (pe_int))) (pe_int) (nomark _))))))
theorem wkH_BitReader_at_end {P : Program} {w : World} {K : PySem.W.Frag} {mg : Str → Option Value} {base : Heap} (T : Tx K mg) (O0 : ∃ fd, Binds K fd ["self"] [] ∧ FnH P w K mg base (L2N.CX P w) 1 (He.fAd K ("BitReader", some "left")) fd ["self"] (sp_BitReader_left K) ∧ PySem.W.keepIn K (.ref (He.fAd K ("BitReader", some "left"))) = true) {f : Addr} {cdv : Value} {A : Around} {outer : List Env} {s : Shared} {H : Hp} {E : XK} {p : Addr × Obj} (hot : Hot1 A p)
    (hr : RoomH 1 (A.deeper (envOfC "BitReader.at_end" (defScope s_BitReader_at_end) s.heap.objs.size f cdv))) :
    PSs (cxH (L2N.CX P w) P w K mg base N_BitReader_at_end "BitReader.at_end" (defScope s_BitReader_at_end) f cdv A outer s H E p) (defBody s_BitReader_at_end) (t_BitReader_at_end K WF) := by
  obtain ⟨fd0, b0, G0, q0⟩ := O0
  have hu64 : (A.deeper (envOfC "BitReader.at_end" (defScope s_BitReader_at_end) s.heap.objs.size f cdv)).units + 64 < cLine := by
    have z := hr.un
    omega
  exact (pss_cons (ps_if (pt_cmpR op_geU (pe_mt0H (pv 0) T.c_BitReader T.m_BitReader_left G0 (hr.mono (by decide)) ⟨p, hot, .head _⟩ b0) (pe_gint rfl T.g_BYTE) (nomark _)) (pss_one (ps_ret (pe_bl))) pss_nil)
    (pss_cons (ps_if (pt_cmpR (op_eqU hu64) (pe_mt0H (pv 0) T.c_BitReader T.m_BitReader_left G0 (hr.mono (by decide)) ⟨p, hot, .head _⟩ b0) (pe_int) (nomark _)) (pss_one (ps_ret (pe_bl))) pss_nil)
    (pss_one (ps_ret (pe_cmpR (op_eqU hu64) (pe_op op_andU (pe_ix ix_seq (pe_fld (pv 0) rfl) (pe_un un_negU (pe_int)) (fun _ _ => rfl)) (pe_op op_subU (pe_op op_shlU (pe_int) (pe_mt0H (pv 0) T.c_BitReader T.m_BitReader_left G0 (hr.mono (by decide)) ⟨p, hot, .head _⟩ b0)) (pe_int))) (pe_int) (nomark _))))))
theorem okH_BitReader_at_end {P : Program} {w : World} {K : PySem.W.Frag} {mg : Str → Option Value} {base : Heap} (T : Tx K mg) : ∃ fd, Binds K fd ["self"] [] ∧ FnH P w K mg base (L2N.CX P w) 2 (He.fAd K ("BitReader", some "at_end")) fd ["self"] (sp_BitReader_at_end K) ∧ PySem.W.keepIn K (.ref (He.fAd K ("BitReader", some "at_end"))) = true := by
  obtain ⟨fd, F⟩ := T.d_BitReader_at_end
  exact ⟨fd, FunD.bindsN F fun _ _ _ _ _ _ us hl => match us, hl with | [_], _ => rfl, FunD.okH F sc_BitReader_at_end (fun vs H Q E h => len_BitReader_at_end h) (fun cdv A outer s H vs Q E p hot hr h => ⟨t_BitReader_at_end K WF, wkH_BitReader_at_end T (okH_BitReader_left T) hot hr, rd_BitReader_at_end (E := fun _ _ _ => False) (of_KBitReader T) h⟩), F.kp⟩
theorem fn_BitReader_at_end {P : Program} {w : World} {K : PySem.W.Frag} {mg : Str → Option Value} {base : Heap} (T : Tx K mg) {f : Addr} {fd : FuncData} (F : FunD K d_BitReader_at_end.name d_BitReader_at_end.qual d_BitReader_at_end.params d_BitReader_at_end.body d_BitReader_at_end.scope (d_BitReader_at_end.dvs K) (d_BitReader_at_end.kws K) f fd) :
    FnOk P w K mg base (L2N.CX P w) 2 f fd ["self"] (sp_BitReader_at_end K) :=
  F.ok sc_BitReader_at_end (fun vs H Q E h => len_BitReader_at_end h) (fun cdv A outer s H vs Q E hr h => ⟨t_BitReader_at_end K (fun c d _ H2 => E c d H2), wk_BitReader_at_end T (ok_BitReader_left_1 T) hr, rd_BitReader_at_end (of_KBitReader T) h⟩)
theorem ok_BitReader_at_end_1 {P : Program} {w : World} {K : PySem.W.Frag} {mg : Str → Option Value} {base : Heap} (T : Tx K mg) : DOkN P w K mg base 2 (He.fAd K ("BitReader", some "at_end")) ["self"] [] (sp_BitReader_at_end K) := by
  obtain ⟨fd, F⟩ := T.d_BitReader_at_end
  exact ⟨fd, [], .nil, FunD.bindsN F fun _ _ _ _ _ _ us hl => match us, hl with | [_], _ => rfl, fn_BitReader_at_end T F, F.kp⟩
abbrev N_BitReader_place : List Str := ["self"]
theorem sc_BitReader_place : FnScope N_BitReader_place ["self"] (defScope s_BitReader_place) := ⟨rfl, rfl, rfl, by decide +kernel, rfl, by decide +kernel, by decide +kernel⟩
theorem wk_BitReader_place {P : Program} {w : World} {K : PySem.W.Frag} {mg : Str → Option Value} {base : Heap} (T : Tx K mg)  {f : Addr} {cdv : Value} {A : Around} {outer : List Env} {s : Shared} {H : Hp} {E : XK}
    (hr : Room 0 (A.deeper (envOfC "BitReader.place" (defScope s_BitReader_place) s.heap.objs.size f cdv))) :
    PSs (cxOf (L2N.CX P w) P w K mg base N_BitReader_place "BitReader.place" (defScope s_BitReader_place) f cdv A outer s H E) (defBody s_BitReader_place) (t_BitReader_place K (fun c d _ H2 => E c d H2)) := by
  have hu1 := hu_of hr
  have hu64 := hr.units
  have tk : L2N.Takes (cxOf (L2N.CX P w) P w K mg base N_BitReader_place "BitReader.place" (defScope s_BitReader_place) f cdv A outer s H E) (fun c d _ H2 => E c d H2) := L2N.takes_of rfl rfl rfl rfl
  exact (pss_one (ps_ret (pe_fld (pv 0) rfl)))
theorem wkH_BitReader_place {P : Program} {w : World} {K : PySem.W.Frag} {mg : Str → Option Value} {base : Heap} (T : Tx K mg)  {f : Addr} {cdv : Value} {A : Around} {outer : List Env} {s : Shared} {H : Hp} {E : XK} {p : Addr × Obj} (hot : Hot1 A p)
    (hr : RoomH 0 (A.deeper (envOfC "BitReader.place" (defScope s_BitReader_place) s.heap.objs.size f cdv))) :
    PSs (cxH (L2N.CX P w) P w K mg base N_BitReader_place "BitReader.place" (defScope s_BitReader_place) f cdv A outer s H E p) (defBody s_BitReader_place) (t_BitReader_place K WF) := by
  have hu64 : (A.deeper (envOfC "BitReader.place" (defScope s_BitReader_place) s.heap.objs.size f cdv)).units + 64 < cLine := by
    have z := hr.un
    omega
  exact (pss_one (ps_ret (pe_fld (pv 0) rfl)))
theorem okH_BitReader_place {P : Program} {w : World} {K : PySem.W.Frag} {mg : Str → Option Value} {base : Heap} (T : Tx K mg) : ∃ fd, Binds K fd ["self"] [] ∧ FnH P w K mg base (L2N.CX P w) 1 (He.fAd K ("BitReader", some "place")) fd ["self"] (sp_BitReader_place K) ∧ PySem.W.keepIn K (.ref (He.fAd K ("BitReader", some "place"))) = true := by
  obtain ⟨fd, F⟩ := T.d_BitReader_place
  exact ⟨fd, FunD.bindsN F fun _ _ _ _ _ _ us hl => match us, hl with | [_], _ => rfl, FunD.okH F sc_BitReader_place (fun vs H Q E h => len_BitReader_place h) (fun cdv A outer s H vs Q E p hot hr h => ⟨t_BitReader_place K WF, wkH_BitReader_place T  hot hr, rd_BitReader_place (E := fun _ _ _ => False) (of_KBitReader T) h⟩), F.kp⟩
theorem fn_BitReader_place {P : Program} {w : World} {K : PySem.W.Frag} {mg : Str → Option Value} {base : Heap} (T : Tx K mg) {f : Addr} {fd : FuncData} (F : FunD K d_BitReader_place.name d_BitReader_place.qual d_BitReader_place.params d_BitReader_place.body d_BitReader_place.scope (d_BitReader_place.dvs K) (d_BitReader_place.kws K) f fd) :
    FnOk P w K mg base (L2N.CX P w) 1 f fd ["self"] (sp_BitReader_place K) :=
  F.ok sc_BitReader_place (fun vs H Q E h => len_BitReader_place h) (fun cdv A outer s H vs Q E hr h => ⟨t_BitReader_place K (fun c d _ H2 => E c d H2), wk_BitReader_place T  hr, rd_BitReader_place (of_KBitReader T) h⟩)
theorem ok_BitReader_place_1 {P : Program} {w : World} {K : PySem.W.Frag} {mg : Str → Option Value} {base : Heap} (T : Tx K mg) : DOkN P w K mg base 1 (He.fAd K ("BitReader", some "place")) ["self"] [] (sp_BitReader_place K) := by
  obtain ⟨fd, F⟩ := T.d_BitReader_place
  exact ⟨fd, [], .nil, FunD.bindsN F fun _ _ _ _ _ _ us hl => match us, hl with | [_], _ => rfl, fn_BitReader_place T F, F.kp⟩
abbrev N__law_stands : List Str := ["_law_reader", "_law_whole", "_law_digits", "_law_way", "_law_turn", "_law_ask", "_law_found"]
theorem sc__law_stands : FnScope N__law_stands ["_law_reader", "_law_whole", "_law_digits", "_law_way"] (defScope s__law_stands) := ⟨rfl, rfl, rfl, by decide +kernel, rfl, by decide +kernel, by decide +kernel⟩
theorem wk__law_stands {P : Program} {w : World} {K : PySem.W.Frag} {mg : Str → Option Value} {base : Heap} (T : Tx K mg) (O0 : DOkN P w K mg base 1 (He.fAd K ("BitReader", some "left")) ["self"] [] (sp_BitReader_left K)) (O1 : DOkN P w K mg base 1 (He.fAd K ("_law_truth", none)) ["_law_found"] [] (sp__law_truth K)) (O2 : DOkN P w K mg base 2 (He.fAd K ("BitReader", some "at_end")) ["self"] [] (sp_BitReader_at_end K)) (O3 : DOkN P w K mg base 1 (He.fAd K ("BitReader", some "place")) ["self"] [] (sp_BitReader_place K)) {f : Addr} {cdv : Value} {A : Around} {outer : List Env} {s : Shared} {H : Hp} {E : XK}
    (hr : Room 2 (A.deeper (envOfC "_law_stands" (defScope s__law_stands) s.heap.objs.size f cdv))) :
    PSs (cxOf (L2N.CX P w) P w K mg base N__law_stands "_law_stands" (defScope s__law_stands) f cdv A outer s H E) (defBody s__law_stands) (t__law_stands K (fun c d _ H2 => E c d H2)) := by
  obtain ⟨fd0, ds0, v0, b0, G0, q0⟩ := O0
  obtain ⟨fd1, ds1, v1, b1, G1, q1⟩ := O1
  obtain ⟨fd2, ds2, v2, b2, G2, q2⟩ := O2
  obtain ⟨fd3, ds3, v3, b3, G3, q3⟩ := O3
  have hu1 := hu_of hr
  have hu64 := hr.units
  have tk : L2N.Takes (cxOf (L2N.CX P w) P w K mg base N__law_stands "_law_stands" (defScope s__law_stands) f cdv A outer s H E) (fun c d _ H2 => E c d H2) := L2N.takes_of rfl rfl rfl rfl
  exact (pss_cons (ps_for (passes_of rfl) rfl (pi_range1 rfl T.f_range (pa_cons (pe_int) pa_nil)) (pg_name (i := 4) sc__law_stands.nd rfl (Or.inl rfl)) (pss_cons (ps_set (i := 5) sc__law_stands.nd rfl (Or.inl rfl) (pe_op op_modU (pe_op op_addU (pe_op op_divU (pv 3) (pe_int)) (pe_op op_mulU (pv 4) (pe_op op_addU (pe_int) (pe_op op_modU (pv 3) (pe_int))))) (pe_int)))
    (pss_cons (ps_if (PW.pt (pw_and (pt_cmpR (op_eqU hu64) (pv 5) (pe_int) (nomark _)) (pw_and1 (PW.pt (pw_or (pt_val (pe_callB call_isi (by rfl) T.f_isinstance bb_isinstance (pa_cons (pe_mt0N (pv 0) T.c_BitReader T.m_BitReader_left G0 (hr.mono (by decide)) b0 v0 tk) (pa_cons (pe_bty rfl T.f_bool bt_bool) pa_nil)))) (pw_or1 (pt_cmpR (op_neU hu64) (pe_mt0N (pv 0) T.c_BitReader T.m_BitReader_left G0 (hr.mono (by decide)) b0 v0 tk) (pe_callB cr_lenK (by rfl) T.f_len bb_len (pa_cons (pv 2) pa_nil)) (nomark _)))))))) (pss_one (ps_ret (pe_bl))) pss_nil)
    (pss_cons (ps_if (PW.pt (pw_and (pt_cmpR (op_eqU hu64) (pv 5) (pe_int) (nomark _)) (pw_and1 (pt_cmpR (op_neU hu64) (pe_clN G1 (hr.mono (by decide)) rfl T.g__law_truth q1 b1 v1 tk (pa_cons (pe_mt0N (pv 0) T.c_BitReader T.m_BitReader_at_end G2 (hr.mono (by decide)) b2 v2 tk) pa_nil)) (pe_callTy cr_intK (by rfl) T.f_int bt_int (pa_cons ((pe_and (pe_cmpR op_ltU (pe_callB cr_lenK (by rfl) T.f_len bb_len (pa_cons (pv 2) pa_nil)) (pe_int) (nomark _)) (pe_one (pe_cmpR op_niU (pe_str) (pv 2) (by rfl))))) pa_nil)) (nomark _))))) (pss_one (ps_ret (pe_bl))) pss_nil)
    (pss_cons (ps_set (i := 6) sc__law_stands.nd rfl (Or.inl rfl) (pe_mt0N (pv 0) T.c_BitReader T.m_BitReader_place G3 (hr.mono (by decide)) b3 v3 tk))
    (pss_one (ps_if (PW.pt (pw_and (pt_cmpR (op_eqU hu64) (pv 5) (pe_int) (nomark _)) (pw_and1 (PW.pt (pw_or (pt_val (pe_callB call_isi (by rfl) T.f_isinstance bb_isinstance (pa_cons (pv 6) (pa_cons (pe_bty rfl T.f_bool bt_bool) pa_nil)))) (pw_or1 (pt_cmpR (op_neU hu64) (pv 6) (pe_op op_subU (pe_callB cr_lenK (by rfl) T.f_len bb_len (pa_cons (pv 1) pa_nil)) (pe_callB cr_lenK (by rfl) T.f_len bb_len (pa_cons (pv 2) pa_nil))) (nomark _)))))))) (pss_one (ps_ret (pe_bl))) pss_nil)))))))
    (pss_one (ps_ret (pe_bl))))
theorem wkH__law_stands {P : Program} {w : World} {K : PySem.W.Frag} {mg : Str → Option Value} {base : Heap} (T : Tx K mg) (O0 : ∃ fd, Binds K fd ["self"] [] ∧ FnH P w K mg base (L2N.CX P w) 1 (He.fAd K ("BitReader", some "left")) fd ["self"] (sp_BitReader_left K) ∧ PySem.W.keepIn K (.ref (He.fAd K ("BitReader", some "left"))) = true) (O1 : ∃ fd, Binds K fd ["_law_found"] [] ∧ FnH P w K mg base (L2N.CX P w) 1 (He.fAd K ("_law_truth", none)) fd ["_law_found"] (sp__law_truth K) ∧ PySem.W.keepIn K (.ref (He.fAd K ("_law_truth", none))) = true) (O2 : ∃ fd, Binds K fd ["self"] [] ∧ FnH P w K mg base (L2N.CX P w) 2 (He.fAd K ("BitReader", some "at_end")) fd ["self"] (sp_BitReader_at_end K) ∧ PySem.W.keepIn K (.ref (He.fAd K ("BitReader", some "at_end"))) = true) (O3 : ∃ fd, Binds K fd ["self"] [] ∧ FnH P w K mg base (L2N.CX P w) 1 (He.fAd K ("BitReader", some "place")) fd ["self"] (sp_BitReader_place K) ∧ PySem.W.keepIn K (.ref (He.fAd K ("BitReader", some "place"))) = true) {f : Addr} {cdv : Value} {A : Around} {outer : List Env} {s : Shared} {H : Hp} {E : XK} {p : Addr × Obj} (hot : Hot1 A p)
    (hr : RoomH 2 (A.deeper (envOfC "_law_stands" (defScope s__law_stands) s.heap.objs.size f cdv))) :
    PSs (cxH (L2N.CX P w) P w K mg base N__law_stands "_law_stands" (defScope s__law_stands) f cdv A outer s H E p) (defBody s__law_stands) (t__law_stands K WF) := by
  obtain ⟨fd0, b0, G0, q0⟩ := O0
  obtain ⟨fd1, b1, G1, q1⟩ := O1
  obtain ⟨fd2, b2, G2, q2⟩ := O2
  obtain ⟨fd3, b3, G3, q3⟩ := O3
  have hu64 : (A.deeper (envOfC "_law_stands" (defScope s__law_stands) s.heap.objs.size f cdv)).units + 64 < cLine := by
    have z := hr.un
    omega
  exact (pss_cons (ps_forH (passes_of rfl) ⟨p, hot, .head _⟩ (pi_range1H rfl T.f_range (pa_cons (pe_int) pa_nil)) (pg_name (i := 4) sc__law_stands.nd rfl (Or.inl rfl)) (pss_cons (ps_set (i := 5) sc__law_stands.nd rfl (Or.inl rfl) (pe_op op_modU (pe_op op_addU (pe_op op_divU (pv 3) (pe_int)) (pe_op op_mulU (pv 4) (pe_op op_addU (pe_int) (pe_op op_modU (pv 3) (pe_int))))) (pe_int)))
    (pss_cons (ps_if (PW.pt (pw_and (pt_cmpR (op_eqU hu64) (pv 5) (pe_int) (nomark _)) (pw_and1 (PW.pt (pw_or (pt_val (pe_callB call_isi (by rfl) T.f_isinstance bb_isinstance (pa_cons (pe_mt0H (pv 0) T.c_BitReader T.m_BitReader_left G0 (hr.mono (by decide)) ⟨p, hot, .head _⟩ b0) (pa_cons (pe_bty rfl T.f_bool bt_bool) pa_nil)))) (pw_or1 (pt_cmpR (op_neU hu64) (pe_mt0H (pv 0) T.c_BitReader T.m_BitReader_left G0 (hr.mono (by decide)) ⟨p, hot, .head _⟩ b0) (pe_callB cr_lenK (by rfl) T.f_len bb_len (pa_cons (pv 2) pa_nil)) (nomark _)))))))) (pss_one (ps_ret (pe_bl))) pss_nil)
    (pss_cons (ps_if (PW.pt (pw_and (pt_cmpR (op_eqU hu64) (pv 5) (pe_int) (nomark _)) (pw_and1 (pt_cmpR (op_neU hu64) (pe_clH G1 (hr.mono (by decide)) ⟨p, hot, .head _⟩ rfl T.g__law_truth q1 b1 (pa_cons (pe_mt0H (pv 0) T.c_BitReader T.m_BitReader_at_end G2 (hr.mono (by decide)) ⟨p, hot, .head _⟩ b2) pa_nil)) (pe_callTy cr_intK (by rfl) T.f_int bt_int (pa_cons ((pe_and (pe_cmpR op_ltU (pe_callB cr_lenK (by rfl) T.f_len bb_len (pa_cons (pv 2) pa_nil)) (pe_int) (nomark _)) (pe_one (pe_cmpR op_niU (pe_str) (pv 2) (by rfl))))) pa_nil)) (nomark _))))) (pss_one (ps_ret (pe_bl))) pss_nil)
    (pss_cons (ps_set (i := 6) sc__law_stands.nd rfl (Or.inl rfl) (pe_mt0H (pv 0) T.c_BitReader T.m_BitReader_place G3 (hr.mono (by decide)) ⟨p, hot, .head _⟩ b3))
    (pss_one (ps_if (PW.pt (pw_and (pt_cmpR (op_eqU hu64) (pv 5) (pe_int) (nomark _)) (pw_and1 (PW.pt (pw_or (pt_val (pe_callB call_isi (by rfl) T.f_isinstance bb_isinstance (pa_cons (pv 6) (pa_cons (pe_bty rfl T.f_bool bt_bool) pa_nil)))) (pw_or1 (pt_cmpR (op_neU hu64) (pv 6) (pe_op op_subU (pe_callB cr_lenK (by rfl) T.f_len bb_len (pa_cons (pv 1) pa_nil)) (pe_callB cr_lenK (by rfl) T.f_len bb_len (pa_cons (pv 2) pa_nil))) (nomark _)))))))) (pss_one (ps_ret (pe_bl))) pss_nil)))))))
    (pss_one (ps_ret (pe_bl))))
theorem okH__law_stands {P : Program} {w : World} {K : PySem.W.Frag} {mg : Str → Option Value} {base : Heap} (T : Tx K mg) : ∃ fd, Binds K fd ["_law_reader", "_law_whole", "_law_digits", "_law_way"] [] ∧ FnH P w K mg base (L2N.CX P w) 3 (He.fAd K ("_law_stands", none)) fd ["_law_reader", "_law_whole", "_law_digits", "_law_way"] (sp__law_stands K) ∧ PySem.W.keepIn K (.ref (He.fAd K ("_law_stands", none))) = true := by
  obtain ⟨fd, F⟩ := T.d__law_stands
  exact ⟨fd, FunD.bindsN F fun _ _ _ _ _ _ us hl => match us, hl with | [_, _, _, _], _ => rfl, FunD.okH F sc__law_stands (fun vs H Q E h => len__law_stands h) (fun cdv A outer s H vs Q E p hot hr h => ⟨t__law_stands K WF, wkH__law_stands T (okH_BitReader_left T) (okH__law_truth T) (okH_BitReader_at_end T) (okH_BitReader_place T) hot hr, rd__law_stands (E := fun _ _ _ => False)  h⟩), F.kp⟩
theorem fn__law_stands {P : Program} {w : World} {K : PySem.W.Frag} {mg : Str → Option Value} {base : Heap} (T : Tx K mg) {f : Addr} {fd : FuncData} (F : FunD K d__law_stands.name d__law_stands.qual d__law_stands.params d__law_stands.body d__law_stands.scope (d__law_stands.dvs K) (d__law_stands.kws K) f fd) :
    FnOk P w K mg base (L2N.CX P w) 3 f fd ["_law_reader", "_law_whole", "_law_digits", "_law_way"] (sp__law_stands K) :=
  F.ok sc__law_stands (fun vs H Q E h => len__law_stands h) (fun cdv A outer s H vs Q E hr h => ⟨t__law_stands K (fun c d _ H2 => E c d H2), wk__law_stands T (ok_BitReader_left_1 T) (ok__law_truth_1 T) (ok_BitReader_at_end_1 T) (ok_BitReader_place_1 T) hr, rd__law_stands  h⟩)
theorem ok__law_stands_4 {P : Program} {w : World} {K : PySem.W.Frag} {mg : Str → Option Value} {base : Heap} (T : Tx K mg) : DOkN P w K mg base 3 (He.fAd K ("_law_stands", none)) ["_law_reader", "_law_whole", "_law_digits", "_law_way"] [] (sp__law_stands K) := by
  obtain ⟨fd, F⟩ := T.d__law_stands
  exact ⟨fd, [], .nil, FunD.bindsN F fun _ _ _ _ _ _ us hl => match us, hl with | [_, _, _, _], _ => rfl, fn__law_stands T F, F.kp⟩
abbrev N__law_gone : List Str := ["_law_reader", "_law_whole", "_law_digits", "_law_cell", "_law_odd", "_law_e", "_law_place"]
theorem sc__law_gone : FnScope N__law_gone ["_law_reader", "_law_whole", "_law_digits", "_law_cell"] (defScope s__law_gone) := ⟨rfl, rfl, rfl, by decide +kernel, rfl, by decide +kernel, by decide +kernel⟩
theorem wk__law_gone {P : Program} {w : World} {K : PySem.W.Frag} {mg : Str → Option Value} {base : Heap} (T : Tx K mg) (O0 : DOkN P w K mg base 2 (He.fAd K ("BitReader", some "go")) ["self", "place"] [] (sp_BitReader_go K)) (O1 : ∃ fd, Binds K fd ["_law_e"] [] ∧ FnE P w K mg base (L2N.CX P w) 1 (He.fAd K ("_law_word", none)) fd ["_law_e"] (sp__law_word K) ∧ PySem.W.keepIn K (.ref (He.fAd K ("_law_word", none))) = true) (O2 : ∃ fd, Binds K fd ["_law_reader", "_law_whole", "_law_digits", "_law_way"] [] ∧ FnH P w K mg base (L2N.CX P w) 3 (He.fAd K ("_law_stands", none)) fd ["_law_reader", "_law_whole", "_law_digits", "_law_way"] (sp__law_stands K) ∧ PySem.W.keepIn K (.ref (He.fAd K ("_law_stands", none))) = true) {f : Addr} {cdv : Value} {A : Around} {outer : List Env} {s : Shared} {H : Hp} {E : XK}
    (hr : Room 3 (A.deeper (envOfC "_law_gone" (defScope s__law_gone) s.heap.objs.size f cdv))) :
    PSs (cxOf (L2N.CX P w) P w K mg base N__law_gone "_law_gone" (defScope s__law_gone) f cdv A outer s H E) (defBody s__law_gone) (t__law_gone K (fun c d _ H2 => E c d H2)) := by
  obtain ⟨fd0, ds0, v0, b0, G0, q0⟩ := O0
  obtain ⟨fd1, b1, G1, q1⟩ := O1
  obtain ⟨fd2, b2, G2, q2⟩ := O2
  have hu1 := hu_of hr
  have hu64 := hr.units
  have tk : L2N.Takes (cxOf (L2N.CX P w) P w K mg base N__law_gone "_law_gone" (defScope s__law_gone) f cdv A outer s H E) (fun c d _ H2 => E c d H2) := L2N.takes_of rfl rfl rfl rfl
  exact (pss_cons (ps_set (i := 4) sc__law_gone.nd rfl (Or.inl rfl) (pe_ix ix_seq (pe_lst (pa_cons (pe_un un_negU (pe_int)) (pa_cons (pe_op op_addU (pe_callB cr_lenK (by rfl) T.f_len bb_len (pa_cons (pv 1) pa_nil)) (pe_int)) (pa_cons (pe_bl) (pa_cons (pe_non) (pa_cons (pe_str) (pa_cons (pe_op op_powU (pe_int) (pe_int)) pa_nil))))))) (pe_op op_modU (pv 3) (pe_int)) (fun _ _ => rfl)))
    (pss_cons (ps_tryAsN rfl rfl sc__law_gone.nd rfl rfl ⟨rfl, by decide, .inl T.g_PressError⟩ tk (fun W pn xe tk po => (pss_cons (ps_expr (pe_mtN (pv 0) T.c_BitReader T.m_BitReader_go G0 (hr.mono (by decide)) b0 v0 tk (pa_cons (pv 4) pa_nil)))
    (pss_one (ps_ret (pe_non)))))
    (fun a oe cls d pn hz hf => (pss_one (ps_if (PW.pt (pw_or (pt_cmpR (op_neU hu64) (pe_clE G1 (roomH_of (hr.mono (by decide))) hz hf rfl T.g__law_word q1 b1 (pa_cons (pv 5) pa_nil)) (pe_tup (pa_cons (pe_str) pa_nil)) (nomark _)) (pw_or1 (pt_not (pt_val (pe_clH G2 (roomMark (roomH_of (hr.mono (by decide)))) ⟨(a, oe), hot_of hz hf, .head _⟩ rfl T.g__law_stands q2 b2 (pa_cons (pv 0) (pa_cons (pv 1) (pa_cons (pv 2) (pa_cons (pv 3) pa_nil)))))))))) (pss_one (ps_ret (pe_non))) pss_nil))))
    (pss_cons (ps_set (i := 6) sc__law_gone.nd rfl (Or.inl rfl) (pe_op op_modU (pe_op op_divU (pv 3) (pe_int)) (pe_op op_addU (pe_callB cr_lenK (by rfl) T.f_len bb_len (pa_cons (pv 1) pa_nil)) (pe_int))))
    (pss_one (ps_ret (pe_ifExp (pt_cmpR op_isU (pe_mtN (pv 0) T.c_BitReader T.m_BitReader_go G0 (hr.mono (by decide)) b0 v0 tk (pa_cons (pv 6) pa_nil)) (pe_non) (nomark _)) (pe_slice sl_K (pv 1) (po_some (pv 6)) po_none) (pe_non)))))))
theorem fn__law_gone {P : Program} {w : World} {K : PySem.W.Frag} {mg : Str → Option Value} {base : Heap} (T : Tx K mg) {f : Addr} {fd : FuncData} (F : FunD K d__law_gone.name d__law_gone.qual d__law_gone.params d__law_gone.body d__law_gone.scope (d__law_gone.dvs K) (d__law_gone.kws K) f fd) :
    FnOk P w K mg base (L2N.CX P w) 4 f fd ["_law_reader", "_law_whole", "_law_digits", "_law_cell"] (sp__law_gone K) :=
  F.ok sc__law_gone (fun vs H Q E h => len__law_gone h) (fun cdv A outer s H vs Q E hr h => ⟨t__law_gone K (fun c d _ H2 => E c d H2), wk__law_gone T (ok_BitReader_go_2 T) (ok__law_word_1 T) (okH__law_stands T) hr, rd__law_gone (of_KWBadBits T) h⟩)
theorem ok__law_gone_4 {P : Program} {w : World} {K : PySem.W.Frag} {mg : Str → Option Value} {base : Heap} (T : Tx K mg) : DOkN P w K mg base 4 (He.fAd K ("_law_gone", none)) ["_law_reader", "_law_whole", "_law_digits", "_law_cell"] [] (sp__law_gone K) := by
  obtain ⟨fd, F⟩ := T.d__law_gone
  exact ⟨fd, [], .nil, FunD.bindsN F fun _ _ _ _ _ _ us hl => match us, hl with | [_, _, _, _], _ => rfl, fn__law_gone T F, F.kp⟩
abbrev N_need_size : List Str := ["size"]
theorem sc_need_size : FnScope N_need_size ["size"] (defScope s_need_size) := ⟨rfl, rfl, rfl, by decide +kernel, rfl, by decide +kernel, by decide +kernel⟩
theorem wk_need_size {P : Program} {w : World} {K : PySem.W.Frag} {mg : Str → Option Value} {base : Heap} (T : Tx K mg) (O0 : DOkN P w K mg base 1 (He.fAd K ("is_number", none)) ["thing"] [] (sp_is_number K)) {f : Addr} {cdv : Value} {A : Around} {outer : List Env} {s : Shared} {H : Hp} {E : XK}
    (hr : Room 1 (A.deeper (envOfC "need_size" (defScope s_need_size) s.heap.objs.size f cdv))) :
    PSs (cxOf (L2N.CX P w) P w K mg base N_need_size "need_size" (defScope s_need_size) f cdv A outer s H E) (defBody s_need_size) (t_need_size K (fun c d _ H2 => E c d H2)) := by
  obtain ⟨fd0, ds0, v0, b0, G0, q0⟩ := O0
  have hu1 := hu_of hr
  have hu64 := hr.units
  have tk : L2N.Takes (cxOf (L2N.CX P w) P w K mg base N_need_size "need_size" (defScope s_need_size) f cdv A outer s H E) (fun c d _ H2 => E c d H2) := L2N.takes_of rfl rfl rfl rfl
  exact (pss_one (ps_if (PW.pt (pw_or (pt_not (pt_val (pe_clN G0 (hr.mono (by decide)) rfl T.g_is_number q0 b0 v0 tk (pa_cons (pv 0) pa_nil)))) (pw_or1 (pt_not (pt_chain op_leU op_leU (pe_int) (pv 0) (pe_gint rfl T.g_MOST_SIZE)))))) (pss_one (ps_rzN rfl tk T.x_BadBits T.g_BadBits rfl)) pss_nil))
theorem fn_need_size {P : Program} {w : World} {K : PySem.W.Frag} {mg : Str → Option Value} {base : Heap} (T : Tx K mg) {f : Addr} {fd : FuncData} (F : FunD K d_need_size.name d_need_size.qual d_need_size.params d_need_size.body d_need_size.scope (d_need_size.dvs K) (d_need_size.kws K) f fd) :
    FnOk P w K mg base (L2N.CX P w) 2 f fd ["size"] (sp_need_size K) :=
  F.ok sc_need_size (fun vs H Q E h => len_need_size h) (fun cdv A outer s H vs Q E hr h => ⟨t_need_size K (fun c d _ H2 => E c d H2), wk_need_size T (ok_is_number_1 T) hr, rd_need_size  h⟩)
theorem ok_need_size_1 {P : Program} {w : World} {K : PySem.W.Frag} {mg : Str → Option Value} {base : Heap} (T : Tx K mg) : DOkN P w K mg base 2 (He.fAd K ("need_size", none)) ["size"] [] (sp_need_size K) := by
  obtain ⟨fd, F⟩ := T.d_need_size
  exact ⟨fd, [], .nil, FunD.bindsN F fun _ _ _ _ _ _ us hl => match us, hl with | [_], _ => rfl, fn_need_size T F, F.kp⟩
abbrev N_BitReader_take : List Str := ["self", "size", "begin", "over", "end", "rest", "number", "byte"]
theorem sc_BitReader_take : FnScope N_BitReader_take ["self", "size"] (defScope s_BitReader_take) := ⟨rfl, rfl, rfl, by decide +kernel, rfl, by decide +kernel, by decide +kernel⟩
theorem wk_BitReader_take {P : Program} {w : World} {K : PySem.W.Frag} {mg : Str → Option Value} {base : Heap} (T : Tx K mg) (O0 : DOkN P w K mg base 2 (He.fAd K ("need_size", none)) ["size"] [] (sp_need_size K)) (O1 : DOkN P w K mg base 1 (He.fAd K ("BitReader", some "left")) ["self"] [] (sp_BitReader_left K)) {f : Addr} {cdv : Value} {A : Around} {outer : List Env} {s : Shared} {H : Hp} {E : XK}
    (hr : Room 2 (A.deeper (envOfC "BitReader.take" (defScope s_BitReader_take) s.heap.objs.size f cdv))) :
    PSs (cxOf (L2N.CX P w) P w K mg base N_BitReader_take "BitReader.take" (defScope s_BitReader_take) f cdv A outer s H E) (defBody s_BitReader_take) (t_BitReader_take K (fun c d _ H2 => E c d H2)) := by
  obtain ⟨fd0, ds0, v0, b0, G0, q0⟩ := O0
  obtain ⟨fd1, ds1, v1, b1, G1, q1⟩ := O1
  have hu1 := hu_of hr
  have hu64 := hr.units
  have tk : L2N.Takes (cxOf (L2N.CX P w) P w K mg base N_BitReader_take "BitReader.take" (defScope s_BitReader_take) f cdv A outer s H E) (fun c d _ H2 => E c d H2) := L2N.takes_of rfl rfl rfl rfl
  exact (pss_cons (ps_expr (pe_clN G0 (hr.mono (by decide)) rfl T.g_need_size q0 b0 v0 tk (pa_cons (pv 1) pa_nil)))
    (pss_cons (ps_if (pt_cmpR op_ltU (pe_mt0N (pv 0) T.c_BitReader T.m_BitReader_left G1 (hr.mono (by decide)) b1 v1 tk) (pv 1) (nomark _)) (pss_one (ps_rzN rfl tk T.x_NoBits T.g_NoBits rfl)) pss_nil)
    (pss_cons (ps_asg (pe_callB cr_divmodK (by rfl) T.f_divmod bb_divmod (pa_cons (pe_fld (pv 0) rfl) (pa_cons (pe_gint rfl T.g_BYTE) pa_nil))) (pg_tup rfl (pgs_cons (pg_name (i := 2) sc_BitReader_take.nd rfl (Or.inl rfl)) (pgs_cons (pg_name (i := 3) sc_BitReader_take.nd rfl (Or.inl rfl)) pgs_nil))))
    (pss_cons (ps_asg (pe_callB cr_divmodK (by rfl) T.f_divmod bb_divmod (pa_cons (pe_op op_subU (pe_op op_addU (pe_op op_addU (pe_fld (pv 0) rfl) (pv 1)) (pe_gint rfl T.g_BYTE)) (pe_int)) (pa_cons (pe_gint rfl T.g_BYTE) pa_nil))) (pg_tup rfl (pgs_cons (pg_name (i := 4) sc_BitReader_take.nd rfl (Or.inl rfl)) (pgs_cons (pg_name (i := 5) sc_BitReader_take.nd rfl (Or.inl rfl)) pgs_nil))))
    (pss_cons (ps_set (i := 6) sc_BitReader_take.nd rfl (Or.inl rfl) (pe_int))
    (pss_cons (ps_for (passes_of rfl) rfl (pi_list (pe_slice sl_K (pe_fld (pv 0) rfl) (po_some (pv 2)) (po_some (pv 4)))) (pg_name (i := 7) sc_BitReader_take.nd rfl (Or.inl rfl)) (pss_one (ps_set (i := 6) sc_BitReader_take.nd rfl (Or.inl rfl) (pe_op op_orU (pe_op op_shlU (pv 6) (pe_gint rfl T.g_BYTE)) (pv 7)))))
    (pss_cons (ps_set (i := 6) sc_BitReader_take.nd rfl (Or.inl rfl) (pe_op op_andU (pv 6) (pe_op op_subU (pe_op op_shlU (pe_int) (pe_op op_subU (pe_op op_mulU (pe_gint rfl T.g_BYTE) (pe_op op_subU (pv 4) (pv 2))) (pv 3))) (pe_int))))
    (pss_cons (ps_fldaug (pv 0) (pv 1) in_add)
    (pss_one (ps_ret (pe_op op_shrU (pv 6) (pe_op op_subU (pe_op op_subU (pe_gint rfl T.g_BYTE) (pe_int)) (pv 5)))))))))))))
theorem fn_BitReader_take {P : Program} {w : World} {K : PySem.W.Frag} {mg : Str → Option Value} {base : Heap} (T : Tx K mg) {f : Addr} {fd : FuncData} (F : FunD K d_BitReader_take.name d_BitReader_take.qual d_BitReader_take.params d_BitReader_take.body d_BitReader_take.scope (d_BitReader_take.dvs K) (d_BitReader_take.kws K) f fd) :
    FnOk P w K mg base (L2N.CX P w) 3 f fd ["self", "size"] (sp_BitReader_take K) :=
  F.ok sc_BitReader_take (fun vs H Q E h => len_BitReader_take h) (fun cdv A outer s H vs Q E hr h => ⟨t_BitReader_take K (fun c d _ H2 => E c d H2), wk_BitReader_take T (ok_need_size_1 T) (ok_BitReader_left_1 T) hr, rd_BitReader_take (of_KBitReader T) h⟩)
theorem ok_BitReader_take_2 {P : Program} {w : World} {K : PySem.W.Frag} {mg : Str → Option Value} {base : Heap} (T : Tx K mg) : DOkN P w K mg base 3 (He.fAd K ("BitReader", some "take")) ["self", "size"] [] (sp_BitReader_take K) := by
  obtain ⟨fd, F⟩ := T.d_BitReader_take
  exact ⟨fd, [], .nil, FunD.bindsN F fun _ _ _ _ _ _ us hl => match us, hl with | [_, _], _ => rfl, fn_BitReader_take T F, F.kp⟩
abbrev N__law_taken : List Str := ["_law_reader", "_law_size", "_law_e"]
theorem sc__law_taken : FnScope N__law_taken ["_law_reader", "_law_size"] (defScope s__law_taken) := ⟨rfl, rfl, rfl, by decide +kernel, rfl, by decide +kernel, by decide +kernel⟩
theorem wk__law_taken {P : Program} {w : World} {K : PySem.W.Frag} {mg : Str → Option Value} {base : Heap} (T : Tx K mg) (O0 : DOkN P w K mg base 3 (He.fAd K ("BitReader", some "take")) ["self", "size"] [] (sp_BitReader_take K)) (O1 : ∃ fd, Binds K fd ["_law_e"] [] ∧ FnE P w K mg base (L2N.CX P w) 1 (He.fAd K ("_law_word", none)) fd ["_law_e"] (sp__law_word K) ∧ PySem.W.keepIn K (.ref (He.fAd K ("_law_word", none))) = true) {f : Addr} {cdv : Value} {A : Around} {outer : List Env} {s : Shared} {H : Hp} {E : XK}
    (hr : Room 3 (A.deeper (envOfC "_law_taken" (defScope s__law_taken) s.heap.objs.size f cdv))) :
    PSs (cxOf (L2N.CX P w) P w K mg base N__law_taken "_law_taken" (defScope s__law_taken) f cdv A outer s H E) (defBody s__law_taken) (t__law_taken K (fun c d _ H2 => E c d H2)) := by
  obtain ⟨fd0, ds0, v0, b0, G0, q0⟩ := O0
  obtain ⟨fd1, b1, G1, q1⟩ := O1
  have hu1 := hu_of hr
  have hu64 := hr.units
  have tk : L2N.Takes (cxOf (L2N.CX P w) P w K mg base N__law_taken "_law_taken" (defScope s__law_taken) f cdv A outer s H E) (fun c d _ H2 => E c d H2) := L2N.takes_of rfl rfl rfl rfl
  exact (pss_one (ps_tryAsN rfl rfl sc__law_taken.nd rfl rfl ⟨rfl, by decide, .inl T.g_PressError⟩ tk (fun W pn xe tk po => (pss_one (ps_ret (pe_lst (pa_cons (pe_mtN (pv 0) T.c_BitReader T.m_BitReader_take G0 (hr.mono (by decide)) b0 v0 tk (pa_cons (pv 1) pa_nil)) pa_nil)))))
    (fun a oe cls d pn hz hf => (pss_one (ps_ret (pe_clE G1 (roomH_of (hr.mono (by decide))) hz hf rfl T.g__law_word q1 b1 (pa_cons (pv 2) pa_nil)))))))
theorem fn__law_taken {P : Program} {w : World} {K : PySem.W.Frag} {mg : Str → Option Value} {base : Heap} (T : Tx K mg) {f : Addr} {fd : FuncData} (F : FunD K d__law_taken.name d__law_taken.qual d__law_taken.params d__law_taken.body d__law_taken.scope (d__law_taken.dvs K) (d__law_taken.kws K) f fd) :
    FnOk P w K mg base (L2N.CX P w) 4 f fd ["_law_reader", "_law_size"] (sp__law_taken K) :=
  F.ok sc__law_taken (fun vs H Q E h => len__law_taken h) (fun cdv A outer s H vs Q E hr h => ⟨t__law_taken K (fun c d _ H2 => E c d H2), wk__law_taken T (ok_BitReader_take_2 T) (ok__law_word_1 T) hr, rd__law_taken (of_KWBadBits T) (of_KWNoBits T) h⟩)
theorem ok__law_taken_2 {P : Program} {w : World} {K : PySem.W.Frag} {mg : Str → Option Value} {base : Heap} (T : Tx K mg) : DOkN P w K mg base 4 (He.fAd K ("_law_taken", none)) ["_law_reader", "_law_size"] [] (sp__law_taken K) := by
  obtain ⟨fd, F⟩ := T.d__law_taken
  exact ⟨fd, [], .nil, FunD.bindsN F fun _ _ _ _ _ _ us hl => match us, hl with | [_, _], _ => rfl, fn__law_taken T F, F.kp⟩
abbrev N__law_number : List Str := ["_law_digits", "_law_found", "_law_digit"]
theorem sc__law_number : FnScope N__law_number ["_law_digits"] (defScope s__law_number) := ⟨rfl, rfl, rfl, by decide +kernel, rfl, by decide +kernel, by decide +kernel⟩
theorem wk__law_number {P : Program} {w : World} {K : PySem.W.Frag} {mg : Str → Option Value} {base : Heap} (T : Tx K mg)  {f : Addr} {cdv : Value} {A : Around} {outer : List Env} {s : Shared} {H : Hp} {E : XK}
    (hr : Room 0 (A.deeper (envOfC "_law_number" (defScope s__law_number) s.heap.objs.size f cdv))) :
    PSs (cxOf (L2N.CX P w) P w K mg base N__law_number "_law_number" (defScope s__law_number) f cdv A outer s H E) (defBody s__law_number) (t__law_number K (fun c d _ H2 => E c d H2)) := by
  have hu1 := hu_of hr
  have hu64 := hr.units
  have tk : L2N.Takes (cxOf (L2N.CX P w) P w K mg base N__law_number "_law_number" (defScope s__law_number) f cdv A outer s H E) (fun c d _ H2 => E c d H2) := L2N.takes_of rfl rfl rfl rfl
  exact (pss_cons (ps_set (i := 1) sc__law_number.nd rfl (Or.inl rfl) (pe_int))
    (pss_cons (ps_for (passes_of rfl) rfl (pi_str (pv 0)) (pg_name (i := 2) sc__law_number.nd rfl (Or.inl rfl)) (pss_one (ps_set (i := 1) sc__law_number.nd rfl (Or.inl rfl) (pe_op op_addU (pe_op op_mulU (pe_int) (pv 1)) (pe_callTy cr_intK (by rfl) T.f_int bt_int (pa_cons (pe_cmpR (op_eqU hu64) (pv 2) (pe_str) (nomark _)) pa_nil))))))
    (pss_one (ps_ret (pv 1)))))
theorem fn__law_number {P : Program} {w : World} {K : PySem.W.Frag} {mg : Str → Option Value} {base : Heap} (T : Tx K mg) {f : Addr} {fd : FuncData} (F : FunD K d__law_number.name d__law_number.qual d__law_number.params d__law_number.body d__law_number.scope (d__law_number.dvs K) (d__law_number.kws K) f fd) :
    FnOk P w K mg base (L2N.CX P w) 1 f fd ["_law_digits"] (sp__law_number K) :=
  F.ok sc__law_number (fun vs H Q E h => len__law_number h) (fun cdv A outer s H vs Q E hr h => ⟨t__law_number K (fun c d _ H2 => E c d H2), wk__law_number T  hr, rd__law_number  h⟩)
theorem ok__law_number_1 {P : Program} {w : World} {K : PySem.W.Frag} {mg : Str → Option Value} {base : Heap} (T : Tx K mg) : DOkN P w K mg base 1 (He.fAd K ("_law_number", none)) ["_law_digits"] [] (sp__law_number K) := by
  obtain ⟨fd, F⟩ := T.d__law_number
  exact ⟨fd, [], .nil, FunD.bindsN F fun _ _ _ _ _ _ us hl => match us, hl with | [_], _ => rfl, fn__law_number T F, F.kp⟩
abbrev N__law_step : List Str := ["_law_reader", "_law_whole", "_law_digits", "_law_cell", "_law_size", "_law_found"]
theorem sc__law_step : FnScope N__law_step ["_law_reader", "_law_whole", "_law_digits", "_law_cell"] (defScope s__law_step) := ⟨rfl, rfl, rfl, by decide +kernel, rfl, by decide +kernel, by decide +kernel⟩
theorem wk__law_step {P : Program} {w : World} {K : PySem.W.Frag} {mg : Str → Option Value} {base : Heap} (T : Tx K mg) (O0 : DOkN P w K mg base 4 (He.fAd K ("_law_gone", none)) ["_law_reader", "_law_whole", "_law_digits", "_law_cell"] [] (sp__law_gone K)) (O1 : DOkN P w K mg base 4 (He.fAd K ("_law_taken", none)) ["_law_reader", "_law_size"] [] (sp__law_taken K)) (O2 : DOkN P w K mg base 3 (He.fAd K ("_law_stands", none)) ["_law_reader", "_law_whole", "_law_digits", "_law_way"] [] (sp__law_stands K)) (O3 : DOkN P w K mg base 1 (He.fAd K ("_law_number", none)) ["_law_digits"] [] (sp__law_number K)) {f : Addr} {cdv : Value} {A : Around} {outer : List Env} {s : Shared} {H : Hp} {E : XK}
    (hr : Room 4 (A.deeper (envOfC "_law_step" (defScope s__law_step) s.heap.objs.size f cdv))) :
    PSs (cxOf (L2N.CX P w) P w K mg base N__law_step "_law_step" (defScope s__law_step) f cdv A outer s H E) (defBody s__law_step) (t__law_step K (fun c d _ H2 => E c d H2)) := by
  obtain ⟨fd0, ds0, v0, b0, G0, q0⟩ := O0
  obtain ⟨fd1, ds1, v1, b1, G1, q1⟩ := O1
  obtain ⟨fd2, ds2, v2, b2, G2, q2⟩ := O2
  obtain ⟨fd3, ds3, v3, b3, G3, q3⟩ := O3
  have hu1 := hu_of hr
  have hu64 := hr.units
  have tk : L2N.Takes (cxOf (L2N.CX P w) P w K mg base N__law_step "_law_step" (defScope s__law_step) f cdv A outer s H E) (fun c d _ H2 => E c d H2) := L2N.takes_of rfl rfl rfl rfl
  exact (pss_cons (ps_if (pt_cmpR (op_eqU hu64) (pe_op op_modU (pv 3) (pe_int)) (pe_int) (nomark _)) (pss_one (ps_ret (pe_clN G0 (hr.mono (by decide)) rfl T.g__law_gone q0 b0 v0 tk (pa_cons (pv 0) (pa_cons (pv 1) (pa_cons (pv 2) (pa_cons (pe_op op_divU (pv 3) (pe_int)) pa_nil))))))) pss_nil)
    (Evl.pss_cut (ps_if (pt_cmpR (op_eqU hu64) (pe_op op_modU (pv 3) (pe_int)) (pe_int) (nomark _)) (pss_cons (ps_set (i := 4) sc__law_step.nd rfl (Or.inl rfl) (pe_ix ix_seq (pe_lst (pa_cons (pe_un un_negU (pe_int)) (pa_cons (pe_int) (pa_cons (pe_bl) (pa_cons (pe_non) (pa_cons (pe_str) (pa_cons (pe_op op_powU (pe_int) (pe_int)) pa_nil))))))) (pe_op op_modU (pe_op op_divU (pv 3) (pe_int)) (pe_int)) (fun _ _ => rfl)))
    (pss_one (ps_if (pt_cmpR (op_neU hu64) (pe_clN G1 (hr.mono (by decide)) rfl T.g__law_taken q1 b1 v1 tk (pa_cons (pv 0) (pa_cons (pv 4) pa_nil))) (pe_tup (pa_cons (pe_str) pa_nil)) (nomark _)) (pss_one (ps_ret (pe_non))) pss_nil))) pss_nil)
    (pss_cons (ps_set (i := 4) sc__law_step.nd rfl (Or.inl rfl) (pe_op op_modU (pe_op op_divU (pv 3) (pe_int)) (pe_int)))
    (Evl.pss_cut (ps_if (pt_cmpR op_gtU (pv 4) (pe_callB cr_lenK (by rfl) T.f_len bb_len (pa_cons (pv 2) pa_nil)) (nomark _)) (pss_cons (ps_if (PW.pt (pw_or (pt_cmpR (op_neU hu64) (pe_clN G1 (hr.mono (by decide)) rfl T.g__law_taken q1 b1 v1 tk (pa_cons (pv 0) (pa_cons (pv 4) pa_nil))) (pe_tup (pa_cons (pe_str) pa_nil)) (nomark _)) (pw_or1 (pt_not (pt_val (pe_clN G2 (hr.mono (by decide)) rfl T.g__law_stands q2 b2 v2 tk (pa_cons (pv 0) (pa_cons (pv 1) (pa_cons (pv 2) (pa_cons (pv 3) pa_nil)))))))))) (pss_one (ps_ret (pe_non))) pss_nil)
    (pss_one (ps_set (i := 4) sc__law_step.nd rfl (Or.inl rfl) (pe_callB cr_lenK (by rfl) T.f_len bb_len (pa_cons (pv 2) pa_nil))))) pss_nil)
    (pss_cons (ps_set (i := 5) sc__law_step.nd rfl (Or.inl rfl) (pe_clN G1 (hr.mono (by decide)) rfl T.g__law_taken q1 b1 v1 tk (pa_cons (pv 0) (pa_cons (pv 4) pa_nil))))
    (pss_cons (ps_if (PW.pt (pw_or (pt_val (pe_callB call_isi (by rfl) T.f_isinstance bb_isinstance (pa_cons (pv 5) (pa_cons (pe_bty rfl T.f_tuple bt_tuple) pa_nil)))) (pw_or (pt_val (pe_callB call_isi (by rfl) T.f_isinstance bb_isinstance (pa_cons (pe_ix ix_seq (pv 5) (pe_int) (fun _ _ => rfl)) (pa_cons (pe_bty rfl T.f_bool bt_bool) pa_nil)))) (pw_or1 (pt_cmpR (op_neU hu64) (pe_ix ix_seq (pv 5) (pe_int) (fun _ _ => rfl)) (pe_clN G3 (hr.mono (by decide)) rfl T.g__law_number q3 b3 v3 tk (pa_cons (pe_slice sl_K (pv 2) po_none (po_some (pv 4))) pa_nil)) (nomark _)))))) (pss_one (ps_ret (pe_non))) pss_nil)
    (pss_one (ps_ret (pe_slice sl_K (pv 2) (po_some (pv 4)) po_none)))))))))
theorem fn__law_step {P : Program} {w : World} {K : PySem.W.Frag} {mg : Str → Option Value} {base : Heap} (T : Tx K mg) {f : Addr} {fd : FuncData} (F : FunD K d__law_step.name d__law_step.qual d__law_step.params d__law_step.body d__law_step.scope (d__law_step.dvs K) (d__law_step.kws K) f fd) :
    FnOk P w K mg base (L2N.CX P w) 5 f fd ["_law_reader", "_law_whole", "_law_digits", "_law_cell"] (sp__law_step K) :=
  F.ok sc__law_step (fun vs H Q E h => len__law_step h) (fun cdv A outer s H vs Q E hr h => ⟨t__law_step K (fun c d _ H2 => E c d H2), wk__law_step T (ok__law_gone_4 T) (ok__law_taken_2 T) (ok__law_stands_4 T) (ok__law_number_1 T) hr, rd__law_step  h⟩)
theorem ok__law_step_4 {P : Program} {w : World} {K : PySem.W.Frag} {mg : Str → Option Value} {base : Heap} (T : Tx K mg) : DOkN P w K mg base 5 (He.fAd K ("_law_step", none)) ["_law_reader", "_law_whole", "_law_digits", "_law_cell"] [] (sp__law_step K) := by
  obtain ⟨fd, F⟩ := T.d__law_step
  exact ⟨fd, [], .nil, FunD.bindsN F fun _ _ _ _ _ _ us hl => match us, hl with | [_, _, _, _], _ => rfl, fn__law_step T F, F.kp⟩
abbrev N__law_refused : List Str := ["_law_cell", "_law_odd", "_law_e"]
theorem sc__law_refused : FnScope N__law_refused ["_law_cell"] (defScope s__law_refused) := ⟨rfl, rfl, rfl, by decide +kernel, rfl, by decide +kernel, by decide +kernel⟩
theorem wk__law_refused {P : Program} {w : World} {K : PySem.W.Frag} {mg : Str → Option Value} {base : Heap} (T : Tx K mg) (O0 : DOkN P w K mg base 4 (He.fAd K ("BitReader", some "__init__")) ["self", "row"] [] (sp_BitReader___init__ K)) (O1 : ∃ fd, Binds K fd ["_law_e"] [] ∧ FnE P w K mg base (L2N.CX P w) 1 (He.fAd K ("_law_word", none)) fd ["_law_e"] (sp__law_word K) ∧ PySem.W.keepIn K (.ref (He.fAd K ("_law_word", none))) = true) {f : Addr} {cdv : Value} {A : Around} {outer : List Env} {s : Shared} {H : Hp} {E : XK}
    (hr : Room 5 (A.deeper (envOfC "_law_refused" (defScope s__law_refused) s.heap.objs.size f cdv))) :
    PSs (cxOf (L2N.CX P w) P w K mg base N__law_refused "_law_refused" (defScope s__law_refused) f cdv A outer s H E) (defBody s__law_refused) (t__law_refused K (fun c d _ H2 => E c d H2)) := by
  obtain ⟨fd0, ds0, v0, b0, G0, q0⟩ := O0
  obtain ⟨fd1, b1, G1, q1⟩ := O1
  have hu1 := hu_of hr
  have hu64 := hr.units
  have tk : L2N.Takes (cxOf (L2N.CX P w) P w K mg base N__law_refused "_law_refused" (defScope s__law_refused) f cdv A outer s H E) (fun c d _ H2 => E c d H2) := L2N.takes_of rfl rfl rfl rfl
  exact (pss_cons (ps_set (i := 1) sc__law_refused.nd rfl (Or.inl rfl) (pe_ix ix_seq (pe_lst (pa_cons (pe_non) (pa_cons (pe_tup (pa_cons (pe_int) (pa_cons (pe_int) pa_nil))) (pa_cons (pe_lst (pa_cons (pe_int) pa_nil)) (pa_cons (pe_lst (pa_cons (pe_un un_negU (pe_int)) pa_nil)) (pa_cons (pe_lst (pa_cons (pe_bl) pa_nil)) (pa_cons (pe_str) (pa_cons (pe_lst (pa_cons (pe_int) (pa_cons (pe_non) pa_nil))) (pa_cons (pe_dnewK) pa_nil))))))))) (pe_op op_modU (pv 0) (pe_int)) (fun _ _ => rfl)))
    (pss_cons (ps_tryAsN rfl rfl sc__law_refused.nd rfl rfl ⟨rfl, by decide, .inl T.g_PressError⟩ tk (fun W pn xe tk po => (pss_one (ps_expr (pe_mkN T.k_BitReader G0 (hr.mono (by decide)) rfl T.g_BitReader b0 v0 tk (pa_cons (pv 1) pa_nil)))))
    (fun a oe cls d pn hz hf => (pss_one (ps_ret (pe_cmpR (op_eqU hu64) (pe_clE G1 (roomH_of (hr.mono (by decide))) hz hf rfl T.g__law_word q1 b1 (pa_cons (pv 2) pa_nil)) (pe_tup (pa_cons (pe_str) pa_nil)) (nomark _))))))
    (pss_one (ps_ret (pe_bl)))))
theorem fn__law_refused {P : Program} {w : World} {K : PySem.W.Frag} {mg : Str → Option Value} {base : Heap} (T : Tx K mg) {f : Addr} {fd : FuncData} (F : FunD K d__law_refused.name d__law_refused.qual d__law_refused.params d__law_refused.body d__law_refused.scope (d__law_refused.dvs K) (d__law_refused.kws K) f fd) :
    FnOk P w K mg base (L2N.CX P w) 6 f fd ["_law_cell"] (sp__law_refused K) :=
  F.ok sc__law_refused (fun vs H Q E h => len__law_refused h) (fun cdv A outer s H vs Q E hr h => ⟨t__law_refused K (fun c d _ H2 => E c d H2), wk__law_refused T (ok_BitReader___init___2 T) (ok__law_word_1 T) hr, rd__law_refused (of_KWBadRow T) h⟩)
theorem ok__law_refused_1 {P : Program} {w : World} {K : PySem.W.Frag} {mg : Str → Option Value} {base : Heap} (T : Tx K mg) : DOkN P w K mg base 6 (He.fAd K ("_law_refused", none)) ["_law_cell"] [] (sp__law_refused K) := by
  obtain ⟨fd, F⟩ := T.d__law_refused
  exact ⟨fd, [], .nil, FunD.bindsN F fun _ _ _ _ _ _ us hl => match us, hl with | [_], _ => rfl, fn__law_refused T F, F.kp⟩
abbrev N_law : List Str := ["_law_script", "_law_many", "_law_k", "_law_row", "_law_handed", "_law_reader", "_law_other", "_law_whole", "_law_back", "_law_digits", "_law_turned", "_law_cell"]
theorem sc_law : FnScope N_law ["_law_script"] (defScope s_law) := ⟨rfl, rfl, rfl, by decide +kernel, rfl, by decide +kernel, by decide +kernel⟩
theorem wk_law {P : Program} {w : World} {K : PySem.W.Frag} {mg : Str → Option Value} {base : Heap} (T : Tx K mg) (O0 : DOkN P w K mg base 1 (He.fAd K ("_law_cell_at", none)) ["_law_script", "_law_k"] [] (sp__law_cell_at K)) (O1 : DOkN P w K mg base 1 (He.fAd K ("_law_mixed", none)) ["_law_cell", "_law_k"] [] (sp__law_mixed K)) (O2 : DOkN P w K mg base 4 (He.fAd K ("BitReader", some "__init__")) ["self", "row"] [] (sp_BitReader___init__ K)) (O3 : DOkN P w K mg base 1 (He.fAd K ("_law_digits_of", none)) ["_law_row"] [] (sp__law_digits_of K)) (O4 : DOkN P w K mg base 5 (He.fAd K ("_law_step", none)) ["_law_reader", "_law_whole", "_law_digits", "_law_cell"] [] (sp__law_step K)) (O5 : DOkN P w K mg base 3 (He.fAd K ("_law_stands", none)) ["_law_reader", "_law_whole", "_law_digits", "_law_way"] [] (sp__law_stands K)) (O6 : DOkN P w K mg base 6 (He.fAd K ("_law_refused", none)) ["_law_cell"] [] (sp__law_refused K)) {f : Addr} {cdv : Value} {A : Around} {outer : List Env} {s : Shared} {H : Hp} {E : XK}
    (hr : Room 6 (A.deeper (envOfC "law" (defScope s_law) s.heap.objs.size f cdv))) :
    PSs (cxOf (L2N.CX P w) P w K mg base N_law "law" (defScope s_law) f cdv A outer s H E) (defBody s_law) (t_law K (fun c d _ H2 => E c d H2)) := by
  obtain ⟨fd0, ds0, v0, b0, G0, q0⟩ := O0
  obtain ⟨fd1, ds1, v1, b1, G1, q1⟩ := O1
  obtain ⟨fd2, ds2, v2, b2, G2, q2⟩ := O2
  obtain ⟨fd3, ds3, v3, b3, G3, q3⟩ := O3
  obtain ⟨fd4, ds4, v4, b4, G4, q4⟩ := O4
  obtain ⟨fd5, ds5, v5, b5, G5, q5⟩ := O5
  obtain ⟨fd6, ds6, v6, b6, G6, q6⟩ := O6
  have hu1 := hu_of hr
  have hu64 := hr.units
  have tk : L2N.Takes (cxOf (L2N.CX P w) P w K mg base N_law "law" (defScope s_law) f cdv A outer s H E) (fun c d _ H2 => E c d H2) := L2N.takes_of rfl rfl rfl rfl
  exact (pss_cons (ps_set (i := 1) sc_law.nd rfl (Or.inl rfl) (pe_op op_modU (pe_clN G0 (hr.mono (by decide)) rfl T.g__law_cell_at q0 b0 v0 tk (pa_cons (pv 0) (pa_cons (pe_int) pa_nil))) (pe_int)))
    (pss_cons (ps_setLc (i := 3) (own := [("_law_k", 2)]) rfl sc_law.nd rfl rfl (sw_true rfl rfl rfl (by decide +kernel)) (pi_range1 rfl T.f_range (pa_cons (pv 1) pa_nil)) (blkOk_by (own := [("_law_k", 2)]) (N := N_law) (sc := defScope s_law) (by decide +kernel)) (fun _ _ _ _ _ => (pg_name (i := 2) sc_law.nd rfl (Or.inl rfl))) (fun _ _ _ _ _ => pts_nil) (fun _ _ _ _ _ => (pe_op op_modU (pe_op op_divU (pe_clN G1 (hr.mono (by decide)) rfl T.g__law_mixed q1 b1 v1 takes0N (pa_cons (pe_clN G0 (hr.mono (by decide)) rfl T.g__law_cell_at q0 b0 v0 takes0N (pa_cons (pv 0) (pa_cons (pe_int) pa_nil))) (pa_cons (pv 2) pa_nil))) (pe_int)) (pe_int))))
    (Evl.pss_cut (ps_if (pt_cmpR (op_eqU hu64) (pe_op op_modU (pe_op op_divU (pe_clN G0 (hr.mono (by decide)) rfl T.g__law_cell_at q0 b0 v0 tk (pa_cons (pv 0) (pa_cons (pe_int) pa_nil))) (pe_int)) (pe_int)) (pe_int) (nomark _)) (pss_one (ps_set (i := 3) sc_law.nd rfl (Or.inl rfl) (pe_op op_addU (pe_slice sl_K (pv 3) po_none (po_some (pe_un un_negU (pe_int)))) (pe_lst (pa_cons (pe_ix ix_seq (pe_lst (pa_cons (pe_int) (pa_cons (pe_int) (pa_cons (pe_int) (pa_cons (pe_int) pa_nil))))) (pe_op op_modU (pe_op op_divU (pe_clN G0 (hr.mono (by decide)) rfl T.g__law_cell_at q0 b0 v0 tk (pa_cons (pv 0) (pa_cons (pe_int) pa_nil))) (pe_int)) (pe_int)) (fun _ _ => rfl)) pa_nil))))) pss_nil)
    (pss_cons (ps_set (i := 4) sc_law.nd rfl (Or.inl rfl) (pe_callTy cr_listK (by rfl) T.f_list bt_list (pa_cons (pv 3) pa_nil)))
    (pss_cons (ps_set (i := 5) sc_law.nd rfl (Or.inl rfl) (pe_mkN T.k_BitReader G2 (hr.mono (by decide)) rfl T.g_BitReader b2 v2 tk (pa_cons (pv 4) pa_nil)))
    (pss_cons (ps_set (i := 6) sc_law.nd rfl (Or.inl rfl) (pe_mkN T.k_BitReader G2 (hr.mono (by decide)) rfl T.g_BitReader b2 v2 tk (pa_cons (pe_revL (pv 3)) pa_nil)))
    (pss_cons (ps_expr (pe_bm0 PySem.F.plainAttrs_list PySem.F.slot_list_clear PySem.F.type_list_clear mt_clear (pv 4)))
    (pss_cons (ps_set (i := 7) sc_law.nd rfl (Or.inl rfl) (pe_clN G3 (hr.mono (by decide)) rfl T.g__law_digits_of q3 b3 v3 tk (pa_cons (pv 3) pa_nil)))
    (pss_cons (ps_set (i := 8) sc_law.nd rfl (Or.inl rfl) (pe_clN G3 (hr.mono (by decide)) rfl T.g__law_digits_of q3 b3 v3 tk (pa_cons (pe_revL (pv 3)) pa_nil)))
    (pss_cons (ps_set (i := 9) sc_law.nd rfl (Or.inl rfl) (pv 7))
    (pss_cons (ps_set (i := 10) sc_law.nd rfl (Or.inl rfl) (pv 8))
    (pss_cons (ps_for (passes_of rfl) rfl (pi_range2 rfl T.f_range (pa_cons (pe_int) (pa_cons (pe_callB (cr_min2K rfl) (by rfl) T.f_min bb_min (pa_cons (pe_int) (pa_cons (pe_callB cr_lenK (by rfl) T.f_len bb_len (pa_cons (pv 0) pa_nil)) pa_nil))) pa_nil))) (pg_name (i := 2) sc_law.nd rfl (Or.inl rfl)) (pss_cons (ps_set (i := 11) sc_law.nd rfl (Or.inl rfl) (pe_clN G1 (hr.mono (by decide)) rfl T.g__law_mixed q1 b1 v1 tk (pa_cons (pe_ix ix_seq (pv 0) (pv 2) (fun _ _ => rfl)) (pa_cons (pv 2) pa_nil))))
    (Evl.pss_cut (ps_if (pt_cmpR (op_eqU hu64) (pe_op op_modU (pv 11) (pe_int)) (pe_int) (nomark _)) (pss_one (ps_set (i := 10) sc_law.nd rfl (Or.inl rfl) (pe_clN G4 (hr.mono (by decide)) rfl T.g__law_step q4 b4 v4 tk (pa_cons (pv 6) (pa_cons (pv 8) (pa_cons (pv 10) (pa_cons (pe_op op_divU (pv 11) (pe_int)) pa_nil))))))) (pss_one (ps_set (i := 9) sc_law.nd rfl (Or.inl rfl) (pe_clN G4 (hr.mono (by decide)) rfl T.g__law_step q4 b4 v4 tk (pa_cons (pv 5) (pa_cons (pv 7) (pa_cons (pv 9) (pa_cons (pe_op op_divU (pv 11) (pe_int)) pa_nil))))))))
    (pss_cons (ps_if (PW.pt (pw_or (pt_cmpR op_isU (pv 9) (pe_non) (nomark _)) (pw_or1 (pt_cmpR op_isU (pv 10) (pe_non) (nomark _))))) (pss_one (ps_ret (pe_bl))) pss_nil)
    (pss_one (ps_if (PW.pt (pw_or (pt_not (pt_val (pe_clN G5 (hr.mono (by decide)) rfl T.g__law_stands q5 b5 v5 tk (pa_cons (pv 5) (pa_cons (pv 7) (pa_cons (pv 9) (pa_cons (pe_op op_divU (pv 11) (pe_int)) pa_nil))))))) (pw_or1 (pt_not (pt_val (pe_clN G5 (hr.mono (by decide)) rfl T.g__law_stands q5 b5 v5 tk (pa_cons (pv 6) (pa_cons (pv 8) (pa_cons (pv 10) (pa_cons (pe_op op_divU (pv 11) (pe_int)) pa_nil)))))))))) (pss_one (ps_ret (pe_bl))) pss_nil))))))
    (pss_one (ps_ret (pe_clN G6 (hr.mono (by decide)) rfl T.g__law_refused q6 b6 v6 tk (pa_cons (pe_clN G0 (hr.mono (by decide)) rfl T.g__law_cell_at q0 b0 v0 tk (pa_cons (pv 0) (pa_cons (pe_int) pa_nil))) pa_nil))))))))))))))))
theorem fn_law {P : Program} {w : World} {K : PySem.W.Frag} {mg : Str → Option Value} {base : Heap} (T : Tx K mg) {f : Addr} {fd : FuncData} (F : FunD K d_law.name d_law.qual d_law.params d_law.body d_law.scope (d_law.dvs K) (d_law.kws K) f fd) :
    FnOk P w K mg base (L2N.CX P w) 7 f fd ["_law_script"] (sp_law K) :=
  F.ok sc_law (fun vs H Q E h => len_law h) (fun cdv A outer s H vs Q E hr h => ⟨t_law K (fun c d _ H2 => E c d H2), wk_law T (ok__law_cell_at_2 T) (ok__law_mixed_2 T) (ok_BitReader___init___2 T) (ok__law_digits_of_1 T) (ok__law_step_4 T) (ok__law_stands_4 T) (ok__law_refused_1 T) hr, rd_law  h⟩)
end L2.BW
namespace L2.BW
open PySem PySem.Spec PyProof.Rows
theorem calmly {P : Program} {w : World} {K : PySem.W.Frag} {mg : Str → Option Value} {base : Heap} {k : Nat} {f : Addr} {fd : FuncData} {ps : List Str} {sp : Sp}
    (hE : ∀ vs H Q E, sp vs H Q E → sp vs H Q fun _ _ _ => False) (F : FnOk P w K mg base (L2N.CX P w) k f fd ps sp) : FnOk P w K mg base CX0 k f fd ps sp :=
  ⟨F.len, fun A outer s H args us vs Q E hr he hb hv hs => codeAny_mono (F.run A outer s H args us vs Q _ hr he hb hv (hE _ _ _ _ hs)) fun r s' z => by
    match r, z with
    | .error e, z =>
      obtain ⟨_, _, _, _, _, _, _, _, _, _, _, _, z⟩ := z
      exact z.elim
    | .ok (.ret u), z => exact z⟩
end L2.BW
open PySem PySem.W PySem.Calls PyProof.Rows
theorem PySem.Challenge.cw_balepress_k02_bits_taken_holds : PySem.Challenge.rw_balepress_k02_bits_taken.Holds := by
  w_on; o_law
  refine HandSHeadRun.head_any (r := OpenLaw.row PySem.Challenge.rw_balepress_k02_bits_taken) (q := view (OpenLaw.row PySem.Challenge.rw_balepress_k02_bits_taken).prog [43]) (H := L2.BH.hk) (ob := L2.BH.ob) (M := 40000) (loose := L2.BH.loose) (d := HandSHeadRun.topDef (OpenLaw.row PySem.Challenge.rw_balepress_k02_bits_taken).prog 43) (kwd := [])
    L2.BH.ob_eq (by kernel_rfl) (fun s => by kernel_rfl) L2.BH.run (by kernel_rfl) (by kernel_rfl) (by kernel_rfl) (by rfl) (by first | assumption | decide +kernel) (by decide +kernel)
    ⟨rfl, rfl, rfl, rfl, rfl, by decide +kernel⟩ ?hw ?hc
  case hw => w_witness2
  case hc =>
    refine L2.walk_ofE (l := PySem.Challenge.rw_balepress_k02_bits_taken) (n := 63) (k := 7) (x := "_law_script") (CX := L2.CX0) rfl (by decide) (by kernel_rfl) ⟨rfl, by decide, by decide⟩ ?F (fun _ _ _ _ z => z)
    intro w mg fa h Y G hmg0
    obtain ⟨K, KX, c⟩ := Y
    have hmg : mg ("law" : PySem.Str) = some (.ref fa) := by
      have e : (HandSHeadRun.topDef (OpenLaw.row PySem.Challenge.rw_balepress_k02_bits_taken).prog 43).name = ("law" : PySem.Str) := by kernel_rfl
      exact e ▸ hmg0
    have T := L2.BW.tx_of KX G c.t.d c.more
    obtain ⟨fd, F⟩ := T.d_law
    have e := hmg.symm.trans T.g_law
    cases e
    have b := L2.FunD.bindsA (ps := ["_law_script"]) F fun _ _ _ _ _ _ us hl => match us, hl with | [_], _ => rfl
    exact ⟨K, fd, L2.BR.sp_law K, KX, fun s v => b s [v] rfl, fun H a ns hl _ hS => ⟨a, ns, rfl, hS, hl, fun _ => rfl⟩, fun base _ _ => L2.BW.calmly (fun _ _ _ _ h => h) (L2.BW.fn_law T F)⟩
