import PyProof.Rows.All
import Wide.All
import OpenK.AllK
import Wide.FinOn
import HandS.ForMost
import HandS.ForExc
import HandS.Defaults
import HandS.CallSlots
import HandS.IsInst
import HandS.Style
import HandS.Small
import HandS.Conv
import HandS.Deep
import HandS.TryElse
import HandS.HeadHook2
import HandS.Evl
import HandS.Flow
import HandS.Zip
import HandS.Text
import HandS.ExcIs
import HandS.ExcCtx
import HandS.WideBits
import HandS.Hot
import HandS.HotCalls
import PyProof.StrOps2
import KE.SortKeyHeap
import HandS.SortKw
import HandS.DictComp
import HandS.SetFor
import HandS.Conv
import HandS.Deep
import HandS.Lambda
import HandS.HeadHook4
import KE.KStateDown
import Lean
import HandS.HeadEnd
import HandS.HeadWalk
import HandS.Head0
import HandS.Head1
import HandS.Head2
import HandS.HeadHook1
import PySem.Challenge.RW_balepress_k10_codes_read
set_option Elab.async false
set_option linter.all false
set_option maxRecDepth 100000
set_option maxHeartbeats 0
/-! BLib: rules that take several kinds of values at once, calls that may let an error out at the caller's slots, and a picture of the heap as a list of own objects over a base. -/
namespace PySem.SeqAt
open PySem PySem.Spec MeetsSeq
theorem list_eq_declines_dict (l b : Addr) (items : Array Value) (n : Nat) (dd dd2 : Option Addr) (sl sl2 : Array (Option Value)) (dt : Data) :
    Meets (Builtin.«list.__eq__» ⟨[.ref l, .ref b], []⟩) (fun _ R s => s.heap.get? l = some { cls := .type "list", dict := dd, data := .seq items n, slots := sl } ∧ s.heap.get? b = some { cls := .type "dict", dict := dd2, data := dt, slots := sl2 } ∧ R (.ok (.ret .notImplemented)) s) :=
  .of_wp fun prog w A R s h => by obtain ⟨hp, g, d, tk, os⟩ := s; obtain ⟨hl, hb, h⟩ := h; have f1 := F.sub_dict_list; wp_walk using wpAny_loadPart' hl, wpAny_loadPart' hb; exact ⟨_, rfl, h⟩
theorem dict_eq_declines_list (l b : Addr) (items : Array Value) (n n2 : Nat) (es : Array DictEntry) (dd dd2 : Option Addr) (sl sl2 : Array (Option Value)) :
    Meets (Builtin.«dict.__eq__» ⟨[.ref l, .ref b], []⟩) (fun _ R s => s.heap.get? l = some { cls := .type "dict", dict := dd, data := .dict es n2, slots := sl } ∧ s.heap.get? b = some { cls := .type "list", dict := dd2, data := .seq items n, slots := sl2 } ∧ R (.ok (.ret .notImplemented)) s) :=
  .of_wp fun prog w A R s h => by obtain ⟨hp, g, d, tk, os⟩ := s; obtain ⟨hl, hb, h⟩ := h; have f1 := F.sub_list_dict; wp_walk using wpAny_loadPart' hl, wpAny_loadPart' hb; exact ⟨_, rfl, h⟩
theorem RcAt.dict_list {A : Around} {s : Shared} {l b : Addr} {es : Array DictEntry} {n2 : Nat} {dd : Option Addr} {sl : Array (Option Value)} {items : Array Value} (ho : s.heap.get? l = some { cls := .type "dict", dict := dd, data := .dict es n2, slots := sl }) (hb : s.heap.IsList b items) (hu : A.units < cLine) : RcAt A s (.ref l) (.ref b) false := fun prog w E Q h => by
  have hne : l ≠ b := fun e => by
    subst e
    obtain ⟨o2, ho2, hc2, _⟩ := hb
    rw [ho] at ho2
    cases ho2
    exact absurd hc2 (by simp)
  obtain ⟨⟨cls2, dd2, data2, sl2⟩, ho2, hc2, n3, hd2⟩ := id hb
  simp only at hc2 hd2
  subst hc2 hd2
  exact (rc_eq_decline_or (k := false) ⟨_, ho, rfl⟩ ⟨_, ho2, rfl⟩ (by decide) F.sub_list_dict F.slot_dict_eq F.slot_list_eq_refl
    (fun _ hq => call_meets F.slot_dict_eq ⟨_, ho, rfl⟩ F.entry_dict_eq (F.args_dict_eq_2 _ _) (dict_eq_declines_list l b items n3 n2 es dd dd2 sl sl2) ⟨ho, ho2, hq⟩)
    (fun _ hq => call_meets F.slot_list_eq_refl ⟨_, ho2, rfl⟩ F.entry_list_eq (F.args_list_eq_2 _ _) (list_eq_declines_dict b l items n3 dd2 dd sl2 sl _) ⟨ho2, ho, hq⟩)
    (fun _ hq => wpAny_isSame_ref_other' hne ho ho2 (by simp) hq) (.inr hu) h)
end PySem.SeqAt
namespace L2.BP
open PySem PySem.Spec PyProof.Rows
section
variable {X : Cx}
/-! ### operators, by kinds -/
def rAddStr : R2 := fun x y H Q => ∃ i j, x = .str i ∧ y = .str j ∧ i.length + j.length ≤ sizeLine ∧ Q (.str (i ++ j)) H
def rAddI : R2 := rI0 fun i j => .int (i + j)
def rAddU : R2 := fun x y H Q => rAddI x y H Q ∨ rAddStr x y H Q ∨ rCat x y H Q
theorem op_addU : OpR X (binaryOp .Add) rAddU := OpR.or op_add (OpR.or op_add_str op_cat)
def rSubU : R2 := rI0 fun i j => .int (i - j)
theorem op_subU : OpR X (binaryOp .Sub) rSubU := op_sub
def rMulI : R2 := rI CMul fun i j => .int (i * j)
def repS (z : Str) (k : Nat) : Str := if k = 0 then Str.empty else if k = 1 ∨ z.length = 0 then z else ⟨(List.replicate k z.cps).foldl (· ++ ·) #[]⟩
def rRepS : R2 := fun x y H Q => ∃ (z : Str) (k : Nat), x = .str z ∧ y = .int ((k : Nat) : Int) ∧ k ≤ 1000 ∧ z.length ≤ 1000 ∧ (repS z k).length ≤ 1000000 ∧ Q (.str (repS z k)) H
theorem op_repS : OpR X (binaryOp .Mult) rRepS := by
  intro pins s σ H x y v u Q I rx ry h
  obtain ⟨z, k, rfl, rfl, hk, hz, hl, q⟩ := h
  obtain ⟨t, rfl⟩ := rx
  obtain ⟨t', rfl⟩ := ry
  have hm : z.length * k ≤ 1000 * 1000 := Nat.mul_le_mul hz hk
  refine PySem.P.mul_str ?_ ?_ ?_ ?_
  · rw [decide_eq_false (by omega), decide_eq_false (by omega)]
    rfl
  · intro h1 h2 h3
    have h4 : 9223372036854775 ≤ (2 ^ 63 - 1) / ((k : Nat) : Int) := by
      refine (Int.le_ediv_iff_mul_le (by omega)).mpr ?_
      omega
    omega
  · intro h1 h2
    unfold Builtin.Str.tooLong
    rw [Int.toNat_natCast]
    exact decide_eq_false (Nat.not_lt.mpr (Nat.le_trans hm (by decide)))
  · unfold repS at q hl
    by_cases h0 : k = 0
    · subst h0
      rw [if_pos rfl] at q
      rw [if_pos (by decide)]
      exact ⟨by decide, .str Str.empty, H, I.tok _, ⟨_, rfl⟩, q⟩
    · rw [if_neg h0] at q hl
      rw [if_neg (by omega)]
      by_cases h1 : k = 1 ∨ z.length = 0
      · rw [if_pos h1] at q
        have e : ((((k : Nat) : Int) == 1) || z.length == 0) = true := by
          rcases h1 with e | e
          · subst e
            rfl
          · rw [e]
            simp
        rw [e, if_pos rfl]
        exact ⟨.str z, H, I, ⟨_, rfl⟩, q⟩
      · rw [if_neg h1] at q hl
        have e : ((((k : Nat) : Int) == 1) || z.length == 0) = false := by
          have e1 : ¬ k = 1 := fun h => h1 (.inl h)
          have e2 : ¬ z.length = 0 := fun h => h1 (.inr h)
          have e3 : (((k : Nat) : Int) == 1) = false := by
            rw [beq_eq_false_iff_ne]
            omega
          have e4 : (z.length == 0) = false := by
            rw [beq_eq_false_iff_ne]
            exact e2
          rw [e3, e4]
          rfl
        rw [e, if_neg Bool.false_ne_true, Int.toNat_natCast]
        exact ⟨Nat.le_trans hl (by decide), .str _, H, I.tok _, ⟨_, rfl⟩, q⟩
def rMulU : R2 := fun x y H Q => rMulI x y H Q ∨ rRep x y H Q ∨ rRepS x y H Q
theorem op_mulU : OpR X (binaryOp .Mult) rMulU := OpR.or op_mul (OpR.or op_rep op_repS)
def rDivU : R2 := rI CDiv fun i j => .int (i / j)
theorem op_divU : OpR X (binaryOp .FloorDiv) rDivU := op_fdiv
def rModU : R2 := rI (fun _ j => 0 < j) fun i j => .int (i % j)
theorem op_modU : OpR X (binaryOp .Mod) rModU := op_mod
def rPowU : R2 := rI CPow fun i j => .int (i ^ j.toNat)
theorem op_powU : OpR X (binaryOp .Pow) rPowU := op_pow
def rShlU : R2 := fun x y H Q => rI CPow (fun i j => .int (i * 2 ^ j.toNat)) x y H Q ∨ rI CShl (fun i j => .int (i * 2 ^ j.toNat)) x y H Q
theorem op_shlU : OpR X (binaryOp .LShift) rShlU := OpR.or op_shl op_shlW
def rShrU : R2 := rI (fun _ j => 0 ≤ j) fun i j => .int (i / 2 ^ j.toNat)
theorem op_shrU : OpR X (binaryOp .RShift) rShrU := op_shr
def rAndU : R2 := rI0 fun i j => .int (Builtin.bitAnd i j)
theorem op_andU : OpR X (binaryOp .BitAnd) rAndU := op_and
def rOrU : R2 := rI0 fun i j => .int (Builtin.bitOr i j)
theorem op_orU : OpR X (binaryOp .BitOr) rOrU := op_or
def rXorU : R2 := rI0 fun i j => .int (Builtin.bitXor i j)
theorem op_xorU : OpR X (binaryOp .BitXor) rXorU := op_xor
def rNegU : V → Hp → VK → Prop := rU fun i => .int (-i)
theorem un_negU : UnR X (unaryOp .USub) rNegU := un_neg
def rLtU : R2 := rI0 fun i j => .bl (decide (i < j))
theorem op_ltU : OpR X (compareOp .Lt) rLtU := op_lt
def rLeU : R2 := rI0 fun i j => .bl (decide (i ≤ j))
theorem op_leU : OpR X (compareOp .LtE) rLeU := op_le
def rGtU : R2 := rI0 fun i j => .bl (decide (j < i))
theorem op_gtU : OpR X (compareOp .Gt) rGtU := op_gt
def rGeU : R2 := rI0 fun i j => .bl (decide (j ≤ i))
theorem op_geU : OpR X (compareOp .GtE) rGeU := op_ge
/-- a dict and a list -/
def rEqE (K : PySem.W.Frag) : R2 := fun x y H Q => ∃ (a b : Addr) (kvs : List (Key × V)) (ys : List V), x = .ref a ∧ y = .ref b ∧ H a = some (.dK kvs) ∧ SqL K H b ys ∧ Q (.bl false) H
theorem op_eqE (hu : X.A.units + 64 < cLine) : OpR X (compareOp .Eq) (rEqE X.K) := by
  intro pins s σ H x y v u Q I rx ry h
  obtain ⟨a, b, kvs, ys, rfl, rfl, ha, hb, q⟩ := h
  obtain rfl : v = Value.ref a := rx
  obtain rfl : u = Value.ref b := ry
  obtain ⟨_, _, vs, rv, o, es, ep, h1, h2, h3, h4, h5, h6⟩ := (show ObjOk X.prog X.w H s.heap a (.dK kvs) from I.hok a _ ha)
  obtain ⟨its, r, pl, hz⟩ := I.list hb
  obtain ⟨c, d, dt, sl⟩ := o
  obtain ⟨z1, z2, z3⟩ := h2
  simp only at h3 z1 z2 z3
  subst h3 z1
  exact SeqAt.RcAt.dict_list h1 pl.isList (by omega) X.prog X.w _ _ ⟨.bl _, H, I, rfl, q⟩
def rEqU (K : PySem.W.Frag) : R2 := fun x y H Q => rEq x y H Q ∨ rEqD K x y H Q ∨ rEqDA x y H Q ∨ rEqE K x y H Q
theorem op_eqU (hu : X.A.units + 64 < cLine) : OpR X (compareOp .Eq) (rEqU X.K) := OpR.or op_eq (OpR.or (op_eqD hu) (OpR.or (op_eq_dictA (by omega)) (op_eqE hu)))
def rNeU (K : PySem.W.Frag) : R2 := fun x y H Q => rNe x y H Q ∨ rNeD K x y H Q ∨ rNeDA x y H Q
theorem op_neU (hu : X.A.units + 64 < cLine) : OpR X (compareOp .NotEq) (rNeU X.K) := OpR.or op_ne (OpR.or (op_neD hu) (op_ne_dictA (by omega)))
def rInStr : R2 := fun x y H Q => ∃ i j, x = .str i ∧ y = .str j ∧ Q (.bl (!(Builtin.Str.occurrences j i 0 j.length 1).isEmpty)) H
def rNiStr : R2 := fun x y H Q => ∃ i j, x = .str i ∧ y = .str j ∧ Q (.bl (!(!(Builtin.Str.occurrences j i 0 j.length 1).isEmpty))) H
def rInU (K : PySem.W.Frag) : R2 := fun x y H Q => rIn K false x y H Q ∨ rInStr x y H Q
theorem op_inU : OpR X (compareOp .In) (rInU X.K) := OpR.or op_in_seq op_in_str
def rNiU (K : PySem.W.Frag) : R2 := fun x y H Q => rIn K true x y H Q ∨ rNiStr x y H Q
theorem op_niU : OpR X (compareOp .NotIn) (rNiU X.K) := OpR.or op_notIn_seq op_notIn_str
def rIsNo : R2 := fun x y H Q => y = .non ∧ Q (.bl (decide (x = .non))) H
def rNotNo : R2 := fun x y H Q => y = .non ∧ Q (.bl (!decide (x = .non))) H
def rIsU : R2 := fun x y H Q => rIsNo x y H Q ∨ rIsB x y H Q
theorem op_isU : OpR X (compareOp .Is) rIsU := OpR.or op_isN op_isBl
def rNotU : R2 := fun x y H Q => rNotNo x y H Q ∨ rNotB x y H Q
theorem op_notU : OpR X (compareOp .IsNot) rNotU := OpR.or op_notN op_notBl
/-! ### in place -/
def ipAddI : TIp := ipI fun i j => i + j
def ipAddU : TIp := fun x y H Q => ipAddI x y H Q ∨ rExt2 x y H Q ∨ rAddStr x y H Q
theorem ip_addU : PIp X .Add ipAddU := fun pins s σ H x y v u Q I rx ry h => by
  rcases h with h | h | h
  · exact ip_add pins s σ H x y v u Q I rx ry h
  · exact iop_ext pins s σ H x y v u Q I rx ry h
  · exact iop_add_str pins s σ H x y v u Q I rx ry h
def ipSubU : TIp := ipI fun i j => i - j
theorem ip_subU : PIp X .Sub ipSubU := ip_sub
/-! ### slices, walks -/

end
end L2.BP
namespace L2.BP
open PySem PySem.Spec PyProof.Rows
/-! ### calls that may let an error out, wished for at the caller's slots -/
section
variable {X : Cx} {k : Nat} {f C : Addr} {fd : FuncData} {ps : List Str} {sp : Sp} {dvs : List V} {ds : List Value} {W : WX} {x m : Str} {p pos apos : Pos} {e o : Expr} {es : List Expr} {ta : TE} {t : TA}
/-- f(e, ..) -/
def tCl (sp : Sp) (dvs : List V) (W : WX) (t : TA) : TE := fun σ H Q => t σ H fun vs H1 => sp (vs ++ dvs) H1 Q fun c d H2 => W c d σ H2
theorem pe_cl (F : FnOk X.prog X.w X.K X.mg X.base (L2.CX X.prog X.w) k f fd ps sp) (hr : Room k X.A) (hg : Gl X x) (hm : X.mg x = some (.ref f)) (hk : PySem.W.keepIn X.K (.ref f) = true)
    (hb : Binds X.K fd ps ds) (hd : Vals dvs ds) (tk : Takes X W) (ha : PA X (e :: es) t) (hdb : (x == ("__debug__" : Str)) = false := by decide)
    (he : starEach (e :: es) X.env = (false, eval e X.env) :: starEach es X.env := by rfl) (hpl : (backTo pos (starEach es X.env)).any (·.1) = false := by rfl) :
    PE X (.Call (.Name x p) (e :: es) [] pos) (tCl sp dvs W t) :=
  pe_callSD (E := WE W) F hr hg hm hk hb hd (fun σ => passAt tk σ) ha hdb he hpl
theorem pe_cl0 (F : FnOk X.prog X.w X.K X.mg X.base (L2.CX X.prog X.w) k f fd ps sp) (hr : Room k X.A) (hg : Gl X x) (hm : X.mg x = some (.ref f)) (hk : PySem.W.keepIn X.K (.ref f) = true)
    (hb : Binds X.K fd ps ds) (hd : Vals dvs ds) (tk : Takes X W) (hdb : (x == ("__debug__" : Str)) = false := by decide) :
    PE X (.Call (.Name x p) [] [] pos) (tCl sp dvs W tNil) := by
  constructor
  intro pins s σ H Q I h
  have go := run_fnSD (E := WE W) (us := []) F hr hb hd (passAt tk σ) I .nil h
  exact wpAny_Call_Name_kw (ld_glob I hg hm (PySem.W.callWith_K0 I.kIn hk go) hdb)
/-- o.m(e, ..) -/
def tMt (C : Addr) (m : Str) (sp : Sp) (dvs : List V) (W : WX) (ta : TE) (t : TA) : TE := fun σ H Q => ta σ H fun x H1 => ∃ a dx fs, x = .ref a ∧ H1 a = some (.ins C dx fs) ∧ fs.lookup m = none ∧
  t σ H1 fun vs H2 => sp (x :: (vs ++ dvs)) H2 Q fun c d H3 => W c d σ H3
theorem pe_mt' {pl : Sem Bool} (he : PE X o ta) (c : Cls X.K C) (hm : Meth X.K C m f) (F : FnOk X.prog X.w X.K X.mg X.base (L2.CX X.prog X.w) k f fd ps sp) (hr : Room k X.A)
    (hb : Binds X.K fd ps ds) (hd : Vals dvs ds) (tk : Takes X W) (ha : PA X (e :: es) t)
    (hst : starEach (e :: es) X.env = (false, eval e X.env) :: starEach es X.env := by rfl) (hpl : (backTo pos (starEach es X.env)).any (·.1) = false := by rfl)
    (ht : eval (.Call (.Attribute o m apos) (e :: es) [] pos) X.env = (do
      let ov ← eval o X.env; standAt apos.atName
      let (f, first) ← holding [ov] (getMethod ov m pl); callWith pos f first (backTo pos (starEach (e :: es) X.env)) (backToKw pos (keywordEach [] X.env))) := by rfl) :
    PE X (.Call (.Attribute o m apos) (e :: es) [] pos) (tMt C m sp dvs W ta t) := by
  constructor
  intro pins s σ H Q I h
  refine PySem.W.methodCall_KW (pl := pl) (thn (he.run pins s σ H _ I h) ?_) ht
  rintro u s1 ⟨x, H1, I1, rx, a, dx, fs, rfl, ea, l, q⟩
  cases (show u = Value.ref a from rx)
  refine getmeth_ok I1 ea c hm l (PySem.W.callWith_K (first := [.ref a]) (h₀ := X.base) I.ok.mod.kin hm.kp ?_ hst hpl)
  refine thn (ha.run pos pins s1 σ H1 _ I1 q) ?_
  rintro us s2 ⟨vs, H2, I2, r, q2⟩
  exact ⟨I2.kIn, run_fnSD (E := WE W) (us := .ref a :: us) (vs := .ref a :: vs) F hr hb hd (passAt tk σ) I2 (.cons rfl r) q2⟩
theorem pe_mt0' {pl : Sem Bool} (he : PE X o ta) (c : Cls X.K C) (hm : Meth X.K C m f) (F : FnOk X.prog X.w X.K X.mg X.base (L2.CX X.prog X.w) k f fd ps sp) (hr : Room k X.A)
    (hb : Binds X.K fd ps ds) (hd : Vals dvs ds) (tk : Takes X W)
    (ht : eval (.Call (.Attribute o m apos) [] [] pos) X.env = (do
      let ov ← eval o X.env; standAt apos.atName
      let (f, first) ← holding [ov] (getMethod ov m pl); callWith pos f first (backTo pos (starEach [] X.env)) (backToKw pos (keywordEach [] X.env))) := by rfl) :
    PE X (.Call (.Attribute o m apos) [] [] pos) (tMt C m sp dvs W ta tNil) := by
  constructor
  intro pins s σ H Q I h
  refine PySem.W.methodCall_KW (pl := pl) (thn (he.run pins s σ H _ I h) ?_) ht
  rintro u s1 ⟨x, H1, I1, rx, a, dx, fs, rfl, ea, l, q⟩
  cases (show u = Value.ref a from rx)
  refine getmeth_ok I1 ea c hm l ?_
  have go := run_fnSD (E := WE W) (us := [.ref a]) (vs := [.ref a]) F hr hb hd (passAt tk σ) I1 (.cons rfl .nil) q
  exact PySem.W.callWith_K0 (first := [.ref a]) I1.kIn hm.kp go
/-- C(e, ..) -/
def tMk (C : Addr) (sp : Sp) (dvs : List V) (W : WX) (t : TA) : TE := fun σ H Q => t σ H fun vs H1 => ∀ x dx, H1 x = none → H1 dx = none → dx ≠ x →
  sp (.ref x :: (vs ++ dvs)) (upd (upd H1 dx (.own x)) x (.ins C dx [])) (fun v H2 => v = .non ∧ Q (.ref x) H2) fun c d H2 => W c d σ H2
theorem run_mk {pins : List (Addr × Obj)} {σ : St} {H : Hp} {s : Shared} {Q : VK} {us : List Value} {vs : List V} (M : Mk X.K C f) (F : FnOk X.prog X.w X.K X.mg X.base (L2.CX X.prog X.w) k f fd ps sp) (hr : Room (k + 1) X.A)
    (hb : Binds X.K fd ps ds) (hd : Vals dvs ds) (tk : Takes X W) (I : Inv X pins σ H s) (r : Vals vs us)
    (h : ∀ x dx, H x = none → H dx = none → dx ≠ x → sp (.ref x :: (vs ++ dvs)) (upd (upd H dx (.own x)) x (.ins C dx [])) (fun v H2 => v = .non ∧ Q (.ref x) H2) fun c d H2 => W c d σ H2) :
    wpAny (model X.prog X.w) X.A (call (.ref C) us) (EP X pins σ Q) X.xe s := by
  have hq := h (s.heap.objs.size + 1) s.heap.objs.size (I.hok.fresh (Nat.le_succ _)) (I.hok.fresh (Nat.le_refl _)) (Nat.ne_of_lt (Nat.lt_succ_self _))
  have J := Inv.made (C := C) I
  have rr : Vals (V.ref (s.heap.objs.size + 1) :: (vs ++ dvs)) (Value.ref (s.heap.objs.size + 1) :: (us ++ ds)) := .cons rfl (r.append hd)
  have hl : (Value.ref (s.heap.objs.size + 1) :: us ++ ds).length = ps.length := by
    have e1 := rr.length
    rw [F.len _ _ _ _ hq] at e1
    exact e1.symm
  have run := F.run _ X.stack _ _ ⟨Value.ref (s.heap.objs.size + 1) :: us, []⟩ (Value.ref (s.heap.objs.size + 1) :: (us ++ ds)) _ _ _ (hr.make C us []) (J.env0.make C us []) (hb _ (Value.ref (s.heap.objs.size + 1) :: us) J.kIn hl) rr hq
  refine wpAny_call (make_map (f := f) I.kIn M.makes M.init (beq_iff_eq.mp M.fn) (codeAny_mono run ?_))
  intro r s' z
  match r, z with
  | .error e, z => exact (passAt tk σ) pins _ _ e s' J z
  | .ok (.ret u), z =>
    obtain ⟨v, H', J3, rv, ev, q3⟩ := J.after z
    subst ev
    exact ⟨rv, ⟨V.ref (s.heap.objs.size + 1), H', J3, rfl, q3⟩⟩
theorem pe_mk' (M : Mk X.K C f) (F : FnOk X.prog X.w X.K X.mg X.base (L2.CX X.prog X.w) k f fd ps sp) (hr : Room (k + 1) X.A) (hg : Gl X x) (hm : X.mg x = some (.ref C))
    (hb : Binds X.K fd ps ds) (hd : Vals dvs ds) (tk : Takes X W) (ha : PA X (e :: es) t) (hdb : (x == ("__debug__" : Str)) = false := by decide)
    (he : starEach (e :: es) X.env = (false, eval e X.env) :: starEach es X.env := by rfl) (hpl : (backTo pos (starEach es X.env)).any (·.1) = false := by rfl) :
    PE X (.Call (.Name x p) (e :: es) [] pos) (tMk C sp dvs W t) := by
  constructor
  intro pins s σ H Q I h
  refine wpAny_Call_Name_kw (ld_glob I hg hm (PySem.W.callWith_K (h₀ := X.base) I.ok.mod.kin M.kp ?_ he hpl) hdb)
  refine thn (ha.run pos pins s σ H _ I h) ?_
  rintro us s1 ⟨vs, H1, I1, r, q⟩
  exact ⟨I1.kIn, run_mk M F hr hb hd tk I1 r q⟩
theorem pe_mk0' (M : Mk X.K C f) (F : FnOk X.prog X.w X.K X.mg X.base (L2.CX X.prog X.w) k f fd ps sp) (hr : Room (k + 1) X.A) (hg : Gl X x) (hm : X.mg x = some (.ref C))
    (hb : Binds X.K fd ps ds) (hd : Vals dvs ds) (tk : Takes X W) (hdb : (x == ("__debug__" : Str)) = false := by decide) :
    PE X (.Call (.Name x p) [] [] pos) (tMk C sp dvs W tNil) := by
  constructor
  intro pins s σ H Q I h
  have go := run_mk (us := []) M F hr hb hd tk I .nil h
  exact wpAny_Call_Name_kw (ld_glob I hg hm (PySem.W.callWith_K0 I.kIn M.kp go) hdb)
end
/-! ### an error raised -/
def tRz (C : Addr) (W : WX) : TS := fun _ σ H => W (.ref C) none σ H
theorem ps_rz {X : Cx} {W : WX} {C : Addr} {x m : Str} {j : Nat} {p p2 pos pos2 : Pos} (hc : X.calm = true) (tk : Takes X W) (q : PySem.W.excIn X.K C He.veBase "ValueError.__new__" = true ∧ PySem.W.keepIn X.K (.ref C) = true ∧ PySem.W.subIn X.K (.ref C) (.type "BaseException") = some true ∧ PySem.W.typeIn X.K (.ref C) = some (.type "type"))
    (gC : X.mg x = some (.ref C)) (hg : Gl X x) (hdb : (x == ("__debug__" : Str)) = false := by decide) :
    PS X (.Raise (some (.Call (.Name x p) [.Constant (.str m) j p2] [] pos)) none pos2) (tRz C W) :=
  ps_raise hc tk (pmk_own PySem.F.excBase_ValueError q.1 gC q.2.1 (raises_own q.2.2.1 q.2.2.2) hg hdb)
/-! ### names of the module -/
section
variable {X : Cx} {x : Str} {pos : Pos}
theorem pe_gint {i : Int} (hg : Gl X x) (hm : ∃ t, X.mg x = some (.int i t)) (hd : (x == ("__debug__" : Str)) = false := by decide) : PE X (.Name x pos) (tC (.int i)) :=
  hm.elim fun t h => pe_glob (v := .int i) hg h ⟨t, rfl⟩ hd
theorem pe_gstr {z : Str} (hg : Gl X x) (hm : ∃ t, X.mg x = some (.str z t)) (hd : (x == ("__debug__" : Str)) = false := by decide) : PE X (.Name x pos) (tC (.str z)) :=
  hm.elim fun t h => pe_glob (v := .str z) hg h ⟨t, rfl⟩ hd
theorem pe_gref {a : Addr} (hg : Gl X x) (hm : X.mg x = some (.ref a)) (hd : (x == ("__debug__" : Str)) = false := by decide) : PE X (.Name x pos) (tC (.ref a)) := pe_glob (v := .ref a) hg hm rfl hd
theorem pe_bty {n : String} (hg : Gl X x) (hm : X.mg x = none) (hv : bootBuiltins x = some (.type n)) (hn : x ≠ "__name__" := by decide) (hd : (x == ("__debug__" : Str)) = false := by decide) : PE X (.Name x pos) (tC (.ty n)) := pe_bltn (v := .ty n) hg hm hv rfl hn hd
end
theorem bt_int : bootBuiltins "int" = some (.type "int") := by decide +kernel
theorem bt_bool : bootBuiltins "bool" = some (.type "bool") := by decide +kernel
theorem bt_str : bootBuiltins "str" = some (.type "str") := by decide +kernel
theorem bt_list : bootBuiltins "list" = some (.type "list") := by decide +kernel
theorem bt_tuple : bootBuiltins "tuple" = some (.type "tuple") := by decide +kernel
theorem bt_dict : bootBuiltins "dict" = some (.type "dict") := by decide +kernel
theorem bt_ValueError : bootBuiltins "ValueError" = some (.type "ValueError") := by decide +kernel
theorem bt_set : bootBuiltins "set" = some (.type "set") := by decide +kernel
theorem bb_len : bootBuiltins "len" = some (.builtin "len") := by decide +kernel
theorem bb_isinstance : bootBuiltins "isinstance" = some (.builtin "isinstance") := by decide +kernel
theorem bb_all : bootBuiltins "all" = some (.builtin "all") := by decide +kernel
theorem bb_any : bootBuiltins "any" = some (.builtin "any") := by decide +kernel
theorem bb_sum : bootBuiltins "sum" = some (.builtin "sum") := by decide +kernel
theorem bb_min : bootBuiltins "min" = some (.builtin "min") := by decide +kernel
theorem bb_max : bootBuiltins "max" = some (.builtin "max") := by decide +kernel
theorem bb_abs : bootBuiltins "abs" = some (.builtin "abs") := by decide +kernel
theorem bb_divmod : bootBuiltins "divmod" = some (.builtin "divmod") := by decide +kernel
theorem bb_sorted : bootBuiltins "sorted" = some (.builtin "sorted") := by decide +kernel
theorem bb_repr : bootBuiltins "repr" = some (.builtin "repr") := by decide +kernel
/-! ### calls of built-ins by several kinds -/
section
variable {X : Cx}
def rLenK (K : PySem.W.Frag) : List V → Hp → VK → Prop := fun xs H Q => ∃ x n, xs = [x] ∧ LenV K x H n ∧ Q (.int n) H
theorem cr_lenK : CallR X (.builtin "len") (rLenK X.K) := call_len
def rIntK : List V → Hp → VK → Prop := fun xs H Q => (∃ i, xs = [.int i] ∧ Q (.int i) H) ∨ ∃ k, xs = [.bl k] ∧ Q (.int (if k then 1 else 0)) H
theorem cr_intK : CallR X (.type "int") rIntK := call_int1
def rListK (K : PySem.W.Frag) : List V → Hp → VK → Prop := fun xs H Q => ∃ p ys, xs = [.ref p] ∧ (SqL K H p ys ∨ SqT K H p ys) ∧ ∀ l, H l = none → Q (.ref l) (upd H l (.lst ys))
theorem cr_listK : CallR X (.type "list") (rListK X.K) := call_list_of
def rTupleK (K : PySem.W.Frag) : List V → Hp → VK → Prop := fun xs H Q => ∃ p ys, xs = [.ref p] ∧ ((SqL K H p ys ∧ ∀ l, H l = none → Q (.ref l) (upd H l (.tup ys))) ∨ (SqT K H p ys ∧ Q (.ref p) H))
theorem cr_tupleK : CallR X (.type "tuple") (rTupleK X.K) := call_tuple_of
def rDivmodK : List V → Hp → VK → Prop := fun xs H Q => ∃ i j, xs = [.int i, .int j] ∧ CDiv i j ∧ ∀ p, H p = none → Q (.ref p) (upd H p (.tup [.int (i / j), .int (i % j)]))
theorem cr_divmodK : CallR X (.builtin "divmod") rDivmodK := call_divmod
def rMax2K : List V → Hp → VK → Prop := fun xs H Q => ∃ i j, xs = [.int i, .int j] ∧ Q (.int (if j > i then j else i)) H
theorem cr_max2K (hc : X.calm = true) : CallR X (.builtin "max") rMax2K := call_max2 hc
def rMin2K : List V → Hp → VK → Prop := fun xs H Q => ∃ i j, xs = [.int i, .int j] ∧ Q (.int (if j < i then j else i)) H
theorem cr_min2K (hc : X.calm = true) : CallR X (.builtin "min") rMin2K := call_min2 hc
def rAbsK : List V → Hp → VK → Prop := fun xs H Q => ∃ i, xs = [.int i] ∧ Q (.int (if i < 0 then -i else i)) H
theorem cr_absK : CallR X (.builtin "abs") rAbsK := call_abs
def rSlK (K : PySem.W.Frag) : V → Option Int → Option Int → Hp → VK → Prop := fun x lo hi H Q => rSlL K x lo hi H Q ∨ rSlS x lo hi H Q ∨ rSlT K x lo hi H Q
theorem sl_K : SlR X (rSlK X.K) := SlR.or sl_list (SlR.or sl_str sl_tup)
end
end L2.BP
namespace L2.BP
open PySem PySem.Spec PyProof.Rows
/-! ### the heap as own objects over a base -/
structure Hs (B : Hp) (L : List (Addr × HO)) (H : Hp) : Prop where
  ex : Same B H
  nd : (L.map (·.1)).Nodup
  own : ∀ q ∈ L, H q.1 = some q.2 ∧ B q.1 = none
section
variable {B H H' : Hp} {L : List (Addr × HO)} {p : Addr} {o o' : HO} {K : PySem.W.Frag}
theorem Hs.start (H : Hp) : Hs H [] H := ⟨Same.refl H, .nil, fun _ h => nomatch h⟩
theorem Hs.same (h : Hs B L H) (s : Same H H') : Hs B L H' := ⟨h.ex.trans s, h.nd, fun q m => ⟨s _ _ (h.own q m).1, (h.own q m).2⟩⟩
theorem Hs.newS (h : Hs B L H) (hp : H p = none) (s : Same H H') (hn : H' p = some o) : Hs B ((p, o) :: L) H' where
  ex := h.ex.trans s
  nd := by
    refine List.nodup_cons.mpr ⟨fun m => ?_, h.nd⟩
    obtain ⟨q, mq, e⟩ := List.mem_map.mp m
    have z := (h.own q mq).1
    rw [e, hp] at z
    cases z
  own := fun q m => by
    rcases List.mem_cons.mp m with rfl | m
    · exact ⟨hn, h.ex.free hp⟩
    · exact ⟨s _ _ (h.own q m).1, (h.own q m).2⟩
theorem same_upd (hp : H p = none) : Same H (upd H p o) := fun b u e => by rw [upd_ne (ne_of_none e hp)]; exact e
theorem Hs.new (h : Hs B L H) (hp : H p = none) : Hs B ((p, o) :: L) (upd H p o) := h.newS hp (same_upd hp) upd_same
theorem Hs.drop {q : Addr × HO} (h : Hs B (q :: L) H) : Hs B L H := ⟨h.ex, (List.nodup_cons.mp h.nd).2, fun z m => h.own z (List.mem_cons_of_mem _ m)⟩
theorem Hs.get (h : Hs B L H) (m : (p, o) ∈ L) : H p = some o := (h.own _ m).1
theorem Hs.nb (h : Hs B L H) (m : (p, o) ∈ L) : B p = none := (h.own _ m).2
/-- the first of the own objects changed -/
theorem Hs.chg (h : Hs B ((p, o) :: L) H) (k : ∀ b u, b ≠ p → H b = some u → H' b = some u) (hn : H' p = some o') : Hs B ((p, o') :: L) H' where
  ex := fun b u e => k b u (ne_of_none e (h.nb (o := o) (.head _))) (h.ex b u e)
  nd := h.nd
  own := fun q m => by
    rcases List.mem_cons.mp m with rfl | m
    · exact ⟨hn, h.nb (o := o) (.head _)⟩
    · refine ⟨k _ _ (fun z => ?_) (h.own q (.tail _ m)).1, (h.own q (.tail _ m)).2⟩
      exact (List.nodup_cons.mp h.nd).1 (List.mem_map.mpr ⟨q, m, z⟩)
theorem Hs.perm {L' : List (Addr × HO)} (h : Hs B L H) (q : L.Perm L') : Hs B L' H := ⟨h.ex, (q.map _).nodup_iff.mp h.nd, fun z m => h.own z (q.mem_iff.mpr m)⟩
theorem Hs.swap {a b : Addr × HO} (h : Hs B (a :: b :: L) H) : Hs B (b :: a :: L) H := h.perm (.swap b a L)
theorem Hs.rot3 {a b c : Addr × HO} (h : Hs B (a :: b :: c :: L) H) : Hs B (c :: a :: b :: L) H := h.perm ((List.Perm.cons a (.swap c b L)).trans (.swap c a (b :: L)))
theorem Hs.unrot3 {a b c : Addr × HO} (h : Hs B (c :: a :: b :: L) H) : Hs B (a :: b :: c :: L) H := h.perm (((List.Perm.cons a (.swap c b L)).trans (.swap c a (b :: L))).symm)
theorem Hs.u0 (h : Hs B ((p, o) :: L) H) : Hs B ((p, o') :: L) (upd H p o') := h.chg (fun b u n e => by rw [upd_ne n]; exact e) upd_same
theorem Hs.u1 {a : Addr × HO} (h : Hs B (a :: (p, o) :: L) H) : Hs B (a :: (p, o') :: L) (upd H p o') := h.swap.u0.swap
theorem Hs.u2 {a b : Addr × HO} (h : Hs B (a :: b :: (p, o) :: L) H) : Hs B (a :: b :: (p, o') :: L) (upd H p o') := h.rot3.u0.unrot3
theorem Hs.u3 {a b c : Addr × HO} (h : Hs B (a :: b :: c :: (p, o) :: L) H) : Hs B (a :: b :: c :: (p, o') :: L) (upd H p o') := by
  have e : (a :: b :: c :: (p, o) :: L).Perm ((p, o) :: a :: b :: c :: L) := (List.perm_middle (l₁ := [a, b, c]) (a := (p, o)) (l₂ := L))
  have e' : ((p, o') :: a :: b :: c :: L).Perm (a :: b :: c :: (p, o') :: L) := (List.perm_middle (l₁ := [a, b, c]) (a := (p, o')) (l₂ := L)).symm
  exact ((h.perm e).u0 (o' := o')).perm e'
/-- the first one is laid to the base: it changes no more -/
theorem Hs.fix (h : Hs B ((p, o) :: L) H) : Hs (upd B p o) L H where
  ex := fun b u e => by
    by_cases hb : b = p
    · subst hb
      rw [upd_same] at e
      cases e
      exact h.get (.head _)
    · rw [upd_ne hb] at e
      exact h.ex b u e
  nd := (List.nodup_cons.mp h.nd).2
  own := fun q m => by
    refine ⟨(h.own q (.tail _ m)).1, ?_⟩
    have n : q.1 ≠ p := fun z => (List.nodup_cons.mp h.nd).1 (List.mem_map.mpr ⟨q, m, z⟩)
    rw [upd_ne n]
    exact (h.own q (.tail _ m)).2
theorem Hs.sql {xs : List V} (h : Hs B L H) (m : (p, HO.lst xs) ∈ L) : SqL K H p xs := .of (h.get m)
theorem Hs.sqt {xs : List V} (h : Hs B L H) (m : (p, HO.tup xs) ∈ L) : SqT K H p xs := .of (h.get m)
theorem Hs.bl {xs : List V} (h : Hs B L H) (m : SqL K B p xs) : SqL K H p xs := h.ex.seq m
theorem same_sqt {xs : List V} (e : Same H H') (h : SqT K H p xs) : SqT K H' p xs := by
  rcases h with (h | ⟨u, h⟩) | h
  · exact .inl (.inl (e _ _ h))
  · exact .inl (.inr ⟨u, e _ _ h⟩)
  · exact .inr h
theorem Hs.bt {xs : List V} (h : Hs B L H) (m : SqT K B p xs) : SqT K H p xs := same_sqt h.ex m
mutual
theorem dp_same (e : Same H H') : ∀ {v : V} {d : PyData}, Dp K H v d → Dp K H' v d
  | _, _, .non => .non
  | _, _, .bl b => .bl b
  | _, _, .int i => .int i
  | _, _, .str x => .str x
  | _, _, .lst h a => .lst (e.seq h) (dpa_same e a)
  | _, _, .tup h a => .tup (same_sqt e h) (dpa_same e a)
theorem dpa_same (e : Same H H') : ∀ {vs : List V} {ds : List PyData}, DpAll K H vs ds → DpAll K H' vs ds
  | _, _, .nil => .nil
  | _, _, .cons h a => .cons (dp_same e h) (dpa_same e a)
end
theorem dpa_ints : ∀ ns : List Int, DpAll K H (ns.map V.int) (ns.map PyData.int)
  | [] => .nil
  | n :: r => .cons (.int n) (dpa_ints r)
end
/-! ### readings, step by step -/
section
variable {σ : St} {H : Hp} {Q : VK} {v x y : V} {i j : Int} {ta tb te : TE} {K : PySem.W.Frag} {r : R2} {B : Hp} {L : List (Addr × HO)}
theorem c_var {n : Nat} (h : σ[n]? = some (some v)) (k : Q v H) : tVar n σ H Q := ⟨v, h, k⟩
theorem c_c (k : Q v H) : tC v σ H Q := k
theorem c_op (k : ta σ H fun x H1 => tb σ H1 fun y H2 => r x y H2 Q) : tOp r ta tb σ H Q := k
theorem c_un {r : V → Hp → VK → Prop} (k : ta σ H fun x H1 => r x H1 Q) : tUn r ta σ H Q := k
theorem c_addI (k : Q (.int (i + j)) H) : rAddU (.int i) (.int j) H Q := .inl ⟨i, j, rfl, rfl, k⟩
theorem c_addS {a b : Str} (h : a.length + b.length ≤ sizeLine) (k : Q (.str (a ++ b)) H) : rAddU (.str a) (.str b) H Q := .inr (.inl ⟨a, b, rfl, rfl, h, k⟩)
theorem c_addL {p q : Addr} {xs ys : List V} (h : Hs B L H) (hp : H p = some (.lst xs)) (hq : H q = some (.lst ys)) (hl : xs.length + ys.length ≤ sizeLine)
    (k : ∀ a H', Hs B ((a, .lst (xs ++ ys)) :: L) H' → Q (.ref a) H') : rAddU (.ref p) (.ref q) H Q :=
  .inr (.inr ⟨p, q, xs, ys, rfl, rfl, hp, hq, hl, fun a ha => k a _ (h.new ha)⟩)
theorem c_sub (k : Q (.int (i - j)) H) : rSubU (.int i) (.int j) H Q := ⟨i, j, rfl, rfl, k⟩
theorem c_mulI (h : CMul i j) (k : Q (.int (i * j)) H) : rMulU (.int i) (.int j) H Q := .inl ⟨i, j, rfl, rfl, h, k⟩
theorem c_rep {p : Addr} {xs : List V} (h : Hs B L H) (hp : H p = some (.lst xs)) (h1 : -(2 ^ 63) ≤ j) (h2 : j < 2 ^ 63) (hl : xs.length * j.toNat ≤ sizeLine)
    (k : ∀ a H', Hs B ((a, .lst (List.replicate j.toNat xs).flatten) :: L) H' → Q (.ref a) H') : rMulU (.ref p) (.int j) H Q :=
  .inr (.inl ⟨p, j, xs, rfl, rfl, hp, h1, h2, hl, fun a ha => k a _ (h.new ha)⟩)
theorem c_repS {z : Str} {n : Nat} (e : j = ((n : Nat) : Int)) (h1 : n ≤ 1000) (h2 : z.length ≤ 1000) (h3 : (repS z n).length ≤ 1000000) (k : Q (.str (repS z n)) H) : rMulU (.str z) (.int j) H Q := .inr (.inr ⟨z, n, rfl, by rw [e], h1, h2, h3, k⟩)
theorem c_div (h : CDiv i j) (k : Q (.int (i / j)) H) : rDivU (.int i) (.int j) H Q := ⟨i, j, rfl, rfl, h, k⟩
theorem c_mod (h : 0 < j) (k : Q (.int (i % j)) H) : rModU (.int i) (.int j) H Q := ⟨i, j, rfl, rfl, h, k⟩
theorem c_pow (h : CPow i j) (k : Q (.int (i ^ j.toNat)) H) : rPowU (.int i) (.int j) H Q := ⟨i, j, rfl, rfl, h, k⟩
theorem c_shl (h : CPow i j) (k : Q (.int (i * 2 ^ j.toNat)) H) : rShlU (.int i) (.int j) H Q := .inl ⟨i, j, rfl, rfl, h, k⟩
theorem c_shlW (h : CShl i j) (k : Q (.int (i * 2 ^ j.toNat)) H) : rShlU (.int i) (.int j) H Q := .inr ⟨i, j, rfl, rfl, h, k⟩
theorem c_shr (h : 0 ≤ j) (k : Q (.int (i / 2 ^ j.toNat)) H) : rShrU (.int i) (.int j) H Q := ⟨i, j, rfl, rfl, h, k⟩
theorem c_and (k : Q (.int (Builtin.bitAnd i j)) H) : rAndU (.int i) (.int j) H Q := ⟨i, j, rfl, rfl, k⟩
theorem c_or (k : Q (.int (Builtin.bitOr i j)) H) : rOrU (.int i) (.int j) H Q := ⟨i, j, rfl, rfl, k⟩
theorem c_xor (k : Q (.int (Builtin.bitXor i j)) H) : rXorU (.int i) (.int j) H Q := ⟨i, j, rfl, rfl, k⟩
theorem c_neg (k : Q (.int (-i)) H) : rNegU (.int i) H Q := ⟨i, rfl, k⟩
theorem c_lt (k : Q (.bl (decide (i < j))) H) : rLtU (.int i) (.int j) H Q := ⟨i, j, rfl, rfl, k⟩
theorem c_le (k : Q (.bl (decide (i ≤ j))) H) : rLeU (.int i) (.int j) H Q := ⟨i, j, rfl, rfl, k⟩
theorem c_gt (k : Q (.bl (decide (j < i))) H) : rGtU (.int i) (.int j) H Q := ⟨i, j, rfl, rfl, k⟩
theorem c_ge (k : Q (.bl (decide (j ≤ i))) H) : rGeU (.int i) (.int j) H Q := ⟨i, j, rfl, rfl, k⟩
theorem dec_of {p q : Prop} [Decidable p] [Decidable q] (h : p ↔ q) : decide p = decide q := by by_cases z : p <;> simp [z, h.mp, mt h.mpr] <;> simp_all
theorem c_eqI (k : Q (.bl (decide (i = j))) H) : rEqU K (.int i) (.int j) H Q := .inl ⟨rfl, by rw [dec_of (show V.int i = V.int j ↔ i = j by simp)]; exact k⟩
theorem c_neI (k : Q (.bl (!decide (i = j))) H) : rNeU K (.int i) (.int j) H Q := .inl ⟨rfl, by rw [dec_of (show V.int i = V.int j ↔ i = j by simp)]; exact k⟩
theorem c_eqS {a b : Str} (k : Q (.bl (decide (a = b))) H) : rEqU K (.str a) (.str b) H Q := .inl ⟨rfl, by rw [dec_of (show V.str a = V.str b ↔ a = b by simp)]; exact k⟩
theorem c_neS {a b : Str} (k : Q (.bl (!decide (a = b))) H) : rNeU K (.str a) (.str b) H Q := .inl ⟨rfl, by rw [dec_of (show V.str a = V.str b ↔ a = b by simp)]; exact k⟩
theorem c_eqB {a b : Bool} (k : Q (.bl (decide (a = b))) H) : rEqU K (.bl a) (.bl b) H Q := .inl ⟨rfl, by rw [dec_of (show V.bl a = V.bl b ↔ a = b by simp)]; exact k⟩
theorem c_neB {a b : Bool} (k : Q (.bl (!decide (a = b))) H) : rNeU K (.bl a) (.bl b) H Q := .inl ⟨rfl, by rw [dec_of (show V.bl a = V.bl b ↔ a = b by simp)]; exact k⟩
theorem c_eqD {d e : PyData} (hx : Dp K H x d) (hy : Dp K H y e) (h1 : SeqAt.shaped d = true) (h2 : SeqAt.shaped e = true) (k : Q (.bl (PyData.eqv d e)) H) : rEqU K x y H Q := .inr (.inl ⟨d, e, hx, hy, h1, h2, k⟩)
theorem c_neD {d e : PyData} (hx : Dp K H x d) (hy : Dp K H y e) (h1 : SeqAt.shaped d = true) (h2 : SeqAt.shaped e = true) (k : Q (.bl (!PyData.eqv d e)) H) : rNeU K x y H Q := .inr (.inl ⟨d, e, hx, hy, h1, h2, k⟩)
theorem c_isN (k : Q (.bl (decide (x = .non))) H) : rIsU x .non H Q := .inl ⟨rfl, k⟩
theorem c_notN (k : Q (.bl (!decide (x = .non))) H) : rNotU x .non H Q := .inl ⟨rfl, k⟩
theorem c_isB {a b : Bool} (k : Q (.bl (decide (a = b))) H) : rIsU (.bl a) (.bl b) H Q := .inr ⟨a, b, rfl, rfl, k⟩
theorem c_notB {a b : Bool} (k : Q (.bl (!decide (a = b))) H) : rNotU (.bl a) (.bl b) H Q := .inr ⟨a, b, rfl, rfl, k⟩
theorem c_ixL {p : Addr} {xs : List V} (h : SqL K H p xs) (ha : atI xs i = some v) (k : Q v H) : rIx K (.ref p) (.int i) H Q := .inl ⟨p, xs, i, v, rfl, rfl, h, ha, k⟩
theorem c_ixT {p : Addr} {xs : List V} (h : SqT K H p xs) (ha : atI xs i = some v) (k : Q v H) : rIx K (.ref p) (.int i) H Q := .inr (.inl ⟨p, xs, i, v, rfl, rfl, h, ha, k⟩)
theorem c_ixS {z : Str} {c : Nat} (h : z.length ≤ sizeLine) (ha : atI z.cps.toList i = some c) (k : Q (.str ⟨#[c]⟩) H) : rIx K (.str z) (.int i) H Q := .inr (.inr ⟨z, i, c, rfl, rfl, h, ha, k⟩)
theorem c_slL {p : Addr} {xs : List V} {lo hi : Option Int} (h : Hs B L H) (hq : SqL K H p xs) (k : ∀ a H', Hs B ((a, .lst (cutV xs lo hi)) :: L) H' → Q (.ref a) H') : rSlK K (.ref p) lo hi H Q :=
  .inl ⟨p, xs, rfl, hq, fun a ha => k a _ (h.new ha)⟩
theorem c_slS {z : Str} {lo hi : Option Int} (h : z.length ≤ sizeLine) (k : Q (.str (cutS z lo hi)) H) : rSlK K (.str z) lo hi H Q := .inr (.inl ⟨z, rfl, h, k⟩)
theorem c_andV (k : ta σ H fun x H1 => ∃ c, x = .bl c ∧ if c = true then tb σ H1 Q else Q (.bl false) H1) : tAndV ta tb σ H Q := k
theorem c_orV (k : ta σ H fun x H1 => ∃ c, x = .bl c ∧ if c = true then Q (.bl true) H1 else tb σ H1 Q) : tOrV ta tb σ H Q := k
theorem c_notV (k : ta σ H fun x H1 => ∃ c, x = .bl c ∧ Q (.bl (!c)) H1) : tNotV ta σ H Q := k
theorem c_bl {b : Bool} {P : Bool → Prop} (k : P b) : ∃ c, V.bl b = V.bl c ∧ P c := ⟨b, rfl, k⟩
theorem c_test {P : Bool → Hp → Prop} (k : te σ H fun x H' => ∃ c, x = .bl c ∧ P c H') : tTest te σ H P := k
theorem c_B {P : Bool → Hp → Prop} (k : te σ H fun x H' => ∃ c, x = .bl c ∧ P c H') : tB te σ H P := k
theorem c_chain {r' : R2} {tc : TE} (k : ta σ H fun x H1 => tb σ H1 fun y H2 => r x y H2 fun z H3 => ∃ c, z = .bl c ∧ (if c = true then tc σ H3 fun w H4 => r' y w H4 Q else Q (.bl false) H3)) : tChain r r' ta tb tc σ H Q := k
section
variable {t u : TT} {P : Bool → Hp → Prop}
theorem c_tand (k : t σ H fun c H1 => if c = true then u σ H1 P else P false H1) : tAnd t u σ H P := k
theorem c_tor (k : t σ H fun c H1 => if c = true then P true H1 else u σ H1 P) : tOr t u σ H P := k
theorem c_tnot (k : t σ H fun c H1 => P (!c) H1) : tNot t σ H P := k
theorem c_if (k : t σ H fun c H1 => if c = true then ta σ H1 Q else tb σ H1 Q) : tIf t ta tb σ H Q := k
end
section
variable {P : List V → Hp → Prop} {tr : TA}
theorem c_nil (k : P [] H) : tNil σ H P := k
theorem c_cons (k : te σ H fun x H1 => tr σ H1 fun xs H2 => P (x :: xs) H2) : tCons te tr σ H P := k
def TupO (xs : List V) (H : Hp) (Q : VK) : Prop := xs.length ≤ sizeLine ∧ ∀ p, H p = none → Q (.ref p) (upd H p (.tup xs))
def LstO (xs : List V) (H : Hp) (Q : VK) : Prop := xs.length ≤ sizeLine ∧ ∀ p, H p = none → Q (.ref p) (upd H p (.lst xs))
theorem c_tup (k : tr σ H fun xs H1 => TupO xs H1 Q) : tTup tr σ H Q := k
theorem c_lst (k : tr σ H fun xs H1 => LstO xs H1 Q) : tLst tr σ H Q := k
theorem c_tupO {xs : List V} (h : Hs B L H) (hl : xs.length ≤ sizeLine) (k : ∀ p H', Hs B ((p, .tup xs) :: L) H' → Q (.ref p) H') : TupO xs H Q := ⟨hl, fun p hp => k p _ (h.new hp)⟩
theorem c_lstO {xs : List V} (h : Hs B L H) (hl : xs.length ≤ sizeLine) (k : ∀ p H', Hs B ((p, .lst xs) :: L) H' → Q (.ref p) H') : LstO xs H Q := ⟨hl, fun p hp => k p _ (h.new hp)⟩
theorem c_cb {r : List V → Hp → VK → Prop} (k : tr σ H fun vs H1 => r vs H1 Q) : tCB r tr σ H Q := k
theorem c_lenL {p : Addr} {xs : List V} (h : SqL K H p xs) (k : Q (.int xs.length) H) : rLenK K [.ref p] H Q := ⟨_, _, rfl, .inl ⟨xs, h, rfl⟩, k⟩
theorem c_lenT {p : Addr} {xs : List V} (h : SqT K H p xs) (k : Q (.int xs.length) H) : rLenK K [.ref p] H Q := ⟨_, _, rfl, .inr ⟨xs, h, rfl⟩, k⟩
theorem c_lenS {z : Str} (h : z.length ≤ sizeLine) (k : Q (.int z.length) H) : rLenK K [.str z] H Q := ⟨_, _, rfl, ⟨h, rfl⟩, k⟩
theorem c_intI (k : Q (.int i) H) : rIntK [.int i] H Q := .inl ⟨i, rfl, k⟩
theorem c_intB {b : Bool} (k : Q (.int (if b then 1 else 0)) H) : rIntK [.bl b] H Q := .inr ⟨b, rfl, k⟩
theorem c_listL {p : Addr} {xs : List V} (h : Hs B L H) (hq : SqL K H p xs) (k : ∀ a H', Hs B ((a, .lst xs) :: L) H' → Q (.ref a) H') : rListK K [.ref p] H Q := ⟨p, xs, rfl, .inl hq, fun a ha => k a _ (h.new ha)⟩
theorem c_listT {p : Addr} {xs : List V} (h : Hs B L H) (hq : SqT K H p xs) (k : ∀ a H', Hs B ((a, .lst xs) :: L) H' → Q (.ref a) H') : rListK K [.ref p] H Q := ⟨p, xs, rfl, .inr hq, fun a ha => k a _ (h.new ha)⟩
theorem c_divmod (h : Hs B L H) (c : CDiv i j) (k : ∀ a H', Hs B ((a, .tup [.int (i / j), .int (i % j)]) :: L) H' → Q (.ref a) H') : rDivmodK [.int i, .int j] H Q := ⟨i, j, rfl, c, fun a ha => k a _ (h.new ha)⟩
theorem c_max2 (k : Q (.int (if j > i then j else i)) H) : rMax2K [.int i, .int j] H Q := ⟨i, j, rfl, k⟩
theorem c_min2 (k : Q (.int (if j < i then j else i)) H) : rMin2K [.int i, .int j] H Q := ⟨i, j, rfl, k⟩
theorem c_abs (k : Q (.int (if i < 0 then -i else i)) H) : rAbsK [.int i] H Q := ⟨i, rfl, k⟩
theorem c_sum {p : Addr} {ns : List Int} (h : SqL K H p (ns.map V.int)) (k : Q (.int ns.sum) H) : rSum K [.ref p] H Q := ⟨p, ns, rfl, h, k⟩
theorem c_all {p : Addr} {bs : List Bool} (h : SqL K H p (bs.map V.bl)) (k : Q (.bl (bs.all id)) H) : rAll K [.ref p] H Q := ⟨p, bs, rfl, h, k⟩
theorem c_any {p : Addr} {bs : List Bool} (h : SqL K H p (bs.map V.bl)) (k : Q (.bl (bs.any id)) H) : rAny K [.ref p] H Q := ⟨p, bs, rfl, h, k⟩
theorem c_cl {sp : Sp} {dvs : List V} {W : WX} (k : tr σ H fun vs H1 => sp (vs ++ dvs) H1 Q fun c d H2 => W c d σ H2) : tCl sp dvs W tr σ H Q := k
theorem c_mt {C : Addr} {m : Str} {sp : Sp} {dvs : List V} {W : WX} (k : te σ H fun x H1 => ∃ a dx fs, x = .ref a ∧ H1 a = some (.ins C dx fs) ∧ fs.lookup m = none ∧ tr σ H1 fun vs H2 => sp (x :: (vs ++ dvs)) H2 Q fun c d H3 => W c d σ H3) : tMt C m sp dvs W te tr σ H Q := k
theorem c_recv {C dx p : Addr} {fs : List (Str × V)} {m : Str} {P : Prop} (h : H p = some (.ins C dx fs)) (hl : fs.lookup m = none) (k : P) : ∃ a dx fs, V.ref p = .ref a ∧ H a = some (.ins C dx fs) ∧ fs.lookup m = none ∧ P := ⟨p, dx, fs, rfl, h, hl, k⟩
end
/-! isinstance -/
theorem tyx_sql {p : Addr} {xs : List V} (h : SqL K H p xs) : TyX K H (.ref p) (.type "list") := by
  rcases h with (h | ⟨u, h⟩) | ⟨o, a, b, h1, h2, _⟩
  · exact .base (.lst h)
  · exact .base (.frz h)
  · exact .kList h1 h2
theorem c_isi {c : V} {t u : Value} {b : Bool} (T : TyX K H x t) (hc : ClsV c u) (e : PySem.W.kitOne K t u = some b) (k : Q (.bl b) H) : rIsi K [x, c] H Q := ⟨x, c, t, u, b, rfl, hc, T, e, k⟩
theorem k_int_int : PySem.W.kitOne K (.type "int") (.type "int") = some true := kit_ty (by decide +kernel)
theorem k_int_bool : PySem.W.kitOne K (.type "int") (.type "bool") = some false := kit_ty (by decide +kernel)
theorem k_list_list : PySem.W.kitOne K (.type "list") (.type "list") = some true := kit_ty (by decide +kernel)
theorem c_isi_ii (k : Q (.bl true) H) : rIsi K [.int i, .ty "int"] H Q := c_isi (.base (.int i)) (.ty _) k_int_int k
theorem c_isi_ib (k : Q (.bl false) H) : rIsi K [.int i, .ty "bool"] H Q := c_isi (.base (.int i)) (.ty _) k_int_bool k
theorem c_isi_ll {p : Addr} {xs : List V} (h : SqL K H p xs) (k : Q (.bl true) H) : rIsi K [.ref p, .ty "list"] H Q := c_isi (tyx_sql h) (.ty _) k_list_list k
/-! fields -/
def FldO (K : PySem.W.Frag) (f : Str) (x : V) (H : Hp) (Q : VK) : Prop := ∃ a C dx fs v, x = .ref a ∧ H a = some (.ins C dx fs) ∧ Cls K C ∧ NoAttr K C f ∧ fs.lookup f = some v ∧ Q v H
theorem c_fld {f : Str} {C dx p : Addr} {fs : List (Str × V)} (h : H p = some (.ins C dx fs)) (hc : Cls K C) (hn : NoAttr K C f) (hl : fs.lookup f = some v) (k : Q v H) : FldO K f (.ref p) H Q := ⟨p, C, dx, fs, v, rfl, h, hc, hn, hl, k⟩
end
/-! ### statements -/
section
variable {σ : St} {H : Hp} {dn : St → Hp → Prop} {dr : VK} {db dc : St → Hp → Prop} {t u : TS} {te : TE} {g : TG} {v : V} {b : Bool}
theorem w_seq (k : t ⟨u ⟨dn, dr, db, dc⟩, dr, db, dc⟩ σ H) : tSeq t u ⟨dn, dr, db, dc⟩ σ H := k
theorem w_asg (k : te σ H fun x H1 => g x σ H1 dn) : tAsg te g ⟨dn, dr, db, dc⟩ σ H := k
theorem w_name {n : Nat} {P : St → Hp → Prop} (k : P (σ.set n (some v)) H) : gName n v σ H P := k
theorem w_drop (k : te σ H fun _ H1 => dn σ H1) : tDrop te ⟨dn, dr, db, dc⟩ σ H := k
theorem w_ret (k : te σ H dr) : tRet te ⟨dn, dr, db, dc⟩ σ H := k
theorem w_if {c : TT} (k : c σ H fun b H1 => if b = true then t ⟨dn, dr, db, dc⟩ σ H1 else u ⟨dn, dr, db, dc⟩ σ H1) : tIfS c t u ⟨dn, dr, db, dc⟩ σ H := k
theorem w_next (k : dn σ H) : tNext ⟨dn, dr, db, dc⟩ σ H := k
theorem i_t {A A' : Prop} (h : b = true) (k : A) : if b = true then A else A' := by rw [if_pos h]; exact k
theorem i_f {A A' : Prop} (h : b = false) (k : A') : if b = true then A else A' := by rw [h, if_neg Bool.false_ne_true]; exact k
theorem i_2 {A A' : Prop} (k : b = true → A) (k' : b = false → A') : if b = true then A else A' := by cases b; exact iteF (k' rfl); exact iteT (k rfl)
theorem w_aug {n : Nat} {ti : TIp} (h : σ[n]? = some (some v)) (k : te σ H fun y H1 => ti v y H1 fun z H2 => dn (σ.set n (some z)) H2) : tAug n te ti ⟨dn, dr, db, dc⟩ σ H := ⟨v, h, k⟩
theorem c_ipAddI {i j : Int} {Q : VK} (k : Q (.int (i + j)) H) : ipAddU (.int i) (.int j) H Q := .inl ⟨i, j, rfl, rfl, k⟩
theorem c_ipSub {i j : Int} {Q : VK} (k : Q (.int (i - j)) H) : ipSubU (.int i) (.int j) H Q := ⟨i, j, rfl, rfl, k⟩
end
/-! ### loops over what has plain items -/
section
variable {α : Type} {K : PySem.W.Frag} {a : Addr} {g : TG} {tb : TS} {dn : St → Hp → Prop} {dr : VK} {db dc : St → Hp → Prop} {σ : St} {H : Hp}
theorem take_split {l : List α} {i : Nat} {x : α} (h : l[i]? = some x) : l = l.take i ++ x :: l.drop (i + 1) ∧ l.take (i + 1) = l.take i ++ [x] := by
  obtain ⟨hi, e⟩ := List.getElem?_eq_some_iff.mp h
  subst e
  refine ⟨?_, by rw [List.take_add_one, h]; rfl⟩
  conv => lhs; rw [← List.take_append_drop i l, List.drop_eq_getElem_cons hi]
theorem for_l (f : α → V) (l : List α) (Pv : List α → St → Hp → Prop) (h0 : Pv [] σ H) (hq : ∀ pre post σ H, l = pre ++ post → Pv pre σ H → SqL K H a (l.map f))
    (hs : ∀ pre x post σ H, l = pre ++ x :: post → Pv pre σ H → g (f x) σ H fun σ2 H2 => tb ⟨Pv (pre ++ [x]), dr, dn, Pv (pre ++ [x])⟩ σ2 H2) (hd : ∀ σ H, Pv l σ H → dn σ H) :
    ∃ W : Nat → Nat → St → Hp → Prop, (∃ m, W 0 m σ H) ∧ ∀ i m σ H, W i m σ H →
      ((Itl K a).stop i H ∧ dn σ H) ∨ ((Itl K a).go i H ∧ ∃ N : St → Hp → Prop, (∀ σ' H', N σ' H' → ∃ m', m' < m ∧ W (i + 1) m' σ' H') ∧ ∀ x H', (Itl K a).yld i H x H' → g x σ H' fun σ2 H2 => tb ⟨N, dr, dn, N⟩ σ2 H2) := by
  refine L2.for_list (D := { nx := dn, rt := dr }) (xs := l.map f) (fun i => Pv (l.take i)) (by simpa using h0) (fun i σ H _ p => hq _ (l.drop i) σ H (List.take_append_drop i l).symm p) (fun i x σ H hx p => ?_) (fun σ H p => hd σ H (by simpa using p))
  rw [List.getElem?_map] at hx
  cases e : l[i]? with
  | none => rw [e] at hx; cases hx
  | some y =>
    rw [e] at hx
    cases hx
    obtain ⟨e1, e2⟩ := take_split e
    have z := hs _ y _ σ H e1 p
    rw [e2]
    exact z
theorem lc_l {tt : TT} {te : TE} {vs : List Nat} {D : Addr} {Qd : Hp → Prop} (f : α → V) (l : List α) (Pv : List α → Hp → Prop) (h0 : Pv [] (upd H D (.lst []))) (hq : ∀ pre post H, l = pre ++ post → Pv pre H → SqL K H a (l.map f))
    (hs : ∀ pre x post H, l = pre ++ x :: post → Pv pre H → g (f x) (wipe σ vs) H fun σ2 H2 => wipe σ2 vs = wipe σ vs ∧ tt σ2 H2 fun b H3 =>
      if b = true then te σ2 H3 fun y H4 => ∃ acc, H4 D = some (.lst acc) ∧ acc.length < sizeLine ∧ Pv (pre ++ [x]) (upd H4 D (.lst (acc ++ [y]))) else Pv (pre ++ [x]) H3) (hd : ∀ H, Pv l H → Qd H) :
    ∃ W : Nat → Nat → Hp → Prop, (∃ m, W 0 m (upd H D (.lst []))) ∧ ∀ i m H, W i m H →
      ((Itl K a).stop i H ∧ Qd H) ∨ ((Itl K a).go i H ∧ ∃ Nx : Hp → Prop, (∀ H', Nx H' → ∃ m', m' < m ∧ W (i + 1) m' H') ∧ ∀ x H', (Itl K a).yld i H x H' → g x (wipe σ vs) H' fun σ2 H2 => wipe σ2 vs = wipe σ vs ∧ tt σ2 H2 fun b H3 =>
        if b = true then te σ2 H3 fun y H4 => ∃ acc, H4 D = some (.lst acc) ∧ acc.length < sizeLine ∧ Nx (upd H4 D (.lst (acc ++ [y]))) else Nx H3) := by
  refine L2.lc_list (xs := l.map f) (fun i => Pv (l.take i)) (by simpa using h0) (fun i H _ p => hq _ (l.drop i) H (List.take_append_drop i l).symm p) (fun i x H hx p => ?_) (fun H p => hd H (by simpa using p))
  rw [List.getElem?_map] at hx
  cases e : l[i]? with
  | none => rw [e] at hx; cases hx
  | some y =>
    rw [e] at hx
    cases hx
    obtain ⟨e1, e2⟩ := take_split e
    have z := hs _ y _ H e1 p
    rw [e2]
    exact z
end
end L2.BP
namespace L2.BP
open PySem PySem.Spec PyProof.Rows
/-- a def as callers see it: what its defaults are, how the written arguments bind, its promise -/
def DOk (P : Program) (w : World) (K : PySem.W.Frag) (mg : Str → Option Value) (base : Heap) (k : Nat) (f : Addr) (ps : List Str) (dvs : List V) (sp : Sp) : Prop :=
  ∃ (fd : FuncData) (ds : List Value), Vals dvs ds ∧ Binds K fd ps ds ∧ FnOk P w K mg base (L2.CX P w) k f fd ps sp ∧ PySem.W.keepIn K (.ref f) = true
abbrev WF : WX := fun _ _ _ _ => False
/-! ### one of two readings of the same expression -/
def tOrE (t u : TE) : TE := fun σ H Q => t σ H Q ∨ u σ H Q
theorem pe_orE {X : Cx} {e : Expr} {t u : TE} (h : PE X e t) (h' : PE X e u) : PE X e (tOrE t u) :=
  ⟨fun pins s σ H Q I z => z.elim (h.run pins s σ H Q I) (h'.run pins s σ H Q I)⟩
/-! ### kinds of things -/
inductive Tg where
  | non | bl (b : Bool) | int (i : Int) | str (x : Str) | lst (xs : List V) | tup (xs : List V) | dic
/-- the thing v is of that kind -/
inductive Th (K : PySem.W.Frag) (H : Hp) : V → Tg → Prop where
  | non : Th K H .non .non
  | bl (b : Bool) : Th K H (.bl b) (.bl b)
  | int (i : Int) : Th K H (.int i) (.int i)
  | str (x : Str) : Th K H (.str x) (.str x)
  | lst {a : Addr} {xs : List V} (h : SqL K H a xs) : Th K H (.ref a) (.lst xs)
  | tup {a : Addr} {xs : List V} (h : SqT K H a xs) : Th K H (.ref a) (.tup xs)
  | dic {a : Addr} {kvs : List (Key × V)} (h : H a = some (.dK kvs)) : Th K H (.ref a) .dic
def Tg.ty : Tg → String
  | .non => "NoneType" | .bl _ => "bool" | .int _ => "int" | .str _ => "str" | .lst _ => "list" | .tup _ => "tuple" | .dic => "dict"
section
variable {K : PySem.W.Frag} {H H' : Hp} {v : V} {g : Tg} {Q : VK}
theorem Th.same (h : Th K H v g) (e : Same H H') : Th K H' v g := by
  cases h with
  | non => exact .non
  | bl b => exact .bl b
  | int i => exact .int i
  | str x => exact .str x
  | lst h => exact .lst (e.seq h)
  | tup h => exact .tup (same_sqt e h)
  | dic h => exact .dic (e _ _ h)
theorem tyx_sqt {p : Addr} {xs : List V} (h : SqT K H p xs) : TyX K H (.ref p) (.type "tuple") := by
  rcases h with (h | ⟨u, h⟩) | ⟨o, a, b, h1, h2, _⟩
  · exact .base (.tup h)
  · exact .fTuple h
  · exact .kTuple h1 h2
theorem Th.tyx (h : Th K H v g) : TyX K H v (.type g.ty) := by
  cases h with
  | non => exact .base .non
  | bl b => exact .base (.bl b)
  | int i => exact .base (.int i)
  | str x => exact .base (.str x)
  | lst h => exact tyx_sql h
  | tup h => exact tyx_sqt h
  | dic h => exact .base (.dK h)
def Tg.isInt : Tg → Bool
  | .bl _ => true | .int _ => true | _ => false
def Tg.isBool : Tg → Bool
  | .bl _ => true | _ => false
def Tg.isList : Tg → Bool
  | .lst _ => true | _ => false
def Tg.isStr : Tg → Bool
  | .str _ => true | _ => false
def Tg.isTup : Tg → Bool
  | .tup _ => true | _ => false
theorem Tg.kInt (g : Tg) : PySem.W.kitOne K (.type g.ty) (.type "int") = some g.isInt := by cases g <;> exact kit_ty (by kernel_rfl)
theorem Tg.kBool (g : Tg) : PySem.W.kitOne K (.type g.ty) (.type "bool") = some g.isBool := by cases g <;> exact kit_ty (by kernel_rfl)
theorem Tg.kList (g : Tg) : PySem.W.kitOne K (.type g.ty) (.type "list") = some g.isList := by cases g <;> exact kit_ty (by kernel_rfl)
theorem Tg.kStr (g : Tg) : PySem.W.kitOne K (.type g.ty) (.type "str") = some g.isStr := by cases g <;> exact kit_ty (by kernel_rfl)
theorem Tg.kTup (g : Tg) : PySem.W.kitOne K (.type g.ty) (.type "tuple") = some g.isTup := by cases g <;> exact kit_ty (by kernel_rfl)
theorem c_isiInt (h : Th K H v g) (k : Q (.bl g.isInt) H) : rIsi K [v, .ty "int"] H Q := c_isi h.tyx (.ty _) g.kInt k
theorem c_isiBool (h : Th K H v g) (k : Q (.bl g.isBool) H) : rIsi K [v, .ty "bool"] H Q := c_isi h.tyx (.ty _) g.kBool k
theorem c_isiList (h : Th K H v g) (k : Q (.bl g.isList) H) : rIsi K [v, .ty "list"] H Q := c_isi h.tyx (.ty _) g.kList k
theorem c_isiStr (h : Th K H v g) (k : Q (.bl g.isStr) H) : rIsi K [v, .ty "str"] H Q := c_isi h.tyx (.ty _) g.kStr k
theorem c_isiTup (h : Th K H v g) (k : Q (.bl g.isTup) H) : rIsi K [v, .ty "tuple"] H Q := c_isi h.tyx (.ty _) g.kTup k
/-- the results of defs that change nothing: a value, a new list, a new tuple -/
def RetV (H : Hp) (Q : VK) (v : V) : Prop := ∀ H', Same H H' → Q v H'
def RetL (H : Hp) (Q : VK) (xs : List V) : Prop := ∀ p H', H p = none → Same H H' → H' p = some (.lst xs) → Q (.ref p) H'
def RetT (H : Hp) (Q : VK) (xs : List V) : Prop := ∀ p H', H p = none → Same H H' → H' p = some (.tup xs) → Q (.ref p) H'
end
section
variable {B H : Hp} {L : List (Addr × HO)} {K : PySem.W.Frag} {Q : VK} {v : V} {xs : List V}
theorem Hs.rv (h : Hs B L H) (k : RetV B Q v) : Q v H := k H h.ex
theorem Hs.rl {p : Addr} (h : Hs B L H) (m : (p, HO.lst xs) ∈ L) (k : RetL B Q xs) : Q (.ref p) H := k p H (h.nb m) h.ex (h.get m)
theorem Hs.rt {p : Addr} (h : Hs B L H) (m : (p, HO.tup xs) ∈ L) (k : RetT B Q xs) : Q (.ref p) H := k p H (h.nb m) h.ex (h.get m)
theorem retV (h : Hs B L H) (k : ∀ H', Hs B L H' → Q v H') : RetV H Q v := fun H' e => k H' (h.same e)
theorem retL (h : Hs B L H) (k : ∀ p H', Hs B ((p, .lst xs) :: L) H' → Q (.ref p) H') : RetL H Q xs := fun p H' hp e hn => k p H' (h.newS hp e hn)
theorem retT (h : Hs B L H) (k : ∀ p H', Hs B ((p, .tup xs) :: L) H' → Q (.ref p) H') : RetT H Q xs := fun p H' hp e hn => k p H' (h.newS hp e hn)
end
end L2.BP
namespace L2.BP
open PySem PySem.Spec PyProof.Rows
/-! ### loops over the picture of the heap: I tells of what is done, the slots, the own objects, the base -/
abbrev Pic : Type := List (Addr × HO)
section
variable {α : Type} {K : PySem.W.Frag} {a : Addr} {g : TG} {tb : TS} {dn : St → Hp → Prop} {dr : VK} {db dc : St → Hp → Prop} {σ : St} {H B : Hp} {L : Pic}
/-- a list that is read stands in the base, or is an own one that is not changed -/
def NxI {β : Type} (I : β → St → Pic → Hp → Prop) (b : β) : St → Hp → Prop := fun σ H => ∃ L B, I b σ L B ∧ Hs B L H
theorem w_forL (f : α → V) (l : List α) (I : List α → St → Pic → Hp → Prop) (hs : Hs B L H) (h0 : I [] σ L B) (hq : ∀ pre post σ' L' B' H', l = pre ++ post → I pre σ' L' B' → Hs B' L' H' → SqL K H' a (l.map f))
    (turn : ∀ pre x post σ' L' B' H', l = pre ++ x :: post → I pre σ' L' B' → Hs B' L' H' → g (f x) σ' H' fun σ2 H2 => tb ⟨NxI I (pre ++ [x]), dr, dn, NxI I (pre ++ [x])⟩ σ2 H2)
    (fin : ∀ σ' L' B' H', I l σ' L' B' → Hs B' L' H' → dn σ' H') :
    ∃ b, V.ref a = .ref b ∧ (∃ xs, SqL K H b xs) ∧ ∃ W : Nat → Nat → St → Hp → Prop, (∃ m, W 0 m σ H) ∧ ∀ i m σ H, W i m σ H →
      ((Itl K b).stop i H ∧ dn σ H) ∨ ((Itl K b).go i H ∧ ∃ N : St → Hp → Prop, (∀ σ' H', N σ' H' → ∃ m', m' < m ∧ W (i + 1) m' σ' H') ∧ ∀ x H', (Itl K b).yld i H x H' → g x σ H' fun σ2 H2 => tb ⟨N, dr, dn, N⟩ σ2 H2) :=
  ⟨a, rfl, ⟨_, hq [] l σ L B H rfl h0 hs⟩, for_l f l (NxI I) ⟨L, B, h0, hs⟩ (fun pre post σ' H' e ⟨_, _, i, h⟩ => hq pre post _ _ _ _ e i h) (fun pre x post σ' H' e ⟨_, _, i, h⟩ => turn pre x post _ _ _ _ e i h) fun σ' H' ⟨_, _, i, h⟩ => fin _ _ _ _ i h⟩
theorem w_forR {lo : Int} {n : Nat} (I : Nat → St → Pic → Hp → Prop) (hs : Hs B L H) (h0 : I 0 σ L B)
    (turn : ∀ i σ' L' B' H', i < n → I i σ' L' B' → Hs B' L' H' → g (.int (lo + i)) σ' H' fun σ2 H2 => tb ⟨NxI I (i + 1), dr, dn, NxI I (i + 1)⟩ σ2 H2)
    (fin : ∀ σ' L' B' H', I n σ' L' B' → Hs B' L' H' → dn σ' H') :
    ∃ W : Nat → Nat → St → Hp → Prop, (∃ m, W 0 m σ H) ∧ ∀ i m σ H, W i m σ H →
      ((Itr lo n).stop i H ∧ dn σ H) ∨ ((Itr lo n).go i H ∧ ∃ N : St → Hp → Prop, (∀ σ' H', N σ' H' → ∃ m', m' < m ∧ W (i + 1) m' σ' H') ∧ ∀ x H', (Itr lo n).yld i H x H' → g x σ H' fun σ2 H2 => tb ⟨N, dr, dn, N⟩ σ2 H2) :=
  L2.for_range (D := { nx := dn, rt := dr }) (NxI I) ⟨L, B, h0, hs⟩ (fun i σ' H' e ⟨_, _, q, h⟩ => turn i _ _ _ _ e q h) fun σ' H' ⟨_, _, q, h⟩ => fin _ _ _ _ q h
theorem c_rng1 {n : Int} {P : It → Hp → Prop} (h1 : -(2 ^ 62) ≤ n) (h2 : n < 2 ^ 62) (k : P (Itr 0 n.toNat) H) : ∃ j : Int, [V.int n] = [.int j] ∧ -(2 ^ 62) ≤ j ∧ j < 2 ^ 62 ∧ P (Itr 0 j.toNat) H := ⟨n, rfl, h1, h2, k⟩
theorem c_rng2 {i j : Int} {P : It → Hp → Prop} (h1 : -(2 ^ 62) ≤ i ∧ i < 2 ^ 62 ∧ -(2 ^ 62) ≤ j ∧ j < 2 ^ 62) (k : P (Itr i (j - i).toNat) H) :
    ∃ i' j' : Int, [V.int i, V.int j] = [.int i', .int j'] ∧ (-(2 ^ 62) ≤ i' ∧ i' < 2 ^ 62 ∧ -(2 ^ 62) ≤ j' ∧ j' < 2 ^ 62) ∧ P (Itr i' (j' - i').toNat) H := ⟨i, j, rfl, h1, k⟩
/-- while: I falls by its number -/
def WhN (I : Nat → St → Pic → Hp → Prop) (m : Nat) : St → Hp → Prop := fun σ H => ∃ m', m' < m ∧ NxI I m' σ H
theorem w_while {c : TT} (I : Nat → St → Pic → Hp → Prop) (m0 : Nat) (hs : Hs B L H) (h0 : I m0 σ L B)
    (turn : ∀ m σ' L' B' H', I m σ' L' B' → Hs B' L' H' → c σ' H' fun b H1 => if b = true then ∃ N : St → Hp → Prop, (∀ σ3 H3, N σ3 H3 → WhN I m σ3 H3) ∧ tb ⟨N, dr, dn, N⟩ σ' H1 else dn σ' H1) :
    tWhile c tb ⟨dn, dr, db, dc⟩ σ H := ⟨fun m => NxI I m, ⟨m0, L, B, h0, hs⟩, fun m σ' H' ⟨_, _, q, h⟩ => turn m σ' _ _ H' q h⟩
theorem w_turn {P : St → Hp → Prop} (k : tb ⟨P, dr, dn, P⟩ σ H) : ∃ N : St → Hp → Prop, (∀ σ3 H3, N σ3 H3 → P σ3 H3) ∧ tb ⟨N, dr, dn, N⟩ σ H := ⟨_, fun _ _ w => w, k⟩
end
/-! ### comprehensions -/
section
variable {α : Type} {K : PySem.W.Frag} {a : Addr} {g : TG} {tt : TT} {te tl : TE} {σ : St} {H B : Hp} {L : Pic} {Q : VK} {vs : List Nat}
/-- the turn's word: what was made so far stands at D -/
def LcN (I : List α → List V → Hp → Prop) (B : Hp) (L : Pic) (D : Addr) (pre : List α) : Hp → Prop := fun H' => ∃ acc B', I pre acc B' ∧ Same B B' ∧ Hs B' ((D, .lst acc) :: L) H'
theorem c_lcL {P : Addr → Hp → Prop} (f : α → V) (l : List α) (I : List α → List V → Hp → Prop) (hs : Hs B L H) (h0 : I [] [] B)
    (hq : ∀ B' H', Same B B' → Hs B' L H' → SqL K H' a (l.map f))
    (turn : ∀ pre x post acc B' D H', l = pre ++ x :: post → I pre acc B' → Same B B' → Hs B' ((D, .lst acc) :: L) H' → g (f x) (wipe σ vs) H' fun σ2 H2 => wipe σ2 vs = wipe σ vs ∧ tt σ2 H2 fun b H3 =>
      if b = true then te σ2 H3 fun y H4 => ∃ acc, H4 D = some (.lst acc) ∧ acc.length < sizeLine ∧ LcN I B L D (pre ++ [x]) (upd H4 D (.lst (acc ++ [y]))) else LcN I B L D (pre ++ [x]) H3)
    (fin : ∀ acc B' D H', I l acc B' → Same B B' → Hs B' ((D, .lst acc) :: L) H' → P D H') :
    ∃ b, V.ref a = .ref b ∧ (∃ xs, SqL K H b xs) ∧ ∀ D, H D = none → ∃ W : Nat → Nat → Hp → Prop, (∃ m, W 0 m (upd H D (.lst []))) ∧ ∀ i m H, W i m H →
      ((Itl K b).stop i H ∧ P D H) ∨ ((Itl K b).go i H ∧ ∃ Nx : Hp → Prop, (∀ H', Nx H' → ∃ m', m' < m ∧ W (i + 1) m' H') ∧ ∀ x H', (Itl K b).yld i H x H' → g x (wipe σ vs) H' fun σ2 H2 => wipe σ2 vs = wipe σ vs ∧ tt σ2 H2 fun b H3 =>
        if b = true then te σ2 H3 fun y H4 => ∃ acc, H4 D = some (.lst acc) ∧ acc.length < sizeLine ∧ Nx (upd H4 D (.lst (acc ++ [y]))) else Nx H3) :=
  ⟨a, rfl, ⟨_, hq B H (Same.refl B) hs⟩, fun D hD => lc_l f l (LcN I B L D) ⟨[], B, h0, Same.refl B, hs.new hD⟩ (fun pre post H' _ ⟨acc, B', _, e, h⟩ => hq B' H' e h.drop)
    (fun pre x post H' e ⟨acc, B', p, e2, h⟩ => turn pre x post acc B' D H' e p e2 h) fun H' ⟨acc, B', p, e, h⟩ => fin acc B' D H' p e h⟩
theorem c_lcR {P : Addr → Hp → Prop} {lo : Int} {n : Nat} (I : Nat → List V → Hp → Prop) (hs : Hs B L H) (h0 : I 0 [] B)
    (turn : ∀ i acc B' D H', i < n → I i acc B' → Same B B' → Hs B' ((D, .lst acc) :: L) H' → g (.int (lo + i)) (wipe σ vs) H' fun σ2 H2 => wipe σ2 vs = wipe σ vs ∧ tt σ2 H2 fun b H3 =>
      if b = true then te σ2 H3 fun y H4 => ∃ acc, H4 D = some (.lst acc) ∧ acc.length < sizeLine ∧ (fun H' => ∃ acc B', I (i + 1) acc B' ∧ Same B B' ∧ Hs B' ((D, .lst acc) :: L) H') (upd H4 D (.lst (acc ++ [y]))) else (fun H' => ∃ acc B', I (i + 1) acc B' ∧ Same B B' ∧ Hs B' ((D, .lst acc) :: L) H') H3)
    (fin : ∀ acc B' D H', I n acc B' → Same B B' → Hs B' ((D, .lst acc) :: L) H' → P D H') :
    ∀ D, H D = none → ∃ W : Nat → Nat → Hp → Prop, (∃ m, W 0 m (upd H D (.lst []))) ∧ ∀ i m H, W i m H →
      ((Itr lo n).stop i H ∧ P D H) ∨ ((Itr lo n).go i H ∧ ∃ Nx : Hp → Prop, (∀ H', Nx H' → ∃ m', m' < m ∧ W (i + 1) m' H') ∧ ∀ x H', (Itr lo n).yld i H x H' → g x (wipe σ vs) H' fun σ2 H2 => wipe σ2 vs = wipe σ vs ∧ tt σ2 H2 fun b H3 =>
        if b = true then te σ2 H3 fun y H4 => ∃ acc, H4 D = some (.lst acc) ∧ acc.length < sizeLine ∧ Nx (upd H4 D (.lst (acc ++ [y]))) else Nx H3) :=
  fun D hD => L2.lc_range (fun i H' => ∃ acc B', I i acc B' ∧ Same B B' ∧ Hs B' ((D, .lst acc) :: L) H') ⟨[], B, h0, Same.refl B, hs.new hD⟩
    (fun i H' e ⟨acc, B', p, e2, h⟩ => turn i acc B' D H' e p e2 h) fun H' ⟨acc, B', p, e, h⟩ => fin acc B' D H' p e h
/-- one item more -/
theorem c_item {D : Addr} {acc : List V} {y : V} {B2 : Hp} {P : List V → Hp → Prop} (h : Hs B2 ((D, .lst acc) :: L) H) (hz : acc.length < sizeLine) (e : Same B B2) (i : P (acc ++ [y]) B2) :
    ∃ acc, H D = some (.lst acc) ∧ acc.length < sizeLine ∧ ∃ acc2 B', P acc2 B' ∧ Same B B' ∧ Hs B' ((D, .lst acc2) :: L) (upd H D (.lst (acc ++ [y]))) :=
  ⟨acc, h.get (.head _), hz, acc ++ [y], B2, i, e, h.u0⟩
theorem c_lc {wi : TI} (k : wi σ H fun J H1 => ∀ D, H1 D = none → ∃ W : Nat → Nat → Hp → Prop, (∃ m, W 0 m (upd H1 D (.lst []))) ∧ ∀ i m H, W i m H →
      (J.stop i H ∧ Q (.ref D) H) ∨ (J.go i H ∧ ∃ Nx : Hp → Prop, (∀ H', Nx H' → ∃ m', m' < m ∧ W (i + 1) m' H') ∧ ∀ x H', J.yld i H x H' → g x (wipe σ vs) H' fun σ2 H2 => wipe σ2 vs = wipe σ vs ∧ tt σ2 H2 fun b H3 =>
        if b = true then te σ2 H3 fun y H4 => ∃ acc, H4 D = some (.lst acc) ∧ acc.length < sizeLine ∧ Nx (upd H4 D (.lst (acc ++ [y]))) else Nx H3)) : tLc wi g tt te vs σ H Q := k
theorem w_for {wi : TI} {tb : TS} {dn : St → Hp → Prop} {dr : VK} {db dc : St → Hp → Prop} (k : wi σ H fun J H1 => ∃ W : Nat → Nat → St → Hp → Prop, (∃ m, W 0 m σ H1) ∧ ∀ i m σ H, W i m σ H →
  (J.stop i H ∧ dn σ H) ∨ (J.go i H ∧ ∃ N : St → Hp → Prop, (∀ σ' H', N σ' H' → ∃ m', m' < m ∧ W (i + 1) m' σ' H') ∧ ∀ x H', J.yld i H x H' → g x σ H' fun σ2 H2 => tb ⟨N, dr, dn, N⟩ σ2 H2)) : tFor wi g tb ⟨dn, dr, db, dc⟩ σ H := k
theorem c_iL {R : It → Hp → Prop} (k : tl σ H fun x H1 => ∃ a, x = .ref a ∧ (∃ xs, SqL K H1 a xs) ∧ R (Itl K a) H1) : iList K tl σ H R := k
theorem c_iT {R : It → Hp → Prop} (k : tl σ H fun x H1 => ∃ a, x = .ref a ∧ (∃ xs, SqT K H1 a xs) ∧ R (Itt K a) H1) : iTup K tl σ H R := k
theorem c_iR1 {ta : TA} {R : It → Hp → Prop} (k : ta σ H fun vs H1 => ∃ j : Int, vs = [.int j] ∧ -(2 ^ 62) ≤ j ∧ j < 2 ^ 62 ∧ R (Itr 0 j.toNat) H1) : iRng1 ta σ H R := k
theorem c_iR2 {ta : TA} {R : It → Hp → Prop} (k : ta σ H fun vs H1 => ∃ i j : Int, vs = [.int i, .int j] ∧ (-(2 ^ 62) ≤ i ∧ i < 2 ^ 62 ∧ -(2 ^ 62) ≤ j ∧ j < 2 ^ 62) ∧ R (Itr i (j - i).toNat) H1) : iRng2 ta σ H R := k
theorem c_yes {P : Bool → Hp → Prop} (k : P true H) : tYes σ H P := k
/-! targets, fields, methods of lists -/
theorem g_tup {n : Nat} {t : TGs} {xs : List V} {P : St → Hp → Prop} (h : SqT K H a xs) (hn : xs.length = n) (k : t xs σ H P) : gTup K n t (.ref a) σ H P := ⟨a, xs, rfl, h, hn, k⟩
theorem g_lst {n : Nat} {t : TGs} {xs : List V} {P : St → Hp → Prop} (h : SqL K H a xs) (hn : xs.length = n) (k : t xs σ H P) : gLst K n t (.ref a) σ H P := ⟨a, xs, rfl, h, hn, k⟩
theorem g_cons {t : TG} {u : TGs} {v : V} {r : List V} {P : St → Hp → Prop} (k : t v σ H fun σ' H' => u r σ' H' P) : gCons t u (v :: r) σ H P := ⟨v, r, rfl, k⟩
theorem g_nil {P : St → Hp → Prop} (k : P σ H) : gNil [] σ H P := ⟨rfl, k⟩
theorem c_tfld {f : Str} (k : te σ H fun x H1 => FldO K f x H1 Q) : tFld K te f σ H Q := k
def PutO (K : PySem.W.Frag) (f : Str) (y x : V) (H : Hp) (P : Hp → Prop) : Prop := ∃ a C dx fs, x = .ref a ∧ H a = some (.ins C dx fs) ∧ Cls K C ∧ NoAttr K C f ∧ fs.length < 1000 ∧ P (upd H a (.ins C dx (putF f y fs)))
theorem w_sfld {f : Str} {ta : TE} {dn : St → Hp → Prop} {dr : VK} {db dc : St → Hp → Prop} (k : te σ H fun y H1 => ta σ H1 fun x H2 => PutO K f y x H2 (dn σ)) : sFld K ta te f ⟨dn, dr, db, dc⟩ σ H := k
theorem w_put0 {f : Str} {C dx : Addr} {y : V} {fs fs' : List (Str × V)} {P : Hp → Prop} (hs : Hs B ((a, .ins C dx fs) :: L) H) (hc : Cls K C) (hn : NoAttr K C f) (hl : fs.length < 1000) (e : putF f y fs = fs')
    (k : ∀ H', Hs B ((a, .ins C dx fs') :: L) H' → P H') : PutO K f y (.ref a) H P :=
  ⟨a, C, dx, fs, rfl, hs.get (.head _), hc, hn, hl, by rw [e]; exact k _ hs.u0⟩
theorem w_put1 {q : Addr × HO} {f : Str} {C dx : Addr} {y : V} {fs fs' : List (Str × V)} {P : Hp → Prop} (hs : Hs B (q :: (a, .ins C dx fs) :: L) H) (hc : Cls K C) (hn : NoAttr K C f) (hl : fs.length < 1000) (e : putF f y fs = fs')
    (k : ∀ H', Hs B (q :: (a, .ins C dx fs') :: L) H' → P H') : PutO K f y (.ref a) H P := w_put0 hs.swap hc hn hl e fun H' h => k H' h.swap
theorem w_put2 {q r : Addr × HO} {f : Str} {C dx : Addr} {y : V} {fs fs' : List (Str × V)} {P : Hp → Prop} (hs : Hs B (q :: r :: (a, .ins C dx fs) :: L) H) (hc : Cls K C) (hn : NoAttr K C f) (hl : fs.length < 1000) (e : putF f y fs = fs')
    (k : ∀ H', Hs B (q :: r :: (a, .ins C dx fs') :: L) H' → P H') : PutO K f y (.ref a) H P := w_put0 hs.rot3 hc hn hl e fun H' h => k H' h.unrot3
def AugO (K : PySem.W.Frag) (f : Str) (x : V) (H : Hp) (P : Addr → Addr → V → Prop) : Prop := ∃ a C dx fs v, x = .ref a ∧ H a = some (.ins C dx fs) ∧ Cls K C ∧ NoAttr K C f ∧ fs.lookup f = some v ∧ P a C v
def AputO (f : Str) (a C : Addr) (z : V) (H : Hp) (P : Hp → Prop) : Prop := ∃ dx' fs', H a = some (.ins C dx' fs') ∧ fs'.length < 1000 ∧ P (upd H a (.ins C dx' (putF f z fs')))
theorem w_sfldAug {f : Str} {ta : TE} {rd : V → V → Hp → VK → Prop} {dn : St → Hp → Prop} {dr : VK} {db dc : St → Hp → Prop} (k : ta σ H fun x H1 => AugO K f x H1 fun a C v => te σ H1 fun y H2 => rd v y H2 fun z H3 => AputO f a C z H3 (dn σ)) : sFldAug K ta te rd f ⟨dn, dr, db, dc⟩ σ H := k
theorem c_fldA {f : Str} {C dx : Addr} {fs : List (Str × V)} {v : V} {P : Addr → Addr → V → Prop} (h : H a = some (.ins C dx fs)) (hc : Cls K C) (hn : NoAttr K C f) (hl : fs.lookup f = some v) (k : P a C v) :
    AugO K f (.ref a) H P := ⟨a, C, dx, fs, v, rfl, h, hc, hn, hl, k⟩
theorem c_radd {i j : Int} (k : Q (.int (i + j)) H) : rAdd (.int i) (.int j) H Q := ⟨i, j, rfl, rfl, k⟩
theorem c_rsub {i j : Int} (k : Q (.int (i - j)) H) : rSub (.int i) (.int j) H Q := ⟨i, j, rfl, rfl, k⟩
theorem w_aput0 {f : Str} {C dx : Addr} {z : V} {fs fs' : List (Str × V)} {P : Hp → Prop} (hs : Hs B ((a, .ins C dx fs) :: L) H) (hl : fs.length < 1000) (e : putF f z fs = fs') (k : ∀ H', Hs B ((a, .ins C dx fs') :: L) H' → P H') :
    AputO f a C z H P := ⟨dx, fs, hs.get (.head _), hl, by rw [e]; exact k _ hs.u0⟩
theorem w_aput1 {q : Addr × HO} {f : Str} {C dx : Addr} {z : V} {fs fs' : List (Str × V)} {P : Hp → Prop} (hs : Hs B (q :: (a, .ins C dx fs) :: L) H) (hl : fs.length < 1000) (e : putF f z fs = fs') (k : ∀ H', Hs B (q :: (a, .ins C dx fs') :: L) H' → P H') :
    AputO f a C z H P := w_aput0 hs.swap hl e fun H' h => k H' h.swap
theorem w_aput2 {q r : Addr × HO} {f : Str} {C dx : Addr} {z : V} {fs fs' : List (Str × V)} {P : Hp → Prop} (hs : Hs B (q :: r :: (a, .ins C dx fs) :: L) H) (hl : fs.length < 1000) (e : putF f z fs = fs') (k : ∀ H', Hs B (q :: r :: (a, .ins C dx fs') :: L) H' → P H') :
    AputO f a C z H P := w_aput0 hs.rot3 hl e fun H' h => k H' h.unrot3
theorem c_bm {T : String} {r : V → List V → Hp → VK → Prop} {t : TA} (k : te σ H fun x H1 => tyV K T x H1 ∧ t σ H1 fun xs H2 => r x xs H2 Q) : tBM K T r te t σ H Q := k
theorem c_bm0 {T : String} {r : V → List V → Hp → VK → Prop} (k : te σ H fun x H1 => tyV K T x H1 ∧ r x [] H1 Q) : tBM0 K T r te σ H Q := k
theorem c_tyL {xs : List V} {P : Prop} (h : SqL K H a xs) (k : P) : tyV K "list" (.ref a) H ∧ P := ⟨.inl ⟨rfl, _, h⟩, k⟩
theorem c_app0 {xs : List V} {y : V} (hs : Hs B ((a, .lst xs) :: L) H) (hz : xs.length < sizeLine) (k : ∀ H', Hs B ((a, .lst (xs ++ [y])) :: L) H' → Q .non H') : rAppend (.ref a) [y] H Q := ⟨a, xs, y, rfl, rfl, hs.get (.head _), hz, k _ hs.u0⟩
theorem c_app1 {q : Addr × HO} {xs : List V} {y : V} (hs : Hs B (q :: (a, .lst xs) :: L) H) (hz : xs.length < sizeLine) (k : ∀ H', Hs B (q :: (a, .lst (xs ++ [y])) :: L) H' → Q .non H') : rAppend (.ref a) [y] H Q := c_app0 hs.swap hz fun H' h => k H' h.swap
theorem c_app2 {q r : Addr × HO} {xs : List V} {y : V} (hs : Hs B (q :: r :: (a, .lst xs) :: L) H) (hz : xs.length < sizeLine) (k : ∀ H', Hs B (q :: r :: (a, .lst (xs ++ [y])) :: L) H' → Q .non H') : rAppend (.ref a) [y] H Q := c_app0 hs.rot3 hz fun H' h => k H' h.unrot3
theorem c_sl {r : V → Option Int → Option Int → Hp → VK → Prop} {lo hi : TO} (k : te σ H fun x H1 => lo σ H1 fun l H2 => hi σ H2 fun u H3 => r x l u H3 Q) : tSl r te lo hi σ H Q := k
theorem c_part {P : Option Int → Hp → Prop} (k : te σ H fun x H1 => ∃ i, x = .int i ∧ P (some i) H1) : tPart te σ H P := k
theorem c_nopart {P : Option Int → Hp → Prop} (k : P none H) : tNoPart σ H P := k
theorem c_i {i : Int} {P : Int → Prop} (k : P i) : ∃ j, V.int i = .int j ∧ P j := ⟨i, rfl, k⟩
theorem small5 {n : Nat} (h : n ≤ 100000) : n < sizeLine := Nat.lt_of_le_of_lt h (by decide)
theorem small5' {n : Nat} (h : n ≤ 100000) : n ≤ sizeLine := Nat.le_trans h (by decide)
end
end L2.BP
namespace L2.BP
open PySem PySem.Spec PyProof.Rows
section
variable {f g : Str} {v w y : V} {r r' : List (Str × V)}
theorem look0 : List.lookup f ((f, v) :: r) = some v := by simp [List.lookup]
theorem lookS (h : ¬ f = g) (e : List.lookup f r = some v) : List.lookup f ((g, w) :: r) = some v := by
  have n : (f == g) = false := by simpa using h
  show (match f == g with | true => some w | false => List.lookup f r) = some v
  rw [n]
  exact e
theorem lookN : List.lookup f ([] : List (Str × V)) = none := rfl
theorem lookNS (h : ¬ f = g) (e : List.lookup f r = none) : List.lookup f ((g, w) :: r) = none := by
  have n : (f == g) = false := by simpa using h
  show (match f == g with | true => some w | false => List.lookup f r) = none
  rw [n]
  exact e
theorem put0 : putF f y ((f, v) :: r) = (f, y) :: r := if_pos rfl
theorem putN : putF f y [] = [(f, y)] := rfl
theorem putS (h : ¬ g = f) (e : putF f y r = r') : putF f y ((g, w) :: r) = (g, w) :: r' := by
  show (if g = f then _ else (g, w) :: putF f y r) = _
  rw [if_neg h, e]
end
section
variable {K : PySem.W.Frag} {σ : St} {H B : Hp} {L : Pic} {Q : VK} {sp : Sp} {W : WX} {dvs vs : List V} {C : Addr}
def MkO (C : Addr) (sp : Sp) (vs : List V) (H : Hp) (Q : VK) (E : XK) : Prop := ∀ x dx, H x = none → H dx = none → dx ≠ x → sp (.ref x :: vs) (upd (upd H dx (.own x)) x (.ins C dx [])) (fun v H2 => v = .non ∧ Q (.ref x) H2) E
theorem c_mk {t : TA} (k : t σ H fun vs H1 => MkO C sp (vs ++ dvs) H1 Q fun c d H2 => W c d σ H2) : tMk C sp dvs W t σ H Q := k
theorem c_mkO {E : XK} (hs : Hs B L H) (k : ∀ x dx H', Hs B ((x, .ins C dx []) :: L) H' → sp (.ref x :: vs) H' (fun v H2 => v = .non ∧ Q (.ref x) H2) E) : MkO C sp vs H Q E := fun x dx hx hdx ne => by
  have h1 := hs.new (o := HO.own x) hdx
  have h2 : (upd H dx (.own x)) x = none := by rw [upd_ne (Ne.symm ne)]; exact hx
  exact k x dx _ (h1.new h2).swap.drop
/-- drop what stands second, third -/
theorem Hs.drop1 {a b : Addr × HO} (h : Hs B (a :: b :: L) H) : Hs B (a :: L) H := h.swap.drop
theorem Hs.drop2 {a b c : Addr × HO} (h : Hs B (a :: b :: c :: L) H) : Hs B (a :: b :: L) H := h.rot3.drop
end
end L2.BP
namespace L2.BP
open PySem PySem.Spec PyProof.Rows
/-! ### walks that hand out pairs; walks of tuples -/
section
variable {α : Type} {K : PySem.W.Frag} {a : Addr} {g : TG} {tb : TS} {dn : St → Hp → Prop} {dr : VK} {db dc : St → Hp → Prop} {σ : St} {H B : Hp} {L : Pic}
/-- what a for asks of its iterator -/
def ForO (J : It) (g : TG) (tb : TS) (dn : St → Hp → Prop) (dr : VK) (σ : St) (H : Hp) : Prop := ∃ W : Nat → Nat → St → Hp → Prop, (∃ m, W 0 m σ H) ∧ ∀ i m σ H, W i m σ H →
  (J.stop i H ∧ dn σ H) ∨ (J.go i H ∧ ∃ N : St → Hp → Prop, (∀ σ' H', N σ' H' → ∃ m', m' < m ∧ W (i + 1) m' σ' H') ∧ ∀ x H', J.yld i H x H' → g x σ H' fun σ2 H2 => tb ⟨N, dr, dn, N⟩ σ2 H2)
theorem get_map {f : α → V} {l : List α} {i : Nat} {x : V} (h : (l.map f)[i]? = some x) : ∃ y, l[i]? = some y ∧ x = f y := by
  rw [List.getElem?_map] at h
  cases e : l[i]? with
  | none => rw [e] at h; cases h
  | some y => rw [e] at h; exact ⟨y, rfl, (Option.some.inj h).symm⟩
theorem w_forE (f : α → V) (l : List α) (I : List α → St → Pic → Hp → Prop) (hs : Hs B L H) (h0 : I [] σ L B) (hq : ∀ pre post σ' L' B' H', l = pre ++ post → I pre σ' L' B' → Hs B' L' H' → SqL K H' a (l.map f))
    (turn : ∀ pre x post σ' L' B' T H', l = pre ++ x :: post → I pre σ' L' B' → Hs B' ((T, .tup [.int ((pre.length : Nat) : Int), f x]) :: L') H' → g (.ref T) σ' H' fun σ2 H2 => tb ⟨NxI I (pre ++ [x]), dr, dn, NxI I (pre ++ [x])⟩ σ2 H2)
    (fin : ∀ σ' L' B' H', I l σ' L' B' → Hs B' L' H' → dn σ' H') : ForO (Ite K a) g tb dn dr σ H := by
  refine ⟨fun i m σ H => m = l.length - i ∧ i ≤ l.length ∧ NxI I (l.take i) σ H, ⟨l.length, by simp, Nat.zero_le _, L, B, by simpa using h0, hs⟩, ?_⟩
  rintro i m σ' H' ⟨rfl, hi, L', B', q, h⟩
  have z := hq (l.take i) (l.drop i) σ' L' B' H' (List.take_append_drop i l).symm q h
  by_cases hlt : i < l.length
  · refine .inr ⟨⟨l.map f, f l[i], z, by simp [hlt]⟩, NxI I (l.take (i + 1)), fun σ2 H2 p => ⟨_, by omega, rfl, hlt, p⟩, ?_⟩
    rintro v H2 ⟨T, x, rfl, hT, rfl, hx⟩
    obtain ⟨y, e1, rfl⟩ := get_map (hx _ z)
    obtain ⟨e2, e3⟩ := take_split e1
    have el : (l.take i).length = i := by rw [List.length_take]; omega
    have w := turn _ y _ σ' L' B' T _ e2 q (by rw [el]; exact h.new hT)
    rw [e3]
    exact w
  · have e : i = l.length := by omega
    subst e
    exact .inl ⟨⟨_, z, by simp⟩, fin _ _ _ _ (by simpa using q) h⟩
/-- over a tuple -/
theorem w_forT (xs : List V) (I : List V → St → Pic → Hp → Prop) (hs : Hs B L H) (h0 : I [] σ L B) (hq : ∀ pre post σ' L' B' H', xs = pre ++ post → I pre σ' L' B' → Hs B' L' H' → SqT K H' a xs)
    (turn : ∀ pre x post σ' L' B' H', xs = pre ++ x :: post → I pre σ' L' B' → Hs B' L' H' → g x σ' H' fun σ2 H2 => tb ⟨NxI I (pre ++ [x]), dr, dn, NxI I (pre ++ [x])⟩ σ2 H2)
    (fin : ∀ σ' L' B' H', I xs σ' L' B' → Hs B' L' H' → dn σ' H') :
    ∃ b, V.ref a = .ref b ∧ (∃ xs, SqT K H b xs) ∧ ForO (Itt K b) g tb dn dr σ H := by
  refine ⟨a, rfl, ⟨_, hq [] xs σ L B H rfl h0 hs⟩, ?_⟩
  refine L2.for_tup (D := { nx := dn, rt := dr }) (K := K) (a := a) (xs := xs) (fun i => NxI I (xs.take i)) ⟨L, B, by simpa using h0, hs⟩ (fun i σ' H' _ ⟨L', B', q, h⟩ => hq (xs.take i) (xs.drop i) σ' L' B' H' (List.take_append_drop i xs).symm q h) (fun i x σ' H' hx ⟨L', B', q, h⟩ => ?_) fun σ' H' ⟨L', B', q, h⟩ => fin _ _ _ _ (by simpa using q) h
  obtain ⟨e1, e2⟩ := take_split hx
  have w := turn _ x _ σ' L' B' H' e1 q h
  rw [e2]
  exact w
/-- over two lists -/
theorem w_forZ {β : Type} {b : Addr} (f : α → V) (f2 : β → V) (l : List α) (l2 : List β) (hl : l.length = l2.length) (I : Nat → St → Pic → Hp → Prop) (hs : Hs B L H) (h0 : I 0 σ L B)
    (hq : ∀ i σ' L' B' H', I i σ' L' B' → Hs B' L' H' → SqL K H' a (l.map f) ∧ SqL K H' b (l2.map f2))
    (turn : ∀ i x y σ' L' B' T H', l[i]? = some x → l2[i]? = some y → I i σ' L' B' → Hs B' ((T, .tup [f x, f2 y]) :: L') H' → g (.ref T) σ' H' fun σ2 H2 => tb ⟨NxI I (i + 1), dr, dn, NxI I (i + 1)⟩ σ2 H2)
    (fin : ∀ σ' L' B' H', I l.length σ' L' B' → Hs B' L' H' → dn σ' H') : ForO (Itz K a b) g tb dn dr σ H := by
  refine ⟨fun i m σ H => m = l.length - i ∧ i ≤ l.length ∧ NxI I i σ H, ⟨l.length, by simp, Nat.zero_le _, L, B, h0, hs⟩, ?_⟩
  rintro i m σ' H' ⟨rfl, hi, L', B', q, h⟩
  obtain ⟨z1, z2⟩ := hq i σ' L' B' H' q h
  by_cases hlt : i < l.length
  · have hlt2 : i < l2.length := by omega
    refine .inr ⟨⟨l.map f, l2.map f2, f l[i], f2 l2[i], z1, z2, by simp [hlt], by simp [hlt2]⟩, NxI I (i + 1), fun σ2 H2 p => ⟨_, by omega, rfl, hlt, p⟩, ?_⟩
    rintro v H2 ⟨T, x, y, rfl, hT, rfl, hx, hy⟩
    obtain ⟨x', e1, rfl⟩ := get_map (hx _ z1)
    obtain ⟨y', e2, rfl⟩ := get_map (hy _ z2)
    exact turn i x' y' σ' L' B' T _ e1 e2 q (h.new hT)
  · have e : i = l.length := by omega
    subst e
    exact .inl ⟨⟨_, _, z1, z2, by simp⟩, fin _ _ _ _ q h⟩
theorem c_iE {ta : TA} {R : It → Hp → Prop} (k : ta σ H fun vs H1 => ∃ a xs, vs = [.ref a] ∧ SqL K H1 a xs ∧ R (Ite K a) H1) : iEnum K ta σ H R := k
theorem c_iE1 {R : It → Hp → Prop} {xs : List V} (h : SqL K H a xs) (k : R (Ite K a) H) : ∃ b xs, [V.ref a] = [.ref b] ∧ SqL K H b xs ∧ R (Ite K b) H := ⟨a, xs, rfl, h, k⟩
theorem c_iZ {ta : TA} {R : It → Hp → Prop} (k : ta σ H fun vs H1 => ∃ a b xs ys, vs = [.ref a, .ref b] ∧ SqL K H1 a xs ∧ SqL K H1 b ys ∧ R (Itz K a b) H1) : iZip K ta σ H R := k
theorem c_iZ1 {R : It → Hp → Prop} {b : Addr} {xs ys : List V} (h : SqL K H a xs) (h2 : SqL K H b ys) (k : R (Itz K a b) H) : ∃ a' b' xs ys, [V.ref a, V.ref b] = [.ref a', .ref b'] ∧ SqL K H a' xs ∧ SqL K H b' ys ∧ R (Itz K a' b') H := ⟨a, b, xs, ys, rfl, h, h2, k⟩
end
section
variable {α : Type} {K : PySem.W.Frag} {a : Addr} {g : TG} {tt : TT} {te tl : TE} {σ : St} {H B : Hp} {L : Pic} {vs : List Nat}
/-- what a comprehension asks of its iterator -/
def LcO (J : It) (g : TG) (tt : TT) (te : TE) (vs : List Nat) (σ : St) (H : Hp) (P : Addr → Hp → Prop) : Prop := ∀ D, H D = none → ∃ W : Nat → Nat → Hp → Prop, (∃ m, W 0 m (upd H D (.lst []))) ∧ ∀ i m H, W i m H →
  (J.stop i H ∧ P D H) ∨ (J.go i H ∧ ∃ Nx : Hp → Prop, (∀ H', Nx H' → ∃ m', m' < m ∧ W (i + 1) m' H') ∧ ∀ x H', J.yld i H x H' → g x (wipe σ vs) H' fun σ2 H2 => wipe σ2 vs = wipe σ vs ∧ tt σ2 H2 fun b H3 =>
    if b = true then te σ2 H3 fun y H4 => ∃ acc, H4 D = some (.lst acc) ∧ acc.length < sizeLine ∧ Nx (upd H4 D (.lst (acc ++ [y]))) else Nx H3)
theorem c_lcE {P : Addr → Hp → Prop} (f : α → V) (l : List α) (I : List α → List V → Hp → Prop) (hs : Hs B L H) (h0 : I [] [] B) (hq : ∀ B' H', Same B B' → Hs B' L H' → SqL K H' a (l.map f))
    (turn : ∀ pre x post acc B' D T H', l = pre ++ x :: post → I pre acc B' → Same B B' → Hs B' ((T, .tup [.int ((pre.length : Nat) : Int), f x]) :: (D, .lst acc) :: L) H' → g (.ref T) (wipe σ vs) H' fun σ2 H2 => wipe σ2 vs = wipe σ vs ∧ tt σ2 H2 fun b H3 =>
      if b = true then te σ2 H3 fun y H4 => ∃ acc, H4 D = some (.lst acc) ∧ acc.length < sizeLine ∧ LcN I B L D (pre ++ [x]) (upd H4 D (.lst (acc ++ [y]))) else LcN I B L D (pre ++ [x]) H3)
    (fin : ∀ acc B' D H', I l acc B' → Same B B' → Hs B' ((D, .lst acc) :: L) H' → P D H') : LcO (Ite K a) g tt te vs σ H P := by
  intro D hD
  refine ⟨fun i m H' => m = l.length - i ∧ i ≤ l.length ∧ LcN I B L D (l.take i) H', ⟨l.length, by simp, Nat.zero_le _, [], B, by simpa using h0, Same.refl B, hs.new hD⟩, ?_⟩
  rintro i m H' ⟨rfl, hi, acc, B', q, e, h⟩
  have z := hq B' H' e h.drop
  by_cases hlt : i < l.length
  · refine .inr ⟨⟨l.map f, f l[i], z, by simp [hlt]⟩, LcN I B L D (l.take (i + 1)), fun H2 p => ⟨_, by omega, rfl, hlt, p⟩, ?_⟩
    rintro v H2 ⟨T, x, rfl, hT, rfl, hx⟩
    obtain ⟨y, e1, rfl⟩ := get_map (hx _ z)
    obtain ⟨e2, e3⟩ := take_split e1
    have el : (l.take i).length = i := by rw [List.length_take]; omega
    have w := turn _ y _ acc B' D T _ e2 q e (by rw [el]; exact h.new hT)
    rw [e3]
    exact w
  · have e' : i = l.length := by omega
    subst e'
    exact .inl ⟨⟨_, z, by simp⟩, fin acc B' D H' (by simpa using q) e h⟩
end
/-! ### lists of tuples -/
section
variable {K : PySem.W.Frag} {H H' : Hp}
/-- each of these values is a tuple of those items -/
inductive Tups (K : PySem.W.Frag) (H : Hp) : List V → List (List V) → Prop where
  | nil : Tups K H [] []
  | cons {a : Addr} {xs : List V} {vs : List V} {r : List (List V)} : SqT K H a xs → Tups K H vs r → Tups K H (V.ref a :: vs) (xs :: r)
theorem Tups.same (e : Same H H') : ∀ {vs : List V} {ps : List (List V)}, Tups K H vs ps → Tups K H' vs ps
  | _, _, .nil => .nil
  | _, _, .cons h t => .cons (same_sqt e h) (Tups.same e t)
theorem Tups.length : ∀ {vs : List V} {ps : List (List V)}, Tups K H vs ps → vs.length = ps.length
  | _, _, .nil => rfl
  | _, _, .cons _ t => congrArg (· + 1) t.length
theorem Tups.snoc {a : Addr} {xs : List V} : ∀ {vs : List V} {ps : List (List V)}, Tups K H vs ps → SqT K H a xs → Tups K H (vs ++ [.ref a]) (ps ++ [xs])
  | _, _, .nil, h => .cons h .nil
  | _, _, .cons z t, h => .cons z (t.snoc h)
theorem Tups.get : ∀ {vs : List V} {ps : List (List V)} {i : Nat} {xs : List V}, Tups K H vs ps → ps[i]? = some xs → ∃ a, vs[i]? = some (.ref a) ∧ SqT K H a xs
  | _, _, 0, _, .cons h _, e => by cases e; exact ⟨_, rfl, h⟩
  | _, _, i + 1, _, .cons _ t, e => t.get (i := i) e
theorem Tups.split {x : V} {post : List V} : ∀ {pre : List V} {ps : List (List V)}, Tups K H (pre ++ x :: post) ps → ∃ a p1 xs p2, x = .ref a ∧ ps = p1 ++ xs :: p2 ∧ p1.length = pre.length ∧ SqT K H a xs
  | [], ps, h => by
    cases (show Tups K H (x :: post) ps from h) with
    | cons hh t => exact ⟨_, [], _, _, rfl, rfl, rfl, hh⟩
  | y :: pre, ps, h => by
    cases (show Tups K H (y :: (pre ++ x :: post)) ps from h) with
    | cons hh t =>
      obtain ⟨a, p1, xs, p2, e1, e2, e3, e4⟩ := Tups.split t
      exact ⟨a, _ :: p1, xs, p2, e1, by rw [e2]; rfl, by simp [e3], e4⟩
end
end L2.BP
namespace L2.BP
open PySem PySem.Spec PyProof.Rows
section
variable {σ : St} {H B : Hp} {L : Pic} {K : PySem.W.Frag} {dn : St → Hp → Prop} {dr : VK} {db dc : St → Hp → Prop} {Q : VK} {tr : TA} {te to_ ti_ : TE} {a b : Addr} {xs ys : List V} {x v w o i : V}
theorem w_break (k : db σ H) : tBreak ⟨dn, dr, db, dc⟩ σ H := k
theorem w_cont (k : dc σ H) : tCont ⟨dn, dr, db, dc⟩ σ H := k
theorem w_retN (k : dr .non H) : tRetN ⟨dn, dr, db, dc⟩ σ H := k
def ParO (m n : Nat) (vs : List V) (σ : St) (dn : St → Hp → Prop) (H : Hp) : Prop := ∃ v w, vs = [v, w] ∧ dn ((σ.set m (some v)).set n (some w)) H
theorem w_par {m n : Nat} (k : tr σ H fun vs H1 => ParO m n vs σ dn H1) : tPar m n tr ⟨dn, dr, db, dc⟩ σ H := k
theorem c_parO {m n : Nat} (k : dn ((σ.set m (some v)).set n (some w)) H) : ParO m n [v, w] σ dn H := ⟨v, w, rfl, k⟩
/-! a list longer by another one, in place -/
theorem c_ext0 (hs : Hs B ((a, .lst xs) :: L) H) (hb : H b = some (.lst ys)) (hz : xs.length + ys.length ≤ sizeLine) (k : ∀ H', Hs B ((a, .lst (xs ++ ys)) :: L) H' → Q (.ref a) H') : ipAddU (.ref a) (.ref b) H Q :=
  .inr (.inl ⟨a, b, xs, ys, rfl, rfl, hs.get (.head _), hb, hz, k _ hs.u0⟩)
theorem c_extM0 (hs : Hs B ((a, .lst xs) :: L) H) (hb : H b = some (.lst ys)) (hz : xs.length + ys.length ≤ sizeLine) (k : ∀ H', Hs B ((a, .lst (xs ++ ys)) :: L) H' → Q .non H') : rExtend (.ref a) [.ref b] H Q :=
  ⟨a, b, xs, ys, rfl, rfl, hs.get (.head _), hb, hz, k _ hs.u0⟩
theorem c_clear0 (hs : Hs B ((a, .lst xs) :: L) H) (k : ∀ H', Hs B ((a, .lst []) :: L) H' → Q .non H') : rClear (.ref a) [] H Q := ⟨a, xs, rfl, rfl, hs.get (.head _), k _ hs.u0⟩
theorem c_reverse0 (hs : Hs B ((a, .lst xs) :: L) H) (k : ∀ H', Hs B ((a, .lst xs.reverse) :: L) H' → Q .non H') : rReverse (.ref a) [] H Q := ⟨a, xs, rfl, rfl, hs.get (.head _), k _ hs.u0⟩
/-! slices of tuples, lists turned round -/
theorem c_slT {lo hi : Option Int} (h : Hs B L H) (hq : SqT K H a xs) (hn : ¬ (HT.sIx xs.length 0 lo = 0 ∧ HT.sIx xs.length xs.length hi = xs.length)) (k : ∀ p H', Hs B ((p, .tup (cutV xs lo hi)) :: L) H' → Q (.ref p) H') : rSlK K (.ref a) lo hi H Q :=
  .inr (.inr ⟨a, xs, rfl, hq, hn, fun p hp => k p _ (h.new hp)⟩)
def RevO (K : PySem.W.Frag) (x : V) (H : Hp) (Q : VK) : Prop := ∃ a xs, x = .ref a ∧ SqL K H a xs ∧ ∀ p, H p = none → Q (.ref p) (upd H p (.lst xs.reverse))
theorem c_rev (k : te σ H fun x H1 => RevO K x H1 Q) : tRevL K te σ H Q := k
theorem c_revO (h : Hs B L H) (hq : SqL K H a xs) (k : ∀ p H', Hs B ((p, .lst xs.reverse) :: L) H' → Q (.ref p) H') : RevO K (.ref a) H Q := ⟨a, xs, rfl, hq, fun p hp => k p _ (h.new hp)⟩
/-! an item written -/
def SetO (o i v : V) (H : Hp) (P : Hp → Prop) : Prop := rSetL o i v H P
theorem w_augS {K : PySem.W.Frag} {to ti te : TE} {tip : TIp} {dn db dc : St → Hp → Prop} {dr : VK} {σ : St} {H : Hp} (k : to σ H fun o H1 => ti σ H1 fun i H2 => rIxL K o i H2 fun x H3 => te σ H3 fun y H4 => tip x y H4 fun z H5 => SetO o i z H5 fun H6 => dn σ H6) : tAugS to ti te (rIxL K) tip rSetL ⟨dn, dr, db, dc⟩ σ H := k
theorem c_ixLo {K : PySem.W.Frag} {p : Addr} {xs : List V} {i : Int} {v : V} {H : Hp} {Q : VK} (h : SqL K H p xs) (ha : atI xs i = some v) (k : Q v H) : rIxL K (.ref p) (.int i) H Q := ⟨p, xs, i, v, rfl, rfl, h, ha, k⟩
theorem g_sub {P : St → Hp → Prop} (k : to_ σ H fun o H1 => ti_ σ H1 fun i H2 => SetO o i v H2 (P σ)) : gSub to_ ti_ rSetL v σ H P := k
theorem w_set0 {j : Int} {m : Nat} {P : Hp → Prop} (hs : Hs B ((a, .lst xs) :: L) H) (e : j = ((m : Nat) : Int)) (hm : m < xs.length) (k : ∀ H', Hs B ((a, .lst (xs.set m v)) :: L) H' → P H') : SetO (.ref a) (.int j) v H P :=
  ⟨a, xs, j, m, rfl, rfl, hs.get (.head _), by subst e; unfold ixN; rw [if_pos (Int.natCast_nonneg _), if_pos (Int.ofNat_lt.mpr hm), Int.toNat_natCast], k _ hs.u0⟩
theorem w_set1 {q : Addr × HO} {j : Int} {m : Nat} {P : Hp → Prop} (hs : Hs B (q :: (a, .lst xs) :: L) H) (e : j = ((m : Nat) : Int)) (hm : m < xs.length) (k : ∀ H', Hs B (q :: (a, .lst (xs.set m v)) :: L) H' → P H') : SetO (.ref a) (.int j) v H P :=
  w_set0 hs.swap e hm fun H' h => k H' h.swap
theorem c_isiS {z : Str} (k : Q (.bl true) H) : rIsi K [.str z, .ty "str"] H Q := c_isiStr (.str z) k
theorem small6 {n : Nat} (h : n ≤ 200000) : n < sizeLine := Nat.lt_of_le_of_lt h (by decide)
theorem small6' {n : Nat} (h : n ≤ 200000) : n ≤ sizeLine := Nat.le_trans h (by decide)
end
end L2.BP
namespace L2.BP
open PySem PySem.Spec PyProof.Rows
section
variable {K : PySem.W.Frag} {W : WX} {vs : List V} {H : Hp} {Q : VK} {E : XK}
/-! ### == of lists -/
theorem eqvAll_ints : ∀ a b : List Int, PyData.eqvAll (a.map PyData.int) (b.map PyData.int) = decide (a = b)
  | [], [] => by simp [PyData.eqvAll]
  | [], y :: r => by simp [PyData.eqvAll]
  | x :: r, [] => by simp [PyData.eqvAll]
  | x :: r, y :: t => by
    rw [List.map_cons, List.map_cons, PyData.eqvAll, eqvAll_ints r t]
    simp only [PyData.eqv]
    by_cases h : x = y <;> by_cases h2 : r = t <;> simp [h, h2]
theorem canAll_ints : ∀ a : List Int, PyData.canLayAll0 (a.map PyData.int) = true
  | [] => by simp [PyData.canLayAll0]
  | x :: r => by
    rw [List.map_cons, PyData.canLayAll0, canAll_ints r]
    simp [PyData.canLay0]
theorem depAll_ints : ∀ a : List Int, PyData.depthAll (a.map PyData.int) ≤ 1
  | [] => by simp [PyData.depthAll]
  | x :: r => by
    have := depAll_ints r
    rw [List.map_cons, PyData.depthAll]
    simp [PyData.depth]
    omega
theorem shaped_ints (a : List Int) : SeqAt.shaped (.list (a.map PyData.int)) = true := by
  unfold SeqAt.shaped
  rw [PyData.canLay0, canAll_ints, PyData.depth]
  have := depAll_ints a
  simp
  omega
theorem c_eqL {p q : Addr} (a b : List Int) (h1 : SqL K H p (a.map V.int)) (h2 : SqL K H q (b.map V.int)) (k : Q (.bl (decide (a = b))) H) : rEqU K (.ref p) (.ref q) H Q := by
  refine c_eqD (.lst h1 (dpa_ints a)) (.lst h2 (dpa_ints b)) (shaped_ints a) (shaped_ints b) ?_
  rw [PyData.eqv, eqvAll_ints]
  exact k
theorem c_neL {p q : Addr} (a b : List Int) (h1 : SqL K H p (a.map V.int)) (h2 : SqL K H q (b.map V.int)) (k : Q (.bl (!decide (a = b))) H) : rNeU K (.ref p) (.ref q) H Q := by
  refine c_neD (.lst h1 (dpa_ints a)) (.lst h2 (dpa_ints b)) (shaped_ints a) (shaped_ints b) ?_
  rw [PyData.eqv, eqvAll_ints]
  exact k
/-! a list of tuples of whole numbers and texts against an equal one -/
def vD : V → PyData
  | .int i => .int i
  | .str x => .str x
  | .bl b => .bool b
  | _ => .none
def flatV : V → Bool
  | .int _ => true
  | .str x => PyData.canLay0 (.str x)
  | .bl _ => true
  | .non => true
  | _ => false
theorem dp_flat : ∀ {v : V}, flatV v = true → Dp K H v (vD v)
  | .int i, _ => .int i
  | .str x, _ => .str x
  | .bl b, _ => .bl b
  | .non, _ => .non
theorem dpa_flat : ∀ {xs : List V}, xs.all flatV = true → DpAll K H xs (xs.map vD)
  | [], _ => .nil
  | x :: r, h => by
    rw [List.all_cons, Bool.and_eq_true] at h
    exact .cons (dp_flat h.1) (dpa_flat h.2)
theorem can_flat : ∀ {v : V}, flatV v = true → (vD v).canLay0 = true ∧ (vD v).depth = 0
  | .int i, _ => ⟨by simp [vD, PyData.canLay0], by simp [vD, PyData.depth]⟩
  | .str x, h => ⟨h, by simp [vD, PyData.depth]⟩
  | .bl b, _ => ⟨by simp [vD, PyData.canLay0], by simp [vD, PyData.depth]⟩
  | .non, _ => ⟨by simp [vD, PyData.canLay0], by simp [vD, PyData.depth]⟩
theorem canAll_flat : ∀ {xs : List V}, xs.all flatV = true → PyData.canLayAll0 (xs.map vD) = true ∧ PyData.depthAll (xs.map vD) ≤ 1
  | [], _ => ⟨by simp [PyData.canLayAll0], by simp [PyData.depthAll]⟩
  | x :: r, h => by
    rw [List.all_cons, Bool.and_eq_true] at h
    obtain ⟨h1, h2⟩ := can_flat h.1
    obtain ⟨h3, h4⟩ := canAll_flat h.2
    rw [List.map_cons, PyData.canLayAll0, PyData.depthAll, h1, h2, h3]
    exact ⟨rfl, by omega⟩
def tupD (xs : List V) : PyData := .tuple (xs.map vD)
theorem canAll_tups : ∀ {xss : List (List V)}, (∀ xs ∈ xss, xs.all flatV = true) → PyData.canLayAll0 (xss.map tupD) = true ∧ PyData.depthAll (xss.map tupD) ≤ 3
  | [], _ => ⟨by simp [PyData.canLayAll0], by simp [PyData.depthAll]⟩
  | x :: r, h => by
    obtain ⟨h1, h2⟩ := canAll_flat (h x (.head _))
    obtain ⟨h3, h4⟩ := canAll_tups fun y hy => h y (.tail _ hy)
    have e1 : (tupD x).canLay0 = true := by
      unfold tupD
      rw [PyData.canLay0, h1]
    have e2 : (tupD x).depth ≤ 2 := by
      unfold tupD
      rw [PyData.depth]
      omega
    rw [List.map_cons, PyData.canLayAll0, PyData.depthAll, h3, e1]
    exact ⟨rfl, by omega⟩
theorem shaped_tups {xss : List (List V)} (h : ∀ xs ∈ xss, xs.all flatV = true) : SeqAt.shaped (.list (xss.map tupD)) = true := by
  obtain ⟨h1, h2⟩ := canAll_tups h
  unfold SeqAt.shaped
  rw [PyData.canLay0, PyData.depth, h1]
  simp
  omega
theorem dpa_tups : ∀ {ws : List V} {xss : List (List V)}, Tups K H ws xss → (∀ xs ∈ xss, xs.all flatV = true) → DpAll K H ws (xss.map tupD)
  | _, _, .nil, _ => .nil
  | _, _, .cons z t, h => .cons (.tup z (dpa_flat (h _ (.head _)))) (dpa_tups t fun y hy => h y (.tail _ hy))
theorem eqv_vD (v : V) : PyData.eqv (vD v) (vD v) = true := by cases v <;> simp [vD, PyData.eqv]
theorem eqvAll_vD : ∀ xs : List V, PyData.eqvAll (xs.map vD) (xs.map vD) = true
  | [] => by simp [PyData.eqvAll]
  | x :: r => by rw [List.map_cons, PyData.eqvAll, eqv_vD, eqvAll_vD r]; rfl
theorem eqvAll_tupD : ∀ xss : List (List V), PyData.eqvAll (xss.map tupD) (xss.map tupD) = true
  | [] => by simp [PyData.eqvAll]
  | x :: r => by
    have e : PyData.eqv (tupD x) (tupD x) = true := by
      unfold tupD
      rw [PyData.eqv, eqvAll_vD]
    rw [List.map_cons, PyData.eqvAll, e, eqvAll_tupD r]
    rfl
theorem eqv_tups {xss : List (List V)} : PyData.eqv (.list (xss.map tupD)) (.list (xss.map tupD)) = true := by rw [PyData.eqv, eqvAll_tupD]
/-- two lists of equal tuples -/
theorem c_neT {p q : Addr} {ws us : List V} {xss : List (List V)} (hf : ∀ xs ∈ xss, xs.all flatV = true) (h1 : SqL K H p ws) (t1 : Tups K H ws xss) (h2 : SqL K H q us) (t2 : Tups K H us xss) (k : Q (.bl false) H) : rNeU K (.ref p) (.ref q) H Q := by
  refine c_neD (.lst h1 (dpa_tups t1 hf)) (.lst h2 (dpa_tups t2 hf)) (shaped_tups hf) (shaped_tups hf) ?_
  rw [eqv_tups]
  exact k
theorem c_eqT {p q : Addr} {ws us : List V} {xss : List (List V)} (hf : ∀ xs ∈ xss, xs.all flatV = true) (h1 : SqL K H p ws) (t1 : Tups K H ws xss) (h2 : SqL K H q us) (t2 : Tups K H us xss) (k : Q (.bl true) H) : rEqU K (.ref p) (.ref q) H Q := by
  refine c_eqD (.lst h1 (dpa_tups t1 hf)) (.lst h2 (dpa_tups t2 hf)) (shaped_tups hf) (shaped_tups hf) ?_
  rw [eqv_tups]
  exact k
end
end L2.BP
namespace L2.BP
open PySem PySem.Spec PyProof.Rows
/-- both ways of an if meet again -/
theorem w_cut {t u : TS} {dn : St → Hp → Prop} {dr : VK} {db dc : St → Hp → Prop} {σ : St} {H : Hp} (Mid : St → Hp → Prop) (h1 : t ⟨Mid, dr, db, dc⟩ σ H) (h2 : ∀ σ' H', Mid σ' H' → u ⟨dn, dr, db, dc⟩ σ' H') : Evl.tCut t u ⟨dn, dr, db, dc⟩ σ H := ⟨Mid, h1, h2⟩
end L2.BP
namespace L2.BP
open PySem PySem.Spec PyProof.Rows
section
variable {X : Cx} {K : PySem.W.Frag} {σ : St} {H B : Hp} {L : Pic} {Q : VK} {te to_ ti_ : TE} {v : V} {P : St → Hp → Prop}
/-! a field as one of several targets -/
def gAttr (K : PySem.W.Frag) (ta : TE) (f : Str) : TG := fun v σ H P => ta σ H fun x H1 => PutO K f v x H1 (P σ)
theorem pg_attr {o : Expr} {f : Str} {pos : Pos} {ta : TE} (ho : PE X o ta) : PG X (.Attribute o f pos) (gAttr X.K ta f) := by
  refine ⟨fun pins s σ H v u Q I r h => ?_⟩
  show wpAny _ _ (do let ov ← holding [u] (eval o X.env); standAt pos.atName; holding [u, ov] (setAttr ov f u); release [u, ov] []) _ _ _
  refine wpAny_bind (wpAny_holding (thn (ho.run pins s σ H _ I h) fun ov s1 ⟨x, H1, I1, r1, a, C, dx, fs, ex, ea, c, n, l, q⟩ => ?_))
  subst ex
  obtain rfl : ov = Value.ref a := r1
  refine wpAny_bind (wpAny_standAt (wpAny_bind (wpAny_holding ?_)))
  exact setattr_ok I1 ea c n l r fun s2 I2 => wpAny_release ⟨σ, _, I2, q⟩
theorem g_attr {f : Str} (k : te σ H fun x H1 => PutO K f v x H1 (P σ)) : gAttr K te f v σ H P := k
/-! how many different ones -/
def LsO (K : PySem.W.Frag) (x : V) (H : Hp) (Q : VK) : Prop := ∃ (l : Addr) (ns : List Int), x = .ref l ∧ SqL K H l (ns.map V.int) ∧ ns.Nodup ∧ ns.length ≤ 4000 ∧ Q (.int (ns.length : Nat)) H
theorem c_lenset (k : te σ H fun x H1 => LsO K x H1 Q) : RZ.tLenSetI K te σ H Q := k
theorem c_lsO {a : Addr} {ns : List Int} (h : SqL K H a (ns.map V.int)) (hn : ns.Nodup) (hl : ns.length ≤ 4000) (k : Q (.int (ns.length : Nat)) H) : LsO K (.ref a) H Q := ⟨a, ns, rfl, h, hn, hl, k⟩
/-! dicts that are written out -/
def DispO (p : Addr) (ps : List (V × V)) (H : Hp) (Q : VK) : Prop := H p = some (.dK []) ∧ ∃ kvs : List (Key × V), ps = kvs.map (fun kv => (kV kv.1, kv.2)) ∧ kvs.length ≤ 15 ∧ Q (.ref p) (upd H p (.dK (mergeK [] kvs)))
theorem c_disp {trs : List (TE × TE)} (hs : Hs B L H) (k : ∀ p H', Hs B ((p, .dK []) :: L) H' → tPairs trs σ H' fun ps H2 => DispO p ps H2 Q) : tDisp trs σ H Q := fun p hp => k p _ (hs.new hp)
theorem c_tpc {tk tv : TE} {r : List (TE × TE)} {R : List (V × V) → Hp → Prop} (k : tk σ H fun x H1 => tv σ H1 fun y H2 => tPairs r σ H2 fun ps H3 => R ((x, y) :: ps) H3) : tPairs ((tk, tv) :: r) σ H R := k
theorem c_tpn {R : List (V × V) → Hp → Prop} (k : R [] H) : tPairs [] σ H R := k
theorem c_dispO {p : Addr} {ps : List (V × V)} (kvs : List (Key × V)) (hs : Hs B ((p, .dK []) :: L) H) (e : ps = kvs.map (fun kv => (kV kv.1, kv.2))) (hl : kvs.length ≤ 15) (k : ∀ H', Hs B ((p, .dK (mergeK [] kvs)) :: L) H' → Q (.ref p) H') : DispO p ps H Q :=
  ⟨hs.get (.head _), kvs, e, hl, k _ hs.u0⟩
def DgO (x y : V) (H : Hp) (Q : VK) : Prop := ∃ a v, x = .ref a ∧ DGet H a y (some v) ∧ Q v H
theorem c_dget {td ty : TE} (k : td σ H fun x H1 => ty σ H1 fun y H2 => DgO x y H2 Q) : tDGet td ty σ H Q := k
theorem c_dgO {a : Addr} {kvs : List (Key × V)} {key : Key} (h : H a = some (.dK kvs)) (e : valV kvs key = some v) (k : Q v H) : DgO (.ref a) (kV key) H Q := ⟨a, v, rfl, by rw [← e]; exact DGet.k h, k⟩
/-! in a list -/
theorem inV_int (i : Int) : ∀ ns : List Int, L2.inV (.int i) (ns.map V.int) = decide (i ∈ ns)
  | [] => by simp [L2.inV]
  | n :: r => by
    have ih := inV_int i r
    have e : L2.eqV (.int n) (.int i) = decide (n = i) := by
      show (n == i) = decide (n = i)
      by_cases h : n = i <;> simp [h]
    unfold L2.inV at ih ⊢
    rw [List.map_cons, List.any_cons, ih, e]
    by_cases h : n = i
    · simp [h]
    · simp [h, Ne.symm h]
theorem flat_ints (ns : List Int) : (ns.map V.int).all L2.flatV = true := by simp [L2.flatV]
theorem c_inL {a : Addr} {i : Int} (ns : List Int) (h : SqL K H a (ns.map V.int)) (k : Q (.bl (decide (i ∈ ns))) H) : rInU K (.int i) (.ref a) H Q :=
  .inl ⟨a, _, rfl, .inl h, rfl, flat_ints ns, by rw [inV_int]; exact k⟩
theorem c_niL {a : Addr} {i : Int} (ns : List Int) (h : SqL K H a (ns.map V.int)) (k : Q (.bl (!decide (i ∈ ns))) H) : rNiU K (.int i) (.ref a) H Q :=
  .inl ⟨a, _, rfl, .inl h, rfl, flat_ints ns, by rw [inV_int]; exact k⟩
theorem c_inT {a : Addr} {i : Int} (ns : List Int) (h : SqT K H a (ns.map V.int)) (k : Q (.bl (decide (i ∈ ns))) H) : rInU K (.int i) (.ref a) H Q :=
  .inl ⟨a, _, rfl, .inr h, rfl, flat_ints ns, by rw [inV_int]; exact k⟩
theorem xor_nat (a b : Nat) : Builtin.bitXor ((a : Nat) : Int) ((b : Nat) : Int) = ((a ^^^ b : Nat) : Int) := by
  rw [Bits.bitXor_pp (Int.natCast_nonneg a) (Int.natCast_nonneg b), Int.toNat_natCast, Int.toNat_natCast]
end
end L2.BP
namespace L2.BP
open PySem PySem.Spec PyProof.Rows
section
variable {K : PySem.W.Frag} {σ : St} {H B : Hp} {L : Pic} {Q : VK} {ta tb : TE} {a : Addr} {xs : List V}
/-- x or y, by what is empty -/
def OrO (K : PySem.W.Frag) (x : V) (tb : TE) (σ : St) (H : Hp) (Q : VK) : Prop := ∃ k, TruV K x H k ∧ if k = true then Q x H else tb σ H Q
theorem c_orT (k : ta σ H fun x H1 => OrO K x tb σ H1 Q) : tOrT K ta tb σ H Q := k
theorem c_orL (h : SqL K H a xs) (k1 : xs ≠ [] → Q (.ref a) H) (k2 : xs = [] → tb σ H Q) : OrO K (.ref a) tb σ H Q := by
  refine ⟨!xs.isEmpty, .inl ⟨xs, h, rfl⟩, ?_⟩
  cases xs with
  | nil => exact iteF (k2 rfl)
  | cons x r => exact iteT (k1 (by simp))
end
end L2.BP
namespace L2.BP
open PySem PySem.Spec PyProof.Rows
/-! ### a class without an __init__ of its own -/
structure Mk0 (K : PySem.W.Frag) (C : Addr) : Prop where
  makes : PySem.W.makesIn K C = true
  init : PySem.W.findIn K (.ref C) "__init__" = some (some (.builtin "object.__init__"))
  kp : PySem.W.keepIn K (.ref C) = true
section
variable {X : Cx} {C : Addr} {x : Str} {p pos : Pos}
/-- C(): a bare object -/
def MadeO (C : Addr) (H : Hp) (Q : VK) : Prop := ∀ x dx, H x = none → H dx = none → dx ≠ x → Q (.ref x) (upd (upd H dx (.own x)) x (.ins C dx []))
def tMade (C : Addr) : TE := fun _ H Q => MadeO C H Q
theorem run_made {pins : List (Addr × Obj)} {σ : St} {H : Hp} {s : Shared} {Q : VK} (M : Mk0 X.K C) (I : Inv X pins σ H s) (h : MadeO C H Q) : wpAny (model X.prog X.w) X.A (call (.ref C) []) (EP X pins σ Q) X.xe s := by
  have q := h (s.heap.objs.size + 1) s.heap.objs.size (I.hok.fresh (Nat.le_succ _)) (I.hok.fresh (Nat.le_refl _)) (Nat.ne_of_lt (Nat.lt_succ_self _))
  have J := Inv.made (C := C) I
  have Y := PySem.W.makes_of (M := model X.prog X.w) I.kIn M.makes
  refine wpAny_call (make_map0 I.kIn M.makes M.init (fun self => PySem.W.Looks.of_pure (PySem.W.oi_bind self)) ?_)
  have e2 : ((s.heap.push PySem.W.emptyDict).push (PySem.W.instObj C s.heap.objs.size)).get? (s.heap.objs.size + 1) = some (PySem.W.instObj C s.heap.objs.size) := by
    have := Heap.get?_push_size (s.heap.push PySem.W.emptyDict) (o := PySem.W.instObj C s.heap.objs.size) rfl
    rwa [Heap.size_push] at this
  have t1 : PySem.W.Looks (model X.prog X.w) ((s.heap.push PySem.W.emptyDict).push (PySem.W.instObj C s.heap.objs.size)) (typeOf (.ref (s.heap.objs.size + 1))) (.ref C) := (PySem.W.Looks.ld e2).andThen .now
  have t2 : PySem.W.Looks (model X.prog X.w) ((s.heap.push PySem.W.emptyDict).push (PySem.W.instObj C s.heap.objs.size)) (isInstance (.ref (s.heap.objs.size + 1)) (.type "object")) true :=
    t1.andThen (Y.top.keeps fun b o e => Heap.get?_push_of_some _ (Heap.get?_push_of_some _ e))
  refine codeAny_call_builtin PySem.W.oi_plain PySem.W.entry_oi (@PySem.W.check_slot (model X.prog X.w) _ _ _ "object.__init__" "object" "__init__" (.ref (s.heap.objs.size + 1)) [] [] _ PySem.W.oi_kind PySem.W.oi_split t2 (PySem.W.oi_args (.ref (s.heap.objs.size + 1))) ?_)
  rw [PySem.W.oi_run]
  exact wpAny_pure (And.intro rfl ⟨V.ref (s.heap.objs.size + 1), _, J, rfl, q⟩)
theorem pe_made (M : Mk0 X.K C) (hg : Gl X x) (hm : X.mg x = some (.ref C)) (hdb : (x == ("__debug__" : Str)) = false := by decide) : PE X (.Call (.Name x p) [] [] pos) (tMade C) := by
  constructor
  intro pins s σ H Q I h
  exact wpAny_Call_Name_kw (ld_glob I hg hm (PySem.W.callWith_K0 I.kIn M.kp (run_made M I h)) hdb)
end
section
variable {K : PySem.W.Frag} {σ : St} {H B : Hp} {L : Pic} {Q : VK} {C : Addr}
theorem c_made (k : MadeO C H Q) : tMade C σ H Q := k
theorem c_madeO (hs : Hs B L H) (k : ∀ x dx H', Hs B ((x, .ins C dx []) :: L) H' → Q (.ref x) H') : MadeO C H Q := fun x dx hx hdx ne => by
  have h1 := hs.new (o := HO.own x) hdx
  have h2 : (upd H dx (.own x)) x = none := by rw [upd_ne (Ne.symm ne)]; exact hx
  exact k x dx _ (h1.new h2).swap.drop
end
end L2.BP
namespace L2.BP
open PySem PySem.Spec PyProof.Rows
/-! ### walks by steps, and of texts -/
section
variable {K : PySem.W.Frag} {a : Addr} {g : TG} {tb : TS} {dn : St → Hp → Prop} {dr : VK} {db dc : St → Hp → Prop} {σ : St} {H B : Hp} {L : Pic}
theorem w_forC {lo c : Int} {n : Nat} (I : Nat → St → Pic → Hp → Prop) (hs : Hs B L H) (h0 : I 0 σ L B)
    (turn : ∀ i σ' L' B' H', i < n → I i σ' L' B' → Hs B' L' H' → g (.int (lo + (i : Nat) * c)) σ' H' fun σ2 H2 => tb ⟨NxI I (i + 1), dr, dn, NxI I (i + 1)⟩ σ2 H2)
    (fin : ∀ σ' L' B' H', I n σ' L' B' → Hs B' L' H' → dn σ' H') : ForO (Itc lo c n) g tb dn dr σ H := by
  refine ⟨fun i m σ H => m = n - i ∧ i ≤ n ∧ NxI I i σ H, ⟨n, by simp, Nat.zero_le _, L, B, h0, hs⟩, ?_⟩
  rintro i m σ' H' ⟨rfl, hi, L', B', q, h⟩
  by_cases hlt : i < n
  · refine .inr ⟨hlt, NxI I (i + 1), fun σ2 H2 p => ⟨_, by omega, rfl, hlt, p⟩, ?_⟩
    rintro v H2 ⟨rfl, rfl⟩
    exact turn i σ' L' B' _ hlt q h
  · have e : i = n := by omega
    subst e
    exact .inl ⟨Nat.le_refl _, fin _ _ _ _ q h⟩
theorem w_forS {x : Str} (I : Nat → St → Pic → Hp → Prop) (hs : Hs B L H) (h0 : I 0 σ L B)
    (turn : ∀ i c σ' L' B' H', x.cps[i]? = some c → I i σ' L' B' → Hs B' L' H' → g (.str ⟨#[c]⟩) σ' H' fun σ2 H2 => tb ⟨NxI I (i + 1), dr, dn, NxI I (i + 1)⟩ σ2 H2)
    (fin : ∀ σ' L' B' H', I x.cps.size σ' L' B' → Hs B' L' H' → dn σ' H') : ForO (Its x) g tb dn dr σ H := by
  refine ⟨fun i m σ H => m = x.cps.size - i ∧ i ≤ x.cps.size ∧ NxI I i σ H, ⟨x.cps.size, by simp, Nat.zero_le _, L, B, h0, hs⟩, ?_⟩
  rintro i m σ' H' ⟨rfl, hi, L', B', q, h⟩
  by_cases hlt : i < x.cps.size
  · refine .inr ⟨hlt, NxI I (i + 1), fun σ2 H2 p => ⟨_, by omega, rfl, hlt, p⟩, ?_⟩
    rintro v H2 ⟨rfl, c, hc, rfl⟩
    exact turn i c σ' L' B' _ hc q h
  · have e : i = x.cps.size := by omega
    subst e
    exact .inl ⟨Nat.le_refl _, fin _ _ _ _ q h⟩
def RcO (R : It → Hp → Prop) (vs : List V) (H : Hp) : Prop := ∃ (i j c : Int) (n : Nat), vs = [.int i, .int j, .int c] ∧ RgC i j c n ∧ R (Itc i c n) H
theorem c_iR3 {ta : TA} {R : It → Hp → Prop} (k : ta σ H fun vs H1 => RcO R vs H1) : iRng3 ta σ H R := k
theorem c_rcO {R : It → Hp → Prop} {i j c : Int} (n : Nat) (h : RgC i j c n) (k : R (Itc i c n) H) : RcO R [.int i, .int j, .int c] H := ⟨i, j, c, n, rfl, h, k⟩
def SsO (R : It → Hp → Prop) (v : V) (H : Hp) : Prop := ∃ x, v = .str x ∧ R (Its x) H
theorem c_iS {te : TE} {R : It → Hp → Prop} (k : te σ H fun v H1 => SsO R v H1) : iStr te σ H R := k
theorem c_ssO {R : It → Hp → Prop} {x : Str} (k : R (Its x) H) : SsO R (.str x) H := ⟨x, rfl, k⟩
end
end L2.BP
namespace L2.BP
open PySem PySem.Spec PyProof.Rows
section
variable {H B : Hp} {L : Pic} {K : PySem.W.Frag} {σ : St} {Q : VK}
theorem Hs.rot4 {a b c d : Addr × HO} (h : Hs B (a :: b :: c :: d :: L) H) : Hs B (d :: a :: b :: c :: L) H := h.perm (List.perm_middle (l₁ := [a, b, c]))
theorem Hs.rot5 {a b c d e : Addr × HO} (h : Hs B (a :: b :: c :: d :: e :: L) H) : Hs B (e :: a :: b :: c :: d :: L) H := h.perm (List.perm_middle (l₁ := [a, b, c, d]))
theorem c_alt1 {t u : TE} (k : t σ H Q) : tOrE t u σ H Q := .inl k
theorem c_alt2 {t u : TE} (k : u σ H Q) : tOrE t u σ H Q := .inr k
theorem c_eqNN (k : Q (.bl true) H) : rEqU K .non .non H Q := .inl ⟨rfl, k⟩
theorem c_neNN (k : Q (.bl false) H) : rNeU K .non .non H Q := .inl ⟨rfl, k⟩
end
end L2.BP
namespace L2.BP
open PySem PySem.Spec PyProof.Rows
/-! ### isinstance of an own class -/
structure InsC (K : PySem.W.Frag) (C : Addr) : Prop where
  ha : PySem.W.findIn K (.ref C) "__class__" = some (some (.builtin "object.__class__"))
  hn : PySem.W.specialIn K (.builtin "object.__class__") "__get__" = some (some (.builtin "getset_descriptor.__get__"))
  htk : PySem.W.takesIn K (.builtin "object.__class__") = some true
  hm : PySem.W.mroIn K C (.type "object") = some true
theorem c_isiC {K : PySem.W.Frag} {H : Hp} {Q : VK} {x C D dx : Addr} {fs : List (Str × V)} {b : Bool} (h : H x = some (.ins C dx fs)) (cl : Cls K C) (i : InsC K C) (e : PySem.W.kitOne K (.ref C) (.ref D) = some b) (k : Q (.bl b) H) : rIsi K [.ref x, .ref D] H Q :=
  c_isi (.base (.ins h cl i.ha i.hn i.htk i.hm)) (.own D) e k
end L2.BP
namespace L2.BP
open PySem PySem.Spec PyProof.Rows
section
variable {K : PySem.W.Frag} {g : TG} {tt : TT} {te : TE} {σ : St} {H B : Hp} {L : Pic} {vs : List Nat}
/-- a comprehension whose turns change own objects -/
def LcV (I : Nat → List V → Pic → Hp → Prop) (D : Addr) (i : Nat) : Hp → Prop := fun H' => ∃ acc L' B', I i acc L' B' ∧ Hs B' ((D, .lst acc) :: L') H'
theorem c_lcRV {P : Addr → Hp → Prop} {lo : Int} {n : Nat} (I : Nat → List V → Pic → Hp → Prop) (hs : Hs B L H) (h0 : I 0 [] L B)
    (turn : ∀ i acc L' B' D H', i < n → I i acc L' B' → Hs B' ((D, .lst acc) :: L') H' → g (.int (lo + i)) (wipe σ vs) H' fun σ2 H2 => wipe σ2 vs = wipe σ vs ∧ tt σ2 H2 fun b H3 =>
      if b = true then te σ2 H3 fun y H4 => ∃ acc, H4 D = some (.lst acc) ∧ acc.length < sizeLine ∧ LcV I D (i + 1) (upd H4 D (.lst (acc ++ [y]))) else LcV I D (i + 1) H3)
    (fin : ∀ acc L' B' D H', I n acc L' B' → Hs B' ((D, .lst acc) :: L') H' → P D H') :
    ∀ D, H D = none → ∃ W : Nat → Nat → Hp → Prop, (∃ m, W 0 m (upd H D (.lst []))) ∧ ∀ i m H, W i m H →
      ((Itr lo n).stop i H ∧ P D H) ∨ ((Itr lo n).go i H ∧ ∃ Nx : Hp → Prop, (∀ H', Nx H' → ∃ m', m' < m ∧ W (i + 1) m' H') ∧ ∀ x H', (Itr lo n).yld i H x H' → g x (wipe σ vs) H' fun σ2 H2 => wipe σ2 vs = wipe σ vs ∧ tt σ2 H2 fun b H3 =>
        if b = true then te σ2 H3 fun y H4 => ∃ acc, H4 D = some (.lst acc) ∧ acc.length < sizeLine ∧ Nx (upd H4 D (.lst (acc ++ [y]))) else Nx H3) :=
  fun D hD => L2.lc_range (LcV I D) ⟨[], L, B, h0, hs.new hD⟩ (fun i H' e ⟨acc, L', B', p, h⟩ => turn i acc L' B' D H' e p h) fun H' ⟨acc, L', B', p, h⟩ => fin acc L' B' D H' p h
theorem c_itemV {D : Addr} {acc : List V} {y : V} {B2 : Hp} {P : List V → Pic → Hp → Prop} (h : Hs B2 ((D, .lst acc) :: L) H) (hz : acc.length < sizeLine) (i : P (acc ++ [y]) L B2) :
    ∃ acc, H D = some (.lst acc) ∧ acc.length < sizeLine ∧ ∃ acc2 L' B', P acc2 L' B' ∧ Hs B' ((D, .lst acc2) :: L') (upd H D (.lst (acc ++ [y]))) :=
  ⟨acc, h.get (.head _), hz, acc ++ [y], L, B2, i, h.u0⟩
end
end L2.BP
namespace L2.BP
open PySem PySem.Spec PyProof.Rows
theorem Tups.snocFix {K : PySem.W.Frag} {B : Hp} {t : Addr} {xs : List V} {acc : List V} {ps : List (List V)} (h : Tups K B acc ps) (hn : B t = none) : Tups K (upd B t (.tup xs)) (acc ++ [.ref t]) (ps ++ [xs]) := (h.same (same_upd hn)).snoc (SqT.of upd_same)
end L2.BP
namespace L2.BP
open PySem PySem.Spec PyProof.Rows
/-! ### try: .. except X as e: suite -/
def tTryAs (K : PySem.W.Frag) (c : Value) (i : Nat) (tb : WX → TS) (ts : Addr → Value → Option Addr → TS) (W : WX) : TS := fun D σ H => tb (wAs K c i ts W D) D σ H
section
variable {K : PySem.W.Frag} {c cls : Value} {d : Option Addr} {i : Nat} {tb : WX → TS} {ts : Addr → Value → Option Addr → TS} {W : WX} {D : Ends} {σ : St} {H B : Hp} {L : Pic} {Q : VK}
theorem ps_tryAs {X : Cx} {x n : Str} {c : Value} {i : Nat} {body suite : List Stmt} {b₀ : Stmt} {np pos pos' : Pos} {tb : WX → TS} {ts : Addr → Value → Option Addr → TS} {Wout : WX} (hs : X.stack = X.env :: X.outer) (hf : X.env.frame = some X.env.locals) (hN : X.N.Nodup) (hi : X.N[i]? = some n) (hln : X.env.kindOf n = some .local) (hc : Names X x c) (tk : Takes X Wout)
    (hb : ∀ (W : WX) (pn : List (Addr × Obj)) (xe : Value → Shared → Prop), Takes (X.tr pn xe) W → PassesOwn (model X.prog X.w) X.A X.env xe → PSs (X.tr pn xe) body (tb W))
    (hsu : ∀ (a : Addr) (oe : Obj) (cls : Value) (d : Option Addr) (pn : List (Addr × Obj)), Zc cls d oe → (∃ vs, oe.data = .fields vs) → PSs (X.suite a ((a, oe) :: pn)) (b₀ :: suite) (ts a cls d)) :
    PS X (.Try body [.ExceptHandler (some (.Name x np)) (some n) (b₀ :: suite) pos'] [] [] pos) (tTryAs X.K c i tb ts Wout) := ps_try_as hs hf hN hi hln hc tk hb hsu
theorem w_tryAs (k : tb (wAs K c i ts W D) D σ H) : tTryAs K c i tb ts W D σ H := k
theorem c_wAs (e : PySem.W.exmOne K cls c = some true) (k : ∀ a, H a = none → ts a cls d { nx := fun σ' H' => D.nx (σ'.set i none) H', rt := D.rt, bk := fun σ' H' => D.bk (σ'.set i none) H', ct := fun σ' H' => D.ct (σ'.set i none) H' } (σ.set i (some (.ref a))) H) : wAs K c i ts W D cls d σ H :=
  ⟨true, e, fun _ => k, fun z => nomatch z⟩
/-- isinstance(e, c), e what the suite holds: an exception of the class cls -/
def rIsX (K : PySem.W.Frag) (a : Addr) (cls : Value) (d : Option Addr) : List V → Hp → VK → Prop := fun xs H Q => ∃ (D : Addr) (c : V) (cv : Value) (b : Bool), cls = .ref D ∧ d = none ∧ ExcC K D ∧ xs = [.ref a, c] ∧ (∀ u, RelV c u → u = cv) ∧ PySem.W.kitOne K (.ref D) cv = some b ∧ Q (.bl b) H
theorem call_isX {X : Cx} {a : Addr} {oe : Obj} {pn : List (Addr × Obj)} {cls : Value} {d : Option Addr} (hz : Zc cls d oe) (hf : ∃ vs, oe.data = .fields vs) : CallR (X.suite a ((a, oe) :: pn)) (.builtin "isinstance") (rIsX X.K a cls d) := by
  intro pins s σ H xs us Q I r h
  obtain ⟨D, c, cv, b, rfl, rfl, C, e1, e2, e3, q⟩ := h
  exact call_isE C hz hf pins s σ H xs us Q I r ⟨c, cv, b, e1, e2, e3, q⟩
theorem c_isXc {a D C : Addr} {b : Bool} (x : ExcC K D) (e : PySem.W.kitOne K (.ref D) (.ref C) = some b) (k : Q (.bl b) H) : rIsX K a (.ref D) none [.ref a, .ref C] H Q := ⟨D, .ref C, .ref C, b, rfl, rfl, x, rfl, fun _ r => r, e, k⟩
theorem c_isXv {a D : Addr} {t : String} {b : Bool} (x : ExcC K D) (e : PySem.W.kitOne K (.ref D) (.type t) = some b) (k : Q (.bl b) H) : rIsX K a (.ref D) none [.ref a, .ty t] H Q := ⟨D, .ty t, .type t, b, rfl, rfl, x, rfl, fun _ r => r, e, k⟩
theorem c_dnewK (hs : Hs B L H) (k : ∀ p H', Hs B ((p, .dK []) :: L) H' → Q (.ref p) H') : tDNewK σ H Q := fun p hp => k p _ (hs.new hp)
theorem c_tupL {p : Addr} {xs : List V} (h : Hs B L H) (hq : SqL K H p xs) (k : ∀ a H', Hs B ((a, .tup xs) :: L) H' → Q (.ref a) H') : rTupleK K [.ref p] H Q := ⟨p, xs, rfl, .inl ⟨hq, fun a ha => k a _ (h.new ha)⟩⟩
end
/-! ### texts: find, upper, join -/
def rFindK : V → List V → Hp → VK → Prop := fun x xs H Q => ∃ a b, x = .str a ∧ xs = [.str b] ∧ Q (.int (Txt.find a b)) H
def rUpperK : V → List V → Hp → VK → Prop := fun x xs H Q => ∃ a, x = .str a ∧ xs = [] ∧ a.length ≤ 5592405 ∧ Q (.str (Txt.upper a)) H
def rJoinK (K : PySem.W.Frag) : V → List V → Hp → VK → Prop := fun x xs H Q => ∃ a p, ∃ ys : List Str, x = .str a ∧ xs = [.ref p] ∧ (SqL K H p (ys.map V.str) ∨ SqT K H p (ys.map V.str)) ∧ (ys.map (·.length)).sum + ys.length * a.length ≤ 16777216 ∧ Q (.str (Txt.join a ys)) H
section
variable {X : Cx} {o e : Expr} {to te : TE} {K : PySem.W.Frag} {σ : St} {H B : Hp} {L : Pic} {Q : VK}
theorem pe_find {apos pos : Pos} (ho : PE X o to) (he : PE X e te) (hs : starEach [e] X.env = [(false, eval e X.env)] := by rfl) (hbase : attributeBase o "find" X.env (eval o X.env) = eval o X.env := by rfl) (hline : (apos.endLine == pos.line) = true := by rfl) :
    PE X (.Call (.Attribute o "find" apos) [e] [] pos) (tM1 rFindK to te) := pe_m1 F.slot_str_find F.type_str_find mt_find ho he hs hbase hline
theorem pe_upperK {apos pos : Pos} (ho : PE X o to) (hbase : attributeBase o "upper" X.env (eval o X.env) = eval o X.env := by rfl) (hline : (apos.endLine == pos.line) = true := by rfl) :
    PE X (.Call (.Attribute o "upper" apos) [] [] pos) (tM0 rUpperK to) := pe_m0 F.slot_str_upper F.type_str_upper mt_upper ho hbase hline
theorem pe_joinK {apos pos : Pos} (ho : PE X o to) (he : PE X e te) (hs : starEach [e] X.env = [(false, eval e X.env)] := by rfl) (hbase : attributeBase o "join" X.env (eval o X.env) = eval o X.env := by rfl) (hline : (apos.endLine == pos.line) = true := by rfl) :
    PE X (.Call (.Attribute o "join" apos) [e] [] pos) (tM1 (rJoinK X.K) to te) := pe_m1 F.slot_str_join F.type_str_join mt_join ho he hs hbase hline
def StrO (x : V) (P : Prop) : Prop := (∃ a, x = .str a) ∧ P
theorem c_m0 {r : V → List V → Hp → VK → Prop} (k : to σ H fun x H1 => StrO x (r x [] H1 Q)) : tM0 r to σ H Q := k
theorem c_m1 {r : V → List V → Hp → VK → Prop} (k : to σ H fun x H1 => StrO x (te σ H1 fun y H2 => r x [y] H2 Q)) : tM1 r to te σ H Q := k
theorem c_strO {a : Str} {P : Prop} (k : P) : StrO (.str a) P := ⟨⟨a, rfl⟩, k⟩
theorem c_find {a b : Str} (k : Q (.int (Txt.find a b)) H) : rFindK (.str a) [.str b] H Q := ⟨a, b, rfl, rfl, k⟩
theorem c_upper {a : Str} (h : a.length ≤ 5592405) (k : Q (.str (Txt.upper a)) H) : rUpperK (.str a) [] H Q := ⟨a, rfl, rfl, h, k⟩
theorem c_join {a : Str} {p : Addr} {ys : List Str} (h : SqL K H p (ys.map V.str)) (hl : (ys.map (·.length)).sum + ys.length * a.length ≤ 16777216) (k : Q (.str (Txt.join a ys)) H) : rJoinK K (.str a) [.ref p] H Q := ⟨a, p, ys, rfl, rfl, .inl h, hl, k⟩
end
/-! ### a comprehension over a text -/
section
variable {K : PySem.W.Frag} {g : TG} {tt : TT} {te : TE} {σ : St} {H B : Hp} {L : Pic} {vs : List Nat} {P : Addr → Hp → Prop}
theorem c_lcS {x : Str} (I : Nat → List V → Hp → Prop) (hs : Hs B L H) (h0 : I 0 [] B)
    (turn : ∀ i c acc B' D H', x.cps[i]? = some c → I i acc B' → Same B B' → Hs B' ((D, .lst acc) :: L) H' → g (.str ⟨#[c]⟩) (wipe σ vs) H' fun σ2 H2 => wipe σ2 vs = wipe σ vs ∧ tt σ2 H2 fun b H3 =>
      if b = true then te σ2 H3 fun y H4 => ∃ acc, H4 D = some (.lst acc) ∧ acc.length < sizeLine ∧ (fun H' => ∃ acc B', I (i + 1) acc B' ∧ Same B B' ∧ Hs B' ((D, .lst acc) :: L) H') (upd H4 D (.lst (acc ++ [y]))) else (fun H' => ∃ acc B', I (i + 1) acc B' ∧ Same B B' ∧ Hs B' ((D, .lst acc) :: L) H') H3)
    (fin : ∀ acc B' D H', I x.cps.size acc B' → Same B B' → Hs B' ((D, .lst acc) :: L) H' → P D H') :
    ∀ D, H D = none → ∃ W : Nat → Nat → Hp → Prop, (∃ m, W 0 m (upd H D (.lst []))) ∧ ∀ i m H, W i m H →
      ((Its x).stop i H ∧ P D H) ∨ ((Its x).go i H ∧ ∃ Nx : Hp → Prop, (∀ H', Nx H' → ∃ m', m' < m ∧ W (i + 1) m' H') ∧ ∀ v H', (Its x).yld i H v H' → g v (wipe σ vs) H' fun σ2 H2 => wipe σ2 vs = wipe σ vs ∧ tt σ2 H2 fun b H3 =>
        if b = true then te σ2 H3 fun y H4 => ∃ acc, H4 D = some (.lst acc) ∧ acc.length < sizeLine ∧ Nx (upd H4 D (.lst (acc ++ [y]))) else Nx H3) := by
  intro D hD
  refine ⟨fun i m H => m = x.cps.size - i ∧ i ≤ x.cps.size ∧ ∃ acc B', I i acc B' ∧ Same B B' ∧ Hs B' ((D, .lst acc) :: L) H, ⟨x.cps.size, by simp, Nat.zero_le _, [], B, h0, Same.refl B, hs.new hD⟩, ?_⟩
  rintro i m H' ⟨rfl, hi, acc, B', q, e, h⟩
  by_cases hlt : i < x.cps.size
  · refine .inr ⟨hlt, fun H' => ∃ acc B', I (i + 1) acc B' ∧ Same B B' ∧ Hs B' ((D, .lst acc) :: L) H', fun H2 p => ⟨_, by omega, rfl, hlt, p⟩, ?_⟩
    rintro v H2 ⟨rfl, c, hc, rfl⟩
    exact turn i c acc B' D _ hc q e h
  · have e2 : i = x.cps.size := by omega
    subst e2
    exact .inl ⟨Nat.le_refl _, fin _ _ _ _ q e h⟩
end
end L2.BP
namespace L2.BP
open PySem PySem.Spec PyProof.Rows
/-! ### the same rules where exceptions bear no context (L2N) -/
/-! ### calls that may let an error out, wished for at the caller's slots -/
section
variable {X : Cx} {k : Nat} {f C : Addr} {fd : FuncData} {ps : List Str} {sp : Sp} {dvs : List V} {ds : List Value} {W : WX} {x m : Str} {p pos apos : Pos} {e o : Expr} {es : List Expr} {ta : TE} {t : TA}
/-- f(e, ..) -/
theorem pe_clN (F : FnOk X.prog X.w X.K X.mg X.base (L2N.CX X.prog X.w) k f fd ps sp) (hr : Room k X.A) (hg : Gl X x) (hm : X.mg x = some (.ref f)) (hk : PySem.W.keepIn X.K (.ref f) = true)
    (hb : Binds X.K fd ps ds) (hd : Vals dvs ds) (tk : L2N.Takes X W) (ha : PA X (e :: es) t) (hdb : (x == ("__debug__" : Str)) = false := by decide)
    (he : starEach (e :: es) X.env = (false, eval e X.env) :: starEach es X.env := by rfl) (hpl : (backTo pos (starEach es X.env)).any (·.1) = false := by rfl) :
    PE X (.Call (.Name x p) (e :: es) [] pos) (tCl sp dvs W t) :=
  pe_callSD (E := WE W) F hr hg hm hk hb hd (fun σ => L2N.passAt tk σ) ha hdb he hpl
theorem pe_cl0N (F : FnOk X.prog X.w X.K X.mg X.base (L2N.CX X.prog X.w) k f fd ps sp) (hr : Room k X.A) (hg : Gl X x) (hm : X.mg x = some (.ref f)) (hk : PySem.W.keepIn X.K (.ref f) = true)
    (hb : Binds X.K fd ps ds) (hd : Vals dvs ds) (tk : L2N.Takes X W) (hdb : (x == ("__debug__" : Str)) = false := by decide) :
    PE X (.Call (.Name x p) [] [] pos) (tCl sp dvs W tNil) := by
  constructor
  intro pins s σ H Q I h
  have go := run_fnSD (E := WE W) (us := []) F hr hb hd (L2N.passAt tk σ) I .nil h
  exact wpAny_Call_Name_kw (ld_glob I hg hm (PySem.W.callWith_K0 I.kIn hk go) hdb)
/-- o.m(e, ..) -/
theorem pe_mtN {pl : Sem Bool} (he : PE X o ta) (c : Cls X.K C) (hm : Meth X.K C m f) (F : FnOk X.prog X.w X.K X.mg X.base (L2N.CX X.prog X.w) k f fd ps sp) (hr : Room k X.A)
    (hb : Binds X.K fd ps ds) (hd : Vals dvs ds) (tk : L2N.Takes X W) (ha : PA X (e :: es) t)
    (hst : starEach (e :: es) X.env = (false, eval e X.env) :: starEach es X.env := by rfl) (hpl : (backTo pos (starEach es X.env)).any (·.1) = false := by rfl)
    (ht : eval (.Call (.Attribute o m apos) (e :: es) [] pos) X.env = (do
      let ov ← eval o X.env; standAt apos.atName
      let (f, first) ← holding [ov] (getMethod ov m pl); callWith pos f first (backTo pos (starEach (e :: es) X.env)) (backToKw pos (keywordEach [] X.env))) := by rfl) :
    PE X (.Call (.Attribute o m apos) (e :: es) [] pos) (tMt C m sp dvs W ta t) := by
  constructor
  intro pins s σ H Q I h
  refine PySem.W.methodCall_KW (pl := pl) (thn (he.run pins s σ H _ I h) ?_) ht
  rintro u s1 ⟨x, H1, I1, rx, a, dx, fs, rfl, ea, l, q⟩
  cases (show u = Value.ref a from rx)
  refine getmeth_ok I1 ea c hm l (PySem.W.callWith_K (first := [.ref a]) (h₀ := X.base) I.ok.mod.kin hm.kp ?_ hst hpl)
  refine thn (ha.run pos pins s1 σ H1 _ I1 q) ?_
  rintro us s2 ⟨vs, H2, I2, r, q2⟩
  exact ⟨I2.kIn, run_fnSD (E := WE W) (us := .ref a :: us) (vs := .ref a :: vs) F hr hb hd (L2N.passAt tk σ) I2 (.cons rfl r) q2⟩
theorem pe_mt0N {pl : Sem Bool} (he : PE X o ta) (c : Cls X.K C) (hm : Meth X.K C m f) (F : FnOk X.prog X.w X.K X.mg X.base (L2N.CX X.prog X.w) k f fd ps sp) (hr : Room k X.A)
    (hb : Binds X.K fd ps ds) (hd : Vals dvs ds) (tk : L2N.Takes X W)
    (ht : eval (.Call (.Attribute o m apos) [] [] pos) X.env = (do
      let ov ← eval o X.env; standAt apos.atName
      let (f, first) ← holding [ov] (getMethod ov m pl); callWith pos f first (backTo pos (starEach [] X.env)) (backToKw pos (keywordEach [] X.env))) := by rfl) :
    PE X (.Call (.Attribute o m apos) [] [] pos) (tMt C m sp dvs W ta tNil) := by
  constructor
  intro pins s σ H Q I h
  refine PySem.W.methodCall_KW (pl := pl) (thn (he.run pins s σ H _ I h) ?_) ht
  rintro u s1 ⟨x, H1, I1, rx, a, dx, fs, rfl, ea, l, q⟩
  cases (show u = Value.ref a from rx)
  refine getmeth_ok I1 ea c hm l ?_
  have go := run_fnSD (E := WE W) (us := [.ref a]) (vs := [.ref a]) F hr hb hd (L2N.passAt tk σ) I1 (.cons rfl .nil) q
  exact PySem.W.callWith_K0 (first := [.ref a]) I1.kIn hm.kp go
/-- C(e, ..) -/
theorem run_mkN {pins : List (Addr × Obj)} {σ : St} {H : Hp} {s : Shared} {Q : VK} {us : List Value} {vs : List V} (M : Mk X.K C f) (F : FnOk X.prog X.w X.K X.mg X.base (L2N.CX X.prog X.w) k f fd ps sp) (hr : Room (k + 1) X.A)
    (hb : Binds X.K fd ps ds) (hd : Vals dvs ds) (tk : L2N.Takes X W) (I : Inv X pins σ H s) (r : Vals vs us)
    (h : ∀ x dx, H x = none → H dx = none → dx ≠ x → sp (.ref x :: (vs ++ dvs)) (upd (upd H dx (.own x)) x (.ins C dx [])) (fun v H2 => v = .non ∧ Q (.ref x) H2) fun c d H2 => W c d σ H2) :
    wpAny (model X.prog X.w) X.A (call (.ref C) us) (EP X pins σ Q) X.xe s := by
  have hq := h (s.heap.objs.size + 1) s.heap.objs.size (I.hok.fresh (Nat.le_succ _)) (I.hok.fresh (Nat.le_refl _)) (Nat.ne_of_lt (Nat.lt_succ_self _))
  have J := Inv.made (C := C) I
  have rr : Vals (V.ref (s.heap.objs.size + 1) :: (vs ++ dvs)) (Value.ref (s.heap.objs.size + 1) :: (us ++ ds)) := .cons rfl (r.append hd)
  have hl : (Value.ref (s.heap.objs.size + 1) :: us ++ ds).length = ps.length := by
    have e1 := rr.length
    rw [F.len _ _ _ _ hq] at e1
    exact e1.symm
  have run := F.run _ X.stack _ _ ⟨Value.ref (s.heap.objs.size + 1) :: us, []⟩ (Value.ref (s.heap.objs.size + 1) :: (us ++ ds)) _ _ _ (hr.make C us []) (J.env0.make C us []) (hb _ (Value.ref (s.heap.objs.size + 1) :: us) J.kIn hl) rr hq
  refine wpAny_call (make_map (f := f) I.kIn M.makes M.init (beq_iff_eq.mp M.fn) (codeAny_mono run ?_))
  intro r s' z
  match r, z with
  | .error e, z => exact (L2N.passAt tk σ) pins _ _ e s' J z
  | .ok (.ret u), z =>
    obtain ⟨v, H', J3, rv, ev, q3⟩ := J.after z
    subst ev
    exact ⟨rv, ⟨V.ref (s.heap.objs.size + 1), H', J3, rfl, q3⟩⟩
theorem pe_mkN (M : Mk X.K C f) (F : FnOk X.prog X.w X.K X.mg X.base (L2N.CX X.prog X.w) k f fd ps sp) (hr : Room (k + 1) X.A) (hg : Gl X x) (hm : X.mg x = some (.ref C))
    (hb : Binds X.K fd ps ds) (hd : Vals dvs ds) (tk : L2N.Takes X W) (ha : PA X (e :: es) t) (hdb : (x == ("__debug__" : Str)) = false := by decide)
    (he : starEach (e :: es) X.env = (false, eval e X.env) :: starEach es X.env := by rfl) (hpl : (backTo pos (starEach es X.env)).any (·.1) = false := by rfl) :
    PE X (.Call (.Name x p) (e :: es) [] pos) (tMk C sp dvs W t) := by
  constructor
  intro pins s σ H Q I h
  refine wpAny_Call_Name_kw (ld_glob I hg hm (PySem.W.callWith_K (h₀ := X.base) I.ok.mod.kin M.kp ?_ he hpl) hdb)
  refine thn (ha.run pos pins s σ H _ I h) ?_
  rintro us s1 ⟨vs, H1, I1, r, q⟩
  exact ⟨I1.kIn, run_mkN M F hr hb hd tk I1 r q⟩
theorem pe_mk0N (M : Mk X.K C f) (F : FnOk X.prog X.w X.K X.mg X.base (L2N.CX X.prog X.w) k f fd ps sp) (hr : Room (k + 1) X.A) (hg : Gl X x) (hm : X.mg x = some (.ref C))
    (hb : Binds X.K fd ps ds) (hd : Vals dvs ds) (tk : L2N.Takes X W) (hdb : (x == ("__debug__" : Str)) = false := by decide) :
    PE X (.Call (.Name x p) [] [] pos) (tMk C sp dvs W tNil) := by
  constructor
  intro pins s σ H Q I h
  have go := run_mkN (us := []) M F hr hb hd tk I .nil h
  exact wpAny_Call_Name_kw (ld_glob I hg hm (PySem.W.callWith_K0 I.kIn M.kp go) hdb)
end
/-! ### an error raised -/
theorem ps_rzN {X : Cx} {W : WX} {C : Addr} {x m : Str} {j : Nat} {p p2 pos pos2 : Pos} (hc : X.calm = true) (tk : L2N.Takes X W) (q : PySem.W.excIn X.K C He.veBase "ValueError.__new__" = true ∧ PySem.W.keepIn X.K (.ref C) = true ∧ PySem.W.subIn X.K (.ref C) (.type "BaseException") = some true ∧ PySem.W.typeIn X.K (.ref C) = some (.type "type"))
    (gC : X.mg x = some (.ref C)) (hg : Gl X x) (hdb : (x == ("__debug__" : Str)) = false := by decide) :
    PS X (.Raise (some (.Call (.Name x p) [.Constant (.str m) j p2] [] pos)) none pos2) (tRz C W) :=
  L2N.ps_raise hc tk (L2N.pmk_own PySem.F.excBase_ValueError q.1 gC q.2.1 (raises_own q.2.2.1 q.2.2.2) hg hdb)

theorem takes0N {X : Cx} : L2N.Takes X (fun _ _ _ _ => False) := fun _ _ x => by
  obtain ⟨_, _, _, _, _, _, _, _, _, _, _, _, _, _, _, _, z⟩ := x
  exact z.elim
def DOkN (P : Program) (w : World) (K : PySem.W.Frag) (mg : Str → Option Value) (base : Heap) (k : Nat) (f : Addr) (ps : List Str) (dvs : List V) (sp : Sp) : Prop :=
  ∃ (fd : FuncData) (ds : List Value), Vals dvs ds ∧ Binds K fd ps ds ∧ FnOk P w K mg base (L2N.CX P w) k f fd ps sp ∧ PySem.W.keepIn K (.ref f) = true
theorem ps_tryAsN {X : Cx} {x n : Str} {c : Value} {i : Nat} {body suite : List Stmt} {b₀ : Stmt} {np pos pos' : Pos} {tb : WX → TS} {ts : Addr → Value → Option Addr → TS} {Wout : WX} (hs : X.stack = X.env :: X.outer) (hf : X.env.frame = some X.env.locals) (hN : X.N.Nodup) (hi : X.N[i]? = some n) (hln : X.env.kindOf n = some .local) (hc : Names X x c) (tk : L2N.Takes X Wout)
    (hb : ∀ (W : WX) (pn : List (Addr × Obj)) (xe : Value → Shared → Prop), L2N.Takes (X.tr pn xe) W → PassesOwn (model X.prog X.w) X.A X.env xe → PSs (X.tr pn xe) body (tb W))
    (hsu : ∀ (a : Addr) (oe : Obj) (cls : Value) (d : Option Addr) (pn : List (Addr × Obj)), L2N.Zn cls d oe → (∃ vs, oe.data = .fields vs) → PSs (X.suite a ((a, oe) :: pn)) (b₀ :: suite) (ts a cls d)) :
    PS X (.Try body [.ExceptHandler (some (.Name x np)) (some n) (b₀ :: suite) pos'] [] [] pos) (tTryAs X.K c i tb ts Wout) := L2N.ps_try_as hs hf hN hi hln hc tk hb hsu
end L2.BP
namespace L2.BP
open PySem PySem.Spec PyProof.Rows L2H
/-! ### defs that are handed the exception that an except suite holds -/
/-- such a def's promise: where the exception stands, its class, its dict -/
abbrev SpE : Type := Addr → Value → Option Addr → Sp
structure FnE (P : Program) (w : World) (K : PySem.W.Frag) (mg : Str → Option Value) (base : Heap) (CX : CXT) (k : Nat) (f : Addr) (fd : FuncData) (ps : List Str) (sp : SpE) : Prop where
  len : ∀ a c d vs H Q E, sp a c d vs H Q E → vs.length = ps.length
  run : ∀ (A : Around) (outer : List Env) (s : Shared) (H : Hp) (args : Args) (us : List Value) (vs : List V) (Q : VK) (E : XK) (p : Addr × Obj) (cls : Value) (d : Option Addr), RoomH k A → Hot1 A p → L2N.Zn cls d p.2 → PinOk outer H s p → Env0 P w K mg base A outer s H → BindsTo s fd args (ps.zip us) → Vals vs us → sp p.1 cls d vs H Q E →
    codeAny (model P w) A (.call (.ref f) args) (CR CX outer P w H s Q E) s
def flowVal : Flow → Value
  | .ret u => u
  | _ => .none
/-- a body's end, as the caller takes it -/
theorem bodyEnd {P : Program} {w : World} {K : PySem.W.Frag} {mg : Str → Option Value} {base : Heap} {CX : CXT} {N : List Str} {qual : Str} {scope : Scope} {f : Addr} {cd : Value} {A : Around} {outer : List Env} {s s' : Shared} {H : Hp} {Q : VK} {E : XK} {p : Addr × Obj} {fl : Flow}
    (h : SP (cxH CX P w K mg base N qual scope f cd A outer s H E p) [] { nx := fun _ H' => Q .non H', rt := Q } fl s') : CR CX outer P w H s Q E (.ok (.ret (flowVal fl))) s' := by
  cases fl with
  | brk => exact h.elim fun _ h => h.elim fun _ h => h.2.elim
  | cont => exact h.elim fun _ h => h.elim fun _ h => h.2.elim
  | next =>
    obtain ⟨_, H1, J, q⟩ := h
    exact ⟨.non, H1, J.os, J.bare, J.base, J.hok, rfl, q⟩
  | ret u =>
    obtain ⟨v, _, H1, J, rv, q⟩ := h
    exact ⟨v, H1, J.os, J.bare, J.base, J.hok, rv, q⟩

theorem FunD.okE {P : Program} {w : World} {K : PySem.W.Frag} {mg : Str → Option Value} {base : Heap} {x qual : Str} {params : Arguments} {body : List Stmt} {scope : Scope} {dvs : List V} {kws : List (Str × V)} {f : Addr} {fd : FuncData} {CX : CXT} {N ps : List Str} {k : Nat} {sp : SpE} (F : FunD K x qual params body scope dvs kws f fd) (S : FnScope N ps scope) (len : ∀ a c d vs H Q E, sp a c d vs H Q E → vs.length = ps.length)
    (hbody : ∀ (cdv : Value) (A : Around) (outer : List Env) (s : Shared) (H : Hp) (vs : List V) (Q : VK) (E : XK) (p : Addr × Obj) (cls : Value) (d : Option Addr), Hot1 A p → L2N.Zn cls d p.2 → RoomH k (A.deeper (envOfC qual scope s.heap.objs.size f cdv)) → sp p.1 cls d vs H Q E →
      ∃ t, PSs (cxH CX P w K mg base N qual scope f cdv A outer s H E p) body t ∧ t { nx := fun _ H' => Q .non H', rt := Q } (L2.start N vs) H) : FnE P w K mg base CX (k + 1) f fd ps sp where
  len := len
  run := by
    intro A outer s H args us vs Q E p cls d room hot zn pin env binds vals want
    obtain ⟨_, _, _, _, _, _, _, cdv, _, _, e, look, code, _, _⟩ := F.ex
    subst e
    have world := env.mod.kin.keeps fun b o e => (env.bs b o e).1
    have free := env.mod.nolimit.keeps fun b o e => (env.bs b o e).1
    have kinds : ∀ y ∈ ps.zip us, scope.names.lookup y.1 = some .local ∨ (scope.names.lookup y.1 = some .cell ∧ ((cellsFrom (s.heap.objs.size + 1) scope.names []).lookup y.1).isSome = true) := by
      intro y hy
      cases S.par y.1 (List.of_mem_zip (show (y.1, y.2) ∈ ps.zip us from hy)).1 with
      | inl h => exact Or.inl h
      | inr h => exact Or.inr ⟨h, PySem.W.cellsFrom_some _ _ _ (Or.inl h)⟩
    have entered := codeAny_call_function (prog := P) (w := w) (A := A) (R := CR CX outer P w H s Q E) (s := s) (args := args) room.depth (world _ _ look) rfl S.co S.gen rfl (PySem.W.codeRec_of world code)
    apply entered
    apply binds
    apply wpAny_newFunctionEnv_cells S.kind kinds
    rintro env' rfl s1 made
    refine And.intro (free.keeps made.toInCall.keep) (codeAny_func ?_)
    obtain ⟨t, reads, goal⟩ := hbody cdv A outer s H vs Q E p cls d hot zn (room.deeper _) want
    have start : Inv (cxH CX P w K mg base N qual scope f cdv A outer s H E p) [] (L2.start N vs) H s1 := inv_startH S pin env (len _ _ _ _ _ _ _ want) vals made
    exact wpAny_mono (reads.run [] s1 _ _ _ start goal) (fun fl _ h => by
      have z := bodyEnd h
      cases fl <;> exact z) fun _ _ h => h
section
variable {X : Cx} {k : Nat} {f a : Addr} {oe : Obj} {pn : List (Addr × Obj)} {cls : Value} {d : Option Addr} {fd : FuncData} {ps : List Str} {sp : SpE} {x : Str} {q pos : Pos} {e : Expr} {es : List Expr} {t : TA}
theorem hot_of {A : Around} (hz : L2N.Zn cls d oe) (hf : ∃ vs, oe.data = .fields vs) : Hot1 (A.mark (some (.ref a))) (a, oe) :=
  hf.elim fun vs hv => ⟨rfl, vs, hv, hz.2.2 vs hv⟩
/-- f(.., e, ..) in the suite -/
def tClE (a : Addr) (cls : Value) (d : Option Addr) (sp : SpE) (t : TA) : TE := fun σ H Q => t σ H fun vs H1 => sp a cls d vs H1 Q fun _ _ _ => False
theorem c_clE {σ : St} {H : Hp} {Q : VK} (h : t σ H fun vs H1 => sp a cls d vs H1 Q fun _ _ _ => False) : tClE a cls d sp t σ H Q := h
/-- the def called, nothing let out of it -/
theorem run_clE (F : FnE X.prog X.w X.K X.mg X.base (L2N.CX X.prog X.w) k f fd ps sp) (hr : RoomH k X.A) (hz : L2N.Zn cls d oe) (hf : ∃ vs, oe.data = .fields vs) (hb : Binds X.K fd ps []) {pins : List (Addr × Obj)} {σ : St} {s : Shared} {H : Hp} {Q : VK} {us : List Value} {vs : List V}
    (I : Inv (X.suite a ((a, oe) :: pn)) pins σ H s) (r : Vals vs us) (h : sp a cls d vs H Q fun _ _ _ => False) : wpAny (model X.prog X.w) (X.suite a ((a, oe) :: pn)).A (call (.ref f) us) (EP (X.suite a ((a, oe) :: pn)) pins σ Q) (X.suite a ((a, oe) :: pn)).xe s := by
  have many : us.length = ps.length := r.length ▸ F.len _ _ _ _ _ _ _ h
  have bound := hb s us I.kIn (by simpa using many)
  rw [List.append_nil] at bound
  obtain ⟨g1, g2, g3, g4, g5⟩ := I.pin (a, oe) (List.mem_append_left _ (.head _))
  have away : a ∉ frs (X.suite a ((a, oe) :: pn)).stack := fun hm => by
    rcases List.mem_cons.mp (I.stkSub a hm) with z | z
    · exact g3 z
    · exact g4 z
  have ran := F.run (X.suite a ((a, oe) :: pn)).A (X.suite a ((a, oe) :: pn)).stack s H ⟨us, []⟩ us vs Q (fun _ _ _ => False) (a, oe) cls d ⟨hr.dp, hr.un⟩ (hot_of hz hf) hz ⟨g1, g2, away, g5⟩ I.env0 bound r h
  refine wpAny_call (codeAny_mono ran ?_)
  intro res s' got
  match res, got with
  | .error _, got =>
    obtain ⟨_, _, _, _, _, _, _, _, _, _, _, _, z⟩ := got
    exact z.elim
  | .ok (.ret _), got => exact I.after got
theorem pe_clE (F : FnE X.prog X.w X.K X.mg X.base (L2N.CX X.prog X.w) k f fd ps sp) (hr : RoomH k X.A) (hz : L2N.Zn cls d oe) (hf : ∃ vs, oe.data = .fields vs) (hg : Gl (X.suite a ((a, oe) :: pn)) x) (hm : X.mg x = some (.ref f)) (hk : PySem.W.keepIn X.K (.ref f) = true) (hb : Binds X.K fd ps [])
    (ha : PA (X.suite a ((a, oe) :: pn)) (e :: es) t) (hdb : (x == ("__debug__" : Str)) = false := by decide) (he : starEach (e :: es) X.env = (false, eval e X.env) :: starEach es X.env := by rfl) (hpl : (backTo pos (starEach es X.env)).any (·.1) = false := by rfl) :
    PE (X.suite a ((a, oe) :: pn)) (.Call (.Name x q) (e :: es) [] pos) (tClE a cls d sp t) where
  run := fun pins s σ H Q I h => wpAny_Call_Name_kw (ld_glob I hg hm (PySem.W.callWith_K (h₀ := X.base) I.ok.mod.kin hk
    (thn (ha.run pos pins s σ H _ I h) fun _ s1 z => z.elim fun vs z => z.elim fun H1 z => ⟨z.1.kIn, run_clE F hr hz hf hb z.1 z.2.1 z.2.2⟩) he hpl) hdb)
/-- isinstance(e, c) in the def -/
theorem call_isP {X : Cx} {p : Addr × Obj} {cls : Value} {d : Option Addr} (hp : p ∈ X.pn) (hz : Zc cls d p.2) (hf : ∃ vs, p.2.data = .fields vs) : CallR X (.builtin "isinstance") (rIsX X.K p.1 cls d) := by
  rintro pins s σ H xs us Q I r ⟨D, c, cv, b, rfl, rfl, C, rfl, hcv, e, q⟩
  match us, r with
  | [_, _], .cons rfl (.cons rt .nil) =>
    rw [hcv _ rt]
    have there := (I.pin p (List.mem_append_left _ hp)).1
    have J : PySem.W.InstAt s.heap p.1 p.2 D none := by
      obtain ⟨vs, hv⟩ := hf
      obtain ⟨pa, ⟨_, _, _, _⟩⟩ := p
      obtain ⟨h1, h2⟩ := hz
      dsimp only at h1 h2 hv
      subst h1 h2 hv
      exact ⟨there, rfl, rfl, trivial⟩
    exact PySem.W.kia_one (PySem.W.handS_kitx_exc C.hg C.hk C.hs C.hd C.ha C.hn C.ht C.hm) I.kIn J e (fun z => nomatch z) fun tk => ⟨.bl b, H, I.kept (t' := tk) fun _ _ z => z, rfl, q⟩
theorem hot_fields {A : Around} {p : Addr × Obj} (h : Hot1 A p) : ∃ vs, p.2.data = .fields vs := h.2.elim fun vs z => ⟨vs, z.1⟩
end
end L2.BP
namespace L2.BP
open PySem PySem.Spec PyProof.Rows HotX L2H
/-! ### name = [.. for .. in a list ..], where an exception is handled -/
section
variable {prog : Program} {w : World} {A : Around} {E : Value → Shared → Prop} {s : Shared}
/-- a list's iterator at its end: the StopIteration that is made there has the handled one for its context -/
theorem endHot {it l e1 : Addr} {n : Nat} {xs : Array Value} {Q : Option Value → Shared → Prop} (hot : HotAt A e1 s.heap) (ne : it ≠ e1) (at_ : s.heap.IsListIter it l n) (lst : s.heap.IsList l xs) (out : xs[n]? = none)
    (k : ∀ h', (∀ b o, b ≠ it → s.heap.get? b = some o → h'.get? b = some o) → Q none { s with heap := h' }) : wpAny (model prog w) A (pyNext (.ref it)) Q E s := by
  obtain ⟨held, ox, fields, there, data, ctx⟩ := hot
  obtain ⟨oi, geti, _, di⟩ := id at_
  obtain ⟨ol, getl, _, _, dl⟩ := lst
  have kept : ∀ {b : Addr} {o : Obj} {f : Obj → Obj} {u v : Obj}, b ≠ it → s.heap.get? b = some o → (((s.heap.update it f).push u).push v).get? b = some o := by
    intro b o f u v hb e
    apply Heap.get?_push_of_some
    apply Heap.get?_push_of_some
    rw [Heap.get?_update_other _ _ hb.symm]
    exact e
  unfold pyNext
  apply wpAny_bind
  apply wpAny_attempt
  apply wpAny_callSpecial?_slot (name := Str.ofString "__next__") at_.typeIs slot_listiter_next
  refine wpAny_call_entry slot_listiter_next at_.typeIs entry_listiter_next ?_ (args_listiter_next _)
  change wpAny _ _ (field (.ref it) 0 >>= _) _ _ s
  apply wpAny_bind
  refine wpAny_field geti di (x := .ref l) rfl ?_
  change wpAny _ _ (if (Value.ref l == Value.none) = true then _ else _) _ _ s
  rw [if_neg (by exact Bool.false_ne_true)]
  change wpAny _ _ (field (.ref it) 1 >>= _) _ _ s
  apply wpAny_bind
  refine wpAny_field geti di (x := .int n 0) rfl ?_
  change wpAny _ _ (seqItems? (.ref l) >>= _) _ _ s
  apply wpAny_bind
  apply wpAny_seqItems getl dl
  simp only [Int.toNat_natCast, out]
  apply wpAny_bind
  apply wpAny_rule
  apply wpAny_bind
  refine wpAny_setField geti di (by simp) ?_
  change wpAny _ _ (newExc (.type "StopIteration") [] >>= _) _ _ _
  apply wpAny_bind
  simp only [newExc, newTuple]
  apply wpAny_bind
  refine wpAny_newObj_type ?_ (by size_fits)
  apply wpAny_bind (m := firstArgMember _ _)
  refine wpAny_of_eq (a := Value.none) (by first | rfl | (simp only [firstArgMember]; rfl)) ?_
  refine wpAny_newObj_type ?_ (by size_fits)
  refine raiseNew_hot ⟨held, ox, fields, kept ne.symm there, data, ctx⟩ (Nat.ne_of_lt (Heap.lt_size (Heap.get?_push_of_some _ (by rw [Heap.get?_update_other _ _ ne]; exact there)))) (Heap.get?_push_size _ rfl) rfl (by first | (simp; done) | (simp; omega) | (simp only [Array.size_append]; simp; omega)) ?_
  apply wpAny_bind
  refine wpAny_isInstance (T := "StopIteration") (b := true) ⟨_, Heap.get?_update_self _ (Heap.get?_push_size _ rfl) rfl, rfl⟩ isSubtype_stop ?_
  refine wpAny_pure (k _ fun b o hb e => ?_)
  rw [Heap.get?_update_other _ _ (Nat.ne_of_gt (Heap.lt_size (Heap.get?_push_of_some _ (by rw [Heap.get?_update_other _ _ hb.symm]; exact e))))]
  exact kept hb e
/-- a tuple's iterator at its end -/
theorem endTupHot {it l e1 : Addr} {n : Nat} {xs : Array Value} {Q : Option Value → Shared → Prop} (hot : HotAt A e1 s.heap) (ne : it ≠ e1) (at_ : s.heap.IsTupleIter it l n) (lst : s.heap.IsTuple l xs) (out : xs[n]? = none)
    (k : ∀ h', (∀ b o, b ≠ it → s.heap.get? b = some o → h'.get? b = some o) → Q none { s with heap := h' }) : wpAny (model prog w) A (pyNext (.ref it)) Q E s := by
  obtain ⟨held, ox, fields, there, data, ctx⟩ := hot
  obtain ⟨oi, geti, _, di⟩ := id at_
  obtain ⟨ol, getl, _, _, dl⟩ := lst
  have kept : ∀ {b : Addr} {o : Obj} {f : Obj → Obj} {u v : Obj}, b ≠ it → s.heap.get? b = some o → (((s.heap.update it f).push u).push v).get? b = some o := by
    intro b o f u v hb e
    apply Heap.get?_push_of_some
    apply Heap.get?_push_of_some
    rw [Heap.get?_update_other _ _ hb.symm]
    exact e
  unfold pyNext
  apply wpAny_bind
  apply wpAny_attempt
  apply wpAny_callSpecial?_slot (name := Str.ofString "__next__") at_.typeIs F.slot_tuple_iterator_next
  refine wpAny_call_entry F.slot_tuple_iterator_next at_.typeIs F.entry_tuple_iterator_next ?_ (F.args_tuple_iterator_next_1 _)
  change wpAny _ _ (field (.ref it) 0 >>= _) _ _ s
  apply wpAny_bind
  refine wpAny_field geti di (x := .ref l) rfl ?_
  change wpAny _ _ (if (Value.ref l == Value.none) = true then _ else _) _ _ s
  rw [if_neg (by exact Bool.false_ne_true)]
  change wpAny _ _ (field (.ref it) 1 >>= _) _ _ s
  apply wpAny_bind
  refine wpAny_field geti di (x := .int n 0) rfl ?_
  change wpAny _ _ (seqItems? (.ref l) >>= _) _ _ s
  apply wpAny_bind
  apply wpAny_seqItems getl dl
  simp only [Int.toNat_natCast, out]
  apply wpAny_bind
  apply wpAny_rule
  apply wpAny_bind
  refine wpAny_setField geti di (by simp) ?_
  change wpAny _ _ (newExc (.type "StopIteration") [] >>= _) _ _ _
  apply wpAny_bind
  simp only [newExc, newTuple]
  apply wpAny_bind
  refine wpAny_newObj_type ?_ (by size_fits)
  apply wpAny_bind (m := firstArgMember _ _)
  refine wpAny_of_eq (a := Value.none) (by first | rfl | (simp only [firstArgMember]; rfl)) ?_
  refine wpAny_newObj_type ?_ (by size_fits)
  refine raiseNew_hot ⟨held, ox, fields, kept ne.symm there, data, ctx⟩ (Nat.ne_of_lt (Heap.lt_size (Heap.get?_push_of_some _ (by rw [Heap.get?_update_other _ _ ne]; exact there)))) (Heap.get?_push_size _ rfl) rfl (by first | (simp; done) | (simp; omega) | (simp only [Array.size_append]; simp; omega)) ?_
  apply wpAny_bind
  refine wpAny_isInstance (T := "StopIteration") (b := true) ⟨_, Heap.get?_update_self _ (Heap.get?_push_size _ rfl) rfl, rfl⟩ isSubtype_stop ?_
  refine wpAny_pure (k _ fun b o hb e => ?_)
  rw [Heap.get?_update_other _ _ (Nat.ne_of_gt (Heap.lt_size (Heap.get?_push_of_some _ (by rw [Heap.get?_update_other _ _ hb.symm]; exact e))))]
  exact kept hb e
/-- (a, b, ..) = a tuple -/
theorem tupHot {env : Env} {elts : List Expr} {k1 : Nat} {pos : Pos} {t e1 : Addr} {items : Array Value} {Q : Unit → Shared → Prop} (hot : HotAt A e1 s.heap) (ht : s.heap.IsTuple t items) (hn : (assignEach elts env).length = items.size) (hstar : (assignEach elts env).findIdx? (·.1) = none)
    (h : ∀ h', (∀ b o, b ≠ s.heap.objs.size → s.heap.get? b = some o → h'.get? b = some o) → wpAny (model prog w) A (assignInOrder ((assignEach elts env).map (·.2)) items.toList) Q E { s with heap := h' }) : wpAny (model prog w) A (assign (.Tuple elts k1 pos) env (.ref t)) Q E s := by
  have old : t ≠ s.heap.objs.size := by
    obtain ⟨o, e, _⟩ := ht
    exact Nat.ne_of_lt (Heap.lt_size e)
  obtain ⟨held, ox, fields, there, data, ctx⟩ := hot
  have ne : s.heap.objs.size ≠ e1 := Nat.ne_of_gt (Heap.lt_size there)
  rw [arm_assign_Tuple]
  apply wpAny_bind
  apply wpAny_standAt
  unfold unpack
  rw [hn, hstar]
  apply wpAny_bind
  apply wpAny_holding
  unfold unpackItems
  apply wpAny_bind
  unfold notIterableAtAll
  apply wpAny_bind
  apply wpAny_specialOf ht.typeIs F.slot_tuple_iter.lookup
  apply wpAny_pure
  simp only [Bool.false_eq_true, if_false]
  apply wpAny_bind
  apply wpAny_holding
  apply wpAny_pyIter_tuple ht
  apply wpAny_bind
  apply wpAny_holding
  refine wpAny_draw_tuple old items.size 0 _ _ ⟨_, Heap.get?_push_size _ rfl, rfl, rfl⟩ (ht.push _) (by omega) fun h1 at1 but1 => ?_
  rw [List.drop_zero, List.take_of_length_le (by simp), if_neg (by simp)]
  apply wpAny_bind
  apply wpAny_holding
  have keep1 : ∀ b o, b ≠ s.heap.objs.size → s.heap.get? b = some o → h1.get? b = some o := fun b o hb e => but1.extBut b o hb (Heap.get?_push_of_some _ e)
  refine endTupHot (s := { s with heap := h1 }) (e1 := e1) ⟨held, ox, fields, keep1 _ _ ne.symm there, data, ctx⟩ ne at1 ((ht.push _).extBut but1.extBut old) (by simp) fun h2 keep2 => ?_
  simp only [Option.isSome_none, Bool.false_eq_true, if_false]
  exact wpAny_pure (h h2 fun b o hb e => keep2 b o hb (keep1 b o hb e))
end
/-- a target, the handled exception being pinned -/
structure PGH (X : Cx) (p : Addr × Obj) (tg : Expr) (g : TG) : Prop where
  run : ∀ (pins : List (Addr × Obj)) (s : Shared) (σ : St) (H : Hp) (v : V) (u : Value) (Q : St → Hp → Prop), p ∈ X.pn ++ pins → Inv X pins σ H s → RelV v u → g v σ H Q → wpAny (model X.prog X.w) X.A (assign tg X.env u) (fun _ s' => ∃ σ' H', Inv X pins σ' H' s' ∧ Q σ' H') X.xe s
theorem PGH.of {X : Cx} {p : Addr × Obj} {tg : Expr} {g : TG} (h : PG X tg g) : PGH X p tg g := ⟨fun pins s σ H v u Q _ I r k => h.run pins s σ H v u Q I r k⟩
theorem pg_tupH {X : Cx} {p : Addr × Obj} {es : List Expr} {k n : Nat} {pos : Pos} {t : TGs} (hot : Hot1 X.A p) (h : PGs X es t) (hn : (assignEach es X.env).length = n := by rfl) (hst : (assignEach es X.env).findIdx? (·.1) = none := by rfl) : PGH X p (.Tuple es k pos) (gTup X.K n t) where
  run := by
    rintro pins s σ H v u Q hp I r ⟨a, xs, rfl, hq, hl, more⟩
    cases r
    obtain ⟨its, rv, ht, hz⟩ := I.tuple hq
    obtain ⟨hh, v1, e1, c1⟩ := hot
    refine tupHot (e1 := p.1) ⟨hh, p.2, v1, (I.pin p hp).1, e1, c1⟩ (show s.heap.IsTuple a its.toArray from ht) (by simp [hn, ← hl, rv.length]) hst fun h' keep => ?_
    exact h.run pins _ σ H xs _ Q (I.kept (t' := s.toks) fun b o e => keep b o (Nat.ne_of_lt (Heap.lt_size e)) e) (by simpa using rv) more
section
variable {B : Cx} {tg : Expr} {a it : Addr} {pins : List (Addr × Obj)} {s : Shared} {ρ : St} {H : Hp} {E : Value → Shared → Prop} {p : Addr × Obj}
/-- how the loop over the list at a stands, n turns at most to come -/
def HotLp (B : Cx) (p : Addr × Obj) (it a : Addr) (ρ : St) (W : Nat → Nat → Hp → Prop) (n : Nat) (s : Shared) : Prop := ∃ i H, Inv B [p] ρ H s ∧ s.heap.IsListIter it a i ∧ H it = none ∧ W i n H
theorem fpHot (ex : B.ex = [it]) (pn : B.pn = []) (ne : it ≠ p.1) (I : Inv B [p] ρ H s) (free : H it = none) : FpOk B [p] H it := by
  have mem : it ∈ B.ex := by rw [ex]; exact .head _
  obtain ⟨z1, z2⟩ := I.ok.exf it mem
  refine ⟨free, z1, I.ok.exfs it mem, .inl mem, z2, fun q hq => ?_⟩
  rw [pn] at hq
  rw [List.mem_singleton.mp (show q ∈ [p] from hq)]
  exact ne.symm
theorem turnHot {R : Result → Shared → Prop} {NB : Value → Shared → Prop} {elt : Expr} {ifs : List Expr} {σ : St} {vs : List Nat} {D : Addr} {W : Nat → Nat → Hp → Prop} {g : TG} {tt : TT} {te : TE} {P : Hp → Prop} {n : Nat}
    (hot : Hot1 B.A p) (ex : B.ex = [it]) (pn : B.pn = []) (xe : B.xe = fun _ _ => False) (ne : it ≠ p.1) (hρ : ρ = wipe σ vs) (pg : PGH B p tg g) (pt : PTs B ifs tt) (pe : PE B elt te)
    (leave : ∀ s' H', Inv B [p] ρ H' s' → P H' → R (.ok .next) s')
    (turns : ∀ i m H, W i m H → ((Itl B.K a).stop i H ∧ P H) ∨ ((Itl B.K a).go i H ∧ ∃ Nx : Hp → Prop, (∀ H', Nx H' → ∃ m', m' < m ∧ W (i + 1) m' H') ∧ ∀ x H', (Itl B.K a).yld i H x H' → g x (wipe σ vs) H' fun σ2 H2 => wipe σ2 vs = wipe σ vs ∧ tt σ2 H2 fun b H3 =>
      if b = true then te σ2 H3 fun y H4 => ∃ acc, H4 D = some (.lst acc) ∧ acc.length < sizeLine ∧ Nx (upd H4 D (.lst (acc ++ [y]))) else Nx H3))
    (st : HotLp B p it a ρ W n s) :
    wpAny (model B.prog B.w) B.A (pyNext (.ref it)) (fun r s₁ => match r with
      | none => R (.ok .next) s₁
      | some v => wpAny (model B.prog B.w) B.A (letOwnedTupleGo tg (.ref it) v) (fun _ s₁' => wpAny (model B.prog B.w) B.A (assign tg B.env v) (fun _ s₂ =>
          wpAny (model B.prog B.w) B.A (forIn ifs true fun c r => if r = true then do let ok ← isTrue c B.env (eval c B.env); pure (ForInStep.yield ok) else pure (ForInStep.yield r)) (fun ok s₃ =>
            if ok = true then wpAny (model B.prog B.w) B.A (eval elt B.env) (fun x s₄ =>
              wpAny (model B.prog B.w) B.A (call (.builtin "list.append") [.ref D, x]) (fun _ s₅ => ∃ m, m < n ∧ HotLp B p it a ρ W m s₅) NB s₄) NB s₃
            else ∃ m, m < n ∧ HotLp B p it a ρ W m s₃) NB s₂) NB s₁') NB s₁) NB s := by
  obtain ⟨i, H0, I0, li, fr, w0⟩ := st
  have fp := fpHot ex pn ne I0 fr
  obtain ⟨f0, f1, f2, f3, f4, f5⟩ := id fp
  rcases turns i n H0 w0 with ⟨⟨xs, hq, hx⟩, fin⟩ | ⟨⟨xs, x, hq, hx⟩, Nx, down, step⟩
  · obtain ⟨its, rv, q, _⟩ := I0.list hq
    have many := rv.length
    obtain ⟨hh, v1, e1, c1⟩ := hot
    exact endHot (e1 := p.1) ⟨hh, p.2, v1, (I0.pin p (List.mem_append_right _ (.head _))).1, e1, c1⟩ ne li q.isList (by simp; omega) fun h' kept => leave _ H0 (I0.turned (t' := s.toks) (fun b o hb e => kept b o hb e) f0 f1 f3 f4 f5) fin
  · obtain ⟨its, rv, q, _⟩ := I0.list hq
    obtain ⟨u, hu, ru⟩ := rv.get hx
    refine wpAny_pyNext_list_item li q.isList (x := u) (by simpa using hu) fun h1 li1 but => ?_
    obtain ⟨oi, ei, ci, di⟩ := id li1
    have I1 : Inv B [p] ρ H0 { s with heap := h1 } := I0.turned (t' := s.toks) (fun b o hb e => (but.2 b hb).trans e) f0 f1 f3 f4 f5
    refine go_of (s := { s with heap := h1 }) ei ci di (by decide) ?_
    have J1 := I1.pinned (fp := [it]) (fun b hb => by rw [List.mem_singleton.mp hb]; exact fp) fun b hb => by
      rw [List.mem_singleton.mp hb]
      exact ⟨oi, ei, fun v z => by rw [di] at z; cases z⟩
    have err : ∀ {α : Type} {t : Sem α} {Q Q' : α → Shared → Prop} {s' : Shared}, wpAny (model B.prog B.w) B.A t Q B.xe s' → (∀ r s'', Q r s'' → Q' r s'') → wpAny (model B.prog B.w) B.A t Q' NB s' := by
      intro α t Q Q' s' h hQ
      rw [xe] at h
      exact wpAny_mono h hQ fun _ _ z => z.elim
    subst hρ
    have yes : (Itl B.K a).yld i H0 x H0 := ⟨rfl, fun ys hy => by rw [I0.list_inj hy hq]; exact hx⟩
    refine err (pg.run _ _ _ H0 x u _ (List.mem_append_right _ (.head _)) J1 ru (step x H0 yes)) ?_
    rintro - s2 ⟨σ2, H2, I2, same, q2⟩
    refine err (pt.run _ s2 σ2 H2 _ I2 q2) ?_
    rintro b s3 ⟨H3, I3, q3⟩
    have again : ∀ s' H', Inv B ([p] ++ pinsAt [it] h1) σ2 H' s' → Nx H' → ∃ m, m < n ∧ HotLp B p it a (wipe σ vs) W m s' := by
      intro s' H' I' nx
      obtain ⟨m, hm, w'⟩ := down H' nx
      have stays := I'.pin (it, oi) (List.mem_append_right _ (List.mem_append_right _ (mem_pinsAt (.head _) ei)))
      refine ⟨m, hm, i + 1, H', (I'.unpinned (pins := [p])).weak ?_ ?_, li1.at fun o e => ?_, stays.2.1, w'⟩
      · rw [← same, wipe_length]
      · intro j v e
        rw [← same] at e
        exact (wipe_some e).1
      · rw [ei] at e
        cases e
        exact stays.1
    cases b with
    | false => exact again s3 H3 I3 (by simpa using q3)
    | true =>
      refine err (pe.run _ s3 σ2 H3 _ I3 (by simpa using q3)) ?_
      rintro z s4 ⟨y, H4, I4, ry, acc, hD, hz, nx⟩
      exact app_ok (X := B) I4 hD hz ry fun s5 I5 => again s5 _ I5 nx
end
end L2.BP
namespace L2.BP
open PySem PySem.Spec PyProof.Rows HotX L2H
section
variable {X : Cx}
/-- a list's iterator, fresh -/
theorem iterHot {iter : Expr} {tl : TE} (hl : PE X iter tl) {pins : List (Addr × Obj)} {s : Shared} {σ : St} {H : Hp} {R : It → Hp → Prop} (I : Inv X pins σ H s) (h : iList X.K tl σ H R) :
    wpAny (model X.prog X.w) X.A (eval iter X.env) (fun v s1 => wpAny (model X.prog X.w) X.A (pyIter v) (fun v2 s2 => ∃ (it a : Addr) (H' : Hp), v2 = .ref it ∧ Inv X pins σ H' s2 ∧ s2.heap.IsListIter it a 0 ∧ FpOk X pins H' it ∧ R (Itl X.K a) H') X.xe s1) X.xe s := by
  apply thn (hl.run pins s σ H _ I h)
  rintro v s1 ⟨_, H1, I1, rel, a, rfl, ⟨xs, sq⟩, more⟩
  cases rel
  obtain ⟨its, _, q, _⟩ := I1.list sq
  apply wpAny_pyIter_list q.isList
  exact ⟨_, a, H1, rfl, I1.kept (t' := s1.toks) fun b o e => Heap.get?_push_of_some _ e, ⟨_, Heap.get?_push_size _ rfl, rfl, rfl⟩, I1.fpOk (Nat.le_refl _) (I1.hok.fresh (Nat.le_refl _)), more⟩
theorem ps_setHot {i : Nat} {y : Str} {py : Pos} {elt tg iter : Expr} {ifs : List Expr} {scope : Scope} {own : List (Str × Nat)} {pos spos : Pos} {tl : TE} {g : TG} {tt : TT} {te : TE} {p : Addr × Obj} (hot : Hot1 X.A p) (hp : p ∈ X.pn) (hN : X.N.Nodup) (hy : X.N[i]? = some y) (hyl : X.env.scope.names.lookup y = some .local)
    (hsw : swapsWith (.ListComp elt [⟨tg, iter, ifs, 0⟩] scope pos) (some (.Name y py)) spos.line X.env = pure true) (hi : PE X iter tl) (ok : BlkOk X.N X.env.scope scope own)
    (hg : ∀ (s : Shared) (H : Hp) (C : Addr) (cl : List (Str × Addr)) (fp : List Addr), PGH (X.blk s H scope (compEnvC scope cl C X.env) fp) p tg g) (ht : ∀ (s : Shared) (H : Hp) (C : Addr) (cl : List (Str × Addr)) (fp : List Addr), PTs (X.blk s H scope (compEnvC scope cl C X.env) fp) ifs tt)
    (he : ∀ (s : Shared) (H : Hp) (C : Addr) (cl : List (Str × Addr)) (fp : List Addr), PE (X.blk s H scope (compEnvC scope cl C X.env) fp) elt te) (hs : ∀ x, foldedSetIterable iter X.env x = pure x := by intro _; rfl) :
    PS X (.Assign [.Name y py] (.ListComp elt [⟨tg, iter, ifs, 0⟩] scope pos) spos) (tAsg (tLc (iList X.K tl) g tt te (own.map (·.2))) (gName i)) := by
  constructor
  intro pins s σ H D I want
  have want : tLc (iList X.K tl) g tt te (own.map (·.2)) σ H (fun x H1 => gName i x σ H1 D.nx) := want
  have closed : ∀ z ∈ scope.names, z.2 = .free → ∃ c, X.env.cells.lookup z.1 = some c := fun z hz e => (ok.free z hz e).elim (fun k => I.ok.has _ (.inl k)) fun k => I.ok.has _ (.inr k)
  rw [exec_Assign_Name_used _ _ _ _ hsw]
  apply wpAny_bind
  apply wpAny_standAt
  apply wpAny_bind
  change wpAny _ X.A (do let _ ← comprehension (.ListComp elt [⟨tg, iter, ifs, 0⟩] scope pos) scope X.env (firstIterPos [⟨tg, iter, ifs, 0⟩] pos) (newList []) false (eval iter X.env) (some (assign (.Name y py) X.env))) _ _ s
  apply wpAny_bind
  refine thn (Q := fun _ s' => SP X pins D .next s') ?_ fun _ s' done => wpAny_pure (wpAny_pure done)
  refine wpAny_comprehension_free (use := some (assign (.Name y py) X.env)) rfl hs (closure_ok closed) ok.kind (fun z hz e => by rw [ok.uniq z hz, e]) (thn (iterHot hi I want) fun v s1 hv => thn hv ?_)
  rintro v2 s2 ⟨it, a, H2, rfl, I2, li2, fit, make⟩
  obtain ⟨W, ⟨m0, w0⟩, turns⟩ := make s2.heap.objs.size (I2.hok.fresh (Nat.le_refl _))
  have itIn : it < s2.heap.objs.size := by
    obtain ⟨o, e, _⟩ := li2
    exact Heap.lt_size e
  refine wpAny_newObj_type (newEnv_comp ?_) (Nat.zero_le sizeLine)
  -- the new list
  generalize eD : s2.heap.objs.size = L at w0 turns itIn ⊢
  generalize es3 : ({ s2 with heap := s2.heap.push { cls := .type "list", data := .seq ([] : List Value).toArray } } : Shared) = s3
  have grow3 : ∀ b o, s2.heap.get? b = some o → s3.heap.get? b = some o := fun b o e => by
    rw [← es3]
    exact Heap.get?_push_of_some _ e
  have I3 : Inv X pins σ (upd H2 L (.lst [])) s3 := by
    rw [← es3]
    refine I2.laid (t' := s2.toks) (fun b o e => Heap.get?_push_of_some _ e) (Nat.le_of_eq eD) ⟨Nat.zero_le _, [], 0, .nil, ?_⟩
    rw [← eD]
    exact Heap.get?_push_size _ rfl
  have free3 : upd H2 L (.lst []) it = none := by
    rw [upd_ne (Nat.ne_of_lt itIn)]
    exact fit.1
  generalize upd H2 L (.lst []) = H3 at w0 I3 free3
  have itIn3 : it < s3.heap.objs.size := by
    obtain ⟨o, e, _⟩ := li2
    exact Heap.lt_size (grow3 _ _ e)
  have fit3 : FpOk X pins H3 it := ⟨free3, fit.2⟩
  have P3 := I3.pin p (List.mem_append_left _ hp)
  have ne : it ≠ p.1 := fun z => fit.2.2.2.2.2 p (List.mem_append_left _ hp) z.symm
  -- the block
  have I4 := block_start (fp := [it]) I3 ok hN fun b hb => by
    rw [List.mem_singleton.mp hb]
    exact ⟨fit3, itIn3⟩
  have pg := hg s3 H3 s3.heap.objs.size (cellsFrom (s3.heap.objs.size + 1) scope.names (cloFrom X.env.cells scope.names [])) [it]
  have pt := ht s3 H3 s3.heap.objs.size (cellsFrom (s3.heap.objs.size + 1) scope.names (cloFrom X.env.cells scope.names [])) [it]
  have pe := he s3 H3 s3.heap.objs.size (cellsFrom (s3.heap.objs.size + 1) scope.names (cloFrom X.env.cells scope.names [])) [it]
  change codeAny _ _ (.compStart (.ListComp elt [⟨tg, iter, ifs, 0⟩] scope pos) 0 (.ref it) (.ref L) (compEnvC scope (cellsFrom (s3.heap.objs.size + 1) scope.names (cloFrom X.env.cells scope.names [])) s3.heap.objs.size X.env)) (compPost (model X.prog X.w) X.A X.xe (some (assign (.Name y py) X.env)) (fun _ s' => SP X pins D .next s') (.ref L) s3.heap.objs.size) { s3 with heap := pushCells (s3.heap.push { cls := .type "dict", data := .dict #[] }) scope.names }
  generalize ece : compEnvC scope (cellsFrom (s3.heap.objs.size + 1) scope.names (cloFrom X.env.cells scope.names [])) s3.heap.objs.size X.env = ce at I4 pg pt pe ⊢
  have locs : ce.locals = s3.heap.objs.size := by
    subst ece
    rfl
  have grow4 : ∀ b o, s3.heap.get? b = some o → (pushCells (s3.heap.push { cls := .type "dict", data := .dict #[] }) scope.names).get? b = some o := fun b o e => pushCells_keeps _ _ _ _ (Heap.get?_push_of_some _ e)
  have I5 := I4.pins_of (pins' := [p]) fun q hq => by
    rw [List.mem_singleton.mp hq]
    refine ⟨grow4 _ _ P3.1, P3.2.1, ?_, ?_, P3.2.2.2.2⟩
    · change p.1 ≠ ce.locals
      rw [locs]
      exact Nat.ne_of_lt (Heap.lt_size P3.1)
    · intro z
      rcases List.mem_cons.mp (I3.stkSub _ z) with z | z
      · exact P3.2.2.1 z
      · exact P3.2.2.2.1 z
  have li4 : (pushCells (s3.heap.push { cls := .type "dict", data := .dict #[] }) scope.names).IsListIter it a 0 := li2.at fun o e => grow4 _ _ (grow3 _ _ e)
  generalize es4 : ({ s3 with heap := pushCells (s3.heap.push { cls := .type "dict", data := .dict #[] }) scope.names } : Shared) = s4 at I5 ⊢
  have li4 : s4.heap.IsListIter it a 0 := by
    rw [← es4]
    exact li4
  have loop : codeAny (model X.prog X.w) X.A (.compLoop (.ListComp elt [⟨tg, iter, ifs, 0⟩] scope pos) 0 (.ref it) (.ref L) ce) (compPost (model X.prog X.w) X.A X.xe (some (assign (.Name y py) X.env)) (fun _ s' => SP X pins D .next s') (.ref L) s3.heap.objs.size) s4 := by
    refine compLoop_any (HotLp (X.blk s3 H3 scope ce [it]) p it a (wipe σ (own.map (·.2))) W) (fun n s5 st => ?_) m0 ⟨0, H3, I5, li4, free3, w0⟩
    refine turnHot (B := X.blk s3 H3 scope ce [it]) (σ := σ) (vs := own.map (·.2)) hot rfl rfl rfl ne rfl pg pt pe ?_ turns st
    -- behind the last turn: the name is bound
    intro s6 H6 I6 q
    have back : Inv X pins σ H6 s6 := I3.call' (ch := [it]) I6.os I6.base I6.hok I6.bare fun b hb => by
      rw [List.mem_singleton.mp hb]
      exact ⟨fit3.2.2.2.1, fit3.2.1, fit3.2.2.2.2.1, fit3.2.2.2.2.2⟩
    have clear : H6 s3.heap.objs.size = none := by
      have z : H6 ce.locals = none := I6.free
      rw [locs] at z
      exact z
    obtain ⟨m, names, _⟩ := I6.loc
    have names : s6.heap.Ns ce.locals m := names
    rw [locs] at names
    obtain ⟨f0, f1, f2, f3, f4, f5⟩ := I3.fpOk (H' := H6) (Nat.le_refl _) clear
    change wpAny _ _ (assign (.Name y py) X.env (.ref L)) _ _ _
    refine wpAny_assign_Name (store_ok2 (v := V.ref L) back hN hy (.inl hyl) rfl ?_ (.inr hyl))
    rintro s7 I7 ⟨c, but, place⟩
    have apart : s3.heap.objs.size ≠ c := by
      rcases place with z | z
      · rw [z]
        exact f1
      · exact fun e => f4 y c z e.symm
    exact ⟨m, names.sameBut but apart, fun h8 but8 => ⟨_, H6, I7.turned (t' := s7.toks) (fun b o hb e => (but8.2 b hb).trans e) f0 f1 f3 f4 f5, q⟩⟩
  exact codeAny_compStart_list loop (wpAny_pyIter_listiter li4 loop)
end
end L2.BP
namespace L2.BP
open PySem PySem.Spec PyProof.Rows
theorem noneBack {H B : Hp} {p : Addr} (s : Same H B) (h : B p = none) : H p = none := by
  cases e : H p with
  | none => rfl
  | some u =>
    have z := s _ _ e
    rw [h] at z
    cases z
end L2.BP
namespace L2.BP
open PySem PySem.Spec PyProof.Rows HotX L2H
/-! ### defs called in a suite that don't look at the exception -/
theorem FunD.okH {P : Program} {w : World} {K : PySem.W.Frag} {mg : Str → Option Value} {base : Heap} {x qual : Str} {params : Arguments} {body : List Stmt} {scope : Scope} {dvs : List V} {kws : List (Str × V)} {f : Addr} {fd : FuncData} {CX : CXT} {N ps : List Str} {k : Nat} {sp : Sp} (F : FunD K x qual params body scope dvs kws f fd) (S : FnScope N ps scope) (len : ∀ vs H Q E, sp vs H Q E → vs.length = ps.length)
    (hbody : ∀ (cdv : Value) (A : Around) (outer : List Env) (s : Shared) (H : Hp) (vs : List V) (Q : VK) (E : XK) (p : Addr × Obj), Hot1 A p → RoomH k (A.deeper (envOfC qual scope s.heap.objs.size f cdv)) → sp vs H Q E →
      ∃ t, PSs (cxH CX P w K mg base N qual scope f cdv A outer s H E p) body t ∧ t { nx := fun _ H' => Q .non H', rt := Q } (L2.start N vs) H) : FnH P w K mg base CX (k + 1) f fd ps sp := by
  obtain ⟨_, _, _, _, _, _, _, cdv, _, _, e, look, code, _, _⟩ := F.ex
  subst e
  exact fn_ofH look code S len (hbody cdv)
theorem roomMark {k : Nat} {A : Around} {h : Option Value} (r : RoomH k A) : RoomH k (A.mark h) := ⟨r.dp, r.un⟩
theorem pe_clH {Y : Cx} {k : Nat} {f : Addr} {fd : FuncData} {ps : List Str} {sp : Sp} {x : Str} {q pos : Pos} {e : Expr} {es : List Expr} {t : TA} (F : FnH Y.prog Y.w Y.K Y.mg Y.base (L2N.CX Y.prog Y.w) k f fd ps sp) (hr : RoomH k Y.A) (hc : HotC Y) (hg : Gl Y x) (hm : Y.mg x = some (.ref f)) (hk : PySem.W.keepIn Y.K (.ref f) = true) (hb : Binds Y.K fd ps [])
    (ha : PA Y (e :: es) t) (hdb : (x == ("__debug__" : Str)) = false := by decide) (he : starEach (e :: es) Y.env = (false, eval e Y.env) :: starEach es Y.env := by rfl) (hpl : (backTo pos (starEach es Y.env)).any (·.1) = false := by rfl) :
    PE Y (.Call (.Name x q) (e :: es) [] pos) (tCl sp [] WF t) where
  run := fun pins s σ H Q I h => by
    have same : (fun vs H1 => sp (vs ++ []) H1 Q fun c d H2 => WF c d σ H2) = fun vs H1 => sp vs H1 Q (WE WF σ) := by
      funext vs H1
      rw [List.append_nil]
    have h' : t σ H fun vs H1 => sp vs H1 Q (WE WF σ) := same ▸ h
    exact (pe_callH (E := WE WF) F hr hc hg hm hk hb (fun σ => L2N.passAt takes0N σ) ha hdb he hpl).run pins s σ H Q I h'
/-- a list walked there -/
theorem turn_listH {P : Program} {w : World} {K : PySem.W.Frag} {tg : Expr} (a it : Addr) : TurnH P w K tg (Itl K a) [it] it (fun i h => h.IsListIter it a i) where
  mem := (turn_list (P := P) (w := w) (K := K) (tg := tg) a it).mem
  obj := (turn_list (P := P) (w := w) (K := K) (tg := tg) a it).obj
  keep := (turn_list (P := P) (w := w) (K := K) (tg := tg) a it).keep
  self := (turn_list (P := P) (w := w) (K := K) (tg := tg) a it).self
  item := by
    rintro X rfl rfl rfl _ i pins s σ H E I hf li ⟨xs, x, hq, hx⟩
    obtain ⟨its, rv, q, _⟩ := I.list hq
    obtain ⟨u, hu, ru⟩ := rv.get hx
    obtain ⟨f0, f1, f2, f3, f4, f5⟩ := hf it (.head _)
    refine wpAny_pyNext_list_item li q.isList (x := u) (by simpa using hu) fun h1 li1 but => ⟨u, rfl, ?_⟩
    obtain ⟨oi, ei, ci, di⟩ := id li1
    refine go_of (s := { s with heap := h1 }) ei ci di (by decide) ⟨x, H, I.turned (t' := s.toks) (fun b o hb e => (but.2 b hb).trans e) f0 f1 f3 f4 f5, ru, ⟨rfl, fun ys hy => ?_⟩, li1, fun b hb => (hf b hb).1⟩
    rw [I.list_inj hy hq]
    exact hx
  done := by
    rintro X rfl rfl rfl ⟨p, ⟨hh, v1, e1, c1⟩, hp⟩ i pins s σ H E I hf li ⟨xs, hq, hx⟩
    obtain ⟨its, rv, q, _⟩ := I.list hq
    have many := rv.length
    obtain ⟨f0, f1, f2, f3, f4, f5⟩ := hf it (.head _)
    exact endHot (e1 := p.1) ⟨hh, p.2, v1, (I.pin p (List.mem_append_left _ hp)).1, e1, c1⟩ (fun z => f5 p (List.mem_append_left _ hp) z.symm) li q.isList (by simp; omega) fun h' kept => ⟨rfl, I.turned (t' := s.toks) (fun b o hb e => kept b o hb e) f0 f1 f3 f4 f5⟩
theorem pi_listH {X : Cx} {tg l : Expr} {tl : TE} (hl : PE X l tl) : PIH X tg l (iList X.K tl) where
  run := fun pins s σ H R I h => by
    apply thn (hl.run pins s σ H _ I h)
    rintro v s1 ⟨_, H1, I1, rel, a, rfl, ⟨xs, sq⟩, more⟩
    cases rel
    obtain ⟨its, _, q, _⟩ := I1.list sq
    apply wpAny_pyIter_list q.isList
    refine ⟨_, [s1.heap.objs.size], _, _, H1, rfl, I1.kept (t' := s1.toks) fun b o e => Heap.get?_push_of_some _ e, turn_listH a _, ⟨_, Heap.get?_push_size _ rfl, rfl, rfl⟩, fun b hb => ?_, more⟩
    rw [List.mem_singleton.mp hb]
    exact I1.fpOk (Nat.le_refl _) (I1.hok.fresh (Nat.le_refl _))
end L2.BP
namespace L2.BP
open PySem PySem.Spec PyProof.Rows
/-- the first own objects laid to the base, all at once -/
theorem Hs.fixes : ∀ {N L : Pic} {B H : Hp}, Hs B (N ++ L) H → ∃ B', Same B B' ∧ Hs B' L H ∧ ∀ q ∈ N, B' q.1 = some q.2
  | [], _, B, _, h => ⟨B, Same.refl B, h, fun _ z => nomatch z⟩
  | (p, o) :: N, L, B, H, h => by
    obtain ⟨B', s, h', k⟩ := Hs.fixes (N := N) (L := L) (Hs.fix h)
    refine ⟨B', (same_upd (h.nb (.head _))).trans s, h', fun q hq => ?_⟩
    rcases List.mem_cons.mp hq with rfl | hq
    · exact s _ _ upd_same
    · exact k q hq
end L2.BP
namespace L2.BP
open PySem PySem.Spec PyProof.Rows L2H
/-- o.m() where an exception is handled -/
theorem pe_mt0H {Y : Cx} {C f : Addr} {m : Str} {k : Nat} {fd : FuncData} {ps : List Str} {sp : Sp} {o : Expr} {ta : TE} {pos apos : Pos} {pl : Sem Bool} (he : PE Y o ta) (c : Cls Y.K C) (hm : Meth Y.K C m f) (F : FnH Y.prog Y.w Y.K Y.mg Y.base (L2N.CX Y.prog Y.w) k f fd ps sp) (hr : RoomH k Y.A) (hc : HotC Y)
    (hb : Binds Y.K fd ps []) (ht : eval (.Call (.Attribute o m apos) [] [] pos) Y.env = (do
      let ov ← eval o Y.env; standAt apos.atName
      let (f, first) ← holding [ov] (getMethod ov m pl); callWith pos f first (backTo pos (starEach [] Y.env)) (backToKw pos (keywordEach [] Y.env))) := by rfl) :
    PE Y (.Call (.Attribute o m apos) [] [] pos) (tMt C m sp [] WF ta tNil) where
  run := fun pins s σ H Q I h => by
    refine PySem.W.methodCall_KW (pl := pl) (thn (he.run pins s σ H _ I h) ?_) ht
    rintro u s1 ⟨x, H1, I1, rx, a, dx, fs, rfl, ea, l, q⟩
    cases (show u = Value.ref a from rx)
    have go := run_fnH (E := WE WF) (us := [.ref a]) (vs := [.ref a]) F hr hc hb (L2N.passAt takes0N σ) I1 (.cons rfl .nil) q
    exact getmeth_ok I1 ea c hm l (PySem.W.callWith_K0 (first := [.ref a]) I1.kIn hm.kp go)
end L2.BP
namespace L2.BP
open PySem PySem.Spec PyProof.Rows
/-- a key's function that tells a tuple's first item and leaves the heap -/
def KeyFirst (P : Program) (w : World) (K : PySem.W.Frag) (f : Addr) : Prop :=
  ∀ (A : Around) (s : Shared) (p : Addr) (its : Array Value) (i : Int) (t : Tok), K.In s.heap → s.heap.NoLimit → A.depth < recursionLimit → IsTup s.heap p its → its[0]? = some (.int i t) →
    wpAny (model P w) A (call (.ref f) [.ref p]) (PySem.W.KeyPure (.int i) s) (fun _ _ => False) s
/-- the form of such a def's body -/
def firstKeyOf : List Stmt → Option Str
  | [.Return (some (.Subscript (.Name v _) (.Constant (.int 0) _ _) _)) _] => some v
  | _ => none
theorem firstKey_form {b : List Stmt} {v : Str} (h : firstKeyOf b = some v) : ∃ (j : Nat) (p1 p2 p3 p4 : Pos), b = [.Return (some (.Subscript (.Name v p1) (.Constant (.int 0) j p2) p3)) p4] := by
  unfold firstKeyOf at h
  split at h
  · cases h
    exact ⟨_, _, _, _, _, rfl⟩
  · cases h
theorem FunD.keyFirst {P : Program} {w : World} {K : PySem.W.Frag} {x qual v : Str} {params : Arguments} {body : List Stmt} {scope : Scope} {f : Addr} {fd : FuncData} {dvs : List V} {kws : List (Str × V)}
    (F : FunD K x qual params body scope dvs kws f fd) (hform : firstKeyOf body = some v) (S : FnScope [v] [v] scope) (hv : scope.names.lookup v = some .local) (hb : Binds K fd [v] []) (hd : (v == ("__debug__" : Str)) = false := by decide) : KeyFirst P w K f := by
  obtain ⟨j, p1, p2, p3, p4, rfl⟩ := firstKey_form hform
  intro A s p its i t KX lim hr ht hi
  obtain ⟨_, _, _, _, _, _, _, cdv, _, _, e, look, code, _, _⟩ := F.ex
  have hb := hb s [.ref p] KX rfl
  subst e
  refine wpAny_call (codeAny_call_function hr (KX _ _ look) rfl S.co S.gen rfl (PySem.W.codeRec_of KX code) (hb _ _ _ _ ?_))
  refine wpAny_newFunctionEnv_cells S.kind (fun y hy => ?_) fun env he s1 hx => ?_
  · have e1 : y = (v, Value.ref p) := by simpa using hy
    subst e1
    exact .inl hv
  subst he
  refine ⟨lim.keeps hx.toInCall.keep, codeAny_func ?_⟩
  obtain ⟨h1, tk, rfl, hk⟩ := hx.done
  have hns := hx.toInCall.ns
  have hkv : (envOfC qual scope s.heap.objs.size f cdv).kindOf v = some .local := hv
  have hm : bindL (envOfC qual scope s.heap.objs.size f cdv).kindOf ([v].zip [Value.ref p]) (fun _ => none) v = some (.ref p) := by
    show bindL _ [(v, Value.ref p)] _ v = _
    unfold bindL
    rw [if_pos hkv]
    show (if v = v then _ else _) = _
    rw [if_pos rfl]
  obtain ⟨o, e1, e2, n, e3⟩ := ht
  have ht1 : IsTup h1 p its := ⟨o, hk _ _ e1, e2, n, e3⟩
  have hil : 0 < its.size := by
    cases e : its.size with
    | zero =>
      rw [Array.getElem?_eq_none (by omega)] at hi
      cases hi
    | succ m => omega
  refine wpAny_execs_cons (wpAny_Return_some (Subscript_ (wpAny_Name (wpAny_loadName_local S.kind hkv hns hm ?_) hd)))
  refine wpAny_Constant_int ?_
  refine subscriptTail_builtinR (x := .int i t) ht1.typeIs slot_tuple_getitem.lookup (getItem_tuple (j := 0) ht1 (by decide) (by decide) ?_ hi ⟨rfl, ?_⟩) rfl
  · rw [seqIndex_of (by decide) (by omega)]; rfl
  · exact ⟨_, _, rfl, hk, .int _ _⟩

def sortedBy (xs : List V) (ws : List Int) : List V := ((xs.zip ws).mergeSort fun a b => decide (a.2 ≤ b.2)).map (·.1)
/-- sorted(l, key=f), f as above -/
def rSortKF (K : PySem.W.Frag) (f : Addr) : List V → List V → Hp → VK → Prop := fun vs zs H Q => ∃ (a : Addr) (xs : List V) (ws : List Int), vs = [.ref a] ∧ zs = [.ref f] ∧ SqL K H a xs ∧
  Paired (fun x i => ∃ p ys, x = V.ref p ∧ SqT K H p (.int i :: ys)) xs ws ∧ ∀ p, H p = none → Q (.ref p) (upd H p (.lst (sortedBy xs ws)))
theorem vals_one {x : V} {us : List Value} (h : Vals [x] us) : ∃ u, us = [u] ∧ RelV x u := by
  cases h with
  | cons e t =>
    cases t
    exact ⟨_, rfl, e⟩
theorem vals_each {S : Value → V × Int → Prop} {out : List Value} {l : List (V × Int)} (h : PySem.W.EachIs (fun v b => RelV b.1 v ∧ S v b) out l) : Vals (l.map (·.1)) out := by
  induction h with
  | nil => exact .nil
  | cons e _ ih => exact .cons e.1 ih
theorem cr_sortedKF {X : Cx} {f : Addr} (hf : KeyFirst X.prog X.w X.K f) (hr : Room 1 X.A) : CallRK X (.builtin "sorted") [Str.ofString "key"] (rSortKF X.K f) := by
  intro pins s σ H vs zs us ws0 Q I r1 r2 q
  obtain ⟨a, xs, ws, rfl, rfl, hS, hP, q⟩ := q
  obtain ⟨u, rfl, e1⟩ := vals_one r1
  obtain ⟨u2, rfl, e2⟩ := vals_one r2
  cases e1
  cases e2
  obtain ⟨its, rv, hl, hz⟩ := I.list hS
  -- items by their values and keys
  have each : PySem.W.EachIs (fun (v : Value) (b : V × Int) => RelV b.1 v ∧ ∃ p items t, v = .ref p ∧ IsTup s.heap p items ∧ items[0]? = some (.int b.2 t)) its (xs.zip ws) := by
    clear hl q hz hS
    induction hP generalizing its with
    | nil => cases rv; exact .nil
    | cons h t ih =>
      cases rv with
      | cons e r =>
        obtain ⟨p, ys, rfl, hT⟩ := h
        cases e
        obtain ⟨its2, r2, hI, _⟩ := I.tuple hT
        refine .cons ⟨rfl, ?_⟩ (ih _ r)
        cases r2 with
        | cons e5 r5 =>
          obtain ⟨t5, rfl⟩ := e5
          exact ⟨p, _, t5, rfl, hI, by simp⟩
  have hlen : (xs.zip ws).length = xs.length := by rw [List.length_zip, hP.length, Nat.min_self]
  show wpAny _ _ (call (.builtin "sorted") [.ref a] [(Str.ofString "key", .ref f)]) _ _ _
  refine PySem.W.sorted_key_data (b := false) (fun b : V × Int => .int b.2) hl.isList each (PySem.W.AllAlike.of fun _ _ => by simp [PySem.W.alike]) (PySem.W.Sortable.others fun b => ⟨by simp, by simp⟩) (by rw [hlen]; exact hz) (fun b _ => ?_) (ksk_s1 _ _) (fun _ => ksk_l1 _ _) (fun _ => ksk_t1 _ _)
    (fun v b hR _ h tk kp => ?_) fun out c h' tk kp _ hD hol eo => ?_
  · have := hr.un
    show X.A.units + 2 + 0 < cLine
    omega
  · obtain ⟨_, p, items, t, rfl, ⟨o, e1, e2, n, e3⟩, hi⟩ := hR
    have hd : X.A.in1.in1.depth < recursionLimit := by
      have := hr.dp
      show X.A.depth < _
      omega
    exact hf _ _ p items b.2 t (I.kIn.keeps kp) (I.nolimit.keeps kp) hd ⟨o, kp _ _ e1, e2, n, e3⟩ hi
  · have fr : H (s.heap.objs.size + 1) = none := I.hok.fresh (Nat.le_succ _)
    rw [PySem.W.dataLe_int] at eo
    have hv := vals_each eo
    have hsl : (sortedBy xs ws).length ≤ sizeLine := by
      unfold sortedBy
      rw [List.length_map, List.length_mergeSort, hlen]
      exact hz
    exact ⟨.ref (s.heap.objs.size + 1), _, I.laid (o := .lst (sortedBy xs ws)) (t' := tk) kp (Nat.le_succ _) ⟨hsl, out, c, hv, hD⟩, rfl, q _ fr⟩
end L2.BP
namespace L2.BP
open PySem PySem.Spec PyProof.Rows
section
variable {K : PySem.W.Frag} {H : Hp} {Q : VK} {B : Hp} {L : Pic} {σ : St} {x : V}
theorem c_ckw {r : List V → List V → Hp → VK → Prop} {t tk : TA} (k : t σ H fun vs H1 => tk σ H1 fun zs H2 => r vs zs H2 Q) : tCKw r t tk σ H Q := k
theorem c_sortedKF {f a : Addr} {xs : List V} {ws : List Int} (hs : Hs B L H) (hS : SqL K H a xs) (hP : Paired (fun x i => ∃ p ys, x = V.ref p ∧ SqT K H p (.int i :: ys)) xs ws) (k : ∀ p H', Hs B ((p, .lst (sortedBy xs ws)) :: L) H' → Q (.ref p) H') : rSortKF K f [.ref a] [.ref f] H Q :=
  ⟨a, xs, ws, rfl, rfl, hS, hP, fun p hp => k p _ (hs.new hp)⟩
theorem c_countL {p : Addr} {ns : List Int} {i : Int} (h : SqL K H p (ns.map V.int)) (k : Q (.int (ns.count i : Nat)) H) : rCntI K (.ref p) [.int i] H Q := ⟨p, ns, i, rfl, rfl, h, k⟩
/-- values that are alike by kind alone -/
theorem c_eqX {x y : V} (h : scal x y = true) (k : Q (.bl (decide (x = y))) H) : rEqU K x y H Q := .inl ⟨h, k⟩
theorem c_neX {x y : V} (h : scal x y = true) (k : Q (.bl (!decide (x = y))) H) : rNeU K x y H Q := .inl ⟨h, k⟩
/-- an empty dict -/
theorem c_neE {a b : Addr} (h1 : H a = some (.dK [])) (h2 : H b = some (.dK [])) (k : Q (.bl false) H) : rNeU K (.ref a) (.ref b) H Q := .inr (.inr ⟨a, b, [], [], rfl, rfl, h1, h2, rfl, (fun _ z => nomatch z), k⟩)
theorem c_eqE {a b : Addr} (h1 : H a = some (.dK [])) (h2 : H b = some (.dK [])) (k : Q (.bl true) H) : rEqU K (.ref a) (.ref b) H Q := .inr (.inr (.inl ⟨a, b, [], [], rfl, rfl, h1, h2, rfl, (fun _ z => nomatch z), k⟩))
end
end L2.BP
namespace L2.BR
open PySem PySem.Spec PyProof.Rows L2.BP
section
variable {K : PySem.W.Frag} {W : WX} {vs : List V} {H : Hp} {Q : VK} {E : XK}
/-! ### rows -/
def Tg.isByte : Tg → Bool
  | .int i => decide (0 ≤ i) && decide (i ≤ 255)
  | _ => false
/-- whether a thing is a byte, by itself -/
def byteV : V → Bool
  | .int i => decide (0 ≤ i) && decide (i ≤ 255)
  | _ => false
theorem byteV_of {v : V} {g : Tg} (h : Th K H v g) : Tg.isByte g = byteV v := by cases h <;> rfl
def Tg.isRow : Tg → Bool
  | .lst xs => xs.all byteV
  | _ => false
/-- the thing may be looked at: its items are things, too -/
def Tg.ok (K : PySem.W.Frag) (H : Hp) : Tg → Prop
  | .lst xs => (∀ x ∈ xs, ∃ g, Th K H x g) ∧ xs.length ≤ 100000
  | _ => True
/-- a row: its numbers -/
def Bytes (ns : List Int) : Prop := ∀ n ∈ ns, 0 ≤ n ∧ n ≤ 255
theorem ints_of : ∀ {xs : List V}, xs.all byteV = true → ∃ ns : List Int, xs = ns.map V.int ∧ Bytes ns
  | [], _ => ⟨[], rfl, fun _ h => nomatch h⟩
  | x :: r, h => by
    simp only [List.all_cons, Bool.and_eq_true] at h
    obtain ⟨ns, e, hb⟩ := ints_of h.2
    cases x with
    | int i =>
      refine ⟨i :: ns, by rw [e]; rfl, fun n hn => ?_⟩
      rcases List.mem_cons.mp hn with z | z
      · have h1 := h.1
        simp only [byteV, Bool.and_eq_true, decide_eq_true_eq] at h1
        rw [z]
        exact h1
      · exact hb n z
    | _ => cases h.1
theorem all_byteV {ns : List Int} (h : Bytes ns) : (ns.map V.int).all byteV = true := by
  rw [List.all_eq_true]
  intro x hx
  obtain ⟨n, hn, rfl⟩ := List.mem_map.mp hx
  have := h n hn
  simp only [byteV, Bool.and_eq_true, decide_eq_true_eq]
  exact this
theorem ok_ints {H : Hp} {ns : List Int} (h : ns.length ≤ 100000) : Tg.ok K H (.lst (ns.map V.int)) := by
  refine ⟨fun x hx => ?_, by rw [List.length_map]; exact h⟩
  obtain ⟨n, _, rfl⟩ := List.mem_map.mp hx
  exact ⟨_, .int n⟩
theorem cutV_ints (ns : List Int) (lo hi : Option Int) : cutV (ns.map V.int) lo hi = ((ns.drop (HT.sIx ns.length 0 lo)).take (HT.sIx ns.length ns.length hi - HT.sIx ns.length 0 lo)).map V.int := by
  unfold cutV
  rw [List.length_map, List.map_take, List.map_drop]
theorem sIx_at (n d k : Nat) (h : k ≤ n) : HT.sIx n d (some ((k : Nat) : Int)) = k := by rw [HT.sIx_nat]; omega
theorem map_int_inj : ∀ {a b : List Int}, a.map V.int = b.map V.int → a = b
  | [], [], _ => rfl
  | [], _ :: _, h => by cases h
  | _ :: _, [], h => by cases h
  | x :: r, y :: t, h => by
    injection h with h1 h2
    injection h1 with h1
    rw [h1, map_int_inj h2]
theorem ne_f {a b : Int} (h : a = b) : (!decide (a = b)) = false := by rw [decide_eq_true h]; rfl
theorem cut_take (ns : List Int) (m : Nat) : cutV (ns.map V.int) none (some ((m : Nat) : Int)) = (ns.take m).map V.int := by
  rw [cutV_ints, HT.sIx_nat, HT.sIx_none, List.drop_zero, Nat.sub_zero]
  congr 1
  by_cases h : m ≤ ns.length
  · rw [Nat.min_eq_left h]
  · rw [Nat.min_eq_right (by omega), List.take_of_length_le (Nat.le_refl _), List.take_of_length_le (by omega)]
theorem cut_drop (ns : List Int) (m : Nat) : cutV (ns.map V.int) (some ((m : Nat) : Int)) none = (ns.drop m).map V.int := by
  rw [cutV_ints, HT.sIx_nat, HT.sIx_none]
  congr 1
  by_cases h : m ≤ ns.length
  · rw [Nat.min_eq_left h, List.take_of_length_le (by rw [List.length_drop]; omega)]
  · rw [Nat.min_eq_right (by omega), List.drop_of_length_le (Nat.le_refl _), List.drop_of_length_le (by omega), List.take_nil]
theorem cut_mid (ns : List Int) (a b : Nat) (h1 : a ≤ b) (h2 : b ≤ ns.length) : cutV (ns.map V.int) (some ((a : Nat) : Int)) (some ((b : Nat) : Int)) = ((ns.drop a).take (b - a)).map V.int := by
  rw [cutV_ints, HT.sIx_nat _ 0 a, HT.sIx_nat _ _ b, Nat.min_eq_left (show a ≤ ns.length by omega), Nat.min_eq_left h2]
theorem at_nat {ns : List Int} {k : Nat} (h : k < ns.length) : atI (ns.map V.int) ((k : Nat) : Int) = some (.int (ns.getD k 0)) := by
  rw [atI_nat (v := .int (ns.getD k 0))]
  rw [List.getElem?_map, List.getElem?_eq_getElem h, List.getD_eq_getElem?_getD, List.getElem?_eq_getElem h]
  rfl
theorem at_i {ns : List Int} {i : Int} {k : Nat} (e : i = ((k : Nat) : Int)) (h : k < ns.length) : atI (ns.map V.int) i = some (.int (ns.getD k 0)) := by rw [e]; exact at_nat h
/-- two flat tuples -/
theorem dp_tup {p : Addr} {xs : List V} (hf : xs.all L2.BP.flatV = true) (h : SqT K H p xs) : Dp K H (.ref p) (tupD xs) := .tup h (dpa_flat hf)
theorem shaped_tup {xs : List V} (hf : xs.all L2.BP.flatV = true) : SeqAt.shaped (tupD xs) = true := by
  obtain ⟨z1, z2⟩ := canAll_flat hf
  unfold SeqAt.shaped tupD
  simp only [PyData.canLay0, PyData.depth, z1]
  simp
  omega
theorem c_eqTup {p q : Addr} {xs : List V} (hf : xs.all L2.BP.flatV = true) (h1 : SqT K H p xs) (h2 : SqT K H q xs) (k : Q (.bl true) H) : rEqU K (.ref p) (.ref q) H Q := by
  refine c_eqD (dp_tup hf h1) (dp_tup hf h2) (shaped_tup hf) (shaped_tup hf) ?_
  rw [show PyData.eqv (tupD xs) (tupD xs) = true by unfold tupD; rw [PyData.eqv, eqvAll_vD]]
  exact k
theorem c_neTup {p q : Addr} {xs : List V} (hf : xs.all L2.BP.flatV = true) (h1 : SqT K H p xs) (h2 : SqT K H q xs) (k : Q (.bl false) H) : rNeU K (.ref p) (.ref q) H Q := by
  refine c_neD (dp_tup hf h1) (dp_tup hf h2) (shaped_tup hf) (shaped_tup hf) ?_
  rw [show PyData.eqv (tupD xs) (tupD xs) = true by unfold tupD; rw [PyData.eqv, eqvAll_vD]]
  exact k
theorem mem_cutV {xs : List V} {lo hi : Option Int} {x : V} (h : x ∈ cutV xs lo hi) : x ∈ xs := by
  unfold cutV at h
  exact List.mem_of_mem_drop (List.mem_of_mem_take h)
theorem cutV_le (xs : List V) (lo hi : Option Int) : (cutV xs lo hi).length ≤ xs.length := by
  unfold cutV
  rw [List.length_take, List.length_drop]
  omega
theorem ok_same {H' : Hp} {g : Tg} (h : Tg.ok K H g) (e : Same H H') : Tg.ok K H' g := by
  cases g with
  | lst xs => exact ⟨fun x hx => (h.1 x hx).imp fun _ z => z.same e, h.2⟩
  | _ => trivial
theorem mixed_ok {row : List Int} {ov : V} {og : Tg} {lo hi lo' hi' : Option Int} (ho : Th K H ov og) (hl : row.length ≤ 1000) : Tg.ok K H (.lst (cutV (row.map V.int) lo hi ++ [ov] ++ cutV (row.map V.int) lo' hi')) := by
  refine ⟨fun x hx => ?_, ?_⟩
  · have allI : ∀ x ∈ row.map V.int, ∃ g, Th K H x g := fun x hx => by
      obtain ⟨n, _, rfl⟩ := List.mem_map.mp hx
      exact ⟨_, .int n⟩
    rcases List.mem_append.mp hx with hx | hx
    · rcases List.mem_append.mp hx with hx | hx
      · exact allI x (mem_cutV hx)
      · rw [List.mem_singleton.mp hx]
        exact ⟨og, ho⟩
    · exact allI x (mem_cutV hx)
  · have z1 := cutV_le (row.map V.int) lo hi
    have z2 := cutV_le (row.map V.int) lo' hi'
    rw [List.length_map] at z1 z2
    rw [List.length_append, List.length_append, List.length_singleton]
    omega
end
end L2.BR
namespace L2.BR
open PySem PySem.Spec PyProof.Rows L2.BP
section
variable {K : PySem.W.Frag} {W : WX} {vs : List V} {H : Hp} {Q : VK} {E : XK}
/-! ### the word of a caught error -/
def wordL : List (Str × Str) := [("row", "BadRow"), ("bits", "BadBits"), ("nobits", "NoBits"), ("shares", "BadShares"), ("lengths", "BadLengths"), ("code", "BadCode"), ("table", "BadTable"), ("cut", "Cut"), ("pieces", "BadPieces"), ("body", "BadBody"), ("head", "BadHead"), ("check", "BadCheck"), ("mark", "BadMark"), ("tail", "BadTail"), ("behind", "Behind"), ("over", "Over"), ("range", "NoRange"), ("letters", "BadLetters")]
structure WordOf (K : PySem.W.Frag) (D : Addr) (w : Str) : Prop where
  x : ExcC K D
  v : PySem.W.kitOne K (.ref D) (.type "ValueError") = some true
  f : ∀ p ∈ wordL, PySem.W.kitOne K (.ref D) (.ref (He.ga K p.2)) = some (decide (p.1 = w))
  one : (wordL.map fun p => (p.1, decide (p.1 = w))).filter (·.2) = [(w, true)]
abbrev pairW (p : Str × Bool) : List V := [.str p.1, .bl p.2]
theorem tups_W {α : Type} {f : α → List V} {ps : List α} {acc pre post : List V} {x : V} (h : Tups K H acc (ps.map f)) (e : acc = pre ++ x :: post) : ∃ a p, x = .ref a ∧ ps[pre.length]? = some p ∧ SqT K H a (f p) := by
  subst e
  obtain ⟨a, p1, xs, p2, rfl, e2, e3, e4⟩ := h.split
  have e5 : (ps.map f)[pre.length]? = some xs := by
    rw [e2, ← e3]
    simp
  rw [List.getElem?_map] at e5
  cases e6 : ps[pre.length]? with
  | none => rw [e6] at e5; cases e5
  | some p =>
    rw [e6] at e5
    cases e5
    exact ⟨a, p, rfl, rfl, e4⟩
section
variable {B : Hp} {l l2 u1 u2 u3 : Addr} {xs a b c : List V} {ps : List (List V)}
theorem word1 (h : Hs B [(l2, .lst [.ref u1]), (u1, .tup a), (l, .lst xs)] H) (hT : Tups K B xs ps) (hl : xs.length ≤ 100) (k : ∀ r B' H', Tups K B' (xs ++ [.ref u1]) (ps ++ [a]) → Same B B' → Hs B' [(r, .lst (xs ++ [.ref u1]))] H' → Q (.ref r) H') : rAddU (.ref l) (.ref l2) H Q := by
  refine c_addL h (h.get (.tail _ (.tail _ (.head _)))) (h.get (.head _)) (small6' (by rw [List.length_singleton]; omega)) fun r H' h' => ?_
  have k1 := h.nb (.tail _ (.head _))
  exact k r _ H' (hT.snocFix k1) (same_upd k1) h'.drop1.swap.fix.drop1
theorem word2 (h : Hs B [(l2, .lst [.ref u1, .ref u2]), (u2, .tup b), (u1, .tup a), (l, .lst xs)] H) (hT : Tups K B xs ps) (hl : xs.length ≤ 100) (k : ∀ r B' H', Tups K B' (xs ++ [.ref u1, .ref u2]) (ps ++ [a, b]) → Same B B' → Hs B' [(r, .lst (xs ++ [.ref u1, .ref u2]))] H' → Q (.ref r) H') : rAddU (.ref l) (.ref l2) H Q := by
  refine c_addL h (h.get (.tail _ (.tail _ (.tail _ (.head _))))) (h.get (.head _)) (small6' (by show xs.length + 2 ≤ _; omega)) fun r H' h' => ?_
  have k1 := h'.drop1.rot3.nb (.head _)
  have h2 := h'.drop1.rot3.fix.swap
  have k2 := h2.nb (.head _)
  have z := (hT.snocFix (xs := a) k1).snocFix (xs := b) k2
  rw [List.append_assoc, List.append_assoc] at z
  exact k r _ H' z ((same_upd k1).trans (same_upd k2)) h2.fix.drop1
theorem word3 (h : Hs B [(l2, .lst [.ref u1, .ref u2, .ref u3]), (u3, .tup c), (u2, .tup b), (u1, .tup a), (l, .lst xs)] H) (hT : Tups K B xs ps) (hl : xs.length ≤ 100) (k : ∀ r B' H', Tups K B' (xs ++ [.ref u1, .ref u2, .ref u3]) (ps ++ [a, b, c]) → Same B B' → Hs B' [(r, .lst (xs ++ [.ref u1, .ref u2, .ref u3]))] H' → Q (.ref r) H') : rAddU (.ref l) (.ref l2) H Q := by
  refine c_addL h (h.get (.tail _ (.tail _ (.tail _ (.tail _ (.head _)))))) (h.get (.head _)) (small6' (by show xs.length + 3 ≤ _; omega)) fun r H' h' => ?_
  have k1 := h'.drop1.rot4.nb (.head _)
  have h2 := h'.drop1.rot4.fix.rot3
  have k2 := h2.nb (.head _)
  have h3 := h2.fix.swap
  have k3 := h3.nb (.head _)
  have z := ((hT.snocFix (xs := a) k1).snocFix (xs := b) k2).snocFix (xs := c) k3
  rw [List.append_assoc, List.append_assoc, List.append_assoc, List.append_assoc] at z
  exact k r _ H' z (((same_upd k1).trans (same_upd k2)).trans (same_upd k3)) h3.fix.drop1
end
theorem c_isXw {a D : Addr} {w u c : Str} (W : WordOf K D w) (m : (u, c) ∈ wordL) (k : Q (.bl (decide (u = w))) H) : rIsX K a (.ref D) none [.ref a, .ref (He.ga K c)] H Q := c_isXc W.x (W.f (u, c) m) k
theorem c_niBl {l : Addr} {xs : List V} (h : SqL K H l xs) (hf : xs.all L2.flatV = true) (hn : L2.inV (.bl true) xs = false) (k : Q (.bl true) H) : rNiU K (.bl true) (.ref l) H Q := .inl ⟨l, xs, rfl, .inl h, rfl, hf, by rw [hn]; exact k⟩
end
end L2.BR
namespace L2.BR
open PySem PySem.Spec PyProof.Rows L2.BP
section
variable {K : PySem.W.Frag} {H H' : Hp} {Q : VK}
/-! ### things that are data, compared with copies of themselves -/
/-- data of few layers -/
def LD (K : PySem.W.Frag) (H : Hp) (n : Nat) (xs : List V) : Prop := ∃ ds, DpAll K H xs ds ∧ PyData.canLayAll0 ds = true ∧ PyData.depthAll ds ≤ n
def OD (K : PySem.W.Frag) (H : Hp) (n : Nat) (x : V) : Prop := ∃ d, Dp K H x d ∧ PyData.canLay0 d = true ∧ PyData.depth d ≤ n
theorem dpAll_app : ∀ {xs ys : List V} {ds es : List PyData}, DpAll K H xs ds → DpAll K H ys es → DpAll K H (xs ++ ys) (ds ++ es)
  | _, _, _, _, .nil, h => h
  | _, _, _, _, .cons e t, h => .cons e (dpAll_app t h)
theorem lay_app : ∀ {ds es : List PyData}, PyData.canLayAll0 ds = true → PyData.canLayAll0 es = true → PyData.canLayAll0 (ds ++ es) = true
  | [], _, _, h => h
  | d :: ds, es, h, h2 => by
    simp only [PyData.canLayAll0, Bool.and_eq_true, List.cons_append] at h ⊢
    exact ⟨h.1, lay_app h.2 h2⟩
theorem depth_app : ∀ {ds es : List PyData} {n : Nat}, PyData.depthAll ds ≤ n → PyData.depthAll es ≤ n → PyData.depthAll (ds ++ es) ≤ n
  | [], _, _, _, h => h
  | d :: ds, es, n, h, h2 => by
    simp only [PyData.depthAll, List.cons_append] at h ⊢
    have := depth_app (ds := ds) (n := n) (by omega) h2
    omega
theorem LD.nil {n : Nat} : LD K H n [] := ⟨[], .nil, rfl, Nat.zero_le _⟩
theorem LD.app {n : Nat} {xs ys : List V} (h : LD K H n xs) (h2 : LD K H n ys) : LD K H n (xs ++ ys) := by
  obtain ⟨ds, a1, a2, a3⟩ := h
  obtain ⟨es, b1, b2, b3⟩ := h2
  exact ⟨_, dpAll_app a1 b1, lay_app a2 b2, depth_app a3 b3⟩
theorem LD.one {n : Nat} {x : V} (h : OD K H n x) : LD K H n [x] := by
  obtain ⟨d, a1, a2, a3⟩ := h
  exact ⟨[d], .cons a1 .nil, by simp [PyData.canLayAll0, a2], by simp [PyData.depthAll]; exact a3⟩
theorem LD.cons {n : Nat} {x : V} {xs : List V} (h : OD K H n x) (t : LD K H n xs) : LD K H n (x :: xs) := (LD.one h).app t
theorem OD.flat {n : Nat} {x : V} (h : L2.BP.flatV x = true) : OD K H n x := ⟨_, dp_flat h, (can_flat h).1, by rw [(can_flat h).2]; exact Nat.zero_le _⟩
theorem LD.flat {n : Nat} : ∀ {xs : List V}, xs.all L2.BP.flatV = true → LD K H n xs
  | [], _ => .nil
  | x :: r, h => by
    rw [List.all_cons, Bool.and_eq_true] at h
    exact .cons (.flat h.1) (LD.flat h.2)
theorem LD.ints {n : Nat} {ns : List Int} : LD K H n (ns.map V.int) := .flat (by rw [List.all_map]; simp [L2.BP.flatV])
theorem OD.lst {n : Nat} {a : Addr} {xs : List V} (h : SqL K H a xs) (t : LD K H n xs) : OD K H (n + 1) (.ref a) := by
  obtain ⟨ds, a1, a2, a3⟩ := t
  exact ⟨.list ds, .lst h a1, by simpa [PyData.canLay0] using a2, by simp only [PyData.depth]; omega⟩
theorem OD.tup {n : Nat} {a : Addr} {xs : List V} (h : SqT K H a xs) (t : LD K H n xs) : OD K H (n + 1) (.ref a) := by
  obtain ⟨ds, a1, a2, a3⟩ := t
  exact ⟨.tuple ds, .tup h a1, by simpa [PyData.canLay0] using a2, by simp only [PyData.depth]; omega⟩
theorem eqvS {d : PyData} (h : PyData.canLay0 d = true) : PyData.eqv d d = true := SeqAt.eqv_refl d h
theorem shapedS {d : PyData} (h : PyData.canLay0 d = true) {n : Nat} (h2 : PyData.depth d ≤ n) (hn : n ≤ 64) : SeqAt.shaped d = true := by
  unfold SeqAt.shaped
  rw [h, Bool.true_and]
  exact decide_eq_true (by omega)
/-- two lists of the same items -/
theorem c_neSame {n : Nat} {a b : Addr} {xs : List V} (h1 : SqL K H a xs) (h2 : SqL K H b xs) (t : LD K H n xs) (hn : n ≤ 60) (k : Q (.bl false) H) : rNeU K (.ref a) (.ref b) H Q := by
  obtain ⟨ds, a1, a2, a3⟩ := t
  have c : PyData.canLay0 (.list ds) = true := by simpa [PyData.canLay0] using a2
  have e : PyData.depth (.list ds) ≤ n + 1 := by simp only [PyData.depth]; omega
  refine c_neD (.lst h1 a1) (.lst h2 a1) (shapedS c e (by omega)) (shapedS c e (by omega)) ?_
  rw [eqvS c]
  exact k
theorem c_eqSame {n : Nat} {a b : Addr} {xs : List V} (h1 : SqL K H a xs) (h2 : SqL K H b xs) (t : LD K H n xs) (hn : n ≤ 60) (k : Q (.bl true) H) : rEqU K (.ref a) (.ref b) H Q := by
  obtain ⟨ds, a1, a2, a3⟩ := t
  have c : PyData.canLay0 (.list ds) = true := by simpa [PyData.canLay0] using a2
  have e : PyData.depth (.list ds) ≤ n + 1 := by simp only [PyData.depth]; omega
  refine c_eqD (.lst h1 a1) (.lst h2 a1) (shapedS c e (by omega)) (shapedS c e (by omega)) ?_
  rw [eqvS c]
  exact k
/-- a thing and itself -/
theorem c_neSelf {n : Nat} {x : V} (t : OD K H n x) (hn : n ≤ 60) (k : Q (.bl false) H) : rNeU K x x H Q := by
  obtain ⟨d, a1, a2, a3⟩ := t
  refine c_neD a1 a1 (shapedS a2 a3 (by omega)) (shapedS a2 a3 (by omega)) ?_
  rw [eqvS a2]
  exact k
theorem c_eqSelf {n : Nat} {x : V} (t : OD K H n x) (hn : n ≤ 60) (k : Q (.bl true) H) : rEqU K x x H Q := by
  obtain ⟨d, a1, a2, a3⟩ := t
  refine c_eqD a1 a1 (shapedS a2 a3 (by omega)) (shapedS a2 a3 (by omega)) ?_
  rw [eqvS a2]
  exact k
mutual
theorem Dp.same (s : Same H H') : ∀ {d : PyData} {x : V}, Dp K H x d → Dp K H' x d
  | _, _, .non => .non
  | _, _, .bl b => .bl b
  | _, _, .int i => .int i
  | _, _, .str z => .str z
  | _, _, .lst h t => .lst (s.seq h) (DpAll.same s t)
  | _, _, .tup h t => .tup (same_sqt s h) (DpAll.same s t)
theorem DpAll.same (s : Same H H') : ∀ {ds : List PyData} {xs : List V}, DpAll K H xs ds → DpAll K H' xs ds
  | _, _, .nil => .nil
  | _, _, .cons h t => .cons (Dp.same s h) (DpAll.same s t)
end
theorem LD.same {n : Nat} {xs : List V} (h : LD K H n xs) (s : Same H H') : LD K H' n xs := by
  obtain ⟨ds, a1, a2, a3⟩ := h
  exact ⟨ds, DpAll.same s a1, a2, a3⟩
theorem OD.same {n : Nat} {x : V} (h : OD K H n x) (s : Same H H') : OD K H' n x := by
  obtain ⟨ds, a1, a2, a3⟩ := h
  exact ⟨ds, Dp.same s a1, a2, a3⟩
end
end L2.BR
namespace L2.BP
open PySem PySem.Spec PyProof.Rows L2
theorem getl {X : Cx} : PGet X (rIxL X.K) := by
  intro pins s σ H o i ov iv Q I ro ri h
  obtain ⟨p, xs, i, z, rfl, rfl, hq, he, q⟩ := h
  cases ro
  obtain ⟨t, rfl⟩ := ri
  obtain ⟨its, r, pl, hz⟩ := I.list hq
  obtain ⟨j, h1, h2, h3, h4, h5⟩ := atI_get he
  obtain ⟨w, ew, rw'⟩ := r.get h2
  have hl := r.length
  have hn := line63
  have fin : EP X pins σ Q w s := ⟨z, H, I, rw', q⟩
  by_cases h0 : 0 ≤ i
  · have hj : i.toNat = j := by
      rw [seqIndex_of h0 h5] at h1
      exact Option.some.inj h1
    exact wpAny_getItem_list pl.isList h0 (by omega) (by rw [hj]; simpa using ew) fin
  · have hj : (i + (its.toArray.size : Int)).toNat = j := by
      rw [seqIndex_neg (by omega) h4] at h1
      rw [List.size_toArray, ← hl]
      exact Option.some.inj h1
    exact wpAny_getItem_list_neg pl.isList (by omega) (by rw [List.size_toArray] <;> omega) (by omega) (by rw [hj]; simpa using ew) fin
end L2.BP
namespace L2.BP
open PySem PySem.Spec PyProof.Rows
/-! ### isinstance(e, (C1, C2, ..)), e the exception that the def was handed -/
def rIsXT (K : PySem.W.Frag) (a : Addr) (cls : Value) (d : Option Addr) : List V → Hp → VK → Prop := fun xs H Q => ∃ (D tp : Addr) (cs : List V) (us : List Value) (b : Bool), cls = .ref D ∧ d = none ∧ ExcC K D ∧ xs = [.ref a, .ref tp] ∧ H tp = some (.tup cs) ∧ Paired ClsV cs us ∧ PySem.W.kitAny K (.ref D) us = some b ∧ Q (.bl b) H
theorem call_isPT {X : Cx} {p : Addr × Obj} {cls : Value} {d : Option Addr} (hp : p ∈ X.pn) (hz : Zc cls d p.2) (hf : ∃ vs, p.2.data = .fields vs) : CallR X (.builtin "isinstance") (rIsXT X.K p.1 cls d) := by
  rintro pins s σ H xs us Q I r ⟨D, tp, cs, ws, b, rfl, rfl, C, rfl, hT, k, e, q⟩
  match us, r with
  | [_, _], .cons rfl (.cons rt .nil) =>
    cases rt
    obtain ⟨_, its, rv, o, h1, h2, n, h3⟩ := (show ObjOk X.prog X.w H s.heap tp (.tup cs) from I.hok tp _ hT)
    have e3 := ClsV.all k rv
    subst e3
    have there := (I.pin p (List.mem_append_left _ hp)).1
    have J : PySem.W.InstAt s.heap p.1 p.2 D none := by
      obtain ⟨vs, hv⟩ := hf
      obtain ⟨pa, ⟨_, _, _, _⟩⟩ := p
      obtain ⟨h1, h2⟩ := hz
      dsimp only at h1 h2 hv
      subst h1 h2 hv
      exact ⟨there, rfl, rfl, trivial⟩
    obtain ⟨oc, od, dt, sl⟩ := o
    simp only at h2 h3
    subst h2 h3
    exact PySem.W.kia_tup (PySem.W.handS_kitx_exc C.hg C.hk C.hs C.hd C.ha C.hn C.ht C.hm) I.kIn J h1 e (fun z => nomatch z) fun tk => ⟨.bl b, H, I.kept (t' := tk) fun _ _ z => z, rfl, q⟩
end L2.BP
namespace L2.BR
open PySem PySem.Spec PyProof.Rows L2.BP
theorem clsV_own (K : PySem.W.Frag) : ∀ us : List (Str × Str), Paired ClsV (us.map fun p => V.ref (He.ga K p.2)) (us.map fun p => Value.ref (He.ga K p.2))
  | [] => .nil
  | _ :: us => .cons (.own _) (clsV_own K us)
theorem any_word {K : PySem.W.Frag} {D : Addr} {w : Str} (W : WordOf K D w) : ∀ us : List (Str × Str), (∀ p ∈ us, p ∈ wordL) → PySem.W.kitAny K (.ref D) (us.map fun p => Value.ref (He.ga K p.2)) = some (us.any fun p => decide (p.1 = w))
  | [], _ => rfl
  | p :: us, m => by
    have ih := any_word W us fun q hq => m q (.tail _ hq)
    refine kitAny_cons (W.f p (m p (.head _))) (fun hb => ?_) fun hb => ?_
    · rw [ih, List.any_cons, hb, Bool.false_or]
    · rw [List.any_cons, hb, Bool.true_or]
theorem c_isXT {K : PySem.W.Frag} {H : Hp} {Q : VK} {a D tp : Addr} {w : Str} (W : WordOf K D w) (us : List (Str × Str)) (m : ∀ p ∈ us, p ∈ wordL) (h : H tp = some (.tup (us.map fun p => V.ref (He.ga K p.2)))) (k : Q (.bl (us.any fun p => decide (p.1 = w))) H) : rIsXT K a (.ref D) none [.ref a, .ref tp] H Q :=
  ⟨D, tp, _, _, _, rfl, rfl, W.x, rfl, h, clsV_own K us, any_word W us m, k⟩
end L2.BR
namespace L2.BR
open PySem PySem.Spec PyProof.Rows L2.BP
/-- a dict is no list -/
theorem c_eqDE {K : PySem.W.Frag} {H : Hp} {Q : VK} {a b : Addr} {kvs : List (Key × V)} {ys : List V} (h : H a = some (.dK kvs)) (hy : SqL K H b ys) (k : Q (.bl false) H) : rEqU K (.ref a) (.ref b) H Q := .inr (.inr (.inr ⟨a, b, kvs, ys, rfl, rfl, h, hy, k⟩))
theorem eqvAll_len : ∀ {a b : List PyData}, PyData.eqvAll a b = true → a.length = b.length
  | [], [], _ => rfl
  | [], _ :: _, h => by simp [PyData.eqvAll] at h
  | _ :: _, [], h => by simp [PyData.eqvAll] at h
  | _ :: a, _ :: b, h => by
    simp only [PyData.eqvAll, Bool.and_eq_true] at h
    rw [List.length_cons, List.length_cons, eqvAll_len h.2]
theorem dpAll_len {K : PySem.W.Frag} {H : Hp} : ∀ {xs : List V} {ds : List PyData}, DpAll K H xs ds → xs.length = ds.length
  | _, _, .nil => rfl
  | _, _, .cons _ t => by rw [List.length_cons, List.length_cons, dpAll_len t]
/-- lists of other lengths -/
theorem c_eqLen {K : PySem.W.Frag} {H : Hp} {Q : VK} {n m : Nat} {a b : Addr} {xs ys : List V} (h1 : SqL K H a xs) (h2 : SqL K H b ys) (t : LD K H n xs) (u : LD K H m ys) (hn : n ≤ 60) (hm : m ≤ 60) (hl : xs.length ≠ ys.length) (k : Q (.bl false) H) : rEqU K (.ref a) (.ref b) H Q := by
  obtain ⟨ds, a1, a2, a3⟩ := t
  obtain ⟨es, b1, b2, b3⟩ := u
  have c : PyData.canLay0 (.list ds) = true := by simpa [PyData.canLay0] using a2
  have e : PyData.depth (.list ds) ≤ n + 1 := by simp only [PyData.depth]; omega
  have c' : PyData.canLay0 (.list es) = true := by simpa [PyData.canLay0] using b2
  have e' : PyData.depth (.list es) ≤ m + 1 := by simp only [PyData.depth]; omega
  refine c_eqD (.lst h1 a1) (.lst h2 b1) (shapedS c e (by omega)) (shapedS c' e' (by omega)) ?_
  have z : PyData.eqv (.list ds) (.list es) = false := by
    rw [PyData.eqv]
    cases z : PyData.eqvAll ds es with
    | false => rfl
    | true => exact absurd (by rw [dpAll_len a1, dpAll_len b1]; exact eqvAll_len z) hl
  rw [z]
  exact k
end L2.BR
namespace L2.BP
open PySem PySem.Spec PyProof.Rows
/-! ### sorted(range(n), key=f) -/
section
variable {prog : Program} {w : World} {A : Around} {E : Value → Shared → Prop} {s : Shared}
theorem each_range {acc : Array Value} {n : Nat} (h : ItemsOf (fun (i : Nat) (v : Value) => ∃ t, v = Value.int (0 + (i : Int) * 1) t) acc n) : PySem.W.EachIs (fun (v : Value) (i : Nat) => ∃ t, v = Value.int ((i : Nat) : Int) t) acc.toList (List.range n) := by
  obtain ⟨hz, h⟩ := h
  have key : ∀ (l : List Value) (k : Nat), (∀ j v, l[j]? = some v → ∃ t, v = Value.int (((k + j : Nat) : Nat) : Int) t) → PySem.W.EachIs (fun (v : Value) (i : Nat) => ∃ t, v = Value.int ((i : Nat) : Int) t) l (List.range' k l.length) := by
    intro l
    induction l with
    | nil => intro k _; exact .nil
    | cons x r ih =>
      intro k hk
      rw [List.length_cons, List.range'_succ]
      refine .cons (by obtain ⟨t, e⟩ := hk 0 x rfl; exact ⟨t, e⟩) (ih (k + 1) fun j v e => ?_)
      obtain ⟨t, e2⟩ := hk (j + 1) v e
      exact ⟨t, by rw [e2, show k + (j + 1) = k + 1 + j by omega]⟩
  have z := key acc.toList 0 fun j v e => by
    obtain ⟨t, e2⟩ := h j v (by rw [← Array.getElem?_toList]; exact e)
    exact ⟨t, by rw [e2]; simp⟩
  rw [Array.length_toList, hz, ← List.range_eq_range'] at z
  exact z
theorem sorted_range_key {r : Addr} {n : Nat} {t u v : Tok} {f : Addr} {Q : Value → Shared → Prop} (ws : Nat → Int) (hh : A.handled = none) (hr : IsRange s.heap r 0 ((n : Nat) : Int) 1 t u v) (hn : n ≤ 100000) (hu : A.units + 2 < cLine)
    (turn : ∀ (i : Nat) (t : Tok) (h : Heap) (tk : Nat), i < n → (∀ b o, s.heap.get? b = some o → h.get? b = some o) → wpAny (model prog w) A.in1.in1 (call (.ref f) [.int ((i : Nat) : Int) t]) (PySem.W.KeyPure (.int (ws i)) { s with heap := h, toks := tk }) (fun _ _ => False) { s with heap := h, toks := tk })
    (h : ∀ (h1 : Heap) (out : List Value) (c : Nat) (h' : Heap) (tk : Nat), (∀ b o, s.heap.get? b = some o → h1.get? b = some o) → (∀ b o, h1.get? b = some o → h'.get? b = some o) → h'.get? h1.objs.size = some (seqObj "list" (List.toArray out) c) →
      PySem.W.EachIs (fun (v : Value) (i : Nat) => ∃ t, v = Value.int ((i : Nat) : Int) t) out ((List.range n).mergeSort fun a b => decide (ws a ≤ ws b)) → Q (.ref h1.objs.size) { s with heap := h', toks := tk }) :
    wpAny (model prog w) A (call (.builtin "sorted") [.ref r] [(Str.ofString "key", .ref f)]) Q E s := by
  have line : n ≤ sizeLine := small6' (by omega)
  refine call_function_entry_kw kind_sorted plain_sorted entry_sorted (ksk_s1 _ _) ?_
  unfold Builtin.«sorted»
  refine wpAny_bind (m := checkCount "sorted" 1 1 _) (wpAny_pure ?_)
  refine wpAny_bind (L2.collect_range (n := n) hh hr ?_ ?_ (by omega) fun h1 tk1 acc k1 hI => ?_)
  · exact small_one (by decide) (by decide) (by omega) (by omega)
  · rw [rangeSize_one]
    split <;> omega
  have hE := each_range hI
  have hl : acc.toList.length = n := by rw [Array.length_toList]; exact hI.1
  refine wpAny_bind (wpAny_newList ?_ (by rw [hl]; exact line))
  have ho : (h1.push (seqObj "list" acc.toList.toArray 0)).get? h1.objs.size = some (seqObj "list" acc.toList.toArray 0) := Heap.get?_push_size _ rfl
  have up1 : ∀ {g : Heap}, PySem.W.KeepsBut h1.objs.size (h1.push (seqObj "list" acc.toList.toArray 0)) g → ∀ b o, h1.get? b = some o → g.get? b = some o := fun {g} kp b o q =>
    kp b o (Nat.ne_of_lt (Heap.lt_size q)) (Heap.get?_push_of_some _ q)
  have up : ∀ {g : Heap}, PySem.W.KeepsBut h1.objs.size (h1.push (seqObj "list" acc.toList.toArray 0)) g → ∀ b o, s.heap.get? b = some o → g.get? b = some o := fun {g} kp b o q =>
    kp b o (Nat.ne_of_lt (Heap.lt_size (k1 b o q))) (Heap.get?_push_of_some _ (k1 b o q))
  refine wpAny_bind (wpAny_holding (PySem.W.list_sort_key_data (b := false) (s := { s with heap := h1.push (seqObj "list" acc.toList.toArray 0), toks := tk1 }) (fun i : Nat => PyData.int (ws i)) ho hE (PySem.W.AllAlike.of fun _ _ => by simp [PySem.W.alike]) (PySem.W.Sortable.others fun b => ⟨by simp, by simp⟩) (by rw [List.length_range]; exact line) (fun i _ => ?_) (ksk_l1 _ _) (ksk_t1 _ _)
    (fun v i hR hx h tk kp => ?_) fun out c h' tk kp hD hol eo => ?_))
  · show A.units + 1 + 1 + 0 < cLine
    omega
  · obtain ⟨t, rfl⟩ := hR
    exact turn i t h tk (List.mem_range.mp hx) (up kp)
  · refine wpAny_pure ⟨_, rfl, ?_⟩
    rw [PySem.W.dataLe_int] at eo
    exact h h1 out c h' tk k1 (up1 kp) hD eo
/-- lambda a: l[a], l a name of the def around it: what a call of it tells -/
theorem lam_at_key {f c' c0 lst : Addr} {qual l a : Str} {params : Arguments} {p1 p2 p3 : Pos} {scope : Scope} {clos : List (Str × Addr)} {pm ctv : Value} {its : Array Value} {i : Nat} {t : Tok} {x : Int} {tx : Tok}
    (hd : A.depth < recursionLimit) (lim : s.heap.NoLimit) (hf : s.heap.get? f = some (PySem.W.kla_obj "<lambda>" qual params (.Subscript (.Name l p1) (.Name a p2) p3) scope clos pm c' ctv)) (hcode : s.heap.CodeRec (.ref c') qual)
    (hkind : scope.kind = .function) (hco : scope.isCoroutine = false) (hgen : scope.isGenerator = false) (hcell : ∀ y ∈ scope.names, y.2 ≠ .cell) (hla : scope.names.lookup a = some .local) (hll : scope.names.lookup l = some .free)
    (hcl : clos.lookup l = some c0) (hc0 : s.heap.IsCell c0 (some (.ref lst))) (hl : s.heap.IsList lst its) (hi : its[i]? = some (.int x tx)) (hi63 : i ≤ 100000)
    (hbind : ∀ u, bindArgs (PySem.W.kla_fn "<lambda>" qual params (.Subscript (.Name l p1) (.Name a p2) p3) scope clos pm (.ref c') ctv) ⟨[u], []⟩ = pure [(a, u)])
    (hda : (a == ("__debug__" : Str)) = false := by decide) (hdl : (l == ("__debug__" : Str)) = false := by decide) (hcd : (l == ("__classdict__" : Str)) = false := by decide) :
    wpAny (model prog w) A (call (.ref f) [.int ((i : Nat) : Int) t]) (PySem.W.KeyPure (.int x) s) (fun _ _ => False) s := by
  refine wpAny_call (PySem.W.kla_callFunE hd hf rfl hco hgen rfl hcode ?_)
  rw [hbind]
  refine wpAny_pure (wpAny_newFunctionEnv hcell (fun y hy => ?_) (fun h₁ hns hsb => ⟨lim.fresh _ hsb, ?_⟩) hkind)
  · have e : y = (a, Value.int ((i : Nat) : Int) t) := by simpa using hy
    rw [e]
    exact hla
  have kp : ∀ b o, s.heap.get? b = some o → h₁.get? b = some o := fun b o e => hsb.extBut b o (Nat.ne_of_lt (Heap.lt_size e)) (Heap.get?_push_of_some _ e)
  obtain ⟨oc, e1, e2⟩ := hc0
  obtain ⟨o, e3, e4, n, e5⟩ := hl
  refine PySem.W.kla_codeExpr (Subscript_ (wpAny_Name (wpAny_loadName_free hkind hll hcl ⟨oc, kp _ _ e1, e2⟩ ?_ hcd) hdl))
  refine wpAny_Name (wpAny_loadName_local hkind hla hns (v := .int ((i : Nat) : Int) t) ?_ ?_) hda
  · show List.lookup a ([(a, Value.int ((i : Nat) : Int) t)].reverse) = _
    simp [List.lookup]
  · have hl1 : h₁.IsList lst its := ⟨o, kp _ _ e3, e4, n, e5⟩
    refine subscriptTail_builtinR (x := .int x tx) hl1.typeIs slot_list_getitem.lookup (wpAny_getItem_list hl1 (by omega) (by omega) (by rw [Int.toNat_natCast]; exact hi) ⟨rfl, ?_⟩) rfl
    exact ⟨h₁, _, rfl, kp, .int _ _⟩
end
end L2.BP
namespace L2.BP
open PySem PySem.Spec PyProof.Rows LamX
/-! ### a lambda is made: its maker's table of code objects is an own object -/
/-- the table: what it tells are code objects of that name -/
def TabC (B : Hp) (ps : Array Value) (q : Str) : Prop := TriplesOk ps.toList ∧ ∀ (pos : Pos) (cv : Value), codeAmong pos ps.toList = some cv → ∃ c, cv = .ref c ∧ B c = some (CodeO c q)
theorem TabC.same {B B2 : Hp} {ps : Array Value} {q : Str} (h : TabC B ps q) (e : Same B B2) : TabC B2 ps q := ⟨h.1, fun pos cv hc => (h.2 pos cv hc).imp fun c z => ⟨z.1, e _ _ z.2⟩⟩
theorem TabC.nil {B : Hp} {q : Str} : TabC B #[] q := ⟨True.intro, fun pos cv hc => by
  have z : codeAmong pos [] = some cv := hc
  simp [codeAmong] at z⟩
section
variable {X : Cx} {pins : List (Addr × Obj)} {σ : L2.St} {H B : Hp} {L : Pic} {s : Shared}
theorem lam_make3 {c P : Addr} {ps : Array Value} {params : Arguments} {body : Expr} {scope : Scope} {pos : Pos} {E : Value → Shared → Prop} {Q : Value → Shared → Prop} (I : Inv X pins σ H s) (TB : TabB X.base X.mg c P) (hcode : X.env.code = .ref c)
    (hs : Hs B ((P, .tbl ps) :: L) H) (hT : TabC B ps (X.env.qual ++ "<lambda>")) (hdef : defaultsOf params X.env = ([], [])) (hfree : ∀ y ∈ scope.names, y.2 = .free → ∃ c, X.env.cells.lookup y.1 = some c)
    (h : ∀ (f c' : Addr) (pm ctv : Value) (B2 : Hp) (ps2 : Array Value) (H1 : Hp) (s' : Shared), Inv X pins σ H1 s' → Same B B2 → TabC B2 ps2 (X.env.qual ++ "<lambda>") → Hs B2 ((P, .tbl ps2) :: L) H1 → Same H1 H1 →
      s'.heap.get? f = some (PySem.W.kla_obj "<lambda>" (X.env.qual ++ "<lambda>") params body scope (cloFrom X.env.cells scope.names []) pm c' ctv) → s'.heap.CodeRec (.ref c') (X.env.qual ++ "<lambda>") → (∀ b o, s.heap.get? b = some o → H b = none → s'.heap.get? b = some o) → Q (.ref f) s') :
    wpAny (model X.prog X.w) X.A (eval (.Lambda params body scope pos) X.env) Q E s := by
  have hP : H P = some (.tbl ps) := hs.get (.head _)
  have bP : s.heap.BuiltinsAt X.mg P := TB.bm.keeps I.bk
  have hP' : s.heap.get? P = some { cls := .none, data := .fields ps } := I.hok P _ hP
  refine PySem.W.kla_eval hdef ?_
  cases hc : codeAmong pos ps.toList with
  | some cv =>
    obtain ⟨c', rfl, hco⟩ := hT.2 pos cv hc
    obtain ⟨⟨oc, vs, t, e1, e2, e3⟩, _⟩ := (show ObjOk X.prog X.w H s.heap c' (CodeO c' (X.env.qual ++ "<lambda>")) from I.hok c' _ (hs.ex _ _ hco))
    refine PySem.W.kla_makeFunctionHit (mg := X.mg) (c := c) (P := P) (ps := ps) (closure_ok hfree) I.ok.glob (I.mod.glob.keeps I.bk) hcode (TB.code.keeps I.bk) hP' hT.1 hc bP fun ctv h' tk hx hsz => ?_
    have kp : ∀ b o, s.heap.get? b = some o → (h'.push (PySem.W.kla_obj "<lambda>" (X.env.qual ++ "<lambda>") params body scope (cloFrom X.env.cells scope.names []) ((X.mg "__name__").getD .none) c' ctv)).get? b = some o := fun b o e => Heap.get?_push_of_some _ (hx b o e)
    exact h h'.objs.size c' ((X.mg "__name__").getD .none) ctv B ps H _ (I.kept kp) (Same.refl _) hT hs (Same.refl _) (Heap.get?_push_size _ rfl) ⟨c', oc, vs, t, rfl, kp _ _ e1, e2, e3⟩ fun b o e _ => kp b o e
  | none =>
    refine PySem.W.kla_makeFunction (mg := X.mg) (c := c) (P := P) (ps := ps) (closure_ok hfree) I.ok.glob (I.mod.glob.keeps I.bk) hcode (TB.code.keeps I.bk) hP' hT.1 hc TB.gP bP fun c' ctv h' tk hx hge hlt hrec htb => ?_
    obtain ⟨c2, oc, vs, t, e2, hoc, hd, hv⟩ := hrec
    cases e2
    have nC : H c' = none := I.hok.fresh hge
    have I1 := inv_table (t' := tk) (more := #[rawInt pos.line, rawInt pos.col, .ref c']) (q := X.env.qual ++ "<lambda>") (h' := h'.push (PySem.W.kla_obj "<lambda>" (X.env.qual ++ "<lambda>") params body scope (cloFrom X.env.cells scope.names []) ((X.mg "__name__").getD .none) c' ctv)) I hP
      (fun b o hb e => Heap.get?_push_of_some _ (hx b o hb e)) (Heap.get?_push_of_some _ htb) hge ⟨oc, vs, t, Heap.get?_push_of_some _ hoc, hd, hv⟩
    have hs1 : Hs B ((P, .tbl (ps ++ #[rawInt pos.line, rawInt pos.col, .ref c'])) :: L) (upd H P (.tbl (ps ++ #[rawInt pos.line, rawInt pos.col, .ref c']))) := hs.u0
    have nP : P ≠ c' := fun e => by rw [e, nC] at hP; cases hP
    have hs2 := hs1.new (o := CodeO c' (X.env.qual ++ "<lambda>")) (p := c') (by rw [upd_ne (Ne.symm nP)]; exact nC)
    have nB : B c' = none := hs2.nb (.head _)
    refine h h'.objs.size c' ((X.mg "__name__").getD .none) ctv _ _ _ _ I1 (same_upd (o := CodeO c' (X.env.qual ++ "<lambda>")) nB) ⟨?_, fun p' cv hcv => ?_⟩ hs2.fix (Same.refl _) (Heap.get?_push_size _ rfl) ⟨c', oc, vs, t, rfl, Heap.get?_push_of_some _ hoc, hd, hv⟩ fun b o e n => Heap.get?_push_of_some _ (hx b o (fun z => by rw [z, hP] at n; cases n) e)
    · rw [show (ps ++ #[rawInt pos.line, rawInt pos.col, Value.ref c']).toList = ps.toList ++ [rawInt pos.line, rawInt pos.col, .ref c'] by simp]
      exact PySem.TriplesOk_snoc _ _ _ _ hT.1
    · rw [show (ps ++ #[rawInt pos.line, rawInt pos.col, Value.ref c']).toList = ps.toList ++ [rawInt pos.line, rawInt pos.col, .ref c'] by simp] at hcv
      rcases among_app _ hT.1 hcv with z | z
      · obtain ⟨c0, z1, z2⟩ := hT.2 p' cv z
        exact ⟨c0, z1, same_upd nB _ _ z2⟩
      · exact ⟨c', z, upd_same⟩
/-- the places 0.., by what stands there, the lesser first -/
def idxBy (ws : List Int) : List V := ((List.range ws.length).mergeSort fun a b => decide (ws.getD a 0 ≤ ws.getD b 0)).map fun i => V.int ((i : Nat) : Int)
theorem vals_idx {out : List Value} {l : List Nat} (h : PySem.W.EachIs (fun (v : Value) (i : Nat) => ∃ t, v = Value.int ((i : Nat) : Int) t) out l) : Vals (l.map fun i => V.int ((i : Nat) : Int)) out := by
  induction h with
  | nil => exact .nil
  | cons e _ ih => exact .cons e ih
theorem vals_at {ws : List Int} : ∀ {its : List Value}, Vals (ws.map V.int) its → ∀ {i : Nat}, i < ws.length → ∃ t, its.toArray[i]? = some (.int (ws.getD i 0) t) := by
  induction ws with
  | nil => intro its _ i h; cases h
  | cons w r ih =>
    intro its h i hi
    cases h with
    | cons e t =>
      cases i with
      | zero =>
        obtain ⟨t, rfl⟩ := e
        exact ⟨t, by simp⟩
      | succ i =>
        obtain ⟨t2, e2⟩ := ih t (by simpa using hi)
        exact ⟨t2, by simpa using e2⟩
/-- what the lambda asks of its maker's scope -/
structure LamAt (sc scope : Scope) (l a : Str) : Prop where
  kind : scope.kind = .function
  co : scope.isCoroutine = false
  gen : scope.isGenerator = false
  cell : ∀ y ∈ scope.names, y.2 ≠ .cell
  la : scope.names.lookup a = some .local
  ll : scope.names.lookup l = some .free
  free : ∀ y ∈ scope.names, y.2 = .free → sc.names.lookup y.1 = some .cell
def tSortL (K : PySem.W.Frag) (P : Addr) (q : Str) (i : Nat) (ta : TA) : TE := fun σ H Q => ta σ H fun vs H1 => ∃ (B : Hp) (L : Pic) (ps : Array Value) (rg l : Addr) (ws : List Int), vs = [.ref rg] ∧ Hs B ((P, .tbl ps) :: (rg, .rng 0 ((ws.length : Nat) : Int)) :: L) H1 ∧ TabC B ps q ∧ ws.length ≤ 100000 ∧
  σ[i]? = some (some (.ref l)) ∧ (∀ (B2 : Hp) (ps2 : Array Value) (H2 : Hp), Same B B2 → Hs B2 ((P, .tbl ps2) :: (rg, .rng 0 ((ws.length : Nat) : Int)) :: L) H2 → SqL K H2 l (ws.map V.int)) ∧
  ∀ (B2 : Hp) (ps2 : Array Value) (p : Addr) (H3 : Hp), Same B B2 → TabC B2 ps2 q → Hs B2 ((p, .lst (idxBy ws)) :: (P, .tbl ps2) :: L) H3 → Q (.ref p) H3
theorem pe_sortL {c P : Addr} {i : Nat} {l a : Str} {params : Arguments} {p p1 p2 p3 lpos kpos pos : Pos} {scope : Scope} {e : Expr} {ta : TA} (hg : Gl X "sorted") (hm : X.mg "sorted" = none) (ha : PA X [e] ta) (hc : X.calm = true) (hr : Room 1 X.A)
    (TB : TabB X.base X.mg c P) (hcode : X.env.code = .ref c) (S : LamAt X.env.scope scope l a) (hN : X.N[i]? = some l) (hl : X.env.scope.names.lookup l = some .cell)
    (hdef : defaultsOf params X.env = ([], []))
    (hbind : ∀ (f c' : Addr) (pm ctv u : Value), bindArgs (PySem.W.kla_fn "<lambda>" (X.env.qual ++ "<lambda>") params (.Subscript (.Name l p1) (.Name a p2) p3) scope (cloFrom X.env.cells scope.names []) pm (.ref c') ctv) ⟨[u], []⟩ = pure [(a, u)])
    (he : backTo pos (starEach [e] X.env) = (false, eval e X.env) :: backTo pos (starEach [] X.env) := by rfl) (hpl : (backTo pos (starEach [e] X.env)).any (·.1) = false := by rfl)
    (hda : (a == ("__debug__" : Str)) = false := by decide) (hdl : (l == ("__debug__" : Str)) = false := by decide) (hcd : (l == ("__classdict__" : Str)) = false := by decide) :
    PE X (.Call (.Name "sorted" p) [e] [⟨some "key", .Lambda params (.Subscript (.Name l p1) (.Name a p2) p3) scope lpos, kpos⟩] pos) (tSortL X.K P (X.env.qual ++ "<lambda>") i ta) := by
  refine ⟨fun pins s σ H Q I h => ?_⟩
  refine wpAny_Call_Name_kw (ld_blt I hg hm bb_sorted ?_ (by decide) (by decide))
  refine PyProof.Rows.callWith_kw (thn (ha.run pos pins s σ H _ I h) fun us s1 ⟨vs, H1, I1, r1, B, L, ps, rg, lst, ws, ev, hs, hT, hw, hσ, hq, q⟩ => ?_) he hpl (by rfl) (by rfl)
  subst ev
  obtain ⟨u, rfl, e1⟩ := vals_one r1
  cases e1
  have hfree : ∀ y ∈ scope.names, y.2 = .free → ∃ c, X.env.cells.lookup y.1 = some c := fun y hy e => I1.ok.has _ (.inl (S.free y hy e))
  show wpAny _ _ (evalAll [do let v ← eval (.Lambda params (.Subscript (.Name l p1) (.Name a p2) p3) scope lpos) X.env; standAt pos; pure v]) _ _ s1
  refine wpAny_evalAll_cons (wpAny_bind (lam_make3 I1 TB hcode hs hT hdef hfree fun f c' pm ctv B2 ps2 H2 s2 I2 eB hT2 hs2 _ hf hrec _ => wpAny_bind (wpAny_standAt (wpAny_pure (wpAny_evalAll_nil ?_)))))
  show wpAny _ _ (call (.builtin "sorted") [.ref rg] [(Str.ofString "key", .ref f)]) _ _ s2
  -- what the lambda looks at
  have hS := hq _ _ _ eB hs2
  obtain ⟨its, rv, pl, hz⟩ := I2.list hS
  obtain ⟨m, _, loc⟩ := I2.loc
  obtain ⟨w', rw', place⟩ := loc i l (.ref lst) hN hσ (.inr (.inl hl))
  cases rw'
  obtain ⟨c3, hc3, hcell⟩ : ∃ c3, X.env.cells.lookup l = some c3 ∧ s2.heap.IsCell c3 (some (.ref lst)) := by
    rcases place with ⟨k', _⟩ | ⟨_, c3, e', z⟩
    · have k' : X.env.scope.names.lookup l = some .local := k'
      rw [hl] at k'
      cases k'
    · exact ⟨c3, e', z⟩
  have hclo : (cloFrom X.env.cells scope.names []).lookup l = some c3 := by
    obtain ⟨c4, h4⟩ := mem_lookup (cloFrom_has (cells := X.env.cells) (acc := []) (PySem.mem_of_lookup S.ll))
    rcases cloFrom_mem (PySem.mem_of_lookup h4) with hm | ⟨_, z⟩
    · cases hm
    · rw [h4, z, hc3]
      rfl
  obtain ⟨t, u, v, hrg⟩ := (show ObjOk X.prog X.w H2 s2.heap rg (.rng 0 ((ws.length : Nat) : Int)) from I2.hok rg _ (hs2.get (.tail _ (.head _))))
  refine sorted_range_key (n := ws.length) (f := f) (fun i => ws.getD i 0) (I2.ok.hd hc) hrg hw (by have := hr.un; show X.A.units + 2 < cLine; omega) (fun i t h tk hi kp => ?_) fun h1 out c1 h' tk k1 k2 hD eo => ?_
  · obtain ⟨tx, hx⟩ := vals_at rv hi
    obtain ⟨oc, z1, z2⟩ := hcell
    obtain ⟨o, z3, z4, z5⟩ := pl.isList
    exact lam_at_key (s := { s2 with heap := h, toks := tk }) (by have := hr.dp; show X.A.depth < _; omega) (I2.nolimit.keeps kp) (kp _ _ hf) (hrec.keeps kp) S.kind S.co S.gen S.cell S.la S.ll hclo ⟨oc, kp _ _ z1, z2⟩ ⟨o, kp _ _ z3, z4, z5⟩ hx (by omega) (fun u => hbind f c' pm ctv u) hda hdl hcd
  · have I3 : Inv X pins σ H2 { s2 with heap := h1, toks := s2.toks } := I2.kept k1
    have fr : H2 h1.objs.size = none := I3.hok.fresh (Nat.le_refl _)
    have hsl : (idxBy ws).length ≤ sizeLine := by
      unfold idxBy
      rw [List.length_map, List.length_mergeSort, List.length_range]
      exact small6' (by omega)
    have hs3 := hs2.new (o := .lst (idxBy ws)) fr
    exact ⟨.ref h1.objs.size, _, I3.laid (o := .lst (idxBy ws)) (t' := tk) k2 (Nat.le_refl _) ⟨hsl, out, c1, vals_idx eo, hD⟩, rfl, q B2 ps2 _ _ eB hT2 hs3.drop2⟩
end
end L2.BP
namespace L2.BP
open PySem PySem.Spec PyProof.Rows
/-! ### a def whose code object is told -/
theorem FunD.okC {P : Program} {w : World} {K : PySem.W.Frag} {mg : Str → Option Value} {base : Heap} {x qual : Str} {params : Arguments} {body : List Stmt} {scope : Scope} {dvs : List V} {kws : List (Str × V)} {fd : FuncData} {CX : CXT} {N ps : List Str} {k : Nat} {sp : Sp} (p : He.Defn)
    (F : FunD K x qual params body scope dvs kws (He.fAd K p) fd) (S : FnScope N ps scope) (len : ∀ vs H Q E, sp vs H Q E → vs.length = ps.length)
    (hbody : ∀ (cdv : Value) (A : Around) (outer : List Env) (s : Shared) (H : Hp) (vs : List V) (Q : VK) (E : XK), cdv = .ref (He.cT K p).1 → Room k (A.deeper (envOfC qual scope s.heap.objs.size (He.fAd K p) cdv)) → sp vs H Q E →
      ∃ t, PSs (cxOf CX P w K mg base N qual scope (He.fAd K p) cdv A outer s H E) body t ∧ t { nx := fun _ H' => Q .non H', rt := Q } (start N vs) H) : FnOk P w K mg base CX (k + 1) (He.fAd K p) fd ps sp := by
  obtain ⟨oc, od, dV, kV, doc, pm, an, cdv, ct, osl, rfl, lk, hcd, _, _⟩ := F.ex
  obtain ⟨c, rfl⟩ := He.codeIn_ref hcd
  exact fn_of lk hcd S len fun A outer s H vs Q E hr hsp => hbody (.ref c) A outer s H vs Q E (congrArg Value.ref (He.codeOf_eq lk rfl).symm) hr hsp
/-- range(n) as a value -/
def rRng1 : List V → Hp → VK → Prop := fun vs H Q => ∃ i, vs = [V.int i] ∧ ∀ p, H p = none → Q (.ref p) (upd H p (.rng 0 i))
theorem cr_rng1 {X : Cx} : CallR X (.type "range") rRng1 := by
  intro pins s σ H vs us Q I r h
  obtain ⟨i, rfl, q⟩ := h
  obtain ⟨u, rfl, e⟩ := vals_one r
  obtain ⟨t, rfl⟩ := e
  refine call_range_1 ⟨.ref s.heap.objs.size, upd H s.heap.objs.size (.rng 0 i), I.laid (t' := s.toks + 1 + 1) (fun b o e => Heap.get?_push_of_some _ e) (Nat.le_refl _) ?_, rfl, q _ (I.hok.fresh (Nat.le_refl _))⟩
  exact ⟨_, _, _, Heap.get?_push_size _ rfl⟩
theorem bt_range : bootBuiltins "range" = some (.type "range") := by decide +kernel
section
variable {K : PySem.W.Frag} {H B : Hp} {L : Pic} {σ : St} {Q : VK}
theorem c_rngV {i : Int} (hs : Hs B L H) (k : ∀ p H', Hs B ((p, .rng 0 i) :: L) H' → Q (.ref p) H') : rRng1 [.int i] H Q := ⟨i, rfl, fun p hp => k p _ (hs.new hp)⟩
def SortO (K : PySem.W.Frag) (P : Addr) (q : Str) (i : Nat) (σ : St) (vs : List V) (H1 : Hp) (Q : VK) : Prop := ∃ (B : Hp) (L : Pic) (ps : Array Value) (rg l : Addr) (ws : List Int), vs = [.ref rg] ∧ Hs B ((P, .tbl ps) :: (rg, .rng 0 ((ws.length : Nat) : Int)) :: L) H1 ∧ TabC B ps q ∧ ws.length ≤ 100000 ∧
  σ[i]? = some (some (.ref l)) ∧ (∀ (B2 : Hp) (ps2 : Array Value) (H2 : Hp), Same B B2 → Hs B2 ((P, .tbl ps2) :: (rg, .rng 0 ((ws.length : Nat) : Int)) :: L) H2 → SqL K H2 l (ws.map V.int)) ∧
  ∀ (B2 : Hp) (ps2 : Array Value) (p : Addr) (H3 : Hp), Same B B2 → TabC B2 ps2 q → Hs B2 ((p, .lst (idxBy ws)) :: (P, .tbl ps2) :: L) H3 → Q (.ref p) H3
theorem c_sortL {P : Addr} {q : Str} {i : Nat} {ta : TA} (k : ta σ H fun vs H1 => SortO K P q i σ vs H1 Q) : tSortL K P q i ta σ H Q := k
end
end L2.BP
namespace L2.BP
open PySem PySem.Spec PyProof.Rows
/-! ### xs.insert(i, y), x in a list of data, comprehensions over two lists -/
def rInsert : V → List V → Hp → VK → Prop := fun x vs H Q => ∃ (l : Addr) (xs : List V) (i : Int) (y : V), x = .ref l ∧ vs = [.int i, y] ∧ H l = some (.lst xs) ∧ xs.length < sizeLine ∧ 0 ≤ i ∧ i < 2 ^ 63 ∧
    Q .non (upd H l (.lst (xs.take i.toNat ++ [y] ++ xs.drop i.toNat)))
section
variable {K : PySem.W.Frag} {H B : Hp} {L : Pic} {Q : VK} {a : Addr} {xs : List V} {y : V}
theorem c_insert0 {i : Nat} (hs : Hs B ((a, .lst xs) :: L) H) (hz : xs.length < sizeLine) (hi : i < 2 ^ 63) (k : ∀ H', Hs B ((a, .lst (xs.take i ++ [y] ++ xs.drop i)) :: L) H' → Q .non H') : rInsert (.ref a) [.int ((i : Nat) : Int), y] H Q :=
  ⟨a, xs, _, y, rfl, rfl, hs.get (.head _), hz, Int.natCast_nonneg _, by omega, by rw [Int.toNat_natCast]; exact k _ hs.u0⟩
theorem c_inD {b : Addr} {ys : List V} {d : PyData} {ds : List PyData} (h1 : Dp K H y d) (h2 : SqL K H b ys) (h3 : DpAll K H ys ds) (c1 : SeqAt.shaped d = true) (c2 : SeqAt.shaped (.list ds) = true) (k : Q (.bl (ds.any fun z => PyData.eqv z d)) H) : L2.rInD K y (.ref b) H Q :=
  ⟨d, ds, h1, .lst h2 h3, c1, c2, k⟩
end
section
variable {α β : Type} {K : PySem.W.Frag} {a b : Addr} {g : TG} {tt : TT} {te tl : TE} {σ : St} {H B : Hp} {L : Pic} {vs : List Nat}
/-- what a comprehension by places has so far -/
def LcI (I : Nat → List V → Hp → Prop) (B : Hp) (L : Pic) (D : Addr) (i : Nat) : Hp → Prop := fun H' => ∃ acc B', I i acc B' ∧ Same B B' ∧ Hs B' ((D, .lst acc) :: L) H'
theorem c_lcZ {P : Addr → Hp → Prop} (f : α → V) (f2 : β → V) (l : List α) (l2 : List β) (hl : l.length = l2.length) (I : Nat → List V → Hp → Prop) (hs : Hs B L H) (h0 : I 0 [] B) (hq : ∀ B' H', Same B B' → Hs B' L H' → SqL K H' a (l.map f) ∧ SqL K H' b (l2.map f2))
    (turn : ∀ i x y acc B' D T H', l[i]? = some x → l2[i]? = some y → I i acc B' → Same B B' → Hs B' ((T, .tup [f x, f2 y]) :: (D, .lst acc) :: L) H' → g (.ref T) (wipe σ vs) H' fun σ2 H2 => wipe σ2 vs = wipe σ vs ∧ tt σ2 H2 fun b H3 =>
      if b = true then te σ2 H3 fun y H4 => ∃ acc, H4 D = some (.lst acc) ∧ acc.length < sizeLine ∧ LcI I B L D (i + 1) (upd H4 D (.lst (acc ++ [y]))) else LcI I B L D (i + 1) H3)
    (fin : ∀ acc B' D H', I l.length acc B' → Same B B' → Hs B' ((D, .lst acc) :: L) H' → P D H') : LcO (Itz K a b) g tt te vs σ H P := by
  intro D hD
  refine ⟨fun i m H' => m = l.length - i ∧ i ≤ l.length ∧ LcI I B L D i H', ⟨l.length, by simp, Nat.zero_le _, [], B, h0, Same.refl B, hs.new hD⟩, ?_⟩
  rintro i m H' ⟨rfl, hi, acc, B', q, e, h⟩
  obtain ⟨z1, z2⟩ := hq B' H' e h.drop
  by_cases hlt : i < l.length
  · have hlt2 : i < l2.length := by omega
    refine .inr ⟨⟨l.map f, l2.map f2, f l[i], f2 l2[i], z1, z2, by simp [hlt], by simp [hlt2]⟩, LcI I B L D (i + 1), fun H2 p => ⟨_, by omega, rfl, hlt, p⟩, ?_⟩
    rintro v H2 ⟨T, x, y, rfl, hT, rfl, hx, hy⟩
    obtain ⟨x', e1, rfl⟩ := get_map (hx _ z1)
    obtain ⟨y', e2, rfl⟩ := get_map (hy _ z2)
    exact turn i x' y' acc B' D T _ e1 e2 q e (h.new hT)
  · have e' : i = l.length := by omega
    subst e'
    exact .inl ⟨⟨_, _, z1, z2, .inl (by simp)⟩, fin acc B' D H' q e h⟩
end
end L2.BP
namespace L2.BP
open PySem PySem.Spec PyProof.Rows
section
variable {K : PySem.W.Frag} {H B : Hp} {L : Pic} {Q : VK} {a : Addr}
theorem c_sortedI {ns : List Int} (hs : Hs B L H) (h : SqL K H a (ns.map V.int)) (k : ∀ (ms : List Int) p H', ms.Perm ns → ms.Pairwise (· ≤ ·) → Hs B ((p, .lst (ms.map V.int)) :: L) H' → Q (.ref p) H') : L2.rSortedI K [.ref a] H Q :=
  ⟨a, ns, rfl, h, fun ms p h1 h2 hp => k ms p _ h1 h2 (hs.new hp)⟩
theorem c_sortedRev {ns : List Int} (hs : Hs B L H) (h : SqL K H a (ns.map V.int)) (k : ∀ (ms : List Int) p H', ms.Perm ns → ms.Pairwise (fun x y => y ≤ x) → Hs B ((p, .lst (ms.map V.int)) :: L) H' → Q (.ref p) H') : L2.rSortedKw K true [.bl true] [.ref a] [.bl true] H Q :=
  ⟨a, ns, rfl, rfl, h, fun ms p h1 h2 hp => k ms p _ h1 h2 (hs.new hp)⟩
end
end L2.BP
namespace L2.BP
open PySem PySem.Spec PyProof.Rows
/-! ### dicts with tuples as keys -/
section
variable {K : PySem.W.Frag} {σ : St} {H B : Hp} {L : Pic} {Q : VK} {a b : Addr} {v : V} {kvs : List (List Key × V)} {ks : List Key}
theorem c_dnewT (hs : Hs B L H) (k : ∀ p H', Hs B ((p, .dT []) :: L) H' → Q (.ref p) H') : tDNewT σ H Q := fun p hp => k p _ (hs.new hp)
theorem c_dgO2 (h : H a = some (.dT kvs)) (hb : H b = some (.tup (ks.map kV))) (e : valV kvs ks = some v) (k : Q v H) : DgO (.ref a) (.ref b) H Q := ⟨a, v, rfl, by rw [← e]; exact DGet.t h hb, k⟩
def DiO (y x : V) (H : Hp) (Q : VK) : Prop := ∃ a o, x = .ref a ∧ DGet H a y o ∧ Q (.bl o.isSome) H
def DnO (y x : V) (H : Hp) (Q : VK) : Prop := ∃ a o, x = .ref a ∧ DGet H a y o ∧ Q (.bl (!o.isSome)) H
theorem c_din {ty td : TE} (k : ty σ H fun y H1 => td σ H1 fun x H2 => DiO y x H2 Q) : tDIn ty td σ H Q := k
theorem c_dnin {ty td : TE} (k : ty σ H fun y H1 => td σ H1 fun x H2 => DnO y x H2 Q) : tDNotIn ty td σ H Q := k
theorem c_diO (h : H a = some (.dT kvs)) (hb : H b = some (.tup (ks.map kV))) (k : Q (.bl (valV kvs ks).isSome) H) : DiO (.ref b) (.ref a) H Q := ⟨a, _, rfl, DGet.t h hb, k⟩
theorem c_dnO (h : H a = some (.dT kvs)) (hb : H b = some (.tup (ks.map kV))) (k : Q (.bl (!(valV kvs ks).isSome)) H) : DnO (.ref b) (.ref a) H Q := ⟨a, _, rfl, DGet.t h hb, k⟩
def SetD (o i v : V) (H : Hp) (P : Hp → Prop) : Prop := rSetD o i v H P
theorem g_subD {to_ ti_ : TE} {P : St → Hp → Prop} (k : to_ σ H fun o H1 => ti_ σ H1 fun i H2 => SetD o i v H2 (P σ)) : gSub to_ ti_ rSetD v σ H P := k
theorem w_setT {P : Hp → Prop} (hs : Hs B ((a, .dT kvs) :: L) H) (hb : H b = some (.tup (ks.map kV))) (hl : kvs.length < sizeLine) (k : ∀ H', Hs B ((a, .dT (putK kvs ks v)) :: L) H' → P H') : SetD (.ref a) (.ref b) v H P :=
  ⟨a, _, rfl, DPut.t (hs.get (.head _)) hb hl, k _ hs.u0⟩
end
end L2.BP
namespace L2.BP
open PySem PySem.Spec PyProof.Rows L2
/-! ### texts turned round, startswith, str of a number -/
def revS (x : Str) : Str := ⟨x.cps.reverse⟩
theorem rev_picked (x : Str) : ((Builtin.Str.strSliceIndices none none (-1) x.length).filterMap (x.cps[·]?)).toArray = x.cps.reverse := by
  have e : Builtin.Str.strSliceIndices none none (-1) x.length = (List.range x.length).map fun k => x.length - 1 - k := by
    exact PySem.W.krv_sliceRange x.length
  rw [e]
  obtain ⟨⟨l⟩⟩ := x
  show _ = (Array.mk l).reverse
  rw [List.filterMap_map]
  apply Array.ext'
  rw [Array.toList_reverse]
  show (List.range l.length).filterMap _ = l.reverse
  apply List.ext_getElem?
  have key : ∀ n, n ≤ l.length → (List.range n).filterMap ((fun i => (Array.mk l)[i]?) ∘ fun k => l.length - 1 - k) = l.reverse.take n := fun n => by
    induction n with
    | zero => intro _; simp
    | succ n ih =>
      intro hn
      rw [List.range_succ, List.filterMap_append, ih (by omega), List.take_add_one, List.getElem?_reverse (by omega)]
      congr 1
      simp [show l.length - 1 - n < l.length by omega]
  intro i
  show ((List.range l.length).filterMap ((fun i => (Array.mk l)[i]?) ∘ fun k => l.length - 1 - k))[i]? = l.reverse[i]?
  rw [key l.length (Nat.le_refl _), List.take_of_length_le (by simp)]
def tRevS (te : TE) : TE := fun σ H Q => te σ H fun x H1 => ∃ z : Str, x = .str z ∧ z.length ≤ sizeLine ∧ Q (.str (revS z)) H1
theorem pe_revS {X : Cx} {e : Expr} {te : TE} {k : Nat} {p1 p2 p3 pos : Pos} (he : PE X e te) : PE X (.Subscript e (.Slice none none (some (.UnaryOp .USub (.Constant (.int 1) k p1) p2)) p3) pos) (tRevS te) := by
  refine ⟨fun pins s σ H Q I h => ?_⟩
  refine Subscript_ (thn (he.run pins s σ H _ I h) fun v s1 ⟨x, H1, I1, r1, q1⟩ => ?_)
  obtain ⟨z, ex, hz, q⟩ := q1
  subst ex
  obtain ⟨t, rfl⟩ := r1
  have hst : PO X (some (.UnaryOp .USub (.Constant (.int 1) k p1) p2)) (tPart (tUn (rU fun i => .int (-i)) (tC (.int 1)))) := po_some (pe_un un_neg pe_int)
  refine wpAny_Slice (thn (po_none.run pins s1 σ H1 (fun o H2 => o = none ∧ H2 = H1) I1 ⟨rfl, rfl⟩) fun vl s2 ⟨l, H2, I2, pl, el, e2⟩ => ?_)
  subst el e2
  refine thn (po_none.run pins s2 σ H2 (fun o H3 => o = none ∧ H3 = H2) I2 ⟨rfl, rfl⟩) fun vu s3 ⟨u, H3, I3, pu, eu, e3⟩ => ?_
  subst eu e3
  refine thn (hst.run pins s3 σ H3 (fun o H4 => o = some (-1) ∧ H4 = H3) I3 ⟨1, rfl, -1, rfl, rfl, rfl⟩) fun vs s4 ⟨o, H4, I4, ps, eo, e4⟩ => ?_
  subst eo e4
  have I5 : Inv X pins σ H4 { s4 with heap := s4.heap.push { cls := .type "slice", data := .fields #[vl, vu, vs] } } := I4.kept (t' := s4.toks) fun b ob q => Heap.get?_push_of_some _ q
  obtain ⟨l, rfl, el⟩ := IsPart.raw pl
  obtain ⟨u, rfl, eu⟩ := IsPart.raw pu
  obtain ⟨w, rfl, ew⟩ := IsPart.raw ps
  show wpAny (model X.prog X.w) X.A (subscriptTail e (.Slice none none (some (.UnaryOp .USub (.Constant (.int 1) k p1) p2)) p3) (.str z t) (.ref s4.heap.objs.size)) (EP X pins σ Q) X.xe { s4 with heap := s4.heap.push { cls := .type "slice", data := .fields #[partValue l, partValue u, partValue w] } }
  refine tail_any (ops := [.str z t, .ref s4.heap.objs.size]) (typeIs_str _ _ _) F.slot_str_getitem.lookup ?_ (by with_unfolding_all rfl)
  refine wpAny_getItem_str_slice (l := l) (u := u) (st := w) ⟨_, Heap.get?_push_size _ rfl, rfl, rfl⟩ (by rw [ew]; rfl) ?_
  unfold sliceMade slicePicked
  rw [el, eu, ew]
  have c : ¬ (((Option.getD (some (-1 : Int)) 1 == 1) && (Builtin.Str.strSliceIndices none none ((some (-1 : Int)).getD 1) z.length).length == z.length) = true) := by simp
  rw [if_neg c]
  show Made.post (.str ⟨((Builtin.Str.strSliceIndices none none (-1) z.length).filterMap (z.cps[·]?)).toArray⟩) _ _
  rw [rev_picked]
  refine ⟨?_, .str _, H4, I5.tok _, ⟨_, rfl⟩, q⟩
  show (revS z).length ≤ sizeLine
  unfold revS Str.length
  rw [Array.size_reverse]
  exact hz
theorem c_revS {te : TE} {σ : St} {H : Hp} {Q : VK} (k : te σ H fun x H1 => ∃ z : Str, x = .str z ∧ z.length ≤ sizeLine ∧ Q (.str (revS z)) H1) : tRevS te σ H Q := k
def rStartsK : V → List V → Hp → VK → Prop := fun x xs H Q => ∃ a b, x = .str a ∧ xs = [.str b] ∧ Q (.bl (Txt.startswith a b)) H
theorem pe_starts {X : Cx} {o e : Expr} {to te : TE} {apos pos : Pos} (ho : PE X o to) (he : PE X e te) (hs : starEach [e] X.env = [(false, eval e X.env)] := by rfl) (hbase : attributeBase o "startswith" X.env (eval o X.env) = eval o X.env := by rfl) (hline : (apos.endLine == pos.line) = true := by rfl) :
    PE X (.Call (.Attribute o "startswith" apos) [e] [] pos) (tM1 rStartsK to te) := pe_m1 F.slot_str_startswith F.type_str_startswith mt_startswith ho he hs hbase hline
theorem c_starts {a b : Str} {H : Hp} {Q : VK} (k : Q (.bl (Txt.startswith a b)) H) : rStartsK (.str a) [.str b] H Q := ⟨a, b, rfl, rfl, k⟩
def rStrI : List V → Hp → VK → Prop := fun xs H Q => ∃ i : Int, xs = [.int i] ∧ i.natAbs.log2 < 1920 ∧ Q (.str (toString i)) H
theorem cr_strI {X : Cx} : CallR X (.type "str") rStrI := call_str_int
theorem c_strB {b : Nat} {H : Hp} {Q : VK} (hb : b < 2) (k : Q (.str (if b = 1 then "1" else "0")) H) : rStrI [.int ((b : Nat) : Int)] H Q := by
  rcases (by omega : b = 0 ∨ b = 1) with rfl | rfl
  · exact ⟨_, rfl, by decide +kernel, k⟩
  · exact ⟨_, rfl, by decide +kernel, k⟩
/-- x in a list of texts; where it stands -/
theorem c_inStr {K : PySem.W.Frag} {H : Hp} {Q : VK} {p : Addr} {w : Str} {ts : List Str} (h : SqL K H p (ts.map V.str)) (k : Q (.bl (decide (w ∈ ts))) H) : rInU K (.str w) (.ref p) H Q := by
  refine .inl ⟨p, _, rfl, .inl h, rfl, by rw [List.all_map]; simp [L2.flatV], ?_⟩
  have e : L2.inV (.str w) (ts.map V.str) = decide (w ∈ ts) := by
    unfold L2.inV
    rw [List.any_map]
    apply Bool.eq_iff_iff.mpr
    rw [List.any_eq_true, decide_eq_true_eq]
    constructor
    · rintro ⟨x, hx, e⟩
      have e : (x == w) = true := e
      rw [← eq_of_beq e]
      exact hx
    · exact fun hw => ⟨w, hw, beq_self_eq_true w⟩
  rw [e]
  exact k
theorem c_indexS {K : PySem.W.Frag} {H : Hp} {Q : VK} {p : Addr} {w : Str} {ts : List Str} {j : Nat} (h : SqL K H p (ts.map V.str)) (hj : ts[j]? = some w) (hno : ∀ m, m < j → ts[m]? ≠ some w) (k : Q (.int ((j : Nat) : Int)) H) : L2.rIndex K (.ref p) [.str w] H Q := by
  refine ⟨p, _, .str w, j, .str w, rfl, rfl, h, rfl, by rw [List.all_map]; simp [L2.flatV], by rw [List.getElem?_map, hj]; rfl, beq_self_eq_true w, fun m z hm hz => ?_, k⟩
  rw [List.getElem?_map] at hz
  cases e : ts[m]? with
  | none => rw [e] at hz; cases hz
  | some x =>
    rw [e] at hz
    cases hz
    show (x == w) = false
    rw [beq_eq_false_iff_ne]
    rintro rfl
    exact hno m hm e
end L2.BP
section
open L2.BP
/-! steps, as rows of the tactic that the library names walk_at -/
local macro_rules | `(tactic| walk_at "mem") => `(tactic| first | exact .head _ | exact .tail _ (.head _) | exact .tail _ (.tail _ (.head _)) | exact .tail _ (.tail _ (.tail _ (.head _))) | exact .tail _ (.tail _ (.tail _ (.tail _ (.head _)))) | exact .tail _ (.tail _ (.tail _ (.tail _ (.tail _ (.head _))))))
local macro_rules | `(tactic| walk_at "get") => `(tactic| first | assumption | ((with_reducible apply Hs.get); (· assumption); (· walk_at "mem")) | exact (Hs.ex (by assumption)) _ _ (by assumption))
local macro_rules | `(tactic| walk_at "sq") => `(tactic| first | assumption | ((with_reducible apply Hs.sql); (· assumption); (· walk_at "mem")) | ((with_reducible apply Hs.bl); (· assumption); (· assumption)) | ((with_reducible apply SqL.of); (walk_at "get")))
local macro_rules | `(tactic| walk_at "sqt") => `(tactic| first | assumption | ((with_reducible apply Hs.sqt); (· assumption); (· walk_at "mem")) | ((with_reducible apply Hs.bt); (· assumption); (· assumption)) | ((with_reducible apply SqT.of); (walk_at "get")))
local macro_rules | `(tactic| walk_at "bd") => `(tactic| first | decide | omega | assumption)
local macro_rules | `(tactic| walk_at "cmul") => `(tactic| first | exact .inr ⟨by decide, by decide⟩ | exact .inl ⟨by decide, by decide⟩ | exact .inl ⟨by omega, by omega⟩ | exact .inr ⟨by omega, by omega⟩ | assumption)
local macro_rules | `(tactic| walk_at "yes") => `(tactic| first | rfl | assumption | exact decide_eq_true (by first | assumption | omega) | (simp only [Bool.not_eq_true', decide_eq_true_eq, decide_eq_false_iff_not, Bool.and_eq_true, Bool.or_eq_true] <;> omega))
local macro_rules | `(tactic| walk_at "no") => `(tactic| first | rfl | assumption | exact decide_eq_false (by first | assumption | omega) | (simp only [Bool.not_eq_false', decide_eq_true_eq, decide_eq_false_iff_not, Bool.and_eq_false_iff, Bool.or_eq_false_iff] <;> omega))
local macro_rules | `(tactic| walk_at "look") => `(tactic| first | (with_reducible exact look0) | ((with_reducible apply lookS); (· (decide +kernel)); walk_at "look"))
local macro_rules | `(tactic| walk_at "lookn") => `(tactic| first | (with_reducible exact lookN) | ((with_reducible apply lookNS); (· (decide +kernel)); walk_at "lookn"))
local macro_rules | `(tactic| walk_at "put") => `(tactic| first | (with_reducible exact put0) | (with_reducible exact putN) | ((with_reducible apply putS); (· (decide +kernel)); walk_at "put"))
local macro_rules | `(tactic| walk_at "few") => `(tactic| (exact of_decide_eq_true rfl))
local macro_rules | `(tactic| walk_at "s") => `(tactic| first
  | ((with_reducible apply c_var); (· exact rfl))
  | (with_reducible apply c_c)
  | (with_reducible apply c_op)
  | (with_reducible apply w_seq)
  | (with_reducible apply w_asg)
  | (with_reducible apply w_name)
  | (with_reducible apply w_if)
  | (with_reducible apply c_test)
  | (with_reducible apply c_bl)
  | ((with_reducible apply i_t); (· walk_at "yes"))
  | ((with_reducible apply i_f); (· walk_at "no"))
  | (with_reducible apply c_cons)
  | (with_reducible apply c_nil)
  | (with_reducible apply c_cb)
  | (with_reducible apply c_cl)
  | (with_reducible apply w_ret)
  | (with_reducible apply w_drop)
  | (with_reducible apply w_break)
  | (with_reducible apply w_cont)
  | (with_reducible apply w_retN)
  | (with_reducible apply w_par)
  | (with_reducible apply c_parO)
  | (with_reducible apply c_rev)
  | (with_reducible apply g_sub)
  | (with_reducible apply g_attr)
  | (with_reducible apply c_orT)
  | (with_reducible apply c_lenset)
  | (with_reducible apply c_dget)
  | (with_reducible apply c_tpc)
  | (with_reducible apply c_tpn)
  | ((with_reducible apply c_disp); (· assumption); intro _ _ _)
  | (with_reducible apply w_next)
  | (with_reducible apply c_addI)
  | (with_reducible apply c_sub)
  | ((with_reducible apply c_mulI); (· walk_at "cmul"))
  | ((with_reducible apply c_mod); (· walk_at "bd"))
  | ((with_reducible apply c_div); (· exact ⟨by walk_at "bd", by walk_at "bd"⟩))
  | (with_reducible apply c_lt)
  | (with_reducible apply c_le)
  | (with_reducible apply c_gt)
  | (with_reducible apply c_ge)
  | (with_reducible apply c_eqI)
  | ((with_reducible apply c_eqL); (· walk_at "sq"); (· walk_at "sq"))
  | ((with_reducible apply c_neL); (· walk_at "sq"); (· walk_at "sq"))
  | (with_reducible apply c_neI)
  | (with_reducible apply c_eqB)
  | (with_reducible apply c_neB)
  | (with_reducible apply c_eqS)
  | (with_reducible apply c_neS)
  | (with_reducible apply c_isN)
  | (with_reducible apply c_notN)
  | (with_reducible apply c_isB)
  | (with_reducible apply c_notB)
  | (with_reducible apply c_un)
  | (with_reducible apply c_neg)
  | (with_reducible apply c_and)
  | (with_reducible apply c_or)
  | (with_reducible apply c_xor)
  | ((with_reducible apply c_shr); (· walk_at "bd"))
  | ((with_reducible apply c_shl); (· exact ⟨by walk_at "bd", by walk_at "bd", by walk_at "bd"⟩))
  | (with_reducible apply c_B)
  | (with_reducible apply c_tand)
  | (with_reducible apply c_tor)
  | (with_reducible apply c_tnot)
  | (with_reducible apply c_andV)
  | (with_reducible apply c_orV)
  | (with_reducible apply c_notV)
  | (with_reducible apply c_chain)
  | (with_reducible apply c_if)
  | (with_reducible apply c_isi_ii)
  | (with_reducible apply c_isi_ib)
  | ((with_reducible apply c_lenL); (· walk_at "sq"))
  | ((with_reducible apply c_lenT); (· walk_at "sqt"))
  | (with_reducible apply c_isiS)
  | ((with_reducible apply c_ixL); (· (walk_at "sq")); (· first | exact rfl | assumption))
  | ((with_reducible apply c_ixT); (· (walk_at "sqt")); (· first | exact rfl | assumption))
  | (with_reducible apply c_tup)
  | (with_reducible apply c_lst)
  | ((with_reducible apply c_tupO); (· assumption); (· exact small5' (of_decide_eq_true rfl)); intro _ _ _)
  | ((with_reducible apply c_lstO); (· assumption); (· exact small5' (of_decide_eq_true rfl)); intro _ _ _)
  | ((with_reducible apply w_aug); (· exact rfl))
  | (with_reducible apply w_augS)
  | (with_reducible apply c_ckw)
  | (with_reducible apply c_ipAddI)
  | (with_reducible apply c_ipSub)
  | (with_reducible apply c_intI)
  | (with_reducible apply c_intB)
  | (with_reducible apply c_max2)
  | (with_reducible apply c_mt)
  | ((with_reducible apply c_recv); (· (walk_at "get")); (· (walk_at "lookn")))
  | (with_reducible apply c_tfld)
  | ((with_reducible apply c_fld); (· (walk_at "get")); (· assumption); (· assumption); (· (walk_at "look")))
  | (with_reducible apply w_sfld)
  | (with_reducible apply w_sfldAug)
  | ((with_reducible apply c_fldA); (· (walk_at "get")); (· assumption); (· assumption); (· (walk_at "look")))
  | (with_reducible apply c_radd)
  | (with_reducible apply c_rsub)
  | ((with_reducible apply w_put0); (· assumption); (· assumption); (· assumption); (· (walk_at "few")); (· (walk_at "put")); intro _ _)
  | ((with_reducible apply w_put1); (· assumption); (· assumption); (· assumption); (· (walk_at "few")); (· (walk_at "put")); intro _ _)
  | ((with_reducible apply w_put2); (· assumption); (· assumption); (· assumption); (· (walk_at "few")); (· (walk_at "put")); intro _ _)
  | ((with_reducible apply w_aput0); (· assumption); (· (walk_at "few")); (· (walk_at "put")); intro _ _)
  | ((with_reducible apply w_aput1); (· assumption); (· (walk_at "few")); (· (walk_at "put")); intro _ _)
  | ((with_reducible apply w_aput2); (· assumption); (· (walk_at "few")); (· (walk_at "put")); intro _ _)
  | (with_reducible apply c_bm)
  | (with_reducible apply c_bm0)
  | ((with_reducible apply c_tyL); (· (walk_at "sq")))
  | (with_reducible apply c_sl)
  | (with_reducible apply c_part)
  | (with_reducible apply c_nopart)
  | (with_reducible apply c_i)
  | (with_reducible apply c_lc)
  | (with_reducible apply w_for)
  | (with_reducible apply c_iL)
  | (with_reducible apply c_iT)
  | (with_reducible apply c_iR1)
  | (with_reducible apply c_iR3)
  | (with_reducible apply c_iS)
  | (with_reducible apply c_ssO)
  | (with_reducible apply c_made)
  | ((with_reducible apply c_madeO); (· assumption); intro _ _ _ _)
  | (with_reducible apply c_iR2)
  | (with_reducible apply c_yes)
  | (with_reducible apply g_cons)
  | (with_reducible apply g_nil)
  | ((with_reducible apply g_tup); (· (walk_at "sqt")); (· exact rfl))
  | (with_reducible apply c_mk)
  | ((with_reducible apply c_mkO); (· assumption); intro _ _ _ _)
  | (with_reducible apply c_iE)
  | (with_reducible apply c_iZ)
  | ((with_reducible apply c_iE1); (· walk_at "sq"))
  | ((with_reducible apply c_slL); (· assumption); (· walk_at "sq"); intro _ _ _)
  | ((with_reducible apply c_listL); (· assumption); (· walk_at "sq"); intro _ _ _)
  | (with_reducible apply c_din)
  | (with_reducible apply c_dnin)
  | (with_reducible apply g_subD)
  | (with_reducible apply c_min2))
local macro_rules | `(tactic| walk_at "go") => `(tactic| repeat walk_at "s")
local macro_rules | `(tactic| walk_at "deep") => `(tactic| repeat (first | exact List.Mem.head _ | apply List.Mem.tail))
namespace L2.BR
open PySem PySem.Spec PyProof.Rows L2.BP
variable {K : PySem.W.Frag}
/-! ### the script's cells -/
def cellAt (ns : List Int) (k : Int) : Int := if k < ns.length then ns.getD k.toNat 0 else 0
def sp__law_cell_at (K : PySem.W.Frag) : Sp := fun vs H Q _ => ∃ (a : Addr) (ns : List Int) (k : Int), vs = [.ref a, .int k] ∧ SqL K H a (ns.map V.int) ∧ 0 ≤ k ∧ Q (.int (cellAt ns k)) H
theorem len__law_cell_at {vs : List V} {H : Hp} {Q : VK} {E : XK} (h : sp__law_cell_at K vs H Q E) : vs.length = 2 := by
  obtain ⟨a, ns, k, rfl, _⟩ := h
  rfl
theorem at_ints {ns : List Int} {k : Int} (h0 : 0 ≤ k) (h : k < ns.length) : atI (ns.map V.int) k = some (.int (ns.getD k.toNat 0)) := by
  obtain ⟨n, rfl⟩ := Int.eq_ofNat_of_zero_le h0
  have hn : n < ns.length := by omega
  rw [atI_nat (v := .int (ns.getD n 0))]
  · rfl
  · rw [List.getElem?_map, List.getElem?_eq_getElem hn, List.getD_eq_getElem?_getD, List.getElem?_eq_getElem hn]
    rfl
def t__law_cell_at (K : PySem.W.Frag) (W : WX) : TS :=
  (tSeq (tIfS (tTest (tOp rLtU (tVar 1) (tCB (rLenK K) (tCons (tVar 0) tNil)))) (tRet (tOp (rIx K) (tVar 0) (tVar 1))) tNext)
    (tRet (tC (.int 0))))
theorem rd__law_cell_at {W : WX} {vs : List V} {H : Hp} {Q : VK} {E : XK} (h : sp__law_cell_at K vs H Q E) : t__law_cell_at K W { nx := fun _ H' => Q .non H', rt := Q } (start ["_law_script", "_law_k"] vs) H := by
  obtain ⟨a, ns, k, rfl, hS, h0, q⟩ := h
  have hs := Hs.start H
  unfold t__law_cell_at
  walk_at "go"
  refine i_2 (fun c => ?_) (fun c => ?_)
  · have c := of_decide_eq_true c
    rw [List.length_map] at c
    walk_at "go"
    refine c_ixL (by walk_at "sq") (at_ints h0 c) ?_
    rw [show cellAt ns k = ns.getD k.toNat 0 from if_pos c] at q
    exact q
  · have c := of_decide_eq_false c
    rw [List.length_map] at c
    walk_at "go"
    rw [show cellAt ns k = 0 from if_neg c] at q
    exact q
end L2.BR

namespace L2.BR
open PySem PySem.Spec PyProof.Rows L2.BP
variable {K : PySem.W.Frag} {W : WX} {vs : List V} {H : Hp} {Q : VK} {E : XK}
def sp__law_mixed (K : PySem.W.Frag) : Sp := fun vs H Q _ => ∃ c k : Int, vs = [.int c, .int k] ∧ 0 ≤ k ∧ k ≤ 100000 ∧ ∀ m : Int, 0 ≤ m → Q (.int m) H
theorem len__law_mixed (h : sp__law_mixed K vs H Q E) : vs.length = 2 := by
  obtain ⟨c, k, rfl, _⟩ := h
  rfl
def t__law_mixed (K : PySem.W.Frag) (W : WX) : TS :=
  (tRet (tOp rModU (tOp rMulU (tOp rModU (tOp rMulU (tOp rAddU (tOp rAddU (tVar 0) (tOp rMulU (tOp rMulU (tC (.int 7919)) (tVar 1)) (tVar 1))) (tOp rMulU (tC (.int 104729)) (tVar 1))) (tC (.int 48271))) (tC (.int 2147483647))) (tC (.int 69621))) (tC (.int 2147483629))))
theorem rd__law_mixed (h : sp__law_mixed K vs H Q E) : t__law_mixed K W { nx := fun _ H' => Q .non H', rt := Q } (start ["_law_cell", "_law_k"] vs) H := by
  obtain ⟨c, k, rfl, h0, h1, q⟩ := h
  have hs := Hs.start H
  unfold t__law_mixed
  walk_at "go"
  exact q _ (Int.emod_nonneg _ (by decide))
end L2.BR

namespace L2.BR
open PySem PySem.Spec PyProof.Rows L2.BP
variable {K : PySem.W.Frag} {W : WX} {vs : List V} {H : Hp} {Q : VK} {E : XK}
def Tg.btw (a b : Int) : Tg → Bool
  | .int i => decide (a ≤ i) && decide (i ≤ b)
  | _ => false
def sp_is_between (K : PySem.W.Frag) : Sp := fun vs H Q _ => ∃ (v : V) (g : Tg) (a b : Int), vs = [v, .int a, .int b] ∧ Th K H v g ∧ Q (.bl (Tg.btw a b g)) H
theorem len_is_between (h : sp_is_between K vs H Q E) : vs.length = 3 := by
  obtain ⟨v, g, a, b, rfl, _⟩ := h
  rfl
def t_is_between (K : PySem.W.Frag) (W : WX) : TS :=
  (tRet ((tAndV (tCB (rIsi K) (tCons (tVar 0) (tCons (tC (.ty "int")) tNil))) (tAndV (tNotV (tCB (rIsi K) (tCons (tVar 0) (tCons (tC (.ty "bool")) tNil)))) (tChain rLeU rLeU (tVar 1) (tVar 0) (tVar 2))))))
theorem rd_is_between (h : sp_is_between K vs H Q E) : t_is_between K W { nx := fun _ H' => Q .non H', rt := Q } (start ["thing", "least", "most"] vs) H := by
  obtain ⟨v, g, a, b, rfl, hT, q⟩ := h
  have hs := Hs.start H
  unfold t_is_between
  walk_at "go"
  refine c_isiInt hT ?_
  cases g with
  | int i =>
    walk_at "go"
    refine c_isiBool hT ?_
    cases hT
    walk_at "go"
    simp only [Tg.btw] at q
    cases e : decide (a ≤ i) with
    | false => rw [e] at q; walk_at "go"; exact q
    | true => rw [e] at q; walk_at "go"; exact q
  | bl b => walk_at "go"; refine c_isiBool hT ?_; walk_at "go"; exact q
  | _ => walk_at "go"; exact q
/-! counts -/
def btwV (a b : Int) : V → Bool
  | .int i => decide (a ≤ i) && decide (i ≤ b)
  | _ => false
theorem btw_of {a b : Int} {v : V} {g : Tg} (h : Th K H v g) : Tg.btw a b g = btwV a b v := by cases h <;> rfl
theorem btw_ints {a b : Int} : ∀ {xs : List V}, xs.all (btwV a b) = true → ∃ ns : List Int, xs = ns.map V.int ∧ ∀ n ∈ ns, a ≤ n ∧ n ≤ b
  | [], _ => ⟨[], rfl, fun _ z => nomatch z⟩
  | x :: r, h => by
    rw [List.all_cons, Bool.and_eq_true] at h
    obtain ⟨ns, rfl, hn⟩ := btw_ints h.2
    cases x with
    | int i =>
      have h1 := h.1
      simp only [btwV, Bool.and_eq_true, decide_eq_true_eq] at h1
      refine ⟨i :: ns, rfl, fun n m => ?_⟩
      rcases List.mem_cons.mp m with rfl | m
      · exact h1
      · exact hn n m
    | _ => cases h.1
end L2.BR

namespace L2.BR
open PySem PySem.Spec PyProof.Rows L2.BP
/-! ### codes in order -/
structure CSt where
  code : Nat
  last : Nat
  out : List (Option (Nat × Nat))
def lenAt (ws : List Int) (p : Nat) : Nat := (ws.getD p 0).toNat
def cstep (ws : List Int) (s : CSt) (p : Nat) : CSt := if 0 < lenAt ws p then ⟨s.code * 2 ^ (lenAt ws p - s.last) + 1, lenAt ws p, s.out.set p (some (s.code * 2 ^ (lenAt ws p - s.last), lenAt ws p))⟩ else s
/-- the order: lesser lengths first, of alike ones the lesser place -/
def ordOf (ws : List Int) : List Nat := (List.range ws.length).mergeSort fun a b => decide (ws.getD a 0 ≤ ws.getD b 0)
def codeFold (ws : List Int) : CSt := (ordOf ws).foldl (cstep ws) ⟨0, 0, List.replicate ws.length none⟩
def codesOf (ws : List Int) : List (Option (Nat × Nat)) := (codeFold ws).out
theorem ord_perm (ws : List Int) : (ordOf ws).Perm (List.range ws.length) := List.mergeSort_perm _ _
theorem ord_mem {ws : List Int} {p : Nat} (h : p ∈ ordOf ws) : p < ws.length := List.mem_range.mp ((ord_perm ws).mem_iff.mp h)
theorem ord_length (ws : List Int) : (ordOf ws).length = ws.length := by rw [(ord_perm ws).length_eq, List.length_range]
theorem ord_sorted (ws : List Int) : (ordOf ws).Pairwise fun a b => ws.getD a 0 ≤ ws.getD b 0 := by
  have h := List.pairwise_mergeSort (le := fun a b => decide (ws.getD a 0 ≤ ws.getD b 0)) (fun a b c h1 h2 => by
    rw [decide_eq_true_eq] at *
    omega) (fun a b => by
    rw [Bool.or_eq_true, decide_eq_true_eq, decide_eq_true_eq]
    omega) (List.range ws.length)
  exact h.imp fun h => of_decide_eq_true h
/-- alike ones stand by their places -/
theorem ord_alike (ws : List Int) (L : Int) : (ordOf ws).filter (fun p => decide (ws.getD p 0 = L)) = (List.range ws.length).filter fun p => decide (ws.getD p 0 = L) := by
  have sub : List.Sublist ((List.range ws.length).filter fun p => decide (ws.getD p 0 = L)) (ordOf ws) := by
    refine List.sublist_mergeSort (le := fun a b => decide (ws.getD a 0 ≤ ws.getD b 0)) (fun a b c h1 h2 => by
      rw [decide_eq_true_eq] at *
      omega) (fun a b => by
      rw [Bool.or_eq_true, decide_eq_true_eq, decide_eq_true_eq]
      omega) ?_ List.filter_sublist
    refine List.Pairwise.imp_of_mem (R := fun a b => a < b) (fun {a b} ha hb _ => ?_) (List.pairwise_lt_range.filter _)
    have h1 := of_decide_eq_true (List.mem_filter.mp ha).2
    have h2 := of_decide_eq_true (List.mem_filter.mp hb).2
    exact decide_eq_true (by omega)
  have sub2 : List.Sublist ((List.range ws.length).filter fun p => decide (ws.getD p 0 = L)) ((ordOf ws).filter fun p => decide (ws.getD p 0 = L)) := by
    have z := sub.filter fun p => decide (ws.getD p 0 = L)
    rw [List.filter_filter] at z
    simpa using z
  exact (sub2.eq_of_length ((ord_perm ws).filter _).length_eq.symm).symm
/-- an ordered row by its kinds -/
theorem sorted_split {ws : List Int} (m : Int) : ∀ {l : List Nat}, l.Pairwise (fun a b => ws.getD a 0 ≤ ws.getD b 0) → l.filter (fun p => decide (ws.getD p 0 ≤ m + 1)) = l.filter (fun p => decide (ws.getD p 0 ≤ m)) ++ l.filter (fun p => decide (ws.getD p 0 = m + 1))
  | [], _ => rfl
  | a :: l, h => by
    obtain ⟨h1, h2⟩ := List.pairwise_cons.mp h
    have ih := sorted_split m h2
    by_cases c1 : ws.getD a 0 ≤ m
    · rw [List.filter_cons, List.filter_cons, List.filter_cons, if_pos (decide_eq_true (show ws.getD a 0 ≤ m + 1 by omega)), if_pos (decide_eq_true c1), if_neg (by rw [decide_eq_true_eq]; omega), ih]
      rfl
    · have e1 : l.filter (fun p => decide (ws.getD p 0 ≤ m)) = [] := List.filter_eq_nil_iff.mpr fun b hb => by
        have := h1 b hb
        rw [decide_eq_true_eq]
        omega
      rw [e1, List.nil_append] at ih
      rw [List.filter_cons, List.filter_cons, List.filter_cons, if_neg (show ¬ (decide (ws.getD a 0 ≤ m)) = true by rw [decide_eq_true_eq]; exact c1), e1, List.nil_append]
      by_cases c2 : ws.getD a 0 = m + 1
      · rw [if_pos (decide_eq_true (by omega)), if_pos (decide_eq_true c2), ih]
      · rw [if_neg (by rw [decide_eq_true_eq]; omega), if_neg (by rw [decide_eq_true_eq]; exact c2), ih]
/-! the law's own way: length by length -/
def lstep (L : Nat) (s : Nat × List (Option (Nat × Nat))) (p : Nat) : Nat × List (Option (Nat × Nat)) := (s.1 + 1, s.2.set p (some (s.1, L)))
def lround (ws : List Int) (s : Nat × List (Option (Nat × Nat))) (L : Nat) : Nat × List (Option (Nat × Nat)) :=
  ((List.range ws.length).filter fun p => decide (ws.getD p 0 = ((L : Nat) : Int))).foldl (lstep L) (s.1 * 2, s.2)
def lawFold (ws : List Int) (n : Nat) : Nat × List (Option (Nat × Nat)) := ((List.range n).map (· + 1)).foldl (lround ws) (0, List.replicate ws.length none)
/-- both stand alike at the length L -/
def Alike (L : Nat) (c : CSt) (s : Nat × List (Option (Nat × Nat))) : Prop := c.last ≤ L ∧ s.1 = c.code * 2 ^ (L - c.last) ∧ s.2 = c.out
theorem alike_fold {ws : List Int} {L : Nat} (h1 : 1 ≤ L) : ∀ {l : List Nat} {c : CSt} {s : Nat × List (Option (Nat × Nat))}, (∀ p ∈ l, ws.getD p 0 = ((L : Nat) : Int)) → Alike L c s → Alike L (l.foldl (cstep ws) c) (l.foldl (lstep L) s)
  | [], _, _, _, h => h
  | p :: l, c, s, hl, ⟨a1, a2, a3⟩ => by
    have hp : lenAt ws p = L := by
      unfold lenAt
      rw [hl p (.head _)]
      omega
    rw [List.foldl_cons, List.foldl_cons]
    refine alike_fold h1 (fun q hq => hl q (.tail _ hq)) ?_
    unfold cstep lstep
    rw [hp, if_pos (by omega)]
    exact ⟨Nat.le_refl _, by rw [a2, Nat.sub_self, Nat.pow_zero, Nat.mul_one], by rw [a2, a3]⟩
theorem alike_next {L : Nat} {c : CSt} {s : Nat × List (Option (Nat × Nat))} (h : Alike L c s) : Alike (L + 1) c (s.1 * 2, s.2) := by
  obtain ⟨a1, a2, a3⟩ := h
  refine ⟨by omega, ?_, a3⟩
  show s.1 * 2 = _
  rw [a2, show L + 1 - c.last = (L - c.last) + 1 by omega, Nat.pow_succ, Nat.mul_assoc]
theorem law_alike {ws : List Int} (hw : ∀ n ∈ ws, 0 ≤ n) : ∀ n, Alike n (((ordOf ws).filter fun p => decide (ws.getD p 0 ≤ ((n : Nat) : Int))).foldl (cstep ws) ⟨0, 0, List.replicate ws.length none⟩) (lawFold ws n)
  | 0 => by
    have key : ∀ (l : List Nat) (c : CSt), (∀ p ∈ l, lenAt ws p = 0) → l.foldl (cstep ws) c = c := fun l => by
      induction l with
      | nil => intro c _; rfl
      | cons p l ih =>
        intro c hl
        rw [List.foldl_cons, show cstep ws c p = c by unfold cstep; rw [if_neg (by rw [hl p (.head _)]; decide)]]
        exact ih c fun q hq => hl q (.tail _ hq)
    rw [key _ _ fun p hp => by
      have h := of_decide_eq_true (List.mem_filter.mp hp).2
      unfold lenAt
      omega]
    exact ⟨Nat.le_refl _, rfl, rfl⟩
  | n + 1 => by
    have ih := law_alike hw n
    have e := sorted_split (ws := ws) ((n : Nat) : Int) (ord_sorted ws)
    rw [show (((n + 1 : Nat) : Nat) : Int) = ((n : Nat) : Int) + 1 by omega, e, List.foldl_append, ord_alike]
    unfold lawFold
    rw [List.range_succ, List.map_append, List.foldl_append]
    show Alike (n + 1) _ (lround ws (lawFold ws n) (n + 1))
    unfold lround
    rw [show (((n + 1 : Nat) : Nat) : Int) = ((n : Nat) : Int) + 1 by omega]
    exact alike_fold (by omega) (fun p hp => by
      have h := of_decide_eq_true (List.mem_filter.mp hp).2
      omega) (alike_next ih)
theorem law_codes {ws : List Int} (hw : ∀ n ∈ ws, 0 ≤ n ∧ n ≤ 12) : (lawFold ws 12).2 = codesOf ws := by
  obtain ⟨_, _, h⟩ := law_alike (fun n hn => (hw n hn).1) 12
  rw [h]
  unfold codesOf codeFold
  congr 2
  refine List.filter_eq_self.mpr fun p hp => decide_eq_true ?_
  have hl := ord_mem hp
  have := (hw _ (List.getElem_mem hl)).2
  rw [List.getD_eq_getElem?_getD, List.getElem?_eq_getElem hl]
  exact this
/-! no code begins another one -/
def Good (c : CSt) : Prop := (∀ p x l : Nat, c.out[p]? = some (some (x, l)) → 1 ≤ l ∧ l ≤ c.last ∧ (x + 1) * 2 ^ (c.last - l) ≤ c.code) ∧
  ∀ p q x l y m : Nat, p ≠ q → c.out[p]? = some (some (x, l)) → c.out[q]? = some (some (y, m)) → l ≤ m → y / 2 ^ (m - l) ≠ x
theorem good_none (n : Nat) : Good ⟨0, 0, List.replicate n none⟩ := by
  have key : ∀ p x l : Nat, (List.replicate n (none : Option (Nat × Nat)))[p]? = some (some (x, l)) → False := fun p x l h => by
    rw [List.getElem?_replicate] at h
    split at h <;> cases h
  exact ⟨fun p x l h => (key p x l h).elim, fun p q x l y m _ h => (key p x l h).elim⟩
theorem good_step {ws : List Int} {c : CSt} {p : Nat} (h : Good c) (hl : 0 < lenAt ws p → c.last ≤ lenAt ws p) : Good (cstep ws c p) := by
  unfold cstep
  by_cases h0 : 0 < lenAt ws p
  · rw [if_pos h0]
    have hl := hl h0
    obtain ⟨g1, g2⟩ := h
    have up : ∀ q x l : Nat, c.out[q]? = some (some (x, l)) → 1 ≤ l ∧ l ≤ lenAt ws p ∧ (x + 1) * 2 ^ (lenAt ws p - l) ≤ c.code * 2 ^ (lenAt ws p - c.last) := fun q x l e => by
      obtain ⟨a0, a1, a2⟩ := g1 q x l e
      refine ⟨a0, by omega, ?_⟩
      rw [show lenAt ws p - l = (c.last - l) + (lenAt ws p - c.last) by omega, Nat.pow_add, ← Nat.mul_assoc]
      exact Nat.mul_le_mul_right _ a2
    have at_ : ∀ q x l : Nat, (c.out.set p (some (c.code * 2 ^ (lenAt ws p - c.last), lenAt ws p)))[q]? = some (some (x, l)) → (q = p ∧ x = c.code * 2 ^ (lenAt ws p - c.last) ∧ l = lenAt ws p) ∨ (q ≠ p ∧ c.out[q]? = some (some (x, l))) := fun q x l e => by
      by_cases hq : p = q
      · subst hq
        by_cases hlt : p < c.out.length
        · rw [List.getElem?_set_self hlt] at e
          cases e
          exact .inl ⟨rfl, rfl, rfl⟩
        · rw [List.getElem?_eq_none (by rw [List.length_set]; omega)] at e
          cases e
      · rw [List.getElem?_set_ne hq] at e
        exact .inr ⟨Ne.symm hq, e⟩
    refine ⟨fun q x l e => ?_, fun q r x l y m hne e1 e2 hlm => ?_⟩
    · rcases at_ q x l e with ⟨_, rfl, rfl⟩ | ⟨_, e⟩
      · refine ⟨h0, Nat.le_refl _, ?_⟩
        show (c.code * 2 ^ (lenAt ws p - c.last) + 1) * 2 ^ (lenAt ws p - lenAt ws p) ≤ c.code * 2 ^ (lenAt ws p - c.last) + 1
        rw [Nat.sub_self, Nat.pow_zero, Nat.mul_one]
        exact Nat.le_refl _
      · obtain ⟨a0, a1, a2⟩ := up q x l e
        exact ⟨a0, a1, Nat.le_succ_of_le a2⟩
    · rcases at_ q x l e1 with ⟨hq, rfl, rfl⟩ | ⟨hq, e1⟩
      · rcases at_ r y m e2 with ⟨hr, rfl, rfl⟩ | ⟨hr, e2⟩
        · exact absurd (hq.trans hr.symm) hne
        · obtain ⟨a0, a1, a2⟩ := up r y m e2
          have e : m = lenAt ws p := by omega
          subst e
          rw [Nat.sub_self, Nat.pow_zero, Nat.mul_one] at a2
          rw [Nat.sub_self, Nat.pow_zero, Nat.div_one]
          omega
      · rcases at_ r y m e2 with ⟨hr, rfl, rfl⟩ | ⟨hr, e2⟩
        · obtain ⟨a0, a1, a2⟩ := up q x l e1
          have z : x + 1 ≤ c.code * 2 ^ (lenAt ws p - c.last) / 2 ^ (lenAt ws p - l) := (Nat.le_div_iff_mul_le (Nat.two_pow_pos _)).mpr a2
          omega
        · exact g2 q r x l y m hne e1 e2 hlm
  · rw [if_neg h0]
    exact h
/-- along the order -/
theorem fold_good {ws : List Int} : ∀ {l : List Nat} {c : CSt} {k : Nat}, l.Pairwise (fun a b => ws.getD a 0 ≤ ws.getD b 0) → (∀ q ∈ l, 0 < lenAt ws q → c.last ≤ lenAt ws q) → Good c → c.code ≤ k * 2 ^ c.last → (∀ q ∈ l, lenAt ws q ≤ 12) → c.last ≤ 12 →
    Good (l.foldl (cstep ws) c) ∧ (l.foldl (cstep ws) c).code ≤ (k + l.length) * 2 ^ (l.foldl (cstep ws) c).last ∧ (l.foldl (cstep ws) c).last ≤ 12 ∧ (l.foldl (cstep ws) c).out.length = c.out.length
  | [], _, _, _, _, g, hk, _, h12 => ⟨g, hk, h12, rfl⟩
  | p :: l, c, k, hp, hl, g, hk, hm, h12 => by
    obtain ⟨h1, h2⟩ := List.pairwise_cons.mp hp
    rw [List.foldl_cons]
    have gs := good_step (ws := ws) (p := p) g (hl p (.head _))
    by_cases h0 : 0 < lenAt ws p
    · have hlp := hl p (.head _) h0
      have e : cstep ws c p = ⟨c.code * 2 ^ (lenAt ws p - c.last) + 1, lenAt ws p, c.out.set p (some (c.code * 2 ^ (lenAt ws p - c.last), lenAt ws p))⟩ := by unfold cstep; rw [if_pos h0]
      rw [e] at gs ⊢
      have bd : c.code * 2 ^ (lenAt ws p - c.last) + 1 ≤ (k + 1) * 2 ^ lenAt ws p := by
        have z := Nat.mul_le_mul_right (2 ^ (lenAt ws p - c.last)) hk
        rw [Nat.mul_assoc, ← Nat.pow_add, show c.last + (lenAt ws p - c.last) = lenAt ws p by omega] at z
        have z2 := Nat.two_pow_pos (lenAt ws p)
        rw [Nat.add_mul]
        omega
      obtain ⟨a1, a2, a3, a4⟩ := fold_good (c := ⟨c.code * 2 ^ (lenAt ws p - c.last) + 1, lenAt ws p, c.out.set p (some (c.code * 2 ^ (lenAt ws p - c.last), lenAt ws p))⟩) h2 (fun q hq _ => by
        have z := h1 q hq
        show lenAt ws p ≤ lenAt ws q
        unfold lenAt
        omega) gs bd (fun q hq => hm q (.tail _ hq)) (hm p (.head _))
      refine ⟨a1, ?_, a3, by rw [a4]; exact List.length_set ..⟩
      rw [List.length_cons, show k + (l.length + 1) = k + 1 + l.length by omega]
      exact a2
    · have e : cstep ws c p = c := by unfold cstep; rw [if_neg h0]
      rw [e]
      obtain ⟨a1, a2, a3, a4⟩ := fold_good h2 (fun q hq => hl q (.tail _ hq)) g hk (fun q hq => hm q (.tail _ hq)) h12
      refine ⟨a1, Nat.le_trans a2 (Nat.mul_le_mul_right _ (by rw [List.length_cons]; omega)), a3, a4⟩
theorem lenAt_le {ws : List Int} (hw : ∀ n ∈ ws, n ≤ 12) (p : Nat) : lenAt ws p ≤ 12 := by
  unfold lenAt
  rw [List.getD_eq_getElem?_getD]
  cases e : ws[p]? with
  | none => simp
  | some x =>
    have := hw x (List.mem_of_getElem? e)
    simp only [Option.getD_some]
    omega
/-- what stands when the places pre are done, p being next -/
theorem at_place {ws : List Int} (hw : ∀ n ∈ ws, n ≤ 12) {pre post : List Nat} {p : Nat} (e : ordOf ws = pre ++ p :: post) :
    Good (pre.foldl (cstep ws) ⟨0, 0, List.replicate ws.length none⟩) ∧ (pre.foldl (cstep ws) ⟨0, 0, List.replicate ws.length none⟩).code ≤ pre.length * 2 ^ 12 ∧ (pre.foldl (cstep ws) ⟨0, 0, List.replicate ws.length none⟩).out.length = ws.length ∧
      (0 < lenAt ws p → (pre.foldl (cstep ws) ⟨0, 0, List.replicate ws.length none⟩).last ≤ lenAt ws p) ∧ p < ws.length := by
  have hs := ord_sorted ws
  rw [e] at hs
  obtain ⟨s1, s2, s3⟩ := List.pairwise_append.mp hs
  obtain ⟨a1, a2, a3, a4⟩ := fold_good (c := ⟨0, 0, List.replicate ws.length none⟩) (k := 0) s1 (fun _ _ _ => Nat.zero_le _) (good_none _) (Nat.zero_le _) (fun q _ => lenAt_le hw q) (Nat.zero_le _)
  refine ⟨a1, ?_, by rw [a4, List.length_replicate], fun _ => ?_, ord_mem (by rw [e]; simp)⟩
  · rw [Nat.zero_add] at a2
    exact Nat.le_trans a2 (Nat.mul_le_mul_left _ (Nat.pow_le_pow_right (by decide) a3))
  · have key : ∀ (l : List Nat) (c : CSt) (b : Nat), c.last ≤ b → (∀ q ∈ l, lenAt ws q ≤ b) → (l.foldl (cstep ws) c).last ≤ b := fun l => by
      induction l with
      | nil => intro c b h _; exact h
      | cons q l ih =>
        intro c b h hl
        rw [List.foldl_cons]
        refine ih _ b ?_ fun r hr => hl r (.tail _ hr)
        unfold cstep
        split
        · exact hl q (.head _)
        · exact h
    refine key pre _ _ (Nat.zero_le _) fun q hq => ?_
    have z := s3 q hq p (.head _)
    unfold lenAt
    omega
theorem codes_good {ws : List Int} (hw : ∀ n ∈ ws, n ≤ 12) : Good (codeFold ws) ∧ (codesOf ws).length = ws.length := by
  obtain ⟨a1, a2, a3, a4⟩ := fold_good (l := ordOf ws) (c := ⟨0, 0, List.replicate ws.length none⟩) (k := 0) (ord_sorted ws) (fun _ _ _ => Nat.zero_le _) (good_none _) (Nat.zero_le _) (fun q _ => lenAt_le hw q) (Nat.zero_le _)
  exact ⟨a1, by unfold codesOf codeFold; rw [a4, List.length_replicate]⟩
end L2.BR

namespace L2.BR
open PySem PySem.Spec PyProof.Rows L2.BP
variable {K : PySem.W.Frag} {W : WX} {vs : List V} {H : Hp} {Q : VK} {E : XK}
/-! ### lengths and codes -/
def krV : V → Nat
  | .int n => if 0 < n then 2 ^ (12 - n.toNat) else 0
  | _ => 0
def kraftV (xs : List V) : Nat := (xs.map krV).sum
def lenOk : Tg → Bool
  | .lst xs => decide (1 ≤ xs.length) && decide (xs.length ≤ 300) && xs.all (btwV 0 12) && (decide (0 < kraftV xs) && decide (kraftV xs ≤ 4096))
  | _ => false
theorem lens_of {g : Tg} (h : lenOk g = true) : ∃ ws : List Int, g = .lst (ws.map V.int) ∧ 1 ≤ ws.length ∧ ws.length ≤ 300 ∧ (∀ n ∈ ws, 0 ≤ n ∧ n ≤ 12) := by
  cases g with
  | lst xs =>
    simp only [lenOk, Bool.and_eq_true, decide_eq_true_eq] at h
    obtain ⟨⟨⟨h1, h2⟩, h3⟩, _⟩ := h
    obtain ⟨ws, rfl, hw⟩ := btw_ints h3
    rw [List.length_map] at h1 h2
    exact ⟨ws, rfl, h1, h2, hw⟩
  | _ => cases h
def sp_need_lengths (K : PySem.W.Frag) : Sp := fun vs H Q E => ∃ (v : V) (g : Tg), vs = [v] ∧ Th K H v g ∧ Tg.ok K H g ∧
  (lenOk g = true → RetV H Q .non) ∧ (lenOk g = false → ∀ H', Same H H' → E (.ref (He.ga K "BadLengths")) none H')
theorem len_need_lengths (h : sp_need_lengths K vs H Q E) : vs.length = 1 := by
  obtain ⟨v, g, rfl, _⟩ := h
  rfl
def t_need_lengths (K : PySem.W.Frag) (W : WX) : TS :=
  (tSeq (tIfS ((tOr (tNot (tB (tCB (rIsi K) (tCons (tVar 0) (tCons (tC (.ty "list")) tNil))))) (tNot (tTest (tChain rLeU rLeU (tC (.int 1)) (tCB (rLenK K) (tCons (tVar 0) tNil)) (tC (.int 300))))))) (tRz (He.ga K "BadLengths") W) tNext)
    (tSeq (tAsg (tC (.int 0)) (gName 1))
    (tSeq (tFor (iList K (tVar 0)) (gName 2) (tSeq (tIfS (tNot (tB (tCl (sp_is_between K) [] W (tCons (tVar 2) (tCons (tC (.int 0)) (tCons (tC (.int 12)) tNil)))))) (tRz (He.ga K "BadLengths") W) tNext)
    (tIfS (tTest (tOp rGtU (tVar 2) (tC (.int 0)))) (tAug 1 (tOp rShlU (tC (.int 1)) (tOp rSubU (tC (.int 12)) (tVar 2))) ipAddU) tNext)))
    (tIfS (tNot (tTest (tChain rLtU rLeU (tC (.int 0)) (tVar 1) (tOp rShlU (tC (.int 1)) (tC (.int 12)))))) (tRz (He.ga K "BadLengths") W) tNext))))
theorem rd_need_lengths (h : sp_need_lengths K vs H Q E) : t_need_lengths K (fun c d _ H2 => E c d H2) { nx := fun _ H' => Q .non H', rt := Q } (start ["lengths", "room", "length"] vs) H := by
  obtain ⟨v, g, rfl, hT, hok, q, qe⟩ := h
  have hs := Hs.start H
  unfold t_need_lengths
  walk_at "go"
  refine c_isiList hT ?_
  cases g with
  | lst xs =>
    cases hT with
    | @lst a _ hxs =>
    walk_at "go"
    by_cases c1 : 1 ≤ xs.length
    rotate_left
    · have bad : lenOk (.lst xs) = false := by simp [lenOk, c1]
      rw [decide_eq_false (by omega : ¬ (1 : Int) ≤ ((xs.length : Nat) : Int))]
      walk_at "go"
      exact qe bad _ hs.ex
    rw [decide_eq_true (by omega : (1 : Int) ≤ ((xs.length : Nat) : Int))]
    walk_at "go"
    by_cases c2 : xs.length ≤ 300
    rotate_left
    · have bad : lenOk (.lst xs) = false := by simp [lenOk, c2]
      rw [decide_eq_false (by omega : ¬ ((xs.length : Nat) : Int) ≤ 300)]
      walk_at "go"
      exact qe bad _ hs.ex
    rw [decide_eq_true (by omega : ((xs.length : Nat) : Int) ≤ 300)]
    walk_at "go"
    refine w_forL (id : V → V) xs (fun pre σ' L' B' => ∃ w2, σ' = [some (.ref a), some (.int ((kraftV pre : Nat) : Int)), w2] ∧ B' = H ∧ L' = [] ∧ pre.all (btwV 0 12) = true) hs ⟨none, rfl, rfl, rfl, rfl⟩ ?_ ?_ ?_
    · rintro pre post σ' L' B' H' _ ⟨w2, rfl, rfl, rfl, _⟩ h
      rw [List.map_id]
      exact h.bl hxs
    · rintro pre y post σ' L' B' H' e ⟨w2, rfl, rfl, rfl, hp⟩ h
      obtain ⟨g, hg⟩ := hok.1 y (by rw [e]; simp)
      have hg := hg.same h.ex
      rw [id_eq]
      walk_at "go"
      refine ⟨y, g, 0, 12, rfl, hg, ?_⟩
      rw [btw_of hg]
      cases c3 : btwV 0 12 y with
      | false =>
        have bad : lenOk (.lst xs) = false := by
          have z : xs.all (btwV 0 12) = false := by
            rw [e, List.all_append, List.all_cons, c3]
            simp
          simp only [lenOk, z, Bool.and_false, Bool.false_and]
        walk_at "go"
        exact qe bad _ h.ex
      | true =>
        have hp2 : (pre ++ [y]).all (btwV 0 12) = true := by
          rw [List.all_append, hp, List.all_cons, c3]
          rfl
        have hk2 : kraftV (pre ++ [y]) = kraftV pre + krV y := by
          unfold kraftV
          rw [List.map_append, List.sum_append]
          simp
        cases y with
        | int n =>
          simp only [btwV, Bool.and_eq_true, decide_eq_true_eq] at c3
          walk_at "go"
          by_cases c4 : 0 < n
          · refine i_t (decide_eq_true c4) ?_
            walk_at "go"
            have ek : ((kraftV pre : Nat) : Int) + 1 * 2 ^ (12 - n).toNat = ((kraftV (pre ++ [V.int n]) : Nat) : Int) := by
              rw [hk2]
              show _ = ((kraftV pre + (if 0 < n then 2 ^ (12 - n.toNat) else 0) : Nat) : Int)
              rw [if_pos c4, show (12 - n).toNat = 12 - n.toNat by omega, Int.one_mul]
              push_cast
              rfl
            rw [ek]
            exact ⟨_, _, ⟨_, rfl, rfl, rfl, hp2⟩, h⟩
          · refine i_f (decide_eq_false c4) ?_
            walk_at "go"
            have ek : kraftV (pre ++ [V.int n]) = kraftV pre := by
              rw [hk2]
              show kraftV pre + (if 0 < n then 2 ^ (12 - n.toNat) else 0) = _
              rw [if_neg c4]
              rfl
            rw [← ek]
            exact ⟨_, _, ⟨_, rfl, rfl, rfl, hp2⟩, h⟩
        | _ => cases c3
    · rintro σ' L' B' H' ⟨w2, rfl, rfl, rfl, hp⟩ h
      walk_at "go"
      have lk : lenOk (.lst xs) = (decide (0 < kraftV xs) && decide (kraftV xs ≤ 4096)) := by
        simp only [lenOk, hp, decide_eq_true c1, decide_eq_true c2, Bool.true_and]
      by_cases c5 : 0 < kraftV xs
      · refine i_t (decide_eq_true (by omega)) ?_
        walk_at "go"
        rw [show (1 * 2 ^ (12 : Int).toNat : Int) = 4096 by decide +kernel]
        by_cases c6 : kraftV xs ≤ 4096
        · rw [decide_eq_true (by omega : ((kraftV xs : Nat) : Int) ≤ 4096)]
          walk_at "go"
          exact q (by rw [lk, decide_eq_true c5, decide_eq_true c6]; rfl) _ h.ex
        · rw [decide_eq_false (by omega : ¬ ((kraftV xs : Nat) : Int) ≤ 4096)]
          walk_at "go"
          exact qe (by rw [lk, decide_eq_false c6, Bool.and_false]) _ h.ex
      · refine i_f (decide_eq_false (by omega)) ?_
        walk_at "go"
        exact qe (by rw [lk, decide_eq_false c5, Bool.false_and]) _ h.ex
  | _ => walk_at "go"; exact qe rfl _ hs.ex
/-- the table of code objects of codes_of's lambda -/
abbrev tP (K : PySem.W.Frag) : Addr := (He.cT K ("codes_of", none)).2
abbrev qC : Str := (("codes_of" : Str) ++ ".<locals>.") ++ "<lambda>"
/-- codes, as they stand: a tuple of two numbers, or None -/
inductive CodV (K : PySem.W.Frag) (H : Hp) : List V → List (Option (Nat × Nat)) → Prop
  | nil : CodV K H [] []
  | no {vs : List V} {cs : List (Option (Nat × Nat))} : CodV K H vs cs → CodV K H (.non :: vs) (none :: cs)
  | one {t : Addr} {c l : Nat} {vs : List V} {cs : List (Option (Nat × Nat))} : SqT K H t [.int ((c : Nat) : Int), .int ((l : Nat) : Int)] → CodV K H vs cs → CodV K H (.ref t :: vs) (some (c, l) :: cs)
theorem CodV.same {H' : Hp} (s : Same H H') : ∀ {xs : List V} {cs : List (Option (Nat × Nat))}, CodV K H xs cs → CodV K H' xs cs
  | _, _, .nil => .nil
  | _, _, .no t => .no (t.same s)
  | _, _, .one h t => .one (same_sqt s h) (t.same s)
theorem CodV.length : ∀ {xs : List V} {cs : List (Option (Nat × Nat))}, CodV K H xs cs → xs.length = cs.length
  | _, _, .nil => rfl
  | _, _, .no t => by rw [List.length_cons, List.length_cons, t.length]
  | _, _, .one _ t => by rw [List.length_cons, List.length_cons, t.length]
theorem CodV.set {t : Addr} {c l : Nat} (h : SqT K H t [.int ((c : Nat) : Int), .int ((l : Nat) : Int)]) : ∀ {xs : List V} {cs : List (Option (Nat × Nat))} (p : Nat), CodV K H xs cs → CodV K H (xs.set p (.ref t)) (cs.set p (some (c, l)))
  | _, _, _, .nil => .nil
  | _, _, 0, .no u => .one h u
  | _, _, p + 1, .no u => .no (CodV.set h p u)
  | _, _, 0, .one _ u => .one h u
  | _, _, p + 1, .one g u => .one g (CodV.set h p u)
theorem CodV.none : ∀ n : Nat, CodV K H (List.replicate n V.non) (List.replicate n none)
  | 0 => .nil
  | n + 1 => .no (CodV.none n)
def sp_codes_of (K : PySem.W.Frag) : Sp := fun vs H Q E => ∃ (B : Hp) (L : Pic) (ps : Array Value) (v : V) (g : Tg), vs = [v] ∧ Hs B ((tP K, .tbl ps) :: L) H ∧ TabC B ps qC ∧ Th K B v g ∧ Tg.ok K B g ∧
  (∀ ws : List Int, g = .lst (ws.map V.int) → lenOk g = true → ∀ (B2 : Hp) (ps2 : Array Value) (p : Addr) (xs : List V) (H' : Hp), Same B B2 → TabC B2 ps2 qC → CodV K B2 xs (codesOf ws) → Hs B2 ((p, .lst xs) :: (tP K, .tbl ps2) :: L) H' → Q (.ref p) H') ∧
  (lenOk g = false → ∀ H', Same H H' → E (.ref (He.ga K "BadLengths")) none H')
theorem len_codes_of (h : sp_codes_of K vs H Q E) : vs.length = 1 := by
  obtain ⟨B, L, ps, v, g, rfl, _⟩ := h
  rfl
def t_codes_of (K : PySem.W.Frag) (W : WX) : TS :=
  (tSeq (tDrop (tCl (sp_need_lengths K) [] W (tCons (tVar 0) tNil)))
    (tSeq (tAsg (tOp rMulU (tLst (tCons (tC .non) tNil)) (tCB (rLenK K) (tCons (tVar 0) tNil))) (gName 1))
    (tSeq (tAsg (tC (.int 0)) (gName 2))
    (tSeq (tAsg (tC (.int 0)) (gName 3))
    (tSeq (tFor (iList K (tSortL K (He.cT K ("codes_of", none)).2 ((("codes_of" : Str) ++ ".<locals>.") ++ "<lambda>" : Str) 0 (tCons (tCB rRng1 (tCons (tCB (rLenK K) (tCons (tVar 0) tNil)) tNil)) tNil))) (gName 4) (tSeq (tAsg (tOp (rIx K) (tVar 0) (tVar 4)) (gName 5))
    (tIfS (tTest (tOp rGtU (tVar 5) (tC (.int 0)))) (tSeq (tAsg (tOp rShlU (tVar 2) (tOp rSubU (tVar 5) (tVar 3))) (gName 2))
    (tSeq (tAsg (tTup (tCons (tVar 2) (tCons (tVar 5) tNil))) (gSub (tVar 1) (tVar 4) rSetL))
    (tSeq (tAug 2 (tC (.int 1)) ipAddU)
    (tAsg (tVar 5) (gName 3))))) tNext)))
    (tRet (tVar 1)))))))
theorem rd_codes_of (h : sp_codes_of K vs H Q E) : t_codes_of K (fun c d _ H2 => E c d H2) { nx := fun _ H' => Q .non H', rt := Q } (start ["lengths", "found", "code", "last", "place", "length"] vs) H := by
  obtain ⟨B, L, ps, v, g, rfl, hs, hT, hv, hok, q, qe⟩ := h
  unfold t_codes_of
  walk_at "go"
  refine ⟨v, g, rfl, hv.same hs.ex, ok_same hok hs.ex, fun hg => retV hs fun H1 h1 => ?_, qe⟩
  obtain ⟨ws, rfl, w1, w2, hw⟩ := lens_of hg
  cases hv with
  | @lst a _ hS =>
  have q := q ws rfl hg
  have hS1 := h1.bl hS
  walk_at "go"
  rename_i l2 H2 h2
  rw [List.length_map]
  refine c_rep h2 (h2.get (.head _)) (by omega) (by omega) (small6' (by rw [List.length_singleton]; omega)) fun f H3 h3 => ?_
  rw [Int.toNat_natCast, List.flatten_replicate_singleton] at h3
  clear h1 h2 hS1 hs
  have h3 := h3.drop1
  have hS3 := h3.bl hS
  walk_at "go"
  refine c_sortL ?_
  walk_at "go"
  rw [List.length_map]
  refine c_rngV h3 fun rg H4 h4 => ?_
  walk_at "go"
  refine ⟨B, (f, .lst (List.replicate ws.length V.non)) :: L, ps, rg, a, ws, rfl, h4.rot3, hT, by omega, rfl, fun B2 ps2 H5 e h5 => h5.bl (e.seq hS), fun B2 ps2 o H5 e2 hT2 h5 => ?_⟩
  have hS2 := e2.seq hS
  clear h3 h4 hS3
  refine w_forL (fun i : Nat => V.int ((i : Nat) : Int)) (ordOf ws) (fun pre σ' L' B' => ∃ (xs : List V) (w4 w5 : Option V), σ' = [some (.ref a), some (.ref f), some (.int (((pre.foldl (cstep ws) ⟨0, 0, List.replicate ws.length none⟩).code : Nat) : Int)), some (.int (((pre.foldl (cstep ws) ⟨0, 0, List.replicate ws.length none⟩).last : Nat) : Int)), w4, w5] ∧
    Same B2 B' ∧ CodV K B' xs (pre.foldl (cstep ws) ⟨0, 0, List.replicate ws.length none⟩).out ∧ L' = (f, .lst xs) :: (o, .lst (idxBy ws)) :: (tP K, .tbl ps2) :: L) h5.rot3 ⟨_, none, none, rfl, Same.refl _, .none _, rfl⟩ ?_ ?_ ?_
  · rintro pre post σ' L' B' H' _ ⟨xs, w4, w5, rfl, _, _, rfl⟩ h
    exact h.sql (.tail _ (.head _))
  · rintro pre p post σ' L' B' H' e ⟨xs, w4, w5, rfl, eB, hC, rfl⟩ h
    obtain ⟨a1, a2, a3, a4, a5⟩ := at_place (fun n hn => (hw n hn).2) e
    have hSH := h.bl (eB.seq hS2)
    have hst : (pre ++ [p]).foldl (cstep ws) ⟨0, 0, List.replicate ws.length none⟩ = cstep ws (pre.foldl (cstep ws) ⟨0, 0, List.replicate ws.length none⟩) p := by rw [List.foldl_append]; rfl
    have hpl : pre.length ≤ 300 := by
      have z := congrArg List.length e
      rw [ord_length, List.length_append] at z
      omega
    generalize pre.foldl (cstep ws) ⟨0, 0, List.replicate ws.length none⟩ = st at *
    have hxl : xs.length = ws.length := by rw [hC.length, a3]
    have i1 : atI (ws.map V.int) ((p : Nat) : Int) = some (.int (ws.getD p 0)) := at_nat a5
    have hp0 : 0 ≤ ws.getD p 0 ∧ ws.getD p 0 ≤ 12 := by
      rw [List.getD_eq_getElem?_getD, List.getElem?_eq_getElem a5]
      exact hw _ (List.getElem_mem a5)
    have hlen : ws.getD p 0 = ((lenAt ws p : Nat) : Int) := by unfold lenAt; omega
    walk_at "go"
    by_cases c : 0 < lenAt ws p
    · refine i_t (decide_eq_true (by omega)) ?_
      have a4 := a4 c
      have hcs : cstep ws st p = ⟨st.code * 2 ^ (lenAt ws p - st.last) + 1, lenAt ws p, st.out.set p (some (st.code * 2 ^ (lenAt ws p - st.last), lenAt ws p))⟩ := by unfold cstep; rw [if_pos c]
      walk_at "go"
      rename_i t H7 h7
      have ec : ((st.code : Nat) : Int) * 2 ^ (ws.getD p 0 - ((st.last : Nat) : Int)).toNat = ((st.code * 2 ^ (lenAt ws p - st.last) : Nat) : Int) := by
        rw [hlen, show (((lenAt ws p : Nat) : Int) - ((st.last : Nat) : Int)).toNat = lenAt ws p - st.last by omega]
        push_cast
        rfl
      rw [ec, hlen] at h7
      have nb := h7.nb (.head _)
      have hCt := (hC.same (same_upd (o := HO.tup [V.int ((st.code * 2 ^ (lenAt ws p - st.last) : Nat) : Int), V.int ((lenAt ws p : Nat) : Int)]) nb)).set (t := t) (c := st.code * 2 ^ (lenAt ws p - st.last)) (l := lenAt ws p) (SqT.of upd_same) p
      refine w_set0 h7.fix rfl (by omega) fun H8 h8 => ?_
      walk_at "go"
      rw [ec, hlen]
      refine ⟨_, _, ⟨_, some (.int ((p : Nat) : Int)), some (.int ((lenAt ws p : Nat) : Int)), ?_, eB.trans (same_upd nb), ?_, rfl⟩, h8⟩
      · rw [hst, hcs]
        rfl
      · rw [hst, hcs]
        exact hCt
    · refine i_f (decide_eq_false (by omega)) ?_
      walk_at "go"
      have hcs : cstep ws st p = st := by unfold cstep; rw [if_neg c]
      exact ⟨_, _, ⟨xs, _, _, by rw [hst, hcs]; rfl, eB, by rw [hst, hcs]; exact hC, rfl⟩, h⟩
  · rintro σ' L' B' H6 ⟨xs, w4, w5, rfl, eB, hC, rfl⟩ h
    walk_at "go"
    exact q B' ps2 f xs H6 (e2.trans eB) (hT2.same eB) hC h.drop1
end L2.BR

namespace L2.BR
open PySem PySem.Spec PyProof.Rows L2.BP
variable {K : PySem.W.Frag} {W : WX} {vs : List V} {H : Hp} {Q : VK} {E : XK}
def sp_is_byte (K : PySem.W.Frag) : Sp := fun vs H Q _ => ∃ (v : V) (g : Tg), vs = [v] ∧ Th K H v g ∧ Q (.bl (Tg.isByte g)) H
theorem len_is_byte (h : sp_is_byte K vs H Q E) : vs.length = 1 := by
  obtain ⟨v, g, rfl, _⟩ := h
  rfl
def t_is_byte (K : PySem.W.Frag) (W : WX) : TS :=
  (tRet ((tAndV (tCB (rIsi K) (tCons (tVar 0) (tCons (tC (.ty "int")) tNil))) (tAndV (tNotV (tCB (rIsi K) (tCons (tVar 0) (tCons (tC (.ty "bool")) tNil)))) (tChain rLeU rLeU (tC (.int 0)) (tVar 0) (tC (.int 255)))))))
theorem rd_is_byte (h : sp_is_byte K vs H Q E) : t_is_byte K W { nx := fun _ H' => Q .non H', rt := Q } (start ["thing"] vs) H := by
  obtain ⟨v, g, rfl, hT, q⟩ := h
  have hs := Hs.start H
  unfold t_is_byte
  cases hT with
  | int i =>
    have q : Q (.bl (decide (0 ≤ i) && decide (i ≤ 255))) H := q
    walk_at "go"
    cases e : decide ((0 : Int) ≤ i) with
    | false =>
      rw [e] at q
      walk_at "go"
      exact q
    | true =>
      rw [e] at q
      walk_at "go"
      exact q
  | bl b =>
    walk_at "go"
    refine c_isiInt (.bl b) ?_
    walk_at "go"
    refine c_isiBool (.bl b) ?_
    walk_at "go"
    exact q
  | non => walk_at "go"; refine c_isiInt .non ?_; walk_at "go"; exact q
  | str x => walk_at "go"; refine c_isiInt (.str x) ?_; walk_at "go"; exact q
  | lst z => walk_at "go"; refine c_isiInt (.lst z) ?_; walk_at "go"; exact q
  | tup z => walk_at "go"; refine c_isiInt (.tup z) ?_; walk_at "go"; exact q
  | dic z => walk_at "go"; refine c_isiInt (.dic z) ?_; walk_at "go"; exact q
def sp_is_row (K : PySem.W.Frag) : Sp := fun vs H Q _ => ∃ (v : V) (g : Tg), vs = [v] ∧ Th K H v g ∧ Tg.ok K H g ∧ RetV H Q (.bl (Tg.isRow g))
theorem len_is_row (h : sp_is_row K vs H Q E) : vs.length = 1 := by
  obtain ⟨v, g, rfl, _⟩ := h
  rfl
def t_is_row (K : PySem.W.Frag) (W : WX) : TS :=
  (tRet ((tAndV (tCB (rIsi K) (tCons (tVar 0) (tCons (tC (.ty "list")) tNil))) (tCB (rAll K) (tCons (tLc (iList K (tVar 0)) (gName 1) tYes (tCl (sp_is_byte K) [] WF (tCons (tVar 1) tNil)) [1]) tNil)))))
theorem rd_is_row (h : sp_is_row K vs H Q E) : t_is_row K W { nx := fun _ H' => Q .non H', rt := Q } (start ["thing", "number"] vs) H := by
  obtain ⟨v, g, rfl, hT, hok, q⟩ := h
  have hs := Hs.start H
  unfold t_is_row
  cases hT with
  | @lst a xs z =>
    walk_at "go"
    refine c_isiList (.lst z) ?_
    walk_at "go"
    refine c_lcL (f := id) xs (fun pre acc B => acc = (pre.map byteV).map V.bl) hs rfl (fun B' H' e h => by rw [List.map_id]; exact (e.trans h.ex).seq z) ?_ ?_
    · intro pre x post acc B' D H' e i eB h
      obtain ⟨g, hg⟩ := hok.1 x (by rw [e]; simp)
      walk_at "go"
      refine ⟨rfl, ?_⟩
      walk_at "go"
      refine ⟨x, g, rfl, hg.same (eB.trans h.ex), ?_⟩
      subst i
      refine c_item h (small5 ?_) eB ?_
      · have := congrArg List.length e
        have := hok.2
        simp at *
        omega
      · rw [byteV_of hg]
        simp
    · intro acc B' D H' i eB h
      subst i
      walk_at "go"
      refine c_all (h.sql (.head _)) ?_
      have e : ((xs.map byteV).all id) = xs.all byteV := by simp
      rw [e]
      exact q _ (eB.trans h.ex)
  | non => walk_at "go"; refine c_isiList .non ?_; walk_at "go"; exact q _ hs.ex
  | bl b => walk_at "go"; refine c_isiList (.bl b) ?_; walk_at "go"; exact q _ hs.ex
  | int i => walk_at "go"; refine c_isiList (.int i) ?_; walk_at "go"; exact q _ hs.ex
  | str x => walk_at "go"; refine c_isiList (.str x) ?_; walk_at "go"; exact q _ hs.ex
  | tup z => walk_at "go"; refine c_isiList (.tup z) ?_; walk_at "go"; exact q _ hs.ex
  | dic z => walk_at "go"; refine c_isiList (.dic z) ?_; walk_at "go"; exact q _ hs.ex
def sp_need_row (K : PySem.W.Frag) : Sp := fun vs H Q E => ∃ (v : V) (g : Tg), vs = [v] ∧ Th K H v g ∧ Tg.ok K H g ∧
  (∀ xs, g = .lst xs → Tg.isRow g = true → RetL H Q xs) ∧ (Tg.isRow g = false → ∀ H', Same H H' → E (.ref (He.ga K "BadRow")) none H')
theorem len_need_row (h : sp_need_row K vs H Q E) : vs.length = 1 := by
  obtain ⟨v, g, rfl, _⟩ := h
  rfl
def t_need_row (K : PySem.W.Frag) (W : WX) : TS :=
  (tSeq (tIfS (tNot (tB (tCl (sp_is_row K) [] W (tCons (tVar 0) tNil)))) (tRz (He.ga K "BadRow") W) tNext)
    (tRet (tCB (rListK K) (tCons (tVar 0) tNil))))
theorem rd_need_row (h : sp_need_row K vs H Q E) : t_need_row K (fun c d _ H2 => E c d H2) { nx := fun _ H' => Q .non H', rt := Q } (start ["thing"] vs) H := by
  obtain ⟨v, g, rfl, hT, hok, q, qe⟩ := h
  have hs := Hs.start H
  unfold t_need_row
  walk_at "go"
  refine ⟨v, g, rfl, hT, hok, retV hs fun H1 h1 => ?_⟩
  walk_at "go"
  cases e : Tg.isRow g with
  | false =>
    walk_at "go"
    exact qe e _ h1.ex
  | true =>
    cases hT with
    | @lst a xs z =>
      walk_at "go"
      rename_i p H2 h2
      exact h2.rl (.head _) (q xs rfl e)
    | _ => cases e
end L2.BR

namespace L2.BR
open PySem PySem.Spec PyProof.Rows L2.BP
/-! ### texts of noughts and ones -/
def numOf : List Bool → Nat
  | [] => 0
  | b :: r => b.toNat * 2 ^ r.length + numOf r
def bitsOf (n : Nat) : Nat → List Bool
  | 0 => []
  | s + 1 => (n / 2 ^ s % 2 == 1) :: bitsOf n s
theorem bitsOf_length (n : Nat) : ∀ s, (bitsOf n s).length = s
  | 0 => rfl
  | s + 1 => congrArg (· + 1) (bitsOf_length n s)
theorem numOf_lt : ∀ b : List Bool, numOf b < 2 ^ b.length
  | [] => by decide
  | x :: r => by
    have h := numOf_lt r
    have e : (2 : Nat) ^ (x :: r).length = 2 ^ r.length + 2 ^ r.length := by rw [List.length_cons, Nat.pow_succ]; omega
    rw [e]
    unfold numOf
    cases x
    · simp; omega
    · simp; omega
theorem numOf_append : ∀ a b : List Bool, numOf (a ++ b) = numOf a * 2 ^ b.length + numOf b
  | [], b => by simp [numOf]
  | x :: r, b => by
    show x.toNat * 2 ^ (r ++ b).length + numOf (r ++ b) = (x.toNat * 2 ^ r.length + numOf r) * 2 ^ b.length + numOf b
    rw [numOf_append r b, List.length_append, Nat.pow_add, Nat.add_mul, Nat.mul_assoc, Nat.add_assoc]
theorem numOf_bitsOf (n : Nat) : ∀ s, numOf (bitsOf n s) = n % 2 ^ s
  | 0 => by simp [numOf, bitsOf, Nat.mod_one]
  | s + 1 => by
    show (n / 2 ^ s % 2 == 1).toNat * 2 ^ (bitsOf n s).length + numOf (bitsOf n s) = _
    rw [bitsOf_length, numOf_bitsOf n s, Nat.pow_succ, Nat.mod_mul]
    have h : (n / 2 ^ s % 2 == 1).toNat = n / 2 ^ s % 2 := by
      rcases Nat.mod_two_eq_zero_or_one (n / 2 ^ s) with h | h <;> rw [h] <;> rfl
    rw [h, Nat.mul_comm, Nat.add_comm]
theorem numOf_small {n s : Nat} (h : n < 2 ^ s) : numOf (bitsOf n s) = n := by rw [numOf_bitsOf, Nat.mod_eq_of_lt h]
theorem numOf_inj : ∀ a b : List Bool, a.length = b.length → numOf a = numOf b → a = b
  | [], [], _, _ => rfl
  | [], _ :: _, h, _ => by cases h
  | _ :: _, [], h, _ => by cases h
  | x :: r, y :: t, h, e => by
    have hl : r.length = t.length := Nat.succ.inj h
    have e : x.toNat * 2 ^ r.length + numOf r = y.toNat * 2 ^ t.length + numOf t := e
    have h1 := numOf_lt r
    have h2 := numOf_lt t
    rw [← hl] at e h2
    cases x <;> cases y <;> simp at e ⊢
    · exact numOf_inj r t hl e
    · omega
    · omega
    · exact numOf_inj r t hl e
theorem bitsOf_numOf (b : List Bool) : bitsOf (numOf b) b.length = b := by
  refine numOf_inj _ _ (bitsOf_length _ _) ?_
  rw [numOf_small (numOf_lt b)]
theorem numOf_take_div (b : List Bool) (k : Nat) : numOf b / 2 ^ (b.length - k) = numOf (b.take k) := by
  have e := numOf_append (b.take k) (b.drop k)
  rw [List.take_append_drop] at e
  have h := numOf_lt (b.drop k)
  rw [List.length_drop] at e h
  rw [e, Nat.mul_comm, Nat.mul_add_div (Nat.two_pow_pos _), Nat.div_eq_of_lt h, Nat.add_zero]
theorem numOf_drop_mod (b : List Bool) (k : Nat) : numOf b % 2 ^ (b.length - k) = numOf (b.drop k) := by
  have e := numOf_append (b.take k) (b.drop k)
  rw [List.take_append_drop] at e
  have h := numOf_lt (b.drop k)
  rw [List.length_drop] at e h
  rw [e, Nat.mul_comm, Nat.mul_add_mod, Nat.mod_eq_of_lt h]
theorem numOf_noughts (k : Nat) : numOf (List.replicate k false) = 0 := by
  induction k with
  | zero => rfl
  | succ k ih => rw [List.replicate_succ]; unfold numOf; rw [ih]; simp
/-! the bytes that stand whole in a text, the text filled by noughts -/
def byteAt (b : List Bool) (i : Nat) : Nat := numOf ((b.drop (8 * i)).take 8)
def wholeTo (b : List Bool) (n : Nat) : List Int := (List.range n).map fun i => ((byteAt b i : Nat) : Int)
def pad8 (b : List Bool) : List Bool := b ++ List.replicate ((8 - b.length % 8) % 8) false
def rowOf (b : List Bool) : List Int := wholeTo (pad8 b) ((b.length + 7) / 8)
theorem wholeTo_length (b : List Bool) (n : Nat) : (wholeTo b n).length = n := by unfold wholeTo; simp
theorem wholeTo_succ (b : List Bool) (n : Nat) : wholeTo b (n + 1) = wholeTo b n ++ [((byteAt b n : Nat) : Int)] := by unfold wholeTo; rw [List.range_succ, List.map_append]; rfl
theorem byteAt_append {b c : List Bool} {i : Nat} (h : 8 * i + 8 ≤ b.length) : byteAt (b ++ c) i = byteAt b i := by
  unfold byteAt
  rw [List.drop_append_of_le_length (by omega), List.take_append_of_le_length (by rw [List.length_drop]; omega)]
theorem wholeTo_append {b c : List Bool} {n : Nat} (h : 8 * n ≤ b.length) : wholeTo (b ++ c) n = wholeTo b n := by
  unfold wholeTo
  refine List.map_congr_left fun i hi => ?_
  have := List.mem_range.mp hi
  rw [byteAt_append (by omega)]
theorem byteAt_lt (b : List Bool) (i : Nat) : byteAt b i < 256 := by
  have h := numOf_lt ((b.drop (8 * i)).take 8)
  have e : ((b.drop (8 * i)).take 8).length ≤ 8 := by rw [List.length_take]; omega
  exact Nat.lt_of_lt_of_le h (Nat.pow_le_pow_right (by decide) e)
theorem pad8_length (b : List Bool) : (pad8 b).length = 8 * ((b.length + 7) / 8) := by unfold pad8; rw [List.length_append, List.length_replicate]; omega
theorem rowOf_length (b : List Bool) : (rowOf b).length = (b.length + 7) / 8 := wholeTo_length _ _
theorem rowOf_bytes (b : List Bool) : ∀ n ∈ rowOf b, 0 ≤ n ∧ n ≤ 255 := by
  intro n hn
  unfold rowOf wholeTo at hn
  obtain ⟨i, _, rfl⟩ := List.mem_map.mp hn
  have := byteAt_lt (pad8 b) i
  omega
/-- the bits of a row -/
def bitsRow (ns : List Int) : List Bool := ns.flatMap fun n => bitsOf n.toNat 8
theorem bitsRow_length (ns : List Int) : (bitsRow ns).length = 8 * ns.length := by
  induction ns with
  | nil => rfl
  | cons n r ih =>
    unfold bitsRow at ih ⊢
    rw [List.flatMap_cons, List.length_append, ih, bitsOf_length, List.length_cons]
    omega
theorem bitsRow_wholeTo (b : List Bool) : ∀ n, 8 * n ≤ b.length → bitsRow (wholeTo b n) = b.take (8 * n)
  | 0, _ => by simp [wholeTo, bitsRow]
  | n + 1, h => by
    have ih := bitsRow_wholeTo b n (by omega)
    rw [wholeTo_succ]
    unfold bitsRow at ih ⊢
    rw [List.flatMap_append, ih]
    have e : bitsOf (byteAt b n) 8 = (b.drop (8 * n)).take 8 := by
      have l : ((b.drop (8 * n)).take 8).length = 8 := by rw [List.length_take, List.length_drop]; omega
      have z := bitsOf_numOf ((b.drop (8 * n)).take 8)
      rw [l] at z
      exact z
    show b.take (8 * n) ++ (bitsOf ((byteAt b n : Nat) : Int).toNat 8 ++ []) = _
    rw [Int.toNat_natCast, e, List.append_nil]
    rw [show 8 * (n + 1) = 8 * n + 8 by omega, List.take_add]
theorem bitsRow_rowOf (b : List Bool) : bitsRow (rowOf b) = pad8 b := by
  unfold rowOf
  rw [bitsRow_wholeTo _ _ (by rw [pad8_length]; exact Nat.le_refl _)]
  exact List.take_of_length_le (by rw [pad8_length]; exact Nat.le_refl _)
theorem bitsRow_snoc (ns : List Int) (n : Int) : bitsRow (ns ++ [n]) = bitsRow ns ++ bitsOf n.toNat 8 := by
  unfold bitsRow
  rw [List.flatMap_append, List.flatMap_cons, List.flatMap_nil, List.append_nil]
end L2.BR

namespace L2.BR
open PySem PySem.Spec PyProof.Rows L2.BP
variable {K : PySem.W.Frag} {W : WX} {vs : List V} {H : Hp} {Q : VK} {E : XK}
/-! ### rows of bits, readers -/
structure KBitReader (K : PySem.W.Frag) : Prop where
  c : Cls K (He.ga K "BitReader")
  n1 : NoAttr K (He.ga K "BitReader") "source"
  n2 : NoAttr K (He.ga K "BitReader") "taken"
def Tg.isNum : Tg → Bool
  | .int _ => true
  | _ => false
def sp_is_number (K : PySem.W.Frag) : Sp := fun vs H Q _ => ∃ (v : V) (g : Tg), vs = [v] ∧ Th K H v g ∧ Q (.bl (Tg.isNum g)) H
theorem len_is_number (h : sp_is_number K vs H Q E) : vs.length = 1 := by
  obtain ⟨v, g, rfl, _⟩ := h
  rfl
def t_is_number (K : PySem.W.Frag) (W : WX) : TS :=
  (tRet ((tAndV (tCB (rIsi K) (tCons (tVar 0) (tCons (tC (.ty "int")) tNil))) (tNotV (tCB (rIsi K) (tCons (tVar 0) (tCons (tC (.ty "bool")) tNil)))))))
theorem rd_is_number (h : sp_is_number K vs H Q E) : t_is_number K W { nx := fun _ H' => Q .non H', rt := Q } (start ["thing"] vs) H := by
  obtain ⟨v, g, rfl, hT, q⟩ := h
  have hs := Hs.start H
  unfold t_is_number
  walk_at "go"
  refine c_isiInt hT ?_
  cases g with
  | int i => walk_at "go"; refine c_isiBool hT ?_; walk_at "go"; exact q
  | bl b => walk_at "go"; refine c_isiBool hT ?_; walk_at "go"; exact q
  | _ => walk_at "go"; exact q
def sizeOk : Tg → Bool
  | .int i => decide (0 ≤ i) && decide (i ≤ 24)
  | _ => false
def sp_need_size (K : PySem.W.Frag) : Sp := fun vs H Q E => ∃ (v : V) (g : Tg), vs = [v] ∧ Th K H v g ∧ (sizeOk g = true → Q .non H) ∧ (sizeOk g = false → E (.ref (He.ga K "BadBits")) none H)
theorem len_need_size (h : sp_need_size K vs H Q E) : vs.length = 1 := by
  obtain ⟨v, g, rfl, _⟩ := h
  rfl
def t_need_size (K : PySem.W.Frag) (W : WX) : TS :=
  (tIfS ((tOr (tNot (tB (tCl (sp_is_number K) [] W (tCons (tVar 0) tNil)))) (tNot (tTest (tChain rLeU rLeU (tC (.int 0)) (tVar 0) (tC (.int 24))))))) (tRz (He.ga K "BadBits") W) tNext)
theorem rd_need_size (h : sp_need_size K vs H Q E) : t_need_size K (fun c d _ H2 => E c d H2) { nx := fun _ H' => Q .non H', rt := Q } (start ["size"] vs) H := by
  obtain ⟨v, g, rfl, hT, q, qe⟩ := h
  have hs := Hs.start H
  unfold t_need_size
  walk_at "go"
  refine ⟨v, g, rfl, hT, ?_⟩
  cases hT with
  | int i =>
    simp only [sizeOk] at q qe
    walk_at "go"
    cases e : decide ((0 : Int) ≤ i) with
    | false =>
      rw [e] at qe
      walk_at "go"
      exact qe rfl
    | true =>
      rw [e] at q qe
      walk_at "go"
      cases e2 : decide (i ≤ (24 : Int)) with
      | false =>
        rw [e2] at qe
        walk_at "go"
        exact qe rfl
      | true =>
        rw [e2] at q
        walk_at "go"
        exact q rfl
  | non => walk_at "go"; exact qe rfl
  | bl b => walk_at "go"; exact qe rfl
  | str x => walk_at "go"; exact qe rfl
  | lst z => walk_at "go"; exact qe rfl
  | tup z => walk_at "go"; exact qe rfl
  | dic z => walk_at "go"; exact qe rfl
theorem shr_nat (a k : Nat) : ((a : Nat) : Int) / 2 ^ k = ((a / 2 ^ k : Nat) : Int) := by push_cast; rfl
theorem two_cast (k : Nat) : (2 : Int) ^ k = ((2 ^ k : Nat) : Int) := by push_cast; rfl
theorem mask_nat (a k : Nat) : Builtin.bitAnd ((a : Nat) : Int) (1 * 2 ^ k - 1) = ((a % 2 ^ k : Nat) : Int) := by
  rw [Int.one_mul, Bits.bitAnd_mask k (Int.natCast_nonneg a)]
  push_cast
  rfl
theorem join_nat {a b k : Nat} (h : b < 2 ^ k) : Builtin.bitOr (((a : Nat) : Int) * 2 ^ k) ((b : Nat) : Int) = ((a * 2 ^ k + b : Nat) : Int) := by
  have h2 : ((b : Nat) : Int) < 2 ^ k := by rw [two_cast]; exact Int.ofNat_lt.mpr h
  rw [Bits.bitOr_join' (Int.natCast_nonneg b) h2 (Int.natCast_nonneg a)]
  push_cast
  rw [Int.add_comm]
/-! a reader as it stands -/
abbrev rdO (K : PySem.W.Frag) (dx s : Addr) (t : Nat) : HO := .ins (He.ga K "BitReader") dx [("source", .ref s), ("taken", .int ((t : Nat) : Int))]
end L2.BR

namespace L2.BR
open PySem PySem.Spec PyProof.Rows L2.BP
variable {K : PySem.W.Frag} {W : WX} {vs : List V} {H : Hp} {Q : VK} {E : XK}
def sp_BitReader___init__ (K : PySem.W.Frag) : Sp := fun vs H Q E => ∃ (B : Hp) (L : Pic) (x dx : Addr) (v : V) (g : Tg), vs = [.ref x, v] ∧ Hs B ((x, .ins (He.ga K "BitReader") dx []) :: L) H ∧ Th K H v g ∧ Tg.ok K H g ∧
  (∀ ns, g = .lst (ns.map V.int) → Bytes ns → ∀ s H', Hs B ((x, rdO K dx s 0) :: (s, .lst (ns.map V.int)) :: L) H' → Q .non H') ∧
  (Tg.isRow g = false → ∀ H', Hs B ((x, .ins (He.ga K "BitReader") dx []) :: L) H' → E (.ref (He.ga K "BadRow")) none H')
theorem len_BitReader___init__ (h : sp_BitReader___init__ K vs H Q E) : vs.length = 2 := by
  obtain ⟨B, L, x, dx, v, g, rfl, _⟩ := h
  rfl
def t_BitReader___init__ (K : PySem.W.Frag) (W : WX) : TS :=
  (tSeq (sFld K (tVar 0) (tCl (sp_need_row K) [] W (tCons (tVar 1) tNil)) "source")
    (sFld K (tVar 0) (tC (.int 0)) "taken"))
theorem rd_BitReader___init__ (kBitReader : KBitReader K) (h : sp_BitReader___init__ K vs H Q E) : t_BitReader___init__ K (fun c d _ H2 => E c d H2) { nx := fun _ H' => Q .non H', rt := Q } (start ["self", "row"] vs) H := by
  obtain ⟨B, L, x, dx, v, g, rfl, hs, hT, hok, q, qe⟩ := h
  obtain ⟨hc, n1, n2⟩ := kBitReader
  unfold t_BitReader___init__
  walk_at "go"
  refine ⟨v, g, rfl, hT, hok, fun xs e hr => ?_, fun hr H' e => qe hr H' (hs.same e)⟩
  subst e
  obtain ⟨ns, rfl, hb⟩ := ints_of (show xs.all byteV = true from hr)
  refine retL hs fun s H1 h1 => ?_
  walk_at "go"
  rename_i H2 h2 H3 h3
  exact q ns rfl hb s H3 h3.swap
def sp_BitReader_left (K : PySem.W.Frag) : Sp := fun vs H Q _ => ∃ (B : Hp) (L : Pic) (x dx s : Addr) (t : Nat) (ns : List Int), vs = [.ref x] ∧ Hs B ((x, rdO K dx s t) :: (s, .lst (ns.map V.int)) :: L) H ∧ Q (.int (8 * ((ns.length : Nat) : Int) - ((t : Nat) : Int))) H
theorem len_BitReader_left (h : sp_BitReader_left K vs H Q E) : vs.length = 1 := by
  obtain ⟨B, L, x, dx, s, t, ns, rfl, _⟩ := h
  rfl
def t_BitReader_left (K : PySem.W.Frag) (W : WX) : TS :=
  (tRet (tOp rSubU (tOp rMulU (tC (.int 8)) (tCB (rLenK K) (tCons (tFld K (tVar 0) "source") tNil))) (tFld K (tVar 0) "taken")))
theorem rd_BitReader_left (kBitReader : KBitReader K) (h : sp_BitReader_left K vs H Q E) : t_BitReader_left K W { nx := fun _ H' => Q .non H', rt := Q } (start ["self"] vs) H := by
  obtain ⟨B, L, x, dx, s, t, ns, rfl, hs, q⟩ := h
  obtain ⟨hc, n1, n2⟩ := kBitReader
  unfold t_BitReader_left
  walk_at "go"
  rw [List.length_map]
  exact q
theorem bitsRow_drop : ∀ (ns : List Int) (k : Nat), bitsRow (ns.drop k) = (bitsRow ns).drop (8 * k)
  | [], k => by simp [bitsRow]
  | n :: r, 0 => rfl
  | n :: r, k + 1 => by
    have ih := bitsRow_drop r k
    unfold bitsRow at ih ⊢
    have e : (bitsOf n.toNat 8).drop (8 * (k + 1)) = [] := List.drop_of_length_le (by rw [bitsOf_length]; omega)
    rw [List.drop_succ_cons, ih, List.flatMap_cons, List.drop_append, bitsOf_length, e, show 8 * (k + 1) - 8 = 8 * k by omega, List.nil_append]
theorem bitsRow_take : ∀ (ns : List Int) (k : Nat), bitsRow (ns.take k) = (bitsRow ns).take (8 * k)
  | [], k => by simp [bitsRow]
  | n :: r, 0 => rfl
  | n :: r, k + 1 => by
    have ih := bitsRow_take r k
    unfold bitsRow at ih ⊢
    have e : (bitsOf n.toNat 8).take (8 * (k + 1)) = bitsOf n.toNat 8 := List.take_of_length_le (by rw [bitsOf_length]; omega)
    rw [List.take_succ_cons, List.flatMap_cons, ih, List.flatMap_cons, List.take_append, bitsOf_length, e, show 8 * (k + 1) - 8 = 8 * k by omega]
/-- what the next so many bits tell -/
def takenNum (ns : List Int) (t i : Nat) : Nat := numOf (((bitsRow ns).drop t).take i)
def sp_BitReader_take (K : PySem.W.Frag) : Sp := fun vs H Q E => ∃ (B : Hp) (L : Pic) (x dx s : Addr) (t : Nat) (ns : List Int) (v : V) (g : Tg), vs = [.ref x, v] ∧ Th K H v g ∧ Hs B ((x, rdO K dx s t) :: (s, .lst (ns.map V.int)) :: L) H ∧ Bytes ns ∧ t ≤ 8 * ns.length ∧ ns.length ≤ 100000 ∧
  (∀ i : Nat, g = .int i → i ≤ 24 → t + i ≤ 8 * ns.length → ∀ H', Hs B ((x, rdO K dx s (t + i)) :: (s, .lst (ns.map V.int)) :: L) H' → Q (.int ((takenNum ns t i : Nat) : Int)) H') ∧
  (sizeOk g = false → E (.ref (He.ga K "BadBits")) none H) ∧ (∀ i : Nat, g = .int i → i ≤ 24 → 8 * ns.length < t + i → E (.ref (He.ga K "NoBits")) none H)
theorem len_BitReader_take (h : sp_BitReader_take K vs H Q E) : vs.length = 2 := by
  obtain ⟨B, L, x, dx, s, t, ns, v, g, rfl, _⟩ := h
  rfl
def t_BitReader_take (K : PySem.W.Frag) (W : WX) : TS :=
  (tSeq (tDrop (tCl (sp_need_size K) [] W (tCons (tVar 1) tNil)))
    (tSeq (tIfS (tTest (tOp rLtU (tMt (He.ga K "BitReader") "left" (sp_BitReader_left K) [] W (tVar 0) tNil) (tVar 1))) (tRz (He.ga K "NoBits") W) tNext)
    (tSeq (tAsg (tCB (rDivmodK) (tCons (tFld K (tVar 0) "taken") (tCons (tC (.int 8)) tNil))) (gTup K 2 (gCons (gName 2) (gCons (gName 3) gNil))))
    (tSeq (tAsg (tCB (rDivmodK) (tCons (tOp rSubU (tOp rAddU (tOp rAddU (tFld K (tVar 0) "taken") (tVar 1)) (tC (.int 8))) (tC (.int 1))) (tCons (tC (.int 8)) tNil))) (gTup K 2 (gCons (gName 4) (gCons (gName 5) gNil))))
    (tSeq (tAsg (tC (.int 0)) (gName 6))
    (tSeq (tFor (iList K (tSl (rSlK K) (tFld K (tVar 0) "source") (tPart (tVar 2)) (tPart (tVar 4)))) (gName 7) (tAsg (tOp rOrU (tOp rShlU (tVar 6) (tC (.int 8))) (tVar 7)) (gName 6)))
    (tSeq (tAsg (tOp rAndU (tVar 6) (tOp rSubU (tOp rShlU (tC (.int 1)) (tOp rSubU (tOp rMulU (tC (.int 8)) (tOp rSubU (tVar 4) (tVar 2))) (tVar 3))) (tC (.int 1)))) (gName 6))
    (tSeq (sFldAug K (tVar 0) (tVar 1) rAdd "taken")
    (tRet (tOp rShrU (tVar 6) (tOp rSubU (tOp rSubU (tC (.int 8)) (tC (.int 1))) (tVar 5))))))))))))
theorem rd_BitReader_take (kBitReader : KBitReader K) (h : sp_BitReader_take K vs H Q E) : t_BitReader_take K (fun c d _ H2 => E c d H2) { nx := fun _ H' => Q .non H', rt := Q } (start ["self", "size", "begin", "over", "end", "rest", "number", "byte"] vs) H := by
  obtain ⟨B, L, x, dx, s, t, ns, v, g, rfl, hT, hs, hb, ht, hl, q, qe, qn⟩ := h
  have kB := kBitReader
  obtain ⟨hc, n1, n2⟩ := kBitReader
  unfold t_BitReader_take
  walk_at "go"
  refine ⟨v, g, rfl, hT, fun hk => ?_, qe⟩
  walk_at "go"
  refine ⟨B, L, x, dx, s, t, ns, rfl, hs, ?_⟩
  cases hT with
  | int i =>
    simp only [sizeOk, Bool.and_eq_true, decide_eq_true_eq] at hk
    obtain ⟨I, rfl⟩ := Int.eq_ofNat_of_zero_le hk.1
    have hI : I ≤ 24 := by omega
    have q := q I rfl hI
    have qn := qn I rfl hI
    walk_at "go"
    by_cases hlt : 8 * ns.length < t + I
    · refine i_t (decide_eq_true (by omega)) ?_
      walk_at "go"
      exact qn hlt
    refine i_f (decide_eq_false (by omega)) ?_
    have q := q (by omega)
    walk_at "go"
    have e1 : ((t : Nat) : Int) / 8 = ((t / 8 : Nat) : Int) := by omega
    have e2 : ((t : Nat) : Int) % 8 = ((t % 8 : Nat) : Int) := by omega
    have e3 : (((t : Nat) : Int) + ((I : Nat) : Int) + 8 - 1) / 8 = (((t + I + 7) / 8 : Nat) : Int) := by omega
    have e4 : (((t : Nat) : Int) + ((I : Nat) : Int) + 8 - 1) % 8 = (((t + I + 7) % 8 : Nat) : Int) := by omega
    refine c_divmod hs ⟨by decide, by decide⟩ fun p1 H1 h1 => ?_
    rw [e1, e2] at h1
    walk_at "go"
    refine c_divmod h1 ⟨by decide, by decide⟩ fun p2 H2 h2 => ?_
    rw [e3, e4] at h2
    have ht2 := h2.sqt (K := K) (.head _)
    have h3 := h2.drop.drop
    walk_at "go"
    rename_i p3 H3 h4
    rw [cutV_ints, sIx_at _ _ _ (by omega), sIx_at _ _ _ (by omega)] at h4
    have hcl : ((ns.drop (t / 8)).take ((t + I + 7) / 8 - t / 8)).length = (t + I + 7) / 8 - t / 8 := by rw [List.length_take, List.length_drop]; omega
    have hcb : bitsRow ((ns.drop (t / 8)).take ((t + I + 7) / 8 - t / 8)) = ((bitsRow ns).drop (8 * (t / 8))).take (8 * ((t + I + 7) / 8 - t / 8)) := by rw [bitsRow_take, bitsRow_drop]
    have hby : Bytes ((ns.drop (t / 8)).take ((t + I + 7) / 8 - t / 8)) := fun n hn => hb n (List.mem_of_mem_drop (List.mem_of_mem_take hn))
    generalize (ns.drop (t / 8)).take ((t + I + 7) / 8 - t / 8) = cs at *
    refine w_forL V.int cs (fun pre σ' L' B' => ∃ w, σ' = [some (.ref x), some (.int I), some (.int ((t / 8 : Nat) : Int)), some (.int ((t % 8 : Nat) : Int)), some (.int (((t + I + 7) / 8 : Nat) : Int)), some (.int (((t + I + 7) % 8 : Nat) : Int)), some (.int ((numOf (bitsRow pre) : Nat) : Int)), w] ∧
      B' = B ∧ L' = (p3, .lst (cs.map V.int)) :: (x, rdO K dx s t) :: (s, .lst (ns.map V.int)) :: L) h4 ⟨none, rfl, rfl, rfl⟩ ?_ ?_ ?_
    · rintro pre post σ' L' B' H' _ ⟨w, _, rfl, rfl⟩ h
      exact h.sql (.head _)
    · rintro pre n post σ' L' B' H' e ⟨w, rfl, rfl, rfl⟩ h
      walk_at "go"
      have hpl : pre.length < 5 := by
        have := congrArg List.length e
        simp at this
        omega
      refine c_shl ?_ ?_
      · refine ⟨by omega, by omega, ?_⟩
        have z1 := numOf_lt (bitsRow pre)
        rw [bitsRow_length] at z1
        have z2 := Nat.lt_of_lt_of_le z1 (Nat.pow_le_pow_right (by decide) (show 8 * pre.length ≤ 32 by omega))
        rw [Int.natAbs_natCast]
        exact Nat.lt_trans z2 (by decide)
      walk_at "go"
      have hn := hby n (by rw [e]; simp)
      obtain ⟨m, rfl⟩ := Int.eq_ofNat_of_zero_le hn.1
      have hm : m < 2 ^ 8 := by omega
      refine ⟨_, _, ⟨some (.int m), ?_, rfl, rfl⟩, h⟩
      rw [bitsRow_snoc, numOf_append, bitsOf_length, Int.toNat_natCast, numOf_small hm, show (8 : Int).toNat = 8 from rfl, join_nat hm]
      rfl
    · rintro σ' L' B' H' ⟨w, rfl, rfl, rfl⟩ h
      walk_at "go"
      have e5 : (8 : Int) * ((((t + I + 7) / 8 : Nat) : Int) - ((t / 8 : Nat) : Int)) - ((t % 8 : Nat) : Int) = (((8 * ((t + I + 7) / 8 - t / 8) - t % 8 : Nat)) : Int) := by omega
      rename_i H5 h5
      rw [e5, show (8 : Int) - 1 - (((t + I + 7) % 8 : Nat) : Int) = ((7 - (t + I + 7) % 8 : Nat) : Int) by omega]
      rw [Int.toNat_natCast, Int.toNat_natCast, mask_nat, shr_nat]
      have l1 : (bitsRow cs).length = 8 * ((t + I + 7) / 8 - t / 8) := by rw [bitsRow_length, hcl]
      have z1 := numOf_drop_mod (bitsRow cs) (t % 8)
      rw [l1] at z1
      rw [z1]
      have z2 := numOf_take_div ((bitsRow cs).drop (t % 8)) I
      rw [List.length_drop, l1, show 8 * ((t + I + 7) / 8 - t / 8) - t % 8 - I = 7 - (t + I + 7) % 8 by omega] at z2
      rw [z2]
      have z3 : ((bitsRow cs).drop (t % 8)).take I = ((bitsRow ns).drop t).take I := by
        rw [hcb, List.drop_take, List.drop_drop, List.take_take, show 8 * (t / 8) + t % 8 = t by omega, show min I (8 * ((t + I + 7) / 8 - t / 8) - t % 8) = I by omega]
      rw [z3]
      have e6 : ((t : Nat) : Int) + ((I : Nat) : Int) = ((t + I : Nat) : Int) := by omega
      rw [e6] at h5
      exact q H5 h5.drop
  | _ => cases hk
theorem use_take {B : Hp} {L : Pic} {x dx s : Addr} {t : Nat} {ns : List Int} (i : Nat) {j : Int} (e : j = ((i : Nat) : Int)) (h : Hs B ((x, rdO K dx s t) :: (s, .lst (ns.map V.int)) :: L) H) (hb : Bytes ns) (hl : ns.length ≤ 100000) (hi : i ≤ 24)
    (ht : t + i ≤ 8 * ns.length) (k : ∀ H', Hs B ((x, rdO K dx s (t + i)) :: (s, .lst (ns.map V.int)) :: L) H' → Q (.int ((takenNum ns t i : Nat) : Int)) H') : sp_BitReader_take K [.ref x, .int j] H Q E := by
  subst e
  refine ⟨B, L, x, dx, s, t, ns, _, _, rfl, .int _, h, hb, by omega, hl, fun i' e' _ _ => ?_, fun z => ?_, fun i' e' _ h2 => ?_⟩
  · cases Int.ofNat.inj (Tg.int.inj e')
    exact k
  · simp only [sizeOk, Bool.and_eq_false_iff, decide_eq_false_iff_not] at z
    omega
  · cases Int.ofNat.inj (Tg.int.inj e')
    omega
theorem take_at {ns : List Int} {t v i : Nat} {rest : List Bool} (ht : t ≤ 8 * ns.length) (h : (bitsRow ns).drop t = bitsOf v i ++ rest) (hv : v < 2 ^ i) : takenNum ns t i = v ∧ t + i ≤ 8 * ns.length := by
  have z := congrArg List.length h
  rw [List.length_drop, List.length_append, bitsOf_length, bitsRow_length] at z
  refine ⟨?_, by omega⟩
  unfold takenNum
  rw [h, List.take_append_of_le_length (by rw [bitsOf_length]; omega), List.take_of_length_le (by rw [bitsOf_length]; omega), numOf_small hv]
/-- what comes of a reader next, put on behind -/
theorem drop_next {l : List Bool} {t v i : Nat} {rest : List Bool} (h : l.drop t = bitsOf v i ++ rest) : l.drop (t + i) = rest := by
  rw [← List.drop_drop, h, List.drop_append_of_le_length (by rw [bitsOf_length]; omega), List.drop_of_length_le (by rw [bitsOf_length]; omega), List.nil_append]
end L2.BR

namespace L2.BR
open PySem PySem.Spec PyProof.Rows L2.BP
variable {K : PySem.W.Frag} {W : WX} {vs : List V} {H : Hp} {Q : VK} {E : XK}
def sp_BitReader_place (K : PySem.W.Frag) : Sp := fun vs H Q _ => ∃ (B : Hp) (L : Pic) (x dx s : Addr) (t : Nat) (ns : List Int), vs = [.ref x] ∧ Hs B ((x, rdO K dx s t) :: (s, .lst (ns.map V.int)) :: L) H ∧ Q (.int ((t : Nat) : Int)) H
theorem len_BitReader_place (h : sp_BitReader_place K vs H Q E) : vs.length = 1 := by
  obtain ⟨B, L, x, dx, s, t, ns, rfl, _⟩ := h
  rfl
def t_BitReader_place (K : PySem.W.Frag) (W : WX) : TS :=
  (tRet (tFld K (tVar 0) "taken"))
theorem rd_BitReader_place (kBitReader : KBitReader K) (h : sp_BitReader_place K vs H Q E) : t_BitReader_place K W { nx := fun _ H' => Q .non H', rt := Q } (start ["self"] vs) H := by
  obtain ⟨B, L, x, dx, s, t, ns, rfl, hs, q⟩ := h
  obtain ⟨hc, n1, n2⟩ := kBitReader
  unfold t_BitReader_place
  walk_at "go"
  exact q
end L2.BR

namespace L2.BR
open PySem PySem.Spec PyProof.Rows L2.BP
variable {K : PySem.W.Frag} {W : WX} {vs : List V} {H : Hp} {Q : VK} {E : XK}
/-- whether a thing is a place of a row of so many bytes -/
def Tg.isPlace (n : Nat) : Tg → Bool
  | .int i => decide (0 ≤ i) && decide (i ≤ 8 * ((n : Nat) : Int))
  | _ => false
def sp_BitReader_go (K : PySem.W.Frag) : Sp := fun vs H Q E => ∃ (B : Hp) (L : Pic) (x dx s : Addr) (t : Nat) (ns : List Int) (v : V) (g : Tg), vs = [.ref x, v] ∧ Th K H v g ∧ Hs B ((x, rdO K dx s t) :: (s, .lst (ns.map V.int)) :: L) H ∧
  (∀ i : Nat, g = .int i → i ≤ 8 * ns.length → ∀ H', Hs B ((x, rdO K dx s i) :: (s, .lst (ns.map V.int)) :: L) H' → Q .non H') ∧
  (Tg.isPlace ns.length g = false → E (.ref (He.ga K "BadBits")) none H)
theorem len_BitReader_go (h : sp_BitReader_go K vs H Q E) : vs.length = 2 := by
  obtain ⟨B, L, x, dx, s, t, ns, v, g, rfl, _⟩ := h
  rfl
def t_BitReader_go (K : PySem.W.Frag) (W : WX) : TS :=
  (tSeq (tIfS ((tOr (tNot (tB (tCl (sp_is_number K) [] W (tCons (tVar 1) tNil)))) (tNot (tTest (tChain rLeU rLeU (tC (.int 0)) (tVar 1) (tOp rMulU (tC (.int 8)) (tCB (rLenK K) (tCons (tFld K (tVar 0) "source") tNil)))))))) (tRz (He.ga K "BadBits") W) tNext)
    (sFld K (tVar 0) (tVar 1) "taken"))
theorem rd_BitReader_go (kBitReader : KBitReader K) (h : sp_BitReader_go K vs H Q E) : t_BitReader_go K (fun c d _ H2 => E c d H2) { nx := fun _ H' => Q .non H', rt := Q } (start ["self", "place"] vs) H := by
  obtain ⟨B, L, x, dx, s, t, ns, v, g, rfl, hT, hs, q, qe⟩ := h
  obtain ⟨hc, n1, n2⟩ := kBitReader
  unfold t_BitReader_go
  walk_at "go"
  refine ⟨v, g, rfl, hT, ?_⟩
  cases hT with
  | int i =>
    simp only [Tg.isPlace] at qe
    walk_at "go"
    cases e : decide ((0 : Int) ≤ i) with
    | false =>
      rw [e] at qe
      walk_at "go"
      exact qe rfl
    | true =>
      rw [e] at qe
      obtain ⟨I, rfl⟩ := Int.eq_ofNat_of_zero_le (of_decide_eq_true e)
      walk_at "go"
      rw [List.length_map]
      by_cases c : I ≤ 8 * ns.length
      · rw [decide_eq_true (by omega : ((I : Nat) : Int) ≤ 8 * ((ns.length : Nat) : Int))]
        walk_at "go"
        rename_i H2 h2
        exact q I rfl c H2 h2
      · rw [decide_eq_false (by omega : ¬ ((I : Nat) : Int) ≤ 8 * ((ns.length : Nat) : Int))] at qe ⊢
        walk_at "go"
        exact qe rfl
  | non => walk_at "go"; exact qe rfl
  | bl b => walk_at "go"; exact qe rfl
  | str x => walk_at "go"; exact qe rfl
  | lst z => walk_at "go"; exact qe rfl
  | tup z => walk_at "go"; exact qe rfl
  | dic z => walk_at "go"; exact qe rfl
end L2.BR

namespace L2.BR
open PySem PySem.Spec PyProof.Rows L2.BP
variable {K : PySem.W.Frag} {W : WX} {vs : List V} {H : Hp} {Q : VK} {E : XK}
/-! ### a reader of codes -/
structure KCodeReader (K : PySem.W.Frag) : Prop where
  c : Cls K (He.ga K "CodeReader")
  n1 : NoAttr K (He.ga K "CodeReader") "known"
  n2 : NoAttr K (He.ga K "CodeReader") "begun"
theorem putK_le {κ : Type} [DecidableEq κ] (kvs : List (κ × V)) (k : κ) (v : V) : (putK kvs k v).length ≤ kvs.length + 1 := by
  unfold putK
  split
  · rw [List.length_map]
    omega
  · rw [List.length_append, List.length_singleton]
    omega
def kyT (l c : Nat) : List Key := [.inl ((l : Nat) : Int), .inl ((c : Nat) : Int)]
def findP (cs : List (Option (Nat × Nat))) (l c : Nat) : Option Nat := cs.findIdx? fun o => decide (o = some (c, l))
def begunO (s c : Nat) : Option (Nat × Nat) → Bool
  | some (c', l') => decide (1 ≤ s) && decide (s < l') && decide (c' / 2 ^ (l' - s) = c)
  | none => false
def begunP (cs : List (Option (Nat × Nat))) (s c : Nat) : Bool := cs.any (begunO s c)
/-- no two things have the same code -/
def Apart (cs : List (Option (Nat × Nat))) : Prop := ∀ p q c l : Nat, p ≠ q → cs[p]? = some (some (c, l)) → cs[q]? = some (some (c, l)) → False
def KnownOf (kvs : List (List Key × V)) (cs : List (Option (Nat × Nat))) : Prop := kvs.length ≤ cs.length ∧ ∀ l c : Nat, valV kvs (kyT l c) = (findP cs l c).map fun p => V.int ((p : Nat) : Int)
def BegunOf (bvs : List (List Key × V)) (cs : List (Option (Nat × Nat))) : Prop := bvs.length ≤ 12 * cs.length ∧ ∀ s c : Nat, (valV bvs (kyT s c)).isSome = begunP cs s c
/-- the object x reads these codes -/
def CRd (K : PySem.W.Frag) (B : Hp) (x : Addr) (cs : List (Option (Nat × Nat))) : Prop := ∃ (dx kd bd : Addr) (kvs bvs : List (List Key × V)), B x = some (.ins (He.ga K "CodeReader") dx [("known", .ref kd), ("begun", .ref bd)]) ∧ B kd = some (.dT kvs) ∧ B bd = some (.dT bvs) ∧ KnownOf kvs cs ∧ BegunOf bvs cs
theorem CRd.same {B B' : Hp} {x : Addr} {cs : List (Option (Nat × Nat))} (h : CRd K B x cs) (s : Same B B') : CRd K B' x cs := by
  obtain ⟨dx, kd, bd, kvs, bvs, a, b, c, d, e⟩ := h
  exact ⟨dx, kd, bd, kvs, bvs, s _ _ a, s _ _ b, s _ _ c, d, e⟩
theorem key_inj {l c l' c' : Nat} (h : kyT l c = kyT l' c') : l = l' ∧ c = c' := by
  unfold kyT at h
  injection h with h1 h2
  injection h2 with h2 _
  injection h1 with h1
  injection h2 with h2
  exact ⟨by omega, by omega⟩
theorem key_vals (l c : Nat) : (kyT l c).map kV = [.int ((l : Nat) : Int), .int ((c : Nat) : Int)] := rfl
theorem known_nil : KnownOf [] [] := ⟨Nat.le_refl _, fun _ _ => rfl⟩
theorem begun_nil : BegunOf [] [] := ⟨Nat.le_refl _, fun _ _ => rfl⟩
theorem findP_snoc (cs : List (Option (Nat × Nat))) (o : Option (Nat × Nat)) (l c : Nat) : findP (cs ++ [o]) l c = (findP cs l c).or (if o = some (c, l) then some cs.length else none) := by
  unfold findP
  rw [List.findIdx?_append]
  congr 1
  rw [List.findIdx?_cons]
  by_cases e : o = some (c, l)
  · simp [e]
  · simp [e]
theorem known_no {kvs : List (List Key × V)} {cs : List (Option (Nat × Nat))} (h : KnownOf kvs cs) : KnownOf kvs (cs ++ [none]) := by
  refine ⟨by rw [List.length_append]; have := h.1; omega, fun l c => ?_⟩
  rw [h.2, findP_snoc]
  simp
theorem begun_no {bvs : List (List Key × V)} {cs : List (Option (Nat × Nat))} (h : BegunOf bvs cs) : BegunOf bvs (cs ++ [none]) := by
  refine ⟨by rw [List.length_append]; have := h.1; omega, fun s c => ?_⟩
  rw [h.2]
  unfold begunP
  rw [List.any_append]
  simp [begunO]
theorem known_one {kvs : List (List Key × V)} {cs : List (Option (Nat × Nat))} {l c : Nat} (h : KnownOf kvs cs) (hn : findP cs l c = none) : KnownOf (putK kvs (kyT l c) (.int ((cs.length : Nat) : Int))) (cs ++ [some (c, l)]) := by
  refine ⟨by have z := putK_le kvs (kyT l c) (V.int ((cs.length : Nat) : Int)); rw [List.length_append, List.length_singleton]; have := h.1; omega, fun l' c' => ?_⟩
  rw [valV_put, findP_snoc, h.2]
  by_cases e : l' = l ∧ c' = c
  · obtain ⟨rfl, rfl⟩ := e
    rw [if_pos rfl, hn, if_pos rfl]
    rfl
  · rw [if_neg (fun z => e (key_inj z)), if_neg (by rintro z; injection z with z; injection z with z1 z2; exact e ⟨z2.symm, z1.symm⟩)]
    simp
theorem find_apart {cs : List (Option (Nat × Nat))} (h : Apart cs) {i l c : Nat} (hi : cs[i]? = some (some (c, l))) : findP (cs.take i) l c = none := by
  unfold findP
  rw [List.findIdx?_eq_none_iff]
  intro o ho
  rw [decide_eq_false_iff_not]
  rintro rfl
  obtain ⟨j, hj, e⟩ := List.getElem_of_mem ho
  rw [List.length_take] at hj
  have e2 : cs[j]? = some (some (c, l)) := by
    rw [List.getElem_take] at e
    rw [List.getElem?_eq_getElem (by omega), e]
  exact h j i c l (by omega) e2 hi
theorem good_apart {ws : List Int} (hw : ∀ n ∈ ws, n ≤ 12) : Apart (codesOf ws) := fun p q c l hne h1 h2 => by
  have g := (codes_good hw).1.2 p q c l c l hne h1 h2 (Nat.le_refl _)
  rw [Nat.sub_self, Nat.pow_zero, Nat.div_one] at g
  exact g rfl
/-- the beginnings of one code, so far -/
def BegunTo (bvs : List (List Key × V)) (cs : List (Option (Nat × Nat))) (c l i : Nat) : Prop := bvs.length ≤ 12 * cs.length + i ∧ ∀ s d : Nat, (valV bvs (kyT s d)).isSome = (begunP cs s d || (decide (1 ≤ s) && decide (s ≤ i) && decide (c / 2 ^ (l - s) = d)))
theorem begun_start {bvs : List (List Key × V)} {cs : List (Option (Nat × Nat))} {c l : Nat} (h : BegunOf bvs cs) : BegunTo bvs cs c l 0 := ⟨h.1, fun s d => by
  rw [h.2]
  by_cases e : 1 ≤ s
  · rw [decide_eq_false (show ¬ s ≤ 0 by omega)]
    simp
  · rw [decide_eq_false e]
    simp⟩
theorem begun_put {bvs : List (List Key × V)} {cs : List (Option (Nat × Nat))} {c l i : Nat} (h : BegunTo bvs cs c l i) : BegunTo (putK bvs (kyT (i + 1) (c / 2 ^ (l - (i + 1)))) (.bl true)) cs c l (i + 1) := by
  refine ⟨by have z := putK_le bvs (kyT (i + 1) (c / 2 ^ (l - (i + 1)))) (V.bl true); have := h.1; omega, fun s d => ?_⟩
  rw [valV_put]
  by_cases e : s = i + 1 ∧ d = c / 2 ^ (l - (i + 1))
  · obtain ⟨rfl, rfl⟩ := e
    rw [if_pos rfl, decide_eq_true (show 1 ≤ i + 1 by omega), decide_eq_true (show i + 1 ≤ i + 1 by omega), decide_eq_true rfl]
    simp
  · rw [if_neg (fun z => e (key_inj z)), h.2]
    congr 1
    by_cases e1 : s = i + 1
    · subst e1
      have e2 : ¬ c / 2 ^ (l - (i + 1)) = d := fun z => e ⟨rfl, z.symm⟩
      rw [decide_eq_false e2]
      simp
    · by_cases e2 : s ≤ i
      · rw [decide_eq_true e2, decide_eq_true (show s ≤ i + 1 by omega)]
      · rw [decide_eq_false e2, decide_eq_false (show ¬ s ≤ i + 1 by omega)]
theorem begun_end {bvs : List (List Key × V)} {cs : List (Option (Nat × Nat))} {c l : Nat} (hl : 1 ≤ l) (h12 : l ≤ 12) (h : BegunTo bvs cs c l (l - 1)) : BegunOf bvs (cs ++ [some (c, l)]) := by
  refine ⟨by rw [List.length_append, List.length_singleton]; have := h.1; omega, fun s d => ?_⟩
  rw [h.2]
  unfold begunP
  rw [List.any_append]
  congr 1
  simp only [List.any_cons, List.any_nil, Bool.or_false, begunO]
  by_cases e : s ≤ l - 1
  · rw [decide_eq_true e, decide_eq_true (show s < l by omega)]
  · rw [decide_eq_false e, decide_eq_false (show ¬ s < l by omega)]
theorem CodV.look : ∀ {pre : List V} {x : V} {post : List V} {cs : List (Option (Nat × Nat))}, CodV K H (pre ++ x :: post) cs → (x = .non ∧ cs[pre.length]? = some Option.none) ∨ ∃ (t : Addr) (c l : Nat), x = .ref t ∧ cs[pre.length]? = some (some (c, l)) ∧ SqT K H t [.int ((c : Nat) : Int), .int ((l : Nat) : Int)]
  | [], _, _, _, .no _ => .inl ⟨rfl, rfl⟩
  | [], _, _, _, .one h _ => .inr ⟨_, _, _, rfl, rfl, h⟩
  | _ :: _, _, _, _, .no t => t.look
  | _ :: _, _, _, _, .one _ t => t.look
theorem codes_len {ws : List Int} (hw : ∀ n ∈ ws, n ≤ 12) {p c l : Nat} (h : (codesOf ws)[p]? = some (some (c, l))) : 1 ≤ l ∧ l ≤ 12 := by
  obtain ⟨a1, a2, a3, a4⟩ := fold_good (l := ordOf ws) (c := ⟨0, 0, List.replicate ws.length none⟩) (k := 0) (ord_sorted ws) (fun _ _ _ => Nat.zero_le _) (good_none _) (Nat.zero_le _) (fun q _ => lenAt_le hw q) (Nat.zero_le _)
  obtain ⟨b1, b2, b3⟩ := a1.1 p c l h
  exact ⟨b1, by omega⟩
theorem take_snoc {α : Type} {cs : List α} {i : Nat} {o : α} (h : cs[i]? = some o) : cs.take (i + 1) = cs.take i ++ [o] := by
  rw [List.take_add_one, h]
  rfl
def sp_CodeReader___init__ (K : PySem.W.Frag) : Sp := fun vs H Q E => ∃ (B : Hp) (L : Pic) (ps : Array Value) (x dx : Addr) (v : V) (g : Tg), vs = [.ref x, v] ∧ Hs B ((x, .ins (He.ga K "CodeReader") dx []) :: (tP K, .tbl ps) :: L) H ∧ TabC B ps qC ∧ Th K B v g ∧ Tg.ok K B g ∧
  (∀ ws : List Int, g = .lst (ws.map V.int) → lenOk g = true → ∀ (B2 : Hp) (ps2 : Array Value) (H' : Hp), Same B B2 → TabC B2 ps2 qC → CRd K B2 x (codesOf ws) → Hs B2 ((tP K, .tbl ps2) :: L) H' → Q .non H') ∧
  (lenOk g = false → ∀ H', Hs B ((tP K, .tbl ps) :: L) H' → E (.ref (He.ga K "BadLengths")) none H')
theorem len_CodeReader___init__ (h : sp_CodeReader___init__ K vs H Q E) : vs.length = 2 := by
  obtain ⟨B, L, ps, x, dx, v, g, rfl, _⟩ := h
  rfl
def t_CodeReader___init__ (K : PySem.W.Frag) (W : WX) : TS :=
  (tSeq (sFld K (tVar 0) (tDNewT) "known")
    (tSeq (sFld K (tVar 0) (tDNewT) "begun")
    (tFor (iEnum K (tCons (tCl (sp_codes_of K) [] W (tCons (tVar 1) tNil)) tNil)) (gTup K 2 (gCons (gName 2) (gCons (gName 3) gNil))) (tIfS (tTest (tOp rNotU (tVar 3) (tC .non))) (tSeq (tAsg (tVar 3) (gTup K 2 (gCons (gName 4) (gCons (gName 5) gNil))))
    (tSeq (tAsg (tVar 2) (gSub (tFld K (tVar 0) "known") (tTup (tCons (tVar 5) (tCons (tVar 4) tNil))) rSetD))
    (tFor (iRng2 (tCons (tC (.int 1)) (tCons (tVar 5) tNil))) (gName 6) (tAsg (tC (.bl true)) (gSub (tFld K (tVar 0) "begun") (tTup (tCons (tVar 6) (tCons (tOp rShrU (tVar 4) (tOp rSubU (tVar 5) (tVar 6))) tNil))) rSetD))))) tNext))))
theorem rd_CodeReader___init__ (kCodeReader : KCodeReader K) (h : sp_CodeReader___init__ K vs H Q E) : t_CodeReader___init__ K (fun c d _ H2 => E c d H2) { nx := fun _ H' => Q .non H', rt := Q } (start ["self", "lengths", "place", "told", "code", "length", "size"] vs) H := by
  obtain ⟨B, L, ps, x, dx, v, g, rfl, hs, hT, hv, hok, q, qe⟩ := h
  obtain ⟨hc, n1, n2⟩ := kCodeReader
  unfold t_CodeReader___init__
  walk_at "go"
  refine c_dnewT hs fun d1 H1 h1 => ?_
  walk_at "go"
  rename_i H2 h2
  refine c_dnewT h2 fun d2 H3 h3 => ?_
  walk_at "go"
  rename_i H4 h4
  have h5 := h4.rot4
  clear h1 h2 h3 h4 hs
  refine ⟨B, _, ps, v, g, rfl, h5, hT, hv, hok, fun ws e hg B2 ps2 p xs H6 e6 hT6 hC h6 => ?_, fun hg H5 e5 => qe hg H5 (h5.same e5).drop1.drop1.drop1⟩
  have q := q ws e hg
  obtain ⟨ws', e', w1, w2, hw⟩ := lens_of hg
  have hws : ws' = ws := by
    have z : ws.map V.int = ws'.map V.int := by
      rw [e] at e'
      injection e'
    have inj : ∀ {a b : List Int}, a.map V.int = b.map V.int → a = b := fun {a b} => by
      induction a generalizing b with
      | nil => intro h; cases b with
        | nil => rfl
        | cons _ _ => cases h
      | cons x a ih => intro h; cases b with
        | nil => cases h
        | cons y b =>
          injection h with h1 h2
          injection h1 with h1
          rw [h1, ih h2]
    exact (inj z).symm
  subst hws
  have hw2 : ∀ n ∈ ws', n ≤ 12 := fun n hn => (hw n hn).2
  have hap := good_apart hw2
  have hcl := (codes_good hw2).2
  have hlen := fun {p c l : Nat} (h : (codesOf ws')[p]? = some (some (c, l))) => codes_len hw2 h
  generalize codesOf ws' = cs at *
  have hxl : xs.length = cs.length := hC.length
  -- the told list and the object go to the base
  have s7 := same_upd (o := .lst xs) (h6.nb (.head _))
  have kp : SqL K (upd B2 p (.lst xs)) p xs := .of upd_same
  have h7 := h6.fix.rot4
  have hC := hC.same s7
  have hT6 := hT6.same s7
  have e6 := e6.trans s7
  generalize upd B2 p (.lst xs) = B3 at *
  clear h6 s7
  have s8 := same_upd (o := .ins (He.ga K "CodeReader") dx [("known", .ref d1), ("begun", .ref d2)]) (h7.nb (p := x) (.head _))
  have kx : upd B3 x (.ins (He.ga K "CodeReader") dx [("known", .ref d1), ("begun", .ref d2)]) x = some (.ins (He.ga K "CodeReader") dx [("known", .ref d1), ("begun", .ref d2)]) := upd_same
  have h8 : Hs (upd B3 x (.ins (He.ga K "CodeReader") dx [("known", .ref d1), ("begun", .ref d2)])) ((d1, .dT []) :: (d2, .dT []) :: (tP K, .tbl ps2) :: L) H6 := (Hs.fix (p := x) h7).rot3.rot3.swap
  have hC := hC.same s8
  have hT6 := hT6.same s8
  have e6 := e6.trans s8
  have kp := s8.seq kp
  generalize upd B3 x (.ins (He.ga K "CodeReader") dx [("known", .ref d1), ("begun", .ref d2)]) = B4 at *
  clear h7 s8
  walk_at "go"
  refine ⟨p, xs, rfl, h8.bl kp, ?_⟩
  refine w_forE id xs (fun pre σ' L' B' => ∃ (kvs bvs : List (List Key × V)) (w2 w3 w4 w5 w6 : Option V), σ' = [some (.ref x), some v, w2, w3, w4, w5, w6] ∧ Same B4 B' ∧ KnownOf kvs (cs.take pre.length) ∧ BegunOf bvs (cs.take pre.length) ∧ L' = (d1, .dT kvs) :: (d2, .dT bvs) :: (tP K, .tbl ps2) :: L) h8
    ⟨[], [], none, none, none, none, none, rfl, Same.refl _, known_nil, begun_nil, rfl⟩ ?_ ?_ ?_
  · rintro pre post σ' L' B' H7 _ ⟨kvs, bvs, w2, w3, w4, w5, w6, rfl, sB, hK, hB, rfl⟩ h
    rw [List.map_id]
    exact h.bl (sB.seq kp)
  · rintro pre y post σ' L' B' T H7 ep ⟨kvs, bvs, w2, w3, w4, w5, w6, rfl, sB, hK, hB, rfl⟩ h
    rw [id_eq] at h
    have hCB := hC.same sB
    rw [ep] at hCB
    have kx := sB _ _ kx
    have hpl : pre.length < cs.length := by
      have z := congrArg List.length ep
      rw [List.length_append, List.length_cons] at z
      omega
    have htl : (cs.take pre.length).length = pre.length := by rw [List.length_take]; omega
    clear h8
    rcases hCB.look with ⟨rfl, ec⟩ | ⟨t, c, l, rfl, ec, ht⟩
    · walk_at "go"
      refine ⟨_, _, ⟨kvs, bvs, _, _, _, _, _, rfl, sB, ?_, ?_, rfl⟩, h.drop⟩
      · rw [List.length_append, List.length_singleton, take_snoc ec]
        exact known_no hK
      · rw [List.length_append, List.length_singleton, take_snoc ec]
        exact begun_no hB
    · obtain ⟨l1, l12⟩ := hlen ec
      walk_at "go"
      rename_i kt H8 h9
      have hcl300 : cs.length ≤ 300 := by omega
      refine w_setT (ks := kyT l c) h9.drop.drop (h9.get (.head _)) (small6 (by have := hK.1; omega)) fun H9 h10 => ?_
      have hK2 := known_one hK (find_apart hap ec)
      rw [htl] at hK2
      clear h h9
      walk_at "go"
      refine ⟨_, _, rfl, ⟨by decide, by omega, by omega, by omega⟩, ?_⟩
      rw [show (((l : Nat) : Int) - 1).toNat = l - 1 by omega]
      refine w_forR (fun j σ' L' B5 => ∃ (bvs' : List (List Key × V)) (w6 : Option V), σ' = [some (.ref x), some v, some (.int ((pre.length : Nat) : Int)), some (.ref t), some (.int ((c : Nat) : Int)), some (.int ((l : Nat) : Int)), w6] ∧ B5 = B' ∧ BegunTo bvs' (cs.take pre.length) c l j ∧
        L' = (d1, .dT (putK kvs (kyT l c) (.int ((pre.length : Nat) : Int)))) :: (d2, .dT bvs') :: (tP K, .tbl ps2) :: L) h10 ⟨bvs, w6, rfl, rfl, begun_start hB, rfl⟩ ?_ ?_
      · rintro j σ' L' B5 H10 hj ⟨bvs', w6, rfl, rfl, hT2, rfl⟩ h
        clear h10
        walk_at "go"
        rename_i kt H11 h11
        rw [show (1 : Int) + ((j : Nat) : Int) = ((j + 1 : Nat) : Int) by omega, show (((l : Nat) : Int) - ((j + 1 : Nat) : Int)).toNat = l - (j + 1) by omega, show ((c : Nat) : Int) / 2 ^ (l - (j + 1)) = ((c / 2 ^ (l - (j + 1)) : Nat) : Int) by push_cast; rfl] at h11
        refine w_setT (ks := kyT (j + 1) (c / 2 ^ (l - (j + 1)))) h11.drop.swap (h11.get (.head _)) (small6 (by have := hT2.1; omega)) fun H12 h12 => ?_
        exact ⟨_, _, ⟨_, _, rfl, rfl, begun_put hT2, rfl⟩, h12.swap⟩
      · rintro σ' L' B5 H10 ⟨bvs', w6, rfl, rfl, hT2, rfl⟩ h
        refine ⟨_, _, ⟨_, _, _, _, _, _, _, rfl, sB, ?_, ?_, rfl⟩, h⟩
        · rw [List.length_append, List.length_singleton, take_snoc ec]
          exact hK2
        · rw [List.length_append, List.length_singleton, take_snoc ec]
          exact begun_end l1 l12 hT2
  · rintro σ' L' B' H7 ⟨kvs, bvs, w2, w3, w4, w5, w6, rfl, sB, hK, hB, rfl⟩ h
    rw [hxl, List.take_of_length_le (Nat.le_refl _)] at hK hB
    obtain ⟨B5, s5, h9, k9⟩ := Hs.fixes (N := [_, _]) h
    exact q B5 ps2 H7 (e6.trans (sB.trans s5)) (hT6.same (sB.trans s5)) ⟨dx, d1, d2, kvs, bvs, s5 _ _ (sB _ _ kx), k9 _ (.head _), k9 _ (.tail _ (.head _)), hK, hB⟩ h9
end L2.BR

namespace L2.BR
open PySem PySem.Spec PyProof.Rows L2.BP
variable {K : PySem.W.Frag} {W : WX} {vs : List V} {H : Hp} {Q : VK} {E : XK}
/-! ### the next thing by its code -/
inductive CRes where
  | thing (p u : Nat) | bad | ends
def codeGo (cs : List (Option (Nat × Nat))) : Nat → Nat → List Bool → CRes
  | _, _, [] => .ends
  | s, c, b :: r => match findP cs (s + 1) (2 * c + b.toNat) with
    | some p => .thing p (s + 1)
    | none => if begunP cs (s + 1) (2 * c + b.toNat) = true then codeGo cs (s + 1) (2 * c + b.toNat) r else .bad
def readCode (cs : List (Option (Nat × Nat))) (bits : List Bool) : CRes := codeGo cs 0 0 bits
def sp_CodeReader_thing (K : PySem.W.Frag) : Sp := fun vs H Q E => ∃ (B : Hp) (L : Pic) (x r dr s : Addr) (t : Nat) (ns : List Int) (cs : List (Option (Nat × Nat))), vs = [.ref x, .ref r] ∧ Hs B ((r, rdO K dr s t) :: (s, .lst (ns.map V.int)) :: L) H ∧ CRd K B x cs ∧ (∀ o ∈ cs, ∀ c l, o = some (c, l) → l ≤ 12) ∧ Bytes ns ∧ ns.length ≤ 100000 ∧ t ≤ 8 * ns.length ∧
  (∀ p u, readCode cs ((bitsRow ns).drop t) = .thing p u → ∀ H', Hs B ((r, rdO K dr s (t + u)) :: (s, .lst (ns.map V.int)) :: L) H' → Q (.int ((p : Nat) : Int)) H') ∧
  (readCode cs ((bitsRow ns).drop t) = .bad → ∀ H', Hs B ((r, rdO K dr s t) :: (s, .lst (ns.map V.int)) :: L) H' → E (.ref (He.ga K "BadCode")) none H') ∧
  (readCode cs ((bitsRow ns).drop t) = .ends → ∀ H', Hs B ((r, rdO K dr s t) :: (s, .lst (ns.map V.int)) :: L) H' → E (.ref (He.ga K "NoBits")) none H')
theorem len_CodeReader_thing (h : sp_CodeReader_thing K vs H Q E) : vs.length = 2 := by
  obtain ⟨B, L, x, r, dr, s, t, ns, cs, rfl, _⟩ := h
  rfl
theorem begun_small {cs : List (Option (Nat × Nat))} (h12 : ∀ o ∈ cs, ∀ c l, o = some (c, l) → l ≤ 12) {s c : Nat} (h : begunP cs s c = true) : s < 12 := by
  unfold begunP at h
  obtain ⟨o, ho, h⟩ := List.any_eq_true.mp h
  cases o with
  | none => cases h
  | some p =>
    obtain ⟨c', l'⟩ := p
    simp only [begunO, Bool.and_eq_true, decide_eq_true_eq] at h
    have := h12 _ ho c' l' rfl
    omega
theorem go_back {B : Hp} {L : Pic} {r dr s : Addr} {t u : Nat} {ns : List Int} (h : Hs B ((r, rdO K dr s u) :: (s, .lst (ns.map V.int)) :: L) H) (ht : t ≤ 8 * ns.length) (k : ∀ H', Hs B ((r, rdO K dr s t) :: (s, .lst (ns.map V.int)) :: L) H' → Q .non H') : sp_BitReader_go K [.ref r, .int ((t : Nat) : Int)] H Q E := by
  refine ⟨B, L, r, dr, s, u, ns, _, .int ((t : Nat) : Int), rfl, .int _, h, fun i e hi H2 h2 => ?_, fun z => ?_⟩
  · obtain rfl : t = i := by
      injection e with e
      omega
    exact k H2 h2
  · simp only [Tg.isPlace, Bool.and_eq_false_iff, decide_eq_false_iff_not] at z
    omega
def t_CodeReader_thing (K : PySem.W.Frag) (W : WX) : TS :=
  (tSeq (tAsg (tMt (He.ga K "BitReader") "place" (sp_BitReader_place K) [] W (tVar 1) tNil) (gName 2))
    (tSeq (tAsg (tC (.int 0)) (gName 3))
    (tSeq (tAsg (tC (.int 0)) (gName 4))
    (tSeq (tWhile (tTest (tOp rGtU (tMt (He.ga K "BitReader") "left" (sp_BitReader_left K) [] W (tVar 1) tNil) (tC (.int 0)))) (tSeq (tAsg (tOp rOrU (tOp rShlU (tVar 4) (tC (.int 1))) (tMt (He.ga K "BitReader") "take" (sp_BitReader_take K) [] W (tVar 1) (tCons (tC (.int 1)) tNil))) (gName 4))
    (tSeq (tAug 3 (tC (.int 1)) ipAddU)
    (tSeq (tIfS (tB (tDIn (tTup (tCons (tVar 3) (tCons (tVar 4) tNil))) (tFld K (tVar 0) "known"))) (tRet (tDGet (tFld K (tVar 0) "known") (tTup (tCons (tVar 3) (tCons (tVar 4) tNil))))) tNext)
    (tIfS (tB (tDNotIn (tTup (tCons (tVar 3) (tCons (tVar 4) tNil))) (tFld K (tVar 0) "begun"))) (tSeq (tDrop (tMt (He.ga K "BitReader") "go" (sp_BitReader_go K) [] W (tVar 1) (tCons (tVar 2) tNil)))
    (tRz (He.ga K "BadCode") W)) tNext)))))
    (tSeq (tDrop (tMt (He.ga K "BitReader") "go" (sp_BitReader_go K) [] W (tVar 1) (tCons (tVar 2) tNil)))
    (tRz (He.ga K "NoBits") W))))))
theorem rd_CodeReader_thing (kBitReader : KBitReader K) (kCodeReader : KCodeReader K) (h : sp_CodeReader_thing K vs H Q E) : t_CodeReader_thing K (fun c d _ H2 => E c d H2) { nx := fun _ H' => Q .non H', rt := Q } (start ["self", "reader", "begin", "size", "code"] vs) H := by
  obtain ⟨B, L, x, r, dr, s, t, ns, cs, rfl, hs, ⟨dx, kd, bd, kvs, bvs, kx, kk, kb, hK, hB⟩, h12, hby, hnl, ht, q, qb, qe⟩ := h
  obtain ⟨bc, bn1, bn2⟩ := kBitReader
  obtain ⟨cc, n1, n2⟩ := kCodeReader
  unfold t_CodeReader_thing
  walk_at "go"
  refine ⟨B, L, r, dr, s, t, ns, rfl, hs, ?_⟩
  walk_at "go"
  refine w_while (fun m σ' L' B' => ∃ (u c : Nat), m + u = 8 * ns.length - t ∧ u ≤ 12 ∧ c < 2 ^ u ∧ codeGo cs u c ((bitsRow ns).drop (t + u)) = readCode cs ((bitsRow ns).drop t) ∧ σ' = [some (.ref x), some (.ref r), some (.int ((t : Nat) : Int)), some (.int ((u : Nat) : Int)), some (.int ((c : Nat) : Int))] ∧ B' = B ∧
    L' = (r, rdO K dr s (t + u)) :: (s, .lst (ns.map V.int)) :: L) (8 * ns.length - t) hs ⟨0, 0, by omega, by omega, by decide, rfl, rfl, rfl, rfl⟩ ?_
  rintro m σ' L' B' H' ⟨u, c, hm, hu, hc, hgo, rfl, rfl, rfl⟩ h
  clear hs
  walk_at "go"
  refine ⟨B', L, r, dr, s, t + u, ns, rfl, h, ?_⟩
  walk_at "go"
  by_cases c0 : t + u < 8 * ns.length
  rotate_left
  · refine i_f (decide_eq_false (by omega)) ?_
    have eend : readCode cs ((bitsRow ns).drop t) = .ends := by
      rw [← hgo, List.drop_of_length_le (by rw [bitsRow_length]; omega)]
      rfl
    walk_at "go"
    refine go_back h ht fun H2 h2 => ?_
    walk_at "go"
    exact qe eend _ h2
  refine i_t (decide_eq_true (by omega)) (w_turn ?_)
  have hc12 : c < 4096 := Nat.lt_of_lt_of_le hc (Nat.pow_le_pow_right (n := 2) (by decide) hu)
  have hlt : t + u < (bitsRow ns).length := by rw [bitsRow_length]; omega
  obtain ⟨b, hb⟩ : ∃ b, (bitsRow ns).drop (t + u) = b :: (bitsRow ns).drop (t + u + 1) := ⟨_, List.drop_eq_getElem_cons hlt⟩
  have htk : takenNum ns (t + u) 1 = b.toNat := by
    unfold takenNum
    rw [hb]
    simp [numOf]
  have hbl : b.toNat < 2 := by cases b <;> decide
  rw [hb, codeGo] at hgo
  walk_at "go"
  refine ⟨B', L, r, dr, s, t + u, ns, .int 1, .int 1, rfl, .int 1, h, hby, by omega, hnl, fun i e hi1 hi2 H2 h2 => ?_, (fun z => by cases z), fun i e hi1 hi2 => ?_⟩
  rotate_left
  · injection e with e
    omega
  obtain rfl : i = 1 := by
    injection e with e
    omega
  rw [htk]
  clear h e
  walk_at "go"
  rename_i kt H3 h3
  have ej : Builtin.bitOr (((c : Nat) : Int) * 2 ^ (1 : Int).toNat) ((b.toNat : Nat) : Int) = ((2 * c + b.toNat : Nat) : Int) := by
    have z := join_nat (a := c) (b := b.toNat) (k := 1) hbl
    rw [show (1 : Int).toNat = 1 from rfl, z]
    congr 1
    omega
  have hc2 : 2 * c + b.toNat < 2 ^ (u + 1) := by
    rw [Nat.pow_succ]
    omega
  rw [ej, show ((u : Nat) : Int) + 1 = ((u + 1 : Nat) : Int) by omega] at h3 ⊢
  generalize hcc : 2 * c + b.toNat = c' at *
  clear h2
  refine c_diO (ks := kyT (u + 1) c') (h3.ex _ _ kk) (h3.get (.head _)) ?_
  rw [hK.2]
  cases hf : findP cs (u + 1) c' with
  | some p =>
    rw [hf] at hgo
    walk_at "go"
    rename_i k2 H4 h4
    refine c_dgO2 (ks := kyT (u + 1) c') (h4.ex _ _ kk) (h4.get (.head _)) (by rw [hK.2, hf]; rfl) ?_
    exact q p (u + 1) hgo.symm _ h4.drop.drop
  | none =>
    rw [hf] at hgo
    walk_at "go"
    rename_i k2 H4 h4
    refine c_dnO (ks := kyT (u + 1) c') (h4.ex _ _ kb) (h4.get (.head _)) ?_
    rw [hB.2]
    cases hg : begunP cs (u + 1) c' with
    | true =>
      simp only [hg, if_true] at hgo
      walk_at "go"
      have := begun_small h12 hg
      exact ⟨m - 1, by omega, _, _, ⟨u + 1, c', by omega, by omega, hc2, hgo, rfl, rfl, rfl⟩, h4.drop.drop⟩
    | false =>
      simp only [hg] at hgo
      have h5 := h4.drop.drop
      clear h3 h4
      walk_at "go"
      refine go_back h5 ht fun H6 h6 => ?_
      walk_at "go"
      exact qb hgo.symm _ h6
end L2.BR

namespace L2.BR
open PySem PySem.Spec PyProof.Rows L2.BP
variable {K : PySem.W.Frag} {W : WX} {vs : List V} {H : Hp} {Q : VK} {E : XK}
/-! ### texts of noughts and ones -/
def dig (b : Bool) : Nat := if b then 49 else 48
def digS (b : List Bool) : Str := ⟨(b.map dig).toArray⟩
theorem digS_len (b : List Bool) : (digS b).length = b.length := by simp [digS, Str.length]
theorem digS_app (a b : List Bool) : digS a ++ digS b = digS (a ++ b) := by
  show Str.append _ _ = _
  simp [Str.append, digS]
theorem digS_rep {k : Nat} (h : k < 8) : repS "0" k = digS (List.replicate k false) := by
  revert k
  decide +kernel
theorem digS_101 : ("101" : Str) = digS [true, false, true] := by decide +kernel
theorem digS_nil : ("" : Str) = digS [] := by decide +kernel
theorem digS_cut (b : List Bool) {i j : Int} {m n : Nat} (ei : i = ((m : Nat) : Int)) (ej : j = ((n : Nat) : Int)) (h : m ≤ n) (hn : n ≤ b.length) : cutS (digS b) (some i) (some j) = digS ((b.drop m).take (n - m)) := by
  subst ei ej
  unfold cutS
  rw [HT.sIx_nat, HT.sIx_nat, digS_len, Nat.min_eq_left hn, Nat.min_eq_left (Nat.le_trans h hn)]
  unfold digS
  simp
theorem digS_at {b : List Bool} {i c : Nat} (h : (digS b).cps[i]? = some c) : ∃ x, b[i]? = some x ∧ c = dig x := by
  unfold digS at h
  rw [List.getElem?_toArray, List.getElem?_map] at h
  cases e : b[i]? with
  | none => rw [e] at h; cases h
  | some x => rw [e] at h; exact ⟨x, rfl, (Option.some.inj h).symm⟩
theorem dig_one (b : Bool) : decide ((⟨#[dig b]⟩ : Str) = "1") = b := by cases b <;> decide +kernel
theorem dig_at {n : Nat} : atI ("01" : Str).cps.toList ((n % 2 : Nat) : Int) = some (dig (n % 2 == 1)) := by
  rcases Nat.mod_two_eq_zero_or_one n with e | e <;> rw [e] <;> decide +kernel
theorem dig_S (b : Bool) : (⟨#[dig b]⟩ : Str) = digS [b] := rfl
theorem bitsOf_at (n : Nat) : ∀ s j, j < s → (bitsOf n s)[j]? = some (n / 2 ^ (s - 1 - j) % 2 == 1)
  | 0, _, h => absurd h (Nat.not_lt_zero _)
  | s + 1, 0, _ => rfl
  | s + 1, j + 1, h => by
    have ih := bitsOf_at n s j (by omega)
    rw [show s + 1 - 1 - (j + 1) = s - 1 - j by omega]
    exact ih
theorem bits_take (n : Nat) {s j : Nat} (h : j < s) : (bitsOf n s).take (j + 1) = (bitsOf n s).take j ++ [n / 2 ^ (s - 1 - j) % 2 == 1] := by
  rw [List.take_add_one, bitsOf_at n s j h]
  rfl
theorem num_take {b : List Bool} {i : Nat} {x : Bool} (h : b[i]? = some x) : numOf (b.take (i + 1)) = 2 * numOf (b.take i) + x.toNat := by
  rw [List.take_add_one, h, numOf_append]
  cases x <;> simp [numOf] <;> omega
theorem rgC8 {j : Int} {m : Nat} (e : j = 8 * ((m : Nat) : Int)) (hm : m ≤ 1000000) : RgC 0 j 8 m := by
  subst e
  have hz : Builtin.Range.rangeSize 0 (8 * ((m : Nat) : Int)) 8 = m := by
    unfold Builtin.Range.rangeSize
    simp only [show ((8 : Int) > 0) from by decide, if_true]
    split <;> omega
  refine ⟨by decide, by decide, ?_, hz⟩
  unfold Builtin.Range.small
  rw [hz]
  have f : ∀ z : Int, -1000000 ≤ z → z ≤ 9000000 → Builtin.Range.rangeFitsLong z = true := fun z h1 h2 => by
    unfold Builtin.Range.rangeFitsLong
    rw [decide_eq_true (show -(2 ^ 63) ≤ z by omega), decide_eq_true (show z < 2 ^ 63 by omega)]
    rfl
  rw [if_pos (by decide), f 0 (by decide) (by decide), f 8 (by decide) (by decide), f (8 * ((m : Nat) : Int)) (by omega) (by omega), f ((m : Nat) : Int) (by omega) (by omega), f (8 * ((m : Nat) : Int) + (8 - 1)) (by omega) (by omega)]
  simp
end L2.BR

namespace L2.BR
open PySem PySem.Spec PyProof.Rows L2.BP
/-! ### codes as texts -/
theorem fit_fold {ws : List Int} : ∀ {l : List Nat} {c : CSt}, l.Pairwise (fun a b => ws.getD a 0 ≤ ws.getD b 0) → (∀ q ∈ l, 0 < lenAt ws q → c.last ≤ lenAt ws q) → (∀ q ∈ l, lenAt ws q ≤ 12) → c.last ≤ 12 →
    (l.foldl (cstep ws) c).code * 2 ^ (12 - (l.foldl (cstep ws) c).last) = c.code * 2 ^ (12 - c.last) + (l.map fun q => if 0 < lenAt ws q then 2 ^ (12 - lenAt ws q) else 0).sum ∧
    ∀ p x k : Nat, (l.foldl (cstep ws) c).out[p]? = some (some (x, k)) → c.out[p]? = some (some (x, k)) ∨ (k ≤ 12 ∧ (x + 1) * 2 ^ (12 - k) ≤ c.code * 2 ^ (12 - c.last) + (l.map fun q => if 0 < lenAt ws q then 2 ^ (12 - lenAt ws q) else 0).sum)
  | [], c, _, _, _, _ => ⟨by simp, fun p x k h => .inl h⟩
  | q :: l, c, hp, hl, hm, h12 => by
    obtain ⟨h1, h2⟩ := List.pairwise_cons.mp hp
    rw [List.foldl_cons, List.map_cons, List.sum_cons]
    by_cases h0 : 0 < lenAt ws q
    · have hlq := hl q (.head _) h0
      have hmq := hm q (.head _)
      have e : cstep ws c q = ⟨c.code * 2 ^ (lenAt ws q - c.last) + 1, lenAt ws q, c.out.set q (some (c.code * 2 ^ (lenAt ws q - c.last), lenAt ws q))⟩ := by unfold cstep; rw [if_pos h0]
      rw [e]
      obtain ⟨a1, a2⟩ := fit_fold (c := ⟨c.code * 2 ^ (lenAt ws q - c.last) + 1, lenAt ws q, c.out.set q (some (c.code * 2 ^ (lenAt ws q - c.last), lenAt ws q))⟩) h2 (fun r hr _ => by
        have z := h1 r hr
        show lenAt ws q ≤ lenAt ws r
        unfold lenAt
        omega) (fun r hr => hm r (.tail _ hr)) hmq
      have ec : (c.code * 2 ^ (lenAt ws q - c.last) + 1) * 2 ^ (12 - lenAt ws q) = c.code * 2 ^ (12 - c.last) + 2 ^ (12 - lenAt ws q) := by
        rw [Nat.add_mul, Nat.one_mul, Nat.mul_assoc, ← Nat.pow_add, show lenAt ws q - c.last + (12 - lenAt ws q) = 12 - c.last by omega]
      dsimp only at a1 a2
      rw [if_pos h0]
      refine ⟨by rw [a1, ec]; omega, fun p x k h => ?_⟩
      rcases a2 p x k h with z | ⟨z1, z2⟩
      · by_cases ep : p = q
        · subst ep
          rw [List.getElem?_set] at z
          simp only [if_true] at z
          split at z
          · injection z with z
            injection z with z
            injection z with zx zk
            subst zx zk
            right
            refine ⟨hmq, ?_⟩
            rw [ec]
            omega
          · cases z
        · rw [List.getElem?_set_ne (fun z => ep z.symm)] at z
          exact .inl z
      · right
        rw [ec] at z2
        exact ⟨z1, by omega⟩
    · have e : cstep ws c q = c := by unfold cstep; rw [if_neg h0]
      rw [e, if_neg h0, Nat.zero_add]
      exact fit_fold h2 (fun r hr => hl r (.tail _ hr)) (fun r hr => hm r (.tail _ hr)) h12
def Fits (cs : List (Option (Nat × Nat))) : Prop := ∀ p c l : Nat, cs[p]? = some (some (c, l)) → 1 ≤ l ∧ l ≤ 12 ∧ c < 2 ^ l
theorem codes_fit {ws : List Int} (hw : ∀ n ∈ ws, 0 ≤ n ∧ n ≤ 12) (hk : kraftV (ws.map V.int) ≤ 4096) : Fits (codesOf ws) := fun p c l h => by
  obtain ⟨b1, b2⟩ := codes_len (fun n hn => (hw n hn).2) h
  refine ⟨b1, b2, ?_⟩
  obtain ⟨_, a2⟩ := fit_fold (ws := ws) (l := ordOf ws) (c := ⟨0, 0, List.replicate ws.length none⟩) (ord_sorted ws) (fun _ _ _ => Nat.zero_le _) (fun q _ => lenAt_le (fun n hn => (hw n hn).2) q) (Nat.zero_le _)
  rcases a2 p c l h with z | ⟨_, z⟩
  · have z : (List.replicate ws.length (none : Option (Nat × Nat)))[p]? = some (some (c, l)) := z
    rw [List.getElem?_replicate] at z
    split at z <;> cases z
  · have e : ((ordOf ws).map fun q => if 0 < lenAt ws q then 2 ^ (12 - lenAt ws q) else 0).sum = kraftV (ws.map V.int) := by
      have hp := ((ord_perm ws).map (fun q => if 0 < lenAt ws q then 2 ^ (12 - lenAt ws q) else 0)).sum_nat
      rw [hp]
      unfold kraftV
      rw [List.map_map]
      congr 1
      apply List.ext_getElem
      · simp
      · intro i h1 h2
        simp only [List.length_map, List.length_range] at h1
        rw [List.getElem_map, List.getElem_map, List.getElem_range]
        show (if 0 < lenAt ws i then 2 ^ (12 - lenAt ws i) else 0) = (if 0 < ws[i] then 2 ^ (12 - ws[i].toNat) else 0)
        unfold lenAt
        have e1 : ws.getD i 0 = ws[i] := by rw [List.getD_eq_getElem?_getD, List.getElem?_eq_getElem h1]; rfl
        rw [e1]
        have := (hw _ (List.getElem_mem h1)).1
        by_cases c : 0 < ws[i]
        · rw [if_pos c, if_pos (by omega)]
        · rw [if_neg c, if_neg (by omega)]
    rw [e, Nat.zero_mul, Nat.zero_add] at z
    have z2 : (c + 1) * 2 ^ (12 - l) ≤ 2 ^ l * 2 ^ (12 - l) := by
      rw [← Nat.pow_add, show l + (12 - l) = 12 by omega]
      exact Nat.le_trans z hk
    exact Nat.le_of_mul_le_mul_right z2 (Nat.two_pow_pos _)
theorem fits_le {cs : List (Option (Nat × Nat))} (h : Fits cs) : ∀ o ∈ cs, ∀ c l, o = some (c, l) → l ≤ 12 := fun o ho c l e => by
  obtain ⟨i, hi, e2⟩ := List.getElem_of_mem ho
  exact (h i c l (by rw [List.getElem?_eq_getElem hi, e2, e])).2.1
def textOf : Option (Nat × Nat) → Str
  | none => "none"
  | some (c, l) => digS (bitsOf c l)
theorem dig_map_inj : ∀ {a b : List Bool}, a.map dig = b.map dig → a = b
  | [], [], _ => rfl
  | [], _ :: _, h => by cases h
  | _ :: _, [], h => by cases h
  | x :: a, y :: b, h => by
    rw [List.map_cons, List.map_cons] at h
    injection h with h1 h2
    rw [dig_map_inj h2]
    cases x <;> cases y <;> first | rfl | cases h1
theorem digS_inj {a b : List Bool} (h : digS a = digS b) : a = b := by
  unfold digS at h
  injection h with h
  have h := congrArg Array.toList h
  simp only [List.toList_toArray] at h
  exact dig_map_inj h
theorem none_digS (b : List Bool) : ("none" : Str) ≠ digS b := fun h => by
  cases b with
  | nil => exact absurd h (by decide +kernel)
  | cons x r =>
    unfold digS at h
    have h := congrArg (fun s : Str => s.cps.toList.head?) h
    have e : (("none" : Str).cps.toList.head?) = some 110 := by decide +kernel
    simp only [e] at h
    cases x <;> simp [dig] at h
theorem bits_eq {c l : Nat} (h : c < 2 ^ l) (w : List Bool) : bitsOf c l = w ↔ l = w.length ∧ c = numOf w := by
  constructor
  · rintro rfl
    exact ⟨(bitsOf_length c l).symm, (numOf_small h).symm⟩
  · rintro ⟨rfl, rfl⟩
    exact bitsOf_numOf w
theorem text_eq {cs : List (Option (Nat × Nat))} (hf : Fits cs) {p : Nat} {o : Option (Nat × Nat)} (hp : cs[p]? = some o) (w : List Bool) : textOf o = digS w ↔ o = some (numOf w, w.length) := by
  cases o with
  | none => exact ⟨fun h => absurd h (none_digS w), fun h => by cases h⟩
  | some q =>
    obtain ⟨c, l⟩ := q
    obtain ⟨_, _, h3⟩ := hf p c l hp
    constructor
    · intro h
      obtain ⟨rfl, rfl⟩ := (bits_eq h3 w).mp (digS_inj h)
      rfl
    · intro h
      injection h with h
      injection h with h1 h2
      show digS (bitsOf c l) = _
      rw [(bits_eq h3 w).mpr ⟨h2, h1⟩]
theorem starts_dig (a w : List Bool) : Txt.startswith (digS a) (digS w) = decide (a.take w.length = w) := by
  unfold Txt.startswith Builtin.Str.subAt
  rw [digS_len, digS_len]
  apply Bool.eq_iff_iff.mpr
  simp only [Bool.and_eq_true, decide_eq_true_eq, Nat.zero_add, beq_iff_eq]
  have e : (digS a).cps.extract 0 w.length = (digS (a.take w.length)).cps := by
    unfold digS
    apply Array.ext'
    simp [List.map_take]
  rw [e]
  constructor
  · rintro ⟨_, h⟩
    exact digS_inj (by cases h2 : digS (a.take w.length); cases h3 : digS w; rw [h2, h3] at h; exact congrArg Str.mk h)
  · intro h
    rw [h]
    refine ⟨?_, rfl⟩
    have := congrArg List.length h
    rw [List.length_take] at this
    omega
theorem starts_none (w : List Bool) (hw : w ≠ []) : Txt.startswith "none" (digS w) = false := by
  cases w with
  | nil => exact absurd rfl hw
  | cons x r =>
    unfold Txt.startswith Builtin.Str.subAt
    apply Bool.eq_false_iff.mpr
    intro h
    simp only [Bool.and_eq_true, beq_iff_eq] at h
    have h := congrArg (fun s : Array Nat => s.toList.head?) h.2
    rw [show (digS (x :: r)).length = r.length + 1 by rw [digS_len]; rfl] at h
    have e : (("none" : Str).cps.extract 0 (0 + (r.length + 1))).toList.head? = some 110 := by
      have e0 : ("none" : Str).cps.toList = [110, 111, 110, 101] := by decide +kernel
      rw [Array.toList_extract, e0]
      simp
    simp only [e] at h
    cases x <;> simp [digS, dig] at h
theorem numOf_take {c l s : Nat} (h : c < 2 ^ l) (hs : s ≤ l) : numOf ((bitsOf c l).take s) = c / 2 ^ (l - s) := by
  have e := numOf_append ((bitsOf c l).take s) ((bitsOf c l).drop s)
  rw [List.take_append_drop, numOf_small h, List.length_drop, bitsOf_length] at e
  have lt := numOf_lt ((bitsOf c l).drop s)
  rw [List.length_drop, bitsOf_length] at lt
  conv => rhs; rw [e, Nat.add_comm, Nat.add_mul_div_right _ _ (Nat.two_pow_pos _), Nat.div_eq_of_lt lt, Nat.zero_add]
theorem take_eq {c l : Nat} (h : c < 2 ^ l) {w : List Bool} (hw : w.length ≤ l) : (bitsOf c l).take w.length = w ↔ c / 2 ^ (l - w.length) = numOf w := by
  rw [← numOf_take h hw]
  constructor
  · intro e
    rw [e]
  · intro e
    exact numOf_inj _ _ (by rw [List.length_take, bitsOf_length]; omega) e
/-- whether a code's text goes on with what comes -/
theorem text_starts {cs : List (Option (Nat × Nat))} (hf : Fits cs) {p : Nat} {o : Option (Nat × Nat)} (hp : cs[p]? = some o) {w : List Bool} (hw : w ≠ []) (hne : o ≠ some (numOf w, w.length)) : Txt.startswith (textOf o) (digS w) = begunO w.length (numOf w) o := by
  cases o with
  | none => exact starts_none w hw
  | some q =>
    obtain ⟨c, l⟩ := q
    obtain ⟨_, _, h3⟩ := hf p c l hp
    have hw1 : 1 ≤ w.length := List.length_pos_iff.mpr hw
    show Txt.startswith (digS (bitsOf c l)) (digS w) = _
    rw [starts_dig]
    simp only [begunO]
    rw [decide_eq_true hw1, Bool.true_and]
    by_cases hl : w.length ≤ l
    · by_cases he : w.length = l
      · rw [decide_eq_false (show ¬ w.length < l by omega), Bool.false_and]
        rw [decide_eq_false]
        intro z
        apply hne
        rw [take_eq h3 hl, he, Nat.sub_self, Nat.pow_zero, Nat.div_one] at z
        rw [z, he]
      · rw [decide_eq_true (show w.length < l by omega), Bool.true_and]
        exact dec_of (take_eq h3 hl)
    · rw [decide_eq_false (show ¬ w.length < l by omega), Bool.false_and, decide_eq_false]
      intro z
      have := congrArg List.length z
      rw [List.length_take, bitsOf_length] at this
      omega
theorem find_text {cs : List (Option (Nat × Nat))} (hf : Fits cs) (w : List Bool) : (findP cs w.length (numOf w) = none ↔ digS w ∉ cs.map textOf) ∧ ∀ p, findP cs w.length (numOf w) = some p → (cs.map textOf)[p]? = some (digS w) ∧ ∀ m, m < p → (cs.map textOf)[m]? ≠ some (digS w) := by
  constructor
  · unfold findP
    rw [List.findIdx?_eq_none_iff, List.mem_map]
    constructor
    · rintro h ⟨o, ho, e⟩
      obtain ⟨i, hi, e2⟩ := List.getElem_of_mem ho
      have z := (text_eq hf (p := i) (by rw [List.getElem?_eq_getElem hi, e2]) w).mp e
      have := h o ho
      rw [decide_eq_false_iff_not] at this
      exact this z
    · intro h o ho
      rw [decide_eq_false_iff_not]
      intro z
      obtain ⟨i, hi, e2⟩ := List.getElem_of_mem ho
      exact h ⟨o, ho, (text_eq hf (p := i) (by rw [List.getElem?_eq_getElem hi, e2]) w).mpr z⟩
  · intro p hp
    unfold findP at hp
    obtain ⟨hpl, h1, h2⟩ := List.findIdx?_eq_some_iff_getElem.mp hp
    rw [decide_eq_true_eq] at h1
    refine ⟨?_, fun m hm => ?_⟩
    · rw [List.getElem?_map, List.getElem?_eq_getElem hpl]
      exact congrArg some ((text_eq hf (p := p) (List.getElem?_eq_getElem hpl) w).mpr h1)
    · rw [List.getElem?_map, List.getElem?_eq_getElem (by omega)]
      intro z
      have z := Option.some.inj z
      have z2 := (text_eq hf (p := m) (List.getElem?_eq_getElem (by omega)) w).mp z
      have := h2 m hm
      rw [Bool.not_eq_true, decide_eq_false_iff_not] at this
      exact this z2
theorem begun_text {cs : List (Option (Nat × Nat))} (hf : Fits cs) {w : List Bool} (hw : w ≠ []) (hn : findP cs w.length (numOf w) = none) : ((cs.map textOf).filter fun t => Txt.startswith t (digS w)) = [] ↔ begunP cs w.length (numOf w) = false := by
  unfold findP at hn
  rw [List.findIdx?_eq_none_iff] at hn
  unfold begunP
  rw [List.filter_eq_nil_iff, List.any_eq_false]
  constructor
  · intro h o ho
    obtain ⟨i, hi, e2⟩ := List.getElem_of_mem ho
    have z := hn o ho
    rw [decide_eq_false_iff_not] at z
    have := h (textOf o) (List.mem_map_of_mem ho)
    rw [text_starts hf (p := i) (by rw [List.getElem?_eq_getElem hi, e2]) hw z] at this
    exact this
  · intro h t ht
    obtain ⟨o, ho, rfl⟩ := List.mem_map.mp ht
    obtain ⟨i, hi, e2⟩ := List.getElem_of_mem ho
    have z := hn o ho
    rw [decide_eq_false_iff_not] at z
    rw [text_starts hf (p := i) (by rw [List.getElem?_eq_getElem hi, e2]) hw z]
    exact h o ho
end L2.BR

namespace L2.BR
open PySem PySem.Spec PyProof.Rows L2.BP
variable {K : PySem.W.Frag} {W : WX} {vs : List V} {H : Hp} {Q : VK} {E : XK}
theorem digS_drop (b : List Bool) (t : Nat) : cutS (digS b) (some ((t : Nat) : Int)) none = digS (b.drop t) := by
  unfold cutS
  rw [HT.sIx_nat, HT.sIx_none, digS_len]
  unfold digS
  by_cases h : t ≤ b.length
  · rw [Nat.min_eq_left h]
    simp [List.map_drop, List.take_of_length_le]
  · rw [Nat.min_eq_right (by omega), List.drop_of_length_le (by omega : b.length ≤ t)]
    simp
/-! ### what is due by the law's own look -/
theorem dig_ok (w : List Bool) : PyData.canLay0 (.str (digS w)) = true := by
  show (digS w).cps.all (fun c => decide (c < 0x110000)) = true
  unfold digS
  rw [List.all_toArray, List.all_map, List.all_eq_true]
  intro b _
  cases b <;> rfl
theorem texts_flat (cs : List (Option (Nat × Nat))) (f : Str → Bool) : (((cs.map textOf).filter f).map V.str).all L2.BP.flatV = true := by
  rw [List.all_map, List.all_eq_true]
  intro s hs
  obtain ⟨o, _, rfl⟩ := List.mem_map.mp (List.mem_filter.mp hs).1
  cases o with
  | none => decide +kernel
  | some q => exact dig_ok _
def resD : CRes → PyData
  | .thing p _ => .int ((p : Nat) : Int)
  | .bad => .tuple [.str "refused", .list [.bool true, .bool false]]
  | .ends => .tuple [.str "refused", .list [.bool false, .bool true]]
def resU : CRes → Nat
  | .thing _ u => u
  | _ => 0
def sp__law_due (K : PySem.W.Frag) : Sp := fun vs H Q _ => ∃ (B : Hp) (L : Pic) (a : Addr) (cs : List (Option (Nat × Nat))) (bits : List Bool) (t : Nat), vs = [.ref a, .str (digS bits), .int ((t : Nat) : Int)] ∧ Hs B L H ∧ SqL K B a ((cs.map textOf).map V.str) ∧ Fits cs ∧ cs.length ≤ 300 ∧ bits.length ≤ 10000 ∧ t ≤ bits.length ∧
  ∀ (B2 : Hp) (p : Addr) (v : V) (H' : Hp), Same B B2 → Hs B2 L H' → SqT K B2 p [v, .int ((t + resU (readCode cs (bits.drop t)) : Nat) : Int)] → Dp K B2 v (resD (readCode cs (bits.drop t))) → Q (.ref p) H'
theorem len__law_due (h : sp__law_due K vs H Q E) : vs.length = 3 := by
  obtain ⟨B, L, a, cs, bits, t, rfl, _⟩ := h
  rfl
def t__law_due (K : PySem.W.Frag) (W : WX) : TS :=
  (tSeq (tAsg (tC (.str "")) (gName 3))
    (tSeq (tFor (iStr (tSl (rSlK K) (tVar 1) (tPart (tVar 2)) tNoPart)) (gName 4) (tSeq (tAsg (tOp rAddU (tVar 3) (tVar 4)) (gName 3))
    (tSeq (tAsg (tLc (iList K (tVar 0)) (gName 6) (tB (tM1 rStartsK (tVar 6) (tVar 3))) (tVar 6) [6]) (gName 5))
    (tSeq (tIfS (tTest (tOp (rInU K) (tVar 3) (tVar 0))) (tRet (tTup (tCons (tBM K "list" (rIndex K) (tVar 0) (tCons (tVar 3) tNil)) (tCons (tOp rAddU (tVar 2) (tCB (rLenK K) (tCons (tVar 3) tNil))) tNil)))) tNext)
    (tIfS (tTest (tOp (rEqU K) (tVar 5) (tLst tNil))) (tRet (tTup (tCons (tTup (tCons (tC (.str "refused")) (tCons (tLst (tCons (tC (.bl true)) (tCons (tC (.bl false)) tNil))) tNil))) (tCons (tVar 2) tNil)))) tNext)))))
    (tRet (tTup (tCons (tTup (tCons (tC (.str "refused")) (tCons (tLst (tCons (tC (.bl false)) (tCons (tC (.bl true)) tNil))) tNil))) (tCons (tVar 2) tNil))))))
theorem rd__law_due (h : sp__law_due K vs H Q E) : t__law_due K W { nx := fun _ H' => Q .non H', rt := Q } (start ["_law_codes_here", "_law_bits_here", "_law_at", "_law_word_here", "_law_bit", "_law_begun", "_law_code"] vs) H := by
  obtain ⟨B, L, a, cs, bits, t, rfl, hs, hS, hf, hc3, hbl, ht, q⟩ := h
  unfold t__law_due
  walk_at "go"
  have hdl := digS_len bits
  refine c_slS (by rw [hdl]; exact small6' (by omega)) ?_
  rw [digS_drop]
  walk_at "go"
  obtain ⟨r, hr⟩ : ∃ r, r = bits.drop t := ⟨_, rfl⟩
  have hrl : r.length ≤ 10000 := by rw [hr, List.length_drop]; omega
  rw [← hr] at q ⊢
  refine w_forS (fun j σ' L' B' => ∃ (w4 w5 : Option V), σ' = [some (.ref a), some (.str (digS bits)), some (.int ((t : Nat) : Int)), some (.str (digS (r.take j))), w4, w5, none] ∧ B' = B ∧ L' = L ∧ codeGo cs j (numOf (r.take j)) (r.drop j) = readCode cs r) hs ⟨none, none, by rw [List.take_zero, ← digS_nil]; rfl, rfl, rfl, rfl⟩ ?_ ?_
  · rintro j ch σ' L' B' H' hch ⟨w4, w5, rfl, rfl, rfl, hgo⟩ h
    obtain ⟨x, hx, rfl⟩ := digS_at hch
    have hj : j < r.length := (List.getElem?_eq_some_iff.mp hx).1
    have htk : r.take (j + 1) = r.take j ++ [x] := by rw [List.take_add_one, hx]; rfl
    have hwl : (r.take (j + 1)).length = j + 1 := by rw [List.length_take]; omega
    have hw0 : r.take (j + 1) ≠ [] := fun z => by rw [z] at hwl; cases hwl
    have hdr : r.drop j = x :: r.drop (j + 1) := by
      rw [List.drop_eq_getElem_cons hj]
      rw [List.getElem?_eq_getElem hj] at hx
      injection hx with hx
      rw [hx]
    have hS' := h.bl hS
    rw [hdr, codeGo, ← num_take hx] at hgo
    rw [dig_S]
    obtain ⟨f1, f2⟩ := find_text hf (r.take (j + 1))
    have bt := begun_text hf hw0
    rw [hwl] at f1 f2 bt
    clear hs
    walk_at "go"
    refine c_addS (by rw [digS_len, digS_len, List.length_take, List.length_singleton]; exact small6' (by omega)) ?_
    rw [digS_app, ← htk]
    generalize hw : r.take (j + 1) = w at *
    walk_at "go"
    refine c_lcL V.str (cs.map textOf) (fun pre acc B2 => acc = (pre.filter fun s => Txt.startswith s (digS w)).map V.str ∧ B2 = B') h ⟨rfl, rfl⟩ (fun B2 H2 e2 h2 => h2.bl (e2.seq hS)) ?_ ?_
    · rintro pre s post acc B2 D H2 e ⟨rfl, rfl⟩ e2 h2
      have hsm : ((pre.filter fun s => Txt.startswith s (digS w)).map V.str).length < sizeLine := by
        rw [List.length_map]
        have z1 := List.length_filter_le (fun s => Txt.startswith s (digS w)) pre
        have z2 := congrArg List.length e
        rw [List.length_append, List.length_cons, List.length_map] at z2
        exact small6 (by omega)
      walk_at "go"
      refine ⟨rfl, ?_⟩
      walk_at "go"
      refine c_m1 ?_
      walk_at "go"
      refine ⟨⟨_, rfl⟩, ?_⟩
      walk_at "go"
      refine c_starts ?_
      walk_at "go"
      cases hst : Txt.startswith s (digS w) with
      | true =>
        walk_at "go"
        refine c_item h2 hsm e2 ⟨?_, rfl⟩
        rw [List.filter_append, List.map_append]
        simp [hst]
      | false =>
        walk_at "go"
        refine ⟨_, _, ⟨?_, rfl⟩, e2, h2⟩
        rw [List.filter_append]
        simp [hst]
    · rintro acc B2 D H2 ⟨rfl, rfl⟩ _ h2
      have hS2 := h2.bl hS
      clear h
      walk_at "go"
      refine c_inStr hS2 ?_
      cases hfp : findP cs (j + 1) (numOf w) with
      | some p =>
        rw [hfp] at hgo
        obtain ⟨g1, g2⟩ := f2 p hfp
        rw [decide_eq_true (List.mem_of_getElem? g1)]
        walk_at "go"
        refine c_indexS hS2 g1 g2 ?_
        walk_at "go"
        refine c_lenS (by rw [digS_len, hwl]; exact small6' (by omega)) ?_
        rw [digS_len, hwl]
        walk_at "go"
        rename_i T H3 h3
        have er : readCode cs r = .thing p (j + 1) := hgo.symm
        obtain ⟨B4, s4, h5, k5⟩ := Hs.fixes (N := [_, _]) h3
        refine q B4 T (.int ((p : Nat) : Int)) H3 s4 h5 ?_ ?_
        · rw [er]
          have z : SqT K B4 T _ := .of (k5 _ (.head _))
          rw [show ((t : Nat) : Int) + ((j + 1 : Nat) : Int) = ((t + (j + 1) : Nat) : Int) by omega] at z
          exact z
        · rw [er]
          exact .int _
      | none =>
        rw [hfp] at hgo
        rw [decide_eq_false (f1.mp hfp)]
        walk_at "go"
        rename_i l4 H4 h4
        cases hbg : begunP cs (j + 1) (numOf w) with
        | true =>
          simp only [hbg, if_true] at hgo
          have hne : ((cs.map textOf).filter fun s => Txt.startswith s (digS w)) ≠ [] := fun z => by
            rw [(bt hfp).mp z] at hbg
            cases hbg
          refine c_eqLen (n := 1) (m := 1) (h4.sql (.tail _ (.head _))) (h4.sql (.head _)) (LD.flat (texts_flat _ _)) LD.nil (by decide) (by decide) (by rw [List.length_map]; exact fun z => hne (List.length_eq_zero_iff.mp z)) ?_
          walk_at "go"
          exact ⟨_, _, ⟨_, _, by rw [hw]; rfl, rfl, rfl, by rw [hw]; exact hgo⟩, h4.drop.drop⟩
        | false =>
          simp only [hbg] at hgo
          have hem := (bt hfp).mpr hbg
          rw [hem] at h4
          refine c_eqSame (n := 1) (h4.sql (.tail _ (.head _))) (h4.sql (.head _)) LD.nil (by decide) ?_
          walk_at "go"
          rename_i l5 H5 h5 T6 H6 h6 T7 H7 h7
          have er : readCode cs r = .bad := hgo.symm
          obtain ⟨B4, s4, h8, k8⟩ := Hs.fixes (N := [_, _, _, _, _]) h7
          refine q B4 T7 (.ref T6) H7 s4 h8 ?_ ?_
          · rw [er]
            exact .of (k8 _ (.head _))
          · rw [er]
            exact .tup (.of (k8 _ (.tail _ (.head _)))) (.cons (.str _) (.cons (.lst (.of (k8 _ (.tail _ (.tail _ (.head _))))) (.cons (.bl _) (.cons (.bl _) .nil))) .nil))
  · rintro σ' L' B' H' ⟨w4, w5, rfl, rfl, rfl, hgo⟩ h
    rw [show (digS r).cps.size = r.length from digS_len r, List.drop_length] at hgo
    walk_at "go"
    rename_i l5 H5 h5 T6 H6 h6 T7 H7 h7
    have er : readCode cs r = .ends := hgo.symm
    obtain ⟨B4, s4, h8, k8⟩ := Hs.fixes (N := [_, _, _]) h7
    refine q B4 T7 (.ref T6) H7 s4 h8 ?_ ?_
    · rw [er]
      exact .of (k8 _ (.head _))
    · rw [er]
      exact .tup (.of (k8 _ (.tail _ (.head _)))) (.cons (.str _) (.cons (.lst (.of (k8 _ (.tail _ (.tail _ (.head _))))) (.cons (.bl _) (.cons (.bl _) .nil))) .nil))
end L2.BR

namespace L2.BR
open PySem PySem.Spec PyProof.Rows L2.BP
variable {K : PySem.W.Frag} {W : WX} {vs : List V} {H : Hp} {Q : VK} {E : XK}
theorem c_inBl {l : Addr} {xs : List V} (h : SqL K H l xs) (hf : xs.all L2.flatV = true) (hn : L2.inV (.bl true) xs = false) (k : Q (.bl false) H) : rInU K (.bl true) (.ref l) H Q := .inl ⟨l, xs, rfl, .inl h, rfl, hf, by rw [hn]; exact k⟩
def sp__law_word (K : PySem.W.Frag) : SpE := fun a cls d vs H Q _ => ∃ (D : Addr) (w : Str) (b : Bool), cls = .ref D ∧ d = none ∧ vs = [.ref a] ∧ WordOf K D w ∧ ((w = "code" ∧ b = true) ∨ (w = "nobits" ∧ b = false)) ∧
  ∀ (T : Addr) (H' : Hp), Same H H' → Dp K H' (.ref T) (.tuple [.str "refused", .list [.bool b, .bool (!b)]]) → Q (.ref T) H'
theorem len__law_word {a : Addr} {cls : Value} {d : Option Addr} (h : sp__law_word K a cls d vs H Q E) : vs.length = 1 := by
  obtain ⟨D, w, b, _, _, rfl, _⟩ := h
  rfl
def t__law_word (K : PySem.W.Frag) (a : Addr) (cls : Value) (d : Option Addr) : TS :=
  (tSeq (tAsg (tLst (tCons (tCB (rIsX K a cls d) (tCons (tVar 0) (tCons (tC (.ref (He.ga K "BadBits"))) tNil))) (tCons (tCB (rIsX K a cls d) (tCons (tVar 0) (tCons (tC (.ref (He.ga K "BadBody"))) tNil))) (tCons (tCB (rIsX K a cls d) (tCons (tVar 0) (tCons (tC (.ref (He.ga K "BadCheck"))) tNil))) (tCons (tCB (rIsX K a cls d) (tCons (tVar 0) (tCons (tC (.ref (He.ga K "BadLengths"))) tNil))) tNil))))) (gName 1))
    (tSeq (tAsg (tOp rAddU (tVar 1) (tLst (tCons (tCB (rIsX K a cls d) (tCons (tVar 0) (tCons (tC (.ref (He.ga K "BadHead"))) tNil))) (tCons (tCB (rIsX K a cls d) (tCons (tVar 0) (tCons (tC (.ref (He.ga K "BadShares"))) tNil))) (tCons (tCB (rIsX K a cls d) (tCons (tVar 0) (tCons (tC (.ref (He.ga K "BadLetters"))) tNil))) tNil))))) (gName 1))
    (tSeq (tAsg (tOp rAddU (tVar 1) (tLst (tCons (tCB (rIsX K a cls d) (tCons (tVar 0) (tCons (tC (.ref (He.ga K "BadMark"))) tNil))) (tCons (tCB (rIsX K a cls d) (tCons (tVar 0) (tCons (tC (.ref (He.ga K "BadPieces"))) tNil))) (tCons (tCB (rIsX K a cls d) (tCons (tVar 0) (tCons (tC (.ref (He.ga K "BadRow"))) tNil))) (tCons (tCB (rIsX K a cls d) (tCons (tVar 0) (tCons (tC (.ref (He.ga K "BadTable"))) tNil))) tNil)))))) (gName 1))
    (tSeq (tAsg (tOp rAddU (tVar 1) (tLst (tCons (tCB (rIsX K a cls d) (tCons (tVar 0) (tCons (tC (.ref (He.ga K "BadTail"))) tNil))) (tCons (tCB (rIsX K a cls d) (tCons (tVar 0) (tCons (tC (.ref (He.ga K "Behind"))) tNil))) (tCons (tCB (rIsX K a cls d) (tCons (tVar 0) (tCons (tC (.ref (He.ga K "Cut"))) tNil))) (tCons (tCB (rIsX K a cls d) (tCons (tVar 0) (tCons (tC (.ref (He.ga K "NoRange"))) tNil))) tNil)))))) (gName 1))
    (tSeq (tIfS ((tOr (tTest (tOp (rInU K) (tC (.bl true)) (tOp rAddU (tVar 1) (tLst (tCons (tCB (rIsX K a cls d) (tCons (tVar 0) (tCons (tC (.ref (He.ga K "Over"))) tNil))) tNil))))) (tNot (tB (tCB (rIsX K a cls d) (tCons (tVar 0) (tCons (tC (.ty "ValueError")) tNil))))))) (tRet (tTup (tCons (tC (.str "refused")) (tCons (tC (.str "other")) tNil)))) tNext)
    (tRet (tTup (tCons (tC (.str "refused")) (tCons (tLst (tCons (tCB (rIsX K a cls d) (tCons (tVar 0) (tCons (tC (.ref (He.ga K "BadCode"))) tNil))) (tCons (tCB (rIsX K a cls d) (tCons (tVar 0) (tCons (tC (.ref (He.ga K "NoBits"))) tNil))) tNil))) tNil)))))))))
theorem rd__law_word {a : Addr} {cls : Value} {d : Option Addr} (h : sp__law_word K a cls d vs H Q E) : t__law_word K a cls d { nx := fun _ H' => Q .non H', rt := Q } (start ["_law_e", "_law_some"] vs) H := by
  obtain ⟨D, w, b, rfl, rfl, rfl, W, hwb, q⟩ := h
  have hs := Hs.start H
  have hno : ∀ u : Str, decide (u = "code") = false → decide (u = "nobits") = false → decide (u = w) = false := fun u h1 h2 => by
    rcases hwb with ⟨rfl, _⟩ | ⟨rfl, _⟩
    · exact h1
    · exact h2
  have hcd : decide (("code" : Str) = w) = b := by
    rcases hwb with ⟨rfl, rfl⟩ | ⟨rfl, rfl⟩ <;> decide +kernel
  have hnb : decide (("nobits" : Str) = w) = !b := by
    rcases hwb with ⟨rfl, rfl⟩ | ⟨rfl, rfl⟩ <;> decide +kernel
  unfold t__law_word
  walk_at "go"
  refine c_isXw W (u := "bits") (by decide) ?_
  rw [hno "bits" (by decide +kernel) (by decide +kernel)]
  walk_at "go"
  refine c_isXw W (u := "body") (by decide) ?_
  rw [hno "body" (by decide +kernel) (by decide +kernel)]
  walk_at "go"
  refine c_isXw W (u := "check") (by decide) ?_
  rw [hno "check" (by decide +kernel) (by decide +kernel)]
  walk_at "go"
  refine c_isXw W (u := "lengths") (by decide) ?_
  rw [hno "lengths" (by decide +kernel) (by decide +kernel)]
  walk_at "go"
  rename_i l0 H0 h0
  refine c_isXw W (u := "head") (by decide) ?_
  rw [hno "head" (by decide +kernel) (by decide +kernel)]
  walk_at "go"
  refine c_isXw W (u := "shares") (by decide) ?_
  rw [hno "shares" (by decide +kernel) (by decide +kernel)]
  walk_at "go"
  refine c_isXw W (u := "letters") (by decide) ?_
  rw [hno "letters" (by decide +kernel) (by decide +kernel)]
  walk_at "go"
  rename_i m1 G1 g1
  refine c_addL g1 (g1.get (.tail _ (.head _))) (g1.get (.head _)) (small6' (by decide)) fun l1 H1 e1 => ?_
  have h1 := e1.drop1.drop1
  clear h0 g1 e1
  walk_at "go"
  refine c_isXw W (u := "mark") (by decide) ?_
  rw [hno "mark" (by decide +kernel) (by decide +kernel)]
  walk_at "go"
  refine c_isXw W (u := "pieces") (by decide) ?_
  rw [hno "pieces" (by decide +kernel) (by decide +kernel)]
  walk_at "go"
  refine c_isXw W (u := "row") (by decide) ?_
  rw [hno "row" (by decide +kernel) (by decide +kernel)]
  walk_at "go"
  refine c_isXw W (u := "table") (by decide) ?_
  rw [hno "table" (by decide +kernel) (by decide +kernel)]
  walk_at "go"
  rename_i m2 G2 g2
  refine c_addL g2 (g2.get (.tail _ (.head _))) (g2.get (.head _)) (small6' (by decide)) fun l2 H2 e2 => ?_
  have h2 := e2.drop1.drop1
  clear h1 g2 e2
  walk_at "go"
  refine c_isXw W (u := "tail") (by decide) ?_
  rw [hno "tail" (by decide +kernel) (by decide +kernel)]
  walk_at "go"
  refine c_isXw W (u := "behind") (by decide) ?_
  rw [hno "behind" (by decide +kernel) (by decide +kernel)]
  walk_at "go"
  refine c_isXw W (u := "cut") (by decide) ?_
  rw [hno "cut" (by decide +kernel) (by decide +kernel)]
  walk_at "go"
  refine c_isXw W (u := "range") (by decide) ?_
  rw [hno "range" (by decide +kernel) (by decide +kernel)]
  walk_at "go"
  rename_i m3 G3 g3
  refine c_addL g3 (g3.get (.tail _ (.head _))) (g3.get (.head _)) (small6' (by decide)) fun l3 H3 e3 => ?_
  have h3 := e3.drop1.drop1
  clear h2 g3 e3
  walk_at "go"
  refine c_isXw W (u := "over") (by decide) ?_
  rw [hno "over" (by decide +kernel) (by decide +kernel)]
  walk_at "go"
  rename_i m4 G4 g4
  refine c_addL g4 (g4.get (.tail _ (.head _))) (g4.get (.head _)) (small6' (by decide)) fun l4 H4 e4 => ?_
  have h4 := e4.drop1.drop1
  clear h3 g4 e4
  walk_at "go"
  refine c_inBl (h4.sql (.head _)) (by decide) (by decide) ?_
  walk_at "go"
  refine c_isXv W.x W.v ?_
  walk_at "go"
  refine c_isXw W (u := "code") (by decide) ?_
  rw [hcd]
  walk_at "go"
  refine c_isXw W (u := "nobits") (by decide) ?_
  rw [hnb]
  walk_at "go"
  rename_i l5 H5 h5 T H6 h6
  exact q T H6 h6.ex (.tup (h6.sqt (.head _)) (.cons (.str _) (.cons (.lst (h6.sql (by walk_at "deep")) (.cons (.bl _) (.cons (.bl _) .nil))) .nil)))
end L2.BR

namespace L2.BR
open PySem PySem.Spec PyProof.Rows L2.BP
variable {K : PySem.W.Frag}
structure KWBadCode (K : PySem.W.Frag) : Prop where
  x : ExcC K (He.ga K "BadCode")
  p : PySem.W.exmOne K (.ref (He.ga K "BadCode")) (.ref (He.ga K "PressError")) = some true
  v : PySem.W.kitOne K (.ref (He.ga K "BadCode")) (.type "ValueError") = some true
  f0 : PySem.W.kitOne K (.ref (He.ga K "BadCode")) (.ref (He.ga K "BadRow")) = some false
  f1 : PySem.W.kitOne K (.ref (He.ga K "BadCode")) (.ref (He.ga K "BadBits")) = some false
  f2 : PySem.W.kitOne K (.ref (He.ga K "BadCode")) (.ref (He.ga K "NoBits")) = some false
  f3 : PySem.W.kitOne K (.ref (He.ga K "BadCode")) (.ref (He.ga K "BadShares")) = some false
  f4 : PySem.W.kitOne K (.ref (He.ga K "BadCode")) (.ref (He.ga K "BadLengths")) = some false
  f5 : PySem.W.kitOne K (.ref (He.ga K "BadCode")) (.ref (He.ga K "BadCode")) = some true
  f6 : PySem.W.kitOne K (.ref (He.ga K "BadCode")) (.ref (He.ga K "BadTable")) = some false
  f7 : PySem.W.kitOne K (.ref (He.ga K "BadCode")) (.ref (He.ga K "Cut")) = some false
  f8 : PySem.W.kitOne K (.ref (He.ga K "BadCode")) (.ref (He.ga K "BadPieces")) = some false
  f9 : PySem.W.kitOne K (.ref (He.ga K "BadCode")) (.ref (He.ga K "BadBody")) = some false
  f10 : PySem.W.kitOne K (.ref (He.ga K "BadCode")) (.ref (He.ga K "BadHead")) = some false
  f11 : PySem.W.kitOne K (.ref (He.ga K "BadCode")) (.ref (He.ga K "BadCheck")) = some false
  f12 : PySem.W.kitOne K (.ref (He.ga K "BadCode")) (.ref (He.ga K "BadMark")) = some false
  f13 : PySem.W.kitOne K (.ref (He.ga K "BadCode")) (.ref (He.ga K "BadTail")) = some false
  f14 : PySem.W.kitOne K (.ref (He.ga K "BadCode")) (.ref (He.ga K "Behind")) = some false
  f15 : PySem.W.kitOne K (.ref (He.ga K "BadCode")) (.ref (He.ga K "Over")) = some false
  f16 : PySem.W.kitOne K (.ref (He.ga K "BadCode")) (.ref (He.ga K "NoRange")) = some false
  f17 : PySem.W.kitOne K (.ref (He.ga K "BadCode")) (.ref (He.ga K "BadLetters")) = some false
theorem KWBadCode.word (k : KWBadCode K) : WordOf K (He.ga K "BadCode") "code" := by
  refine ⟨k.x, k.v, fun p m => ?_, by decide +kernel⟩
  simp only [wordL, List.mem_cons, List.not_mem_nil, or_false] at m
  rcases m with rfl | rfl | rfl | rfl | rfl | rfl | rfl | rfl | rfl | rfl | rfl | rfl | rfl | rfl | rfl | rfl | rfl | rfl
  · rw [show decide (("row" : Str) = "code") = false by decide +kernel]
    exact k.f0
  · rw [show decide (("bits" : Str) = "code") = false by decide +kernel]
    exact k.f1
  · rw [show decide (("nobits" : Str) = "code") = false by decide +kernel]
    exact k.f2
  · rw [show decide (("shares" : Str) = "code") = false by decide +kernel]
    exact k.f3
  · rw [show decide (("lengths" : Str) = "code") = false by decide +kernel]
    exact k.f4
  · rw [show decide (("code" : Str) = "code") = true by decide +kernel]
    exact k.f5
  · rw [show decide (("table" : Str) = "code") = false by decide +kernel]
    exact k.f6
  · rw [show decide (("cut" : Str) = "code") = false by decide +kernel]
    exact k.f7
  · rw [show decide (("pieces" : Str) = "code") = false by decide +kernel]
    exact k.f8
  · rw [show decide (("body" : Str) = "code") = false by decide +kernel]
    exact k.f9
  · rw [show decide (("head" : Str) = "code") = false by decide +kernel]
    exact k.f10
  · rw [show decide (("check" : Str) = "code") = false by decide +kernel]
    exact k.f11
  · rw [show decide (("mark" : Str) = "code") = false by decide +kernel]
    exact k.f12
  · rw [show decide (("tail" : Str) = "code") = false by decide +kernel]
    exact k.f13
  · rw [show decide (("behind" : Str) = "code") = false by decide +kernel]
    exact k.f14
  · rw [show decide (("over" : Str) = "code") = false by decide +kernel]
    exact k.f15
  · rw [show decide (("range" : Str) = "code") = false by decide +kernel]
    exact k.f16
  · rw [show decide (("letters" : Str) = "code") = false by decide +kernel]
    exact k.f17
end L2.BR

namespace L2.BR
open PySem PySem.Spec PyProof.Rows L2.BP
variable {K : PySem.W.Frag}
structure KWNoBits (K : PySem.W.Frag) : Prop where
  x : ExcC K (He.ga K "NoBits")
  p : PySem.W.exmOne K (.ref (He.ga K "NoBits")) (.ref (He.ga K "PressError")) = some true
  v : PySem.W.kitOne K (.ref (He.ga K "NoBits")) (.type "ValueError") = some true
  f0 : PySem.W.kitOne K (.ref (He.ga K "NoBits")) (.ref (He.ga K "BadRow")) = some false
  f1 : PySem.W.kitOne K (.ref (He.ga K "NoBits")) (.ref (He.ga K "BadBits")) = some false
  f2 : PySem.W.kitOne K (.ref (He.ga K "NoBits")) (.ref (He.ga K "NoBits")) = some true
  f3 : PySem.W.kitOne K (.ref (He.ga K "NoBits")) (.ref (He.ga K "BadShares")) = some false
  f4 : PySem.W.kitOne K (.ref (He.ga K "NoBits")) (.ref (He.ga K "BadLengths")) = some false
  f5 : PySem.W.kitOne K (.ref (He.ga K "NoBits")) (.ref (He.ga K "BadCode")) = some false
  f6 : PySem.W.kitOne K (.ref (He.ga K "NoBits")) (.ref (He.ga K "BadTable")) = some false
  f7 : PySem.W.kitOne K (.ref (He.ga K "NoBits")) (.ref (He.ga K "Cut")) = some false
  f8 : PySem.W.kitOne K (.ref (He.ga K "NoBits")) (.ref (He.ga K "BadPieces")) = some false
  f9 : PySem.W.kitOne K (.ref (He.ga K "NoBits")) (.ref (He.ga K "BadBody")) = some false
  f10 : PySem.W.kitOne K (.ref (He.ga K "NoBits")) (.ref (He.ga K "BadHead")) = some false
  f11 : PySem.W.kitOne K (.ref (He.ga K "NoBits")) (.ref (He.ga K "BadCheck")) = some false
  f12 : PySem.W.kitOne K (.ref (He.ga K "NoBits")) (.ref (He.ga K "BadMark")) = some false
  f13 : PySem.W.kitOne K (.ref (He.ga K "NoBits")) (.ref (He.ga K "BadTail")) = some false
  f14 : PySem.W.kitOne K (.ref (He.ga K "NoBits")) (.ref (He.ga K "Behind")) = some false
  f15 : PySem.W.kitOne K (.ref (He.ga K "NoBits")) (.ref (He.ga K "Over")) = some false
  f16 : PySem.W.kitOne K (.ref (He.ga K "NoBits")) (.ref (He.ga K "NoRange")) = some false
  f17 : PySem.W.kitOne K (.ref (He.ga K "NoBits")) (.ref (He.ga K "BadLetters")) = some false
theorem KWNoBits.word (k : KWNoBits K) : WordOf K (He.ga K "NoBits") "nobits" := by
  refine ⟨k.x, k.v, fun p m => ?_, by decide +kernel⟩
  simp only [wordL, List.mem_cons, List.not_mem_nil, or_false] at m
  rcases m with rfl | rfl | rfl | rfl | rfl | rfl | rfl | rfl | rfl | rfl | rfl | rfl | rfl | rfl | rfl | rfl | rfl | rfl
  · rw [show decide (("row" : Str) = "nobits") = false by decide +kernel]
    exact k.f0
  · rw [show decide (("bits" : Str) = "nobits") = false by decide +kernel]
    exact k.f1
  · rw [show decide (("nobits" : Str) = "nobits") = true by decide +kernel]
    exact k.f2
  · rw [show decide (("shares" : Str) = "nobits") = false by decide +kernel]
    exact k.f3
  · rw [show decide (("lengths" : Str) = "nobits") = false by decide +kernel]
    exact k.f4
  · rw [show decide (("code" : Str) = "nobits") = false by decide +kernel]
    exact k.f5
  · rw [show decide (("table" : Str) = "nobits") = false by decide +kernel]
    exact k.f6
  · rw [show decide (("cut" : Str) = "nobits") = false by decide +kernel]
    exact k.f7
  · rw [show decide (("pieces" : Str) = "nobits") = false by decide +kernel]
    exact k.f8
  · rw [show decide (("body" : Str) = "nobits") = false by decide +kernel]
    exact k.f9
  · rw [show decide (("head" : Str) = "nobits") = false by decide +kernel]
    exact k.f10
  · rw [show decide (("check" : Str) = "nobits") = false by decide +kernel]
    exact k.f11
  · rw [show decide (("mark" : Str) = "nobits") = false by decide +kernel]
    exact k.f12
  · rw [show decide (("tail" : Str) = "nobits") = false by decide +kernel]
    exact k.f13
  · rw [show decide (("behind" : Str) = "nobits") = false by decide +kernel]
    exact k.f14
  · rw [show decide (("over" : Str) = "nobits") = false by decide +kernel]
    exact k.f15
  · rw [show decide (("range" : Str) = "nobits") = false by decide +kernel]
    exact k.f16
  · rw [show decide (("letters" : Str) = "nobits") = false by decide +kernel]
    exact k.f17
end L2.BR

namespace L2.BR
open PySem PySem.Spec PyProof.Rows L2.BP
/-! ### letters -/
def chS (l : List Nat) : Str := ⟨l.toArray⟩
theorem chS_of (x : Str) : chS x.cps.toList = x := by
  obtain ⟨a⟩ := x
  simp [chS]
theorem chS_len (l : List Nat) : (chS l).length = l.length := by simp [chS, Str.length]
theorem chS_cps (l : List Nat) : (chS l).cps.toList = l := by simp [chS]
theorem chS_size (l : List Nat) : (chS l).cps.size = l.length := by simp [chS]
theorem chS_at (l : List Nat) (i : Nat) : (chS l).cps[i]? = l[i]? := by simp [chS]
theorem chS_app (a b : List Nat) : chS a ++ chS b = chS (a ++ b) := by
  show Str.append _ _ = _
  simp [Str.append, chS]
theorem chS_cut (b : List Nat) {i j : Int} {m n : Nat} (ei : i = ((m : Nat) : Int)) (ej : j = ((n : Nat) : Int)) (h : m ≤ n) (hn : n ≤ b.length) : cutS (chS b) (some i) (some j) = chS ((b.drop m).take (n - m)) := by
  subst ei ej
  unfold cutS
  rw [HT.sIx_nat, HT.sIx_nat, chS_len, Nat.min_eq_left hn, Nat.min_eq_left (Nat.le_trans h hn)]
  unfold chS
  simp
theorem chS_cut0 (b : List Nat) {j : Int} {n : Nat} (ej : j = ((n : Nat) : Int)) (hn : n ≤ b.length) : cutS (chS b) none (some j) = chS (b.take n) := by
  subst ej
  unfold cutS
  rw [HT.sIx_none, HT.sIx_nat, chS_len, Nat.min_eq_left hn]
  unfold chS
  simp
theorem chS_cut1 (b : List Nat) {i : Int} {m : Nat} (ei : i = ((m : Nat) : Int)) (hn : m ≤ b.length) : cutS (chS b) (some i) none = chS (b.drop m) := by
  subst ei
  unfold cutS
  rw [HT.sIx_nat, HT.sIx_none, chS_len, Nat.min_eq_left hn]
  unfold chS
  simp
  rw [List.take_of_length_le (by rw [List.length_drop]; omega)]
theorem join_ch (r : List (List Nat)) : ∀ acc : Array Nat, (r.map chS).foldl (fun (a : Array Nat) (p : Str) => a ++ (#[] : Array Nat) ++ p.cps) acc = acc ++ r.flatten.toArray := by
  induction r with
  | nil => intro acc; simp
  | cons x r ih =>
    intro acc
    rw [List.map_cons, List.foldl_cons, ih]
    simp [chS]
theorem chS_join (r : List (List Nat)) : Txt.join "" (r.map chS) = chS r.flatten := by
  show Builtin.Str.glued _ _ = _
  unfold Builtin.Str.glued
  rw [show ("" : Str).cps = #[] by decide +kernel]
  cases r with
  | nil => rfl
  | cons x r =>
    rw [List.map_cons, List.drop_succ_cons, List.drop_zero, List.headD_cons, join_ch]
    simp [chS]
theorem letter_at (n : Nat) (h : n < 16) : atI ("abcdefghijklmnop" : Str).cps.toList ((n : Nat) : Int) = some (97 + n) := by
  have z : ∀ m : Fin 16, atI ("abcdefghijklmnop" : Str).cps.toList ((m.val : Nat) : Int) = some (97 + m.val) := by decide +kernel
  exact z ⟨n, h⟩
def isL (c : Nat) : Bool := decide (97 ≤ c) && decide (c ≤ 112)
def fnd (c : Nat) : Int := if isL c then ((c - 97 : Nat) : Int) else -1
theorem letter_find (c : Nat) (h : c < 128) : Txt.find "abcdefghijklmnop" (chS [c]) = fnd c := by
  have z : ∀ m : Fin 128, Txt.find "abcdefghijklmnop" (chS [m.val]) = fnd m.val := by decide +kernel
  exact z ⟨c, h⟩
theorem upper_at (c : Nat) (h : isL c = true) : Unicode.upperOf c = [c - 32] := by
  have z : ∀ m : Fin 128, isL m.val = true → Unicode.upperOf m.val = [m.val - 32] := by decide +kernel
  have hc : c < 128 := by
    simp [isL] at h
    omega
  exact z ⟨c, hc⟩ h
theorem upper_ch {l : List Nat} (h : ∀ c ∈ l, isL c = true) : Txt.upper (chS l) = chS (l.map (· - 32)) := by
  show (⟨placed (chS l) fun _ c => Unicode.upperOf c⟩ : Str) = _
  unfold placed chS
  congr 1
  apply Array.toList_inj.mp
  rw [Array.toList_flatten, Array.toList_mapIdx]
  simp only [List.toList_toArray]
  have hm : ∀ (f : Nat → Array Nat) (l : List Nat), (l.mapIdx fun _ c => f c) = l.map f := by
    intro f l
    apply List.ext_getElem?
    intro i
    rw [List.getElem?_mapIdx, List.getElem?_map]
  rw [hm]
  rw [List.map_map]
  induction l with
  | nil => rfl
  | cons c r ih =>
    have h1 := h c (.head _)
    rw [List.map_cons, List.flatten_cons, ih fun c hc => h c (.tail _ hc), List.map_cons]
    show (Unicode.upperOf c).toArray.toList ++ _ = _
    rw [upper_at c h1]
    rfl
/-- pairs of letters -/
def okl : List Nat → Bool
  | [] => true
  | [_] => false
  | a :: b :: r => isL a && (isL b && okl r)
def unl : List Nat → List Int
  | a :: b :: r => (16 * fnd a + fnd b) :: unl r
  | _ => []
def lett : List Int → List Nat
  | [] => []
  | n :: r => (97 + (n / 16).toNat) :: (97 + (n % 16).toNat) :: lett r
theorem lett_len : ∀ ns : List Int, (lett ns).length = 2 * ns.length
  | [] => rfl
  | n :: r => by
    show (lett r).length + 1 + 1 = _
    rw [lett_len r, List.length_cons]
    omega
theorem lett_snoc (n : Int) : ∀ r : List Int, lett (r ++ [n]) = lett r ++ [97 + (n / 16).toNat, 97 + (n % 16).toNat]
  | [] => rfl
  | x :: r => by
    show (97 + (x / 16).toNat) :: (97 + (x % 16).toNat) :: lett (r ++ [n]) = _
    rw [lett_snoc n r]
    rfl
theorem isL_of {n : Nat} (h : n < 16) : isL (97 + n) = true := by
  unfold isL
  rw [decide_eq_true (show 97 ≤ 97 + n by omega), decide_eq_true (show 97 + n ≤ 112 by omega)]
  rfl
theorem fnd_of {n : Nat} (h : n < 16) : fnd (97 + n) = ((n : Nat) : Int) := by
  unfold fnd
  rw [if_pos (isL_of h)]
  omega
theorem lett_ok : ∀ {ns : List Int}, (∀ n ∈ ns, 0 ≤ n ∧ n ≤ 255) → okl (lett ns) = true ∧ unl (lett ns) = ns ∧ ∀ c ∈ lett ns, isL c = true
  | [], _ => ⟨rfl, rfl, fun _ h => nomatch h⟩
  | n :: r, h => by
    obtain ⟨h1, h2⟩ := h n (.head _)
    obtain ⟨i1, i2, i3⟩ := lett_ok fun n hn => h n (.tail _ hn)
    have a1 : (n / 16).toNat < 16 := by omega
    have a2 : (n % 16).toNat < 16 := by omega
    refine ⟨?_, ?_, ?_⟩
    · show (isL _ && (isL _ && okl (lett r))) = true
      rw [isL_of a1, isL_of a2, i1]
      rfl
    · show (16 * fnd _ + fnd _) :: unl (lett r) = _
      rw [fnd_of a1, fnd_of a2, i2]
      congr 1
      omega
    · intro c hc
      rcases List.mem_cons.mp hc with rfl | hc
      · exact isL_of a1
      · rcases List.mem_cons.mp hc with rfl | hc
        · exact isL_of a2
        · exact i3 c hc
theorem okl_even : ∀ l : List Nat, okl l = true → l.length % 2 = 0
  | [], _ => rfl
  | [_], h => by cases h
  | a :: b :: r, h => by
    simp only [okl, Bool.and_eq_true] at h
    have := okl_even r h.2.2
    show (r.length + 1 + 1) % 2 = 0
    omega
theorem okl_all : ∀ l : List Nat, okl l = true → ∀ c ∈ l, isL c = true
  | [], _, c, hc => nomatch hc
  | [_], h, _, _ => by cases h
  | a :: b :: r, h, c, hc => by
    simp only [okl, Bool.and_eq_true] at h
    rcases List.mem_cons.mp hc with rfl | hc
    · exact h.1
    · rcases List.mem_cons.mp hc with rfl | hc
      · exact h.2.1
      · exact okl_all r h.2.2 c hc
theorem okl_app : ∀ l m : List Nat, okl l = true → okl (l ++ m) = okl m ∧ unl (l ++ m) = unl l ++ unl m
  | [], m, _ => ⟨rfl, rfl⟩
  | [_], _, h => by cases h
  | a :: b :: r, m, h => by
    simp only [okl, Bool.and_eq_true] at h
    obtain ⟨i1, i2⟩ := okl_app r m h.2.2
    refine ⟨?_, ?_⟩
    · show (isL a && (isL b && okl (r ++ m))) = _
      rw [h.1, h.2.1, i1]
      rfl
    · show _ :: unl (r ++ m) = _
      rw [i2]
      rfl
theorem unl_lett : ∀ l : List Nat, okl l = true → lett (unl l) = l ∧ (∀ n ∈ unl l, 0 ≤ n ∧ n ≤ 255) ∧ 2 * (unl l).length = l.length
  | [], _ => ⟨rfl, fun _ h => (nomatch h), rfl⟩
  | [_], h => by cases h
  | a :: b :: r, h => by
    simp only [okl, Bool.and_eq_true] at h
    obtain ⟨i1, i2, i3⟩ := unl_lett r h.2.2
    have f : ∀ c, isL c = true → 97 ≤ c ∧ c ≤ 112 ∧ fnd c = (c : Int) - 97 := by
      intro c hc
      have z : 97 ≤ c ∧ c ≤ 112 := by simpa [isL] using hc
      refine ⟨z.1, z.2, ?_⟩
      unfold fnd
      rw [if_pos hc]
      omega
    obtain ⟨a1, a2, a3⟩ := f a h.1
    obtain ⟨b1, b2, b3⟩ := f b h.2.1
    refine ⟨?_, ?_, ?_⟩
    · show (97 + ((16 * fnd a + fnd b) / 16).toNat) :: (97 + ((16 * fnd a + fnd b) % 16).toNat) :: lett (unl r) = _
      rw [i1, a3, b3]
      congr 1
      · omega
      · congr 1
        omega
    · intro n hn
      rcases List.mem_cons.mp hn with rfl | hn
      · omega
      · exact i2 n hn
    · show 2 * ((unl r).length + 1) = r.length + 1 + 1
      omega
theorem okl_no {l : List Nat} {c : Nat} (hc : c ∈ l) (h : isL c = false) : okl l = false := by
  cases e : okl l with
  | false => rfl
  | true =>
    have := okl_all l e c hc
    rw [h] at this
    cases this
theorem okl_odd {l : List Nat} (h : l.length % 2 = 1) : okl l = false := by
  cases e : okl l with
  | false => rfl
  | true =>
    have := okl_even l e
    omega
theorem isL_lt {c : Nat} (h : isL c = true) : c < 128 := by
  have z : 97 ≤ c ∧ c ≤ 112 := by simpa [isL] using h
  omega
end L2.BR

namespace L2.BR
open PySem PySem.Spec PyProof.Rows L2.BP
variable {K : PySem.W.Frag} {W : WX} {vs : List V} {H : Hp} {Q : VK} {E : XK}
/-! ### lengths that fit -/
def krI (n : Int) : Nat := if 0 < n then 2 ^ (12 - n.toNat) else 0
theorem kraft_ints (ws : List Int) : kraftV (ws.map V.int) = (ws.map krI).sum := by
  unfold kraftV
  rw [List.map_map]
  rfl
theorem lenOk_mk {ws : List Int} (h1 : 1 ≤ ws.length) (h2 : ws.length ≤ 300) (hw : ∀ n ∈ ws, 0 ≤ n ∧ n ≤ 12) (h3 : 0 < (ws.map krI).sum) (h4 : (ws.map krI).sum ≤ 4096) : lenOk (.lst (ws.map V.int)) = true := by
  simp only [lenOk, kraft_ints, List.length_map]
  rw [decide_eq_true h1, decide_eq_true h2, decide_eq_true h3, decide_eq_true h4]
  have z : (ws.map V.int).all (btwV 0 12) = true := by
    rw [List.all_map, List.all_eq_true]
    intro n hn
    show (decide (0 ≤ n) && decide (n ≤ 12)) = true
    rw [decide_eq_true (hw n hn).1, decide_eq_true (hw n hn).2]
    rfl
  rw [z]
  rfl
def sp__law_lengths (K : PySem.W.Frag) : Sp := fun vs H Q _ => ∃ (a : Addr) (ns : List Int) (first many most : Nat), vs = [.ref a, .int ((first : Nat) : Int), .int ((many : Nat) : Int), .int ((most : Nat) : Int)] ∧ SqL K H a (ns.map V.int) ∧ 1 ≤ many ∧ many ≤ 300 ∧ 1 ≤ most ∧ most ≤ 12 ∧
  ∀ ws : List Int, ws.length = many → (∀ n ∈ ws, 0 ≤ n ∧ n ≤ 12) → lenOk (.lst (ws.map V.int)) = true → RetL H Q (ws.map V.int)
theorem len__law_lengths (h : sp__law_lengths K vs H Q E) : vs.length = 4 := by
  obtain ⟨a, ns, first, many, most, rfl, _⟩ := h
  rfl
theorem le_sum {x : Nat} : ∀ {l : List Nat}, x ∈ l → x ≤ l.sum
  | y :: l, h => by
    rw [List.sum_cons]
    rcases List.mem_cons.mp h with rfl | h
    · omega
    · have := le_sum h
      omega
theorem sum_set : ∀ (n k v : Nat), k < n → ((List.replicate n 0).set k v).sum = v
  | n + 1, 0, v, _ => by
    rw [List.replicate_succ, List.set_cons_zero, List.sum_cons]
    have : (List.replicate n 0).sum = 0 := by simp
    omega
  | n + 1, k + 1, v, h => by
    rw [List.replicate_succ, List.set_cons_succ, List.sum_cons, sum_set n k v (by omega), Nat.zero_add]
theorem krI_pos {n : Int} (h : 0 < n) : 0 < krI n := by
  unfold krI
  rw [if_pos h]
  exact Nat.two_pow_pos _
theorem krI_le {n : Int} (h : 0 < n) : krI n ≤ 2048 := by
  unfold krI
  rw [if_pos h]
  exact Nat.pow_le_pow_right (n := 2) (by decide) (by omega : 12 - n.toNat ≤ 11)
theorem pow_split {m l : Nat} (h : l ≤ m) (h12 : m ≤ 12) : 2 ^ (12 - l) = 2 ^ (m - l) * 2 ^ (12 - m) := by
  rw [← Nat.pow_add]
  congr 1
  omega
def t__law_lengths (K : PySem.W.Frag) (W : WX) : TS :=
  (tSeq (tAsg (tOp rShlU (tC (.int 1)) (tVar 3)) (gName 4))
    (tSeq (tAsg (tLst tNil) (gName 5))
    (tSeq (tFor (iRng1 (tCons (tVar 2) tNil)) (gName 6) (tSeq (tAsg (tCl (sp__law_mixed K) [] W (tCons (tCl (sp__law_cell_at K) [] W (tCons (tVar 0) (tCons (tOp rAddU (tVar 1) (tOp rModU (tVar 6) (tC (.int 20)))) tNil))) (tCons (tVar 6) tNil))) (gName 7))
    (tSeq (tAsg (tOp rModU (tOp rDivU (tVar 7) (tC (.int 5))) (tOp rAddU (tVar 3) (tC (.int 1)))) (gName 8))
    (Evl.tCut (tIfS (tTest (tOp (rEqU K) (tOp rModU (tVar 7) (tC (.int 5))) (tC (.int 0)))) (tAsg (tC (.int 0)) (gName 8)) tNext)
    (Evl.tCut (tIfS ((tAnd (tTest (tOp rGtU (tVar 8) (tC (.int 0)))) (tTest (tOp rGtU (tOp rShlU (tC (.int 1)) (tOp rSubU (tVar 3) (tVar 8))) (tVar 4))))) (tAsg (tOp (rIx K) (tLst (tCons (tC (.int 0)) (tCons (tVar 3) tNil))) (tCB (rIntK) (tCons (tOp rGtU (tVar 4) (tC (.int 0))) tNil))) (gName 8)) tNext)
    (Evl.tCut (tIfS (tTest (tOp rGtU (tVar 8) (tC (.int 0)))) (tAsg (tOp rSubU (tVar 4) (tOp rShlU (tC (.int 1)) (tOp rSubU (tVar 3) (tVar 8)))) (gName 4)) tNext)
    (tDrop (tBM K "list" rAppend (tVar 5) (tCons (tVar 8) tNil)))))))))
    (Evl.tCut (tIfS (tTest (tOp (rEqU K) (tBM K "list" (rCntI K) (tVar 5) (tCons (tC (.int 0)) tNil)) (tVar 2))) (tAsg (tOp rAddU (tC (.int 1)) (tOp rModU (tCl (sp__law_cell_at K) [] W (tCons (tVar 0) (tCons (tVar 1) tNil))) (tVar 3))) (gSub (tVar 5) (tOp rModU (tCl (sp__law_cell_at K) [] W (tCons (tVar 0) (tCons (tVar 1) tNil))) (tVar 2)) rSetL)) tNext)
    (tRet (tVar 5))))))
theorem rd__law_lengths (h : sp__law_lengths K vs H Q E) : t__law_lengths K W { nx := fun _ H' => Q .non H', rt := Q } (start ["_law_script", "_law_first", "_law_many", "_law_most", "_law_room", "_law_lengths_here", "_law_k", "_law_number", "_law_length"] vs) H := by
  obtain ⟨a, ns, first, many, most, rfl, hS, hm1, hm3, ho1, ho2, q⟩ := h
  have hs := Hs.start H
  unfold t__law_lengths
  walk_at "go"
  rename_i f H0 h0
  rw [Int.one_mul, Int.toNat_natCast, show (2 : Int) ^ most = ((2 ^ most : Nat) : Int) by push_cast; rfl]
  refine ⟨_, rfl, by omega, by omega, ?_⟩
  rw [Int.toNat_natCast]
  refine w_forR (fun i σ' L' B' => ∃ (ws : List Int) (r : Nat) (w6 w7 w8 : Option V), ws.length = i ∧ (∀ n ∈ ws, 0 ≤ n ∧ n ≤ ((most : Nat) : Int)) ∧ (ws.map krI).sum + r * 2 ^ (12 - most) = 4096 ∧ B' = H ∧ L' = [(f, .lst (ws.map V.int))] ∧
    σ' = [some (.ref a), some (.int ((first : Nat) : Int)), some (.int ((many : Nat) : Int)), some (.int ((most : Nat) : Int)), some (.int ((r : Nat) : Int)), some (.ref f), w6, w7, w8]) h0
    ⟨[], 2 ^ most, none, none, none, rfl, (fun _ z => nomatch z), ?_, rfl, rfl, rfl⟩ ?_ ?_
  · rw [List.map_nil, List.sum_nil, Nat.zero_add, ← Nat.pow_add, show most + (12 - most) = 12 by omega]
  · rintro i σ' L' B' H' hi ⟨ws, r, w6, w7, w8, hwl, hwb, hkr, rfl, rfl, rfl⟩ h
    have hS' := h.bl hS
    walk_at "go"
    refine ⟨a, ns, _, rfl, hS', by omega, ?_⟩
    walk_at "go"
    refine ⟨_, _, rfl, by omega, by omega, fun M hM => ?_⟩
    walk_at "go"
    obtain ⟨l0, hl0, hl0m⟩ : ∃ l : Nat, M / 5 % (((most : Nat) : Int) + 1) = ((l : Nat) : Int) ∧ l ≤ most := by
      have z1 := Int.emod_nonneg (M / 5) (show ((most : Nat) : Int) + 1 ≠ 0 by omega)
      have z2 := Int.emod_lt_of_pos (M / 5) (show 0 < ((most : Nat) : Int) + 1 by omega)
      exact ⟨(M / 5 % (((most : Nat) : Int) + 1)).toNat, by omega, by omega⟩
    rw [hl0]
    refine w_cut (fun σ2 H2 => ∃ l : Nat, l ≤ most ∧ Hs B' [(f, .lst (ws.map V.int))] H2 ∧ σ2 = [some (.ref a), some (.int ((first : Nat) : Int)), some (.int ((many : Nat) : Int)), some (.int ((most : Nat) : Int)), some (.int ((r : Nat) : Int)), some (.ref f), some (.int (0 + ((i : Nat) : Int))), some (.int M), some (.int ((l : Nat) : Int))]) ?_ ?_
    · walk_at "go"
      by_cases c : M % 5 = 0
      · refine i_t (decide_eq_true c) ?_
        walk_at "go"
        exact ⟨0, Nat.zero_le _, h, rfl⟩
      · refine i_f (decide_eq_false c) ?_
        walk_at "go"
        exact ⟨l0, hl0m, h, rfl⟩
    rintro σ2 H2 ⟨l1, hl1, h2, rfl⟩
    clear h hS' hl0 hl0m
    refine w_cut (fun σ2 H2 => ∃ l : Nat, l ≤ most ∧ (0 < l → 2 ^ (most - l) ≤ r) ∧ Hs B' [(f, .lst (ws.map V.int))] H2 ∧ σ2 = [some (.ref a), some (.int ((first : Nat) : Int)), some (.int ((many : Nat) : Int)), some (.int ((most : Nat) : Int)), some (.int ((r : Nat) : Int)), some (.ref f), some (.int (0 + ((i : Nat) : Int))), some (.int M), some (.int ((l : Nat) : Int))]) ?_ ?_
    · walk_at "go"
      by_cases c : 0 < l1
      · refine i_t (decide_eq_true (by omega)) ?_
        walk_at "go"
        have e2 : (1 * 2 ^ (((most : Nat) : Int) - ((l1 : Nat) : Int)).toNat : Int) = ((2 ^ (most - l1) : Nat) : Int) := by
          rw [show (((most : Nat) : Int) - ((l1 : Nat) : Int)).toNat = most - l1 by omega, Int.one_mul]
          push_cast
          rfl
        rw [e2]
        by_cases c2 : r < 2 ^ (most - l1)
        · refine i_t (decide_eq_true (by omega)) ?_
          walk_at "go"
          rename_i l4 H4 h4
          by_cases c3 : 0 < r
          · rw [decide_eq_true (show (0 : Int) < ((r : Nat) : Int) by omega), if_pos rfl]
            refine c_ixL (v := .int ((most : Nat) : Int)) (h4.sql (.head _)) rfl ?_
            walk_at "go"
            exact ⟨most, Nat.le_refl _, fun _ => by rw [Nat.sub_self]; exact c3, h4.drop, rfl⟩
          · rw [decide_eq_false (show ¬ (0 : Int) < ((r : Nat) : Int) by omega), if_neg (by decide)]
            refine c_ixL (v := .int 0) (h4.sql (.head _)) rfl ?_
            walk_at "go"
            exact ⟨0, Nat.zero_le _, fun z => absurd z (by decide), h4.drop, rfl⟩
        · refine i_f (decide_eq_false (by omega)) ?_
          walk_at "go"
          exact ⟨l1, hl1, fun _ => by omega, h2, rfl⟩
      · refine i_f (decide_eq_false (by omega)) ?_
        walk_at "go"
        exact ⟨l1, hl1, fun z => absurd z c, h2, rfl⟩
    clear h2 hl1
    rintro σ2 H3 ⟨l, hl, hfit, h3, rfl⟩
    refine w_cut (fun σ2 H2 => ∃ r2 : Nat, krI ((l : Nat) : Int) + r2 * 2 ^ (12 - most) = r * 2 ^ (12 - most) ∧ Hs B' [(f, .lst (ws.map V.int))] H2 ∧ σ2 = [some (.ref a), some (.int ((first : Nat) : Int)), some (.int ((many : Nat) : Int)), some (.int ((most : Nat) : Int)), some (.int ((r2 : Nat) : Int)), some (.ref f), some (.int (0 + ((i : Nat) : Int))), some (.int M), some (.int ((l : Nat) : Int))]) ?_ ?_
    · walk_at "go"
      by_cases c : 0 < l
      · refine i_t (decide_eq_true (by omega)) ?_
        walk_at "go"
        have hf := hfit c
        have e2 : (1 * 2 ^ (((most : Nat) : Int) - ((l : Nat) : Int)).toNat : Int) = ((2 ^ (most - l) : Nat) : Int) := by
          rw [show (((most : Nat) : Int) - ((l : Nat) : Int)).toNat = most - l by omega, Int.one_mul]
          push_cast
          rfl
        rw [e2, show ((r : Nat) : Int) - ((2 ^ (most - l) : Nat) : Int) = ((r - 2 ^ (most - l) : Nat) : Int) by omega]
        refine ⟨r - 2 ^ (most - l), ?_, h3, rfl⟩
        unfold krI
        rw [if_pos (by omega), Int.toNat_natCast, pow_split hl ho2, ← Nat.add_mul]
        congr 1
        omega
      · refine i_f (decide_eq_false (by omega)) ?_
        walk_at "go"
        refine ⟨r, ?_, h3, rfl⟩
        unfold krI
        rw [if_neg (by omega), Nat.zero_add]
    clear h3
    rintro σ2 H4 ⟨r2, hr2, h4, rfl⟩
    walk_at "go"
    refine c_app0 h4 (small6 (by rw [List.length_map]; omega)) fun H5 h5 => ?_
    walk_at "go"
    refine ⟨_, _, ⟨ws ++ [((l : Nat) : Int)], r2, _, _, _, by rw [List.length_append, List.length_singleton, hwl], fun n hn => ?_, ?_, rfl, by rw [List.map_append]; rfl, rfl⟩, h5⟩
    · rcases List.mem_append.mp hn with z | z
      · exact hwb n z
      · rw [List.mem_singleton.mp z]
        omega
    · rw [List.map_append, List.sum_append, List.map_singleton, List.sum_singleton]
      omega
  · rintro σ' L' B' H' ⟨ws, r, w6, w7, w8, hwl, hwb, hkr, rfl, rfl, rfl⟩ h
    have hS' := h.bl hS
    walk_at "go"
    have fin : ∀ (ws2 : List Int) (H2 : Hp), ws2.length = many → (∀ n ∈ ws2, 0 ≤ n ∧ n ≤ ((most : Nat) : Int)) → 0 < (ws2.map krI).sum → (ws2.map krI).sum ≤ 4096 → Hs B' [(f, .lst (ws2.map V.int))] H2 → Q (.ref f) H2 := fun ws2 H2 a1 a2 a3 a4 h2 =>
      h2.rl (.head _) (q ws2 a1 (fun n hn => ⟨(a2 n hn).1, by have := (a2 n hn).2; omega⟩) (lenOk_mk (by omega) (by omega) (fun n hn => ⟨(a2 n hn).1, by have := (a2 n hn).2; omega⟩) a3 a4))
    refine w_cut (fun σ2 H2 => ∃ ws2 : List Int, ws2.length = many ∧ (∀ n ∈ ws2, 0 ≤ n ∧ n ≤ ((most : Nat) : Int)) ∧ 0 < (ws2.map krI).sum ∧ (ws2.map krI).sum ≤ 4096 ∧ Hs B' [(f, .lst (ws2.map V.int))] H2 ∧ ∃ w0 w1 w2 w3 w4, σ2 = [w0, w1, w2, w3, w4, some (.ref f), w6, w7, w8]) ?_ ?_
    · walk_at "go"
      refine c_countL (h.sql (.head _)) ?_
      walk_at "go"
      by_cases c : ws.count 0 = many
      · refine i_t (decide_eq_true (by omega)) ?_
        walk_at "go"
        have allz : ws = List.replicate many 0 := List.eq_replicate_iff.mpr ⟨hwl, fun b hb => (List.count_eq_length.mp (by omega : ws.count 0 = ws.length) b hb).symm⟩
        refine ⟨a, ns, _, rfl, hS', by omega, ?_⟩
        walk_at "go"
        obtain ⟨l, hl, l1, l2⟩ : ∃ l : Nat, 1 + cellAt ns ((first : Nat) : Int) % ((most : Nat) : Int) = ((l : Nat) : Int) ∧ 1 ≤ l ∧ l ≤ most := by
          have z1 := Int.emod_nonneg (cellAt ns ((first : Nat) : Int)) (show ((most : Nat) : Int) ≠ 0 by omega)
          have z2 := Int.emod_lt_of_pos (cellAt ns ((first : Nat) : Int)) (show 0 < ((most : Nat) : Int) by omega)
          exact ⟨(1 + cellAt ns ((first : Nat) : Int) % ((most : Nat) : Int)).toNat, by omega, by omega, by omega⟩
        rw [hl]
        refine ⟨a, ns, _, rfl, hS', by omega, ?_⟩
        walk_at "go"
        obtain ⟨k, hk, hkl⟩ : ∃ k : Nat, cellAt ns ((first : Nat) : Int) % ((many : Nat) : Int) = ((k : Nat) : Int) ∧ k < many := by
          have z1 := Int.emod_nonneg (cellAt ns ((first : Nat) : Int)) (show ((many : Nat) : Int) ≠ 0 by omega)
          have z2 := Int.emod_lt_of_pos (cellAt ns ((first : Nat) : Int)) (show 0 < ((many : Nat) : Int) by omega)
          exact ⟨(cellAt ns ((first : Nat) : Int) % ((many : Nat) : Int)).toNat, by omega, by omega⟩
        rw [hk]
        refine w_set0 h rfl (by rw [List.length_map]; omega) fun H7 h7 => ?_
        have es : ((ws.set k ((l : Nat) : Int)).map krI).sum = krI ((l : Nat) : Int) := by
          rw [List.map_set, allz, List.map_replicate]
          exact sum_set many k _ hkl
        refine ⟨ws.set k ((l : Nat) : Int), by rw [List.length_set, hwl], fun n hn => ?_, by rw [es]; exact krI_pos (by omega), by rw [es]; have := krI_le (n := ((l : Nat) : Int)) (by omega); omega, by rw [List.map_set]; exact h7, _, _, _, _, _, rfl⟩
        rcases List.mem_or_eq_of_mem_set hn with z | z
        · exact hwb n z
        · rw [z]
          omega
      · refine i_f (decide_eq_false (by omega)) ?_
        walk_at "go"
        refine ⟨ws, hwl, hwb, ?_, by omega, h, _, _, _, _, _, rfl⟩
        have hne : ¬ (∀ b ∈ ws, (0 : Int) = b) := fun z => c (by rw [← hwl]; exact List.count_eq_length.mpr z)
        have hex : ∃ b ∈ ws, (0 : Int) ≠ b := by
          refine Classical.byContradiction fun z => hne fun b hb => Classical.byContradiction fun y => z ⟨b, hb, y⟩
        obtain ⟨b, hb, hb0⟩ := hex
        have z1 := krI_pos (n := b) (by have := (hwb b hb).1; omega)
        have z2 := le_sum (List.mem_map_of_mem (f := krI) hb)
        omega
    rintro σ2 H2 ⟨ws2, a1, a2, a3, a4, h2, _, _, _, _, _, rfl⟩
    walk_at "go"
    exact fin ws2 H2 a1 a2 a3 a4 h2
end L2.BR

namespace L2.BR
open PySem PySem.Spec PyProof.Rows L2.BP
variable {K : PySem.W.Frag} {W : WX} {vs : List V} {H : Hp} {Q : VK} {E : XK}
/-! the law's own codes -/
def sp__law_codes (K : PySem.W.Frag) : Sp := fun vs H Q _ => ∃ (B : Hp) (L : Pic) (a : Addr) (ws : List Int), vs = [.ref a] ∧ Hs B L H ∧ SqL K B a (ws.map V.int) ∧ ws.length ≤ 300 ∧ (∀ n ∈ ws, 0 ≤ n ∧ n ≤ 12) ∧
  ∀ (B2 : Hp) (p : Addr) (xs : List V) (H' : Hp), Same B B2 → CodV K B2 xs (codesOf ws) → Hs B2 ((p, .lst xs) :: L) H' → Q (.ref p) H'
theorem len__law_codes (h : sp__law_codes K vs H Q E) : vs.length = 1 := by
  obtain ⟨B, L, a, ws, rfl, _⟩ := h
  rfl
theorem lawFold_len (ws : List Int) (n : Nat) : (lawFold ws n).2.length = ws.length := by
  have step : ∀ (L : Nat) (l : List Nat) (s : Nat × List (Option (Nat × Nat))), (l.foldl (lstep L) s).2.length = s.2.length := fun L l => by
    induction l with
    | nil => intro s; rfl
    | cons p l ih =>
      intro s
      rw [List.foldl_cons, ih]
      exact List.length_set ..
  have rnd : ∀ (l : List Nat) (s : Nat × List (Option (Nat × Nat))), (l.foldl (lround ws) s).2.length = s.2.length := fun l => by
    induction l with
    | nil => intro s; rfl
    | cons p l ih =>
      intro s
      rw [List.foldl_cons, ih]
      exact step _ _ _
  unfold lawFold
  rw [rnd]
  exact List.length_replicate ..
/-- the places of one length, so far -/
def inr (ws : List Int) (L : Nat) (s : Nat × List (Option (Nat × Nat))) (j : Nat) : Nat × List (Option (Nat × Nat)) := ((List.range j).filter fun p => decide (ws.getD p 0 = ((L : Nat) : Int))).foldl (lstep L) (s.1 * 2, s.2)
theorem inr_t {ws : List Int} {L j : Nat} {s : Nat × List (Option (Nat × Nat))} (h : ws.getD j 0 = ((L : Nat) : Int)) : inr ws L s (j + 1) = lstep L (inr ws L s j) j := by
  unfold inr
  rw [List.range_succ, List.filter_append, List.filter_cons, List.filter_nil, if_pos (decide_eq_true h), List.foldl_append]
  rfl
theorem inr_f {ws : List Int} {L j : Nat} {s : Nat × List (Option (Nat × Nat))} (h : ¬ ws.getD j 0 = ((L : Nat) : Int)) : inr ws L s (j + 1) = inr ws L s j := by
  unfold inr
  rw [List.range_succ, List.filter_append, List.filter_cons, List.filter_nil, if_neg (by rw [decide_eq_true_eq]; exact h), List.append_nil]
def t__law_codes (K : PySem.W.Frag) (W : WX) : TS :=
  (tSeq (tAsg (tOp rMulU (tLst (tCons (tC .non) tNil)) (tCB (rLenK K) (tCons (tVar 0) tNil))) (gName 1))
    (tSeq (tAsg (tC (.int 0)) (gName 2))
    (tSeq (tFor (iRng2 (tCons (tC (.int 1)) (tCons (tC (.int 13)) tNil))) (gName 3) (tSeq (tAsg (tOp rMulU (tVar 2) (tC (.int 2))) (gName 2))
    (tFor (iRng1 (tCons (tCB (rLenK K) (tCons (tVar 0) tNil)) tNil)) (gName 4) (tIfS (tTest (tOp (rEqU K) (tOp (rIx K) (tVar 0) (tVar 4)) (tVar 3))) (tSeq (tAsg (tTup (tCons (tVar 2) (tCons (tVar 3) tNil))) (gSub (tVar 1) (tVar 4) rSetL))
    (tAsg (tOp rAddU (tVar 2) (tC (.int 1))) (gName 2))) tNext))))
    (tRet (tVar 1)))))
theorem rd__law_codes (h : sp__law_codes K vs H Q E) : t__law_codes K W { nx := fun _ H' => Q .non H', rt := Q } (start ["_law_lengths_here", "_law_found", "_law_code", "_law_length", "_law_place"] vs) H := by
  obtain ⟨B, L, a, ws, rfl, hs, hS0, hl, hw, q⟩ := h
  have hS := hs.bl hS0
  unfold t__law_codes
  walk_at "go"
  rename_i l1 H1 h1
  rw [List.length_map]
  refine c_rep h1 (h1.get (.head _)) (by omega) (by omega) (small6' (by rw [List.length_singleton]; omega)) fun f H2 h2 => ?_
  rw [Int.toNat_natCast, List.flatten_replicate_singleton] at h2
  have h2 := h2.drop1
  clear h1
  walk_at "go"
  refine ⟨1, 13, rfl, ⟨by decide, by decide, by decide, by decide⟩, ?_⟩
  rw [show ((13 : Int) - 1).toNat = 12 by decide]
  refine w_forR (fun i σ' L' B' => ∃ (xs : List V) (w3 w4 : Option V), σ' = [some (.ref a), some (.ref f), some (.int (((lawFold ws i).1 : Nat) : Int)), w3, w4] ∧ Same B B' ∧ CodV K B' xs (lawFold ws i).2 ∧ L' = (f, .lst xs) :: L) h2 ⟨_, none, none, rfl, Same.refl _, .none _, rfl⟩ ?_ ?_
  · rintro i σ' L' B' H' hi ⟨xs, w3, w4, rfl, eB, hC, rfl⟩ h
    have hS' := h.bl (eB.seq hS0)
    have e13 : lawFold ws (i + 1) = lround ws (lawFold ws i) (i + 1) := by
      unfold lawFold
      rw [List.range_succ, List.map_append, List.foldl_append]
      rfl
    have hln := lawFold_len ws i
    generalize lawFold ws i = s0 at *
    walk_at "go"
    rw [List.length_map]
    refine ⟨_, rfl, by omega, by omega, ?_⟩
    rw [Int.toNat_natCast]
    have e2 : ((s0.1 : Nat) : Int) * 2 = ((s0.1 * 2 : Nat) : Int) := by push_cast; rfl
    rw [e2]
    refine w_forR (fun j σ' L' B2 => ∃ (xs : List V) (w4 : Option V), σ' = [some (.ref a), some (.ref f), some (.int (((inr ws (i + 1) s0 j).1 : Nat) : Int)), some (.int (1 + ((i : Nat) : Int))), w4] ∧
      Same B B2 ∧ CodV K B2 xs (inr ws (i + 1) s0 j).2 ∧ xs.length = ws.length ∧ L' = (f, .lst xs) :: L) h ⟨xs, _, rfl, eB, hC, by rw [hC.length, hln], rfl⟩ ?_ ?_
    · rintro j σ' L' B2 H3 hj ⟨ys, w4, rfl, eB2, hC2, hyl, rfl⟩ h3
      have hS3 := h3.bl (eB2.seq hS0)
      have i1 : atI (ws.map V.int) (0 + ((j : Nat) : Int)) = some (.int (ws.getD j 0)) := at_i (by omega) hj
      walk_at "go"
      by_cases c : ws.getD j 0 = (((i + 1 : Nat) : Nat) : Int)
      · refine i_t (decide_eq_true (by rw [c]; omega)) ?_
        have est := inr_t (s := s0) c
        generalize inr ws (i + 1) s0 j = s1 at *
        walk_at "go"
        rename_i t H7 h7
        have nb := h7.nb (.head _)
        rw [show (1 + ((i : Nat) : Int)) = (((i + 1 : Nat) : Nat) : Int) by omega] at h7
        have hCt := (hC2.same (same_upd (o := HO.tup [V.int ((s1.1 : Nat) : Int), V.int (((i + 1 : Nat) : Nat) : Int)]) nb)).set (t := t) (c := s1.1) (l := i + 1) (SqT.of upd_same) j
        refine w_set0 h7.fix (m := j) (by omega) (by omega) fun H8 h8 => ?_
        walk_at "go"
        refine ⟨_, _, ⟨ys.set j (.ref t), some (.int (0 + ((j : Nat) : Int))), ?_, eB2.trans (same_upd nb), ?_, by rw [List.length_set, hyl], rfl⟩, h8⟩
        · rw [est]
          rfl
        · rw [est]
          exact hCt
      · refine i_f (decide_eq_false (by omega)) ?_
        have est := inr_f (s := s0) c
        walk_at "go"
        exact ⟨_, _, ⟨ys, some (.int (0 + ((j : Nat) : Int))), by rw [est]; rfl, eB2, by rw [est]; exact hC2, hyl, rfl⟩, h3⟩
    · rintro σ' L' B2 H3 ⟨ys, w4, rfl, eB2, hC2, hyl, rfl⟩ h3
      exact ⟨_, _, ⟨ys, some (.int (1 + ((i : Nat) : Int))), w4, by rw [e13]; rfl, eB2, by rw [e13]; exact hC2, rfl⟩, h3⟩
  · rintro σ' L' B' H' ⟨xs, w3, w4, rfl, eB, hC, rfl⟩ h
    walk_at "go"
    rw [law_codes hw] at hC
    exact q B' f xs H' eB hC h
end L2.BR

namespace L2.BR
open PySem PySem.Spec PyProof.Rows L2.BP
variable {K : PySem.W.Frag} {W : WX} {vs : List V} {H : Hp} {Q : VK} {E : XK}
theorem join_dig (bs : List Bool) : Txt.join "" (bs.map fun b => digS [b]) = digS bs := by
  have e := chS_join (bs.map fun b => [dig b])
  rw [List.map_map] at e
  have e1 : (bs.map fun b => digS [b]) = bs.map (chS ∘ fun b => [dig b]) := rfl
  rw [e1, e]
  have e2 : ∀ bs : List Bool, (bs.map fun b => [dig b]).flatten = bs.map dig := fun bs => by
    induction bs with
    | nil => rfl
    | cons b r ih => rw [List.map_cons, List.flatten_cons, ih]; rfl
  rw [e2]
  rfl
theorem join_size : ∀ bs : List Bool, ((bs.map fun b => digS [b]).map (·.length)).sum = bs.length
  | [] => rfl
  | b :: r => by
    rw [List.map_cons, List.map_cons, List.sum_cons, join_size r, digS_len]
    simp
    omega
theorem rev_dig (b : List Bool) : revS (digS b) = digS b.reverse := by
  unfold revS digS
  rw [List.map_reverse]
  simp
theorem low_bits (c : Nat) : ∀ l, ((List.range l).map fun i => (c / 2 ^ i % 2 == 1)).reverse = bitsOf c l
  | 0 => rfl
  | l + 1 => by
    rw [List.range_succ, List.map_append, List.reverse_append, low_bits c l]
    rfl
theorem bit_str (b : Nat) (h : b < 2) : (if b = 1 then ("1" : Str) else "0") = digS [b == 1] := by
  rcases (by omega : b = 0 ∨ b = 1) with rfl | rfl <;> decide +kernel
theorem and_one (a : Nat) : Builtin.bitAnd ((a : Nat) : Int) 1 = ((a % 2 : Nat) : Int) := mask_nat a 1
def sp__law_texts (K : PySem.W.Frag) : Sp := fun vs H Q _ => ∃ (a : Addr) (ws : List Int), vs = [.ref a] ∧ SqL K H a (ws.map V.int) ∧ ws.length ≤ 300 ∧ (∀ n ∈ ws, 0 ≤ n ∧ n ≤ 12) ∧ RetL H Q (((codesOf ws).map textOf).map V.str)
theorem len__law_texts (h : sp__law_texts K vs H Q E) : vs.length = 1 := by
  obtain ⟨a, ws, rfl, _⟩ := h
  rfl
def t__law_texts (K : PySem.W.Frag) (W : WX) : TS :=
  (tSeq (tAsg (tLst tNil) (gName 1))
    (tSeq (tFor (iList K (tCl (sp__law_codes K) [] W (tCons (tVar 0) tNil))) (gName 2) (tIfS (tTest (tOp rIsU (tVar 2) (tC .non))) (tDrop (tBM K "list" rAppend (tVar 1) (tCons (tC (.str "none")) tNil))) (tSeq (tAsg (tM1 (rJoinK K) (tC (.str "")) (tLc (iRng1 (tCons (tOp (rIx K) (tVar 2) (tC (.int 1))) tNil)) (gName 4) tYes (tCB (rStrI) (tCons (tOp rAndU (tOp rShrU (tOp (rIx K) (tVar 2) (tC (.int 0))) (tVar 4)) (tC (.int 1))) tNil)) [4])) (gName 3))
    (tDrop (tBM K "list" rAppend (tVar 1) (tCons (tRevS (tVar 3)) tNil))))))
    (tRet (tVar 1))))
theorem rd__law_texts (h : sp__law_texts K vs H Q E) : t__law_texts K W { nx := fun _ H' => Q .non H', rt := Q } (start ["_law_lengths_here", "_law_found", "_law_one", "_law_bits_here", "_law_k"] vs) H := by
  obtain ⟨a, ws, rfl, hS, hl, hw, q⟩ := h
  have hs := Hs.start H
  unfold t__law_texts
  walk_at "go"
  rename_i f H1 h1
  refine ⟨H, _, a, ws, rfl, h1, hS, hl, hw, fun B2 p xs H2 e2 hC h2 => ?_⟩
  have hw2 : ∀ n ∈ ws, n ≤ 12 := fun n hn => (hw n hn).2
  have hcl := (codes_good hw2).2
  have hlen := fun {p c l : Nat} (h : (codesOf ws)[p]? = some (some (c, l))) => codes_len hw2 h
  generalize codesOf ws = cs at *
  have hxl : xs.length = cs.length := hC.length
  have s3 := same_upd (o := .lst xs) (h2.nb (.head _))
  have kp : SqL K (upd B2 p (.lst xs)) p xs := .of upd_same
  have h3 := h2.fix
  have hC := hC.same s3
  have e3 := e2.trans s3
  generalize upd B2 p (.lst xs) = B3 at *
  clear h1 h2 hs s3
  walk_at "go"
  refine w_forL id xs (fun pre σ' L' B' => ∃ (w2 w3 : Option V), σ' = [some (.ref a), some (.ref f), w2, w3, none] ∧ B' = B3 ∧ L' = [(f, .lst (((cs.take pre.length).map textOf).map V.str))]) h3 ⟨none, none, rfl, rfl, rfl⟩ ?_ ?_ ?_
  · rintro pre post σ' L' B' H' _ ⟨w2, w3, rfl, rfl, rfl⟩ h
    rw [List.map_id]
    exact h.bl kp
  · rintro pre y post σ' L' B' H' e ⟨w2, w3, rfl, rfl, rfl⟩ h
    rw [id_eq]
    have hpl : pre.length < cs.length := by
      have z := congrArg List.length e
      rw [List.length_append, List.length_cons] at z
      omega
    have hsm : (((cs.take pre.length).map textOf).map V.str).length < sizeLine := by
      rw [List.length_map, List.length_map, List.length_take]
      exact small6 (by omega)
    have hCe := hC
    rw [e] at hCe
    clear h3
    rcases hCe.look with ⟨rfl, ec⟩ | ⟨t, c, l, rfl, ec, ht⟩
    · walk_at "go"
      refine c_app0 h hsm fun H4 h4 => ?_
      walk_at "go"
      refine ⟨_, _, ⟨_, _, rfl, rfl, ?_⟩, h4⟩
      rw [List.length_append, List.length_singleton, take_snoc ec, List.map_append, List.map_append]
      rfl
    · obtain ⟨l1, l12⟩ := hlen ec
      have ht' := h.bt ht
      walk_at "go"
      refine c_m1 ?_
      walk_at "go"
      refine ⟨⟨_, rfl⟩, ?_⟩
      walk_at "go"
      refine ⟨_, rfl, by omega, by omega, ?_⟩
      rw [Int.toNat_natCast]
      refine c_lcR (fun k acc B4 => acc = ((List.range k).map fun i => digS [c / 2 ^ i % 2 == 1]).map V.str ∧ B4 = B') h ⟨rfl, rfl⟩ ?_ ?_
      · rintro k acc B4 D H4 hk ⟨rfl, rfl⟩ e4 h4
        have ht4 := h4.bt ht
        walk_at "go"
        refine ⟨rfl, ?_⟩
        walk_at "go"
        rw [show ((0 : Int) + ((k : Nat) : Int)).toNat = k by omega, shr_nat, and_one]
        refine c_strB (Nat.mod_lt _ (by decide)) ?_
        rw [bit_str _ (Nat.mod_lt _ (by decide))]
        refine c_item h4 (small6 (by rw [List.length_map, List.length_map, List.length_range]; omega)) e4 ⟨?_, rfl⟩
        rw [List.range_succ, List.map_append, List.map_append]
        rfl
      · rintro acc B4 D H4 ⟨rfl, rfl⟩ _ h4
        refine c_join (h4.sql (.head _)) ?_ ?_
        · have z := join_size ((List.range l).map fun i => (c / 2 ^ i % 2 == 1))
          rw [show (List.range l).map (fun i => digS [c / 2 ^ i % 2 == 1]) = ((List.range l).map fun i => (c / 2 ^ i % 2 == 1)).map fun b => digS [b] by rw [List.map_map]; rfl, z, show ("" : Str).length = 0 by decide +kernel, List.length_map, List.length_range]
          omega
        rw [show (List.range l).map (fun i => digS [c / 2 ^ i % 2 == 1]) = ((List.range l).map fun i => (c / 2 ^ i % 2 == 1)).map fun b => digS [b] by rw [List.map_map]; rfl, join_dig]
        have h5 := h4.drop
        clear h h4
        walk_at "go"
        refine c_revS ?_
        walk_at "go"
        refine ⟨_, rfl, by rw [digS_len, List.length_map, List.length_range]; exact small6' (by omega), ?_⟩
        rw [rev_dig, low_bits]
        walk_at "go"
        refine c_app0 h5 hsm fun H6 h6 => ?_
        walk_at "go"
        refine ⟨_, _, ⟨_, _, rfl, rfl, ?_⟩, h6⟩
        rw [List.length_append, List.length_singleton, take_snoc ec, List.map_append, List.map_append]
        rfl
  · rintro σ' L' B' H' ⟨w2, w3, rfl, rfl, rfl⟩ h
    rw [hxl, List.take_of_length_le (Nat.le_refl _)] at h
    walk_at "go"
    exact h.rl (.head _) fun p' H5 a b u => q p' H5 (noneBack e3 a) (e3.trans b) u
end L2.BR

namespace L2.BR
open PySem PySem.Spec PyProof.Rows L2.BP
variable {K : PySem.W.Frag} {W : WX} {vs : List V} {H : Hp} {Q : VK} {E : XK}
/-! ### rows of bits, readers -/
structure KBitRow (K : PySem.W.Frag) : Prop where
  c : Cls K (He.ga K "BitRow")
  n1 : NoAttr K (He.ga K "BitRow") "full"
  n2 : NoAttr K (He.ga K "BitRow") "part"
  n3 : NoAttr K (He.ga K "BitRow") "filled"
/-! a row of bits as it stands -/
abbrev brO (K : PySem.W.Frag) (dx f : Addr) (b : List Bool) : HO := .ins (He.ga K "BitRow") dx [("full", .ref f), ("part", .int ((numOf (b.drop (8 * (b.length / 8))) : Nat) : Int)), ("filled", .int ((b.length % 8 : Nat) : Int))]
abbrev brL (b : List Bool) : HO := .lst ((wholeTo b (b.length / 8)).map V.int)
def sp_BitRow___init__ (K : PySem.W.Frag) : Sp := fun vs H Q _ => ∃ (B : Hp) (L : Pic) (x dx : Addr), vs = [.ref x] ∧ Hs B ((x, .ins (He.ga K "BitRow") dx []) :: L) H ∧
  ∀ f H', Hs B ((x, brO K dx f []) :: (f, brL []) :: L) H' → Q .non H'
theorem len_BitRow___init__ (h : sp_BitRow___init__ K vs H Q E) : vs.length = 1 := by
  obtain ⟨B, L, x, dx, rfl, _⟩ := h
  rfl
def t_BitRow___init__ (K : PySem.W.Frag) (W : WX) : TS :=
  (tSeq (sFld K (tVar 0) (tLst tNil) "full")
    (tSeq (sFld K (tVar 0) (tC (.int 0)) "part")
    (sFld K (tVar 0) (tC (.int 0)) "filled")))
theorem rd_BitRow___init__ (kBitRow : KBitRow K) (h : sp_BitRow___init__ K vs H Q E) : t_BitRow___init__ K W { nx := fun _ H' => Q .non H', rt := Q } (start ["self"] vs) H := by
  obtain ⟨B, L, x, dx, rfl, hs, q⟩ := h
  obtain ⟨hc, n1, n2, n3⟩ := kBitRow
  unfold t_BitRow___init__
  walk_at "go"
  rename_i f H1 h1 H2 h2 H3 h3 H4 h4
  exact q f H4 h4.swap
/-- what may be put -/
def putOk : Tg → Tg → Bool
  | .int n, .int s => decide (0 ≤ n) && decide (n < 2 ^ s.toNat)
  | _, _ => false
def sp_BitRow_put (K : PySem.W.Frag) : Sp := fun vs H Q E => ∃ (B : Hp) (L : Pic) (x dx f : Addr) (b : List Bool) (v w : V) (g k : Tg), vs = [.ref x, v, w] ∧ Th K H v g ∧ Th K H w k ∧
  Hs B ((x, brO K dx f b) :: (f, brL b) :: L) H ∧ b.length ≤ 700000 ∧
  (∀ n s : Nat, g = .int n → k = .int s → s ≤ 24 → n < 2 ^ s → ∀ H', Hs B ((x, brO K dx f (b ++ bitsOf n s)) :: (f, brL (b ++ bitsOf n s)) :: L) H' → Q .non H') ∧
  ((sizeOk k && putOk g k) = false → E (.ref (He.ga K "BadBits")) none H)
theorem len_BitRow_put (h : sp_BitRow_put K vs H Q E) : vs.length = 3 := by
  obtain ⟨B, L, x, dx, f, b, v, w, g, k, rfl, _⟩ := h
  rfl
def t_BitRow_put (K : PySem.W.Frag) (W : WX) : TS :=
  (tSeq (tDrop (tCl (sp_need_size K) [] W (tCons (tVar 2) tNil)))
    (tSeq (tIfS ((tOr (tNot (tB (tCl (sp_is_number K) [] W (tCons (tVar 1) tNil)))) (tOr (tTest (tOp rLtU (tVar 1) (tC (.int 0)))) (tTest (tOp rGtU (tOp rShrU (tVar 1) (tVar 2)) (tC (.int 0))))))) (tRz (He.ga K "BadBits") W) tNext)
    (tSeq (sFld K (tVar 0) (tOp rOrU (tOp rShlU (tFld K (tVar 0) "part") (tVar 2)) (tVar 1)) "part")
    (tSeq (sFldAug K (tVar 0) (tVar 2) rAdd "filled")
    (tWhile (tTest (tOp rGeU (tFld K (tVar 0) "filled") (tC (.int 8)))) (tSeq (sFldAug K (tVar 0) (tC (.int 8)) rSub "filled")
    (tSeq (tDrop (tBM K "list" rAppend (tFld K (tVar 0) "full") (tCons (tOp rShrU (tFld K (tVar 0) "part") (tFld K (tVar 0) "filled")) tNil)))
    (sFld K (tVar 0) (tOp rAndU (tFld K (tVar 0) "part") (tOp rSubU (tOp rShlU (tC (.int 1)) (tFld K (tVar 0) "filled")) (tC (.int 1)))) "part"))))))))
theorem rd_BitRow_put (kBitRow : KBitRow K) (h : sp_BitRow_put K vs H Q E) : t_BitRow_put K (fun c d _ H2 => E c d H2) { nx := fun _ H' => Q .non H', rt := Q } (start ["self", "number", "size"] vs) H := by
  obtain ⟨B, L, x, dx, f, b, v, w, g, k, rfl, hT, hT2, hs, hb, q, qe⟩ := h
  obtain ⟨hc, n1, n2, n3⟩ := kBitRow
  unfold t_BitRow_put
  walk_at "go"
  refine ⟨w, k, rfl, hT2, fun hk => ?_, fun hk => qe (by rw [hk]; rfl)⟩
  rw [hk, Bool.true_and] at qe
  walk_at "go"
  refine ⟨v, g, rfl, hT, ?_⟩
  cases hT2 with
  | int s =>
    simp only [sizeOk] at hk
    simp only [Bool.and_eq_true, decide_eq_true_eq] at hk
    cases hT with
    | int n =>
      simp only [putOk] at qe
      walk_at "go"
      refine i_2 (fun c => ?_) (fun c => ?_)
      · have c := of_decide_eq_true c
        rw [decide_eq_false (by omega : ¬ 0 ≤ n)] at qe
        walk_at "go"
        exact qe rfl
      have c := of_decide_eq_false c
      walk_at "go"
      obtain ⟨S, rfl⟩ := Int.eq_ofNat_of_zero_le hk.1
      obtain ⟨M, rfl⟩ := Int.eq_ofNat_of_zero_le (Int.not_lt.mp c)
      rw [decide_eq_true (by omega : (0 : Int) ≤ ((M : Nat) : Int))] at qe
      rw [Int.toNat_natCast, shr_nat]
      rw [Int.toNat_natCast, two_cast] at qe
      have hp : 0 < 2 ^ S := Nat.two_pow_pos S
      by_cases hM : M < 2 ^ S
      · rw [Nat.div_eq_of_lt hM]
        walk_at "go"
        have hS : S ≤ 24 := by omega
        have q := q M S rfl rfl hS hM
        refine c_shl ?_ ?_
        · refine ⟨by omega, by omega, ?_⟩
          have h1 := numOf_lt (b.drop (8 * (b.length / 8)))
          have h2 : (b.drop (8 * (b.length / 8))).length ≤ 8 := by rw [List.length_drop]; omega
          have h3 := Nat.lt_of_lt_of_le h1 (Nat.pow_le_pow_right (by decide) h2)
          rw [Int.natAbs_natCast]
          exact Nat.lt_trans h3 (by decide)
        walk_at "go"
        rename_i H1 h1 H2 h2
        rw [Int.toNat_natCast, join_nat hM] at h2
        have e1 : numOf (b.drop (8 * (b.length / 8))) * 2 ^ S + M = numOf ((b ++ bitsOf M S).drop (8 * (b.length / 8))) := by
          rw [List.drop_append_of_le_length (by omega), numOf_append, bitsOf_length, numOf_small hM]
        rw [e1] at h2
        have hcl : (b ++ bitsOf M S).length = b.length + S := by rw [List.length_append, bitsOf_length]
        have e2 : brL b = HO.lst ((wholeTo (b ++ bitsOf M S) (b.length / 8)).map V.int) := by
          show HO.lst _ = HO.lst _
          rw [wholeTo_append (by omega)]
        rw [e2] at h2
        generalize b ++ bitsOf M S = c at *
        refine w_while (fun m σ' L' B' => ∃ j, m = c.length - 8 * j ∧ 8 * j ≤ c.length ∧ σ' = [some (.ref x), some (.int M), some (.int S)] ∧ B' = B ∧
          L' = (x, .ins (He.ga K "BitRow") dx [("full", .ref f), ("part", .int ((numOf (c.drop (8 * j)) : Nat) : Int)), ("filled", .int ((m : Nat) : Int))]) :: (f, .lst ((wholeTo c j).map V.int)) :: L) (c.length - 8 * (b.length / 8)) h2 ⟨b.length / 8, rfl, by omega, rfl, rfl, ?_⟩ ?_
        · have e3 : ((b.length % 8 : Nat) : Int) + ((S : Nat) : Int) = ((c.length - 8 * (b.length / 8) : Nat) : Int) := by omega
          rw [e3]
        · rintro m σ' L' B' H' ⟨j, hm, hj, rfl, rfl, rfl⟩ h'
          walk_at "go"
          by_cases h8 : 8 ≤ m
          · refine i_t (decide_eq_true (by omega)) (w_turn ?_)
            walk_at "go"
            rename_i H3 h3
            have e4 : (m : Int) - 8 = ((m - 8 : Nat) : Int) := by omega
            rw [e4, Int.toNat_natCast, shr_nat]
            have hl : (c.drop (8 * j)).length = m := by rw [List.length_drop, hm]
            have e5 := numOf_take_div (c.drop (8 * j)) 8
            rw [hl] at e5
            rw [e5]
            refine c_app1 h3 (small5 ?_) fun H4 h4 => ?_
            · rw [List.length_map, wholeTo_length]
              omega
            rw [e4] at h4
            walk_at "go"
            rename_i H5 h5
            rw [Int.toNat_natCast, mask_nat] at h5
            have e6 := numOf_drop_mod (c.drop (8 * j)) 8
            rw [hl, List.drop_drop] at e6
            rw [e6] at h5
            refine ⟨m - 8, by omega, _, _, ⟨j + 1, by omega, by omega, rfl, rfl, ?_⟩, h5⟩
            rw [wholeTo_succ, List.map_append]
            rfl
          · refine i_f (decide_eq_false (by omega)) ?_
            have ej : j = c.length / 8 := by omega
            subst ej
            have em : m = c.length % 8 := by omega
            rw [em] at h'
            exact q H' h'
      · have hd : 1 ≤ M / 2 ^ S := (Nat.one_le_div_iff hp).mpr (Nat.le_of_not_lt hM)
        rw [decide_eq_false (by omega : ¬ ((M : Nat) : Int) < ((2 ^ S : Nat) : Int))] at qe
        walk_at "go"
        exact qe rfl
    | non => walk_at "go"; exact qe rfl
    | bl b => walk_at "go"; exact qe rfl
    | str x => walk_at "go"; exact qe rfl
    | lst z => walk_at "go"; exact qe rfl
    | tup z => walk_at "go"; exact qe rfl
    | dic z => walk_at "go"; exact qe rfl
  | _ => cases hk
def sp_BitRow_many (K : PySem.W.Frag) : Sp := fun vs H Q _ => ∃ (B : Hp) (L : Pic) (x dx f : Addr) (b : List Bool), vs = [.ref x] ∧ Hs B ((x, brO K dx f b) :: (f, brL b) :: L) H ∧ Q (.int ((b.length : Nat) : Int)) H
theorem len_BitRow_many (h : sp_BitRow_many K vs H Q E) : vs.length = 1 := by
  obtain ⟨B, L, x, dx, f, b, rfl, _⟩ := h
  rfl
def t_BitRow_many (K : PySem.W.Frag) (W : WX) : TS :=
  (tRet (tOp rAddU (tOp rMulU (tC (.int 8)) (tCB (rLenK K) (tCons (tFld K (tVar 0) "full") tNil))) (tFld K (tVar 0) "filled")))
theorem rd_BitRow_many (kBitRow : KBitRow K) (h : sp_BitRow_many K vs H Q E) : t_BitRow_many K W { nx := fun _ H' => Q .non H', rt := Q } (start ["self"] vs) H := by
  obtain ⟨B, L, x, dx, f, b, rfl, hs, q⟩ := h
  obtain ⟨hc, n1, n2, n3⟩ := kBitRow
  unfold t_BitRow_many
  walk_at "go"
  rw [List.length_map, wholeTo_length]
  have e : (8 : Int) * ((b.length / 8 : Nat) : Int) + ((b.length % 8 : Nat) : Int) = ((b.length : Nat) : Int) := by omega
  rw [e]
  exact q
def sp_BitRow_row (K : PySem.W.Frag) : Sp := fun vs H Q _ => ∃ (B : Hp) (L : Pic) (x dx f : Addr) (b : List Bool), vs = [.ref x] ∧ Hs B ((x, brO K dx f b) :: (f, brL b) :: L) H ∧ b.length ≤ 700000 ∧ RetL H Q ((rowOf b).map V.int)
theorem len_BitRow_row (h : sp_BitRow_row K vs H Q E) : vs.length = 1 := by
  obtain ⟨B, L, x, dx, f, b, rfl, _⟩ := h
  rfl
theorem rowOf_whole {b : List Bool} (h : b.length % 8 = 0) : rowOf b = wholeTo b (b.length / 8) := by
  unfold rowOf pad8
  rw [show (8 - b.length % 8) % 8 = 0 by omega, List.replicate_zero, List.append_nil, show (b.length + 7) / 8 = b.length / 8 by omega]
theorem rowOf_part {b : List Bool} (h : b.length % 8 ≠ 0) : rowOf b = wholeTo b (b.length / 8) ++ [((numOf (b.drop (8 * (b.length / 8))) * 2 ^ (8 - b.length % 8) : Nat) : Int)] := by
  unfold rowOf
  rw [show (b.length + 7) / 8 = b.length / 8 + 1 by omega, wholeTo_succ]
  unfold pad8
  rw [wholeTo_append (by omega)]
  congr 2
  unfold byteAt
  rw [List.drop_append_of_le_length (by omega), List.take_of_length_le (by rw [List.length_append, List.length_drop, List.length_replicate]; omega), numOf_append, numOf_noughts, List.length_replicate, show (8 - b.length % 8) % 8 = 8 - b.length % 8 by omega, Nat.add_zero]
def t_BitRow_row (K : PySem.W.Frag) (W : WX) : TS :=
  (tSeq (tIfS (tTest (tOp (rEqU K) (tFld K (tVar 0) "filled") (tC (.int 0)))) (tRet (tCB (rListK K) (tCons (tFld K (tVar 0) "full") tNil))) tNext)
    (tRet (tOp rAddU (tFld K (tVar 0) "full") (tLst (tCons (tOp rShlU (tFld K (tVar 0) "part") (tOp rSubU (tC (.int 8)) (tFld K (tVar 0) "filled"))) tNil)))))
theorem rd_BitRow_row (kBitRow : KBitRow K) (h : sp_BitRow_row K vs H Q E) : t_BitRow_row K W { nx := fun _ H' => Q .non H', rt := Q } (start ["self"] vs) H := by
  obtain ⟨B, L, x, dx, f, b, rfl, hs, hb, q⟩ := h
  obtain ⟨hc, n1, n2, n3⟩ := kBitRow
  have hx := hs.get (.head _)
  have hf := hs.get (.tail _ (.head _))
  clear hs
  have h0 := Hs.start H
  unfold t_BitRow_row
  walk_at "go"
  by_cases h8 : b.length % 8 = 0
  · refine i_t (decide_eq_true (by omega)) ?_
    walk_at "go"
    refine c_listL h0 (SqL.of hf) fun p H1 h1 => ?_
    rw [rowOf_whole h8] at q
    exact h1.rl (.head _) q
  · refine i_f (decide_eq_false (by omega)) ?_
    walk_at "go"
    rw [show (8 : Int) - ((b.length % 8 : Nat) : Int) = ((8 - b.length % 8 : Nat) : Int) by omega]
    refine c_shl ?_ ?_
    · refine ⟨by omega, by omega, ?_⟩
      have h1 := numOf_lt (b.drop (8 * (b.length / 8)))
      have h2 : (b.drop (8 * (b.length / 8))).length ≤ 8 := by rw [List.length_drop]; omega
      have h3 := Nat.lt_of_lt_of_le h1 (Nat.pow_le_pow_right (by decide) h2)
      rw [Int.natAbs_natCast]
      exact Nat.lt_trans h3 (by decide)
    walk_at "go"
    rename_i p H1 h1
    refine c_addL h1 (h1.ex _ _ hf) (h1.get (.head _)) ?_ fun r H2 h2 => ?_
    · rw [List.length_map, wholeTo_length]
      exact small5' (by simp; omega)
    rw [rowOf_part h8, List.map_append] at q
    refine h2.drop1.rl (.head _) ?_
    rw [Int.toNat_natCast]
    have e : ((numOf (b.drop (8 * (b.length / 8))) * 2 ^ (8 - b.length % 8) : Nat) : Int) = ((numOf (b.drop (8 * (b.length / 8))) : Nat) : Int) * 2 ^ (8 - b.length % 8) := by push_cast; rfl
    rw [e] at q
    exact q
theorem use_put {B : Hp} {L : Pic} {x dx f : Addr} {b : List Bool} {n s : Nat} {i j : Int} (ei : i = ((n : Nat) : Int)) (ej : j = ((s : Nat) : Int)) (h : Hs B ((x, brO K dx f b) :: (f, brL b) :: L) H) (hb : b.length ≤ 700000) (hs : s ≤ 24) (hn : n < 2 ^ s)
    (k : ∀ H', Hs B ((x, brO K dx f (b ++ bitsOf n s)) :: (f, brL (b ++ bitsOf n s)) :: L) H' → Q .non H') : sp_BitRow_put K [.ref x, .int i, .int j] H Q E := by
  subst ei ej
  refine ⟨B, L, x, dx, f, b, _, _, .int ((n : Nat) : Int), .int ((s : Nat) : Int), rfl, .int _, .int _, h, hb, fun n' s' e1 e2 _ _ => ?_, fun z => ?_⟩
  · cases Int.ofNat.inj (Tg.int.inj e1)
    cases Int.ofNat.inj (Tg.int.inj e2)
    exact k
  · simp only [sizeOk, putOk, Int.toNat_natCast, two_cast, Bool.and_eq_false_iff, decide_eq_false_iff_not] at z
    omega
end L2.BR

namespace L2.BR
open PySem PySem.Spec PyProof.Rows L2.BP
variable {K : PySem.W.Frag} {W : WX} {vs : List V} {H : Hp} {Q : VK} {E : XK}
theorem digS_cut3 {b : List Bool} {k sz : Nat} (h : k ≤ b.length) : cutS (digS b) (some ((k : Nat) : Int)) (some (((k : Nat) : Int) + ((sz : Nat) : Int))) = digS ((b.drop k).take sz) := by
  rw [show ((k : Nat) : Int) + ((sz : Nat) : Int) = ((k + sz : Nat) : Int) by omega]
  unfold cutS
  rw [HT.sIx_nat, HT.sIx_nat, digS_len, Nat.min_eq_left h]
  unfold digS
  have e : ((b.drop k).take (min (k + sz) b.length - k)) = (b.drop k).take sz := by
    rw [List.take_eq_take_iff, List.length_drop]
    omega
  rw [← e]
  simp
theorem take_join {b : List Bool} {k sz : Nat} (h : k ≤ b.length) : b.take k ++ (b.drop k).take sz = b.take (k + sz) := by
  rw [List.take_add]
def sp__law_row (K : PySem.W.Frag) : Sp := fun vs H Q _ => ∃ b : List Bool, vs = [.str (digS b)] ∧ b.length ≤ 10000 ∧ RetL H Q ((rowOf b).map V.int)
theorem len__law_row (h : sp__law_row K vs H Q E) : vs.length = 1 := by
  obtain ⟨b, rfl, _⟩ := h
  rfl
def t__law_row (K : PySem.W.Frag) (W : WX) : TS :=
  (tSeq (tAsg (tMk (He.ga K "BitRow") (sp_BitRow___init__ K) [] W tNil) (gName 1))
    (tSeq (tAsg (tC (.int 0)) (gName 2))
    (tSeq (tWhile (tTest (tOp rLtU (tVar 2) (tCB (rLenK K) (tCons (tVar 0) tNil)))) (tSeq (tAsg (tOp rAddU (tC (.int 1)) (tOp rModU (tVar 2) (tC (.int 3)))) (gName 3))
    (tSeq (tAsg (tC (.int 0)) (gName 4))
    (tSeq (tFor (iStr (tSl (rSlK K) (tVar 0) (tPart (tVar 2)) (tPart (tOp rAddU (tVar 2) (tVar 3))))) (gName 5) (tAsg (tOp rAddU (tOp rMulU (tC (.int 2)) (tVar 4)) (tCB (rIntK) (tCons (tOp (rEqU K) (tVar 5) (tC (.str "1"))) tNil))) (gName 4)))
    (tSeq (tDrop (tMt (He.ga K "BitRow") "put" (sp_BitRow_put K) [] W (tVar 1) (tCons (tVar 4) (tCons (tCB (rLenK K) (tCons (tSl (rSlK K) (tVar 0) (tPart (tVar 2)) (tPart (tOp rAddU (tVar 2) (tVar 3)))) tNil)) tNil))))
    (tAsg (tOp rAddU (tVar 2) (tVar 3)) (gName 2)))))))
    (tRet (tMt (He.ga K "BitRow") "row" (sp_BitRow_row K) [] W (tVar 1) tNil)))))
theorem rd__law_row (kBitRow : KBitRow K) (h : sp__law_row K vs H Q E) : t__law_row K (fun c d _ H2 => E c d H2) { nx := fun _ H' => Q .non H', rt := Q } (start ["_law_bits_here", "_law_row_here", "_law_at", "_law_size", "_law_number", "_law_bit"] vs) H := by
  obtain ⟨b, rfl, hb, q⟩ := h
  obtain ⟨hc, n1, n2, n3⟩ := kBitRow
  have hs := Hs.start H
  unfold t__law_row
  walk_at "go"
  rename_i x dx H1 h1
  refine ⟨H, [], x, dx, rfl, h1, fun f H2 h2 => ?_⟩
  refine ⟨rfl, ?_⟩
  clear h1 hs
  have hdl := digS_len b
  walk_at "go"
  refine w_while (fun m σ' L' B' => ∃ (k : Nat) (w3 w4 w5 : Option V), m = b.length - k ∧ σ' = [some (.str (digS b)), some (.ref x), some (.int ((k : Nat) : Int)), w3, w4, w5] ∧ B' = H ∧ L' = [(x, brO K dx f (b.take k)), (f, brL (b.take k))]) b.length h2 ⟨0, none, none, none, rfl, rfl, rfl, by rw [List.take_zero]⟩ ?_
  rintro m σ' L' B' H' ⟨k, w3, w4, w5, rfl, rfl, rfl, rfl⟩ h
  clear h2
  walk_at "go"
  refine c_lenS (by rw [hdl]; exact small6' (by omega)) ?_
  rw [hdl]
  walk_at "go"
  by_cases c : k < b.length
  rotate_left
  · refine i_f (decide_eq_false (by omega)) ?_
    rw [List.take_of_length_le (by omega)] at h
    walk_at "go"
    exact ⟨B', [], x, dx, f, b, rfl, h, by omega, fun p H2 a s u => q p H2 (noneBack h.ex a) (h.ex.trans s) u⟩
  refine i_t (decide_eq_true (by omega)) (w_turn ?_)
  obtain ⟨sz, hsz, hs1, hs3⟩ : ∃ sz : Nat, 1 + ((k : Nat) : Int) % 3 = ((sz : Nat) : Int) ∧ 1 ≤ sz ∧ sz ≤ 3 := ⟨(1 + ((k : Nat) : Int) % 3).toNat, by omega, by omega, by omega⟩
  have hcut : cutS (digS b) (some ((k : Nat) : Int)) (some (((k : Nat) : Int) + ((sz : Nat) : Int))) = digS ((b.drop k).take sz) := digS_cut3 (by omega)
  obtain ⟨p, hp⟩ : ∃ p, p = (b.drop k).take sz := ⟨_, rfl⟩
  rw [← hp] at hcut
  have hpl : p.length ≤ 3 := by rw [hp, List.length_take]; omega
  walk_at "go"
  rw [hsz]
  refine c_slS (by rw [hdl]; exact small6' (by omega)) ?_
  rw [hcut]
  walk_at "go"
  refine w_forS (fun j σ' L' B2 => ∃ w5 : Option V, σ' = [some (.str (digS b)), some (.ref x), some (.int ((k : Nat) : Int)), some (.int ((sz : Nat) : Int)), some (.int ((numOf (p.take j) : Nat) : Int)), w5] ∧ B2 = B' ∧ L' = [(x, brO K dx f (b.take k)), (f, brL (b.take k))]) h ⟨w5, by rw [List.take_zero]; rfl, rfl, rfl⟩ ?_ ?_
  · rintro j ch σ' L' B2 H3 hch ⟨w5, rfl, rfl, rfl⟩ h3
    obtain ⟨y, hy, rfl⟩ := digS_at hch
    clear h
    walk_at "go"
    rw [dig_one]
    refine ⟨_, _, ⟨some (V.str ⟨#[dig y]⟩), ?_, rfl, rfl⟩, h3⟩
    rw [num_take hy]
    cases y <;> (push_cast; rfl)
  rintro σ' L' B2 H3 ⟨w5, rfl, rfl, rfl⟩ h3
  rw [show (digS p).cps.size = p.length from digS_len p, List.take_of_length_le (Nat.le_refl _)]
  clear h
  walk_at "go"
  refine c_slS (by rw [hdl]; exact small6' (by omega)) ?_
  rw [hcut]
  walk_at "go"
  refine c_lenS (by rw [digS_len]; exact small6' (by omega)) ?_
  rw [digS_len]
  walk_at "go"
  have hlt := numOf_lt p
  refine ⟨B2, [], x, dx, f, b.take k, _, _, .int ((numOf p : Nat) : Int), .int ((p.length : Nat) : Int), rfl, .int _, .int _, h3, by rw [List.length_take]; omega, fun n s e1 e2 hs24 hns H4 h4 => ?_, fun z => ?_⟩
  · obtain rfl : n = numOf p := by
      injection e1 with e1
      omega
    obtain rfl : s = p.length := by
      injection e2 with e2
      omega
    rw [bitsOf_numOf, hp, take_join (by omega)] at h4
    clear h3
    walk_at "go"
    exact ⟨b.length - (k + sz), by omega, _, _, ⟨k + sz, _, _, _, rfl, by push_cast; rfl, rfl, rfl⟩, h4⟩
  · exfalso
    simp only [sizeOk, putOk, Bool.and_eq_false_iff, decide_eq_false_iff_not] at z
    rw [Int.toNat_natCast, show (2 : Int) ^ p.length = ((2 ^ p.length : Nat) : Int) by push_cast; rfl] at z
    generalize 2 ^ p.length = N at *
    omega
end L2.BR

namespace L2.BR
open PySem PySem.Spec PyProof.Rows L2.BP
variable {K : PySem.W.Frag} {W : WX} {vs : List V} {H : Hp} {Q : VK} {E : XK}
/-- the texts of the codes that there are -/
def someB (cs : List (Option (Nat × Nat))) : List (List Bool) := cs.filterMap fun o => o.map fun p => bitsOf p.1 p.2
theorem some_texts : ∀ cs : List (Option (Nat × Nat)), (cs.map textOf).filter (fun t : Str => !decide (t = ("none" : Str))) = (someB cs).map digS
  | [] => rfl
  | none :: cs => by
    have ih := some_texts cs
    rw [List.map_cons, List.filter_cons, show (!decide (textOf none = ("none" : Str))) = false by decide +kernel, if_neg (by decide), ih]
    rfl
  | some (c, l) :: cs => by
    have ih := some_texts cs
    have e : (!decide (textOf (some (c, l)) = ("none" : Str))) = true := by
      have z : ¬ textOf (some (c, l)) = ("none" : Str) := fun z => none_digS (bitsOf c l) z.symm
      rw [decide_eq_false z]
      rfl
    rw [List.map_cons, List.filter_cons, e, if_pos rfl, ih]
    rfl
theorem some_len {cs : List (Option (Nat × Nat))} (hf : Fits cs) {w : List Bool} (h : w ∈ someB cs) : 1 ≤ w.length ∧ w.length ≤ 12 := by
  obtain ⟨o, ho, e⟩ := List.mem_filterMap.mp h
  obtain ⟨i, hi, e2⟩ := List.getElem_of_mem ho
  cases o with
  | none => cases e
  | some q =>
    obtain ⟨c, l⟩ := q
    injection e with e
    subst e
    rw [bitsOf_length]
    have := hf i c l (by rw [List.getElem?_eq_getElem hi, e2])
    exact ⟨this.1, this.2.1⟩
theorem digS_take (b : List Bool) (j : Nat) : cutS (digS b) none (some ((j : Nat) : Int)) = digS (b.take j) := by
  unfold cutS
  rw [HT.sIx_nat, HT.sIx_none, digS_len]
  unfold digS
  have e : b.take (min j b.length) = b.take j := by
    rw [List.take_eq_take_iff]
    omega
  simp only [Nat.sub_zero]
  rw [← e]
  simp
theorem cut_101 {n : Nat} (h : n < 4) : cutS "101" none (some ((n : Nat) : Int)) = digS (([true, false, true] : List Bool).take n) := by
  rcases (by omega : n = 0 ∨ n = 1 ∨ n = 2 ∨ n = 3) with rfl | rfl | rfl | rfl <;> decide +kernel
def sp__law_bits (K : PySem.W.Frag) : Sp := fun vs H Q _ => ∃ (a t : Addr) (ns : List Int) (cs : List (Option (Nat × Nat))), vs = [.ref a, .ref t] ∧ SqL K H a (ns.map V.int) ∧ SqL K H t ((cs.map textOf).map V.str) ∧ cs.length ≤ 300 ∧ Fits cs ∧ someB cs ≠ [] ∧
  ∀ (b : List Bool) (n : Nat), n ≤ 3 → n ≤ b.length → b.length ≤ 1000 → RetT H Q [.str (digS b), .int ((n : Nat) : Int)]
theorem len__law_bits (h : sp__law_bits K vs H Q E) : vs.length = 2 := by
  obtain ⟨a, t, ns, cs, rfl, _⟩ := h
  rfl
def t__law_bits (K : PySem.W.Frag) (W : WX) : TS :=
  (tSeq (tAsg (tLc (iList K (tVar 1)) (gName 2) (tTest (tOp (rNeU K) (tVar 2) (tC (.str "none")))) (tVar 2) [2]) (gName 3))
    (tSeq (tAsg (tSl (rSlK K) (tC (.str "101")) tNoPart (tPart (tOp rModU (tCl (sp__law_cell_at K) [] W (tCons (tVar 0) (tCons (tC (.int 2)) tNil))) (tC (.int 4))))) (gName 4))
    (tSeq (tAsg (tCB (rLenK K) (tCons (tVar 4) tNil)) (gName 5))
    (tSeq (tFor (iRng1 (tCons (tOp rModU (tOp rDivU (tCl (sp__law_cell_at K) [] W (tCons (tVar 0) (tCons (tC (.int 2)) tNil))) (tC (.int 4))) (tC (.int 10))) tNil)) (gName 6) (tAsg (tOp rAddU (tVar 4) (tOp (rIx K) (tVar 3) (tOp rModU (tOp rDivU (tCl (sp__law_mixed K) [] W (tCons (tOp rDivU (tCl (sp__law_cell_at K) [] W (tCons (tVar 0) (tCons (tC (.int 2)) tNil))) (tC (.int 40))) (tCons (tOp rAddU (tVar 6) (tC (.int 50))) tNil))) (tC (.int 7))) (tCB (rLenK K) (tCons (tVar 3) tNil))))) (gName 4)))
    (tSeq (tAsg (tCl (sp__law_mixed K) [] W (tCons (tOp rDivU (tCl (sp__law_cell_at K) [] W (tCons (tVar 0) (tCons (tC (.int 2)) tNil))) (tC (.int 40))) (tCons (tC (.int 31)) tNil))) (gName 7))
    (tSeq (tAsg (tOp rAddU (tVar 4) (tM1 (rJoinK K) (tC (.str "")) (tLc (iRng1 (tCons (tOp rModU (tOp rDivU (tVar 7) (tC (.int 128))) (tC (.int 8))) tNil)) (gName 6) tYes (tCB (rStrI) (tCons (tOp rAndU (tOp rShrU (tVar 7) (tVar 6)) (tC (.int 1))) tNil)) [6]))) (gName 4))
    (tSeq (tIfS (tTest (tOp (rEqU K) (tOp rModU (tOp rDivU (tVar 7) (tC (.int 1024))) (tC (.int 3))) (tC (.int 1)))) (tSeq (tAsg (tOp (rIx K) (tVar 3) (tOp rModU (tOp rDivU (tVar 7) (tC (.int 4096))) (tCB (rLenK K) (tCons (tVar 3) tNil)))) (gName 2))
    (tAsg (tOp rAddU (tVar 4) (tSl (rSlK K) (tVar 2) tNoPart (tPart (tOp rModU (tOp rDivU (tVar 7) (tC (.int 65536))) (tCB (rLenK K) (tCons (tVar 2) tNil)))))) (gName 4))) tNext)
    (tRet (tTup (tCons (tVar 4) (tCons (tVar 5) tNil)))))))))))
theorem rd__law_bits (h : sp__law_bits K vs H Q E) : t__law_bits K W { nx := fun _ H' => Q .non H', rt := Q } (start ["_law_script", "_law_texts_here", "_law_text", "_law_some", "_law_bits_here", "_law_ahead", "_law_k", "_law_number"] vs) H := by
  obtain ⟨a, t, ns, cs, rfl, hS, hT, hc3, hf, hne, q⟩ := h
  have hs := Hs.start H
  unfold t__law_bits
  walk_at "go"
  refine c_lcL V.str (cs.map textOf) (fun pre acc B' => acc = (pre.filter fun s : Str => !decide (s = ("none" : Str))).map V.str ∧ B' = H) hs ⟨rfl, rfl⟩ (fun B' H' e h => h.bl (e.seq hT)) ?_ ?_
  · rintro pre s post acc B' D H' e ⟨rfl, rfl⟩ e2 h
    have hsm : ((pre.filter fun s : Str => !decide (s = ("none" : Str))).map V.str).length < sizeLine := by
      rw [List.length_map]
      have z1 := List.length_filter_le (fun s : Str => !decide (s = ("none" : Str))) pre
      have z2 := congrArg List.length e
      rw [List.length_append, List.length_cons, List.length_map] at z2
      exact small6 (by omega)
    walk_at "go"
    refine ⟨rfl, ?_⟩
    walk_at "go"
    by_cases c : s = ("none" : Str)
    · rw [decide_eq_true c]
      walk_at "go"
      refine ⟨_, _, ⟨?_, rfl⟩, e2, h⟩
      rw [List.filter_append, List.filter_cons, decide_eq_true c]
      simp
    · rw [decide_eq_false c]
      walk_at "go"
      refine c_item h hsm e2 ⟨?_, rfl⟩
      rw [List.filter_append, List.map_append, List.filter_cons, decide_eq_false c]
      rfl
  rintro acc B1 D H1 ⟨rfl, rfl⟩ _ h1
  rw [some_texts] at h1
  have hsl : ∀ w ∈ someB cs, 1 ≤ w.length ∧ w.length ≤ 12 := fun w hw => some_len hf hw
  have hsz : (someB cs).length ≤ 300 := Nat.le_trans (List.length_filterMap_le _ _) hc3
  generalize someB cs = ss at *
  have hS1 := h1.bl hS
  walk_at "go"
  refine ⟨a, ns, _, rfl, hS1, by decide, ?_⟩
  walk_at "go"
  obtain ⟨n, hn, hn4⟩ : ∃ n : Nat, cellAt ns 2 % 4 = ((n : Nat) : Int) ∧ n < 4 := ⟨(cellAt ns 2 % 4).toNat, by omega, by omega⟩
  rw [hn]
  refine c_slS (by decide +kernel) ?_
  rw [cut_101 hn4]
  obtain ⟨b0, hb0⟩ : ∃ b0, b0 = ([true, false, true] : List Bool).take n := ⟨_, rfl⟩
  have hb3 : b0.length ≤ 3 := by rw [hb0, List.length_take]; exact Nat.min_le_right _ _
  rw [← hb0]
  walk_at "go"
  refine c_lenS (by rw [digS_len]; exact small6' (by omega)) ?_
  rw [digS_len]
  walk_at "go"
  refine ⟨a, ns, _, rfl, hS1, by decide, ?_⟩
  walk_at "go"
  have hssl : 1 ≤ ss.length := List.length_pos_iff.mpr hne
  have hat : ∀ m : Int, ∃ w ∈ ss, atI ((ss.map digS).map V.str) (m % ((((ss.map digS).map V.str).length : Nat) : Int)) = some (.str (digS w)) := fun m => by
    rw [List.length_map, List.length_map]
    have z1 := Int.emod_nonneg m (show ((ss.length : Nat) : Int) ≠ 0 by omega)
    have z2 := Int.emod_lt_of_pos m (show 0 < ((ss.length : Nat) : Int) by omega)
    obtain ⟨k, hk⟩ : ∃ k : Nat, m % ((ss.length : Nat) : Int) = ((k : Nat) : Int) := ⟨(m % ((ss.length : Nat) : Int)).toNat, by omega⟩
    rw [hk]
    have hkl : k < ss.length := by omega
    exact ⟨ss[k], List.getElem_mem hkl, atI_nat (by rw [List.getElem?_map, List.getElem?_map, List.getElem?_eq_getElem hkl]; rfl)⟩
  have hml : 0 < ((((ss.map digS).map V.str).length : Nat) : Int) := by rw [List.length_map, List.length_map]; omega
  refine ⟨_, rfl, by omega, by omega, ?_⟩
  have h10 : (cellAt ns 2 / 4 % 10).toNat ≤ 9 := by omega
  generalize (cellAt ns 2 / 4 % 10).toNat = tn at *
  refine w_forR (fun i σ' L' B' => ∃ (b : List Bool) (w6 : Option V), b0.length ≤ b.length ∧ b.length ≤ 3 + 12 * i ∧ B' = B1 ∧ L' = [(D, .lst ((ss.map digS).map V.str))] ∧
    σ' = [some (.ref a), some (.ref t), none, some (.ref D), some (.str (digS b)), some (.int ((b0.length : Nat) : Int)), w6, none]) h1 ⟨b0, none, Nat.le_refl _, by omega, rfl, rfl, rfl⟩ ?_ ?_
  · rintro i σ' L' B2 H2 hi ⟨b, w6, hbl, hbu, rfl, rfl, rfl⟩ h
    clear h1
    have hS2 := h.bl hS
    walk_at "go"
    refine ⟨a, ns, _, rfl, hS2, by decide, ?_⟩
    walk_at "go"
    refine ⟨_, _, rfl, by omega, by omega, fun m hm => ?_⟩
    walk_at "go"
    obtain ⟨w, hw, i1⟩ := hat (m / 7)
    have hwl := (hsl w hw).2
    refine c_ixL (h.sql (.head _)) i1 ?_
    refine c_addS (by rw [digS_len, digS_len]; exact small6' (by omega)) ?_
    rw [digS_app]
    exact ⟨_, _, ⟨b ++ w, _, by rw [List.length_append]; omega, by rw [List.length_append]; omega, rfl, rfl, rfl⟩, h⟩
  rintro σ' L' B2 H2 ⟨b, w6, hbl, hbu, rfl, rfl, rfl⟩ h
  have hS2 := h.bl hS
  clear h1
  walk_at "go"
  refine ⟨a, ns, _, rfl, hS2, by decide, ?_⟩
  walk_at "go"
  refine ⟨_, _, rfl, by omega, by omega, fun m hm => ?_⟩
  obtain ⟨M, rfl⟩ := Int.eq_ofNat_of_zero_le hm
  walk_at "go"
  refine c_m1 ?_
  walk_at "go"
  refine ⟨⟨_, rfl⟩, ?_⟩
  walk_at "go"
  refine ⟨_, rfl, by omega, by omega, ?_⟩
  have h8 : (((M : Nat) : Int) / 128 % 8).toNat ≤ 7 := by omega
  generalize (((M : Nat) : Int) / 128 % 8).toNat = l at *
  refine c_lcR (fun k acc B4 => acc = ((List.range k).map fun i => digS [M / 2 ^ i % 2 == 1]).map V.str ∧ B4 = B2) h ⟨rfl, rfl⟩ ?_ ?_
  · rintro k acc B4 D4 H4 hk ⟨rfl, rfl⟩ e4 h4
    walk_at "go"
    refine ⟨rfl, ?_⟩
    walk_at "go"
    rw [show ((0 : Int) + ((k : Nat) : Int)).toNat = k by omega, shr_nat, and_one]
    refine c_strB (Nat.mod_lt _ (by decide)) ?_
    rw [bit_str _ (Nat.mod_lt _ (by decide))]
    refine c_item h4 (small6 (by rw [List.length_map, List.length_map, List.length_range]; omega)) e4 ⟨?_, rfl⟩
    rw [List.range_succ, List.map_append, List.map_append]
    rfl
  rintro acc B4 D4 H4 ⟨rfl, rfl⟩ _ h4
  refine c_join (h4.sql (.head _)) ?_ ?_
  · have z := join_size ((List.range l).map fun i => (M / 2 ^ i % 2 == 1))
    rw [show (List.range l).map (fun i => digS [M / 2 ^ i % 2 == 1]) = ((List.range l).map fun i => (M / 2 ^ i % 2 == 1)).map fun b => digS [b] by rw [List.map_map]; rfl, z, show ("" : Str).length = 0 by decide +kernel, List.length_map, List.length_range]
    omega
  rw [show (List.range l).map (fun i => digS [M / 2 ^ i % 2 == 1]) = ((List.range l).map fun i => (M / 2 ^ i % 2 == 1)).map fun b => digS [b] by rw [List.map_map]; rfl, join_dig]
  have hjl : ((List.range l).map fun i => (M / 2 ^ i % 2 == 1)).length = l := by rw [List.length_map, List.length_range]
  generalize ((List.range l).map fun i => (M / 2 ^ i % 2 == 1)) = bj at *
  have h5 := h4.drop
  clear h h4
  refine c_addS (by rw [digS_len, digS_len]; exact small6' (by omega)) ?_
  rw [digS_app]
  walk_at "go"
  have fin : ∀ (b2 : List Bool) (H' : Hp), b0.length ≤ b2.length → b2.length ≤ 1000 → ∀ T, Hs B4 [(T, .tup [.str (digS b2), .int ((b0.length : Nat) : Int)]), (D, .lst ((ss.map digS).map V.str))] H' → Q (.ref T) H' := fun b2 H' l1 l2 T hT => hT.rt (.head _) (q b2 b0.length (by omega) l1 l2)
  by_cases c : ((M : Nat) : Int) / 1024 % 3 = 1
  · refine i_t (decide_eq_true c) ?_
    walk_at "go"
    obtain ⟨w, hw, i1⟩ := hat (((M : Nat) : Int) / 4096)
    have hwl := hsl w hw
    refine c_ixL (h5.sql (.head _)) i1 ?_
    walk_at "go"
    refine c_lenS (by rw [digS_len]; exact small6' (by omega)) ?_
    rw [digS_len]
    walk_at "go"
    obtain ⟨j, hj, hjl2⟩ : ∃ j : Nat, ((M : Nat) : Int) / 65536 % ((w.length : Nat) : Int) = ((j : Nat) : Int) ∧ j < w.length := by
      have z1 := Int.emod_nonneg (((M : Nat) : Int) / 65536) (show ((w.length : Nat) : Int) ≠ 0 by omega)
      have z2 := Int.emod_lt_of_pos (((M : Nat) : Int) / 65536) (show 0 < ((w.length : Nat) : Int) by omega)
      exact ⟨(((M : Nat) : Int) / 65536 % ((w.length : Nat) : Int)).toNat, by omega, by omega⟩
    rw [hj]
    refine c_slS (by rw [digS_len]; exact small6' (by omega)) ?_
    rw [digS_take]
    refine c_addS (by rw [digS_len, digS_len, List.length_take, List.length_append]; exact small6' (by omega)) ?_
    rw [digS_app]
    walk_at "go"
    rename_i T H6 h6
    exact fin _ _ (by rw [List.length_append, List.length_append]; omega) (by rw [List.length_append, List.length_append, List.length_take]; omega) T h6
  · refine i_f (decide_eq_false c) ?_
    walk_at "go"
    rename_i T H6 h6
    exact fin _ _ (by rw [List.length_append]; omega) (by rw [List.length_append]; omega) T h6
end L2.BR

namespace L2.BR
open PySem PySem.Spec PyProof.Rows L2.BP
variable {K : PySem.W.Frag} {W : WX} {vs : List V} {H : Hp} {Q : VK} {E : XK}
def sp__law_asked (K : PySem.W.Frag) : Sp := fun vs H Q _ => ∃ (B : Hp) (L : Pic) (x r dr s : Addr) (t : Nat) (ns : List Int) (cs : List (Option (Nat × Nat))), vs = [.ref x, .ref r] ∧ Hs B ((r, rdO K dr s t) :: (s, .lst (ns.map V.int)) :: L) H ∧ CRd K B x cs ∧ Fits cs ∧ Bytes ns ∧ ns.length ≤ 100000 ∧ t ≤ 8 * ns.length ∧
  ∀ (B2 : Hp) (v : V) (H' : Hp), Same B B2 → Hs B2 ((r, rdO K dr s (t + resU (readCode cs ((bitsRow ns).drop t)))) :: (s, .lst (ns.map V.int)) :: L) H' → Dp K H' v (resD (readCode cs ((bitsRow ns).drop t))) → Q v H'
theorem len__law_asked (h : sp__law_asked K vs H Q E) : vs.length = 2 := by
  obtain ⟨B, L, x, r, dr, s, t, ns, cs, rfl, _⟩ := h
  rfl
def t__law_asked (K : PySem.W.Frag) (W : WX) : TS :=
  (tTryAs K (.ref (He.ga K "PressError")) 2 (fun W => (tRet (tMt (He.ga K "CodeReader") "thing" (sp_CodeReader_thing K) [] W (tVar 0) (tCons (tVar 1) tNil))))
    (fun a cls d => (tRet (tClE a cls d (sp__law_word K) (tCons (tVar 2) tNil)))) W)
theorem rd__law_asked (kCodeReader : KCodeReader K) (kWBadCode : KWBadCode K) (kWNoBits : KWNoBits K) (h : sp__law_asked K vs H Q E) : t__law_asked K (fun c d _ H2 => E c d H2) { nx := fun _ H' => Q .non H', rt := Q } (start ["_law_codes_here", "_law_reader", "_law_e"] vs) H := by
  obtain ⟨B, L, x, r, dr, s, t, ns, cs, rfl, hs, hX, hf, hby, hnl, ht, q⟩ := h
  obtain ⟨cc, cn1, cn2⟩ := kCodeReader
  have hX' := hX
  obtain ⟨dx, kd, bd, kvs, bvs, kx, _⟩ := hX'
  unfold t__law_asked
  walk_at "go"
  refine w_tryAs ?_
  walk_at "go"
  refine ⟨B, L, x, r, dr, s, t, ns, cs, rfl, hs, hX, fits_le hf, hby, hnl, ht, fun p u e H1 h1 => ?_, fun e H1 h1 => ?_, fun e H1 h1 => ?_⟩
  · rw [e] at q
    exact q B _ H1 (Same.refl _) h1 (.int _)
  · rw [e] at q
    refine c_wAs kWBadCode.p fun ea hea => ?_
    clear hs
    walk_at "go"
    refine c_clE ?_
    walk_at "go"
    exact ⟨_, _, true, rfl, rfl, rfl, kWBadCode.word, .inl ⟨rfl, rfl⟩, fun T H2 s2 hd => q B _ H2 (Same.refl _) (h1.same s2) hd⟩
  · rw [e] at q
    refine c_wAs kWNoBits.p fun ea hea => ?_
    clear hs
    walk_at "go"
    refine c_clE ?_
    walk_at "go"
    exact ⟨_, _, false, rfl, rfl, rfl, kWNoBits.word, .inr ⟨rfl, rfl⟩, fun T H2 s2 hd => q B _ H2 (Same.refl _) (h1.same s2) hd⟩
theorem res_fit : ∀ {cs : List (Option (Nat × Nat))} {bits : List Bool} {s c p u : Nat}, codeGo cs s c bits = .thing p u → s + 1 ≤ u ∧ u ≤ s + bits.length
  | _, [], _, _, _, _, h => by cases h
  | cs, b :: bits, s, c, p, u, h => by
    rw [codeGo] at h
    split at h
    · cases h
      rw [List.length_cons]
      omega
    · split at h
      · have := res_fit h
        rw [List.length_cons]
        omega
      · cases h
theorem resD_shaped (r : CRes) : SeqAt.shaped (resD r) = true := by
  cases r with
  | thing p u => rfl
  | bad => decide +kernel
  | ends => decide +kernel
theorem resD_lay (r : CRes) : PyData.canLay0 (resD r) = true := by
  cases r with
  | thing p u => rfl
  | bad => decide +kernel
  | ends => decide +kernel
def CRes.isTup : CRes → Bool
  | .thing _ _ => false
  | _ => true
theorem res_th {v : V} {r : CRes} (h : Dp K H v (resD r)) : ∃ g, Th K H v g ∧ g.isBool = false ∧ g.isTup = r.isTup := by
  cases r with
  | thing p u =>
    cases h
    exact ⟨_, .int _, rfl, rfl⟩
  | bad =>
    cases h with
    | tup hs _ => exact ⟨_, .tup hs, rfl, rfl⟩
  | ends =>
    cases h with
    | tup hs _ => exact ⟨_, .tup hs, rfl, rfl⟩
theorem c_neRes {x y : V} {r : CRes} (h1 : Dp K H x (resD r)) (h2 : Dp K H y (resD r)) (k : Q (.bl false) H) : rNeU K x y H Q := by
  refine c_neD h1 h2 (resD_shaped r) (resD_shaped r) ?_
  rw [eqvS (resD_lay r)]
  exact k
def sp__law_read (K : PySem.W.Frag) : Sp := fun vs H Q _ => ∃ (B : Hp) (L : Pic) (x r dr s a : Addr) (t : Nat) (ns : List Int) (cs : List (Option (Nat × Nat))), vs = [.ref x, .ref r, .ref a, .str (digS (bitsRow ns)), .int ((t : Nat) : Int)] ∧ Hs B ((r, rdO K dr s t) :: (s, .lst (ns.map V.int)) :: L) H ∧ CRd K B x cs ∧ SqL K B a ((cs.map textOf).map V.str) ∧ Fits cs ∧ cs.length ≤ 300 ∧ Bytes ns ∧ ns.length ≤ 1000 ∧ t ≤ 8 * ns.length ∧
  ∀ (B2 : Hp) (t2 : Nat) (H' : Hp), Same B B2 → t2 ≤ 8 * ns.length → Hs B2 ((r, rdO K dr s t2) :: (s, .lst (ns.map V.int)) :: L) H' → Q (.int ((t2 : Nat) : Int)) H'
theorem len__law_read (h : sp__law_read K vs H Q E) : vs.length = 5 := by
  obtain ⟨B, L, x, r, dr, s, a, t, ns, cs, rfl, _⟩ := h
  rfl
def t__law_read (K : PySem.W.Frag) (W : WX) : TS :=
  (tSeq (tFor (iRng1 (tCons (tOp rAddU (tCB (rLenK K) (tCons (tVar 3) tNil)) (tC (.int 2))) tNil)) (gName 5) (tSeq (tAsg (tCl (sp__law_due K) [] W (tCons (tVar 2) (tCons (tVar 3) (tCons (tVar 4) tNil)))) (gTup K 2 (gCons (gName 6) (gCons (gName 7) gNil))))
    (tSeq (tAsg (tCl (sp__law_asked K) [] W (tCons (tVar 0) (tCons (tVar 1) tNil))) (gName 8))
    (tSeq (tIfS ((tOr (tTest (tOp (rNeU K) (tVar 8) (tVar 6))) (tOr (tB (tCB (rIsi K) (tCons (tVar 8) (tCons (tC (.ty "bool")) tNil)))) (tOr (tTest (tOp (rNeU K) (tMt (He.ga K "BitReader") "left" (sp_BitReader_left K) [] W (tVar 1) tNil) (tOp rSubU (tCB (rLenK K) (tCons (tVar 3) tNil)) (tVar 7)))) (tTest (tOp (rNeU K) (tMt (He.ga K "BitReader") "place" (sp_BitReader_place K) [] W (tVar 1) tNil) (tVar 7))))))) (tRet (tC .non)) tNext)
    (tSeq (tIfS (tB (tCB (rIsi K) (tCons (tVar 6) (tCons (tC (.ty "tuple")) tNil)))) (tSeq (tIfS ((tOr (tTest (tOp (rNeU K) (tCl (sp__law_asked K) [] W (tCons (tVar 0) (tCons (tVar 1) tNil))) (tVar 6))) (tTest (tOp (rNeU K) (tMt (He.ga K "BitReader") "place" (sp_BitReader_place K) [] W (tVar 1) tNil) (tVar 7))))) (tRet (tC .non)) tNext)
    (tRet (tVar 7))) tNext)
    (tAsg (tVar 7) (gName 4)))))))
    (tRet (tC .non)))
theorem rd__law_read (kBitReader : KBitReader K) (h : sp__law_read K vs H Q E) : t__law_read K (fun c d _ H2 => E c d H2) { nx := fun _ H' => Q .non H', rt := Q } (start ["_law_codes_here", "_law_reader", "_law_texts_here", "_law_bits_here", "_law_at", "_law_turn", "_law_found", "_law_place", "_law_told"] vs) H := by
  obtain ⟨B, L, x, r, dr, s, a, t, ns, cs, rfl, hs, hX, hS, hf, hc3, hby, hnl, ht, q⟩ := h
  obtain ⟨bc, bn1, bn2⟩ := kBitReader
  have hbl := bitsRow_length ns
  unfold t__law_read
  walk_at "go"
  refine c_lenS (by rw [digS_len, hbl]; exact small6' (by omega)) ?_
  rw [digS_len, hbl]
  walk_at "go"
  refine ⟨_, rfl, by omega, by omega, ?_⟩
  rw [show (((8 * ns.length : Nat) : Int) + 2).toNat = 8 * ns.length + 2 by omega]
  refine w_forR (fun i σ' L' B' => ∃ (u : Nat) (w5 w6 w7 w8 : Option V), t + i ≤ u ∧ u ≤ 8 * ns.length ∧ Same B B' ∧ L' = (r, rdO K dr s u) :: (s, .lst (ns.map V.int)) :: L ∧
    σ' = [some (.ref x), some (.ref r), some (.ref a), some (.str (digS (bitsRow ns))), some (.int ((u : Nat) : Int)), w5, w6, w7, w8]) hs ⟨t, none, none, none, none, by omega, ht, Same.refl _, rfl, rfl⟩ ?_ ?_
  · rintro i σ' L' B' H' hi ⟨u, w5, w6, w7, w8, hu, hu8, sB, rfl, rfl⟩ h
    clear hs
    walk_at "go"
    refine ⟨B', _, a, cs, bitsRow ns, u, rfl, h, sB.seq hS, hf, hc3, by omega, by omega, fun B2 p v H2 s2 h2 hT hD => ?_⟩
    have hT2 := h2.bt hT
    clear h
    walk_at "go"
    refine ⟨B2, L, x, r, dr, s, u, ns, cs, rfl, h2, hX.same (sB.trans s2), hf, hby, by omega, hu8, fun B3 v2 H3 s3 h3 hD2 => ?_⟩
    have hD3 := (dp_same s3 hD)
    have hD4 := dp_same h3.ex hD3
    have hS3 := (sB.trans s2).trans s3
    obtain ⟨res, hres⟩ : ∃ res, res = readCode cs ((bitsRow ns).drop u) := ⟨_, rfl⟩
    rw [← hres] at hD2 hD3 hD4 h3 ⊢
    clear h2 hT2 hT hD
    have hu2 : u + resU res ≤ 8 * ns.length := by
      cases res with
      | thing p w =>
        have z := res_fit (s := 0) (c := 0) (show codeGo cs 0 0 ((bitsRow ns).drop u) = .thing p w from hres.symm)
        rw [List.length_drop, hbl] at z
        show u + w ≤ _
        omega
      | _ => exact hu8
    walk_at "go"
    refine c_neRes hD2 hD4 ?_
    walk_at "go"
    obtain ⟨g2, th2, gb2, gt2⟩ := res_th hD2
    refine c_isiBool th2 ?_
    rw [gb2]
    walk_at "go"
    refine ⟨B3, L, r, dr, s, _, ns, rfl, h3, ?_⟩
    walk_at "go"
    refine c_lenS (by rw [digS_len, hbl]; exact small6' (by omega)) ?_
    rw [digS_len, hbl]
    walk_at "go"
    refine ⟨B3, L, r, dr, s, _, ns, rfl, h3, ?_⟩
    walk_at "go"
    obtain ⟨g4, th4, gb4, gt4⟩ := res_th hD4
    refine c_isiTup th4 ?_
    rw [gt4]
    cases hit : res.isTup with
    | false =>
      have hpos : 1 ≤ resU res := by
        cases res with
        | thing p w => exact (res_fit (s := 0) (c := 0) (show codeGo cs 0 0 ((bitsRow ns).drop u) = .thing p w from hres.symm)).1
        | _ => cases hit
      walk_at "go"
      exact ⟨_, _, ⟨u + resU res, _, _, _, _, by omega, hu2, hS3, rfl, rfl⟩, h3⟩
    | true =>
      have h0 : resU res = 0 := by
        cases res with
        | thing p w => cases hit
        | _ => rfl
      rw [h0, Nat.add_zero] at h3
      walk_at "go"
      refine ⟨B3, L, x, r, dr, s, u, ns, cs, rfl, h3, hX.same hS3, hf, hby, by omega, hu8, fun B4 v3 H4 s4 h4 hD5 => ?_⟩
      rw [← hres] at hD5 h4
      have hD6 := dp_same h4.ex (dp_same s4 hD3)
      clear h3
      walk_at "go"
      refine c_neRes hD5 hD6 ?_
      walk_at "go"
      refine ⟨B4, L, r, dr, s, _, ns, rfl, h4, ?_⟩
      rw [h0, Nat.add_zero] at h4 ⊢
      walk_at "go"
      exact q B4 u H4 (hS3.trans s4) hu8 h4
  · rintro σ' L' B' H' ⟨u, w5, w6, w7, w8, hu, hu8, sB, rfl, rfl⟩ h
    omega
end L2.BR

namespace L2.BR
open PySem PySem.Spec PyProof.Rows L2.BP
variable {K : PySem.W.Frag} {W : WX} {vs : List V} {H : Hp} {Q : VK} {E : XK}
/-! ### the heap without one object -/
def wo (H : Hp) (P : Addr) : Hp := fun b => if b = P then none else H b
section
variable {P p : Addr} {o : HO} {H' B B0 : Hp} {L : Pic}
theorem wo_of {b : Addr} {u : HO} (e : H b = some u) (n : b ≠ P) : wo H P b = some u := by
  unfold wo
  rw [if_neg n]
  exact e
theorem Hs.un (h : Hs B L H) (hp : B P = some o) : Hs (wo B P) ((P, o) :: L) H where
  ex := fun b u e => by
    unfold wo at e
    split at e
    · cases e
    · exact h.ex b u e
  nd := by
    refine List.nodup_cons.mpr ⟨fun m => ?_, h.nd⟩
    obtain ⟨q, mq, e⟩ := List.mem_map.mp m
    have z := (h.own q mq).2
    rw [e, hp] at z
    cases z
  own := fun q m => by
    rcases List.mem_cons.mp m with rfl | m
    · exact ⟨h.ex _ _ hp, if_pos rfl⟩
    · refine ⟨(h.own q m).1, ?_⟩
      unfold wo
      split
      · rfl
      · exact (h.own q m).2
theorem wo_same (s : Same B0 B) (hp : B0 P = none) : Same B0 (wo B P) := fun b u e => wo_of (s _ _ e) (fun z => by rw [z, hp] at e; cases e)
theorem wo_crd {x : Addr} {cs : List (Option (Nat × Nat))} {xs : List V} (hp : B P = some (.lst xs)) (h : CRd K B x cs) : CRd K (wo B P) x cs := by
  obtain ⟨dx, kd, bd, kvs, bvs, a, b, c, d, e⟩ := h
  refine ⟨dx, kd, bd, kvs, bvs, wo_of a ?_, wo_of b ?_, wo_of c ?_, d, e⟩
  · rintro rfl
    rw [hp] at a
    cases a
  · rintro rfl
    rw [hp] at b
    cases b
  · rintro rfl
    rw [hp] at c
    cases c
theorem Hs.at (h : H P = some o) : Hs (wo H P) [(P, o)] H := Hs.un (Hs.start H) h
theorem wo_sqlT {ps : Array Value} {xs : List V} (h : H P = some (.tbl ps)) (e : SqL K H p xs) : SqL K (wo H P) p xs := by
  rcases e with (e | ⟨u, e⟩) | e
  · exact .inl (.inl (wo_of e (by rintro rfl; rw [h] at e; cases e)))
  · exact .inl (.inr ⟨u, wo_of e (by rintro rfl; rw [h] at e; cases e)⟩)
  · exact .inr e
end
theorem Hs.sw2 {B : Hp} {L : Pic} {a b c d : Addr × HO} (h : Hs B (a :: b :: c :: d :: L) H) : Hs B (c :: d :: a :: b :: L) H := h.perm (by
  have z := (List.perm_append_comm (l₁ := [a, b]) (l₂ := [c, d])).append_right L
  exact z)
def sp_law (K : PySem.W.Frag) : Sp := fun vs H Q _ => ∃ (a : Addr) (ns : List Int), vs = [.ref a] ∧ H (tP K) = some (.tbl #[]) ∧ SqL K H a (ns.map V.int) ∧ ns.length ≤ 63 ∧ ∀ H', Q (.bl true) H'
theorem len_law (h : sp_law K vs H Q E) : vs.length = 1 := by
  obtain ⟨a, ns, rfl, _⟩ := h
  rfl
theorem map_int : ∀ {ws us : List Int}, ws.map V.int = us.map V.int → ws = us
  | [], [], _ => rfl
  | [], _ :: _, h => by cases h
  | _ :: _, [], h => by cases h
  | w :: ws, u :: us, h => by
    rw [List.map_cons, List.map_cons] at h
    injection h with h1 h2
    injection h1 with h1
    rw [h1, map_int h2]
theorem kraft_of {ws : List Int} (h : lenOk (.lst (ws.map V.int)) = true) : 0 < kraftV (ws.map V.int) ∧ kraftV (ws.map V.int) ≤ 4096 := by
  simp only [lenOk, Bool.and_eq_true, decide_eq_true_eq] at h
  exact h.2
theorem has_code {ws : List Int} : ∀ {l : List Nat} {c : CSt}, (∃ q ∈ l, 0 < lenAt ws q ∧ q < c.out.length) ∨ (∃ (p : Nat) (x : Nat × Nat), c.out[p]? = some (some x)) → ∃ (p : Nat) (x : Nat × Nat), (l.foldl (cstep ws) c).out[p]? = some (some x)
  | [], c, h => by
    rcases h with ⟨q, hq, _⟩ | h
    · cases hq
    · exact h
  | q :: l, c, h => by
    rw [List.foldl_cons]
    by_cases h0 : 0 < lenAt ws q
    · have e : cstep ws c q = ⟨c.code * 2 ^ (lenAt ws q - c.last) + 1, lenAt ws q, c.out.set q (some (c.code * 2 ^ (lenAt ws q - c.last), lenAt ws q))⟩ := by unfold cstep; rw [if_pos h0]
      rw [e]
      by_cases hq : q < c.out.length
      · exact has_code (.inr ⟨q, _, List.getElem?_set_self hq⟩)
      · have e2 : c.out.set q (some (c.code * 2 ^ (lenAt ws q - c.last), lenAt ws q)) = c.out := List.set_eq_of_length_le (by omega)
        rw [e2]
        refine has_code ?_
        rcases h with ⟨r, hr, h1, h2⟩ | h
        · rcases List.mem_cons.mp hr with rfl | hr
          · exact absurd h2 hq
          · exact .inl ⟨r, hr, h1, h2⟩
        · exact .inr h
    · have e : cstep ws c q = c := by unfold cstep; rw [if_neg h0]
      rw [e]
      refine has_code ?_
      rcases h with ⟨r, hr, h1, h2⟩ | h
      · rcases List.mem_cons.mp hr with rfl | hr
        · exact absurd h1 h0
        · exact .inl ⟨r, hr, h1, h2⟩
      · exact .inr h
theorem some_code {ws : List Int} (hw : ∀ n ∈ ws, 0 ≤ n ∧ n ≤ 12) (hk : 0 < kraftV (ws.map V.int)) : someB (codesOf ws) ≠ [] := by
  obtain ⟨p, x, hx⟩ : ∃ (p : Nat) (x : Nat × Nat), (codesOf ws)[p]? = some (some x) := by
    refine has_code (.inl ?_)
    refine Classical.byContradiction fun hno => ?_
    have hz : ∀ i, i < ws.length → lenAt ws i = 0 := fun i hi => by
      refine Classical.byContradiction fun h => hno ⟨i, (ord_perm ws).mem_iff.mpr (List.mem_range.mpr hi), by omega, by rw [List.length_replicate]; exact hi⟩
    have e : kraftV (ws.map V.int) = 0 := by
      unfold kraftV
      rw [List.map_map]
      have key : ∀ l : List Int, (∀ n ∈ l, ¬ 0 < n) → (l.map (krV ∘ V.int)).sum = 0 := fun l => by
        induction l with
        | nil => intro _; rfl
        | cons n l ih =>
          intro h
          rw [List.map_cons, List.sum_cons, ih fun m hm => h m (.tail _ hm)]
          show (if 0 < n then 2 ^ (12 - n.toNat) else 0) + 0 = 0
          rw [if_neg (h n (.head _))]
      refine key ws fun n hn => ?_
      obtain ⟨i, hi, rfl⟩ := List.getElem_of_mem hn
      have z := hz i hi
      unfold lenAt at z
      rw [List.getD_eq_getElem?_getD, List.getElem?_eq_getElem hi] at z
      simp only [Option.getD_some] at z
      omega
    omega
  intro h
  obtain ⟨hp, e⟩ := List.getElem?_eq_some_iff.mp hx
  have m : bitsOf x.1 x.2 ∈ someB (codesOf ws) := List.mem_filterMap.mpr ⟨some x, e ▸ List.getElem_mem hp, rfl⟩
  rw [h] at m
  cases m
/-- lengths, as they are drawn -/
def GoodL (ws : List Int) : Prop := 1 ≤ ws.length ∧ ws.length ≤ 300 ∧ (∀ n ∈ ws, 0 ≤ n ∧ n ≤ 12) ∧ lenOk (.lst (ws.map V.int)) = true
def t_law (K : PySem.W.Frag) (W : WX) : TS :=
  (tSeq (tAsg (tLst tNil) (gName 1))
    (tSeq (tFor (iRng1 (tCons (tC (.int 2)) tNil)) (gName 2) (tSeq (tAsg (tOp rAddU (tC (.int 1)) (tOp rModU (tCl (sp__law_cell_at K) [] W (tCons (tVar 0) (tCons (tVar 2) tNil))) (tC (.int 14)))) (gName 3))
    (Evl.tCut (tIfS (tTest (tOp (rEqU K) (tOp rModU (tOp rDivU (tCl (sp__law_cell_at K) [] W (tCons (tVar 0) (tCons (tVar 2) tNil))) (tC (.int 168))) (tC (.int 8))) (tC (.int 1)))) (tAsg (tOp rAddU (tC (.int 15)) (tOp rModU (tOp rDivU (tCl (sp__law_cell_at K) [] W (tCons (tVar 0) (tCons (tVar 2) tNil))) (tC (.int 1344))) (tC (.int 286)))) (gName 3)) tNext)
    (tDrop (tBM K "list" rAppend (tVar 1) (tCons (tCl (sp__law_lengths K) [] W (tCons (tVar 0) (tCons (tOp rAddU (tC (.int 3)) (tOp rMulU (tC (.int 20)) (tVar 2))) (tCons (tVar 3) (tCons (tOp rAddU (tC (.int 1)) (tOp rModU (tOp rDivU (tCl (sp__law_cell_at K) [] W (tCons (tVar 0) (tCons (tVar 2) tNil))) (tC (.int 14))) (tC (.int 12)))) tNil))))) tNil))))))
    (tSeq (tAsg (tLst (tCons (tCB (rListK K) (tCons (tOp (rIx K) (tVar 1) (tC (.int 0))) tNil)) (tCons (tCB (rListK K) (tCons (tOp (rIx K) (tVar 1) (tC (.int 1))) tNil)) tNil))) (gName 4))
    (tSeq (tAsg (tLst (tCons (tMk (He.ga K "CodeReader") (sp_CodeReader___init__ K) [] W (tCons (tOp (rIx K) (tVar 4) (tC (.int 0))) tNil)) (tCons (tMk (He.ga K "CodeReader") (sp_CodeReader___init__ K) [] W (tCons (tOp (rIx K) (tVar 4) (tC (.int 1))) tNil)) tNil))) (gName 5))
    (tSeq (tFor (iList K (tVar 4)) (gName 6) (tDrop (tBM0 K "list" rClear (tVar 6))))
    (tSeq (tAsg (tLst (tCons (tCl (sp__law_texts K) [] W (tCons (tOp (rIx K) (tVar 1) (tC (.int 0))) tNil)) (tCons (tCl (sp__law_texts K) [] W (tCons (tOp (rIx K) (tVar 1) (tC (.int 1))) tNil)) tNil))) (gName 7))
    (tSeq (tAsg (tCl (sp__law_bits K) [] W (tCons (tVar 0) (tCons (tOp (rIx K) (tVar 7) (tC (.int 0))) tNil))) (gTup K 2 (gCons (gName 8) (gCons (gName 9) gNil))))
    (tSeq (tAsg (tCl (sp__law_row K) [] W (tCons (tVar 8) tNil)) (gName 6))
    (tSeq (tAsg (tOp rAddU (tVar 8) (tOp rMulU (tC (.str "0")) (tOp rSubU (tOp rMulU (tC (.int 8)) (tCB (rLenK K) (tCons (tVar 6) tNil))) (tCB (rLenK K) (tCons (tVar 8) tNil))))) (gName 10))
    (tSeq (tAsg (tLst (tCons (tMk (He.ga K "BitReader") (sp_BitReader___init__ K) [] W (tCons (tVar 6) tNil)) (tCons (tMk (He.ga K "BitReader") (sp_BitReader___init__ K) [] W (tCons (tVar 6) tNil)) tNil))) (gName 11))
    (tSeq (tDrop (tBM0 K "list" rClear (tVar 6)))
    (tSeq (tDrop (tMt (He.ga K "BitReader") "take" (sp_BitReader_take K) [] W (tOp (rIx K) (tVar 11) (tC (.int 0))) (tCons (tVar 9) tNil)))
    (tSeq (tAsg (tC (.int 0)) (gName 12))
    (tSeq (tFor (iRng1 (tCons (tC (.int 4)) tNil)) (gName 13) (tSeq (tAsg (tCl (sp__law_due K) [] W (tCons (tOp (rIx K) (tVar 7) (tC (.int 1))) (tCons (tVar 10) (tCons (tVar 12) tNil)))) (gTup K 2 (gCons (gName 14) (gCons (gName 12) gNil))))
    (tIfS ((tOr (tTest (tOp (rNeU K) (tCl (sp__law_asked K) [] W (tCons (tOp (rIx K) (tVar 5) (tC (.int 1))) (tCons (tOp (rIx K) (tVar 11) (tC (.int 1))) tNil))) (tVar 14))) (tTest (tOp (rNeU K) (tMt (He.ga K "BitReader") "place" (sp_BitReader_place K) [] W (tOp (rIx K) (tVar 11) (tC (.int 1))) tNil) (tVar 12))))) (tRet (tC (.bl false))) tNext)))
    (tSeq (tIfS (tTest (tOp rIsU (tCl (sp__law_read K) [] W (tCons (tOp (rIx K) (tVar 5) (tC (.int 0))) (tCons (tOp (rIx K) (tVar 11) (tC (.int 0))) (tCons (tOp (rIx K) (tVar 7) (tC (.int 0))) (tCons (tVar 10) (tCons (tVar 9) tNil)))))) (tC .non))) (tRet (tC (.bl false))) tNext)
    (tSeq (tDrop (tMt (He.ga K "BitReader") "go" (sp_BitReader_go K) [] W (tOp (rIx K) (tVar 11) (tC (.int 0))) (tCons (tC (.int 0)) tNil)))
    (tSeq (tIfS (tTest (tOp rIsU (tCl (sp__law_read K) [] W (tCons (tOp (rIx K) (tVar 5) (tC (.int 1))) (tCons (tOp (rIx K) (tVar 11) (tC (.int 0))) (tCons (tOp (rIx K) (tVar 7) (tC (.int 1))) (tCons (tVar 10) (tCons (tC (.int 0)) tNil)))))) (tC .non))) (tRet (tC (.bl false))) tNext)
    (tSeq (tDrop (tMt (He.ga K "BitReader") "go" (sp_BitReader_go K) [] W (tOp (rIx K) (tVar 11) (tC (.int 1))) (tCons (tVar 9) tNil)))
    (tRet (tOp rNotU (tCl (sp__law_read K) [] W (tCons (tOp (rIx K) (tVar 5) (tC (.int 0))) (tCons (tOp (rIx K) (tVar 11) (tC (.int 1))) (tCons (tOp (rIx K) (tVar 7) (tC (.int 0))) (tCons (tVar 10) (tCons (tVar 9) tNil)))))) (tC .non)))))))))))))))))))))
theorem rd_law (kBitReader : KBitReader K) (kCodeReader : KCodeReader K) (h : sp_law K vs H Q E) : t_law K (fun c d _ H2 => E c d H2) { nx := fun _ H' => Q .non H', rt := Q } (start ["_law_script", "_law_lengths_here", "_law_k", "_law_many", "_law_handed", "_law_codes_here", "_law_row_here", "_law_texts_here", "_law_bits_here", "_law_ahead", "_law_whole", "_law_readers", "_law_at", "_law_turn", "_law_found"] vs) H := by
  obtain ⟨a, ns, rfl, hP, hS, hl, q⟩ := h
  have bcc := kBitReader.c
  have ccc := kCodeReader.c
  have h0 := Hs.at hP
  have hS := wo_sqlT hP hS
  generalize wo H (tP K) = Bz at *
  unfold t_law
  walk_at "go"
  rename_i ll H1 h1
  refine ⟨_, rfl, by decide, by decide, ?_⟩
  rw [show (2 : Int).toNat = 2 from rfl]
  refine w_forR (fun i σ' L' B' => ∃ (wl : List (Addr × List Int)) (w2 w3 : Option V), wl.length = i ∧ (∀ p ∈ wl, B' p.1 = some (.lst (p.2.map V.int)) ∧ GoodL p.2) ∧ Same Bz B' ∧ L' = [(ll, .lst (wl.map fun p => V.ref p.1)), (tP K, .tbl #[])] ∧
    σ' = [some (.ref a), some (.ref ll), w2, w3, none, none, none, none, none, none, none, none, none, none, none]) h1 ⟨[], none, none, rfl, (fun _ z => nomatch z), Same.refl _, rfl, rfl⟩ ?_ ?_
  · rintro i σ' L' B' H' hi ⟨wl, w2, w3, hwl, hw, sB, rfl, rfl⟩ h
    have hSb := sB.seq hS
    have hS' := h.bl hSb
    clear h0 h1
    walk_at "go"
    refine ⟨a, ns, _, rfl, hS', by omega, ?_⟩
    walk_at "go"
    refine w_cut (fun σ2 H2 => ∃ m : Nat, 1 ≤ m ∧ m ≤ 300 ∧ H2 = H' ∧ σ2 = [some (.ref a), some (.ref ll), some (.int (0 + ((i : Nat) : Int))), some (.int ((m : Nat) : Int)), none, none, none, none, none, none, none, none, none, none, none]) ?_ ?_
    · walk_at "go"
      refine ⟨a, ns, _, rfl, hS', by omega, ?_⟩
      walk_at "go"
      by_cases c : cellAt ns (0 + ((i : Nat) : Int)) / 168 % 8 = 1
      · refine i_t (decide_eq_true c) ?_
        walk_at "go"
        refine ⟨a, ns, _, rfl, hS', by omega, ?_⟩
        walk_at "go"
        exact ⟨(15 + cellAt ns (0 + ((i : Nat) : Int)) / 1344 % 286).toNat, by omega, by omega, rfl, by rw [show (((15 + cellAt ns (0 + ((i : Nat) : Int)) / 1344 % 286).toNat : Nat) : Int) = 15 + cellAt ns (0 + ((i : Nat) : Int)) / 1344 % 286 by omega]; rfl⟩
      · refine i_f (decide_eq_false c) ?_
        walk_at "go"
        exact ⟨(1 + cellAt ns (0 + ((i : Nat) : Int)) % 14).toNat, by omega, by omega, rfl, by rw [show (((1 + cellAt ns (0 + ((i : Nat) : Int)) % 14).toNat : Nat) : Int) = 1 + cellAt ns (0 + ((i : Nat) : Int)) % 14 by omega]; rfl⟩
    rintro σ2 H2 ⟨m, m1, m3, rfl, rfl⟩
    walk_at "go"
    refine ⟨a, ns, _, rfl, hS', by omega, ?_⟩
    walk_at "go"
    obtain ⟨o, ho, o1, o2⟩ : ∃ o : Nat, 1 + cellAt ns (0 + ((i : Nat) : Int)) / 14 % 12 = ((o : Nat) : Int) ∧ 1 ≤ o ∧ o ≤ 12 := ⟨(1 + cellAt ns (0 + ((i : Nat) : Int)) / 14 % 12).toNat, by omega, by omega, by omega⟩
    rw [ho, show (3 : Int) + 20 * (0 + ((i : Nat) : Int)) = ((3 + 20 * i : Nat) : Int) by omega]
    refine ⟨a, ns, _, m, o, rfl, hS', m1, m3, o1, o2, fun ws hwl2 hwb hok => retL h fun p H3 h3 => ?_⟩
    clear h
    walk_at "go"
    refine c_app1 h3 (small6 (by rw [List.length_map]; omega)) fun H4 h4 => ?_
    have s4 := same_upd (o := .lst (ws.map V.int)) (h4.nb (p := p) (.head _))
    refine ⟨_, _, ⟨wl ++ [(p, ws)], _, _, by rw [List.length_append, List.length_singleton, hwl], fun r hr => ?_, sB.trans s4, by rw [List.map_append]; rfl, rfl⟩, h4.fix⟩
    rcases List.mem_append.mp hr with z | z
    · exact ⟨s4 _ _ (hw r z).1, (hw r z).2⟩
    · rw [List.mem_singleton.mp z]
      exact ⟨upd_same, by show 1 ≤ ws.length; omega, by show ws.length ≤ 300; omega, hwb, hok⟩
  rintro σ' L' B1 H2 ⟨wl, w2, w3, hwl, hw, sB, rfl, rfl⟩ h2
  obtain ⟨⟨l0, ws0⟩, ⟨l1, ws1⟩, rfl⟩ : ∃ p q, wl = [p, q] := by
    match wl, hwl with
    | [p, q], _ => exact ⟨p, q, rfl⟩
  obtain ⟨kl0, G0⟩ := hw _ (.head _)
  obtain ⟨kl1, G1⟩ := hw _ (.tail _ (.head _))
  have hS := sB.seq hS
  have s2 := same_upd (o := .lst [V.ref l0, V.ref l1]) (h2.nb (p := ll) (.head _))
  have kll : SqL K (upd B1 ll (.lst [V.ref l0, V.ref l1])) ll [V.ref l0, V.ref l1] := .of upd_same
  have h3 : Hs (upd B1 ll (.lst [V.ref l0, V.ref l1])) [(tP K, .tbl #[])] H2 := Hs.fix h2
  have kl0 : SqL K (upd B1 ll (.lst [V.ref l0, V.ref l1])) l0 (ws0.map V.int) := .of (s2 _ _ kl0)
  have kl1 : SqL K (upd B1 ll (.lst [V.ref l0, V.ref l1])) l1 (ws1.map V.int) := .of (s2 _ _ kl1)
  have hS := s2.seq hS
  generalize upd B1 ll (.lst [V.ref l0, V.ref l1]) = B0 at *
  clear h0 h1 h2 hw hwl sB s2
  have i0 : atI [V.ref l0, V.ref l1] 0 = some (.ref l0) := rfl
  have i1 : atI [V.ref l0, V.ref l1] 1 = some (.ref l1) := rfl
  walk_at "go"
  rename_i d0 Ha ha d1 Hb hb hl2 Hc hc x0 dx0 Hd hd
  have n0 : B0 d0 = none := ha.nb (.head _)
  have n1 : B0 d1 = none := hb.nb (.head _)
  have n01 : d0 ≠ d1 := fun z => by
    have y := hb.nd
    rw [z] at y
    simp at y
  have h4 := (hd.rot4.fix.rot3).fix.rot3.swap
  have n1' : upd B0 d0 (.lst (ws0.map V.int)) d1 = none := by rw [upd_ne (Ne.symm n01)]; exact n1
  have sa := (same_upd (o := .lst (ws0.map V.int)) n0).trans (same_upd (o := .lst (ws1.map V.int)) n1')
  have kd1 : upd (upd B0 d0 (.lst (ws0.map V.int))) d1 (.lst (ws1.map V.int)) d1 = some (.lst (ws1.map V.int)) := upd_same
  have kd0 : upd (upd B0 d0 (.lst (ws0.map V.int))) d1 (.lst (ws1.map V.int)) d0 = some (.lst (ws0.map V.int)) := by rw [upd_ne n01]; exact upd_same
  generalize upd (upd B0 d0 (.lst (ws0.map V.int))) d1 (.lst (ws1.map V.int)) = Bq at *
  clear ha hb hc hd h3
  obtain ⟨ga1, ga3, gab, gao⟩ : GoodL ws0 := G0
  obtain ⟨gb1, gb3, gbb, gbo⟩ : GoodL ws1 := G1
  refine ⟨Bq, _, #[], x0, dx0, _, _, rfl, h4, .nil, .lst (.of kd0), ok_ints (by omega), fun ws2 e2 _ B2 ps2 H5 s5 hT5 hX0 h5 => ?_, fun z => by rw [gao] at z; cases z⟩
  obtain rfl : ws0 = ws2 := map_int (by injection e2)
  clear h4 e2
  refine ⟨rfl, ?_⟩
  walk_at "go"
  rename_i x1 dx1 H6 h6
  refine ⟨B2, _, ps2, x1, dx1, _, _, rfl, h6, hT5, .lst (.of (s5 _ _ kd1)), ok_ints (by omega), fun ws3 e3 _ B3 ps3 H7 s7 hT7 hX1 h7 => ?_, fun z => by rw [gbo] at z; cases z⟩
  obtain rfl : ws1 = ws3 := map_int (by injection e3)
  clear h5 h6 e3
  refine ⟨rfl, ?_⟩
  have hX0 := hX0.same s7
  have kd0 := s7 _ _ (s5 _ _ kd0)
  have kd1 := s7 _ _ (s5 _ _ kd1)
  have s03 := (sa.trans s5).trans s7
  walk_at "go"
  rename_i cl H8 h8
  have kd1' : wo B3 d0 d1 = some (.lst (ws1.map V.int)) := wo_of kd1 (Ne.symm n01)
  have h9 := Hs.un (Hs.un h8 kd0) kd1'
  have s05 := wo_same (wo_same s03 n0) n1
  have hX0 := wo_crd kd1' (wo_crd kd0 hX0)
  have hX1 := wo_crd kd1' (wo_crd kd0 hX1)
  generalize wo (wo B3 d0) d1 = B5 at *
  clear h7 h8 kd0 kd1 kd1' s03 sa s5 s7 hT5 hT7
  walk_at "go"
  refine w_forL id [V.ref d0, V.ref d1] (fun pre σ' L' B' => ∃ (v0 v1 : List V) (w6 : Option V), L' = [(d1, .lst v1), (d0, .lst v0), (cl, .lst [V.ref x0, V.ref x1]), (tP K, .tbl ps3), (hl2, .lst [V.ref d0, V.ref d1])] ∧ B' = B5 ∧
    σ' = [some (.ref a), some (.ref ll), w2, w3, some (.ref hl2), some (.ref cl), w6, none, none, none, none, none, none, none, none]) h9 ⟨_, _, none, rfl, rfl, rfl⟩ ?_ ?_ ?_
  · rintro pre post σ' L' B' H' _ ⟨v0, v1, w6, rfl, rfl, rfl⟩ h
    exact h.sql (by walk_at "deep")
  · rintro pre x post σ' L' B' H' e ⟨v0, v1, w6, rfl, rfl, rfl⟩ h
    rw [id_eq]
    have hx : x ∈ [V.ref d0, V.ref d1] := by rw [e]; simp
    clear h9
    simp only [List.mem_cons, List.not_mem_nil, or_false] at hx
    rcases hx with rfl | rfl
    · walk_at "go"
      refine c_clear0 h.swap fun H10 h10 => ?_
      walk_at "go"
      exact ⟨_, _, ⟨_, _, _, rfl, rfl, rfl⟩, h10.swap⟩
    · walk_at "go"
      refine c_clear0 h fun H10 h10 => ?_
      walk_at "go"
      exact ⟨_, _, ⟨_, _, _, rfl, rfl, rfl⟩, h10⟩
  rintro σ' L' B' H9 ⟨v0, v1, w6, rfl, rfl, rfl⟩ h10
  have h11 := h10.drop.drop.drop1.drop1
  have s11 := same_upd (o := .lst [V.ref x0, V.ref x1]) (h11.nb (.head _))
  have kcl : SqL K (upd B' cl (.lst [V.ref x0, V.ref x1])) cl [V.ref x0, V.ref x1] := .of upd_same
  have h12 := h11.fix
  have hX0 := hX0.same s11
  have hX1 := hX1.same s11
  have s06 := s05.trans s11
  have hS := s06.seq hS
  have kll := s06.seq kll
  have kl0 := s06.seq kl0
  have kl1 := s06.seq kl1
  generalize upd B' cl (.lst [V.ref x0, V.ref x1]) = B6 at *
  clear h9 h10 h11 s05 s06 s11 n0 n1 n01 n1'
  walk_at "go"
  have F0 := codes_fit gab (kraft_of gao).2
  have F1 := codes_fit gbb (kraft_of gbo).2
  have S0 := some_code gab (kraft_of gao).1
  have c0l := (codes_good fun n hn => (gab n hn).2).2
  have c1l := (codes_good fun n hn => (gbb n hn).2).2
  refine ⟨l0, ws0, rfl, h12.bl kl0, ga3, gab, retL h12 fun t0 Ha ha => ?_⟩
  walk_at "go"
  refine ⟨l1, ws1, rfl, ha.bl kl1, gb3, gbb, retL ha fun t1 Hb hb => ?_⟩
  generalize codesOf ws0 = cs0 at *
  generalize codesOf ws1 = cs1 at *
  clear h12 ha
  walk_at "go"
  rename_i tl Hc hc
  obtain ⟨B7, s7, h13, k13⟩ := Hs.fixes (N := [_, _, _]) hc
  have ktl : SqL K B7 tl [V.ref t0, V.ref t1] := .of (k13 _ (.head _))
  have kt1 : SqL K B7 t1 ((cs1.map textOf).map V.str) := .of (k13 _ (.tail _ (.head _)))
  have kt0 : SqL K B7 t0 ((cs0.map textOf).map V.str) := .of (k13 _ (.tail _ (.tail _ (.head _))))
  have hX0 := hX0.same s7
  have hX1 := hX1.same s7
  have hS := s7.seq hS
  have kcl := s7.seq kcl
  clear hb hc k13 s7 kll kl0 kl1
  have j0 : atI [V.ref t0, V.ref t1] 0 = some (.ref t0) := rfl
  have j1 : atI [V.ref t0, V.ref t1] 1 = some (.ref t1) := rfl
  have e0 : atI [V.ref x0, V.ref x1] 0 = some (.ref x0) := rfl
  have e1 : atI [V.ref x0, V.ref x1] 1 = some (.ref x1) := rfl
  walk_at "go"
  refine ⟨a, t0, ns, cs0, rfl, h13.bl hS, h13.bl kt0, by omega, F0, S0, fun b n hn hnb hbl => retT h13 fun T Hd hd => ?_⟩
  clear h13
  walk_at "go"
  refine ⟨b, rfl, by omega, retL hd fun rw He he => ?_⟩
  have he := he.drop1
  clear hd
  walk_at "go"
  obtain ⟨k, hk, hk8⟩ : ∃ k : Nat, 8 * (((b.length + 7) / 8 : Nat) : Int) - ((b.length : Nat) : Int) = ((k : Nat) : Int) ∧ k = (8 - b.length % 8) % 8 := ⟨(8 - b.length % 8) % 8, by omega, rfl⟩
  refine c_lenS (by rw [digS_len]; exact small6' (by omega)) ?_
  rw [digS_len, List.length_map, rowOf_length]
  walk_at "go"
  rw [hk]
  refine c_repS (n := k) rfl (by omega) (by decide +kernel) (by rw [digS_rep (by omega), digS_len, List.length_replicate]; omega) ?_
  rw [digS_rep (by omega : k < 8)]
  refine c_addS (by rw [digS_len, digS_len, List.length_replicate]; exact small6' (by omega)) ?_
  have hwh : b ++ List.replicate k false = bitsRow (rowOf b) := by rw [bitsRow_rowOf, hk8]; rfl
  rw [digS_app, hwh]
  have hby : Bytes (rowOf b) := rowOf_bytes b
  have hrl : (rowOf b).length ≤ 200 ∧ n ≤ 8 * (rowOf b).length := by rw [rowOf_length]; omega
  clear hwh hk hk8
  generalize rowOf b = rs at *
  obtain ⟨hrl, hn8⟩ := hrl
  walk_at "go"
  rename_i r0 dr0 H10 h10
  refine ⟨B7, _, r0, dr0, .ref rw, .lst (rs.map V.int), rfl, h10, .lst (h10.sql (.tail _ (.head _))), ok_ints (by omega), fun ns2 e2 _ s0 H11 h11 => ?_, fun z => ?_⟩
  rotate_left
  · rw [show Tg.isRow (.lst (rs.map V.int)) = true from all_byteV hby] at z
    cases z
  obtain rfl : rs = ns2 := map_int (by injection e2)
  clear h10 e2 he
  refine ⟨rfl, ?_⟩
  walk_at "go"
  rename_i r1 dr1 H12 h12
  refine ⟨B7, _, r1, dr1, .ref rw, .lst (rs.map V.int), rfl, h12, .lst (h12.sql (by walk_at "deep")), ok_ints (by omega), fun ns2 e2 _ s1 H13 h13 => ?_, fun z => ?_⟩
  rotate_left
  · rw [show Tg.isRow (.lst (rs.map V.int)) = true from all_byteV hby] at z
    cases z
  obtain rfl : rs = ns2 := map_int (by injection e2)
  clear h11 h12 e2
  refine ⟨rfl, ?_⟩
  walk_at "go"
  rename_i rl H14 h14
  have s14 := same_upd (o := .lst [V.ref r0, V.ref r1]) (h14.nb (.head _))
  have krl : SqL K (upd B7 rl (.lst [V.ref r0, V.ref r1])) rl [V.ref r0, V.ref r1] := .of upd_same
  have h15 := h14.fix.rot5
  have hX0 := hX0.same s14
  have hX1 := hX1.same s14
  have hS := s14.seq hS
  have kcl := s14.seq kcl
  have kt0 := s14.seq kt0
  have kt1 := s14.seq kt1
  have ktl := s14.seq ktl
  generalize upd B7 rl (.lst [V.ref r0, V.ref r1]) = B8 at *
  clear h13 h14 s14
  have f0 : atI [V.ref r0, V.ref r1] 0 = some (.ref r0) := rfl
  have f1 : atI [V.ref r0, V.ref r1] 1 = some (.ref r1) := rfl
  refine c_clear0 h15 fun H15 h16 => ?_
  have h17 := Hs.sw2 h16.drop
  clear h15 h16
  walk_at "go"
  refine ⟨B8, _, r0, dr0, s0, 0, rs, .int ((n : Nat) : Int), .int ((n : Nat) : Int), rfl, .int _, h17, hby, Nat.zero_le _, by omega, fun i e hi1 hi2 H16 h18 => ?_, fun z => ?_, fun i e hi1 hi2 => ?_⟩
  rotate_left
  · simp only [sizeOk, Bool.and_eq_false_iff, decide_eq_false_iff_not] at z
    omega
  · injection e with e
    omega
  obtain rfl : n = i := by
    injection e with e
    omega
  rw [Nat.zero_add] at h18
  have h19 := Hs.sw2 h18
  clear h17 h18 e
  have hbl8 := bitsRow_length rs
  walk_at "go"
  refine ⟨_, rfl, by decide, by decide, ?_⟩
  rw [show (4 : Int).toNat = 4 from rfl]
  refine w_forR (fun i σ' L' B' => ∃ (u : Nat) (w13 w14 : Option V), u ≤ 8 * rs.length ∧ Same B8 B' ∧ L' = [(r1, rdO K dr1 s1 u), (s1, .lst (rs.map V.int)), (r0, rdO K dr0 s0 n), (s0, .lst (rs.map V.int))] ∧
    σ' = [some (.ref a), some (.ref ll), w2, w3, some (.ref hl2), some (.ref cl), some (.ref rw), some (.ref tl), some (.str (digS b)), some (.int ((n : Nat) : Int)), some (.str (digS (bitsRow rs))), some (.ref rl), some (.int ((u : Nat) : Int)), w13, w14]) h19 ⟨0, none, none, Nat.zero_le _, Same.refl _, rfl, rfl⟩ ?_ ?_
  · rintro i σ' L' B' H' hi ⟨u, w13, w14, hu, sB, rfl, rfl⟩ h
    clear h19
    have kcl := sB.seq kcl
    have krl := sB.seq krl
    have ktl := sB.seq ktl
    walk_at "go"
    refine ⟨B', _, t1, cs1, bitsRow rs, u, rfl, h, sB.seq kt1, F1, by omega, by omega, by omega, fun B2 p v H2 s2 h2 hT hD => ?_⟩
    have hT2 := h2.bt hT
    have kcl := s2.seq kcl
    have krl := s2.seq krl
    clear h
    walk_at "go"
    refine ⟨B2, _, x1, r1, dr1, s1, u, rs, cs1, rfl, h2, hX1.same (sB.trans s2), F1, hby, by omega, hu, fun B3 v2 H3 s3 h3 hD2 => ?_⟩
    have hD4 := dp_same h3.ex (dp_same s3 hD)
    obtain ⟨res, hres⟩ : ∃ res, res = readCode cs1 ((bitsRow rs).drop u) := ⟨_, rfl⟩
    rw [← hres] at hD2 hD4 h3 ⊢
    have krl := s3.seq krl
    clear h2 hT2 hT hD
    have hu2 : u + resU res ≤ 8 * rs.length := by
      cases res with
      | thing p w =>
        have z := res_fit (s := 0) (c := 0) (show codeGo cs1 0 0 ((bitsRow rs).drop u) = .thing p w from hres.symm)
        rw [List.length_drop, hbl8] at z
        show u + w ≤ _
        omega
      | _ => exact hu
    walk_at "go"
    refine c_neRes hD2 hD4 ?_
    walk_at "go"
    refine ⟨B3, _, r1, dr1, s1, _, rs, rfl, h3, ?_⟩
    walk_at "go"
    exact ⟨_, _, ⟨u + resU res, _, _, hu2, (sB.trans s2).trans s3, rfl, rfl⟩, h3⟩
  rintro σ' L' B' H' ⟨u, w13, w14, hu, sB, rfl, rfl⟩ h
  clear h19
  have h20 := Hs.sw2 h
  have hX0 := hX0.same sB
  have hX1 := hX1.same sB
  have kcl := sB.seq kcl
  have krl := sB.seq krl
  have ktl := sB.seq ktl
  have kt0 := sB.seq kt0
  have kt1 := sB.seq kt1
  clear h
  walk_at "go"
  refine ⟨B', _, x0, r0, dr0, s0, t0, n, rs, cs0, rfl, h20, hX0, kt0, F0, by omega, hby, by omega, hn8, fun B2 u2 H2 s2 ht2 h21 => ?_⟩
  clear h20
  have hX0 := hX0.same s2
  have hX1 := hX1.same s2
  have kcl := s2.seq kcl
  have krl := s2.seq krl
  have ktl := s2.seq ktl
  have kt0 := s2.seq kt0
  have kt1 := s2.seq kt1
  walk_at "go"
  refine go_back (t := 0) h21 (Nat.zero_le _) fun H3 h22 => ?_
  clear h21
  walk_at "go"
  refine ⟨B2, _, x1, r0, dr0, s0, t1, 0, rs, cs1, rfl, h22, hX1, kt1, F1, by omega, hby, by omega, Nat.zero_le _, fun B3 u3 H4 s4 ht3 h23 => ?_⟩
  clear h22
  have hX0 := hX0.same s4
  have kcl := s4.seq kcl
  have krl := s4.seq krl
  have ktl := s4.seq ktl
  have kt0 := s4.seq kt0
  have h24 := Hs.sw2 h23
  clear h23
  walk_at "go"
  refine go_back (t := n) h24 hn8 fun H5 h25 => ?_
  clear h24
  walk_at "go"
  refine ⟨B3, _, x0, r1, dr1, s1, t0, n, rs, cs0, rfl, h25, hX0, kt0, F0, by omega, hby, by omega, hn8, fun B4 u4 H6 s6 ht4 h26 => ?_⟩
  walk_at "go"
  exact q _
end L2.BR

end
namespace L2.BH
open PySem PySem.Spec PyProof.Rows L2
def top (i : Nat) : Stmt := PySem.Challenge.pw_balepress_k10_codes_read.main.body.getD i (.Pass ⟨0, 0, 0, 0⟩)
abbrev s__wall : Stmt := top 0
abbrev s_is_between : Stmt := top 24
abbrev s_need_lengths : Stmt := top 26
abbrev s_codes_of : Stmt := top 27
abbrev s_CodeReader___init__ : Stmt := inClass (top 28) 0
abbrev s_CodeReader_thing : Stmt := inClass (top 28) 1
abbrev s_is_byte : Stmt := top 31
abbrev s_is_row : Stmt := top 32
abbrev s_need_row : Stmt := top 33
abbrev s_is_number : Stmt := top 37
abbrev s_need_size : Stmt := top 38
abbrev s_BitRow___init__ : Stmt := inClass (top 39) 0
abbrev s_BitRow_put : Stmt := inClass (top 39) 1
abbrev s_BitRow_many : Stmt := inClass (top 39) 2
abbrev s_BitRow_row : Stmt := inClass (top 39) 3
abbrev s_BitReader___init__ : Stmt := inClass (top 40) 0
abbrev s_BitReader_left : Stmt := inClass (top 40) 1
abbrev s_BitReader_place : Stmt := inClass (top 40) 2
abbrev s_BitReader_go : Stmt := inClass (top 40) 3
abbrev s_BitReader_take : Stmt := inClass (top 40) 4
abbrev s_BitReader_at_end : Stmt := inClass (top 40) 5
abbrev s__law_cell_at : Stmt := top 42
abbrev s__law_mixed : Stmt := top 43
abbrev s__law_is_number : Stmt := top 44
abbrev s__law_lengths : Stmt := top 45
abbrev s__law_codes : Stmt := top 46
abbrev s__law_word : Stmt := top 47
abbrev s__law_asked : Stmt := top 48
abbrev s__law_due : Stmt := top 49
abbrev s__law_texts : Stmt := top 50
abbrev s__law_bits : Stmt := top 51
abbrev s__law_row : Stmt := top 52
abbrev s__law_read : Stmt := top 53
abbrev s_law : Stmt := top 54
def d__wall : He.DefD := ⟨("_wall", none), "_wall", "_wall", defArgs s__wall, defBody s__wall, defScope s__wall, [], []⟩
def d_is_between : He.DefD := ⟨("is_between", none), "is_between", "is_between", defArgs s_is_between, defBody s_is_between, defScope s_is_between, [], []⟩
def d_need_lengths : He.DefD := ⟨("need_lengths", none), "need_lengths", "need_lengths", defArgs s_need_lengths, defBody s_need_lengths, defScope s_need_lengths, [], []⟩
def d_codes_of : He.DefD := ⟨("codes_of", none), "codes_of", "codes_of", defArgs s_codes_of, defBody s_codes_of, defScope s_codes_of, [], []⟩
def d_CodeReader___init__ : He.DefD := ⟨("CodeReader", some "__init__"), "__init__", "CodeReader.__init__", defArgs s_CodeReader___init__, defBody s_CodeReader___init__, defScope s_CodeReader___init__, [], []⟩
def d_CodeReader_thing : He.DefD := ⟨("CodeReader", some "thing"), "thing", "CodeReader.thing", defArgs s_CodeReader_thing, defBody s_CodeReader_thing, defScope s_CodeReader_thing, [], []⟩
def d_is_byte : He.DefD := ⟨("is_byte", none), "is_byte", "is_byte", defArgs s_is_byte, defBody s_is_byte, defScope s_is_byte, [], []⟩
def d_is_row : He.DefD := ⟨("is_row", none), "is_row", "is_row", defArgs s_is_row, defBody s_is_row, defScope s_is_row, [], []⟩
def d_need_row : He.DefD := ⟨("need_row", none), "need_row", "need_row", defArgs s_need_row, defBody s_need_row, defScope s_need_row, [], []⟩
def d_is_number : He.DefD := ⟨("is_number", none), "is_number", "is_number", defArgs s_is_number, defBody s_is_number, defScope s_is_number, [], []⟩
def d_need_size : He.DefD := ⟨("need_size", none), "need_size", "need_size", defArgs s_need_size, defBody s_need_size, defScope s_need_size, [], []⟩
def d_BitRow___init__ : He.DefD := ⟨("BitRow", some "__init__"), "__init__", "BitRow.__init__", defArgs s_BitRow___init__, defBody s_BitRow___init__, defScope s_BitRow___init__, [], []⟩
def d_BitRow_put : He.DefD := ⟨("BitRow", some "put"), "put", "BitRow.put", defArgs s_BitRow_put, defBody s_BitRow_put, defScope s_BitRow_put, [], []⟩
def d_BitRow_many : He.DefD := ⟨("BitRow", some "many"), "many", "BitRow.many", defArgs s_BitRow_many, defBody s_BitRow_many, defScope s_BitRow_many, [], []⟩
def d_BitRow_row : He.DefD := ⟨("BitRow", some "row"), "row", "BitRow.row", defArgs s_BitRow_row, defBody s_BitRow_row, defScope s_BitRow_row, [], []⟩
def d_BitReader___init__ : He.DefD := ⟨("BitReader", some "__init__"), "__init__", "BitReader.__init__", defArgs s_BitReader___init__, defBody s_BitReader___init__, defScope s_BitReader___init__, [], []⟩
def d_BitReader_left : He.DefD := ⟨("BitReader", some "left"), "left", "BitReader.left", defArgs s_BitReader_left, defBody s_BitReader_left, defScope s_BitReader_left, [], []⟩
def d_BitReader_place : He.DefD := ⟨("BitReader", some "place"), "place", "BitReader.place", defArgs s_BitReader_place, defBody s_BitReader_place, defScope s_BitReader_place, [], []⟩
def d_BitReader_go : He.DefD := ⟨("BitReader", some "go"), "go", "BitReader.go", defArgs s_BitReader_go, defBody s_BitReader_go, defScope s_BitReader_go, [], []⟩
def d_BitReader_take : He.DefD := ⟨("BitReader", some "take"), "take", "BitReader.take", defArgs s_BitReader_take, defBody s_BitReader_take, defScope s_BitReader_take, [], []⟩
def d_BitReader_at_end : He.DefD := ⟨("BitReader", some "at_end"), "at_end", "BitReader.at_end", defArgs s_BitReader_at_end, defBody s_BitReader_at_end, defScope s_BitReader_at_end, [], []⟩
def d__law_cell_at : He.DefD := ⟨("_law_cell_at", none), "_law_cell_at", "_law_cell_at", defArgs s__law_cell_at, defBody s__law_cell_at, defScope s__law_cell_at, [], []⟩
def d__law_mixed : He.DefD := ⟨("_law_mixed", none), "_law_mixed", "_law_mixed", defArgs s__law_mixed, defBody s__law_mixed, defScope s__law_mixed, [], []⟩
def d__law_is_number : He.DefD := ⟨("_law_is_number", none), "_law_is_number", "_law_is_number", defArgs s__law_is_number, defBody s__law_is_number, defScope s__law_is_number, [], []⟩
def d__law_lengths : He.DefD := ⟨("_law_lengths", none), "_law_lengths", "_law_lengths", defArgs s__law_lengths, defBody s__law_lengths, defScope s__law_lengths, [], []⟩
def d__law_codes : He.DefD := ⟨("_law_codes", none), "_law_codes", "_law_codes", defArgs s__law_codes, defBody s__law_codes, defScope s__law_codes, [], []⟩
def d__law_word : He.DefD := ⟨("_law_word", none), "_law_word", "_law_word", defArgs s__law_word, defBody s__law_word, defScope s__law_word, [], []⟩
def d__law_asked : He.DefD := ⟨("_law_asked", none), "_law_asked", "_law_asked", defArgs s__law_asked, defBody s__law_asked, defScope s__law_asked, [], []⟩
def d__law_due : He.DefD := ⟨("_law_due", none), "_law_due", "_law_due", defArgs s__law_due, defBody s__law_due, defScope s__law_due, [], []⟩
def d__law_texts : He.DefD := ⟨("_law_texts", none), "_law_texts", "_law_texts", defArgs s__law_texts, defBody s__law_texts, defScope s__law_texts, [], []⟩
def d__law_bits : He.DefD := ⟨("_law_bits", none), "_law_bits", "_law_bits", defArgs s__law_bits, defBody s__law_bits, defScope s__law_bits, [], []⟩
def d__law_row : He.DefD := ⟨("_law_row", none), "_law_row", "_law_row", defArgs s__law_row, defBody s__law_row, defScope s__law_row, [], []⟩
def d__law_read : He.DefD := ⟨("_law_read", none), "_law_read", "_law_read", defArgs s__law_read, defBody s__law_read, defScope s__law_read, [], []⟩
def d_law : He.DefD := ⟨("law", none), "law", "law", defArgs s_law, defBody s_law, defScope s_law, [], []⟩
def fn : List He.DefD := [d__wall, d_is_between, d_need_lengths, d_codes_of, d_CodeReader___init__, d_CodeReader_thing, d_is_byte, d_is_row, d_need_row, d_is_number, d_need_size, d_BitRow___init__, d_BitRow_put, d_BitRow_many, d_BitRow_row, d_BitReader___init__, d_BitReader_left, d_BitReader_place, d_BitReader_go, d_BitReader_take, d_BitReader_at_end, d__law_cell_at, d__law_mixed, d__law_is_number, d__law_lengths, d__law_codes, d__law_word, d__law_asked, d__law_due, d__law_texts, d__law_bits, d__law_row, d__law_read, d_law]
def fa : List He.Fa := [.glo "_wall", .glo "PressError", .exc "PressError", .glo "BadRow", .exc "BadRow", .glo "BadBits", .exc "BadBits", .glo "NoBits", .exc "NoBits", .glo "BadShares", .exc "BadShares", .glo "BadLengths", .exc "BadLengths", .glo "BadCode", .exc "BadCode", .glo "BadTable", .exc "BadTable", .glo "BadPieces", .exc "BadPieces", .glo "BadBody", .exc "BadBody", .glo "BadHead", .exc "BadHead", .glo "BadCheck", .exc "BadCheck", .glo "BadMark", .exc "BadMark", .glo "BadTail", .exc "BadTail", .glo "Cut", .exc "Cut", .glo "Behind", .exc "Behind", .glo "Over", .exc "Over", .glo "NoRange", .exc "NoRange", .glo "BadLetters", .exc "BadLetters", .int "MOST_THINGS" 300, .int "MOST_LENGTH" 12, .glo "is_between", .glo "need_lengths", .glo "codes_of", .glo "CodeReader", .cls "CodeReader", .noat "CodeReader" "known", .noat "CodeReader" "begun", .meth "CodeReader" "__init__", .meth "CodeReader" "thing", .mkr "CodeReader", .int "MOST_BYTE" 255, .glo "is_byte", .glo "is_row", .glo "need_row", .int "BYTE" 8, .int "MOST_SIZE" 24, .glo "is_number", .glo "need_size", .glo "BitRow", .cls "BitRow", .noat "BitRow" "full", .noat "BitRow" "part", .noat "BitRow" "filled", .meth "BitRow" "__init__", .meth "BitRow" "put", .meth "BitRow" "many", .meth "BitRow" "row", .mkr "BitRow", .glo "BitReader", .cls "BitReader", .noat "BitReader" "source", .noat "BitReader" "taken", .meth "BitReader" "__init__", .meth "BitReader" "left", .meth "BitReader" "place", .meth "BitReader" "go", .meth "BitReader" "take", .meth "BitReader" "at_end", .mkr "BitReader", .glo "_law_cell_at", .glo "_law_mixed", .glo "_law_is_number", .glo "_law_lengths", .glo "_law_codes", .glo "_law_word", .glo "_law_asked", .glo "_law_due", .glo "_law_texts", .glo "_law_bits", .glo "_law_row", .glo "_law_read", .glo "law", .free "all", .free "bool", .free "divmod", .free "enumerate", .free "int", .free "isinstance", .free "len", .free "list", .free "range", .free "sorted", .free "str", .free "tuple", .free "ValueError"]
abbrev R : PySem.W.OpenRow := PySem.W.OpenLaw.row PySem.Challenge.rw_balepress_k10_codes_read
def exs : List (PySem.W.Frag → Bool) := [fun K => (He.eqO (PySem.W.findIn K (.ref (He.ga K "BadLengths")) "__getattribute__") (some (some (.builtin "BaseException.__getattribute__"))) && (He.eqO (PySem.W.findIn K (.ref (He.ga K "BadLengths")) "__getattr__") (some none) && (decide (PySem.W.subIn K (.ref (He.ga K "BadLengths")) (.type "BaseException") = some true) && (PySem.W.hasDictIn K (He.ga K "BadLengths") && (He.eqO (PySem.W.findIn K (.ref (He.ga K "BadLengths")) "__class__") (some (some (.builtin "object.__class__"))) && (He.eqO (PySem.W.specialIn K (.builtin "object.__class__") "__get__") (some (some (.builtin "getset_descriptor.__get__"))) && (decide (PySem.W.takesIn K (.builtin "object.__class__") = some true) && (decide (PySem.W.mroIn K (He.ga K "BadLengths") (.type "object") = some true))))))))),
  fun K => decide (PySem.W.exmOne K (.ref (He.ga K "BadLengths")) (.ref (He.ga K "PressError")) = some true),
  fun K => decide (PySem.W.kitOne K (.ref (He.ga K "BadLengths")) (.ref (He.ga K "BadBits")) = some false),
  fun K => decide (PySem.W.kitOne K (.ref (He.ga K "BadLengths")) (.ref (He.ga K "BadBody")) = some false),
  fun K => decide (PySem.W.kitOne K (.ref (He.ga K "BadLengths")) (.ref (He.ga K "BadCheck")) = some false),
  fun K => decide (PySem.W.kitOne K (.ref (He.ga K "BadLengths")) (.ref (He.ga K "BadLengths")) = some true),
  fun K => decide (PySem.W.kitOne K (.ref (He.ga K "BadLengths")) (.ref (He.ga K "BadHead")) = some false),
  fun K => decide (PySem.W.kitOne K (.ref (He.ga K "BadLengths")) (.ref (He.ga K "BadShares")) = some false),
  fun K => decide (PySem.W.kitOne K (.ref (He.ga K "BadLengths")) (.ref (He.ga K "BadLetters")) = some false),
  fun K => decide (PySem.W.kitOne K (.ref (He.ga K "BadLengths")) (.ref (He.ga K "BadMark")) = some false),
  fun K => decide (PySem.W.kitOne K (.ref (He.ga K "BadLengths")) (.ref (He.ga K "BadPieces")) = some false),
  fun K => decide (PySem.W.kitOne K (.ref (He.ga K "BadLengths")) (.ref (He.ga K "BadRow")) = some false),
  fun K => decide (PySem.W.kitOne K (.ref (He.ga K "BadLengths")) (.ref (He.ga K "BadTable")) = some false),
  fun K => decide (PySem.W.kitOne K (.ref (He.ga K "BadLengths")) (.ref (He.ga K "BadTail")) = some false),
  fun K => decide (PySem.W.kitOne K (.ref (He.ga K "BadLengths")) (.ref (He.ga K "Behind")) = some false),
  fun K => decide (PySem.W.kitOne K (.ref (He.ga K "BadLengths")) (.ref (He.ga K "Cut")) = some false),
  fun K => decide (PySem.W.kitOne K (.ref (He.ga K "BadLengths")) (.ref (He.ga K "NoRange")) = some false),
  fun K => decide (PySem.W.kitOne K (.ref (He.ga K "BadLengths")) (.ref (He.ga K "Over")) = some false),
  fun K => decide (PySem.W.kitOne K (.ref (He.ga K "BadLengths")) (.ref (He.ga K "BadCode")) = some false),
  fun K => decide (PySem.W.kitOne K (.ref (He.ga K "BadLengths")) (.ref (He.ga K "NoBits")) = some false),
  fun K => decide (PySem.W.kitOne K (.ref (He.ga K "BadLengths")) (.type "ValueError") = some true),
  fun K => (He.eqO (PySem.W.findIn K (.ref (He.ga K "BadCode")) "__getattribute__") (some (some (.builtin "BaseException.__getattribute__"))) && (He.eqO (PySem.W.findIn K (.ref (He.ga K "BadCode")) "__getattr__") (some none) && (decide (PySem.W.subIn K (.ref (He.ga K "BadCode")) (.type "BaseException") = some true) && (PySem.W.hasDictIn K (He.ga K "BadCode") && (He.eqO (PySem.W.findIn K (.ref (He.ga K "BadCode")) "__class__") (some (some (.builtin "object.__class__"))) && (He.eqO (PySem.W.specialIn K (.builtin "object.__class__") "__get__") (some (some (.builtin "getset_descriptor.__get__"))) && (decide (PySem.W.takesIn K (.builtin "object.__class__") = some true) && (decide (PySem.W.mroIn K (He.ga K "BadCode") (.type "object") = some true))))))))),
  fun K => decide (PySem.W.exmOne K (.ref (He.ga K "BadCode")) (.ref (He.ga K "PressError")) = some true),
  fun K => decide (PySem.W.kitOne K (.ref (He.ga K "BadCode")) (.ref (He.ga K "BadBits")) = some false),
  fun K => decide (PySem.W.kitOne K (.ref (He.ga K "BadCode")) (.ref (He.ga K "BadBody")) = some false),
  fun K => decide (PySem.W.kitOne K (.ref (He.ga K "BadCode")) (.ref (He.ga K "BadCheck")) = some false),
  fun K => decide (PySem.W.kitOne K (.ref (He.ga K "BadCode")) (.ref (He.ga K "BadLengths")) = some false),
  fun K => decide (PySem.W.kitOne K (.ref (He.ga K "BadCode")) (.ref (He.ga K "BadHead")) = some false),
  fun K => decide (PySem.W.kitOne K (.ref (He.ga K "BadCode")) (.ref (He.ga K "BadShares")) = some false),
  fun K => decide (PySem.W.kitOne K (.ref (He.ga K "BadCode")) (.ref (He.ga K "BadLetters")) = some false),
  fun K => decide (PySem.W.kitOne K (.ref (He.ga K "BadCode")) (.ref (He.ga K "BadMark")) = some false),
  fun K => decide (PySem.W.kitOne K (.ref (He.ga K "BadCode")) (.ref (He.ga K "BadPieces")) = some false),
  fun K => decide (PySem.W.kitOne K (.ref (He.ga K "BadCode")) (.ref (He.ga K "BadRow")) = some false),
  fun K => decide (PySem.W.kitOne K (.ref (He.ga K "BadCode")) (.ref (He.ga K "BadTable")) = some false),
  fun K => decide (PySem.W.kitOne K (.ref (He.ga K "BadCode")) (.ref (He.ga K "BadTail")) = some false),
  fun K => decide (PySem.W.kitOne K (.ref (He.ga K "BadCode")) (.ref (He.ga K "Behind")) = some false),
  fun K => decide (PySem.W.kitOne K (.ref (He.ga K "BadCode")) (.ref (He.ga K "Cut")) = some false),
  fun K => decide (PySem.W.kitOne K (.ref (He.ga K "BadCode")) (.ref (He.ga K "NoRange")) = some false),
  fun K => decide (PySem.W.kitOne K (.ref (He.ga K "BadCode")) (.ref (He.ga K "Over")) = some false),
  fun K => decide (PySem.W.kitOne K (.ref (He.ga K "BadCode")) (.ref (He.ga K "BadCode")) = some true),
  fun K => decide (PySem.W.kitOne K (.ref (He.ga K "BadCode")) (.ref (He.ga K "NoBits")) = some false),
  fun K => decide (PySem.W.kitOne K (.ref (He.ga K "BadCode")) (.type "ValueError") = some true),
  fun K => (He.eqO (PySem.W.findIn K (.ref (He.ga K "NoBits")) "__getattribute__") (some (some (.builtin "BaseException.__getattribute__"))) && (He.eqO (PySem.W.findIn K (.ref (He.ga K "NoBits")) "__getattr__") (some none) && (decide (PySem.W.subIn K (.ref (He.ga K "NoBits")) (.type "BaseException") = some true) && (PySem.W.hasDictIn K (He.ga K "NoBits") && (He.eqO (PySem.W.findIn K (.ref (He.ga K "NoBits")) "__class__") (some (some (.builtin "object.__class__"))) && (He.eqO (PySem.W.specialIn K (.builtin "object.__class__") "__get__") (some (some (.builtin "getset_descriptor.__get__"))) && (decide (PySem.W.takesIn K (.builtin "object.__class__") = some true) && (decide (PySem.W.mroIn K (He.ga K "NoBits") (.type "object") = some true))))))))),
  fun K => decide (PySem.W.exmOne K (.ref (He.ga K "NoBits")) (.ref (He.ga K "PressError")) = some true),
  fun K => decide (PySem.W.kitOne K (.ref (He.ga K "NoBits")) (.ref (He.ga K "BadBits")) = some false),
  fun K => decide (PySem.W.kitOne K (.ref (He.ga K "NoBits")) (.ref (He.ga K "BadBody")) = some false),
  fun K => decide (PySem.W.kitOne K (.ref (He.ga K "NoBits")) (.ref (He.ga K "BadCheck")) = some false),
  fun K => decide (PySem.W.kitOne K (.ref (He.ga K "NoBits")) (.ref (He.ga K "BadLengths")) = some false),
  fun K => decide (PySem.W.kitOne K (.ref (He.ga K "NoBits")) (.ref (He.ga K "BadHead")) = some false),
  fun K => decide (PySem.W.kitOne K (.ref (He.ga K "NoBits")) (.ref (He.ga K "BadShares")) = some false),
  fun K => decide (PySem.W.kitOne K (.ref (He.ga K "NoBits")) (.ref (He.ga K "BadLetters")) = some false),
  fun K => decide (PySem.W.kitOne K (.ref (He.ga K "NoBits")) (.ref (He.ga K "BadMark")) = some false),
  fun K => decide (PySem.W.kitOne K (.ref (He.ga K "NoBits")) (.ref (He.ga K "BadPieces")) = some false),
  fun K => decide (PySem.W.kitOne K (.ref (He.ga K "NoBits")) (.ref (He.ga K "BadRow")) = some false),
  fun K => decide (PySem.W.kitOne K (.ref (He.ga K "NoBits")) (.ref (He.ga K "BadTable")) = some false),
  fun K => decide (PySem.W.kitOne K (.ref (He.ga K "NoBits")) (.ref (He.ga K "BadTail")) = some false),
  fun K => decide (PySem.W.kitOne K (.ref (He.ga K "NoBits")) (.ref (He.ga K "Behind")) = some false),
  fun K => decide (PySem.W.kitOne K (.ref (He.ga K "NoBits")) (.ref (He.ga K "Cut")) = some false),
  fun K => decide (PySem.W.kitOne K (.ref (He.ga K "NoBits")) (.ref (He.ga K "NoRange")) = some false),
  fun K => decide (PySem.W.kitOne K (.ref (He.ga K "NoBits")) (.ref (He.ga K "Over")) = some false),
  fun K => decide (PySem.W.kitOne K (.ref (He.ga K "NoBits")) (.ref (He.ga K "BadCode")) = some false),
  fun K => decide (PySem.W.kitOne K (.ref (He.ga K "NoBits")) (.ref (He.ga K "NoBits")) = some true),
  fun K => decide (PySem.W.kitOne K (.ref (He.ga K "NoBits")) (.type "ValueError") = some true),
  fun K => (He.eqO (PySem.W.findIn K (.ref (He.ga K "BadRow")) "__getattribute__") (some (some (.builtin "BaseException.__getattribute__"))) && (He.eqO (PySem.W.findIn K (.ref (He.ga K "BadRow")) "__getattr__") (some none) && (decide (PySem.W.subIn K (.ref (He.ga K "BadRow")) (.type "BaseException") = some true) && (PySem.W.hasDictIn K (He.ga K "BadRow") && (He.eqO (PySem.W.findIn K (.ref (He.ga K "BadRow")) "__class__") (some (some (.builtin "object.__class__"))) && (He.eqO (PySem.W.specialIn K (.builtin "object.__class__") "__get__") (some (some (.builtin "getset_descriptor.__get__"))) && (decide (PySem.W.takesIn K (.builtin "object.__class__") = some true) && (decide (PySem.W.mroIn K (He.ga K "BadRow") (.type "object") = some true))))))))),
  fun K => decide (PySem.W.exmOne K (.ref (He.ga K "BadRow")) (.ref (He.ga K "PressError")) = some true),
  fun K => decide (PySem.W.kitOne K (.ref (He.ga K "BadRow")) (.ref (He.ga K "BadBits")) = some false),
  fun K => decide (PySem.W.kitOne K (.ref (He.ga K "BadRow")) (.ref (He.ga K "BadBody")) = some false),
  fun K => decide (PySem.W.kitOne K (.ref (He.ga K "BadRow")) (.ref (He.ga K "BadCheck")) = some false),
  fun K => decide (PySem.W.kitOne K (.ref (He.ga K "BadRow")) (.ref (He.ga K "BadLengths")) = some false),
  fun K => decide (PySem.W.kitOne K (.ref (He.ga K "BadRow")) (.ref (He.ga K "BadHead")) = some false),
  fun K => decide (PySem.W.kitOne K (.ref (He.ga K "BadRow")) (.ref (He.ga K "BadShares")) = some false),
  fun K => decide (PySem.W.kitOne K (.ref (He.ga K "BadRow")) (.ref (He.ga K "BadLetters")) = some false),
  fun K => decide (PySem.W.kitOne K (.ref (He.ga K "BadRow")) (.ref (He.ga K "BadMark")) = some false),
  fun K => decide (PySem.W.kitOne K (.ref (He.ga K "BadRow")) (.ref (He.ga K "BadPieces")) = some false),
  fun K => decide (PySem.W.kitOne K (.ref (He.ga K "BadRow")) (.ref (He.ga K "BadRow")) = some true),
  fun K => decide (PySem.W.kitOne K (.ref (He.ga K "BadRow")) (.ref (He.ga K "BadTable")) = some false),
  fun K => decide (PySem.W.kitOne K (.ref (He.ga K "BadRow")) (.ref (He.ga K "BadTail")) = some false),
  fun K => decide (PySem.W.kitOne K (.ref (He.ga K "BadRow")) (.ref (He.ga K "Behind")) = some false),
  fun K => decide (PySem.W.kitOne K (.ref (He.ga K "BadRow")) (.ref (He.ga K "Cut")) = some false),
  fun K => decide (PySem.W.kitOne K (.ref (He.ga K "BadRow")) (.ref (He.ga K "NoRange")) = some false),
  fun K => decide (PySem.W.kitOne K (.ref (He.ga K "BadRow")) (.ref (He.ga K "Over")) = some false),
  fun K => decide (PySem.W.kitOne K (.ref (He.ga K "BadRow")) (.ref (He.ga K "BadCode")) = some false),
  fun K => decide (PySem.W.kitOne K (.ref (He.ga K "BadRow")) (.ref (He.ga K "NoBits")) = some false),
  fun K => decide (PySem.W.kitOne K (.ref (He.ga K "BadRow")) (.type "ValueError") = some true),
  fun K => (He.eqO (PySem.W.findIn K (.ref (He.ga K "BadBits")) "__getattribute__") (some (some (.builtin "BaseException.__getattribute__"))) && (He.eqO (PySem.W.findIn K (.ref (He.ga K "BadBits")) "__getattr__") (some none) && (decide (PySem.W.subIn K (.ref (He.ga K "BadBits")) (.type "BaseException") = some true) && (PySem.W.hasDictIn K (He.ga K "BadBits") && (He.eqO (PySem.W.findIn K (.ref (He.ga K "BadBits")) "__class__") (some (some (.builtin "object.__class__"))) && (He.eqO (PySem.W.specialIn K (.builtin "object.__class__") "__get__") (some (some (.builtin "getset_descriptor.__get__"))) && (decide (PySem.W.takesIn K (.builtin "object.__class__") = some true) && (decide (PySem.W.mroIn K (He.ga K "BadBits") (.type "object") = some true))))))))),
  fun K => decide (PySem.W.exmOne K (.ref (He.ga K "BadBits")) (.ref (He.ga K "PressError")) = some true),
  fun K => decide (PySem.W.kitOne K (.ref (He.ga K "BadBits")) (.ref (He.ga K "BadBits")) = some true),
  fun K => decide (PySem.W.kitOne K (.ref (He.ga K "BadBits")) (.ref (He.ga K "BadBody")) = some false),
  fun K => decide (PySem.W.kitOne K (.ref (He.ga K "BadBits")) (.ref (He.ga K "BadCheck")) = some false),
  fun K => decide (PySem.W.kitOne K (.ref (He.ga K "BadBits")) (.ref (He.ga K "BadLengths")) = some false),
  fun K => decide (PySem.W.kitOne K (.ref (He.ga K "BadBits")) (.ref (He.ga K "BadHead")) = some false),
  fun K => decide (PySem.W.kitOne K (.ref (He.ga K "BadBits")) (.ref (He.ga K "BadShares")) = some false),
  fun K => decide (PySem.W.kitOne K (.ref (He.ga K "BadBits")) (.ref (He.ga K "BadLetters")) = some false),
  fun K => decide (PySem.W.kitOne K (.ref (He.ga K "BadBits")) (.ref (He.ga K "BadMark")) = some false),
  fun K => decide (PySem.W.kitOne K (.ref (He.ga K "BadBits")) (.ref (He.ga K "BadPieces")) = some false),
  fun K => decide (PySem.W.kitOne K (.ref (He.ga K "BadBits")) (.ref (He.ga K "BadRow")) = some false),
  fun K => decide (PySem.W.kitOne K (.ref (He.ga K "BadBits")) (.ref (He.ga K "BadTable")) = some false),
  fun K => decide (PySem.W.kitOne K (.ref (He.ga K "BadBits")) (.ref (He.ga K "BadTail")) = some false),
  fun K => decide (PySem.W.kitOne K (.ref (He.ga K "BadBits")) (.ref (He.ga K "Behind")) = some false),
  fun K => decide (PySem.W.kitOne K (.ref (He.ga K "BadBits")) (.ref (He.ga K "Cut")) = some false),
  fun K => decide (PySem.W.kitOne K (.ref (He.ga K "BadBits")) (.ref (He.ga K "NoRange")) = some false),
  fun K => decide (PySem.W.kitOne K (.ref (He.ga K "BadBits")) (.ref (He.ga K "Over")) = some false),
  fun K => decide (PySem.W.kitOne K (.ref (He.ga K "BadBits")) (.ref (He.ga K "BadCode")) = some false),
  fun K => decide (PySem.W.kitOne K (.ref (He.ga K "BadBits")) (.ref (He.ga K "NoBits")) = some false),
  fun K => decide (PySem.W.kitOne K (.ref (He.ga K "BadBits")) (.type "ValueError") = some true)]
def ex (K : PySem.W.Frag) : Bool := exs.all fun e => e K
theorem ex_at {K : PySem.W.Frag} (h : ex K = true) (i : Nat) {e : PySem.W.Frag → Bool} (he : exs[i]? = some e := by rfl) : e K = true := List.all_eq_true.mp h e (List.mem_of_getElem? he)
abbrev hk : PySem.W.Hook := He.hookX 6 fa fn [] [("codes_of", none)] ex
def ob (s : PySem.W.SharedT) : He.AlX := He.obsX 6 fa fn [] [("codes_of", none)] ex (HandSHeadRun.getT s)
theorem ob_eq (s : PySem.W.SharedT) : ob s = hk.obs s.abs := He.obsX_eq (HandSHeadRun.getT_eq s)
def loose0 : List PySem.Str := ["_wall", "PressError", "ValueError", "BadRow", "BadBits", "NoBits", "BadShares", "BadLengths", "BadCode", "BadTable", "BadPieces", "BadBody", "BadHead", "BadCheck", "BadMark", "BadTail", "Cut", "Behind", "Over", "NoRange", "BadLetters", "MOST_THINGS", "MOST_LENGTH", "is_between", "need_lengths", "codes_of", "CodeReader", "MOST_BYTE", "is_byte", "is_row"]
def loose1 : List PySem.Str := ["need_row", "BYTE", "MOST_SIZE", "is_number", "need_size", "BitRow", "BitReader", "_law_cell_at", "_law_mixed", "_law_is_number", "_law_lengths", "_law_codes", "_law_word", "_law_asked", "_law_due", "_law_texts", "_law_bits", "_law_row", "_law_read"]
abbrev loose : List PySem.Str := loose0 ++ loose1
theorem run (w : World) : HandSHeadRun.RunEq R (PySem.W.view R.prog [54]) hk ob 40000 loose w := by
  intro os
  kernel_rfl
end L2.BH
namespace L2.BW
open PySem PySem.Spec PyProof.Rows L2.BP L2.BR L2.BH L2H
structure Tx (K : PySem.W.Frag) (mg : Str → Option Value) : Prop where
  g__wall : mg "_wall" = some (.ref (He.ga K "_wall"))
  g_PressError : mg "PressError" = some (.ref (He.ga K "PressError"))
  x_PressError : PySem.W.excIn K (He.ga K "PressError") He.veBase "ValueError.__new__" = true ∧ PySem.W.keepIn K (.ref (He.ga K "PressError")) = true ∧ PySem.W.subIn K (.ref (He.ga K "PressError")) (.type "BaseException") = some true ∧ PySem.W.typeIn K (.ref (He.ga K "PressError")) = some (.type "type")
  g_BadRow : mg "BadRow" = some (.ref (He.ga K "BadRow"))
  x_BadRow : PySem.W.excIn K (He.ga K "BadRow") He.veBase "ValueError.__new__" = true ∧ PySem.W.keepIn K (.ref (He.ga K "BadRow")) = true ∧ PySem.W.subIn K (.ref (He.ga K "BadRow")) (.type "BaseException") = some true ∧ PySem.W.typeIn K (.ref (He.ga K "BadRow")) = some (.type "type")
  g_BadBits : mg "BadBits" = some (.ref (He.ga K "BadBits"))
  x_BadBits : PySem.W.excIn K (He.ga K "BadBits") He.veBase "ValueError.__new__" = true ∧ PySem.W.keepIn K (.ref (He.ga K "BadBits")) = true ∧ PySem.W.subIn K (.ref (He.ga K "BadBits")) (.type "BaseException") = some true ∧ PySem.W.typeIn K (.ref (He.ga K "BadBits")) = some (.type "type")
  g_NoBits : mg "NoBits" = some (.ref (He.ga K "NoBits"))
  x_NoBits : PySem.W.excIn K (He.ga K "NoBits") He.veBase "ValueError.__new__" = true ∧ PySem.W.keepIn K (.ref (He.ga K "NoBits")) = true ∧ PySem.W.subIn K (.ref (He.ga K "NoBits")) (.type "BaseException") = some true ∧ PySem.W.typeIn K (.ref (He.ga K "NoBits")) = some (.type "type")
  g_BadShares : mg "BadShares" = some (.ref (He.ga K "BadShares"))
  x_BadShares : PySem.W.excIn K (He.ga K "BadShares") He.veBase "ValueError.__new__" = true ∧ PySem.W.keepIn K (.ref (He.ga K "BadShares")) = true ∧ PySem.W.subIn K (.ref (He.ga K "BadShares")) (.type "BaseException") = some true ∧ PySem.W.typeIn K (.ref (He.ga K "BadShares")) = some (.type "type")
  g_BadLengths : mg "BadLengths" = some (.ref (He.ga K "BadLengths"))
  x_BadLengths : PySem.W.excIn K (He.ga K "BadLengths") He.veBase "ValueError.__new__" = true ∧ PySem.W.keepIn K (.ref (He.ga K "BadLengths")) = true ∧ PySem.W.subIn K (.ref (He.ga K "BadLengths")) (.type "BaseException") = some true ∧ PySem.W.typeIn K (.ref (He.ga K "BadLengths")) = some (.type "type")
  g_BadCode : mg "BadCode" = some (.ref (He.ga K "BadCode"))
  x_BadCode : PySem.W.excIn K (He.ga K "BadCode") He.veBase "ValueError.__new__" = true ∧ PySem.W.keepIn K (.ref (He.ga K "BadCode")) = true ∧ PySem.W.subIn K (.ref (He.ga K "BadCode")) (.type "BaseException") = some true ∧ PySem.W.typeIn K (.ref (He.ga K "BadCode")) = some (.type "type")
  g_BadTable : mg "BadTable" = some (.ref (He.ga K "BadTable"))
  x_BadTable : PySem.W.excIn K (He.ga K "BadTable") He.veBase "ValueError.__new__" = true ∧ PySem.W.keepIn K (.ref (He.ga K "BadTable")) = true ∧ PySem.W.subIn K (.ref (He.ga K "BadTable")) (.type "BaseException") = some true ∧ PySem.W.typeIn K (.ref (He.ga K "BadTable")) = some (.type "type")
  g_BadPieces : mg "BadPieces" = some (.ref (He.ga K "BadPieces"))
  x_BadPieces : PySem.W.excIn K (He.ga K "BadPieces") He.veBase "ValueError.__new__" = true ∧ PySem.W.keepIn K (.ref (He.ga K "BadPieces")) = true ∧ PySem.W.subIn K (.ref (He.ga K "BadPieces")) (.type "BaseException") = some true ∧ PySem.W.typeIn K (.ref (He.ga K "BadPieces")) = some (.type "type")
  g_BadBody : mg "BadBody" = some (.ref (He.ga K "BadBody"))
  x_BadBody : PySem.W.excIn K (He.ga K "BadBody") He.veBase "ValueError.__new__" = true ∧ PySem.W.keepIn K (.ref (He.ga K "BadBody")) = true ∧ PySem.W.subIn K (.ref (He.ga K "BadBody")) (.type "BaseException") = some true ∧ PySem.W.typeIn K (.ref (He.ga K "BadBody")) = some (.type "type")
  g_BadHead : mg "BadHead" = some (.ref (He.ga K "BadHead"))
  x_BadHead : PySem.W.excIn K (He.ga K "BadHead") He.veBase "ValueError.__new__" = true ∧ PySem.W.keepIn K (.ref (He.ga K "BadHead")) = true ∧ PySem.W.subIn K (.ref (He.ga K "BadHead")) (.type "BaseException") = some true ∧ PySem.W.typeIn K (.ref (He.ga K "BadHead")) = some (.type "type")
  g_BadCheck : mg "BadCheck" = some (.ref (He.ga K "BadCheck"))
  x_BadCheck : PySem.W.excIn K (He.ga K "BadCheck") He.veBase "ValueError.__new__" = true ∧ PySem.W.keepIn K (.ref (He.ga K "BadCheck")) = true ∧ PySem.W.subIn K (.ref (He.ga K "BadCheck")) (.type "BaseException") = some true ∧ PySem.W.typeIn K (.ref (He.ga K "BadCheck")) = some (.type "type")
  g_BadMark : mg "BadMark" = some (.ref (He.ga K "BadMark"))
  x_BadMark : PySem.W.excIn K (He.ga K "BadMark") He.veBase "ValueError.__new__" = true ∧ PySem.W.keepIn K (.ref (He.ga K "BadMark")) = true ∧ PySem.W.subIn K (.ref (He.ga K "BadMark")) (.type "BaseException") = some true ∧ PySem.W.typeIn K (.ref (He.ga K "BadMark")) = some (.type "type")
  g_BadTail : mg "BadTail" = some (.ref (He.ga K "BadTail"))
  x_BadTail : PySem.W.excIn K (He.ga K "BadTail") He.veBase "ValueError.__new__" = true ∧ PySem.W.keepIn K (.ref (He.ga K "BadTail")) = true ∧ PySem.W.subIn K (.ref (He.ga K "BadTail")) (.type "BaseException") = some true ∧ PySem.W.typeIn K (.ref (He.ga K "BadTail")) = some (.type "type")
  g_Cut : mg "Cut" = some (.ref (He.ga K "Cut"))
  x_Cut : PySem.W.excIn K (He.ga K "Cut") He.veBase "ValueError.__new__" = true ∧ PySem.W.keepIn K (.ref (He.ga K "Cut")) = true ∧ PySem.W.subIn K (.ref (He.ga K "Cut")) (.type "BaseException") = some true ∧ PySem.W.typeIn K (.ref (He.ga K "Cut")) = some (.type "type")
  g_Behind : mg "Behind" = some (.ref (He.ga K "Behind"))
  x_Behind : PySem.W.excIn K (He.ga K "Behind") He.veBase "ValueError.__new__" = true ∧ PySem.W.keepIn K (.ref (He.ga K "Behind")) = true ∧ PySem.W.subIn K (.ref (He.ga K "Behind")) (.type "BaseException") = some true ∧ PySem.W.typeIn K (.ref (He.ga K "Behind")) = some (.type "type")
  g_Over : mg "Over" = some (.ref (He.ga K "Over"))
  x_Over : PySem.W.excIn K (He.ga K "Over") He.veBase "ValueError.__new__" = true ∧ PySem.W.keepIn K (.ref (He.ga K "Over")) = true ∧ PySem.W.subIn K (.ref (He.ga K "Over")) (.type "BaseException") = some true ∧ PySem.W.typeIn K (.ref (He.ga K "Over")) = some (.type "type")
  g_NoRange : mg "NoRange" = some (.ref (He.ga K "NoRange"))
  x_NoRange : PySem.W.excIn K (He.ga K "NoRange") He.veBase "ValueError.__new__" = true ∧ PySem.W.keepIn K (.ref (He.ga K "NoRange")) = true ∧ PySem.W.subIn K (.ref (He.ga K "NoRange")) (.type "BaseException") = some true ∧ PySem.W.typeIn K (.ref (He.ga K "NoRange")) = some (.type "type")
  g_BadLetters : mg "BadLetters" = some (.ref (He.ga K "BadLetters"))
  x_BadLetters : PySem.W.excIn K (He.ga K "BadLetters") He.veBase "ValueError.__new__" = true ∧ PySem.W.keepIn K (.ref (He.ga K "BadLetters")) = true ∧ PySem.W.subIn K (.ref (He.ga K "BadLetters")) (.type "BaseException") = some true ∧ PySem.W.typeIn K (.ref (He.ga K "BadLetters")) = some (.type "type")
  g_MOST_THINGS : ∃ t, mg "MOST_THINGS" = some (.int 300 t)
  g_MOST_LENGTH : ∃ t, mg "MOST_LENGTH" = some (.int 12 t)
  g_is_between : mg "is_between" = some (.ref (He.ga K "is_between"))
  g_need_lengths : mg "need_lengths" = some (.ref (He.ga K "need_lengths"))
  g_codes_of : mg "codes_of" = some (.ref (He.ga K "codes_of"))
  g_CodeReader : mg "CodeReader" = some (.ref (He.ga K "CodeReader"))
  c_CodeReader : Cls K (He.ga K "CodeReader")
  n_CodeReader_known : NoAttr K (He.ga K "CodeReader") "known"
  n_CodeReader_begun : NoAttr K (He.ga K "CodeReader") "begun"
  m_CodeReader___init__ : Meth K (He.ga K "CodeReader") "__init__" (He.ma K (He.ga K "CodeReader") "__init__")
  m_CodeReader_thing : Meth K (He.ga K "CodeReader") "thing" (He.ma K (He.ga K "CodeReader") "thing")
  k_CodeReader : Mk K (He.ga K "CodeReader") (He.ma K (He.ga K "CodeReader") "__init__")
  g_MOST_BYTE : ∃ t, mg "MOST_BYTE" = some (.int 255 t)
  g_is_byte : mg "is_byte" = some (.ref (He.ga K "is_byte"))
  g_is_row : mg "is_row" = some (.ref (He.ga K "is_row"))
  g_need_row : mg "need_row" = some (.ref (He.ga K "need_row"))
  g_BYTE : ∃ t, mg "BYTE" = some (.int 8 t)
  g_MOST_SIZE : ∃ t, mg "MOST_SIZE" = some (.int 24 t)
  g_is_number : mg "is_number" = some (.ref (He.ga K "is_number"))
  g_need_size : mg "need_size" = some (.ref (He.ga K "need_size"))
  g_BitRow : mg "BitRow" = some (.ref (He.ga K "BitRow"))
  c_BitRow : Cls K (He.ga K "BitRow")
  n_BitRow_full : NoAttr K (He.ga K "BitRow") "full"
  n_BitRow_part : NoAttr K (He.ga K "BitRow") "part"
  n_BitRow_filled : NoAttr K (He.ga K "BitRow") "filled"
  m_BitRow___init__ : Meth K (He.ga K "BitRow") "__init__" (He.ma K (He.ga K "BitRow") "__init__")
  m_BitRow_put : Meth K (He.ga K "BitRow") "put" (He.ma K (He.ga K "BitRow") "put")
  m_BitRow_many : Meth K (He.ga K "BitRow") "many" (He.ma K (He.ga K "BitRow") "many")
  m_BitRow_row : Meth K (He.ga K "BitRow") "row" (He.ma K (He.ga K "BitRow") "row")
  k_BitRow : Mk K (He.ga K "BitRow") (He.ma K (He.ga K "BitRow") "__init__")
  g_BitReader : mg "BitReader" = some (.ref (He.ga K "BitReader"))
  c_BitReader : Cls K (He.ga K "BitReader")
  n_BitReader_source : NoAttr K (He.ga K "BitReader") "source"
  n_BitReader_taken : NoAttr K (He.ga K "BitReader") "taken"
  m_BitReader___init__ : Meth K (He.ga K "BitReader") "__init__" (He.ma K (He.ga K "BitReader") "__init__")
  m_BitReader_left : Meth K (He.ga K "BitReader") "left" (He.ma K (He.ga K "BitReader") "left")
  m_BitReader_place : Meth K (He.ga K "BitReader") "place" (He.ma K (He.ga K "BitReader") "place")
  m_BitReader_go : Meth K (He.ga K "BitReader") "go" (He.ma K (He.ga K "BitReader") "go")
  m_BitReader_take : Meth K (He.ga K "BitReader") "take" (He.ma K (He.ga K "BitReader") "take")
  m_BitReader_at_end : Meth K (He.ga K "BitReader") "at_end" (He.ma K (He.ga K "BitReader") "at_end")
  k_BitReader : Mk K (He.ga K "BitReader") (He.ma K (He.ga K "BitReader") "__init__")
  g__law_cell_at : mg "_law_cell_at" = some (.ref (He.ga K "_law_cell_at"))
  g__law_mixed : mg "_law_mixed" = some (.ref (He.ga K "_law_mixed"))
  g__law_is_number : mg "_law_is_number" = some (.ref (He.ga K "_law_is_number"))
  g__law_lengths : mg "_law_lengths" = some (.ref (He.ga K "_law_lengths"))
  g__law_codes : mg "_law_codes" = some (.ref (He.ga K "_law_codes"))
  g__law_word : mg "_law_word" = some (.ref (He.ga K "_law_word"))
  g__law_asked : mg "_law_asked" = some (.ref (He.ga K "_law_asked"))
  g__law_due : mg "_law_due" = some (.ref (He.ga K "_law_due"))
  g__law_texts : mg "_law_texts" = some (.ref (He.ga K "_law_texts"))
  g__law_bits : mg "_law_bits" = some (.ref (He.ga K "_law_bits"))
  g__law_row : mg "_law_row" = some (.ref (He.ga K "_law_row"))
  g__law_read : mg "_law_read" = some (.ref (He.ga K "_law_read"))
  g_law : mg "law" = some (.ref (He.ga K "law"))
  f_all : mg "all" = none
  f_bool : mg "bool" = none
  f_divmod : mg "divmod" = none
  f_enumerate : mg "enumerate" = none
  f_int : mg "int" = none
  f_isinstance : mg "isinstance" = none
  f_len : mg "len" = none
  f_list : mg "list" = none
  f_range : mg "range" = none
  f_sorted : mg "sorted" = none
  f_str : mg "str" = none
  f_tuple : mg "tuple" = none
  f_ValueError : mg "ValueError" = none
  e_BadLengths : L2.ExcC K (He.ga K "BadLengths")
  y_BadLengths_PressError : PySem.W.exmOne K (.ref (He.ga K "BadLengths")) (.ref (He.ga K "PressError")) = some true
  s_BadLengths_BadBits : PySem.W.kitOne K (.ref (He.ga K "BadLengths")) (.ref (He.ga K "BadBits")) = some false
  s_BadLengths_BadBody : PySem.W.kitOne K (.ref (He.ga K "BadLengths")) (.ref (He.ga K "BadBody")) = some false
  s_BadLengths_BadCheck : PySem.W.kitOne K (.ref (He.ga K "BadLengths")) (.ref (He.ga K "BadCheck")) = some false
  s_BadLengths_BadLengths : PySem.W.kitOne K (.ref (He.ga K "BadLengths")) (.ref (He.ga K "BadLengths")) = some true
  s_BadLengths_BadHead : PySem.W.kitOne K (.ref (He.ga K "BadLengths")) (.ref (He.ga K "BadHead")) = some false
  s_BadLengths_BadShares : PySem.W.kitOne K (.ref (He.ga K "BadLengths")) (.ref (He.ga K "BadShares")) = some false
  s_BadLengths_BadLetters : PySem.W.kitOne K (.ref (He.ga K "BadLengths")) (.ref (He.ga K "BadLetters")) = some false
  s_BadLengths_BadMark : PySem.W.kitOne K (.ref (He.ga K "BadLengths")) (.ref (He.ga K "BadMark")) = some false
  s_BadLengths_BadPieces : PySem.W.kitOne K (.ref (He.ga K "BadLengths")) (.ref (He.ga K "BadPieces")) = some false
  s_BadLengths_BadRow : PySem.W.kitOne K (.ref (He.ga K "BadLengths")) (.ref (He.ga K "BadRow")) = some false
  s_BadLengths_BadTable : PySem.W.kitOne K (.ref (He.ga K "BadLengths")) (.ref (He.ga K "BadTable")) = some false
  s_BadLengths_BadTail : PySem.W.kitOne K (.ref (He.ga K "BadLengths")) (.ref (He.ga K "BadTail")) = some false
  s_BadLengths_Behind : PySem.W.kitOne K (.ref (He.ga K "BadLengths")) (.ref (He.ga K "Behind")) = some false
  s_BadLengths_Cut : PySem.W.kitOne K (.ref (He.ga K "BadLengths")) (.ref (He.ga K "Cut")) = some false
  s_BadLengths_NoRange : PySem.W.kitOne K (.ref (He.ga K "BadLengths")) (.ref (He.ga K "NoRange")) = some false
  s_BadLengths_Over : PySem.W.kitOne K (.ref (He.ga K "BadLengths")) (.ref (He.ga K "Over")) = some false
  s_BadLengths_BadCode : PySem.W.kitOne K (.ref (He.ga K "BadLengths")) (.ref (He.ga K "BadCode")) = some false
  s_BadLengths_NoBits : PySem.W.kitOne K (.ref (He.ga K "BadLengths")) (.ref (He.ga K "NoBits")) = some false
  v_BadLengths_ValueError : PySem.W.kitOne K (.ref (He.ga K "BadLengths")) (.type "ValueError") = some true
  e_BadCode : L2.ExcC K (He.ga K "BadCode")
  y_BadCode_PressError : PySem.W.exmOne K (.ref (He.ga K "BadCode")) (.ref (He.ga K "PressError")) = some true
  s_BadCode_BadBits : PySem.W.kitOne K (.ref (He.ga K "BadCode")) (.ref (He.ga K "BadBits")) = some false
  s_BadCode_BadBody : PySem.W.kitOne K (.ref (He.ga K "BadCode")) (.ref (He.ga K "BadBody")) = some false
  s_BadCode_BadCheck : PySem.W.kitOne K (.ref (He.ga K "BadCode")) (.ref (He.ga K "BadCheck")) = some false
  s_BadCode_BadLengths : PySem.W.kitOne K (.ref (He.ga K "BadCode")) (.ref (He.ga K "BadLengths")) = some false
  s_BadCode_BadHead : PySem.W.kitOne K (.ref (He.ga K "BadCode")) (.ref (He.ga K "BadHead")) = some false
  s_BadCode_BadShares : PySem.W.kitOne K (.ref (He.ga K "BadCode")) (.ref (He.ga K "BadShares")) = some false
  s_BadCode_BadLetters : PySem.W.kitOne K (.ref (He.ga K "BadCode")) (.ref (He.ga K "BadLetters")) = some false
  s_BadCode_BadMark : PySem.W.kitOne K (.ref (He.ga K "BadCode")) (.ref (He.ga K "BadMark")) = some false
  s_BadCode_BadPieces : PySem.W.kitOne K (.ref (He.ga K "BadCode")) (.ref (He.ga K "BadPieces")) = some false
  s_BadCode_BadRow : PySem.W.kitOne K (.ref (He.ga K "BadCode")) (.ref (He.ga K "BadRow")) = some false
  s_BadCode_BadTable : PySem.W.kitOne K (.ref (He.ga K "BadCode")) (.ref (He.ga K "BadTable")) = some false
  s_BadCode_BadTail : PySem.W.kitOne K (.ref (He.ga K "BadCode")) (.ref (He.ga K "BadTail")) = some false
  s_BadCode_Behind : PySem.W.kitOne K (.ref (He.ga K "BadCode")) (.ref (He.ga K "Behind")) = some false
  s_BadCode_Cut : PySem.W.kitOne K (.ref (He.ga K "BadCode")) (.ref (He.ga K "Cut")) = some false
  s_BadCode_NoRange : PySem.W.kitOne K (.ref (He.ga K "BadCode")) (.ref (He.ga K "NoRange")) = some false
  s_BadCode_Over : PySem.W.kitOne K (.ref (He.ga K "BadCode")) (.ref (He.ga K "Over")) = some false
  s_BadCode_BadCode : PySem.W.kitOne K (.ref (He.ga K "BadCode")) (.ref (He.ga K "BadCode")) = some true
  s_BadCode_NoBits : PySem.W.kitOne K (.ref (He.ga K "BadCode")) (.ref (He.ga K "NoBits")) = some false
  v_BadCode_ValueError : PySem.W.kitOne K (.ref (He.ga K "BadCode")) (.type "ValueError") = some true
  e_NoBits : L2.ExcC K (He.ga K "NoBits")
  y_NoBits_PressError : PySem.W.exmOne K (.ref (He.ga K "NoBits")) (.ref (He.ga K "PressError")) = some true
  s_NoBits_BadBits : PySem.W.kitOne K (.ref (He.ga K "NoBits")) (.ref (He.ga K "BadBits")) = some false
  s_NoBits_BadBody : PySem.W.kitOne K (.ref (He.ga K "NoBits")) (.ref (He.ga K "BadBody")) = some false
  s_NoBits_BadCheck : PySem.W.kitOne K (.ref (He.ga K "NoBits")) (.ref (He.ga K "BadCheck")) = some false
  s_NoBits_BadLengths : PySem.W.kitOne K (.ref (He.ga K "NoBits")) (.ref (He.ga K "BadLengths")) = some false
  s_NoBits_BadHead : PySem.W.kitOne K (.ref (He.ga K "NoBits")) (.ref (He.ga K "BadHead")) = some false
  s_NoBits_BadShares : PySem.W.kitOne K (.ref (He.ga K "NoBits")) (.ref (He.ga K "BadShares")) = some false
  s_NoBits_BadLetters : PySem.W.kitOne K (.ref (He.ga K "NoBits")) (.ref (He.ga K "BadLetters")) = some false
  s_NoBits_BadMark : PySem.W.kitOne K (.ref (He.ga K "NoBits")) (.ref (He.ga K "BadMark")) = some false
  s_NoBits_BadPieces : PySem.W.kitOne K (.ref (He.ga K "NoBits")) (.ref (He.ga K "BadPieces")) = some false
  s_NoBits_BadRow : PySem.W.kitOne K (.ref (He.ga K "NoBits")) (.ref (He.ga K "BadRow")) = some false
  s_NoBits_BadTable : PySem.W.kitOne K (.ref (He.ga K "NoBits")) (.ref (He.ga K "BadTable")) = some false
  s_NoBits_BadTail : PySem.W.kitOne K (.ref (He.ga K "NoBits")) (.ref (He.ga K "BadTail")) = some false
  s_NoBits_Behind : PySem.W.kitOne K (.ref (He.ga K "NoBits")) (.ref (He.ga K "Behind")) = some false
  s_NoBits_Cut : PySem.W.kitOne K (.ref (He.ga K "NoBits")) (.ref (He.ga K "Cut")) = some false
  s_NoBits_NoRange : PySem.W.kitOne K (.ref (He.ga K "NoBits")) (.ref (He.ga K "NoRange")) = some false
  s_NoBits_Over : PySem.W.kitOne K (.ref (He.ga K "NoBits")) (.ref (He.ga K "Over")) = some false
  s_NoBits_BadCode : PySem.W.kitOne K (.ref (He.ga K "NoBits")) (.ref (He.ga K "BadCode")) = some false
  s_NoBits_NoBits : PySem.W.kitOne K (.ref (He.ga K "NoBits")) (.ref (He.ga K "NoBits")) = some true
  v_NoBits_ValueError : PySem.W.kitOne K (.ref (He.ga K "NoBits")) (.type "ValueError") = some true
  e_BadRow : L2.ExcC K (He.ga K "BadRow")
  y_BadRow_PressError : PySem.W.exmOne K (.ref (He.ga K "BadRow")) (.ref (He.ga K "PressError")) = some true
  s_BadRow_BadBits : PySem.W.kitOne K (.ref (He.ga K "BadRow")) (.ref (He.ga K "BadBits")) = some false
  s_BadRow_BadBody : PySem.W.kitOne K (.ref (He.ga K "BadRow")) (.ref (He.ga K "BadBody")) = some false
  s_BadRow_BadCheck : PySem.W.kitOne K (.ref (He.ga K "BadRow")) (.ref (He.ga K "BadCheck")) = some false
  s_BadRow_BadLengths : PySem.W.kitOne K (.ref (He.ga K "BadRow")) (.ref (He.ga K "BadLengths")) = some false
  s_BadRow_BadHead : PySem.W.kitOne K (.ref (He.ga K "BadRow")) (.ref (He.ga K "BadHead")) = some false
  s_BadRow_BadShares : PySem.W.kitOne K (.ref (He.ga K "BadRow")) (.ref (He.ga K "BadShares")) = some false
  s_BadRow_BadLetters : PySem.W.kitOne K (.ref (He.ga K "BadRow")) (.ref (He.ga K "BadLetters")) = some false
  s_BadRow_BadMark : PySem.W.kitOne K (.ref (He.ga K "BadRow")) (.ref (He.ga K "BadMark")) = some false
  s_BadRow_BadPieces : PySem.W.kitOne K (.ref (He.ga K "BadRow")) (.ref (He.ga K "BadPieces")) = some false
  s_BadRow_BadRow : PySem.W.kitOne K (.ref (He.ga K "BadRow")) (.ref (He.ga K "BadRow")) = some true
  s_BadRow_BadTable : PySem.W.kitOne K (.ref (He.ga K "BadRow")) (.ref (He.ga K "BadTable")) = some false
  s_BadRow_BadTail : PySem.W.kitOne K (.ref (He.ga K "BadRow")) (.ref (He.ga K "BadTail")) = some false
  s_BadRow_Behind : PySem.W.kitOne K (.ref (He.ga K "BadRow")) (.ref (He.ga K "Behind")) = some false
  s_BadRow_Cut : PySem.W.kitOne K (.ref (He.ga K "BadRow")) (.ref (He.ga K "Cut")) = some false
  s_BadRow_NoRange : PySem.W.kitOne K (.ref (He.ga K "BadRow")) (.ref (He.ga K "NoRange")) = some false
  s_BadRow_Over : PySem.W.kitOne K (.ref (He.ga K "BadRow")) (.ref (He.ga K "Over")) = some false
  s_BadRow_BadCode : PySem.W.kitOne K (.ref (He.ga K "BadRow")) (.ref (He.ga K "BadCode")) = some false
  s_BadRow_NoBits : PySem.W.kitOne K (.ref (He.ga K "BadRow")) (.ref (He.ga K "NoBits")) = some false
  v_BadRow_ValueError : PySem.W.kitOne K (.ref (He.ga K "BadRow")) (.type "ValueError") = some true
  e_BadBits : L2.ExcC K (He.ga K "BadBits")
  y_BadBits_PressError : PySem.W.exmOne K (.ref (He.ga K "BadBits")) (.ref (He.ga K "PressError")) = some true
  s_BadBits_BadBits : PySem.W.kitOne K (.ref (He.ga K "BadBits")) (.ref (He.ga K "BadBits")) = some true
  s_BadBits_BadBody : PySem.W.kitOne K (.ref (He.ga K "BadBits")) (.ref (He.ga K "BadBody")) = some false
  s_BadBits_BadCheck : PySem.W.kitOne K (.ref (He.ga K "BadBits")) (.ref (He.ga K "BadCheck")) = some false
  s_BadBits_BadLengths : PySem.W.kitOne K (.ref (He.ga K "BadBits")) (.ref (He.ga K "BadLengths")) = some false
  s_BadBits_BadHead : PySem.W.kitOne K (.ref (He.ga K "BadBits")) (.ref (He.ga K "BadHead")) = some false
  s_BadBits_BadShares : PySem.W.kitOne K (.ref (He.ga K "BadBits")) (.ref (He.ga K "BadShares")) = some false
  s_BadBits_BadLetters : PySem.W.kitOne K (.ref (He.ga K "BadBits")) (.ref (He.ga K "BadLetters")) = some false
  s_BadBits_BadMark : PySem.W.kitOne K (.ref (He.ga K "BadBits")) (.ref (He.ga K "BadMark")) = some false
  s_BadBits_BadPieces : PySem.W.kitOne K (.ref (He.ga K "BadBits")) (.ref (He.ga K "BadPieces")) = some false
  s_BadBits_BadRow : PySem.W.kitOne K (.ref (He.ga K "BadBits")) (.ref (He.ga K "BadRow")) = some false
  s_BadBits_BadTable : PySem.W.kitOne K (.ref (He.ga K "BadBits")) (.ref (He.ga K "BadTable")) = some false
  s_BadBits_BadTail : PySem.W.kitOne K (.ref (He.ga K "BadBits")) (.ref (He.ga K "BadTail")) = some false
  s_BadBits_Behind : PySem.W.kitOne K (.ref (He.ga K "BadBits")) (.ref (He.ga K "Behind")) = some false
  s_BadBits_Cut : PySem.W.kitOne K (.ref (He.ga K "BadBits")) (.ref (He.ga K "Cut")) = some false
  s_BadBits_NoRange : PySem.W.kitOne K (.ref (He.ga K "BadBits")) (.ref (He.ga K "NoRange")) = some false
  s_BadBits_Over : PySem.W.kitOne K (.ref (He.ga K "BadBits")) (.ref (He.ga K "Over")) = some false
  s_BadBits_BadCode : PySem.W.kitOne K (.ref (He.ga K "BadBits")) (.ref (He.ga K "BadCode")) = some false
  s_BadBits_NoBits : PySem.W.kitOne K (.ref (He.ga K "BadBits")) (.ref (He.ga K "NoBits")) = some false
  v_BadBits_ValueError : PySem.W.kitOne K (.ref (He.ga K "BadBits")) (.type "ValueError") = some true
  d__law_cell_at : ∃ fd, FunD K d__law_cell_at.name d__law_cell_at.qual d__law_cell_at.params d__law_cell_at.body d__law_cell_at.scope (d__law_cell_at.dvs K) (d__law_cell_at.kws K) (He.fAd K d__law_cell_at.at_) fd
  d__law_mixed : ∃ fd, FunD K d__law_mixed.name d__law_mixed.qual d__law_mixed.params d__law_mixed.body d__law_mixed.scope (d__law_mixed.dvs K) (d__law_mixed.kws K) (He.fAd K d__law_mixed.at_) fd
  d__law_lengths : ∃ fd, FunD K d__law_lengths.name d__law_lengths.qual d__law_lengths.params d__law_lengths.body d__law_lengths.scope (d__law_lengths.dvs K) (d__law_lengths.kws K) (He.fAd K d__law_lengths.at_) fd
  d_is_between : ∃ fd, FunD K d_is_between.name d_is_between.qual d_is_between.params d_is_between.body d_is_between.scope (d_is_between.dvs K) (d_is_between.kws K) (He.fAd K d_is_between.at_) fd
  d_need_lengths : ∃ fd, FunD K d_need_lengths.name d_need_lengths.qual d_need_lengths.params d_need_lengths.body d_need_lengths.scope (d_need_lengths.dvs K) (d_need_lengths.kws K) (He.fAd K d_need_lengths.at_) fd
  d_codes_of : ∃ fd, FunD K d_codes_of.name d_codes_of.qual d_codes_of.params d_codes_of.body d_codes_of.scope (d_codes_of.dvs K) (d_codes_of.kws K) (He.fAd K d_codes_of.at_) fd
  d_CodeReader___init__ : ∃ fd, FunD K d_CodeReader___init__.name d_CodeReader___init__.qual d_CodeReader___init__.params d_CodeReader___init__.body d_CodeReader___init__.scope (d_CodeReader___init__.dvs K) (d_CodeReader___init__.kws K) (He.fAd K d_CodeReader___init__.at_) fd
  d__law_codes : ∃ fd, FunD K d__law_codes.name d__law_codes.qual d__law_codes.params d__law_codes.body d__law_codes.scope (d__law_codes.dvs K) (d__law_codes.kws K) (He.fAd K d__law_codes.at_) fd
  d__law_texts : ∃ fd, FunD K d__law_texts.name d__law_texts.qual d__law_texts.params d__law_texts.body d__law_texts.scope (d__law_texts.dvs K) (d__law_texts.kws K) (He.fAd K d__law_texts.at_) fd
  d__law_bits : ∃ fd, FunD K d__law_bits.name d__law_bits.qual d__law_bits.params d__law_bits.body d__law_bits.scope (d__law_bits.dvs K) (d__law_bits.kws K) (He.fAd K d__law_bits.at_) fd
  d_BitRow___init__ : ∃ fd, FunD K d_BitRow___init__.name d_BitRow___init__.qual d_BitRow___init__.params d_BitRow___init__.body d_BitRow___init__.scope (d_BitRow___init__.dvs K) (d_BitRow___init__.kws K) (He.fAd K d_BitRow___init__.at_) fd
  d_is_number : ∃ fd, FunD K d_is_number.name d_is_number.qual d_is_number.params d_is_number.body d_is_number.scope (d_is_number.dvs K) (d_is_number.kws K) (He.fAd K d_is_number.at_) fd
  d_need_size : ∃ fd, FunD K d_need_size.name d_need_size.qual d_need_size.params d_need_size.body d_need_size.scope (d_need_size.dvs K) (d_need_size.kws K) (He.fAd K d_need_size.at_) fd
  d_BitRow_put : ∃ fd, FunD K d_BitRow_put.name d_BitRow_put.qual d_BitRow_put.params d_BitRow_put.body d_BitRow_put.scope (d_BitRow_put.dvs K) (d_BitRow_put.kws K) (He.fAd K d_BitRow_put.at_) fd
  d_BitRow_row : ∃ fd, FunD K d_BitRow_row.name d_BitRow_row.qual d_BitRow_row.params d_BitRow_row.body d_BitRow_row.scope (d_BitRow_row.dvs K) (d_BitRow_row.kws K) (He.fAd K d_BitRow_row.at_) fd
  d__law_row : ∃ fd, FunD K d__law_row.name d__law_row.qual d__law_row.params d__law_row.body d__law_row.scope (d__law_row.dvs K) (d__law_row.kws K) (He.fAd K d__law_row.at_) fd
  d_is_byte : ∃ fd, FunD K d_is_byte.name d_is_byte.qual d_is_byte.params d_is_byte.body d_is_byte.scope (d_is_byte.dvs K) (d_is_byte.kws K) (He.fAd K d_is_byte.at_) fd
  d_is_row : ∃ fd, FunD K d_is_row.name d_is_row.qual d_is_row.params d_is_row.body d_is_row.scope (d_is_row.dvs K) (d_is_row.kws K) (He.fAd K d_is_row.at_) fd
  d_need_row : ∃ fd, FunD K d_need_row.name d_need_row.qual d_need_row.params d_need_row.body d_need_row.scope (d_need_row.dvs K) (d_need_row.kws K) (He.fAd K d_need_row.at_) fd
  d_BitReader___init__ : ∃ fd, FunD K d_BitReader___init__.name d_BitReader___init__.qual d_BitReader___init__.params d_BitReader___init__.body d_BitReader___init__.scope (d_BitReader___init__.dvs K) (d_BitReader___init__.kws K) (He.fAd K d_BitReader___init__.at_) fd
  d_BitReader_left : ∃ fd, FunD K d_BitReader_left.name d_BitReader_left.qual d_BitReader_left.params d_BitReader_left.body d_BitReader_left.scope (d_BitReader_left.dvs K) (d_BitReader_left.kws K) (He.fAd K d_BitReader_left.at_) fd
  d_BitReader_take : ∃ fd, FunD K d_BitReader_take.name d_BitReader_take.qual d_BitReader_take.params d_BitReader_take.body d_BitReader_take.scope (d_BitReader_take.dvs K) (d_BitReader_take.kws K) (He.fAd K d_BitReader_take.at_) fd
  d__law_due : ∃ fd, FunD K d__law_due.name d__law_due.qual d__law_due.params d__law_due.body d__law_due.scope (d__law_due.dvs K) (d__law_due.kws K) (He.fAd K d__law_due.at_) fd
  d_BitReader_place : ∃ fd, FunD K d_BitReader_place.name d_BitReader_place.qual d_BitReader_place.params d_BitReader_place.body d_BitReader_place.scope (d_BitReader_place.dvs K) (d_BitReader_place.kws K) (He.fAd K d_BitReader_place.at_) fd
  d_BitReader_go : ∃ fd, FunD K d_BitReader_go.name d_BitReader_go.qual d_BitReader_go.params d_BitReader_go.body d_BitReader_go.scope (d_BitReader_go.dvs K) (d_BitReader_go.kws K) (He.fAd K d_BitReader_go.at_) fd
  d_CodeReader_thing : ∃ fd, FunD K d_CodeReader_thing.name d_CodeReader_thing.qual d_CodeReader_thing.params d_CodeReader_thing.body d_CodeReader_thing.scope (d_CodeReader_thing.dvs K) (d_CodeReader_thing.kws K) (He.fAd K d_CodeReader_thing.at_) fd
  d__law_word : ∃ fd, FunD K d__law_word.name d__law_word.qual d__law_word.params d__law_word.body d__law_word.scope (d__law_word.dvs K) (d__law_word.kws K) (He.fAd K d__law_word.at_) fd
  d__law_asked : ∃ fd, FunD K d__law_asked.name d__law_asked.qual d__law_asked.params d__law_asked.body d__law_asked.scope (d__law_asked.dvs K) (d__law_asked.kws K) (He.fAd K d__law_asked.at_) fd
  d__law_read : ∃ fd, FunD K d__law_read.name d__law_read.qual d__law_read.params d__law_read.body d__law_read.scope (d__law_read.dvs K) (d__law_read.kws K) (He.fAd K d__law_read.at_) fd
  d_law : ∃ fd, FunD K d_law.name d_law.qual d_law.params d_law.body d_law.scope (d_law.dvs K) (d_law.kws K) (He.fAd K d_law.at_) fd
theorem tx_of {K : PySem.W.Frag} {h : Heap} {mg : Str → Option Value} (X : K.In h) (G : h.Ns mainGlobals mg) (c : He.SaysD fa fn K) (ce : ex K = true) : Tx K mg where
  g__wall := He.glo_ok X G (c.fact 0 (f := .glo "_wall") rfl)
  g_PressError := He.glo_ok X G (c.fact 1 (f := .glo "PressError") rfl)
  x_PressError := He.exc_ok (c.fact 2 (f := .exc "PressError") rfl)
  g_BadRow := He.glo_ok X G (c.fact 3 (f := .glo "BadRow") rfl)
  x_BadRow := He.exc_ok (c.fact 4 (f := .exc "BadRow") rfl)
  g_BadBits := He.glo_ok X G (c.fact 5 (f := .glo "BadBits") rfl)
  x_BadBits := He.exc_ok (c.fact 6 (f := .exc "BadBits") rfl)
  g_NoBits := He.glo_ok X G (c.fact 7 (f := .glo "NoBits") rfl)
  x_NoBits := He.exc_ok (c.fact 8 (f := .exc "NoBits") rfl)
  g_BadShares := He.glo_ok X G (c.fact 9 (f := .glo "BadShares") rfl)
  x_BadShares := He.exc_ok (c.fact 10 (f := .exc "BadShares") rfl)
  g_BadLengths := He.glo_ok X G (c.fact 11 (f := .glo "BadLengths") rfl)
  x_BadLengths := He.exc_ok (c.fact 12 (f := .exc "BadLengths") rfl)
  g_BadCode := He.glo_ok X G (c.fact 13 (f := .glo "BadCode") rfl)
  x_BadCode := He.exc_ok (c.fact 14 (f := .exc "BadCode") rfl)
  g_BadTable := He.glo_ok X G (c.fact 15 (f := .glo "BadTable") rfl)
  x_BadTable := He.exc_ok (c.fact 16 (f := .exc "BadTable") rfl)
  g_BadPieces := He.glo_ok X G (c.fact 17 (f := .glo "BadPieces") rfl)
  x_BadPieces := He.exc_ok (c.fact 18 (f := .exc "BadPieces") rfl)
  g_BadBody := He.glo_ok X G (c.fact 19 (f := .glo "BadBody") rfl)
  x_BadBody := He.exc_ok (c.fact 20 (f := .exc "BadBody") rfl)
  g_BadHead := He.glo_ok X G (c.fact 21 (f := .glo "BadHead") rfl)
  x_BadHead := He.exc_ok (c.fact 22 (f := .exc "BadHead") rfl)
  g_BadCheck := He.glo_ok X G (c.fact 23 (f := .glo "BadCheck") rfl)
  x_BadCheck := He.exc_ok (c.fact 24 (f := .exc "BadCheck") rfl)
  g_BadMark := He.glo_ok X G (c.fact 25 (f := .glo "BadMark") rfl)
  x_BadMark := He.exc_ok (c.fact 26 (f := .exc "BadMark") rfl)
  g_BadTail := He.glo_ok X G (c.fact 27 (f := .glo "BadTail") rfl)
  x_BadTail := He.exc_ok (c.fact 28 (f := .exc "BadTail") rfl)
  g_Cut := He.glo_ok X G (c.fact 29 (f := .glo "Cut") rfl)
  x_Cut := He.exc_ok (c.fact 30 (f := .exc "Cut") rfl)
  g_Behind := He.glo_ok X G (c.fact 31 (f := .glo "Behind") rfl)
  x_Behind := He.exc_ok (c.fact 32 (f := .exc "Behind") rfl)
  g_Over := He.glo_ok X G (c.fact 33 (f := .glo "Over") rfl)
  x_Over := He.exc_ok (c.fact 34 (f := .exc "Over") rfl)
  g_NoRange := He.glo_ok X G (c.fact 35 (f := .glo "NoRange") rfl)
  x_NoRange := He.exc_ok (c.fact 36 (f := .exc "NoRange") rfl)
  g_BadLetters := He.glo_ok X G (c.fact 37 (f := .glo "BadLetters") rfl)
  x_BadLetters := He.exc_ok (c.fact 38 (f := .exc "BadLetters") rfl)
  g_MOST_THINGS := He.int_ok X G (c.fact 39 (f := .int "MOST_THINGS" 300) rfl)
  g_MOST_LENGTH := He.int_ok X G (c.fact 40 (f := .int "MOST_LENGTH" 12) rfl)
  g_is_between := He.glo_ok X G (c.fact 41 (f := .glo "is_between") rfl)
  g_need_lengths := He.glo_ok X G (c.fact 42 (f := .glo "need_lengths") rfl)
  g_codes_of := He.glo_ok X G (c.fact 43 (f := .glo "codes_of") rfl)
  g_CodeReader := He.glo_ok X G (c.fact 44 (f := .glo "CodeReader") rfl)
  c_CodeReader := He.cls_ok (c.fact 45 (f := .cls "CodeReader") rfl)
  n_CodeReader_known := He.noat_ok (c.fact 46 (f := .noat "CodeReader" "known") rfl)
  n_CodeReader_begun := He.noat_ok (c.fact 47 (f := .noat "CodeReader" "begun") rfl)
  m_CodeReader___init__ := He.meth_ok (c.fact 48 (f := .meth "CodeReader" "__init__") rfl)
  m_CodeReader_thing := He.meth_ok (c.fact 49 (f := .meth "CodeReader" "thing") rfl)
  k_CodeReader := He.mkr_ok (c.fact 50 (f := .mkr "CodeReader") rfl)
  g_MOST_BYTE := He.int_ok X G (c.fact 51 (f := .int "MOST_BYTE" 255) rfl)
  g_is_byte := He.glo_ok X G (c.fact 52 (f := .glo "is_byte") rfl)
  g_is_row := He.glo_ok X G (c.fact 53 (f := .glo "is_row") rfl)
  g_need_row := He.glo_ok X G (c.fact 54 (f := .glo "need_row") rfl)
  g_BYTE := He.int_ok X G (c.fact 55 (f := .int "BYTE" 8) rfl)
  g_MOST_SIZE := He.int_ok X G (c.fact 56 (f := .int "MOST_SIZE" 24) rfl)
  g_is_number := He.glo_ok X G (c.fact 57 (f := .glo "is_number") rfl)
  g_need_size := He.glo_ok X G (c.fact 58 (f := .glo "need_size") rfl)
  g_BitRow := He.glo_ok X G (c.fact 59 (f := .glo "BitRow") rfl)
  c_BitRow := He.cls_ok (c.fact 60 (f := .cls "BitRow") rfl)
  n_BitRow_full := He.noat_ok (c.fact 61 (f := .noat "BitRow" "full") rfl)
  n_BitRow_part := He.noat_ok (c.fact 62 (f := .noat "BitRow" "part") rfl)
  n_BitRow_filled := He.noat_ok (c.fact 63 (f := .noat "BitRow" "filled") rfl)
  m_BitRow___init__ := He.meth_ok (c.fact 64 (f := .meth "BitRow" "__init__") rfl)
  m_BitRow_put := He.meth_ok (c.fact 65 (f := .meth "BitRow" "put") rfl)
  m_BitRow_many := He.meth_ok (c.fact 66 (f := .meth "BitRow" "many") rfl)
  m_BitRow_row := He.meth_ok (c.fact 67 (f := .meth "BitRow" "row") rfl)
  k_BitRow := He.mkr_ok (c.fact 68 (f := .mkr "BitRow") rfl)
  g_BitReader := He.glo_ok X G (c.fact 69 (f := .glo "BitReader") rfl)
  c_BitReader := He.cls_ok (c.fact 70 (f := .cls "BitReader") rfl)
  n_BitReader_source := He.noat_ok (c.fact 71 (f := .noat "BitReader" "source") rfl)
  n_BitReader_taken := He.noat_ok (c.fact 72 (f := .noat "BitReader" "taken") rfl)
  m_BitReader___init__ := He.meth_ok (c.fact 73 (f := .meth "BitReader" "__init__") rfl)
  m_BitReader_left := He.meth_ok (c.fact 74 (f := .meth "BitReader" "left") rfl)
  m_BitReader_place := He.meth_ok (c.fact 75 (f := .meth "BitReader" "place") rfl)
  m_BitReader_go := He.meth_ok (c.fact 76 (f := .meth "BitReader" "go") rfl)
  m_BitReader_take := He.meth_ok (c.fact 77 (f := .meth "BitReader" "take") rfl)
  m_BitReader_at_end := He.meth_ok (c.fact 78 (f := .meth "BitReader" "at_end") rfl)
  k_BitReader := He.mkr_ok (c.fact 79 (f := .mkr "BitReader") rfl)
  g__law_cell_at := He.glo_ok X G (c.fact 80 (f := .glo "_law_cell_at") rfl)
  g__law_mixed := He.glo_ok X G (c.fact 81 (f := .glo "_law_mixed") rfl)
  g__law_is_number := He.glo_ok X G (c.fact 82 (f := .glo "_law_is_number") rfl)
  g__law_lengths := He.glo_ok X G (c.fact 83 (f := .glo "_law_lengths") rfl)
  g__law_codes := He.glo_ok X G (c.fact 84 (f := .glo "_law_codes") rfl)
  g__law_word := He.glo_ok X G (c.fact 85 (f := .glo "_law_word") rfl)
  g__law_asked := He.glo_ok X G (c.fact 86 (f := .glo "_law_asked") rfl)
  g__law_due := He.glo_ok X G (c.fact 87 (f := .glo "_law_due") rfl)
  g__law_texts := He.glo_ok X G (c.fact 88 (f := .glo "_law_texts") rfl)
  g__law_bits := He.glo_ok X G (c.fact 89 (f := .glo "_law_bits") rfl)
  g__law_row := He.glo_ok X G (c.fact 90 (f := .glo "_law_row") rfl)
  g__law_read := He.glo_ok X G (c.fact 91 (f := .glo "_law_read") rfl)
  g_law := He.glo_ok X G (c.fact 92 (f := .glo "law") rfl)
  f_all := He.free_ok X G (c.fact 93 (f := .free "all") rfl)
  f_bool := He.free_ok X G (c.fact 94 (f := .free "bool") rfl)
  f_divmod := He.free_ok X G (c.fact 95 (f := .free "divmod") rfl)
  f_enumerate := He.free_ok X G (c.fact 96 (f := .free "enumerate") rfl)
  f_int := He.free_ok X G (c.fact 97 (f := .free "int") rfl)
  f_isinstance := He.free_ok X G (c.fact 98 (f := .free "isinstance") rfl)
  f_len := He.free_ok X G (c.fact 99 (f := .free "len") rfl)
  f_list := He.free_ok X G (c.fact 100 (f := .free "list") rfl)
  f_range := He.free_ok X G (c.fact 101 (f := .free "range") rfl)
  f_sorted := He.free_ok X G (c.fact 102 (f := .free "sorted") rfl)
  f_str := He.free_ok X G (c.fact 103 (f := .free "str") rfl)
  f_tuple := He.free_ok X G (c.fact 104 (f := .free "tuple") rfl)
  f_ValueError := He.free_ok X G (c.fact 105 (f := .free "ValueError") rfl)
  e_BadLengths := by have h := ex_at ce 0; have z0 := He.ba h; have z1 := He.ba z0.2; have z2 := He.ba z1.2; have z3 := He.ba z2.2; have z4 := He.ba z3.2; have z5 := He.ba z4.2; have z6 := He.ba z5.2; exact ⟨He.eqO_ok z0.1, He.eqO_ok z1.1, of_decide_eq_true z2.1, z3.1, He.eqO_ok z4.1, He.eqO_ok z5.1, of_decide_eq_true z6.1, of_decide_eq_true z6.2⟩
  y_BadLengths_PressError := by have h := ex_at ce 1; exact of_decide_eq_true h
  s_BadLengths_BadBits := by have h := ex_at ce 2; exact of_decide_eq_true h
  s_BadLengths_BadBody := by have h := ex_at ce 3; exact of_decide_eq_true h
  s_BadLengths_BadCheck := by have h := ex_at ce 4; exact of_decide_eq_true h
  s_BadLengths_BadLengths := by have h := ex_at ce 5; exact of_decide_eq_true h
  s_BadLengths_BadHead := by have h := ex_at ce 6; exact of_decide_eq_true h
  s_BadLengths_BadShares := by have h := ex_at ce 7; exact of_decide_eq_true h
  s_BadLengths_BadLetters := by have h := ex_at ce 8; exact of_decide_eq_true h
  s_BadLengths_BadMark := by have h := ex_at ce 9; exact of_decide_eq_true h
  s_BadLengths_BadPieces := by have h := ex_at ce 10; exact of_decide_eq_true h
  s_BadLengths_BadRow := by have h := ex_at ce 11; exact of_decide_eq_true h
  s_BadLengths_BadTable := by have h := ex_at ce 12; exact of_decide_eq_true h
  s_BadLengths_BadTail := by have h := ex_at ce 13; exact of_decide_eq_true h
  s_BadLengths_Behind := by have h := ex_at ce 14; exact of_decide_eq_true h
  s_BadLengths_Cut := by have h := ex_at ce 15; exact of_decide_eq_true h
  s_BadLengths_NoRange := by have h := ex_at ce 16; exact of_decide_eq_true h
  s_BadLengths_Over := by have h := ex_at ce 17; exact of_decide_eq_true h
  s_BadLengths_BadCode := by have h := ex_at ce 18; exact of_decide_eq_true h
  s_BadLengths_NoBits := by have h := ex_at ce 19; exact of_decide_eq_true h
  v_BadLengths_ValueError := by have h := ex_at ce 20; exact of_decide_eq_true h
  e_BadCode := by have h := ex_at ce 21; have z0 := He.ba h; have z1 := He.ba z0.2; have z2 := He.ba z1.2; have z3 := He.ba z2.2; have z4 := He.ba z3.2; have z5 := He.ba z4.2; have z6 := He.ba z5.2; exact ⟨He.eqO_ok z0.1, He.eqO_ok z1.1, of_decide_eq_true z2.1, z3.1, He.eqO_ok z4.1, He.eqO_ok z5.1, of_decide_eq_true z6.1, of_decide_eq_true z6.2⟩
  y_BadCode_PressError := by have h := ex_at ce 22; exact of_decide_eq_true h
  s_BadCode_BadBits := by have h := ex_at ce 23; exact of_decide_eq_true h
  s_BadCode_BadBody := by have h := ex_at ce 24; exact of_decide_eq_true h
  s_BadCode_BadCheck := by have h := ex_at ce 25; exact of_decide_eq_true h
  s_BadCode_BadLengths := by have h := ex_at ce 26; exact of_decide_eq_true h
  s_BadCode_BadHead := by have h := ex_at ce 27; exact of_decide_eq_true h
  s_BadCode_BadShares := by have h := ex_at ce 28; exact of_decide_eq_true h
  s_BadCode_BadLetters := by have h := ex_at ce 29; exact of_decide_eq_true h
  s_BadCode_BadMark := by have h := ex_at ce 30; exact of_decide_eq_true h
  s_BadCode_BadPieces := by have h := ex_at ce 31; exact of_decide_eq_true h
  s_BadCode_BadRow := by have h := ex_at ce 32; exact of_decide_eq_true h
  s_BadCode_BadTable := by have h := ex_at ce 33; exact of_decide_eq_true h
  s_BadCode_BadTail := by have h := ex_at ce 34; exact of_decide_eq_true h
  s_BadCode_Behind := by have h := ex_at ce 35; exact of_decide_eq_true h
  s_BadCode_Cut := by have h := ex_at ce 36; exact of_decide_eq_true h
  s_BadCode_NoRange := by have h := ex_at ce 37; exact of_decide_eq_true h
  s_BadCode_Over := by have h := ex_at ce 38; exact of_decide_eq_true h
  s_BadCode_BadCode := by have h := ex_at ce 39; exact of_decide_eq_true h
  s_BadCode_NoBits := by have h := ex_at ce 40; exact of_decide_eq_true h
  v_BadCode_ValueError := by have h := ex_at ce 41; exact of_decide_eq_true h
  e_NoBits := by have h := ex_at ce 42; have z0 := He.ba h; have z1 := He.ba z0.2; have z2 := He.ba z1.2; have z3 := He.ba z2.2; have z4 := He.ba z3.2; have z5 := He.ba z4.2; have z6 := He.ba z5.2; exact ⟨He.eqO_ok z0.1, He.eqO_ok z1.1, of_decide_eq_true z2.1, z3.1, He.eqO_ok z4.1, He.eqO_ok z5.1, of_decide_eq_true z6.1, of_decide_eq_true z6.2⟩
  y_NoBits_PressError := by have h := ex_at ce 43; exact of_decide_eq_true h
  s_NoBits_BadBits := by have h := ex_at ce 44; exact of_decide_eq_true h
  s_NoBits_BadBody := by have h := ex_at ce 45; exact of_decide_eq_true h
  s_NoBits_BadCheck := by have h := ex_at ce 46; exact of_decide_eq_true h
  s_NoBits_BadLengths := by have h := ex_at ce 47; exact of_decide_eq_true h
  s_NoBits_BadHead := by have h := ex_at ce 48; exact of_decide_eq_true h
  s_NoBits_BadShares := by have h := ex_at ce 49; exact of_decide_eq_true h
  s_NoBits_BadLetters := by have h := ex_at ce 50; exact of_decide_eq_true h
  s_NoBits_BadMark := by have h := ex_at ce 51; exact of_decide_eq_true h
  s_NoBits_BadPieces := by have h := ex_at ce 52; exact of_decide_eq_true h
  s_NoBits_BadRow := by have h := ex_at ce 53; exact of_decide_eq_true h
  s_NoBits_BadTable := by have h := ex_at ce 54; exact of_decide_eq_true h
  s_NoBits_BadTail := by have h := ex_at ce 55; exact of_decide_eq_true h
  s_NoBits_Behind := by have h := ex_at ce 56; exact of_decide_eq_true h
  s_NoBits_Cut := by have h := ex_at ce 57; exact of_decide_eq_true h
  s_NoBits_NoRange := by have h := ex_at ce 58; exact of_decide_eq_true h
  s_NoBits_Over := by have h := ex_at ce 59; exact of_decide_eq_true h
  s_NoBits_BadCode := by have h := ex_at ce 60; exact of_decide_eq_true h
  s_NoBits_NoBits := by have h := ex_at ce 61; exact of_decide_eq_true h
  v_NoBits_ValueError := by have h := ex_at ce 62; exact of_decide_eq_true h
  e_BadRow := by have h := ex_at ce 63; have z0 := He.ba h; have z1 := He.ba z0.2; have z2 := He.ba z1.2; have z3 := He.ba z2.2; have z4 := He.ba z3.2; have z5 := He.ba z4.2; have z6 := He.ba z5.2; exact ⟨He.eqO_ok z0.1, He.eqO_ok z1.1, of_decide_eq_true z2.1, z3.1, He.eqO_ok z4.1, He.eqO_ok z5.1, of_decide_eq_true z6.1, of_decide_eq_true z6.2⟩
  y_BadRow_PressError := by have h := ex_at ce 64; exact of_decide_eq_true h
  s_BadRow_BadBits := by have h := ex_at ce 65; exact of_decide_eq_true h
  s_BadRow_BadBody := by have h := ex_at ce 66; exact of_decide_eq_true h
  s_BadRow_BadCheck := by have h := ex_at ce 67; exact of_decide_eq_true h
  s_BadRow_BadLengths := by have h := ex_at ce 68; exact of_decide_eq_true h
  s_BadRow_BadHead := by have h := ex_at ce 69; exact of_decide_eq_true h
  s_BadRow_BadShares := by have h := ex_at ce 70; exact of_decide_eq_true h
  s_BadRow_BadLetters := by have h := ex_at ce 71; exact of_decide_eq_true h
  s_BadRow_BadMark := by have h := ex_at ce 72; exact of_decide_eq_true h
  s_BadRow_BadPieces := by have h := ex_at ce 73; exact of_decide_eq_true h
  s_BadRow_BadRow := by have h := ex_at ce 74; exact of_decide_eq_true h
  s_BadRow_BadTable := by have h := ex_at ce 75; exact of_decide_eq_true h
  s_BadRow_BadTail := by have h := ex_at ce 76; exact of_decide_eq_true h
  s_BadRow_Behind := by have h := ex_at ce 77; exact of_decide_eq_true h
  s_BadRow_Cut := by have h := ex_at ce 78; exact of_decide_eq_true h
  s_BadRow_NoRange := by have h := ex_at ce 79; exact of_decide_eq_true h
  s_BadRow_Over := by have h := ex_at ce 80; exact of_decide_eq_true h
  s_BadRow_BadCode := by have h := ex_at ce 81; exact of_decide_eq_true h
  s_BadRow_NoBits := by have h := ex_at ce 82; exact of_decide_eq_true h
  v_BadRow_ValueError := by have h := ex_at ce 83; exact of_decide_eq_true h
  e_BadBits := by have h := ex_at ce 84; have z0 := He.ba h; have z1 := He.ba z0.2; have z2 := He.ba z1.2; have z3 := He.ba z2.2; have z4 := He.ba z3.2; have z5 := He.ba z4.2; have z6 := He.ba z5.2; exact ⟨He.eqO_ok z0.1, He.eqO_ok z1.1, of_decide_eq_true z2.1, z3.1, He.eqO_ok z4.1, He.eqO_ok z5.1, of_decide_eq_true z6.1, of_decide_eq_true z6.2⟩
  y_BadBits_PressError := by have h := ex_at ce 85; exact of_decide_eq_true h
  s_BadBits_BadBits := by have h := ex_at ce 86; exact of_decide_eq_true h
  s_BadBits_BadBody := by have h := ex_at ce 87; exact of_decide_eq_true h
  s_BadBits_BadCheck := by have h := ex_at ce 88; exact of_decide_eq_true h
  s_BadBits_BadLengths := by have h := ex_at ce 89; exact of_decide_eq_true h
  s_BadBits_BadHead := by have h := ex_at ce 90; exact of_decide_eq_true h
  s_BadBits_BadShares := by have h := ex_at ce 91; exact of_decide_eq_true h
  s_BadBits_BadLetters := by have h := ex_at ce 92; exact of_decide_eq_true h
  s_BadBits_BadMark := by have h := ex_at ce 93; exact of_decide_eq_true h
  s_BadBits_BadPieces := by have h := ex_at ce 94; exact of_decide_eq_true h
  s_BadBits_BadRow := by have h := ex_at ce 95; exact of_decide_eq_true h
  s_BadBits_BadTable := by have h := ex_at ce 96; exact of_decide_eq_true h
  s_BadBits_BadTail := by have h := ex_at ce 97; exact of_decide_eq_true h
  s_BadBits_Behind := by have h := ex_at ce 98; exact of_decide_eq_true h
  s_BadBits_Cut := by have h := ex_at ce 99; exact of_decide_eq_true h
  s_BadBits_NoRange := by have h := ex_at ce 100; exact of_decide_eq_true h
  s_BadBits_Over := by have h := ex_at ce 101; exact of_decide_eq_true h
  s_BadBits_BadCode := by have h := ex_at ce 102; exact of_decide_eq_true h
  s_BadBits_NoBits := by have h := ex_at ce 103; exact of_decide_eq_true h
  v_BadBits_ValueError := by have h := ex_at ce 104; exact of_decide_eq_true h
  d__law_cell_at := c.def_ 21 (d := d__law_cell_at) rfl
  d__law_mixed := c.def_ 22 (d := d__law_mixed) rfl
  d__law_lengths := c.def_ 24 (d := d__law_lengths) rfl
  d_is_between := c.def_ 1 (d := d_is_between) rfl
  d_need_lengths := c.def_ 2 (d := d_need_lengths) rfl
  d_codes_of := c.def_ 3 (d := d_codes_of) rfl
  d_CodeReader___init__ := c.def_ 4 (d := d_CodeReader___init__) rfl
  d__law_codes := c.def_ 25 (d := d__law_codes) rfl
  d__law_texts := c.def_ 29 (d := d__law_texts) rfl
  d__law_bits := c.def_ 30 (d := d__law_bits) rfl
  d_BitRow___init__ := c.def_ 11 (d := d_BitRow___init__) rfl
  d_is_number := c.def_ 9 (d := d_is_number) rfl
  d_need_size := c.def_ 10 (d := d_need_size) rfl
  d_BitRow_put := c.def_ 12 (d := d_BitRow_put) rfl
  d_BitRow_row := c.def_ 14 (d := d_BitRow_row) rfl
  d__law_row := c.def_ 31 (d := d__law_row) rfl
  d_is_byte := c.def_ 6 (d := d_is_byte) rfl
  d_is_row := c.def_ 7 (d := d_is_row) rfl
  d_need_row := c.def_ 8 (d := d_need_row) rfl
  d_BitReader___init__ := c.def_ 15 (d := d_BitReader___init__) rfl
  d_BitReader_left := c.def_ 16 (d := d_BitReader_left) rfl
  d_BitReader_take := c.def_ 19 (d := d_BitReader_take) rfl
  d__law_due := c.def_ 28 (d := d__law_due) rfl
  d_BitReader_place := c.def_ 17 (d := d_BitReader_place) rfl
  d_BitReader_go := c.def_ 18 (d := d_BitReader_go) rfl
  d_CodeReader_thing := c.def_ 5 (d := d_CodeReader_thing) rfl
  d__law_word := c.def_ 26 (d := d__law_word) rfl
  d__law_asked := c.def_ 27 (d := d__law_asked) rfl
  d__law_read := c.def_ 32 (d := d__law_read) rfl
  d_law := c.def_ 33 (d := d_law) rfl
structure TxB (K : PySem.W.Frag) (mg : Str → Option Value) (base : Heap) : Prop extends Tx K mg where
  tb_codes_of : LamX.TabB base mg (He.cT K ("codes_of", none)).1 (He.cT K ("codes_of", none)).2
theorem of_KCodeReader {K : PySem.W.Frag} {mg : Str → Option Value} (T : Tx K mg) : KCodeReader K := ⟨T.c_CodeReader, T.n_CodeReader_known, T.n_CodeReader_begun⟩
theorem of_KBitRow {K : PySem.W.Frag} {mg : Str → Option Value} (T : Tx K mg) : KBitRow K := ⟨T.c_BitRow, T.n_BitRow_full, T.n_BitRow_part, T.n_BitRow_filled⟩
theorem of_KBitReader {K : PySem.W.Frag} {mg : Str → Option Value} (T : Tx K mg) : KBitReader K := ⟨T.c_BitReader, T.n_BitReader_source, T.n_BitReader_taken⟩
theorem of_KWBadCode {K : PySem.W.Frag} {mg : Str → Option Value} (T : Tx K mg) : KWBadCode K := ⟨T.e_BadCode, T.y_BadCode_PressError, T.v_BadCode_ValueError, T.s_BadCode_BadRow, T.s_BadCode_BadBits, T.s_BadCode_NoBits, T.s_BadCode_BadShares, T.s_BadCode_BadLengths, T.s_BadCode_BadCode, T.s_BadCode_BadTable, T.s_BadCode_Cut, T.s_BadCode_BadPieces, T.s_BadCode_BadBody, T.s_BadCode_BadHead, T.s_BadCode_BadCheck, T.s_BadCode_BadMark, T.s_BadCode_BadTail, T.s_BadCode_Behind, T.s_BadCode_Over, T.s_BadCode_NoRange, T.s_BadCode_BadLetters⟩
theorem of_KWNoBits {K : PySem.W.Frag} {mg : Str → Option Value} (T : Tx K mg) : KWNoBits K := ⟨T.e_NoBits, T.y_NoBits_PressError, T.v_NoBits_ValueError, T.s_NoBits_BadRow, T.s_NoBits_BadBits, T.s_NoBits_NoBits, T.s_NoBits_BadShares, T.s_NoBits_BadLengths, T.s_NoBits_BadCode, T.s_NoBits_BadTable, T.s_NoBits_Cut, T.s_NoBits_BadPieces, T.s_NoBits_BadBody, T.s_NoBits_BadHead, T.s_NoBits_BadCheck, T.s_NoBits_BadMark, T.s_NoBits_BadTail, T.s_NoBits_Behind, T.s_NoBits_Over, T.s_NoBits_NoRange, T.s_NoBits_BadLetters⟩
abbrev N__law_cell_at : List Str := ["_law_script", "_law_k"]
theorem sc__law_cell_at : FnScope N__law_cell_at ["_law_script", "_law_k"] (defScope s__law_cell_at) := ⟨rfl, rfl, rfl, by decide +kernel, rfl, by decide +kernel, by decide +kernel⟩
theorem wk__law_cell_at {P : Program} {w : World} {K : PySem.W.Frag} {mg : Str → Option Value} {base : Heap} (T : TxB K mg base)  {f : Addr} {cdv : Value} {A : Around} {outer : List Env} {s : Shared} {H : Hp} {E : XK} 
    (hr : Room 0 (A.deeper (envOfC "_law_cell_at" (defScope s__law_cell_at) s.heap.objs.size f cdv))) :
    PSs (cxOf (L2N.CX P w) P w K mg base N__law_cell_at "_law_cell_at" (defScope s__law_cell_at) f cdv A outer s H E) (defBody s__law_cell_at) (t__law_cell_at K (fun c d _ H2 => E c d H2)) := by
  have hu1 := hu_of hr
  have hu64 := hr.units
  have tk : L2N.Takes (cxOf (L2N.CX P w) P w K mg base N__law_cell_at "_law_cell_at" (defScope s__law_cell_at) f cdv A outer s H E) (fun c d _ H2 => E c d H2) := L2N.takes_of rfl rfl rfl rfl
  exact (pss_cons (ps_if (pt_cmpR op_ltU (pv 1) (pe_callB cr_lenK (by rfl) T.f_len bb_len (pa_cons (pv 0) pa_nil)) (nomark _)) (pss_one (ps_ret (pe_ix ix_seq (pv 0) (pv 1) (fun _ _ => rfl)))) pss_nil)
    (pss_one (ps_ret (pe_int))))
theorem fn__law_cell_at {P : Program} {w : World} {K : PySem.W.Frag} {mg : Str → Option Value} {base : Heap} (T : TxB K mg base) {f : Addr} {fd : FuncData} (F : FunD K d__law_cell_at.name d__law_cell_at.qual d__law_cell_at.params d__law_cell_at.body d__law_cell_at.scope (d__law_cell_at.dvs K) (d__law_cell_at.kws K) f fd) :
    FnOk P w K mg base (L2N.CX P w) 1 f fd ["_law_script", "_law_k"] (sp__law_cell_at K) :=
  F.ok sc__law_cell_at (fun vs H Q E h => len__law_cell_at h) (fun cdv A outer s H vs Q E hr h => ⟨t__law_cell_at K (fun c d _ H2 => E c d H2), wk__law_cell_at T  hr, rd__law_cell_at  h⟩)
theorem ok__law_cell_at_2 {P : Program} {w : World} {K : PySem.W.Frag} {mg : Str → Option Value} {base : Heap} (T : TxB K mg base) : DOkN P w K mg base 1 (He.fAd K ("_law_cell_at", none)) ["_law_script", "_law_k"] [] (sp__law_cell_at K) := by
  obtain ⟨fd, F⟩ := T.d__law_cell_at
  exact ⟨fd, [], .nil, FunD.bindsN F fun _ _ _ _ _ _ us hl => match us, hl with | [_, _], _ => rfl, fn__law_cell_at T F, F.kp⟩
abbrev N__law_mixed : List Str := ["_law_cell", "_law_k"]
theorem sc__law_mixed : FnScope N__law_mixed ["_law_cell", "_law_k"] (defScope s__law_mixed) := ⟨rfl, rfl, rfl, by decide +kernel, rfl, by decide +kernel, by decide +kernel⟩
theorem wk__law_mixed {P : Program} {w : World} {K : PySem.W.Frag} {mg : Str → Option Value} {base : Heap} (T : TxB K mg base)  {f : Addr} {cdv : Value} {A : Around} {outer : List Env} {s : Shared} {H : Hp} {E : XK} 
    (hr : Room 0 (A.deeper (envOfC "_law_mixed" (defScope s__law_mixed) s.heap.objs.size f cdv))) :
    PSs (cxOf (L2N.CX P w) P w K mg base N__law_mixed "_law_mixed" (defScope s__law_mixed) f cdv A outer s H E) (defBody s__law_mixed) (t__law_mixed K (fun c d _ H2 => E c d H2)) := by
  have hu1 := hu_of hr
  have hu64 := hr.units
  have tk : L2N.Takes (cxOf (L2N.CX P w) P w K mg base N__law_mixed "_law_mixed" (defScope s__law_mixed) f cdv A outer s H E) (fun c d _ H2 => E c d H2) := L2N.takes_of rfl rfl rfl rfl
  exact (pss_one (ps_ret (pe_op op_modU (pe_op op_mulU (pe_op op_modU (pe_op op_mulU (pe_op op_addU (pe_op op_addU (pv 0) (pe_op op_mulU (pe_op op_mulU (pe_int) (pv 1)) (pv 1))) (pe_op op_mulU (pe_int) (pv 1))) (pe_int)) (pe_int)) (pe_int)) (pe_int))))
theorem fn__law_mixed {P : Program} {w : World} {K : PySem.W.Frag} {mg : Str → Option Value} {base : Heap} (T : TxB K mg base) {f : Addr} {fd : FuncData} (F : FunD K d__law_mixed.name d__law_mixed.qual d__law_mixed.params d__law_mixed.body d__law_mixed.scope (d__law_mixed.dvs K) (d__law_mixed.kws K) f fd) :
    FnOk P w K mg base (L2N.CX P w) 1 f fd ["_law_cell", "_law_k"] (sp__law_mixed K) :=
  F.ok sc__law_mixed (fun vs H Q E h => len__law_mixed h) (fun cdv A outer s H vs Q E hr h => ⟨t__law_mixed K (fun c d _ H2 => E c d H2), wk__law_mixed T  hr, rd__law_mixed  h⟩)
theorem ok__law_mixed_2 {P : Program} {w : World} {K : PySem.W.Frag} {mg : Str → Option Value} {base : Heap} (T : TxB K mg base) : DOkN P w K mg base 1 (He.fAd K ("_law_mixed", none)) ["_law_cell", "_law_k"] [] (sp__law_mixed K) := by
  obtain ⟨fd, F⟩ := T.d__law_mixed
  exact ⟨fd, [], .nil, FunD.bindsN F fun _ _ _ _ _ _ us hl => match us, hl with | [_, _], _ => rfl, fn__law_mixed T F, F.kp⟩
abbrev N__law_lengths : List Str := ["_law_script", "_law_first", "_law_many", "_law_most", "_law_room", "_law_lengths_here", "_law_k", "_law_number", "_law_length"]
theorem sc__law_lengths : FnScope N__law_lengths ["_law_script", "_law_first", "_law_many", "_law_most"] (defScope s__law_lengths) := ⟨rfl, rfl, rfl, by decide +kernel, rfl, by decide +kernel, by decide +kernel⟩
theorem wk__law_lengths {P : Program} {w : World} {K : PySem.W.Frag} {mg : Str → Option Value} {base : Heap} (T : TxB K mg base) (O0 : DOkN P w K mg base 1 (He.fAd K ("_law_mixed", none)) ["_law_cell", "_law_k"] [] (sp__law_mixed K)) (O1 : DOkN P w K mg base 1 (He.fAd K ("_law_cell_at", none)) ["_law_script", "_law_k"] [] (sp__law_cell_at K)) {f : Addr} {cdv : Value} {A : Around} {outer : List Env} {s : Shared} {H : Hp} {E : XK} 
    (hr : Room 1 (A.deeper (envOfC "_law_lengths" (defScope s__law_lengths) s.heap.objs.size f cdv))) :
    PSs (cxOf (L2N.CX P w) P w K mg base N__law_lengths "_law_lengths" (defScope s__law_lengths) f cdv A outer s H E) (defBody s__law_lengths) (t__law_lengths K (fun c d _ H2 => E c d H2)) := by
  obtain ⟨fd0, ds0, v0, b0, G0, q0⟩ := O0
  obtain ⟨fd1, ds1, v1, b1, G1, q1⟩ := O1
  have hu1 := hu_of hr
  have hu64 := hr.units
  have tk : L2N.Takes (cxOf (L2N.CX P w) P w K mg base N__law_lengths "_law_lengths" (defScope s__law_lengths) f cdv A outer s H E) (fun c d _ H2 => E c d H2) := L2N.takes_of rfl rfl rfl rfl
  exact (pss_cons (ps_set (i := 4) sc__law_lengths.nd rfl (Or.inl rfl) (pe_op op_shlU (pe_int) (pv 3)))
    (pss_cons (ps_set (i := 5) sc__law_lengths.nd rfl (Or.inl rfl) (pe_lst pa_nil))
    (pss_cons (ps_for (passes_of rfl) rfl (pi_range1 rfl T.f_range (pa_cons (pv 2) pa_nil)) (pg_name (i := 6) sc__law_lengths.nd rfl (Or.inl rfl)) (pss_cons (ps_set (i := 7) sc__law_lengths.nd rfl (Or.inl rfl) (pe_clN G0 (hr.mono (by decide)) rfl T.g__law_mixed q0 b0 v0 tk (pa_cons (pe_clN G1 (hr.mono (by decide)) rfl T.g__law_cell_at q1 b1 v1 tk (pa_cons (pv 0) (pa_cons (pe_op op_addU (pv 1) (pe_op op_modU (pv 6) (pe_int))) pa_nil))) (pa_cons (pv 6) pa_nil))))
    (pss_cons (ps_set (i := 8) sc__law_lengths.nd rfl (Or.inl rfl) (pe_op op_modU (pe_op op_divU (pv 7) (pe_int)) (pe_op op_addU (pv 3) (pe_int))))
    (Evl.pss_cut (ps_if (pt_cmpR (op_eqU hu64) (pe_op op_modU (pv 7) (pe_int)) (pe_int) (nomark _)) (pss_one (ps_set (i := 8) sc__law_lengths.nd rfl (Or.inl rfl) (pe_int))) pss_nil)
    (Evl.pss_cut (ps_if (PW.pt (pw_and (pt_cmpR op_gtU (pv 8) (pe_int) (nomark _)) (pw_and1 (pt_cmpR op_gtU (pe_op op_shlU (pe_int) (pe_op op_subU (pv 3) (pv 8))) (pv 4) (nomark _))))) (pss_one (ps_set (i := 8) sc__law_lengths.nd rfl (Or.inl rfl) (pe_ix ix_seq (pe_lst (pa_cons (pe_int) (pa_cons (pv 3) pa_nil))) (pe_callTy cr_intK (by rfl) T.f_int bt_int (pa_cons (pe_cmpR op_gtU (pv 4) (pe_int) (nomark _)) pa_nil)) (fun _ _ => rfl)))) pss_nil)
    (Evl.pss_cut (ps_if (pt_cmpR op_gtU (pv 8) (pe_int) (nomark _)) (pss_one (ps_set (i := 4) sc__law_lengths.nd rfl (Or.inl rfl) (pe_op op_subU (pv 4) (pe_op op_shlU (pe_int) (pe_op op_subU (pv 3) (pv 8)))))) pss_nil)
    (pss_one (ps_expr (pe_bm PySem.F.plainAttrs_list PySem.F.slot_list_append PySem.F.type_list_append mt_append (pv 5) (pa_cons (pv 8) pa_nil))))))))))
    (Evl.pss_cut (ps_if (pt_cmpR (op_eqU hu64) (pe_bm PySem.F.plainAttrs_list PySem.F.slot_list_count PySem.F.type_list_count mt_lcount (pv 5) (pa_cons (pe_int) pa_nil)) (pv 2) (nomark _)) (pss_one (ps_asg (pe_op op_addU (pe_int) (pe_op op_modU (pe_clN G1 (hr.mono (by decide)) rfl T.g__law_cell_at q1 b1 v1 tk (pa_cons (pv 0) (pa_cons (pv 1) pa_nil))) (pv 3))) (pg_sub (pv 5) (pe_op op_modU (pe_clN G1 (hr.mono (by decide)) rfl T.g__law_cell_at q1 b1 v1 tk (pa_cons (pv 0) (pa_cons (pv 1) pa_nil))) (pv 2)) set_list))) pss_nil)
    (pss_one (ps_ret (pv 5)))))))
theorem fn__law_lengths {P : Program} {w : World} {K : PySem.W.Frag} {mg : Str → Option Value} {base : Heap} (T : TxB K mg base) {f : Addr} {fd : FuncData} (F : FunD K d__law_lengths.name d__law_lengths.qual d__law_lengths.params d__law_lengths.body d__law_lengths.scope (d__law_lengths.dvs K) (d__law_lengths.kws K) f fd) :
    FnOk P w K mg base (L2N.CX P w) 2 f fd ["_law_script", "_law_first", "_law_many", "_law_most"] (sp__law_lengths K) :=
  F.ok sc__law_lengths (fun vs H Q E h => len__law_lengths h) (fun cdv A outer s H vs Q E hr h => ⟨t__law_lengths K (fun c d _ H2 => E c d H2), wk__law_lengths T (ok__law_mixed_2 T) (ok__law_cell_at_2 T) hr, rd__law_lengths  h⟩)
theorem ok__law_lengths_4 {P : Program} {w : World} {K : PySem.W.Frag} {mg : Str → Option Value} {base : Heap} (T : TxB K mg base) : DOkN P w K mg base 2 (He.fAd K ("_law_lengths", none)) ["_law_script", "_law_first", "_law_many", "_law_most"] [] (sp__law_lengths K) := by
  obtain ⟨fd, F⟩ := T.d__law_lengths
  exact ⟨fd, [], .nil, FunD.bindsN F fun _ _ _ _ _ _ us hl => match us, hl with | [_, _, _, _], _ => rfl, fn__law_lengths T F, F.kp⟩
abbrev N_is_between : List Str := ["thing", "least", "most"]
theorem sc_is_between : FnScope N_is_between ["thing", "least", "most"] (defScope s_is_between) := ⟨rfl, rfl, rfl, by decide +kernel, rfl, by decide +kernel, by decide +kernel⟩
theorem wk_is_between {P : Program} {w : World} {K : PySem.W.Frag} {mg : Str → Option Value} {base : Heap} (T : TxB K mg base)  {f : Addr} {cdv : Value} {A : Around} {outer : List Env} {s : Shared} {H : Hp} {E : XK} 
    (hr : Room 0 (A.deeper (envOfC "is_between" (defScope s_is_between) s.heap.objs.size f cdv))) :
    PSs (cxOf (L2N.CX P w) P w K mg base N_is_between "is_between" (defScope s_is_between) f cdv A outer s H E) (defBody s_is_between) (t_is_between K (fun c d _ H2 => E c d H2)) := by
  have hu1 := hu_of hr
  have hu64 := hr.units
  have tk : L2N.Takes (cxOf (L2N.CX P w) P w K mg base N_is_between "is_between" (defScope s_is_between) f cdv A outer s H E) (fun c d _ H2 => E c d H2) := L2N.takes_of rfl rfl rfl rfl
  exact (pss_one (ps_ret ((pe_and (pe_callB call_isi (by rfl) T.f_isinstance bb_isinstance (pa_cons (pv 0) (pa_cons (pe_bty rfl T.f_int bt_int) pa_nil))) (pe_and (pe_not (pe_callB call_isi (by rfl) T.f_isinstance bb_isinstance (pa_cons (pv 0) (pa_cons (pe_bty rfl T.f_bool bt_bool) pa_nil)))) (pe_one (pe_chain op_leU op_leU (pv 1) (pv 0) (pv 2))))))))
theorem fn_is_between {P : Program} {w : World} {K : PySem.W.Frag} {mg : Str → Option Value} {base : Heap} (T : TxB K mg base) {f : Addr} {fd : FuncData} (F : FunD K d_is_between.name d_is_between.qual d_is_between.params d_is_between.body d_is_between.scope (d_is_between.dvs K) (d_is_between.kws K) f fd) :
    FnOk P w K mg base (L2N.CX P w) 1 f fd ["thing", "least", "most"] (sp_is_between K) :=
  F.ok sc_is_between (fun vs H Q E h => len_is_between h) (fun cdv A outer s H vs Q E hr h => ⟨t_is_between K (fun c d _ H2 => E c d H2), wk_is_between T  hr, rd_is_between  h⟩)
theorem ok_is_between_3 {P : Program} {w : World} {K : PySem.W.Frag} {mg : Str → Option Value} {base : Heap} (T : TxB K mg base) : DOkN P w K mg base 1 (He.fAd K ("is_between", none)) ["thing", "least", "most"] [] (sp_is_between K) := by
  obtain ⟨fd, F⟩ := T.d_is_between
  exact ⟨fd, [], .nil, FunD.bindsN F fun _ _ _ _ _ _ us hl => match us, hl with | [_, _, _], _ => rfl, fn_is_between T F, F.kp⟩
abbrev N_need_lengths : List Str := ["lengths", "room", "length"]
theorem sc_need_lengths : FnScope N_need_lengths ["lengths"] (defScope s_need_lengths) := ⟨rfl, rfl, rfl, by decide +kernel, rfl, by decide +kernel, by decide +kernel⟩
theorem wk_need_lengths {P : Program} {w : World} {K : PySem.W.Frag} {mg : Str → Option Value} {base : Heap} (T : TxB K mg base) (O0 : DOkN P w K mg base 1 (He.fAd K ("is_between", none)) ["thing", "least", "most"] [] (sp_is_between K)) {f : Addr} {cdv : Value} {A : Around} {outer : List Env} {s : Shared} {H : Hp} {E : XK} 
    (hr : Room 1 (A.deeper (envOfC "need_lengths" (defScope s_need_lengths) s.heap.objs.size f cdv))) :
    PSs (cxOf (L2N.CX P w) P w K mg base N_need_lengths "need_lengths" (defScope s_need_lengths) f cdv A outer s H E) (defBody s_need_lengths) (t_need_lengths K (fun c d _ H2 => E c d H2)) := by
  obtain ⟨fd0, ds0, v0, b0, G0, q0⟩ := O0
  have hu1 := hu_of hr
  have hu64 := hr.units
  have tk : L2N.Takes (cxOf (L2N.CX P w) P w K mg base N_need_lengths "need_lengths" (defScope s_need_lengths) f cdv A outer s H E) (fun c d _ H2 => E c d H2) := L2N.takes_of rfl rfl rfl rfl
  exact (pss_cons (ps_if (PW.pt (pw_or (pt_not (pt_val (pe_callB call_isi (by rfl) T.f_isinstance bb_isinstance (pa_cons (pv 0) (pa_cons (pe_bty rfl T.f_list bt_list) pa_nil))))) (pw_or1 (pt_not (pt_chain op_leU op_leU (pe_int) (pe_callB cr_lenK (by rfl) T.f_len bb_len (pa_cons (pv 0) pa_nil)) (pe_gint rfl T.g_MOST_THINGS)))))) (pss_one (ps_rzN rfl tk T.x_BadLengths T.g_BadLengths rfl)) pss_nil)
    (pss_cons (ps_set (i := 1) sc_need_lengths.nd rfl (Or.inl rfl) (pe_int))
    (pss_cons (ps_for (passes_of rfl) rfl (pi_list (pv 0)) (pg_name (i := 2) sc_need_lengths.nd rfl (Or.inl rfl)) (pss_cons (ps_if (pt_not (pt_val (pe_clN G0 (hr.mono (by decide)) rfl T.g_is_between q0 b0 v0 tk (pa_cons (pv 2) (pa_cons (pe_int) (pa_cons (pe_gint rfl T.g_MOST_LENGTH) pa_nil)))))) (pss_one (ps_rzN rfl tk T.x_BadLengths T.g_BadLengths rfl)) pss_nil)
    (pss_one (ps_if (pt_cmpR op_gtU (pv 2) (pe_int) (nomark _)) (pss_one (ps_aug (i := 1) sc_need_lengths.nd rfl (Or.inl rfl) (pe_op op_shlU (pe_int) (pe_op op_subU (pe_gint rfl T.g_MOST_LENGTH) (pv 2))) ip_addU)) pss_nil))))
    (pss_one (ps_if (pt_not (pt_chain op_ltU op_leU (pe_int) (pv 1) (pe_op op_shlU (pe_int) (pe_gint rfl T.g_MOST_LENGTH)))) (pss_one (ps_rzN rfl tk T.x_BadLengths T.g_BadLengths rfl)) pss_nil)))))
theorem fn_need_lengths {P : Program} {w : World} {K : PySem.W.Frag} {mg : Str → Option Value} {base : Heap} (T : TxB K mg base) {f : Addr} {fd : FuncData} (F : FunD K d_need_lengths.name d_need_lengths.qual d_need_lengths.params d_need_lengths.body d_need_lengths.scope (d_need_lengths.dvs K) (d_need_lengths.kws K) f fd) :
    FnOk P w K mg base (L2N.CX P w) 2 f fd ["lengths"] (sp_need_lengths K) :=
  F.ok sc_need_lengths (fun vs H Q E h => len_need_lengths h) (fun cdv A outer s H vs Q E hr h => ⟨t_need_lengths K (fun c d _ H2 => E c d H2), wk_need_lengths T (ok_is_between_3 T) hr, rd_need_lengths  h⟩)
theorem ok_need_lengths_1 {P : Program} {w : World} {K : PySem.W.Frag} {mg : Str → Option Value} {base : Heap} (T : TxB K mg base) : DOkN P w K mg base 2 (He.fAd K ("need_lengths", none)) ["lengths"] [] (sp_need_lengths K) := by
  obtain ⟨fd, F⟩ := T.d_need_lengths
  exact ⟨fd, [], .nil, FunD.bindsN F fun _ _ _ _ _ _ us hl => match us, hl with | [_], _ => rfl, fn_need_lengths T F, F.kp⟩
abbrev N_codes_of : List Str := ["lengths", "found", "code", "last", "place", "length"]
theorem sc_codes_of : FnScope N_codes_of ["lengths"] (defScope s_codes_of) := ⟨rfl, rfl, rfl, by decide +kernel, rfl, by decide +kernel, by decide +kernel⟩
theorem wk_codes_of {P : Program} {w : World} {K : PySem.W.Frag} {mg : Str → Option Value} {base : Heap} (T : TxB K mg base) (O0 : DOkN P w K mg base 2 (He.fAd K ("need_lengths", none)) ["lengths"] [] (sp_need_lengths K)) {f : Addr} {cdv : Value} {A : Around} {outer : List Env} {s : Shared} {H : Hp} {E : XK} (hcode : cdv = .ref (He.cT K ("codes_of", none)).1)
    (hr : Room 2 (A.deeper (envOfC "codes_of" (defScope s_codes_of) s.heap.objs.size f cdv))) :
    PSs (cxOf (L2N.CX P w) P w K mg base N_codes_of "codes_of" (defScope s_codes_of) f cdv A outer s H E) (defBody s_codes_of) (t_codes_of K (fun c d _ H2 => E c d H2)) := by
  obtain ⟨fd0, ds0, v0, b0, G0, q0⟩ := O0
  have hu1 := hu_of hr
  have hu64 := hr.units
  have tk : L2N.Takes (cxOf (L2N.CX P w) P w K mg base N_codes_of "codes_of" (defScope s_codes_of) f cdv A outer s H E) (fun c d _ H2 => E c d H2) := L2N.takes_of rfl rfl rfl rfl
  exact (pss_cons (ps_expr (pe_clN G0 (hr.mono (by decide)) rfl T.g_need_lengths q0 b0 v0 tk (pa_cons (pv 0) pa_nil)))
    (pss_cons (ps_set (i := 1) sc_codes_of.nd rfl (Or.inl rfl) (pe_op op_mulU (pe_lst (pa_cons (pe_non) pa_nil)) (pe_callB cr_lenK (by rfl) T.f_len bb_len (pa_cons (pv 0) pa_nil))))
    (pss_cons (ps_set (i := 2) sc_codes_of.nd rfl (Or.inl rfl) (pe_int))
    (pss_cons (ps_set (i := 3) sc_codes_of.nd rfl (Or.inl rfl) (pe_int))
    (pss_cons (ps_for (passes_of rfl) rfl (pi_list ((pe_sortL rfl T.f_sorted (pa_cons (pe_callTy cr_rng1 (by rfl) T.f_range bt_range (pa_cons (pe_callB cr_lenK (by rfl) T.f_len bb_len (pa_cons (pv 0) pa_nil)) pa_nil)) pa_nil) rfl (hr.mono (by decide)) T.tb_codes_of hcode ⟨rfl, rfl, rfl, by decide +kernel, by decide +kernel, by decide +kernel, (by decide +kernel : ∀ y ∈ (_ : List (Str × NameKind)), y.2 = NameKind.free → List.lookup y.1 (defScope s_codes_of).names = some NameKind.cell)⟩ rfl rfl (by rfl) (fun _ _ _ _ _ => by rfl)))) (pg_name (i := 4) sc_codes_of.nd rfl (Or.inl rfl)) (pss_cons (ps_set (i := 5) sc_codes_of.nd rfl (Or.inl rfl) (pe_ix ix_seq (pv 0) (pv 4) (fun _ _ => rfl)))
    (pss_one (ps_if (pt_cmpR op_gtU (pv 5) (pe_int) (nomark _)) (pss_cons (ps_set (i := 2) sc_codes_of.nd rfl (Or.inl rfl) (pe_op op_shlU (pv 2) (pe_op op_subU (pv 5) (pv 3))))
    (pss_cons (ps_asg (pe_tup (pa_cons (pv 2) (pa_cons (pv 5) pa_nil))) (pg_sub (pv 1) (pv 4) set_list))
    (pss_cons (ps_aug (i := 2) sc_codes_of.nd rfl (Or.inl rfl) (pe_int) ip_addU)
    (pss_one (ps_set (i := 3) sc_codes_of.nd rfl (Or.inl rfl) (pv 5)))))) pss_nil))))
    (pss_one (ps_ret (pv 1))))))))
theorem fn_codes_of {P : Program} {w : World} {K : PySem.W.Frag} {mg : Str → Option Value} {base : Heap} (T : TxB K mg base) {fd : FuncData} (F : FunD K d_codes_of.name d_codes_of.qual d_codes_of.params d_codes_of.body d_codes_of.scope (d_codes_of.dvs K) (d_codes_of.kws K) (He.fAd K d_codes_of.at_) fd) :
    FnOk P w K mg base (L2N.CX P w) 3 (He.fAd K ("codes_of", none)) fd ["lengths"] (sp_codes_of K) :=
  FunD.okC ("codes_of", none) F sc_codes_of (fun vs H Q E h => len_codes_of h) (fun cdv A outer s H vs Q E hcode hr h => ⟨t_codes_of K (fun c d _ H2 => E c d H2), wk_codes_of T (ok_need_lengths_1 T) hcode hr, rd_codes_of  h⟩)
theorem ok_codes_of_1 {P : Program} {w : World} {K : PySem.W.Frag} {mg : Str → Option Value} {base : Heap} (T : TxB K mg base) : DOkN P w K mg base 3 (He.fAd K ("codes_of", none)) ["lengths"] [] (sp_codes_of K) := by
  obtain ⟨fd, F⟩ := T.d_codes_of
  exact ⟨fd, [], .nil, FunD.bindsN F fun _ _ _ _ _ _ us hl => match us, hl with | [_], _ => rfl, fn_codes_of T F, F.kp⟩
abbrev N_CodeReader___init__ : List Str := ["self", "lengths", "place", "told", "code", "length", "size"]
theorem sc_CodeReader___init__ : FnScope N_CodeReader___init__ ["self", "lengths"] (defScope s_CodeReader___init__) := ⟨rfl, rfl, rfl, by decide +kernel, rfl, by decide +kernel, by decide +kernel⟩
theorem wk_CodeReader___init__ {P : Program} {w : World} {K : PySem.W.Frag} {mg : Str → Option Value} {base : Heap} (T : TxB K mg base) (O0 : DOkN P w K mg base 3 (He.fAd K ("codes_of", none)) ["lengths"] [] (sp_codes_of K)) {f : Addr} {cdv : Value} {A : Around} {outer : List Env} {s : Shared} {H : Hp} {E : XK} 
    (hr : Room 3 (A.deeper (envOfC "CodeReader.__init__" (defScope s_CodeReader___init__) s.heap.objs.size f cdv))) :
    PSs (cxOf (L2N.CX P w) P w K mg base N_CodeReader___init__ "CodeReader.__init__" (defScope s_CodeReader___init__) f cdv A outer s H E) (defBody s_CodeReader___init__) (t_CodeReader___init__ K (fun c d _ H2 => E c d H2)) := by
  obtain ⟨fd0, ds0, v0, b0, G0, q0⟩ := O0
  have hu1 := hu_of hr
  have hu64 := hr.units
  have tk : L2N.Takes (cxOf (L2N.CX P w) P w K mg base N_CodeReader___init__ "CodeReader.__init__" (defScope s_CodeReader___init__) f cdv A outer s H E) (fun c d _ H2 => E c d H2) := L2N.takes_of rfl rfl rfl rfl
  exact (pss_cons (ps_fld (pv 0) (pe_dnewT) rfl)
    (pss_cons (ps_fld (pv 0) (pe_dnewT) rfl)
    (pss_one (ps_for (passes_of rfl) rfl (pi_enum (by rfl) T.f_enumerate (pa_cons (pe_clN G0 (hr.mono (by decide)) rfl T.g_codes_of q0 b0 v0 tk (pa_cons (pv 1) pa_nil)) pa_nil)) (pg_tup rfl (pgs_cons (pg_name (i := 2) sc_CodeReader___init__.nd rfl (Or.inl rfl)) (pgs_cons (pg_name (i := 3) sc_CodeReader___init__.nd rfl (Or.inl rfl)) pgs_nil))) (pss_one (ps_if (pt_cmpR op_notU (pv 3) (pe_non) (nomark _)) (pss_cons (ps_asg (pv 3) (pg_tup rfl (pgs_cons (pg_name (i := 4) sc_CodeReader___init__.nd rfl (Or.inl rfl)) (pgs_cons (pg_name (i := 5) sc_CodeReader___init__.nd rfl (Or.inl rfl)) pgs_nil))))
    (pss_cons (ps_asg (pv 2) (pg_sub (pe_fld (pv 0) rfl) (pe_tup (pa_cons (pv 5) (pa_cons (pv 4) pa_nil))) (set_dict hu1)))
    (pss_one (ps_for (passes_of rfl) rfl (pi_range2 rfl T.f_range (pa_cons (pe_int) (pa_cons (pv 5) pa_nil))) (pg_name (i := 6) sc_CodeReader___init__.nd rfl (Or.inl rfl)) (pss_one (ps_asg (pe_bl) (pg_sub (pe_fld (pv 0) rfl) (pe_tup (pa_cons (pv 6) (pa_cons (pe_op op_shrU (pv 4) (pe_op op_subU (pv 5) (pv 6))) pa_nil))) (set_dict hu1)))))))) pss_nil))))))
theorem fn_CodeReader___init__ {P : Program} {w : World} {K : PySem.W.Frag} {mg : Str → Option Value} {base : Heap} (T : TxB K mg base) {f : Addr} {fd : FuncData} (F : FunD K d_CodeReader___init__.name d_CodeReader___init__.qual d_CodeReader___init__.params d_CodeReader___init__.body d_CodeReader___init__.scope (d_CodeReader___init__.dvs K) (d_CodeReader___init__.kws K) f fd) :
    FnOk P w K mg base (L2N.CX P w) 4 f fd ["self", "lengths"] (sp_CodeReader___init__ K) :=
  F.ok sc_CodeReader___init__ (fun vs H Q E h => len_CodeReader___init__ h) (fun cdv A outer s H vs Q E hr h => ⟨t_CodeReader___init__ K (fun c d _ H2 => E c d H2), wk_CodeReader___init__ T (ok_codes_of_1 T) hr, rd_CodeReader___init__ (of_KCodeReader T.toTx) h⟩)
theorem ok_CodeReader___init___2 {P : Program} {w : World} {K : PySem.W.Frag} {mg : Str → Option Value} {base : Heap} (T : TxB K mg base) : DOkN P w K mg base 4 (He.fAd K ("CodeReader", some "__init__")) ["self", "lengths"] [] (sp_CodeReader___init__ K) := by
  obtain ⟨fd, F⟩ := T.d_CodeReader___init__
  exact ⟨fd, [], .nil, FunD.bindsN F fun _ _ _ _ _ _ us hl => match us, hl with | [_, _], _ => rfl, fn_CodeReader___init__ T F, F.kp⟩
abbrev N__law_codes : List Str := ["_law_lengths_here", "_law_found", "_law_code", "_law_length", "_law_place"]
theorem sc__law_codes : FnScope N__law_codes ["_law_lengths_here"] (defScope s__law_codes) := ⟨rfl, rfl, rfl, by decide +kernel, rfl, by decide +kernel, by decide +kernel⟩
theorem wk__law_codes {P : Program} {w : World} {K : PySem.W.Frag} {mg : Str → Option Value} {base : Heap} (T : TxB K mg base)  {f : Addr} {cdv : Value} {A : Around} {outer : List Env} {s : Shared} {H : Hp} {E : XK} 
    (hr : Room 0 (A.deeper (envOfC "_law_codes" (defScope s__law_codes) s.heap.objs.size f cdv))) :
    PSs (cxOf (L2N.CX P w) P w K mg base N__law_codes "_law_codes" (defScope s__law_codes) f cdv A outer s H E) (defBody s__law_codes) (t__law_codes K (fun c d _ H2 => E c d H2)) := by
  have hu1 := hu_of hr
  have hu64 := hr.units
  have tk : L2N.Takes (cxOf (L2N.CX P w) P w K mg base N__law_codes "_law_codes" (defScope s__law_codes) f cdv A outer s H E) (fun c d _ H2 => E c d H2) := L2N.takes_of rfl rfl rfl rfl
  exact (pss_cons (ps_set (i := 1) sc__law_codes.nd rfl (Or.inl rfl) (pe_op op_mulU (pe_lst (pa_cons (pe_non) pa_nil)) (pe_callB cr_lenK (by rfl) T.f_len bb_len (pa_cons (pv 0) pa_nil))))
    (pss_cons (ps_set (i := 2) sc__law_codes.nd rfl (Or.inl rfl) (pe_int))
    (pss_cons (ps_for (passes_of rfl) rfl (pi_range2 rfl T.f_range (pa_cons (pe_int) (pa_cons (pe_int) pa_nil))) (pg_name (i := 3) sc__law_codes.nd rfl (Or.inl rfl)) (pss_cons (ps_set (i := 2) sc__law_codes.nd rfl (Or.inl rfl) (pe_op op_mulU (pv 2) (pe_int)))
    (pss_one (ps_for (passes_of rfl) rfl (pi_range1 rfl T.f_range (pa_cons (pe_callB cr_lenK (by rfl) T.f_len bb_len (pa_cons (pv 0) pa_nil)) pa_nil)) (pg_name (i := 4) sc__law_codes.nd rfl (Or.inl rfl)) (pss_one (ps_if (pt_cmpR (op_eqU hu64) (pe_ix ix_seq (pv 0) (pv 4) (fun _ _ => rfl)) (pv 3) (nomark _)) (pss_cons (ps_asg (pe_tup (pa_cons (pv 2) (pa_cons (pv 3) pa_nil))) (pg_sub (pv 1) (pv 4) set_list))
    (pss_one (ps_set (i := 2) sc__law_codes.nd rfl (Or.inl rfl) (pe_op op_addU (pv 2) (pe_int))))) pss_nil))))))
    (pss_one (ps_ret (pv 1))))))
theorem fn__law_codes {P : Program} {w : World} {K : PySem.W.Frag} {mg : Str → Option Value} {base : Heap} (T : TxB K mg base) {f : Addr} {fd : FuncData} (F : FunD K d__law_codes.name d__law_codes.qual d__law_codes.params d__law_codes.body d__law_codes.scope (d__law_codes.dvs K) (d__law_codes.kws K) f fd) :
    FnOk P w K mg base (L2N.CX P w) 1 f fd ["_law_lengths_here"] (sp__law_codes K) :=
  F.ok sc__law_codes (fun vs H Q E h => len__law_codes h) (fun cdv A outer s H vs Q E hr h => ⟨t__law_codes K (fun c d _ H2 => E c d H2), wk__law_codes T  hr, rd__law_codes  h⟩)
theorem ok__law_codes_1 {P : Program} {w : World} {K : PySem.W.Frag} {mg : Str → Option Value} {base : Heap} (T : TxB K mg base) : DOkN P w K mg base 1 (He.fAd K ("_law_codes", none)) ["_law_lengths_here"] [] (sp__law_codes K) := by
  obtain ⟨fd, F⟩ := T.d__law_codes
  exact ⟨fd, [], .nil, FunD.bindsN F fun _ _ _ _ _ _ us hl => match us, hl with | [_], _ => rfl, fn__law_codes T F, F.kp⟩
abbrev N__law_texts : List Str := ["_law_lengths_here", "_law_found", "_law_one", "_law_bits_here", "_law_k"]
theorem sc__law_texts : FnScope N__law_texts ["_law_lengths_here"] (defScope s__law_texts) := ⟨rfl, rfl, rfl, by decide +kernel, rfl, by decide +kernel, by decide +kernel⟩
theorem wk__law_texts {P : Program} {w : World} {K : PySem.W.Frag} {mg : Str → Option Value} {base : Heap} (T : TxB K mg base) (O0 : DOkN P w K mg base 1 (He.fAd K ("_law_codes", none)) ["_law_lengths_here"] [] (sp__law_codes K)) {f : Addr} {cdv : Value} {A : Around} {outer : List Env} {s : Shared} {H : Hp} {E : XK} 
    (hr : Room 1 (A.deeper (envOfC "_law_texts" (defScope s__law_texts) s.heap.objs.size f cdv))) :
    PSs (cxOf (L2N.CX P w) P w K mg base N__law_texts "_law_texts" (defScope s__law_texts) f cdv A outer s H E) (defBody s__law_texts) (t__law_texts K (fun c d _ H2 => E c d H2)) := by
  obtain ⟨fd0, ds0, v0, b0, G0, q0⟩ := O0
  have hu1 := hu_of hr
  have hu64 := hr.units
  have tk : L2N.Takes (cxOf (L2N.CX P w) P w K mg base N__law_texts "_law_texts" (defScope s__law_texts) f cdv A outer s H E) (fun c d _ H2 => E c d H2) := L2N.takes_of rfl rfl rfl rfl
  exact (pss_cons (ps_set (i := 1) sc__law_texts.nd rfl (Or.inl rfl) (pe_lst pa_nil))
    (pss_cons (ps_for (passes_of rfl) rfl (pi_list (pe_clN G0 (hr.mono (by decide)) rfl T.g__law_codes q0 b0 v0 tk (pa_cons (pv 0) pa_nil))) (pg_name (i := 2) sc__law_texts.nd rfl (Or.inr rfl)) (pss_one (ps_if (pt_cmpR op_isU (pv 2) (pe_non) (nomark _)) (pss_one (ps_expr (pe_bm PySem.F.plainAttrs_list PySem.F.slot_list_append PySem.F.type_list_append mt_append (pv 1) (pa_cons (pe_str) pa_nil)))) (pss_cons (ps_set (i := 3) sc__law_texts.nd rfl (Or.inl rfl) (pe_joinK (pe_str) (pe_lc (own := [("_law_k", 4)]) rfl sc__law_texts.nd (pi_range1 rfl T.f_range (pa_cons (pe_ix ix_seq (pv 2) (pe_int) (fun _ _ => rfl)) pa_nil)) (blkOk_by (own := [("_law_k", 4)]) (N := N__law_texts) (sc := defScope s__law_texts) (by decide +kernel)) (fun _ _ _ _ _ => (pg_name (i := 4) sc__law_texts.nd rfl (Or.inl rfl))) (fun _ _ _ _ _ => pts_nil) (fun _ _ _ _ _ => (pe_callTy cr_strI (by rfl) T.f_str bt_str (pa_cons (pe_op op_andU (pe_op op_shrU (pe_ix ix_seq (pv 2) (pe_int) (fun _ _ => rfl)) (pv 4)) (pe_int)) pa_nil))))))
    (pss_one (ps_expr (pe_bm PySem.F.plainAttrs_list PySem.F.slot_list_append PySem.F.type_list_append mt_append (pv 1) (pa_cons (pe_revS (pv 3)) pa_nil))))))))
    (pss_one (ps_ret (pv 1)))))
theorem fn__law_texts {P : Program} {w : World} {K : PySem.W.Frag} {mg : Str → Option Value} {base : Heap} (T : TxB K mg base) {f : Addr} {fd : FuncData} (F : FunD K d__law_texts.name d__law_texts.qual d__law_texts.params d__law_texts.body d__law_texts.scope (d__law_texts.dvs K) (d__law_texts.kws K) f fd) :
    FnOk P w K mg base (L2N.CX P w) 2 f fd ["_law_lengths_here"] (sp__law_texts K) :=
  F.ok sc__law_texts (fun vs H Q E h => len__law_texts h) (fun cdv A outer s H vs Q E hr h => ⟨t__law_texts K (fun c d _ H2 => E c d H2), wk__law_texts T (ok__law_codes_1 T) hr, rd__law_texts  h⟩)
theorem ok__law_texts_1 {P : Program} {w : World} {K : PySem.W.Frag} {mg : Str → Option Value} {base : Heap} (T : TxB K mg base) : DOkN P w K mg base 2 (He.fAd K ("_law_texts", none)) ["_law_lengths_here"] [] (sp__law_texts K) := by
  obtain ⟨fd, F⟩ := T.d__law_texts
  exact ⟨fd, [], .nil, FunD.bindsN F fun _ _ _ _ _ _ us hl => match us, hl with | [_], _ => rfl, fn__law_texts T F, F.kp⟩
abbrev N__law_bits : List Str := ["_law_script", "_law_texts_here", "_law_text", "_law_some", "_law_bits_here", "_law_ahead", "_law_k", "_law_number"]
theorem sc__law_bits : FnScope N__law_bits ["_law_script", "_law_texts_here"] (defScope s__law_bits) := ⟨rfl, rfl, rfl, by decide +kernel, rfl, by decide +kernel, by decide +kernel⟩
theorem wk__law_bits {P : Program} {w : World} {K : PySem.W.Frag} {mg : Str → Option Value} {base : Heap} (T : TxB K mg base) (O0 : DOkN P w K mg base 1 (He.fAd K ("_law_cell_at", none)) ["_law_script", "_law_k"] [] (sp__law_cell_at K)) (O1 : DOkN P w K mg base 1 (He.fAd K ("_law_mixed", none)) ["_law_cell", "_law_k"] [] (sp__law_mixed K)) {f : Addr} {cdv : Value} {A : Around} {outer : List Env} {s : Shared} {H : Hp} {E : XK} 
    (hr : Room 1 (A.deeper (envOfC "_law_bits" (defScope s__law_bits) s.heap.objs.size f cdv))) :
    PSs (cxOf (L2N.CX P w) P w K mg base N__law_bits "_law_bits" (defScope s__law_bits) f cdv A outer s H E) (defBody s__law_bits) (t__law_bits K (fun c d _ H2 => E c d H2)) := by
  obtain ⟨fd0, ds0, v0, b0, G0, q0⟩ := O0
  obtain ⟨fd1, ds1, v1, b1, G1, q1⟩ := O1
  have hu1 := hu_of hr
  have hu64 := hr.units
  have tk : L2N.Takes (cxOf (L2N.CX P w) P w K mg base N__law_bits "_law_bits" (defScope s__law_bits) f cdv A outer s H E) (fun c d _ H2 => E c d H2) := L2N.takes_of rfl rfl rfl rfl
  exact (pss_cons (ps_setLc (i := 3) (own := [("_law_text", 2)]) rfl sc__law_bits.nd rfl rfl (sw_true rfl rfl rfl (by decide +kernel)) (pi_list (pv 1)) (blkOk_by (own := [("_law_text", 2)]) (N := N__law_bits) (sc := defScope s__law_bits) (by decide +kernel)) (fun _ _ _ _ _ => (pg_name (i := 2) sc__law_bits.nd rfl (Or.inl rfl))) (fun _ _ _ _ _ => pts_one (pt_cmpR (op_neU hu64) (pv 2) (pe_str) (nomark _))) (fun _ _ _ _ _ => (pv 2)))
    (pss_cons (ps_set (i := 4) sc__law_bits.nd rfl (Or.inl rfl) (pe_slice sl_K (pe_str) po_none (po_some (pe_op op_modU (pe_clN G0 (hr.mono (by decide)) rfl T.g__law_cell_at q0 b0 v0 tk (pa_cons (pv 0) (pa_cons (pe_int) pa_nil))) (pe_int)))))
    (pss_cons (ps_set (i := 5) sc__law_bits.nd rfl (Or.inl rfl) (pe_callB cr_lenK (by rfl) T.f_len bb_len (pa_cons (pv 4) pa_nil)))
    (pss_cons (ps_for (passes_of rfl) rfl (pi_range1 rfl T.f_range (pa_cons (pe_op op_modU (pe_op op_divU (pe_clN G0 (hr.mono (by decide)) rfl T.g__law_cell_at q0 b0 v0 tk (pa_cons (pv 0) (pa_cons (pe_int) pa_nil))) (pe_int)) (pe_int)) pa_nil)) (pg_name (i := 6) sc__law_bits.nd rfl (Or.inl rfl)) (pss_one (ps_set (i := 4) sc__law_bits.nd rfl (Or.inl rfl) (pe_op op_addU (pv 4) (pe_ix ix_seq (pv 3) (pe_op op_modU (pe_op op_divU (pe_clN G1 (hr.mono (by decide)) rfl T.g__law_mixed q1 b1 v1 tk (pa_cons (pe_op op_divU (pe_clN G0 (hr.mono (by decide)) rfl T.g__law_cell_at q0 b0 v0 tk (pa_cons (pv 0) (pa_cons (pe_int) pa_nil))) (pe_int)) (pa_cons (pe_op op_addU (pv 6) (pe_int)) pa_nil))) (pe_int)) (pe_callB cr_lenK (by rfl) T.f_len bb_len (pa_cons (pv 3) pa_nil))) (fun _ _ => rfl))))))
    (pss_cons (ps_set (i := 7) sc__law_bits.nd rfl (Or.inr rfl) (pe_clN G1 (hr.mono (by decide)) rfl T.g__law_mixed q1 b1 v1 tk (pa_cons (pe_op op_divU (pe_clN G0 (hr.mono (by decide)) rfl T.g__law_cell_at q0 b0 v0 tk (pa_cons (pv 0) (pa_cons (pe_int) pa_nil))) (pe_int)) (pa_cons (pe_int) pa_nil))))
    (pss_cons (ps_set (i := 4) sc__law_bits.nd rfl (Or.inl rfl) (pe_op op_addU (pv 4) (pe_joinK (pe_str) (pe_lc (own := [("_law_k", 6)]) rfl sc__law_bits.nd (pi_range1 rfl T.f_range (pa_cons (pe_op op_modU (pe_op op_divU (pv 7) (pe_int)) (pe_int)) pa_nil)) (blkOk_by (own := [("_law_k", 6)]) (N := N__law_bits) (sc := defScope s__law_bits) (by decide +kernel)) (fun _ _ _ _ _ => (pg_name (i := 6) sc__law_bits.nd rfl (Or.inl rfl))) (fun _ _ _ _ _ => pts_nil) (fun _ _ _ _ _ => (pe_callTy cr_strI (by rfl) T.f_str bt_str (pa_cons (pe_op op_andU (pe_op op_shrU (pv 7) (pv 6)) (pe_int)) pa_nil)))))))
    (pss_cons (ps_if (pt_cmpR (op_eqU hu64) (pe_op op_modU (pe_op op_divU (pv 7) (pe_int)) (pe_int)) (pe_int) (nomark _)) (pss_cons (ps_set (i := 2) sc__law_bits.nd rfl (Or.inl rfl) (pe_ix ix_seq (pv 3) (pe_op op_modU (pe_op op_divU (pv 7) (pe_int)) (pe_callB cr_lenK (by rfl) T.f_len bb_len (pa_cons (pv 3) pa_nil))) (fun _ _ => rfl)))
    (pss_one (ps_set (i := 4) sc__law_bits.nd rfl (Or.inl rfl) (pe_op op_addU (pv 4) (pe_slice sl_K (pv 2) po_none (po_some (pe_op op_modU (pe_op op_divU (pv 7) (pe_int)) (pe_callB cr_lenK (by rfl) T.f_len bb_len (pa_cons (pv 2) pa_nil))))))))) pss_nil)
    (pss_one (ps_ret (pe_tup (pa_cons (pv 4) (pa_cons (pv 5) pa_nil))))))))))))
theorem fn__law_bits {P : Program} {w : World} {K : PySem.W.Frag} {mg : Str → Option Value} {base : Heap} (T : TxB K mg base) {f : Addr} {fd : FuncData} (F : FunD K d__law_bits.name d__law_bits.qual d__law_bits.params d__law_bits.body d__law_bits.scope (d__law_bits.dvs K) (d__law_bits.kws K) f fd) :
    FnOk P w K mg base (L2N.CX P w) 2 f fd ["_law_script", "_law_texts_here"] (sp__law_bits K) :=
  F.ok sc__law_bits (fun vs H Q E h => len__law_bits h) (fun cdv A outer s H vs Q E hr h => ⟨t__law_bits K (fun c d _ H2 => E c d H2), wk__law_bits T (ok__law_cell_at_2 T) (ok__law_mixed_2 T) hr, rd__law_bits  h⟩)
theorem ok__law_bits_2 {P : Program} {w : World} {K : PySem.W.Frag} {mg : Str → Option Value} {base : Heap} (T : TxB K mg base) : DOkN P w K mg base 2 (He.fAd K ("_law_bits", none)) ["_law_script", "_law_texts_here"] [] (sp__law_bits K) := by
  obtain ⟨fd, F⟩ := T.d__law_bits
  exact ⟨fd, [], .nil, FunD.bindsN F fun _ _ _ _ _ _ us hl => match us, hl with | [_, _], _ => rfl, fn__law_bits T F, F.kp⟩
abbrev N_BitRow___init__ : List Str := ["self"]
theorem sc_BitRow___init__ : FnScope N_BitRow___init__ ["self"] (defScope s_BitRow___init__) := ⟨rfl, rfl, rfl, by decide +kernel, rfl, by decide +kernel, by decide +kernel⟩
theorem wk_BitRow___init__ {P : Program} {w : World} {K : PySem.W.Frag} {mg : Str → Option Value} {base : Heap} (T : TxB K mg base)  {f : Addr} {cdv : Value} {A : Around} {outer : List Env} {s : Shared} {H : Hp} {E : XK} 
    (hr : Room 0 (A.deeper (envOfC "BitRow.__init__" (defScope s_BitRow___init__) s.heap.objs.size f cdv))) :
    PSs (cxOf (L2N.CX P w) P w K mg base N_BitRow___init__ "BitRow.__init__" (defScope s_BitRow___init__) f cdv A outer s H E) (defBody s_BitRow___init__) (t_BitRow___init__ K (fun c d _ H2 => E c d H2)) := by
  have hu1 := hu_of hr
  have hu64 := hr.units
  have tk : L2N.Takes (cxOf (L2N.CX P w) P w K mg base N_BitRow___init__ "BitRow.__init__" (defScope s_BitRow___init__) f cdv A outer s H E) (fun c d _ H2 => E c d H2) := L2N.takes_of rfl rfl rfl rfl
  exact (pss_cons (ps_fld (pv 0) (pe_lst pa_nil) rfl)
    (pss_cons (ps_fld (pv 0) (pe_int) rfl)
    (pss_one (ps_fld (pv 0) (pe_int) rfl))))
theorem fn_BitRow___init__ {P : Program} {w : World} {K : PySem.W.Frag} {mg : Str → Option Value} {base : Heap} (T : TxB K mg base) {f : Addr} {fd : FuncData} (F : FunD K d_BitRow___init__.name d_BitRow___init__.qual d_BitRow___init__.params d_BitRow___init__.body d_BitRow___init__.scope (d_BitRow___init__.dvs K) (d_BitRow___init__.kws K) f fd) :
    FnOk P w K mg base (L2N.CX P w) 1 f fd ["self"] (sp_BitRow___init__ K) :=
  F.ok sc_BitRow___init__ (fun vs H Q E h => len_BitRow___init__ h) (fun cdv A outer s H vs Q E hr h => ⟨t_BitRow___init__ K (fun c d _ H2 => E c d H2), wk_BitRow___init__ T  hr, rd_BitRow___init__ (of_KBitRow T.toTx) h⟩)
theorem ok_BitRow___init___1 {P : Program} {w : World} {K : PySem.W.Frag} {mg : Str → Option Value} {base : Heap} (T : TxB K mg base) : DOkN P w K mg base 1 (He.fAd K ("BitRow", some "__init__")) ["self"] [] (sp_BitRow___init__ K) := by
  obtain ⟨fd, F⟩ := T.d_BitRow___init__
  exact ⟨fd, [], .nil, FunD.bindsN F fun _ _ _ _ _ _ us hl => match us, hl with | [_], _ => rfl, fn_BitRow___init__ T F, F.kp⟩
abbrev N_is_number : List Str := ["thing"]
theorem sc_is_number : FnScope N_is_number ["thing"] (defScope s_is_number) := ⟨rfl, rfl, rfl, by decide +kernel, rfl, by decide +kernel, by decide +kernel⟩
theorem wk_is_number {P : Program} {w : World} {K : PySem.W.Frag} {mg : Str → Option Value} {base : Heap} (T : TxB K mg base)  {f : Addr} {cdv : Value} {A : Around} {outer : List Env} {s : Shared} {H : Hp} {E : XK} 
    (hr : Room 0 (A.deeper (envOfC "is_number" (defScope s_is_number) s.heap.objs.size f cdv))) :
    PSs (cxOf (L2N.CX P w) P w K mg base N_is_number "is_number" (defScope s_is_number) f cdv A outer s H E) (defBody s_is_number) (t_is_number K (fun c d _ H2 => E c d H2)) := by
  have hu1 := hu_of hr
  have hu64 := hr.units
  have tk : L2N.Takes (cxOf (L2N.CX P w) P w K mg base N_is_number "is_number" (defScope s_is_number) f cdv A outer s H E) (fun c d _ H2 => E c d H2) := L2N.takes_of rfl rfl rfl rfl
  exact (pss_one (ps_ret ((pe_and (pe_callB call_isi (by rfl) T.f_isinstance bb_isinstance (pa_cons (pv 0) (pa_cons (pe_bty rfl T.f_int bt_int) pa_nil))) (pe_one (pe_not (pe_callB call_isi (by rfl) T.f_isinstance bb_isinstance (pa_cons (pv 0) (pa_cons (pe_bty rfl T.f_bool bt_bool) pa_nil)))))))))
theorem fn_is_number {P : Program} {w : World} {K : PySem.W.Frag} {mg : Str → Option Value} {base : Heap} (T : TxB K mg base) {f : Addr} {fd : FuncData} (F : FunD K d_is_number.name d_is_number.qual d_is_number.params d_is_number.body d_is_number.scope (d_is_number.dvs K) (d_is_number.kws K) f fd) :
    FnOk P w K mg base (L2N.CX P w) 1 f fd ["thing"] (sp_is_number K) :=
  F.ok sc_is_number (fun vs H Q E h => len_is_number h) (fun cdv A outer s H vs Q E hr h => ⟨t_is_number K (fun c d _ H2 => E c d H2), wk_is_number T  hr, rd_is_number  h⟩)
theorem ok_is_number_1 {P : Program} {w : World} {K : PySem.W.Frag} {mg : Str → Option Value} {base : Heap} (T : TxB K mg base) : DOkN P w K mg base 1 (He.fAd K ("is_number", none)) ["thing"] [] (sp_is_number K) := by
  obtain ⟨fd, F⟩ := T.d_is_number
  exact ⟨fd, [], .nil, FunD.bindsN F fun _ _ _ _ _ _ us hl => match us, hl with | [_], _ => rfl, fn_is_number T F, F.kp⟩
abbrev N_need_size : List Str := ["size"]
theorem sc_need_size : FnScope N_need_size ["size"] (defScope s_need_size) := ⟨rfl, rfl, rfl, by decide +kernel, rfl, by decide +kernel, by decide +kernel⟩
theorem wk_need_size {P : Program} {w : World} {K : PySem.W.Frag} {mg : Str → Option Value} {base : Heap} (T : TxB K mg base) (O0 : DOkN P w K mg base 1 (He.fAd K ("is_number", none)) ["thing"] [] (sp_is_number K)) {f : Addr} {cdv : Value} {A : Around} {outer : List Env} {s : Shared} {H : Hp} {E : XK} 
    (hr : Room 1 (A.deeper (envOfC "need_size" (defScope s_need_size) s.heap.objs.size f cdv))) :
    PSs (cxOf (L2N.CX P w) P w K mg base N_need_size "need_size" (defScope s_need_size) f cdv A outer s H E) (defBody s_need_size) (t_need_size K (fun c d _ H2 => E c d H2)) := by
  obtain ⟨fd0, ds0, v0, b0, G0, q0⟩ := O0
  have hu1 := hu_of hr
  have hu64 := hr.units
  have tk : L2N.Takes (cxOf (L2N.CX P w) P w K mg base N_need_size "need_size" (defScope s_need_size) f cdv A outer s H E) (fun c d _ H2 => E c d H2) := L2N.takes_of rfl rfl rfl rfl
  exact (pss_one (ps_if (PW.pt (pw_or (pt_not (pt_val (pe_clN G0 (hr.mono (by decide)) rfl T.g_is_number q0 b0 v0 tk (pa_cons (pv 0) pa_nil)))) (pw_or1 (pt_not (pt_chain op_leU op_leU (pe_int) (pv 0) (pe_gint rfl T.g_MOST_SIZE)))))) (pss_one (ps_rzN rfl tk T.x_BadBits T.g_BadBits rfl)) pss_nil))
theorem fn_need_size {P : Program} {w : World} {K : PySem.W.Frag} {mg : Str → Option Value} {base : Heap} (T : TxB K mg base) {f : Addr} {fd : FuncData} (F : FunD K d_need_size.name d_need_size.qual d_need_size.params d_need_size.body d_need_size.scope (d_need_size.dvs K) (d_need_size.kws K) f fd) :
    FnOk P w K mg base (L2N.CX P w) 2 f fd ["size"] (sp_need_size K) :=
  F.ok sc_need_size (fun vs H Q E h => len_need_size h) (fun cdv A outer s H vs Q E hr h => ⟨t_need_size K (fun c d _ H2 => E c d H2), wk_need_size T (ok_is_number_1 T) hr, rd_need_size  h⟩)
theorem ok_need_size_1 {P : Program} {w : World} {K : PySem.W.Frag} {mg : Str → Option Value} {base : Heap} (T : TxB K mg base) : DOkN P w K mg base 2 (He.fAd K ("need_size", none)) ["size"] [] (sp_need_size K) := by
  obtain ⟨fd, F⟩ := T.d_need_size
  exact ⟨fd, [], .nil, FunD.bindsN F fun _ _ _ _ _ _ us hl => match us, hl with | [_], _ => rfl, fn_need_size T F, F.kp⟩
abbrev N_BitRow_put : List Str := ["self", "number", "size"]
theorem sc_BitRow_put : FnScope N_BitRow_put ["self", "number", "size"] (defScope s_BitRow_put) := ⟨rfl, rfl, rfl, by decide +kernel, rfl, by decide +kernel, by decide +kernel⟩
theorem wk_BitRow_put {P : Program} {w : World} {K : PySem.W.Frag} {mg : Str → Option Value} {base : Heap} (T : TxB K mg base) (O0 : DOkN P w K mg base 2 (He.fAd K ("need_size", none)) ["size"] [] (sp_need_size K)) (O1 : DOkN P w K mg base 1 (He.fAd K ("is_number", none)) ["thing"] [] (sp_is_number K)) {f : Addr} {cdv : Value} {A : Around} {outer : List Env} {s : Shared} {H : Hp} {E : XK} 
    (hr : Room 2 (A.deeper (envOfC "BitRow.put" (defScope s_BitRow_put) s.heap.objs.size f cdv))) :
    PSs (cxOf (L2N.CX P w) P w K mg base N_BitRow_put "BitRow.put" (defScope s_BitRow_put) f cdv A outer s H E) (defBody s_BitRow_put) (t_BitRow_put K (fun c d _ H2 => E c d H2)) := by
  obtain ⟨fd0, ds0, v0, b0, G0, q0⟩ := O0
  obtain ⟨fd1, ds1, v1, b1, G1, q1⟩ := O1
  have hu1 := hu_of hr
  have hu64 := hr.units
  have tk : L2N.Takes (cxOf (L2N.CX P w) P w K mg base N_BitRow_put "BitRow.put" (defScope s_BitRow_put) f cdv A outer s H E) (fun c d _ H2 => E c d H2) := L2N.takes_of rfl rfl rfl rfl
  exact (pss_cons (ps_expr (pe_clN G0 (hr.mono (by decide)) rfl T.g_need_size q0 b0 v0 tk (pa_cons (pv 2) pa_nil)))
    (pss_cons (ps_if (PW.pt (pw_or (pt_not (pt_val (pe_clN G1 (hr.mono (by decide)) rfl T.g_is_number q1 b1 v1 tk (pa_cons (pv 1) pa_nil)))) (pw_or (pt_cmpR op_ltU (pv 1) (pe_int) (nomark _)) (pw_or1 (pt_cmpR op_gtU (pe_op op_shrU (pv 1) (pv 2)) (pe_int) (nomark _)))))) (pss_one (ps_rzN rfl tk T.x_BadBits T.g_BadBits rfl)) pss_nil)
    (pss_cons (ps_fld (pv 0) (pe_op op_orU (pe_op op_shlU (pe_fld (pv 0) rfl) (pv 2)) (pv 1)) rfl)
    (pss_cons (ps_fldaug (pv 0) (pv 2) in_add)
    (pss_one (ps_while (passes_of rfl) (pt_cmpR op_geU (pe_fld (pv 0) rfl) (pe_gint rfl T.g_BYTE) (nomark _)) (pss_cons (ps_fldaug (pv 0) (pe_gint rfl T.g_BYTE) in_sub)
    (pss_cons (ps_expr (pe_bm PySem.F.plainAttrs_list PySem.F.slot_list_append PySem.F.type_list_append mt_append (pe_fld (pv 0) rfl) (pa_cons (pe_op op_shrU (pe_fld (pv 0) rfl) (pe_fld (pv 0) rfl)) pa_nil)))
    (pss_one (ps_fld (pv 0) (pe_op op_andU (pe_fld (pv 0) rfl) (pe_op op_subU (pe_op op_shlU (pe_int) (pe_fld (pv 0) rfl)) (pe_int))) rfl))))))))))
theorem fn_BitRow_put {P : Program} {w : World} {K : PySem.W.Frag} {mg : Str → Option Value} {base : Heap} (T : TxB K mg base) {f : Addr} {fd : FuncData} (F : FunD K d_BitRow_put.name d_BitRow_put.qual d_BitRow_put.params d_BitRow_put.body d_BitRow_put.scope (d_BitRow_put.dvs K) (d_BitRow_put.kws K) f fd) :
    FnOk P w K mg base (L2N.CX P w) 3 f fd ["self", "number", "size"] (sp_BitRow_put K) :=
  F.ok sc_BitRow_put (fun vs H Q E h => len_BitRow_put h) (fun cdv A outer s H vs Q E hr h => ⟨t_BitRow_put K (fun c d _ H2 => E c d H2), wk_BitRow_put T (ok_need_size_1 T) (ok_is_number_1 T) hr, rd_BitRow_put (of_KBitRow T.toTx) h⟩)
theorem ok_BitRow_put_3 {P : Program} {w : World} {K : PySem.W.Frag} {mg : Str → Option Value} {base : Heap} (T : TxB K mg base) : DOkN P w K mg base 3 (He.fAd K ("BitRow", some "put")) ["self", "number", "size"] [] (sp_BitRow_put K) := by
  obtain ⟨fd, F⟩ := T.d_BitRow_put
  exact ⟨fd, [], .nil, FunD.bindsN F fun _ _ _ _ _ _ us hl => match us, hl with | [_, _, _], _ => rfl, fn_BitRow_put T F, F.kp⟩
abbrev N_BitRow_row : List Str := ["self"]
theorem sc_BitRow_row : FnScope N_BitRow_row ["self"] (defScope s_BitRow_row) := ⟨rfl, rfl, rfl, by decide +kernel, rfl, by decide +kernel, by decide +kernel⟩
theorem wk_BitRow_row {P : Program} {w : World} {K : PySem.W.Frag} {mg : Str → Option Value} {base : Heap} (T : TxB K mg base)  {f : Addr} {cdv : Value} {A : Around} {outer : List Env} {s : Shared} {H : Hp} {E : XK} 
    (hr : Room 0 (A.deeper (envOfC "BitRow.row" (defScope s_BitRow_row) s.heap.objs.size f cdv))) :
    PSs (cxOf (L2N.CX P w) P w K mg base N_BitRow_row "BitRow.row" (defScope s_BitRow_row) f cdv A outer s H E) (defBody s_BitRow_row) (t_BitRow_row K (fun c d _ H2 => E c d H2)) := by
  have hu1 := hu_of hr
  have hu64 := hr.units
  have tk : L2N.Takes (cxOf (L2N.CX P w) P w K mg base N_BitRow_row "BitRow.row" (defScope s_BitRow_row) f cdv A outer s H E) (fun c d _ H2 => E c d H2) := L2N.takes_of rfl rfl rfl rfl
  exact (pss_cons (ps_if (pt_cmpR (op_eqU hu64) (pe_fld (pv 0) rfl) (pe_int) (nomark _)) (pss_one (ps_ret (pe_callTy cr_listK (by rfl) T.f_list bt_list (pa_cons (pe_fld (pv 0) rfl) pa_nil)))) pss_nil)
    (pss_one (ps_ret (pe_op op_addU (pe_fld (pv 0) rfl) (pe_lst (pa_cons (pe_op op_shlU (pe_fld (pv 0) rfl) (pe_op op_subU (pe_gint rfl T.g_BYTE) (pe_fld (pv 0) rfl))) pa_nil))))))
theorem fn_BitRow_row {P : Program} {w : World} {K : PySem.W.Frag} {mg : Str → Option Value} {base : Heap} (T : TxB K mg base) {f : Addr} {fd : FuncData} (F : FunD K d_BitRow_row.name d_BitRow_row.qual d_BitRow_row.params d_BitRow_row.body d_BitRow_row.scope (d_BitRow_row.dvs K) (d_BitRow_row.kws K) f fd) :
    FnOk P w K mg base (L2N.CX P w) 1 f fd ["self"] (sp_BitRow_row K) :=
  F.ok sc_BitRow_row (fun vs H Q E h => len_BitRow_row h) (fun cdv A outer s H vs Q E hr h => ⟨t_BitRow_row K (fun c d _ H2 => E c d H2), wk_BitRow_row T  hr, rd_BitRow_row (of_KBitRow T.toTx) h⟩)
theorem ok_BitRow_row_1 {P : Program} {w : World} {K : PySem.W.Frag} {mg : Str → Option Value} {base : Heap} (T : TxB K mg base) : DOkN P w K mg base 1 (He.fAd K ("BitRow", some "row")) ["self"] [] (sp_BitRow_row K) := by
  obtain ⟨fd, F⟩ := T.d_BitRow_row
  exact ⟨fd, [], .nil, FunD.bindsN F fun _ _ _ _ _ _ us hl => match us, hl with | [_], _ => rfl, fn_BitRow_row T F, F.kp⟩
abbrev N__law_row : List Str := ["_law_bits_here", "_law_row_here", "_law_at", "_law_size", "_law_number", "_law_bit"]
theorem sc__law_row : FnScope N__law_row ["_law_bits_here"] (defScope s__law_row) := ⟨rfl, rfl, rfl, by decide +kernel, rfl, by decide +kernel, by decide +kernel⟩
theorem wk__law_row {P : Program} {w : World} {K : PySem.W.Frag} {mg : Str → Option Value} {base : Heap} (T : TxB K mg base) (O0 : DOkN P w K mg base 1 (He.fAd K ("BitRow", some "__init__")) ["self"] [] (sp_BitRow___init__ K)) (O1 : DOkN P w K mg base 3 (He.fAd K ("BitRow", some "put")) ["self", "number", "size"] [] (sp_BitRow_put K)) (O2 : DOkN P w K mg base 1 (He.fAd K ("BitRow", some "row")) ["self"] [] (sp_BitRow_row K)) {f : Addr} {cdv : Value} {A : Around} {outer : List Env} {s : Shared} {H : Hp} {E : XK} 
    (hr : Room 3 (A.deeper (envOfC "_law_row" (defScope s__law_row) s.heap.objs.size f cdv))) :
    PSs (cxOf (L2N.CX P w) P w K mg base N__law_row "_law_row" (defScope s__law_row) f cdv A outer s H E) (defBody s__law_row) (t__law_row K (fun c d _ H2 => E c d H2)) := by
  obtain ⟨fd0, ds0, v0, b0, G0, q0⟩ := O0
  obtain ⟨fd1, ds1, v1, b1, G1, q1⟩ := O1
  obtain ⟨fd2, ds2, v2, b2, G2, q2⟩ := O2
  have hu1 := hu_of hr
  have hu64 := hr.units
  have tk : L2N.Takes (cxOf (L2N.CX P w) P w K mg base N__law_row "_law_row" (defScope s__law_row) f cdv A outer s H E) (fun c d _ H2 => E c d H2) := L2N.takes_of rfl rfl rfl rfl
  exact (pss_cons (ps_set (i := 1) sc__law_row.nd rfl (Or.inl rfl) (pe_mk0N T.k_BitRow G0 (hr.mono (by decide)) rfl T.g_BitRow b0 v0 tk))
    (pss_cons (ps_set (i := 2) sc__law_row.nd rfl (Or.inl rfl) (pe_int))
    (pss_cons (ps_while (passes_of rfl) (pt_cmpR op_ltU (pv 2) (pe_callB cr_lenK (by rfl) T.f_len bb_len (pa_cons (pv 0) pa_nil)) (nomark _)) (pss_cons (ps_set (i := 3) sc__law_row.nd rfl (Or.inl rfl) (pe_op op_addU (pe_int) (pe_op op_modU (pv 2) (pe_int))))
    (pss_cons (ps_set (i := 4) sc__law_row.nd rfl (Or.inl rfl) (pe_int))
    (pss_cons (ps_for (passes_of rfl) rfl (pi_str (pe_slice sl_K (pv 0) (po_some (pv 2)) (po_some (pe_op op_addU (pv 2) (pv 3))))) (pg_name (i := 5) sc__law_row.nd rfl (Or.inl rfl)) (pss_one (ps_set (i := 4) sc__law_row.nd rfl (Or.inl rfl) (pe_op op_addU (pe_op op_mulU (pe_int) (pv 4)) (pe_callTy cr_intK (by rfl) T.f_int bt_int (pa_cons (pe_cmpR (op_eqU hu64) (pv 5) (pe_str) (nomark _)) pa_nil))))))
    (pss_cons (ps_expr (pe_mtN (pv 1) T.c_BitRow T.m_BitRow_put G1 (hr.mono (by decide)) b1 v1 tk (pa_cons (pv 4) (pa_cons (pe_callB cr_lenK (by rfl) T.f_len bb_len (pa_cons (pe_slice sl_K (pv 0) (po_some (pv 2)) (po_some (pe_op op_addU (pv 2) (pv 3)))) pa_nil)) pa_nil))))
    (pss_one (ps_set (i := 2) sc__law_row.nd rfl (Or.inl rfl) (pe_op op_addU (pv 2) (pv 3)))))))))
    (pss_one (ps_ret (pe_mt0N (pv 1) T.c_BitRow T.m_BitRow_row G2 (hr.mono (by decide)) b2 v2 tk))))))
theorem fn__law_row {P : Program} {w : World} {K : PySem.W.Frag} {mg : Str → Option Value} {base : Heap} (T : TxB K mg base) {f : Addr} {fd : FuncData} (F : FunD K d__law_row.name d__law_row.qual d__law_row.params d__law_row.body d__law_row.scope (d__law_row.dvs K) (d__law_row.kws K) f fd) :
    FnOk P w K mg base (L2N.CX P w) 4 f fd ["_law_bits_here"] (sp__law_row K) :=
  F.ok sc__law_row (fun vs H Q E h => len__law_row h) (fun cdv A outer s H vs Q E hr h => ⟨t__law_row K (fun c d _ H2 => E c d H2), wk__law_row T (ok_BitRow___init___1 T) (ok_BitRow_put_3 T) (ok_BitRow_row_1 T) hr, rd__law_row (of_KBitRow T.toTx) h⟩)
theorem ok__law_row_1 {P : Program} {w : World} {K : PySem.W.Frag} {mg : Str → Option Value} {base : Heap} (T : TxB K mg base) : DOkN P w K mg base 4 (He.fAd K ("_law_row", none)) ["_law_bits_here"] [] (sp__law_row K) := by
  obtain ⟨fd, F⟩ := T.d__law_row
  exact ⟨fd, [], .nil, FunD.bindsN F fun _ _ _ _ _ _ us hl => match us, hl with | [_], _ => rfl, fn__law_row T F, F.kp⟩
abbrev N_is_byte : List Str := ["thing"]
theorem sc_is_byte : FnScope N_is_byte ["thing"] (defScope s_is_byte) := ⟨rfl, rfl, rfl, by decide +kernel, rfl, by decide +kernel, by decide +kernel⟩
theorem wk_is_byte {P : Program} {w : World} {K : PySem.W.Frag} {mg : Str → Option Value} {base : Heap} (T : TxB K mg base)  {f : Addr} {cdv : Value} {A : Around} {outer : List Env} {s : Shared} {H : Hp} {E : XK} 
    (hr : Room 0 (A.deeper (envOfC "is_byte" (defScope s_is_byte) s.heap.objs.size f cdv))) :
    PSs (cxOf (L2N.CX P w) P w K mg base N_is_byte "is_byte" (defScope s_is_byte) f cdv A outer s H E) (defBody s_is_byte) (t_is_byte K (fun c d _ H2 => E c d H2)) := by
  have hu1 := hu_of hr
  have hu64 := hr.units
  have tk : L2N.Takes (cxOf (L2N.CX P w) P w K mg base N_is_byte "is_byte" (defScope s_is_byte) f cdv A outer s H E) (fun c d _ H2 => E c d H2) := L2N.takes_of rfl rfl rfl rfl
  exact (pss_one (ps_ret ((pe_and (pe_callB call_isi (by rfl) T.f_isinstance bb_isinstance (pa_cons (pv 0) (pa_cons (pe_bty rfl T.f_int bt_int) pa_nil))) (pe_and (pe_not (pe_callB call_isi (by rfl) T.f_isinstance bb_isinstance (pa_cons (pv 0) (pa_cons (pe_bty rfl T.f_bool bt_bool) pa_nil)))) (pe_one (pe_chain op_leU op_leU (pe_int) (pv 0) (pe_gint rfl T.g_MOST_BYTE))))))))
theorem fn_is_byte {P : Program} {w : World} {K : PySem.W.Frag} {mg : Str → Option Value} {base : Heap} (T : TxB K mg base) {f : Addr} {fd : FuncData} (F : FunD K d_is_byte.name d_is_byte.qual d_is_byte.params d_is_byte.body d_is_byte.scope (d_is_byte.dvs K) (d_is_byte.kws K) f fd) :
    FnOk P w K mg base (L2N.CX P w) 1 f fd ["thing"] (sp_is_byte K) :=
  F.ok sc_is_byte (fun vs H Q E h => len_is_byte h) (fun cdv A outer s H vs Q E hr h => ⟨t_is_byte K (fun c d _ H2 => E c d H2), wk_is_byte T  hr, rd_is_byte  h⟩)
theorem ok_is_byte_1 {P : Program} {w : World} {K : PySem.W.Frag} {mg : Str → Option Value} {base : Heap} (T : TxB K mg base) : DOkN P w K mg base 1 (He.fAd K ("is_byte", none)) ["thing"] [] (sp_is_byte K) := by
  obtain ⟨fd, F⟩ := T.d_is_byte
  exact ⟨fd, [], .nil, FunD.bindsN F fun _ _ _ _ _ _ us hl => match us, hl with | [_], _ => rfl, fn_is_byte T F, F.kp⟩
abbrev N_is_row : List Str := ["thing", "number"]
theorem sc_is_row : FnScope N_is_row ["thing"] (defScope s_is_row) := ⟨rfl, rfl, rfl, by decide +kernel, rfl, by decide +kernel, by decide +kernel⟩
theorem wk_is_row {P : Program} {w : World} {K : PySem.W.Frag} {mg : Str → Option Value} {base : Heap} (T : TxB K mg base) (O0 : DOkN P w K mg base 1 (He.fAd K ("is_byte", none)) ["thing"] [] (sp_is_byte K)) {f : Addr} {cdv : Value} {A : Around} {outer : List Env} {s : Shared} {H : Hp} {E : XK} 
    (hr : Room 1 (A.deeper (envOfC "is_row" (defScope s_is_row) s.heap.objs.size f cdv))) :
    PSs (cxOf (L2N.CX P w) P w K mg base N_is_row "is_row" (defScope s_is_row) f cdv A outer s H E) (defBody s_is_row) (t_is_row K (fun c d _ H2 => E c d H2)) := by
  obtain ⟨fd0, ds0, v0, b0, G0, q0⟩ := O0
  have hu1 := hu_of hr
  have hu64 := hr.units
  have tk : L2N.Takes (cxOf (L2N.CX P w) P w K mg base N_is_row "is_row" (defScope s_is_row) f cdv A outer s H E) (fun c d _ H2 => E c d H2) := L2N.takes_of rfl rfl rfl rfl
  exact (pss_one (ps_ret ((pe_and (pe_callB call_isi (by rfl) T.f_isinstance bb_isinstance (pa_cons (pv 0) (pa_cons (pe_bty rfl T.f_list bt_list) pa_nil))) (pe_one (pe_callB (cr_all rfl) (by rfl) T.f_all bb_all (pa_cons (pe_lc (own := [("number", 1)]) rfl sc_is_row.nd (pi_list (pv 0)) (blkOk_by (own := [("number", 1)]) (N := N_is_row) (sc := defScope s_is_row) (by decide +kernel)) (fun _ _ _ _ _ => (pg_name (i := 1) sc_is_row.nd rfl (Or.inl rfl))) (fun _ _ _ _ _ => pts_nil) (fun _ _ _ _ _ => (pe_clN G0 (hr.mono (by decide)) rfl T.g_is_byte q0 b0 v0 takes0N (pa_cons (pv 1) pa_nil)))) pa_nil)))))))
theorem fn_is_row {P : Program} {w : World} {K : PySem.W.Frag} {mg : Str → Option Value} {base : Heap} (T : TxB K mg base) {f : Addr} {fd : FuncData} (F : FunD K d_is_row.name d_is_row.qual d_is_row.params d_is_row.body d_is_row.scope (d_is_row.dvs K) (d_is_row.kws K) f fd) :
    FnOk P w K mg base (L2N.CX P w) 2 f fd ["thing"] (sp_is_row K) :=
  F.ok sc_is_row (fun vs H Q E h => len_is_row h) (fun cdv A outer s H vs Q E hr h => ⟨t_is_row K (fun c d _ H2 => E c d H2), wk_is_row T (ok_is_byte_1 T) hr, rd_is_row  h⟩)
theorem ok_is_row_1 {P : Program} {w : World} {K : PySem.W.Frag} {mg : Str → Option Value} {base : Heap} (T : TxB K mg base) : DOkN P w K mg base 2 (He.fAd K ("is_row", none)) ["thing"] [] (sp_is_row K) := by
  obtain ⟨fd, F⟩ := T.d_is_row
  exact ⟨fd, [], .nil, FunD.bindsN F fun _ _ _ _ _ _ us hl => match us, hl with | [_], _ => rfl, fn_is_row T F, F.kp⟩
abbrev N_need_row : List Str := ["thing"]
theorem sc_need_row : FnScope N_need_row ["thing"] (defScope s_need_row) := ⟨rfl, rfl, rfl, by decide +kernel, rfl, by decide +kernel, by decide +kernel⟩
theorem wk_need_row {P : Program} {w : World} {K : PySem.W.Frag} {mg : Str → Option Value} {base : Heap} (T : TxB K mg base) (O0 : DOkN P w K mg base 2 (He.fAd K ("is_row", none)) ["thing"] [] (sp_is_row K)) {f : Addr} {cdv : Value} {A : Around} {outer : List Env} {s : Shared} {H : Hp} {E : XK} 
    (hr : Room 2 (A.deeper (envOfC "need_row" (defScope s_need_row) s.heap.objs.size f cdv))) :
    PSs (cxOf (L2N.CX P w) P w K mg base N_need_row "need_row" (defScope s_need_row) f cdv A outer s H E) (defBody s_need_row) (t_need_row K (fun c d _ H2 => E c d H2)) := by
  obtain ⟨fd0, ds0, v0, b0, G0, q0⟩ := O0
  have hu1 := hu_of hr
  have hu64 := hr.units
  have tk : L2N.Takes (cxOf (L2N.CX P w) P w K mg base N_need_row "need_row" (defScope s_need_row) f cdv A outer s H E) (fun c d _ H2 => E c d H2) := L2N.takes_of rfl rfl rfl rfl
  exact (pss_cons (ps_if (pt_not (pt_val (pe_clN G0 (hr.mono (by decide)) rfl T.g_is_row q0 b0 v0 tk (pa_cons (pv 0) pa_nil)))) (pss_one (ps_rzN rfl tk T.x_BadRow T.g_BadRow rfl)) pss_nil)
    (pss_one (ps_ret (pe_callTy cr_listK (by rfl) T.f_list bt_list (pa_cons (pv 0) pa_nil)))))
theorem fn_need_row {P : Program} {w : World} {K : PySem.W.Frag} {mg : Str → Option Value} {base : Heap} (T : TxB K mg base) {f : Addr} {fd : FuncData} (F : FunD K d_need_row.name d_need_row.qual d_need_row.params d_need_row.body d_need_row.scope (d_need_row.dvs K) (d_need_row.kws K) f fd) :
    FnOk P w K mg base (L2N.CX P w) 3 f fd ["thing"] (sp_need_row K) :=
  F.ok sc_need_row (fun vs H Q E h => len_need_row h) (fun cdv A outer s H vs Q E hr h => ⟨t_need_row K (fun c d _ H2 => E c d H2), wk_need_row T (ok_is_row_1 T) hr, rd_need_row  h⟩)
theorem ok_need_row_1 {P : Program} {w : World} {K : PySem.W.Frag} {mg : Str → Option Value} {base : Heap} (T : TxB K mg base) : DOkN P w K mg base 3 (He.fAd K ("need_row", none)) ["thing"] [] (sp_need_row K) := by
  obtain ⟨fd, F⟩ := T.d_need_row
  exact ⟨fd, [], .nil, FunD.bindsN F fun _ _ _ _ _ _ us hl => match us, hl with | [_], _ => rfl, fn_need_row T F, F.kp⟩
abbrev N_BitReader___init__ : List Str := ["self", "row"]
theorem sc_BitReader___init__ : FnScope N_BitReader___init__ ["self", "row"] (defScope s_BitReader___init__) := ⟨rfl, rfl, rfl, by decide +kernel, rfl, by decide +kernel, by decide +kernel⟩
theorem wk_BitReader___init__ {P : Program} {w : World} {K : PySem.W.Frag} {mg : Str → Option Value} {base : Heap} (T : TxB K mg base) (O0 : DOkN P w K mg base 3 (He.fAd K ("need_row", none)) ["thing"] [] (sp_need_row K)) {f : Addr} {cdv : Value} {A : Around} {outer : List Env} {s : Shared} {H : Hp} {E : XK} 
    (hr : Room 3 (A.deeper (envOfC "BitReader.__init__" (defScope s_BitReader___init__) s.heap.objs.size f cdv))) :
    PSs (cxOf (L2N.CX P w) P w K mg base N_BitReader___init__ "BitReader.__init__" (defScope s_BitReader___init__) f cdv A outer s H E) (defBody s_BitReader___init__) (t_BitReader___init__ K (fun c d _ H2 => E c d H2)) := by
  obtain ⟨fd0, ds0, v0, b0, G0, q0⟩ := O0
  have hu1 := hu_of hr
  have hu64 := hr.units
  have tk : L2N.Takes (cxOf (L2N.CX P w) P w K mg base N_BitReader___init__ "BitReader.__init__" (defScope s_BitReader___init__) f cdv A outer s H E) (fun c d _ H2 => E c d H2) := L2N.takes_of rfl rfl rfl rfl
  exact (pss_cons (ps_fld (pv 0) (pe_clN G0 (hr.mono (by decide)) rfl T.g_need_row q0 b0 v0 tk (pa_cons (pv 1) pa_nil)) rfl)
    (pss_one (ps_fld (pv 0) (pe_int) rfl)))
theorem fn_BitReader___init__ {P : Program} {w : World} {K : PySem.W.Frag} {mg : Str → Option Value} {base : Heap} (T : TxB K mg base) {f : Addr} {fd : FuncData} (F : FunD K d_BitReader___init__.name d_BitReader___init__.qual d_BitReader___init__.params d_BitReader___init__.body d_BitReader___init__.scope (d_BitReader___init__.dvs K) (d_BitReader___init__.kws K) f fd) :
    FnOk P w K mg base (L2N.CX P w) 4 f fd ["self", "row"] (sp_BitReader___init__ K) :=
  F.ok sc_BitReader___init__ (fun vs H Q E h => len_BitReader___init__ h) (fun cdv A outer s H vs Q E hr h => ⟨t_BitReader___init__ K (fun c d _ H2 => E c d H2), wk_BitReader___init__ T (ok_need_row_1 T) hr, rd_BitReader___init__ (of_KBitReader T.toTx) h⟩)
theorem ok_BitReader___init___2 {P : Program} {w : World} {K : PySem.W.Frag} {mg : Str → Option Value} {base : Heap} (T : TxB K mg base) : DOkN P w K mg base 4 (He.fAd K ("BitReader", some "__init__")) ["self", "row"] [] (sp_BitReader___init__ K) := by
  obtain ⟨fd, F⟩ := T.d_BitReader___init__
  exact ⟨fd, [], .nil, FunD.bindsN F fun _ _ _ _ _ _ us hl => match us, hl with | [_, _], _ => rfl, fn_BitReader___init__ T F, F.kp⟩
abbrev N_BitReader_left : List Str := ["self"]
theorem sc_BitReader_left : FnScope N_BitReader_left ["self"] (defScope s_BitReader_left) := ⟨rfl, rfl, rfl, by decide +kernel, rfl, by decide +kernel, by decide +kernel⟩
theorem wk_BitReader_left {P : Program} {w : World} {K : PySem.W.Frag} {mg : Str → Option Value} {base : Heap} (T : TxB K mg base)  {f : Addr} {cdv : Value} {A : Around} {outer : List Env} {s : Shared} {H : Hp} {E : XK} 
    (hr : Room 0 (A.deeper (envOfC "BitReader.left" (defScope s_BitReader_left) s.heap.objs.size f cdv))) :
    PSs (cxOf (L2N.CX P w) P w K mg base N_BitReader_left "BitReader.left" (defScope s_BitReader_left) f cdv A outer s H E) (defBody s_BitReader_left) (t_BitReader_left K (fun c d _ H2 => E c d H2)) := by
  have hu1 := hu_of hr
  have hu64 := hr.units
  have tk : L2N.Takes (cxOf (L2N.CX P w) P w K mg base N_BitReader_left "BitReader.left" (defScope s_BitReader_left) f cdv A outer s H E) (fun c d _ H2 => E c d H2) := L2N.takes_of rfl rfl rfl rfl
  exact (pss_one (ps_ret (pe_op op_subU (pe_op op_mulU (pe_gint rfl T.g_BYTE) (pe_callB cr_lenK (by rfl) T.f_len bb_len (pa_cons (pe_fld (pv 0) rfl) pa_nil))) (pe_fld (pv 0) rfl))))
theorem fn_BitReader_left {P : Program} {w : World} {K : PySem.W.Frag} {mg : Str → Option Value} {base : Heap} (T : TxB K mg base) {f : Addr} {fd : FuncData} (F : FunD K d_BitReader_left.name d_BitReader_left.qual d_BitReader_left.params d_BitReader_left.body d_BitReader_left.scope (d_BitReader_left.dvs K) (d_BitReader_left.kws K) f fd) :
    FnOk P w K mg base (L2N.CX P w) 1 f fd ["self"] (sp_BitReader_left K) :=
  F.ok sc_BitReader_left (fun vs H Q E h => len_BitReader_left h) (fun cdv A outer s H vs Q E hr h => ⟨t_BitReader_left K (fun c d _ H2 => E c d H2), wk_BitReader_left T  hr, rd_BitReader_left (of_KBitReader T.toTx) h⟩)
theorem ok_BitReader_left_1 {P : Program} {w : World} {K : PySem.W.Frag} {mg : Str → Option Value} {base : Heap} (T : TxB K mg base) : DOkN P w K mg base 1 (He.fAd K ("BitReader", some "left")) ["self"] [] (sp_BitReader_left K) := by
  obtain ⟨fd, F⟩ := T.d_BitReader_left
  exact ⟨fd, [], .nil, FunD.bindsN F fun _ _ _ _ _ _ us hl => match us, hl with | [_], _ => rfl, fn_BitReader_left T F, F.kp⟩
abbrev N_BitReader_take : List Str := ["self", "size", "begin", "over", "end", "rest", "number", "byte"]
theorem sc_BitReader_take : FnScope N_BitReader_take ["self", "size"] (defScope s_BitReader_take) := ⟨rfl, rfl, rfl, by decide +kernel, rfl, by decide +kernel, by decide +kernel⟩
theorem wk_BitReader_take {P : Program} {w : World} {K : PySem.W.Frag} {mg : Str → Option Value} {base : Heap} (T : TxB K mg base) (O0 : DOkN P w K mg base 2 (He.fAd K ("need_size", none)) ["size"] [] (sp_need_size K)) (O1 : DOkN P w K mg base 1 (He.fAd K ("BitReader", some "left")) ["self"] [] (sp_BitReader_left K)) {f : Addr} {cdv : Value} {A : Around} {outer : List Env} {s : Shared} {H : Hp} {E : XK} 
    (hr : Room 2 (A.deeper (envOfC "BitReader.take" (defScope s_BitReader_take) s.heap.objs.size f cdv))) :
    PSs (cxOf (L2N.CX P w) P w K mg base N_BitReader_take "BitReader.take" (defScope s_BitReader_take) f cdv A outer s H E) (defBody s_BitReader_take) (t_BitReader_take K (fun c d _ H2 => E c d H2)) := by
  obtain ⟨fd0, ds0, v0, b0, G0, q0⟩ := O0
  obtain ⟨fd1, ds1, v1, b1, G1, q1⟩ := O1
  have hu1 := hu_of hr
  have hu64 := hr.units
  have tk : L2N.Takes (cxOf (L2N.CX P w) P w K mg base N_BitReader_take "BitReader.take" (defScope s_BitReader_take) f cdv A outer s H E) (fun c d _ H2 => E c d H2) := L2N.takes_of rfl rfl rfl rfl
  exact (pss_cons (ps_expr (pe_clN G0 (hr.mono (by decide)) rfl T.g_need_size q0 b0 v0 tk (pa_cons (pv 1) pa_nil)))
    (pss_cons (ps_if (pt_cmpR op_ltU (pe_mt0N (pv 0) T.c_BitReader T.m_BitReader_left G1 (hr.mono (by decide)) b1 v1 tk) (pv 1) (nomark _)) (pss_one (ps_rzN rfl tk T.x_NoBits T.g_NoBits rfl)) pss_nil)
    (pss_cons (ps_asg (pe_callB cr_divmodK (by rfl) T.f_divmod bb_divmod (pa_cons (pe_fld (pv 0) rfl) (pa_cons (pe_gint rfl T.g_BYTE) pa_nil))) (pg_tup rfl (pgs_cons (pg_name (i := 2) sc_BitReader_take.nd rfl (Or.inl rfl)) (pgs_cons (pg_name (i := 3) sc_BitReader_take.nd rfl (Or.inl rfl)) pgs_nil))))
    (pss_cons (ps_asg (pe_callB cr_divmodK (by rfl) T.f_divmod bb_divmod (pa_cons (pe_op op_subU (pe_op op_addU (pe_op op_addU (pe_fld (pv 0) rfl) (pv 1)) (pe_gint rfl T.g_BYTE)) (pe_int)) (pa_cons (pe_gint rfl T.g_BYTE) pa_nil))) (pg_tup rfl (pgs_cons (pg_name (i := 4) sc_BitReader_take.nd rfl (Or.inl rfl)) (pgs_cons (pg_name (i := 5) sc_BitReader_take.nd rfl (Or.inl rfl)) pgs_nil))))
    (pss_cons (ps_set (i := 6) sc_BitReader_take.nd rfl (Or.inl rfl) (pe_int))
    (pss_cons (ps_for (passes_of rfl) rfl (pi_list (pe_slice sl_K (pe_fld (pv 0) rfl) (po_some (pv 2)) (po_some (pv 4)))) (pg_name (i := 7) sc_BitReader_take.nd rfl (Or.inl rfl)) (pss_one (ps_set (i := 6) sc_BitReader_take.nd rfl (Or.inl rfl) (pe_op op_orU (pe_op op_shlU (pv 6) (pe_gint rfl T.g_BYTE)) (pv 7)))))
    (pss_cons (ps_set (i := 6) sc_BitReader_take.nd rfl (Or.inl rfl) (pe_op op_andU (pv 6) (pe_op op_subU (pe_op op_shlU (pe_int) (pe_op op_subU (pe_op op_mulU (pe_gint rfl T.g_BYTE) (pe_op op_subU (pv 4) (pv 2))) (pv 3))) (pe_int))))
    (pss_cons (ps_fldaug (pv 0) (pv 1) in_add)
    (pss_one (ps_ret (pe_op op_shrU (pv 6) (pe_op op_subU (pe_op op_subU (pe_gint rfl T.g_BYTE) (pe_int)) (pv 5)))))))))))))
theorem fn_BitReader_take {P : Program} {w : World} {K : PySem.W.Frag} {mg : Str → Option Value} {base : Heap} (T : TxB K mg base) {f : Addr} {fd : FuncData} (F : FunD K d_BitReader_take.name d_BitReader_take.qual d_BitReader_take.params d_BitReader_take.body d_BitReader_take.scope (d_BitReader_take.dvs K) (d_BitReader_take.kws K) f fd) :
    FnOk P w K mg base (L2N.CX P w) 3 f fd ["self", "size"] (sp_BitReader_take K) :=
  F.ok sc_BitReader_take (fun vs H Q E h => len_BitReader_take h) (fun cdv A outer s H vs Q E hr h => ⟨t_BitReader_take K (fun c d _ H2 => E c d H2), wk_BitReader_take T (ok_need_size_1 T) (ok_BitReader_left_1 T) hr, rd_BitReader_take (of_KBitReader T.toTx) h⟩)
theorem ok_BitReader_take_2 {P : Program} {w : World} {K : PySem.W.Frag} {mg : Str → Option Value} {base : Heap} (T : TxB K mg base) : DOkN P w K mg base 3 (He.fAd K ("BitReader", some "take")) ["self", "size"] [] (sp_BitReader_take K) := by
  obtain ⟨fd, F⟩ := T.d_BitReader_take
  exact ⟨fd, [], .nil, FunD.bindsN F fun _ _ _ _ _ _ us hl => match us, hl with | [_, _], _ => rfl, fn_BitReader_take T F, F.kp⟩
abbrev N__law_due : List Str := ["_law_codes_here", "_law_bits_here", "_law_at", "_law_word_here", "_law_bit", "_law_begun", "_law_code"]
theorem sc__law_due : FnScope N__law_due ["_law_codes_here", "_law_bits_here", "_law_at"] (defScope s__law_due) := ⟨rfl, rfl, rfl, by decide +kernel, rfl, by decide +kernel, by decide +kernel⟩
theorem wk__law_due {P : Program} {w : World} {K : PySem.W.Frag} {mg : Str → Option Value} {base : Heap} (T : TxB K mg base)  {f : Addr} {cdv : Value} {A : Around} {outer : List Env} {s : Shared} {H : Hp} {E : XK} 
    (hr : Room 0 (A.deeper (envOfC "_law_due" (defScope s__law_due) s.heap.objs.size f cdv))) :
    PSs (cxOf (L2N.CX P w) P w K mg base N__law_due "_law_due" (defScope s__law_due) f cdv A outer s H E) (defBody s__law_due) (t__law_due K (fun c d _ H2 => E c d H2)) := by
  have hu1 := hu_of hr
  have hu64 := hr.units
  have tk : L2N.Takes (cxOf (L2N.CX P w) P w K mg base N__law_due "_law_due" (defScope s__law_due) f cdv A outer s H E) (fun c d _ H2 => E c d H2) := L2N.takes_of rfl rfl rfl rfl
  exact (pss_cons (ps_set (i := 3) sc__law_due.nd rfl (Or.inr rfl) (pe_str))
    (pss_cons (ps_for (passes_of rfl) rfl (pi_str (pe_slice sl_K (pv 1) (po_some (pv 2)) po_none)) (pg_name (i := 4) sc__law_due.nd rfl (Or.inl rfl)) (pss_cons (ps_set (i := 3) sc__law_due.nd rfl (Or.inr rfl) (pe_op op_addU (pv 3) (pv 4)))
    (pss_cons (ps_setLc (i := 5) (own := [("_law_code", 6)]) rfl sc__law_due.nd rfl rfl (sw_true rfl rfl rfl (by decide +kernel)) (pi_list (pv 0)) (blkOk_by (own := [("_law_code", 6)]) (N := N__law_due) (sc := defScope s__law_due) (by decide +kernel)) (fun _ _ _ _ _ => (pg_name (i := 6) sc__law_due.nd rfl (Or.inl rfl))) (fun _ _ _ _ _ => pts_one (pt_val (pe_starts (pv 6) (pv 3)))) (fun _ _ _ _ _ => (pv 6)))
    (pss_cons (ps_if (pt_cmpR op_inU (pv 3) (pv 0) (by rfl)) (pss_one (ps_ret (pe_tup (pa_cons (pe_bm PySem.F.plainAttrs_list PySem.F.slot_list_index PySem.F.type_list_index mt_index (pv 0) (pa_cons (pv 3) pa_nil)) (pa_cons (pe_op op_addU (pv 2) (pe_callB cr_lenK (by rfl) T.f_len bb_len (pa_cons (pv 3) pa_nil))) pa_nil))))) pss_nil)
    (pss_one (ps_if (pt_cmpR (op_eqU hu64) (pv 5) (pe_lst pa_nil) (nomark _)) (pss_one (ps_ret (pe_tup (pa_cons (pe_tup (pa_cons (pe_str) (pa_cons (pe_lst (pa_cons (pe_bl) (pa_cons (pe_bl) pa_nil))) pa_nil))) (pa_cons (pv 2) pa_nil))))) pss_nil))))))
    (pss_one (ps_ret (pe_tup (pa_cons (pe_tup (pa_cons (pe_str) (pa_cons (pe_lst (pa_cons (pe_bl) (pa_cons (pe_bl) pa_nil))) pa_nil))) (pa_cons (pv 2) pa_nil)))))))
theorem fn__law_due {P : Program} {w : World} {K : PySem.W.Frag} {mg : Str → Option Value} {base : Heap} (T : TxB K mg base) {f : Addr} {fd : FuncData} (F : FunD K d__law_due.name d__law_due.qual d__law_due.params d__law_due.body d__law_due.scope (d__law_due.dvs K) (d__law_due.kws K) f fd) :
    FnOk P w K mg base (L2N.CX P w) 1 f fd ["_law_codes_here", "_law_bits_here", "_law_at"] (sp__law_due K) :=
  F.ok sc__law_due (fun vs H Q E h => len__law_due h) (fun cdv A outer s H vs Q E hr h => ⟨t__law_due K (fun c d _ H2 => E c d H2), wk__law_due T  hr, rd__law_due  h⟩)
theorem ok__law_due_3 {P : Program} {w : World} {K : PySem.W.Frag} {mg : Str → Option Value} {base : Heap} (T : TxB K mg base) : DOkN P w K mg base 1 (He.fAd K ("_law_due", none)) ["_law_codes_here", "_law_bits_here", "_law_at"] [] (sp__law_due K) := by
  obtain ⟨fd, F⟩ := T.d__law_due
  exact ⟨fd, [], .nil, FunD.bindsN F fun _ _ _ _ _ _ us hl => match us, hl with | [_, _, _], _ => rfl, fn__law_due T F, F.kp⟩
abbrev N_BitReader_place : List Str := ["self"]
theorem sc_BitReader_place : FnScope N_BitReader_place ["self"] (defScope s_BitReader_place) := ⟨rfl, rfl, rfl, by decide +kernel, rfl, by decide +kernel, by decide +kernel⟩
theorem wk_BitReader_place {P : Program} {w : World} {K : PySem.W.Frag} {mg : Str → Option Value} {base : Heap} (T : TxB K mg base)  {f : Addr} {cdv : Value} {A : Around} {outer : List Env} {s : Shared} {H : Hp} {E : XK} 
    (hr : Room 0 (A.deeper (envOfC "BitReader.place" (defScope s_BitReader_place) s.heap.objs.size f cdv))) :
    PSs (cxOf (L2N.CX P w) P w K mg base N_BitReader_place "BitReader.place" (defScope s_BitReader_place) f cdv A outer s H E) (defBody s_BitReader_place) (t_BitReader_place K (fun c d _ H2 => E c d H2)) := by
  have hu1 := hu_of hr
  have hu64 := hr.units
  have tk : L2N.Takes (cxOf (L2N.CX P w) P w K mg base N_BitReader_place "BitReader.place" (defScope s_BitReader_place) f cdv A outer s H E) (fun c d _ H2 => E c d H2) := L2N.takes_of rfl rfl rfl rfl
  exact (pss_one (ps_ret (pe_fld (pv 0) rfl)))
theorem fn_BitReader_place {P : Program} {w : World} {K : PySem.W.Frag} {mg : Str → Option Value} {base : Heap} (T : TxB K mg base) {f : Addr} {fd : FuncData} (F : FunD K d_BitReader_place.name d_BitReader_place.qual d_BitReader_place.params d_BitReader_place.body d_BitReader_place.scope (d_BitReader_place.dvs K) (d_BitReader_place.kws K) f fd) :
    FnOk P w K mg base (L2N.CX P w) 1 f fd ["self"] (sp_BitReader_place K) :=
  F.ok sc_BitReader_place (fun vs H Q E h => len_BitReader_place h) (fun cdv A outer s H vs Q E hr h => ⟨t_BitReader_place K (fun c d _ H2 => E c d H2), wk_BitReader_place T  hr, rd_BitReader_place (of_KBitReader T.toTx) h⟩)
theorem ok_BitReader_place_1 {P : Program} {w : World} {K : PySem.W.Frag} {mg : Str → Option Value} {base : Heap} (T : TxB K mg base) : DOkN P w K mg base 1 (He.fAd K ("BitReader", some "place")) ["self"] [] (sp_BitReader_place K) := by
  obtain ⟨fd, F⟩ := T.d_BitReader_place
  exact ⟨fd, [], .nil, FunD.bindsN F fun _ _ _ _ _ _ us hl => match us, hl with | [_], _ => rfl, fn_BitReader_place T F, F.kp⟩
abbrev N_BitReader_go : List Str := ["self", "place"]
theorem sc_BitReader_go : FnScope N_BitReader_go ["self", "place"] (defScope s_BitReader_go) := ⟨rfl, rfl, rfl, by decide +kernel, rfl, by decide +kernel, by decide +kernel⟩
theorem wk_BitReader_go {P : Program} {w : World} {K : PySem.W.Frag} {mg : Str → Option Value} {base : Heap} (T : TxB K mg base) (O0 : DOkN P w K mg base 1 (He.fAd K ("is_number", none)) ["thing"] [] (sp_is_number K)) {f : Addr} {cdv : Value} {A : Around} {outer : List Env} {s : Shared} {H : Hp} {E : XK} 
    (hr : Room 1 (A.deeper (envOfC "BitReader.go" (defScope s_BitReader_go) s.heap.objs.size f cdv))) :
    PSs (cxOf (L2N.CX P w) P w K mg base N_BitReader_go "BitReader.go" (defScope s_BitReader_go) f cdv A outer s H E) (defBody s_BitReader_go) (t_BitReader_go K (fun c d _ H2 => E c d H2)) := by
  obtain ⟨fd0, ds0, v0, b0, G0, q0⟩ := O0
  have hu1 := hu_of hr
  have hu64 := hr.units
  have tk : L2N.Takes (cxOf (L2N.CX P w) P w K mg base N_BitReader_go "BitReader.go" (defScope s_BitReader_go) f cdv A outer s H E) (fun c d _ H2 => E c d H2) := L2N.takes_of rfl rfl rfl rfl
  exact (pss_cons (ps_if (PW.pt (pw_or (pt_not (pt_val (pe_clN G0 (hr.mono (by decide)) rfl T.g_is_number q0 b0 v0 tk (pa_cons (pv 1) pa_nil)))) (pw_or1 (pt_not (pt_chain op_leU op_leU (pe_int) (pv 1) (pe_op op_mulU (pe_gint rfl T.g_BYTE) (pe_callB cr_lenK (by rfl) T.f_len bb_len (pa_cons (pe_fld (pv 0) rfl) pa_nil)))))))) (pss_one (ps_rzN rfl tk T.x_BadBits T.g_BadBits rfl)) pss_nil)
    (pss_one (ps_fld (pv 0) (pv 1) rfl)))
theorem fn_BitReader_go {P : Program} {w : World} {K : PySem.W.Frag} {mg : Str → Option Value} {base : Heap} (T : TxB K mg base) {f : Addr} {fd : FuncData} (F : FunD K d_BitReader_go.name d_BitReader_go.qual d_BitReader_go.params d_BitReader_go.body d_BitReader_go.scope (d_BitReader_go.dvs K) (d_BitReader_go.kws K) f fd) :
    FnOk P w K mg base (L2N.CX P w) 2 f fd ["self", "place"] (sp_BitReader_go K) :=
  F.ok sc_BitReader_go (fun vs H Q E h => len_BitReader_go h) (fun cdv A outer s H vs Q E hr h => ⟨t_BitReader_go K (fun c d _ H2 => E c d H2), wk_BitReader_go T (ok_is_number_1 T) hr, rd_BitReader_go (of_KBitReader T.toTx) h⟩)
theorem ok_BitReader_go_2 {P : Program} {w : World} {K : PySem.W.Frag} {mg : Str → Option Value} {base : Heap} (T : TxB K mg base) : DOkN P w K mg base 2 (He.fAd K ("BitReader", some "go")) ["self", "place"] [] (sp_BitReader_go K) := by
  obtain ⟨fd, F⟩ := T.d_BitReader_go
  exact ⟨fd, [], .nil, FunD.bindsN F fun _ _ _ _ _ _ us hl => match us, hl with | [_, _], _ => rfl, fn_BitReader_go T F, F.kp⟩
abbrev N_CodeReader_thing : List Str := ["self", "reader", "begin", "size", "code"]
theorem sc_CodeReader_thing : FnScope N_CodeReader_thing ["self", "reader"] (defScope s_CodeReader_thing) := ⟨rfl, rfl, rfl, by decide +kernel, rfl, by decide +kernel, by decide +kernel⟩
theorem wk_CodeReader_thing {P : Program} {w : World} {K : PySem.W.Frag} {mg : Str → Option Value} {base : Heap} (T : TxB K mg base) (O0 : DOkN P w K mg base 1 (He.fAd K ("BitReader", some "place")) ["self"] [] (sp_BitReader_place K)) (O1 : DOkN P w K mg base 1 (He.fAd K ("BitReader", some "left")) ["self"] [] (sp_BitReader_left K)) (O2 : DOkN P w K mg base 3 (He.fAd K ("BitReader", some "take")) ["self", "size"] [] (sp_BitReader_take K)) (O3 : DOkN P w K mg base 2 (He.fAd K ("BitReader", some "go")) ["self", "place"] [] (sp_BitReader_go K)) {f : Addr} {cdv : Value} {A : Around} {outer : List Env} {s : Shared} {H : Hp} {E : XK} 
    (hr : Room 3 (A.deeper (envOfC "CodeReader.thing" (defScope s_CodeReader_thing) s.heap.objs.size f cdv))) :
    PSs (cxOf (L2N.CX P w) P w K mg base N_CodeReader_thing "CodeReader.thing" (defScope s_CodeReader_thing) f cdv A outer s H E) (defBody s_CodeReader_thing) (t_CodeReader_thing K (fun c d _ H2 => E c d H2)) := by
  obtain ⟨fd0, ds0, v0, b0, G0, q0⟩ := O0
  obtain ⟨fd1, ds1, v1, b1, G1, q1⟩ := O1
  obtain ⟨fd2, ds2, v2, b2, G2, q2⟩ := O2
  obtain ⟨fd3, ds3, v3, b3, G3, q3⟩ := O3
  have hu1 := hu_of hr
  have hu64 := hr.units
  have tk : L2N.Takes (cxOf (L2N.CX P w) P w K mg base N_CodeReader_thing "CodeReader.thing" (defScope s_CodeReader_thing) f cdv A outer s H E) (fun c d _ H2 => E c d H2) := L2N.takes_of rfl rfl rfl rfl
  exact (pss_cons (ps_set (i := 2) sc_CodeReader_thing.nd rfl (Or.inl rfl) (pe_mt0N (pv 1) T.c_BitReader T.m_BitReader_place G0 (hr.mono (by decide)) b0 v0 tk))
    (pss_cons (ps_set (i := 3) sc_CodeReader_thing.nd rfl (Or.inl rfl) (pe_int))
    (pss_cons (ps_set (i := 4) sc_CodeReader_thing.nd rfl (Or.inl rfl) (pe_int))
    (pss_cons (ps_while (passes_of rfl) (pt_cmpR op_gtU (pe_mt0N (pv 1) T.c_BitReader T.m_BitReader_left G1 (hr.mono (by decide)) b1 v1 tk) (pe_int) (nomark _)) (pss_cons (ps_set (i := 4) sc_CodeReader_thing.nd rfl (Or.inl rfl) (pe_op op_orU (pe_op op_shlU (pv 4) (pe_int)) (pe_mtN (pv 1) T.c_BitReader T.m_BitReader_take G2 (hr.mono (by decide)) b2 v2 tk (pa_cons (pe_int) pa_nil))))
    (pss_cons (ps_aug (i := 3) sc_CodeReader_thing.nd rfl (Or.inl rfl) (pe_int) ip_addU)
    (pss_cons (ps_if (pt_cmp (pc_din hu1 (pe_tup (pa_cons (pv 3) (pa_cons (pv 4) pa_nil))) (pe_fld (pv 0) rfl)) (by rfl)) (pss_one (ps_ret (pe_dget hu1 (pe_fld (pv 0) rfl) (pe_tup (pa_cons (pv 3) (pa_cons (pv 4) pa_nil))) (fun _ _ => rfl)))) pss_nil)
    (pss_one (ps_if (pt_cmp (pc_dnotin hu1 (pe_tup (pa_cons (pv 3) (pa_cons (pv 4) pa_nil))) (pe_fld (pv 0) rfl)) (by rfl)) (pss_cons (ps_expr (pe_mtN (pv 1) T.c_BitReader T.m_BitReader_go G3 (hr.mono (by decide)) b3 v3 tk (pa_cons (pv 2) pa_nil)))
    (pss_one (ps_rzN rfl tk T.x_BadCode T.g_BadCode rfl))) pss_nil))))))
    (pss_cons (ps_expr (pe_mtN (pv 1) T.c_BitReader T.m_BitReader_go G3 (hr.mono (by decide)) b3 v3 tk (pa_cons (pv 2) pa_nil)))
    (pss_one (ps_rzN rfl tk T.x_NoBits T.g_NoBits rfl)))))))
theorem fn_CodeReader_thing {P : Program} {w : World} {K : PySem.W.Frag} {mg : Str → Option Value} {base : Heap} (T : TxB K mg base) {f : Addr} {fd : FuncData} (F : FunD K d_CodeReader_thing.name d_CodeReader_thing.qual d_CodeReader_thing.params d_CodeReader_thing.body d_CodeReader_thing.scope (d_CodeReader_thing.dvs K) (d_CodeReader_thing.kws K) f fd) :
    FnOk P w K mg base (L2N.CX P w) 4 f fd ["self", "reader"] (sp_CodeReader_thing K) :=
  F.ok sc_CodeReader_thing (fun vs H Q E h => len_CodeReader_thing h) (fun cdv A outer s H vs Q E hr h => ⟨t_CodeReader_thing K (fun c d _ H2 => E c d H2), wk_CodeReader_thing T (ok_BitReader_place_1 T) (ok_BitReader_left_1 T) (ok_BitReader_take_2 T) (ok_BitReader_go_2 T) hr, rd_CodeReader_thing (of_KBitReader T.toTx) (of_KCodeReader T.toTx) h⟩)
theorem ok_CodeReader_thing_2 {P : Program} {w : World} {K : PySem.W.Frag} {mg : Str → Option Value} {base : Heap} (T : TxB K mg base) : DOkN P w K mg base 4 (He.fAd K ("CodeReader", some "thing")) ["self", "reader"] [] (sp_CodeReader_thing K) := by
  obtain ⟨fd, F⟩ := T.d_CodeReader_thing
  exact ⟨fd, [], .nil, FunD.bindsN F fun _ _ _ _ _ _ us hl => match us, hl with | [_, _], _ => rfl, fn_CodeReader_thing T F, F.kp⟩
abbrev N__law_word : List Str := ["_law_e", "_law_some"]
theorem sc__law_word : FnScope N__law_word ["_law_e"] (defScope s__law_word) := ⟨rfl, rfl, rfl, by decide +kernel, rfl, by decide +kernel, by decide +kernel⟩
theorem wk__law_word {P : Program} {w : World} {K : PySem.W.Frag} {mg : Str → Option Value} {base : Heap} (T : TxB K mg base) {f : Addr} {cdv : Value} {A : Around} {outer : List Env} {s : Shared} {H : Hp} {E : XK} {p : Addr × Obj} {cls : Value} {d : Option Addr} (hot : Hot1 A p) (hz : L2N.Zn cls d p.2)
    (hr : RoomH 0 (A.deeper (envOfC "_law_word" (defScope s__law_word) s.heap.objs.size f cdv))) :
    PSs (cxH (L2N.CX P w) P w K mg base N__law_word "_law_word" (defScope s__law_word) f cdv A outer s H E p) (defBody s__law_word) (t__law_word K p.1 cls d) := by
  have hu64 : (A.deeper (envOfC "_law_word" (defScope s__law_word) s.heap.objs.size f cdv)).units + 64 < cLine := by
    have z := hr.un
    omega
  exact (pss_cons (ps_set (i := 1) sc__law_word.nd rfl (Or.inl rfl) (pe_lst (pa_cons (pe_callB (call_isP (.head _) hz.zc (hot_fields hot)) (by rfl) T.f_isinstance bb_isinstance (pa_cons (pv 0) (pa_cons (pe_gref rfl T.g_BadBits) pa_nil))) (pa_cons (pe_callB (call_isP (.head _) hz.zc (hot_fields hot)) (by rfl) T.f_isinstance bb_isinstance (pa_cons (pv 0) (pa_cons (pe_gref rfl T.g_BadBody) pa_nil))) (pa_cons (pe_callB (call_isP (.head _) hz.zc (hot_fields hot)) (by rfl) T.f_isinstance bb_isinstance (pa_cons (pv 0) (pa_cons (pe_gref rfl T.g_BadCheck) pa_nil))) (pa_cons (pe_callB (call_isP (.head _) hz.zc (hot_fields hot)) (by rfl) T.f_isinstance bb_isinstance (pa_cons (pv 0) (pa_cons (pe_gref rfl T.g_BadLengths) pa_nil))) pa_nil))))))
    (pss_cons (ps_set (i := 1) sc__law_word.nd rfl (Or.inl rfl) (pe_op op_addU (pv 1) (pe_lst (pa_cons (pe_callB (call_isP (.head _) hz.zc (hot_fields hot)) (by rfl) T.f_isinstance bb_isinstance (pa_cons (pv 0) (pa_cons (pe_gref rfl T.g_BadHead) pa_nil))) (pa_cons (pe_callB (call_isP (.head _) hz.zc (hot_fields hot)) (by rfl) T.f_isinstance bb_isinstance (pa_cons (pv 0) (pa_cons (pe_gref rfl T.g_BadShares) pa_nil))) (pa_cons (pe_callB (call_isP (.head _) hz.zc (hot_fields hot)) (by rfl) T.f_isinstance bb_isinstance (pa_cons (pv 0) (pa_cons (pe_gref rfl T.g_BadLetters) pa_nil))) pa_nil))))))
    (pss_cons (ps_set (i := 1) sc__law_word.nd rfl (Or.inl rfl) (pe_op op_addU (pv 1) (pe_lst (pa_cons (pe_callB (call_isP (.head _) hz.zc (hot_fields hot)) (by rfl) T.f_isinstance bb_isinstance (pa_cons (pv 0) (pa_cons (pe_gref rfl T.g_BadMark) pa_nil))) (pa_cons (pe_callB (call_isP (.head _) hz.zc (hot_fields hot)) (by rfl) T.f_isinstance bb_isinstance (pa_cons (pv 0) (pa_cons (pe_gref rfl T.g_BadPieces) pa_nil))) (pa_cons (pe_callB (call_isP (.head _) hz.zc (hot_fields hot)) (by rfl) T.f_isinstance bb_isinstance (pa_cons (pv 0) (pa_cons (pe_gref rfl T.g_BadRow) pa_nil))) (pa_cons (pe_callB (call_isP (.head _) hz.zc (hot_fields hot)) (by rfl) T.f_isinstance bb_isinstance (pa_cons (pv 0) (pa_cons (pe_gref rfl T.g_BadTable) pa_nil))) pa_nil)))))))
    (pss_cons (ps_set (i := 1) sc__law_word.nd rfl (Or.inl rfl) (pe_op op_addU (pv 1) (pe_lst (pa_cons (pe_callB (call_isP (.head _) hz.zc (hot_fields hot)) (by rfl) T.f_isinstance bb_isinstance (pa_cons (pv 0) (pa_cons (pe_gref rfl T.g_BadTail) pa_nil))) (pa_cons (pe_callB (call_isP (.head _) hz.zc (hot_fields hot)) (by rfl) T.f_isinstance bb_isinstance (pa_cons (pv 0) (pa_cons (pe_gref rfl T.g_Behind) pa_nil))) (pa_cons (pe_callB (call_isP (.head _) hz.zc (hot_fields hot)) (by rfl) T.f_isinstance bb_isinstance (pa_cons (pv 0) (pa_cons (pe_gref rfl T.g_Cut) pa_nil))) (pa_cons (pe_callB (call_isP (.head _) hz.zc (hot_fields hot)) (by rfl) T.f_isinstance bb_isinstance (pa_cons (pv 0) (pa_cons (pe_gref rfl T.g_NoRange) pa_nil))) pa_nil)))))))
    (pss_cons (ps_if (PW.pt (pw_or (pt_cmpR op_inU (pe_bl) (pe_op op_addU (pv 1) (pe_lst (pa_cons (pe_callB (call_isP (.head _) hz.zc (hot_fields hot)) (by rfl) T.f_isinstance bb_isinstance (pa_cons (pv 0) (pa_cons (pe_gref rfl T.g_Over) pa_nil))) pa_nil))) (by rfl)) (pw_or1 (pt_not (pt_val (pe_callB (call_isP (.head _) hz.zc (hot_fields hot)) (by rfl) T.f_isinstance bb_isinstance (pa_cons (pv 0) (pa_cons (pe_bty rfl T.f_ValueError bt_ValueError) pa_nil)))))))) (pss_one (ps_ret (pe_tup (pa_cons (pe_str) (pa_cons (pe_str) pa_nil))))) pss_nil)
    (pss_one (ps_ret (pe_tup (pa_cons (pe_str) (pa_cons (pe_lst (pa_cons (pe_callB (call_isP (.head _) hz.zc (hot_fields hot)) (by rfl) T.f_isinstance bb_isinstance (pa_cons (pv 0) (pa_cons (pe_gref rfl T.g_BadCode) pa_nil))) (pa_cons (pe_callB (call_isP (.head _) hz.zc (hot_fields hot)) (by rfl) T.f_isinstance bb_isinstance (pa_cons (pv 0) (pa_cons (pe_gref rfl T.g_NoBits) pa_nil))) pa_nil))) pa_nil))))))))))
theorem ok__law_word_1 {P : Program} {w : World} {K : PySem.W.Frag} {mg : Str → Option Value} {base : Heap} (T : TxB K mg base) : ∃ fd, Binds K fd ["_law_e"] [] ∧ FnE P w K mg base (L2N.CX P w) 1 (He.fAd K ("_law_word", none)) fd ["_law_e"] (sp__law_word K) ∧ PySem.W.keepIn K (.ref (He.fAd K ("_law_word", none))) = true := by
  obtain ⟨fd, F⟩ := T.d__law_word
  exact ⟨fd, FunD.bindsN F fun _ _ _ _ _ _ us hl => match us, hl with | [_], _ => rfl, FunD.okE F sc__law_word (fun a c d vs H Q E h => len__law_word h) (fun cdv A outer s H vs Q E p cls d hot hz hr h => ⟨t__law_word K p.1 cls d, wk__law_word T hot hz hr, rd__law_word  h⟩), F.kp⟩
abbrev N__law_asked : List Str := ["_law_codes_here", "_law_reader", "_law_e"]
theorem sc__law_asked : FnScope N__law_asked ["_law_codes_here", "_law_reader"] (defScope s__law_asked) := ⟨rfl, rfl, rfl, by decide +kernel, rfl, by decide +kernel, by decide +kernel⟩
theorem wk__law_asked {P : Program} {w : World} {K : PySem.W.Frag} {mg : Str → Option Value} {base : Heap} (T : TxB K mg base) (O0 : DOkN P w K mg base 4 (He.fAd K ("CodeReader", some "thing")) ["self", "reader"] [] (sp_CodeReader_thing K)) (O1 : ∃ fd, Binds K fd ["_law_e"] [] ∧ FnE P w K mg base (L2N.CX P w) 1 (He.fAd K ("_law_word", none)) fd ["_law_e"] (sp__law_word K) ∧ PySem.W.keepIn K (.ref (He.fAd K ("_law_word", none))) = true) {f : Addr} {cdv : Value} {A : Around} {outer : List Env} {s : Shared} {H : Hp} {E : XK} 
    (hr : Room 4 (A.deeper (envOfC "_law_asked" (defScope s__law_asked) s.heap.objs.size f cdv))) :
    PSs (cxOf (L2N.CX P w) P w K mg base N__law_asked "_law_asked" (defScope s__law_asked) f cdv A outer s H E) (defBody s__law_asked) (t__law_asked K (fun c d _ H2 => E c d H2)) := by
  obtain ⟨fd0, ds0, v0, b0, G0, q0⟩ := O0
  obtain ⟨fd1, b1, G1, q1⟩ := O1
  have hu1 := hu_of hr
  have hu64 := hr.units
  have tk : L2N.Takes (cxOf (L2N.CX P w) P w K mg base N__law_asked "_law_asked" (defScope s__law_asked) f cdv A outer s H E) (fun c d _ H2 => E c d H2) := L2N.takes_of rfl rfl rfl rfl
  exact (pss_one (ps_tryAsN rfl rfl sc__law_asked.nd rfl rfl ⟨rfl, by decide, .inl T.g_PressError⟩ tk (fun W pn xe tk po => (pss_one (ps_ret (pe_mtN (pv 0) T.c_CodeReader T.m_CodeReader_thing G0 (hr.mono (by decide)) b0 v0 tk (pa_cons (pv 1) pa_nil)))))
    (fun a oe cls d pn hz hf => (pss_one (ps_ret (pe_clE G1 (roomH_of (hr.mono (by decide))) hz hf rfl T.g__law_word q1 b1 (pa_cons (pv 2) pa_nil)))))))
theorem fn__law_asked {P : Program} {w : World} {K : PySem.W.Frag} {mg : Str → Option Value} {base : Heap} (T : TxB K mg base) {f : Addr} {fd : FuncData} (F : FunD K d__law_asked.name d__law_asked.qual d__law_asked.params d__law_asked.body d__law_asked.scope (d__law_asked.dvs K) (d__law_asked.kws K) f fd) :
    FnOk P w K mg base (L2N.CX P w) 5 f fd ["_law_codes_here", "_law_reader"] (sp__law_asked K) :=
  F.ok sc__law_asked (fun vs H Q E h => len__law_asked h) (fun cdv A outer s H vs Q E hr h => ⟨t__law_asked K (fun c d _ H2 => E c d H2), wk__law_asked T (ok_CodeReader_thing_2 T) (ok__law_word_1 T) hr, rd__law_asked (of_KCodeReader T.toTx) (of_KWBadCode T.toTx) (of_KWNoBits T.toTx) h⟩)
theorem ok__law_asked_2 {P : Program} {w : World} {K : PySem.W.Frag} {mg : Str → Option Value} {base : Heap} (T : TxB K mg base) : DOkN P w K mg base 5 (He.fAd K ("_law_asked", none)) ["_law_codes_here", "_law_reader"] [] (sp__law_asked K) := by
  obtain ⟨fd, F⟩ := T.d__law_asked
  exact ⟨fd, [], .nil, FunD.bindsN F fun _ _ _ _ _ _ us hl => match us, hl with | [_, _], _ => rfl, fn__law_asked T F, F.kp⟩
abbrev N__law_read : List Str := ["_law_codes_here", "_law_reader", "_law_texts_here", "_law_bits_here", "_law_at", "_law_turn", "_law_found", "_law_place", "_law_told"]
theorem sc__law_read : FnScope N__law_read ["_law_codes_here", "_law_reader", "_law_texts_here", "_law_bits_here", "_law_at"] (defScope s__law_read) := ⟨rfl, rfl, rfl, by decide +kernel, rfl, by decide +kernel, by decide +kernel⟩
theorem wk__law_read {P : Program} {w : World} {K : PySem.W.Frag} {mg : Str → Option Value} {base : Heap} (T : TxB K mg base) (O0 : DOkN P w K mg base 1 (He.fAd K ("_law_due", none)) ["_law_codes_here", "_law_bits_here", "_law_at"] [] (sp__law_due K)) (O1 : DOkN P w K mg base 5 (He.fAd K ("_law_asked", none)) ["_law_codes_here", "_law_reader"] [] (sp__law_asked K)) (O2 : DOkN P w K mg base 1 (He.fAd K ("BitReader", some "left")) ["self"] [] (sp_BitReader_left K)) (O3 : DOkN P w K mg base 1 (He.fAd K ("BitReader", some "place")) ["self"] [] (sp_BitReader_place K)) {f : Addr} {cdv : Value} {A : Around} {outer : List Env} {s : Shared} {H : Hp} {E : XK} 
    (hr : Room 5 (A.deeper (envOfC "_law_read" (defScope s__law_read) s.heap.objs.size f cdv))) :
    PSs (cxOf (L2N.CX P w) P w K mg base N__law_read "_law_read" (defScope s__law_read) f cdv A outer s H E) (defBody s__law_read) (t__law_read K (fun c d _ H2 => E c d H2)) := by
  obtain ⟨fd0, ds0, v0, b0, G0, q0⟩ := O0
  obtain ⟨fd1, ds1, v1, b1, G1, q1⟩ := O1
  obtain ⟨fd2, ds2, v2, b2, G2, q2⟩ := O2
  obtain ⟨fd3, ds3, v3, b3, G3, q3⟩ := O3
  have hu1 := hu_of hr
  have hu64 := hr.units
  have tk : L2N.Takes (cxOf (L2N.CX P w) P w K mg base N__law_read "_law_read" (defScope s__law_read) f cdv A outer s H E) (fun c d _ H2 => E c d H2) := L2N.takes_of rfl rfl rfl rfl
  exact (pss_cons (ps_for (passes_of rfl) rfl (pi_range1 rfl T.f_range (pa_cons (pe_op op_addU (pe_callB cr_lenK (by rfl) T.f_len bb_len (pa_cons (pv 3) pa_nil)) (pe_int)) pa_nil)) (pg_name (i := 5) sc__law_read.nd rfl (Or.inl rfl)) (pss_cons (ps_asg (pe_clN G0 (hr.mono (by decide)) rfl T.g__law_due q0 b0 v0 tk (pa_cons (pv 2) (pa_cons (pv 3) (pa_cons (pv 4) pa_nil)))) (pg_tup rfl (pgs_cons (pg_name (i := 6) sc__law_read.nd rfl (Or.inl rfl)) (pgs_cons (pg_name (i := 7) sc__law_read.nd rfl (Or.inl rfl)) pgs_nil))))
    (pss_cons (ps_set (i := 8) sc__law_read.nd rfl (Or.inl rfl) (pe_clN G1 (hr.mono (by decide)) rfl T.g__law_asked q1 b1 v1 tk (pa_cons (pv 0) (pa_cons (pv 1) pa_nil))))
    (pss_cons (ps_if (PW.pt (pw_or (pt_cmpR (op_neU hu64) (pv 8) (pv 6) (nomark _)) (pw_or (pt_val (pe_callB call_isi (by rfl) T.f_isinstance bb_isinstance (pa_cons (pv 8) (pa_cons (pe_bty rfl T.f_bool bt_bool) pa_nil)))) (pw_or (pt_cmpR (op_neU hu64) (pe_mt0N (pv 1) T.c_BitReader T.m_BitReader_left G2 (hr.mono (by decide)) b2 v2 tk) (pe_op op_subU (pe_callB cr_lenK (by rfl) T.f_len bb_len (pa_cons (pv 3) pa_nil)) (pv 7)) (nomark _)) (pw_or1 (pt_cmpR (op_neU hu64) (pe_mt0N (pv 1) T.c_BitReader T.m_BitReader_place G3 (hr.mono (by decide)) b3 v3 tk) (pv 7) (nomark _))))))) (pss_one (ps_ret (pe_non))) pss_nil)
    (pss_cons (ps_if (pt_val (pe_callB call_isi (by rfl) T.f_isinstance bb_isinstance (pa_cons (pv 6) (pa_cons (pe_bty rfl T.f_tuple bt_tuple) pa_nil)))) (pss_cons (ps_if (PW.pt (pw_or (pt_cmpR (op_neU hu64) (pe_clN G1 (hr.mono (by decide)) rfl T.g__law_asked q1 b1 v1 tk (pa_cons (pv 0) (pa_cons (pv 1) pa_nil))) (pv 6) (nomark _)) (pw_or1 (pt_cmpR (op_neU hu64) (pe_mt0N (pv 1) T.c_BitReader T.m_BitReader_place G3 (hr.mono (by decide)) b3 v3 tk) (pv 7) (nomark _))))) (pss_one (ps_ret (pe_non))) pss_nil)
    (pss_one (ps_ret (pv 7)))) pss_nil)
    (pss_one (ps_set (i := 4) sc__law_read.nd rfl (Or.inl rfl) (pv 7))))))))
    (pss_one (ps_ret (pe_non))))
theorem fn__law_read {P : Program} {w : World} {K : PySem.W.Frag} {mg : Str → Option Value} {base : Heap} (T : TxB K mg base) {f : Addr} {fd : FuncData} (F : FunD K d__law_read.name d__law_read.qual d__law_read.params d__law_read.body d__law_read.scope (d__law_read.dvs K) (d__law_read.kws K) f fd) :
    FnOk P w K mg base (L2N.CX P w) 6 f fd ["_law_codes_here", "_law_reader", "_law_texts_here", "_law_bits_here", "_law_at"] (sp__law_read K) :=
  F.ok sc__law_read (fun vs H Q E h => len__law_read h) (fun cdv A outer s H vs Q E hr h => ⟨t__law_read K (fun c d _ H2 => E c d H2), wk__law_read T (ok__law_due_3 T) (ok__law_asked_2 T) (ok_BitReader_left_1 T) (ok_BitReader_place_1 T) hr, rd__law_read (of_KBitReader T.toTx) h⟩)
theorem ok__law_read_5 {P : Program} {w : World} {K : PySem.W.Frag} {mg : Str → Option Value} {base : Heap} (T : TxB K mg base) : DOkN P w K mg base 6 (He.fAd K ("_law_read", none)) ["_law_codes_here", "_law_reader", "_law_texts_here", "_law_bits_here", "_law_at"] [] (sp__law_read K) := by
  obtain ⟨fd, F⟩ := T.d__law_read
  exact ⟨fd, [], .nil, FunD.bindsN F fun _ _ _ _ _ _ us hl => match us, hl with | [_, _, _, _, _], _ => rfl, fn__law_read T F, F.kp⟩
abbrev N_law : List Str := ["_law_script", "_law_lengths_here", "_law_k", "_law_many", "_law_handed", "_law_codes_here", "_law_row_here", "_law_texts_here", "_law_bits_here", "_law_ahead", "_law_whole", "_law_readers", "_law_at", "_law_turn", "_law_found"]
theorem sc_law : FnScope N_law ["_law_script"] (defScope s_law) := ⟨rfl, rfl, rfl, by decide +kernel, rfl, by decide +kernel, by decide +kernel⟩
theorem wk_law {P : Program} {w : World} {K : PySem.W.Frag} {mg : Str → Option Value} {base : Heap} (T : TxB K mg base) (O0 : DOkN P w K mg base 1 (He.fAd K ("_law_cell_at", none)) ["_law_script", "_law_k"] [] (sp__law_cell_at K)) (O1 : DOkN P w K mg base 2 (He.fAd K ("_law_lengths", none)) ["_law_script", "_law_first", "_law_many", "_law_most"] [] (sp__law_lengths K)) (O2 : DOkN P w K mg base 4 (He.fAd K ("CodeReader", some "__init__")) ["self", "lengths"] [] (sp_CodeReader___init__ K)) (O3 : DOkN P w K mg base 2 (He.fAd K ("_law_texts", none)) ["_law_lengths_here"] [] (sp__law_texts K)) (O4 : DOkN P w K mg base 2 (He.fAd K ("_law_bits", none)) ["_law_script", "_law_texts_here"] [] (sp__law_bits K)) (O5 : DOkN P w K mg base 4 (He.fAd K ("_law_row", none)) ["_law_bits_here"] [] (sp__law_row K)) (O6 : DOkN P w K mg base 4 (He.fAd K ("BitReader", some "__init__")) ["self", "row"] [] (sp_BitReader___init__ K)) (O7 : DOkN P w K mg base 3 (He.fAd K ("BitReader", some "take")) ["self", "size"] [] (sp_BitReader_take K)) (O8 : DOkN P w K mg base 1 (He.fAd K ("_law_due", none)) ["_law_codes_here", "_law_bits_here", "_law_at"] [] (sp__law_due K)) (O9 : DOkN P w K mg base 5 (He.fAd K ("_law_asked", none)) ["_law_codes_here", "_law_reader"] [] (sp__law_asked K)) (O10 : DOkN P w K mg base 1 (He.fAd K ("BitReader", some "place")) ["self"] [] (sp_BitReader_place K)) (O11 : DOkN P w K mg base 6 (He.fAd K ("_law_read", none)) ["_law_codes_here", "_law_reader", "_law_texts_here", "_law_bits_here", "_law_at"] [] (sp__law_read K)) (O12 : DOkN P w K mg base 2 (He.fAd K ("BitReader", some "go")) ["self", "place"] [] (sp_BitReader_go K)) {f : Addr} {cdv : Value} {A : Around} {outer : List Env} {s : Shared} {H : Hp} {E : XK} 
    (hr : Room 6 (A.deeper (envOfC "law" (defScope s_law) s.heap.objs.size f cdv))) :
    PSs (cxOf (L2N.CX P w) P w K mg base N_law "law" (defScope s_law) f cdv A outer s H E) (defBody s_law) (t_law K (fun c d _ H2 => E c d H2)) := by
  obtain ⟨fd0, ds0, v0, b0, G0, q0⟩ := O0
  obtain ⟨fd1, ds1, v1, b1, G1, q1⟩ := O1
  obtain ⟨fd2, ds2, v2, b2, G2, q2⟩ := O2
  obtain ⟨fd3, ds3, v3, b3, G3, q3⟩ := O3
  obtain ⟨fd4, ds4, v4, b4, G4, q4⟩ := O4
  obtain ⟨fd5, ds5, v5, b5, G5, q5⟩ := O5
  obtain ⟨fd6, ds6, v6, b6, G6, q6⟩ := O6
  obtain ⟨fd7, ds7, v7, b7, G7, q7⟩ := O7
  obtain ⟨fd8, ds8, v8, b8, G8, q8⟩ := O8
  obtain ⟨fd9, ds9, v9, b9, G9, q9⟩ := O9
  obtain ⟨fd10, ds10, v10, b10, G10, q10⟩ := O10
  obtain ⟨fd11, ds11, v11, b11, G11, q11⟩ := O11
  obtain ⟨fd12, ds12, v12, b12, G12, q12⟩ := O12
  have hu1 := hu_of hr
  have hu64 := hr.units
  have tk : L2N.Takes (cxOf (L2N.CX P w) P w K mg base N_law "law" (defScope s_law) f cdv A outer s H E) (fun c d _ H2 => E c d H2) := L2N.takes_of rfl rfl rfl rfl
  exact (pss_cons (ps_set (i := 1) sc_law.nd rfl (Or.inl rfl) (pe_lst pa_nil))
    (pss_cons (ps_for (passes_of rfl) rfl (pi_range1 rfl T.f_range (pa_cons (pe_int) pa_nil)) (pg_name (i := 2) sc_law.nd rfl (Or.inl rfl)) (pss_cons (ps_set (i := 3) sc_law.nd rfl (Or.inl rfl) (pe_op op_addU (pe_int) (pe_op op_modU (pe_clN G0 (hr.mono (by decide)) rfl T.g__law_cell_at q0 b0 v0 tk (pa_cons (pv 0) (pa_cons (pv 2) pa_nil))) (pe_int))))
    (Evl.pss_cut (ps_if (pt_cmpR (op_eqU hu64) (pe_op op_modU (pe_op op_divU (pe_clN G0 (hr.mono (by decide)) rfl T.g__law_cell_at q0 b0 v0 tk (pa_cons (pv 0) (pa_cons (pv 2) pa_nil))) (pe_int)) (pe_int)) (pe_int) (nomark _)) (pss_one (ps_set (i := 3) sc_law.nd rfl (Or.inl rfl) (pe_op op_addU (pe_int) (pe_op op_modU (pe_op op_divU (pe_clN G0 (hr.mono (by decide)) rfl T.g__law_cell_at q0 b0 v0 tk (pa_cons (pv 0) (pa_cons (pv 2) pa_nil))) (pe_int)) (pe_int))))) pss_nil)
    (pss_one (ps_expr (pe_bm PySem.F.plainAttrs_list PySem.F.slot_list_append PySem.F.type_list_append mt_append (pv 1) (pa_cons (pe_clN G1 (hr.mono (by decide)) rfl T.g__law_lengths q1 b1 v1 tk (pa_cons (pv 0) (pa_cons (pe_op op_addU (pe_int) (pe_op op_mulU (pe_int) (pv 2))) (pa_cons (pv 3) (pa_cons (pe_op op_addU (pe_int) (pe_op op_modU (pe_op op_divU (pe_clN G0 (hr.mono (by decide)) rfl T.g__law_cell_at q0 b0 v0 tk (pa_cons (pv 0) (pa_cons (pv 2) pa_nil))) (pe_int)) (pe_int))) pa_nil))))) pa_nil)))))))
    (pss_cons (ps_set (i := 4) sc_law.nd rfl (Or.inl rfl) (pe_lst (pa_cons (pe_callTy cr_listK (by rfl) T.f_list bt_list (pa_cons (pe_ix ix_seq (pv 1) (pe_int) (fun _ _ => rfl)) pa_nil)) (pa_cons (pe_callTy cr_listK (by rfl) T.f_list bt_list (pa_cons (pe_ix ix_seq (pv 1) (pe_int) (fun _ _ => rfl)) pa_nil)) pa_nil))))
    (pss_cons (ps_set (i := 5) sc_law.nd rfl (Or.inl rfl) (pe_lst (pa_cons (pe_mkN T.k_CodeReader G2 (hr.mono (by decide)) rfl T.g_CodeReader b2 v2 tk (pa_cons (pe_ix ix_seq (pv 4) (pe_int) (fun _ _ => rfl)) pa_nil)) (pa_cons (pe_mkN T.k_CodeReader G2 (hr.mono (by decide)) rfl T.g_CodeReader b2 v2 tk (pa_cons (pe_ix ix_seq (pv 4) (pe_int) (fun _ _ => rfl)) pa_nil)) pa_nil))))
    (pss_cons (ps_for (passes_of rfl) rfl (pi_list (pv 4)) (pg_name (i := 6) sc_law.nd rfl (Or.inl rfl)) (pss_one (ps_expr (pe_bm0 PySem.F.plainAttrs_list PySem.F.slot_list_clear PySem.F.type_list_clear mt_clear (pv 6)))))
    (pss_cons (ps_set (i := 7) sc_law.nd rfl (Or.inl rfl) (pe_lst (pa_cons (pe_clN G3 (hr.mono (by decide)) rfl T.g__law_texts q3 b3 v3 tk (pa_cons (pe_ix ix_seq (pv 1) (pe_int) (fun _ _ => rfl)) pa_nil)) (pa_cons (pe_clN G3 (hr.mono (by decide)) rfl T.g__law_texts q3 b3 v3 tk (pa_cons (pe_ix ix_seq (pv 1) (pe_int) (fun _ _ => rfl)) pa_nil)) pa_nil))))
    (pss_cons (ps_asg (pe_clN G4 (hr.mono (by decide)) rfl T.g__law_bits q4 b4 v4 tk (pa_cons (pv 0) (pa_cons (pe_ix ix_seq (pv 7) (pe_int) (fun _ _ => rfl)) pa_nil))) (pg_tup rfl (pgs_cons (pg_name (i := 8) sc_law.nd rfl (Or.inl rfl)) (pgs_cons (pg_name (i := 9) sc_law.nd rfl (Or.inl rfl)) pgs_nil))))
    (pss_cons (ps_set (i := 6) sc_law.nd rfl (Or.inl rfl) (pe_clN G5 (hr.mono (by decide)) rfl T.g__law_row q5 b5 v5 tk (pa_cons (pv 8) pa_nil)))
    (pss_cons (ps_set (i := 10) sc_law.nd rfl (Or.inl rfl) (pe_op op_addU (pv 8) (pe_op op_mulU (pe_str) (pe_op op_subU (pe_op op_mulU (pe_int) (pe_callB cr_lenK (by rfl) T.f_len bb_len (pa_cons (pv 6) pa_nil))) (pe_callB cr_lenK (by rfl) T.f_len bb_len (pa_cons (pv 8) pa_nil))))))
    (pss_cons (ps_set (i := 11) sc_law.nd rfl (Or.inl rfl) (pe_lst (pa_cons (pe_mkN T.k_BitReader G6 (hr.mono (by decide)) rfl T.g_BitReader b6 v6 tk (pa_cons (pv 6) pa_nil)) (pa_cons (pe_mkN T.k_BitReader G6 (hr.mono (by decide)) rfl T.g_BitReader b6 v6 tk (pa_cons (pv 6) pa_nil)) pa_nil))))
    (pss_cons (ps_expr (pe_bm0 PySem.F.plainAttrs_list PySem.F.slot_list_clear PySem.F.type_list_clear mt_clear (pv 6)))
    (pss_cons (ps_expr (pe_mtN (pe_ix ix_seq (pv 11) (pe_int) (fun _ _ => rfl)) T.c_BitReader T.m_BitReader_take G7 (hr.mono (by decide)) b7 v7 tk (pa_cons (pv 9) pa_nil)))
    (pss_cons (ps_set (i := 12) sc_law.nd rfl (Or.inl rfl) (pe_int))
    (pss_cons (ps_for (passes_of rfl) rfl (pi_range1 rfl T.f_range (pa_cons (pe_int) pa_nil)) (pg_name (i := 13) sc_law.nd rfl (Or.inl rfl)) (pss_cons (ps_asg (pe_clN G8 (hr.mono (by decide)) rfl T.g__law_due q8 b8 v8 tk (pa_cons (pe_ix ix_seq (pv 7) (pe_int) (fun _ _ => rfl)) (pa_cons (pv 10) (pa_cons (pv 12) pa_nil)))) (pg_tup rfl (pgs_cons (pg_name (i := 14) sc_law.nd rfl (Or.inl rfl)) (pgs_cons (pg_name (i := 12) sc_law.nd rfl (Or.inl rfl)) pgs_nil))))
    (pss_one (ps_if (PW.pt (pw_or (pt_cmpR (op_neU hu64) (pe_clN G9 (hr.mono (by decide)) rfl T.g__law_asked q9 b9 v9 tk (pa_cons (pe_ix ix_seq (pv 5) (pe_int) (fun _ _ => rfl)) (pa_cons (pe_ix ix_seq (pv 11) (pe_int) (fun _ _ => rfl)) pa_nil))) (pv 14) (nomark _)) (pw_or1 (pt_cmpR (op_neU hu64) (pe_mt0N (pe_ix ix_seq (pv 11) (pe_int) (fun _ _ => rfl)) T.c_BitReader T.m_BitReader_place G10 (hr.mono (by decide)) b10 v10 tk) (pv 12) (nomark _))))) (pss_one (ps_ret (pe_bl))) pss_nil))))
    (pss_cons (ps_if (pt_cmpR op_isU (pe_clN G11 (hr.mono (by decide)) rfl T.g__law_read q11 b11 v11 tk (pa_cons (pe_ix ix_seq (pv 5) (pe_int) (fun _ _ => rfl)) (pa_cons (pe_ix ix_seq (pv 11) (pe_int) (fun _ _ => rfl)) (pa_cons (pe_ix ix_seq (pv 7) (pe_int) (fun _ _ => rfl)) (pa_cons (pv 10) (pa_cons (pv 9) pa_nil)))))) (pe_non) (nomark _)) (pss_one (ps_ret (pe_bl))) pss_nil)
    (pss_cons (ps_expr (pe_mtN (pe_ix ix_seq (pv 11) (pe_int) (fun _ _ => rfl)) T.c_BitReader T.m_BitReader_go G12 (hr.mono (by decide)) b12 v12 tk (pa_cons (pe_int) pa_nil)))
    (pss_cons (ps_if (pt_cmpR op_isU (pe_clN G11 (hr.mono (by decide)) rfl T.g__law_read q11 b11 v11 tk (pa_cons (pe_ix ix_seq (pv 5) (pe_int) (fun _ _ => rfl)) (pa_cons (pe_ix ix_seq (pv 11) (pe_int) (fun _ _ => rfl)) (pa_cons (pe_ix ix_seq (pv 7) (pe_int) (fun _ _ => rfl)) (pa_cons (pv 10) (pa_cons (pe_int) pa_nil)))))) (pe_non) (nomark _)) (pss_one (ps_ret (pe_bl))) pss_nil)
    (pss_cons (ps_expr (pe_mtN (pe_ix ix_seq (pv 11) (pe_int) (fun _ _ => rfl)) T.c_BitReader T.m_BitReader_go G12 (hr.mono (by decide)) b12 v12 tk (pa_cons (pv 9) pa_nil)))
    (pss_one (ps_ret (pe_cmpR op_notU (pe_clN G11 (hr.mono (by decide)) rfl T.g__law_read q11 b11 v11 tk (pa_cons (pe_ix ix_seq (pv 5) (pe_int) (fun _ _ => rfl)) (pa_cons (pe_ix ix_seq (pv 11) (pe_int) (fun _ _ => rfl)) (pa_cons (pe_ix ix_seq (pv 7) (pe_int) (fun _ _ => rfl)) (pa_cons (pv 10) (pa_cons (pv 9) pa_nil)))))) (pe_non) (nomark _))))))))))))))))))))))
theorem fn_law {P : Program} {w : World} {K : PySem.W.Frag} {mg : Str → Option Value} {base : Heap} (T : TxB K mg base) {f : Addr} {fd : FuncData} (F : FunD K d_law.name d_law.qual d_law.params d_law.body d_law.scope (d_law.dvs K) (d_law.kws K) f fd) :
    FnOk P w K mg base (L2N.CX P w) 7 f fd ["_law_script"] (sp_law K) :=
  F.ok sc_law (fun vs H Q E h => len_law h) (fun cdv A outer s H vs Q E hr h => ⟨t_law K (fun c d _ H2 => E c d H2), wk_law T (ok__law_cell_at_2 T) (ok__law_lengths_4 T) (ok_CodeReader___init___2 T) (ok__law_texts_1 T) (ok__law_bits_2 T) (ok__law_row_1 T) (ok_BitReader___init___2 T) (ok_BitReader_take_2 T) (ok__law_due_3 T) (ok__law_asked_2 T) (ok_BitReader_place_1 T) (ok__law_read_5 T) (ok_BitReader_go_2 T) hr, rd_law (of_KBitReader T.toTx) (of_KCodeReader T.toTx) h⟩)
end L2.BW
namespace L2.BW
open PySem PySem.Spec PyProof.Rows
theorem calmly {P : Program} {w : World} {K : PySem.W.Frag} {mg : Str → Option Value} {base : Heap} {k : Nat} {f : Addr} {fd : FuncData} {ps : List Str} {sp : Sp}
    (hE : ∀ vs H Q E, sp vs H Q E → sp vs H Q fun _ _ _ => False) (F : FnOk P w K mg base (L2N.CX P w) k f fd ps sp) : FnOk P w K mg base CX0 k f fd ps sp :=
  ⟨F.len, fun A outer s H args us vs Q E hr he hb hv hs => codeAny_mono (F.run A outer s H args us vs Q _ hr he hb hv (hE _ _ _ _ hs)) fun r s' z => by
    match r, z with
    | .error e, z =>
      obtain ⟨_, _, _, _, _, _, _, _, _, _, _, _, z⟩ := z
      exact z.elim
    | .ok (.ret u), z => exact z⟩
end L2.BW
open PySem PySem.W PySem.Calls PyProof.Rows
theorem PySem.Challenge.cw_balepress_k10_codes_read_holds : PySem.Challenge.rw_balepress_k10_codes_read.Holds := by
  w_on; o_law
  refine HandSHeadRun.head_any (r := OpenLaw.row PySem.Challenge.rw_balepress_k10_codes_read) (q := view (OpenLaw.row PySem.Challenge.rw_balepress_k10_codes_read).prog [54]) (H := L2.BH.hk) (ob := L2.BH.ob) (M := 40000) (loose := L2.BH.loose) (d := HandSHeadRun.topDef (OpenLaw.row PySem.Challenge.rw_balepress_k10_codes_read).prog 54) (kwd := [])
    L2.BH.ob_eq (by kernel_rfl) (fun s => by kernel_rfl) L2.BH.run (by kernel_rfl) (by kernel_rfl) (by kernel_rfl) (by rfl) (by first | assumption | decide +kernel) (by decide +kernel)
    ⟨rfl, rfl, rfl, rfl, rfl, by decide +kernel⟩ ?hw ?hc
  case hw => w_witness2
  case hc =>
    refine LamX.walk_ofTsE (l := PySem.Challenge.rw_balepress_k10_codes_read) (n := 63) (k := 7) (x := "_law_script") (CX := fun _ => L2.CX0) rfl (by decide) (by kernel_rfl) ⟨rfl, by decide, by decide⟩ ?F (fun _ _ _ _ _ z => z)
    intro w mg fa h Y G hmg0
    obtain ⟨K, KX, c⟩ := Y
    have hmg : mg ("law" : PySem.Str) = some (.ref fa) := by
      have e : (HandSHeadRun.topDef (OpenLaw.row PySem.Challenge.rw_balepress_k10_codes_read).prog 54).name = ("law" : PySem.Str) := by kernel_rfl
      exact e ▸ hmg0
    have T := L2.BW.tx_of KX G c.t.d c.more
    obtain ⟨fd, F⟩ := T.d_law
    have e := hmg.symm.trans T.g_law
    cases e
    have b := L2.FunD.bindsA (ps := ["_law_script"]) F fun _ _ _ _ _ _ us hl => match us, hl with | [_], _ => rfl
    have one : ∀ {P : He.Defn → Prop}, (∀ p ∈ ([("codes_of", none)] : List He.Defn), P p) → ∀ q ∈ ([("codes_of", none)] : List He.Defn).map (He.cT K), ∃ p, q = He.cT K p ∧ P p := fun h q hq => by
      obtain ⟨p, hp, rfl⟩ := List.mem_map.mp hq
      exact ⟨p, rfl, h p hp⟩
    refine ⟨K, KX, fd, ([("codes_of", none)] : List He.Defn).map (He.cT K), L2.BR.sp_law K, fun q hq => ?_, fun q hq => ?_, fun q hq => ?_, fun s v => b s [v] rfl, fun H a ns hl _ hT hS => ⟨a, ns, rfl, ?_, hS, hl, fun _ => rfl⟩, fun base _ _ TB => L2.BW.calmly (fun _ _ _ _ h => h) (L2.BW.fn_law (L2.BW.TxB.mk T (TB _ (.head _))) F)⟩
    · obtain ⟨p, rfl, z⟩ := one c.empty q hq
      exact z
    · obtain ⟨p, rfl, z⟩ := one c.out q hq
      exact z
    · obtain ⟨p, rfl, z⟩ := one c.hd q hq
      exact PySem.W.codeHd_of_K KX z
    · exact hT _ (.head _)
