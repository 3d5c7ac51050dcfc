import PyProof.Rows.All
import Wide.All
import OpenK.AllK
import Wide.FinOn
import HandS.ForMost
import HandS.ForExc
import HandS.Defaults
import HandS.CallSlots
import HandS.IsInst
import HandS.Style
import HandS.Small
import HandS.Conv
import HandS.Deep
import HandS.TryElse
import HandS.HeadHook2
import HandS.Evl
import HandS.Flow
import HandS.Zip
import HandS.Text
import HandS.ExcIs
import HandS.ExcCtx
import HandS.WideBits
import HandS.Hot
import HandS.HotCalls
import PyProof.StrOps2
import KE.SortKeyHeap
import HandS.SortKw
import HandS.DictComp
import HandS.SetFor
import HandS.Conv
import HandS.Deep
import HandS.Lambda
import HandS.HeadHook4
import KE.KStateDown
import Lean
import HandS.HeadEnd
import HandS.HeadWalk
import HandS.Head0
import HandS.Head1
import HandS.Head2
import HandS.HeadHook1
import PySem.Challenge.RW_balepress_k06_lengths_cost_least
set_option Elab.async false
set_option linter.all false
set_option maxRecDepth 100000
set_option maxHeartbeats 0
/-! BLib: rules that take several kinds of values at once, calls that may let an error out at the caller's slots, and a picture of the heap as a list of own objects over a base. -/
namespace PySem.SeqAt
open PySem PySem.Spec MeetsSeq
theorem list_eq_declines_dict (l b : Addr) (items : Array Value) (n : Nat) (dd dd2 : Option Addr) (sl sl2 : Array (Option Value)) (dt : Data) :
    Meets (Builtin.«list.__eq__» ⟨[.ref l, .ref b], []⟩) (fun _ R s => s.heap.get? l = some { cls := .type "list", dict := dd, data := .seq items n, slots := sl } ∧ s.heap.get? b = some { cls := .type "dict", dict := dd2, data := dt, slots := sl2 } ∧ R (.ok (.ret .notImplemented)) s) :=
  .of_wp fun prog w A R s h => by obtain ⟨hp, g, d, tk, os⟩ := s; obtain ⟨hl, hb, h⟩ := h; have f1 := F.sub_dict_list; wp_walk using wpAny_loadPart' hl, wpAny_loadPart' hb; exact ⟨_, rfl, h⟩
theorem dict_eq_declines_list (l b : Addr) (items : Array Value) (n n2 : Nat) (es : Array DictEntry) (dd dd2 : Option Addr) (sl sl2 : Array (Option Value)) :
    Meets (Builtin.«dict.__eq__» ⟨[.ref l, .ref b], []⟩) (fun _ R s => s.heap.get? l = some { cls := .type "dict", dict := dd, data := .dict es n2, slots := sl } ∧ s.heap.get? b = some { cls := .type "list", dict := dd2, data := .seq items n, slots := sl2 } ∧ R (.ok (.ret .notImplemented)) s) :=
  .of_wp fun prog w A R s h => by obtain ⟨hp, g, d, tk, os⟩ := s; obtain ⟨hl, hb, h⟩ := h; have f1 := F.sub_list_dict; wp_walk using wpAny_loadPart' hl, wpAny_loadPart' hb; exact ⟨_, rfl, h⟩
theorem RcAt.dict_list {A : Around} {s : Shared} {l b : Addr} {es : Array DictEntry} {n2 : Nat} {dd : Option Addr} {sl : Array (Option Value)} {items : Array Value} (ho : s.heap.get? l = some { cls := .type "dict", dict := dd, data := .dict es n2, slots := sl }) (hb : s.heap.IsList b items) (hu : A.units < cLine) : RcAt A s (.ref l) (.ref b) false := fun prog w E Q h => by
  have hne : l ≠ b := fun e => by
    subst e
    obtain ⟨o2, ho2, hc2, _⟩ := hb
    rw [ho] at ho2
    cases ho2
    exact absurd hc2 (by simp)
  obtain ⟨⟨cls2, dd2, data2, sl2⟩, ho2, hc2, n3, hd2⟩ := id hb
  simp only at hc2 hd2
  subst hc2 hd2
  exact (rc_eq_decline_or (k := false) ⟨_, ho, rfl⟩ ⟨_, ho2, rfl⟩ (by decide) F.sub_list_dict F.slot_dict_eq F.slot_list_eq_refl
    (fun _ hq => call_meets F.slot_dict_eq ⟨_, ho, rfl⟩ F.entry_dict_eq (F.args_dict_eq_2 _ _) (dict_eq_declines_list l b items n3 n2 es dd dd2 sl sl2) ⟨ho, ho2, hq⟩)
    (fun _ hq => call_meets F.slot_list_eq_refl ⟨_, ho2, rfl⟩ F.entry_list_eq (F.args_list_eq_2 _ _) (list_eq_declines_dict b l items n3 dd2 dd sl2 sl _) ⟨ho2, ho, hq⟩)
    (fun _ hq => wpAny_isSame_ref_other' hne ho ho2 (by simp) hq) (.inr hu) h)
end PySem.SeqAt
namespace L2.BP
open PySem PySem.Spec PyProof.Rows
section
variable {X : Cx}
/-! ### operators, by kinds -/
def rAddStr : R2 := fun x y H Q => ∃ i j, x = .str i ∧ y = .str j ∧ i.length + j.length ≤ sizeLine ∧ Q (.str (i ++ j)) H
def rAddI : R2 := rI0 fun i j => .int (i + j)
def rAddU : R2 := fun x y H Q => rAddI x y H Q ∨ rAddStr x y H Q ∨ rCat x y H Q
theorem op_addU : OpR X (binaryOp .Add) rAddU := OpR.or op_add (OpR.or op_add_str op_cat)
def rSubU : R2 := rI0 fun i j => .int (i - j)
theorem op_subU : OpR X (binaryOp .Sub) rSubU := op_sub
def rMulI : R2 := rI CMul fun i j => .int (i * j)
def repS (z : Str) (k : Nat) : Str := if k = 0 then Str.empty else if k = 1 ∨ z.length = 0 then z else ⟨(List.replicate k z.cps).foldl (· ++ ·) #[]⟩
def rRepS : R2 := fun x y H Q => ∃ (z : Str) (k : Nat), x = .str z ∧ y = .int ((k : Nat) : Int) ∧ k ≤ 1000 ∧ z.length ≤ 1000 ∧ (repS z k).length ≤ 1000000 ∧ Q (.str (repS z k)) H
theorem op_repS : OpR X (binaryOp .Mult) rRepS := by
  intro pins s σ H x y v u Q I rx ry h
  obtain ⟨z, k, rfl, rfl, hk, hz, hl, q⟩ := h
  obtain ⟨t, rfl⟩ := rx
  obtain ⟨t', rfl⟩ := ry
  have hm : z.length * k ≤ 1000 * 1000 := Nat.mul_le_mul hz hk
  refine PySem.P.mul_str ?_ ?_ ?_ ?_
  · rw [decide_eq_false (by omega), decide_eq_false (by omega)]
    rfl
  · intro h1 h2 h3
    have h4 : 9223372036854775 ≤ (2 ^ 63 - 1) / ((k : Nat) : Int) := by
      refine (Int.le_ediv_iff_mul_le (by omega)).mpr ?_
      omega
    omega
  · intro h1 h2
    unfold Builtin.Str.tooLong
    rw [Int.toNat_natCast]
    exact decide_eq_false (Nat.not_lt.mpr (Nat.le_trans hm (by decide)))
  · unfold repS at q hl
    by_cases h0 : k = 0
    · subst h0
      rw [if_pos rfl] at q
      rw [if_pos (by decide)]
      exact ⟨by decide, .str Str.empty, H, I.tok _, ⟨_, rfl⟩, q⟩
    · rw [if_neg h0] at q hl
      rw [if_neg (by omega)]
      by_cases h1 : k = 1 ∨ z.length = 0
      · rw [if_pos h1] at q
        have e : ((((k : Nat) : Int) == 1) || z.length == 0) = true := by
          rcases h1 with e | e
          · subst e
            rfl
          · rw [e]
            simp
        rw [e, if_pos rfl]
        exact ⟨.str z, H, I, ⟨_, rfl⟩, q⟩
      · rw [if_neg h1] at q hl
        have e : ((((k : Nat) : Int) == 1) || z.length == 0) = false := by
          have e1 : ¬ k = 1 := fun h => h1 (.inl h)
          have e2 : ¬ z.length = 0 := fun h => h1 (.inr h)
          have e3 : (((k : Nat) : Int) == 1) = false := by
            rw [beq_eq_false_iff_ne]
            omega
          have e4 : (z.length == 0) = false := by
            rw [beq_eq_false_iff_ne]
            exact e2
          rw [e3, e4]
          rfl
        rw [e, if_neg Bool.false_ne_true, Int.toNat_natCast]
        exact ⟨Nat.le_trans hl (by decide), .str _, H, I.tok _, ⟨_, rfl⟩, q⟩
def rMulU : R2 := fun x y H Q => rMulI x y H Q ∨ rRep x y H Q ∨ rRepS x y H Q
theorem op_mulU : OpR X (binaryOp .Mult) rMulU := OpR.or op_mul (OpR.or op_rep op_repS)
def rDivU : R2 := rI CDiv fun i j => .int (i / j)
theorem op_divU : OpR X (binaryOp .FloorDiv) rDivU := op_fdiv
def rModU : R2 := rI (fun _ j => 0 < j) fun i j => .int (i % j)
theorem op_modU : OpR X (binaryOp .Mod) rModU := op_mod
def rPowU : R2 := rI CPow fun i j => .int (i ^ j.toNat)
theorem op_powU : OpR X (binaryOp .Pow) rPowU := op_pow
def rShlU : R2 := fun x y H Q => rI CPow (fun i j => .int (i * 2 ^ j.toNat)) x y H Q ∨ rI CShl (fun i j => .int (i * 2 ^ j.toNat)) x y H Q
theorem op_shlU : OpR X (binaryOp .LShift) rShlU := OpR.or op_shl op_shlW
def rShrU : R2 := rI (fun _ j => 0 ≤ j) fun i j => .int (i / 2 ^ j.toNat)
theorem op_shrU : OpR X (binaryOp .RShift) rShrU := op_shr
def rAndU : R2 := rI0 fun i j => .int (Builtin.bitAnd i j)
theorem op_andU : OpR X (binaryOp .BitAnd) rAndU := op_and
def rOrU : R2 := rI0 fun i j => .int (Builtin.bitOr i j)
theorem op_orU : OpR X (binaryOp .BitOr) rOrU := op_or
def rXorU : R2 := rI0 fun i j => .int (Builtin.bitXor i j)
theorem op_xorU : OpR X (binaryOp .BitXor) rXorU := op_xor
def rNegU : V → Hp → VK → Prop := rU fun i => .int (-i)
theorem un_negU : UnR X (unaryOp .USub) rNegU := un_neg
def rLtU : R2 := rI0 fun i j => .bl (decide (i < j))
theorem op_ltU : OpR X (compareOp .Lt) rLtU := op_lt
def rLeU : R2 := rI0 fun i j => .bl (decide (i ≤ j))
theorem op_leU : OpR X (compareOp .LtE) rLeU := op_le
def rGtU : R2 := rI0 fun i j => .bl (decide (j < i))
theorem op_gtU : OpR X (compareOp .Gt) rGtU := op_gt
def rGeU : R2 := rI0 fun i j => .bl (decide (j ≤ i))
theorem op_geU : OpR X (compareOp .GtE) rGeU := op_ge
/-- a dict and a list -/
def rEqE (K : PySem.W.Frag) : R2 := fun x y H Q => ∃ (a b : Addr) (kvs : List (Key × V)) (ys : List V), x = .ref a ∧ y = .ref b ∧ H a = some (.dK kvs) ∧ SqL K H b ys ∧ Q (.bl false) H
theorem op_eqE (hu : X.A.units + 64 < cLine) : OpR X (compareOp .Eq) (rEqE X.K) := by
  intro pins s σ H x y v u Q I rx ry h
  obtain ⟨a, b, kvs, ys, rfl, rfl, ha, hb, q⟩ := h
  obtain rfl : v = Value.ref a := rx
  obtain rfl : u = Value.ref b := ry
  obtain ⟨_, _, vs, rv, o, es, ep, h1, h2, h3, h4, h5, h6⟩ := (show ObjOk X.prog X.w H s.heap a (.dK kvs) from I.hok a _ ha)
  obtain ⟨its, r, pl, hz⟩ := I.list hb
  obtain ⟨c, d, dt, sl⟩ := o
  obtain ⟨z1, z2, z3⟩ := h2
  simp only at h3 z1 z2 z3
  subst h3 z1
  exact SeqAt.RcAt.dict_list h1 pl.isList (by omega) X.prog X.w _ _ ⟨.bl _, H, I, rfl, q⟩
def rEqU (K : PySem.W.Frag) : R2 := fun x y H Q => rEq x y H Q ∨ rEqD K x y H Q ∨ rEqDA x y H Q ∨ rEqE K x y H Q
theorem op_eqU (hu : X.A.units + 64 < cLine) : OpR X (compareOp .Eq) (rEqU X.K) := OpR.or op_eq (OpR.or (op_eqD hu) (OpR.or (op_eq_dictA (by omega)) (op_eqE hu)))
def rNeU (K : PySem.W.Frag) : R2 := fun x y H Q => rNe x y H Q ∨ rNeD K x y H Q ∨ rNeDA x y H Q
theorem op_neU (hu : X.A.units + 64 < cLine) : OpR X (compareOp .NotEq) (rNeU X.K) := OpR.or op_ne (OpR.or (op_neD hu) (op_ne_dictA (by omega)))
def rInStr : R2 := fun x y H Q => ∃ i j, x = .str i ∧ y = .str j ∧ Q (.bl (!(Builtin.Str.occurrences j i 0 j.length 1).isEmpty)) H
def rNiStr : R2 := fun x y H Q => ∃ i j, x = .str i ∧ y = .str j ∧ Q (.bl (!(!(Builtin.Str.occurrences j i 0 j.length 1).isEmpty))) H
def rInU (K : PySem.W.Frag) : R2 := fun x y H Q => rIn K false x y H Q ∨ rInStr x y H Q
theorem op_inU : OpR X (compareOp .In) (rInU X.K) := OpR.or op_in_seq op_in_str
def rNiU (K : PySem.W.Frag) : R2 := fun x y H Q => rIn K true x y H Q ∨ rNiStr x y H Q
theorem op_niU : OpR X (compareOp .NotIn) (rNiU X.K) := OpR.or op_notIn_seq op_notIn_str
def rIsNo : R2 := fun x y H Q => y = .non ∧ Q (.bl (decide (x = .non))) H
def rNotNo : R2 := fun x y H Q => y = .non ∧ Q (.bl (!decide (x = .non))) H
def rIsU : R2 := fun x y H Q => rIsNo x y H Q ∨ rIsB x y H Q
theorem op_isU : OpR X (compareOp .Is) rIsU := OpR.or op_isN op_isBl
def rNotU : R2 := fun x y H Q => rNotNo x y H Q ∨ rNotB x y H Q
theorem op_notU : OpR X (compareOp .IsNot) rNotU := OpR.or op_notN op_notBl
/-! ### in place -/
def ipAddI : TIp := ipI fun i j => i + j
def ipAddU : TIp := fun x y H Q => ipAddI x y H Q ∨ rExt2 x y H Q ∨ rAddStr x y H Q
theorem ip_addU : PIp X .Add ipAddU := fun pins s σ H x y v u Q I rx ry h => by
  rcases h with h | h | h
  · exact ip_add pins s σ H x y v u Q I rx ry h
  · exact iop_ext pins s σ H x y v u Q I rx ry h
  · exact iop_add_str pins s σ H x y v u Q I rx ry h
def ipSubU : TIp := ipI fun i j => i - j
theorem ip_subU : PIp X .Sub ipSubU := ip_sub
/-! ### slices, walks -/

end
end L2.BP
namespace L2.BP
open PySem PySem.Spec PyProof.Rows
/-! ### calls that may let an error out, wished for at the caller's slots -/
section
variable {X : Cx} {k : Nat} {f C : Addr} {fd : FuncData} {ps : List Str} {sp : Sp} {dvs : List V} {ds : List Value} {W : WX} {x m : Str} {p pos apos : Pos} {e o : Expr} {es : List Expr} {ta : TE} {t : TA}
/-- f(e, ..) -/
def tCl (sp : Sp) (dvs : List V) (W : WX) (t : TA) : TE := fun σ H Q => t σ H fun vs H1 => sp (vs ++ dvs) H1 Q fun c d H2 => W c d σ H2
theorem pe_cl (F : FnOk X.prog X.w X.K X.mg X.base (L2.CX X.prog X.w) k f fd ps sp) (hr : Room k X.A) (hg : Gl X x) (hm : X.mg x = some (.ref f)) (hk : PySem.W.keepIn X.K (.ref f) = true)
    (hb : Binds X.K fd ps ds) (hd : Vals dvs ds) (tk : Takes X W) (ha : PA X (e :: es) t) (hdb : (x == ("__debug__" : Str)) = false := by decide)
    (he : starEach (e :: es) X.env = (false, eval e X.env) :: starEach es X.env := by rfl) (hpl : (backTo pos (starEach es X.env)).any (·.1) = false := by rfl) :
    PE X (.Call (.Name x p) (e :: es) [] pos) (tCl sp dvs W t) :=
  pe_callSD (E := WE W) F hr hg hm hk hb hd (fun σ => passAt tk σ) ha hdb he hpl
theorem pe_cl0 (F : FnOk X.prog X.w X.K X.mg X.base (L2.CX X.prog X.w) k f fd ps sp) (hr : Room k X.A) (hg : Gl X x) (hm : X.mg x = some (.ref f)) (hk : PySem.W.keepIn X.K (.ref f) = true)
    (hb : Binds X.K fd ps ds) (hd : Vals dvs ds) (tk : Takes X W) (hdb : (x == ("__debug__" : Str)) = false := by decide) :
    PE X (.Call (.Name x p) [] [] pos) (tCl sp dvs W tNil) := by
  constructor
  intro pins s σ H Q I h
  have go := run_fnSD (E := WE W) (us := []) F hr hb hd (passAt tk σ) I .nil h
  exact wpAny_Call_Name_kw (ld_glob I hg hm (PySem.W.callWith_K0 I.kIn hk go) hdb)
/-- o.m(e, ..) -/
def tMt (C : Addr) (m : Str) (sp : Sp) (dvs : List V) (W : WX) (ta : TE) (t : TA) : TE := fun σ H Q => ta σ H fun x H1 => ∃ a dx fs, x = .ref a ∧ H1 a = some (.ins C dx fs) ∧ fs.lookup m = none ∧
  t σ H1 fun vs H2 => sp (x :: (vs ++ dvs)) H2 Q fun c d H3 => W c d σ H3
theorem pe_mt' {pl : Sem Bool} (he : PE X o ta) (c : Cls X.K C) (hm : Meth X.K C m f) (F : FnOk X.prog X.w X.K X.mg X.base (L2.CX X.prog X.w) k f fd ps sp) (hr : Room k X.A)
    (hb : Binds X.K fd ps ds) (hd : Vals dvs ds) (tk : Takes X W) (ha : PA X (e :: es) t)
    (hst : starEach (e :: es) X.env = (false, eval e X.env) :: starEach es X.env := by rfl) (hpl : (backTo pos (starEach es X.env)).any (·.1) = false := by rfl)
    (ht : eval (.Call (.Attribute o m apos) (e :: es) [] pos) X.env = (do
      let ov ← eval o X.env; standAt apos.atName
      let (f, first) ← holding [ov] (getMethod ov m pl); callWith pos f first (backTo pos (starEach (e :: es) X.env)) (backToKw pos (keywordEach [] X.env))) := by rfl) :
    PE X (.Call (.Attribute o m apos) (e :: es) [] pos) (tMt C m sp dvs W ta t) := by
  constructor
  intro pins s σ H Q I h
  refine PySem.W.methodCall_KW (pl := pl) (thn (he.run pins s σ H _ I h) ?_) ht
  rintro u s1 ⟨x, H1, I1, rx, a, dx, fs, rfl, ea, l, q⟩
  cases (show u = Value.ref a from rx)
  refine getmeth_ok I1 ea c hm l (PySem.W.callWith_K (first := [.ref a]) (h₀ := X.base) I.ok.mod.kin hm.kp ?_ hst hpl)
  refine thn (ha.run pos pins s1 σ H1 _ I1 q) ?_
  rintro us s2 ⟨vs, H2, I2, r, q2⟩
  exact ⟨I2.kIn, run_fnSD (E := WE W) (us := .ref a :: us) (vs := .ref a :: vs) F hr hb hd (passAt tk σ) I2 (.cons rfl r) q2⟩
theorem pe_mt0' {pl : Sem Bool} (he : PE X o ta) (c : Cls X.K C) (hm : Meth X.K C m f) (F : FnOk X.prog X.w X.K X.mg X.base (L2.CX X.prog X.w) k f fd ps sp) (hr : Room k X.A)
    (hb : Binds X.K fd ps ds) (hd : Vals dvs ds) (tk : Takes X W)
    (ht : eval (.Call (.Attribute o m apos) [] [] pos) X.env = (do
      let ov ← eval o X.env; standAt apos.atName
      let (f, first) ← holding [ov] (getMethod ov m pl); callWith pos f first (backTo pos (starEach [] X.env)) (backToKw pos (keywordEach [] X.env))) := by rfl) :
    PE X (.Call (.Attribute o m apos) [] [] pos) (tMt C m sp dvs W ta tNil) := by
  constructor
  intro pins s σ H Q I h
  refine PySem.W.methodCall_KW (pl := pl) (thn (he.run pins s σ H _ I h) ?_) ht
  rintro u s1 ⟨x, H1, I1, rx, a, dx, fs, rfl, ea, l, q⟩
  cases (show u = Value.ref a from rx)
  refine getmeth_ok I1 ea c hm l ?_
  have go := run_fnSD (E := WE W) (us := [.ref a]) (vs := [.ref a]) F hr hb hd (passAt tk σ) I1 (.cons rfl .nil) q
  exact PySem.W.callWith_K0 (first := [.ref a]) I1.kIn hm.kp go
/-- C(e, ..) -/
def tMk (C : Addr) (sp : Sp) (dvs : List V) (W : WX) (t : TA) : TE := fun σ H Q => t σ H fun vs H1 => ∀ x dx, H1 x = none → H1 dx = none → dx ≠ x →
  sp (.ref x :: (vs ++ dvs)) (upd (upd H1 dx (.own x)) x (.ins C dx [])) (fun v H2 => v = .non ∧ Q (.ref x) H2) fun c d H2 => W c d σ H2
theorem run_mk {pins : List (Addr × Obj)} {σ : St} {H : Hp} {s : Shared} {Q : VK} {us : List Value} {vs : List V} (M : Mk X.K C f) (F : FnOk X.prog X.w X.K X.mg X.base (L2.CX X.prog X.w) k f fd ps sp) (hr : Room (k + 1) X.A)
    (hb : Binds X.K fd ps ds) (hd : Vals dvs ds) (tk : Takes X W) (I : Inv X pins σ H s) (r : Vals vs us)
    (h : ∀ x dx, H x = none → H dx = none → dx ≠ x → sp (.ref x :: (vs ++ dvs)) (upd (upd H dx (.own x)) x (.ins C dx [])) (fun v H2 => v = .non ∧ Q (.ref x) H2) fun c d H2 => W c d σ H2) :
    wpAny (model X.prog X.w) X.A (call (.ref C) us) (EP X pins σ Q) X.xe s := by
  have hq := h (s.heap.objs.size + 1) s.heap.objs.size (I.hok.fresh (Nat.le_succ _)) (I.hok.fresh (Nat.le_refl _)) (Nat.ne_of_lt (Nat.lt_succ_self _))
  have J := Inv.made (C := C) I
  have rr : Vals (V.ref (s.heap.objs.size + 1) :: (vs ++ dvs)) (Value.ref (s.heap.objs.size + 1) :: (us ++ ds)) := .cons rfl (r.append hd)
  have hl : (Value.ref (s.heap.objs.size + 1) :: us ++ ds).length = ps.length := by
    have e1 := rr.length
    rw [F.len _ _ _ _ hq] at e1
    exact e1.symm
  have run := F.run _ X.stack _ _ ⟨Value.ref (s.heap.objs.size + 1) :: us, []⟩ (Value.ref (s.heap.objs.size + 1) :: (us ++ ds)) _ _ _ (hr.make C us []) (J.env0.make C us []) (hb _ (Value.ref (s.heap.objs.size + 1) :: us) J.kIn hl) rr hq
  refine wpAny_call (make_map (f := f) I.kIn M.makes M.init (beq_iff_eq.mp M.fn) (codeAny_mono run ?_))
  intro r s' z
  match r, z with
  | .error e, z => exact (passAt tk σ) pins _ _ e s' J z
  | .ok (.ret u), z =>
    obtain ⟨v, H', J3, rv, ev, q3⟩ := J.after z
    subst ev
    exact ⟨rv, ⟨V.ref (s.heap.objs.size + 1), H', J3, rfl, q3⟩⟩
theorem pe_mk' (M : Mk X.K C f) (F : FnOk X.prog X.w X.K X.mg X.base (L2.CX X.prog X.w) k f fd ps sp) (hr : Room (k + 1) X.A) (hg : Gl X x) (hm : X.mg x = some (.ref C))
    (hb : Binds X.K fd ps ds) (hd : Vals dvs ds) (tk : Takes X W) (ha : PA X (e :: es) t) (hdb : (x == ("__debug__" : Str)) = false := by decide)
    (he : starEach (e :: es) X.env = (false, eval e X.env) :: starEach es X.env := by rfl) (hpl : (backTo pos (starEach es X.env)).any (·.1) = false := by rfl) :
    PE X (.Call (.Name x p) (e :: es) [] pos) (tMk C sp dvs W t) := by
  constructor
  intro pins s σ H Q I h
  refine wpAny_Call_Name_kw (ld_glob I hg hm (PySem.W.callWith_K (h₀ := X.base) I.ok.mod.kin M.kp ?_ he hpl) hdb)
  refine thn (ha.run pos pins s σ H _ I h) ?_
  rintro us s1 ⟨vs, H1, I1, r, q⟩
  exact ⟨I1.kIn, run_mk M F hr hb hd tk I1 r q⟩
theorem pe_mk0' (M : Mk X.K C f) (F : FnOk X.prog X.w X.K X.mg X.base (L2.CX X.prog X.w) k f fd ps sp) (hr : Room (k + 1) X.A) (hg : Gl X x) (hm : X.mg x = some (.ref C))
    (hb : Binds X.K fd ps ds) (hd : Vals dvs ds) (tk : Takes X W) (hdb : (x == ("__debug__" : Str)) = false := by decide) :
    PE X (.Call (.Name x p) [] [] pos) (tMk C sp dvs W tNil) := by
  constructor
  intro pins s σ H Q I h
  have go := run_mk (us := []) M F hr hb hd tk I .nil h
  exact wpAny_Call_Name_kw (ld_glob I hg hm (PySem.W.callWith_K0 I.kIn M.kp go) hdb)
end
/-! ### an error raised -/
def tRz (C : Addr) (W : WX) : TS := fun _ σ H => W (.ref C) none σ H
theorem ps_rz {X : Cx} {W : WX} {C : Addr} {x m : Str} {j : Nat} {p p2 pos pos2 : Pos} (hc : X.calm = true) (tk : Takes X W) (q : PySem.W.excIn X.K C He.veBase "ValueError.__new__" = true ∧ PySem.W.keepIn X.K (.ref C) = true ∧ PySem.W.subIn X.K (.ref C) (.type "BaseException") = some true ∧ PySem.W.typeIn X.K (.ref C) = some (.type "type"))
    (gC : X.mg x = some (.ref C)) (hg : Gl X x) (hdb : (x == ("__debug__" : Str)) = false := by decide) :
    PS X (.Raise (some (.Call (.Name x p) [.Constant (.str m) j p2] [] pos)) none pos2) (tRz C W) :=
  ps_raise hc tk (pmk_own PySem.F.excBase_ValueError q.1 gC q.2.1 (raises_own q.2.2.1 q.2.2.2) hg hdb)
/-! ### names of the module -/
section
variable {X : Cx} {x : Str} {pos : Pos}
theorem pe_gint {i : Int} (hg : Gl X x) (hm : ∃ t, X.mg x = some (.int i t)) (hd : (x == ("__debug__" : Str)) = false := by decide) : PE X (.Name x pos) (tC (.int i)) :=
  hm.elim fun t h => pe_glob (v := .int i) hg h ⟨t, rfl⟩ hd
theorem pe_gstr {z : Str} (hg : Gl X x) (hm : ∃ t, X.mg x = some (.str z t)) (hd : (x == ("__debug__" : Str)) = false := by decide) : PE X (.Name x pos) (tC (.str z)) :=
  hm.elim fun t h => pe_glob (v := .str z) hg h ⟨t, rfl⟩ hd
theorem pe_gref {a : Addr} (hg : Gl X x) (hm : X.mg x = some (.ref a)) (hd : (x == ("__debug__" : Str)) = false := by decide) : PE X (.Name x pos) (tC (.ref a)) := pe_glob (v := .ref a) hg hm rfl hd
theorem pe_bty {n : String} (hg : Gl X x) (hm : X.mg x = none) (hv : bootBuiltins x = some (.type n)) (hn : x ≠ "__name__" := by decide) (hd : (x == ("__debug__" : Str)) = false := by decide) : PE X (.Name x pos) (tC (.ty n)) := pe_bltn (v := .ty n) hg hm hv rfl hn hd
end
theorem bt_int : bootBuiltins "int" = some (.type "int") := by decide +kernel
theorem bt_bool : bootBuiltins "bool" = some (.type "bool") := by decide +kernel
theorem bt_str : bootBuiltins "str" = some (.type "str") := by decide +kernel
theorem bt_list : bootBuiltins "list" = some (.type "list") := by decide +kernel
theorem bt_tuple : bootBuiltins "tuple" = some (.type "tuple") := by decide +kernel
theorem bt_dict : bootBuiltins "dict" = some (.type "dict") := by decide +kernel
theorem bt_ValueError : bootBuiltins "ValueError" = some (.type "ValueError") := by decide +kernel
theorem bt_set : bootBuiltins "set" = some (.type "set") := by decide +kernel
theorem bb_len : bootBuiltins "len" = some (.builtin "len") := by decide +kernel
theorem bb_isinstance : bootBuiltins "isinstance" = some (.builtin "isinstance") := by decide +kernel
theorem bb_all : bootBuiltins "all" = some (.builtin "all") := by decide +kernel
theorem bb_any : bootBuiltins "any" = some (.builtin "any") := by decide +kernel
theorem bb_sum : bootBuiltins "sum" = some (.builtin "sum") := by decide +kernel
theorem bb_min : bootBuiltins "min" = some (.builtin "min") := by decide +kernel
theorem bb_max : bootBuiltins "max" = some (.builtin "max") := by decide +kernel
theorem bb_abs : bootBuiltins "abs" = some (.builtin "abs") := by decide +kernel
theorem bb_divmod : bootBuiltins "divmod" = some (.builtin "divmod") := by decide +kernel
theorem bb_sorted : bootBuiltins "sorted" = some (.builtin "sorted") := by decide +kernel
theorem bb_repr : bootBuiltins "repr" = some (.builtin "repr") := by decide +kernel
/-! ### calls of built-ins by several kinds -/
section
variable {X : Cx}
def rLenK (K : PySem.W.Frag) : List V → Hp → VK → Prop := fun xs H Q => ∃ x n, xs = [x] ∧ LenV K x H n ∧ Q (.int n) H
theorem cr_lenK : CallR X (.builtin "len") (rLenK X.K) := call_len
def rIntK : List V → Hp → VK → Prop := fun xs H Q => (∃ i, xs = [.int i] ∧ Q (.int i) H) ∨ ∃ k, xs = [.bl k] ∧ Q (.int (if k then 1 else 0)) H
theorem cr_intK : CallR X (.type "int") rIntK := call_int1
def rListK (K : PySem.W.Frag) : List V → Hp → VK → Prop := fun xs H Q => ∃ p ys, xs = [.ref p] ∧ (SqL K H p ys ∨ SqT K H p ys) ∧ ∀ l, H l = none → Q (.ref l) (upd H l (.lst ys))
theorem cr_listK : CallR X (.type "list") (rListK X.K) := call_list_of
def rTupleK (K : PySem.W.Frag) : List V → Hp → VK → Prop := fun xs H Q => ∃ p ys, xs = [.ref p] ∧ ((SqL K H p ys ∧ ∀ l, H l = none → Q (.ref l) (upd H l (.tup ys))) ∨ (SqT K H p ys ∧ Q (.ref p) H))
theorem cr_tupleK : CallR X (.type "tuple") (rTupleK X.K) := call_tuple_of
def rDivmodK : List V → Hp → VK → Prop := fun xs H Q => ∃ i j, xs = [.int i, .int j] ∧ CDiv i j ∧ ∀ p, H p = none → Q (.ref p) (upd H p (.tup [.int (i / j), .int (i % j)]))
theorem cr_divmodK : CallR X (.builtin "divmod") rDivmodK := call_divmod
def rMax2K : List V → Hp → VK → Prop := fun xs H Q => ∃ i j, xs = [.int i, .int j] ∧ Q (.int (if j > i then j else i)) H
theorem cr_max2K (hc : X.calm = true) : CallR X (.builtin "max") rMax2K := call_max2 hc
def rMin2K : List V → Hp → VK → Prop := fun xs H Q => ∃ i j, xs = [.int i, .int j] ∧ Q (.int (if j < i then j else i)) H
theorem cr_min2K (hc : X.calm = true) : CallR X (.builtin "min") rMin2K := call_min2 hc
def rAbsK : List V → Hp → VK → Prop := fun xs H Q => ∃ i, xs = [.int i] ∧ Q (.int (if i < 0 then -i else i)) H
theorem cr_absK : CallR X (.builtin "abs") rAbsK := call_abs
def rSlK (K : PySem.W.Frag) : V → Option Int → Option Int → Hp → VK → Prop := fun x lo hi H Q => rSlL K x lo hi H Q ∨ rSlS x lo hi H Q ∨ rSlT K x lo hi H Q
theorem sl_K : SlR X (rSlK X.K) := SlR.or sl_list (SlR.or sl_str sl_tup)
end
end L2.BP
namespace L2.BP
open PySem PySem.Spec PyProof.Rows
/-! ### the heap as own objects over a base -/
structure Hs (B : Hp) (L : List (Addr × HO)) (H : Hp) : Prop where
  ex : Same B H
  nd : (L.map (·.1)).Nodup
  own : ∀ q ∈ L, H q.1 = some q.2 ∧ B q.1 = none
section
variable {B H H' : Hp} {L : List (Addr × HO)} {p : Addr} {o o' : HO} {K : PySem.W.Frag}
theorem Hs.start (H : Hp) : Hs H [] H := ⟨Same.refl H, .nil, fun _ h => nomatch h⟩
theorem Hs.same (h : Hs B L H) (s : Same H H') : Hs B L H' := ⟨h.ex.trans s, h.nd, fun q m => ⟨s _ _ (h.own q m).1, (h.own q m).2⟩⟩
theorem Hs.newS (h : Hs B L H) (hp : H p = none) (s : Same H H') (hn : H' p = some o) : Hs B ((p, o) :: L) H' where
  ex := h.ex.trans s
  nd := by
    refine List.nodup_cons.mpr ⟨fun m => ?_, h.nd⟩
    obtain ⟨q, mq, e⟩ := List.mem_map.mp m
    have z := (h.own q mq).1
    rw [e, hp] at z
    cases z
  own := fun q m => by
    rcases List.mem_cons.mp m with rfl | m
    · exact ⟨hn, h.ex.free hp⟩
    · exact ⟨s _ _ (h.own q m).1, (h.own q m).2⟩
theorem same_upd (hp : H p = none) : Same H (upd H p o) := fun b u e => by rw [upd_ne (ne_of_none e hp)]; exact e
theorem Hs.new (h : Hs B L H) (hp : H p = none) : Hs B ((p, o) :: L) (upd H p o) := h.newS hp (same_upd hp) upd_same
theorem Hs.drop {q : Addr × HO} (h : Hs B (q :: L) H) : Hs B L H := ⟨h.ex, (List.nodup_cons.mp h.nd).2, fun z m => h.own z (List.mem_cons_of_mem _ m)⟩
theorem Hs.get (h : Hs B L H) (m : (p, o) ∈ L) : H p = some o := (h.own _ m).1
theorem Hs.nb (h : Hs B L H) (m : (p, o) ∈ L) : B p = none := (h.own _ m).2
/-- the first of the own objects changed -/
theorem Hs.chg (h : Hs B ((p, o) :: L) H) (k : ∀ b u, b ≠ p → H b = some u → H' b = some u) (hn : H' p = some o') : Hs B ((p, o') :: L) H' where
  ex := fun b u e => k b u (ne_of_none e (h.nb (o := o) (.head _))) (h.ex b u e)
  nd := h.nd
  own := fun q m => by
    rcases List.mem_cons.mp m with rfl | m
    · exact ⟨hn, h.nb (o := o) (.head _)⟩
    · refine ⟨k _ _ (fun z => ?_) (h.own q (.tail _ m)).1, (h.own q (.tail _ m)).2⟩
      exact (List.nodup_cons.mp h.nd).1 (List.mem_map.mpr ⟨q, m, z⟩)
theorem Hs.perm {L' : List (Addr × HO)} (h : Hs B L H) (q : L.Perm L') : Hs B L' H := ⟨h.ex, (q.map _).nodup_iff.mp h.nd, fun z m => h.own z (q.mem_iff.mpr m)⟩
theorem Hs.swap {a b : Addr × HO} (h : Hs B (a :: b :: L) H) : Hs B (b :: a :: L) H := h.perm (.swap b a L)
theorem Hs.rot3 {a b c : Addr × HO} (h : Hs B (a :: b :: c :: L) H) : Hs B (c :: a :: b :: L) H := h.perm ((List.Perm.cons a (.swap c b L)).trans (.swap c a (b :: L)))
theorem Hs.unrot3 {a b c : Addr × HO} (h : Hs B (c :: a :: b :: L) H) : Hs B (a :: b :: c :: L) H := h.perm (((List.Perm.cons a (.swap c b L)).trans (.swap c a (b :: L))).symm)
theorem Hs.u0 (h : Hs B ((p, o) :: L) H) : Hs B ((p, o') :: L) (upd H p o') := h.chg (fun b u n e => by rw [upd_ne n]; exact e) upd_same
theorem Hs.u1 {a : Addr × HO} (h : Hs B (a :: (p, o) :: L) H) : Hs B (a :: (p, o') :: L) (upd H p o') := h.swap.u0.swap
theorem Hs.u2 {a b : Addr × HO} (h : Hs B (a :: b :: (p, o) :: L) H) : Hs B (a :: b :: (p, o') :: L) (upd H p o') := h.rot3.u0.unrot3
theorem Hs.u3 {a b c : Addr × HO} (h : Hs B (a :: b :: c :: (p, o) :: L) H) : Hs B (a :: b :: c :: (p, o') :: L) (upd H p o') := by
  have e : (a :: b :: c :: (p, o) :: L).Perm ((p, o) :: a :: b :: c :: L) := (List.perm_middle (l₁ := [a, b, c]) (a := (p, o)) (l₂ := L))
  have e' : ((p, o') :: a :: b :: c :: L).Perm (a :: b :: c :: (p, o') :: L) := (List.perm_middle (l₁ := [a, b, c]) (a := (p, o')) (l₂ := L)).symm
  exact ((h.perm e).u0 (o' := o')).perm e'
/-- the first one is laid to the base: it changes no more -/
theorem Hs.fix (h : Hs B ((p, o) :: L) H) : Hs (upd B p o) L H where
  ex := fun b u e => by
    by_cases hb : b = p
    · subst hb
      rw [upd_same] at e
      cases e
      exact h.get (.head _)
    · rw [upd_ne hb] at e
      exact h.ex b u e
  nd := (List.nodup_cons.mp h.nd).2
  own := fun q m => by
    refine ⟨(h.own q (.tail _ m)).1, ?_⟩
    have n : q.1 ≠ p := fun z => (List.nodup_cons.mp h.nd).1 (List.mem_map.mpr ⟨q, m, z⟩)
    rw [upd_ne n]
    exact (h.own q (.tail _ m)).2
theorem Hs.sql {xs : List V} (h : Hs B L H) (m : (p, HO.lst xs) ∈ L) : SqL K H p xs := .of (h.get m)
theorem Hs.sqt {xs : List V} (h : Hs B L H) (m : (p, HO.tup xs) ∈ L) : SqT K H p xs := .of (h.get m)
theorem Hs.bl {xs : List V} (h : Hs B L H) (m : SqL K B p xs) : SqL K H p xs := h.ex.seq m
theorem same_sqt {xs : List V} (e : Same H H') (h : SqT K H p xs) : SqT K H' p xs := by
  rcases h with (h | ⟨u, h⟩) | h
  · exact .inl (.inl (e _ _ h))
  · exact .inl (.inr ⟨u, e _ _ h⟩)
  · exact .inr h
theorem Hs.bt {xs : List V} (h : Hs B L H) (m : SqT K B p xs) : SqT K H p xs := same_sqt h.ex m
mutual
theorem dp_same (e : Same H H') : ∀ {v : V} {d : PyData}, Dp K H v d → Dp K H' v d
  | _, _, .non => .non
  | _, _, .bl b => .bl b
  | _, _, .int i => .int i
  | _, _, .str x => .str x
  | _, _, .lst h a => .lst (e.seq h) (dpa_same e a)
  | _, _, .tup h a => .tup (same_sqt e h) (dpa_same e a)
theorem dpa_same (e : Same H H') : ∀ {vs : List V} {ds : List PyData}, DpAll K H vs ds → DpAll K H' vs ds
  | _, _, .nil => .nil
  | _, _, .cons h a => .cons (dp_same e h) (dpa_same e a)
end
theorem dpa_ints : ∀ ns : List Int, DpAll K H (ns.map V.int) (ns.map PyData.int)
  | [] => .nil
  | n :: r => .cons (.int n) (dpa_ints r)
end
/-! ### readings, step by step -/
section
variable {σ : St} {H : Hp} {Q : VK} {v x y : V} {i j : Int} {ta tb te : TE} {K : PySem.W.Frag} {r : R2} {B : Hp} {L : List (Addr × HO)}
theorem c_var {n : Nat} (h : σ[n]? = some (some v)) (k : Q v H) : tVar n σ H Q := ⟨v, h, k⟩
theorem c_c (k : Q v H) : tC v σ H Q := k
theorem c_op (k : ta σ H fun x H1 => tb σ H1 fun y H2 => r x y H2 Q) : tOp r ta tb σ H Q := k
theorem c_un {r : V → Hp → VK → Prop} (k : ta σ H fun x H1 => r x H1 Q) : tUn r ta σ H Q := k
theorem c_addI (k : Q (.int (i + j)) H) : rAddU (.int i) (.int j) H Q := .inl ⟨i, j, rfl, rfl, k⟩
theorem c_addS {a b : Str} (h : a.length + b.length ≤ sizeLine) (k : Q (.str (a ++ b)) H) : rAddU (.str a) (.str b) H Q := .inr (.inl ⟨a, b, rfl, rfl, h, k⟩)
theorem c_addL {p q : Addr} {xs ys : List V} (h : Hs B L H) (hp : H p = some (.lst xs)) (hq : H q = some (.lst ys)) (hl : xs.length + ys.length ≤ sizeLine)
    (k : ∀ a H', Hs B ((a, .lst (xs ++ ys)) :: L) H' → Q (.ref a) H') : rAddU (.ref p) (.ref q) H Q :=
  .inr (.inr ⟨p, q, xs, ys, rfl, rfl, hp, hq, hl, fun a ha => k a _ (h.new ha)⟩)
theorem c_sub (k : Q (.int (i - j)) H) : rSubU (.int i) (.int j) H Q := ⟨i, j, rfl, rfl, k⟩
theorem c_mulI (h : CMul i j) (k : Q (.int (i * j)) H) : rMulU (.int i) (.int j) H Q := .inl ⟨i, j, rfl, rfl, h, k⟩
theorem c_rep {p : Addr} {xs : List V} (h : Hs B L H) (hp : H p = some (.lst xs)) (h1 : -(2 ^ 63) ≤ j) (h2 : j < 2 ^ 63) (hl : xs.length * j.toNat ≤ sizeLine)
    (k : ∀ a H', Hs B ((a, .lst (List.replicate j.toNat xs).flatten) :: L) H' → Q (.ref a) H') : rMulU (.ref p) (.int j) H Q :=
  .inr (.inl ⟨p, j, xs, rfl, rfl, hp, h1, h2, hl, fun a ha => k a _ (h.new ha)⟩)
theorem c_repS {z : Str} {n : Nat} (e : j = ((n : Nat) : Int)) (h1 : n ≤ 1000) (h2 : z.length ≤ 1000) (h3 : (repS z n).length ≤ 1000000) (k : Q (.str (repS z n)) H) : rMulU (.str z) (.int j) H Q := .inr (.inr ⟨z, n, rfl, by rw [e], h1, h2, h3, k⟩)
theorem c_div (h : CDiv i j) (k : Q (.int (i / j)) H) : rDivU (.int i) (.int j) H Q := ⟨i, j, rfl, rfl, h, k⟩
theorem c_mod (h : 0 < j) (k : Q (.int (i % j)) H) : rModU (.int i) (.int j) H Q := ⟨i, j, rfl, rfl, h, k⟩
theorem c_pow (h : CPow i j) (k : Q (.int (i ^ j.toNat)) H) : rPowU (.int i) (.int j) H Q := ⟨i, j, rfl, rfl, h, k⟩
theorem c_shl (h : CPow i j) (k : Q (.int (i * 2 ^ j.toNat)) H) : rShlU (.int i) (.int j) H Q := .inl ⟨i, j, rfl, rfl, h, k⟩
theorem c_shlW (h : CShl i j) (k : Q (.int (i * 2 ^ j.toNat)) H) : rShlU (.int i) (.int j) H Q := .inr ⟨i, j, rfl, rfl, h, k⟩
theorem c_shr (h : 0 ≤ j) (k : Q (.int (i / 2 ^ j.toNat)) H) : rShrU (.int i) (.int j) H Q := ⟨i, j, rfl, rfl, h, k⟩
theorem c_and (k : Q (.int (Builtin.bitAnd i j)) H) : rAndU (.int i) (.int j) H Q := ⟨i, j, rfl, rfl, k⟩
theorem c_or (k : Q (.int (Builtin.bitOr i j)) H) : rOrU (.int i) (.int j) H Q := ⟨i, j, rfl, rfl, k⟩
theorem c_xor (k : Q (.int (Builtin.bitXor i j)) H) : rXorU (.int i) (.int j) H Q := ⟨i, j, rfl, rfl, k⟩
theorem c_neg (k : Q (.int (-i)) H) : rNegU (.int i) H Q := ⟨i, rfl, k⟩
theorem c_lt (k : Q (.bl (decide (i < j))) H) : rLtU (.int i) (.int j) H Q := ⟨i, j, rfl, rfl, k⟩
theorem c_le (k : Q (.bl (decide (i ≤ j))) H) : rLeU (.int i) (.int j) H Q := ⟨i, j, rfl, rfl, k⟩
theorem c_gt (k : Q (.bl (decide (j < i))) H) : rGtU (.int i) (.int j) H Q := ⟨i, j, rfl, rfl, k⟩
theorem c_ge (k : Q (.bl (decide (j ≤ i))) H) : rGeU (.int i) (.int j) H Q := ⟨i, j, rfl, rfl, k⟩
theorem dec_of {p q : Prop} [Decidable p] [Decidable q] (h : p ↔ q) : decide p = decide q := by by_cases z : p <;> simp [z, h.mp, mt h.mpr] <;> simp_all
theorem c_eqI (k : Q (.bl (decide (i = j))) H) : rEqU K (.int i) (.int j) H Q := .inl ⟨rfl, by rw [dec_of (show V.int i = V.int j ↔ i = j by simp)]; exact k⟩
theorem c_neI (k : Q (.bl (!decide (i = j))) H) : rNeU K (.int i) (.int j) H Q := .inl ⟨rfl, by rw [dec_of (show V.int i = V.int j ↔ i = j by simp)]; exact k⟩
theorem c_eqS {a b : Str} (k : Q (.bl (decide (a = b))) H) : rEqU K (.str a) (.str b) H Q := .inl ⟨rfl, by rw [dec_of (show V.str a = V.str b ↔ a = b by simp)]; exact k⟩
theorem c_neS {a b : Str} (k : Q (.bl (!decide (a = b))) H) : rNeU K (.str a) (.str b) H Q := .inl ⟨rfl, by rw [dec_of (show V.str a = V.str b ↔ a = b by simp)]; exact k⟩
theorem c_eqB {a b : Bool} (k : Q (.bl (decide (a = b))) H) : rEqU K (.bl a) (.bl b) H Q := .inl ⟨rfl, by rw [dec_of (show V.bl a = V.bl b ↔ a = b by simp)]; exact k⟩
theorem c_neB {a b : Bool} (k : Q (.bl (!decide (a = b))) H) : rNeU K (.bl a) (.bl b) H Q := .inl ⟨rfl, by rw [dec_of (show V.bl a = V.bl b ↔ a = b by simp)]; exact k⟩
theorem c_eqD {d e : PyData} (hx : Dp K H x d) (hy : Dp K H y e) (h1 : SeqAt.shaped d = true) (h2 : SeqAt.shaped e = true) (k : Q (.bl (PyData.eqv d e)) H) : rEqU K x y H Q := .inr (.inl ⟨d, e, hx, hy, h1, h2, k⟩)
theorem c_neD {d e : PyData} (hx : Dp K H x d) (hy : Dp K H y e) (h1 : SeqAt.shaped d = true) (h2 : SeqAt.shaped e = true) (k : Q (.bl (!PyData.eqv d e)) H) : rNeU K x y H Q := .inr (.inl ⟨d, e, hx, hy, h1, h2, k⟩)
theorem c_isN (k : Q (.bl (decide (x = .non))) H) : rIsU x .non H Q := .inl ⟨rfl, k⟩
theorem c_notN (k : Q (.bl (!decide (x = .non))) H) : rNotU x .non H Q := .inl ⟨rfl, k⟩
theorem c_isB {a b : Bool} (k : Q (.bl (decide (a = b))) H) : rIsU (.bl a) (.bl b) H Q := .inr ⟨a, b, rfl, rfl, k⟩
theorem c_notB {a b : Bool} (k : Q (.bl (!decide (a = b))) H) : rNotU (.bl a) (.bl b) H Q := .inr ⟨a, b, rfl, rfl, k⟩
theorem c_ixL {p : Addr} {xs : List V} (h : SqL K H p xs) (ha : atI xs i = some v) (k : Q v H) : rIx K (.ref p) (.int i) H Q := .inl ⟨p, xs, i, v, rfl, rfl, h, ha, k⟩
theorem c_ixT {p : Addr} {xs : List V} (h : SqT K H p xs) (ha : atI xs i = some v) (k : Q v H) : rIx K (.ref p) (.int i) H Q := .inr (.inl ⟨p, xs, i, v, rfl, rfl, h, ha, k⟩)
theorem c_ixS {z : Str} {c : Nat} (h : z.length ≤ sizeLine) (ha : atI z.cps.toList i = some c) (k : Q (.str ⟨#[c]⟩) H) : rIx K (.str z) (.int i) H Q := .inr (.inr ⟨z, i, c, rfl, rfl, h, ha, k⟩)
theorem c_slL {p : Addr} {xs : List V} {lo hi : Option Int} (h : Hs B L H) (hq : SqL K H p xs) (k : ∀ a H', Hs B ((a, .lst (cutV xs lo hi)) :: L) H' → Q (.ref a) H') : rSlK K (.ref p) lo hi H Q :=
  .inl ⟨p, xs, rfl, hq, fun a ha => k a _ (h.new ha)⟩
theorem c_slS {z : Str} {lo hi : Option Int} (h : z.length ≤ sizeLine) (k : Q (.str (cutS z lo hi)) H) : rSlK K (.str z) lo hi H Q := .inr (.inl ⟨z, rfl, h, k⟩)
theorem c_andV (k : ta σ H fun x H1 => ∃ c, x = .bl c ∧ if c = true then tb σ H1 Q else Q (.bl false) H1) : tAndV ta tb σ H Q := k
theorem c_orV (k : ta σ H fun x H1 => ∃ c, x = .bl c ∧ if c = true then Q (.bl true) H1 else tb σ H1 Q) : tOrV ta tb σ H Q := k
theorem c_notV (k : ta σ H fun x H1 => ∃ c, x = .bl c ∧ Q (.bl (!c)) H1) : tNotV ta σ H Q := k
theorem c_bl {b : Bool} {P : Bool → Prop} (k : P b) : ∃ c, V.bl b = V.bl c ∧ P c := ⟨b, rfl, k⟩
theorem c_test {P : Bool → Hp → Prop} (k : te σ H fun x H' => ∃ c, x = .bl c ∧ P c H') : tTest te σ H P := k
theorem c_B {P : Bool → Hp → Prop} (k : te σ H fun x H' => ∃ c, x = .bl c ∧ P c H') : tB te σ H P := k
theorem c_chain {r' : R2} {tc : TE} (k : ta σ H fun x H1 => tb σ H1 fun y H2 => r x y H2 fun z H3 => ∃ c, z = .bl c ∧ (if c = true then tc σ H3 fun w H4 => r' y w H4 Q else Q (.bl false) H3)) : tChain r r' ta tb tc σ H Q := k
section
variable {t u : TT} {P : Bool → Hp → Prop}
theorem c_tand (k : t σ H fun c H1 => if c = true then u σ H1 P else P false H1) : tAnd t u σ H P := k
theorem c_tor (k : t σ H fun c H1 => if c = true then P true H1 else u σ H1 P) : tOr t u σ H P := k
theorem c_tnot (k : t σ H fun c H1 => P (!c) H1) : tNot t σ H P := k
theorem c_if (k : t σ H fun c H1 => if c = true then ta σ H1 Q else tb σ H1 Q) : tIf t ta tb σ H Q := k
end
section
variable {P : List V → Hp → Prop} {tr : TA}
theorem c_nil (k : P [] H) : tNil σ H P := k
theorem c_cons (k : te σ H fun x H1 => tr σ H1 fun xs H2 => P (x :: xs) H2) : tCons te tr σ H P := k
def TupO (xs : List V) (H : Hp) (Q : VK) : Prop := xs.length ≤ sizeLine ∧ ∀ p, H p = none → Q (.ref p) (upd H p (.tup xs))
def LstO (xs : List V) (H : Hp) (Q : VK) : Prop := xs.length ≤ sizeLine ∧ ∀ p, H p = none → Q (.ref p) (upd H p (.lst xs))
theorem c_tup (k : tr σ H fun xs H1 => TupO xs H1 Q) : tTup tr σ H Q := k
theorem c_lst (k : tr σ H fun xs H1 => LstO xs H1 Q) : tLst tr σ H Q := k
theorem c_tupO {xs : List V} (h : Hs B L H) (hl : xs.length ≤ sizeLine) (k : ∀ p H', Hs B ((p, .tup xs) :: L) H' → Q (.ref p) H') : TupO xs H Q := ⟨hl, fun p hp => k p _ (h.new hp)⟩
theorem c_lstO {xs : List V} (h : Hs B L H) (hl : xs.length ≤ sizeLine) (k : ∀ p H', Hs B ((p, .lst xs) :: L) H' → Q (.ref p) H') : LstO xs H Q := ⟨hl, fun p hp => k p _ (h.new hp)⟩
theorem c_cb {r : List V → Hp → VK → Prop} (k : tr σ H fun vs H1 => r vs H1 Q) : tCB r tr σ H Q := k
theorem c_lenL {p : Addr} {xs : List V} (h : SqL K H p xs) (k : Q (.int xs.length) H) : rLenK K [.ref p] H Q := ⟨_, _, rfl, .inl ⟨xs, h, rfl⟩, k⟩
theorem c_lenT {p : Addr} {xs : List V} (h : SqT K H p xs) (k : Q (.int xs.length) H) : rLenK K [.ref p] H Q := ⟨_, _, rfl, .inr ⟨xs, h, rfl⟩, k⟩
theorem c_lenS {z : Str} (h : z.length ≤ sizeLine) (k : Q (.int z.length) H) : rLenK K [.str z] H Q := ⟨_, _, rfl, ⟨h, rfl⟩, k⟩
theorem c_intI (k : Q (.int i) H) : rIntK [.int i] H Q := .inl ⟨i, rfl, k⟩
theorem c_intB {b : Bool} (k : Q (.int (if b then 1 else 0)) H) : rIntK [.bl b] H Q := .inr ⟨b, rfl, k⟩
theorem c_listL {p : Addr} {xs : List V} (h : Hs B L H) (hq : SqL K H p xs) (k : ∀ a H', Hs B ((a, .lst xs) :: L) H' → Q (.ref a) H') : rListK K [.ref p] H Q := ⟨p, xs, rfl, .inl hq, fun a ha => k a _ (h.new ha)⟩
theorem c_listT {p : Addr} {xs : List V} (h : Hs B L H) (hq : SqT K H p xs) (k : ∀ a H', Hs B ((a, .lst xs) :: L) H' → Q (.ref a) H') : rListK K [.ref p] H Q := ⟨p, xs, rfl, .inr hq, fun a ha => k a _ (h.new ha)⟩
theorem c_divmod (h : Hs B L H) (c : CDiv i j) (k : ∀ a H', Hs B ((a, .tup [.int (i / j), .int (i % j)]) :: L) H' → Q (.ref a) H') : rDivmodK [.int i, .int j] H Q := ⟨i, j, rfl, c, fun a ha => k a _ (h.new ha)⟩
theorem c_max2 (k : Q (.int (if j > i then j else i)) H) : rMax2K [.int i, .int j] H Q := ⟨i, j, rfl, k⟩
theorem c_min2 (k : Q (.int (if j < i then j else i)) H) : rMin2K [.int i, .int j] H Q := ⟨i, j, rfl, k⟩
theorem c_abs (k : Q (.int (if i < 0 then -i else i)) H) : rAbsK [.int i] H Q := ⟨i, rfl, k⟩
theorem c_sum {p : Addr} {ns : List Int} (h : SqL K H p (ns.map V.int)) (k : Q (.int ns.sum) H) : rSum K [.ref p] H Q := ⟨p, ns, rfl, h, k⟩
theorem c_all {p : Addr} {bs : List Bool} (h : SqL K H p (bs.map V.bl)) (k : Q (.bl (bs.all id)) H) : rAll K [.ref p] H Q := ⟨p, bs, rfl, h, k⟩
theorem c_any {p : Addr} {bs : List Bool} (h : SqL K H p (bs.map V.bl)) (k : Q (.bl (bs.any id)) H) : rAny K [.ref p] H Q := ⟨p, bs, rfl, h, k⟩
theorem c_cl {sp : Sp} {dvs : List V} {W : WX} (k : tr σ H fun vs H1 => sp (vs ++ dvs) H1 Q fun c d H2 => W c d σ H2) : tCl sp dvs W tr σ H Q := k
theorem c_mt {C : Addr} {m : Str} {sp : Sp} {dvs : List V} {W : WX} (k : te σ H fun x H1 => ∃ a dx fs, x = .ref a ∧ H1 a = some (.ins C dx fs) ∧ fs.lookup m = none ∧ tr σ H1 fun vs H2 => sp (x :: (vs ++ dvs)) H2 Q fun c d H3 => W c d σ H3) : tMt C m sp dvs W te tr σ H Q := k
theorem c_recv {C dx p : Addr} {fs : List (Str × V)} {m : Str} {P : Prop} (h : H p = some (.ins C dx fs)) (hl : fs.lookup m = none) (k : P) : ∃ a dx fs, V.ref p = .ref a ∧ H a = some (.ins C dx fs) ∧ fs.lookup m = none ∧ P := ⟨p, dx, fs, rfl, h, hl, k⟩
end
/-! isinstance -/
theorem tyx_sql {p : Addr} {xs : List V} (h : SqL K H p xs) : TyX K H (.ref p) (.type "list") := by
  rcases h with (h | ⟨u, h⟩) | ⟨o, a, b, h1, h2, _⟩
  · exact .base (.lst h)
  · exact .base (.frz h)
  · exact .kList h1 h2
theorem c_isi {c : V} {t u : Value} {b : Bool} (T : TyX K H x t) (hc : ClsV c u) (e : PySem.W.kitOne K t u = some b) (k : Q (.bl b) H) : rIsi K [x, c] H Q := ⟨x, c, t, u, b, rfl, hc, T, e, k⟩
theorem k_int_int : PySem.W.kitOne K (.type "int") (.type "int") = some true := kit_ty (by decide +kernel)
theorem k_int_bool : PySem.W.kitOne K (.type "int") (.type "bool") = some false := kit_ty (by decide +kernel)
theorem k_list_list : PySem.W.kitOne K (.type "list") (.type "list") = some true := kit_ty (by decide +kernel)
theorem c_isi_ii (k : Q (.bl true) H) : rIsi K [.int i, .ty "int"] H Q := c_isi (.base (.int i)) (.ty _) k_int_int k
theorem c_isi_ib (k : Q (.bl false) H) : rIsi K [.int i, .ty "bool"] H Q := c_isi (.base (.int i)) (.ty _) k_int_bool k
theorem c_isi_ll {p : Addr} {xs : List V} (h : SqL K H p xs) (k : Q (.bl true) H) : rIsi K [.ref p, .ty "list"] H Q := c_isi (tyx_sql h) (.ty _) k_list_list k
/-! fields -/
def FldO (K : PySem.W.Frag) (f : Str) (x : V) (H : Hp) (Q : VK) : Prop := ∃ a C dx fs v, x = .ref a ∧ H a = some (.ins C dx fs) ∧ Cls K C ∧ NoAttr K C f ∧ fs.lookup f = some v ∧ Q v H
theorem c_fld {f : Str} {C dx p : Addr} {fs : List (Str × V)} (h : H p = some (.ins C dx fs)) (hc : Cls K C) (hn : NoAttr K C f) (hl : fs.lookup f = some v) (k : Q v H) : FldO K f (.ref p) H Q := ⟨p, C, dx, fs, v, rfl, h, hc, hn, hl, k⟩
end
/-! ### statements -/
section
variable {σ : St} {H : Hp} {dn : St → Hp → Prop} {dr : VK} {db dc : St → Hp → Prop} {t u : TS} {te : TE} {g : TG} {v : V} {b : Bool}
theorem w_seq (k : t ⟨u ⟨dn, dr, db, dc⟩, dr, db, dc⟩ σ H) : tSeq t u ⟨dn, dr, db, dc⟩ σ H := k
theorem w_asg (k : te σ H fun x H1 => g x σ H1 dn) : tAsg te g ⟨dn, dr, db, dc⟩ σ H := k
theorem w_name {n : Nat} {P : St → Hp → Prop} (k : P (σ.set n (some v)) H) : gName n v σ H P := k
theorem w_drop (k : te σ H fun _ H1 => dn σ H1) : tDrop te ⟨dn, dr, db, dc⟩ σ H := k
theorem w_ret (k : te σ H dr) : tRet te ⟨dn, dr, db, dc⟩ σ H := k
theorem w_if {c : TT} (k : c σ H fun b H1 => if b = true then t ⟨dn, dr, db, dc⟩ σ H1 else u ⟨dn, dr, db, dc⟩ σ H1) : tIfS c t u ⟨dn, dr, db, dc⟩ σ H := k
theorem w_next (k : dn σ H) : tNext ⟨dn, dr, db, dc⟩ σ H := k
theorem i_t {A A' : Prop} (h : b = true) (k : A) : if b = true then A else A' := by rw [if_pos h]; exact k
theorem i_f {A A' : Prop} (h : b = false) (k : A') : if b = true then A else A' := by rw [h, if_neg Bool.false_ne_true]; exact k
theorem i_2 {A A' : Prop} (k : b = true → A) (k' : b = false → A') : if b = true then A else A' := by cases b; exact iteF (k' rfl); exact iteT (k rfl)
theorem w_aug {n : Nat} {ti : TIp} (h : σ[n]? = some (some v)) (k : te σ H fun y H1 => ti v y H1 fun z H2 => dn (σ.set n (some z)) H2) : tAug n te ti ⟨dn, dr, db, dc⟩ σ H := ⟨v, h, k⟩
theorem c_ipAddI {i j : Int} {Q : VK} (k : Q (.int (i + j)) H) : ipAddU (.int i) (.int j) H Q := .inl ⟨i, j, rfl, rfl, k⟩
theorem c_ipSub {i j : Int} {Q : VK} (k : Q (.int (i - j)) H) : ipSubU (.int i) (.int j) H Q := ⟨i, j, rfl, rfl, k⟩
end
/-! ### loops over what has plain items -/
section
variable {α : Type} {K : PySem.W.Frag} {a : Addr} {g : TG} {tb : TS} {dn : St → Hp → Prop} {dr : VK} {db dc : St → Hp → Prop} {σ : St} {H : Hp}
theorem take_split {l : List α} {i : Nat} {x : α} (h : l[i]? = some x) : l = l.take i ++ x :: l.drop (i + 1) ∧ l.take (i + 1) = l.take i ++ [x] := by
  obtain ⟨hi, e⟩ := List.getElem?_eq_some_iff.mp h
  subst e
  refine ⟨?_, by rw [List.take_add_one, h]; rfl⟩
  conv => lhs; rw [← List.take_append_drop i l, List.drop_eq_getElem_cons hi]
theorem for_l (f : α → V) (l : List α) (Pv : List α → St → Hp → Prop) (h0 : Pv [] σ H) (hq : ∀ pre post σ H, l = pre ++ post → Pv pre σ H → SqL K H a (l.map f))
    (hs : ∀ pre x post σ H, l = pre ++ x :: post → Pv pre σ H → g (f x) σ H fun σ2 H2 => tb ⟨Pv (pre ++ [x]), dr, dn, Pv (pre ++ [x])⟩ σ2 H2) (hd : ∀ σ H, Pv l σ H → dn σ H) :
    ∃ W : Nat → Nat → St → Hp → Prop, (∃ m, W 0 m σ H) ∧ ∀ i m σ H, W i m σ H →
      ((Itl K a).stop i H ∧ dn σ H) ∨ ((Itl K a).go i H ∧ ∃ N : St → Hp → Prop, (∀ σ' H', N σ' H' → ∃ m', m' < m ∧ W (i + 1) m' σ' H') ∧ ∀ x H', (Itl K a).yld i H x H' → g x σ H' fun σ2 H2 => tb ⟨N, dr, dn, N⟩ σ2 H2) := by
  refine L2.for_list (D := { nx := dn, rt := dr }) (xs := l.map f) (fun i => Pv (l.take i)) (by simpa using h0) (fun i σ H _ p => hq _ (l.drop i) σ H (List.take_append_drop i l).symm p) (fun i x σ H hx p => ?_) (fun σ H p => hd σ H (by simpa using p))
  rw [List.getElem?_map] at hx
  cases e : l[i]? with
  | none => rw [e] at hx; cases hx
  | some y =>
    rw [e] at hx
    cases hx
    obtain ⟨e1, e2⟩ := take_split e
    have z := hs _ y _ σ H e1 p
    rw [e2]
    exact z
theorem lc_l {tt : TT} {te : TE} {vs : List Nat} {D : Addr} {Qd : Hp → Prop} (f : α → V) (l : List α) (Pv : List α → Hp → Prop) (h0 : Pv [] (upd H D (.lst []))) (hq : ∀ pre post H, l = pre ++ post → Pv pre H → SqL K H a (l.map f))
    (hs : ∀ pre x post H, l = pre ++ x :: post → Pv pre H → g (f x) (wipe σ vs) H fun σ2 H2 => wipe σ2 vs = wipe σ vs ∧ tt σ2 H2 fun b H3 =>
      if b = true then te σ2 H3 fun y H4 => ∃ acc, H4 D = some (.lst acc) ∧ acc.length < sizeLine ∧ Pv (pre ++ [x]) (upd H4 D (.lst (acc ++ [y]))) else Pv (pre ++ [x]) H3) (hd : ∀ H, Pv l H → Qd H) :
    ∃ W : Nat → Nat → Hp → Prop, (∃ m, W 0 m (upd H D (.lst []))) ∧ ∀ i m H, W i m H →
      ((Itl K a).stop i H ∧ Qd H) ∨ ((Itl K a).go i H ∧ ∃ Nx : Hp → Prop, (∀ H', Nx H' → ∃ m', m' < m ∧ W (i + 1) m' H') ∧ ∀ x H', (Itl K a).yld i H x H' → g x (wipe σ vs) H' fun σ2 H2 => wipe σ2 vs = wipe σ vs ∧ tt σ2 H2 fun b H3 =>
        if b = true then te σ2 H3 fun y H4 => ∃ acc, H4 D = some (.lst acc) ∧ acc.length < sizeLine ∧ Nx (upd H4 D (.lst (acc ++ [y]))) else Nx H3) := by
  refine L2.lc_list (xs := l.map f) (fun i => Pv (l.take i)) (by simpa using h0) (fun i H _ p => hq _ (l.drop i) H (List.take_append_drop i l).symm p) (fun i x H hx p => ?_) (fun H p => hd H (by simpa using p))
  rw [List.getElem?_map] at hx
  cases e : l[i]? with
  | none => rw [e] at hx; cases hx
  | some y =>
    rw [e] at hx
    cases hx
    obtain ⟨e1, e2⟩ := take_split e
    have z := hs _ y _ H e1 p
    rw [e2]
    exact z
end
end L2.BP
namespace L2.BP
open PySem PySem.Spec PyProof.Rows
/-- a def as callers see it: what its defaults are, how the written arguments bind, its promise -/
def DOk (P : Program) (w : World) (K : PySem.W.Frag) (mg : Str → Option Value) (base : Heap) (k : Nat) (f : Addr) (ps : List Str) (dvs : List V) (sp : Sp) : Prop :=
  ∃ (fd : FuncData) (ds : List Value), Vals dvs ds ∧ Binds K fd ps ds ∧ FnOk P w K mg base (L2.CX P w) k f fd ps sp ∧ PySem.W.keepIn K (.ref f) = true
abbrev WF : WX := fun _ _ _ _ => False
/-! ### one of two readings of the same expression -/
def tOrE (t u : TE) : TE := fun σ H Q => t σ H Q ∨ u σ H Q
theorem pe_orE {X : Cx} {e : Expr} {t u : TE} (h : PE X e t) (h' : PE X e u) : PE X e (tOrE t u) :=
  ⟨fun pins s σ H Q I z => z.elim (h.run pins s σ H Q I) (h'.run pins s σ H Q I)⟩
/-! ### kinds of things -/
inductive Tg where
  | non | bl (b : Bool) | int (i : Int) | str (x : Str) | lst (xs : List V) | tup (xs : List V) | dic
/-- the thing v is of that kind -/
inductive Th (K : PySem.W.Frag) (H : Hp) : V → Tg → Prop where
  | non : Th K H .non .non
  | bl (b : Bool) : Th K H (.bl b) (.bl b)
  | int (i : Int) : Th K H (.int i) (.int i)
  | str (x : Str) : Th K H (.str x) (.str x)
  | lst {a : Addr} {xs : List V} (h : SqL K H a xs) : Th K H (.ref a) (.lst xs)
  | tup {a : Addr} {xs : List V} (h : SqT K H a xs) : Th K H (.ref a) (.tup xs)
  | dic {a : Addr} {kvs : List (Key × V)} (h : H a = some (.dK kvs)) : Th K H (.ref a) .dic
def Tg.ty : Tg → String
  | .non => "NoneType" | .bl _ => "bool" | .int _ => "int" | .str _ => "str" | .lst _ => "list" | .tup _ => "tuple" | .dic => "dict"
section
variable {K : PySem.W.Frag} {H H' : Hp} {v : V} {g : Tg} {Q : VK}
theorem Th.same (h : Th K H v g) (e : Same H H') : Th K H' v g := by
  cases h with
  | non => exact .non
  | bl b => exact .bl b
  | int i => exact .int i
  | str x => exact .str x
  | lst h => exact .lst (e.seq h)
  | tup h => exact .tup (same_sqt e h)
  | dic h => exact .dic (e _ _ h)
theorem tyx_sqt {p : Addr} {xs : List V} (h : SqT K H p xs) : TyX K H (.ref p) (.type "tuple") := by
  rcases h with (h | ⟨u, h⟩) | ⟨o, a, b, h1, h2, _⟩
  · exact .base (.tup h)
  · exact .fTuple h
  · exact .kTuple h1 h2
theorem Th.tyx (h : Th K H v g) : TyX K H v (.type g.ty) := by
  cases h with
  | non => exact .base .non
  | bl b => exact .base (.bl b)
  | int i => exact .base (.int i)
  | str x => exact .base (.str x)
  | lst h => exact tyx_sql h
  | tup h => exact tyx_sqt h
  | dic h => exact .base (.dK h)
def Tg.isInt : Tg → Bool
  | .bl _ => true | .int _ => true | _ => false
def Tg.isBool : Tg → Bool
  | .bl _ => true | _ => false
def Tg.isList : Tg → Bool
  | .lst _ => true | _ => false
def Tg.isStr : Tg → Bool
  | .str _ => true | _ => false
def Tg.isTup : Tg → Bool
  | .tup _ => true | _ => false
theorem Tg.kInt (g : Tg) : PySem.W.kitOne K (.type g.ty) (.type "int") = some g.isInt := by cases g <;> exact kit_ty (by kernel_rfl)
theorem Tg.kBool (g : Tg) : PySem.W.kitOne K (.type g.ty) (.type "bool") = some g.isBool := by cases g <;> exact kit_ty (by kernel_rfl)
theorem Tg.kList (g : Tg) : PySem.W.kitOne K (.type g.ty) (.type "list") = some g.isList := by cases g <;> exact kit_ty (by kernel_rfl)
theorem Tg.kStr (g : Tg) : PySem.W.kitOne K (.type g.ty) (.type "str") = some g.isStr := by cases g <;> exact kit_ty (by kernel_rfl)
theorem Tg.kTup (g : Tg) : PySem.W.kitOne K (.type g.ty) (.type "tuple") = some g.isTup := by cases g <;> exact kit_ty (by kernel_rfl)
theorem c_isiInt (h : Th K H v g) (k : Q (.bl g.isInt) H) : rIsi K [v, .ty "int"] H Q := c_isi h.tyx (.ty _) g.kInt k
theorem c_isiBool (h : Th K H v g) (k : Q (.bl g.isBool) H) : rIsi K [v, .ty "bool"] H Q := c_isi h.tyx (.ty _) g.kBool k
theorem c_isiList (h : Th K H v g) (k : Q (.bl g.isList) H) : rIsi K [v, .ty "list"] H Q := c_isi h.tyx (.ty _) g.kList k
theorem c_isiStr (h : Th K H v g) (k : Q (.bl g.isStr) H) : rIsi K [v, .ty "str"] H Q := c_isi h.tyx (.ty _) g.kStr k
theorem c_isiTup (h : Th K H v g) (k : Q (.bl g.isTup) H) : rIsi K [v, .ty "tuple"] H Q := c_isi h.tyx (.ty _) g.kTup k
/-- the results of defs that change nothing: a value, a new list, a new tuple -/
def RetV (H : Hp) (Q : VK) (v : V) : Prop := ∀ H', Same H H' → Q v H'
def RetL (H : Hp) (Q : VK) (xs : List V) : Prop := ∀ p H', H p = none → Same H H' → H' p = some (.lst xs) → Q (.ref p) H'
def RetT (H : Hp) (Q : VK) (xs : List V) : Prop := ∀ p H', H p = none → Same H H' → H' p = some (.tup xs) → Q (.ref p) H'
end
section
variable {B H : Hp} {L : List (Addr × HO)} {K : PySem.W.Frag} {Q : VK} {v : V} {xs : List V}
theorem Hs.rv (h : Hs B L H) (k : RetV B Q v) : Q v H := k H h.ex
theorem Hs.rl {p : Addr} (h : Hs B L H) (m : (p, HO.lst xs) ∈ L) (k : RetL B Q xs) : Q (.ref p) H := k p H (h.nb m) h.ex (h.get m)
theorem Hs.rt {p : Addr} (h : Hs B L H) (m : (p, HO.tup xs) ∈ L) (k : RetT B Q xs) : Q (.ref p) H := k p H (h.nb m) h.ex (h.get m)
theorem retV (h : Hs B L H) (k : ∀ H', Hs B L H' → Q v H') : RetV H Q v := fun H' e => k H' (h.same e)
theorem retL (h : Hs B L H) (k : ∀ p H', Hs B ((p, .lst xs) :: L) H' → Q (.ref p) H') : RetL H Q xs := fun p H' hp e hn => k p H' (h.newS hp e hn)
theorem retT (h : Hs B L H) (k : ∀ p H', Hs B ((p, .tup xs) :: L) H' → Q (.ref p) H') : RetT H Q xs := fun p H' hp e hn => k p H' (h.newS hp e hn)
end
end L2.BP
namespace L2.BP
open PySem PySem.Spec PyProof.Rows
/-! ### loops over the picture of the heap: I tells of what is done, the slots, the own objects, the base -/
abbrev Pic : Type := List (Addr × HO)
section
variable {α : Type} {K : PySem.W.Frag} {a : Addr} {g : TG} {tb : TS} {dn : St → Hp → Prop} {dr : VK} {db dc : St → Hp → Prop} {σ : St} {H B : Hp} {L : Pic}
/-- a list that is read stands in the base, or is an own one that is not changed -/
def NxI {β : Type} (I : β → St → Pic → Hp → Prop) (b : β) : St → Hp → Prop := fun σ H => ∃ L B, I b σ L B ∧ Hs B L H
theorem w_forL (f : α → V) (l : List α) (I : List α → St → Pic → Hp → Prop) (hs : Hs B L H) (h0 : I [] σ L B) (hq : ∀ pre post σ' L' B' H', l = pre ++ post → I pre σ' L' B' → Hs B' L' H' → SqL K H' a (l.map f))
    (turn : ∀ pre x post σ' L' B' H', l = pre ++ x :: post → I pre σ' L' B' → Hs B' L' H' → g (f x) σ' H' fun σ2 H2 => tb ⟨NxI I (pre ++ [x]), dr, dn, NxI I (pre ++ [x])⟩ σ2 H2)
    (fin : ∀ σ' L' B' H', I l σ' L' B' → Hs B' L' H' → dn σ' H') :
    ∃ b, V.ref a = .ref b ∧ (∃ xs, SqL K H b xs) ∧ ∃ W : Nat → Nat → St → Hp → Prop, (∃ m, W 0 m σ H) ∧ ∀ i m σ H, W i m σ H →
      ((Itl K b).stop i H ∧ dn σ H) ∨ ((Itl K b).go i H ∧ ∃ N : St → Hp → Prop, (∀ σ' H', N σ' H' → ∃ m', m' < m ∧ W (i + 1) m' σ' H') ∧ ∀ x H', (Itl K b).yld i H x H' → g x σ H' fun σ2 H2 => tb ⟨N, dr, dn, N⟩ σ2 H2) :=
  ⟨a, rfl, ⟨_, hq [] l σ L B H rfl h0 hs⟩, for_l f l (NxI I) ⟨L, B, h0, hs⟩ (fun pre post σ' H' e ⟨_, _, i, h⟩ => hq pre post _ _ _ _ e i h) (fun pre x post σ' H' e ⟨_, _, i, h⟩ => turn pre x post _ _ _ _ e i h) fun σ' H' ⟨_, _, i, h⟩ => fin _ _ _ _ i h⟩
theorem w_forR {lo : Int} {n : Nat} (I : Nat → St → Pic → Hp → Prop) (hs : Hs B L H) (h0 : I 0 σ L B)
    (turn : ∀ i σ' L' B' H', i < n → I i σ' L' B' → Hs B' L' H' → g (.int (lo + i)) σ' H' fun σ2 H2 => tb ⟨NxI I (i + 1), dr, dn, NxI I (i + 1)⟩ σ2 H2)
    (fin : ∀ σ' L' B' H', I n σ' L' B' → Hs B' L' H' → dn σ' H') :
    ∃ W : Nat → Nat → St → Hp → Prop, (∃ m, W 0 m σ H) ∧ ∀ i m σ H, W i m σ H →
      ((Itr lo n).stop i H ∧ dn σ H) ∨ ((Itr lo n).go i H ∧ ∃ N : St → Hp → Prop, (∀ σ' H', N σ' H' → ∃ m', m' < m ∧ W (i + 1) m' σ' H') ∧ ∀ x H', (Itr lo n).yld i H x H' → g x σ H' fun σ2 H2 => tb ⟨N, dr, dn, N⟩ σ2 H2) :=
  L2.for_range (D := { nx := dn, rt := dr }) (NxI I) ⟨L, B, h0, hs⟩ (fun i σ' H' e ⟨_, _, q, h⟩ => turn i _ _ _ _ e q h) fun σ' H' ⟨_, _, q, h⟩ => fin _ _ _ _ q h
theorem c_rng1 {n : Int} {P : It → Hp → Prop} (h1 : -(2 ^ 62) ≤ n) (h2 : n < 2 ^ 62) (k : P (Itr 0 n.toNat) H) : ∃ j : Int, [V.int n] = [.int j] ∧ -(2 ^ 62) ≤ j ∧ j < 2 ^ 62 ∧ P (Itr 0 j.toNat) H := ⟨n, rfl, h1, h2, k⟩
theorem c_rng2 {i j : Int} {P : It → Hp → Prop} (h1 : -(2 ^ 62) ≤ i ∧ i < 2 ^ 62 ∧ -(2 ^ 62) ≤ j ∧ j < 2 ^ 62) (k : P (Itr i (j - i).toNat) H) :
    ∃ i' j' : Int, [V.int i, V.int j] = [.int i', .int j'] ∧ (-(2 ^ 62) ≤ i' ∧ i' < 2 ^ 62 ∧ -(2 ^ 62) ≤ j' ∧ j' < 2 ^ 62) ∧ P (Itr i' (j' - i').toNat) H := ⟨i, j, rfl, h1, k⟩
/-- while: I falls by its number -/
def WhN (I : Nat → St → Pic → Hp → Prop) (m : Nat) : St → Hp → Prop := fun σ H => ∃ m', m' < m ∧ NxI I m' σ H
theorem w_while {c : TT} (I : Nat → St → Pic → Hp → Prop) (m0 : Nat) (hs : Hs B L H) (h0 : I m0 σ L B)
    (turn : ∀ m σ' L' B' H', I m σ' L' B' → Hs B' L' H' → c σ' H' fun b H1 => if b = true then ∃ N : St → Hp → Prop, (∀ σ3 H3, N σ3 H3 → WhN I m σ3 H3) ∧ tb ⟨N, dr, dn, N⟩ σ' H1 else dn σ' H1) :
    tWhile c tb ⟨dn, dr, db, dc⟩ σ H := ⟨fun m => NxI I m, ⟨m0, L, B, h0, hs⟩, fun m σ' H' ⟨_, _, q, h⟩ => turn m σ' _ _ H' q h⟩
theorem w_turn {P : St → Hp → Prop} (k : tb ⟨P, dr, dn, P⟩ σ H) : ∃ N : St → Hp → Prop, (∀ σ3 H3, N σ3 H3 → P σ3 H3) ∧ tb ⟨N, dr, dn, N⟩ σ H := ⟨_, fun _ _ w => w, k⟩
end
/-! ### comprehensions -/
section
variable {α : Type} {K : PySem.W.Frag} {a : Addr} {g : TG} {tt : TT} {te tl : TE} {σ : St} {H B : Hp} {L : Pic} {Q : VK} {vs : List Nat}
/-- the turn's word: what was made so far stands at D -/
def LcN (I : List α → List V → Hp → Prop) (B : Hp) (L : Pic) (D : Addr) (pre : List α) : Hp → Prop := fun H' => ∃ acc B', I pre acc B' ∧ Same B B' ∧ Hs B' ((D, .lst acc) :: L) H'
theorem c_lcL {P : Addr → Hp → Prop} (f : α → V) (l : List α) (I : List α → List V → Hp → Prop) (hs : Hs B L H) (h0 : I [] [] B)
    (hq : ∀ B' H', Same B B' → Hs B' L H' → SqL K H' a (l.map f))
    (turn : ∀ pre x post acc B' D H', l = pre ++ x :: post → I pre acc B' → Same B B' → Hs B' ((D, .lst acc) :: L) H' → g (f x) (wipe σ vs) H' fun σ2 H2 => wipe σ2 vs = wipe σ vs ∧ tt σ2 H2 fun b H3 =>
      if b = true then te σ2 H3 fun y H4 => ∃ acc, H4 D = some (.lst acc) ∧ acc.length < sizeLine ∧ LcN I B L D (pre ++ [x]) (upd H4 D (.lst (acc ++ [y]))) else LcN I B L D (pre ++ [x]) H3)
    (fin : ∀ acc B' D H', I l acc B' → Same B B' → Hs B' ((D, .lst acc) :: L) H' → P D H') :
    ∃ b, V.ref a = .ref b ∧ (∃ xs, SqL K H b xs) ∧ ∀ D, H D = none → ∃ W : Nat → Nat → Hp → Prop, (∃ m, W 0 m (upd H D (.lst []))) ∧ ∀ i m H, W i m H →
      ((Itl K b).stop i H ∧ P D H) ∨ ((Itl K b).go i H ∧ ∃ Nx : Hp → Prop, (∀ H', Nx H' → ∃ m', m' < m ∧ W (i + 1) m' H') ∧ ∀ x H', (Itl K b).yld i H x H' → g x (wipe σ vs) H' fun σ2 H2 => wipe σ2 vs = wipe σ vs ∧ tt σ2 H2 fun b H3 =>
        if b = true then te σ2 H3 fun y H4 => ∃ acc, H4 D = some (.lst acc) ∧ acc.length < sizeLine ∧ Nx (upd H4 D (.lst (acc ++ [y]))) else Nx H3) :=
  ⟨a, rfl, ⟨_, hq B H (Same.refl B) hs⟩, fun D hD => lc_l f l (LcN I B L D) ⟨[], B, h0, Same.refl B, hs.new hD⟩ (fun pre post H' _ ⟨acc, B', _, e, h⟩ => hq B' H' e h.drop)
    (fun pre x post H' e ⟨acc, B', p, e2, h⟩ => turn pre x post acc B' D H' e p e2 h) fun H' ⟨acc, B', p, e, h⟩ => fin acc B' D H' p e h⟩
theorem c_lcR {P : Addr → Hp → Prop} {lo : Int} {n : Nat} (I : Nat → List V → Hp → Prop) (hs : Hs B L H) (h0 : I 0 [] B)
    (turn : ∀ i acc B' D H', i < n → I i acc B' → Same B B' → Hs B' ((D, .lst acc) :: L) H' → g (.int (lo + i)) (wipe σ vs) H' fun σ2 H2 => wipe σ2 vs = wipe σ vs ∧ tt σ2 H2 fun b H3 =>
      if b = true then te σ2 H3 fun y H4 => ∃ acc, H4 D = some (.lst acc) ∧ acc.length < sizeLine ∧ (fun H' => ∃ acc B', I (i + 1) acc B' ∧ Same B B' ∧ Hs B' ((D, .lst acc) :: L) H') (upd H4 D (.lst (acc ++ [y]))) else (fun H' => ∃ acc B', I (i + 1) acc B' ∧ Same B B' ∧ Hs B' ((D, .lst acc) :: L) H') H3)
    (fin : ∀ acc B' D H', I n acc B' → Same B B' → Hs B' ((D, .lst acc) :: L) H' → P D H') :
    ∀ D, H D = none → ∃ W : Nat → Nat → Hp → Prop, (∃ m, W 0 m (upd H D (.lst []))) ∧ ∀ i m H, W i m H →
      ((Itr lo n).stop i H ∧ P D H) ∨ ((Itr lo n).go i H ∧ ∃ Nx : Hp → Prop, (∀ H', Nx H' → ∃ m', m' < m ∧ W (i + 1) m' H') ∧ ∀ x H', (Itr lo n).yld i H x H' → g x (wipe σ vs) H' fun σ2 H2 => wipe σ2 vs = wipe σ vs ∧ tt σ2 H2 fun b H3 =>
        if b = true then te σ2 H3 fun y H4 => ∃ acc, H4 D = some (.lst acc) ∧ acc.length < sizeLine ∧ Nx (upd H4 D (.lst (acc ++ [y]))) else Nx H3) :=
  fun D hD => L2.lc_range (fun i H' => ∃ acc B', I i acc B' ∧ Same B B' ∧ Hs B' ((D, .lst acc) :: L) H') ⟨[], B, h0, Same.refl B, hs.new hD⟩
    (fun i H' e ⟨acc, B', p, e2, h⟩ => turn i acc B' D H' e p e2 h) fun H' ⟨acc, B', p, e, h⟩ => fin acc B' D H' p e h
/-- one item more -/
theorem c_item {D : Addr} {acc : List V} {y : V} {B2 : Hp} {P : List V → Hp → Prop} (h : Hs B2 ((D, .lst acc) :: L) H) (hz : acc.length < sizeLine) (e : Same B B2) (i : P (acc ++ [y]) B2) :
    ∃ acc, H D = some (.lst acc) ∧ acc.length < sizeLine ∧ ∃ acc2 B', P acc2 B' ∧ Same B B' ∧ Hs B' ((D, .lst acc2) :: L) (upd H D (.lst (acc ++ [y]))) :=
  ⟨acc, h.get (.head _), hz, acc ++ [y], B2, i, e, h.u0⟩
theorem c_lc {wi : TI} (k : wi σ H fun J H1 => ∀ D, H1 D = none → ∃ W : Nat → Nat → Hp → Prop, (∃ m, W 0 m (upd H1 D (.lst []))) ∧ ∀ i m H, W i m H →
      (J.stop i H ∧ Q (.ref D) H) ∨ (J.go i H ∧ ∃ Nx : Hp → Prop, (∀ H', Nx H' → ∃ m', m' < m ∧ W (i + 1) m' H') ∧ ∀ x H', J.yld i H x H' → g x (wipe σ vs) H' fun σ2 H2 => wipe σ2 vs = wipe σ vs ∧ tt σ2 H2 fun b H3 =>
        if b = true then te σ2 H3 fun y H4 => ∃ acc, H4 D = some (.lst acc) ∧ acc.length < sizeLine ∧ Nx (upd H4 D (.lst (acc ++ [y]))) else Nx H3)) : tLc wi g tt te vs σ H Q := k
theorem w_for {wi : TI} {tb : TS} {dn : St → Hp → Prop} {dr : VK} {db dc : St → Hp → Prop} (k : wi σ H fun J H1 => ∃ W : Nat → Nat → St → Hp → Prop, (∃ m, W 0 m σ H1) ∧ ∀ i m σ H, W i m σ H →
  (J.stop i H ∧ dn σ H) ∨ (J.go i H ∧ ∃ N : St → Hp → Prop, (∀ σ' H', N σ' H' → ∃ m', m' < m ∧ W (i + 1) m' σ' H') ∧ ∀ x H', J.yld i H x H' → g x σ H' fun σ2 H2 => tb ⟨N, dr, dn, N⟩ σ2 H2)) : tFor wi g tb ⟨dn, dr, db, dc⟩ σ H := k
theorem c_iL {R : It → Hp → Prop} (k : tl σ H fun x H1 => ∃ a, x = .ref a ∧ (∃ xs, SqL K H1 a xs) ∧ R (Itl K a) H1) : iList K tl σ H R := k
theorem c_iT {R : It → Hp → Prop} (k : tl σ H fun x H1 => ∃ a, x = .ref a ∧ (∃ xs, SqT K H1 a xs) ∧ R (Itt K a) H1) : iTup K tl σ H R := k
theorem c_iR1 {ta : TA} {R : It → Hp → Prop} (k : ta σ H fun vs H1 => ∃ j : Int, vs = [.int j] ∧ -(2 ^ 62) ≤ j ∧ j < 2 ^ 62 ∧ R (Itr 0 j.toNat) H1) : iRng1 ta σ H R := k
theorem c_iR2 {ta : TA} {R : It → Hp → Prop} (k : ta σ H fun vs H1 => ∃ i j : Int, vs = [.int i, .int j] ∧ (-(2 ^ 62) ≤ i ∧ i < 2 ^ 62 ∧ -(2 ^ 62) ≤ j ∧ j < 2 ^ 62) ∧ R (Itr i (j - i).toNat) H1) : iRng2 ta σ H R := k
theorem c_yes {P : Bool → Hp → Prop} (k : P true H) : tYes σ H P := k
/-! targets, fields, methods of lists -/
theorem g_tup {n : Nat} {t : TGs} {xs : List V} {P : St → Hp → Prop} (h : SqT K H a xs) (hn : xs.length = n) (k : t xs σ H P) : gTup K n t (.ref a) σ H P := ⟨a, xs, rfl, h, hn, k⟩
theorem g_lst {n : Nat} {t : TGs} {xs : List V} {P : St → Hp → Prop} (h : SqL K H a xs) (hn : xs.length = n) (k : t xs σ H P) : gLst K n t (.ref a) σ H P := ⟨a, xs, rfl, h, hn, k⟩
theorem g_cons {t : TG} {u : TGs} {v : V} {r : List V} {P : St → Hp → Prop} (k : t v σ H fun σ' H' => u r σ' H' P) : gCons t u (v :: r) σ H P := ⟨v, r, rfl, k⟩
theorem g_nil {P : St → Hp → Prop} (k : P σ H) : gNil [] σ H P := ⟨rfl, k⟩
theorem c_tfld {f : Str} (k : te σ H fun x H1 => FldO K f x H1 Q) : tFld K te f σ H Q := k
def PutO (K : PySem.W.Frag) (f : Str) (y x : V) (H : Hp) (P : Hp → Prop) : Prop := ∃ a C dx fs, x = .ref a ∧ H a = some (.ins C dx fs) ∧ Cls K C ∧ NoAttr K C f ∧ fs.length < 1000 ∧ P (upd H a (.ins C dx (putF f y fs)))
theorem w_sfld {f : Str} {ta : TE} {dn : St → Hp → Prop} {dr : VK} {db dc : St → Hp → Prop} (k : te σ H fun y H1 => ta σ H1 fun x H2 => PutO K f y x H2 (dn σ)) : sFld K ta te f ⟨dn, dr, db, dc⟩ σ H := k
theorem w_put0 {f : Str} {C dx : Addr} {y : V} {fs fs' : List (Str × V)} {P : Hp → Prop} (hs : Hs B ((a, .ins C dx fs) :: L) H) (hc : Cls K C) (hn : NoAttr K C f) (hl : fs.length < 1000) (e : putF f y fs = fs')
    (k : ∀ H', Hs B ((a, .ins C dx fs') :: L) H' → P H') : PutO K f y (.ref a) H P :=
  ⟨a, C, dx, fs, rfl, hs.get (.head _), hc, hn, hl, by rw [e]; exact k _ hs.u0⟩
theorem w_put1 {q : Addr × HO} {f : Str} {C dx : Addr} {y : V} {fs fs' : List (Str × V)} {P : Hp → Prop} (hs : Hs B (q :: (a, .ins C dx fs) :: L) H) (hc : Cls K C) (hn : NoAttr K C f) (hl : fs.length < 1000) (e : putF f y fs = fs')
    (k : ∀ H', Hs B (q :: (a, .ins C dx fs') :: L) H' → P H') : PutO K f y (.ref a) H P := w_put0 hs.swap hc hn hl e fun H' h => k H' h.swap
theorem w_put2 {q r : Addr × HO} {f : Str} {C dx : Addr} {y : V} {fs fs' : List (Str × V)} {P : Hp → Prop} (hs : Hs B (q :: r :: (a, .ins C dx fs) :: L) H) (hc : Cls K C) (hn : NoAttr K C f) (hl : fs.length < 1000) (e : putF f y fs = fs')
    (k : ∀ H', Hs B (q :: r :: (a, .ins C dx fs') :: L) H' → P H') : PutO K f y (.ref a) H P := w_put0 hs.rot3 hc hn hl e fun H' h => k H' h.unrot3
def AugO (K : PySem.W.Frag) (f : Str) (x : V) (H : Hp) (P : Addr → Addr → V → Prop) : Prop := ∃ a C dx fs v, x = .ref a ∧ H a = some (.ins C dx fs) ∧ Cls K C ∧ NoAttr K C f ∧ fs.lookup f = some v ∧ P a C v
def AputO (f : Str) (a C : Addr) (z : V) (H : Hp) (P : Hp → Prop) : Prop := ∃ dx' fs', H a = some (.ins C dx' fs') ∧ fs'.length < 1000 ∧ P (upd H a (.ins C dx' (putF f z fs')))
theorem w_sfldAug {f : Str} {ta : TE} {rd : V → V → Hp → VK → Prop} {dn : St → Hp → Prop} {dr : VK} {db dc : St → Hp → Prop} (k : ta σ H fun x H1 => AugO K f x H1 fun a C v => te σ H1 fun y H2 => rd v y H2 fun z H3 => AputO f a C z H3 (dn σ)) : sFldAug K ta te rd f ⟨dn, dr, db, dc⟩ σ H := k
theorem c_fldA {f : Str} {C dx : Addr} {fs : List (Str × V)} {v : V} {P : Addr → Addr → V → Prop} (h : H a = some (.ins C dx fs)) (hc : Cls K C) (hn : NoAttr K C f) (hl : fs.lookup f = some v) (k : P a C v) :
    AugO K f (.ref a) H P := ⟨a, C, dx, fs, v, rfl, h, hc, hn, hl, k⟩
theorem c_radd {i j : Int} (k : Q (.int (i + j)) H) : rAdd (.int i) (.int j) H Q := ⟨i, j, rfl, rfl, k⟩
theorem c_rsub {i j : Int} (k : Q (.int (i - j)) H) : rSub (.int i) (.int j) H Q := ⟨i, j, rfl, rfl, k⟩
theorem w_aput0 {f : Str} {C dx : Addr} {z : V} {fs fs' : List (Str × V)} {P : Hp → Prop} (hs : Hs B ((a, .ins C dx fs) :: L) H) (hl : fs.length < 1000) (e : putF f z fs = fs') (k : ∀ H', Hs B ((a, .ins C dx fs') :: L) H' → P H') :
    AputO f a C z H P := ⟨dx, fs, hs.get (.head _), hl, by rw [e]; exact k _ hs.u0⟩
theorem w_aput1 {q : Addr × HO} {f : Str} {C dx : Addr} {z : V} {fs fs' : List (Str × V)} {P : Hp → Prop} (hs : Hs B (q :: (a, .ins C dx fs) :: L) H) (hl : fs.length < 1000) (e : putF f z fs = fs') (k : ∀ H', Hs B (q :: (a, .ins C dx fs') :: L) H' → P H') :
    AputO f a C z H P := w_aput0 hs.swap hl e fun H' h => k H' h.swap
theorem w_aput2 {q r : Addr × HO} {f : Str} {C dx : Addr} {z : V} {fs fs' : List (Str × V)} {P : Hp → Prop} (hs : Hs B (q :: r :: (a, .ins C dx fs) :: L) H) (hl : fs.length < 1000) (e : putF f z fs = fs') (k : ∀ H', Hs B (q :: r :: (a, .ins C dx fs') :: L) H' → P H') :
    AputO f a C z H P := w_aput0 hs.rot3 hl e fun H' h => k H' h.unrot3
theorem c_bm {T : String} {r : V → List V → Hp → VK → Prop} {t : TA} (k : te σ H fun x H1 => tyV K T x H1 ∧ t σ H1 fun xs H2 => r x xs H2 Q) : tBM K T r te t σ H Q := k
theorem c_bm0 {T : String} {r : V → List V → Hp → VK → Prop} (k : te σ H fun x H1 => tyV K T x H1 ∧ r x [] H1 Q) : tBM0 K T r te σ H Q := k
theorem c_tyL {xs : List V} {P : Prop} (h : SqL K H a xs) (k : P) : tyV K "list" (.ref a) H ∧ P := ⟨.inl ⟨rfl, _, h⟩, k⟩
theorem c_app0 {xs : List V} {y : V} (hs : Hs B ((a, .lst xs) :: L) H) (hz : xs.length < sizeLine) (k : ∀ H', Hs B ((a, .lst (xs ++ [y])) :: L) H' → Q .non H') : rAppend (.ref a) [y] H Q := ⟨a, xs, y, rfl, rfl, hs.get (.head _), hz, k _ hs.u0⟩
theorem c_app1 {q : Addr × HO} {xs : List V} {y : V} (hs : Hs B (q :: (a, .lst xs) :: L) H) (hz : xs.length < sizeLine) (k : ∀ H', Hs B (q :: (a, .lst (xs ++ [y])) :: L) H' → Q .non H') : rAppend (.ref a) [y] H Q := c_app0 hs.swap hz fun H' h => k H' h.swap
theorem c_app2 {q r : Addr × HO} {xs : List V} {y : V} (hs : Hs B (q :: r :: (a, .lst xs) :: L) H) (hz : xs.length < sizeLine) (k : ∀ H', Hs B (q :: r :: (a, .lst (xs ++ [y])) :: L) H' → Q .non H') : rAppend (.ref a) [y] H Q := c_app0 hs.rot3 hz fun H' h => k H' h.unrot3
theorem c_sl {r : V → Option Int → Option Int → Hp → VK → Prop} {lo hi : TO} (k : te σ H fun x H1 => lo σ H1 fun l H2 => hi σ H2 fun u H3 => r x l u H3 Q) : tSl r te lo hi σ H Q := k
theorem c_part {P : Option Int → Hp → Prop} (k : te σ H fun x H1 => ∃ i, x = .int i ∧ P (some i) H1) : tPart te σ H P := k
theorem c_nopart {P : Option Int → Hp → Prop} (k : P none H) : tNoPart σ H P := k
theorem c_i {i : Int} {P : Int → Prop} (k : P i) : ∃ j, V.int i = .int j ∧ P j := ⟨i, rfl, k⟩
theorem small5 {n : Nat} (h : n ≤ 100000) : n < sizeLine := Nat.lt_of_le_of_lt h (by decide)
theorem small5' {n : Nat} (h : n ≤ 100000) : n ≤ sizeLine := Nat.le_trans h (by decide)
end
end L2.BP
namespace L2.BP
open PySem PySem.Spec PyProof.Rows
section
variable {f g : Str} {v w y : V} {r r' : List (Str × V)}
theorem look0 : List.lookup f ((f, v) :: r) = some v := by simp [List.lookup]
theorem lookS (h : ¬ f = g) (e : List.lookup f r = some v) : List.lookup f ((g, w) :: r) = some v := by
  have n : (f == g) = false := by simpa using h
  show (match f == g with | true => some w | false => List.lookup f r) = some v
  rw [n]
  exact e
theorem lookN : List.lookup f ([] : List (Str × V)) = none := rfl
theorem lookNS (h : ¬ f = g) (e : List.lookup f r = none) : List.lookup f ((g, w) :: r) = none := by
  have n : (f == g) = false := by simpa using h
  show (match f == g with | true => some w | false => List.lookup f r) = none
  rw [n]
  exact e
theorem put0 : putF f y ((f, v) :: r) = (f, y) :: r := if_pos rfl
theorem putN : putF f y [] = [(f, y)] := rfl
theorem putS (h : ¬ g = f) (e : putF f y r = r') : putF f y ((g, w) :: r) = (g, w) :: r' := by
  show (if g = f then _ else (g, w) :: putF f y r) = _
  rw [if_neg h, e]
end
section
variable {K : PySem.W.Frag} {σ : St} {H B : Hp} {L : Pic} {Q : VK} {sp : Sp} {W : WX} {dvs vs : List V} {C : Addr}
def MkO (C : Addr) (sp : Sp) (vs : List V) (H : Hp) (Q : VK) (E : XK) : Prop := ∀ x dx, H x = none → H dx = none → dx ≠ x → sp (.ref x :: vs) (upd (upd H dx (.own x)) x (.ins C dx [])) (fun v H2 => v = .non ∧ Q (.ref x) H2) E
theorem c_mk {t : TA} (k : t σ H fun vs H1 => MkO C sp (vs ++ dvs) H1 Q fun c d H2 => W c d σ H2) : tMk C sp dvs W t σ H Q := k
theorem c_mkO {E : XK} (hs : Hs B L H) (k : ∀ x dx H', Hs B ((x, .ins C dx []) :: L) H' → sp (.ref x :: vs) H' (fun v H2 => v = .non ∧ Q (.ref x) H2) E) : MkO C sp vs H Q E := fun x dx hx hdx ne => by
  have h1 := hs.new (o := HO.own x) hdx
  have h2 : (upd H dx (.own x)) x = none := by rw [upd_ne (Ne.symm ne)]; exact hx
  exact k x dx _ (h1.new h2).swap.drop
/-- drop what stands second, third -/
theorem Hs.drop1 {a b : Addr × HO} (h : Hs B (a :: b :: L) H) : Hs B (a :: L) H := h.swap.drop
theorem Hs.drop2 {a b c : Addr × HO} (h : Hs B (a :: b :: c :: L) H) : Hs B (a :: b :: L) H := h.rot3.drop
end
end L2.BP
namespace L2.BP
open PySem PySem.Spec PyProof.Rows
/-! ### walks that hand out pairs; walks of tuples -/
section
variable {α : Type} {K : PySem.W.Frag} {a : Addr} {g : TG} {tb : TS} {dn : St → Hp → Prop} {dr : VK} {db dc : St → Hp → Prop} {σ : St} {H B : Hp} {L : Pic}
/-- what a for asks of its iterator -/
def ForO (J : It) (g : TG) (tb : TS) (dn : St → Hp → Prop) (dr : VK) (σ : St) (H : Hp) : Prop := ∃ W : Nat → Nat → St → Hp → Prop, (∃ m, W 0 m σ H) ∧ ∀ i m σ H, W i m σ H →
  (J.stop i H ∧ dn σ H) ∨ (J.go i H ∧ ∃ N : St → Hp → Prop, (∀ σ' H', N σ' H' → ∃ m', m' < m ∧ W (i + 1) m' σ' H') ∧ ∀ x H', J.yld i H x H' → g x σ H' fun σ2 H2 => tb ⟨N, dr, dn, N⟩ σ2 H2)
theorem get_map {f : α → V} {l : List α} {i : Nat} {x : V} (h : (l.map f)[i]? = some x) : ∃ y, l[i]? = some y ∧ x = f y := by
  rw [List.getElem?_map] at h
  cases e : l[i]? with
  | none => rw [e] at h; cases h
  | some y => rw [e] at h; exact ⟨y, rfl, (Option.some.inj h).symm⟩
theorem w_forE (f : α → V) (l : List α) (I : List α → St → Pic → Hp → Prop) (hs : Hs B L H) (h0 : I [] σ L B) (hq : ∀ pre post σ' L' B' H', l = pre ++ post → I pre σ' L' B' → Hs B' L' H' → SqL K H' a (l.map f))
    (turn : ∀ pre x post σ' L' B' T H', l = pre ++ x :: post → I pre σ' L' B' → Hs B' ((T, .tup [.int ((pre.length : Nat) : Int), f x]) :: L') H' → g (.ref T) σ' H' fun σ2 H2 => tb ⟨NxI I (pre ++ [x]), dr, dn, NxI I (pre ++ [x])⟩ σ2 H2)
    (fin : ∀ σ' L' B' H', I l σ' L' B' → Hs B' L' H' → dn σ' H') : ForO (Ite K a) g tb dn dr σ H := by
  refine ⟨fun i m σ H => m = l.length - i ∧ i ≤ l.length ∧ NxI I (l.take i) σ H, ⟨l.length, by simp, Nat.zero_le _, L, B, by simpa using h0, hs⟩, ?_⟩
  rintro i m σ' H' ⟨rfl, hi, L', B', q, h⟩
  have z := hq (l.take i) (l.drop i) σ' L' B' H' (List.take_append_drop i l).symm q h
  by_cases hlt : i < l.length
  · refine .inr ⟨⟨l.map f, f l[i], z, by simp [hlt]⟩, NxI I (l.take (i + 1)), fun σ2 H2 p => ⟨_, by omega, rfl, hlt, p⟩, ?_⟩
    rintro v H2 ⟨T, x, rfl, hT, rfl, hx⟩
    obtain ⟨y, e1, rfl⟩ := get_map (hx _ z)
    obtain ⟨e2, e3⟩ := take_split e1
    have el : (l.take i).length = i := by rw [List.length_take]; omega
    have w := turn _ y _ σ' L' B' T _ e2 q (by rw [el]; exact h.new hT)
    rw [e3]
    exact w
  · have e : i = l.length := by omega
    subst e
    exact .inl ⟨⟨_, z, by simp⟩, fin _ _ _ _ (by simpa using q) h⟩
/-- over a tuple -/
theorem w_forT (xs : List V) (I : List V → St → Pic → Hp → Prop) (hs : Hs B L H) (h0 : I [] σ L B) (hq : ∀ pre post σ' L' B' H', xs = pre ++ post → I pre σ' L' B' → Hs B' L' H' → SqT K H' a xs)
    (turn : ∀ pre x post σ' L' B' H', xs = pre ++ x :: post → I pre σ' L' B' → Hs B' L' H' → g x σ' H' fun σ2 H2 => tb ⟨NxI I (pre ++ [x]), dr, dn, NxI I (pre ++ [x])⟩ σ2 H2)
    (fin : ∀ σ' L' B' H', I xs σ' L' B' → Hs B' L' H' → dn σ' H') :
    ∃ b, V.ref a = .ref b ∧ (∃ xs, SqT K H b xs) ∧ ForO (Itt K b) g tb dn dr σ H := by
  refine ⟨a, rfl, ⟨_, hq [] xs σ L B H rfl h0 hs⟩, ?_⟩
  refine L2.for_tup (D := { nx := dn, rt := dr }) (K := K) (a := a) (xs := xs) (fun i => NxI I (xs.take i)) ⟨L, B, by simpa using h0, hs⟩ (fun i σ' H' _ ⟨L', B', q, h⟩ => hq (xs.take i) (xs.drop i) σ' L' B' H' (List.take_append_drop i xs).symm q h) (fun i x σ' H' hx ⟨L', B', q, h⟩ => ?_) fun σ' H' ⟨L', B', q, h⟩ => fin _ _ _ _ (by simpa using q) h
  obtain ⟨e1, e2⟩ := take_split hx
  have w := turn _ x _ σ' L' B' H' e1 q h
  rw [e2]
  exact w
/-- over two lists -/
theorem w_forZ {β : Type} {b : Addr} (f : α → V) (f2 : β → V) (l : List α) (l2 : List β) (hl : l.length = l2.length) (I : Nat → St → Pic → Hp → Prop) (hs : Hs B L H) (h0 : I 0 σ L B)
    (hq : ∀ i σ' L' B' H', I i σ' L' B' → Hs B' L' H' → SqL K H' a (l.map f) ∧ SqL K H' b (l2.map f2))
    (turn : ∀ i x y σ' L' B' T H', l[i]? = some x → l2[i]? = some y → I i σ' L' B' → Hs B' ((T, .tup [f x, f2 y]) :: L') H' → g (.ref T) σ' H' fun σ2 H2 => tb ⟨NxI I (i + 1), dr, dn, NxI I (i + 1)⟩ σ2 H2)
    (fin : ∀ σ' L' B' H', I l.length σ' L' B' → Hs B' L' H' → dn σ' H') : ForO (Itz K a b) g tb dn dr σ H := by
  refine ⟨fun i m σ H => m = l.length - i ∧ i ≤ l.length ∧ NxI I i σ H, ⟨l.length, by simp, Nat.zero_le _, L, B, h0, hs⟩, ?_⟩
  rintro i m σ' H' ⟨rfl, hi, L', B', q, h⟩
  obtain ⟨z1, z2⟩ := hq i σ' L' B' H' q h
  by_cases hlt : i < l.length
  · have hlt2 : i < l2.length := by omega
    refine .inr ⟨⟨l.map f, l2.map f2, f l[i], f2 l2[i], z1, z2, by simp [hlt], by simp [hlt2]⟩, NxI I (i + 1), fun σ2 H2 p => ⟨_, by omega, rfl, hlt, p⟩, ?_⟩
    rintro v H2 ⟨T, x, y, rfl, hT, rfl, hx, hy⟩
    obtain ⟨x', e1, rfl⟩ := get_map (hx _ z1)
    obtain ⟨y', e2, rfl⟩ := get_map (hy _ z2)
    exact turn i x' y' σ' L' B' T _ e1 e2 q (h.new hT)
  · have e : i = l.length := by omega
    subst e
    exact .inl ⟨⟨_, _, z1, z2, by simp⟩, fin _ _ _ _ q h⟩
theorem c_iE {ta : TA} {R : It → Hp → Prop} (k : ta σ H fun vs H1 => ∃ a xs, vs = [.ref a] ∧ SqL K H1 a xs ∧ R (Ite K a) H1) : iEnum K ta σ H R := k
theorem c_iE1 {R : It → Hp → Prop} {xs : List V} (h : SqL K H a xs) (k : R (Ite K a) H) : ∃ b xs, [V.ref a] = [.ref b] ∧ SqL K H b xs ∧ R (Ite K b) H := ⟨a, xs, rfl, h, k⟩
theorem c_iZ {ta : TA} {R : It → Hp → Prop} (k : ta σ H fun vs H1 => ∃ a b xs ys, vs = [.ref a, .ref b] ∧ SqL K H1 a xs ∧ SqL K H1 b ys ∧ R (Itz K a b) H1) : iZip K ta σ H R := k
theorem c_iZ1 {R : It → Hp → Prop} {b : Addr} {xs ys : List V} (h : SqL K H a xs) (h2 : SqL K H b ys) (k : R (Itz K a b) H) : ∃ a' b' xs ys, [V.ref a, V.ref b] = [.ref a', .ref b'] ∧ SqL K H a' xs ∧ SqL K H b' ys ∧ R (Itz K a' b') H := ⟨a, b, xs, ys, rfl, h, h2, k⟩
end
section
variable {α : Type} {K : PySem.W.Frag} {a : Addr} {g : TG} {tt : TT} {te tl : TE} {σ : St} {H B : Hp} {L : Pic} {vs : List Nat}
/-- what a comprehension asks of its iterator -/
def LcO (J : It) (g : TG) (tt : TT) (te : TE) (vs : List Nat) (σ : St) (H : Hp) (P : Addr → Hp → Prop) : Prop := ∀ D, H D = none → ∃ W : Nat → Nat → Hp → Prop, (∃ m, W 0 m (upd H D (.lst []))) ∧ ∀ i m H, W i m H →
  (J.stop i H ∧ P D H) ∨ (J.go i H ∧ ∃ Nx : Hp → Prop, (∀ H', Nx H' → ∃ m', m' < m ∧ W (i + 1) m' H') ∧ ∀ x H', J.yld i H x H' → g x (wipe σ vs) H' fun σ2 H2 => wipe σ2 vs = wipe σ vs ∧ tt σ2 H2 fun b H3 =>
    if b = true then te σ2 H3 fun y H4 => ∃ acc, H4 D = some (.lst acc) ∧ acc.length < sizeLine ∧ Nx (upd H4 D (.lst (acc ++ [y]))) else Nx H3)
theorem c_lcE {P : Addr → Hp → Prop} (f : α → V) (l : List α) (I : List α → List V → Hp → Prop) (hs : Hs B L H) (h0 : I [] [] B) (hq : ∀ B' H', Same B B' → Hs B' L H' → SqL K H' a (l.map f))
    (turn : ∀ pre x post acc B' D T H', l = pre ++ x :: post → I pre acc B' → Same B B' → Hs B' ((T, .tup [.int ((pre.length : Nat) : Int), f x]) :: (D, .lst acc) :: L) H' → g (.ref T) (wipe σ vs) H' fun σ2 H2 => wipe σ2 vs = wipe σ vs ∧ tt σ2 H2 fun b H3 =>
      if b = true then te σ2 H3 fun y H4 => ∃ acc, H4 D = some (.lst acc) ∧ acc.length < sizeLine ∧ LcN I B L D (pre ++ [x]) (upd H4 D (.lst (acc ++ [y]))) else LcN I B L D (pre ++ [x]) H3)
    (fin : ∀ acc B' D H', I l acc B' → Same B B' → Hs B' ((D, .lst acc) :: L) H' → P D H') : LcO (Ite K a) g tt te vs σ H P := by
  intro D hD
  refine ⟨fun i m H' => m = l.length - i ∧ i ≤ l.length ∧ LcN I B L D (l.take i) H', ⟨l.length, by simp, Nat.zero_le _, [], B, by simpa using h0, Same.refl B, hs.new hD⟩, ?_⟩
  rintro i m H' ⟨rfl, hi, acc, B', q, e, h⟩
  have z := hq B' H' e h.drop
  by_cases hlt : i < l.length
  · refine .inr ⟨⟨l.map f, f l[i], z, by simp [hlt]⟩, LcN I B L D (l.take (i + 1)), fun H2 p => ⟨_, by omega, rfl, hlt, p⟩, ?_⟩
    rintro v H2 ⟨T, x, rfl, hT, rfl, hx⟩
    obtain ⟨y, e1, rfl⟩ := get_map (hx _ z)
    obtain ⟨e2, e3⟩ := take_split e1
    have el : (l.take i).length = i := by rw [List.length_take]; omega
    have w := turn _ y _ acc B' D T _ e2 q e (by rw [el]; exact h.new hT)
    rw [e3]
    exact w
  · have e' : i = l.length := by omega
    subst e'
    exact .inl ⟨⟨_, z, by simp⟩, fin acc B' D H' (by simpa using q) e h⟩
end
/-! ### lists of tuples -/
section
variable {K : PySem.W.Frag} {H H' : Hp}
/-- each of these values is a tuple of those items -/
inductive Tups (K : PySem.W.Frag) (H : Hp) : List V → List (List V) → Prop where
  | nil : Tups K H [] []
  | cons {a : Addr} {xs : List V} {vs : List V} {r : List (List V)} : SqT K H a xs → Tups K H vs r → Tups K H (V.ref a :: vs) (xs :: r)
theorem Tups.same (e : Same H H') : ∀ {vs : List V} {ps : List (List V)}, Tups K H vs ps → Tups K H' vs ps
  | _, _, .nil => .nil
  | _, _, .cons h t => .cons (same_sqt e h) (Tups.same e t)
theorem Tups.length : ∀ {vs : List V} {ps : List (List V)}, Tups K H vs ps → vs.length = ps.length
  | _, _, .nil => rfl
  | _, _, .cons _ t => congrArg (· + 1) t.length
theorem Tups.snoc {a : Addr} {xs : List V} : ∀ {vs : List V} {ps : List (List V)}, Tups K H vs ps → SqT K H a xs → Tups K H (vs ++ [.ref a]) (ps ++ [xs])
  | _, _, .nil, h => .cons h .nil
  | _, _, .cons z t, h => .cons z (t.snoc h)
theorem Tups.get : ∀ {vs : List V} {ps : List (List V)} {i : Nat} {xs : List V}, Tups K H vs ps → ps[i]? = some xs → ∃ a, vs[i]? = some (.ref a) ∧ SqT K H a xs
  | _, _, 0, _, .cons h _, e => by cases e; exact ⟨_, rfl, h⟩
  | _, _, i + 1, _, .cons _ t, e => t.get (i := i) e
theorem Tups.split {x : V} {post : List V} : ∀ {pre : List V} {ps : List (List V)}, Tups K H (pre ++ x :: post) ps → ∃ a p1 xs p2, x = .ref a ∧ ps = p1 ++ xs :: p2 ∧ p1.length = pre.length ∧ SqT K H a xs
  | [], ps, h => by
    cases (show Tups K H (x :: post) ps from h) with
    | cons hh t => exact ⟨_, [], _, _, rfl, rfl, rfl, hh⟩
  | y :: pre, ps, h => by
    cases (show Tups K H (y :: (pre ++ x :: post)) ps from h) with
    | cons hh t =>
      obtain ⟨a, p1, xs, p2, e1, e2, e3, e4⟩ := Tups.split t
      exact ⟨a, _ :: p1, xs, p2, e1, by rw [e2]; rfl, by simp [e3], e4⟩
end
end L2.BP
namespace L2.BP
open PySem PySem.Spec PyProof.Rows
section
variable {σ : St} {H B : Hp} {L : Pic} {K : PySem.W.Frag} {dn : St → Hp → Prop} {dr : VK} {db dc : St → Hp → Prop} {Q : VK} {tr : TA} {te to_ ti_ : TE} {a b : Addr} {xs ys : List V} {x v w o i : V}
theorem w_break (k : db σ H) : tBreak ⟨dn, dr, db, dc⟩ σ H := k
theorem w_cont (k : dc σ H) : tCont ⟨dn, dr, db, dc⟩ σ H := k
theorem w_retN (k : dr .non H) : tRetN ⟨dn, dr, db, dc⟩ σ H := k
def ParO (m n : Nat) (vs : List V) (σ : St) (dn : St → Hp → Prop) (H : Hp) : Prop := ∃ v w, vs = [v, w] ∧ dn ((σ.set m (some v)).set n (some w)) H
theorem w_par {m n : Nat} (k : tr σ H fun vs H1 => ParO m n vs σ dn H1) : tPar m n tr ⟨dn, dr, db, dc⟩ σ H := k
theorem c_parO {m n : Nat} (k : dn ((σ.set m (some v)).set n (some w)) H) : ParO m n [v, w] σ dn H := ⟨v, w, rfl, k⟩
/-! a list longer by another one, in place -/
theorem c_ext0 (hs : Hs B ((a, .lst xs) :: L) H) (hb : H b = some (.lst ys)) (hz : xs.length + ys.length ≤ sizeLine) (k : ∀ H', Hs B ((a, .lst (xs ++ ys)) :: L) H' → Q (.ref a) H') : ipAddU (.ref a) (.ref b) H Q :=
  .inr (.inl ⟨a, b, xs, ys, rfl, rfl, hs.get (.head _), hb, hz, k _ hs.u0⟩)
theorem c_extM0 (hs : Hs B ((a, .lst xs) :: L) H) (hb : H b = some (.lst ys)) (hz : xs.length + ys.length ≤ sizeLine) (k : ∀ H', Hs B ((a, .lst (xs ++ ys)) :: L) H' → Q .non H') : rExtend (.ref a) [.ref b] H Q :=
  ⟨a, b, xs, ys, rfl, rfl, hs.get (.head _), hb, hz, k _ hs.u0⟩
theorem c_clear0 (hs : Hs B ((a, .lst xs) :: L) H) (k : ∀ H', Hs B ((a, .lst []) :: L) H' → Q .non H') : rClear (.ref a) [] H Q := ⟨a, xs, rfl, rfl, hs.get (.head _), k _ hs.u0⟩
theorem c_reverse0 (hs : Hs B ((a, .lst xs) :: L) H) (k : ∀ H', Hs B ((a, .lst xs.reverse) :: L) H' → Q .non H') : rReverse (.ref a) [] H Q := ⟨a, xs, rfl, rfl, hs.get (.head _), k _ hs.u0⟩
/-! slices of tuples, lists turned round -/
theorem c_slT {lo hi : Option Int} (h : Hs B L H) (hq : SqT K H a xs) (hn : ¬ (HT.sIx xs.length 0 lo = 0 ∧ HT.sIx xs.length xs.length hi = xs.length)) (k : ∀ p H', Hs B ((p, .tup (cutV xs lo hi)) :: L) H' → Q (.ref p) H') : rSlK K (.ref a) lo hi H Q :=
  .inr (.inr ⟨a, xs, rfl, hq, hn, fun p hp => k p _ (h.new hp)⟩)
def RevO (K : PySem.W.Frag) (x : V) (H : Hp) (Q : VK) : Prop := ∃ a xs, x = .ref a ∧ SqL K H a xs ∧ ∀ p, H p = none → Q (.ref p) (upd H p (.lst xs.reverse))
theorem c_rev (k : te σ H fun x H1 => RevO K x H1 Q) : tRevL K te σ H Q := k
theorem c_revO (h : Hs B L H) (hq : SqL K H a xs) (k : ∀ p H', Hs B ((p, .lst xs.reverse) :: L) H' → Q (.ref p) H') : RevO K (.ref a) H Q := ⟨a, xs, rfl, hq, fun p hp => k p _ (h.new hp)⟩
/-! an item written -/
def SetO (o i v : V) (H : Hp) (P : Hp → Prop) : Prop := rSetL o i v H P
theorem w_augS {K : PySem.W.Frag} {to ti te : TE} {tip : TIp} {dn db dc : St → Hp → Prop} {dr : VK} {σ : St} {H : Hp} (k : to σ H fun o H1 => ti σ H1 fun i H2 => rIxL K o i H2 fun x H3 => te σ H3 fun y H4 => tip x y H4 fun z H5 => SetO o i z H5 fun H6 => dn σ H6) : tAugS to ti te (rIxL K) tip rSetL ⟨dn, dr, db, dc⟩ σ H := k
theorem c_ixLo {K : PySem.W.Frag} {p : Addr} {xs : List V} {i : Int} {v : V} {H : Hp} {Q : VK} (h : SqL K H p xs) (ha : atI xs i = some v) (k : Q v H) : rIxL K (.ref p) (.int i) H Q := ⟨p, xs, i, v, rfl, rfl, h, ha, k⟩
theorem g_sub {P : St → Hp → Prop} (k : to_ σ H fun o H1 => ti_ σ H1 fun i H2 => SetO o i v H2 (P σ)) : gSub to_ ti_ rSetL v σ H P := k
theorem w_set0 {j : Int} {m : Nat} {P : Hp → Prop} (hs : Hs B ((a, .lst xs) :: L) H) (e : j = ((m : Nat) : Int)) (hm : m < xs.length) (k : ∀ H', Hs B ((a, .lst (xs.set m v)) :: L) H' → P H') : SetO (.ref a) (.int j) v H P :=
  ⟨a, xs, j, m, rfl, rfl, hs.get (.head _), by subst e; unfold ixN; rw [if_pos (Int.natCast_nonneg _), if_pos (Int.ofNat_lt.mpr hm), Int.toNat_natCast], k _ hs.u0⟩
theorem w_set1 {q : Addr × HO} {j : Int} {m : Nat} {P : Hp → Prop} (hs : Hs B (q :: (a, .lst xs) :: L) H) (e : j = ((m : Nat) : Int)) (hm : m < xs.length) (k : ∀ H', Hs B (q :: (a, .lst (xs.set m v)) :: L) H' → P H') : SetO (.ref a) (.int j) v H P :=
  w_set0 hs.swap e hm fun H' h => k H' h.swap
theorem c_isiS {z : Str} (k : Q (.bl true) H) : rIsi K [.str z, .ty "str"] H Q := c_isiStr (.str z) k
theorem small6 {n : Nat} (h : n ≤ 200000) : n < sizeLine := Nat.lt_of_le_of_lt h (by decide)
theorem small6' {n : Nat} (h : n ≤ 200000) : n ≤ sizeLine := Nat.le_trans h (by decide)
end
end L2.BP
namespace L2.BP
open PySem PySem.Spec PyProof.Rows
section
variable {K : PySem.W.Frag} {W : WX} {vs : List V} {H : Hp} {Q : VK} {E : XK}
/-! ### == of lists -/
theorem eqvAll_ints : ∀ a b : List Int, PyData.eqvAll (a.map PyData.int) (b.map PyData.int) = decide (a = b)
  | [], [] => by simp [PyData.eqvAll]
  | [], y :: r => by simp [PyData.eqvAll]
  | x :: r, [] => by simp [PyData.eqvAll]
  | x :: r, y :: t => by
    rw [List.map_cons, List.map_cons, PyData.eqvAll, eqvAll_ints r t]
    simp only [PyData.eqv]
    by_cases h : x = y <;> by_cases h2 : r = t <;> simp [h, h2]
theorem canAll_ints : ∀ a : List Int, PyData.canLayAll0 (a.map PyData.int) = true
  | [] => by simp [PyData.canLayAll0]
  | x :: r => by
    rw [List.map_cons, PyData.canLayAll0, canAll_ints r]
    simp [PyData.canLay0]
theorem depAll_ints : ∀ a : List Int, PyData.depthAll (a.map PyData.int) ≤ 1
  | [] => by simp [PyData.depthAll]
  | x :: r => by
    have := depAll_ints r
    rw [List.map_cons, PyData.depthAll]
    simp [PyData.depth]
    omega
theorem shaped_ints (a : List Int) : SeqAt.shaped (.list (a.map PyData.int)) = true := by
  unfold SeqAt.shaped
  rw [PyData.canLay0, canAll_ints, PyData.depth]
  have := depAll_ints a
  simp
  omega
theorem c_eqL {p q : Addr} (a b : List Int) (h1 : SqL K H p (a.map V.int)) (h2 : SqL K H q (b.map V.int)) (k : Q (.bl (decide (a = b))) H) : rEqU K (.ref p) (.ref q) H Q := by
  refine c_eqD (.lst h1 (dpa_ints a)) (.lst h2 (dpa_ints b)) (shaped_ints a) (shaped_ints b) ?_
  rw [PyData.eqv, eqvAll_ints]
  exact k
theorem c_neL {p q : Addr} (a b : List Int) (h1 : SqL K H p (a.map V.int)) (h2 : SqL K H q (b.map V.int)) (k : Q (.bl (!decide (a = b))) H) : rNeU K (.ref p) (.ref q) H Q := by
  refine c_neD (.lst h1 (dpa_ints a)) (.lst h2 (dpa_ints b)) (shaped_ints a) (shaped_ints b) ?_
  rw [PyData.eqv, eqvAll_ints]
  exact k
/-! a list of tuples of whole numbers and texts against an equal one -/
def vD : V → PyData
  | .int i => .int i
  | .str x => .str x
  | .bl b => .bool b
  | _ => .none
def flatV : V → Bool
  | .int _ => true
  | .str x => PyData.canLay0 (.str x)
  | .bl _ => true
  | .non => true
  | _ => false
theorem dp_flat : ∀ {v : V}, flatV v = true → Dp K H v (vD v)
  | .int i, _ => .int i
  | .str x, _ => .str x
  | .bl b, _ => .bl b
  | .non, _ => .non
theorem dpa_flat : ∀ {xs : List V}, xs.all flatV = true → DpAll K H xs (xs.map vD)
  | [], _ => .nil
  | x :: r, h => by
    rw [List.all_cons, Bool.and_eq_true] at h
    exact .cons (dp_flat h.1) (dpa_flat h.2)
theorem can_flat : ∀ {v : V}, flatV v = true → (vD v).canLay0 = true ∧ (vD v).depth = 0
  | .int i, _ => ⟨by simp [vD, PyData.canLay0], by simp [vD, PyData.depth]⟩
  | .str x, h => ⟨h, by simp [vD, PyData.depth]⟩
  | .bl b, _ => ⟨by simp [vD, PyData.canLay0], by simp [vD, PyData.depth]⟩
  | .non, _ => ⟨by simp [vD, PyData.canLay0], by simp [vD, PyData.depth]⟩
theorem canAll_flat : ∀ {xs : List V}, xs.all flatV = true → PyData.canLayAll0 (xs.map vD) = true ∧ PyData.depthAll (xs.map vD) ≤ 1
  | [], _ => ⟨by simp [PyData.canLayAll0], by simp [PyData.depthAll]⟩
  | x :: r, h => by
    rw [List.all_cons, Bool.and_eq_true] at h
    obtain ⟨h1, h2⟩ := can_flat h.1
    obtain ⟨h3, h4⟩ := canAll_flat h.2
    rw [List.map_cons, PyData.canLayAll0, PyData.depthAll, h1, h2, h3]
    exact ⟨rfl, by omega⟩
def tupD (xs : List V) : PyData := .tuple (xs.map vD)
theorem canAll_tups : ∀ {xss : List (List V)}, (∀ xs ∈ xss, xs.all flatV = true) → PyData.canLayAll0 (xss.map tupD) = true ∧ PyData.depthAll (xss.map tupD) ≤ 3
  | [], _ => ⟨by simp [PyData.canLayAll0], by simp [PyData.depthAll]⟩
  | x :: r, h => by
    obtain ⟨h1, h2⟩ := canAll_flat (h x (.head _))
    obtain ⟨h3, h4⟩ := canAll_tups fun y hy => h y (.tail _ hy)
    have e1 : (tupD x).canLay0 = true := by
      unfold tupD
      rw [PyData.canLay0, h1]
    have e2 : (tupD x).depth ≤ 2 := by
      unfold tupD
      rw [PyData.depth]
      omega
    rw [List.map_cons, PyData.canLayAll0, PyData.depthAll, h3, e1]
    exact ⟨rfl, by omega⟩
theorem shaped_tups {xss : List (List V)} (h : ∀ xs ∈ xss, xs.all flatV = true) : SeqAt.shaped (.list (xss.map tupD)) = true := by
  obtain ⟨h1, h2⟩ := canAll_tups h
  unfold SeqAt.shaped
  rw [PyData.canLay0, PyData.depth, h1]
  simp
  omega
theorem dpa_tups : ∀ {ws : List V} {xss : List (List V)}, Tups K H ws xss → (∀ xs ∈ xss, xs.all flatV = true) → DpAll K H ws (xss.map tupD)
  | _, _, .nil, _ => .nil
  | _, _, .cons z t, h => .cons (.tup z (dpa_flat (h _ (.head _)))) (dpa_tups t fun y hy => h y (.tail _ hy))
theorem eqv_vD (v : V) : PyData.eqv (vD v) (vD v) = true := by cases v <;> simp [vD, PyData.eqv]
theorem eqvAll_vD : ∀ xs : List V, PyData.eqvAll (xs.map vD) (xs.map vD) = true
  | [] => by simp [PyData.eqvAll]
  | x :: r => by rw [List.map_cons, PyData.eqvAll, eqv_vD, eqvAll_vD r]; rfl
theorem eqvAll_tupD : ∀ xss : List (List V), PyData.eqvAll (xss.map tupD) (xss.map tupD) = true
  | [] => by simp [PyData.eqvAll]
  | x :: r => by
    have e : PyData.eqv (tupD x) (tupD x) = true := by
      unfold tupD
      rw [PyData.eqv, eqvAll_vD]
    rw [List.map_cons, PyData.eqvAll, e, eqvAll_tupD r]
    rfl
theorem eqv_tups {xss : List (List V)} : PyData.eqv (.list (xss.map tupD)) (.list (xss.map tupD)) = true := by rw [PyData.eqv, eqvAll_tupD]
/-- two lists of equal tuples -/
theorem c_neT {p q : Addr} {ws us : List V} {xss : List (List V)} (hf : ∀ xs ∈ xss, xs.all flatV = true) (h1 : SqL K H p ws) (t1 : Tups K H ws xss) (h2 : SqL K H q us) (t2 : Tups K H us xss) (k : Q (.bl false) H) : rNeU K (.ref p) (.ref q) H Q := by
  refine c_neD (.lst h1 (dpa_tups t1 hf)) (.lst h2 (dpa_tups t2 hf)) (shaped_tups hf) (shaped_tups hf) ?_
  rw [eqv_tups]
  exact k
theorem c_eqT {p q : Addr} {ws us : List V} {xss : List (List V)} (hf : ∀ xs ∈ xss, xs.all flatV = true) (h1 : SqL K H p ws) (t1 : Tups K H ws xss) (h2 : SqL K H q us) (t2 : Tups K H us xss) (k : Q (.bl true) H) : rEqU K (.ref p) (.ref q) H Q := by
  refine c_eqD (.lst h1 (dpa_tups t1 hf)) (.lst h2 (dpa_tups t2 hf)) (shaped_tups hf) (shaped_tups hf) ?_
  rw [eqv_tups]
  exact k
end
end L2.BP
namespace L2.BP
open PySem PySem.Spec PyProof.Rows
/-- both ways of an if meet again -/
theorem w_cut {t u : TS} {dn : St → Hp → Prop} {dr : VK} {db dc : St → Hp → Prop} {σ : St} {H : Hp} (Mid : St → Hp → Prop) (h1 : t ⟨Mid, dr, db, dc⟩ σ H) (h2 : ∀ σ' H', Mid σ' H' → u ⟨dn, dr, db, dc⟩ σ' H') : Evl.tCut t u ⟨dn, dr, db, dc⟩ σ H := ⟨Mid, h1, h2⟩
end L2.BP
namespace L2.BP
open PySem PySem.Spec PyProof.Rows
section
variable {X : Cx} {K : PySem.W.Frag} {σ : St} {H B : Hp} {L : Pic} {Q : VK} {te to_ ti_ : TE} {v : V} {P : St → Hp → Prop}
/-! a field as one of several targets -/
def gAttr (K : PySem.W.Frag) (ta : TE) (f : Str) : TG := fun v σ H P => ta σ H fun x H1 => PutO K f v x H1 (P σ)
theorem pg_attr {o : Expr} {f : Str} {pos : Pos} {ta : TE} (ho : PE X o ta) : PG X (.Attribute o f pos) (gAttr X.K ta f) := by
  refine ⟨fun pins s σ H v u Q I r h => ?_⟩
  show wpAny _ _ (do let ov ← holding [u] (eval o X.env); standAt pos.atName; holding [u, ov] (setAttr ov f u); release [u, ov] []) _ _ _
  refine wpAny_bind (wpAny_holding (thn (ho.run pins s σ H _ I h) fun ov s1 ⟨x, H1, I1, r1, a, C, dx, fs, ex, ea, c, n, l, q⟩ => ?_))
  subst ex
  obtain rfl : ov = Value.ref a := r1
  refine wpAny_bind (wpAny_standAt (wpAny_bind (wpAny_holding ?_)))
  exact setattr_ok I1 ea c n l r fun s2 I2 => wpAny_release ⟨σ, _, I2, q⟩
theorem g_attr {f : Str} (k : te σ H fun x H1 => PutO K f v x H1 (P σ)) : gAttr K te f v σ H P := k
/-! how many different ones -/
def LsO (K : PySem.W.Frag) (x : V) (H : Hp) (Q : VK) : Prop := ∃ (l : Addr) (ns : List Int), x = .ref l ∧ SqL K H l (ns.map V.int) ∧ ns.Nodup ∧ ns.length ≤ 4000 ∧ Q (.int (ns.length : Nat)) H
theorem c_lenset (k : te σ H fun x H1 => LsO K x H1 Q) : RZ.tLenSetI K te σ H Q := k
theorem c_lsO {a : Addr} {ns : List Int} (h : SqL K H a (ns.map V.int)) (hn : ns.Nodup) (hl : ns.length ≤ 4000) (k : Q (.int (ns.length : Nat)) H) : LsO K (.ref a) H Q := ⟨a, ns, rfl, h, hn, hl, k⟩
/-! dicts that are written out -/
def DispO (p : Addr) (ps : List (V × V)) (H : Hp) (Q : VK) : Prop := H p = some (.dK []) ∧ ∃ kvs : List (Key × V), ps = kvs.map (fun kv => (kV kv.1, kv.2)) ∧ kvs.length ≤ 15 ∧ Q (.ref p) (upd H p (.dK (mergeK [] kvs)))
theorem c_disp {trs : List (TE × TE)} (hs : Hs B L H) (k : ∀ p H', Hs B ((p, .dK []) :: L) H' → tPairs trs σ H' fun ps H2 => DispO p ps H2 Q) : tDisp trs σ H Q := fun p hp => k p _ (hs.new hp)
theorem c_tpc {tk tv : TE} {r : List (TE × TE)} {R : List (V × V) → Hp → Prop} (k : tk σ H fun x H1 => tv σ H1 fun y H2 => tPairs r σ H2 fun ps H3 => R ((x, y) :: ps) H3) : tPairs ((tk, tv) :: r) σ H R := k
theorem c_tpn {R : List (V × V) → Hp → Prop} (k : R [] H) : tPairs [] σ H R := k
theorem c_dispO {p : Addr} {ps : List (V × V)} (kvs : List (Key × V)) (hs : Hs B ((p, .dK []) :: L) H) (e : ps = kvs.map (fun kv => (kV kv.1, kv.2))) (hl : kvs.length ≤ 15) (k : ∀ H', Hs B ((p, .dK (mergeK [] kvs)) :: L) H' → Q (.ref p) H') : DispO p ps H Q :=
  ⟨hs.get (.head _), kvs, e, hl, k _ hs.u0⟩
def DgO (x y : V) (H : Hp) (Q : VK) : Prop := ∃ a v, x = .ref a ∧ DGet H a y (some v) ∧ Q v H
theorem c_dget {td ty : TE} (k : td σ H fun x H1 => ty σ H1 fun y H2 => DgO x y H2 Q) : tDGet td ty σ H Q := k
theorem c_dgO {a : Addr} {kvs : List (Key × V)} {key : Key} (h : H a = some (.dK kvs)) (e : valV kvs key = some v) (k : Q v H) : DgO (.ref a) (kV key) H Q := ⟨a, v, rfl, by rw [← e]; exact DGet.k h, k⟩
/-! in a list -/
theorem inV_int (i : Int) : ∀ ns : List Int, L2.inV (.int i) (ns.map V.int) = decide (i ∈ ns)
  | [] => by simp [L2.inV]
  | n :: r => by
    have ih := inV_int i r
    have e : L2.eqV (.int n) (.int i) = decide (n = i) := by
      show (n == i) = decide (n = i)
      by_cases h : n = i <;> simp [h]
    unfold L2.inV at ih ⊢
    rw [List.map_cons, List.any_cons, ih, e]
    by_cases h : n = i
    · simp [h]
    · simp [h, Ne.symm h]
theorem flat_ints (ns : List Int) : (ns.map V.int).all L2.flatV = true := by simp [L2.flatV]
theorem c_inL {a : Addr} {i : Int} (ns : List Int) (h : SqL K H a (ns.map V.int)) (k : Q (.bl (decide (i ∈ ns))) H) : rInU K (.int i) (.ref a) H Q :=
  .inl ⟨a, _, rfl, .inl h, rfl, flat_ints ns, by rw [inV_int]; exact k⟩
theorem c_niL {a : Addr} {i : Int} (ns : List Int) (h : SqL K H a (ns.map V.int)) (k : Q (.bl (!decide (i ∈ ns))) H) : rNiU K (.int i) (.ref a) H Q :=
  .inl ⟨a, _, rfl, .inl h, rfl, flat_ints ns, by rw [inV_int]; exact k⟩
theorem c_inT {a : Addr} {i : Int} (ns : List Int) (h : SqT K H a (ns.map V.int)) (k : Q (.bl (decide (i ∈ ns))) H) : rInU K (.int i) (.ref a) H Q :=
  .inl ⟨a, _, rfl, .inr h, rfl, flat_ints ns, by rw [inV_int]; exact k⟩
theorem xor_nat (a b : Nat) : Builtin.bitXor ((a : Nat) : Int) ((b : Nat) : Int) = ((a ^^^ b : Nat) : Int) := by
  rw [Bits.bitXor_pp (Int.natCast_nonneg a) (Int.natCast_nonneg b), Int.toNat_natCast, Int.toNat_natCast]
end
end L2.BP
namespace L2.BP
open PySem PySem.Spec PyProof.Rows
section
variable {K : PySem.W.Frag} {σ : St} {H B : Hp} {L : Pic} {Q : VK} {ta tb : TE} {a : Addr} {xs : List V}
/-- x or y, by what is empty -/
def OrO (K : PySem.W.Frag) (x : V) (tb : TE) (σ : St) (H : Hp) (Q : VK) : Prop := ∃ k, TruV K x H k ∧ if k = true then Q x H else tb σ H Q
theorem c_orT (k : ta σ H fun x H1 => OrO K x tb σ H1 Q) : tOrT K ta tb σ H Q := k
theorem c_orL (h : SqL K H a xs) (k1 : xs ≠ [] → Q (.ref a) H) (k2 : xs = [] → tb σ H Q) : OrO K (.ref a) tb σ H Q := by
  refine ⟨!xs.isEmpty, .inl ⟨xs, h, rfl⟩, ?_⟩
  cases xs with
  | nil => exact iteF (k2 rfl)
  | cons x r => exact iteT (k1 (by simp))
end
end L2.BP
namespace L2.BP
open PySem PySem.Spec PyProof.Rows
/-! ### a class without an __init__ of its own -/
structure Mk0 (K : PySem.W.Frag) (C : Addr) : Prop where
  makes : PySem.W.makesIn K C = true
  init : PySem.W.findIn K (.ref C) "__init__" = some (some (.builtin "object.__init__"))
  kp : PySem.W.keepIn K (.ref C) = true
section
variable {X : Cx} {C : Addr} {x : Str} {p pos : Pos}
/-- C(): a bare object -/
def MadeO (C : Addr) (H : Hp) (Q : VK) : Prop := ∀ x dx, H x = none → H dx = none → dx ≠ x → Q (.ref x) (upd (upd H dx (.own x)) x (.ins C dx []))
def tMade (C : Addr) : TE := fun _ H Q => MadeO C H Q
theorem run_made {pins : List (Addr × Obj)} {σ : St} {H : Hp} {s : Shared} {Q : VK} (M : Mk0 X.K C) (I : Inv X pins σ H s) (h : MadeO C H Q) : wpAny (model X.prog X.w) X.A (call (.ref C) []) (EP X pins σ Q) X.xe s := by
  have q := h (s.heap.objs.size + 1) s.heap.objs.size (I.hok.fresh (Nat.le_succ _)) (I.hok.fresh (Nat.le_refl _)) (Nat.ne_of_lt (Nat.lt_succ_self _))
  have J := Inv.made (C := C) I
  have Y := PySem.W.makes_of (M := model X.prog X.w) I.kIn M.makes
  refine wpAny_call (make_map0 I.kIn M.makes M.init (fun self => PySem.W.Looks.of_pure (PySem.W.oi_bind self)) ?_)
  have e2 : ((s.heap.push PySem.W.emptyDict).push (PySem.W.instObj C s.heap.objs.size)).get? (s.heap.objs.size + 1) = some (PySem.W.instObj C s.heap.objs.size) := by
    have := Heap.get?_push_size (s.heap.push PySem.W.emptyDict) (o := PySem.W.instObj C s.heap.objs.size) rfl
    rwa [Heap.size_push] at this
  have t1 : PySem.W.Looks (model X.prog X.w) ((s.heap.push PySem.W.emptyDict).push (PySem.W.instObj C s.heap.objs.size)) (typeOf (.ref (s.heap.objs.size + 1))) (.ref C) := (PySem.W.Looks.ld e2).andThen .now
  have t2 : PySem.W.Looks (model X.prog X.w) ((s.heap.push PySem.W.emptyDict).push (PySem.W.instObj C s.heap.objs.size)) (isInstance (.ref (s.heap.objs.size + 1)) (.type "object")) true :=
    t1.andThen (Y.top.keeps fun b o e => Heap.get?_push_of_some _ (Heap.get?_push_of_some _ e))
  refine codeAny_call_builtin PySem.W.oi_plain PySem.W.entry_oi (@PySem.W.check_slot (model X.prog X.w) _ _ _ "object.__init__" "object" "__init__" (.ref (s.heap.objs.size + 1)) [] [] _ PySem.W.oi_kind PySem.W.oi_split t2 (PySem.W.oi_args (.ref (s.heap.objs.size + 1))) ?_)
  rw [PySem.W.oi_run]
  exact wpAny_pure (And.intro rfl ⟨V.ref (s.heap.objs.size + 1), _, J, rfl, q⟩)
theorem pe_made (M : Mk0 X.K C) (hg : Gl X x) (hm : X.mg x = some (.ref C)) (hdb : (x == ("__debug__" : Str)) = false := by decide) : PE X (.Call (.Name x p) [] [] pos) (tMade C) := by
  constructor
  intro pins s σ H Q I h
  exact wpAny_Call_Name_kw (ld_glob I hg hm (PySem.W.callWith_K0 I.kIn M.kp (run_made M I h)) hdb)
end
section
variable {K : PySem.W.Frag} {σ : St} {H B : Hp} {L : Pic} {Q : VK} {C : Addr}
theorem c_made (k : MadeO C H Q) : tMade C σ H Q := k
theorem c_madeO (hs : Hs B L H) (k : ∀ x dx H', Hs B ((x, .ins C dx []) :: L) H' → Q (.ref x) H') : MadeO C H Q := fun x dx hx hdx ne => by
  have h1 := hs.new (o := HO.own x) hdx
  have h2 : (upd H dx (.own x)) x = none := by rw [upd_ne (Ne.symm ne)]; exact hx
  exact k x dx _ (h1.new h2).swap.drop
end
end L2.BP
namespace L2.BP
open PySem PySem.Spec PyProof.Rows
/-! ### walks by steps, and of texts -/
section
variable {K : PySem.W.Frag} {a : Addr} {g : TG} {tb : TS} {dn : St → Hp → Prop} {dr : VK} {db dc : St → Hp → Prop} {σ : St} {H B : Hp} {L : Pic}
theorem w_forC {lo c : Int} {n : Nat} (I : Nat → St → Pic → Hp → Prop) (hs : Hs B L H) (h0 : I 0 σ L B)
    (turn : ∀ i σ' L' B' H', i < n → I i σ' L' B' → Hs B' L' H' → g (.int (lo + (i : Nat) * c)) σ' H' fun σ2 H2 => tb ⟨NxI I (i + 1), dr, dn, NxI I (i + 1)⟩ σ2 H2)
    (fin : ∀ σ' L' B' H', I n σ' L' B' → Hs B' L' H' → dn σ' H') : ForO (Itc lo c n) g tb dn dr σ H := by
  refine ⟨fun i m σ H => m = n - i ∧ i ≤ n ∧ NxI I i σ H, ⟨n, by simp, Nat.zero_le _, L, B, h0, hs⟩, ?_⟩
  rintro i m σ' H' ⟨rfl, hi, L', B', q, h⟩
  by_cases hlt : i < n
  · refine .inr ⟨hlt, NxI I (i + 1), fun σ2 H2 p => ⟨_, by omega, rfl, hlt, p⟩, ?_⟩
    rintro v H2 ⟨rfl, rfl⟩
    exact turn i σ' L' B' _ hlt q h
  · have e : i = n := by omega
    subst e
    exact .inl ⟨Nat.le_refl _, fin _ _ _ _ q h⟩
theorem w_forS {x : Str} (I : Nat → St → Pic → Hp → Prop) (hs : Hs B L H) (h0 : I 0 σ L B)
    (turn : ∀ i c σ' L' B' H', x.cps[i]? = some c → I i σ' L' B' → Hs B' L' H' → g (.str ⟨#[c]⟩) σ' H' fun σ2 H2 => tb ⟨NxI I (i + 1), dr, dn, NxI I (i + 1)⟩ σ2 H2)
    (fin : ∀ σ' L' B' H', I x.cps.size σ' L' B' → Hs B' L' H' → dn σ' H') : ForO (Its x) g tb dn dr σ H := by
  refine ⟨fun i m σ H => m = x.cps.size - i ∧ i ≤ x.cps.size ∧ NxI I i σ H, ⟨x.cps.size, by simp, Nat.zero_le _, L, B, h0, hs⟩, ?_⟩
  rintro i m σ' H' ⟨rfl, hi, L', B', q, h⟩
  by_cases hlt : i < x.cps.size
  · refine .inr ⟨hlt, NxI I (i + 1), fun σ2 H2 p => ⟨_, by omega, rfl, hlt, p⟩, ?_⟩
    rintro v H2 ⟨rfl, c, hc, rfl⟩
    exact turn i c σ' L' B' _ hc q h
  · have e : i = x.cps.size := by omega
    subst e
    exact .inl ⟨Nat.le_refl _, fin _ _ _ _ q h⟩
def RcO (R : It → Hp → Prop) (vs : List V) (H : Hp) : Prop := ∃ (i j c : Int) (n : Nat), vs = [.int i, .int j, .int c] ∧ RgC i j c n ∧ R (Itc i c n) H
theorem c_iR3 {ta : TA} {R : It → Hp → Prop} (k : ta σ H fun vs H1 => RcO R vs H1) : iRng3 ta σ H R := k
theorem c_rcO {R : It → Hp → Prop} {i j c : Int} (n : Nat) (h : RgC i j c n) (k : R (Itc i c n) H) : RcO R [.int i, .int j, .int c] H := ⟨i, j, c, n, rfl, h, k⟩
def SsO (R : It → Hp → Prop) (v : V) (H : Hp) : Prop := ∃ x, v = .str x ∧ R (Its x) H
theorem c_iS {te : TE} {R : It → Hp → Prop} (k : te σ H fun v H1 => SsO R v H1) : iStr te σ H R := k
theorem c_ssO {R : It → Hp → Prop} {x : Str} (k : R (Its x) H) : SsO R (.str x) H := ⟨x, rfl, k⟩
end
end L2.BP
namespace L2.BP
open PySem PySem.Spec PyProof.Rows
section
variable {H B : Hp} {L : Pic} {K : PySem.W.Frag} {σ : St} {Q : VK}
theorem Hs.rot4 {a b c d : Addr × HO} (h : Hs B (a :: b :: c :: d :: L) H) : Hs B (d :: a :: b :: c :: L) H := h.perm (List.perm_middle (l₁ := [a, b, c]))
theorem Hs.rot5 {a b c d e : Addr × HO} (h : Hs B (a :: b :: c :: d :: e :: L) H) : Hs B (e :: a :: b :: c :: d :: L) H := h.perm (List.perm_middle (l₁ := [a, b, c, d]))
theorem c_alt1 {t u : TE} (k : t σ H Q) : tOrE t u σ H Q := .inl k
theorem c_alt2 {t u : TE} (k : u σ H Q) : tOrE t u σ H Q := .inr k
theorem c_eqNN (k : Q (.bl true) H) : rEqU K .non .non H Q := .inl ⟨rfl, k⟩
theorem c_neNN (k : Q (.bl false) H) : rNeU K .non .non H Q := .inl ⟨rfl, k⟩
end
end L2.BP
namespace L2.BP
open PySem PySem.Spec PyProof.Rows
/-! ### isinstance of an own class -/
structure InsC (K : PySem.W.Frag) (C : Addr) : Prop where
  ha : PySem.W.findIn K (.ref C) "__class__" = some (some (.builtin "object.__class__"))
  hn : PySem.W.specialIn K (.builtin "object.__class__") "__get__" = some (some (.builtin "getset_descriptor.__get__"))
  htk : PySem.W.takesIn K (.builtin "object.__class__") = some true
  hm : PySem.W.mroIn K C (.type "object") = some true
theorem c_isiC {K : PySem.W.Frag} {H : Hp} {Q : VK} {x C D dx : Addr} {fs : List (Str × V)} {b : Bool} (h : H x = some (.ins C dx fs)) (cl : Cls K C) (i : InsC K C) (e : PySem.W.kitOne K (.ref C) (.ref D) = some b) (k : Q (.bl b) H) : rIsi K [.ref x, .ref D] H Q :=
  c_isi (.base (.ins h cl i.ha i.hn i.htk i.hm)) (.own D) e k
end L2.BP
namespace L2.BP
open PySem PySem.Spec PyProof.Rows
section
variable {K : PySem.W.Frag} {g : TG} {tt : TT} {te : TE} {σ : St} {H B : Hp} {L : Pic} {vs : List Nat}
/-- a comprehension whose turns change own objects -/
def LcV (I : Nat → List V → Pic → Hp → Prop) (D : Addr) (i : Nat) : Hp → Prop := fun H' => ∃ acc L' B', I i acc L' B' ∧ Hs B' ((D, .lst acc) :: L') H'
theorem c_lcRV {P : Addr → Hp → Prop} {lo : Int} {n : Nat} (I : Nat → List V → Pic → Hp → Prop) (hs : Hs B L H) (h0 : I 0 [] L B)
    (turn : ∀ i acc L' B' D H', i < n → I i acc L' B' → Hs B' ((D, .lst acc) :: L') H' → g (.int (lo + i)) (wipe σ vs) H' fun σ2 H2 => wipe σ2 vs = wipe σ vs ∧ tt σ2 H2 fun b H3 =>
      if b = true then te σ2 H3 fun y H4 => ∃ acc, H4 D = some (.lst acc) ∧ acc.length < sizeLine ∧ LcV I D (i + 1) (upd H4 D (.lst (acc ++ [y]))) else LcV I D (i + 1) H3)
    (fin : ∀ acc L' B' D H', I n acc L' B' → Hs B' ((D, .lst acc) :: L') H' → P D H') :
    ∀ D, H D = none → ∃ W : Nat → Nat → Hp → Prop, (∃ m, W 0 m (upd H D (.lst []))) ∧ ∀ i m H, W i m H →
      ((Itr lo n).stop i H ∧ P D H) ∨ ((Itr lo n).go i H ∧ ∃ Nx : Hp → Prop, (∀ H', Nx H' → ∃ m', m' < m ∧ W (i + 1) m' H') ∧ ∀ x H', (Itr lo n).yld i H x H' → g x (wipe σ vs) H' fun σ2 H2 => wipe σ2 vs = wipe σ vs ∧ tt σ2 H2 fun b H3 =>
        if b = true then te σ2 H3 fun y H4 => ∃ acc, H4 D = some (.lst acc) ∧ acc.length < sizeLine ∧ Nx (upd H4 D (.lst (acc ++ [y]))) else Nx H3) :=
  fun D hD => L2.lc_range (LcV I D) ⟨[], L, B, h0, hs.new hD⟩ (fun i H' e ⟨acc, L', B', p, h⟩ => turn i acc L' B' D H' e p h) fun H' ⟨acc, L', B', p, h⟩ => fin acc L' B' D H' p h
theorem c_itemV {D : Addr} {acc : List V} {y : V} {B2 : Hp} {P : List V → Pic → Hp → Prop} (h : Hs B2 ((D, .lst acc) :: L) H) (hz : acc.length < sizeLine) (i : P (acc ++ [y]) L B2) :
    ∃ acc, H D = some (.lst acc) ∧ acc.length < sizeLine ∧ ∃ acc2 L' B', P acc2 L' B' ∧ Hs B' ((D, .lst acc2) :: L') (upd H D (.lst (acc ++ [y]))) :=
  ⟨acc, h.get (.head _), hz, acc ++ [y], L, B2, i, h.u0⟩
end
end L2.BP
namespace L2.BP
open PySem PySem.Spec PyProof.Rows
theorem Tups.snocFix {K : PySem.W.Frag} {B : Hp} {t : Addr} {xs : List V} {acc : List V} {ps : List (List V)} (h : Tups K B acc ps) (hn : B t = none) : Tups K (upd B t (.tup xs)) (acc ++ [.ref t]) (ps ++ [xs]) := (h.same (same_upd hn)).snoc (SqT.of upd_same)
end L2.BP
namespace L2.BP
open PySem PySem.Spec PyProof.Rows
/-! ### try: .. except X as e: suite -/
def tTryAs (K : PySem.W.Frag) (c : Value) (i : Nat) (tb : WX → TS) (ts : Addr → Value → Option Addr → TS) (W : WX) : TS := fun D σ H => tb (wAs K c i ts W D) D σ H
section
variable {K : PySem.W.Frag} {c cls : Value} {d : Option Addr} {i : Nat} {tb : WX → TS} {ts : Addr → Value → Option Addr → TS} {W : WX} {D : Ends} {σ : St} {H B : Hp} {L : Pic} {Q : VK}
theorem ps_tryAs {X : Cx} {x n : Str} {c : Value} {i : Nat} {body suite : List Stmt} {b₀ : Stmt} {np pos pos' : Pos} {tb : WX → TS} {ts : Addr → Value → Option Addr → TS} {Wout : WX} (hs : X.stack = X.env :: X.outer) (hf : X.env.frame = some X.env.locals) (hN : X.N.Nodup) (hi : X.N[i]? = some n) (hln : X.env.kindOf n = some .local) (hc : Names X x c) (tk : Takes X Wout)
    (hb : ∀ (W : WX) (pn : List (Addr × Obj)) (xe : Value → Shared → Prop), Takes (X.tr pn xe) W → PassesOwn (model X.prog X.w) X.A X.env xe → PSs (X.tr pn xe) body (tb W))
    (hsu : ∀ (a : Addr) (oe : Obj) (cls : Value) (d : Option Addr) (pn : List (Addr × Obj)), Zc cls d oe → (∃ vs, oe.data = .fields vs) → PSs (X.suite a ((a, oe) :: pn)) (b₀ :: suite) (ts a cls d)) :
    PS X (.Try body [.ExceptHandler (some (.Name x np)) (some n) (b₀ :: suite) pos'] [] [] pos) (tTryAs X.K c i tb ts Wout) := ps_try_as hs hf hN hi hln hc tk hb hsu
theorem w_tryAs (k : tb (wAs K c i ts W D) D σ H) : tTryAs K c i tb ts W D σ H := k
theorem c_wAs (e : PySem.W.exmOne K cls c = some true) (k : ∀ a, H a = none → ts a cls d { nx := fun σ' H' => D.nx (σ'.set i none) H', rt := D.rt, bk := fun σ' H' => D.bk (σ'.set i none) H', ct := fun σ' H' => D.ct (σ'.set i none) H' } (σ.set i (some (.ref a))) H) : wAs K c i ts W D cls d σ H :=
  ⟨true, e, fun _ => k, fun z => nomatch z⟩
/-- isinstance(e, c), e what the suite holds: an exception of the class cls -/
def rIsX (K : PySem.W.Frag) (a : Addr) (cls : Value) (d : Option Addr) : List V → Hp → VK → Prop := fun xs H Q => ∃ (D : Addr) (c : V) (cv : Value) (b : Bool), cls = .ref D ∧ d = none ∧ ExcC K D ∧ xs = [.ref a, c] ∧ (∀ u, RelV c u → u = cv) ∧ PySem.W.kitOne K (.ref D) cv = some b ∧ Q (.bl b) H
theorem call_isX {X : Cx} {a : Addr} {oe : Obj} {pn : List (Addr × Obj)} {cls : Value} {d : Option Addr} (hz : Zc cls d oe) (hf : ∃ vs, oe.data = .fields vs) : CallR (X.suite a ((a, oe) :: pn)) (.builtin "isinstance") (rIsX X.K a cls d) := by
  intro pins s σ H xs us Q I r h
  obtain ⟨D, c, cv, b, rfl, rfl, C, e1, e2, e3, q⟩ := h
  exact call_isE C hz hf pins s σ H xs us Q I r ⟨c, cv, b, e1, e2, e3, q⟩
theorem c_isXc {a D C : Addr} {b : Bool} (x : ExcC K D) (e : PySem.W.kitOne K (.ref D) (.ref C) = some b) (k : Q (.bl b) H) : rIsX K a (.ref D) none [.ref a, .ref C] H Q := ⟨D, .ref C, .ref C, b, rfl, rfl, x, rfl, fun _ r => r, e, k⟩
theorem c_isXv {a D : Addr} {t : String} {b : Bool} (x : ExcC K D) (e : PySem.W.kitOne K (.ref D) (.type t) = some b) (k : Q (.bl b) H) : rIsX K a (.ref D) none [.ref a, .ty t] H Q := ⟨D, .ty t, .type t, b, rfl, rfl, x, rfl, fun _ r => r, e, k⟩
theorem c_dnewK (hs : Hs B L H) (k : ∀ p H', Hs B ((p, .dK []) :: L) H' → Q (.ref p) H') : tDNewK σ H Q := fun p hp => k p _ (hs.new hp)
theorem c_tupL {p : Addr} {xs : List V} (h : Hs B L H) (hq : SqL K H p xs) (k : ∀ a H', Hs B ((a, .tup xs) :: L) H' → Q (.ref a) H') : rTupleK K [.ref p] H Q := ⟨p, xs, rfl, .inl ⟨hq, fun a ha => k a _ (h.new ha)⟩⟩
end
/-! ### texts: find, upper, join -/
def rFindK : V → List V → Hp → VK → Prop := fun x xs H Q => ∃ a b, x = .str a ∧ xs = [.str b] ∧ Q (.int (Txt.find a b)) H
def rUpperK : V → List V → Hp → VK → Prop := fun x xs H Q => ∃ a, x = .str a ∧ xs = [] ∧ a.length ≤ 5592405 ∧ Q (.str (Txt.upper a)) H
def rJoinK (K : PySem.W.Frag) : V → List V → Hp → VK → Prop := fun x xs H Q => ∃ a p, ∃ ys : List Str, x = .str a ∧ xs = [.ref p] ∧ (SqL K H p (ys.map V.str) ∨ SqT K H p (ys.map V.str)) ∧ (ys.map (·.length)).sum + ys.length * a.length ≤ 16777216 ∧ Q (.str (Txt.join a ys)) H
section
variable {X : Cx} {o e : Expr} {to te : TE} {K : PySem.W.Frag} {σ : St} {H B : Hp} {L : Pic} {Q : VK}
theorem pe_find {apos pos : Pos} (ho : PE X o to) (he : PE X e te) (hs : starEach [e] X.env = [(false, eval e X.env)] := by rfl) (hbase : attributeBase o "find" X.env (eval o X.env) = eval o X.env := by rfl) (hline : (apos.endLine == pos.line) = true := by rfl) :
    PE X (.Call (.Attribute o "find" apos) [e] [] pos) (tM1 rFindK to te) := pe_m1 F.slot_str_find F.type_str_find mt_find ho he hs hbase hline
theorem pe_upperK {apos pos : Pos} (ho : PE X o to) (hbase : attributeBase o "upper" X.env (eval o X.env) = eval o X.env := by rfl) (hline : (apos.endLine == pos.line) = true := by rfl) :
    PE X (.Call (.Attribute o "upper" apos) [] [] pos) (tM0 rUpperK to) := pe_m0 F.slot_str_upper F.type_str_upper mt_upper ho hbase hline
theorem pe_joinK {apos pos : Pos} (ho : PE X o to) (he : PE X e te) (hs : starEach [e] X.env = [(false, eval e X.env)] := by rfl) (hbase : attributeBase o "join" X.env (eval o X.env) = eval o X.env := by rfl) (hline : (apos.endLine == pos.line) = true := by rfl) :
    PE X (.Call (.Attribute o "join" apos) [e] [] pos) (tM1 (rJoinK X.K) to te) := pe_m1 F.slot_str_join F.type_str_join mt_join ho he hs hbase hline
def StrO (x : V) (P : Prop) : Prop := (∃ a, x = .str a) ∧ P
theorem c_m0 {r : V → List V → Hp → VK → Prop} (k : to σ H fun x H1 => StrO x (r x [] H1 Q)) : tM0 r to σ H Q := k
theorem c_m1 {r : V → List V → Hp → VK → Prop} (k : to σ H fun x H1 => StrO x (te σ H1 fun y H2 => r x [y] H2 Q)) : tM1 r to te σ H Q := k
theorem c_strO {a : Str} {P : Prop} (k : P) : StrO (.str a) P := ⟨⟨a, rfl⟩, k⟩
theorem c_find {a b : Str} (k : Q (.int (Txt.find a b)) H) : rFindK (.str a) [.str b] H Q := ⟨a, b, rfl, rfl, k⟩
theorem c_upper {a : Str} (h : a.length ≤ 5592405) (k : Q (.str (Txt.upper a)) H) : rUpperK (.str a) [] H Q := ⟨a, rfl, rfl, h, k⟩
theorem c_join {a : Str} {p : Addr} {ys : List Str} (h : SqL K H p (ys.map V.str)) (hl : (ys.map (·.length)).sum + ys.length * a.length ≤ 16777216) (k : Q (.str (Txt.join a ys)) H) : rJoinK K (.str a) [.ref p] H Q := ⟨a, p, ys, rfl, rfl, .inl h, hl, k⟩
end
/-! ### a comprehension over a text -/
section
variable {K : PySem.W.Frag} {g : TG} {tt : TT} {te : TE} {σ : St} {H B : Hp} {L : Pic} {vs : List Nat} {P : Addr → Hp → Prop}
theorem c_lcS {x : Str} (I : Nat → List V → Hp → Prop) (hs : Hs B L H) (h0 : I 0 [] B)
    (turn : ∀ i c acc B' D H', x.cps[i]? = some c → I i acc B' → Same B B' → Hs B' ((D, .lst acc) :: L) H' → g (.str ⟨#[c]⟩) (wipe σ vs) H' fun σ2 H2 => wipe σ2 vs = wipe σ vs ∧ tt σ2 H2 fun b H3 =>
      if b = true then te σ2 H3 fun y H4 => ∃ acc, H4 D = some (.lst acc) ∧ acc.length < sizeLine ∧ (fun H' => ∃ acc B', I (i + 1) acc B' ∧ Same B B' ∧ Hs B' ((D, .lst acc) :: L) H') (upd H4 D (.lst (acc ++ [y]))) else (fun H' => ∃ acc B', I (i + 1) acc B' ∧ Same B B' ∧ Hs B' ((D, .lst acc) :: L) H') H3)
    (fin : ∀ acc B' D H', I x.cps.size acc B' → Same B B' → Hs B' ((D, .lst acc) :: L) H' → P D H') :
    ∀ D, H D = none → ∃ W : Nat → Nat → Hp → Prop, (∃ m, W 0 m (upd H D (.lst []))) ∧ ∀ i m H, W i m H →
      ((Its x).stop i H ∧ P D H) ∨ ((Its x).go i H ∧ ∃ Nx : Hp → Prop, (∀ H', Nx H' → ∃ m', m' < m ∧ W (i + 1) m' H') ∧ ∀ v H', (Its x).yld i H v H' → g v (wipe σ vs) H' fun σ2 H2 => wipe σ2 vs = wipe σ vs ∧ tt σ2 H2 fun b H3 =>
        if b = true then te σ2 H3 fun y H4 => ∃ acc, H4 D = some (.lst acc) ∧ acc.length < sizeLine ∧ Nx (upd H4 D (.lst (acc ++ [y]))) else Nx H3) := by
  intro D hD
  refine ⟨fun i m H => m = x.cps.size - i ∧ i ≤ x.cps.size ∧ ∃ acc B', I i acc B' ∧ Same B B' ∧ Hs B' ((D, .lst acc) :: L) H, ⟨x.cps.size, by simp, Nat.zero_le _, [], B, h0, Same.refl B, hs.new hD⟩, ?_⟩
  rintro i m H' ⟨rfl, hi, acc, B', q, e, h⟩
  by_cases hlt : i < x.cps.size
  · refine .inr ⟨hlt, fun H' => ∃ acc B', I (i + 1) acc B' ∧ Same B B' ∧ Hs B' ((D, .lst acc) :: L) H', fun H2 p => ⟨_, by omega, rfl, hlt, p⟩, ?_⟩
    rintro v H2 ⟨rfl, c, hc, rfl⟩
    exact turn i c acc B' D _ hc q e h
  · have e2 : i = x.cps.size := by omega
    subst e2
    exact .inl ⟨Nat.le_refl _, fin _ _ _ _ q e h⟩
end
end L2.BP
namespace L2.BP
open PySem PySem.Spec PyProof.Rows
/-! ### the same rules where exceptions bear no context (L2N) -/
/-! ### calls that may let an error out, wished for at the caller's slots -/
section
variable {X : Cx} {k : Nat} {f C : Addr} {fd : FuncData} {ps : List Str} {sp : Sp} {dvs : List V} {ds : List Value} {W : WX} {x m : Str} {p pos apos : Pos} {e o : Expr} {es : List Expr} {ta : TE} {t : TA}
/-- f(e, ..) -/
theorem pe_clN (F : FnOk X.prog X.w X.K X.mg X.base (L2N.CX X.prog X.w) k f fd ps sp) (hr : Room k X.A) (hg : Gl X x) (hm : X.mg x = some (.ref f)) (hk : PySem.W.keepIn X.K (.ref f) = true)
    (hb : Binds X.K fd ps ds) (hd : Vals dvs ds) (tk : L2N.Takes X W) (ha : PA X (e :: es) t) (hdb : (x == ("__debug__" : Str)) = false := by decide)
    (he : starEach (e :: es) X.env = (false, eval e X.env) :: starEach es X.env := by rfl) (hpl : (backTo pos (starEach es X.env)).any (·.1) = false := by rfl) :
    PE X (.Call (.Name x p) (e :: es) [] pos) (tCl sp dvs W t) :=
  pe_callSD (E := WE W) F hr hg hm hk hb hd (fun σ => L2N.passAt tk σ) ha hdb he hpl
theorem pe_cl0N (F : FnOk X.prog X.w X.K X.mg X.base (L2N.CX X.prog X.w) k f fd ps sp) (hr : Room k X.A) (hg : Gl X x) (hm : X.mg x = some (.ref f)) (hk : PySem.W.keepIn X.K (.ref f) = true)
    (hb : Binds X.K fd ps ds) (hd : Vals dvs ds) (tk : L2N.Takes X W) (hdb : (x == ("__debug__" : Str)) = false := by decide) :
    PE X (.Call (.Name x p) [] [] pos) (tCl sp dvs W tNil) := by
  constructor
  intro pins s σ H Q I h
  have go := run_fnSD (E := WE W) (us := []) F hr hb hd (L2N.passAt tk σ) I .nil h
  exact wpAny_Call_Name_kw (ld_glob I hg hm (PySem.W.callWith_K0 I.kIn hk go) hdb)
/-- o.m(e, ..) -/
theorem pe_mtN {pl : Sem Bool} (he : PE X o ta) (c : Cls X.K C) (hm : Meth X.K C m f) (F : FnOk X.prog X.w X.K X.mg X.base (L2N.CX X.prog X.w) k f fd ps sp) (hr : Room k X.A)
    (hb : Binds X.K fd ps ds) (hd : Vals dvs ds) (tk : L2N.Takes X W) (ha : PA X (e :: es) t)
    (hst : starEach (e :: es) X.env = (false, eval e X.env) :: starEach es X.env := by rfl) (hpl : (backTo pos (starEach es X.env)).any (·.1) = false := by rfl)
    (ht : eval (.Call (.Attribute o m apos) (e :: es) [] pos) X.env = (do
      let ov ← eval o X.env; standAt apos.atName
      let (f, first) ← holding [ov] (getMethod ov m pl); callWith pos f first (backTo pos (starEach (e :: es) X.env)) (backToKw pos (keywordEach [] X.env))) := by rfl) :
    PE X (.Call (.Attribute o m apos) (e :: es) [] pos) (tMt C m sp dvs W ta t) := by
  constructor
  intro pins s σ H Q I h
  refine PySem.W.methodCall_KW (pl := pl) (thn (he.run pins s σ H _ I h) ?_) ht
  rintro u s1 ⟨x, H1, I1, rx, a, dx, fs, rfl, ea, l, q⟩
  cases (show u = Value.ref a from rx)
  refine getmeth_ok I1 ea c hm l (PySem.W.callWith_K (first := [.ref a]) (h₀ := X.base) I.ok.mod.kin hm.kp ?_ hst hpl)
  refine thn (ha.run pos pins s1 σ H1 _ I1 q) ?_
  rintro us s2 ⟨vs, H2, I2, r, q2⟩
  exact ⟨I2.kIn, run_fnSD (E := WE W) (us := .ref a :: us) (vs := .ref a :: vs) F hr hb hd (L2N.passAt tk σ) I2 (.cons rfl r) q2⟩
theorem pe_mt0N {pl : Sem Bool} (he : PE X o ta) (c : Cls X.K C) (hm : Meth X.K C m f) (F : FnOk X.prog X.w X.K X.mg X.base (L2N.CX X.prog X.w) k f fd ps sp) (hr : Room k X.A)
    (hb : Binds X.K fd ps ds) (hd : Vals dvs ds) (tk : L2N.Takes X W)
    (ht : eval (.Call (.Attribute o m apos) [] [] pos) X.env = (do
      let ov ← eval o X.env; standAt apos.atName
      let (f, first) ← holding [ov] (getMethod ov m pl); callWith pos f first (backTo pos (starEach [] X.env)) (backToKw pos (keywordEach [] X.env))) := by rfl) :
    PE X (.Call (.Attribute o m apos) [] [] pos) (tMt C m sp dvs W ta tNil) := by
  constructor
  intro pins s σ H Q I h
  refine PySem.W.methodCall_KW (pl := pl) (thn (he.run pins s σ H _ I h) ?_) ht
  rintro u s1 ⟨x, H1, I1, rx, a, dx, fs, rfl, ea, l, q⟩
  cases (show u = Value.ref a from rx)
  refine getmeth_ok I1 ea c hm l ?_
  have go := run_fnSD (E := WE W) (us := [.ref a]) (vs := [.ref a]) F hr hb hd (L2N.passAt tk σ) I1 (.cons rfl .nil) q
  exact PySem.W.callWith_K0 (first := [.ref a]) I1.kIn hm.kp go
/-- C(e, ..) -/
theorem run_mkN {pins : List (Addr × Obj)} {σ : St} {H : Hp} {s : Shared} {Q : VK} {us : List Value} {vs : List V} (M : Mk X.K C f) (F : FnOk X.prog X.w X.K X.mg X.base (L2N.CX X.prog X.w) k f fd ps sp) (hr : Room (k + 1) X.A)
    (hb : Binds X.K fd ps ds) (hd : Vals dvs ds) (tk : L2N.Takes X W) (I : Inv X pins σ H s) (r : Vals vs us)
    (h : ∀ x dx, H x = none → H dx = none → dx ≠ x → sp (.ref x :: (vs ++ dvs)) (upd (upd H dx (.own x)) x (.ins C dx [])) (fun v H2 => v = .non ∧ Q (.ref x) H2) fun c d H2 => W c d σ H2) :
    wpAny (model X.prog X.w) X.A (call (.ref C) us) (EP X pins σ Q) X.xe s := by
  have hq := h (s.heap.objs.size + 1) s.heap.objs.size (I.hok.fresh (Nat.le_succ _)) (I.hok.fresh (Nat.le_refl _)) (Nat.ne_of_lt (Nat.lt_succ_self _))
  have J := Inv.made (C := C) I
  have rr : Vals (V.ref (s.heap.objs.size + 1) :: (vs ++ dvs)) (Value.ref (s.heap.objs.size + 1) :: (us ++ ds)) := .cons rfl (r.append hd)
  have hl : (Value.ref (s.heap.objs.size + 1) :: us ++ ds).length = ps.length := by
    have e1 := rr.length
    rw [F.len _ _ _ _ hq] at e1
    exact e1.symm
  have run := F.run _ X.stack _ _ ⟨Value.ref (s.heap.objs.size + 1) :: us, []⟩ (Value.ref (s.heap.objs.size + 1) :: (us ++ ds)) _ _ _ (hr.make C us []) (J.env0.make C us []) (hb _ (Value.ref (s.heap.objs.size + 1) :: us) J.kIn hl) rr hq
  refine wpAny_call (make_map (f := f) I.kIn M.makes M.init (beq_iff_eq.mp M.fn) (codeAny_mono run ?_))
  intro r s' z
  match r, z with
  | .error e, z => exact (L2N.passAt tk σ) pins _ _ e s' J z
  | .ok (.ret u), z =>
    obtain ⟨v, H', J3, rv, ev, q3⟩ := J.after z
    subst ev
    exact ⟨rv, ⟨V.ref (s.heap.objs.size + 1), H', J3, rfl, q3⟩⟩
theorem pe_mkN (M : Mk X.K C f) (F : FnOk X.prog X.w X.K X.mg X.base (L2N.CX X.prog X.w) k f fd ps sp) (hr : Room (k + 1) X.A) (hg : Gl X x) (hm : X.mg x = some (.ref C))
    (hb : Binds X.K fd ps ds) (hd : Vals dvs ds) (tk : L2N.Takes X W) (ha : PA X (e :: es) t) (hdb : (x == ("__debug__" : Str)) = false := by decide)
    (he : starEach (e :: es) X.env = (false, eval e X.env) :: starEach es X.env := by rfl) (hpl : (backTo pos (starEach es X.env)).any (·.1) = false := by rfl) :
    PE X (.Call (.Name x p) (e :: es) [] pos) (tMk C sp dvs W t) := by
  constructor
  intro pins s σ H Q I h
  refine wpAny_Call_Name_kw (ld_glob I hg hm (PySem.W.callWith_K (h₀ := X.base) I.ok.mod.kin M.kp ?_ he hpl) hdb)
  refine thn (ha.run pos pins s σ H _ I h) ?_
  rintro us s1 ⟨vs, H1, I1, r, q⟩
  exact ⟨I1.kIn, run_mkN M F hr hb hd tk I1 r q⟩
theorem pe_mk0N (M : Mk X.K C f) (F : FnOk X.prog X.w X.K X.mg X.base (L2N.CX X.prog X.w) k f fd ps sp) (hr : Room (k + 1) X.A) (hg : Gl X x) (hm : X.mg x = some (.ref C))
    (hb : Binds X.K fd ps ds) (hd : Vals dvs ds) (tk : L2N.Takes X W) (hdb : (x == ("__debug__" : Str)) = false := by decide) :
    PE X (.Call (.Name x p) [] [] pos) (tMk C sp dvs W tNil) := by
  constructor
  intro pins s σ H Q I h
  have go := run_mkN (us := []) M F hr hb hd tk I .nil h
  exact wpAny_Call_Name_kw (ld_glob I hg hm (PySem.W.callWith_K0 I.kIn M.kp go) hdb)
end
/-! ### an error raised -/
theorem ps_rzN {X : Cx} {W : WX} {C : Addr} {x m : Str} {j : Nat} {p p2 pos pos2 : Pos} (hc : X.calm = true) (tk : L2N.Takes X W) (q : PySem.W.excIn X.K C He.veBase "ValueError.__new__" = true ∧ PySem.W.keepIn X.K (.ref C) = true ∧ PySem.W.subIn X.K (.ref C) (.type "BaseException") = some true ∧ PySem.W.typeIn X.K (.ref C) = some (.type "type"))
    (gC : X.mg x = some (.ref C)) (hg : Gl X x) (hdb : (x == ("__debug__" : Str)) = false := by decide) :
    PS X (.Raise (some (.Call (.Name x p) [.Constant (.str m) j p2] [] pos)) none pos2) (tRz C W) :=
  L2N.ps_raise hc tk (L2N.pmk_own PySem.F.excBase_ValueError q.1 gC q.2.1 (raises_own q.2.2.1 q.2.2.2) hg hdb)

theorem takes0N {X : Cx} : L2N.Takes X (fun _ _ _ _ => False) := fun _ _ x => by
  obtain ⟨_, _, _, _, _, _, _, _, _, _, _, _, _, _, _, _, z⟩ := x
  exact z.elim
def DOkN (P : Program) (w : World) (K : PySem.W.Frag) (mg : Str → Option Value) (base : Heap) (k : Nat) (f : Addr) (ps : List Str) (dvs : List V) (sp : Sp) : Prop :=
  ∃ (fd : FuncData) (ds : List Value), Vals dvs ds ∧ Binds K fd ps ds ∧ FnOk P w K mg base (L2N.CX P w) k f fd ps sp ∧ PySem.W.keepIn K (.ref f) = true
theorem ps_tryAsN {X : Cx} {x n : Str} {c : Value} {i : Nat} {body suite : List Stmt} {b₀ : Stmt} {np pos pos' : Pos} {tb : WX → TS} {ts : Addr → Value → Option Addr → TS} {Wout : WX} (hs : X.stack = X.env :: X.outer) (hf : X.env.frame = some X.env.locals) (hN : X.N.Nodup) (hi : X.N[i]? = some n) (hln : X.env.kindOf n = some .local) (hc : Names X x c) (tk : L2N.Takes X Wout)
    (hb : ∀ (W : WX) (pn : List (Addr × Obj)) (xe : Value → Shared → Prop), L2N.Takes (X.tr pn xe) W → PassesOwn (model X.prog X.w) X.A X.env xe → PSs (X.tr pn xe) body (tb W))
    (hsu : ∀ (a : Addr) (oe : Obj) (cls : Value) (d : Option Addr) (pn : List (Addr × Obj)), L2N.Zn cls d oe → (∃ vs, oe.data = .fields vs) → PSs (X.suite a ((a, oe) :: pn)) (b₀ :: suite) (ts a cls d)) :
    PS X (.Try body [.ExceptHandler (some (.Name x np)) (some n) (b₀ :: suite) pos'] [] [] pos) (tTryAs X.K c i tb ts Wout) := L2N.ps_try_as hs hf hN hi hln hc tk hb hsu
end L2.BP
namespace L2.BP
open PySem PySem.Spec PyProof.Rows L2H
/-! ### defs that are handed the exception that an except suite holds -/
/-- such a def's promise: where the exception stands, its class, its dict -/
abbrev SpE : Type := Addr → Value → Option Addr → Sp
structure FnE (P : Program) (w : World) (K : PySem.W.Frag) (mg : Str → Option Value) (base : Heap) (CX : CXT) (k : Nat) (f : Addr) (fd : FuncData) (ps : List Str) (sp : SpE) : Prop where
  len : ∀ a c d vs H Q E, sp a c d vs H Q E → vs.length = ps.length
  run : ∀ (A : Around) (outer : List Env) (s : Shared) (H : Hp) (args : Args) (us : List Value) (vs : List V) (Q : VK) (E : XK) (p : Addr × Obj) (cls : Value) (d : Option Addr), RoomH k A → Hot1 A p → L2N.Zn cls d p.2 → PinOk outer H s p → Env0 P w K mg base A outer s H → BindsTo s fd args (ps.zip us) → Vals vs us → sp p.1 cls d vs H Q E →
    codeAny (model P w) A (.call (.ref f) args) (CR CX outer P w H s Q E) s
def flowVal : Flow → Value
  | .ret u => u
  | _ => .none
/-- a body's end, as the caller takes it -/
theorem bodyEnd {P : Program} {w : World} {K : PySem.W.Frag} {mg : Str → Option Value} {base : Heap} {CX : CXT} {N : List Str} {qual : Str} {scope : Scope} {f : Addr} {cd : Value} {A : Around} {outer : List Env} {s s' : Shared} {H : Hp} {Q : VK} {E : XK} {p : Addr × Obj} {fl : Flow}
    (h : SP (cxH CX P w K mg base N qual scope f cd A outer s H E p) [] { nx := fun _ H' => Q .non H', rt := Q } fl s') : CR CX outer P w H s Q E (.ok (.ret (flowVal fl))) s' := by
  cases fl with
  | brk => exact h.elim fun _ h => h.elim fun _ h => h.2.elim
  | cont => exact h.elim fun _ h => h.elim fun _ h => h.2.elim
  | next =>
    obtain ⟨_, H1, J, q⟩ := h
    exact ⟨.non, H1, J.os, J.bare, J.base, J.hok, rfl, q⟩
  | ret u =>
    obtain ⟨v, _, H1, J, rv, q⟩ := h
    exact ⟨v, H1, J.os, J.bare, J.base, J.hok, rv, q⟩

theorem FunD.okE {P : Program} {w : World} {K : PySem.W.Frag} {mg : Str → Option Value} {base : Heap} {x qual : Str} {params : Arguments} {body : List Stmt} {scope : Scope} {dvs : List V} {kws : List (Str × V)} {f : Addr} {fd : FuncData} {CX : CXT} {N ps : List Str} {k : Nat} {sp : SpE} (F : FunD K x qual params body scope dvs kws f fd) (S : FnScope N ps scope) (len : ∀ a c d vs H Q E, sp a c d vs H Q E → vs.length = ps.length)
    (hbody : ∀ (cdv : Value) (A : Around) (outer : List Env) (s : Shared) (H : Hp) (vs : List V) (Q : VK) (E : XK) (p : Addr × Obj) (cls : Value) (d : Option Addr), Hot1 A p → L2N.Zn cls d p.2 → RoomH k (A.deeper (envOfC qual scope s.heap.objs.size f cdv)) → sp p.1 cls d vs H Q E →
      ∃ t, PSs (cxH CX P w K mg base N qual scope f cdv A outer s H E p) body t ∧ t { nx := fun _ H' => Q .non H', rt := Q } (L2.start N vs) H) : FnE P w K mg base CX (k + 1) f fd ps sp where
  len := len
  run := by
    intro A outer s H args us vs Q E p cls d room hot zn pin env binds vals want
    obtain ⟨_, _, _, _, _, _, _, cdv, _, _, e, look, code, _, _⟩ := F.ex
    subst e
    have world := env.mod.kin.keeps fun b o e => (env.bs b o e).1
    have free := env.mod.nolimit.keeps fun b o e => (env.bs b o e).1
    have kinds : ∀ y ∈ ps.zip us, scope.names.lookup y.1 = some .local ∨ (scope.names.lookup y.1 = some .cell ∧ ((cellsFrom (s.heap.objs.size + 1) scope.names []).lookup y.1).isSome = true) := by
      intro y hy
      cases S.par y.1 (List.of_mem_zip (show (y.1, y.2) ∈ ps.zip us from hy)).1 with
      | inl h => exact Or.inl h
      | inr h => exact Or.inr ⟨h, PySem.W.cellsFrom_some _ _ _ (Or.inl h)⟩
    have entered := codeAny_call_function (prog := P) (w := w) (A := A) (R := CR CX outer P w H s Q E) (s := s) (args := args) room.depth (world _ _ look) rfl S.co S.gen rfl (PySem.W.codeRec_of world code)
    apply entered
    apply binds
    apply wpAny_newFunctionEnv_cells S.kind kinds
    rintro env' rfl s1 made
    refine And.intro (free.keeps made.toInCall.keep) (codeAny_func ?_)
    obtain ⟨t, reads, goal⟩ := hbody cdv A outer s H vs Q E p cls d hot zn (room.deeper _) want
    have start : Inv (cxH CX P w K mg base N qual scope f cdv A outer s H E p) [] (L2.start N vs) H s1 := inv_startH S pin env (len _ _ _ _ _ _ _ want) vals made
    exact wpAny_mono (reads.run [] s1 _ _ _ start goal) (fun fl _ h => by
      have z := bodyEnd h
      cases fl <;> exact z) fun _ _ h => h
section
variable {X : Cx} {k : Nat} {f a : Addr} {oe : Obj} {pn : List (Addr × Obj)} {cls : Value} {d : Option Addr} {fd : FuncData} {ps : List Str} {sp : SpE} {x : Str} {q pos : Pos} {e : Expr} {es : List Expr} {t : TA}
theorem hot_of {A : Around} (hz : L2N.Zn cls d oe) (hf : ∃ vs, oe.data = .fields vs) : Hot1 (A.mark (some (.ref a))) (a, oe) :=
  hf.elim fun vs hv => ⟨rfl, vs, hv, hz.2.2 vs hv⟩
/-- f(.., e, ..) in the suite -/
def tClE (a : Addr) (cls : Value) (d : Option Addr) (sp : SpE) (t : TA) : TE := fun σ H Q => t σ H fun vs H1 => sp a cls d vs H1 Q fun _ _ _ => False
theorem c_clE {σ : St} {H : Hp} {Q : VK} (h : t σ H fun vs H1 => sp a cls d vs H1 Q fun _ _ _ => False) : tClE a cls d sp t σ H Q := h
/-- the def called, nothing let out of it -/
theorem run_clE (F : FnE X.prog X.w X.K X.mg X.base (L2N.CX X.prog X.w) k f fd ps sp) (hr : RoomH k X.A) (hz : L2N.Zn cls d oe) (hf : ∃ vs, oe.data = .fields vs) (hb : Binds X.K fd ps []) {pins : List (Addr × Obj)} {σ : St} {s : Shared} {H : Hp} {Q : VK} {us : List Value} {vs : List V}
    (I : Inv (X.suite a ((a, oe) :: pn)) pins σ H s) (r : Vals vs us) (h : sp a cls d vs H Q fun _ _ _ => False) : wpAny (model X.prog X.w) (X.suite a ((a, oe) :: pn)).A (call (.ref f) us) (EP (X.suite a ((a, oe) :: pn)) pins σ Q) (X.suite a ((a, oe) :: pn)).xe s := by
  have many : us.length = ps.length := r.length ▸ F.len _ _ _ _ _ _ _ h
  have bound := hb s us I.kIn (by simpa using many)
  rw [List.append_nil] at bound
  obtain ⟨g1, g2, g3, g4, g5⟩ := I.pin (a, oe) (List.mem_append_left _ (.head _))
  have away : a ∉ frs (X.suite a ((a, oe) :: pn)).stack := fun hm => by
    rcases List.mem_cons.mp (I.stkSub a hm) with z | z
    · exact g3 z
    · exact g4 z
  have ran := F.run (X.suite a ((a, oe) :: pn)).A (X.suite a ((a, oe) :: pn)).stack s H ⟨us, []⟩ us vs Q (fun _ _ _ => False) (a, oe) cls d ⟨hr.dp, hr.un⟩ (hot_of hz hf) hz ⟨g1, g2, away, g5⟩ I.env0 bound r h
  refine wpAny_call (codeAny_mono ran ?_)
  intro res s' got
  match res, got with
  | .error _, got =>
    obtain ⟨_, _, _, _, _, _, _, _, _, _, _, _, z⟩ := got
    exact z.elim
  | .ok (.ret _), got => exact I.after got
theorem pe_clE (F : FnE X.prog X.w X.K X.mg X.base (L2N.CX X.prog X.w) k f fd ps sp) (hr : RoomH k X.A) (hz : L2N.Zn cls d oe) (hf : ∃ vs, oe.data = .fields vs) (hg : Gl (X.suite a ((a, oe) :: pn)) x) (hm : X.mg x = some (.ref f)) (hk : PySem.W.keepIn X.K (.ref f) = true) (hb : Binds X.K fd ps [])
    (ha : PA (X.suite a ((a, oe) :: pn)) (e :: es) t) (hdb : (x == ("__debug__" : Str)) = false := by decide) (he : starEach (e :: es) X.env = (false, eval e X.env) :: starEach es X.env := by rfl) (hpl : (backTo pos (starEach es X.env)).any (·.1) = false := by rfl) :
    PE (X.suite a ((a, oe) :: pn)) (.Call (.Name x q) (e :: es) [] pos) (tClE a cls d sp t) where
  run := fun pins s σ H Q I h => wpAny_Call_Name_kw (ld_glob I hg hm (PySem.W.callWith_K (h₀ := X.base) I.ok.mod.kin hk
    (thn (ha.run pos pins s σ H _ I h) fun _ s1 z => z.elim fun vs z => z.elim fun H1 z => ⟨z.1.kIn, run_clE F hr hz hf hb z.1 z.2.1 z.2.2⟩) he hpl) hdb)
/-- isinstance(e, c) in the def -/
theorem call_isP {X : Cx} {p : Addr × Obj} {cls : Value} {d : Option Addr} (hp : p ∈ X.pn) (hz : Zc cls d p.2) (hf : ∃ vs, p.2.data = .fields vs) : CallR X (.builtin "isinstance") (rIsX X.K p.1 cls d) := by
  rintro pins s σ H xs us Q I r ⟨D, c, cv, b, rfl, rfl, C, rfl, hcv, e, q⟩
  match us, r with
  | [_, _], .cons rfl (.cons rt .nil) =>
    rw [hcv _ rt]
    have there := (I.pin p (List.mem_append_left _ hp)).1
    have J : PySem.W.InstAt s.heap p.1 p.2 D none := by
      obtain ⟨vs, hv⟩ := hf
      obtain ⟨pa, ⟨_, _, _, _⟩⟩ := p
      obtain ⟨h1, h2⟩ := hz
      dsimp only at h1 h2 hv
      subst h1 h2 hv
      exact ⟨there, rfl, rfl, trivial⟩
    exact PySem.W.kia_one (PySem.W.handS_kitx_exc C.hg C.hk C.hs C.hd C.ha C.hn C.ht C.hm) I.kIn J e (fun z => nomatch z) fun tk => ⟨.bl b, H, I.kept (t' := tk) fun _ _ z => z, rfl, q⟩
theorem hot_fields {A : Around} {p : Addr × Obj} (h : Hot1 A p) : ∃ vs, p.2.data = .fields vs := h.2.elim fun vs z => ⟨vs, z.1⟩
end
end L2.BP
namespace L2.BP
open PySem PySem.Spec PyProof.Rows HotX L2H
/-! ### name = [.. for .. in a list ..], where an exception is handled -/
section
variable {prog : Program} {w : World} {A : Around} {E : Value → Shared → Prop} {s : Shared}
/-- a list's iterator at its end: the StopIteration that is made there has the handled one for its context -/
theorem endHot {it l e1 : Addr} {n : Nat} {xs : Array Value} {Q : Option Value → Shared → Prop} (hot : HotAt A e1 s.heap) (ne : it ≠ e1) (at_ : s.heap.IsListIter it l n) (lst : s.heap.IsList l xs) (out : xs[n]? = none)
    (k : ∀ h', (∀ b o, b ≠ it → s.heap.get? b = some o → h'.get? b = some o) → Q none { s with heap := h' }) : wpAny (model prog w) A (pyNext (.ref it)) Q E s := by
  obtain ⟨held, ox, fields, there, data, ctx⟩ := hot
  obtain ⟨oi, geti, _, di⟩ := id at_
  obtain ⟨ol, getl, _, _, dl⟩ := lst
  have kept : ∀ {b : Addr} {o : Obj} {f : Obj → Obj} {u v : Obj}, b ≠ it → s.heap.get? b = some o → (((s.heap.update it f).push u).push v).get? b = some o := by
    intro b o f u v hb e
    apply Heap.get?_push_of_some
    apply Heap.get?_push_of_some
    rw [Heap.get?_update_other _ _ hb.symm]
    exact e
  unfold pyNext
  apply wpAny_bind
  apply wpAny_attempt
  apply wpAny_callSpecial?_slot (name := Str.ofString "__next__") at_.typeIs slot_listiter_next
  refine wpAny_call_entry slot_listiter_next at_.typeIs entry_listiter_next ?_ (args_listiter_next _)
  change wpAny _ _ (field (.ref it) 0 >>= _) _ _ s
  apply wpAny_bind
  refine wpAny_field geti di (x := .ref l) rfl ?_
  change wpAny _ _ (if (Value.ref l == Value.none) = true then _ else _) _ _ s
  rw [if_neg (by exact Bool.false_ne_true)]
  change wpAny _ _ (field (.ref it) 1 >>= _) _ _ s
  apply wpAny_bind
  refine wpAny_field geti di (x := .int n 0) rfl ?_
  change wpAny _ _ (seqItems? (.ref l) >>= _) _ _ s
  apply wpAny_bind
  apply wpAny_seqItems getl dl
  simp only [Int.toNat_natCast, out]
  apply wpAny_bind
  apply wpAny_rule
  apply wpAny_bind
  refine wpAny_setField geti di (by simp) ?_
  change wpAny _ _ (newExc (.type "StopIteration") [] >>= _) _ _ _
  apply wpAny_bind
  simp only [newExc, newTuple]
  apply wpAny_bind
  refine wpAny_newObj_type ?_ (by size_fits)
  apply wpAny_bind (m := firstArgMember _ _)
  refine wpAny_of_eq (a := Value.none) (by first | rfl | (simp only [firstArgMember]; rfl)) ?_
  refine wpAny_newObj_type ?_ (by size_fits)
  refine raiseNew_hot ⟨held, ox, fields, kept ne.symm there, data, ctx⟩ (Nat.ne_of_lt (Heap.lt_size (Heap.get?_push_of_some _ (by rw [Heap.get?_update_other _ _ ne]; exact there)))) (Heap.get?_push_size _ rfl) rfl (by first | (simp; done) | (simp; omega) | (simp only [Array.size_append]; simp; omega)) ?_
  apply wpAny_bind
  refine wpAny_isInstance (T := "StopIteration") (b := true) ⟨_, Heap.get?_update_self _ (Heap.get?_push_size _ rfl) rfl, rfl⟩ isSubtype_stop ?_
  refine wpAny_pure (k _ fun b o hb e => ?_)
  rw [Heap.get?_update_other _ _ (Nat.ne_of_gt (Heap.lt_size (Heap.get?_push_of_some _ (by rw [Heap.get?_update_other _ _ hb.symm]; exact e))))]
  exact kept hb e
/-- a tuple's iterator at its end -/
theorem endTupHot {it l e1 : Addr} {n : Nat} {xs : Array Value} {Q : Option Value → Shared → Prop} (hot : HotAt A e1 s.heap) (ne : it ≠ e1) (at_ : s.heap.IsTupleIter it l n) (lst : s.heap.IsTuple l xs) (out : xs[n]? = none)
    (k : ∀ h', (∀ b o, b ≠ it → s.heap.get? b = some o → h'.get? b = some o) → Q none { s with heap := h' }) : wpAny (model prog w) A (pyNext (.ref it)) Q E s := by
  obtain ⟨held, ox, fields, there, data, ctx⟩ := hot
  obtain ⟨oi, geti, _, di⟩ := id at_
  obtain ⟨ol, getl, _, _, dl⟩ := lst
  have kept : ∀ {b : Addr} {o : Obj} {f : Obj → Obj} {u v : Obj}, b ≠ it → s.heap.get? b = some o → (((s.heap.update it f).push u).push v).get? b = some o := by
    intro b o f u v hb e
    apply Heap.get?_push_of_some
    apply Heap.get?_push_of_some
    rw [Heap.get?_update_other _ _ hb.symm]
    exact e
  unfold pyNext
  apply wpAny_bind
  apply wpAny_attempt
  apply wpAny_callSpecial?_slot (name := Str.ofString "__next__") at_.typeIs F.slot_tuple_iterator_next
  refine wpAny_call_entry F.slot_tuple_iterator_next at_.typeIs F.entry_tuple_iterator_next ?_ (F.args_tuple_iterator_next_1 _)
  change wpAny _ _ (field (.ref it) 0 >>= _) _ _ s
  apply wpAny_bind
  refine wpAny_field geti di (x := .ref l) rfl ?_
  change wpAny _ _ (if (Value.ref l == Value.none) = true then _ else _) _ _ s
  rw [if_neg (by exact Bool.false_ne_true)]
  change wpAny _ _ (field (.ref it) 1 >>= _) _ _ s
  apply wpAny_bind
  refine wpAny_field geti di (x := .int n 0) rfl ?_
  change wpAny _ _ (seqItems? (.ref l) >>= _) _ _ s
  apply wpAny_bind
  apply wpAny_seqItems getl dl
  simp only [Int.toNat_natCast, out]
  apply wpAny_bind
  apply wpAny_rule
  apply wpAny_bind
  refine wpAny_setField geti di (by simp) ?_
  change wpAny _ _ (newExc (.type "StopIteration") [] >>= _) _ _ _
  apply wpAny_bind
  simp only [newExc, newTuple]
  apply wpAny_bind
  refine wpAny_newObj_type ?_ (by size_fits)
  apply wpAny_bind (m := firstArgMember _ _)
  refine wpAny_of_eq (a := Value.none) (by first | rfl | (simp only [firstArgMember]; rfl)) ?_
  refine wpAny_newObj_type ?_ (by size_fits)
  refine raiseNew_hot ⟨held, ox, fields, kept ne.symm there, data, ctx⟩ (Nat.ne_of_lt (Heap.lt_size (Heap.get?_push_of_some _ (by rw [Heap.get?_update_other _ _ ne]; exact there)))) (Heap.get?_push_size _ rfl) rfl (by first | (simp; done) | (simp; omega) | (simp only [Array.size_append]; simp; omega)) ?_
  apply wpAny_bind
  refine wpAny_isInstance (T := "StopIteration") (b := true) ⟨_, Heap.get?_update_self _ (Heap.get?_push_size _ rfl) rfl, rfl⟩ isSubtype_stop ?_
  refine wpAny_pure (k _ fun b o hb e => ?_)
  rw [Heap.get?_update_other _ _ (Nat.ne_of_gt (Heap.lt_size (Heap.get?_push_of_some _ (by rw [Heap.get?_update_other _ _ hb.symm]; exact e))))]
  exact kept hb e
/-- (a, b, ..) = a tuple -/
theorem tupHot {env : Env} {elts : List Expr} {k1 : Nat} {pos : Pos} {t e1 : Addr} {items : Array Value} {Q : Unit → Shared → Prop} (hot : HotAt A e1 s.heap) (ht : s.heap.IsTuple t items) (hn : (assignEach elts env).length = items.size) (hstar : (assignEach elts env).findIdx? (·.1) = none)
    (h : ∀ h', (∀ b o, b ≠ s.heap.objs.size → s.heap.get? b = some o → h'.get? b = some o) → wpAny (model prog w) A (assignInOrder ((assignEach elts env).map (·.2)) items.toList) Q E { s with heap := h' }) : wpAny (model prog w) A (assign (.Tuple elts k1 pos) env (.ref t)) Q E s := by
  have old : t ≠ s.heap.objs.size := by
    obtain ⟨o, e, _⟩ := ht
    exact Nat.ne_of_lt (Heap.lt_size e)
  obtain ⟨held, ox, fields, there, data, ctx⟩ := hot
  have ne : s.heap.objs.size ≠ e1 := Nat.ne_of_gt (Heap.lt_size there)
  rw [arm_assign_Tuple]
  apply wpAny_bind
  apply wpAny_standAt
  unfold unpack
  rw [hn, hstar]
  apply wpAny_bind
  apply wpAny_holding
  unfold unpackItems
  apply wpAny_bind
  unfold notIterableAtAll
  apply wpAny_bind
  apply wpAny_specialOf ht.typeIs F.slot_tuple_iter.lookup
  apply wpAny_pure
  simp only [Bool.false_eq_true, if_false]
  apply wpAny_bind
  apply wpAny_holding
  apply wpAny_pyIter_tuple ht
  apply wpAny_bind
  apply wpAny_holding
  refine wpAny_draw_tuple old items.size 0 _ _ ⟨_, Heap.get?_push_size _ rfl, rfl, rfl⟩ (ht.push _) (by omega) fun h1 at1 but1 => ?_
  rw [List.drop_zero, List.take_of_length_le (by simp), if_neg (by simp)]
  apply wpAny_bind
  apply wpAny_holding
  have keep1 : ∀ b o, b ≠ s.heap.objs.size → s.heap.get? b = some o → h1.get? b = some o := fun b o hb e => but1.extBut b o hb (Heap.get?_push_of_some _ e)
  refine endTupHot (s := { s with heap := h1 }) (e1 := e1) ⟨held, ox, fields, keep1 _ _ ne.symm there, data, ctx⟩ ne at1 ((ht.push _).extBut but1.extBut old) (by simp) fun h2 keep2 => ?_
  simp only [Option.isSome_none, Bool.false_eq_true, if_false]
  exact wpAny_pure (h h2 fun b o hb e => keep2 b o hb (keep1 b o hb e))
end
/-- a target, the handled exception being pinned -/
structure PGH (X : Cx) (p : Addr × Obj) (tg : Expr) (g : TG) : Prop where
  run : ∀ (pins : List (Addr × Obj)) (s : Shared) (σ : St) (H : Hp) (v : V) (u : Value) (Q : St → Hp → Prop), p ∈ X.pn ++ pins → Inv X pins σ H s → RelV v u → g v σ H Q → wpAny (model X.prog X.w) X.A (assign tg X.env u) (fun _ s' => ∃ σ' H', Inv X pins σ' H' s' ∧ Q σ' H') X.xe s
theorem PGH.of {X : Cx} {p : Addr × Obj} {tg : Expr} {g : TG} (h : PG X tg g) : PGH X p tg g := ⟨fun pins s σ H v u Q _ I r k => h.run pins s σ H v u Q I r k⟩
theorem pg_tupH {X : Cx} {p : Addr × Obj} {es : List Expr} {k n : Nat} {pos : Pos} {t : TGs} (hot : Hot1 X.A p) (h : PGs X es t) (hn : (assignEach es X.env).length = n := by rfl) (hst : (assignEach es X.env).findIdx? (·.1) = none := by rfl) : PGH X p (.Tuple es k pos) (gTup X.K n t) where
  run := by
    rintro pins s σ H v u Q hp I r ⟨a, xs, rfl, hq, hl, more⟩
    cases r
    obtain ⟨its, rv, ht, hz⟩ := I.tuple hq
    obtain ⟨hh, v1, e1, c1⟩ := hot
    refine tupHot (e1 := p.1) ⟨hh, p.2, v1, (I.pin p hp).1, e1, c1⟩ (show s.heap.IsTuple a its.toArray from ht) (by simp [hn, ← hl, rv.length]) hst fun h' keep => ?_
    exact h.run pins _ σ H xs _ Q (I.kept (t' := s.toks) fun b o e => keep b o (Nat.ne_of_lt (Heap.lt_size e)) e) (by simpa using rv) more
section
variable {B : Cx} {tg : Expr} {a it : Addr} {pins : List (Addr × Obj)} {s : Shared} {ρ : St} {H : Hp} {E : Value → Shared → Prop} {p : Addr × Obj}
/-- how the loop over the list at a stands, n turns at most to come -/
def HotLp (B : Cx) (p : Addr × Obj) (it a : Addr) (ρ : St) (W : Nat → Nat → Hp → Prop) (n : Nat) (s : Shared) : Prop := ∃ i H, Inv B [p] ρ H s ∧ s.heap.IsListIter it a i ∧ H it = none ∧ W i n H
theorem fpHot (ex : B.ex = [it]) (pn : B.pn = []) (ne : it ≠ p.1) (I : Inv B [p] ρ H s) (free : H it = none) : FpOk B [p] H it := by
  have mem : it ∈ B.ex := by rw [ex]; exact .head _
  obtain ⟨z1, z2⟩ := I.ok.exf it mem
  refine ⟨free, z1, I.ok.exfs it mem, .inl mem, z2, fun q hq => ?_⟩
  rw [pn] at hq
  rw [List.mem_singleton.mp (show q ∈ [p] from hq)]
  exact ne.symm
theorem turnHot {R : Result → Shared → Prop} {NB : Value → Shared → Prop} {elt : Expr} {ifs : List Expr} {σ : St} {vs : List Nat} {D : Addr} {W : Nat → Nat → Hp → Prop} {g : TG} {tt : TT} {te : TE} {P : Hp → Prop} {n : Nat}
    (hot : Hot1 B.A p) (ex : B.ex = [it]) (pn : B.pn = []) (xe : B.xe = fun _ _ => False) (ne : it ≠ p.1) (hρ : ρ = wipe σ vs) (pg : PGH B p tg g) (pt : PTs B ifs tt) (pe : PE B elt te)
    (leave : ∀ s' H', Inv B [p] ρ H' s' → P H' → R (.ok .next) s')
    (turns : ∀ i m H, W i m H → ((Itl B.K a).stop i H ∧ P H) ∨ ((Itl B.K a).go i H ∧ ∃ Nx : Hp → Prop, (∀ H', Nx H' → ∃ m', m' < m ∧ W (i + 1) m' H') ∧ ∀ x H', (Itl B.K a).yld i H x H' → g x (wipe σ vs) H' fun σ2 H2 => wipe σ2 vs = wipe σ vs ∧ tt σ2 H2 fun b H3 =>
      if b = true then te σ2 H3 fun y H4 => ∃ acc, H4 D = some (.lst acc) ∧ acc.length < sizeLine ∧ Nx (upd H4 D (.lst (acc ++ [y]))) else Nx H3))
    (st : HotLp B p it a ρ W n s) :
    wpAny (model B.prog B.w) B.A (pyNext (.ref it)) (fun r s₁ => match r with
      | none => R (.ok .next) s₁
      | some v => wpAny (model B.prog B.w) B.A (letOwnedTupleGo tg (.ref it) v) (fun _ s₁' => wpAny (model B.prog B.w) B.A (assign tg B.env v) (fun _ s₂ =>
          wpAny (model B.prog B.w) B.A (forIn ifs true fun c r => if r = true then do let ok ← isTrue c B.env (eval c B.env); pure (ForInStep.yield ok) else pure (ForInStep.yield r)) (fun ok s₃ =>
            if ok = true then wpAny (model B.prog B.w) B.A (eval elt B.env) (fun x s₄ =>
              wpAny (model B.prog B.w) B.A (call (.builtin "list.append") [.ref D, x]) (fun _ s₅ => ∃ m, m < n ∧ HotLp B p it a ρ W m s₅) NB s₄) NB s₃
            else ∃ m, m < n ∧ HotLp B p it a ρ W m s₃) NB s₂) NB s₁') NB s₁) NB s := by
  obtain ⟨i, H0, I0, li, fr, w0⟩ := st
  have fp := fpHot ex pn ne I0 fr
  obtain ⟨f0, f1, f2, f3, f4, f5⟩ := id fp
  rcases turns i n H0 w0 with ⟨⟨xs, hq, hx⟩, fin⟩ | ⟨⟨xs, x, hq, hx⟩, Nx, down, step⟩
  · obtain ⟨its, rv, q, _⟩ := I0.list hq
    have many := rv.length
    obtain ⟨hh, v1, e1, c1⟩ := hot
    exact endHot (e1 := p.1) ⟨hh, p.2, v1, (I0.pin p (List.mem_append_right _ (.head _))).1, e1, c1⟩ ne li q.isList (by simp; omega) fun h' kept => leave _ H0 (I0.turned (t' := s.toks) (fun b o hb e => kept b o hb e) f0 f1 f3 f4 f5) fin
  · obtain ⟨its, rv, q, _⟩ := I0.list hq
    obtain ⟨u, hu, ru⟩ := rv.get hx
    refine wpAny_pyNext_list_item li q.isList (x := u) (by simpa using hu) fun h1 li1 but => ?_
    obtain ⟨oi, ei, ci, di⟩ := id li1
    have I1 : Inv B [p] ρ H0 { s with heap := h1 } := I0.turned (t' := s.toks) (fun b o hb e => (but.2 b hb).trans e) f0 f1 f3 f4 f5
    refine go_of (s := { s with heap := h1 }) ei ci di (by decide) ?_
    have J1 := I1.pinned (fp := [it]) (fun b hb => by rw [List.mem_singleton.mp hb]; exact fp) fun b hb => by
      rw [List.mem_singleton.mp hb]
      exact ⟨oi, ei, fun v z => by rw [di] at z; cases z⟩
    have err : ∀ {α : Type} {t : Sem α} {Q Q' : α → Shared → Prop} {s' : Shared}, wpAny (model B.prog B.w) B.A t Q B.xe s' → (∀ r s'', Q r s'' → Q' r s'') → wpAny (model B.prog B.w) B.A t Q' NB s' := by
      intro α t Q Q' s' h hQ
      rw [xe] at h
      exact wpAny_mono h hQ fun _ _ z => z.elim
    subst hρ
    have yes : (Itl B.K a).yld i H0 x H0 := ⟨rfl, fun ys hy => by rw [I0.list_inj hy hq]; exact hx⟩
    refine err (pg.run _ _ _ H0 x u _ (List.mem_append_right _ (.head _)) J1 ru (step x H0 yes)) ?_
    rintro - s2 ⟨σ2, H2, I2, same, q2⟩
    refine err (pt.run _ s2 σ2 H2 _ I2 q2) ?_
    rintro b s3 ⟨H3, I3, q3⟩
    have again : ∀ s' H', Inv B ([p] ++ pinsAt [it] h1) σ2 H' s' → Nx H' → ∃ m, m < n ∧ HotLp B p it a (wipe σ vs) W m s' := by
      intro s' H' I' nx
      obtain ⟨m, hm, w'⟩ := down H' nx
      have stays := I'.pin (it, oi) (List.mem_append_right _ (List.mem_append_right _ (mem_pinsAt (.head _) ei)))
      refine ⟨m, hm, i + 1, H', (I'.unpinned (pins := [p])).weak ?_ ?_, li1.at fun o e => ?_, stays.2.1, w'⟩
      · rw [← same, wipe_length]
      · intro j v e
        rw [← same] at e
        exact (wipe_some e).1
      · rw [ei] at e
        cases e
        exact stays.1
    cases b with
    | false => exact again s3 H3 I3 (by simpa using q3)
    | true =>
      refine err (pe.run _ s3 σ2 H3 _ I3 (by simpa using q3)) ?_
      rintro z s4 ⟨y, H4, I4, ry, acc, hD, hz, nx⟩
      exact app_ok (X := B) I4 hD hz ry fun s5 I5 => again s5 _ I5 nx
end
end L2.BP
namespace L2.BP
open PySem PySem.Spec PyProof.Rows HotX L2H
section
variable {X : Cx}
/-- a list's iterator, fresh -/
theorem iterHot {iter : Expr} {tl : TE} (hl : PE X iter tl) {pins : List (Addr × Obj)} {s : Shared} {σ : St} {H : Hp} {R : It → Hp → Prop} (I : Inv X pins σ H s) (h : iList X.K tl σ H R) :
    wpAny (model X.prog X.w) X.A (eval iter X.env) (fun v s1 => wpAny (model X.prog X.w) X.A (pyIter v) (fun v2 s2 => ∃ (it a : Addr) (H' : Hp), v2 = .ref it ∧ Inv X pins σ H' s2 ∧ s2.heap.IsListIter it a 0 ∧ FpOk X pins H' it ∧ R (Itl X.K a) H') X.xe s1) X.xe s := by
  apply thn (hl.run pins s σ H _ I h)
  rintro v s1 ⟨_, H1, I1, rel, a, rfl, ⟨xs, sq⟩, more⟩
  cases rel
  obtain ⟨its, _, q, _⟩ := I1.list sq
  apply wpAny_pyIter_list q.isList
  exact ⟨_, a, H1, rfl, I1.kept (t' := s1.toks) fun b o e => Heap.get?_push_of_some _ e, ⟨_, Heap.get?_push_size _ rfl, rfl, rfl⟩, I1.fpOk (Nat.le_refl _) (I1.hok.fresh (Nat.le_refl _)), more⟩
theorem ps_setHot {i : Nat} {y : Str} {py : Pos} {elt tg iter : Expr} {ifs : List Expr} {scope : Scope} {own : List (Str × Nat)} {pos spos : Pos} {tl : TE} {g : TG} {tt : TT} {te : TE} {p : Addr × Obj} (hot : Hot1 X.A p) (hp : p ∈ X.pn) (hN : X.N.Nodup) (hy : X.N[i]? = some y) (hyl : X.env.scope.names.lookup y = some .local)
    (hsw : swapsWith (.ListComp elt [⟨tg, iter, ifs, 0⟩] scope pos) (some (.Name y py)) spos.line X.env = pure true) (hi : PE X iter tl) (ok : BlkOk X.N X.env.scope scope own)
    (hg : ∀ (s : Shared) (H : Hp) (C : Addr) (cl : List (Str × Addr)) (fp : List Addr), PGH (X.blk s H scope (compEnvC scope cl C X.env) fp) p tg g) (ht : ∀ (s : Shared) (H : Hp) (C : Addr) (cl : List (Str × Addr)) (fp : List Addr), PTs (X.blk s H scope (compEnvC scope cl C X.env) fp) ifs tt)
    (he : ∀ (s : Shared) (H : Hp) (C : Addr) (cl : List (Str × Addr)) (fp : List Addr), PE (X.blk s H scope (compEnvC scope cl C X.env) fp) elt te) (hs : ∀ x, foldedSetIterable iter X.env x = pure x := by intro _; rfl) :
    PS X (.Assign [.Name y py] (.ListComp elt [⟨tg, iter, ifs, 0⟩] scope pos) spos) (tAsg (tLc (iList X.K tl) g tt te (own.map (·.2))) (gName i)) := by
  constructor
  intro pins s σ H D I want
  have want : tLc (iList X.K tl) g tt te (own.map (·.2)) σ H (fun x H1 => gName i x σ H1 D.nx) := want
  have closed : ∀ z ∈ scope.names, z.2 = .free → ∃ c, X.env.cells.lookup z.1 = some c := fun z hz e => (ok.free z hz e).elim (fun k => I.ok.has _ (.inl k)) fun k => I.ok.has _ (.inr k)
  rw [exec_Assign_Name_used _ _ _ _ hsw]
  apply wpAny_bind
  apply wpAny_standAt
  apply wpAny_bind
  change wpAny _ X.A (do let _ ← comprehension (.ListComp elt [⟨tg, iter, ifs, 0⟩] scope pos) scope X.env (firstIterPos [⟨tg, iter, ifs, 0⟩] pos) (newList []) false (eval iter X.env) (some (assign (.Name y py) X.env))) _ _ s
  apply wpAny_bind
  refine thn (Q := fun _ s' => SP X pins D .next s') ?_ fun _ s' done => wpAny_pure (wpAny_pure done)
  refine wpAny_comprehension_free (use := some (assign (.Name y py) X.env)) rfl hs (closure_ok closed) ok.kind (fun z hz e => by rw [ok.uniq z hz, e]) (thn (iterHot hi I want) fun v s1 hv => thn hv ?_)
  rintro v2 s2 ⟨it, a, H2, rfl, I2, li2, fit, make⟩
  obtain ⟨W, ⟨m0, w0⟩, turns⟩ := make s2.heap.objs.size (I2.hok.fresh (Nat.le_refl _))
  have itIn : it < s2.heap.objs.size := by
    obtain ⟨o, e, _⟩ := li2
    exact Heap.lt_size e
  refine wpAny_newObj_type (newEnv_comp ?_) (Nat.zero_le sizeLine)
  -- the new list
  generalize eD : s2.heap.objs.size = L at w0 turns itIn ⊢
  generalize es3 : ({ s2 with heap := s2.heap.push { cls := .type "list", data := .seq ([] : List Value).toArray } } : Shared) = s3
  have grow3 : ∀ b o, s2.heap.get? b = some o → s3.heap.get? b = some o := fun b o e => by
    rw [← es3]
    exact Heap.get?_push_of_some _ e
  have I3 : Inv X pins σ (upd H2 L (.lst [])) s3 := by
    rw [← es3]
    refine I2.laid (t' := s2.toks) (fun b o e => Heap.get?_push_of_some _ e) (Nat.le_of_eq eD) ⟨Nat.zero_le _, [], 0, .nil, ?_⟩
    rw [← eD]
    exact Heap.get?_push_size _ rfl
  have free3 : upd H2 L (.lst []) it = none := by
    rw [upd_ne (Nat.ne_of_lt itIn)]
    exact fit.1
  generalize upd H2 L (.lst []) = H3 at w0 I3 free3
  have itIn3 : it < s3.heap.objs.size := by
    obtain ⟨o, e, _⟩ := li2
    exact Heap.lt_size (grow3 _ _ e)
  have fit3 : FpOk X pins H3 it := ⟨free3, fit.2⟩
  have P3 := I3.pin p (List.mem_append_left _ hp)
  have ne : it ≠ p.1 := fun z => fit.2.2.2.2.2 p (List.mem_append_left _ hp) z.symm
  -- the block
  have I4 := block_start (fp := [it]) I3 ok hN fun b hb => by
    rw [List.mem_singleton.mp hb]
    exact ⟨fit3, itIn3⟩
  have pg := hg s3 H3 s3.heap.objs.size (cellsFrom (s3.heap.objs.size + 1) scope.names (cloFrom X.env.cells scope.names [])) [it]
  have pt := ht s3 H3 s3.heap.objs.size (cellsFrom (s3.heap.objs.size + 1) scope.names (cloFrom X.env.cells scope.names [])) [it]
  have pe := he s3 H3 s3.heap.objs.size (cellsFrom (s3.heap.objs.size + 1) scope.names (cloFrom X.env.cells scope.names [])) [it]
  change codeAny _ _ (.compStart (.ListComp elt [⟨tg, iter, ifs, 0⟩] scope pos) 0 (.ref it) (.ref L) (compEnvC scope (cellsFrom (s3.heap.objs.size + 1) scope.names (cloFrom X.env.cells scope.names [])) s3.heap.objs.size X.env)) (compPost (model X.prog X.w) X.A X.xe (some (assign (.Name y py) X.env)) (fun _ s' => SP X pins D .next s') (.ref L) s3.heap.objs.size) { s3 with heap := pushCells (s3.heap.push { cls := .type "dict", data := .dict #[] }) scope.names }
  generalize ece : compEnvC scope (cellsFrom (s3.heap.objs.size + 1) scope.names (cloFrom X.env.cells scope.names [])) s3.heap.objs.size X.env = ce at I4 pg pt pe ⊢
  have locs : ce.locals = s3.heap.objs.size := by
    subst ece
    rfl
  have grow4 : ∀ b o, s3.heap.get? b = some o → (pushCells (s3.heap.push { cls := .type "dict", data := .dict #[] }) scope.names).get? b = some o := fun b o e => pushCells_keeps _ _ _ _ (Heap.get?_push_of_some _ e)
  have I5 := I4.pins_of (pins' := [p]) fun q hq => by
    rw [List.mem_singleton.mp hq]
    refine ⟨grow4 _ _ P3.1, P3.2.1, ?_, ?_, P3.2.2.2.2⟩
    · change p.1 ≠ ce.locals
      rw [locs]
      exact Nat.ne_of_lt (Heap.lt_size P3.1)
    · intro z
      rcases List.mem_cons.mp (I3.stkSub _ z) with z | z
      · exact P3.2.2.1 z
      · exact P3.2.2.2.1 z
  have li4 : (pushCells (s3.heap.push { cls := .type "dict", data := .dict #[] }) scope.names).IsListIter it a 0 := li2.at fun o e => grow4 _ _ (grow3 _ _ e)
  generalize es4 : ({ s3 with heap := pushCells (s3.heap.push { cls := .type "dict", data := .dict #[] }) scope.names } : Shared) = s4 at I5 ⊢
  have li4 : s4.heap.IsListIter it a 0 := by
    rw [← es4]
    exact li4
  have loop : codeAny (model X.prog X.w) X.A (.compLoop (.ListComp elt [⟨tg, iter, ifs, 0⟩] scope pos) 0 (.ref it) (.ref L) ce) (compPost (model X.prog X.w) X.A X.xe (some (assign (.Name y py) X.env)) (fun _ s' => SP X pins D .next s') (.ref L) s3.heap.objs.size) s4 := by
    refine compLoop_any (HotLp (X.blk s3 H3 scope ce [it]) p it a (wipe σ (own.map (·.2))) W) (fun n s5 st => ?_) m0 ⟨0, H3, I5, li4, free3, w0⟩
    refine turnHot (B := X.blk s3 H3 scope ce [it]) (σ := σ) (vs := own.map (·.2)) hot rfl rfl rfl ne rfl pg pt pe ?_ turns st
    -- behind the last turn: the name is bound
    intro s6 H6 I6 q
    have back : Inv X pins σ H6 s6 := I3.call' (ch := [it]) I6.os I6.base I6.hok I6.bare fun b hb => by
      rw [List.mem_singleton.mp hb]
      exact ⟨fit3.2.2.2.1, fit3.2.1, fit3.2.2.2.2.1, fit3.2.2.2.2.2⟩
    have clear : H6 s3.heap.objs.size = none := by
      have z : H6 ce.locals = none := I6.free
      rw [locs] at z
      exact z
    obtain ⟨m, names, _⟩ := I6.loc
    have names : s6.heap.Ns ce.locals m := names
    rw [locs] at names
    obtain ⟨f0, f1, f2, f3, f4, f5⟩ := I3.fpOk (H' := H6) (Nat.le_refl _) clear
    change wpAny _ _ (assign (.Name y py) X.env (.ref L)) _ _ _
    refine wpAny_assign_Name (store_ok2 (v := V.ref L) back hN hy (.inl hyl) rfl ?_ (.inr hyl))
    rintro s7 I7 ⟨c, but, place⟩
    have apart : s3.heap.objs.size ≠ c := by
      rcases place with z | z
      · rw [z]
        exact f1
      · exact fun e => f4 y c z e.symm
    exact ⟨m, names.sameBut but apart, fun h8 but8 => ⟨_, H6, I7.turned (t' := s7.toks) (fun b o hb e => (but8.2 b hb).trans e) f0 f1 f3 f4 f5, q⟩⟩
  exact codeAny_compStart_list loop (wpAny_pyIter_listiter li4 loop)
end
end L2.BP
namespace L2.BP
open PySem PySem.Spec PyProof.Rows
theorem noneBack {H B : Hp} {p : Addr} (s : Same H B) (h : B p = none) : H p = none := by
  cases e : H p with
  | none => rfl
  | some u =>
    have z := s _ _ e
    rw [h] at z
    cases z
end L2.BP
namespace L2.BP
open PySem PySem.Spec PyProof.Rows HotX L2H
/-! ### defs called in a suite that don't look at the exception -/
theorem FunD.okH {P : Program} {w : World} {K : PySem.W.Frag} {mg : Str → Option Value} {base : Heap} {x qual : Str} {params : Arguments} {body : List Stmt} {scope : Scope} {dvs : List V} {kws : List (Str × V)} {f : Addr} {fd : FuncData} {CX : CXT} {N ps : List Str} {k : Nat} {sp : Sp} (F : FunD K x qual params body scope dvs kws f fd) (S : FnScope N ps scope) (len : ∀ vs H Q E, sp vs H Q E → vs.length = ps.length)
    (hbody : ∀ (cdv : Value) (A : Around) (outer : List Env) (s : Shared) (H : Hp) (vs : List V) (Q : VK) (E : XK) (p : Addr × Obj), Hot1 A p → RoomH k (A.deeper (envOfC qual scope s.heap.objs.size f cdv)) → sp vs H Q E →
      ∃ t, PSs (cxH CX P w K mg base N qual scope f cdv A outer s H E p) body t ∧ t { nx := fun _ H' => Q .non H', rt := Q } (L2.start N vs) H) : FnH P w K mg base CX (k + 1) f fd ps sp := by
  obtain ⟨_, _, _, _, _, _, _, cdv, _, _, e, look, code, _, _⟩ := F.ex
  subst e
  exact fn_ofH look code S len (hbody cdv)
theorem roomMark {k : Nat} {A : Around} {h : Option Value} (r : RoomH k A) : RoomH k (A.mark h) := ⟨r.dp, r.un⟩
theorem pe_clH {Y : Cx} {k : Nat} {f : Addr} {fd : FuncData} {ps : List Str} {sp : Sp} {x : Str} {q pos : Pos} {e : Expr} {es : List Expr} {t : TA} (F : FnH Y.prog Y.w Y.K Y.mg Y.base (L2N.CX Y.prog Y.w) k f fd ps sp) (hr : RoomH k Y.A) (hc : HotC Y) (hg : Gl Y x) (hm : Y.mg x = some (.ref f)) (hk : PySem.W.keepIn Y.K (.ref f) = true) (hb : Binds Y.K fd ps [])
    (ha : PA Y (e :: es) t) (hdb : (x == ("__debug__" : Str)) = false := by decide) (he : starEach (e :: es) Y.env = (false, eval e Y.env) :: starEach es Y.env := by rfl) (hpl : (backTo pos (starEach es Y.env)).any (·.1) = false := by rfl) :
    PE Y (.Call (.Name x q) (e :: es) [] pos) (tCl sp [] WF t) where
  run := fun pins s σ H Q I h => by
    have same : (fun vs H1 => sp (vs ++ []) H1 Q fun c d H2 => WF c d σ H2) = fun vs H1 => sp vs H1 Q (WE WF σ) := by
      funext vs H1
      rw [List.append_nil]
    have h' : t σ H fun vs H1 => sp vs H1 Q (WE WF σ) := same ▸ h
    exact (pe_callH (E := WE WF) F hr hc hg hm hk hb (fun σ => L2N.passAt takes0N σ) ha hdb he hpl).run pins s σ H Q I h'
/-- a list walked there -/
theorem turn_listH {P : Program} {w : World} {K : PySem.W.Frag} {tg : Expr} (a it : Addr) : TurnH P w K tg (Itl K a) [it] it (fun i h => h.IsListIter it a i) where
  mem := (turn_list (P := P) (w := w) (K := K) (tg := tg) a it).mem
  obj := (turn_list (P := P) (w := w) (K := K) (tg := tg) a it).obj
  keep := (turn_list (P := P) (w := w) (K := K) (tg := tg) a it).keep
  self := (turn_list (P := P) (w := w) (K := K) (tg := tg) a it).self
  item := by
    rintro X rfl rfl rfl _ i pins s σ H E I hf li ⟨xs, x, hq, hx⟩
    obtain ⟨its, rv, q, _⟩ := I.list hq
    obtain ⟨u, hu, ru⟩ := rv.get hx
    obtain ⟨f0, f1, f2, f3, f4, f5⟩ := hf it (.head _)
    refine wpAny_pyNext_list_item li q.isList (x := u) (by simpa using hu) fun h1 li1 but => ⟨u, rfl, ?_⟩
    obtain ⟨oi, ei, ci, di⟩ := id li1
    refine go_of (s := { s with heap := h1 }) ei ci di (by decide) ⟨x, H, I.turned (t' := s.toks) (fun b o hb e => (but.2 b hb).trans e) f0 f1 f3 f4 f5, ru, ⟨rfl, fun ys hy => ?_⟩, li1, fun b hb => (hf b hb).1⟩
    rw [I.list_inj hy hq]
    exact hx
  done := by
    rintro X rfl rfl rfl ⟨p, ⟨hh, v1, e1, c1⟩, hp⟩ i pins s σ H E I hf li ⟨xs, hq, hx⟩
    obtain ⟨its, rv, q, _⟩ := I.list hq
    have many := rv.length
    obtain ⟨f0, f1, f2, f3, f4, f5⟩ := hf it (.head _)
    exact endHot (e1 := p.1) ⟨hh, p.2, v1, (I.pin p (List.mem_append_left _ hp)).1, e1, c1⟩ (fun z => f5 p (List.mem_append_left _ hp) z.symm) li q.isList (by simp; omega) fun h' kept => ⟨rfl, I.turned (t' := s.toks) (fun b o hb e => kept b o hb e) f0 f1 f3 f4 f5⟩
theorem pi_listH {X : Cx} {tg l : Expr} {tl : TE} (hl : PE X l tl) : PIH X tg l (iList X.K tl) where
  run := fun pins s σ H R I h => by
    apply thn (hl.run pins s σ H _ I h)
    rintro v s1 ⟨_, H1, I1, rel, a, rfl, ⟨xs, sq⟩, more⟩
    cases rel
    obtain ⟨its, _, q, _⟩ := I1.list sq
    apply wpAny_pyIter_list q.isList
    refine ⟨_, [s1.heap.objs.size], _, _, H1, rfl, I1.kept (t' := s1.toks) fun b o e => Heap.get?_push_of_some _ e, turn_listH a _, ⟨_, Heap.get?_push_size _ rfl, rfl, rfl⟩, fun b hb => ?_, more⟩
    rw [List.mem_singleton.mp hb]
    exact I1.fpOk (Nat.le_refl _) (I1.hok.fresh (Nat.le_refl _))
end L2.BP
namespace L2.BP
open PySem PySem.Spec PyProof.Rows
/-- the first own objects laid to the base, all at once -/
theorem Hs.fixes : ∀ {N L : Pic} {B H : Hp}, Hs B (N ++ L) H → ∃ B', Same B B' ∧ Hs B' L H ∧ ∀ q ∈ N, B' q.1 = some q.2
  | [], _, B, _, h => ⟨B, Same.refl B, h, fun _ z => nomatch z⟩
  | (p, o) :: N, L, B, H, h => by
    obtain ⟨B', s, h', k⟩ := Hs.fixes (N := N) (L := L) (Hs.fix h)
    refine ⟨B', (same_upd (h.nb (.head _))).trans s, h', fun q hq => ?_⟩
    rcases List.mem_cons.mp hq with rfl | hq
    · exact s _ _ upd_same
    · exact k q hq
end L2.BP
namespace L2.BP
open PySem PySem.Spec PyProof.Rows L2H
/-- o.m() where an exception is handled -/
theorem pe_mt0H {Y : Cx} {C f : Addr} {m : Str} {k : Nat} {fd : FuncData} {ps : List Str} {sp : Sp} {o : Expr} {ta : TE} {pos apos : Pos} {pl : Sem Bool} (he : PE Y o ta) (c : Cls Y.K C) (hm : Meth Y.K C m f) (F : FnH Y.prog Y.w Y.K Y.mg Y.base (L2N.CX Y.prog Y.w) k f fd ps sp) (hr : RoomH k Y.A) (hc : HotC Y)
    (hb : Binds Y.K fd ps []) (ht : eval (.Call (.Attribute o m apos) [] [] pos) Y.env = (do
      let ov ← eval o Y.env; standAt apos.atName
      let (f, first) ← holding [ov] (getMethod ov m pl); callWith pos f first (backTo pos (starEach [] Y.env)) (backToKw pos (keywordEach [] Y.env))) := by rfl) :
    PE Y (.Call (.Attribute o m apos) [] [] pos) (tMt C m sp [] WF ta tNil) where
  run := fun pins s σ H Q I h => by
    refine PySem.W.methodCall_KW (pl := pl) (thn (he.run pins s σ H _ I h) ?_) ht
    rintro u s1 ⟨x, H1, I1, rx, a, dx, fs, rfl, ea, l, q⟩
    cases (show u = Value.ref a from rx)
    have go := run_fnH (E := WE WF) (us := [.ref a]) (vs := [.ref a]) F hr hc hb (L2N.passAt takes0N σ) I1 (.cons rfl .nil) q
    exact getmeth_ok I1 ea c hm l (PySem.W.callWith_K0 (first := [.ref a]) I1.kIn hm.kp go)
end L2.BP
namespace L2.BP
open PySem PySem.Spec PyProof.Rows
/-- a key's function that tells a tuple's first item and leaves the heap -/
def KeyFirst (P : Program) (w : World) (K : PySem.W.Frag) (f : Addr) : Prop :=
  ∀ (A : Around) (s : Shared) (p : Addr) (its : Array Value) (i : Int) (t : Tok), K.In s.heap → s.heap.NoLimit → A.depth < recursionLimit → IsTup s.heap p its → its[0]? = some (.int i t) →
    wpAny (model P w) A (call (.ref f) [.ref p]) (PySem.W.KeyPure (.int i) s) (fun _ _ => False) s
/-- the form of such a def's body -/
def firstKeyOf : List Stmt → Option Str
  | [.Return (some (.Subscript (.Name v _) (.Constant (.int 0) _ _) _)) _] => some v
  | _ => none
theorem firstKey_form {b : List Stmt} {v : Str} (h : firstKeyOf b = some v) : ∃ (j : Nat) (p1 p2 p3 p4 : Pos), b = [.Return (some (.Subscript (.Name v p1) (.Constant (.int 0) j p2) p3)) p4] := by
  unfold firstKeyOf at h
  split at h
  · cases h
    exact ⟨_, _, _, _, _, rfl⟩
  · cases h
theorem FunD.keyFirst {P : Program} {w : World} {K : PySem.W.Frag} {x qual v : Str} {params : Arguments} {body : List Stmt} {scope : Scope} {f : Addr} {fd : FuncData} {dvs : List V} {kws : List (Str × V)}
    (F : FunD K x qual params body scope dvs kws f fd) (hform : firstKeyOf body = some v) (S : FnScope [v] [v] scope) (hv : scope.names.lookup v = some .local) (hb : Binds K fd [v] []) (hd : (v == ("__debug__" : Str)) = false := by decide) : KeyFirst P w K f := by
  obtain ⟨j, p1, p2, p3, p4, rfl⟩ := firstKey_form hform
  intro A s p its i t KX lim hr ht hi
  obtain ⟨_, _, _, _, _, _, _, cdv, _, _, e, look, code, _, _⟩ := F.ex
  have hb := hb s [.ref p] KX rfl
  subst e
  refine wpAny_call (codeAny_call_function hr (KX _ _ look) rfl S.co S.gen rfl (PySem.W.codeRec_of KX code) (hb _ _ _ _ ?_))
  refine wpAny_newFunctionEnv_cells S.kind (fun y hy => ?_) fun env he s1 hx => ?_
  · have e1 : y = (v, Value.ref p) := by simpa using hy
    subst e1
    exact .inl hv
  subst he
  refine ⟨lim.keeps hx.toInCall.keep, codeAny_func ?_⟩
  obtain ⟨h1, tk, rfl, hk⟩ := hx.done
  have hns := hx.toInCall.ns
  have hkv : (envOfC qual scope s.heap.objs.size f cdv).kindOf v = some .local := hv
  have hm : bindL (envOfC qual scope s.heap.objs.size f cdv).kindOf ([v].zip [Value.ref p]) (fun _ => none) v = some (.ref p) := by
    show bindL _ [(v, Value.ref p)] _ v = _
    unfold bindL
    rw [if_pos hkv]
    show (if v = v then _ else _) = _
    rw [if_pos rfl]
  obtain ⟨o, e1, e2, n, e3⟩ := ht
  have ht1 : IsTup h1 p its := ⟨o, hk _ _ e1, e2, n, e3⟩
  have hil : 0 < its.size := by
    cases e : its.size with
    | zero =>
      rw [Array.getElem?_eq_none (by omega)] at hi
      cases hi
    | succ m => omega
  refine wpAny_execs_cons (wpAny_Return_some (Subscript_ (wpAny_Name (wpAny_loadName_local S.kind hkv hns hm ?_) hd)))
  refine wpAny_Constant_int ?_
  refine subscriptTail_builtinR (x := .int i t) ht1.typeIs slot_tuple_getitem.lookup (getItem_tuple (j := 0) ht1 (by decide) (by decide) ?_ hi ⟨rfl, ?_⟩) rfl
  · rw [seqIndex_of (by decide) (by omega)]; rfl
  · exact ⟨_, _, rfl, hk, .int _ _⟩

def sortedBy (xs : List V) (ws : List Int) : List V := ((xs.zip ws).mergeSort fun a b => decide (a.2 ≤ b.2)).map (·.1)
/-- sorted(l, key=f), f as above -/
def rSortKF (K : PySem.W.Frag) (f : Addr) : List V → List V → Hp → VK → Prop := fun vs zs H Q => ∃ (a : Addr) (xs : List V) (ws : List Int), vs = [.ref a] ∧ zs = [.ref f] ∧ SqL K H a xs ∧
  Paired (fun x i => ∃ p ys, x = V.ref p ∧ SqT K H p (.int i :: ys)) xs ws ∧ ∀ p, H p = none → Q (.ref p) (upd H p (.lst (sortedBy xs ws)))
theorem vals_one {x : V} {us : List Value} (h : Vals [x] us) : ∃ u, us = [u] ∧ RelV x u := by
  cases h with
  | cons e t =>
    cases t
    exact ⟨_, rfl, e⟩
theorem vals_each {S : Value → V × Int → Prop} {out : List Value} {l : List (V × Int)} (h : PySem.W.EachIs (fun v b => RelV b.1 v ∧ S v b) out l) : Vals (l.map (·.1)) out := by
  induction h with
  | nil => exact .nil
  | cons e _ ih => exact .cons e.1 ih
theorem cr_sortedKF {X : Cx} {f : Addr} (hf : KeyFirst X.prog X.w X.K f) (hr : Room 1 X.A) : CallRK X (.builtin "sorted") [Str.ofString "key"] (rSortKF X.K f) := by
  intro pins s σ H vs zs us ws0 Q I r1 r2 q
  obtain ⟨a, xs, ws, rfl, rfl, hS, hP, q⟩ := q
  obtain ⟨u, rfl, e1⟩ := vals_one r1
  obtain ⟨u2, rfl, e2⟩ := vals_one r2
  cases e1
  cases e2
  obtain ⟨its, rv, hl, hz⟩ := I.list hS
  -- items by their values and keys
  have each : PySem.W.EachIs (fun (v : Value) (b : V × Int) => RelV b.1 v ∧ ∃ p items t, v = .ref p ∧ IsTup s.heap p items ∧ items[0]? = some (.int b.2 t)) its (xs.zip ws) := by
    clear hl q hz hS
    induction hP generalizing its with
    | nil => cases rv; exact .nil
    | cons h t ih =>
      cases rv with
      | cons e r =>
        obtain ⟨p, ys, rfl, hT⟩ := h
        cases e
        obtain ⟨its2, r2, hI, _⟩ := I.tuple hT
        refine .cons ⟨rfl, ?_⟩ (ih _ r)
        cases r2 with
        | cons e5 r5 =>
          obtain ⟨t5, rfl⟩ := e5
          exact ⟨p, _, t5, rfl, hI, by simp⟩
  have hlen : (xs.zip ws).length = xs.length := by rw [List.length_zip, hP.length, Nat.min_self]
  show wpAny _ _ (call (.builtin "sorted") [.ref a] [(Str.ofString "key", .ref f)]) _ _ _
  refine PySem.W.sorted_key_data (b := false) (fun b : V × Int => .int b.2) hl.isList each (PySem.W.AllAlike.of fun _ _ => by simp [PySem.W.alike]) (PySem.W.Sortable.others fun b => ⟨by simp, by simp⟩) (by rw [hlen]; exact hz) (fun b _ => ?_) (ksk_s1 _ _) (fun _ => ksk_l1 _ _) (fun _ => ksk_t1 _ _)
    (fun v b hR _ h tk kp => ?_) fun out c h' tk kp _ hD hol eo => ?_
  · have := hr.un
    show X.A.units + 2 + 0 < cLine
    omega
  · obtain ⟨_, p, items, t, rfl, ⟨o, e1, e2, n, e3⟩, hi⟩ := hR
    have hd : X.A.in1.in1.depth < recursionLimit := by
      have := hr.dp
      show X.A.depth < _
      omega
    exact hf _ _ p items b.2 t (I.kIn.keeps kp) (I.nolimit.keeps kp) hd ⟨o, kp _ _ e1, e2, n, e3⟩ hi
  · have fr : H (s.heap.objs.size + 1) = none := I.hok.fresh (Nat.le_succ _)
    rw [PySem.W.dataLe_int] at eo
    have hv := vals_each eo
    have hsl : (sortedBy xs ws).length ≤ sizeLine := by
      unfold sortedBy
      rw [List.length_map, List.length_mergeSort, hlen]
      exact hz
    exact ⟨.ref (s.heap.objs.size + 1), _, I.laid (o := .lst (sortedBy xs ws)) (t' := tk) kp (Nat.le_succ _) ⟨hsl, out, c, hv, hD⟩, rfl, q _ fr⟩
end L2.BP
namespace L2.BP
open PySem PySem.Spec PyProof.Rows
section
variable {K : PySem.W.Frag} {H : Hp} {Q : VK} {B : Hp} {L : Pic} {σ : St} {x : V}
theorem c_ckw {r : List V → List V → Hp → VK → Prop} {t tk : TA} (k : t σ H fun vs H1 => tk σ H1 fun zs H2 => r vs zs H2 Q) : tCKw r t tk σ H Q := k
theorem c_sortedKF {f a : Addr} {xs : List V} {ws : List Int} (hs : Hs B L H) (hS : SqL K H a xs) (hP : Paired (fun x i => ∃ p ys, x = V.ref p ∧ SqT K H p (.int i :: ys)) xs ws) (k : ∀ p H', Hs B ((p, .lst (sortedBy xs ws)) :: L) H' → Q (.ref p) H') : rSortKF K f [.ref a] [.ref f] H Q :=
  ⟨a, xs, ws, rfl, rfl, hS, hP, fun p hp => k p _ (hs.new hp)⟩
theorem c_countL {p : Addr} {ns : List Int} {i : Int} (h : SqL K H p (ns.map V.int)) (k : Q (.int (ns.count i : Nat)) H) : rCntI K (.ref p) [.int i] H Q := ⟨p, ns, i, rfl, rfl, h, k⟩
/-- values that are alike by kind alone -/
theorem c_eqX {x y : V} (h : scal x y = true) (k : Q (.bl (decide (x = y))) H) : rEqU K x y H Q := .inl ⟨h, k⟩
theorem c_neX {x y : V} (h : scal x y = true) (k : Q (.bl (!decide (x = y))) H) : rNeU K x y H Q := .inl ⟨h, k⟩
/-- an empty dict -/
theorem c_neE {a b : Addr} (h1 : H a = some (.dK [])) (h2 : H b = some (.dK [])) (k : Q (.bl false) H) : rNeU K (.ref a) (.ref b) H Q := .inr (.inr ⟨a, b, [], [], rfl, rfl, h1, h2, rfl, (fun _ z => nomatch z), k⟩)
theorem c_eqE {a b : Addr} (h1 : H a = some (.dK [])) (h2 : H b = some (.dK [])) (k : Q (.bl true) H) : rEqU K (.ref a) (.ref b) H Q := .inr (.inr (.inl ⟨a, b, [], [], rfl, rfl, h1, h2, rfl, (fun _ z => nomatch z), k⟩))
end
end L2.BP
namespace L2.BR
open PySem PySem.Spec PyProof.Rows L2.BP
section
variable {K : PySem.W.Frag} {W : WX} {vs : List V} {H : Hp} {Q : VK} {E : XK}
/-! ### rows -/
def Tg.isByte : Tg → Bool
  | .int i => decide (0 ≤ i) && decide (i ≤ 255)
  | _ => false
/-- whether a thing is a byte, by itself -/
def byteV : V → Bool
  | .int i => decide (0 ≤ i) && decide (i ≤ 255)
  | _ => false
theorem byteV_of {v : V} {g : Tg} (h : Th K H v g) : Tg.isByte g = byteV v := by cases h <;> rfl
def Tg.isRow : Tg → Bool
  | .lst xs => xs.all byteV
  | _ => false
/-- the thing may be looked at: its items are things, too -/
def Tg.ok (K : PySem.W.Frag) (H : Hp) : Tg → Prop
  | .lst xs => (∀ x ∈ xs, ∃ g, Th K H x g) ∧ xs.length ≤ 100000
  | _ => True
/-- a row: its numbers -/
def Bytes (ns : List Int) : Prop := ∀ n ∈ ns, 0 ≤ n ∧ n ≤ 255
theorem ints_of : ∀ {xs : List V}, xs.all byteV = true → ∃ ns : List Int, xs = ns.map V.int ∧ Bytes ns
  | [], _ => ⟨[], rfl, fun _ h => nomatch h⟩
  | x :: r, h => by
    simp only [List.all_cons, Bool.and_eq_true] at h
    obtain ⟨ns, e, hb⟩ := ints_of h.2
    cases x with
    | int i =>
      refine ⟨i :: ns, by rw [e]; rfl, fun n hn => ?_⟩
      rcases List.mem_cons.mp hn with z | z
      · have h1 := h.1
        simp only [byteV, Bool.and_eq_true, decide_eq_true_eq] at h1
        rw [z]
        exact h1
      · exact hb n z
    | _ => cases h.1
theorem all_byteV {ns : List Int} (h : Bytes ns) : (ns.map V.int).all byteV = true := by
  rw [List.all_eq_true]
  intro x hx
  obtain ⟨n, hn, rfl⟩ := List.mem_map.mp hx
  have := h n hn
  simp only [byteV, Bool.and_eq_true, decide_eq_true_eq]
  exact this
theorem ok_ints {H : Hp} {ns : List Int} (h : ns.length ≤ 100000) : Tg.ok K H (.lst (ns.map V.int)) := by
  refine ⟨fun x hx => ?_, by rw [List.length_map]; exact h⟩
  obtain ⟨n, _, rfl⟩ := List.mem_map.mp hx
  exact ⟨_, .int n⟩
theorem cutV_ints (ns : List Int) (lo hi : Option Int) : cutV (ns.map V.int) lo hi = ((ns.drop (HT.sIx ns.length 0 lo)).take (HT.sIx ns.length ns.length hi - HT.sIx ns.length 0 lo)).map V.int := by
  unfold cutV
  rw [List.length_map, List.map_take, List.map_drop]
theorem sIx_at (n d k : Nat) (h : k ≤ n) : HT.sIx n d (some ((k : Nat) : Int)) = k := by rw [HT.sIx_nat]; omega
theorem map_int_inj : ∀ {a b : List Int}, a.map V.int = b.map V.int → a = b
  | [], [], _ => rfl
  | [], _ :: _, h => by cases h
  | _ :: _, [], h => by cases h
  | x :: r, y :: t, h => by
    injection h with h1 h2
    injection h1 with h1
    rw [h1, map_int_inj h2]
theorem ne_f {a b : Int} (h : a = b) : (!decide (a = b)) = false := by rw [decide_eq_true h]; rfl
theorem cut_take (ns : List Int) (m : Nat) : cutV (ns.map V.int) none (some ((m : Nat) : Int)) = (ns.take m).map V.int := by
  rw [cutV_ints, HT.sIx_nat, HT.sIx_none, List.drop_zero, Nat.sub_zero]
  congr 1
  by_cases h : m ≤ ns.length
  · rw [Nat.min_eq_left h]
  · rw [Nat.min_eq_right (by omega), List.take_of_length_le (Nat.le_refl _), List.take_of_length_le (by omega)]
theorem cut_drop (ns : List Int) (m : Nat) : cutV (ns.map V.int) (some ((m : Nat) : Int)) none = (ns.drop m).map V.int := by
  rw [cutV_ints, HT.sIx_nat, HT.sIx_none]
  congr 1
  by_cases h : m ≤ ns.length
  · rw [Nat.min_eq_left h, List.take_of_length_le (by rw [List.length_drop]; omega)]
  · rw [Nat.min_eq_right (by omega), List.drop_of_length_le (Nat.le_refl _), List.drop_of_length_le (by omega), List.take_nil]
theorem cut_mid (ns : List Int) (a b : Nat) (h1 : a ≤ b) (h2 : b ≤ ns.length) : cutV (ns.map V.int) (some ((a : Nat) : Int)) (some ((b : Nat) : Int)) = ((ns.drop a).take (b - a)).map V.int := by
  rw [cutV_ints, HT.sIx_nat _ 0 a, HT.sIx_nat _ _ b, Nat.min_eq_left (show a ≤ ns.length by omega), Nat.min_eq_left h2]
theorem at_nat {ns : List Int} {k : Nat} (h : k < ns.length) : atI (ns.map V.int) ((k : Nat) : Int) = some (.int (ns.getD k 0)) := by
  rw [atI_nat (v := .int (ns.getD k 0))]
  rw [List.getElem?_map, List.getElem?_eq_getElem h, List.getD_eq_getElem?_getD, List.getElem?_eq_getElem h]
  rfl
theorem at_i {ns : List Int} {i : Int} {k : Nat} (e : i = ((k : Nat) : Int)) (h : k < ns.length) : atI (ns.map V.int) i = some (.int (ns.getD k 0)) := by rw [e]; exact at_nat h
/-- two flat tuples -/
theorem dp_tup {p : Addr} {xs : List V} (hf : xs.all L2.BP.flatV = true) (h : SqT K H p xs) : Dp K H (.ref p) (tupD xs) := .tup h (dpa_flat hf)
theorem shaped_tup {xs : List V} (hf : xs.all L2.BP.flatV = true) : SeqAt.shaped (tupD xs) = true := by
  obtain ⟨z1, z2⟩ := canAll_flat hf
  unfold SeqAt.shaped tupD
  simp only [PyData.canLay0, PyData.depth, z1]
  simp
  omega
theorem c_eqTup {p q : Addr} {xs : List V} (hf : xs.all L2.BP.flatV = true) (h1 : SqT K H p xs) (h2 : SqT K H q xs) (k : Q (.bl true) H) : rEqU K (.ref p) (.ref q) H Q := by
  refine c_eqD (dp_tup hf h1) (dp_tup hf h2) (shaped_tup hf) (shaped_tup hf) ?_
  rw [show PyData.eqv (tupD xs) (tupD xs) = true by unfold tupD; rw [PyData.eqv, eqvAll_vD]]
  exact k
theorem c_neTup {p q : Addr} {xs : List V} (hf : xs.all L2.BP.flatV = true) (h1 : SqT K H p xs) (h2 : SqT K H q xs) (k : Q (.bl false) H) : rNeU K (.ref p) (.ref q) H Q := by
  refine c_neD (dp_tup hf h1) (dp_tup hf h2) (shaped_tup hf) (shaped_tup hf) ?_
  rw [show PyData.eqv (tupD xs) (tupD xs) = true by unfold tupD; rw [PyData.eqv, eqvAll_vD]]
  exact k
theorem mem_cutV {xs : List V} {lo hi : Option Int} {x : V} (h : x ∈ cutV xs lo hi) : x ∈ xs := by
  unfold cutV at h
  exact List.mem_of_mem_drop (List.mem_of_mem_take h)
theorem cutV_le (xs : List V) (lo hi : Option Int) : (cutV xs lo hi).length ≤ xs.length := by
  unfold cutV
  rw [List.length_take, List.length_drop]
  omega
theorem ok_same {H' : Hp} {g : Tg} (h : Tg.ok K H g) (e : Same H H') : Tg.ok K H' g := by
  cases g with
  | lst xs => exact ⟨fun x hx => (h.1 x hx).imp fun _ z => z.same e, h.2⟩
  | _ => trivial
theorem mixed_ok {row : List Int} {ov : V} {og : Tg} {lo hi lo' hi' : Option Int} (ho : Th K H ov og) (hl : row.length ≤ 1000) : Tg.ok K H (.lst (cutV (row.map V.int) lo hi ++ [ov] ++ cutV (row.map V.int) lo' hi')) := by
  refine ⟨fun x hx => ?_, ?_⟩
  · have allI : ∀ x ∈ row.map V.int, ∃ g, Th K H x g := fun x hx => by
      obtain ⟨n, _, rfl⟩ := List.mem_map.mp hx
      exact ⟨_, .int n⟩
    rcases List.mem_append.mp hx with hx | hx
    · rcases List.mem_append.mp hx with hx | hx
      · exact allI x (mem_cutV hx)
      · rw [List.mem_singleton.mp hx]
        exact ⟨og, ho⟩
    · exact allI x (mem_cutV hx)
  · have z1 := cutV_le (row.map V.int) lo hi
    have z2 := cutV_le (row.map V.int) lo' hi'
    rw [List.length_map] at z1 z2
    rw [List.length_append, List.length_append, List.length_singleton]
    omega
end
end L2.BR
namespace L2.BR
open PySem PySem.Spec PyProof.Rows L2.BP
section
variable {K : PySem.W.Frag} {W : WX} {vs : List V} {H : Hp} {Q : VK} {E : XK}
/-! ### the word of a caught error -/
def wordL : List (Str × Str) := [("row", "BadRow"), ("bits", "BadBits"), ("nobits", "NoBits"), ("shares", "BadShares"), ("lengths", "BadLengths"), ("code", "BadCode"), ("table", "BadTable"), ("cut", "Cut"), ("pieces", "BadPieces"), ("body", "BadBody"), ("head", "BadHead"), ("check", "BadCheck"), ("mark", "BadMark"), ("tail", "BadTail"), ("behind", "Behind"), ("over", "Over"), ("range", "NoRange"), ("letters", "BadLetters")]
structure WordOf (K : PySem.W.Frag) (D : Addr) (w : Str) : Prop where
  x : ExcC K D
  v : PySem.W.kitOne K (.ref D) (.type "ValueError") = some true
  f : ∀ p ∈ wordL, PySem.W.kitOne K (.ref D) (.ref (He.ga K p.2)) = some (decide (p.1 = w))
  one : (wordL.map fun p => (p.1, decide (p.1 = w))).filter (·.2) = [(w, true)]
abbrev pairW (p : Str × Bool) : List V := [.str p.1, .bl p.2]
theorem tups_W {α : Type} {f : α → List V} {ps : List α} {acc pre post : List V} {x : V} (h : Tups K H acc (ps.map f)) (e : acc = pre ++ x :: post) : ∃ a p, x = .ref a ∧ ps[pre.length]? = some p ∧ SqT K H a (f p) := by
  subst e
  obtain ⟨a, p1, xs, p2, rfl, e2, e3, e4⟩ := h.split
  have e5 : (ps.map f)[pre.length]? = some xs := by
    rw [e2, ← e3]
    simp
  rw [List.getElem?_map] at e5
  cases e6 : ps[pre.length]? with
  | none => rw [e6] at e5; cases e5
  | some p =>
    rw [e6] at e5
    cases e5
    exact ⟨a, p, rfl, rfl, e4⟩
section
variable {B : Hp} {l l2 u1 u2 u3 : Addr} {xs a b c : List V} {ps : List (List V)}
theorem word1 (h : Hs B [(l2, .lst [.ref u1]), (u1, .tup a), (l, .lst xs)] H) (hT : Tups K B xs ps) (hl : xs.length ≤ 100) (k : ∀ r B' H', Tups K B' (xs ++ [.ref u1]) (ps ++ [a]) → Same B B' → Hs B' [(r, .lst (xs ++ [.ref u1]))] H' → Q (.ref r) H') : rAddU (.ref l) (.ref l2) H Q := by
  refine c_addL h (h.get (.tail _ (.tail _ (.head _)))) (h.get (.head _)) (small6' (by rw [List.length_singleton]; omega)) fun r H' h' => ?_
  have k1 := h.nb (.tail _ (.head _))
  exact k r _ H' (hT.snocFix k1) (same_upd k1) h'.drop1.swap.fix.drop1
theorem word2 (h : Hs B [(l2, .lst [.ref u1, .ref u2]), (u2, .tup b), (u1, .tup a), (l, .lst xs)] H) (hT : Tups K B xs ps) (hl : xs.length ≤ 100) (k : ∀ r B' H', Tups K B' (xs ++ [.ref u1, .ref u2]) (ps ++ [a, b]) → Same B B' → Hs B' [(r, .lst (xs ++ [.ref u1, .ref u2]))] H' → Q (.ref r) H') : rAddU (.ref l) (.ref l2) H Q := by
  refine c_addL h (h.get (.tail _ (.tail _ (.tail _ (.head _))))) (h.get (.head _)) (small6' (by show xs.length + 2 ≤ _; omega)) fun r H' h' => ?_
  have k1 := h'.drop1.rot3.nb (.head _)
  have h2 := h'.drop1.rot3.fix.swap
  have k2 := h2.nb (.head _)
  have z := (hT.snocFix (xs := a) k1).snocFix (xs := b) k2
  rw [List.append_assoc, List.append_assoc] at z
  exact k r _ H' z ((same_upd k1).trans (same_upd k2)) h2.fix.drop1
theorem word3 (h : Hs B [(l2, .lst [.ref u1, .ref u2, .ref u3]), (u3, .tup c), (u2, .tup b), (u1, .tup a), (l, .lst xs)] H) (hT : Tups K B xs ps) (hl : xs.length ≤ 100) (k : ∀ r B' H', Tups K B' (xs ++ [.ref u1, .ref u2, .ref u3]) (ps ++ [a, b, c]) → Same B B' → Hs B' [(r, .lst (xs ++ [.ref u1, .ref u2, .ref u3]))] H' → Q (.ref r) H') : rAddU (.ref l) (.ref l2) H Q := by
  refine c_addL h (h.get (.tail _ (.tail _ (.tail _ (.tail _ (.head _)))))) (h.get (.head _)) (small6' (by show xs.length + 3 ≤ _; omega)) fun r H' h' => ?_
  have k1 := h'.drop1.rot4.nb (.head _)
  have h2 := h'.drop1.rot4.fix.rot3
  have k2 := h2.nb (.head _)
  have h3 := h2.fix.swap
  have k3 := h3.nb (.head _)
  have z := ((hT.snocFix (xs := a) k1).snocFix (xs := b) k2).snocFix (xs := c) k3
  rw [List.append_assoc, List.append_assoc, List.append_assoc, List.append_assoc] at z
  exact k r _ H' z (((same_upd k1).trans (same_upd k2)).trans (same_upd k3)) h3.fix.drop1
end
theorem c_isXw {a D : Addr} {w u c : Str} (W : WordOf K D w) (m : (u, c) ∈ wordL) (k : Q (.bl (decide (u = w))) H) : rIsX K a (.ref D) none [.ref a, .ref (He.ga K c)] H Q := c_isXc W.x (W.f (u, c) m) k
theorem c_niBl {l : Addr} {xs : List V} (h : SqL K H l xs) (hf : xs.all L2.flatV = true) (hn : L2.inV (.bl true) xs = false) (k : Q (.bl true) H) : rNiU K (.bl true) (.ref l) H Q := .inl ⟨l, xs, rfl, .inl h, rfl, hf, by rw [hn]; exact k⟩
end
end L2.BR
namespace L2.BR
open PySem PySem.Spec PyProof.Rows L2.BP
section
variable {K : PySem.W.Frag} {H H' : Hp} {Q : VK}
/-! ### things that are data, compared with copies of themselves -/
/-- data of few layers -/
def LD (K : PySem.W.Frag) (H : Hp) (n : Nat) (xs : List V) : Prop := ∃ ds, DpAll K H xs ds ∧ PyData.canLayAll0 ds = true ∧ PyData.depthAll ds ≤ n
def OD (K : PySem.W.Frag) (H : Hp) (n : Nat) (x : V) : Prop := ∃ d, Dp K H x d ∧ PyData.canLay0 d = true ∧ PyData.depth d ≤ n
theorem dpAll_app : ∀ {xs ys : List V} {ds es : List PyData}, DpAll K H xs ds → DpAll K H ys es → DpAll K H (xs ++ ys) (ds ++ es)
  | _, _, _, _, .nil, h => h
  | _, _, _, _, .cons e t, h => .cons e (dpAll_app t h)
theorem lay_app : ∀ {ds es : List PyData}, PyData.canLayAll0 ds = true → PyData.canLayAll0 es = true → PyData.canLayAll0 (ds ++ es) = true
  | [], _, _, h => h
  | d :: ds, es, h, h2 => by
    simp only [PyData.canLayAll0, Bool.and_eq_true, List.cons_append] at h ⊢
    exact ⟨h.1, lay_app h.2 h2⟩
theorem depth_app : ∀ {ds es : List PyData} {n : Nat}, PyData.depthAll ds ≤ n → PyData.depthAll es ≤ n → PyData.depthAll (ds ++ es) ≤ n
  | [], _, _, _, h => h
  | d :: ds, es, n, h, h2 => by
    simp only [PyData.depthAll, List.cons_append] at h ⊢
    have := depth_app (ds := ds) (n := n) (by omega) h2
    omega
theorem LD.nil {n : Nat} : LD K H n [] := ⟨[], .nil, rfl, Nat.zero_le _⟩
theorem LD.app {n : Nat} {xs ys : List V} (h : LD K H n xs) (h2 : LD K H n ys) : LD K H n (xs ++ ys) := by
  obtain ⟨ds, a1, a2, a3⟩ := h
  obtain ⟨es, b1, b2, b3⟩ := h2
  exact ⟨_, dpAll_app a1 b1, lay_app a2 b2, depth_app a3 b3⟩
theorem LD.one {n : Nat} {x : V} (h : OD K H n x) : LD K H n [x] := by
  obtain ⟨d, a1, a2, a3⟩ := h
  exact ⟨[d], .cons a1 .nil, by simp [PyData.canLayAll0, a2], by simp [PyData.depthAll]; exact a3⟩
theorem LD.cons {n : Nat} {x : V} {xs : List V} (h : OD K H n x) (t : LD K H n xs) : LD K H n (x :: xs) := (LD.one h).app t
theorem OD.flat {n : Nat} {x : V} (h : L2.BP.flatV x = true) : OD K H n x := ⟨_, dp_flat h, (can_flat h).1, by rw [(can_flat h).2]; exact Nat.zero_le _⟩
theorem LD.flat {n : Nat} : ∀ {xs : List V}, xs.all L2.BP.flatV = true → LD K H n xs
  | [], _ => .nil
  | x :: r, h => by
    rw [List.all_cons, Bool.and_eq_true] at h
    exact .cons (.flat h.1) (LD.flat h.2)
theorem LD.ints {n : Nat} {ns : List Int} : LD K H n (ns.map V.int) := .flat (by rw [List.all_map]; simp [L2.BP.flatV])
theorem OD.lst {n : Nat} {a : Addr} {xs : List V} (h : SqL K H a xs) (t : LD K H n xs) : OD K H (n + 1) (.ref a) := by
  obtain ⟨ds, a1, a2, a3⟩ := t
  exact ⟨.list ds, .lst h a1, by simpa [PyData.canLay0] using a2, by simp only [PyData.depth]; omega⟩
theorem OD.tup {n : Nat} {a : Addr} {xs : List V} (h : SqT K H a xs) (t : LD K H n xs) : OD K H (n + 1) (.ref a) := by
  obtain ⟨ds, a1, a2, a3⟩ := t
  exact ⟨.tuple ds, .tup h a1, by simpa [PyData.canLay0] using a2, by simp only [PyData.depth]; omega⟩
theorem eqvS {d : PyData} (h : PyData.canLay0 d = true) : PyData.eqv d d = true := SeqAt.eqv_refl d h
theorem shapedS {d : PyData} (h : PyData.canLay0 d = true) {n : Nat} (h2 : PyData.depth d ≤ n) (hn : n ≤ 64) : SeqAt.shaped d = true := by
  unfold SeqAt.shaped
  rw [h, Bool.true_and]
  exact decide_eq_true (by omega)
/-- two lists of the same items -/
theorem c_neSame {n : Nat} {a b : Addr} {xs : List V} (h1 : SqL K H a xs) (h2 : SqL K H b xs) (t : LD K H n xs) (hn : n ≤ 60) (k : Q (.bl false) H) : rNeU K (.ref a) (.ref b) H Q := by
  obtain ⟨ds, a1, a2, a3⟩ := t
  have c : PyData.canLay0 (.list ds) = true := by simpa [PyData.canLay0] using a2
  have e : PyData.depth (.list ds) ≤ n + 1 := by simp only [PyData.depth]; omega
  refine c_neD (.lst h1 a1) (.lst h2 a1) (shapedS c e (by omega)) (shapedS c e (by omega)) ?_
  rw [eqvS c]
  exact k
theorem c_eqSame {n : Nat} {a b : Addr} {xs : List V} (h1 : SqL K H a xs) (h2 : SqL K H b xs) (t : LD K H n xs) (hn : n ≤ 60) (k : Q (.bl true) H) : rEqU K (.ref a) (.ref b) H Q := by
  obtain ⟨ds, a1, a2, a3⟩ := t
  have c : PyData.canLay0 (.list ds) = true := by simpa [PyData.canLay0] using a2
  have e : PyData.depth (.list ds) ≤ n + 1 := by simp only [PyData.depth]; omega
  refine c_eqD (.lst h1 a1) (.lst h2 a1) (shapedS c e (by omega)) (shapedS c e (by omega)) ?_
  rw [eqvS c]
  exact k
/-- a thing and itself -/
theorem c_neSelf {n : Nat} {x : V} (t : OD K H n x) (hn : n ≤ 60) (k : Q (.bl false) H) : rNeU K x x H Q := by
  obtain ⟨d, a1, a2, a3⟩ := t
  refine c_neD a1 a1 (shapedS a2 a3 (by omega)) (shapedS a2 a3 (by omega)) ?_
  rw [eqvS a2]
  exact k
theorem c_eqSelf {n : Nat} {x : V} (t : OD K H n x) (hn : n ≤ 60) (k : Q (.bl true) H) : rEqU K x x H Q := by
  obtain ⟨d, a1, a2, a3⟩ := t
  refine c_eqD a1 a1 (shapedS a2 a3 (by omega)) (shapedS a2 a3 (by omega)) ?_
  rw [eqvS a2]
  exact k
mutual
theorem Dp.same (s : Same H H') : ∀ {d : PyData} {x : V}, Dp K H x d → Dp K H' x d
  | _, _, .non => .non
  | _, _, .bl b => .bl b
  | _, _, .int i => .int i
  | _, _, .str z => .str z
  | _, _, .lst h t => .lst (s.seq h) (DpAll.same s t)
  | _, _, .tup h t => .tup (same_sqt s h) (DpAll.same s t)
theorem DpAll.same (s : Same H H') : ∀ {ds : List PyData} {xs : List V}, DpAll K H xs ds → DpAll K H' xs ds
  | _, _, .nil => .nil
  | _, _, .cons h t => .cons (Dp.same s h) (DpAll.same s t)
end
theorem LD.same {n : Nat} {xs : List V} (h : LD K H n xs) (s : Same H H') : LD K H' n xs := by
  obtain ⟨ds, a1, a2, a3⟩ := h
  exact ⟨ds, DpAll.same s a1, a2, a3⟩
theorem OD.same {n : Nat} {x : V} (h : OD K H n x) (s : Same H H') : OD K H' n x := by
  obtain ⟨ds, a1, a2, a3⟩ := h
  exact ⟨ds, Dp.same s a1, a2, a3⟩
end
end L2.BR
namespace L2.BP
open PySem PySem.Spec PyProof.Rows L2
theorem getl {X : Cx} : PGet X (rIxL X.K) := by
  intro pins s σ H o i ov iv Q I ro ri h
  obtain ⟨p, xs, i, z, rfl, rfl, hq, he, q⟩ := h
  cases ro
  obtain ⟨t, rfl⟩ := ri
  obtain ⟨its, r, pl, hz⟩ := I.list hq
  obtain ⟨j, h1, h2, h3, h4, h5⟩ := atI_get he
  obtain ⟨w, ew, rw'⟩ := r.get h2
  have hl := r.length
  have hn := line63
  have fin : EP X pins σ Q w s := ⟨z, H, I, rw', q⟩
  by_cases h0 : 0 ≤ i
  · have hj : i.toNat = j := by
      rw [seqIndex_of h0 h5] at h1
      exact Option.some.inj h1
    exact wpAny_getItem_list pl.isList h0 (by omega) (by rw [hj]; simpa using ew) fin
  · have hj : (i + (its.toArray.size : Int)).toNat = j := by
      rw [seqIndex_neg (by omega) h4] at h1
      rw [List.size_toArray, ← hl]
      exact Option.some.inj h1
    exact wpAny_getItem_list_neg pl.isList (by omega) (by rw [List.size_toArray] <;> omega) (by omega) (by rw [hj]; simpa using ew) fin
end L2.BP
namespace L2.BP
open PySem PySem.Spec PyProof.Rows
/-! ### isinstance(e, (C1, C2, ..)), e the exception that the def was handed -/
def rIsXT (K : PySem.W.Frag) (a : Addr) (cls : Value) (d : Option Addr) : List V → Hp → VK → Prop := fun xs H Q => ∃ (D tp : Addr) (cs : List V) (us : List Value) (b : Bool), cls = .ref D ∧ d = none ∧ ExcC K D ∧ xs = [.ref a, .ref tp] ∧ H tp = some (.tup cs) ∧ Paired ClsV cs us ∧ PySem.W.kitAny K (.ref D) us = some b ∧ Q (.bl b) H
theorem call_isPT {X : Cx} {p : Addr × Obj} {cls : Value} {d : Option Addr} (hp : p ∈ X.pn) (hz : Zc cls d p.2) (hf : ∃ vs, p.2.data = .fields vs) : CallR X (.builtin "isinstance") (rIsXT X.K p.1 cls d) := by
  rintro pins s σ H xs us Q I r ⟨D, tp, cs, ws, b, rfl, rfl, C, rfl, hT, k, e, q⟩
  match us, r with
  | [_, _], .cons rfl (.cons rt .nil) =>
    cases rt
    obtain ⟨_, its, rv, o, h1, h2, n, h3⟩ := (show ObjOk X.prog X.w H s.heap tp (.tup cs) from I.hok tp _ hT)
    have e3 := ClsV.all k rv
    subst e3
    have there := (I.pin p (List.mem_append_left _ hp)).1
    have J : PySem.W.InstAt s.heap p.1 p.2 D none := by
      obtain ⟨vs, hv⟩ := hf
      obtain ⟨pa, ⟨_, _, _, _⟩⟩ := p
      obtain ⟨h1, h2⟩ := hz
      dsimp only at h1 h2 hv
      subst h1 h2 hv
      exact ⟨there, rfl, rfl, trivial⟩
    obtain ⟨oc, od, dt, sl⟩ := o
    simp only at h2 h3
    subst h2 h3
    exact PySem.W.kia_tup (PySem.W.handS_kitx_exc C.hg C.hk C.hs C.hd C.ha C.hn C.ht C.hm) I.kIn J h1 e (fun z => nomatch z) fun tk => ⟨.bl b, H, I.kept (t' := tk) fun _ _ z => z, rfl, q⟩
end L2.BP
namespace L2.BR
open PySem PySem.Spec PyProof.Rows L2.BP
theorem clsV_own (K : PySem.W.Frag) : ∀ us : List (Str × Str), Paired ClsV (us.map fun p => V.ref (He.ga K p.2)) (us.map fun p => Value.ref (He.ga K p.2))
  | [] => .nil
  | _ :: us => .cons (.own _) (clsV_own K us)
theorem any_word {K : PySem.W.Frag} {D : Addr} {w : Str} (W : WordOf K D w) : ∀ us : List (Str × Str), (∀ p ∈ us, p ∈ wordL) → PySem.W.kitAny K (.ref D) (us.map fun p => Value.ref (He.ga K p.2)) = some (us.any fun p => decide (p.1 = w))
  | [], _ => rfl
  | p :: us, m => by
    have ih := any_word W us fun q hq => m q (.tail _ hq)
    refine kitAny_cons (W.f p (m p (.head _))) (fun hb => ?_) fun hb => ?_
    · rw [ih, List.any_cons, hb, Bool.false_or]
    · rw [List.any_cons, hb, Bool.true_or]
theorem c_isXT {K : PySem.W.Frag} {H : Hp} {Q : VK} {a D tp : Addr} {w : Str} (W : WordOf K D w) (us : List (Str × Str)) (m : ∀ p ∈ us, p ∈ wordL) (h : H tp = some (.tup (us.map fun p => V.ref (He.ga K p.2)))) (k : Q (.bl (us.any fun p => decide (p.1 = w))) H) : rIsXT K a (.ref D) none [.ref a, .ref tp] H Q :=
  ⟨D, tp, _, _, _, rfl, rfl, W.x, rfl, h, clsV_own K us, any_word W us m, k⟩
end L2.BR
namespace L2.BR
open PySem PySem.Spec PyProof.Rows L2.BP
/-- a dict is no list -/
theorem c_eqDE {K : PySem.W.Frag} {H : Hp} {Q : VK} {a b : Addr} {kvs : List (Key × V)} {ys : List V} (h : H a = some (.dK kvs)) (hy : SqL K H b ys) (k : Q (.bl false) H) : rEqU K (.ref a) (.ref b) H Q := .inr (.inr (.inr ⟨a, b, kvs, ys, rfl, rfl, h, hy, k⟩))
theorem eqvAll_len : ∀ {a b : List PyData}, PyData.eqvAll a b = true → a.length = b.length
  | [], [], _ => rfl
  | [], _ :: _, h => by simp [PyData.eqvAll] at h
  | _ :: _, [], h => by simp [PyData.eqvAll] at h
  | _ :: a, _ :: b, h => by
    simp only [PyData.eqvAll, Bool.and_eq_true] at h
    rw [List.length_cons, List.length_cons, eqvAll_len h.2]
theorem dpAll_len {K : PySem.W.Frag} {H : Hp} : ∀ {xs : List V} {ds : List PyData}, DpAll K H xs ds → xs.length = ds.length
  | _, _, .nil => rfl
  | _, _, .cons _ t => by rw [List.length_cons, List.length_cons, dpAll_len t]
/-- lists of other lengths -/
theorem c_eqLen {K : PySem.W.Frag} {H : Hp} {Q : VK} {n m : Nat} {a b : Addr} {xs ys : List V} (h1 : SqL K H a xs) (h2 : SqL K H b ys) (t : LD K H n xs) (u : LD K H m ys) (hn : n ≤ 60) (hm : m ≤ 60) (hl : xs.length ≠ ys.length) (k : Q (.bl false) H) : rEqU K (.ref a) (.ref b) H Q := by
  obtain ⟨ds, a1, a2, a3⟩ := t
  obtain ⟨es, b1, b2, b3⟩ := u
  have c : PyData.canLay0 (.list ds) = true := by simpa [PyData.canLay0] using a2
  have e : PyData.depth (.list ds) ≤ n + 1 := by simp only [PyData.depth]; omega
  have c' : PyData.canLay0 (.list es) = true := by simpa [PyData.canLay0] using b2
  have e' : PyData.depth (.list es) ≤ m + 1 := by simp only [PyData.depth]; omega
  refine c_eqD (.lst h1 a1) (.lst h2 b1) (shapedS c e (by omega)) (shapedS c' e' (by omega)) ?_
  have z : PyData.eqv (.list ds) (.list es) = false := by
    rw [PyData.eqv]
    cases z : PyData.eqvAll ds es with
    | false => rfl
    | true => exact absurd (by rw [dpAll_len a1, dpAll_len b1]; exact eqvAll_len z) hl
  rw [z]
  exact k
end L2.BR
namespace L2.BP
open PySem PySem.Spec PyProof.Rows
/-! ### sorted(range(n), key=f) -/
section
variable {prog : Program} {w : World} {A : Around} {E : Value → Shared → Prop} {s : Shared}
theorem each_range {acc : Array Value} {n : Nat} (h : ItemsOf (fun (i : Nat) (v : Value) => ∃ t, v = Value.int (0 + (i : Int) * 1) t) acc n) : PySem.W.EachIs (fun (v : Value) (i : Nat) => ∃ t, v = Value.int ((i : Nat) : Int) t) acc.toList (List.range n) := by
  obtain ⟨hz, h⟩ := h
  have key : ∀ (l : List Value) (k : Nat), (∀ j v, l[j]? = some v → ∃ t, v = Value.int (((k + j : Nat) : Nat) : Int) t) → PySem.W.EachIs (fun (v : Value) (i : Nat) => ∃ t, v = Value.int ((i : Nat) : Int) t) l (List.range' k l.length) := by
    intro l
    induction l with
    | nil => intro k _; exact .nil
    | cons x r ih =>
      intro k hk
      rw [List.length_cons, List.range'_succ]
      refine .cons (by obtain ⟨t, e⟩ := hk 0 x rfl; exact ⟨t, e⟩) (ih (k + 1) fun j v e => ?_)
      obtain ⟨t, e2⟩ := hk (j + 1) v e
      exact ⟨t, by rw [e2, show k + (j + 1) = k + 1 + j by omega]⟩
  have z := key acc.toList 0 fun j v e => by
    obtain ⟨t, e2⟩ := h j v (by rw [← Array.getElem?_toList]; exact e)
    exact ⟨t, by rw [e2]; simp⟩
  rw [Array.length_toList, hz, ← List.range_eq_range'] at z
  exact z
theorem sorted_range_key {r : Addr} {n : Nat} {t u v : Tok} {f : Addr} {Q : Value → Shared → Prop} (ws : Nat → Int) (hh : A.handled = none) (hr : IsRange s.heap r 0 ((n : Nat) : Int) 1 t u v) (hn : n ≤ 100000) (hu : A.units + 2 < cLine)
    (turn : ∀ (i : Nat) (t : Tok) (h : Heap) (tk : Nat), i < n → (∀ b o, s.heap.get? b = some o → h.get? b = some o) → wpAny (model prog w) A.in1.in1 (call (.ref f) [.int ((i : Nat) : Int) t]) (PySem.W.KeyPure (.int (ws i)) { s with heap := h, toks := tk }) (fun _ _ => False) { s with heap := h, toks := tk })
    (h : ∀ (h1 : Heap) (out : List Value) (c : Nat) (h' : Heap) (tk : Nat), (∀ b o, s.heap.get? b = some o → h1.get? b = some o) → (∀ b o, h1.get? b = some o → h'.get? b = some o) → h'.get? h1.objs.size = some (seqObj "list" (List.toArray out) c) →
      PySem.W.EachIs (fun (v : Value) (i : Nat) => ∃ t, v = Value.int ((i : Nat) : Int) t) out ((List.range n).mergeSort fun a b => decide (ws a ≤ ws b)) → Q (.ref h1.objs.size) { s with heap := h', toks := tk }) :
    wpAny (model prog w) A (call (.builtin "sorted") [.ref r] [(Str.ofString "key", .ref f)]) Q E s := by
  have line : n ≤ sizeLine := small6' (by omega)
  refine call_function_entry_kw kind_sorted plain_sorted entry_sorted (ksk_s1 _ _) ?_
  unfold Builtin.«sorted»
  refine wpAny_bind (m := checkCount "sorted" 1 1 _) (wpAny_pure ?_)
  refine wpAny_bind (L2.collect_range (n := n) hh hr ?_ ?_ (by omega) fun h1 tk1 acc k1 hI => ?_)
  · exact small_one (by decide) (by decide) (by omega) (by omega)
  · rw [rangeSize_one]
    split <;> omega
  have hE := each_range hI
  have hl : acc.toList.length = n := by rw [Array.length_toList]; exact hI.1
  refine wpAny_bind (wpAny_newList ?_ (by rw [hl]; exact line))
  have ho : (h1.push (seqObj "list" acc.toList.toArray 0)).get? h1.objs.size = some (seqObj "list" acc.toList.toArray 0) := Heap.get?_push_size _ rfl
  have up1 : ∀ {g : Heap}, PySem.W.KeepsBut h1.objs.size (h1.push (seqObj "list" acc.toList.toArray 0)) g → ∀ b o, h1.get? b = some o → g.get? b = some o := fun {g} kp b o q =>
    kp b o (Nat.ne_of_lt (Heap.lt_size q)) (Heap.get?_push_of_some _ q)
  have up : ∀ {g : Heap}, PySem.W.KeepsBut h1.objs.size (h1.push (seqObj "list" acc.toList.toArray 0)) g → ∀ b o, s.heap.get? b = some o → g.get? b = some o := fun {g} kp b o q =>
    kp b o (Nat.ne_of_lt (Heap.lt_size (k1 b o q))) (Heap.get?_push_of_some _ (k1 b o q))
  refine wpAny_bind (wpAny_holding (PySem.W.list_sort_key_data (b := false) (s := { s with heap := h1.push (seqObj "list" acc.toList.toArray 0), toks := tk1 }) (fun i : Nat => PyData.int (ws i)) ho hE (PySem.W.AllAlike.of fun _ _ => by simp [PySem.W.alike]) (PySem.W.Sortable.others fun b => ⟨by simp, by simp⟩) (by rw [List.length_range]; exact line) (fun i _ => ?_) (ksk_l1 _ _) (ksk_t1 _ _)
    (fun v i hR hx h tk kp => ?_) fun out c h' tk kp hD hol eo => ?_))
  · show A.units + 1 + 1 + 0 < cLine
    omega
  · obtain ⟨t, rfl⟩ := hR
    exact turn i t h tk (List.mem_range.mp hx) (up kp)
  · refine wpAny_pure ⟨_, rfl, ?_⟩
    rw [PySem.W.dataLe_int] at eo
    exact h h1 out c h' tk k1 (up1 kp) hD eo
/-- lambda a: l[a], l a name of the def around it: what a call of it tells -/
theorem lam_at_key {f c' c0 lst : Addr} {qual l a : Str} {params : Arguments} {p1 p2 p3 : Pos} {scope : Scope} {clos : List (Str × Addr)} {pm ctv : Value} {its : Array Value} {i : Nat} {t : Tok} {x : Int} {tx : Tok}
    (hd : A.depth < recursionLimit) (lim : s.heap.NoLimit) (hf : s.heap.get? f = some (PySem.W.kla_obj "<lambda>" qual params (.Subscript (.Name l p1) (.Name a p2) p3) scope clos pm c' ctv)) (hcode : s.heap.CodeRec (.ref c') qual)
    (hkind : scope.kind = .function) (hco : scope.isCoroutine = false) (hgen : scope.isGenerator = false) (hcell : ∀ y ∈ scope.names, y.2 ≠ .cell) (hla : scope.names.lookup a = some .local) (hll : scope.names.lookup l = some .free)
    (hcl : clos.lookup l = some c0) (hc0 : s.heap.IsCell c0 (some (.ref lst))) (hl : s.heap.IsList lst its) (hi : its[i]? = some (.int x tx)) (hi63 : i ≤ 100000)
    (hbind : ∀ u, bindArgs (PySem.W.kla_fn "<lambda>" qual params (.Subscript (.Name l p1) (.Name a p2) p3) scope clos pm (.ref c') ctv) ⟨[u], []⟩ = pure [(a, u)])
    (hda : (a == ("__debug__" : Str)) = false := by decide) (hdl : (l == ("__debug__" : Str)) = false := by decide) (hcd : (l == ("__classdict__" : Str)) = false := by decide) :
    wpAny (model prog w) A (call (.ref f) [.int ((i : Nat) : Int) t]) (PySem.W.KeyPure (.int x) s) (fun _ _ => False) s := by
  refine wpAny_call (PySem.W.kla_callFunE hd hf rfl hco hgen rfl hcode ?_)
  rw [hbind]
  refine wpAny_pure (wpAny_newFunctionEnv hcell (fun y hy => ?_) (fun h₁ hns hsb => ⟨lim.fresh _ hsb, ?_⟩) hkind)
  · have e : y = (a, Value.int ((i : Nat) : Int) t) := by simpa using hy
    rw [e]
    exact hla
  have kp : ∀ b o, s.heap.get? b = some o → h₁.get? b = some o := fun b o e => hsb.extBut b o (Nat.ne_of_lt (Heap.lt_size e)) (Heap.get?_push_of_some _ e)
  obtain ⟨oc, e1, e2⟩ := hc0
  obtain ⟨o, e3, e4, n, e5⟩ := hl
  refine PySem.W.kla_codeExpr (Subscript_ (wpAny_Name (wpAny_loadName_free hkind hll hcl ⟨oc, kp _ _ e1, e2⟩ ?_ hcd) hdl))
  refine wpAny_Name (wpAny_loadName_local hkind hla hns (v := .int ((i : Nat) : Int) t) ?_ ?_) hda
  · show List.lookup a ([(a, Value.int ((i : Nat) : Int) t)].reverse) = _
    simp [List.lookup]
  · have hl1 : h₁.IsList lst its := ⟨o, kp _ _ e3, e4, n, e5⟩
    refine subscriptTail_builtinR (x := .int x tx) hl1.typeIs slot_list_getitem.lookup (wpAny_getItem_list hl1 (by omega) (by omega) (by rw [Int.toNat_natCast]; exact hi) ⟨rfl, ?_⟩) rfl
    exact ⟨h₁, _, rfl, kp, .int _ _⟩
end
end L2.BP
namespace L2.BP
open PySem PySem.Spec PyProof.Rows LamX
/-! ### a lambda is made: its maker's table of code objects is an own object -/
/-- the table: what it tells are code objects of that name -/
def TabC (B : Hp) (ps : Array Value) (q : Str) : Prop := TriplesOk ps.toList ∧ ∀ (pos : Pos) (cv : Value), codeAmong pos ps.toList = some cv → ∃ c, cv = .ref c ∧ B c = some (CodeO c q)
theorem TabC.same {B B2 : Hp} {ps : Array Value} {q : Str} (h : TabC B ps q) (e : Same B B2) : TabC B2 ps q := ⟨h.1, fun pos cv hc => (h.2 pos cv hc).imp fun c z => ⟨z.1, e _ _ z.2⟩⟩
theorem TabC.nil {B : Hp} {q : Str} : TabC B #[] q := ⟨True.intro, fun pos cv hc => by
  have z : codeAmong pos [] = some cv := hc
  simp [codeAmong] at z⟩
section
variable {X : Cx} {pins : List (Addr × Obj)} {σ : L2.St} {H B : Hp} {L : Pic} {s : Shared}
theorem lam_make3 {c P : Addr} {ps : Array Value} {params : Arguments} {body : Expr} {scope : Scope} {pos : Pos} {E : Value → Shared → Prop} {Q : Value → Shared → Prop} (I : Inv X pins σ H s) (TB : TabB X.base X.mg c P) (hcode : X.env.code = .ref c)
    (hs : Hs B ((P, .tbl ps) :: L) H) (hT : TabC B ps (X.env.qual ++ "<lambda>")) (hdef : defaultsOf params X.env = ([], [])) (hfree : ∀ y ∈ scope.names, y.2 = .free → ∃ c, X.env.cells.lookup y.1 = some c)
    (h : ∀ (f c' : Addr) (pm ctv : Value) (B2 : Hp) (ps2 : Array Value) (H1 : Hp) (s' : Shared), Inv X pins σ H1 s' → Same B B2 → TabC B2 ps2 (X.env.qual ++ "<lambda>") → Hs B2 ((P, .tbl ps2) :: L) H1 → Same H1 H1 →
      s'.heap.get? f = some (PySem.W.kla_obj "<lambda>" (X.env.qual ++ "<lambda>") params body scope (cloFrom X.env.cells scope.names []) pm c' ctv) → s'.heap.CodeRec (.ref c') (X.env.qual ++ "<lambda>") → (∀ b o, s.heap.get? b = some o → H b = none → s'.heap.get? b = some o) → Q (.ref f) s') :
    wpAny (model X.prog X.w) X.A (eval (.Lambda params body scope pos) X.env) Q E s := by
  have hP : H P = some (.tbl ps) := hs.get (.head _)
  have bP : s.heap.BuiltinsAt X.mg P := TB.bm.keeps I.bk
  have hP' : s.heap.get? P = some { cls := .none, data := .fields ps } := I.hok P _ hP
  refine PySem.W.kla_eval hdef ?_
  cases hc : codeAmong pos ps.toList with
  | some cv =>
    obtain ⟨c', rfl, hco⟩ := hT.2 pos cv hc
    obtain ⟨⟨oc, vs, t, e1, e2, e3⟩, _⟩ := (show ObjOk X.prog X.w H s.heap c' (CodeO c' (X.env.qual ++ "<lambda>")) from I.hok c' _ (hs.ex _ _ hco))
    refine PySem.W.kla_makeFunctionHit (mg := X.mg) (c := c) (P := P) (ps := ps) (closure_ok hfree) I.ok.glob (I.mod.glob.keeps I.bk) hcode (TB.code.keeps I.bk) hP' hT.1 hc bP fun ctv h' tk hx hsz => ?_
    have kp : ∀ b o, s.heap.get? b = some o → (h'.push (PySem.W.kla_obj "<lambda>" (X.env.qual ++ "<lambda>") params body scope (cloFrom X.env.cells scope.names []) ((X.mg "__name__").getD .none) c' ctv)).get? b = some o := fun b o e => Heap.get?_push_of_some _ (hx b o e)
    exact h h'.objs.size c' ((X.mg "__name__").getD .none) ctv B ps H _ (I.kept kp) (Same.refl _) hT hs (Same.refl _) (Heap.get?_push_size _ rfl) ⟨c', oc, vs, t, rfl, kp _ _ e1, e2, e3⟩ fun b o e _ => kp b o e
  | none =>
    refine PySem.W.kla_makeFunction (mg := X.mg) (c := c) (P := P) (ps := ps) (closure_ok hfree) I.ok.glob (I.mod.glob.keeps I.bk) hcode (TB.code.keeps I.bk) hP' hT.1 hc TB.gP bP fun c' ctv h' tk hx hge hlt hrec htb => ?_
    obtain ⟨c2, oc, vs, t, e2, hoc, hd, hv⟩ := hrec
    cases e2
    have nC : H c' = none := I.hok.fresh hge
    have I1 := inv_table (t' := tk) (more := #[rawInt pos.line, rawInt pos.col, .ref c']) (q := X.env.qual ++ "<lambda>") (h' := h'.push (PySem.W.kla_obj "<lambda>" (X.env.qual ++ "<lambda>") params body scope (cloFrom X.env.cells scope.names []) ((X.mg "__name__").getD .none) c' ctv)) I hP
      (fun b o hb e => Heap.get?_push_of_some _ (hx b o hb e)) (Heap.get?_push_of_some _ htb) hge ⟨oc, vs, t, Heap.get?_push_of_some _ hoc, hd, hv⟩
    have hs1 : Hs B ((P, .tbl (ps ++ #[rawInt pos.line, rawInt pos.col, .ref c'])) :: L) (upd H P (.tbl (ps ++ #[rawInt pos.line, rawInt pos.col, .ref c']))) := hs.u0
    have nP : P ≠ c' := fun e => by rw [e, nC] at hP; cases hP
    have hs2 := hs1.new (o := CodeO c' (X.env.qual ++ "<lambda>")) (p := c') (by rw [upd_ne (Ne.symm nP)]; exact nC)
    have nB : B c' = none := hs2.nb (.head _)
    refine h h'.objs.size c' ((X.mg "__name__").getD .none) ctv _ _ _ _ I1 (same_upd (o := CodeO c' (X.env.qual ++ "<lambda>")) nB) ⟨?_, fun p' cv hcv => ?_⟩ hs2.fix (Same.refl _) (Heap.get?_push_size _ rfl) ⟨c', oc, vs, t, rfl, Heap.get?_push_of_some _ hoc, hd, hv⟩ fun b o e n => Heap.get?_push_of_some _ (hx b o (fun z => by rw [z, hP] at n; cases n) e)
    · rw [show (ps ++ #[rawInt pos.line, rawInt pos.col, Value.ref c']).toList = ps.toList ++ [rawInt pos.line, rawInt pos.col, .ref c'] by simp]
      exact PySem.TriplesOk_snoc _ _ _ _ hT.1
    · rw [show (ps ++ #[rawInt pos.line, rawInt pos.col, Value.ref c']).toList = ps.toList ++ [rawInt pos.line, rawInt pos.col, .ref c'] by simp] at hcv
      rcases among_app _ hT.1 hcv with z | z
      · obtain ⟨c0, z1, z2⟩ := hT.2 p' cv z
        exact ⟨c0, z1, same_upd nB _ _ z2⟩
      · exact ⟨c', z, upd_same⟩
/-- the places 0.., by what stands there, the lesser first -/
def idxBy (ws : List Int) : List V := ((List.range ws.length).mergeSort fun a b => decide (ws.getD a 0 ≤ ws.getD b 0)).map fun i => V.int ((i : Nat) : Int)
theorem vals_idx {out : List Value} {l : List Nat} (h : PySem.W.EachIs (fun (v : Value) (i : Nat) => ∃ t, v = Value.int ((i : Nat) : Int) t) out l) : Vals (l.map fun i => V.int ((i : Nat) : Int)) out := by
  induction h with
  | nil => exact .nil
  | cons e _ ih => exact .cons e ih
theorem vals_at {ws : List Int} : ∀ {its : List Value}, Vals (ws.map V.int) its → ∀ {i : Nat}, i < ws.length → ∃ t, its.toArray[i]? = some (.int (ws.getD i 0) t) := by
  induction ws with
  | nil => intro its _ i h; cases h
  | cons w r ih =>
    intro its h i hi
    cases h with
    | cons e t =>
      cases i with
      | zero =>
        obtain ⟨t, rfl⟩ := e
        exact ⟨t, by simp⟩
      | succ i =>
        obtain ⟨t2, e2⟩ := ih t (by simpa using hi)
        exact ⟨t2, by simpa using e2⟩
/-- what the lambda asks of its maker's scope -/
structure LamAt (sc scope : Scope) (l a : Str) : Prop where
  kind : scope.kind = .function
  co : scope.isCoroutine = false
  gen : scope.isGenerator = false
  cell : ∀ y ∈ scope.names, y.2 ≠ .cell
  la : scope.names.lookup a = some .local
  ll : scope.names.lookup l = some .free
  free : ∀ y ∈ scope.names, y.2 = .free → sc.names.lookup y.1 = some .cell
def tSortL (K : PySem.W.Frag) (P : Addr) (q : Str) (i : Nat) (ta : TA) : TE := fun σ H Q => ta σ H fun vs H1 => ∃ (B : Hp) (L : Pic) (ps : Array Value) (rg l : Addr) (ws : List Int), vs = [.ref rg] ∧ Hs B ((P, .tbl ps) :: (rg, .rng 0 ((ws.length : Nat) : Int)) :: L) H1 ∧ TabC B ps q ∧ ws.length ≤ 100000 ∧
  σ[i]? = some (some (.ref l)) ∧ (∀ (B2 : Hp) (ps2 : Array Value) (H2 : Hp), Same B B2 → Hs B2 ((P, .tbl ps2) :: (rg, .rng 0 ((ws.length : Nat) : Int)) :: L) H2 → SqL K H2 l (ws.map V.int)) ∧
  ∀ (B2 : Hp) (ps2 : Array Value) (p : Addr) (H3 : Hp), Same B B2 → TabC B2 ps2 q → Hs B2 ((p, .lst (idxBy ws)) :: (P, .tbl ps2) :: L) H3 → Q (.ref p) H3
theorem pe_sortL {c P : Addr} {i : Nat} {l a : Str} {params : Arguments} {p p1 p2 p3 lpos kpos pos : Pos} {scope : Scope} {e : Expr} {ta : TA} (hg : Gl X "sorted") (hm : X.mg "sorted" = none) (ha : PA X [e] ta) (hc : X.calm = true) (hr : Room 1 X.A)
    (TB : TabB X.base X.mg c P) (hcode : X.env.code = .ref c) (S : LamAt X.env.scope scope l a) (hN : X.N[i]? = some l) (hl : X.env.scope.names.lookup l = some .cell)
    (hdef : defaultsOf params X.env = ([], []))
    (hbind : ∀ (f c' : Addr) (pm ctv u : Value), bindArgs (PySem.W.kla_fn "<lambda>" (X.env.qual ++ "<lambda>") params (.Subscript (.Name l p1) (.Name a p2) p3) scope (cloFrom X.env.cells scope.names []) pm (.ref c') ctv) ⟨[u], []⟩ = pure [(a, u)])
    (he : backTo pos (starEach [e] X.env) = (false, eval e X.env) :: backTo pos (starEach [] X.env) := by rfl) (hpl : (backTo pos (starEach [e] X.env)).any (·.1) = false := by rfl)
    (hda : (a == ("__debug__" : Str)) = false := by decide) (hdl : (l == ("__debug__" : Str)) = false := by decide) (hcd : (l == ("__classdict__" : Str)) = false := by decide) :
    PE X (.Call (.Name "sorted" p) [e] [⟨some "key", .Lambda params (.Subscript (.Name l p1) (.Name a p2) p3) scope lpos, kpos⟩] pos) (tSortL X.K P (X.env.qual ++ "<lambda>") i ta) := by
  refine ⟨fun pins s σ H Q I h => ?_⟩
  refine wpAny_Call_Name_kw (ld_blt I hg hm bb_sorted ?_ (by decide) (by decide))
  refine PyProof.Rows.callWith_kw (thn (ha.run pos pins s σ H _ I h) fun us s1 ⟨vs, H1, I1, r1, B, L, ps, rg, lst, ws, ev, hs, hT, hw, hσ, hq, q⟩ => ?_) he hpl (by rfl) (by rfl)
  subst ev
  obtain ⟨u, rfl, e1⟩ := vals_one r1
  cases e1
  have hfree : ∀ y ∈ scope.names, y.2 = .free → ∃ c, X.env.cells.lookup y.1 = some c := fun y hy e => I1.ok.has _ (.inl (S.free y hy e))
  show wpAny _ _ (evalAll [do let v ← eval (.Lambda params (.Subscript (.Name l p1) (.Name a p2) p3) scope lpos) X.env; standAt pos; pure v]) _ _ s1
  refine wpAny_evalAll_cons (wpAny_bind (lam_make3 I1 TB hcode hs hT hdef hfree fun f c' pm ctv B2 ps2 H2 s2 I2 eB hT2 hs2 _ hf hrec _ => wpAny_bind (wpAny_standAt (wpAny_pure (wpAny_evalAll_nil ?_)))))
  show wpAny _ _ (call (.builtin "sorted") [.ref rg] [(Str.ofString "key", .ref f)]) _ _ s2
  -- what the lambda looks at
  have hS := hq _ _ _ eB hs2
  obtain ⟨its, rv, pl, hz⟩ := I2.list hS
  obtain ⟨m, _, loc⟩ := I2.loc
  obtain ⟨w', rw', place⟩ := loc i l (.ref lst) hN hσ (.inr (.inl hl))
  cases rw'
  obtain ⟨c3, hc3, hcell⟩ : ∃ c3, X.env.cells.lookup l = some c3 ∧ s2.heap.IsCell c3 (some (.ref lst)) := by
    rcases place with ⟨k', _⟩ | ⟨_, c3, e', z⟩
    · have k' : X.env.scope.names.lookup l = some .local := k'
      rw [hl] at k'
      cases k'
    · exact ⟨c3, e', z⟩
  have hclo : (cloFrom X.env.cells scope.names []).lookup l = some c3 := by
    obtain ⟨c4, h4⟩ := mem_lookup (cloFrom_has (cells := X.env.cells) (acc := []) (PySem.mem_of_lookup S.ll))
    rcases cloFrom_mem (PySem.mem_of_lookup h4) with hm | ⟨_, z⟩
    · cases hm
    · rw [h4, z, hc3]
      rfl
  obtain ⟨t, u, v, hrg⟩ := (show ObjOk X.prog X.w H2 s2.heap rg (.rng 0 ((ws.length : Nat) : Int)) from I2.hok rg _ (hs2.get (.tail _ (.head _))))
  refine sorted_range_key (n := ws.length) (f := f) (fun i => ws.getD i 0) (I2.ok.hd hc) hrg hw (by have := hr.un; show X.A.units + 2 < cLine; omega) (fun i t h tk hi kp => ?_) fun h1 out c1 h' tk k1 k2 hD eo => ?_
  · obtain ⟨tx, hx⟩ := vals_at rv hi
    obtain ⟨oc, z1, z2⟩ := hcell
    obtain ⟨o, z3, z4, z5⟩ := pl.isList
    exact lam_at_key (s := { s2 with heap := h, toks := tk }) (by have := hr.dp; show X.A.depth < _; omega) (I2.nolimit.keeps kp) (kp _ _ hf) (hrec.keeps kp) S.kind S.co S.gen S.cell S.la S.ll hclo ⟨oc, kp _ _ z1, z2⟩ ⟨o, kp _ _ z3, z4, z5⟩ hx (by omega) (fun u => hbind f c' pm ctv u) hda hdl hcd
  · have I3 : Inv X pins σ H2 { s2 with heap := h1, toks := s2.toks } := I2.kept k1
    have fr : H2 h1.objs.size = none := I3.hok.fresh (Nat.le_refl _)
    have hsl : (idxBy ws).length ≤ sizeLine := by
      unfold idxBy
      rw [List.length_map, List.length_mergeSort, List.length_range]
      exact small6' (by omega)
    have hs3 := hs2.new (o := .lst (idxBy ws)) fr
    exact ⟨.ref h1.objs.size, _, I3.laid (o := .lst (idxBy ws)) (t' := tk) k2 (Nat.le_refl _) ⟨hsl, out, c1, vals_idx eo, hD⟩, rfl, q B2 ps2 _ _ eB hT2 hs3.drop2⟩
end
end L2.BP
namespace L2.BP
open PySem PySem.Spec PyProof.Rows
/-! ### a def whose code object is told -/
theorem FunD.okC {P : Program} {w : World} {K : PySem.W.Frag} {mg : Str → Option Value} {base : Heap} {x qual : Str} {params : Arguments} {body : List Stmt} {scope : Scope} {dvs : List V} {kws : List (Str × V)} {fd : FuncData} {CX : CXT} {N ps : List Str} {k : Nat} {sp : Sp} (p : He.Defn)
    (F : FunD K x qual params body scope dvs kws (He.fAd K p) fd) (S : FnScope N ps scope) (len : ∀ vs H Q E, sp vs H Q E → vs.length = ps.length)
    (hbody : ∀ (cdv : Value) (A : Around) (outer : List Env) (s : Shared) (H : Hp) (vs : List V) (Q : VK) (E : XK), cdv = .ref (He.cT K p).1 → Room k (A.deeper (envOfC qual scope s.heap.objs.size (He.fAd K p) cdv)) → sp vs H Q E →
      ∃ t, PSs (cxOf CX P w K mg base N qual scope (He.fAd K p) cdv A outer s H E) body t ∧ t { nx := fun _ H' => Q .non H', rt := Q } (start N vs) H) : FnOk P w K mg base CX (k + 1) (He.fAd K p) fd ps sp := by
  obtain ⟨oc, od, dV, kV, doc, pm, an, cdv, ct, osl, rfl, lk, hcd, _, _⟩ := F.ex
  obtain ⟨c, rfl⟩ := He.codeIn_ref hcd
  exact fn_of lk hcd S len fun A outer s H vs Q E hr hsp => hbody (.ref c) A outer s H vs Q E (congrArg Value.ref (He.codeOf_eq lk rfl).symm) hr hsp
/-- range(n) as a value -/
def rRng1 : List V → Hp → VK → Prop := fun vs H Q => ∃ i, vs = [V.int i] ∧ ∀ p, H p = none → Q (.ref p) (upd H p (.rng 0 i))
theorem cr_rng1 {X : Cx} : CallR X (.type "range") rRng1 := by
  intro pins s σ H vs us Q I r h
  obtain ⟨i, rfl, q⟩ := h
  obtain ⟨u, rfl, e⟩ := vals_one r
  obtain ⟨t, rfl⟩ := e
  refine call_range_1 ⟨.ref s.heap.objs.size, upd H s.heap.objs.size (.rng 0 i), I.laid (t' := s.toks + 1 + 1) (fun b o e => Heap.get?_push_of_some _ e) (Nat.le_refl _) ?_, rfl, q _ (I.hok.fresh (Nat.le_refl _))⟩
  exact ⟨_, _, _, Heap.get?_push_size _ rfl⟩
theorem bt_range : bootBuiltins "range" = some (.type "range") := by decide +kernel
section
variable {K : PySem.W.Frag} {H B : Hp} {L : Pic} {σ : St} {Q : VK}
theorem c_rngV {i : Int} (hs : Hs B L H) (k : ∀ p H', Hs B ((p, .rng 0 i) :: L) H' → Q (.ref p) H') : rRng1 [.int i] H Q := ⟨i, rfl, fun p hp => k p _ (hs.new hp)⟩
def SortO (K : PySem.W.Frag) (P : Addr) (q : Str) (i : Nat) (σ : St) (vs : List V) (H1 : Hp) (Q : VK) : Prop := ∃ (B : Hp) (L : Pic) (ps : Array Value) (rg l : Addr) (ws : List Int), vs = [.ref rg] ∧ Hs B ((P, .tbl ps) :: (rg, .rng 0 ((ws.length : Nat) : Int)) :: L) H1 ∧ TabC B ps q ∧ ws.length ≤ 100000 ∧
  σ[i]? = some (some (.ref l)) ∧ (∀ (B2 : Hp) (ps2 : Array Value) (H2 : Hp), Same B B2 → Hs B2 ((P, .tbl ps2) :: (rg, .rng 0 ((ws.length : Nat) : Int)) :: L) H2 → SqL K H2 l (ws.map V.int)) ∧
  ∀ (B2 : Hp) (ps2 : Array Value) (p : Addr) (H3 : Hp), Same B B2 → TabC B2 ps2 q → Hs B2 ((p, .lst (idxBy ws)) :: (P, .tbl ps2) :: L) H3 → Q (.ref p) H3
theorem c_sortL {P : Addr} {q : Str} {i : Nat} {ta : TA} (k : ta σ H fun vs H1 => SortO K P q i σ vs H1 Q) : tSortL K P q i ta σ H Q := k
end
end L2.BP
namespace L2.BP
open PySem PySem.Spec PyProof.Rows
/-! ### xs.insert(i, y), x in a list of data, comprehensions over two lists -/
def rInsert : V → List V → Hp → VK → Prop := fun x vs H Q => ∃ (l : Addr) (xs : List V) (i : Int) (y : V), x = .ref l ∧ vs = [.int i, y] ∧ H l = some (.lst xs) ∧ xs.length < sizeLine ∧ 0 ≤ i ∧ i < 2 ^ 63 ∧
    Q .non (upd H l (.lst (xs.take i.toNat ++ [y] ++ xs.drop i.toNat)))
section
variable {K : PySem.W.Frag} {H B : Hp} {L : Pic} {Q : VK} {a : Addr} {xs : List V} {y : V}
theorem c_insert0 {i : Nat} (hs : Hs B ((a, .lst xs) :: L) H) (hz : xs.length < sizeLine) (hi : i < 2 ^ 63) (k : ∀ H', Hs B ((a, .lst (xs.take i ++ [y] ++ xs.drop i)) :: L) H' → Q .non H') : rInsert (.ref a) [.int ((i : Nat) : Int), y] H Q :=
  ⟨a, xs, _, y, rfl, rfl, hs.get (.head _), hz, Int.natCast_nonneg _, by omega, by rw [Int.toNat_natCast]; exact k _ hs.u0⟩
theorem c_inD {b : Addr} {ys : List V} {d : PyData} {ds : List PyData} (h1 : Dp K H y d) (h2 : SqL K H b ys) (h3 : DpAll K H ys ds) (c1 : SeqAt.shaped d = true) (c2 : SeqAt.shaped (.list ds) = true) (k : Q (.bl (ds.any fun z => PyData.eqv z d)) H) : L2.rInD K y (.ref b) H Q :=
  ⟨d, ds, h1, .lst h2 h3, c1, c2, k⟩
end
section
variable {α β : Type} {K : PySem.W.Frag} {a b : Addr} {g : TG} {tt : TT} {te tl : TE} {σ : St} {H B : Hp} {L : Pic} {vs : List Nat}
/-- what a comprehension by places has so far -/
def LcI (I : Nat → List V → Hp → Prop) (B : Hp) (L : Pic) (D : Addr) (i : Nat) : Hp → Prop := fun H' => ∃ acc B', I i acc B' ∧ Same B B' ∧ Hs B' ((D, .lst acc) :: L) H'
theorem c_lcZ {P : Addr → Hp → Prop} (f : α → V) (f2 : β → V) (l : List α) (l2 : List β) (hl : l.length = l2.length) (I : Nat → List V → Hp → Prop) (hs : Hs B L H) (h0 : I 0 [] B) (hq : ∀ B' H', Same B B' → Hs B' L H' → SqL K H' a (l.map f) ∧ SqL K H' b (l2.map f2))
    (turn : ∀ i x y acc B' D T H', l[i]? = some x → l2[i]? = some y → I i acc B' → Same B B' → Hs B' ((T, .tup [f x, f2 y]) :: (D, .lst acc) :: L) H' → g (.ref T) (wipe σ vs) H' fun σ2 H2 => wipe σ2 vs = wipe σ vs ∧ tt σ2 H2 fun b H3 =>
      if b = true then te σ2 H3 fun y H4 => ∃ acc, H4 D = some (.lst acc) ∧ acc.length < sizeLine ∧ LcI I B L D (i + 1) (upd H4 D (.lst (acc ++ [y]))) else LcI I B L D (i + 1) H3)
    (fin : ∀ acc B' D H', I l.length acc B' → Same B B' → Hs B' ((D, .lst acc) :: L) H' → P D H') : LcO (Itz K a b) g tt te vs σ H P := by
  intro D hD
  refine ⟨fun i m H' => m = l.length - i ∧ i ≤ l.length ∧ LcI I B L D i H', ⟨l.length, by simp, Nat.zero_le _, [], B, h0, Same.refl B, hs.new hD⟩, ?_⟩
  rintro i m H' ⟨rfl, hi, acc, B', q, e, h⟩
  obtain ⟨z1, z2⟩ := hq B' H' e h.drop
  by_cases hlt : i < l.length
  · have hlt2 : i < l2.length := by omega
    refine .inr ⟨⟨l.map f, l2.map f2, f l[i], f2 l2[i], z1, z2, by simp [hlt], by simp [hlt2]⟩, LcI I B L D (i + 1), fun H2 p => ⟨_, by omega, rfl, hlt, p⟩, ?_⟩
    rintro v H2 ⟨T, x, y, rfl, hT, rfl, hx, hy⟩
    obtain ⟨x', e1, rfl⟩ := get_map (hx _ z1)
    obtain ⟨y', e2, rfl⟩ := get_map (hy _ z2)
    exact turn i x' y' acc B' D T _ e1 e2 q e (h.new hT)
  · have e' : i = l.length := by omega
    subst e'
    exact .inl ⟨⟨_, _, z1, z2, .inl (by simp)⟩, fin acc B' D H' q e h⟩
end
end L2.BP
namespace L2.BP
open PySem PySem.Spec PyProof.Rows
section
variable {K : PySem.W.Frag} {H B : Hp} {L : Pic} {Q : VK} {a : Addr}
theorem c_sortedI {ns : List Int} (hs : Hs B L H) (h : SqL K H a (ns.map V.int)) (k : ∀ (ms : List Int) p H', ms.Perm ns → ms.Pairwise (· ≤ ·) → Hs B ((p, .lst (ms.map V.int)) :: L) H' → Q (.ref p) H') : L2.rSortedI K [.ref a] H Q :=
  ⟨a, ns, rfl, h, fun ms p h1 h2 hp => k ms p _ h1 h2 (hs.new hp)⟩
theorem c_sortedRev {ns : List Int} (hs : Hs B L H) (h : SqL K H a (ns.map V.int)) (k : ∀ (ms : List Int) p H', ms.Perm ns → ms.Pairwise (fun x y => y ≤ x) → Hs B ((p, .lst (ms.map V.int)) :: L) H' → Q (.ref p) H') : L2.rSortedKw K true [.bl true] [.ref a] [.bl true] H Q :=
  ⟨a, ns, rfl, rfl, h, fun ms p h1 h2 hp => k ms p _ h1 h2 (hs.new hp)⟩
end
end L2.BP
section
open L2.BP
/-! steps, as rows of the tactic that the library names walk_at -/
local macro_rules | `(tactic| walk_at "mem") => `(tactic| first | exact .head _ | exact .tail _ (.head _) | exact .tail _ (.tail _ (.head _)) | exact .tail _ (.tail _ (.tail _ (.head _))) | exact .tail _ (.tail _ (.tail _ (.tail _ (.head _)))) | exact .tail _ (.tail _ (.tail _ (.tail _ (.tail _ (.head _))))))
local macro_rules | `(tactic| walk_at "get") => `(tactic| first | assumption | ((with_reducible apply Hs.get); (· assumption); (· walk_at "mem")) | exact (Hs.ex (by assumption)) _ _ (by assumption))
local macro_rules | `(tactic| walk_at "sq") => `(tactic| first | assumption | ((with_reducible apply Hs.sql); (· assumption); (· walk_at "mem")) | ((with_reducible apply Hs.bl); (· assumption); (· assumption)) | ((with_reducible apply SqL.of); (walk_at "get")))
local macro_rules | `(tactic| walk_at "sqt") => `(tactic| first | assumption | ((with_reducible apply Hs.sqt); (· assumption); (· walk_at "mem")) | ((with_reducible apply Hs.bt); (· assumption); (· assumption)) | ((with_reducible apply SqT.of); (walk_at "get")))
local macro_rules | `(tactic| walk_at "bd") => `(tactic| first | decide | omega | assumption)
local macro_rules | `(tactic| walk_at "cmul") => `(tactic| first | exact .inr ⟨by decide, by decide⟩ | exact .inl ⟨by decide, by decide⟩ | exact .inl ⟨by omega, by omega⟩ | exact .inr ⟨by omega, by omega⟩ | assumption)
local macro_rules | `(tactic| walk_at "yes") => `(tactic| first | rfl | assumption | exact decide_eq_true (by first | assumption | omega) | (simp only [Bool.not_eq_true', decide_eq_true_eq, decide_eq_false_iff_not, Bool.and_eq_true, Bool.or_eq_true] <;> omega))
local macro_rules | `(tactic| walk_at "no") => `(tactic| first | rfl | assumption | exact decide_eq_false (by first | assumption | omega) | (simp only [Bool.not_eq_false', decide_eq_true_eq, decide_eq_false_iff_not, Bool.and_eq_false_iff, Bool.or_eq_false_iff] <;> omega))
local macro_rules | `(tactic| walk_at "look") => `(tactic| first | (with_reducible exact look0) | ((with_reducible apply lookS); (· (decide +kernel)); walk_at "look"))
local macro_rules | `(tactic| walk_at "lookn") => `(tactic| first | (with_reducible exact lookN) | ((with_reducible apply lookNS); (· (decide +kernel)); walk_at "lookn"))
local macro_rules | `(tactic| walk_at "put") => `(tactic| first | (with_reducible exact put0) | (with_reducible exact putN) | ((with_reducible apply putS); (· (decide +kernel)); walk_at "put"))
local macro_rules | `(tactic| walk_at "few") => `(tactic| (exact of_decide_eq_true rfl))
local macro_rules | `(tactic| walk_at "s") => `(tactic| first
  | ((with_reducible apply c_var); (· exact rfl))
  | (with_reducible apply c_c)
  | (with_reducible apply c_op)
  | (with_reducible apply w_seq)
  | (with_reducible apply w_asg)
  | (with_reducible apply w_name)
  | (with_reducible apply w_if)
  | (with_reducible apply c_test)
  | (with_reducible apply c_bl)
  | ((with_reducible apply i_t); (· walk_at "yes"))
  | ((with_reducible apply i_f); (· walk_at "no"))
  | (with_reducible apply c_cons)
  | (with_reducible apply c_nil)
  | (with_reducible apply c_cb)
  | (with_reducible apply c_cl)
  | (with_reducible apply w_ret)
  | (with_reducible apply w_drop)
  | (with_reducible apply w_break)
  | (with_reducible apply w_cont)
  | (with_reducible apply w_retN)
  | (with_reducible apply w_par)
  | (with_reducible apply c_parO)
  | (with_reducible apply c_rev)
  | (with_reducible apply g_sub)
  | (with_reducible apply g_attr)
  | (with_reducible apply c_orT)
  | (with_reducible apply c_lenset)
  | (with_reducible apply c_dget)
  | (with_reducible apply c_tpc)
  | (with_reducible apply c_tpn)
  | ((with_reducible apply c_disp); (· assumption); intro _ _ _)
  | (with_reducible apply w_next)
  | (with_reducible apply c_addI)
  | (with_reducible apply c_sub)
  | ((with_reducible apply c_mulI); (· walk_at "cmul"))
  | ((with_reducible apply c_mod); (· walk_at "bd"))
  | ((with_reducible apply c_div); (· exact ⟨by walk_at "bd", by walk_at "bd"⟩))
  | (with_reducible apply c_lt)
  | (with_reducible apply c_le)
  | (with_reducible apply c_gt)
  | (with_reducible apply c_ge)
  | (with_reducible apply c_eqI)
  | ((with_reducible apply c_eqL); (· walk_at "sq"); (· walk_at "sq"))
  | ((with_reducible apply c_neL); (· walk_at "sq"); (· walk_at "sq"))
  | (with_reducible apply c_neI)
  | (with_reducible apply c_eqB)
  | (with_reducible apply c_neB)
  | (with_reducible apply c_eqS)
  | (with_reducible apply c_neS)
  | (with_reducible apply c_isN)
  | (with_reducible apply c_notN)
  | (with_reducible apply c_isB)
  | (with_reducible apply c_notB)
  | (with_reducible apply c_un)
  | (with_reducible apply c_neg)
  | (with_reducible apply c_and)
  | (with_reducible apply c_or)
  | (with_reducible apply c_xor)
  | ((with_reducible apply c_shr); (· walk_at "bd"))
  | ((with_reducible apply c_shl); (· exact ⟨by walk_at "bd", by walk_at "bd", by walk_at "bd"⟩))
  | (with_reducible apply c_B)
  | (with_reducible apply c_tand)
  | (with_reducible apply c_tor)
  | (with_reducible apply c_tnot)
  | (with_reducible apply c_andV)
  | (with_reducible apply c_orV)
  | (with_reducible apply c_notV)
  | (with_reducible apply c_chain)
  | (with_reducible apply c_if)
  | (with_reducible apply c_isi_ii)
  | (with_reducible apply c_isi_ib)
  | ((with_reducible apply c_lenL); (· walk_at "sq"))
  | ((with_reducible apply c_lenT); (· walk_at "sqt"))
  | (with_reducible apply c_isiS)
  | ((with_reducible apply c_ixL); (· (walk_at "sq")); (· first | exact rfl | assumption))
  | ((with_reducible apply c_ixT); (· (walk_at "sqt")); (· first | exact rfl | assumption))
  | (with_reducible apply c_tup)
  | (with_reducible apply c_lst)
  | ((with_reducible apply c_tupO); (· assumption); (· exact small5' (of_decide_eq_true rfl)); intro _ _ _)
  | ((with_reducible apply c_lstO); (· assumption); (· exact small5' (of_decide_eq_true rfl)); intro _ _ _)
  | ((with_reducible apply w_aug); (· exact rfl))
  | (with_reducible apply w_augS)
  | (with_reducible apply c_ckw)
  | (with_reducible apply c_ipAddI)
  | (with_reducible apply c_ipSub)
  | (with_reducible apply c_intI)
  | (with_reducible apply c_intB)
  | (with_reducible apply c_max2)
  | (with_reducible apply c_mt)
  | ((with_reducible apply c_recv); (· (walk_at "get")); (· (walk_at "lookn")))
  | (with_reducible apply c_tfld)
  | ((with_reducible apply c_fld); (· (walk_at "get")); (· assumption); (· assumption); (· (walk_at "look")))
  | (with_reducible apply w_sfld)
  | (with_reducible apply w_sfldAug)
  | ((with_reducible apply c_fldA); (· (walk_at "get")); (· assumption); (· assumption); (· (walk_at "look")))
  | (with_reducible apply c_radd)
  | (with_reducible apply c_rsub)
  | ((with_reducible apply w_put0); (· assumption); (· assumption); (· assumption); (· (walk_at "few")); (· (walk_at "put")); intro _ _)
  | ((with_reducible apply w_put1); (· assumption); (· assumption); (· assumption); (· (walk_at "few")); (· (walk_at "put")); intro _ _)
  | ((with_reducible apply w_put2); (· assumption); (· assumption); (· assumption); (· (walk_at "few")); (· (walk_at "put")); intro _ _)
  | ((with_reducible apply w_aput0); (· assumption); (· (walk_at "few")); (· (walk_at "put")); intro _ _)
  | ((with_reducible apply w_aput1); (· assumption); (· (walk_at "few")); (· (walk_at "put")); intro _ _)
  | ((with_reducible apply w_aput2); (· assumption); (· (walk_at "few")); (· (walk_at "put")); intro _ _)
  | (with_reducible apply c_bm)
  | (with_reducible apply c_bm0)
  | ((with_reducible apply c_tyL); (· (walk_at "sq")))
  | (with_reducible apply c_sl)
  | (with_reducible apply c_part)
  | (with_reducible apply c_nopart)
  | (with_reducible apply c_i)
  | (with_reducible apply c_lc)
  | (with_reducible apply w_for)
  | (with_reducible apply c_iL)
  | (with_reducible apply c_iT)
  | (with_reducible apply c_iR1)
  | (with_reducible apply c_iR3)
  | (with_reducible apply c_iS)
  | (with_reducible apply c_ssO)
  | (with_reducible apply c_made)
  | ((with_reducible apply c_madeO); (· assumption); intro _ _ _ _)
  | (with_reducible apply c_iR2)
  | (with_reducible apply c_yes)
  | (with_reducible apply g_cons)
  | (with_reducible apply g_nil)
  | ((with_reducible apply g_tup); (· (walk_at "sqt")); (· exact rfl))
  | (with_reducible apply c_mk)
  | ((with_reducible apply c_mkO); (· assumption); intro _ _ _ _)
  | (with_reducible apply c_iE)
  | (with_reducible apply c_iZ)
  | ((with_reducible apply c_iE1); (· walk_at "sq"))
  | ((with_reducible apply c_slL); (· assumption); (· walk_at "sq"); intro _ _ _)
  | ((with_reducible apply c_listL); (· assumption); (· walk_at "sq"); intro _ _ _)
  | (with_reducible apply c_min2))
local macro_rules | `(tactic| walk_at "go") => `(tactic| repeat walk_at "s")
local macro_rules | `(tactic| walk_at "deep") => `(tactic| repeat (first | exact List.Mem.head _ | apply List.Mem.tail))
namespace L2.BR
open PySem PySem.Spec PyProof.Rows L2.BP
variable {K : PySem.W.Frag}
/-! ### the script's cells -/
def cellAt (ns : List Int) (k : Int) : Int := if k < ns.length then ns.getD k.toNat 0 else 0
def sp__law_cell_at (K : PySem.W.Frag) : Sp := fun vs H Q _ => ∃ (a : Addr) (ns : List Int) (k : Int), vs = [.ref a, .int k] ∧ SqL K H a (ns.map V.int) ∧ 0 ≤ k ∧ Q (.int (cellAt ns k)) H
theorem len__law_cell_at {vs : List V} {H : Hp} {Q : VK} {E : XK} (h : sp__law_cell_at K vs H Q E) : vs.length = 2 := by
  obtain ⟨a, ns, k, rfl, _⟩ := h
  rfl
theorem at_ints {ns : List Int} {k : Int} (h0 : 0 ≤ k) (h : k < ns.length) : atI (ns.map V.int) k = some (.int (ns.getD k.toNat 0)) := by
  obtain ⟨n, rfl⟩ := Int.eq_ofNat_of_zero_le h0
  have hn : n < ns.length := by omega
  rw [atI_nat (v := .int (ns.getD n 0))]
  · rfl
  · rw [List.getElem?_map, List.getElem?_eq_getElem hn, List.getD_eq_getElem?_getD, List.getElem?_eq_getElem hn]
    rfl
def t__law_cell_at (K : PySem.W.Frag) (W : WX) : TS :=
  (tSeq (tIfS (tTest (tOp rLtU (tVar 1) (tCB (rLenK K) (tCons (tVar 0) tNil)))) (tRet (tOp (rIx K) (tVar 0) (tVar 1))) tNext)
    (tRet (tC (.int 0))))
theorem rd__law_cell_at {W : WX} {vs : List V} {H : Hp} {Q : VK} {E : XK} (h : sp__law_cell_at K vs H Q E) : t__law_cell_at K W { nx := fun _ H' => Q .non H', rt := Q } (start ["_law_script", "_law_k"] vs) H := by
  obtain ⟨a, ns, k, rfl, hS, h0, q⟩ := h
  have hs := Hs.start H
  unfold t__law_cell_at
  walk_at "go"
  refine i_2 (fun c => ?_) (fun c => ?_)
  · have c := of_decide_eq_true c
    rw [List.length_map] at c
    walk_at "go"
    refine c_ixL (by walk_at "sq") (at_ints h0 c) ?_
    rw [show cellAt ns k = ns.getD k.toNat 0 from if_pos c] at q
    exact q
  · have c := of_decide_eq_false c
    rw [List.length_map] at c
    walk_at "go"
    rw [show cellAt ns k = 0 from if_neg c] at q
    exact q
end L2.BR

namespace L2.BR
open PySem PySem.Spec PyProof.Rows L2.BP
variable {K : PySem.W.Frag} {W : WX} {vs : List V} {H : Hp} {Q : VK} {E : XK}
def sp__law_mixed (K : PySem.W.Frag) : Sp := fun vs H Q _ => ∃ c k : Int, vs = [.int c, .int k] ∧ 0 ≤ k ∧ k ≤ 100000 ∧ ∀ m : Int, 0 ≤ m → Q (.int m) H
theorem len__law_mixed (h : sp__law_mixed K vs H Q E) : vs.length = 2 := by
  obtain ⟨c, k, rfl, _⟩ := h
  rfl
def t__law_mixed (K : PySem.W.Frag) (W : WX) : TS :=
  (tRet (tOp rModU (tOp rMulU (tOp rModU (tOp rMulU (tOp rAddU (tOp rAddU (tVar 0) (tOp rMulU (tOp rMulU (tC (.int 7919)) (tVar 1)) (tVar 1))) (tOp rMulU (tC (.int 104729)) (tVar 1))) (tC (.int 48271))) (tC (.int 2147483647))) (tC (.int 69621))) (tC (.int 2147483629))))
theorem rd__law_mixed (h : sp__law_mixed K vs H Q E) : t__law_mixed K W { nx := fun _ H' => Q .non H', rt := Q } (start ["_law_cell", "_law_k"] vs) H := by
  obtain ⟨c, k, rfl, h0, h1, q⟩ := h
  have hs := Hs.start H
  unfold t__law_mixed
  walk_at "go"
  exact q _ (Int.emod_nonneg _ (by decide))
end L2.BR

namespace L2.BR
open PySem PySem.Spec PyProof.Rows L2.BP
variable {K : PySem.W.Frag} {W : WX} {vs : List V} {H : Hp} {Q : VK} {E : XK}
def Tg.btw (a b : Int) : Tg → Bool
  | .int i => decide (a ≤ i) && decide (i ≤ b)
  | _ => false
def sp_is_between (K : PySem.W.Frag) : Sp := fun vs H Q _ => ∃ (v : V) (g : Tg) (a b : Int), vs = [v, .int a, .int b] ∧ Th K H v g ∧ Q (.bl (Tg.btw a b g)) H
theorem len_is_between (h : sp_is_between K vs H Q E) : vs.length = 3 := by
  obtain ⟨v, g, a, b, rfl, _⟩ := h
  rfl
def t_is_between (K : PySem.W.Frag) (W : WX) : TS :=
  (tRet ((tAndV (tCB (rIsi K) (tCons (tVar 0) (tCons (tC (.ty "int")) tNil))) (tAndV (tNotV (tCB (rIsi K) (tCons (tVar 0) (tCons (tC (.ty "bool")) tNil)))) (tChain rLeU rLeU (tVar 1) (tVar 0) (tVar 2))))))
theorem rd_is_between (h : sp_is_between K vs H Q E) : t_is_between K W { nx := fun _ H' => Q .non H', rt := Q } (start ["thing", "least", "most"] vs) H := by
  obtain ⟨v, g, a, b, rfl, hT, q⟩ := h
  have hs := Hs.start H
  unfold t_is_between
  walk_at "go"
  refine c_isiInt hT ?_
  cases g with
  | int i =>
    walk_at "go"
    refine c_isiBool hT ?_
    cases hT
    walk_at "go"
    simp only [Tg.btw] at q
    cases e : decide (a ≤ i) with
    | false => rw [e] at q; walk_at "go"; exact q
    | true => rw [e] at q; walk_at "go"; exact q
  | bl b => walk_at "go"; refine c_isiBool hT ?_; walk_at "go"; exact q
  | _ => walk_at "go"; exact q
/-! counts -/
def btwV (a b : Int) : V → Bool
  | .int i => decide (a ≤ i) && decide (i ≤ b)
  | _ => false
theorem btw_of {a b : Int} {v : V} {g : Tg} (h : Th K H v g) : Tg.btw a b g = btwV a b v := by cases h <;> rfl
theorem btw_ints {a b : Int} : ∀ {xs : List V}, xs.all (btwV a b) = true → ∃ ns : List Int, xs = ns.map V.int ∧ ∀ n ∈ ns, a ≤ n ∧ n ≤ b
  | [], _ => ⟨[], rfl, fun _ z => nomatch z⟩
  | x :: r, h => by
    rw [List.all_cons, Bool.and_eq_true] at h
    obtain ⟨ns, rfl, hn⟩ := btw_ints h.2
    cases x with
    | int i =>
      have h1 := h.1
      simp only [btwV, Bool.and_eq_true, decide_eq_true_eq] at h1
      refine ⟨i :: ns, rfl, fun n m => ?_⟩
      rcases List.mem_cons.mp m with rfl | m
      · exact h1
      · exact hn n m
    | _ => cases h.1
end L2.BR

namespace L2.BR
open PySem PySem.Spec PyProof.Rows L2.BP
/-! ### bundles -/
abbrev Bun := Int × List Int
def sortB (l : List Bun) : List Bun := l.mergeSort fun a b => decide (a.1 ≤ b.1)
def byTwos : List Bun → List Bun
  | a :: b :: r => (a.1 + b.1, a.2 ++ b.2) :: byTwos r
  | _ => []
def singlesOf (ns : List Int) : List Bun := sortB ((ns.zipIdx.filter fun p => decide (0 < p.1)).map fun p => (p.1, [((p.2 : Nat) : Int)]))
def rowsB (s : List Bun) : Nat → List Bun
  | 0 => s
  | d + 1 => sortB (s ++ byTwos (rowsB s d))
def addAt (ls ps : List Int) : List Int := ps.foldl (fun l p => l.set p.toNat (l.getD p.toNat 0 + 1)) ls
def lenOf (ns : List Int) (most : Nat) : List Int :=
  if (singlesOf ns).length = 1 then (List.replicate ns.length 0).set (((singlesOf ns).getD 0 (0, [])).2.getD 0 0).toNat 1
  else addAt (List.replicate ns.length 0) (((rowsB (singlesOf ns) (most - 1)).take (2 * (singlesOf ns).length - 2)).flatMap (·.2))
theorem addAt_length : ∀ (ps ls : List Int), (addAt ls ps).length = ls.length
  | [], _ => rfl
  | p :: r, ls => by
    show (addAt (ls.set p.toNat _) r).length = _
    rw [addAt_length r, List.length_set]
theorem lenOf_length (ns : List Int) (m : Nat) : (lenOf ns m).length = ns.length := by
  unfold lenOf
  split
  · rw [List.length_set, List.length_replicate]
  · rw [addAt_length, List.length_replicate]
theorem addAt_snoc (ls ps : List Int) (p : Int) : addAt ls (ps ++ [p]) = (addAt ls ps).set p.toNat ((addAt ls ps).getD p.toNat 0 + 1) := by
  unfold addAt
  rw [List.foldl_append]
  rfl
theorem addAt_app (ls ps qs : List Int) : addAt ls (ps ++ qs) = addAt (addAt ls ps) qs := by
  unfold addAt
  rw [List.foldl_append]
theorem byTwos_length : ∀ l : List Bun, (byTwos l).length = l.length / 2
  | [] => rfl
  | [_] => by simp [byTwos]
  | a :: b :: r => by
    have ih := byTwos_length r
    show (byTwos r).length + 1 = (r.length + 1 + 1) / 2
    omega
theorem byTwos_take : ∀ (l : List Bun) (i : Nat) (a b : Bun), l[2 * i]? = some a → l[2 * i + 1]? = some b → byTwos (l.take (2 * (i + 1))) = byTwos (l.take (2 * i)) ++ [(a.1 + b.1, a.2 ++ b.2)]
  | [], i, a, b, h, _ => by simp at h
  | [x], i, a, b, h, h2 => by simp at h2
  | x :: y :: r, 0, a, b, h, h2 => by
    simp at h h2
    subst h h2
    rfl
  | x :: y :: r, i + 1, a, b, h, h2 => by
    have ih := byTwos_take r i a b (by simpa [show 2 * (i + 1) = 2 * i + 2 by omega] using h) (by simpa [show 2 * (i + 1) + 1 = 2 * i + 1 + 2 by omega] using h2)
    rw [show 2 * (i + 1 + 1) = 2 * (i + 1) + 2 by omega, show 2 * (i + 1) = 2 * i + 2 by omega]
    show (x.1 + y.1, x.2 ++ y.2) :: byTwos (r.take (2 * i + 2)) = _
    rw [show 2 * i + 2 = 2 * (i + 1) by omega, ih]
    rfl
/-! how many places stand in a row, which places -/
def places (l : List Bun) : List Int := l.flatMap (·.2)
theorem places_byTwos : ∀ l : List Bun, (places (byTwos l)).length ≤ (places l).length
  | [] => Nat.le_refl _
  | [_] => Nat.zero_le _
  | a :: b :: r => by
    have ih := places_byTwos r
    unfold places at ih ⊢
    show ((a.2 ++ b.2) ++ (byTwos r).flatMap (·.2)).length ≤ (a.2 ++ (b.2 ++ r.flatMap (·.2))).length
    simp only [List.length_append]
    omega
theorem sortB_perm (l : List Bun) : (sortB l).Perm l := List.mergeSort_perm _ _
theorem sortB_length (l : List Bun) : (sortB l).length = l.length := (sortB_perm l).length_eq
theorem places_perm {l l' : List Bun} (h : l.Perm l') : (places l).length = (places l').length := by
  unfold places
  exact (h.flatMap_right _).length_eq
theorem rows_places (s : List Bun) : ∀ d, (places (rowsB s d)).length ≤ (places s).length * (d + 1)
  | 0 => by simp [rowsB]
  | d + 1 => by
    have ih := rows_places s d
    have h1 := places_byTwos (rowsB s d)
    show (places (sortB (s ++ byTwos (rowsB s d)))).length ≤ _
    rw [places_perm (sortB_perm _)]
    unfold places at ih h1 ⊢
    rw [List.flatMap_append, List.length_append, Nat.mul_succ]
    omega
theorem rows_length (s : List Bun) : ∀ d, (rowsB s d).length ≤ 2 * s.length
  | 0 => by show s.length ≤ _; omega
  | d + 1 => by
    have ih := rows_length s d
    show (sortB (s ++ byTwos (rowsB s d))).length ≤ _
    rw [sortB_length, List.length_append, byTwos_length]
    omega
theorem one_places {l : List Bun} {b : Bun} (h : b ∈ l) : b.2.length ≤ (places l).length := by
  obtain ⟨p, q, rfl⟩ := List.append_of_mem h
  unfold places
  simp only [List.flatMap_append, List.flatMap_cons, List.length_append]
  omega
theorem mem_byTwos : ∀ {l : List Bun} {p : Int}, p ∈ places (byTwos l) → p ∈ places l
  | [], _, h => h
  | [_], _, h => by simp [byTwos, places] at h
  | a :: b :: r, p, h => by
    have ih := mem_byTwos (l := r) (p := p)
    simp only [byTwos, places, List.flatMap_cons, List.mem_append] at h ih ⊢
    rcases h with (h | h) | h
    · exact .inl h
    · exact .inr (.inl h)
    · exact .inr (.inr (ih h))
theorem mem_places_perm {l l' : List Bun} (h : l.Perm l') {p : Int} (m : p ∈ places l) : p ∈ places l' := by
  unfold places at m ⊢
  exact (h.flatMap_right _).mem_iff.mp m
theorem mem_rows (s : List Bun) {p : Int} : ∀ d, p ∈ places (rowsB s d) → p ∈ places s
  | 0, h => h
  | d + 1, h => by
    have h2 := mem_places_perm (sortB_perm _) (show p ∈ places (sortB (s ++ byTwos (rowsB s d))) from h)
    unfold places at h2
    rw [List.flatMap_append] at h2
    rcases List.mem_append.mp h2 with z | z
    · exact z
    · exact mem_rows s d (mem_byTwos z)
theorem singles_places {ns : List Int} {p : Int} (h : p ∈ places (singlesOf ns)) : ∃ k : Nat, p = ((k : Nat) : Int) ∧ k < ns.length := by
  have h2 := mem_places_perm (sortB_perm _) (show p ∈ places (sortB _) from h)
  unfold places at h2
  obtain ⟨b, hb, hp⟩ := List.mem_flatMap.mp h2
  obtain ⟨q, hq, rfl⟩ := List.mem_map.mp hb
  have hq2 := (List.mem_filter.mp hq).1
  refine ⟨q.2, List.mem_singleton.mp hp, ?_⟩
  have := List.snd_lt_of_mem_zipIdx hq2
  omega
theorem singles_len (ns : List Int) : (singlesOf ns).length = (ns.filter fun n => decide (0 < n)).length := by
  unfold singlesOf
  rw [sortB_length, List.length_map]
  have e : ns = ns.zipIdx.map (·.1) := by rw [List.zipIdx_map_fst]
  conv => rhs; rw [e, List.filter_map, List.length_map]
  rfl
theorem singles_places_len (ns : List Int) : (places (singlesOf ns)).length = (singlesOf ns).length := by
  have h : ∀ b ∈ singlesOf ns, b.2.length = 1 := fun b hb => by
    have hb2 := (sortB_perm _).mem_iff.mp (show b ∈ sortB _ from hb)
    obtain ⟨q, hq, rfl⟩ := List.mem_map.mp hb2
    rfl
  unfold places
  generalize singlesOf ns = l at h
  induction l with
  | nil => rfl
  | cons a r ih =>
    rw [List.flatMap_cons, List.length_append, h a (.head _), ih fun b hb => h b (.tail _ hb)]
    simp
    omega
end L2.BR

namespace L2.BR
open PySem PySem.Spec PyProof.Rows L2.BP
variable {K : PySem.W.Frag} {W : WX} {vs : List V} {H : Hp} {Q : VK} {E : XK}
def posV : V → Bool
  | .int i => decide (0 < i)
  | _ => false
def countsOk : Tg → Tg → Bool
  | .lst xs, .int m => decide (1 ≤ xs.length) && decide (xs.length ≤ 300) && xs.all (btwV 0 1000000) && (decide (1 ≤ m) && decide (m ≤ 12)) && (decide (1 ≤ (xs.filter posV).length) && decide ((xs.filter posV).length ≤ 2 ^ m.toNat))
  | _, _ => false
def sp_need_counts (K : PySem.W.Frag) : Sp := fun vs H Q E => ∃ (v w : V) (g k : Tg), vs = [v, w] ∧ Th K H v g ∧ Th K H w k ∧ Tg.ok K H g ∧
  (countsOk g k = true → RetV H Q .non) ∧ (countsOk g k = false → ∀ H', Same H H' → E (.ref (He.ga K "BadShares")) none H')
theorem len_need_counts (h : sp_need_counts K vs H Q E) : vs.length = 2 := by
  obtain ⟨v, w, g, k, rfl, _⟩ := h
  rfl
def t_need_counts (K : PySem.W.Frag) (W : WX) : TS :=
  (tSeq (tIfS ((tOr (tNot (tB (tCB (rIsi K) (tCons (tVar 0) (tCons (tC (.ty "list")) tNil))))) (tNot (tTest (tChain rLeU rLeU (tC (.int 1)) (tCB (rLenK K) (tCons (tVar 0) tNil)) (tC (.int 300))))))) (tRz (He.ga K "BadShares") W) tNext)
    (tSeq (tFor (iList K (tVar 0)) (gName 2) (tIfS (tNot (tB (tCl (sp_is_between K) [] W (tCons (tVar 2) (tCons (tC (.int 0)) (tCons (tC (.int 1000000)) tNil)))))) (tRz (He.ga K "BadShares") W) tNext))
    (tSeq (tIfS (tNot (tB (tCl (sp_is_between K) [] W (tCons (tVar 1) (tCons (tC (.int 1)) (tCons (tC (.int 12)) tNil)))))) (tRz (He.ga K "BadShares") W) tNext)
    (tIfS (tNot (tTest (tChain rLeU rLeU (tC (.int 1)) (tCB (rLenK K) (tCons (tLc (iList K (tVar 0)) (gName 2) (tTest (tOp rGtU (tVar 2) (tC (.int 0)))) (tVar 2) [2]) tNil)) (tOp rShlU (tC (.int 1)) (tVar 1))))) (tRz (He.ga K "BadShares") W) tNext))))
theorem rd_need_counts (h : sp_need_counts K vs H Q E) : t_need_counts K (fun c d _ H2 => E c d H2) { nx := fun _ H' => Q .non H', rt := Q } (start ["counts", "most", "count"] vs) H := by
  obtain ⟨v, w, g, k, rfl, hT, hk, hok, q, qe⟩ := h
  have hs := Hs.start H
  unfold t_need_counts
  walk_at "go"
  refine c_isiList hT ?_
  cases g with
  | lst xs =>
    cases hT with
    | @lst a _ hxs =>
    walk_at "go"
    by_cases c1 : 1 ≤ xs.length
    rotate_left
    · have bad : countsOk (.lst xs) k = false := by cases k <;> simp [countsOk, c1]
      rw [decide_eq_false (by omega : ¬ (1 : Int) ≤ ((xs.length : Nat) : Int))]
      walk_at "go"
      exact qe bad _ hs.ex
    rw [decide_eq_true (by omega : (1 : Int) ≤ ((xs.length : Nat) : Int))]
    walk_at "go"
    by_cases c2 : xs.length ≤ 300
    rotate_left
    · have bad : countsOk (.lst xs) k = false := by cases k <;> simp [countsOk, c2]
      rw [decide_eq_false (by omega : ¬ ((xs.length : Nat) : Int) ≤ 300)]
      walk_at "go"
      exact qe bad _ hs.ex
    rw [decide_eq_true (by omega : ((xs.length : Nat) : Int) ≤ 300)]
    walk_at "go"
    refine w_forL (id : V → V) xs (fun pre σ' L' B' => ∃ w2, σ' = [some (.ref a), some w, w2] ∧ B' = H ∧ L' = [] ∧ pre.all (btwV 0 1000000) = true) hs ⟨none, rfl, rfl, rfl, rfl⟩ ?_ ?_ ?_
    · rintro pre post σ' L' B' H' _ ⟨w2, rfl, rfl, rfl, _⟩ h
      rw [List.map_id]
      exact h.bl hxs
    · rintro pre y post σ' L' B' H' e ⟨w2, rfl, rfl, rfl, hp⟩ h
      obtain ⟨g, hg⟩ := hok.1 y (by rw [e]; simp)
      have hg := hg.same h.ex
      rw [id_eq]
      walk_at "go"
      refine ⟨y, g, 0, 1000000, rfl, hg, ?_⟩
      rw [btw_of hg]
      cases c3 : btwV 0 1000000 y with
      | false =>
        have bad : countsOk (.lst xs) k = false := by
          have z : xs.all (btwV 0 1000000) = false := by
            rw [e, List.all_append, List.all_cons, c3]
            simp
          cases k <;> simp only [countsOk, z, Bool.and_false, Bool.false_and]
        walk_at "go"
        exact qe bad _ h.ex
      | true =>
        walk_at "go"
        refine ⟨_, _, ⟨_, rfl, rfl, rfl, ?_⟩, h⟩
        rw [List.all_append, hp, List.all_cons, c3]
        rfl
    · rintro σ' L' B' H' ⟨w2, rfl, rfl, rfl, hp⟩ h
      obtain ⟨ns, rfl, hn⟩ := btw_ints hp
      have hk := hk.same h.ex
      walk_at "go"
      refine ⟨w, k, 1, 12, rfl, hk, ?_⟩
      cases c4 : Tg.btw 1 12 k with
      | false =>
        have bad : countsOk (.lst (ns.map V.int)) k = false := by
          cases k with
          | int m => simp only [countsOk, show (decide (1 ≤ m) && decide (m ≤ 12)) = false from c4, Bool.and_false, Bool.false_and]
          | _ => rfl
        walk_at "go"
        exact qe bad _ h.ex
      | true =>
        cases hk with
        | int m =>
        simp only [Tg.btw, Bool.and_eq_true, decide_eq_true_eq] at c4
        obtain ⟨M, rfl⟩ := Int.eq_ofNat_of_zero_le (by omega : 0 ≤ m)
        rw [List.length_map] at c1 c2
        walk_at "go"
        refine c_lcL V.int ns (fun pre acc B2 => acc = (pre.filter fun n => decide (0 < n)).map V.int ∧ B2 = B') h ⟨rfl, rfl⟩ (fun B2 H2 e h => h.bl (e.seq hxs)) ?_ ?_
        · rintro pre n post acc B2 D H2 e ⟨rfl, rfl⟩ e2 h
          have hpl : pre.length < ns.length := by rw [e]; simp
          have hsm : ((pre.filter fun n => decide (0 < n)).map V.int).length < sizeLine := by
            rw [List.length_map]
            have := List.length_filter_le (fun n : Int => decide (0 < n)) pre
            exact small6 (by omega)
          walk_at "go"
          refine ⟨rfl, ?_⟩
          walk_at "go"
          by_cases c5 : 0 < n
          · rw [decide_eq_true c5]
            walk_at "go"
            refine c_item h hsm e2 ⟨?_, rfl⟩
            rw [List.filter_append, List.map_append]
            simp [c5]
          · rw [decide_eq_false c5]
            walk_at "go"
            refine ⟨_, _, ⟨?_, rfl⟩, e2, h⟩
            rw [List.filter_append]
            simp [c5]
        · rintro acc B2 D H2 ⟨rfl, rfl⟩ e2 h2
          have epos : ((ns.map V.int).filter posV).length = (ns.filter fun n => decide (0 < n)).length := by
            rw [List.filter_map, List.length_map]
            rfl
          walk_at "go"
          rw [List.length_map]
          have hok2 : countsOk (.lst (ns.map V.int)) (.int ((M : Nat) : Int)) = (decide (1 ≤ (ns.filter fun n => decide (0 < n)).length) && decide ((ns.filter fun n => decide (0 < n)).length ≤ 2 ^ M)) := by
            simp only [countsOk]
            rw [hp, epos, List.length_map, Int.toNat_natCast, decide_eq_true c1, decide_eq_true c2, decide_eq_true c4.1, decide_eq_true c4.2]
            rfl
          by_cases c6 : 1 ≤ (ns.filter fun n => decide (0 < n)).length
          rotate_left
          · rw [decide_eq_false c6, Bool.false_and] at hok2
            rw [decide_eq_false (by omega : ¬ (1 : Int) ≤ (((ns.filter fun n => decide (0 < n)).length : Nat) : Int))]
            walk_at "go"
            exact qe hok2 _ h2.ex
          rw [decide_eq_true (by omega : (1 : Int) ≤ (((ns.filter fun n => decide (0 < n)).length : Nat) : Int))]
          rw [decide_eq_true c6, Bool.true_and] at hok2
          walk_at "go"
          rw [Int.toNat_natCast, Int.one_mul, show (2 : Int) ^ M = ((2 ^ M : Nat) : Int) by push_cast; rfl]
          by_cases c7 : (ns.filter fun n => decide (0 < n)).length ≤ 2 ^ M
          · rw [decide_eq_true c7] at hok2
            rw [decide_eq_true (by omega : (((ns.filter fun n => decide (0 < n)).length : Nat) : Int) ≤ ((2 ^ M : Nat) : Int))]
            walk_at "go"
            exact q hok2 _ h2.ex
          · rw [decide_eq_false c7] at hok2
            rw [decide_eq_false (by omega : ¬ (((ns.filter fun n => decide (0 < n)).length : Nat) : Int) ≤ ((2 ^ M : Nat) : Int))]
            walk_at "go"
            exact qe hok2 _ h2.ex
        | _ => cases c4
  | _ => walk_at "go"; exact qe (by cases k <;> rfl) _ hs.ex
/-! bundles as they stand -/
def Buns (K : PySem.W.Frag) (B : Hp) (xs : List V) (bs : List Bun) : Prop := Paired (fun x b => ∃ t l, x = V.ref t ∧ SqT K B t [.int b.1, .ref l] ∧ B l = some (.lst (b.2.map V.int))) xs bs
theorem Paired.imp {α β : Type} {R S : α → β → Prop} (f : ∀ a b, R a b → S a b) : ∀ {l : List α} {m : List β}, Paired R l m → Paired S l m
  | _, _, .nil => .nil
  | _, _, .cons h t => .cons (f _ _ h) (Paired.imp f t)
theorem Buns.same {B B' : Hp} {xs : List V} {bs : List Bun} (h : Buns K B xs bs) (s : Same B B') : Buns K B' xs bs := Paired.imp (fun x b ⟨t, l, e, h1, h2⟩ => ⟨t, l, e, same_sqt s h1, s _ _ h2⟩) h
theorem Buns.snoc {B : Hp} {xs : List V} {bs : List Bun} {t l : Addr} {w : Int} {ps : List Int} (h : Buns K B xs bs) (h1 : SqT K B t [.int w, .ref l]) (h2 : B l = some (.lst (ps.map V.int))) : Buns K B (xs ++ [.ref t]) (bs ++ [(w, ps)]) := Paired.snoc h ⟨t, l, rfl, h1, h2⟩
theorem Paired.app {α β : Type} {R : α → β → Prop} : ∀ {l l' : List α} {m m' : List β}, Paired R l m → Paired R l' m' → Paired R (l ++ l') (m ++ m')
  | _, _, _, _, .nil, h => h
  | _, _, _, _, .cons e t, h => .cons e (Paired.app t h)
theorem Paired.takeN {α β : Type} {R : α → β → Prop} : ∀ (n : Nat) {l : List α} {m : List β}, Paired R l m → Paired R (l.take n) (m.take n)
  | 0, _, _, _ => .nil
  | _ + 1, _, _, .nil => .nil
  | n + 1, _, _, .cons e t => .cons e (Paired.takeN n t)
theorem Buns.at {B : Hp} {xs : List V} {bs : List Bun} {i : Nat} {b : Bun} (h : Buns K B xs bs) (hb : bs[i]? = some b) : ∃ t l, xs[i]? = some (V.ref t) ∧ SqT K B t [.int b.1, .ref l] ∧ B l = some (.lst (b.2.map V.int)) := by
  induction h generalizing i with
  | nil => simp at hb
  | cons e t ih =>
    cases i with
    | zero =>
      simp at hb
      subst hb
      obtain ⟨t, l, rfl, h1, h2⟩ := e
      exact ⟨t, l, rfl, h1, h2⟩
    | succ i => exact ih (by simpa using hb)
theorem paired_maps {α β : Type} {R : α → β → Prop} : ∀ {z : List (α × β)}, (∀ p ∈ z, R p.1 p.2) → Paired R (z.map (·.1)) (z.map (·.2))
  | [], _ => .nil
  | p :: r, h => .cons (h p (.head _)) (paired_maps fun q m => h q (.tail _ m))
theorem paired_zip {α β : Type} {R : α → β → Prop} {l : List α} {m : List β} (h : Paired R l m) : ∀ p ∈ l.zip m, R p.1 p.2 := by
  induction h with
  | nil => intro p hp; cases hp
  | cons e t ih =>
    intro p hp
    rcases List.mem_cons.mp (show p ∈ (_, _) :: _ from hp) with rfl | hp
    · exact e
    · exact ih p hp
theorem Buns.sorted {B : Hp} {xs : List V} {bs : List Bun} (h : Buns K B xs bs) : Buns K B (sortedBy xs (bs.map (·.1))) (sortB bs) := by
  have hl : xs.length = bs.length := Paired.length h
  have e1 : xs.zip (bs.map (·.1)) = (xs.zip bs).map fun p => (p.1, p.2.1) := by
    rw [List.zip_map_right]
    rfl
  have e2 : sortedBy xs (bs.map (·.1)) = ((xs.zip bs).mergeSort fun p q => decide (p.2.1 ≤ q.2.1)).map (·.1) := by
    unfold sortedBy
    rw [e1, ← List.map_mergeSort (r := fun p q : V × Bun => decide (p.2.1 ≤ q.2.1)) (fun a _ b _ => rfl), List.map_map]
    rfl
  have e3 : sortB bs = ((xs.zip bs).mergeSort fun p q => decide (p.2.1 ≤ q.2.1)).map (·.2) := by
    unfold sortB
    rw [List.map_mergeSort (s := fun a b : Bun => decide (a.1 ≤ b.1)) (fun a _ b _ => rfl), List.map_snd_zip (by omega)]
  rw [e2, e3]
  exact paired_maps fun p hp => paired_zip h p ((List.mergeSort_perm _ _).mem_iff.mp hp)
theorem Buns.keys {B : Hp} {xs : List V} {bs : List Bun} (h : Buns K B xs bs) : Paired (fun x i => ∃ p ys, x = V.ref p ∧ SqT K B p (.int i :: ys)) xs (bs.map (·.1)) := by
  induction h with
  | nil => exact .nil
  | cons e t ih =>
    obtain ⟨t, l, rfl, h1, _⟩ := e
    exact .cons ⟨t, _, rfl, h1⟩ ih
theorem byTwos_even : ∀ l : List Bun, byTwos (l.take (2 * (l.length / 2))) = byTwos l
  | [] => rfl
  | [_] => by simp [byTwos]
  | a :: b :: r => by
    have ih := byTwos_even r
    rw [List.length_cons, List.length_cons, show 2 * ((r.length + 1 + 1) / 2) = 2 * (r.length / 2) + 2 by omega]
    show (a.1 + b.1, a.2 ++ b.2) :: byTwos (r.take (2 * (r.length / 2))) = _
    rw [ih]
    rfl
def sp_by_twos (K : PySem.W.Frag) : Sp := fun vs H Q _ => ∃ (B : Hp) (L : Pic) (a : Addr) (xs : List V) (bs : List Bun), vs = [.ref a] ∧ Hs B L H ∧ SqL K B a xs ∧ Buns K B xs bs ∧ bs.length ≤ 1000 ∧ (places bs).length ≤ 100000 ∧
  ∀ p ys B' H', Same B B' → Buns K B' ys (byTwos bs) → Hs B' ((p, .lst ys) :: L) H' → Q (.ref p) H'
theorem len_by_twos (h : sp_by_twos K vs H Q E) : vs.length = 1 := by
  obtain ⟨B, L, a, xs, bs, rfl, _⟩ := h
  rfl
def t_by_twos (K : PySem.W.Frag) (W : WX) : TS :=
  (tSeq (tAsg (tLst tNil) (gName 1))
    (tSeq (tFor (iRng3 (tCons (tC (.int 0)) (tCons (tOp rSubU (tCB (rLenK K) (tCons (tVar 0) tNil)) (tC (.int 1))) (tCons (tC (.int 2)) tNil)))) (gName 2) (tDrop (tBM K "list" rAppend (tVar 1) (tCons (tTup (tCons (tOp rAddU (tOp (rIx K) (tOp (rIx K) (tVar 0) (tVar 2)) (tC (.int 0))) (tOp (rIx K) (tOp (rIx K) (tVar 0) (tOp rAddU (tVar 2) (tC (.int 1)))) (tC (.int 0)))) (tCons (tOp rAddU (tOp (rIx K) (tOp (rIx K) (tVar 0) (tVar 2)) (tC (.int 1))) (tOp (rIx K) (tOp (rIx K) (tVar 0) (tOp rAddU (tVar 2) (tC (.int 1)))) (tC (.int 1)))) tNil))) tNil))))
    (tRet (tVar 1))))
theorem rgC2 (n : Nat) (h : n ≤ 1000) : RgC 0 (((n : Nat) : Int) - 1) 2 (n / 2) := by
  have z : ∀ k : Fin 1001, Builtin.Range.small 0 (((k.val : Nat) : Int) - 1) 2 = true ∧ Builtin.Range.rangeSize 0 (((k.val : Nat) : Int) - 1) 2 = ((k.val / 2 : Nat) : Int) := by decide +kernel
  obtain ⟨z1, z2⟩ := z ⟨n, by omega⟩
  exact ⟨by decide, by decide, z1, z2⟩
theorem rd_by_twos (h : sp_by_twos K vs H Q E) : t_by_twos K W { nx := fun _ H' => Q .non H', rt := Q } (start ["row", "found", "at"] vs) H := by
  obtain ⟨B, L, a, xs, bs, rfl, hs, hS, hB, hl, hp, q⟩ := h
  have hxl : xs.length = bs.length := Paired.length hB
  have hS' := hs.bl hS
  unfold t_by_twos
  walk_at "go"
  rename_i f H1 h1
  refine c_rcO (bs.length / 2) (by rw [hxl]; exact rgC2 _ hl) ?_
  refine w_forC (fun i σ' L' B' => ∃ ys w2, σ' = [some (.ref a), some (.ref f), w2] ∧ Same B B' ∧ Buns K B' ys (byTwos (bs.take (2 * i))) ∧ L' = (f, .lst ys) :: L) h1 ⟨[], none, rfl, Same.refl _, .nil, rfl⟩ ?_ ?_
  · rintro i σ' L' B' H' hi ⟨ys, w2, rfl, sB, hY, rfl⟩ h
    have hSB := h.bl (sB.seq hS)
    obtain ⟨b1, hb1⟩ : ∃ b, bs[2 * i]? = some b := ⟨_, List.getElem?_eq_getElem (by omega)⟩
    obtain ⟨b2, hb2⟩ : ∃ b, bs[2 * i + 1]? = some b := ⟨_, List.getElem?_eq_getElem (by omega)⟩
    obtain ⟨t1, l1, x1, u1, v1⟩ := (hB.same sB).at hb1
    obtain ⟨t2, l2, x2, u2, v2⟩ := (hB.same sB).at hb2
    have u1 := h.bt u1
    have u2 := h.bt u2
    have v1 := h.ex _ _ v1
    have v2 := h.ex _ _ v2
    have y1 : atI xs (0 + ((i : Nat) : Int) * 2) = some (.ref t1) := by
      rw [show (0 : Int) + ((i : Nat) : Int) * 2 = ((2 * i : Nat) : Int) by omega]
      exact atI_nat x1
    have y2 : atI xs (0 + ((i : Nat) : Int) * 2 + 1) = some (.ref t2) := by
      rw [show (0 : Int) + ((i : Nat) : Int) * 2 + 1 = ((2 * i + 1 : Nat) : Int) by omega]
      exact atI_nat x2
    walk_at "go"
    have l1 := one_places (List.mem_of_getElem? hb1)
    have l2 := one_places (List.mem_of_getElem? hb2)
    refine c_addL h v1 v2 (small6' (by rw [List.length_map, List.length_map]; omega)) fun c H2 h2 => ?_
    rw [← List.map_append] at h2
    walk_at "go"
    rename_i t H3 h3
    have hyl : ys.length ≤ 1000 := by rw [Paired.length hY, byTwos_length, List.length_take]; omega
    refine c_app2 h3 (small6 (by omega)) fun H4 h4 => ?_
    obtain ⟨B3, s3, h5, k5⟩ := Hs.fixes (N := [_, _]) h4
    walk_at "go"
    refine ⟨_, _, ⟨_, _, rfl, sB.trans s3, ?_, rfl⟩, h5⟩
    rw [byTwos_take bs i b1 b2 hb1 hb2]
    exact (hY.same s3).snoc (.of (k5 _ (.head _))) (k5 _ (.tail _ (.head _)))
  · rintro σ' L' B' H' ⟨ys, w2, rfl, sB, hY, rfl⟩ h
    walk_at "go"
    have e : byTwos (bs.take (2 * (bs.length / 2))) = byTwos bs := byTwos_even bs
    rw [e] at hY
    exact q f ys B' H' sB hY h
theorem cutV_take (xs : List V) (n : Nat) : cutV xs none (some ((n : Nat) : Int)) = xs.take n := by
  unfold cutV
  rw [HT.sIx_nat]
  show (xs.drop 0).take _ = _
  rw [List.drop_zero, show min n xs.length - HT.sIx xs.length 0 none = min n xs.length by simp [HT.sIx]]
  rw [List.take_eq_take_iff]
  omega
def sp_lengths_of (K : PySem.W.Frag) : Sp := fun vs H Q E => ∃ (v w : V) (g k : Tg), vs = [v, w] ∧ Th K H v g ∧ Th K H w k ∧ Tg.ok K H g ∧
  (∀ (ns : List Int) (m : Nat), g = .lst (ns.map V.int) → k = .int m → countsOk g k = true → RetL H Q ((lenOf ns m).map V.int)) ∧
  (countsOk g k = false → ∀ H', Same H H' → E (.ref (He.ga K "BadShares")) none H')
theorem len_lengths_of (h : sp_lengths_of K vs H Q E) : vs.length = 2 := by
  obtain ⟨v, w, g, k, rfl, _⟩ := h
  rfl
def t_lengths_of (K : PySem.W.Frag) (W : WX) : TS :=
  (tSeq (tDrop (tCl (sp_need_counts K) [] W (tCons (tVar 0) (tCons (tVar 1) tNil))))
    (tSeq (tAsg (tOp rMulU (tLst (tCons (tC (.int 0)) tNil)) (tCB (rLenK K) (tCons (tVar 0) tNil))) (gName 2))
    (tSeq (tAsg (tCKw (rSortKF K (He.ga K "weight_of")) (tCons (tLc (iEnum K (tCons (tVar 0) tNil)) (gTup K 2 (gCons (gName 3) (gCons (gName 8) gNil))) (tTest (tOp rGtU (tVar 8) (tC (.int 0)))) (tTup (tCons (tVar 8) (tCons (tLst (tCons (tVar 3) tNil)) tNil))) [3, 8]) tNil) (tCons (tC (.ref (He.ga K "weight_of"))) tNil)) (gName 4))
    (tSeq (tIfS (tTest (tOp (rEqU K) (tCB (rLenK K) (tCons (tVar 4) tNil)) (tC (.int 1)))) (tSeq (tAsg (tC (.int 1)) (gSub (tVar 2) (tOp (rIx K) (tOp (rIx K) (tOp (rIx K) (tVar 4) (tC (.int 0))) (tC (.int 1))) (tC (.int 0))) rSetL))
    (tRet (tVar 2))) tNext)
    (tSeq (tAsg (tVar 4) (gName 5))
    (tSeq (tFor (iRng2 (tCons (tC (.int 1)) (tCons (tVar 1) tNil))) (gName 6) (tAsg (tCKw (rSortKF K (He.ga K "weight_of")) (tCons (tOp rAddU (tVar 4) (tCl (sp_by_twos K) [] W (tCons (tVar 5) tNil))) tNil) (tCons (tC (.ref (He.ga K "weight_of"))) tNil)) (gName 5)))
    (tSeq (tFor (iList K (tSl (rSlK K) (tVar 5) tNoPart (tPart (tOp rSubU (tOp rMulU (tC (.int 2)) (tCB (rLenK K) (tCons (tVar 4) tNil))) (tC (.int 2)))))) (gName 7) (tFor (iList K (tOp (rIx K) (tVar 7) (tC (.int 1)))) (gName 3) (tAugS (tVar 2) (tVar 3) (tC (.int 1)) (rIxL K) ipAddU rSetL)))
    (tRet (tVar 2)))))))))
theorem counts_of {g k : Tg} (h : countsOk g k = true) : ∃ (ns : List Int) (m : Nat), g = .lst (ns.map V.int) ∧ k = .int m ∧ 1 ≤ ns.length ∧ ns.length ≤ 300 ∧ (∀ n ∈ ns, 0 ≤ n ∧ n ≤ 1000000) ∧ 1 ≤ m ∧ m ≤ 12 ∧ 1 ≤ (ns.filter fun n => decide (0 < n)).length ∧ (ns.filter fun n => decide (0 < n)).length ≤ 2 ^ m := by
  cases g with
  | lst xs =>
    cases k with
    | int m =>
      simp only [countsOk, Bool.and_eq_true, decide_eq_true_eq] at h
      obtain ⟨⟨⟨⟨h1, h2⟩, h3⟩, h4, h5⟩, h6, h7⟩ := h
      obtain ⟨ns, rfl, hn⟩ := btw_ints h3
      obtain ⟨M, rfl⟩ := Int.eq_ofNat_of_zero_le (by omega : 0 ≤ m)
      rw [List.length_map] at h1 h2
      have epos : ((ns.map V.int).filter posV).length = (ns.filter fun n => decide (0 < n)).length := by
        rw [List.filter_map, List.length_map]
        rfl
      rw [epos] at h6 h7
      exact ⟨ns, M, rfl, rfl, h1, h2, hn, by omega, by omega, h6, h7⟩
    | _ => cases h
  | _ => cases k <;> cases h
theorem counts_mk {ns : List Int} {m : Nat} (h1 : 1 ≤ ns.length) (h2 : ns.length ≤ 300) (h3 : ∀ n ∈ ns, 0 ≤ n ∧ n ≤ 1000000) (h4 : 1 ≤ m) (h5 : m ≤ 12) (h6 : 1 ≤ (ns.filter fun n => decide (0 < n)).length) (h7 : (ns.filter fun n => decide (0 < n)).length ≤ 2 ^ m) : countsOk (.lst (ns.map V.int)) (.int ((m : Nat) : Int)) = true := by
  have epos : ((ns.map V.int).filter posV).length = (ns.filter fun n => decide (0 < n)).length := by
    rw [List.filter_map, List.length_map]
    rfl
  have eall : (ns.map V.int).all (btwV 0 1000000) = true := by
    rw [List.all_eq_true]
    intro x hx
    obtain ⟨n, hn, rfl⟩ := List.mem_map.mp hx
    have := h3 n hn
    simp only [btwV, Bool.and_eq_true, decide_eq_true_eq]
    exact this
  simp only [countsOk, Bool.and_eq_true, decide_eq_true_eq]
  rw [epos, List.length_map, Int.toNat_natCast]
  exact ⟨⟨⟨⟨h1, h2⟩, eall⟩, by omega, by omega⟩, h6, h7⟩
theorem rd_lengths_of (h : sp_lengths_of K vs H Q E) : t_lengths_of K (fun c d _ H2 => E c d H2) { nx := fun _ H' => Q .non H', rt := Q } (start ["counts", "most", "lengths", "place", "singles", "row", "depth", "bundle", "count"] vs) H := by
  obtain ⟨v, w, g, k, rfl, hT, hk, hok, q, qe⟩ := h
  have hs := Hs.start H
  unfold t_lengths_of
  walk_at "go"
  refine ⟨v, w, g, k, rfl, hT, hk, hok, fun z => retV hs fun H1 h1 => ?_, fun z H1 e1 => qe z H1 e1⟩
  obtain ⟨ns, m, rfl, rfl, n1, n2, hn, m1, m2, p1, p2⟩ := counts_of z
  have q := q ns m rfl rfl z
  have hT := hT.same h1.ex
  have hk := hk.same h1.ex
  have q : RetL H1 Q ((lenOf ns m).map V.int) := fun p H' a e b => q p H' (noneBack h1.ex a) (h1.ex.trans e) b
  have h1 := Hs.start H1
  clear hs hok qe
  cases hT with
  | @lst a _ hS =>
  cases hk
  walk_at "go"
  rename_i l0 H2 h2
  have hS2 := h2.bl hS
  walk_at "go"
  rw [List.length_map]
  refine c_rep h2 (h2.get (.head _)) (by omega) (by omega) (small6' (by rw [List.length_singleton]; omega)) fun ls H3 h3 => ?_
  rw [Int.toNat_natCast, List.flatten_replicate_singleton] at h3
  have h4 := h3.drop1
  have hS4 := h4.bl hS
  clear h2 h3
  walk_at "go"
  refine ⟨_, _, rfl, hS4, ?_⟩
  refine c_lcE V.int ns (fun pre acc B' => Buns K B' acc ((pre.zipIdx.filter fun p => decide (0 < p.1)).map fun p => (p.1, [((p.2 : Nat) : Int)]))) h4 .nil (fun B' H' e h => h.bl (e.seq hS)) ?_ ?_
  · rintro pre n post acc B' D T H' e hB e2 h
    have hpl : pre.length < ns.length := by rw [e]; simp
    walk_at "go"
    refine ⟨rfl, ?_⟩
    walk_at "go"
    have ez : (pre ++ [n]).zipIdx = pre.zipIdx ++ [(n, pre.length)] := by
      rw [List.zipIdx_append]
      simp
    have hal : acc.length < sizeLine := by
      rw [Paired.length hB, List.length_map]
      have := List.length_filter_le (fun p : Int × Nat => decide (0 < p.1)) pre.zipIdx
      rw [List.length_zipIdx] at this
      exact small6 (by omega)
    by_cases c : 0 < n
    · rw [decide_eq_true c]
      walk_at "go"
      rename_i l1 H5 h5 t1 H6 h6
      obtain ⟨B3, s3, h7, k7⟩ := Hs.fixes (N := [_, _, _]) h6
      refine c_item h7 hal (e2.trans s3) ?_
      show Buns K B3 _ (List.map _ (List.filter _ (pre ++ [n]).zipIdx))
      rw [ez, List.filter_append, List.map_append]
      simp only [List.filter_cons, c, decide_true, if_true, List.filter_nil, List.map_cons, List.map_nil]
      exact (hB.same s3).snoc (.of (k7 _ (.head _))) (k7 _ (.tail _ (.head _)))
    · rw [decide_eq_false c]
      refine ⟨acc, _, ?_, e2.trans (same_upd (h.nb (.head _))), h.fix⟩
      show Buns K _ _ (List.map _ (List.filter _ (pre ++ [n]).zipIdx))
      rw [ez, List.filter_append]
      simp only [List.filter_cons, c, decide_false, if_false, List.filter_nil, List.append_nil, Bool.false_eq_true]
      exact hB.same (same_upd (h.nb (.head _)))
  · rintro acc B' D H' hB e2 h
    have hB' : Buns K H' acc _ := hB.same h.ex
    walk_at "go"
    refine c_sortedKF h (h.sql (.head _)) hB'.keys fun sp H4 h4 => ?_
    have hX := hB.sorted
    have hX : Buns K B' _ (singlesOf ns) := hX
    have h5 := h4.drop1
    clear h h4 hB hB'
    have hsn : singlesOf ns ≠ [] := by
      intro z
      have := singles_len ns
      rw [z] at this
      simp at this
      omega
    have hsl : (singlesOf ns).length ≤ 300 := by
      rw [singles_len]
      have := List.length_filter_le (fun n : Int => decide (0 < n)) ns
      omega
    have hsp : (places (singlesOf ns)).length ≤ 300 := by rw [singles_places_len]; exact hsl
    generalize sortedBy acc _ = xs at *
    have hxl : xs.length = (singlesOf ns).length := Paired.length hX
    have h6 := h5.fix
    have s6 := e2.trans (same_upd (o := .lst xs) (h5.nb (.head _)))
    have hspB : upd B' sp (.lst xs) sp = some (.lst xs) := upd_same
    have hX := hX.same (same_upd (o := .lst xs) (h5.nb (.head _)))
    clear h5 e2
    generalize upd B' sp (.lst xs) = B1 at *
    have hsp4 := h6.ex _ _ hspB
    have hspS : SqL K H4 sp xs := .of hsp4
    have q : RetL B1 Q ((lenOf ns m).map V.int) := fun p H' a e b => q p H' (noneBack s6 a) (s6.trans e) b
    walk_at "go"
    rw [hxl]
    by_cases c : (singlesOf ns).length = 1
    · refine i_t (decide_eq_true (by omega)) ?_
      obtain ⟨b, hb⟩ : ∃ b, singlesOf ns = [b] := List.length_eq_one_iff.mp c
      obtain ⟨t, l, x0, u0, v0⟩ := hX.at (i := 0) (b := b) (by rw [hb]; rfl)
      have hpl := singles_places_len ns
      rw [hb] at hpl
      obtain ⟨p, hp⟩ : ∃ p, b.2 = [p] := List.length_eq_one_iff.mp (by simpa [places] using hpl)
      obtain ⟨k, rfl, hk⟩ := singles_places (ns := ns) (p := p) (by rw [hb]; simp [places, hp])
      have u0 := h6.bt u0
      have v0 : SqL K H4 l [.int ((k : Nat) : Int)] := by
        have z := h6.ex _ _ v0
        rw [hp] at z
        exact .of z
      have y0 : atI xs 0 = some (.ref t) := atI_nat (j := 0) x0
      walk_at "go"
      refine w_set0 h6 rfl (by rw [List.length_replicate]; exact hk) fun H5 h7 => ?_
      walk_at "go"
      have e : lenOf ns m = (List.replicate ns.length 0).set k 1 := by
        unfold lenOf
        rw [if_pos c, hb]
        show (List.replicate ns.length 0).set ((b.2.getD 0 0).toNat) 1 = _
        rw [hp]
        rfl
      rw [e, List.map_set, List.map_replicate] at q
      exact h7.rl (.head _) q
    · refine i_f (decide_eq_false (by omega)) ?_
      walk_at "go"
      refine ⟨_, _, rfl, ⟨by omega, by omega, by omega, by omega⟩, ?_⟩
      rw [show (((m : Nat) : Int) - 1).toNat = m - 1 by omega]
      refine w_forR (fun i σ' L' B' => ∃ (ra : Addr) (ys : List V) (w6 : Option V), Same B1 B' ∧ B' ra = some (.lst ys) ∧ Buns K B' ys (rowsB (singlesOf ns) i) ∧ L' = [(ls, .lst (List.replicate ns.length (V.int 0)))] ∧
        σ' = [some (.ref a), some (.int ((m : Nat) : Int)), some (.ref ls), none, some (.ref sp), some (.ref ra), w6, none, none]) h6 ⟨sp, xs, none, Same.refl _, hspB, hX, rfl, rfl⟩ ?_ ?_
      · rintro i σ' L' B' H' him ⟨ra, ys, w6, sB, hra, hY, rfl, rfl⟩ h
        have r1 := rows_length (singlesOf ns) i
        have r2 := rows_places (singlesOf ns) i
        have r3 : (places (singlesOf ns)).length * (i + 1) ≤ 300 * 12 := Nat.mul_le_mul hsp (by omega)
        walk_at "go"
        refine ⟨B', _, ra, ys, _, rfl, h, .of hra, hY, by omega, by omega, fun p zs B3 H5 s3 hZ h7 => ?_⟩
        have hzl : zs.length ≤ 1000 := by rw [Paired.length hZ, byTwos_length]; omega
        refine c_addL h7 (h7.ex _ _ (s3 _ _ (sB _ _ hspB))) (h7.get (.head _)) (small6' (by omega)) fun qa H6 h8 => ?_
        have hC : Buns K B3 (xs ++ zs) (singlesOf ns ++ byTwos (rowsB (singlesOf ns) i)) := Paired.app ((hX.same sB).same s3) hZ
        walk_at "go"
        refine c_sortedKF h8 (h8.sql (.head _)) (hC.same h8.ex).keys fun rb H7 h9 => ?_
        have hD := hC.sorted
        obtain ⟨B4, s4, h10, k10⟩ := Hs.fixes (N := [_, _, _]) h9
        walk_at "go"
        exact ⟨_, _, ⟨rb, _, _, (sB.trans s3).trans s4, k10 _ (.head _), hD.same s4, rfl, rfl⟩, h10⟩
      · rintro σ' L' B' H' ⟨ra, ys, w6, sB, hra, hY, rfl, rfl⟩ h
        have r1 := rows_length (singlesOf ns) (m - 1)
        have hyl := Paired.length hY
        have hraS : SqL K H' ra ys := .of (h.ex _ _ hra)
        have hspS : SqL K H' sp xs := .of (h.ex _ _ (sB _ _ hspB))
        walk_at "go"
        rename_i ca H5 h5
        have hn2 : 2 ≤ (singlesOf ns).length := by
          have := List.length_pos_iff.mpr hsn
          omega
        rw [show (2 : Int) * ((xs.length : Nat) : Int) - 2 = ((2 * (singlesOf ns).length - 2 : Nat) : Int) by omega, cutV_take] at h5
        have hY2 := Paired.takeN (2 * (singlesOf ns).length - 2) hY
        obtain ⟨z, hz1, hz2, hz3⟩ : ∃ z : List (V × Bun), z.map (·.1) = ys.take (2 * (singlesOf ns).length - 2) ∧ z.map (·.2) = (rowsB (singlesOf ns) (m - 1)).take (2 * (singlesOf ns).length - 2) ∧ ∀ p ∈ z, ∃ t l, p.1 = V.ref t ∧ SqT K B' t [.int p.2.1, .ref l] ∧ B' l = some (.lst (p.2.2.map V.int)) := by
          refine ⟨(ys.take (2 * (singlesOf ns).length - 2)).zip ((rowsB (singlesOf ns) (m - 1)).take (2 * (singlesOf ns).length - 2)), List.map_fst_zip (by rw [List.length_take, List.length_take]; omega), List.map_snd_zip (by rw [List.length_take, List.length_take]; omega), paired_zip hY2⟩
        rw [← hz1] at h5
        have hmem : ∀ b ∈ z.map (·.2), ∀ p ∈ b.2, ∃ k : Nat, p = ((k : Nat) : Int) ∧ k < ns.length := fun b hb p hp => by
          rw [hz2] at hb
          exact singles_places (mem_rows _ _ (List.mem_flatMap.mpr ⟨b, List.mem_of_mem_take hb, hp⟩))
        have hlen : lenOf ns m = addAt (List.replicate ns.length 0) (places (z.map (·.2))) := by
          unfold lenOf
          rw [if_neg c, hz2]
          rfl
        refine w_forL (fun p : V × Bun => p.1) z (fun pre σ' L' B'' => ∃ (w3 w6 w7 : Option V), B'' = B' ∧ L' = [(ca, .lst (z.map (·.1))), (ls, .lst ((addAt (List.replicate ns.length 0) (places (pre.map (·.2)))).map V.int))] ∧
          σ' = [some (.ref a), some (.int ((m : Nat) : Int)), some (.ref ls), w3, some (.ref sp), some (.ref ra), w6, w7, none]) h5 ⟨none, w6, none, rfl, by simp [places, addAt], rfl⟩ ?_ ?_ ?_
        · rintro pre post σ' L' B'' H6 _ ⟨w3, w6, w7, rfl, rfl, rfl⟩ h
          exact h.sql (.head _)
        · rintro pre pb post σ' L' B'' H6 e ⟨w3, w6, w7, eB, rfl, rfl⟩ h
          obtain ⟨t, l, e1, u1, v1⟩ := hz3 pb (by rw [e]; simp)
          rw [← eB] at u1 v1
          have u1 := h.bt u1
          have hm2 := hmem pb.2 (by rw [e]; simp)
          rw [e1]
          walk_at "go"
          have v1' : SqL K H6 l (pb.2.2.map V.int) := .of (h.ex _ _ v1)
          refine w_forL V.int pb.2.2 (fun ip σ' L' B3 => ∃ (w3 w6 : Option V), B3 = B'' ∧ L' = [(ca, .lst (z.map (·.1))), (ls, .lst ((addAt (List.replicate ns.length 0) (places (pre.map (·.2)) ++ ip)).map V.int))] ∧
            σ' = [some (.ref a), some (.int ((m : Nat) : Int)), some (.ref ls), w3, some (.ref sp), some (.ref ra), w6, some (.ref t), none]) h ⟨w3, w6, rfl, by rw [List.append_nil], rfl⟩ ?_ ?_ ?_
          · rintro ip ipost σ' L' B3 H7 _ ⟨w3, w6, rfl, rfl, rfl⟩ h
            exact .of (h.ex _ _ v1)
          · rintro ip p ipost σ' L' B3 H7 e2 ⟨w3, w6, rfl, rfl, rfl⟩ h
            obtain ⟨k, rfl, hk⟩ := hm2 p (by rw [e2]; simp)
            have hal : k < (addAt (List.replicate ns.length 0) (places (pre.map (·.2)) ++ ip)).length := by rw [addAt_length, List.length_replicate]; exact hk
            have ea : atI ((addAt (List.replicate ns.length 0) (places (pre.map (·.2)) ++ ip)).map V.int) ((k : Nat) : Int) = some (.int ((addAt (List.replicate ns.length 0) (places (pre.map (·.2)) ++ ip)).getD k 0)) := at_nat hal
            walk_at "go"
            refine c_ixLo (h.sql (.tail _ (.head _))) ea ?_
            walk_at "go"
            refine w_set1 h rfl (by rw [List.length_map]; exact hal) fun H8 h8 => ?_
            refine ⟨_, _, ⟨_, _, rfl, ?_, rfl⟩, h8⟩
            rw [← List.append_assoc, addAt_snoc, List.map_set, Int.toNat_natCast]
          · rintro σ' L' B3 H7 ⟨w3, w6, rfl, rfl, rfl⟩ h
            refine ⟨_, _, ⟨_, _, _, eB, ?_, rfl⟩, h⟩
            rw [List.map_append]
            unfold places
            rw [List.flatMap_append, List.map_cons, List.map_nil, List.flatMap_cons, List.flatMap_nil, List.append_nil]
        · rintro σ' L' B'' H6 ⟨w3, w6, w7, rfl, rfl, rfl⟩ h
          walk_at "go"
          rw [← hlen] at h
          exact h.rl (.tail _ (.head _)) fun p H' x y u => q p H' (noneBack sB x) (sB.trans y) u
end L2.BR

namespace L2.BR
/-! ### the row of bundles costs least -/
def twosW : List Int → List Int
  | a :: b :: r => (a + b) :: twosW r
  | _ => []
def sortW (l : List Int) : List Int := l.mergeSort fun a b => decide (a ≤ b)
def wrow (s : List Int) : Nat → List Int
  | 0 => s
  | d + 1 => sortW (s ++ twosW (wrow s d))
def upto (f : Nat → Int) : Nat → Int
  | 0 => f 0
  | d + 1 => upto f d + f (d + 1)
def uptoN (f : Nat → Nat) : Nat → Nat
  | 0 => f 0
  | d + 1 => uptoN f d + f (d + 1)
theorem sortW_perm (l : List Int) : (sortW l).Perm l := List.mergeSort_perm _ _
theorem sortW_sorted (l : List Int) : (sortW l).Pairwise (· ≤ ·) := by
  have h := List.pairwise_mergeSort (le := fun a b : Int => decide (a ≤ b)) (fun a b c h1 h2 => by simp only [decide_eq_true_eq] at *; omega) (fun a b => by simp only [Bool.or_eq_true, decide_eq_true_eq]; omega) l
  exact h.imp fun h => by simpa using h
theorem wrow_sorted {s : List Int} (hs : s.Pairwise (· ≤ ·)) : ∀ d, (wrow s d).Pairwise (· ≤ ·)
  | 0 => hs
  | d + 1 => sortW_sorted _
theorem twosW_length : ∀ l : List Int, (twosW l).length = l.length / 2
  | [] => rfl
  | [_] => by simp [twosW]
  | a :: b :: r => by
    have ih := twosW_length r
    show (twosW r).length + 1 = (r.length + 1 + 1) / 2
    omega
theorem twosW_take : ∀ (l : List Int) (j : Nat), 2 * j ≤ l.length → ((twosW l).take j).sum = (l.take (2 * j)).sum
  | l, 0, _ => by simp
  | [], j + 1, h => by simp at h
  | [x], j + 1, h => by simp at h; omega
  | a :: b :: r, j + 1, h => by
    have ih := twosW_take r j (by simp at h; omega)
    rw [show 2 * (j + 1) = 2 * j + 1 + 1 by omega]
    show ((a + b) :: (twosW r).take j).sum = (a :: b :: r.take (2 * j)).sum
    rw [List.sum_cons, List.sum_cons, List.sum_cons, ih]
    omega
theorem sum_nonneg : ∀ {l : List Int}, (∀ x ∈ l, 0 ≤ x) → 0 ≤ l.sum
  | [], _ => by simp
  | x :: l, h => by
    rw [List.sum_cons]
    have := sum_nonneg (l := l) fun y hy => h y (.tail _ hy)
    have := h x (.head _)
    omega
theorem perm_sum {l l' : List Int} (h : l.Perm l') : l.sum = l'.sum := by
  induction h with
  | nil => rfl
  | cons x _ ih => rw [List.sum_cons, List.sum_cons, ih]
  | swap x y l => simp only [List.sum_cons]; omega
  | trans _ _ a b => rw [a, b]
theorem sum_erase {x : Int} {l : List Int} (h : x ∈ l) : l.sum = x + (l.erase x).sum := by
  rw [perm_sum (List.perm_cons_erase h), List.sum_cons]
/-- the first ones of a sorted row are the least -/
theorem take_least : ∀ {R : List Int} (k : Nat) {M : List Int}, R.Pairwise (· ≤ ·) → (∀ a, M.count a ≤ R.count a) → k ≤ M.length → (∀ x ∈ M, 0 ≤ x) → k ≤ R.length ∧ (R.take k).sum ≤ M.sum
  | R, 0, M, _, _, _, hp => ⟨Nat.zero_le _, by rw [List.take_zero]; exact sum_nonneg hp⟩
  | [], k + 1, M, _, hc, hk, _ => by
    have z : M = [] := by
      cases M with
      | nil => rfl
      | cons x M =>
        have := hc x
        simp at this
    subst z
    simp at hk
  | r :: R, k + 1, M, hR, hc, hk, hp => by
    obtain ⟨h1, h2⟩ := List.pairwise_cons.mp hR
    obtain ⟨x, hx, hrx, hcx⟩ : ∃ x, x ∈ M ∧ r ≤ x ∧ ∀ a, (M.erase x).count a ≤ R.count a := by
      by_cases hr : r ∈ M
      · refine ⟨r, hr, Int.le_refl _, fun a => ?_⟩
        have := hc a
        rw [List.count_erase]
        rw [List.count_cons] at this
        by_cases e : a = r
        · subst e
          simp at this ⊢
          omega
        · have e2 : (r == a) = false := by simpa using fun z : r = a => e z.symm
          have e3 : (a == r) = false := by simpa using e
          simp [e2, e3] at this ⊢
          omega
      · obtain ⟨x, hx⟩ : ∃ x, x ∈ M := by
          cases M with
          | nil => simp at hk
          | cons x M => exact ⟨x, .head _⟩
        have key : ∀ a, M.count a ≤ R.count a := fun a => by
          have := hc a
          rw [List.count_cons] at this
          by_cases e : a = r
          · subst e
            rw [List.count_eq_zero.mpr hr]
            exact Nat.zero_le _
          · have e2 : (r == a) = false := by simpa using fun z : r = a => e z.symm
            simp [e2] at this
            exact this
        refine ⟨x, hx, ?_, fun a => Nat.le_trans (by rw [List.count_erase]; omega) (key a)⟩
        have z := key x
        have z2 := List.count_pos_iff.mpr hx
        exact h1 x (List.count_pos_iff.mp (by omega))
    obtain ⟨a1, a2⟩ := take_least k h2 hcx (by rw [List.length_erase_of_mem hx]; omega) (fun y hy => hp y (List.mem_of_mem_erase hy))
    refine ⟨by rw [List.length_cons]; omega, ?_⟩
    rw [List.take_succ_cons, List.sum_cons, sum_erase hx]
    omega
theorem wrow_pos {s : List Int} (hp : ∀ x ∈ s, 0 ≤ x) : ∀ d, ∀ x ∈ wrow s d, 0 ≤ x
  | 0, x, h => hp x h
  | d + 1, x, h => by
    have h2 := (sortW_perm _).mem_iff.mp (show x ∈ sortW _ from h)
    rcases List.mem_append.mp h2 with z | z
    · exact hp x z
    · have ih := wrow_pos hp d
      generalize wrow s d = l at ih z
      clear h h2
      have key : ∀ l : List Int, (∀ x ∈ l, 0 ≤ x) → ∀ x ∈ twosW l, 0 ≤ x := fun l => by
        induction l using twosW.induct with
        | case1 a b r ih =>
          intro hl x hx
          rcases List.mem_cons.mp hx with rfl | hx
          · have := hl a (.head _)
            have := hl b (.tail _ (.head _))
            omega
          · exact ih (fun y hy => hl y (.tail _ (.tail _ hy))) x hx
        | case2 l h =>
          intro _ x hx
          rw [twosW.eq_2 l h] at hx
          cases hx
      exact key l ih x z
theorem upto_pos {f : Nat → Int} (h : ∀ d, 0 ≤ f d) : ∀ D, 0 ≤ upto f D
  | 0 => h 0
  | D + 1 => by
    have := upto_pos h D
    have := h (D + 1)
    show 0 ≤ upto f D + f (D + 1)
    omega
theorem row_least {s : List Int} (hs : s.Pairwise (· ≤ ·)) (hp : ∀ x ∈ s, 0 ≤ x) : ∀ (D k : Nat) (M : Nat → List Int), (∀ d a, (M d).count a ≤ s.count a) → k * 2 ^ D ≤ uptoN (fun d => (M d).length * 2 ^ d) D →
    k ≤ (wrow s D).length ∧ ((wrow s D).take k).sum ≤ upto (fun d => (M d).sum) D
  | 0, k, M, hM, hk => by
    have hMp : ∀ x ∈ M 0, 0 ≤ x := fun x hx => hp x (List.count_pos_iff.mp (by have := hM 0 x; have := List.count_pos_iff.mpr hx; omega))
    exact take_least k hs (hM 0) (by simpa [uptoN] using hk) hMp
  | D + 1, k, M, hM, hk => by
    have hMp : ∀ d, ∀ x ∈ M d, 0 ≤ x := fun d x hx => hp x (List.count_pos_iff.mp (by have := hM d x; have := List.count_pos_iff.mpr hx; omega))
    have hsm : ∀ d, 0 ≤ (M d).sum := fun d => sum_nonneg (hMp d)
    have hcR : ∀ a, (wrow s (D + 1)).count a = s.count a + (twosW (wrow s D)).count a := fun a => by
      rw [show wrow s (D + 1) = sortW (s ++ twosW (wrow s D)) from rfl, (sortW_perm _).count_eq, List.count_append]
    have hk : k * 2 ^ (D + 1) ≤ uptoN (fun d => (M d).length * 2 ^ d) D + (M (D + 1)).length * 2 ^ (D + 1) := hk
    show _ ∧ _ ≤ upto (fun d => (M d).sum) D + (M (D + 1)).sum
    have hup := upto_pos hsm D
    by_cases c : k ≤ (M (D + 1)).length
    · obtain ⟨a1, a2⟩ := take_least k (wrow_sorted hs (D + 1)) (fun a => by rw [hcR]; have := hM (D + 1) a; omega) c (hMp _)
      exact ⟨a1, by omega⟩
    · obtain ⟨j, rfl⟩ : ∃ j, k = (M (D + 1)).length + j := ⟨k - (M (D + 1)).length, by omega⟩
      rw [Nat.add_mul, Nat.pow_succ] at hk
      obtain ⟨b1, b2⟩ := row_least hs hp D (2 * j) M hM (by
        have z : 2 * j * 2 ^ D = j * (2 ^ D * 2) := by rw [Nat.mul_comm (2 ^ D), ← Nat.mul_assoc, Nat.mul_comm j]
        rw [z]
        generalize j * (2 ^ D * 2) = x at *
        generalize (M (D + 1)).length * (2 ^ D * 2) = y at *
        omega)
      have hl := twosW_length (wrow s D)
      have hs2 := twosW_take (wrow s D) j b1
      obtain ⟨a1, a2⟩ := take_least ((M (D + 1)).length + j) (M := M (D + 1) ++ (twosW (wrow s D)).take j) (wrow_sorted hs (D + 1)) (fun a => by
        rw [hcR, List.count_append]
        have := hM (D + 1) a
        have := (List.take_sublist j (twosW (wrow s D))).count_le a
        omega) (by rw [List.length_append, List.length_take]; omega) (fun x hx => by
          rcases List.mem_append.mp hx with z | z
          · exact hMp _ x z
          · have z2 : x ∈ wrow s (D + 1) := (sortW_perm _).mem_iff.mpr (List.mem_append_right _ (List.mem_of_mem_take z))
            exact wrow_pos hp (D + 1) x z2)
      refine ⟨a1, ?_⟩
      rw [List.sum_append, hs2] at a2
      omega
/-! ### what a choice of lengths costs, level by level -/
def lev (a d : Nat) : Nat := if a ≤ d then 2 ^ d else 0
def lvl (a d : Nat) : Nat := if a ≤ d then 1 else 0
theorem uptoN_add (f g : Nat → Nat) : ∀ D, uptoN (fun d => f d + g d) D = uptoN f D + uptoN g D
  | 0 => rfl
  | D + 1 => by
    have := uptoN_add f g D
    simp only [uptoN] at *
    omega
theorem upto_add (f g : Nat → Int) : ∀ D, upto (fun d => f d + g d) D = upto f D + upto g D
  | 0 => rfl
  | D + 1 => by
    have := upto_add f g D
    simp only [upto] at *
    omega
theorem uptoN_zero : ∀ D, uptoN (fun _ => 0) D = 0
  | 0 => rfl
  | D + 1 => by
    have := uptoN_zero D
    simp only [uptoN] at *
    omega
theorem upto_zero : ∀ D, upto (fun _ => 0) D = 0
  | 0 => rfl
  | D + 1 => by
    have := upto_zero D
    simp only [upto] at *
    omega
theorem lev_lt {a : Nat} : ∀ {D : Nat}, D < a → uptoN (lev a) D = 0
  | 0, h => by unfold uptoN lev; rw [if_neg (by omega)]
  | D + 1, h => by
    have := lev_lt (a := a) (D := D) (by omega)
    show uptoN (lev a) D + lev a (D + 1) = 0
    unfold lev at *
    rw [this, if_neg (by omega)]
theorem lev_le {a : Nat} : ∀ {D : Nat}, a ≤ D + 1 → uptoN (lev a) D + 2 ^ a = 2 ^ (D + 1)
  | 0, h => by
    rcases (by omega : a = 0 ∨ a = 1) with rfl | rfl <;> rfl
  | D + 1, h => by
    by_cases c : a ≤ D + 1
    · have := lev_le c
      show uptoN (lev a) D + lev a (D + 1) + 2 ^ a = 2 ^ (D + 1 + 1)
      rw [show lev a (D + 1) = 2 ^ (D + 1) by unfold lev; rw [if_pos c], Nat.pow_succ 2 (D + 1)]
      omega
    · rw [lev_lt (by omega), show a = D + 2 by omega, Nat.zero_add]
theorem lvl_lt {a : Nat} : ∀ {D : Nat}, D < a → uptoN (lvl a) D = 0
  | 0, h => by unfold uptoN lvl; rw [if_neg (by omega)]
  | D + 1, h => by
    have := lvl_lt (a := a) (D := D) (by omega)
    show uptoN (lvl a) D + lvl a (D + 1) = 0
    unfold lvl at *
    rw [this, if_neg (by omega)]
theorem lvl_le {a : Nat} : ∀ {D : Nat}, a ≤ D + 1 → uptoN (lvl a) D + a = D + 1
  | 0, h => by
    rcases (by omega : a = 0 ∨ a = 1) with rfl | rfl <;> rfl
  | D + 1, h => by
    by_cases c : a ≤ D + 1
    · have := lvl_le c
      show uptoN (lvl a) D + lvl a (D + 1) + a = D + 1 + 1
      rw [show lvl a (D + 1) = 1 by unfold lvl; rw [if_pos c]]
      omega
    · rw [lvl_lt (by omega)]
      omega
theorem upto_mul (c : Int) (f : Nat → Nat) : ∀ D, upto (fun d => c * ((f d : Nat) : Int)) D = c * ((uptoN f D : Nat) : Int)
  | 0 => rfl
  | D + 1 => by
    have := upto_mul c f D
    simp only [upto, uptoN] at *
    rw [this, ← Int.mul_add]
    push_cast
    rfl
theorem levels_width (al : Nat → Nat) (D : Nat) : ∀ idx : List Nat, uptoN (fun d => (idx.filter fun p => decide (al p ≤ d)).length * 2 ^ d) D = (idx.map fun p => uptoN (lev (al p)) D).sum
  | [] => by simp [uptoN_zero]
  | p :: idx => by
    have ih := levels_width al D idx
    rw [List.map_cons, List.sum_cons, ← ih, ← uptoN_add]
    congr 1
    funext d
    rw [List.filter_cons]
    unfold lev
    by_cases c : al p ≤ d
    · rw [if_pos (decide_eq_true c), if_pos c, List.length_cons, Nat.succ_mul]
      omega
    · rw [if_neg (by simpa using c), if_neg c, Nat.zero_add]
theorem levels_cost (al : Nat → Nat) (c : Nat → Int) (D : Nat) : ∀ idx : List Nat, upto (fun d => ((idx.filter fun p => decide (al p ≤ d)).map c).sum) D = (idx.map fun p => c p * ((uptoN (lvl (al p)) D : Nat) : Int)).sum
  | [] => by simp [upto_zero]
  | p :: idx => by
    have ih := levels_cost al c D idx
    rw [List.map_cons, List.sum_cons, ← ih, ← upto_mul, ← upto_add]
    congr 1
    funext d
    rw [List.filter_cons]
    unfold lvl
    by_cases e : al p ≤ d
    · rw [if_pos (decide_eq_true e), if_pos e, List.map_cons, List.sum_cons]
      push_cast
      omega
    · rw [if_neg (by simpa using e), if_neg e]
      push_cast
      omega
theorem sum_le {f g : Nat → Nat} : ∀ {l : List Nat}, (∀ p ∈ l, f p ≤ g p) → (l.map f).sum ≤ (l.map g).sum
  | [], _ => Nat.le_refl _
  | p :: l, h => by
    rw [List.map_cons, List.map_cons, List.sum_cons, List.sum_cons]
    have := sum_le (l := l) fun q hq => h q (.tail _ hq)
    have := h p (.head _)
    omega
theorem sum_addN (f g : Nat → Nat) : ∀ l : List Nat, (l.map fun p => f p + g p).sum = (l.map f).sum + (l.map g).sum
  | [] => rfl
  | p :: l => by
    have := sum_addN f g l
    simp only [List.map_cons, List.sum_cons] at *
    omega
theorem sum_constN (k : Nat) : ∀ l : List Nat, (l.map fun _ => k).sum = l.length * k
  | [] => by simp
  | p :: l => by
    have := sum_constN k l
    simp only [List.map_cons, List.sum_cons, List.length_cons, Nat.succ_mul] at *
    omega
/-- no lengths that fit cost less than the first ones of the row -/
theorem least_cost {s : List Int} (hs : s.Pairwise (· ≤ ·)) (hp : ∀ x ∈ s, 0 ≤ x) {idx : List Nat} {c : Nat → Int} (he : s.Perm (idx.map c)) {m : Nat} (hm : 1 ≤ m) {h : Nat → Nat} (hh : ∀ p ∈ idx, h p ≤ m) (hk : (idx.map fun p => 2 ^ (m - h p)).sum ≤ 2 ^ m) :
    ((wrow s (m - 1)).take (2 * idx.length - 2)).sum ≤ (idx.map fun p => c p * ((h p : Nat) : Int)).sum := by
  have w := levels_width (fun p => m - h p) (m - 1) idx
  have k := levels_cost (fun p => m - h p) c (m - 1) idx
  have e1 : (idx.map fun p => c p * ((uptoN (lvl (m - h p)) (m - 1) : Nat) : Int)) = idx.map fun p => c p * ((h p : Nat) : Int) := by
    apply List.map_congr_left
    intro p hp
    have := lvl_le (a := m - h p) (D := m - 1) (by omega)
    have := hh p hp
    rw [show uptoN (lvl (m - h p)) (m - 1) = h p by omega]
  rw [e1] at k
  rw [← k]
  refine (row_least hs hp (m - 1) (2 * idx.length - 2) (fun d => (idx.filter fun p => decide (m - h p ≤ d)).map c) (fun d a => ?_) ?_).2
  · rw [he.count_eq]
    exact ((List.filter_sublist).map c).count_le a
  · simp only [List.length_map]
    rw [w]
    have z : (idx.map fun p => uptoN (lev (m - h p)) (m - 1)).sum + (idx.map fun p => 2 ^ (m - h p)).sum = idx.length * 2 ^ m := by
      rw [← sum_addN, ← sum_constN]
      congr 1
      apply List.map_congr_left
      intro p hp
      have := lev_le (a := m - h p) (D := m - 1) (by omega)
      rw [show m - 1 + 1 = m by omega] at this
      exact this
    have z2 : (2 * idx.length - 2) * 2 ^ (m - 1) + 2 ^ m = idx.length * 2 ^ m ∨ idx.length = 0 := by
      cases idx with
      | nil => exact .inr rfl
      | cons p idx =>
        left
        have key : ∀ l x : Nat, 2 * l * x + x * 2 = (l + 1) * (x * 2) := fun l x => by rw [Nat.add_mul, Nat.one_mul, Nat.mul_comm 2 l, Nat.mul_assoc, Nat.mul_comm 2 x]
        have em : 2 ^ m = 2 ^ (m - 1) * 2 := by rw [← Nat.pow_succ]; congr 1; omega
        rw [List.length_cons, show 2 * (idx.length + 1) - 2 = 2 * idx.length by omega, em]
        exact key _ _
    rcases z2 with z2 | z2
    · omega
    · rw [z2]
      omega
/-! ### the rows with the level of each single -/
abbrev TBun := Int × List (Nat × Nat)
def sortT (l : List TBun) : List TBun := l.mergeSort fun a b => decide (a.1 ≤ b.1)
def twosT : List TBun → List TBun
  | a :: b :: r => (a.1 + b.1, a.2 ++ b.2) :: twosT r
  | _ => []
def comes (ns : List Int) : List (Int × Nat) := ns.zipIdx.filter fun p => decide (0 < p.1)
def oneT (ns : List Int) (d : Nat) : List TBun := sortT ((comes ns).map fun p => (p.1, [(p.2, d)]))
def rowT (ns : List Int) : Nat → List TBun
  | 0 => oneT ns 0
  | d + 1 => sortT (oneT ns (d + 1) ++ twosT (rowT ns d))
def un (b : TBun) : Bun := (b.1, b.2.map fun p => ((p.1 : Nat) : Int))
theorem un_sort (l : List TBun) : (sortT l).map un = sortB (l.map un) := List.map_mergeSort fun a _ b _ => rfl
theorem un_twos : ∀ l : List TBun, (twosT l).map un = byTwos (l.map un)
  | [] => rfl
  | [_] => rfl
  | a :: b :: r => by
    have ih := un_twos r
    show un (a.1 + b.1, a.2 ++ b.2) :: (twosT r).map un = byTwos (un a :: un b :: r.map un)
    rw [ih]
    show _ = ((un a).1 + (un b).1, (un a).2 ++ (un b).2) :: byTwos (r.map un)
    unfold un
    rw [List.map_append]
theorem un_one (ns : List Int) (d : Nat) : (oneT ns d).map un = singlesOf ns := by
  unfold oneT singlesOf
  rw [un_sort, List.map_map]
  rfl
theorem un_row (ns : List Int) : ∀ d, (rowT ns d).map un = rowsB (singlesOf ns) d
  | 0 => un_one ns 0
  | d + 1 => by
    show (sortT _).map un = sortB _
    rw [un_sort, List.map_append, un_one, un_twos, un_row ns d]
theorem w_sort (l : List Bun) : (sortB l).map (·.1) = sortW (l.map (·.1)) := List.map_mergeSort fun a _ b _ => rfl
theorem w_twos : ∀ l : List Bun, (byTwos l).map (·.1) = twosW (l.map (·.1))
  | [] => rfl
  | [_] => rfl
  | a :: b :: r => by
    have ih := w_twos r
    show (a.1 + b.1) :: (byTwos r).map (·.1) = twosW (a.1 :: b.1 :: r.map (·.1))
    rw [ih]
    rfl
theorem w_row (s : List Bun) : ∀ d, (rowsB s d).map (·.1) = wrow (s.map (·.1)) d
  | 0 => rfl
  | d + 1 => by
    show (sortB _).map _ = sortW _
    rw [w_sort, List.map_append, w_twos, w_row s d]
theorem sortT_perm (l : List TBun) : (sortT l).Perm l := List.mergeSort_perm _ _
def flatT (l : List TBun) : List (Nat × Nat) := l.flatMap (·.2)
theorem twosT_flat : ∀ l : List TBun, (flatT (twosT l)).Sublist (flatT l)
  | [] => .slnil
  | [_] => List.nil_sublist _
  | a :: b :: r => by
    have ih := twosT_flat r
    show ((a.2 ++ b.2) ++ flatT (twosT r)).Sublist (a.2 ++ (b.2 ++ flatT r))
    rw [List.append_assoc]
    exact (List.Sublist.refl _).append ((List.Sublist.refl _).append ih)
theorem flat_perm {l l' : List TBun} (h : l.Perm l') : (flatT l).Perm (flatT l') := h.flatMap_right _
theorem flat_app (l l' : List TBun) : flatT (l ++ l') = flatT l ++ flatT l' := List.flatMap_append
theorem twosT_length : ∀ l : List TBun, (twosT l).length = l.length / 2
  | [] => rfl
  | [_] => by simp [twosT]
  | a :: b :: r => by
    have ih := twosT_length r
    show (twosT r).length + 1 = (r.length + 1 + 1) / 2
    omega
def idxOf (ns : List Int) : List Nat := (comes ns).map (·.2)
theorem idx_nodup (ns : List Int) : (idxOf ns).Nodup := by
  have h : ((ns.zipIdx).map (·.2)).Nodup := by
    rw [List.zipIdx_map_snd]
    exact List.nodup_range'
  exact h.sublist ((List.filter_sublist).map _)
theorem mem_comes {ns : List Int} {p : Int × Nat} (h : p ∈ comes ns) : p.2 < ns.length ∧ ns.getD p.2 0 = p.1 ∧ 0 < p.1 := by
  obtain ⟨h1, h2⟩ := List.mem_filter.mp h
  have z := List.mem_zipIdx' h1
  refine ⟨z.1, ?_, by simpa using h2⟩
  rw [List.getD_eq_getElem?_getD, List.getElem?_eq_getElem z.1]
  exact z.2.symm
theorem mem_idx {ns : List Int} {k : Nat} : k ∈ idxOf ns ↔ k < ns.length ∧ 0 < ns.getD k 0 := by
  constructor
  · intro h
    obtain ⟨p, hp, rfl⟩ := List.mem_map.mp h
    obtain ⟨a, b, c⟩ := mem_comes hp
    exact ⟨a, by rw [b]; exact c⟩
  · rintro ⟨h1, h2⟩
    refine List.mem_map.mpr ⟨(ns.getD k 0, k), List.mem_filter.mpr ⟨?_, by simpa using h2⟩, rfl⟩
    rw [List.getD_eq_getElem?_getD, List.getElem?_eq_getElem h1]
    exact List.mem_zipIdx_iff_getElem?.mpr (List.getElem?_eq_getElem h1)
theorem oneT_flat (ns : List Int) (d : Nat) : (flatT (oneT ns d)).Perm ((idxOf ns).map fun k => (k, d)) := by
  refine (flat_perm (sortT_perm _)).trans ?_
  unfold flatT idxOf
  rw [List.flatMap_map, List.map_map]
  have key : ∀ l : List (Int × Nat), (l.flatMap fun p => ((p.1, [(p.2, d)]) : TBun).2) = l.map ((fun k => (k, d)) ∘ fun p => p.2) := fun l => by
    induction l with
    | nil => rfl
    | cons a r ih => rw [List.flatMap_cons, ih]; rfl
  rw [key]
def wid (l : List (Nat × Nat)) : Nat := (l.map fun t => 2 ^ t.2).sum
theorem wid_app (a b : List (Nat × Nat)) : wid (a ++ b) = wid a + wid b := by unfold wid; rw [List.map_append, List.sum_append]
structure RowOk (ns : List Int) (D : Nat) (l : List TBun) : Prop where
  w : ∀ b ∈ l, wid b.2 = 2 ^ D
  c : ∀ b ∈ l, b.1 = (b.2.map fun t => ns.getD t.1 0).sum
  nd : (flatT l).Nodup
  m : ∀ t ∈ flatT l, t.2 ≤ D ∧ t.1 ∈ idxOf ns
theorem one_ok (ns : List Int) (D : Nat) : RowOk ns D (oneT ns D) where
  w := fun b hb => by
    obtain ⟨p, _, rfl⟩ := List.mem_map.mp ((sortT_perm _).mem_iff.mp hb)
    simp [wid]
  c := fun b hb => by
    obtain ⟨p, hp, rfl⟩ := List.mem_map.mp ((sortT_perm _).mem_iff.mp hb)
    simp [-List.getD_eq_getElem?_getD, (mem_comes hp).2.1]
  nd := by
    refine (oneT_flat ns D).nodup_iff.mpr ?_
    exact List.Pairwise.map _ (fun a b h z => h (by injection z)) (idx_nodup ns)
  m := fun t ht => by
    obtain ⟨k, hk, rfl⟩ := List.mem_map.mp ((oneT_flat ns D).mem_iff.mp ht)
    exact ⟨Nat.le_refl _, hk⟩
theorem twos_mem : ∀ {l : List TBun} {b : TBun}, b ∈ twosT l → ∃ x y, x ∈ l ∧ y ∈ l ∧ b = (x.1 + y.1, x.2 ++ y.2)
  | [], _, h => by cases h
  | [_], _, h => by cases h
  | a :: b :: r, c, h => by
    rcases List.mem_cons.mp (show c ∈ (a.1 + b.1, a.2 ++ b.2) :: twosT r from h) with rfl | h
    · exact ⟨a, b, .head _, .tail _ (.head _), rfl⟩
    · obtain ⟨x, y, hx, hy, e⟩ := twos_mem h
      exact ⟨x, y, .tail _ (.tail _ hx), .tail _ (.tail _ hy), e⟩
theorem row_ok (ns : List Int) : ∀ D, RowOk ns D (rowT ns D)
  | 0 => one_ok ns 0
  | D + 1 => by
    have ih := row_ok ns D
    have o := one_ok ns (D + 1)
    have fp : (flatT (rowT ns (D + 1))).Perm (flatT (oneT ns (D + 1)) ++ flatT (twosT (rowT ns D))) := by
      refine (flat_perm (sortT_perm _)).trans ?_
      rw [flat_app]
    have sub := twosT_flat (rowT ns D)
    refine ⟨fun b hb => ?_, fun b hb => ?_, fp.nodup_iff.mpr (List.nodup_append.mpr ⟨o.nd, ih.nd.sublist sub, ?_⟩), fun t ht => ?_⟩
    · rcases List.mem_append.mp ((sortT_perm _).mem_iff.mp hb) with z | z
      · exact o.w b z
      · obtain ⟨x, y, hx, hy, rfl⟩ := twos_mem z
        show wid (x.2 ++ y.2) = _
        rw [wid_app, ih.w x hx, ih.w y hy, Nat.pow_succ]
        omega
    · rcases List.mem_append.mp ((sortT_perm _).mem_iff.mp hb) with z | z
      · exact o.c b z
      · obtain ⟨x, y, hx, hy, rfl⟩ := twos_mem z
        show x.1 + y.1 = ((x.2 ++ y.2).map _).sum
        rw [List.map_append, List.sum_append, ← ih.c x hx, ← ih.c y hy]
    · rintro a ha b hb rfl
      have z := (ih.m a (sub.subset hb)).1
      obtain ⟨k, hk, rfl⟩ := List.mem_map.mp ((oneT_flat ns (D + 1)).mem_iff.mp ha)
      have z : D + 1 ≤ D := z
      omega
    · rcases List.mem_append.mp (fp.mem_iff.mp ht) with z | z
      · exact o.m t z
      · have := ih.m t (sub.subset z)
        exact ⟨by omega, this.2⟩
theorem oneT_length (ns : List Int) (d : Nat) : (oneT ns d).length = (idxOf ns).length := by
  unfold oneT idxOf
  rw [(sortT_perm _).length_eq, List.length_map, List.length_map]
theorem row_long (ns : List Int) : ∀ (D k : Nat), (idxOf ns).length ≤ k * 2 ^ D → 2 * (idxOf ns).length ≤ (rowT ns D).length + k
  | 0, k, h => by
    rw [show rowT ns 0 = oneT ns 0 from rfl, oneT_length]
    omega
  | D + 1, k, h => by
    have ih := row_long ns D (2 * k) (by rw [Nat.pow_succ] at h; rw [Nat.mul_comm 2 k, Nat.mul_assoc, Nat.mul_comm 2]; exact h)
    rw [show rowT ns (D + 1) = sortT (oneT ns (D + 1) ++ twosT (rowT ns D)) from rfl, (sortT_perm _).length_eq, List.length_append, oneT_length, twosT_length]
    omega
theorem levels_sum : ∀ (m : Nat) (S : List Nat), S.Nodup → (∀ s ∈ S, s < m) → S.length ≤ m ∧ (S.map fun s => 2 ^ s).sum + 2 ^ (m - S.length) ≤ 2 ^ m
  | 0, [], _, _ => ⟨Nat.le_refl _, Nat.le_refl _⟩
  | 0, s :: _, _, h => absurd (h s (.head _)) (by omega)
  | m + 1, S, hn, h => by
    by_cases c : m ∈ S
    · have hp := List.perm_cons_erase c
      have hn2 : (m :: S.erase m).Nodup := hp.nodup_iff.mp hn
      obtain ⟨h1, h2⟩ := List.nodup_cons.mp hn2
      obtain ⟨a1, a2⟩ := levels_sum m (S.erase m) h2 fun s hs => by
        have := h s (List.mem_of_mem_erase hs)
        have : s ≠ m := fun e => h1 (e ▸ hs)
        omega
      have hl := hp.length_eq
      rw [List.length_cons] at hl
      have hs := (hp.map fun s => 2 ^ s).sum_nat
      rw [List.map_cons, List.sum_cons] at hs
      refine ⟨by omega, ?_⟩
      rw [hs, hl, show m + 1 - ((S.erase m).length + 1) = m - (S.erase m).length by omega, Nat.pow_succ]
      omega
    · obtain ⟨a1, a2⟩ := levels_sum m S hn fun s hs => by
        have := h s hs
        have : s ≠ m := fun e => c (e ▸ hs)
        omega
      refine ⟨by omega, ?_⟩
      rw [show m + 1 - S.length = m - S.length + 1 by omega, Nat.pow_succ, Nat.pow_succ]
      omega
theorem fub {f : Nat × Nat → Nat} : ∀ (idx : List Nat) (T : List (Nat × Nat)), idx.Nodup → (∀ t ∈ T, t.1 ∈ idx) → (T.map f).sum = (idx.map fun p => ((T.filter fun t => decide (t.1 = p)).map f).sum).sum
  | [], T, _, h => by
    cases T with
    | nil => rfl
    | cons t T => exact absurd (h t (.head _)) (by simp)
  | p :: idx, T, hn, h => by
    obtain ⟨h1, h2⟩ := List.nodup_cons.mp hn
    have ih := fub (f := f) idx (T.filter fun t => !decide (t.1 = p)) h2 fun t ht => by
      obtain ⟨a, b⟩ := List.mem_filter.mp ht
      rcases List.mem_cons.mp (h t a) with z | z
      · simp [z] at b
      · exact z
    have split : ∀ l : List (Nat × Nat), (l.map f).sum = ((l.filter fun t => decide (t.1 = p)).map f).sum + ((l.filter fun t => !decide (t.1 = p)).map f).sum := fun l => by
      induction l with
      | nil => rfl
      | cons a r ih =>
        by_cases c : a.1 = p <;> simp [List.filter_cons, c, ih] <;> omega
    rw [List.map_cons, List.sum_cons, split T, ih]
    congr 2
    apply List.map_congr_left
    intro q hq
    rw [List.filter_filter]
    congr 2
    apply List.filter_congr
    intro t _
    by_cases c : t.1 = q
    · have : t.1 ≠ p := fun e => h1 (by rw [← e, c]; exact hq)
      simp [c]
      rintro rfl
      exact this c
    · simp [c]
theorem fubI {f : Nat × Nat → Int} : ∀ (idx : List Nat) (T : List (Nat × Nat)), idx.Nodup → (∀ t ∈ T, t.1 ∈ idx) → (T.map f).sum = (idx.map fun p => ((T.filter fun t => decide (t.1 = p)).map f).sum).sum
  | [], T, _, h => by
    cases T with
    | nil => rfl
    | cons t T => exact absurd (h t (.head _)) (by simp)
  | p :: idx, T, hn, h => by
    obtain ⟨h1, h2⟩ := List.nodup_cons.mp hn
    have ih := fubI (f := f) idx (T.filter fun t => !decide (t.1 = p)) h2 fun t ht => by
      obtain ⟨a, b⟩ := List.mem_filter.mp ht
      rcases List.mem_cons.mp (h t a) with z | z
      · simp [z] at b
      · exact z
    have split : ∀ l : List (Nat × Nat), (l.map f).sum = ((l.filter fun t => decide (t.1 = p)).map f).sum + ((l.filter fun t => !decide (t.1 = p)).map f).sum := fun l => by
      induction l with
      | nil => rfl
      | cons a r ih =>
        by_cases c : a.1 = p <;> simp [List.filter_cons, c, ih] <;> omega
    rw [List.map_cons, List.sum_cons, split T, ih]
    congr 2
    apply List.map_congr_left
    intro q hq
    rw [List.filter_filter]
    congr 2
    apply List.filter_congr
    intro t _
    by_cases c : t.1 = q
    · have : t.1 ≠ p := fun e => h1 (by rw [← e, c]; exact hq)
      simp [c]
      rintro rfl
      exact this c
    · simp [c]
theorem addAt_get : ∀ (l : List Nat) (ls : List Int) (k : Nat), (∀ p ∈ l, p < ls.length) → (addAt ls (l.map fun p => ((p : Nat) : Int))).getD k 0 = ls.getD k 0 + ((l.count k : Nat) : Int)
  | [], ls, k, _ => by simp [addAt]
  | p :: l, ls, k, h => by
    have hp := h p (.head _)
    have ih := addAt_get l (ls.set p (ls.getD p 0 + 1)) k fun q hq => by rw [List.length_set]; exact h q (.tail _ hq)
    show (addAt (ls.set p (ls.getD p 0 + 1)) (l.map _)).getD k 0 = _
    rw [ih, List.count_cons]
    by_cases c : p = k
    · subst c
      rw [List.getD_eq_getElem?_getD, List.getElem?_set_self hp]
      simp
      omega
    · rw [List.getD_eq_getElem?_getD, List.getElem?_set_ne c, ← List.getD_eq_getElem?_getD]
      have : (p == k) = false := by simpa using c
      rw [this]
      simp
/-- what lengths_of tells -/
structure LenOk (ns : List Int) (m : Nat) (ls : List Int) : Prop where
  len : ls.length = ns.length
  zero : ∀ k, k ∉ idxOf ns → ls.getD k 0 = 0
  pos : ∀ k ∈ idxOf ns, 1 ≤ ls.getD k 0 ∧ ls.getD k 0 ≤ ((m : Nat) : Int)
  kraft : ((idxOf ns).map fun k => 2 ^ (m - (ls.getD k 0).toNat)).sum ≤ 2 ^ m
  least : ∀ h : Nat → Nat, (∀ p ∈ idxOf ns, 1 ≤ h p ∧ h p ≤ m) → ((idxOf ns).map fun p => 2 ^ (m - h p)).sum ≤ 2 ^ m → ((idxOf ns).map fun p => ns.getD p 0 * ls.getD p 0).sum ≤ ((idxOf ns).map fun p => ns.getD p 0 * ((h p : Nat) : Int)).sum
theorem comes_len (ns : List Int) : (singlesOf ns).length = (idxOf ns).length := by
  rw [← un_one ns 0, List.length_map, oneT_length]
theorem one_big {f : Nat → Nat} : ∀ {l : List Nat} {p : Nat}, (∀ q ∈ l, 1 ≤ f q) → p ∈ l → f p + l.length ≤ (l.map f).sum + 1
  | q :: l, p, h, hp => by
    rw [List.map_cons, List.sum_cons, List.length_cons]
    rcases List.mem_cons.mp hp with rfl | hp
    · have z := sum_le (f := fun _ => 1) (g := f) (l := l) fun q hq => h q (.tail _ hq)
      rw [sum_constN] at z
      omega
    · have := one_big (fun q hq => h q (.tail _ hq)) hp
      have := h q (.head _)
      omega
theorem len_one (ns : List Int) (m : Nat) (hm : 1 ≤ m) (h : (singlesOf ns).length = 1) : LenOk ns m (lenOf ns m) := by
  have hi : (idxOf ns).length = 1 := by rw [← comes_len]; exact h
  obtain ⟨k, hk⟩ : ∃ k, idxOf ns = [k] := List.length_eq_one_iff.mp hi
  have hkm : k ∈ idxOf ns := by rw [hk]; exact .head _
  obtain ⟨hkl, hkp⟩ := mem_idx.mp hkm
  have e : lenOf ns m = (List.replicate ns.length 0).set k 1 := by
    unfold lenOf
    rw [if_pos h]
    congr 1
    have z := un_one ns 0
    obtain ⟨q, hq⟩ : ∃ q, comes ns = [q] := List.length_eq_one_iff.mp (by rw [← hi]; unfold idxOf; rw [List.length_map])
    have hqk : q.2 = k := by
      unfold idxOf at hk
      rw [hq] at hk
      simpa using hk
    have z2 : oneT ns 0 = [(q.1, [(q.2, 0)])] := by
      unfold oneT
      rw [hq]
      exact List.mergeSort_singleton _
    rw [← z, z2]
    show (([(((q.2 : Nat) : Int))] : List Int).getD 0 0).toNat = k
    rw [hqk]
    rfl
  have g : ∀ j, (lenOf ns m).getD j 0 = if j = k then 1 else 0 := fun j => by
    rw [e, List.getD_eq_getElem?_getD]
    by_cases c : j = k
    · subst c
      rw [List.getElem?_set_self (by rw [List.length_replicate]; exact hkl), if_pos rfl]
      rfl
    · rw [List.getElem?_set_ne (fun z => c z.symm), if_neg c, List.getElem?_replicate]
      split <;> rfl
  refine ⟨lenOf_length ns m, fun j hj => ?_, fun j hj => ?_, ?_, fun h hh _ => ?_⟩
  · rw [g, if_neg]
    rintro rfl
    exact hj hkm
  · rw [hk] at hj
    rw [g, if_pos (List.mem_singleton.mp hj)]
    omega
  · rw [hk]
    simp only [List.map_cons, List.map_nil, List.sum_cons, List.sum_nil]
    rw [g, if_pos rfl]
    show 2 ^ (m - 1) + 0 ≤ 2 ^ m
    exact Nat.pow_le_pow_right (by decide) (by omega)
  · rw [hk]
    simp only [List.map_cons, List.map_nil, List.sum_cons, List.sum_nil]
    rw [g, if_pos rfl]
    have z := (hh k hkm).1
    have := Int.mul_le_mul_of_nonneg_left (show (1 : Int) ≤ ((h k : Nat) : Int) by omega) (show 0 ≤ ns.getD k 0 by omega)
    omega
theorem len_ok (ns : List Int) (m : Nat) (hm : 1 ≤ m) (h1 : 1 ≤ (idxOf ns).length) (h2 : (idxOf ns).length ≤ 2 ^ m) : LenOk ns m (lenOf ns m) := by
  by_cases c : (singlesOf ns).length = 1
  · exact len_one ns m hm c
  have cl := comes_len ns
  have n2 : 2 ≤ (idxOf ns).length := by omega
  have R := row_ok ns (m - 1)
  have em : 2 ^ m = 2 ^ (m - 1) * 2 := by rw [← Nat.pow_succ]; congr 1; omega
  have long := row_long ns (m - 1) 2 (by omega)
  obtain ⟨P, hP⟩ : ∃ P, P = (rowT ns (m - 1)).take (2 * (idxOf ns).length - 2) := ⟨_, rfl⟩
  have hPl : P.length = 2 * (idxOf ns).length - 2 := by rw [hP, List.length_take]; omega
  have hsub : P.Sublist (rowT ns (m - 1)) := hP ▸ List.take_sublist _ _
  have hfs : (flatT P).Sublist (flatT (rowT ns (m - 1))) := by
    have key : ∀ (l : List TBun) (j : Nat), (flatT (l.take j)).Sublist (flatT l) := fun l j => by
      conv => rhs; rw [← List.take_append_drop j l, flat_app]
      exact List.sublist_append_left _ _
    rw [hP]
    exact key _ _
  have hnd : (flatT P).Nodup := R.nd.sublist hfs
  have hmem : ∀ t ∈ flatT P, t.2 ≤ m - 1 ∧ t.1 ∈ idxOf ns := fun t ht => R.m t (hfs.subset ht)
  have hwid : wid (flatT P) = P.length * 2 ^ (m - 1) := by
    have key : ∀ l : List TBun, (∀ b ∈ l, wid b.2 = 2 ^ (m - 1)) → wid (flatT l) = l.length * 2 ^ (m - 1) := fun l => by
      induction l with
      | nil => intro _; simp [flatT, wid]
      | cons a r ih =>
        intro h
        have i := ih fun b hb => h b (.tail _ hb)
        rw [show flatT (a :: r) = a.2 ++ flatT r from rfl, wid_app, i, h a (.head _), List.length_cons, Nat.succ_mul]
        omega
    exact key P fun b hb => R.w b (hsub.subset hb)
  -- the lengths
  have hle : lenOf ns m = addAt (List.replicate ns.length 0) (((flatT P).map (·.1)).map fun p => ((p : Nat) : Int)) := by
    unfold lenOf
    rw [if_neg c, ← un_row, cl, ← List.map_take, ← hP]
    congr 1
    have key : ∀ l : List TBun, (l.map un).flatMap (·.2) = ((flatT l).map (·.1)).map fun p => ((p : Nat) : Int) := fun l => by
      induction l with
      | nil => rfl
      | cons a r ih =>
        rw [List.map_cons, List.flatMap_cons, ih, show flatT (a :: r) = a.2 ++ flatT r from rfl, List.map_append, List.map_append]
        congr 1
        unfold un
        rw [List.map_map]
        rfl
    exact key P
  have hin : ∀ p ∈ (flatT P).map (·.1), p < (List.replicate ns.length (0 : Int)).length := fun p hp => by
    obtain ⟨t, ht, rfl⟩ := List.mem_map.mp hp
    rw [List.length_replicate]
    exact (mem_idx.mp (hmem t ht).2).1
  have hget : ∀ k, (lenOf ns m).getD k 0 = (((((flatT P).filter fun t => decide (t.1 = k)).length) : Nat) : Int) := fun k => by
    rw [hle, addAt_get _ _ _ hin]
    have z : (List.replicate ns.length (0 : Int)).getD k 0 = 0 := by
      rw [List.getD_eq_getElem?_getD, List.getElem?_replicate]
      split <;> rfl
    rw [z, Int.zero_add, List.count_eq_countP, List.countP_map, List.countP_eq_length_filter]
    congr 3
  have hlev : ∀ k, ((flatT P).filter fun t => decide (t.1 = k)).length ≤ m ∧ (((flatT P).filter fun t => decide (t.1 = k)).map fun t => 2 ^ t.2).sum + 2 ^ (m - ((flatT P).filter fun t => decide (t.1 = k)).length) ≤ 2 ^ m := fun k => by
    have z := levels_sum m (((flatT P).filter fun t => decide (t.1 = k)).map (·.2)) ?_ ?_
    · rw [List.length_map, List.map_map] at z
      exact z
    · have hn3 := hnd.sublist (List.filter_sublist (p := fun t => decide (t.1 = k)))
      refine List.pairwise_map.mpr (hn3.imp_of_mem fun {a b} ha hb hab => ?_)
      intro e
      have ea := (List.mem_filter.mp ha).2
      have eb := (List.mem_filter.mp hb).2
      simp only [decide_eq_true_eq] at ea eb
      exact hab (Prod.ext (ea.trans eb.symm) e)
    · intro s hs
      obtain ⟨t, ht, rfl⟩ := List.mem_map.mp hs
      have := (hmem t (List.mem_filter.mp ht).1).1
      omega
  have hk : ((idxOf ns).map fun k => 2 ^ (m - ((lenOf ns m).getD k 0).toNat)).sum ≤ 2 ^ m := by
    have f := fub (f := fun t => 2 ^ t.2) (idxOf ns) (flatT P) (idx_nodup ns) fun t ht => (hmem t ht).2
    have s := sum_le (l := idxOf ns) (f := fun k => (((flatT P).filter fun t => decide (t.1 = k)).map fun t => 2 ^ t.2).sum + 2 ^ (m - ((flatT P).filter fun t => decide (t.1 = k)).length)) (g := fun _ => 2 ^ m) fun k _ => (hlev k).2
    rw [sum_addN, sum_constN, ← f, show ((flatT P).map fun t => 2 ^ t.2).sum = wid (flatT P) from rfl, hwid, hPl] at s
    have e : ((idxOf ns).map fun k => 2 ^ (m - ((lenOf ns m).getD k 0).toNat)) = (idxOf ns).map fun k => 2 ^ (m - ((flatT P).filter fun t => decide (t.1 = k)).length) := by
      apply List.map_congr_left
      intro k _
      rw [hget, Int.toNat_natCast]
    rw [e]
    have em : 2 ^ m = 2 ^ (m - 1) * 2 := by rw [← Nat.pow_succ]; congr 1; omega
    have key : ∀ l x : Nat, 2 ≤ l → (2 * l - 2) * x + x * 2 = l * (x * 2) := fun l x hl => by
      obtain ⟨j, rfl⟩ : ∃ j, l = j + 1 := ⟨l - 1, by omega⟩
      rw [show 2 * (j + 1) - 2 = 2 * j by omega, Nat.add_mul, Nat.one_mul, Nat.mul_comm 2 j, Nat.mul_assoc, Nat.mul_comm 2 x]
    have z := key (idxOf ns).length (2 ^ (m - 1)) n2
    rw [em] at s ⊢
    omega
  refine ⟨lenOf_length ns m, fun k hk0 => ?_, fun k hkm => ?_, hk, fun h hh hkr => ?_⟩
  · rw [hget]
    have z : (flatT P).filter (fun t => decide (t.1 = k)) = [] := List.filter_eq_nil_iff.mpr fun t ht e => hk0 (by
      have e : t.1 = k := by simpa using e
      exact e ▸ (hmem t ht).2)
    rw [z]
    rfl
  · rw [hget]
    have z := (hlev k).1
    refine ⟨?_, by omega⟩
    by_cases c0 : ((flatT P).filter fun t => decide (t.1 = k)).length = 0
    · have z := one_big (f := fun k => 2 ^ (m - ((lenOf ns m).getD k 0).toNat)) (fun q _ => Nat.one_le_two_pow) hkm
      rw [show ((lenOf ns m).getD k 0).toNat = 0 by rw [hget, c0]; rfl, Nat.sub_zero] at z
      omega
    · omega
  · have l := least_cost (s := (singlesOf ns).map (·.1)) (idx := idxOf ns) (c := fun p => ns.getD p 0) (m := m) (h := h) ?_ ?_ ?_ hm (fun p hp => (hh p hp).2) hkr
    · refine Int.le_trans (Int.le_of_eq ?_) l
      rw [← w_row, ← un_row, List.map_map, ← List.map_take, ← hP]
      have f := fubI (f := fun t => ns.getD t.1 0) (idxOf ns) (flatT P) (idx_nodup ns) fun t ht => (hmem t ht).2
      have g : (P.map ((fun x => x.1) ∘ un)).sum = ((flatT P).map fun t => ns.getD t.1 0).sum := by
        have key : ∀ l : List TBun, (∀ b ∈ l, b.1 = (b.2.map fun t => ns.getD t.1 0).sum) → (l.map ((fun x => x.1) ∘ un)).sum = ((flatT l).map fun t => ns.getD t.1 0).sum := fun l => by
          induction l with
          | nil => intro _; rfl
          | cons a r ih =>
            intro h
            rw [List.map_cons, List.sum_cons, ih fun b hb => h b (.tail _ hb), show flatT (a :: r) = a.2 ++ flatT r from rfl, List.map_append, List.sum_append, ← h a (.head _)]
            rfl
        exact key P fun b hb => R.c b (hsub.subset hb)
      rw [g, f]
      congr 1
      apply List.map_congr_left
      intro p _
      rw [hget]
      have key : ∀ l : List (Nat × Nat), (∀ t ∈ l, t.1 = p) → (l.map fun t => ns.getD t.1 0).sum = ns.getD p 0 * ((l.length : Nat) : Int) := fun l => by
        induction l with
        | nil => intro _; simp
        | cons a r ih =>
          intro h
          rw [List.map_cons, List.sum_cons, ih fun b hb => h b (.tail _ hb), h a (.head _), List.length_cons]
          push_cast
          rw [Int.mul_add, Int.mul_one]
          omega
      exact (key _ fun t ht => by simpa using (List.mem_filter.mp ht).2).symm
    · have z := w_sort ((ns.zipIdx.filter fun p => decide (0 < p.1)).map fun p => (p.1, [((p.2 : Nat) : Int)]))
      rw [show (singlesOf ns).map (·.1) = sortW _ from z]
      exact sortW_sorted _
    · intro x hx
      obtain ⟨b, hb, rfl⟩ := List.mem_map.mp hx
      rw [← un_one ns 0] at hb
      obtain ⟨t, ht, rfl⟩ := List.mem_map.mp hb
      obtain ⟨p, hp, rfl⟩ := List.mem_map.mp ((sortT_perm _).mem_iff.mp ht)
      have := (mem_comes hp).2.2
      show 0 ≤ p.1
      omega
    · have e : (idxOf ns).map (fun p => ns.getD p 0) = (comes ns).map (·.1) := by
        unfold idxOf
        rw [List.map_map]
        apply List.map_congr_left
        intro p hp
        exact (mem_comes hp).2.1
      rw [e]
      have z := ((sortB_perm ((comes ns).map fun p => (p.1, [((p.2 : Nat) : Int)]))).map (·.1))
      rw [List.map_map] at z
      exact z
end L2.BR

namespace L2.BR
/-! ### all rows of lengths -/
def rowsR (most : Nat) : Nat → List (List Int)
  | 0 => [[]]
  | n + 1 => (rowsR most n).flatMap fun r => (List.range most).map fun i => r ++ [1 + ((i : Nat) : Int)]
def worthR (most : Nat) (r : List Int) : Nat := (r.map fun l => 2 ^ (most - l.toNat)).sum
def goodRows (most n : Nat) : List (List Int) := (rowsR most n).filter fun r => decide (worthR most r ≤ 2 ^ most)
def costR (cs r : List Int) : Int := ((cs.zip r).map fun p => p.1 * p.2).sum
theorem mem_rowsR {most : Nat} : ∀ {n : Nat} {r : List Int}, r ∈ rowsR most n ↔ r.length = n ∧ ∀ x ∈ r, 1 ≤ x ∧ x ≤ ((most : Nat) : Int)
  | 0, r => by
    simp only [rowsR, List.mem_singleton, List.length_eq_zero_iff]
    constructor
    · rintro rfl
      exact ⟨rfl, fun _ z => nomatch z⟩
    · exact fun h => h.1
  | n + 1, r => by
    simp only [rowsR, List.mem_flatMap, List.mem_map, List.mem_range]
    constructor
    · rintro ⟨q, hq, i, hi, rfl⟩
      obtain ⟨h1, h2⟩ := mem_rowsR.mp hq
      refine ⟨by rw [List.length_append, List.length_singleton, h1], fun x hx => ?_⟩
      rcases List.mem_append.mp hx with z | z
      · exact h2 x z
      · rw [List.mem_singleton.mp z]
        omega
    · rintro ⟨h1, h2⟩
      have hne : r ≠ [] := by rintro rfl; simp at h1
      have e := List.dropLast_concat_getLast hne
      obtain ⟨l1, l2⟩ := h2 (r.getLast hne) (List.getLast_mem hne)
      refine ⟨r.dropLast, mem_rowsR.mpr ⟨by rw [List.length_dropLast]; omega, fun x hx => h2 x ((List.dropLast_sublist r).subset hx)⟩, (r.getLast hne - 1).toNat, by omega, ?_⟩
      rw [show (1 + (((r.getLast hne - 1).toNat : Nat) : Int)) = r.getLast hne by omega]
      exact e
theorem rowsR_length (most : Nat) : ∀ n, (rowsR most n).length = most ^ n
  | 0 => rfl
  | n + 1 => by
    have ih := rowsR_length most n
    show ((rowsR most n).flatMap _).length = _
    rw [List.length_flatMap, Nat.pow_succ, ← ih]
    generalize rowsR most n = l
    induction l with
    | nil => simp
    | cons a r ih => rw [List.map_cons, List.sum_cons, ih, List.length_cons, List.length_map, List.length_range, Nat.succ_mul]; omega
theorem zip_idx {ns ls : List Int} (h : ls.length = ns.length) : ns.zip ls = ns.zipIdx.map fun p => (p.1, ls.getD p.2 0) := by
  apply List.ext_getElem
  · simp [h]
  · intro i h1 h2
    simp at h1 h2
    simp [List.getElem_zip, show i < ls.length by omega]
theorem zip_comes {ns ls : List Int} (h : ls.length = ns.length) : (ns.zip ls).filter (fun p => decide (0 < p.1)) = (comes ns).map fun p => (p.1, ls.getD p.2 0) := by
  rw [zip_idx h, List.filter_map]
  rfl
theorem row_idx {ns ls : List Int} (h : ls.length = ns.length) : ((ns.zip ls).filter fun p => decide (0 < p.1)).map (·.2) = (idxOf ns).map fun p => ls.getD p 0 := by
  rw [zip_comes h]
  unfold idxOf
  rw [List.map_map, List.map_map]
  rfl
theorem com_idx (ns : List Int) : ns.filter (fun n => decide (0 < n)) = (idxOf ns).map fun p => ns.getD p 0 := by
  have e : ns = ns.zipIdx.map (·.1) := by rw [List.zipIdx_map_fst]
  conv => lhs; rw [e, List.filter_map]
  unfold idxOf
  rw [List.map_map]
  apply List.map_congr_left
  intro p hp
  exact ((mem_comes (ns := ns) hp).2.1).symm
theorem cost_idx (ns : List Int) (g : Nat → Int) : costR (ns.filter fun n => decide (0 < n)) ((idxOf ns).map g) = ((idxOf ns).map fun p => ns.getD p 0 * g p).sum := by
  unfold costR
  rw [com_idx, List.zip_map', List.map_map]
  rfl
theorem row_of {ns : List Int} {r : List Int} (h : r.length = (idxOf ns).length) : (idxOf ns).map (fun p => r.getD ((idxOf ns).idxOf p) 0) = r := by
  apply List.ext_getElem
  · simp [h]
  · intro i h1 h2
    rw [List.getElem_map]
    have z : (idxOf ns).idxOf ((idxOf ns)[i]'(by simpa using h1)) = i := (idx_nodup ns).idxOf_getElem i _
    rw [z]
    simp [h2]
/-- the told row is among them, and none costs less -/
theorem rows_least {ns ls : List Int} {m : Nat} (O : LenOk ns m ls) : (idxOf ns).map (fun p => ls.getD p 0) ∈ goodRows m (idxOf ns).length ∧
    ∀ r ∈ goodRows m (idxOf ns).length, costR (ns.filter fun n => decide (0 < n)) ((idxOf ns).map fun p => ls.getD p 0) ≤ costR (ns.filter fun n => decide (0 < n)) r := by
  refine ⟨List.mem_filter.mpr ⟨mem_rowsR.mpr ⟨by rw [List.length_map], fun x hx => ?_⟩, ?_⟩, fun r hr => ?_⟩
  · obtain ⟨p, hp, rfl⟩ := List.mem_map.mp hx
    exact O.pos p hp
  · rw [decide_eq_true_eq]
    unfold worthR
    rw [List.map_map]
    exact O.kraft
  · obtain ⟨h1, h2⟩ := List.mem_filter.mp hr
    obtain ⟨h3, h4⟩ := mem_rowsR.mp h1
    have e := row_of h3
    have hin : ∀ p ∈ idxOf ns, 1 ≤ r.getD ((idxOf ns).idxOf p) 0 ∧ r.getD ((idxOf ns).idxOf p) 0 ≤ ((m : Nat) : Int) := fun p hp => by
      have z := List.mem_map_of_mem (f := fun p => r.getD ((idxOf ns).idxOf p) 0) hp
      rw [e] at z
      exact h4 _ z
    have c1 := cost_idx ns fun p => r.getD ((idxOf ns).idxOf p) 0
    rw [e] at c1
    rw [c1, cost_idx]
    have l := O.least (fun p => (r.getD ((idxOf ns).idxOf p) 0).toNat) (fun p hp => by have := hin p hp; omega) (by
      rw [decide_eq_true_eq] at h2
      unfold worthR at h2
      rw [← e, List.map_map] at h2
      exact h2)
    refine Int.le_trans l (Int.le_of_eq ?_)
    congr 1
    apply List.map_congr_left
    intro p hp
    have := hin p hp
    rw [Int.toNat_of_nonneg (by omega)]
end L2.BR

namespace L2.BR
/-! ### the law's own least cost -/
def addedO : Option Int → Option Int → Option Int
  | some a, some b => some (a + b)
  | _, _ => none
def lessO : Option Int → Option Int → Option Int
  | none, b => b
  | some a, some b => if b < a then some b else some a
  | some a, none => some a
def dp0 (l : List Int) (f : Nat) : Option Int := if l.length ≤ f then some 0 else none
theorem dot_zero : ∀ l : List Int, ((l.zip ((List.replicate l.length 0).map fun e : Nat => ((e : Nat) : Int))).map fun p => p.1 * p.2).sum = 0
  | [] => rfl
  | c :: l => by
    have ih := dot_zero l
    rw [List.length_cons, List.replicate_succ, List.map_cons, List.zip_cons_cons, List.map_cons, List.sum_cons, ih]
    simp
def dp (N : Nat) : Nat → List Int → Nat → Option Int
  | 0, l, f => dp0 l f
  | _ + 1, [], _ => some 0
  | _ + 1, _ :: _, 0 => none
  | D + 1, c :: r, f + 1 => lessO (dp N (D + 1) r f) (addedO (some (c :: r).sum) (dp N D (c :: r) (min (2 * (f + 1)) N)))
termination_by D l => (D, l.length)
def dot (cs es : List Int) : Int := ((cs.zip es).map fun p => p.1 * p.2).sum
def krD (D : Nat) (es : List Nat) : Nat := (es.map fun e => 2 ^ (D - e)).sum
def dotN (cs : List Int) (es : List Nat) : Int := dot cs (es.map fun e => ((e : Nat) : Int))
theorem dot_cons (c e : Int) (cs es : List Int) : dot (c :: cs) (e :: es) = c * e + dot cs es := by
  unfold dot
  rw [List.zip_cons_cons, List.map_cons, List.sum_cons]
theorem dotN_cons (c : Int) (e : Nat) (cs : List Int) (es : List Nat) : dotN (c :: cs) (e :: es) = c * ((e : Nat) : Int) + dotN cs es := dot_cons _ _ _ _
theorem krD_cons (D e : Nat) (es : List Nat) : krD D (e :: es) = 2 ^ (D - e) + krD D es := by
  unfold krD
  rw [List.map_cons, List.sum_cons]
theorem krD_le (D : Nat) : ∀ es : List Nat, krD D es ≤ es.length * 2 ^ D
  | [] => by simp [krD]
  | e :: es => by
    have := krD_le D es
    rw [krD_cons, List.length_cons, Nat.succ_mul]
    have : 2 ^ (D - e) ≤ 2 ^ D := Nat.pow_le_pow_right (by decide) (by omega)
    omega
theorem krD_up (D : Nat) (es : List Nat) : krD (D + 1) (es.map (· + 1)) = krD D es := by
  unfold krD
  rw [List.map_map]
  congr 1
  apply List.map_congr_left
  intro e _
  show 2 ^ (D + 1 - (e + 1)) = _
  congr 1
  omega
theorem dotN_up : ∀ {cs : List Int} {es : List Nat}, cs.length = es.length → dotN cs (es.map (· + 1)) = cs.sum + dotN cs es
  | [], [], _ => rfl
  | c :: cs, e :: es, h => by
    have ih := dotN_up (cs := cs) (es := es) (by simpa using h)
    rw [List.map_cons, dotN_cons, dotN_cons, ih, List.sum_cons]
    push_cast
    rw [Int.mul_add, Int.mul_one]
    omega
/-- what the law's table tells is the cost of lengths that fit -/
theorem dp_sound (N : Nat) : ∀ (D : Nat) (l : List Int) (f : Nat) (v : Int), dp N D l f = some v → ∃ es : List Nat, es.length = l.length ∧ (∀ e ∈ es, e ≤ D) ∧ krD D es ≤ f * 2 ^ D ∧ dotN l es = v := by
  intro D l f
  induction D, l, f using dp.induct N with
  | case1 l f =>
    intro v h
    rw [dp, dp0] at h
    split at h
    · cases h
      refine ⟨List.replicate l.length 0, List.length_replicate .., fun e he => by rw [List.eq_of_mem_replicate he]; exact Nat.le_refl _, ?_, ?_⟩
      · unfold krD
        rw [List.map_replicate]
        simp
        assumption
      · exact dot_zero l
    · cases h
  | case2 D f =>
    intro v h
    rw [dp] at h
    cases h
    exact ⟨[], rfl, (fun _ z => nomatch z), by simp [krD], rfl⟩
  | case3 D c r =>
    intro v h
    rw [dp] at h
    cases h
  | case4 D c r f ih1 ih2 =>
    intro v h
    simp only [Nat.succ_eq_add_one] at *
    rw [dp] at h
    have two : dp N (D + 1) r f = some v ∨ addedO (some (c :: r).sum) (dp N D (c :: r) (min (2 * (f + 1)) N)) = some v := by
      generalize dp N (D + 1) r f = x at *
      generalize addedO (some (c :: r).sum) (dp N D (c :: r) (min (2 * (f + 1)) N)) = y at *
      cases x with
      | none => exact .inr h
      | some x =>
        cases y with
        | none => exact .inl h
        | some y =>
          simp only [lessO] at h
          split at h
          · exact .inr h
          · exact .inl h
    rcases two with h | h
    · obtain ⟨es, a1, a2, a3, a4⟩ := ih1 v h
      refine ⟨0 :: es, by rw [List.length_cons, a1, List.length_cons], fun e he => ?_, ?_, ?_⟩
      · rcases List.mem_cons.mp he with rfl | he
        · exact Nat.zero_le _
        · exact a2 e he
      · rw [krD_cons, Nat.sub_zero, Nat.succ_mul]
        omega
      · rw [dotN_cons, a4]
        simp
    · cases e : dp N D (c :: r) (min (2 * (f + 1)) N) with
      | none => rw [e] at h; cases h
      | some w =>
        rw [e] at h
        obtain ⟨es, a1, a2, a3, a4⟩ := ih2 w e
        refine ⟨es.map (· + 1), by rw [List.length_map, a1], fun e he => ?_, ?_, ?_⟩
        · obtain ⟨x, hx, rfl⟩ := List.mem_map.mp he
          have := a2 x hx
          omega
        · rw [krD_up]
          have z := Nat.mul_le_mul_right (2 ^ D) (Nat.min_le_left (2 * (f + 1)) N)
          rw [Nat.pow_succ, show (f + 1) * (2 ^ D * 2) = 2 * (f + 1) * 2 ^ D by rw [Nat.mul_comm (2 ^ D), ← Nat.mul_assoc, Nat.mul_comm (f + 1)]]
          omega
        · rw [dotN_up a1.symm, a4]
          simpa [addedO] using h
theorem krD_down (D : Nat) : ∀ {es : List Nat}, (∀ e ∈ es, 1 ≤ e) → krD D (es.map (· - 1)) = krD (D + 1) es := fun {es} h => by
  unfold krD
  rw [List.map_map]
  congr 1
  apply List.map_congr_left
  intro e he
  have := h e he
  show 2 ^ (D - (e - 1)) = _
  congr 1
  omega
theorem less_le {a b : Option Int} {x : Int} (h : (∃ v, a = some v ∧ v ≤ x) ∨ ∃ v, b = some v ∧ v ≤ x) : ∃ v, lessO a b = some v ∧ v ≤ x := by
  rcases h with ⟨v, rfl, hv⟩ | ⟨v, rfl, hv⟩
  · cases b with
    | none => exact ⟨v, rfl, hv⟩
    | some w =>
      simp only [lessO]
      split
      · exact ⟨w, rfl, by omega⟩
      · exact ⟨v, rfl, hv⟩
  · cases a with
    | none => exact ⟨v, rfl, hv⟩
    | some w =>
      simp only [lessO]
      split
      · exact ⟨v, rfl, hv⟩
      · exact ⟨w, rfl, by omega⟩
theorem krD_zero : ∀ es : List Nat, krD 0 es = es.length
  | [] => rfl
  | e :: es => by
    have ih := krD_zero es
    rw [krD_cons, ih, List.length_cons, Nat.zero_sub]
    omega
/-- and no rising lengths that fit cost less -/
theorem dp_least (N : Nat) : ∀ (D : Nat) (l : List Int) (f : Nat) (es : List Nat), l.length < N → es.length = l.length → es.Pairwise (· ≤ ·) → (∀ e ∈ es, e ≤ D) → krD D es ≤ f * 2 ^ D → (∀ c ∈ l, 0 ≤ c) → ∃ v, dp N D l f = some v ∧ v ≤ dotN l es := by
  intro D l f
  induction D, l, f using dp.induct N with
  | case1 l f =>
    intro es hN hl hs hb hk hc
    have z := krD_zero es
    rw [dp, dp0, if_pos (by rw [Nat.pow_zero] at hk; omega)]
    refine ⟨0, rfl, ?_⟩
    have e0 : ∀ {l : List Int} {es : List Nat}, (∀ e ∈ es, e ≤ 0) → dotN l es = 0 := fun {l es} => by
      induction es generalizing l with
      | nil => intro _; unfold dotN dot; simp
      | cons e es ih =>
        intro h
        cases l with
        | nil => rfl
        | cons c l =>
          have := h e (.head _)
          rw [dotN_cons, ih fun x hx => h x (.tail _ hx), show e = 0 by omega]
          simp
    rw [e0 hb]
    exact Int.le_refl _
  | case2 D f =>
    intro es hN hl hs hb hk hc
    rw [dp]
    refine ⟨0, rfl, ?_⟩
    have : es = [] := List.length_eq_zero_iff.mp hl
    rw [this]
    exact Int.le_refl _
  | case3 D c r =>
    intro es hN hl hs hb hk hc
    simp only [Nat.succ_eq_add_one] at *
    cases es with
    | nil => simp at hl
    | cons e es =>
      rw [krD_cons] at hk
      have := Nat.two_pow_pos (D + 1 - e)
      omega
  | case4 D c r f ih1 ih2 =>
    intro es hN hl hs hb hk hc
    simp only [Nat.succ_eq_add_one] at *
    rw [dp]
    cases es with
    | nil => simp at hl
    | cons e es =>
      obtain ⟨h1, h2⟩ := List.pairwise_cons.mp hs
      apply less_le
      by_cases c0 : e = 0
      · subst c0
        left
        rw [krD_cons, Nat.sub_zero, Nat.succ_mul] at hk
        obtain ⟨v, a1, a2⟩ := ih1 es (by simp at hN; omega) (by simpa using hl) h2 (fun x hx => hb x (.tail _ hx)) (by omega) (fun x hx => hc x (.tail _ hx))
        refine ⟨v, a1, ?_⟩
        rw [dotN_cons]
        simpa using a2
      · right
        have hp : ∀ x ∈ e :: es, 1 ≤ x := fun x hx => by
          rcases List.mem_cons.mp hx with rfl | hx
          · omega
          · have := h1 x hx
            omega
        have hpw : ((e :: es).map (· - 1)).Pairwise (· ≤ ·) := List.pairwise_map.mpr (hs.imp fun h => by omega)
        have kd := krD_down D hp
        have kl := krD_le D ((e :: es).map (· - 1))
        rw [List.length_map, hl] at kl
        obtain ⟨v, a1, a2⟩ := ih2 ((e :: es).map (· - 1)) hN (by rw [List.length_map, hl]) hpw (fun x hx => by
          obtain ⟨y, hy, rfl⟩ := List.mem_map.mp hx
          have := hb y hy
          omega) (by
          rw [kd]
          rw [kd] at kl
          by_cases cm : 2 * (f + 1) ≤ N
          · rw [Nat.min_eq_left cm, show 2 * (f + 1) * 2 ^ D = (f + 1) * 2 ^ (D + 1) by rw [Nat.pow_succ, Nat.mul_comm (2 ^ D), ← Nat.mul_assoc, Nat.mul_comm (f + 1)]]
            exact hk
          · rw [Nat.min_eq_right (by omega)]
            exact Nat.le_trans kl (Nat.mul_le_mul_right _ (by omega))) hc
        refine ⟨(c :: r).sum + v, by rw [a1]; rfl, ?_⟩
        have up := dotN_up (cs := c :: r) (es := (e :: es).map (· - 1)) (by rw [List.length_map, hl])
        have em : ((e :: es).map (· - 1)).map (· + 1) = e :: es := by
          rw [List.map_map]
          conv => rhs; rw [← List.map_id (e :: es)]
          apply List.map_congr_left
          intro x hx
          have := hp x hx
          show x - 1 + 1 = x
          omega
        rw [em] at up
        omega
/-! ### lengths in order, none longer than there are things -/
def insI (x : Int) : List Int → List Int
  | [] => [x]
  | y :: ys => if x ≤ y then x :: y :: ys else y :: insI x ys
def isortI : List Int → List Int
  | [] => []
  | x :: xs => insI x (isortI xs)
theorem insI_perm (x : Int) : ∀ l : List Int, (insI x l).Perm (x :: l)
  | [] => .refl _
  | y :: ys => by
    unfold insI
    split
    · exact .refl _
    · exact ((insI_perm x ys).cons y).trans (.swap x y ys)
theorem isortI_perm : ∀ l : List Int, (isortI l).Perm l
  | [] => .refl _
  | x :: xs => (insI_perm x _).trans ((isortI_perm xs).cons x)
theorem insI_sorted (x : Int) : ∀ {l : List Int}, l.Pairwise (· ≤ ·) → (insI x l).Pairwise (· ≤ ·)
  | [], _ => List.pairwise_singleton ..
  | y :: ys, h => by
    obtain ⟨h1, h2⟩ := List.pairwise_cons.mp h
    unfold insI
    split
    · rename_i c
      refine List.pairwise_cons.mpr ⟨fun z hz => ?_, h⟩
      rcases List.mem_cons.mp hz with rfl | hz
      · exact c
      · exact Int.le_trans c (h1 z hz)
    · rename_i c
      refine List.pairwise_cons.mpr ⟨fun z hz => ?_, insI_sorted x h2⟩
      rcases List.mem_cons.mp ((insI_perm x ys).mem_iff.mp hz) with rfl | hz
      · omega
      · exact h1 z hz
theorem isortI_sorted : ∀ l : List Int, (isortI l).Pairwise (· ≤ ·)
  | [] => .nil
  | x :: xs => insI_sorted x (isortI_sorted xs)
theorem dot_ins (x : Int) : ∀ (cs ys : List Int) (c : Int), (c :: cs).Pairwise (fun a b => b ≤ a) → cs.length = ys.length → dot (c :: cs) (insI x ys) ≤ dot (c :: cs) (x :: ys)
  | cs, [], c, _, _ => Int.le_refl _
  | [], y :: ys, c, _, h => by cases h
  | c1 :: cs, y :: ys, c, hs, hl => by
    obtain ⟨h1, h2⟩ := List.pairwise_cons.mp hs
    unfold insI
    split
    · exact Int.le_refl _
    · rename_i e
      have ih := dot_ins x cs ys c1 h2 (by simpa using hl)
      rw [dot_cons, dot_cons, dot_cons]
      rw [dot_cons] at ih
      have z : 0 ≤ (c - c1) * (x - y) := Int.mul_nonneg (by have := h1 c1 (.head _); omega) (by omega)
      rw [Int.sub_mul, Int.mul_sub, Int.mul_sub] at z
      omega
theorem dot_sort : ∀ (cs ys : List Int), cs.Pairwise (fun a b => b ≤ a) → cs.length = ys.length → dot cs (isortI ys) ≤ dot cs ys
  | [], [], _, _ => Int.le_refl _
  | [], _ :: _, _, h => by cases h
  | _ :: _, [], _, h => by cases h
  | c :: cs, y :: ys, hs, hl => by
    have ih := dot_sort cs ys (List.pairwise_cons.mp hs).2 (by simpa using hl)
    have z := dot_ins y cs (isortI ys) c hs (by rw [(isortI_perm ys).length_eq]; simpa using hl)
    rw [dot_cons] at z ⊢
    show dot (c :: cs) (insI y (isortI ys)) ≤ _
    omega
/-- so many parts leave so much, if anything is left -/
theorem gap (m : Nat) : ∀ p : List Nat, p.Pairwise (fun a b => b ≤ a) → (∀ x ∈ p, x ≤ m) → krD m p < 2 ^ m → krD m p + 2 ^ (m - p.length) ≤ 2 ^ m
  | [], _, _, _ => by simp [krD]
  | x :: p, hs, hb, hk => by
    obtain ⟨h1, h2⟩ := List.pairwise_cons.mp hs
    rw [krD_cons] at hk ⊢
    have ih := gap m p h2 (fun y hy => hb y (.tail _ hy)) (Nat.lt_of_le_of_lt (Nat.le_add_left _ _) hk)
    have hx := hb x (.head _)
    obtain ⟨a, ha⟩ : ∃ a, krD m p = a * 2 ^ (m - x) := by
      clear ih hk hs h2 hb
      induction p with
      | nil => exact ⟨0, by simp [krD]⟩
      | cons y p ih =>
        obtain ⟨a, ha⟩ := ih fun z hz => h1 z (.tail _ hz)
        have hy := h1 y (.head _)
        refine ⟨2 ^ (x - y) + a, ?_⟩
        rw [krD_cons, ha, Nat.add_mul, ← Nat.pow_add, show x - y + (m - x) = m - y by omega]
    have e2 : 2 ^ m = 2 ^ x * 2 ^ (m - x) := by rw [← Nat.pow_add]; congr 1; omega
    have hpos := Nat.two_pow_pos (m - x)
    -- what is left is a multiple of the least part
    have hgap : 2 ^ (m - x) + krD m p + 2 ^ (m - x) ≤ 2 ^ m := by
      rw [ha, e2] at hk ⊢
      have z : (1 + a) * 2 ^ (m - x) < 2 ^ x * 2 ^ (m - x) := by rw [Nat.add_mul, Nat.one_mul]; exact hk
      have z2 : 1 + a < 2 ^ x := Nat.lt_of_mul_lt_mul_right z
      have z3 : (1 + a + 1) * 2 ^ (m - x) ≤ 2 ^ x * 2 ^ (m - x) := Nat.mul_le_mul_right _ z2
      rw [Nat.add_mul, Nat.add_mul, Nat.one_mul] at z3
      exact z3
    rw [List.length_cons]
    by_cases c : p.length + 1 ≤ m
    · have e3 : 2 ^ (m - p.length) = 2 * 2 ^ (m - (p.length + 1)) := by
        rw [show m - p.length = m - (p.length + 1) + 1 by omega, Nat.pow_succ, Nat.mul_comm]
      omega
    · rw [show m - (p.length + 1) = 0 by omega, Nat.pow_zero]
      omega
theorem krD_app (m : Nat) (a b : List Nat) : krD m (a ++ b) = krD m a + krD m b := by
  unfold krD
  rw [List.map_append, List.sum_append]
theorem krD_const (m k : Nat) : ∀ t, krD m (List.replicate t k) = t * 2 ^ (m - k)
  | 0 => by simp [krD]
  | t + 1 => by
    rw [List.replicate_succ, krD_cons, krD_const m k t, Nat.succ_mul]
    omega
theorem krD_perm {m : Nat} {a b : List Nat} (h : a.Perm b) : krD m a = krD m b := (h.map _).sum_nat
theorem lt_two_pow : ∀ t : Nat, t ≤ 2 ^ t
  | 0 => by decide
  | t + 1 => by
    have := lt_two_pow t
    rw [Nat.pow_succ]
    have := Nat.two_pow_pos t
    omega
theorem le_sumN {x : Nat} : ∀ {l : List Nat}, x ∈ l → x ≤ l.sum
  | y :: l, h => by
    rw [List.sum_cons]
    rcases List.mem_cons.mp h with rfl | h
    · omega
    · have := le_sumN h
      omega
/-- none need be longer than there are things -/
theorem cap {m : Nat} {l : List Nat} (hs : l.Pairwise (fun a b => b ≤ a)) (hb : ∀ x ∈ l, x ≤ m) (hk : krD m l ≤ 2 ^ m) (hn : l.length ≤ m) : krD l.length (l.map fun x => min x l.length) ≤ 2 ^ l.length := by
  have key : krD m (l.map fun x => min x l.length) ≤ 2 ^ m := by
    obtain ⟨q, hq⟩ : ∃ q, q = l.filter fun x => decide (l.length < x) := ⟨_, rfl⟩
    obtain ⟨p, hp⟩ : ∃ p, p = l.filter fun x => !decide (l.length < x) := ⟨_, rfl⟩
    have hperm : l.Perm (q ++ p) := by rw [hq, hp]; exact (List.filter_append_perm _ l).symm
    have hlen := hperm.length_eq
    rw [List.length_append] at hlen
    have e1 : q.map (fun x => min x l.length) = List.replicate q.length l.length := by
      rw [List.eq_replicate_iff]
      refine ⟨by rw [List.length_map], fun b hb => ?_⟩
      obtain ⟨x, hx, rfl⟩ := List.mem_map.mp hb
      rw [hq] at hx
      have := (List.mem_filter.mp hx).2
      rw [decide_eq_true_eq] at this
      omega
    have e2 : p.map (fun x => min x l.length) = p := by
      conv => rhs; rw [← List.map_id p]
      apply List.map_congr_left
      intro x hx
      rw [hp] at hx
      have := (List.mem_filter.mp hx).2
      simp at this
      show min x l.length = x
      omega
    rw [krD_perm (hperm.map _), List.map_append, e1, e2, krD_app, krD_const]
    rw [krD_perm hperm, krD_app] at hk
    by_cases c : q = []
    · rw [c] at hk ⊢
      simp [krD] at hk ⊢
      exact hk
    · obtain ⟨x, hx⟩ := List.exists_mem_of_ne_nil q c
      have hqp : 0 < krD m q := by
        have : 2 ^ (m - x) ∈ q.map fun e => 2 ^ (m - e) := List.mem_map_of_mem hx
        have := le_sumN this
        have := Nat.two_pow_pos (m - x)
        unfold krD
        omega
      have hpsub : p.Sublist l := hp ▸ List.filter_sublist
      have g := gap m p (hs.sublist hpsub) (fun y hy => hb y (hpsub.subset hy)) (by omega)
      have z : q.length * 2 ^ (m - l.length) ≤ 2 ^ (m - p.length) := by
        rw [show m - p.length = q.length + (m - l.length) by omega, Nat.pow_add]
        exact Nat.mul_le_mul_right _ (lt_two_pow _)
      omega
  have e : krD m (l.map fun x => min x l.length) = krD l.length (l.map fun x => min x l.length) * 2 ^ (m - l.length) := by
    unfold krD
    rw [List.map_map, List.map_map]
    generalize hL : l.length = L at *
    clear hs hb hk key hL
    induction l with
    | nil => simp
    | cons x l ih =>
      rw [List.map_cons, List.map_cons, List.sum_cons, List.sum_cons, ih, Nat.add_mul]
      congr 1
      show 2 ^ (m - min x L) = 2 ^ (L - min x L) * 2 ^ (m - L)
      rw [← Nat.pow_add]
      congr 1
      omega
  rw [e, show 2 ^ m = 2 ^ l.length * 2 ^ (m - l.length) by rw [← Nat.pow_add]; congr 1; omega] at key
  exact Nat.le_of_mul_le_mul_right key (Nat.two_pow_pos _)
/-! ### the law's least is the told lengths' cost -/
def ordC (ns : List Int) : List Nat := (idxOf ns).mergeSort fun p q => decide (ns.getD q 0 ≤ ns.getD p 0)
theorem ordC_perm (ns : List Int) : (ordC ns).Perm (idxOf ns) := List.mergeSort_perm _ _
theorem ordC_sorted (ns : List Int) : ((ordC ns).map fun p => ns.getD p 0).Pairwise (fun a b => b ≤ a) := by
  have h := List.pairwise_mergeSort (le := fun p q : Nat => decide (ns.getD q 0 ≤ ns.getD p 0)) (fun a b c h1 h2 => by simp only [decide_eq_true_eq] at *; omega) (fun a b => by simp only [Bool.or_eq_true, decide_eq_true_eq]; omega) (idxOf ns)
  refine List.pairwise_map.mpr (h.imp fun h => by simpa using h)
theorem map_of {o : List Nat} (hn : o.Nodup) {r : List Int} (h : r.length = o.length) : o.map (fun p => r.getD (o.idxOf p) 0) = r := by
  apply List.ext_getElem
  · simp [h]
  · intro i h1 h2
    rw [List.getElem_map]
    have z : o.idxOf (o[i]'(by simpa using h1)) = i := hn.idxOf_getElem i _
    rw [z]
    simp [h2]
theorem dot_map (l : List Nat) (f g : Nat → Int) : dot (l.map f) (l.map g) = (l.map fun p => f p * g p).sum := by
  unfold dot
  rw [List.zip_map', List.map_map]
  rfl
theorem least_dp {ns ls : List Int} {m : Nat} (O : LenOk ns m ls) (hm : 1 ≤ m) {cs : List Int} (hp : cs.Perm (ns.filter fun n => decide (0 < n))) (hd : cs.Pairwise (fun a b => b ≤ a)) (h1 : 1 ≤ cs.length) :
    ∃ v, dp (cs.length + 1) (min m cs.length - 1) cs 2 = some v ∧ cs.sum + v = ((idxOf ns).map fun p => ns.getD p 0 * ls.getD p 0).sum := by
  have hcs : cs = (ordC ns).map fun p => ns.getD p 0 := by
    refine List.Perm.eq_of_pairwise (le := fun a b : Int => b ≤ a) (fun a b _ _ h1 h2 => Int.le_antisymm h2 h1) hd (ordC_sorted ns) (hp.trans ?_)
    rw [com_idx]
    exact ((ordC_perm ns).map _).symm
  have hn : (ordC ns).Nodup := (ordC_perm ns).nodup_iff.mpr (idx_nodup ns)
  have hol : (ordC ns).length = cs.length := by rw [hcs, List.length_map]
  have hin : ∀ p, p ∈ ordC ns ↔ p ∈ idxOf ns := fun p => (ordC_perm ns).mem_iff
  have hc0 : ∀ c ∈ cs, 0 ≤ c := fun c hc => by
    have := (List.mem_filter.mp (hp.mem_iff.mp hc)).2
    rw [decide_eq_true_eq] at this
    omega
  have hsum : ∀ g : Nat → Int, ((idxOf ns).map g).sum = ((ordC ns).map g).sum := fun g => perm_sum (((ordC_perm ns).map g).symm)
  have hcost : ∀ g : Nat → Int, ((idxOf ns).map fun p => ns.getD p 0 * g p).sum = dot cs ((ordC ns).map g) := fun g => by rw [hsum, hcs, dot_map]
  obtain ⟨M, hM⟩ : ∃ M, M = min m cs.length := ⟨_, rfl⟩
  have hM1 : 1 ≤ M := by omega
  have hMm : M - 1 + 1 = M := by omega
  rw [← hM]
  -- the told ones, in order and capped
  obtain ⟨y, hy⟩ : ∃ y, y = (ordC ns).map fun p => ls.getD p 0 := ⟨_, rfl⟩
  have hyl : y.length = cs.length := by rw [hy, List.length_map, hol]
  have hyb : ∀ x ∈ y, 1 ≤ x ∧ x ≤ ((m : Nat) : Int) := fun x hx => by
    rw [hy] at hx
    obtain ⟨p, hp, rfl⟩ := List.mem_map.mp hx
    exact O.pos p ((hin p).mp hp)
  obtain ⟨s, hs⟩ : ∃ s, s = isortI y := ⟨_, rfl⟩
  have hsp : s.Perm y := hs ▸ isortI_perm y
  have hss : s.Pairwise (· ≤ ·) := hs ▸ isortI_sorted y
  have hsl : s.length = cs.length := by rw [hsp.length_eq, hyl]
  have hsb : ∀ x ∈ s, 1 ≤ x ∧ x ≤ ((m : Nat) : Int) := fun x hx => hyb x (hsp.mem_iff.mp hx)
  have hsk : krD m (s.map Int.toNat) ≤ 2 ^ m := by
    rw [krD_perm (hsp.map _), hy, List.map_map]
    have k := O.kraft
    have e := (((ordC_perm ns).map (fun k => 2 ^ (m - (ls.getD k 0).toNat)))).sum_nat
    rw [← e] at k
    unfold krD
    rw [List.map_map]
    exact k
  have hcap : krD M (s.map fun x => min x.toNat M) ≤ 2 ^ M := by
    by_cases c : cs.length ≤ m
    · have eM : M = (s.map Int.toNat).length := by rw [List.length_map, hsl]; omega
      have z := cap (m := m) (l := (s.map Int.toNat).reverse) (List.pairwise_reverse.mpr (List.pairwise_map.mpr (hss.imp fun h => by omega))) (fun x hx => by
        obtain ⟨w, hw, rfl⟩ := List.mem_map.mp (List.mem_reverse.mp hx)
        have := hsb w hw
        omega) (by rw [krD_perm (List.reverse_perm _)]; exact hsk) (by rw [List.length_reverse, List.length_map, hsl]; exact c)
      rw [List.length_reverse, ← eM, krD_perm ((List.reverse_perm _).map _), List.map_map] at z
      exact z
    · have eM : M = m := by omega
      rw [eM]
      have e : (s.map fun x => min x.toNat m) = s.map Int.toNat := by
        apply List.map_congr_left
        intro x hx
        have := hsb x hx
        omega
      rw [e]
      exact hsk
  obtain ⟨v, hv, hvle⟩ := dp_least (cs.length + 1) (M - 1) cs 2 (s.map fun x => min x.toNat M - 1) (by omega) (by rw [List.length_map, hsl]) (List.pairwise_map.mpr (hss.imp fun h => by omega)) (fun e he => by
      obtain ⟨x, hx, rfl⟩ := List.mem_map.mp he
      omega) (by
      have z := krD_down (M - 1) (es := s.map fun x => min x.toNat M) fun e he => by
        obtain ⟨x, hx, rfl⟩ := List.mem_map.mp he
        have := hsb x hx
        omega
      rw [List.map_map, hMm] at z
      have z2 : krD (M - 1) (s.map fun x => min x.toNat M - 1) = krD M (s.map fun x => min x.toNat M) := z
      rw [z2]
      refine Nat.le_trans hcap (Nat.le_of_eq ?_)
      rw [Nat.mul_comm, ← Nat.pow_succ, Nat.succ_eq_add_one, hMm]) hc0
  refine ⟨v, hv, ?_⟩
  have hup := dotN_up (cs := cs) (es := s.map fun x => min x.toNat M - 1) (by rw [List.length_map, hsl])
  have e1 : ((s.map fun x => min x.toNat M - 1).map (· + 1)).map (fun e : Nat => ((e : Nat) : Int)) = s.map fun x => min x ((M : Nat) : Int) := by
    rw [List.map_map, List.map_map]
    apply List.map_congr_left
    intro x hx
    have := hsb x hx
    show ((min x.toNat M - 1 + 1 : Nat) : Int) = _
    omega
  have mono : ∀ {cs a b : List Int}, (∀ c ∈ cs, 0 ≤ c) → a.length = b.length → (∀ p ∈ a.zip b, p.1 ≤ p.2) → dot cs a ≤ dot cs b := fun {cs a b} => by
    induction cs generalizing a b with
    | nil => intro _ _ _; simp [dot]
    | cons c cs ih =>
      intro hc hl hab
      cases a with
      | nil => cases b with
        | nil => exact Int.le_refl _
        | cons _ _ => cases hl
      | cons x a => cases b with
        | nil => cases hl
        | cons y b =>
          have z := ih (a := a) (b := b) (fun c hc' => hc c (.tail _ hc')) (by simpa using hl) (fun p hp => hab p (.tail _ hp))
          have w : c * x ≤ c * y := Int.mul_le_mul_of_nonneg_left (hab (x, y) (.head _)) (hc c (.head _))
          rw [dot_cons, dot_cons]
          omega
  have upper : cs.sum + v ≤ dot cs y := by
    have z1 := dot_sort cs y hd hyl.symm
    rw [← hs] at z1
    have z2 : dot cs (s.map fun x => min x ((M : Nat) : Int)) ≤ dot cs s := mono hc0 (by rw [List.length_map]) fun p hp => by
      have e : (s.map fun x => min x ((M : Nat) : Int)).zip s = s.map fun x => (min x ((M : Nat) : Int), x) := by
        conv => lhs; rw [← List.map_id s]
        rw [List.map_map, List.zip_map']
        rfl
      rw [e] at hp
      obtain ⟨x, _, rfl⟩ := List.mem_map.mp hp
      exact Int.min_le_left _ _
    unfold dotN at hup
    rw [e1] at hup
    unfold dotN at hvle
    omega
  obtain ⟨es, l1, l2, l3, l4⟩ := dp_sound (cs.length + 1) (M - 1) cs 2 v hv
  have lower : ((idxOf ns).map fun p => ns.getD p 0 * ls.getD p 0).sum ≤ cs.sum + v := by
    obtain ⟨E, hE⟩ : ∃ E, E = (es.map (· + 1)).map fun e : Nat => ((e : Nat) : Int) := ⟨_, rfl⟩
    have hg := map_of hn (r := E) (by rw [hE, List.length_map, List.length_map, l1, hol])
    have hgb : ∀ p ∈ idxOf ns, ∃ e ∈ es, E.getD ((ordC ns).idxOf p) 0 = ((e + 1 : Nat) : Int) := fun p hp => by
      have z := List.mem_map_of_mem (f := fun p => E.getD ((ordC ns).idxOf p) 0) ((hin p).mpr hp)
      rw [hg] at z
      have z2 : E.getD ((ordC ns).idxOf p) 0 ∈ (es.map (· + 1)).map fun e : Nat => ((e : Nat) : Int) := by rw [← hE]; exact z
      obtain ⟨e2, he2, h⟩ := List.mem_map.mp z2
      obtain ⟨e, he, rfl⟩ := List.mem_map.mp he2
      exact ⟨e, he, h.symm⟩
    have l := O.least (fun p => (E.getD ((ordC ns).idxOf p) 0).toNat) (fun p hp => by
        obtain ⟨e, he, h⟩ := hgb p hp
        have := l2 e he
        rw [h]
        omega) (by
        have e := (((ordC_perm ns).map (fun p => 2 ^ (m - (E.getD ((ordC ns).idxOf p) 0).toNat)))).sum_nat
        rw [← e]
        have e3 : (ordC ns).map (fun p => 2 ^ (m - (E.getD ((ordC ns).idxOf p) 0).toNat)) = ((ordC ns).map (fun p => E.getD ((ordC ns).idxOf p) 0)).map fun x => 2 ^ (m - x.toNat) := by
          rw [List.map_map]
          rfl
        rw [e3, hg]
        have e4 : (E.map fun x : Int => 2 ^ (m - x.toNat)).sum = krD (M - 1) es * 2 ^ (m - M) := by
          rw [hE]
          unfold krD
          clear l1 l3 l4 hg hgb e e3 hE
          induction es with
          | nil => simp
          | cons a es ih =>
            have := l2 a (.head _)
            rw [List.map_cons, List.map_cons, List.map_cons, List.sum_cons, List.map_cons, List.sum_cons, ih fun e he => l2 e (.tail _ he), Nat.add_mul]
            congr 1
            show 2 ^ (m - (((a + 1 : Nat) : Int)).toNat) = 2 ^ (M - 1 - a) * 2 ^ (m - M)
            rw [← Nat.pow_add, Int.toNat_natCast]
            congr 1
            omega
        rw [e4]
        refine Nat.le_trans (Nat.mul_le_mul_right _ l3) (Nat.le_of_eq ?_)
        rw [Nat.mul_comm 2, ← Nat.pow_succ, ← Nat.pow_add]
        congr 1
        omega)
    refine Int.le_trans l (Int.le_of_eq ?_)
    have e5 : ((idxOf ns).map fun p => ns.getD p 0 * ((E.getD ((ordC ns).idxOf p) 0).toNat : Int)) = (idxOf ns).map fun p => ns.getD p 0 * E.getD ((ordC ns).idxOf p) 0 := by
      apply List.map_congr_left
      intro p hp
      obtain ⟨e, he, h⟩ := hgb p hp
      rw [h]
      rfl
    rw [e5, hcost, hg, hE]
    have := dotN_up (cs := cs) (es := es) l1.symm
    unfold dotN at this l4
    omega
  have e6 := hcost fun p => ls.getD p 0
  rw [← hy] at e6
  omega
/-! ### alike counts -/
theorem worth_bound (m b l : Nat) (h1 : m < 13) (h2 : l < 13) (h3 : b < 6) (hl : l ≤ m) (hb : b ≤ m) : 2 ^ (m - b) * (b + 1) ≤ 2 ^ (m - l) + 2 ^ (m - b) * l ∧ (2 ^ (m - b) * (b + 1) = 2 ^ (m - l) + 2 ^ (m - b) * l → l ≤ b) := by
  have z : ∀ (m : Fin 13) (l : Fin 13) (b : Fin 6), l.val ≤ m.val → b.val ≤ m.val → 2 ^ (m.val - b.val) * (b.val + 1) ≤ 2 ^ (m.val - l.val) + 2 ^ (m.val - b.val) * l.val ∧ (2 ^ (m.val - b.val) * (b.val + 1) = 2 ^ (m.val - l.val) + 2 ^ (m.val - b.val) * l.val → l.val ≤ b.val) := by decide +kernel
  exact z ⟨m, h1⟩ ⟨l, h2⟩ ⟨b, h3⟩ hl hb
theorem worth_bound2 (b l : Nat) (h2 : l < 7) (h3 : b < 6) : 2 ^ (6 - b) * (b + 2) ≤ 2 * 2 ^ (6 - l) + 2 ^ (6 - b) * l ∧ (2 ^ (6 - b) * (b + 2) = 2 * 2 ^ (6 - l) + 2 ^ (6 - b) * l → l = b ∨ l = b + 1) := by
  have z : ∀ (l : Fin 7) (b : Fin 6), 2 ^ (6 - b.val) * (b.val + 2) ≤ 2 * 2 ^ (6 - l.val) + 2 ^ (6 - b.val) * l.val ∧ (2 ^ (6 - b.val) * (b.val + 2) = 2 * 2 ^ (6 - l.val) + 2 ^ (6 - b.val) * l.val → l.val = b.val ∨ l.val = b.val + 1) := by decide +kernel
  exact z ⟨l, h2⟩ ⟨b, h3⟩
theorem tight {g : Nat} {f : Nat → Nat} : ∀ {ls : List Nat}, (∀ l ∈ ls, g ≤ f l) → (ls.map f).sum ≤ ls.length * g → ∀ l ∈ ls, f l = g
  | x :: ls, h, hs, l, hl => by
    rw [List.map_cons, List.sum_cons, List.length_cons, Nat.succ_mul] at hs
    have hx := h x (.head _)
    have low : ls.length * g ≤ (ls.map f).sum := by
      have z := sum_le (f := fun _ => g) (g := f) (l := ls) fun y hy => h y (.tail _ hy)
      rw [sum_constN] at z
      exact z
    rcases List.mem_cons.mp hl with rfl | hl
    · omega
    · exact tight (fun y hy => h y (.tail _ hy)) (by omega) l hl
theorem sum_mulN (u : Nat) : ∀ ls : List Nat, (ls.map fun l => u * l).sum = u * ls.sum
  | [] => by simp
  | l :: ls => by rw [List.map_cons, List.sum_cons, sum_mulN u ls, List.sum_cons, Nat.mul_add]
theorem alike_all {b m : Nat} {ls : List Nat} (hm : m < 13) (hb : b < 6) (hbm : b ≤ m) (hl : ls.length = 2 ^ b) (h : ∀ l ∈ ls, l ≤ m) (hk : krD m ls ≤ 2 ^ m) (hs : ls.sum ≤ 2 ^ b * b) : ls = List.replicate (2 ^ b) b := by
  have e : 2 ^ m = 2 ^ (m - b) * 2 ^ b := by rw [← Nat.pow_add]; congr 1; omega
  have hsum : (ls.map fun l => 2 ^ (m - l) + 2 ^ (m - b) * l).sum = krD m ls + 2 ^ (m - b) * ls.sum := by rw [sum_addN, sum_mulN]; rfl
  have hmul : 2 ^ (m - b) * ls.sum ≤ 2 ^ (m - b) * (2 ^ b * b) := Nat.mul_le_mul_left _ hs
  have tot : ls.length * (2 ^ (m - b) * (b + 1)) = 2 ^ m + 2 ^ (m - b) * (2 ^ b * b) := by
    rw [hl, e, Nat.mul_add, Nat.mul_one, Nat.mul_add, ← Nat.mul_assoc, ← Nat.mul_assoc, Nat.mul_comm (2 ^ b) (2 ^ (m - b))]
    omega
  have t := tight (g := 2 ^ (m - b) * (b + 1)) (f := fun l => 2 ^ (m - l) + 2 ^ (m - b) * l) (fun l hl => (worth_bound m b l hm (by have := h l hl; omega) hb (h l hl) hbm).1) (by rw [hsum, tot]; omega)
  have hle : ∀ l ∈ ls, l ≤ b := fun l hl => (worth_bound m b l hm (by have := h l hl; omega) hb (h l hl) hbm).2 (t l hl).symm
  have hsum2 : (ls.map fun l => 2 ^ (m - l) + 2 ^ (m - b) * l).sum = ls.length * (2 ^ (m - b) * (b + 1)) := by
    rw [List.map_congr_left (fun l hl => t l hl), sum_constN]
  have hge : 2 ^ b * b ≤ ls.sum := by
    have z : 2 ^ (m - b) * (2 ^ b * b) ≤ 2 ^ (m - b) * ls.sum := by omega
    exact Nat.le_of_mul_le_mul_left z (Nat.two_pow_pos _)
  rw [← hl]
  refine List.eq_replicate_iff.mpr ⟨rfl, ?_⟩
  have key : ∀ ls : List Nat, (∀ l ∈ ls, l ≤ b) → ls.length * b ≤ ls.sum → ∀ l ∈ ls, l = b := fun ls => by
    induction ls with
    | nil => intro _ _ l hl; cases hl
    | cons x ls ih =>
      intro h hs l hl
      rw [List.length_cons, Nat.succ_mul, List.sum_cons] at hs
      have hx := h x (.head _)
      have up : ls.sum ≤ ls.length * b := by
        have z := sum_le (f := fun l => l) (g := fun _ => b) (l := ls) fun y hy => h y (.tail _ hy)
        rw [sum_constN, List.map_id'] at z
        exact z
      rcases List.mem_cons.mp hl with rfl | hl
      · omega
      · exact ih (fun y hy => h y (.tail _ hy)) (by omega) l hl
  exact key ls hle (by rw [hl]; exact hge)
theorem alike_more {b : Nat} {ls : List Nat} (hb : b < 6) (hl : ls.length = 2 ^ b + 1) (h : ∀ l ∈ ls, l ≤ 6) (hk : krD 6 ls ≤ 2 ^ 6) (hs : ls.sum ≤ (2 ^ b + 1) * b + 2) : (∀ l ∈ ls, l = b ∨ l = b + 1) ∧ ls.sum = (2 ^ b + 1) * b + 2 := by
  have e : 2 ^ 6 = 2 ^ (6 - b) * 2 ^ b := by rw [← Nat.pow_add]; congr 1; omega
  have hsum : (ls.map fun l => 2 * 2 ^ (6 - l) + 2 ^ (6 - b) * l).sum = 2 * krD 6 ls + 2 ^ (6 - b) * ls.sum := by
    rw [sum_addN (fun l => 2 * 2 ^ (6 - l)), sum_mulN]
    have z := sum_mulN 2 (ls.map fun l => 2 ^ (6 - l))
    rw [List.map_map] at z
    unfold krD
    rw [← z]
    rfl
  have hmul : 2 ^ (6 - b) * ls.sum ≤ 2 ^ (6 - b) * ((2 ^ b + 1) * b + 2) := Nat.mul_le_mul_left _ hs
  have tot : ls.length * (2 ^ (6 - b) * (b + 2)) = 2 * 2 ^ 6 + 2 ^ (6 - b) * ((2 ^ b + 1) * b + 2) := by
    rw [hl]
    have z : ∀ b : Fin 6, (2 ^ b.val + 1) * (2 ^ (6 - b.val) * (b.val + 2)) = 2 * 2 ^ 6 + 2 ^ (6 - b.val) * ((2 ^ b.val + 1) * b.val + 2) := by decide +kernel
    exact z ⟨b, hb⟩
  have t := tight (g := 2 ^ (6 - b) * (b + 2)) (f := fun l => 2 * 2 ^ (6 - l) + 2 ^ (6 - b) * l) (fun l hl => (worth_bound2 b l (by have := h l hl; omega) hb).1) (by rw [hsum, tot]; omega)
  refine ⟨fun l hl => (worth_bound2 b l (by have := h l hl; omega) hb).2 (t l hl).symm, ?_⟩
  have hsum2 : (ls.map fun l => 2 * 2 ^ (6 - l) + 2 ^ (6 - b) * l).sum = ls.length * (2 ^ (6 - b) * (b + 2)) := by
    rw [List.map_congr_left (fun l hl => t l hl), sum_constN]
  have z : 2 ^ (6 - b) * ((2 ^ b + 1) * b + 2) ≤ 2 ^ (6 - b) * ls.sum := by omega
  have := Nat.le_of_mul_le_mul_left z (Nat.two_pow_pos _)
  omega
theorem two_kinds {b : Int} : ∀ {ms : List Int} {j : Nat}, ms.Pairwise (· ≤ ·) → (∀ l ∈ ms, l = b ∨ l = b + 1) → ms.sum = ((ms.length : Nat) : Int) * b + ((j : Nat) : Int) → j ≤ ms.length → ms = List.replicate (ms.length - j) b ++ List.replicate j (b + 1)
  | [], j, _, _, _, hj => by
    have : j = 0 := by simpa using hj
    subst this
    rfl
  | x :: ms, j, hs, h, hsum, hj => by
    obtain ⟨h1, h2⟩ := List.pairwise_cons.mp hs
    rw [List.sum_cons, List.length_cons] at hsum
    push_cast at hsum
    rw [Int.add_mul, Int.one_mul] at hsum
    have up : ms.sum ≤ ((ms.length : Nat) : Int) * b + ((ms.length : Nat) : Int) := by
      have key : ∀ ms : List Int, (∀ l ∈ ms, l = b ∨ l = b + 1) → ms.sum ≤ ((ms.length : Nat) : Int) * b + ((ms.length : Nat) : Int) := fun ms => by
        induction ms with
        | nil => intro _; simp
        | cons y ms ih =>
          intro h
          have := ih fun l hl => h l (.tail _ hl)
          have := h y (.head _)
          rw [List.sum_cons, List.length_cons]
          push_cast
          rw [Int.add_mul, Int.one_mul]
          omega
      exact key ms fun l hl => h l (.tail _ hl)
    rcases h x (.head _) with rfl | hx
    · by_cases c : j ≤ ms.length
      · have ih := two_kinds (j := j) h2 (fun l hl => h l (.tail _ hl)) (by omega) c
        rw [List.length_cons, show ms.length + 1 - j = ms.length - j + 1 by omega, List.replicate_succ, List.cons_append, ← ih]
      · rw [List.length_cons] at hj
        omega
    · have all : ∀ l ∈ ms, l = b + 1 := fun l hl => by
        have a1 := h1 l hl
        have a2 := h l (.tail _ hl)
        omega
      have hsm : ms.sum = ((ms.length : Nat) : Int) * b + ((ms.length : Nat) : Int) := by
        have key : ∀ ms : List Int, (∀ l ∈ ms, l = b + 1) → ms.sum = ((ms.length : Nat) : Int) * b + ((ms.length : Nat) : Int) := fun ms => by
          induction ms with
          | nil => intro _; simp
          | cons y ms ih =>
            intro h
            have := ih fun l hl => h l (.tail _ hl)
            have := h y (.head _)
            rw [List.sum_cons, List.length_cons]
            push_cast
            rw [Int.add_mul, Int.one_mul]
            omega
        exact key ms all
      have ej : j = ms.length + 1 := by omega
      rw [List.length_cons, ej, Nat.sub_self, List.replicate_zero, List.nil_append]
      refine List.eq_replicate_iff.mpr ⟨rfl, fun l hl => ?_⟩
      rcases List.mem_cons.mp hl with rfl | hl
      · exact hx
      · exact all l hl
theorem cost_rep (c : Int) : ∀ (n : Nat) (r : List Int), r.length = n → costR (List.replicate n c) r = c * r.sum
  | 0, r, h => by
    rw [List.length_eq_zero_iff.mp h]
    simp [costR]
  | n + 1, [], h => by cases h
  | n + 1, x :: r, h => by
    have ih := cost_rep c n r (by simpa using h)
    unfold costR at ih ⊢
    rw [List.replicate_succ, List.zip_cons_cons, List.map_cons, List.sum_cons, ih, List.sum_cons, Int.mul_add]
/-- of alike counts: what is asked of the lengths as a row -/
theorem alike_row {n m : Nat} {c : Int} {ls : List Int} (hc : 0 < c) (O : LenOk (List.replicate n c) m ls) : ls.length = n ∧ (∀ l ∈ ls, 1 ≤ l ∧ l ≤ ((m : Nat) : Int)) ∧ krD m (ls.map Int.toNat) ≤ 2 ^ m ∧ ∀ r ∈ goodRows m n, ls.sum ≤ r.sum := by
  have hl : ls.length = n := by rw [O.len, List.length_replicate]
  have hfil : (List.replicate n c).filter (fun n => decide (0 < n)) = List.replicate n c := List.filter_eq_self.mpr fun x hx => by rw [List.eq_of_mem_replicate hx]; simpa using hc
  have hix : (idxOf (List.replicate n c)).length = n := by
    have z := congrArg List.length (com_idx (List.replicate n c))
    rw [hfil, List.length_map, List.length_replicate] at z
    exact z.symm
  have hrow : (idxOf (List.replicate n c)).map (fun p => ls.getD p 0) = ls := by
    rw [← row_idx (by rw [hl, List.length_replicate]), List.filter_eq_self.mpr, List.map_snd_zip (by rw [hl, List.length_replicate]; exact Nat.le_refl _)]
    intro p hp
    rw [List.eq_of_mem_replicate (List.of_mem_zip hp).1]
    simpa using hc
  obtain ⟨G1, G2⟩ := rows_least O
  rw [hix, hfil, hrow] at G2
  rw [hix, hrow] at G1
  refine ⟨hl, fun l hl => ?_, ?_, fun r hr => ?_⟩
  · rw [← hrow] at hl
    obtain ⟨p, hp, rfl⟩ := List.mem_map.mp hl
    exact O.pos p hp
  · have k := (List.mem_filter.mp G1).2
    rw [decide_eq_true_eq] at k
    unfold krD
    rw [List.map_map]
    exact k
  · have z := G2 r hr
    rw [cost_rep c n ls hl, cost_rep c n r (mem_rowsR.mp (List.mem_filter.mp hr).1).1] at z
    exact Int.le_of_mul_le_mul_left z hc
theorem sum_toNat : ∀ {ls : List Int}, (∀ l ∈ ls, 0 ≤ l) → (((ls.map Int.toNat).sum : Nat) : Int) = ls.sum
  | [], _ => rfl
  | l :: ls, h => by
    have ih := sum_toNat (ls := ls) fun x hx => h x (.tail _ hx)
    have := h l (.head _)
    rw [List.map_cons, List.sum_cons, List.sum_cons]
    push_cast
    omega
theorem alike1 {b m : Nat} {c : Int} {ls : List Int} (hc : 0 < c) (hb1 : 1 ≤ b) (hb : b < 6) (hbm : b ≤ m) (hm : m < 13) (O : LenOk (List.replicate (2 ^ b) c) m ls) : ls = List.replicate (2 ^ b) ((b : Nat) : Int) := by
  obtain ⟨h1, h2, h3, h4⟩ := alike_row hc O
  have hr : List.replicate (2 ^ b) ((b : Nat) : Int) ∈ goodRows m (2 ^ b) := by
    refine List.mem_filter.mpr ⟨mem_rowsR.mpr ⟨List.length_replicate .., fun x hx => by rw [List.eq_of_mem_replicate hx]; omega⟩, ?_⟩
    rw [decide_eq_true_eq]
    unfold worthR
    rw [List.map_replicate, List.sum_replicate_nat, Int.toNat_natCast, ← Nat.pow_add]
    exact Nat.pow_le_pow_right (by decide) (by omega)
  have hs := h4 _ hr
  have e1 := sum_toNat (ls := ls) fun l hl => by have := h2 l hl; omega
  have e2 : (List.replicate (2 ^ b) ((b : Nat) : Int)).sum = ((2 ^ b * b : Nat) : Int) := by
    generalize 2 ^ b = N
    induction N with
    | zero => simp
    | succ N ih => rw [List.replicate_succ, List.sum_cons, ih, Nat.succ_mul]; push_cast; omega
  have z := alike_all (b := b) (m := m) (ls := ls.map Int.toNat) hm hb hbm (by rw [List.length_map, h1]) (fun l hl => by
    obtain ⟨x, hx, rfl⟩ := List.mem_map.mp hl
    have := h2 x hx
    omega) h3 (by omega)
  rw [List.eq_replicate_iff] at z ⊢
  refine ⟨h1, fun l hl => ?_⟩
  have := z.2 l.toNat (List.mem_map_of_mem hl)
  have := h2 l hl
  omega
theorem alike2 {b : Nat} {c : Int} {ls ms : List Int} (hc : 0 < c) (hb1 : 1 ≤ b) (hb : b < 6) (O : LenOk (List.replicate (2 ^ b + 1) c) 6 ls) (hp : ms.Perm ls) (hs : ms.Pairwise (· ≤ ·)) : ms = List.replicate (2 ^ b - 1) ((b : Nat) : Int) ++ List.replicate 2 (((b : Nat) : Int) + 1) := by
  obtain ⟨h1, h2, h3, h4⟩ := alike_row hc O
  have hbp : 2 ≤ 2 ^ b := Nat.pow_le_pow_right (n := 2) (by decide) hb1
  have hr : List.replicate (2 ^ b - 1) ((b : Nat) : Int) ++ List.replicate 2 (((b : Nat) : Int) + 1) ∈ goodRows 6 (2 ^ b + 1) := by
    refine List.mem_filter.mpr ⟨mem_rowsR.mpr ⟨by rw [List.length_append, List.length_replicate, List.length_replicate]; omega, fun x hx => ?_⟩, ?_⟩
    · rcases List.mem_append.mp hx with hx | hx <;> (rw [List.eq_of_mem_replicate hx]; omega)
    · rw [decide_eq_true_eq]
      unfold worthR
      rw [List.map_append, List.sum_append, List.map_replicate, List.map_replicate, List.sum_replicate_nat, List.sum_replicate_nat, Int.toNat_natCast, show (((b : Nat) : Int) + 1).toNat = b + 1 by omega]
      have z : ∀ b : Fin 6, 1 ≤ b.val → (2 ^ b.val - 1) * 2 ^ (6 - b.val) + 2 * 2 ^ (6 - (b.val + 1)) ≤ 2 ^ 6 := by decide +kernel
      exact z ⟨b, hb⟩ hb1
  have hsm := h4 _ hr
  have e1 := sum_toNat (ls := ls) fun l hl => by have := h2 l hl; omega
  have key : ∀ (N : Nat) (x : Int), (List.replicate N x).sum = ((N : Nat) : Int) * x := fun N x => by
    induction N with
    | zero => simp
    | succ N ih => rw [List.replicate_succ, List.sum_cons, ih]; push_cast; rw [Int.add_mul, Int.one_mul]; omega
  have e2 : (List.replicate (2 ^ b - 1) ((b : Nat) : Int) ++ List.replicate 2 (((b : Nat) : Int) + 1)).sum = (((2 ^ b + 1) * b + 2 : Nat) : Int) := by
    rw [List.sum_append, key, key, Nat.add_mul, Nat.one_mul]
    rw [show ((2 ^ b - 1 : Nat) : Int) = ((2 ^ b : Nat) : Int) - 1 by omega, Int.sub_mul]
    push_cast
    omega
  obtain ⟨z1, z2⟩ := alike_more (b := b) (ls := ls.map Int.toNat) hb (by rw [List.length_map, h1]) (fun l hl => by
    obtain ⟨x, hx, rfl⟩ := List.mem_map.mp hl
    have := h2 x hx
    omega) h3 (by omega)
  have hml : ms.length = 2 ^ b + 1 := by rw [hp.length_eq, h1]
  have t := two_kinds (b := ((b : Nat) : Int)) (j := 2) hs (fun l hl => by
    have hl2 := hp.mem_iff.mp hl
    have a := z1 l.toNat (List.mem_map_of_mem hl2)
    have := h2 l hl2
    omega) (by
    rw [perm_sum hp, ← e1, z2, hml]
    push_cast
    omega) (by omega)
  rw [hml, show 2 ^ b + 1 - 2 = 2 ^ b - 1 by omega] at t
  exact t
/-! ### what the law sums up -/
theorem len_at {ns ls : List Int} {m i : Nat} {x y : Int} (O : LenOk ns m ls) (hx : ns[i]? = some x) (hy : ls[i]? = some y) : (0 < x → 1 ≤ y ∧ y ≤ ((m : Nat) : Int)) ∧ (¬ 0 < x → y = 0) := by
  have hi := (List.getElem?_eq_some_iff.mp hx).1
  have e1 : ns.getD i 0 = x := by rw [List.getD_eq_getElem?_getD, hx]; rfl
  have e2 : ls.getD i 0 = y := by rw [List.getD_eq_getElem?_getD, hy]; rfl
  rw [← e1, ← e2]
  exact ⟨fun h => O.pos i (mem_idx.mpr ⟨hi, h⟩), fun h => O.zero i fun z => h (mem_idx.mp z).2⟩
theorem sum_filterI {f : Int × Int → Int} : ∀ {z : List (Int × Int)}, (∀ p ∈ z, ¬ 0 < p.1 → f p = 0) → (z.map f).sum = ((z.filter fun p => decide (0 < p.1)).map f).sum
  | [], _ => rfl
  | p :: z, h => by
    have ih := sum_filterI (z := z) fun q hq => h q (.tail _ hq)
    rw [List.map_cons, List.sum_cons, ih, List.filter_cons]
    by_cases c : 0 < p.1
    · rw [if_pos (decide_eq_true c), List.map_cons, List.sum_cons]
    · rw [if_neg (by simpa using c), h p (.head _) c]
      omega
theorem sum_filterN {f : Int × Int → Nat} : ∀ {z : List (Int × Int)}, (∀ p ∈ z, ¬ 0 < p.1 → f p = 0) → (z.map f).sum = ((z.filter fun p => decide (0 < p.1)).map f).sum
  | [], _ => rfl
  | p :: z, h => by
    have ih := sum_filterN (z := z) fun q hq => h q (.tail _ hq)
    rw [List.map_cons, List.sum_cons, ih, List.filter_cons]
    by_cases c : 0 < p.1
    · rw [if_pos (decide_eq_true c), List.map_cons, List.sum_cons]
    · rw [if_neg (by simpa using c), h p (.head _) c]
      omega
def roomP (m : Nat) (p : Int × Int) : Nat := if 0 < p.2 then 2 ^ (m - p.2.toNat) else 0
theorem good_sums {ns ls : List Int} {m : Nat} (O : LenOk ns m ls) (h0 : ∀ u ∈ ns, 0 ≤ u) : costR ns ls = ((idxOf ns).map fun p => ns.getD p 0 * ls.getD p 0).sum ∧ ((ns.zip ls).map (roomP m)).sum ≤ 2 ^ m := by
  have hz : ∀ p ∈ ns.zip ls, ¬ 0 < p.1 → p.1 = 0 ∧ p.2 = 0 := fun p hp hn => by
    obtain ⟨i, hi, e⟩ := List.getElem_of_mem hp
    have e2 : (ns.zip ls)[i]? = some p := by rw [List.getElem?_eq_getElem hi, e]
    obtain ⟨a, b⟩ := List.getElem?_zip_eq_some.mp e2
    have := h0 p.1 (List.mem_of_getElem? a)
    exact ⟨by omega, (len_at O a b).2 hn⟩
  constructor
  · unfold costR
    rw [sum_filterI fun p hp hn => by rw [(hz p hp hn).1, Int.zero_mul], zip_comes O.len]
    unfold idxOf
    rw [List.map_map, List.map_map]
    congr 1
    apply List.map_congr_left
    intro p hp
    show p.1 * ls.getD p.2 0 = ns.getD p.2 0 * ls.getD p.2 0
    rw [(mem_comes hp).2.1]
  · rw [sum_filterN fun p hp hn => by unfold roomP; rw [(hz p hp hn).2, if_neg (by decide)], zip_comes O.len, List.map_map]
    have k := O.kraft
    unfold idxOf at k
    rw [List.map_map] at k
    refine Nat.le_trans (Nat.le_of_eq ?_) k
    congr 1
    apply List.map_congr_left
    intro p hp
    have hk : p.2 ∈ idxOf ns := List.mem_map_of_mem hp
    have := (O.pos p.2 hk).1
    show roomP m (p.1, ls.getD p.2 0) = 2 ^ (m - (ls.getD p.2 0).toNat)
    unfold roomP
    rw [if_pos (by show 0 < ls.getD p.2 0; omega)]
end L2.BR

namespace L2.BR
open PySem PySem.Spec PyProof.Rows L2.BP
variable {K : PySem.W.Frag} {W : WX} {vs : List V} {H : Hp} {Q : VK} {E : XK}
def oV : Option Int → V
  | none => .non
  | some i => .int i
def sp__law_added (K : PySem.W.Frag) : Sp := fun vs H Q _ => ∃ x y : Option Int, vs = [oV x, oV y] ∧ Q (oV (addedO x y)) H
theorem len__law_added (h : sp__law_added K vs H Q E) : vs.length = 2 := by
  obtain ⟨x, y, rfl, _⟩ := h
  rfl
def t__law_added (K : PySem.W.Frag) (W : WX) : TS :=
  (tSeq (tIfS ((tOr (tTest (tOp rIsU (tVar 0) (tC .non))) (tTest (tOp rIsU (tVar 1) (tC .non))))) (tRet (tC .non)) tNext)
    (tRet (tOp rAddU (tVar 0) (tVar 1))))
theorem rd__law_added (h : sp__law_added K vs H Q E) : t__law_added K W { nx := fun _ H' => Q .non H', rt := Q } (start ["_law_one", "_law_other"] vs) H := by
  obtain ⟨x, y, rfl, q⟩ := h
  have hs := Hs.start H
  unfold t__law_added
  cases x with
  | none => walk_at "go"; exact q
  | some x =>
    cases y with
    | none => walk_at "go"; exact q
    | some y => simp only [oV]; walk_at "go"; exact q
def sp__law_less (K : PySem.W.Frag) : Sp := fun vs H Q _ => ∃ x y : Option Int, vs = [oV x, oV y] ∧ Q (oV (lessO x y)) H
theorem len__law_less (h : sp__law_less K vs H Q E) : vs.length = 2 := by
  obtain ⟨x, y, rfl, _⟩ := h
  rfl
def t__law_less (K : PySem.W.Frag) (W : WX) : TS :=
  (tSeq (tIfS ((tOr (tTest (tOp rIsU (tVar 0) (tC .non))) ((tAnd (tTest (tOp rNotU (tVar 1) (tC .non))) (tTest (tOp rLtU (tVar 1) (tVar 0))))))) (tRet (tVar 1)) tNext)
    (tRet (tVar 0)))
theorem rd__law_less (h : sp__law_less K vs H Q E) : t__law_less K W { nx := fun _ H' => Q .non H', rt := Q } (start ["_law_one", "_law_other"] vs) H := by
  obtain ⟨x, y, rfl, q⟩ := h
  have hs := Hs.start H
  unfold t__law_less
  cases x with
  | none => walk_at "go"; exact q
  | some x =>
    cases y with
    | none => walk_at "go"; exact q
    | some y =>
      simp only [oV]
      by_cases c : y < x
      · walk_at "go"
        have e : lessO (some x) (some y) = some y := by simp [lessO, c]
        rw [e] at q
        exact q
      · walk_at "go"
        have e : lessO (some x) (some y) = some x := by simp [lessO, c]
        rw [e] at q
        exact q
def sp__law_count (K : PySem.W.Frag) : Sp := fun vs H Q _ => ∃ c : Int, vs = [.int c] ∧ 0 ≤ c ∧ ∀ n : Int, 0 ≤ n → n ≤ 1000000 → RetV H Q (.int n)
theorem len__law_count (h : sp__law_count K vs H Q E) : vs.length = 1 := by
  obtain ⟨c, rfl, _⟩ := h
  rfl
def t__law_count (K : PySem.W.Frag) (W : WX) : TS :=
  (tSeq (tAsg (tOp rModU (tVar 0) (tC (.int 8))) (gName 1))
    (tSeq (tIfS (tTest (tOp rLtU (tVar 1) (tC (.int 2)))) (tRet (tC (.int 0))) tNext)
    (tSeq (tIfS (tTest (tOp (rEqU K) (tVar 1) (tC (.int 2)))) (tRet (tC (.int 1))) tNext)
    (tSeq (tIfS (tTest (tOp (rEqU K) (tVar 1) (tC (.int 3)))) (tRet (tOp (rIx K) (tLst (tCons (tC (.int 1)) (tCons (tC (.int 2)) (tCons (tC (.int 3)) (tCons (tC (.int 5)) (tCons (tC (.int 8)) (tCons (tC (.int 13)) (tCons (tC (.int 21)) (tCons (tC (.int 34)) (tCons (tC (.int 55)) (tCons (tC (.int 89)) (tCons (tC (.int 144)) (tCons (tC (.int 233)) tNil))))))))))))) (tOp rModU (tOp rDivU (tVar 0) (tC (.int 8))) (tC (.int 12))))) tNext)
    (tSeq (tIfS (tTest (tOp (rEqU K) (tVar 1) (tC (.int 4)))) (tRet (tOp rSubU (tC (.int 1000000)) (tOp rModU (tOp rDivU (tVar 0) (tC (.int 8))) (tC (.int 3))))) tNext)
    (tSeq (tIfS (tTest (tOp (rEqU K) (tVar 1) (tC (.int 5)))) (tRet (tOp rAddU (tC (.int 1)) (tOp rModU (tOp rDivU (tVar 0) (tC (.int 8))) (tC (.int 999999))))) tNext)
    (tRet (tOp rAddU (tC (.int 1)) (tOp rModU (tOp rDivU (tVar 0) (tC (.int 8))) (tC (.int 6)))))))))))
theorem rd__law_count (h : sp__law_count K vs H Q E) : t__law_count K W { nx := fun _ H' => Q .non H', rt := Q } (start ["_law_cell", "_law_kind"] vs) H := by
  obtain ⟨c, rfl, hc, q⟩ := h
  have hs := Hs.start H
  unfold t__law_count
  walk_at "go"
  by_cases c0 : c % 8 < 2
  · refine i_t (decide_eq_true c0) ?_
    walk_at "go"
    exact q _ (by omega) (by omega) H hs.ex
  refine i_f (decide_eq_false c0) ?_
  walk_at "go"
  by_cases c1 : c % 8 = 2
  · refine i_t (decide_eq_true c1) ?_
    walk_at "go"
    exact q _ (by omega) (by omega) H hs.ex
  refine i_f (decide_eq_false c1) ?_
  walk_at "go"
  by_cases c2 : c % 8 = 3
  · refine i_t (decide_eq_true c2) ?_
    walk_at "go"
    rename_i l H1 h1
    obtain ⟨y, hy, hy0⟩ : ∃ y : Int, atI [V.int 1, V.int 2, V.int 3, V.int 5, V.int 8, V.int 13, V.int 21, V.int 34, V.int 55, V.int 89, V.int 144, V.int 233] (c / 8 % 12) = some (.int y) ∧ 0 ≤ y ∧ y ≤ 1000000 := by
      obtain ⟨k, hk, hkl⟩ : ∃ k : Nat, c / 8 % 12 = ((k : Nat) : Int) ∧ k < 12 := ⟨(c / 8 % 12).toNat, by omega, by omega⟩
      rw [hk]
      rcases (by omega : k = 0 ∨ k = 1 ∨ k = 2 ∨ k = 3 ∨ k = 4 ∨ k = 5 ∨ k = 6 ∨ k = 7 ∨ k = 8 ∨ k = 9 ∨ k = 10 ∨ k = 11) with rfl | rfl | rfl | rfl | rfl | rfl | rfl | rfl | rfl | rfl | rfl | rfl <;> exact ⟨_, rfl, by decide, by decide⟩
    refine c_ixL (h1.sql (.head _)) hy ?_
    exact q _ hy0.1 hy0.2 _ h1.ex
  refine i_f (decide_eq_false c2) ?_
  walk_at "go"
  by_cases c3 : c % 8 = 4
  · refine i_t (decide_eq_true c3) ?_
    walk_at "go"
    exact q _ (by omega) (by omega) H hs.ex
  refine i_f (decide_eq_false c3) ?_
  walk_at "go"
  by_cases c4 : c % 8 = 5
  · refine i_t (decide_eq_true c4) ?_
    walk_at "go"
    exact q _ (by omega) (by omega) H hs.ex
  refine i_f (decide_eq_false c4) ?_
  walk_at "go"
  exact q _ (by omega) (by omega) H hs.ex
def sp__law_counts (K : PySem.W.Frag) : Sp := fun vs H Q _ => ∃ (a : Addr) (ns : List Int) (n : Nat), vs = [.ref a, .int ((n : Nat) : Int)] ∧ SqL K H a (ns.map V.int) ∧ 1 ≤ n ∧ n ≤ 64 ∧
  ∀ cs : List Int, cs.length = n → (∀ c ∈ cs, 0 ≤ c ∧ c ≤ 1000000) → 1 ≤ (cs.filter fun n => decide (0 < n)).length → RetL H Q (cs.map V.int)
theorem len__law_counts (h : sp__law_counts K vs H Q E) : vs.length = 2 := by
  obtain ⟨a, ns, n, rfl, _⟩ := h
  rfl
def t__law_counts (K : PySem.W.Frag) (W : WX) : TS :=
  (tSeq (tAsg (tLc (iRng1 (tCons (tVar 1) tNil)) (gName 3) tYes (tCl (sp__law_count K) [] WF (tCons (tCl (sp__law_mixed K) [] WF (tCons (tCl (sp__law_cell_at K) [] WF (tCons (tVar 0) (tCons (tOp rAddU (tC (.int 3)) (tOp rModU (tVar 3) (tC (.int 20)))) tNil))) (tCons (tVar 3) tNil))) tNil)) [3]) (gName 2))
    (tSeq (tIfS (tTest (tOp (rEqU K) (tBM K "list" (rCntI K) (tVar 2) (tCons (tC (.int 0)) tNil)) (tVar 1))) (tAsg (tOp rAddU (tC (.int 1)) (tOp rModU (tCl (sp__law_cell_at K) [] W (tCons (tVar 0) (tCons (tC (.int 2)) tNil))) (tC (.int 9)))) (gSub (tVar 2) (tOp rModU (tCl (sp__law_cell_at K) [] W (tCons (tVar 0) (tCons (tC (.int 2)) tNil))) (tVar 1)) rSetL)) tNext)
    (tRet (tVar 2))))
theorem rd__law_counts (h : sp__law_counts K vs H Q E) : t__law_counts K W { nx := fun _ H' => Q .non H', rt := Q } (start ["_law_script", "_law_many", "_law_counts_here", "_law_k"] vs) H := by
  obtain ⟨a, ns, n, rfl, hS, hn1, hn4, q⟩ := h
  have hs := Hs.start H
  unfold t__law_counts
  walk_at "go"
  refine ⟨_, rfl, by omega, by omega, ?_⟩
  rw [Int.toNat_natCast]
  refine c_lcR (fun i acc B' => ∃ cs : List Int, acc = cs.map V.int ∧ cs.length = i ∧ (∀ c ∈ cs, 0 ≤ c ∧ c ≤ 1000000) ∧ B' = H) hs ⟨[], rfl, rfl, (fun _ z => nomatch z), rfl⟩ ?_ ?_
  · rintro i acc B' D H' hi ⟨cs, rfl, hcl, hcb, rfl⟩ e h
    have hS' := h.bl hS
    walk_at "go"
    refine ⟨rfl, ?_⟩
    walk_at "go"
    refine ⟨a, ns, _, rfl, hS', by omega, ?_⟩
    walk_at "go"
    refine ⟨_, _, rfl, by omega, by omega, fun m hm => ?_⟩
    walk_at "go"
    refine ⟨m, rfl, hm, fun x x1 x2 => retV h fun H3 h3 => ?_⟩
    refine c_item h3 (small6 (by rw [List.length_map]; omega)) e ⟨cs ++ [x], by rw [List.map_append]; rfl, by rw [List.length_append, List.length_singleton, hcl], fun c hc => ?_, rfl⟩
    rcases List.mem_append.mp hc with z | z
    · exact hcb c z
    · rw [List.mem_singleton.mp z]
      exact ⟨x1, x2⟩
  rintro acc B' D H1 ⟨cs, rfl, hcl, hcb, rfl⟩ _ h
  have hS1 := h.bl hS
  walk_at "go"
  refine c_countL (h.sql (.head _)) ?_
  walk_at "go"
  by_cases c : cs.count 0 = n
  · refine i_t (decide_eq_true (by omega)) ?_
    walk_at "go"
    refine ⟨a, ns, _, rfl, hS1, by decide, ?_⟩
    walk_at "go"
    refine ⟨a, ns, _, rfl, hS1, by decide, ?_⟩
    walk_at "go"
    obtain ⟨k, hk, hkl⟩ : ∃ k : Nat, cellAt ns 2 % ((n : Nat) : Int) = ((k : Nat) : Int) ∧ k < n := by
      have z1 := Int.emod_nonneg (cellAt ns 2) (by omega : ((n : Nat) : Int) ≠ 0)
      have z2 := Int.emod_lt_of_pos (cellAt ns 2) (by omega : 0 < ((n : Nat) : Int))
      exact ⟨(cellAt ns 2 % ((n : Nat) : Int)).toNat, by omega, by omega⟩
    try rw [hk]
    refine w_set0 h rfl (by rw [List.length_map]; omega) fun H7 h7 => ?_
    walk_at "go"
    rw [← List.map_set] at h7
    refine h7.rl (.head _) (q _ (by rw [List.length_set, hcl]) (fun c hc => ?_) ?_)
    · rcases List.mem_or_eq_of_mem_set hc with z | z
      · exact hcb c z
      · rw [z]
        omega
    · refine List.length_pos_iff.mpr ?_
      intro z
      have hm : (1 + cellAt ns 2 % 9 : Int) ∈ (cs.set k (1 + cellAt ns 2 % 9)).filter fun n => decide (0 < n) := List.mem_filter.mpr ⟨List.mem_of_getElem? (i := k) (by rw [List.getElem?_set_self (by omega)]), by simp only [decide_eq_true_eq]; omega⟩
      rw [z] at hm
      cases hm
  · refine i_f (decide_eq_false (by omega)) ?_
    walk_at "go"
    refine h.rl (.head _) (q _ hcl hcb ?_)
    refine List.length_pos_iff.mpr fun z => c ?_
    rw [← hcl, List.count_eq_length]
    intro b hb
    have z2 : ¬ (0 < b) := fun z3 => by
      have hm : b ∈ cs.filter fun n => decide (0 < n) := List.mem_filter.mpr ⟨hb, decide_eq_true z3⟩
      rw [z] at hm
      cases hm
    have := (hcb b hb).1
    omega
def sp__law_enough (K : PySem.W.Frag) : Sp := fun vs H Q _ => ∃ n : Nat, vs = [.int ((n : Nat) : Int)] ∧ n ≤ 64 ∧ ∀ e : Nat, 1 ≤ e → e ≤ 6 → n ≤ 2 ^ e → RetV H Q (.int ((e : Nat) : Int))
theorem len__law_enough (h : sp__law_enough K vs H Q E) : vs.length = 1 := by
  obtain ⟨n, rfl, _⟩ := h
  rfl
def t__law_enough (K : PySem.W.Frag) (W : WX) : TS :=
  (tSeq (tAsg (tC (.int 1)) (gName 1))
    (tSeq (tWhile (tTest (tOp rLtU (tOp rShlU (tC (.int 1)) (tVar 1)) (tVar 0))) (tAsg (tOp rAddU (tVar 1) (tC (.int 1))) (gName 1)))
    (tRet (tVar 1))))
theorem rd__law_enough (h : sp__law_enough K vs H Q E) : t__law_enough K W { nx := fun _ H' => Q .non H', rt := Q } (start ["_law_many", "_law_enough_here"] vs) H := by
  obtain ⟨n, rfl, hn, q⟩ := h
  have hs := Hs.start H
  unfold t__law_enough
  walk_at "go"
  refine w_while (fun m σ' L' B' => ∃ e : Nat, 1 ≤ e ∧ e + m = 6 ∧ σ' = [some (.int ((n : Nat) : Int)), some (.int ((e : Nat) : Int))] ∧ B' = H ∧ L' = []) 5 hs ⟨1, by decide, by decide, rfl, rfl, rfl⟩ ?_
  rintro m σ' L' B' H' ⟨e, e1, e6, rfl, rfl, rfl⟩ h
  walk_at "go"
  rw [Int.one_mul, Int.toNat_natCast, show (2 : Int) ^ e = ((2 ^ e : Nat) : Int) by push_cast; rfl]
  by_cases c : 2 ^ e < n
  · refine i_t (decide_eq_true (by omega)) (w_turn ?_)
    walk_at "go"
    have e5 : e ≠ 6 := by
      rintro rfl
      omega
    exact ⟨m - 1, by omega, _, _, ⟨e + 1, by omega, by omega, by push_cast; rfl, rfl, rfl⟩, h⟩
  · refine i_f (decide_eq_false (by omega)) ?_
    walk_at "go"
    exact q e e1 (by omega) (by omega) _ h.ex
/-! the law's table -/
def Crow (cs : List Int) (r k : Nat) : List (Option Int) := (List.range (cs.length + 2)).map fun f => dp (cs.length + 1) r (cs.drop k) f
def TabR (B : Hp) (xs : List V) (T : List (List (Option Int))) : Prop := Paired (fun x r => ∃ p, x = V.ref p ∧ B p = some (.lst (r.map oV))) xs T
theorem TabR.same {B B' : Hp} {xs : List V} {T : List (List (Option Int))} (h : TabR B xs T) (s : Same B B') : TabR B' xs T := Paired.imp (fun x b ⟨p, e, h1⟩ => ⟨p, e, s _ _ h1⟩) h
theorem TabR.at {B : Hp} {xs : List V} {T : List (List (Option Int))} {i : Nat} {r : List (Option Int)} (h : TabR B xs T) (hr : T[i]? = some r) : ∃ p, xs[i]? = some (V.ref p) ∧ B p = some (.lst (r.map oV)) := by
  induction h generalizing i with
  | nil => simp at hr
  | cons e _ ih =>
    cases i with
    | zero =>
      simp at hr
      subst hr
      obtain ⟨p, rfl, hp⟩ := e
      exact ⟨p, rfl, hp⟩
    | succ i => exact ih (by simpa using hr)
theorem tabr_mk {B : Hp} {f : Nat → List (Option Int)} : ∀ {n : Nat} {qs : List Addr}, qs.length = n → (∀ k q, qs[k]? = some q → B q = some (.lst ((f k).map oV))) → TabR B (qs.map V.ref) ((List.range n).map f)
  | 0, [], _, _ => .nil
  | n + 1, qs, hl, h => by
    obtain ⟨qs1, qn, rfl⟩ : ∃ qs1 qn, qs = qs1 ++ [qn] := ⟨_, _, (List.dropLast_concat_getLast (by rintro rfl; simp at hl)).symm⟩
    have hl1 : qs1.length = n := by simpa using hl
    rw [List.range_succ, List.map_append, List.map_append]
    refine Paired.snoc (tabr_mk hl1 fun k q hq => h k q ?_) ⟨qn, rfl, h n qn ?_⟩
    · rw [List.getElem?_append_left (List.getElem?_eq_some_iff.mp hq).1]
      exact hq
    · rw [List.getElem?_append_right (by omega), hl1, Nat.sub_self]
      rfl
theorem crow_at {cs : List Int} {r k f : Nat} (hf : f < cs.length + 2) : ((Crow cs r k).map oV)[f]? = some (oV (dp (cs.length + 1) r (cs.drop k) f)) := by
  unfold Crow
  rw [List.map_map, List.getElem?_map, List.getElem?_range hf]
  rfl
theorem crow_length (cs : List Int) (r k : Nat) : (Crow cs r k).length = cs.length + 2 := by unfold Crow; rw [List.length_map, List.length_range]
theorem dp_nil (N r f : Nat) : dp N r [] f = some 0 := by
  cases r with
  | zero => rw [dp]; unfold dp0; simp
  | succ r => rw [dp]
theorem dp_next {cs : List Int} {r k f : Nat} (hk : k < cs.length) : dp (cs.length + 1) (r + 1) (cs.drop k) (f + 1) = lessO (dp (cs.length + 1) (r + 1) (cs.drop (k + 1)) f) (addedO (some (cs.drop k).sum) (dp (cs.length + 1) r (cs.drop k) (min (2 * (f + 1)) (cs.length + 1)))) := by
  rw [List.drop_eq_getElem_cons hk, dp]
theorem dp_none {cs : List Int} {r k : Nat} (hk : k < cs.length) : dp (cs.length + 1) (r + 1) (cs.drop k) 0 = none := by
  rw [List.drop_eq_getElem_cons hk, dp]
theorem dp_none' {cs : List Int} {n r k : Nat} (hn : n = cs.length) (hk : k < n) : dp (n + 1) (r + 1) (cs.drop k) 0 = none := by
  subst hn
  exact dp_none hk
theorem dp_next' {cs : List Int} {n r k f : Nat} (hn : n = cs.length) (hk : k < n) : dp (n + 1) (r + 1) (cs.drop k) (f + 1) = lessO (dp (n + 1) (r + 1) (cs.drop (k + 1)) f) (addedO (some (cs.drop k).sum) (dp (n + 1) r (cs.drop k) (min (2 * (f + 1)) (n + 1)))) := by
  subst hn
  exact dp_next hk
theorem set_fill {A : List V} {z v : V} {j N : Nat} (hA : A.length = N) (hj : j < N) (hv : A[j]? = some v) : (A.take j ++ List.replicate (N - j) z).set j v = A.take (j + 1) ++ List.replicate (N - (j + 1)) z := by
  have hl : (A.take j).length = j := by rw [List.length_take]; omega
  rw [List.set_append_right _ _ (by omega), hl, Nat.sub_self, show N - j = N - (j + 1) + 1 by omega, List.replicate_succ, List.set_cons_zero, List.take_add_one, hv, List.append_assoc]
  rfl
def zrow (n : Nat) (q : Addr) : Addr × HO := (q, .lst (List.replicate (n + 2) (V.int 0)))
def sp__law_least (K : PySem.W.Frag) : Sp := fun vs H Q _ => ∃ (a : Addr) (us : List Int) (m : Nat), vs = [.ref a, .int ((m : Nat) : Int)] ∧ SqL K H a (us.map V.int) ∧ us.length ≤ 100 ∧ 1 ≤ m ∧ m ≤ 12 ∧ 1 ≤ (us.filter fun n => decide (0 < n)).length ∧
  ∀ cs : List Int, cs.Perm (us.filter fun n => decide (0 < n)) → cs.Pairwise (fun x y => y ≤ x) → ∃ v, dp (cs.length + 1) (min m cs.length - 1) cs 2 = some v ∧ RetV H Q (.int (cs.sum + v))
theorem len__law_least (h : sp__law_least K vs H Q E) : vs.length = 2 := by
  obtain ⟨a, us, m, rfl, _⟩ := h
  rfl
def t__law_least (K : PySem.W.Frag) (W : WX) : TS :=
  (tSeq (tAsg (tCKw (rSortedKw K true [.bl true]) (tCons (tLc (iList K (tVar 0)) (gName 11) (tTest (tOp rGtU (tVar 11) (tC (.int 0)))) (tVar 11) [11]) tNil) (tCons ((tC (.bl true))) tNil)) (gName 2))
    (tSeq (tAsg (tCB (rLenK K) (tCons (tVar 2) tNil)) (gName 3))
    (tSeq (tAsg (tLc (iRng1 (tCons (tOp rAddU (tVar 3) (tC (.int 1))) tNil)) (gName 4) tYes (tCB (rSum K) (tCons (tSl (rSlK K) (tVar 2) (tPart (tVar 4)) tNoPart) tNil)) [4]) (gName 5))
    (tSeq (tAsg (tLst tNil) (gName 6))
    (tSeq (tFor (iRng1 (tCons (tOp rAddU (tVar 3) (tC (.int 1))) tNil)) (gName 4) (tDrop (tBM K "list" rAppend (tVar 6) (tCons (tLc (iRng1 (tCons (tOp rAddU (tVar 3) (tC (.int 2))) tNil)) (gName 7) tYes (tOp (rIx K) (tLst (tCons (tC .non) (tCons (tC (.int 0)) tNil))) (tCB (rIntK) (tCons (tOp rGeU (tVar 7) (tOp rSubU (tVar 3) (tVar 4))) tNil))) [7]) tNil))))
    (tSeq (tFor (iRng1 (tCons (tOp rSubU (tCB (rMin2K) (tCons (tVar 1) (tCons (tVar 3) tNil))) (tC (.int 1))) tNil)) (gName 8) (tSeq (tAsg (tLc (iRng1 (tCons (tOp rAddU (tVar 3) (tC (.int 1))) tNil)) (gName 4) tYes (tOp rMulU (tLst (tCons (tC (.int 0)) tNil)) (tOp rAddU (tVar 3) (tC (.int 2)))) [4]) (gName 9))
    (tSeq (tFor (iRng3 (tCons (tOp rSubU (tVar 3) (tC (.int 1))) (tCons (tUn rNegU (tC (.int 1))) (tCons (tUn rNegU (tC (.int 1))) tNil)))) (gName 4) (tSeq (tAsg (tC .non) (gSub (tOp (rIx K) (tVar 9) (tVar 4)) (tC (.int 0)) rSetL))
    (tFor (iRng2 (tCons (tC (.int 1)) (tCons (tOp rAddU (tVar 3) (tC (.int 2))) tNil))) (gName 7) (tSeq (tAsg (tCl (sp__law_added K) [] W (tCons (tOp (rIx K) (tVar 5) (tVar 4)) (tCons (tOp (rIx K) (tOp (rIx K) (tVar 6) (tVar 4)) (tCB (rMin2K) (tCons (tOp rMulU (tC (.int 2)) (tVar 7)) (tCons (tOp rAddU (tVar 3) (tC (.int 1))) tNil)))) tNil))) (gName 10))
    (tAsg (tCl (sp__law_less K) [] W (tCons (tOp (rIx K) (tOp (rIx K) (tVar 9) (tOp rAddU (tVar 4) (tC (.int 1)))) (tOp rSubU (tVar 7) (tC (.int 1)))) (tCons (tVar 10) tNil))) (gSub (tOp (rIx K) (tVar 9) (tVar 4)) (tVar 7) rSetL))))))
    (tAsg (tVar 9) (gName 6)))))
    (tRet (tOp rAddU (tOp (rIx K) (tVar 5) (tC (.int 0))) (tOp (rIx K) (tOp (rIx K) (tVar 6) (tC (.int 0))) (tCB (rMin2K) (tCons (tC (.int 2)) (tCons (tOp rAddU (tVar 3) (tC (.int 1))) tNil))))))))))))
theorem rd__law_least (h : sp__law_least K vs H Q E) : t__law_least K W { nx := fun _ H' => Q .non H', rt := Q } (start ["_law_counts_here", "_law_most", "_law_coming", "_law_many", "_law_k", "_law_rest", "_law_costs", "_law_free", "_law_depth", "_law_now", "_law_deeper", "_law_count_here"] vs) H := by
  obtain ⟨a, us, m, rfl, hS, hul, m1, m12, hc1, q⟩ := h
  have hs := Hs.start H
  unfold t__law_least
  walk_at "go"
  refine c_lcL V.int us (fun pre acc B' => acc = (pre.filter fun n => decide (0 < n)).map V.int ∧ B' = H) hs ⟨rfl, rfl⟩ (fun B' H' e h => h.bl (e.seq hS)) ?_ ?_
  · rintro pre x post acc B' D H' e ⟨rfl, rfl⟩ e2 h
    have hsm : ((pre.filter fun n => decide (0 < n)).map V.int).length < sizeLine := by
      rw [List.length_map]
      have z1 := List.length_filter_le (fun n : Int => decide (0 < n)) pre
      have z2 := congrArg List.length e
      rw [List.length_append, List.length_cons] at z2
      exact small6 (by omega)
    walk_at "go"
    refine ⟨rfl, ?_⟩
    walk_at "go"
    by_cases c : 0 < x
    · rw [decide_eq_true c]
      walk_at "go"
      refine c_item h hsm e2 ⟨?_, rfl⟩
      rw [List.filter_append, List.map_append]
      simp [c]
    · rw [decide_eq_false c]
      walk_at "go"
      refine ⟨_, _, ⟨?_, rfl⟩, e2, h⟩
      rw [List.filter_append]
      simp [c]
  rintro acc B' D H1 ⟨rfl, rfl⟩ _ h1
  walk_at "go"
  refine c_sortedRev h1 (h1.sql (.head _)) fun cs co H2 hperm hdesc h2 => ?_
  obtain ⟨v, hv, q⟩ := q cs hperm hdesc
  have hcl : cs.length ≤ 100 := by
    rw [hperm.length_eq]
    have := List.length_filter_le (fun n : Int => decide (0 < n)) us
    omega
  have hc1 : 1 ≤ cs.length := by rw [hperm.length_eq]; exact hc1
  obtain ⟨n, hn⟩ : ∃ n, n = cs.length := ⟨_, rfl⟩
  have h2 := h2.drop1
  have nb := h2.nb (.head _)
  have s2 := same_upd (o := .lst (cs.map V.int)) nb
  have kco : SqL K (upd B' co (.lst (cs.map V.int))) co (cs.map V.int) := .of upd_same
  have q : RetV (upd B' co (.lst (cs.map V.int))) Q (.int (cs.sum + v)) := fun H' e => q H' (s2.trans e)
  have h3 := h2.fix
  generalize upd B' co (.lst (cs.map V.int)) = B2 at *
  clear h1 h2 s2 nb hs hS hperm
  walk_at "go"
  rw [List.length_map, ← hn]
  rw [← hn] at hcl hc1 hv
  refine ⟨_, rfl, by omega, by omega, ?_⟩
  rw [show (((n : Nat) : Int) + 1).toNat = n + 1 by omega]
  refine c_lcR (fun i acc B3 => acc = ((List.range i).map fun k => (cs.drop k).sum).map V.int ∧ B3 = B2) h3 ⟨rfl, rfl⟩ ?_ ?_
  · rintro i acc B3 D H3 hi ⟨rfl, rfl⟩ e h
    walk_at "go"
    refine ⟨rfl, ?_⟩
    walk_at "go"
    rename_i sl H4 h4
    rw [show (0 : Int) + ((i : Nat) : Int) = ((i : Nat) : Int) by omega, cut_drop] at h4
    refine c_sum (h4.sql (.head _)) ?_
    refine c_item h4.drop (small6 (by rw [List.length_map, List.length_map, List.length_range]; omega)) e ⟨?_, rfl⟩
    rw [List.range_succ, List.map_append, List.map_append]
    rfl
  rintro acc B3 re H3 ⟨rfl, rfl⟩ _ h4
  have s4 := same_upd (o := .lst (((List.range (n + 1)).map fun k => (cs.drop k).sum).map V.int)) (h4.nb (.head _))
  have h5 := h4.fix
  have kre : SqL K (upd B3 re (.lst (((List.range (n + 1)).map fun k => (cs.drop k).sum).map V.int))) re (((List.range (n + 1)).map fun k => (cs.drop k).sum).map V.int) := .of upd_same
  have q : RetV (upd B3 re (.lst (((List.range (n + 1)).map fun k => (cs.drop k).sum).map V.int))) Q (.int (cs.sum + v)) := fun H' e => q H' (s4.trans e)
  have kco := s4.seq kco
  generalize upd B3 re (.lst (((List.range (n + 1)).map fun k => (cs.drop k).sum).map V.int)) = B4 at *
  clear h3 h4 s4
  walk_at "go"
  rename_i ca H5 h6
  refine ⟨_, rfl, by omega, by omega, ?_⟩
  rw [show (((n : Nat) : Int) + 1).toNat = n + 1 by omega]
  refine w_forR (fun i σ' L' B5 => ∃ (xs : List V) (w4 : Option V), Same B4 B5 ∧ TabR B5 xs ((List.range i).map (Crow cs 0)) ∧ L' = [(ca, .lst xs)] ∧
    σ' = [some (.ref a), some (.int ((m : Nat) : Int)), some (.ref co), some (.int ((n : Nat) : Int)), w4, some (.ref re), some (.ref ca), none, none, none, none, none]) h6 ⟨[], none, Same.refl _, .nil, rfl, rfl⟩ ?_ ?_
  · rintro i σ' L' B5 H6 hi ⟨xs, w4, s5, hX, rfl, rfl⟩ h
    walk_at "go"
    refine ⟨_, rfl, by omega, by omega, ?_⟩
    rw [show (((n : Nat) : Int) + 2).toNat = n + 2 by omega]
    refine c_lcR (fun j acc B6 => acc = (List.range j).map (fun f => oV (dp (n + 1) 0 (cs.drop i) f)) ∧ B6 = B5) h ⟨rfl, rfl⟩ ?_ ?_
    · rintro j acc B6 D H7 hj ⟨rfl, rfl⟩ e h
      walk_at "go"
      refine ⟨rfl, ?_⟩
      walk_at "go"
      rename_i l8 H8 h8
      have edp : dp (n + 1) 0 (cs.drop i) j = if n - i ≤ j then some 0 else none := by rw [dp]; unfold dp0; rw [List.length_drop, ← hn]
      by_cases c : n - i ≤ j
      · rw [decide_eq_true (show ((n : Nat) : Int) - (0 + ((i : Nat) : Int)) ≤ 0 + ((j : Nat) : Int) by omega), if_pos rfl]
        refine c_ixL (v := .int 0) (h8.sql (.head _)) rfl ?_
        refine c_item h8.drop (small6 (by rw [List.length_map, List.length_range]; omega)) e ⟨?_, rfl⟩
        rw [List.range_succ, List.map_append]
        congr 1
        rw [List.map_singleton, edp, if_pos c]
        rfl
      · rw [decide_eq_false (show ¬ ((n : Nat) : Int) - (0 + ((i : Nat) : Int)) ≤ 0 + ((j : Nat) : Int) by omega), if_neg (by decide)]
        refine c_ixL (v := .non) (h8.sql (.head _)) rfl ?_
        refine c_item h8.drop (small6 (by rw [List.length_map, List.length_range]; omega)) e ⟨?_, rfl⟩
        rw [List.range_succ, List.map_append]
        congr 1
        rw [List.map_singleton, edp, if_neg c]
        rfl
    rintro acc B6 D H7 ⟨rfl, rfl⟩ _ h7
    have hxl : xs.length = i := by rw [Paired.length hX, List.length_map, List.length_range]
    walk_at "go"
    refine c_app1 h7 (small6 (by omega)) fun H8 h8 => ?_
    have s8 := same_upd (o := .lst ((List.range (n + 2)).map fun f => oV (dp (n + 1) 0 (cs.drop i) f))) (h8.nb (.head _))
    walk_at "go"
    refine ⟨_, _, ⟨_, _, s5.trans s8, ?_, rfl, rfl⟩, h8.fix⟩
    rw [show (List.range (i + 1)).map (Crow cs 0) = (List.range i).map (Crow cs 0) ++ [Crow cs 0 i] by rw [List.range_succ, List.map_append]; rfl]
    refine Paired.snoc (hX.same s8) ⟨D, rfl, ?_⟩
    rw [show (Crow cs 0 i).map oV = (List.range (n + 2)).map fun f => oV (dp (n + 1) 0 (cs.drop i) f) by unfold Crow; rw [List.map_map, ← hn]; rfl]
    exact upd_same
  rintro σ' L' B5 H6 ⟨xs, w4, s5, hX, rfl, rfl⟩ h7
  have s7 := same_upd (o := .lst xs) (h7.nb (.head _))
  have h8 := h7.fix
  have kca : SqL K (upd B5 ca (.lst xs)) ca xs := .of upd_same
  have kre := s7.seq (s5.seq kre)
  have hX := hX.same s7
  have q : RetV (upd B5 ca (.lst xs)) Q (.int (cs.sum + v)) := fun H' e => q H' ((s5.trans s7).trans e)
  generalize upd B5 ca (.lst xs) = B7 at *
  clear h5 h6 h7 s5 s7 kco
  walk_at "go"
  have emin : (if ((n : Nat) : Int) < ((m : Nat) : Int) then ((n : Nat) : Int) else ((m : Nat) : Int)) = ((min m n : Nat) : Int) := by split <;> omega
  rw [emin]
  refine ⟨_, rfl, by omega, by omega, ?_⟩
  rw [show (((min m n : Nat) : Int) - 1).toNat = min m n - 1 by omega]
  have hX0 : TabR B7 xs ((List.range (n + 1)).map (Crow cs 0)) := hX
  refine w_forR (fun r σ' L' B8 => ∃ (ca : Addr) (xs : List V) (w4 w7 w8 w9 w10 : Option V), Same B7 B8 ∧ SqL K B8 ca xs ∧ TabR B8 xs ((List.range (n + 1)).map (Crow cs r)) ∧ L' = [] ∧
    σ' = [some (.ref a), some (.int ((m : Nat) : Int)), some (.ref co), some (.int ((n : Nat) : Int)), w4, some (.ref re), some (.ref ca), w7, w8, w9, w10, none]) h8 ⟨ca, xs, w4, none, none, none, none, Same.refl _, kca, hX0, rfl, rfl⟩ ?_ ?_
  · clear h8
    rintro r σ' L' B8 H8 hr ⟨ca, xs, w4, w7, w8, w9, w10, s8, kca, hX, rfl, rfl⟩ h8
    have kre := s8.seq kre
    walk_at "go"
    refine ⟨_, rfl, by omega, by omega, ?_⟩
    rw [show (((n : Nat) : Int) + 1).toNat = n + 1 by omega]
    refine c_lcRV (fun i acc L' B9 => ∃ qs : List Addr, qs.length = i ∧ acc = qs.map V.ref ∧ L' = qs.reverse.map (zrow n) ∧ B9 = B8) h8 ⟨[], rfl, rfl, rfl, rfl⟩ ?_ ?_
    · rintro i acc L' B9 D H9 hi ⟨qs, hql, rfl, rfl, rfl⟩ h
      walk_at "go"
      refine ⟨rfl, ?_⟩
      walk_at "go"
      rename_i z0 H10 h10
      refine c_rep h10 (h10.get (.head _)) (by omega) (by omega) (small6' (by rw [List.length_singleton]; omega)) fun z1 H11 h11 => ?_
      rw [show (((n : Nat) : Int) + 2).toNat = n + 2 by omega, List.flatten_replicate_singleton] at h11
      have h12 := h11.drop1.swap
      refine c_itemV h12 (small6 (by rw [List.length_map]; omega)) ⟨qs ++ [z1], by rw [List.length_append, List.length_singleton, hql], by rw [List.map_append]; rfl, by rw [List.reverse_append]; rfl, rfl⟩
    rintro acc L' B9 nw H9 ⟨qs, hql, rfl, rfl, rfl⟩ h9
    have s9 := same_upd (o := .lst (qs.map V.ref)) (h9.nb (.head _))
    have knw : SqL K (upd B9 nw (.lst (qs.map V.ref))) nw (qs.map V.ref) := .of upd_same
    have h10 := h9.fix
    have kre := s9.seq kre
    have kca := s9.seq kca
    have hX := hX.same s9
    have s8 := s8.trans s9
    generalize upd B9 nw (.lst (qs.map V.ref)) = B10 at *
    clear h8 h9 s9
    obtain ⟨qs1, qn, rfl⟩ : ∃ qs1 qn, qs = qs1 ++ [qn] := ⟨_, _, (List.dropLast_concat_getLast (by rintro rfl; simp at hql)).symm⟩
    rw [List.reverse_append] at h10
    have s10 := same_upd (o := .lst (List.replicate (n + 2) (V.int 0))) (h10.nb (p := qn) (.head _))
    have kqn : upd B10 qn (.lst (List.replicate (n + 2) (V.int 0))) qn = some (.lst (List.replicate (n + 2) (V.int 0))) := upd_same
    have h11 : Hs (upd B10 qn (.lst (List.replicate (n + 2) (V.int 0)))) (qs1.reverse.map (zrow n)) H9 := Hs.fix (p := qn) h10
    have kre := s10.seq kre
    have kca := s10.seq kca
    have knw := s10.seq knw
    have hX := hX.same s10
    have s8 := s8.trans s10
    generalize upd B10 qn (.lst (List.replicate (n + 2) (V.int 0))) = B11 at *
    clear h10 s10
    have hq1 : qs1.length = n := by simpa using hql
    walk_at "go"
    refine c_rcO n (by have z := RgC.neg (i := ((n : Nat) : Int) - 1) (j := -1) (by omega) (by omega) (by omega) (by omega); rw [show (((n : Nat) : Int) - 1 - -1).toNat = n by omega] at z; exact z) ?_
    have hqn : ∀ k, k < n → ∃ q, (qs1 ++ [qn])[k]? = some q ∧ qs1[k]? = some q := fun k hk => ⟨qs1[k], by rw [List.getElem?_append_left (by omega)]; exact List.getElem?_eq_getElem (by omega), List.getElem?_eq_getElem (by omega)⟩
    have crn : (Crow cs (r + 1) n).map oV = List.replicate (n + 2) (V.int 0) := by
      unfold Crow
      rw [List.map_map, List.eq_replicate_iff]
      refine ⟨by rw [List.length_map, List.length_range, hn], fun b hb => ?_⟩
      obtain ⟨f, _, rfl⟩ := List.mem_map.mp hb
      show oV (dp _ _ (cs.drop n) f) = _
      rw [List.drop_of_length_le (by omega), dp_nil]
      rfl
    refine w_forC (fun i σ' L' B12 => ∃ (w4 w7 w10 : Option V), Same B11 B12 ∧ L' = (qs1.take (n - i)).reverse.map (zrow n) ∧ (∀ k q, n - i ≤ k → (qs1 ++ [qn])[k]? = some q → B12 q = some (.lst ((Crow cs (r + 1) k).map oV))) ∧
      σ' = [some (.ref a), some (.int ((m : Nat) : Int)), some (.ref co), some (.int ((n : Nat) : Int)), w4, some (.ref re), some (.ref ca), w7, some (.int (0 + ((r : Nat) : Int))), some (.ref nw), w10, none]) h11 ⟨w4, w7, w10, Same.refl _, by rw [Nat.sub_zero, List.take_of_length_le (by omega)], fun k q hk hq => ?_, rfl⟩ ?_ ?_
    · obtain ⟨hkl, hkq⟩ := List.getElem?_eq_some_iff.mp hq
      have ek : k = n := by
        rw [List.length_append, List.length_singleton] at hkl
        omega
      subst ek
      rw [List.getElem?_append_right (by omega), hq1, Nat.sub_self] at hq
      simp at hq
      subst hq
      rw [crn]
      exact kqn
    · rintro i σ' L' B12 H12 hi ⟨w4, w7, w10, s12, rfl, hrows, rfl⟩ h
      obtain ⟨kk, hkk⟩ : ∃ kk, n - i = kk + 1 := ⟨n - i - 1, by omega⟩
      have hk : kk < n := by omega
      rw [show ((n : Nat) : Int) - 1 + ((i : Nat) : Int) * -1 = ((kk : Nat) : Int) by omega]
      obtain ⟨qk, e0, e0'⟩ := hqn kk hk
      rw [hkk, List.take_add_one, e0', Option.toList_some, List.reverse_append] at h
      rw [hkk] at hrows
      have kre := s12.seq kre
      have kca := s12.seq kca
      have knw := s12.seq knw
      have hX := hX.same s12
      obtain ⟨q1, e1⟩ : ∃ q, (qs1 ++ [qn])[kk + 1]? = some q := ⟨_, List.getElem?_eq_getElem (by rw [List.length_append, List.length_singleton]; omega)⟩
      have kq1 : SqL K B12 q1 ((Crow cs (r + 1) (kk + 1)).map oV) := .of (hrows _ _ (Nat.le_refl _) e1)
      obtain ⟨ck, e2, hck⟩ := hX.at (i := kk) (r := Crow cs r kk) (by rw [List.getElem?_map, List.getElem?_range (by omega)]; rfl)
      have kck : SqL K B12 ck ((Crow cs r kk).map oV) := .of hck
      have i1 : atI ((qs1 ++ [qn]).map V.ref) ((kk : Nat) : Int) = some (.ref qk) := atI_nat (by rw [List.getElem?_map, e0]; rfl)
      have i2 : atI ((qs1 ++ [qn]).map V.ref) (((kk : Nat) : Int) + 1) = some (.ref q1) := by
        rw [show ((kk : Nat) : Int) + 1 = ((kk + 1 : Nat) : Int) by omega]
        exact atI_nat (by rw [List.getElem?_map, e1]; rfl)
      have i3 : atI xs ((kk : Nat) : Int) = some (.ref ck) := atI_nat e2
      have i4 : atI (((List.range (n + 1)).map fun k => (cs.drop k).sum).map V.int) ((kk : Nat) : Int) = some (.int (cs.drop kk).sum) := atI_nat (by rw [List.getElem?_map, List.getElem?_map, List.getElem?_range (by omega)]; rfl)
      clear h11
      walk_at "go"
      refine w_set0 (xs := List.replicate (n + 2) (V.int 0)) (m := 0) h rfl (by rw [List.length_replicate]; omega) fun H13 h13 => ?_
      clear h
      walk_at "go"
      refine ⟨_, _, rfl, ⟨by decide, by omega, by omega, by omega⟩, ?_⟩
      rw [show (((n : Nat) : Int) + 2 - 1).toNat = n + 1 by omega]
      refine w_forR (fun j σ' L' B13 => ∃ (w7 w10 : Option V), B13 = B12 ∧ L' = (qk, .lst (((Crow cs (r + 1) kk).map oV).take (j + 1) ++ List.replicate (n + 2 - (j + 1)) (V.int 0))) :: (qs1.take kk).reverse.map (zrow n) ∧
        σ' = [some (.ref a), some (.int ((m : Nat) : Int)), some (.ref co), some (.int ((n : Nat) : Int)), some (.int ((kk : Nat) : Int)), some (.ref re), some (.ref ca), w7, some (.int (0 + ((r : Nat) : Int))), some (.ref nw), w10, none]) h13 ⟨w7, w10, rfl, ?_, rfl⟩ ?_ ?_
      · rw [← set_fill (A := (Crow cs (r + 1) kk).map oV) (N := n + 2) (j := 0) (v := .non) (by rw [List.length_map, crow_length, hn]) (by omega) (by rw [crow_at (by omega), ← hn, dp_none' hn hk]; rfl)]
        rfl
      · rintro j σ' L' B13 H14 hj ⟨w7, w10, rfl, rfl, rfl⟩ h
        clear h13
        have i5 : atI ((Crow cs r kk).map oV) ((min (2 * (j + 1)) (n + 1) : Nat) : Int) = some (oV (dp (n + 1) r (cs.drop kk) (min (2 * (j + 1)) (n + 1)))) := atI_nat (by rw [crow_at (by omega), ← hn])
        have i6 : atI ((Crow cs (r + 1) (kk + 1)).map oV) (1 + ((j : Nat) : Int) - 1) = some (oV (dp (n + 1) (r + 1) (cs.drop (kk + 1)) j)) := by
          rw [show 1 + ((j : Nat) : Int) - 1 = ((j : Nat) : Int) by omega]
          exact atI_nat (by rw [crow_at (by omega), ← hn])
        walk_at "go"
        rw [show (if ((n : Nat) : Int) + 1 < 2 * (1 + ((j : Nat) : Int)) then ((n : Nat) : Int) + 1 else 2 * (1 + ((j : Nat) : Int))) = ((min (2 * (j + 1)) (n + 1) : Nat) : Int) by split <;> omega]
        refine c_ixL (h.bl kck) i5 ?_
        walk_at "go"
        refine ⟨some (cs.drop kk).sum, _, rfl, ?_⟩
        walk_at "go"
        refine ⟨_, _, rfl, ?_⟩
        walk_at "go"
        refine w_set0 (m := j + 1) h (by omega) (by rw [List.length_append, List.length_take, List.length_replicate, List.length_map, crow_length]; omega) fun H15 h15 => ?_
        rw [set_fill (A := (Crow cs (r + 1) kk).map oV) (N := n + 2) (j := j + 1) (by rw [List.length_map, crow_length, hn]) (by omega) (by rw [crow_at (by omega), ← hn, dp_next' hn hk])] at h15
        exact ⟨_, _, ⟨_, _, rfl, rfl, rfl⟩, h15⟩
      · rintro σ' L' B13 H14 ⟨w7, w10, rfl, rfl, rfl⟩ h
        rw [List.take_of_length_le (by rw [List.length_map, crow_length]; omega), Nat.sub_self, List.replicate_zero, List.append_nil] at h
        have nb := h.nb (.head _)
        have s14 := same_upd (o := .lst ((Crow cs (r + 1) kk).map oV)) nb
        refine ⟨_, _, ⟨_, _, _, s12.trans s14, by rw [show n - (i + 1) = kk by omega], fun k q hk2 hq => ?_, rfl⟩, h.fix⟩
        by_cases ek : k = kk
        · subst ek
          rw [e0] at hq
          cases hq
          exact upd_same
        · exact s14 _ _ (hrows k q (by omega) hq)
    · rintro σ' L' B12 H12 ⟨w4, w7, w10, s12, rfl, hrows, rfl⟩ h
      rw [Nat.sub_self] at h hrows
      walk_at "go"
      refine ⟨_, _, ⟨nw, _, _, _, _, _, _, s8.trans s12, s12.seq knw, ?_, rfl, rfl⟩, h⟩
      refine tabr_mk (by rw [hql]) fun k q hq => hrows k q (Nat.zero_le _) hq
  · rintro σ' L' B8 H8 ⟨ca, xs, w4, w7, w8, w9, w10, s8, kca, hX, rfl, rfl⟩ h8
    have kre := s8.seq kre
    have i1 : atI (((List.range (n + 1)).map fun k => (cs.drop k).sum).map V.int) 0 = some (.int cs.sum) := by
      rw [show (0 : Int) = ((0 : Nat) : Int) from rfl, at_nat (by rw [List.length_map, List.length_range]; omega), List.range_succ_eq_map]
      rfl
    obtain ⟨p, e1, hp⟩ := hX.at (i := 0) (r := Crow cs (min m n - 1) 0) (by rw [List.getElem?_map, List.getElem?_range (by omega)]; rfl)
    have i2 : atI xs 0 = some (.ref p) := atI_nat (j := 0) e1
    have kp : SqL K B8 p ((Crow cs (min m n - 1) 0).map oV) := .of hp
    have i3 : atI ((Crow cs (min m n - 1) 0).map oV) 2 = some (.int v) := by
      have z := crow_at (cs := cs) (r := min m n - 1) (k := 0) (f := 2) (by omega)
      rw [List.drop_zero, ← hn, hv] at z
      exact atI_nat (j := 2) z
    walk_at "go"
    rw [show (if ((n : Nat) : Int) + 1 < 2 then ((n : Nat) : Int) + 1 else 2) = 2 by split <;> omega]
    refine c_ixL (h8.bl kp) i3 ?_
    walk_at "go"
    exact q _ (s8.trans h8.ex)
end L2.BR

namespace L2.BR
open PySem PySem.Spec PyProof.Rows L2.BP
variable {K : PySem.W.Frag} {W : WX} {vs : List V} {H : Hp} {Q : VK} {E : XK}
def sp__law_is_number (K : PySem.W.Frag) : Sp := fun vs H Q _ => ∃ i : Int, vs = [.int i] ∧ Q (.bl true) H
theorem len__law_is_number (h : sp__law_is_number K vs H Q E) : vs.length = 1 := by
  obtain ⟨i, rfl, _⟩ := h
  rfl
def t__law_is_number (K : PySem.W.Frag) (W : WX) : TS :=
  (tRet ((tAndV (tCB (rIsi K) (tCons (tVar 0) (tCons (tC (.ty "int")) tNil))) (tNotV (tCB (rIsi K) (tCons (tVar 0) (tCons (tC (.ty "bool")) tNil)))))))
theorem rd__law_is_number (h : sp__law_is_number K vs H Q E) : t__law_is_number K W { nx := fun _ H' => Q .non H', rt := Q } (start ["_law_thing"] vs) H := by
  obtain ⟨i, rfl, q⟩ := h
  have hs := Hs.start H
  unfold t__law_is_number
  walk_at "go"
  exact q
def sp__law_good (K : PySem.W.Frag) : Sp := fun vs H Q _ => ∃ (to a : Addr) (ls us : List Int) (m : Nat), vs = [.ref to, .ref a, .int ((m : Nat) : Int)] ∧ SqL K H to (ls.map V.int) ∧ SqL K H a (us.map V.int) ∧ us.length ≤ 100 ∧ 1 ≤ m ∧ m ≤ 12 ∧ (∀ u ∈ us, 0 ≤ u ∧ u ≤ 1000000) ∧ 1 ≤ (us.filter fun n => decide (0 < n)).length ∧ LenOk us m ls ∧ RetV H Q (.bl true)
theorem len__law_good (h : sp__law_good K vs H Q E) : vs.length = 3 := by
  obtain ⟨to, a, ls, us, m, rfl, _⟩ := h
  rfl
def t__law_good (K : PySem.W.Frag) (W : WX) : TS :=
  (tSeq (tIfS ((tOr (tNot (tB (tCB (rIsi K) (tCons (tVar 0) (tCons (tC (.ty "list")) tNil))))) (tTest (tOp (rNeU K) (tCB (rLenK K) (tCons (tVar 0) tNil)) (tCB (rLenK K) (tCons (tVar 1) tNil)))))) (tRet (tC (.bl false))) tNext)
    (tSeq (tAsg (tC (.int 0)) (gName 3))
    (tSeq (tAsg (tC (.int 0)) (gName 4))
    (tSeq (tFor (iZip K (tCons (tVar 1) (tCons (tVar 0) tNil))) (gTup K 2 (gCons (gName 5) (gCons (gName 6) gNil))) (tSeq (tIfS ((tOr (tNot (tB (tCl (sp__law_is_number K) [] W (tCons (tVar 6) tNil)))) (tOr (tNot (tTest (tChain rLeU rLeU (tC (.int 0)) (tVar 6) (tVar 2)))) (tTest (tOp (rNeU K) (tOp (rEqU K) (tVar 6) (tC (.int 0))) (tOp (rEqU K) (tVar 5) (tC (.int 0)))))))) (tRet (tC (.bl false))) tNext)
    (tSeq (tIfS (tTest (tOp rGtU (tVar 6) (tC (.int 0)))) (tAsg (tOp rAddU (tVar 3) (tOp rShlU (tC (.int 1)) (tOp rSubU (tVar 2) (tVar 6)))) (gName 3)) tNext)
    (tAsg (tOp rAddU (tVar 4) (tOp rMulU (tVar 5) (tVar 6))) (gName 4)))))
    (tRet ((tAndV (tOp rLeU (tVar 3) (tOp rShlU (tC (.int 1)) (tVar 2))) (tOp (rEqU K) (tVar 4) (tCl (sp__law_least K) [] W (tCons (tVar 1) (tCons (tVar 2) tNil)))))))))))
theorem rd__law_good (h : sp__law_good K vs H Q E) : t__law_good K W { nx := fun _ H' => Q .non H', rt := Q } (start ["_law_lengths", "_law_counts_here", "_law_most", "_law_room", "_law_cost", "_law_count_here", "_law_length"] vs) H := by
  obtain ⟨to, a, ls, us, m, rfl, hT, hS, hul, m1, m12, hub, hc1, O, q⟩ := h
  have hs := Hs.start H
  have hll := O.len
  unfold t__law_good
  walk_at "go"
  refine c_isiList (.lst hT) ?_
  walk_at "go"
  rw [List.length_map, List.length_map, hll, decide_eq_true rfl]
  walk_at "go"
  refine ⟨a, to, _, _, rfl, hS, hT, ?_⟩
  refine w_forZ V.int V.int us ls hll.symm (fun i σ' L' B' => ∃ (w5 w6 : Option V), B' = H ∧ L' = [] ∧
    σ' = [some (.ref to), some (.ref a), some (.int ((m : Nat) : Int)), some (.int (((((us.zip ls).take i).map (roomP m)).sum : Nat) : Int)), some (.int (((us.zip ls).take i).map fun p => p.1 * p.2).sum), w5, w6]) hs ⟨none, none, rfl, rfl, rfl⟩ ?_ ?_ ?_
  · rintro i σ' L' B' H' ⟨w5, w6, rfl, rfl, rfl⟩ h
    exact ⟨h.bl hS, h.bl hT⟩
  · rintro i x y σ' L' B' T H' e1 e2 ⟨w5, w6, rfl, rfl, rfl⟩ h
    obtain ⟨x1, x2⟩ := hub x (List.mem_of_getElem? e1)
    obtain ⟨y1, y2⟩ := len_at O e1 e2
    have ez : (us.zip ls)[i]? = some (x, y) := by
      rw [List.getElem?_zip_eq_some]
      exact ⟨e1, e2⟩
    have hy0 : 0 ≤ y ∧ y ≤ ((m : Nat) : Int) := by
      by_cases c : 0 < x
      · have := y1 c
        omega
      · have := y2 c
        omega
    have hxy : y = 0 ↔ x = 0 := by
      by_cases c : 0 < x
      · have := y1 c
        omega
      · have := y2 c
        omega
    walk_at "go"
    refine ⟨_, rfl, ?_⟩
    walk_at "go"
    have eb : decide (y = 0) = decide (x = 0) := by
      by_cases c : x = 0
      · rw [decide_eq_true c, decide_eq_true (hxy.mpr c)]
      · rw [decide_eq_false c, decide_eq_false fun z => c (hxy.mp z)]
    refine i_f (by rw [decide_eq_true eb]; rfl) ?_
    have hnx : ∀ (r : Int) (w : V), r = (((((us.zip ls).take (i + 1)).map (roomP m)).sum : Nat) : Int) → w = .int (((us.zip ls).take (i + 1)).map fun p => p.1 * p.2).sum →
      NxI (fun i σ' L' B'_1 => ∃ (w5 w6 : Option V), B'_1 = B' ∧ L' = [] ∧
        σ' = [some (.ref to), some (.ref a), some (.int ((m : Nat) : Int)), some (.int (((((us.zip ls).take i).map (roomP m)).sum : Nat) : Int)), some (.int (((us.zip ls).take i).map fun p => p.1 * p.2).sum), w5, w6]) (i + 1)
        [some (.ref to), some (.ref a), some (.int ((m : Nat) : Int)), some (.int r), some w, some (.int x), some (.int y)] H' := fun r w e3 e4 => by
      subst e3 e4
      exact ⟨_, _, ⟨_, _, rfl, rfl, rfl⟩, h.drop⟩
    have es : (((us.zip ls).take (i + 1)).map fun p => p.1 * p.2).sum = (((us.zip ls).take i).map fun p => p.1 * p.2).sum + x * y := by
      rw [List.take_add_one, ez, Option.toList_some, List.map_append, List.sum_append, List.map_singleton, List.sum_singleton]
    have er : (((us.zip ls).take (i + 1)).map (roomP m)).sum = (((us.zip ls).take i).map (roomP m)).sum + roomP m (x, y) := by
      rw [List.take_add_one, ez, Option.toList_some, List.map_append, List.sum_append, List.map_singleton, List.sum_singleton]
    walk_at "go"
    by_cases c : 0 < y
    · refine i_t (decide_eq_true c) ?_
      walk_at "go"
      refine hnx _ _ ?_ (by rw [es])
      rw [er]
      unfold roomP
      rw [if_pos c, show (((m : Nat) : Int) - y).toNat = m - y.toNat by omega, Int.one_mul]
      push_cast
      rfl
    · refine i_f (decide_eq_false c) ?_
      walk_at "go"
      refine hnx _ _ ?_ (by rw [es])
      rw [er]
      unfold roomP
      rw [if_neg c, Nat.add_zero]
  · rintro σ' L' B' H' ⟨w5, w6, rfl, rfl, rfl⟩ h
    obtain ⟨g1, g2⟩ := good_sums O fun u hu => (hub u hu).1
    rw [List.take_of_length_le (by rw [List.length_zip]; omega)]
    walk_at "go"
    rw [Int.one_mul, Int.toNat_natCast, show (2 : Int) ^ m = ((2 ^ m : Nat) : Int) by push_cast; rfl]
    refine i_t (decide_eq_true (by omega)) ?_
    walk_at "go"
    refine ⟨a, us, m, rfl, h.bl hS, hul, m1, m12, hc1, fun cs hp hd => ?_⟩
    obtain ⟨v, hv, hs⟩ := least_dp O m1 hp hd (by rw [hp.length_eq]; exact hc1)
    refine ⟨v, hv, retV h fun H2 h2 => ?_⟩
    walk_at "go"
    rw [decide_eq_true (by rw [hs]; exact g1)]
    exact q _ h2.ex
def sp__law_alike_right (K : PySem.W.Frag) : Sp := fun vs H Q _ => ∃ c : Int, vs = [.int c] ∧ 0 ≤ c ∧ RetV H Q (.bl true)
theorem len__law_alike_right (h : sp__law_alike_right K vs H Q E) : vs.length = 1 := by
  obtain ⟨c, rfl, _⟩ := h
  rfl
theorem len_alike {n m : Nat} {c : Int} (hc : 0 < c) (h1 : 1 ≤ n) (hm : 1 ≤ m) (h2 : n ≤ 2 ^ m) : LenOk (List.replicate n c) m (lenOf (List.replicate n c) m) := by
  have hf : (idxOf (List.replicate n c)).length = n := by
    have z := congrArg List.length (com_idx (List.replicate n c))
    rw [List.filter_eq_self.mpr fun x hx => by rw [List.eq_of_mem_replicate hx]; simpa using hc, List.length_map, List.length_replicate] at z
    exact z.symm
  exact len_ok _ m hm (by omega) (by omega)
theorem counts_rep {n m : Nat} {c : Int} (hc : 0 < c) (hc2 : c ≤ 1000000) (h1 : 1 ≤ n) (hn : n ≤ 300) (hm : 1 ≤ m) (hm2 : m ≤ 12) (h2 : n ≤ 2 ^ m) : countsOk (.lst ((List.replicate n c).map V.int)) (.int ((m : Nat) : Int)) = true := by
  have hf : ((List.replicate n c).filter fun n => decide (0 < n)).length = n := by
    rw [List.filter_eq_self.mpr fun x hx => by rw [List.eq_of_mem_replicate hx]; simpa using hc, List.length_replicate]
  exact counts_mk (by rw [List.length_replicate]; exact h1) (by rw [List.length_replicate]; exact hn) (fun x hx => by rw [List.eq_of_mem_replicate hx]; omega) hm hm2 (by omega) (by omega)
theorem map_int : ∀ {ws us : List Int}, ws.map V.int = us.map V.int → ws = us
  | [], [], _ => rfl
  | [], _ :: _, h => by cases h
  | _ :: _, [], h => by cases h
  | w :: ws, u :: us, h => by
    rw [List.map_cons, List.map_cons] at h
    injection h with h1 h2
    injection h1 with h1
    rw [h1, map_int h2]
/-- lengths_of of good counts -/
theorem call_len {B : Hp} {L : Pic} {a : Addr} {us : List Int} {m : Nat} (hs : Hs B L H) (h : SqL K H a (us.map V.int)) (hl : us.length ≤ 300) (ok : countsOk (.lst (us.map V.int)) (.int ((m : Nat) : Int)) = true) (k : ∀ p H', Hs B ((p, .lst ((lenOf us m).map V.int)) :: L) H' → Q (.ref p) H') :
    sp_lengths_of K [.ref a, .int ((m : Nat) : Int)] H Q E := by
  refine ⟨_, _, .lst (us.map V.int), .int ((m : Nat) : Int), rfl, .lst h, .int _, ok_ints (by omega), fun us2 m2 e1 e2 _ => ?_, fun z => ?_⟩
  · obtain rfl : us = us2 := map_int (by injection e1)
    obtain rfl : m = m2 := by
      injection e2 with e2
      omega
    exact retL hs k
  · rw [ok] at z
    cases z
def t__law_alike_right (K : PySem.W.Frag) (W : WX) : TS :=
  (tSeq (tAsg (tOp rAddU (tC (.int 1)) (tOp rModU (tVar 0) (tC (.int 5)))) (gName 1))
    (tSeq (tAsg (tOp rShlU (tC (.int 1)) (tVar 1)) (gName 2))
    (tSeq (tAsg (tOp rAddU (tC (.int 1)) (tOp rModU (tOp rDivU (tVar 0) (tC (.int 5))) (tC (.int 1000000)))) (gName 3))
    (tSeq (tIfS (tTest (tOp (rNeU K) (tCl (sp_lengths_of K) [] W (tCons (tOp rMulU (tLst (tCons (tVar 3) tNil)) (tVar 2)) (tCons (tOp rAddU (tVar 1) (tOp rModU (tOp rDivU (tVar 0) (tC (.int 7))) (tOp rSubU (tC (.int 13)) (tVar 1)))) tNil))) (tOp rMulU (tLst (tCons (tVar 1) tNil)) (tVar 2)))) (tRet (tC (.bl false))) tNext)
    (tSeq (tAsg (tCl (sp_lengths_of K) [.int 6] W (tCons (tOp rMulU (tLst (tCons (tVar 3) tNil)) (tOp rAddU (tVar 2) (tC (.int 1)))) tNil)) (gName 4))
    (tRet ((tAndV (tOp (rEqU K) (tCB (rLenK K) (tCons (tVar 4) tNil)) (tOp rAddU (tVar 2) (tC (.int 1)))) (tOp (rEqU K) (tCB (rSortedI K) (tCons (tVar 4) tNil)) (tOp rAddU (tOp rMulU (tLst (tCons (tVar 1) tNil)) (tOp rSubU (tVar 2) (tC (.int 1)))) (tOp rMulU (tLst (tCons (tOp rAddU (tVar 1) (tC (.int 1))) tNil)) (tC (.int 2)))))))))))))
theorem rd__law_alike_right (h : sp__law_alike_right K vs H Q E) : t__law_alike_right K (fun c d _ H2 => E c d H2) { nx := fun _ H' => Q .non H', rt := Q } (start ["_law_cell", "_law_bits", "_law_many", "_law_count_here", "_law_told"] vs) H := by
  obtain ⟨c, rfl, hc, q⟩ := h
  have hs := Hs.start H
  unfold t__law_alike_right
  obtain ⟨b, hb, hb1, hb5⟩ : ∃ b : Nat, 1 + c % 5 = ((b : Nat) : Int) ∧ 1 ≤ b ∧ b ≤ 5 := ⟨(1 + c % 5).toNat, by omega, by omega, by omega⟩
  have hN : (1 : Int) * 2 ^ b = ((2 ^ b : Nat) : Int) := by rw [Int.one_mul]; push_cast; rfl
  have hN1 : 2 ≤ 2 ^ b := Nat.pow_le_pow_right (n := 2) (by decide) hb1
  have hN5 : 2 ^ b ≤ 32 := Nat.pow_le_pow_right (n := 2) (by decide) hb5
  obtain ⟨cc, hcc, cc1, cc2⟩ : ∃ cc : Int, 1 + c / 5 % 1000000 = cc ∧ 1 ≤ cc ∧ cc ≤ 1000000 := ⟨_, rfl, by omega, by omega⟩
  walk_at "go"
  rename_i p0 H1 h1
  rw [hb, Int.toNat_natCast, hN, hcc]
  refine c_rep h1 (h1.get (.head _)) (by omega) (by omega) (small6' (by rw [List.length_singleton]; omega)) fun l1 H2 h2 => ?_
  rw [Int.toNat_natCast, hcc, List.flatten_replicate_singleton, ← List.map_replicate] at h2
  have h2 := h2.drop1
  clear h1
  walk_at "go"
  obtain ⟨m, hm, hm1, hm12⟩ : ∃ m : Nat, ((b : Nat) : Int) + c / 7 % (13 - ((b : Nat) : Int)) = ((m : Nat) : Int) ∧ b ≤ m ∧ m ≤ 12 := by
    have z1 := Int.emod_nonneg (c / 7) (show 13 - ((b : Nat) : Int) ≠ 0 by omega)
    have z2 := Int.emod_lt_of_pos (c / 7) (show 0 < 13 - ((b : Nat) : Int) by omega)
    exact ⟨(((b : Nat) : Int) + c / 7 % (13 - ((b : Nat) : Int))).toNat, by omega, by omega, by omega⟩
  rw [hm]
  have hNm : 2 ^ b ≤ 2 ^ m := Nat.pow_le_pow_right (by decide) hm1
  refine call_len h2 (h2.sql (.head _)) (by rw [List.length_replicate]; omega) (counts_rep (by omega) cc2 (by omega) (by omega) (by omega) hm12 hNm) fun l3 H3 h3 => ?_
  have e1 := alike1 (b := b) (m := m) (c := cc) (by omega) hb1 (by omega) hm1 (by omega) (len_alike (by omega) (by omega) (by omega) hNm)
  rw [e1] at h3
  clear h2
  walk_at "go"
  rename_i p4 H4 h4
  refine c_rep h4 (h4.get (.head _)) (by omega) (by omega) (small6' (by rw [List.length_singleton]; omega)) fun l5 H5 h5 => ?_
  rw [Int.toNat_natCast, List.flatten_replicate_singleton, ← List.map_replicate] at h5
  refine c_neL _ _ (h5.sql (.tail _ (.tail _ (.head _)))) (h5.sql (.head _)) ?_
  rw [decide_eq_true rfl]
  have h6 := Hs.start H5
  have s5 := h5.ex
  clear h3 h4 h5
  walk_at "go"
  rename_i p7 H7 h7
  rw [show ((2 ^ b : Nat) : Int) + 1 = ((2 ^ b + 1 : Nat) : Int) by omega]
  refine c_rep h7 (h7.get (.head _)) (by omega) (by omega) (small6' (by rw [List.length_singleton]; omega)) fun l8 H8 h8 => ?_
  rw [Int.toNat_natCast, List.flatten_replicate_singleton, ← List.map_replicate] at h8
  clear h7
  walk_at "go"
  refine call_len (m := 6) h8 (h8.sql (.head _)) (by rw [List.length_replicate]; omega) (counts_rep (by omega) cc2 (by omega) (by omega) (by omega) (by omega) (by omega)) fun l9 H9 h9 => ?_
  have O := len_alike (n := 2 ^ b + 1) (m := 6) (c := cc) (by omega) (by omega) (by omega) (by omega)
  generalize lenOf (List.replicate (2 ^ b + 1) cc) 6 = ls at *
  have hll := O.len
  rw [List.length_replicate] at hll
  clear h8
  walk_at "go"
  rw [List.length_map, hll, decide_eq_true (by omega)]
  walk_at "go"
  refine c_sortedI h9 (h9.sql (.head _)) fun ms l10 H10 hp hs10 h10 => ?_
  have e2 := alike2 (b := b) (by omega) hb1 (by omega) O hp hs10
  clear h9
  walk_at "go"
  rename_i p11 H11 h11
  rw [show ((2 ^ b : Nat) : Int) - 1 = ((2 ^ b - 1 : Nat) : Int) by omega]
  refine c_rep h11 (h11.get (.head _)) (by omega) (by omega) (small6' (by rw [List.length_singleton]; omega)) fun l12 H12 h12 => ?_
  rw [Int.toNat_natCast, List.flatten_replicate_singleton, ← List.map_replicate] at h12
  clear h11 h10
  walk_at "go"
  rename_i p13 H13 h13
  refine c_rep h13 (h13.get (.head _)) (by omega) (by omega) (small6' (by rw [List.length_singleton]; decide)) fun l14 H14 h14 => ?_
  rw [show (2 : Int).toNat = 2 from rfl, List.flatten_replicate_singleton, ← List.map_replicate] at h14
  refine c_addL h14 (h14.get (by walk_at "deep")) (h14.get (.head _)) (small6' (by simp; omega)) fun l15 H15 h15 => ?_
  rw [← List.map_append] at h15
  refine c_eqL ms _ (h15.sql (by walk_at "deep")) (h15.sql (.head _)) ?_
  rw [e2, decide_eq_true rfl]
  exact q _ (s5.trans h15.ex)
theorem cnt_pos : ∀ {us : List Int}, (∀ u ∈ us, 0 ≤ u) → us.count 0 + (us.filter fun n => decide (0 < n)).length = us.length
  | [], _ => rfl
  | u :: us, h => by
    have ih := cnt_pos (us := us) fun x hx => h x (.tail _ hx)
    have hu := h u (.head _)
    rw [List.count_cons, List.filter_cons]
    by_cases c : 0 < u
    · rw [if_pos (decide_eq_true c), if_neg (by simp; omega), List.length_cons, List.length_cons]
      omega
    · have e : u = 0 := by omega
      subst e
      rw [if_pos (by rfl : ((0 : Int) == 0) = true), if_neg (by decide : ¬ decide ((0 : Int) < 0) = true), List.length_cons]
      omega
def sp_law (K : PySem.W.Frag) : Sp := fun vs H Q _ => ∃ (a : Addr) (ns : List Int), vs = [.ref a] ∧ SqL K H a (ns.map V.int) ∧ ns.length ≤ 63 ∧ ∀ H', Q (.bl true) H'
theorem len_law (h : sp_law K vs H Q E) : vs.length = 1 := by
  obtain ⟨a, ns, rfl, _⟩ := h
  rfl
def t_law (K : PySem.W.Frag) (W : WX) : TS :=
  (tSeq (tIfS ((tOr (tTest (tOp (rNeU K) (tC (.int 6)) (tC (.int 6)))) (tNot (tB (tCl (sp__law_alike_right K) [] W (tCons (tCl (sp__law_mixed K) [] W (tCons (tCl (sp__law_cell_at K) [] W (tCons (tVar 0) (tCons (tC (.int 2)) tNil))) (tCons (tC (.int 5)) tNil))) tNil)))))) (tRet (tC (.bl false))) tNext)
    (tSeq (tAsg (tOp rAddU (tC (.int 1)) (tOp rModU (tCl (sp__law_cell_at K) [] W (tCons (tVar 0) (tCons (tC (.int 0)) tNil))) (tC (.int 12)))) (gName 1))
    (Evl.tCut (tIfS (tTest (tOp (rEqU K) (tOp rModU (tOp rDivU (tCl (sp__law_cell_at K) [] W (tCons (tVar 0) (tCons (tC (.int 0)) tNil))) (tC (.int 128))) (tC (.int 8))) (tC (.int 1)))) (tAsg (tOp rAddU (tC (.int 13)) (tOp rModU (tOp rDivU (tCl (sp__law_cell_at K) [] W (tCons (tVar 0) (tCons (tC (.int 0)) tNil))) (tC (.int 1024))) (tC (.int 52)))) (gName 1)) tNext)
    (tSeq (tAsg (tCl (sp__law_counts K) [] W (tCons (tVar 0) (tCons (tVar 1) tNil))) (gName 2))
    (Evl.tCut (tIfS (tTest (tOp (rEqU K) (tOp rModU (tOp rDivU (tCl (sp__law_cell_at K) [] W (tCons (tVar 0) (tCons (tC (.int 0)) tNil))) (tC (.int 16))) (tC (.int 8))) (tC (.int 1)))) (tFor (iRng1 (tCons (tC (.int 24)) tNil)) (gName 3) (tDrop (tBM K "list" rInsert (tVar 2) (tCons (tOp rModU (tCl (sp__law_mixed K) [] W (tCons (tCl (sp__law_cell_at K) [] W (tCons (tVar 0) (tCons (tC (.int 1)) tNil))) (tCons (tVar 3) tNil))) (tOp rAddU (tCB (rLenK K) (tCons (tVar 2) tNil)) (tC (.int 1)))) (tCons (tC (.int 0)) tNil))))) tNext)
    (tSeq (tAsg (tCl (sp__law_enough K) [] W (tCons (tOp rSubU (tCB (rLenK K) (tCons (tVar 2) tNil)) (tBM K "list" (rCntI K) (tVar 2) (tCons (tC (.int 0)) tNil))) tNil)) (gName 4))
    (tSeq (tAsg (tOp rAddU (tVar 4) (tOp rModU (tCl (sp__law_cell_at K) [] W (tCons (tVar 0) (tCons (tC (.int 1)) tNil))) (tOp rSubU (tC (.int 13)) (tVar 4)))) (gName 5))
    (tSeq (tAsg (tCB (rListK K) (tCons (tVar 2) tNil)) (gName 6))
    (Evl.tCut (tIfS (tTest (tOp (rEqU K) (tOp rModU (tOp rDivU (tCl (sp__law_cell_at K) [] W (tCons (tVar 0) (tCons (tC (.int 1)) tNil))) (tC (.int 16))) (tC (.int 4))) (tC (.int 1)))) (tSeq (tAsg (tC (.int 6)) (gName 5))
    (tAsg (tCl (sp_lengths_of K) [.int 6] W (tCons (tVar 6) tNil)) (gName 7))) (tAsg (tCl (sp_lengths_of K) [] W (tCons (tVar 6) (tCons (tVar 5) tNil))) (gName 7)))
    (tSeq (tIfS ((tOr (tNot (tB (tCl (sp__law_good K) [] W (tCons (tVar 7) (tCons (tVar 2) (tCons (tVar 5) tNil)))))) (tTest (tOp (rNeU K) (tVar 6) (tVar 2))))) (tRet (tC (.bl false))) tNext)
    (tSeq (tAsg (tCB (rListK K) (tCons (tVar 7) tNil)) (gName 8))
    (tSeq (tDrop (tBM0 K "list" rClear (tCl (sp_lengths_of K) [] W (tCons (tOp rAddU (tRevL K (tVar 2)) (tLst (tCons (tC (.int 1)) tNil))) (tCons (tC (.int 12)) tNil)))))
    (tSeq (tDrop (tBM0 K "list" rClear (tCl (sp_lengths_of K) [] W (tCons (tCB (rListK K) (tCons (tVar 2) tNil)) (tCons (tC (.int 12)) tNil)))))
    (tSeq (tAsg (tCl (sp_lengths_of K) [] W (tCons (tVar 6) (tCons (tVar 5) tNil))) (gName 9))
    (tSeq (tDrop (tBM K "list" rAppend (tVar 7) (tCons (tC (.int 0)) tNil)))
    (tRet ((tAndV (tOp (rEqU K) (tVar 9) (tVar 8)) (tAndV (tOp (rEqU K) (tVar 7) (tOp rAddU (tVar 8) (tLst (tCons (tC (.int 0)) tNil)))) (tAndV (tOp (rEqU K) (tCl (sp_lengths_of K) [] W (tCons (tCB (rListK K) (tCons (tVar 2) tNil)) (tCons (tVar 5) tNil))) (tVar 8)) (tOp (rEqU K) (tVar 6) (tVar 2))))))))))))))))))))))
theorem rd_law (h : sp_law K vs H Q E) : t_law K (fun c d _ H2 => E c d H2) { nx := fun _ H' => Q .non H', rt := Q } (start ["_law_script", "_law_many", "_law_counts_here", "_law_k", "_law_enough_here", "_law_most", "_law_handed", "_law_told", "_law_kept", "_law_again"] vs) H := by
  obtain ⟨a, ns, rfl, hS, hl, q⟩ := h
  have hs := Hs.start H
  unfold t_law
  walk_at "go"
  refine ⟨a, ns, _, rfl, hS, by decide, ?_⟩
  walk_at "go"
  refine ⟨_, _, rfl, by omega, by omega, fun M hM => ?_⟩
  walk_at "go"
  refine ⟨M, rfl, hM, retV hs fun H1 h1 => ?_⟩
  have hS1 := h1.bl hS
  have h1 := Hs.start H1
  clear hs hS
  walk_at "go"
  refine ⟨a, ns, _, rfl, hS1, by decide, ?_⟩
  walk_at "go"
  refine w_cut (fun σ2 H2 => ∃ n : Nat, 1 ≤ n ∧ n ≤ 64 ∧ H2 = H1 ∧ σ2 = [some (.ref a), some (.int ((n : Nat) : Int)), none, none, none, none, none, none, none, none]) ?_ ?_
  · walk_at "go"
    refine ⟨a, ns, _, rfl, hS1, by decide, ?_⟩
    walk_at "go"
    by_cases c : cellAt ns 0 / 128 % 8 = 1
    · refine i_t (decide_eq_true c) ?_
      walk_at "go"
      refine ⟨a, ns, _, rfl, hS1, by decide, ?_⟩
      walk_at "go"
      exact ⟨(13 + cellAt ns 0 / 1024 % 52).toNat, by omega, by omega, rfl, by rw [show (((13 + cellAt ns 0 / 1024 % 52).toNat : Nat) : Int) = 13 + cellAt ns 0 / 1024 % 52 by omega]; rfl⟩
    · refine i_f (decide_eq_false c) ?_
      walk_at "go"
      exact ⟨(1 + cellAt ns 0 % 12).toNat, by omega, by omega, rfl, by rw [show (((1 + cellAt ns 0 % 12).toNat : Nat) : Int) = 1 + cellAt ns 0 % 12 by omega]; rfl⟩
  rintro σ2 H2 ⟨n, n1, n64, rfl, rfl⟩
  walk_at "go"
  refine ⟨a, ns, n, rfl, hS1, n1, n64, fun cs hcl hcb hpos => retL h1 fun cl H3 h3 => ?_⟩
  clear h1
  walk_at "go"
  refine w_cut (fun σ2 H4 => ∃ (us : List Int) (w3 : Option V), us.filter (fun n => decide (0 < n)) = cs.filter (fun n => decide (0 < n)) ∧ 1 ≤ us.length ∧ us.length ≤ 100 ∧ (∀ u ∈ us, 0 ≤ u ∧ u ≤ 1000000) ∧ Hs H2 [(cl, .lst (us.map V.int))] H4 ∧
    σ2 = [some (.ref a), some (.int ((n : Nat) : Int)), some (.ref cl), w3, none, none, none, none, none, none]) ?_ ?_
  · have hS3 := h3.bl hS1
    walk_at "go"
    refine ⟨a, ns, _, rfl, hS3, by decide, ?_⟩
    walk_at "go"
    by_cases c : cellAt ns 0 / 16 % 8 = 1
    rotate_left
    · refine i_f (decide_eq_false c) ?_
      walk_at "go"
      exact ⟨cs, none, rfl, by omega, by omega, hcb, h3, rfl⟩
    refine i_t (decide_eq_true c) ?_
    walk_at "go"
    refine ⟨_, rfl, by omega, by omega, ?_⟩
    rw [show (24 : Int).toNat = 24 from rfl]
    refine w_forR (fun i σ' L' B' => ∃ (us : List Int) (w3 : Option V), us.filter (fun n => decide (0 < n)) = cs.filter (fun n => decide (0 < n)) ∧ us.length = n + i ∧ (∀ u ∈ us, 0 ≤ u ∧ u ≤ 1000000) ∧ B' = H2 ∧ L' = [(cl, .lst (us.map V.int))] ∧
      σ' = [some (.ref a), some (.int ((n : Nat) : Int)), some (.ref cl), w3, none, none, none, none, none, none]) h3 ⟨cs, none, rfl, hcl, hcb, rfl, rfl, rfl⟩ ?_ ?_
    · rintro i σ' L' B' H' hi ⟨us, w2, huf, hul, hub, rfl, rfl, rfl⟩ h
      have hS' := h.bl hS1
      walk_at "go"
      refine ⟨a, ns, _, rfl, hS', by decide, ?_⟩
      walk_at "go"
      refine ⟨_, _, rfl, by omega, by omega, fun m hm => ?_⟩
      walk_at "go"
      rw [List.length_map]
      obtain ⟨k, hk, hkl⟩ : ∃ k : Nat, m % (((us.length : Nat) : Int) + 1) = ((k : Nat) : Int) ∧ k ≤ us.length := by
        have z1 := Int.emod_nonneg m (show ((us.length : Nat) : Int) + 1 ≠ 0 by omega)
        have z2 := Int.emod_lt_of_pos m (show 0 < ((us.length : Nat) : Int) + 1 by omega)
        exact ⟨(m % (((us.length : Nat) : Int) + 1)).toNat, by omega, by omega⟩
      rw [hk]
      refine c_insert0 h (small6 (by rw [List.length_map]; omega)) (by omega) fun H5 h5 => ?_
      rw [show [V.int 0] = ([0] : List Int).map V.int from rfl, ← List.map_take, ← List.map_drop, ← List.map_append, ← List.map_append] at h5
      walk_at "go"
      refine ⟨_, _, ⟨us.take k ++ [0] ++ us.drop k, _, ?_, ?_, fun u hu => ?_, rfl, rfl, rfl⟩, h5⟩
      · rw [List.filter_append, List.filter_append, show [(0 : Int)].filter (fun n => decide (0 < n)) = [] from rfl, List.append_nil, ← List.filter_append, List.take_append_drop]
        exact huf
      · simp
        omega
      · rcases List.mem_append.mp hu with z | z
        · rcases List.mem_append.mp z with z | z
          · exact hub u (List.mem_of_mem_take z)
          · rw [List.mem_singleton.mp z]
            decide
        · exact hub u (List.mem_of_mem_drop z)
    · rintro σ' L' B' H4 ⟨us, w2, huf, hul, hub, rfl, rfl, rfl⟩ h4
      exact ⟨us, _, huf, by omega, by omega, hub, h4, rfl⟩
  rintro σ2 H4 ⟨us, w3, huf, hu1, hul, hub, h4, rfl⟩
  have hS4 := h4.bl hS1
  have hcl4 : SqL K H4 cl (us.map V.int) := h4.sql (.head _)
  have h5 := Hs.start H4
  have hnc1 : 1 ≤ (us.filter fun n => decide (0 < n)).length := by rw [huf]; exact hpos
  have hnc : (us.filter fun n => decide (0 < n)).length ≤ 64 := by
    rw [huf]
    have := List.length_filter_le (fun n : Int => decide (0 < n)) cs
    omega
  have hcnt := cnt_pos fun u hu => (hub u hu).1
  have hix : (idxOf us).length = (us.filter fun n => decide (0 < n)).length := by rw [com_idx, List.length_map]
  clear h3 h4 hS1 huf hpos hcb hcl
  walk_at "go"
  refine c_countL hcl4 ?_
  walk_at "go"
  rw [List.length_map]
  refine ⟨(us.filter fun n => decide (0 < n)).length, by rw [show ((us.length : Nat) : Int) - ((us.count 0 : Nat) : Int) = (((us.filter fun n => decide (0 < n)).length : Nat) : Int) by omega]; rfl, hnc, fun e e1 e6 hne => retV h5 fun H6 h6 => ?_⟩
  generalize hcn : (us.filter fun n => decide (0 < n)).length = nc at *
  clear h5
  have hS6 := h6.bl hS4
  walk_at "go"
  refine ⟨a, ns, _, rfl, hS6, by decide, ?_⟩
  walk_at "go"
  rename_i l6 H7 h7
  obtain ⟨m0, hm0, m01, m012⟩ : ∃ m : Nat, ((e : Nat) : Int) + cellAt ns 1 % (13 - ((e : Nat) : Int)) = ((m : Nat) : Int) ∧ e ≤ m ∧ m ≤ 12 := by
    have z1 := Int.emod_nonneg (cellAt ns 1) (show 13 - ((e : Nat) : Int) ≠ 0 by omega)
    have z2 := Int.emod_lt_of_pos (cellAt ns 1) (show 0 < 13 - ((e : Nat) : Int) by omega)
    exact ⟨(((e : Nat) : Int) + cellAt ns 1 % (13 - ((e : Nat) : Int))).toNat, by omega, by omega, by omega⟩
  rw [hm0]
  clear h6
  have hok : ∀ m : Nat, 1 ≤ m → m ≤ 12 → nc ≤ 2 ^ m → countsOk (.lst (us.map V.int)) (.int ((m : Nat) : Int)) = true := fun m h1 h2 h3 => counts_mk hu1 (by omega) hub h1 h2 (by omega) (by omega)
  refine w_cut (fun σ2 H8 => ∃ (m : Nat) (to : Addr), 1 ≤ m ∧ m ≤ 12 ∧ nc ≤ 2 ^ m ∧ Hs H4 [(to, .lst ((lenOf us m).map V.int)), (l6, .lst (us.map V.int))] H8 ∧
    σ2 = [some (.ref a), some (.int ((n : Nat) : Int)), some (.ref cl), w3, some (.int ((e : Nat) : Int)), some (.int ((m : Nat) : Int)), some (.ref l6), some (.ref to), none, none]) ?_ ?_
  · have hS7 := h7.bl hS4
    walk_at "go"
    refine ⟨a, ns, _, rfl, hS7, by decide, ?_⟩
    walk_at "go"
    by_cases c : cellAt ns 1 / 16 % 4 = 1
    · refine i_t (decide_eq_true c) ?_
      walk_at "go"
      have h64 : nc ≤ 2 ^ 6 := by omega
      refine call_len (m := 6) h7 (h7.sql (.head _)) (by omega) (hok 6 (by decide) (by decide) h64) fun to H8 h8 => ?_
      exact ⟨6, to, by decide, by decide, h64, h8, rfl⟩
    · refine i_f (decide_eq_false c) ?_
      walk_at "go"
      have h64 : nc ≤ 2 ^ m0 := Nat.le_trans hne (Nat.pow_le_pow_right (by decide) m01)
      refine call_len (m := m0) h7 (h7.sql (.head _)) (by omega) (hok m0 (by omega) (by omega) h64) fun to H8 h8 => ?_
      exact ⟨m0, to, by omega, m012, h64, h8, rfl⟩
  rintro σ2 H8 ⟨m, to, hm1, hm12, hcm, h8, rfl⟩
  have O := len_ok us m hm1 (by omega) (by omega)
  have hok2 := hok m hm1 hm12 hcm
  obtain ⟨ls, hls⟩ : ∃ ls, ls = lenOf us m := ⟨_, rfl⟩
  rw [← hls] at O h8
  have hll := O.len
  clear h7
  walk_at "go"
  refine ⟨to, cl, ls, us, m, rfl, h8.sql (.head _), h8.bl hcl4, hul, hm1, hm12, hub, by omega, O, retV h8 fun H9 h9 => ?_⟩
  clear h8
  walk_at "go"
  rename_i l8 H10 h10
  -- told alone stays own
  have s10 := same_upd (o := .lst (ls.map V.int)) (h10.nb (p := l8) (.head _))
  have k8 : upd H4 l8 (.lst (ls.map V.int)) l8 = some (.lst (ls.map V.int)) := upd_same
  have h11 := h10.fix.swap
  have s11 := same_upd (o := .lst (us.map V.int)) (h11.nb (p := l6) (.head _))
  have k6 : SqL K (upd (upd H4 l8 (.lst (ls.map V.int))) l6 (.lst (us.map V.int))) l6 (us.map V.int) := .of upd_same
  have h12 := h11.fix
  have k8 := s11 _ _ k8
  have hcl4 := s11.seq (s10.seq hcl4)
  generalize upd (upd H4 l8 (.lst (ls.map V.int))) l6 (.lst (us.map V.int)) = B at *
  have k8S : SqL K B l8 (ls.map V.int) := .of k8
  clear h9 h10 h11 s10 s11 hS4 hS6
  refine c_revO h12 (h12.bl hcl4) fun rv H13 h13 => ?_
  walk_at "go"
  rename_i l14 H14 h14
  rw [← List.map_reverse] at h14
  refine c_addL h14 (h14.get (by walk_at "deep")) (h14.get (.head _)) (small6' (by simp; omega)) fun l15 H15 h15 => ?_
  rw [show [V.int 1] = ([1] : List Int).map V.int from rfl, ← List.map_append] at h15
  clear h12 h13 h14
  walk_at "go"
  have ok3 : countsOk (.lst ((us.reverse ++ [1]).map V.int)) (.int ((12 : Nat) : Int)) = true := by
    refine counts_mk (by simp) (by simp; omega) (fun u hu => ?_) (by decide) (by decide) ?_ ?_
    · rcases List.mem_append.mp hu with z | z
      · exact hub u (List.mem_reverse.mp z)
      · rw [List.mem_singleton.mp z]
        decide
    · rw [List.filter_append, List.length_append]
      show 1 ≤ _ + 1
      omega
    · rw [List.filter_append, List.length_append, List.filter_reverse, List.length_reverse, hcn]
      show nc + 1 ≤ 2 ^ 12
      omega
  refine call_len (m := 12) h15 (h15.sql (.head _)) (by simp; omega) ok3 fun l16 H16 h16 => ?_
  clear h15
  walk_at "go"
  refine c_clear0 h16 fun H17 h17 => ?_
  have h18 := h17.drop.drop.drop.drop
  clear h16 h17
  walk_at "go"
  rename_i l19 H19 h19
  have h12c : nc ≤ 2 ^ 12 := by omega
  refine call_len (m := 12) h19 (h19.sql (.head _)) (by omega) (hok 12 (by decide) (by decide) h12c) fun l20 H20 h20 => ?_
  clear h18 h19
  walk_at "go"
  refine c_clear0 h20 fun H21 h21 => ?_
  have h22 := h21.drop.drop
  clear h20 h21
  walk_at "go"
  refine call_len (m := m) h22 (h22.bl k6) (by omega) hok2 fun l23 H23 h23 => ?_
  rw [← hls] at h23
  have s23 := same_upd (o := .lst (ls.map V.int)) (h23.nb (p := l23) (.head _))
  have k23 : SqL K (upd B l23 (.lst (ls.map V.int))) l23 (ls.map V.int) := .of upd_same
  have h24 := h23.fix
  have k8 := s23 _ _ k8
  have k8S := s23.seq k8S
  have k6 := s23.seq k6
  have hcl4 := s23.seq hcl4
  generalize upd B l23 (.lst (ls.map V.int)) = B2 at *
  clear h22 h23 s23
  walk_at "go"
  refine c_app0 h24 (small6 (by rw [List.length_map]; omega)) fun H25 h25 => ?_
  rw [show [V.int 0] = ([0] : List Int).map V.int from rfl, ← List.map_append] at h25
  clear h24
  walk_at "go"
  rename_i l26 H26 h26
  refine c_addL h26 (h26.ex _ _ k8) (h26.get (.head _)) (small6' (by simp; omega)) fun l27 H27 h27 => ?_
  rw [show [V.int 0] = ([0] : List Int).map V.int from rfl, ← List.map_append] at h27
  clear h25 h26
  refine c_eqL (ls ++ [0]) (ls ++ [0]) (h27.sql (by walk_at "deep")) (h27.sql (.head _)) ?_
  rw [decide_eq_true rfl]
  walk_at "go"
  rename_i l28 H28 h28
  clear h27
  refine call_len (m := m) h28 (h28.sql (.head _)) (by omega) hok2 fun l29 H29 h29 => ?_
  rw [← hls] at h29
  clear h28
  walk_at "go"
  rw [decide_eq_true rfl]
  exact q _
end L2.BR

end
namespace L2.BH
open PySem PySem.Spec PyProof.Rows L2
def top (i : Nat) : Stmt := PySem.Challenge.pw_balepress_k06_lengths_cost_least.main.body.getD i (.Pass ⟨0, 0, 0, 0⟩)
abbrev s_is_between : Stmt := top 8
abbrev s_need_counts : Stmt := top 9
abbrev s_weight_of : Stmt := top 10
abbrev s_by_twos : Stmt := top 11
abbrev s_lengths_of : Stmt := top 12
abbrev s__law_cell_at : Stmt := top 14
abbrev s__law_mixed : Stmt := top 15
abbrev s__law_is_number : Stmt := top 16
abbrev s__law_count : Stmt := top 17
abbrev s__law_counts : Stmt := top 18
abbrev s__law_added : Stmt := top 19
abbrev s__law_less : Stmt := top 20
abbrev s__law_least : Stmt := top 21
abbrev s__law_enough : Stmt := top 22
abbrev s__law_good : Stmt := top 23
abbrev s__law_alike_right : Stmt := top 24
abbrev s_law : Stmt := top 25
def d_is_between : He.DefD := ⟨("is_between", none), "is_between", "is_between", defArgs s_is_between, defBody s_is_between, defScope s_is_between, [], []⟩
def d_need_counts : He.DefD := ⟨("need_counts", none), "need_counts", "need_counts", defArgs s_need_counts, defBody s_need_counts, defScope s_need_counts, [], []⟩
def d_weight_of : He.DefD := ⟨("weight_of", none), "weight_of", "weight_of", defArgs s_weight_of, defBody s_weight_of, defScope s_weight_of, [], []⟩
def d_by_twos : He.DefD := ⟨("by_twos", none), "by_twos", "by_twos", defArgs s_by_twos, defBody s_by_twos, defScope s_by_twos, [], []⟩
def d_lengths_of : He.DefD := ⟨("lengths_of", none), "lengths_of", "lengths_of", defArgs s_lengths_of, defBody s_lengths_of, defScope s_lengths_of, [.int 6], []⟩
def d__law_cell_at : He.DefD := ⟨("_law_cell_at", none), "_law_cell_at", "_law_cell_at", defArgs s__law_cell_at, defBody s__law_cell_at, defScope s__law_cell_at, [], []⟩
def d__law_mixed : He.DefD := ⟨("_law_mixed", none), "_law_mixed", "_law_mixed", defArgs s__law_mixed, defBody s__law_mixed, defScope s__law_mixed, [], []⟩
def d__law_is_number : He.DefD := ⟨("_law_is_number", none), "_law_is_number", "_law_is_number", defArgs s__law_is_number, defBody s__law_is_number, defScope s__law_is_number, [], []⟩
def d__law_count : He.DefD := ⟨("_law_count", none), "_law_count", "_law_count", defArgs s__law_count, defBody s__law_count, defScope s__law_count, [], []⟩
def d__law_counts : He.DefD := ⟨("_law_counts", none), "_law_counts", "_law_counts", defArgs s__law_counts, defBody s__law_counts, defScope s__law_counts, [], []⟩
def d__law_added : He.DefD := ⟨("_law_added", none), "_law_added", "_law_added", defArgs s__law_added, defBody s__law_added, defScope s__law_added, [], []⟩
def d__law_less : He.DefD := ⟨("_law_less", none), "_law_less", "_law_less", defArgs s__law_less, defBody s__law_less, defScope s__law_less, [], []⟩
def d__law_least : He.DefD := ⟨("_law_least", none), "_law_least", "_law_least", defArgs s__law_least, defBody s__law_least, defScope s__law_least, [], []⟩
def d__law_enough : He.DefD := ⟨("_law_enough", none), "_law_enough", "_law_enough", defArgs s__law_enough, defBody s__law_enough, defScope s__law_enough, [], []⟩
def d__law_good : He.DefD := ⟨("_law_good", none), "_law_good", "_law_good", defArgs s__law_good, defBody s__law_good, defScope s__law_good, [], []⟩
def d__law_alike_right : He.DefD := ⟨("_law_alike_right", none), "_law_alike_right", "_law_alike_right", defArgs s__law_alike_right, defBody s__law_alike_right, defScope s__law_alike_right, [], []⟩
def d_law : He.DefD := ⟨("law", none), "law", "law", defArgs s_law, defBody s_law, defScope s_law, [], []⟩
def fn : List He.DefD := [d_is_between, d_need_counts, d_weight_of, d_by_twos, d_lengths_of, d__law_cell_at, d__law_mixed, d__law_is_number, d__law_count, d__law_counts, d__law_added, d__law_less, d__law_least, d__law_enough, d__law_good, d__law_alike_right, d_law]
def fa : List He.Fa := [.glo "PressError", .exc "PressError", .glo "BadShares", .exc "BadShares", .int "MOST_BITS" 6, .int "MOST_THINGS" 300, .int "MOST_COUNT" 1000000, .int "MOST_LENGTH" 12, .glo "is_between", .glo "need_counts", .glo "weight_of", .glo "by_twos", .glo "lengths_of", .glo "_law_cell_at", .glo "_law_mixed", .glo "_law_is_number", .glo "_law_count", .glo "_law_counts", .glo "_law_added", .glo "_law_less", .glo "_law_least", .glo "_law_enough", .glo "_law_good", .glo "_law_alike_right", .glo "law", .free "bool", .free "enumerate", .free "int", .free "isinstance", .free "len", .free "list", .free "min", .free "range", .free "sorted", .free "sum", .free "zip", .free "ValueError"]
abbrev R : PySem.W.OpenRow := PySem.W.OpenLaw.row PySem.Challenge.rw_balepress_k06_lengths_cost_least
abbrev hk : PySem.W.Hook := He.hookD 6 fa fn
def ob (s : PySem.W.SharedT) : He.AlD := He.obsDG 6 fa fn (HandSHeadRun.getT s)
theorem ob_eq (s : PySem.W.SharedT) : ob s = hk.obs s.abs := He.obsDG_eq (HandSHeadRun.getT_eq s)
def loose0 : List PySem.Str := ["PressError", "ValueError", "BadShares", "MOST_BITS", "MOST_THINGS", "MOST_COUNT", "MOST_LENGTH", "is_between", "need_counts", "weight_of", "by_twos", "lengths_of", "_law_cell_at", "_law_mixed", "_law_is_number", "_law_count", "_law_counts", "_law_added", "_law_less", "_law_least", "_law_enough", "_law_good", "_law_alike_right"]
abbrev loose : List PySem.Str := loose0
theorem run (w : World) : HandSHeadRun.RunEq R (PySem.W.view R.prog [25]) hk ob 40000 loose w := by
  intro os
  kernel_rfl
end L2.BH
namespace L2.BW
open PySem PySem.Spec PyProof.Rows L2.BP L2.BR L2.BH L2H
structure Tx (K : PySem.W.Frag) (mg : Str → Option Value) : Prop where
  g_PressError : mg "PressError" = some (.ref (He.ga K "PressError"))
  x_PressError : PySem.W.excIn K (He.ga K "PressError") He.veBase "ValueError.__new__" = true ∧ PySem.W.keepIn K (.ref (He.ga K "PressError")) = true ∧ PySem.W.subIn K (.ref (He.ga K "PressError")) (.type "BaseException") = some true ∧ PySem.W.typeIn K (.ref (He.ga K "PressError")) = some (.type "type")
  g_BadShares : mg "BadShares" = some (.ref (He.ga K "BadShares"))
  x_BadShares : PySem.W.excIn K (He.ga K "BadShares") He.veBase "ValueError.__new__" = true ∧ PySem.W.keepIn K (.ref (He.ga K "BadShares")) = true ∧ PySem.W.subIn K (.ref (He.ga K "BadShares")) (.type "BaseException") = some true ∧ PySem.W.typeIn K (.ref (He.ga K "BadShares")) = some (.type "type")
  g_MOST_BITS : ∃ t, mg "MOST_BITS" = some (.int 6 t)
  g_MOST_THINGS : ∃ t, mg "MOST_THINGS" = some (.int 300 t)
  g_MOST_COUNT : ∃ t, mg "MOST_COUNT" = some (.int 1000000 t)
  g_MOST_LENGTH : ∃ t, mg "MOST_LENGTH" = some (.int 12 t)
  g_is_between : mg "is_between" = some (.ref (He.ga K "is_between"))
  g_need_counts : mg "need_counts" = some (.ref (He.ga K "need_counts"))
  g_weight_of : mg "weight_of" = some (.ref (He.ga K "weight_of"))
  g_by_twos : mg "by_twos" = some (.ref (He.ga K "by_twos"))
  g_lengths_of : mg "lengths_of" = some (.ref (He.ga K "lengths_of"))
  g__law_cell_at : mg "_law_cell_at" = some (.ref (He.ga K "_law_cell_at"))
  g__law_mixed : mg "_law_mixed" = some (.ref (He.ga K "_law_mixed"))
  g__law_is_number : mg "_law_is_number" = some (.ref (He.ga K "_law_is_number"))
  g__law_count : mg "_law_count" = some (.ref (He.ga K "_law_count"))
  g__law_counts : mg "_law_counts" = some (.ref (He.ga K "_law_counts"))
  g__law_added : mg "_law_added" = some (.ref (He.ga K "_law_added"))
  g__law_less : mg "_law_less" = some (.ref (He.ga K "_law_less"))
  g__law_least : mg "_law_least" = some (.ref (He.ga K "_law_least"))
  g__law_enough : mg "_law_enough" = some (.ref (He.ga K "_law_enough"))
  g__law_good : mg "_law_good" = some (.ref (He.ga K "_law_good"))
  g__law_alike_right : mg "_law_alike_right" = some (.ref (He.ga K "_law_alike_right"))
  g_law : mg "law" = some (.ref (He.ga K "law"))
  f_bool : mg "bool" = none
  f_enumerate : mg "enumerate" = none
  f_int : mg "int" = none
  f_isinstance : mg "isinstance" = none
  f_len : mg "len" = none
  f_list : mg "list" = none
  f_min : mg "min" = none
  f_range : mg "range" = none
  f_sorted : mg "sorted" = none
  f_sum : mg "sum" = none
  f_zip : mg "zip" = none
  f_ValueError : mg "ValueError" = none
  d_is_between : ∃ fd, FunD K d_is_between.name d_is_between.qual d_is_between.params d_is_between.body d_is_between.scope (d_is_between.dvs K) (d_is_between.kws K) (He.fAd K d_is_between.at_) fd
  d_need_counts : ∃ fd, FunD K d_need_counts.name d_need_counts.qual d_need_counts.params d_need_counts.body d_need_counts.scope (d_need_counts.dvs K) (d_need_counts.kws K) (He.fAd K d_need_counts.at_) fd
  d_by_twos : ∃ fd, FunD K d_by_twos.name d_by_twos.qual d_by_twos.params d_by_twos.body d_by_twos.scope (d_by_twos.dvs K) (d_by_twos.kws K) (He.fAd K d_by_twos.at_) fd
  d_lengths_of : ∃ fd, FunD K d_lengths_of.name d_lengths_of.qual d_lengths_of.params d_lengths_of.body d_lengths_of.scope (d_lengths_of.dvs K) (d_lengths_of.kws K) (He.fAd K d_lengths_of.at_) fd
  d__law_alike_right : ∃ fd, FunD K d__law_alike_right.name d__law_alike_right.qual d__law_alike_right.params d__law_alike_right.body d__law_alike_right.scope (d__law_alike_right.dvs K) (d__law_alike_right.kws K) (He.fAd K d__law_alike_right.at_) fd
  d__law_mixed : ∃ fd, FunD K d__law_mixed.name d__law_mixed.qual d__law_mixed.params d__law_mixed.body d__law_mixed.scope (d__law_mixed.dvs K) (d__law_mixed.kws K) (He.fAd K d__law_mixed.at_) fd
  d__law_cell_at : ∃ fd, FunD K d__law_cell_at.name d__law_cell_at.qual d__law_cell_at.params d__law_cell_at.body d__law_cell_at.scope (d__law_cell_at.dvs K) (d__law_cell_at.kws K) (He.fAd K d__law_cell_at.at_) fd
  d__law_count : ∃ fd, FunD K d__law_count.name d__law_count.qual d__law_count.params d__law_count.body d__law_count.scope (d__law_count.dvs K) (d__law_count.kws K) (He.fAd K d__law_count.at_) fd
  d__law_counts : ∃ fd, FunD K d__law_counts.name d__law_counts.qual d__law_counts.params d__law_counts.body d__law_counts.scope (d__law_counts.dvs K) (d__law_counts.kws K) (He.fAd K d__law_counts.at_) fd
  d__law_enough : ∃ fd, FunD K d__law_enough.name d__law_enough.qual d__law_enough.params d__law_enough.body d__law_enough.scope (d__law_enough.dvs K) (d__law_enough.kws K) (He.fAd K d__law_enough.at_) fd
  d__law_is_number : ∃ fd, FunD K d__law_is_number.name d__law_is_number.qual d__law_is_number.params d__law_is_number.body d__law_is_number.scope (d__law_is_number.dvs K) (d__law_is_number.kws K) (He.fAd K d__law_is_number.at_) fd
  d__law_added : ∃ fd, FunD K d__law_added.name d__law_added.qual d__law_added.params d__law_added.body d__law_added.scope (d__law_added.dvs K) (d__law_added.kws K) (He.fAd K d__law_added.at_) fd
  d__law_less : ∃ fd, FunD K d__law_less.name d__law_less.qual d__law_less.params d__law_less.body d__law_less.scope (d__law_less.dvs K) (d__law_less.kws K) (He.fAd K d__law_less.at_) fd
  d__law_least : ∃ fd, FunD K d__law_least.name d__law_least.qual d__law_least.params d__law_least.body d__law_least.scope (d__law_least.dvs K) (d__law_least.kws K) (He.fAd K d__law_least.at_) fd
  d__law_good : ∃ fd, FunD K d__law_good.name d__law_good.qual d__law_good.params d__law_good.body d__law_good.scope (d__law_good.dvs K) (d__law_good.kws K) (He.fAd K d__law_good.at_) fd
  d_law : ∃ fd, FunD K d_law.name d_law.qual d_law.params d_law.body d_law.scope (d_law.dvs K) (d_law.kws K) (He.fAd K d_law.at_) fd
  d_weight_of : ∃ fd, FunD K d_weight_of.name d_weight_of.qual d_weight_of.params d_weight_of.body d_weight_of.scope (d_weight_of.dvs K) (d_weight_of.kws K) (He.fAd K d_weight_of.at_) fd
theorem tx_of {K : PySem.W.Frag} {h : Heap} {mg : Str → Option Value} (X : K.In h) (G : h.Ns mainGlobals mg) (c : He.SaysD fa fn K) : Tx K mg where
  g_PressError := He.glo_ok X G (c.fact 0 (f := .glo "PressError") rfl)
  x_PressError := He.exc_ok (c.fact 1 (f := .exc "PressError") rfl)
  g_BadShares := He.glo_ok X G (c.fact 2 (f := .glo "BadShares") rfl)
  x_BadShares := He.exc_ok (c.fact 3 (f := .exc "BadShares") rfl)
  g_MOST_BITS := He.int_ok X G (c.fact 4 (f := .int "MOST_BITS" 6) rfl)
  g_MOST_THINGS := He.int_ok X G (c.fact 5 (f := .int "MOST_THINGS" 300) rfl)
  g_MOST_COUNT := He.int_ok X G (c.fact 6 (f := .int "MOST_COUNT" 1000000) rfl)
  g_MOST_LENGTH := He.int_ok X G (c.fact 7 (f := .int "MOST_LENGTH" 12) rfl)
  g_is_between := He.glo_ok X G (c.fact 8 (f := .glo "is_between") rfl)
  g_need_counts := He.glo_ok X G (c.fact 9 (f := .glo "need_counts") rfl)
  g_weight_of := He.glo_ok X G (c.fact 10 (f := .glo "weight_of") rfl)
  g_by_twos := He.glo_ok X G (c.fact 11 (f := .glo "by_twos") rfl)
  g_lengths_of := He.glo_ok X G (c.fact 12 (f := .glo "lengths_of") rfl)
  g__law_cell_at := He.glo_ok X G (c.fact 13 (f := .glo "_law_cell_at") rfl)
  g__law_mixed := He.glo_ok X G (c.fact 14 (f := .glo "_law_mixed") rfl)
  g__law_is_number := He.glo_ok X G (c.fact 15 (f := .glo "_law_is_number") rfl)
  g__law_count := He.glo_ok X G (c.fact 16 (f := .glo "_law_count") rfl)
  g__law_counts := He.glo_ok X G (c.fact 17 (f := .glo "_law_counts") rfl)
  g__law_added := He.glo_ok X G (c.fact 18 (f := .glo "_law_added") rfl)
  g__law_less := He.glo_ok X G (c.fact 19 (f := .glo "_law_less") rfl)
  g__law_least := He.glo_ok X G (c.fact 20 (f := .glo "_law_least") rfl)
  g__law_enough := He.glo_ok X G (c.fact 21 (f := .glo "_law_enough") rfl)
  g__law_good := He.glo_ok X G (c.fact 22 (f := .glo "_law_good") rfl)
  g__law_alike_right := He.glo_ok X G (c.fact 23 (f := .glo "_law_alike_right") rfl)
  g_law := He.glo_ok X G (c.fact 24 (f := .glo "law") rfl)
  f_bool := He.free_ok X G (c.fact 25 (f := .free "bool") rfl)
  f_enumerate := He.free_ok X G (c.fact 26 (f := .free "enumerate") rfl)
  f_int := He.free_ok X G (c.fact 27 (f := .free "int") rfl)
  f_isinstance := He.free_ok X G (c.fact 28 (f := .free "isinstance") rfl)
  f_len := He.free_ok X G (c.fact 29 (f := .free "len") rfl)
  f_list := He.free_ok X G (c.fact 30 (f := .free "list") rfl)
  f_min := He.free_ok X G (c.fact 31 (f := .free "min") rfl)
  f_range := He.free_ok X G (c.fact 32 (f := .free "range") rfl)
  f_sorted := He.free_ok X G (c.fact 33 (f := .free "sorted") rfl)
  f_sum := He.free_ok X G (c.fact 34 (f := .free "sum") rfl)
  f_zip := He.free_ok X G (c.fact 35 (f := .free "zip") rfl)
  f_ValueError := He.free_ok X G (c.fact 36 (f := .free "ValueError") rfl)
  d_is_between := c.def_ 0 (d := d_is_between) rfl
  d_need_counts := c.def_ 1 (d := d_need_counts) rfl
  d_by_twos := c.def_ 3 (d := d_by_twos) rfl
  d_lengths_of := c.def_ 4 (d := d_lengths_of) rfl
  d__law_alike_right := c.def_ 15 (d := d__law_alike_right) rfl
  d__law_mixed := c.def_ 6 (d := d__law_mixed) rfl
  d__law_cell_at := c.def_ 5 (d := d__law_cell_at) rfl
  d__law_count := c.def_ 8 (d := d__law_count) rfl
  d__law_counts := c.def_ 9 (d := d__law_counts) rfl
  d__law_enough := c.def_ 13 (d := d__law_enough) rfl
  d__law_is_number := c.def_ 7 (d := d__law_is_number) rfl
  d__law_added := c.def_ 10 (d := d__law_added) rfl
  d__law_less := c.def_ 11 (d := d__law_less) rfl
  d__law_least := c.def_ 12 (d := d__law_least) rfl
  d__law_good := c.def_ 14 (d := d__law_good) rfl
  d_law := c.def_ 16 (d := d_law) rfl
  d_weight_of := c.def_ 2 (d := d_weight_of) rfl
theorem kf_weight_of {P : Program} {w : World} {K : PySem.W.Frag} {mg : Str → Option Value} (T : Tx K mg) : KeyFirst P w K (He.fAd K ("weight_of", none)) := by
  obtain ⟨fd, F⟩ := T.d_weight_of
  have S : FnScope ["bundle"] ["bundle"] (defScope s_weight_of) := ⟨rfl, rfl, rfl, by decide +kernel, rfl, by decide +kernel, by decide +kernel⟩
  have hv : (defScope s_weight_of).names.lookup ("bundle" : Str) = some NameKind.local := by decide +kernel
  exact FunD.keyFirst F (by kernel_rfl) S hv (FunD.bindsN F fun _ _ _ _ _ _ us hl => match us, hl with | [_], _ => rfl)
abbrev N_is_between : List Str := ["thing", "least", "most"]
theorem sc_is_between : FnScope N_is_between ["thing", "least", "most"] (defScope s_is_between) := ⟨rfl, rfl, rfl, by decide +kernel, rfl, by decide +kernel, by decide +kernel⟩
theorem wk_is_between {P : Program} {w : World} {K : PySem.W.Frag} {mg : Str → Option Value} {base : Heap} (T : Tx K mg)  {f : Addr} {cdv : Value} {A : Around} {outer : List Env} {s : Shared} {H : Hp} {E : XK} 
    (hr : Room 0 (A.deeper (envOfC "is_between" (defScope s_is_between) s.heap.objs.size f cdv))) :
    PSs (cxOf (L2N.CX P w) P w K mg base N_is_between "is_between" (defScope s_is_between) f cdv A outer s H E) (defBody s_is_between) (t_is_between K (fun c d _ H2 => E c d H2)) := by
  have hu1 := hu_of hr
  have hu64 := hr.units
  have tk : L2N.Takes (cxOf (L2N.CX P w) P w K mg base N_is_between "is_between" (defScope s_is_between) f cdv A outer s H E) (fun c d _ H2 => E c d H2) := L2N.takes_of rfl rfl rfl rfl
  exact (pss_one (ps_ret ((pe_and (pe_callB call_isi (by rfl) T.f_isinstance bb_isinstance (pa_cons (pv 0) (pa_cons (pe_bty rfl T.f_int bt_int) pa_nil))) (pe_and (pe_not (pe_callB call_isi (by rfl) T.f_isinstance bb_isinstance (pa_cons (pv 0) (pa_cons (pe_bty rfl T.f_bool bt_bool) pa_nil)))) (pe_one (pe_chain op_leU op_leU (pv 1) (pv 0) (pv 2))))))))
theorem fn_is_between {P : Program} {w : World} {K : PySem.W.Frag} {mg : Str → Option Value} {base : Heap} (T : Tx K mg) {f : Addr} {fd : FuncData} (F : FunD K d_is_between.name d_is_between.qual d_is_between.params d_is_between.body d_is_between.scope (d_is_between.dvs K) (d_is_between.kws K) f fd) :
    FnOk P w K mg base (L2N.CX P w) 1 f fd ["thing", "least", "most"] (sp_is_between K) :=
  F.ok sc_is_between (fun vs H Q E h => len_is_between h) (fun cdv A outer s H vs Q E hr h => ⟨t_is_between K (fun c d _ H2 => E c d H2), wk_is_between T  hr, rd_is_between  h⟩)
theorem ok_is_between_3 {P : Program} {w : World} {K : PySem.W.Frag} {mg : Str → Option Value} {base : Heap} (T : Tx K mg) : DOkN P w K mg base 1 (He.fAd K ("is_between", none)) ["thing", "least", "most"] [] (sp_is_between K) := by
  obtain ⟨fd, F⟩ := T.d_is_between
  exact ⟨fd, [], .nil, FunD.bindsN F fun _ _ _ _ _ _ us hl => match us, hl with | [_, _, _], _ => rfl, fn_is_between T F, F.kp⟩
abbrev N_need_counts : List Str := ["counts", "most", "count"]
theorem sc_need_counts : FnScope N_need_counts ["counts", "most"] (defScope s_need_counts) := ⟨rfl, rfl, rfl, by decide +kernel, rfl, by decide +kernel, by decide +kernel⟩
theorem wk_need_counts {P : Program} {w : World} {K : PySem.W.Frag} {mg : Str → Option Value} {base : Heap} (T : Tx K mg) (O0 : DOkN P w K mg base 1 (He.fAd K ("is_between", none)) ["thing", "least", "most"] [] (sp_is_between K)) {f : Addr} {cdv : Value} {A : Around} {outer : List Env} {s : Shared} {H : Hp} {E : XK} 
    (hr : Room 1 (A.deeper (envOfC "need_counts" (defScope s_need_counts) s.heap.objs.size f cdv))) :
    PSs (cxOf (L2N.CX P w) P w K mg base N_need_counts "need_counts" (defScope s_need_counts) f cdv A outer s H E) (defBody s_need_counts) (t_need_counts K (fun c d _ H2 => E c d H2)) := by
  obtain ⟨fd0, ds0, v0, b0, G0, q0⟩ := O0
  have hu1 := hu_of hr
  have hu64 := hr.units
  have tk : L2N.Takes (cxOf (L2N.CX P w) P w K mg base N_need_counts "need_counts" (defScope s_need_counts) f cdv A outer s H E) (fun c d _ H2 => E c d H2) := L2N.takes_of rfl rfl rfl rfl
  exact (pss_cons (ps_if (PW.pt (pw_or (pt_not (pt_val (pe_callB call_isi (by rfl) T.f_isinstance bb_isinstance (pa_cons (pv 0) (pa_cons (pe_bty rfl T.f_list bt_list) pa_nil))))) (pw_or1 (pt_not (pt_chain op_leU op_leU (pe_int) (pe_callB cr_lenK (by rfl) T.f_len bb_len (pa_cons (pv 0) pa_nil)) (pe_gint rfl T.g_MOST_THINGS)))))) (pss_one (ps_rzN rfl tk T.x_BadShares T.g_BadShares rfl)) pss_nil)
    (pss_cons (ps_for (passes_of rfl) rfl (pi_list (pv 0)) (pg_name (i := 2) sc_need_counts.nd rfl (Or.inl rfl)) (pss_one (ps_if (pt_not (pt_val (pe_clN G0 (hr.mono (by decide)) rfl T.g_is_between q0 b0 v0 tk (pa_cons (pv 2) (pa_cons (pe_int) (pa_cons (pe_gint rfl T.g_MOST_COUNT) pa_nil)))))) (pss_one (ps_rzN rfl tk T.x_BadShares T.g_BadShares rfl)) pss_nil)))
    (pss_cons (ps_if (pt_not (pt_val (pe_clN G0 (hr.mono (by decide)) rfl T.g_is_between q0 b0 v0 tk (pa_cons (pv 1) (pa_cons (pe_int) (pa_cons (pe_gint rfl T.g_MOST_LENGTH) pa_nil)))))) (pss_one (ps_rzN rfl tk T.x_BadShares T.g_BadShares rfl)) pss_nil)
    (pss_one (ps_if (pt_not (pt_chain op_leU op_leU (pe_int) (pe_callB cr_lenK (by rfl) T.f_len bb_len (pa_cons (pe_lc (own := [("count", 2)]) rfl sc_need_counts.nd (pi_list (pv 0)) (blkOk_by (own := [("count", 2)]) (N := N_need_counts) (sc := defScope s_need_counts) (by decide +kernel)) (fun _ _ _ _ _ => (pg_name (i := 2) sc_need_counts.nd rfl (Or.inl rfl))) (fun _ _ _ _ _ => pts_one (pt_cmpR op_gtU (pv 2) (pe_int) (nomark _))) (fun _ _ _ _ _ => (pv 2))) pa_nil)) (pe_op op_shlU (pe_int) (pv 1)))) (pss_one (ps_rzN rfl tk T.x_BadShares T.g_BadShares rfl)) pss_nil)))))
theorem fn_need_counts {P : Program} {w : World} {K : PySem.W.Frag} {mg : Str → Option Value} {base : Heap} (T : Tx K mg) {f : Addr} {fd : FuncData} (F : FunD K d_need_counts.name d_need_counts.qual d_need_counts.params d_need_counts.body d_need_counts.scope (d_need_counts.dvs K) (d_need_counts.kws K) f fd) :
    FnOk P w K mg base (L2N.CX P w) 2 f fd ["counts", "most"] (sp_need_counts K) :=
  F.ok sc_need_counts (fun vs H Q E h => len_need_counts h) (fun cdv A outer s H vs Q E hr h => ⟨t_need_counts K (fun c d _ H2 => E c d H2), wk_need_counts T (ok_is_between_3 T) hr, rd_need_counts  h⟩)
theorem ok_need_counts_2 {P : Program} {w : World} {K : PySem.W.Frag} {mg : Str → Option Value} {base : Heap} (T : Tx K mg) : DOkN P w K mg base 2 (He.fAd K ("need_counts", none)) ["counts", "most"] [] (sp_need_counts K) := by
  obtain ⟨fd, F⟩ := T.d_need_counts
  exact ⟨fd, [], .nil, FunD.bindsN F fun _ _ _ _ _ _ us hl => match us, hl with | [_, _], _ => rfl, fn_need_counts T F, F.kp⟩
abbrev N_by_twos : List Str := ["row", "found", "at"]
theorem sc_by_twos : FnScope N_by_twos ["row"] (defScope s_by_twos) := ⟨rfl, rfl, rfl, by decide +kernel, rfl, by decide +kernel, by decide +kernel⟩
theorem wk_by_twos {P : Program} {w : World} {K : PySem.W.Frag} {mg : Str → Option Value} {base : Heap} (T : Tx K mg)  {f : Addr} {cdv : Value} {A : Around} {outer : List Env} {s : Shared} {H : Hp} {E : XK} 
    (hr : Room 0 (A.deeper (envOfC "by_twos" (defScope s_by_twos) s.heap.objs.size f cdv))) :
    PSs (cxOf (L2N.CX P w) P w K mg base N_by_twos "by_twos" (defScope s_by_twos) f cdv A outer s H E) (defBody s_by_twos) (t_by_twos K (fun c d _ H2 => E c d H2)) := by
  have hu1 := hu_of hr
  have hu64 := hr.units
  have tk : L2N.Takes (cxOf (L2N.CX P w) P w K mg base N_by_twos "by_twos" (defScope s_by_twos) f cdv A outer s H E) (fun c d _ H2 => E c d H2) := L2N.takes_of rfl rfl rfl rfl
  exact (pss_cons (ps_set (i := 1) sc_by_twos.nd rfl (Or.inl rfl) (pe_lst pa_nil))
    (pss_cons (ps_for (passes_of rfl) rfl (pi_range3 rfl T.f_range (pa_cons (pe_int) (pa_cons (pe_op op_subU (pe_callB cr_lenK (by rfl) T.f_len bb_len (pa_cons (pv 0) pa_nil)) (pe_int)) (pa_cons (pe_int) pa_nil)))) (pg_name (i := 2) sc_by_twos.nd rfl (Or.inl rfl)) (pss_one (ps_expr (pe_bm PySem.F.plainAttrs_list PySem.F.slot_list_append PySem.F.type_list_append mt_append (pv 1) (pa_cons (pe_tup (pa_cons (pe_op op_addU (pe_ix ix_seq (pe_ix ix_seq (pv 0) (pv 2) (fun _ _ => rfl)) (pe_int) (fun _ _ => rfl)) (pe_ix ix_seq (pe_ix ix_seq (pv 0) (pe_op op_addU (pv 2) (pe_int)) (fun _ _ => rfl)) (pe_int) (fun _ _ => rfl))) (pa_cons (pe_op op_addU (pe_ix ix_seq (pe_ix ix_seq (pv 0) (pv 2) (fun _ _ => rfl)) (pe_int) (fun _ _ => rfl)) (pe_ix ix_seq (pe_ix ix_seq (pv 0) (pe_op op_addU (pv 2) (pe_int)) (fun _ _ => rfl)) (pe_int) (fun _ _ => rfl))) pa_nil))) pa_nil)))))
    (pss_one (ps_ret (pv 1)))))
theorem fn_by_twos {P : Program} {w : World} {K : PySem.W.Frag} {mg : Str → Option Value} {base : Heap} (T : Tx K mg) {f : Addr} {fd : FuncData} (F : FunD K d_by_twos.name d_by_twos.qual d_by_twos.params d_by_twos.body d_by_twos.scope (d_by_twos.dvs K) (d_by_twos.kws K) f fd) :
    FnOk P w K mg base (L2N.CX P w) 1 f fd ["row"] (sp_by_twos K) :=
  F.ok sc_by_twos (fun vs H Q E h => len_by_twos h) (fun cdv A outer s H vs Q E hr h => ⟨t_by_twos K (fun c d _ H2 => E c d H2), wk_by_twos T  hr, rd_by_twos  h⟩)
theorem ok_by_twos_1 {P : Program} {w : World} {K : PySem.W.Frag} {mg : Str → Option Value} {base : Heap} (T : Tx K mg) : DOkN P w K mg base 1 (He.fAd K ("by_twos", none)) ["row"] [] (sp_by_twos K) := by
  obtain ⟨fd, F⟩ := T.d_by_twos
  exact ⟨fd, [], .nil, FunD.bindsN F fun _ _ _ _ _ _ us hl => match us, hl with | [_], _ => rfl, fn_by_twos T F, F.kp⟩
abbrev N_lengths_of : List Str := ["counts", "most", "lengths", "place", "singles", "row", "depth", "bundle", "count"]
theorem sc_lengths_of : FnScope N_lengths_of ["counts", "most"] (defScope s_lengths_of) := ⟨rfl, rfl, rfl, by decide +kernel, rfl, by decide +kernel, by decide +kernel⟩
theorem wk_lengths_of {P : Program} {w : World} {K : PySem.W.Frag} {mg : Str → Option Value} {base : Heap} (T : Tx K mg) (O0 : DOkN P w K mg base 2 (He.fAd K ("need_counts", none)) ["counts", "most"] [] (sp_need_counts K)) (O1 : DOkN P w K mg base 1 (He.fAd K ("by_twos", none)) ["row"] [] (sp_by_twos K)) {f : Addr} {cdv : Value} {A : Around} {outer : List Env} {s : Shared} {H : Hp} {E : XK} 
    (hr : Room 2 (A.deeper (envOfC "lengths_of" (defScope s_lengths_of) s.heap.objs.size f cdv))) :
    PSs (cxOf (L2N.CX P w) P w K mg base N_lengths_of "lengths_of" (defScope s_lengths_of) f cdv A outer s H E) (defBody s_lengths_of) (t_lengths_of K (fun c d _ H2 => E c d H2)) := by
  obtain ⟨fd0, ds0, v0, b0, G0, q0⟩ := O0
  obtain ⟨fd1, ds1, v1, b1, G1, q1⟩ := O1
  have hu1 := hu_of hr
  have hu64 := hr.units
  have tk : L2N.Takes (cxOf (L2N.CX P w) P w K mg base N_lengths_of "lengths_of" (defScope s_lengths_of) f cdv A outer s H E) (fun c d _ H2 => E c d H2) := L2N.takes_of rfl rfl rfl rfl
  exact (pss_cons (ps_expr (pe_clN G0 (hr.mono (by decide)) rfl T.g_need_counts q0 b0 v0 tk (pa_cons (pv 0) (pa_cons (pv 1) pa_nil))))
    (pss_cons (ps_set (i := 2) sc_lengths_of.nd rfl (Or.inl rfl) (pe_op op_mulU (pe_lst (pa_cons (pe_int) pa_nil)) (pe_callB cr_lenK (by rfl) T.f_len bb_len (pa_cons (pv 0) pa_nil))))
    (pss_cons (ps_set (i := 4) sc_lengths_of.nd rfl (Or.inl rfl) (pe_callBK (cr_sortedKF (kf_weight_of T) (hr.mono (by decide))) rfl T.f_sorted bb_sorted (pa_cons (pe_lc (own := [("place", 3), ("count", 8)]) rfl sc_lengths_of.nd (pi_enum (by rfl) T.f_enumerate (pa_cons (pv 0) pa_nil)) (blkOk_by (own := [("place", 3), ("count", 8)]) (N := N_lengths_of) (sc := defScope s_lengths_of) (by decide +kernel)) (fun _ _ _ _ _ => (pg_tup rfl (pgs_cons (pg_name (i := 3) sc_lengths_of.nd rfl (Or.inl rfl)) (pgs_cons (pg_name (i := 8) sc_lengths_of.nd rfl (Or.inl rfl)) pgs_nil)))) (fun _ _ _ _ _ => pts_one (pt_cmpR op_gtU (pv 8) (pe_int) (nomark _))) (fun _ _ _ _ _ => (pe_tup (pa_cons (pv 8) (pa_cons (pe_lst (pa_cons (pv 3) pa_nil)) pa_nil))))) pa_nil) (pk_cons (pe_gref rfl T.g_weight_of) pk_nil)))
    (pss_cons (ps_if (pt_cmpR (op_eqU hu64) (pe_callB cr_lenK (by rfl) T.f_len bb_len (pa_cons (pv 4) pa_nil)) (pe_int) (nomark _)) (pss_cons (ps_asg (pe_int) (pg_sub (pv 2) (pe_ix ix_seq (pe_ix ix_seq (pe_ix ix_seq (pv 4) (pe_int) (fun _ _ => rfl)) (pe_int) (fun _ _ => rfl)) (pe_int) (fun _ _ => rfl)) set_list))
    (pss_one (ps_ret (pv 2)))) pss_nil)
    (pss_cons (ps_set (i := 5) sc_lengths_of.nd rfl (Or.inl rfl) (pv 4))
    (pss_cons (ps_for (passes_of rfl) rfl (pi_range2 rfl T.f_range (pa_cons (pe_int) (pa_cons (pv 1) pa_nil))) (pg_name (i := 6) sc_lengths_of.nd rfl (Or.inl rfl)) (pss_one (ps_set (i := 5) sc_lengths_of.nd rfl (Or.inl rfl) (pe_callBK (cr_sortedKF (kf_weight_of T) (hr.mono (by decide))) rfl T.f_sorted bb_sorted (pa_cons (pe_op op_addU (pv 4) (pe_clN G1 (hr.mono (by decide)) rfl T.g_by_twos q1 b1 v1 tk (pa_cons (pv 5) pa_nil))) pa_nil) (pk_cons (pe_gref rfl T.g_weight_of) pk_nil)))))
    (pss_cons (ps_for (passes_of rfl) rfl (pi_list (pe_slice sl_K (pv 5) po_none (po_some (pe_op op_subU (pe_op op_mulU (pe_int) (pe_callB cr_lenK (by rfl) T.f_len bb_len (pa_cons (pv 4) pa_nil))) (pe_int))))) (pg_name (i := 7) sc_lengths_of.nd rfl (Or.inl rfl)) (pss_one (ps_for (passes_of rfl) rfl (pi_list (pe_ix ix_seq (pv 7) (pe_int) (fun _ _ => rfl))) (pg_name (i := 3) sc_lengths_of.nd rfl (Or.inl rfl)) (pss_one (ps_augS (pv 2) (pv 3) getl (pe_int) ip_addU set_list)))))
    (pss_one (ps_ret (pv 2))))))))))
theorem fn_lengths_of {P : Program} {w : World} {K : PySem.W.Frag} {mg : Str → Option Value} {base : Heap} (T : Tx K mg) {f : Addr} {fd : FuncData} (F : FunD K d_lengths_of.name d_lengths_of.qual d_lengths_of.params d_lengths_of.body d_lengths_of.scope (d_lengths_of.dvs K) (d_lengths_of.kws K) f fd) :
    FnOk P w K mg base (L2N.CX P w) 3 f fd ["counts", "most"] (sp_lengths_of K) :=
  F.ok sc_lengths_of (fun vs H Q E h => len_lengths_of h) (fun cdv A outer s H vs Q E hr h => ⟨t_lengths_of K (fun c d _ H2 => E c d H2), wk_lengths_of T (ok_need_counts_2 T) (ok_by_twos_1 T) hr, rd_lengths_of  h⟩)
theorem ok_lengths_of_1 {P : Program} {w : World} {K : PySem.W.Frag} {mg : Str → Option Value} {base : Heap} (T : Tx K mg) : DOkN P w K mg base 3 (He.fAd K ("lengths_of", none)) ["counts", "most"] [.int 6] (sp_lengths_of K) := by
  obtain ⟨fd, F⟩ := T.d_lengths_of
  obtain ⟨ds, v, b⟩ := FunD.binds1 (ps := ["counts", "most"]) F 1 0 (by intro z; cases z) (by rfl) fun T kV doc pm an cdv ct us its hl hi => match us, hl, its, hi with | [_], _, [_], _ => ⟨_, rfl, rfl⟩
  exact ⟨fd, ds, v, b, fn_lengths_of T F, F.kp⟩
theorem ok_lengths_of_2 {P : Program} {w : World} {K : PySem.W.Frag} {mg : Str → Option Value} {base : Heap} (T : Tx K mg) : DOkN P w K mg base 3 (He.fAd K ("lengths_of", none)) ["counts", "most"] [] (sp_lengths_of K) := by
  obtain ⟨fd, F⟩ := T.d_lengths_of
  obtain ⟨ds, v, b⟩ := FunD.binds1 (ps := ["counts", "most"]) F 2 1 (by intro z; cases z) (by rfl) fun T kV doc pm an cdv ct us its hl hi => match us, hl, its, hi with | [_, _], _, [_], _ => ⟨_, rfl, rfl⟩
  exact ⟨fd, ds, v, b, fn_lengths_of T F, F.kp⟩
abbrev N__law_alike_right : List Str := ["_law_cell", "_law_bits", "_law_many", "_law_count_here", "_law_told"]
theorem sc__law_alike_right : FnScope N__law_alike_right ["_law_cell"] (defScope s__law_alike_right) := ⟨rfl, rfl, rfl, by decide +kernel, rfl, by decide +kernel, by decide +kernel⟩
theorem wk__law_alike_right {P : Program} {w : World} {K : PySem.W.Frag} {mg : Str → Option Value} {base : Heap} (T : Tx K mg) (O0 : DOkN P w K mg base 3 (He.fAd K ("lengths_of", none)) ["counts", "most"] [] (sp_lengths_of K)) (O1 : DOkN P w K mg base 3 (He.fAd K ("lengths_of", none)) ["counts", "most"] [.int 6] (sp_lengths_of K)) {f : Addr} {cdv : Value} {A : Around} {outer : List Env} {s : Shared} {H : Hp} {E : XK} 
    (hr : Room 3 (A.deeper (envOfC "_law_alike_right" (defScope s__law_alike_right) s.heap.objs.size f cdv))) :
    PSs (cxOf (L2N.CX P w) P w K mg base N__law_alike_right "_law_alike_right" (defScope s__law_alike_right) f cdv A outer s H E) (defBody s__law_alike_right) (t__law_alike_right K (fun c d _ H2 => E c d H2)) := by
  obtain ⟨fd0, ds0, v0, b0, G0, q0⟩ := O0
  obtain ⟨fd1, ds1, v1, b1, G1, q1⟩ := O1
  have hu1 := hu_of hr
  have hu64 := hr.units
  have tk : L2N.Takes (cxOf (L2N.CX P w) P w K mg base N__law_alike_right "_law_alike_right" (defScope s__law_alike_right) f cdv A outer s H E) (fun c d _ H2 => E c d H2) := L2N.takes_of rfl rfl rfl rfl
  exact (pss_cons (ps_set (i := 1) sc__law_alike_right.nd rfl (Or.inl rfl) (pe_op op_addU (pe_int) (pe_op op_modU (pv 0) (pe_int))))
    (pss_cons (ps_set (i := 2) sc__law_alike_right.nd rfl (Or.inl rfl) (pe_op op_shlU (pe_int) (pv 1)))
    (pss_cons (ps_set (i := 3) sc__law_alike_right.nd rfl (Or.inl rfl) (pe_op op_addU (pe_int) (pe_op op_modU (pe_op op_divU (pv 0) (pe_int)) (pe_int))))
    (pss_cons (ps_if (pt_cmpR (op_neU hu64) (pe_clN G0 (hr.mono (by decide)) rfl T.g_lengths_of q0 b0 v0 tk (pa_cons (pe_op op_mulU (pe_lst (pa_cons (pv 3) pa_nil)) (pv 2)) (pa_cons (pe_op op_addU (pv 1) (pe_op op_modU (pe_op op_divU (pv 0) (pe_int)) (pe_op op_subU (pe_int) (pv 1)))) pa_nil))) (pe_op op_mulU (pe_lst (pa_cons (pv 1) pa_nil)) (pv 2)) (nomark _)) (pss_one (ps_ret (pe_bl))) pss_nil)
    (pss_cons (ps_set (i := 4) sc__law_alike_right.nd rfl (Or.inl rfl) (pe_clN G1 (hr.mono (by decide)) rfl T.g_lengths_of q1 b1 v1 tk (pa_cons (pe_op op_mulU (pe_lst (pa_cons (pv 3) pa_nil)) (pe_op op_addU (pv 2) (pe_int))) pa_nil)))
    (pss_one (ps_ret ((pe_and (pe_cmpR (op_eqU hu64) (pe_callB cr_lenK (by rfl) T.f_len bb_len (pa_cons (pv 4) pa_nil)) (pe_op op_addU (pv 2) (pe_int)) (nomark _)) (pe_one (pe_cmpR (op_eqU hu64) (pe_callB cr_sortedI (by rfl) T.f_sorted bb_sorted (pa_cons (pv 4) pa_nil)) (pe_op op_addU (pe_op op_mulU (pe_lst (pa_cons (pv 1) pa_nil)) (pe_op op_subU (pv 2) (pe_int))) (pe_op op_mulU (pe_lst (pa_cons (pe_op op_addU (pv 1) (pe_int)) pa_nil)) (pe_int))) (nomark _))))))))))))
theorem fn__law_alike_right {P : Program} {w : World} {K : PySem.W.Frag} {mg : Str → Option Value} {base : Heap} (T : Tx K mg) {f : Addr} {fd : FuncData} (F : FunD K d__law_alike_right.name d__law_alike_right.qual d__law_alike_right.params d__law_alike_right.body d__law_alike_right.scope (d__law_alike_right.dvs K) (d__law_alike_right.kws K) f fd) :
    FnOk P w K mg base (L2N.CX P w) 4 f fd ["_law_cell"] (sp__law_alike_right K) :=
  F.ok sc__law_alike_right (fun vs H Q E h => len__law_alike_right h) (fun cdv A outer s H vs Q E hr h => ⟨t__law_alike_right K (fun c d _ H2 => E c d H2), wk__law_alike_right T (ok_lengths_of_2 T) (ok_lengths_of_1 T) hr, rd__law_alike_right  h⟩)
theorem ok__law_alike_right_1 {P : Program} {w : World} {K : PySem.W.Frag} {mg : Str → Option Value} {base : Heap} (T : Tx K mg) : DOkN P w K mg base 4 (He.fAd K ("_law_alike_right", none)) ["_law_cell"] [] (sp__law_alike_right K) := by
  obtain ⟨fd, F⟩ := T.d__law_alike_right
  exact ⟨fd, [], .nil, FunD.bindsN F fun _ _ _ _ _ _ us hl => match us, hl with | [_], _ => rfl, fn__law_alike_right T F, F.kp⟩
abbrev N__law_mixed : List Str := ["_law_cell", "_law_k"]
theorem sc__law_mixed : FnScope N__law_mixed ["_law_cell", "_law_k"] (defScope s__law_mixed) := ⟨rfl, rfl, rfl, by decide +kernel, rfl, by decide +kernel, by decide +kernel⟩
theorem wk__law_mixed {P : Program} {w : World} {K : PySem.W.Frag} {mg : Str → Option Value} {base : Heap} (T : Tx K mg)  {f : Addr} {cdv : Value} {A : Around} {outer : List Env} {s : Shared} {H : Hp} {E : XK} 
    (hr : Room 0 (A.deeper (envOfC "_law_mixed" (defScope s__law_mixed) s.heap.objs.size f cdv))) :
    PSs (cxOf (L2N.CX P w) P w K mg base N__law_mixed "_law_mixed" (defScope s__law_mixed) f cdv A outer s H E) (defBody s__law_mixed) (t__law_mixed K (fun c d _ H2 => E c d H2)) := by
  have hu1 := hu_of hr
  have hu64 := hr.units
  have tk : L2N.Takes (cxOf (L2N.CX P w) P w K mg base N__law_mixed "_law_mixed" (defScope s__law_mixed) f cdv A outer s H E) (fun c d _ H2 => E c d H2) := L2N.takes_of rfl rfl rfl rfl
  exact (pss_one (ps_ret (pe_op op_modU (pe_op op_mulU (pe_op op_modU (pe_op op_mulU (pe_op op_addU (pe_op op_addU (pv 0) (pe_op op_mulU (pe_op op_mulU (pe_int) (pv 1)) (pv 1))) (pe_op op_mulU (pe_int) (pv 1))) (pe_int)) (pe_int)) (pe_int)) (pe_int))))
theorem fn__law_mixed {P : Program} {w : World} {K : PySem.W.Frag} {mg : Str → Option Value} {base : Heap} (T : Tx K mg) {f : Addr} {fd : FuncData} (F : FunD K d__law_mixed.name d__law_mixed.qual d__law_mixed.params d__law_mixed.body d__law_mixed.scope (d__law_mixed.dvs K) (d__law_mixed.kws K) f fd) :
    FnOk P w K mg base (L2N.CX P w) 1 f fd ["_law_cell", "_law_k"] (sp__law_mixed K) :=
  F.ok sc__law_mixed (fun vs H Q E h => len__law_mixed h) (fun cdv A outer s H vs Q E hr h => ⟨t__law_mixed K (fun c d _ H2 => E c d H2), wk__law_mixed T  hr, rd__law_mixed  h⟩)
theorem ok__law_mixed_2 {P : Program} {w : World} {K : PySem.W.Frag} {mg : Str → Option Value} {base : Heap} (T : Tx K mg) : DOkN P w K mg base 1 (He.fAd K ("_law_mixed", none)) ["_law_cell", "_law_k"] [] (sp__law_mixed K) := by
  obtain ⟨fd, F⟩ := T.d__law_mixed
  exact ⟨fd, [], .nil, FunD.bindsN F fun _ _ _ _ _ _ us hl => match us, hl with | [_, _], _ => rfl, fn__law_mixed T F, F.kp⟩
abbrev N__law_cell_at : List Str := ["_law_script", "_law_k"]
theorem sc__law_cell_at : FnScope N__law_cell_at ["_law_script", "_law_k"] (defScope s__law_cell_at) := ⟨rfl, rfl, rfl, by decide +kernel, rfl, by decide +kernel, by decide +kernel⟩
theorem wk__law_cell_at {P : Program} {w : World} {K : PySem.W.Frag} {mg : Str → Option Value} {base : Heap} (T : Tx K mg)  {f : Addr} {cdv : Value} {A : Around} {outer : List Env} {s : Shared} {H : Hp} {E : XK} 
    (hr : Room 0 (A.deeper (envOfC "_law_cell_at" (defScope s__law_cell_at) s.heap.objs.size f cdv))) :
    PSs (cxOf (L2N.CX P w) P w K mg base N__law_cell_at "_law_cell_at" (defScope s__law_cell_at) f cdv A outer s H E) (defBody s__law_cell_at) (t__law_cell_at K (fun c d _ H2 => E c d H2)) := by
  have hu1 := hu_of hr
  have hu64 := hr.units
  have tk : L2N.Takes (cxOf (L2N.CX P w) P w K mg base N__law_cell_at "_law_cell_at" (defScope s__law_cell_at) f cdv A outer s H E) (fun c d _ H2 => E c d H2) := L2N.takes_of rfl rfl rfl rfl
  exact (pss_cons (ps_if (pt_cmpR op_ltU (pv 1) (pe_callB cr_lenK (by rfl) T.f_len bb_len (pa_cons (pv 0) pa_nil)) (nomark _)) (pss_one (ps_ret (pe_ix ix_seq (pv 0) (pv 1) (fun _ _ => rfl)))) pss_nil)
    (pss_one (ps_ret (pe_int))))
theorem fn__law_cell_at {P : Program} {w : World} {K : PySem.W.Frag} {mg : Str → Option Value} {base : Heap} (T : Tx K mg) {f : Addr} {fd : FuncData} (F : FunD K d__law_cell_at.name d__law_cell_at.qual d__law_cell_at.params d__law_cell_at.body d__law_cell_at.scope (d__law_cell_at.dvs K) (d__law_cell_at.kws K) f fd) :
    FnOk P w K mg base (L2N.CX P w) 1 f fd ["_law_script", "_law_k"] (sp__law_cell_at K) :=
  F.ok sc__law_cell_at (fun vs H Q E h => len__law_cell_at h) (fun cdv A outer s H vs Q E hr h => ⟨t__law_cell_at K (fun c d _ H2 => E c d H2), wk__law_cell_at T  hr, rd__law_cell_at  h⟩)
theorem ok__law_cell_at_2 {P : Program} {w : World} {K : PySem.W.Frag} {mg : Str → Option Value} {base : Heap} (T : Tx K mg) : DOkN P w K mg base 1 (He.fAd K ("_law_cell_at", none)) ["_law_script", "_law_k"] [] (sp__law_cell_at K) := by
  obtain ⟨fd, F⟩ := T.d__law_cell_at
  exact ⟨fd, [], .nil, FunD.bindsN F fun _ _ _ _ _ _ us hl => match us, hl with | [_, _], _ => rfl, fn__law_cell_at T F, F.kp⟩
abbrev N__law_count : List Str := ["_law_cell", "_law_kind"]
theorem sc__law_count : FnScope N__law_count ["_law_cell"] (defScope s__law_count) := ⟨rfl, rfl, rfl, by decide +kernel, rfl, by decide +kernel, by decide +kernel⟩
theorem wk__law_count {P : Program} {w : World} {K : PySem.W.Frag} {mg : Str → Option Value} {base : Heap} (T : Tx K mg)  {f : Addr} {cdv : Value} {A : Around} {outer : List Env} {s : Shared} {H : Hp} {E : XK} 
    (hr : Room 0 (A.deeper (envOfC "_law_count" (defScope s__law_count) s.heap.objs.size f cdv))) :
    PSs (cxOf (L2N.CX P w) P w K mg base N__law_count "_law_count" (defScope s__law_count) f cdv A outer s H E) (defBody s__law_count) (t__law_count K (fun c d _ H2 => E c d H2)) := by
  have hu1 := hu_of hr
  have hu64 := hr.units
  have tk : L2N.Takes (cxOf (L2N.CX P w) P w K mg base N__law_count "_law_count" (defScope s__law_count) f cdv A outer s H E) (fun c d _ H2 => E c d H2) := L2N.takes_of rfl rfl rfl rfl
  exact (pss_cons (ps_set (i := 1) sc__law_count.nd rfl (Or.inl rfl) (pe_op op_modU (pv 0) (pe_int)))
    (pss_cons (ps_if (pt_cmpR op_ltU (pv 1) (pe_int) (nomark _)) (pss_one (ps_ret (pe_int))) pss_nil)
    (pss_cons (ps_if (pt_cmpR (op_eqU hu64) (pv 1) (pe_int) (nomark _)) (pss_one (ps_ret (pe_int))) pss_nil)
    (pss_cons (ps_if (pt_cmpR (op_eqU hu64) (pv 1) (pe_int) (nomark _)) (pss_one (ps_ret (pe_ix ix_seq (pe_lst (pa_cons (pe_int) (pa_cons (pe_int) (pa_cons (pe_int) (pa_cons (pe_int) (pa_cons (pe_int) (pa_cons (pe_int) (pa_cons (pe_int) (pa_cons (pe_int) (pa_cons (pe_int) (pa_cons (pe_int) (pa_cons (pe_int) (pa_cons (pe_int) pa_nil))))))))))))) (pe_op op_modU (pe_op op_divU (pv 0) (pe_int)) (pe_int)) (fun _ _ => rfl)))) pss_nil)
    (pss_cons (ps_if (pt_cmpR (op_eqU hu64) (pv 1) (pe_int) (nomark _)) (pss_one (ps_ret (pe_op op_subU (pe_int) (pe_op op_modU (pe_op op_divU (pv 0) (pe_int)) (pe_int))))) pss_nil)
    (pss_cons (ps_if (pt_cmpR (op_eqU hu64) (pv 1) (pe_int) (nomark _)) (pss_one (ps_ret (pe_op op_addU (pe_int) (pe_op op_modU (pe_op op_divU (pv 0) (pe_int)) (pe_int))))) pss_nil)
    (pss_one (ps_ret (pe_op op_addU (pe_int) (pe_op op_modU (pe_op op_divU (pv 0) (pe_int)) (pe_int)))))))))))
theorem fn__law_count {P : Program} {w : World} {K : PySem.W.Frag} {mg : Str → Option Value} {base : Heap} (T : Tx K mg) {f : Addr} {fd : FuncData} (F : FunD K d__law_count.name d__law_count.qual d__law_count.params d__law_count.body d__law_count.scope (d__law_count.dvs K) (d__law_count.kws K) f fd) :
    FnOk P w K mg base (L2N.CX P w) 1 f fd ["_law_cell"] (sp__law_count K) :=
  F.ok sc__law_count (fun vs H Q E h => len__law_count h) (fun cdv A outer s H vs Q E hr h => ⟨t__law_count K (fun c d _ H2 => E c d H2), wk__law_count T  hr, rd__law_count  h⟩)
theorem ok__law_count_1 {P : Program} {w : World} {K : PySem.W.Frag} {mg : Str → Option Value} {base : Heap} (T : Tx K mg) : DOkN P w K mg base 1 (He.fAd K ("_law_count", none)) ["_law_cell"] [] (sp__law_count K) := by
  obtain ⟨fd, F⟩ := T.d__law_count
  exact ⟨fd, [], .nil, FunD.bindsN F fun _ _ _ _ _ _ us hl => match us, hl with | [_], _ => rfl, fn__law_count T F, F.kp⟩
abbrev N__law_counts : List Str := ["_law_script", "_law_many", "_law_counts_here", "_law_k"]
theorem sc__law_counts : FnScope N__law_counts ["_law_script", "_law_many"] (defScope s__law_counts) := ⟨rfl, rfl, rfl, by decide +kernel, rfl, by decide +kernel, by decide +kernel⟩
theorem wk__law_counts {P : Program} {w : World} {K : PySem.W.Frag} {mg : Str → Option Value} {base : Heap} (T : Tx K mg) (O0 : DOkN P w K mg base 1 (He.fAd K ("_law_count", none)) ["_law_cell"] [] (sp__law_count K)) (O1 : DOkN P w K mg base 1 (He.fAd K ("_law_mixed", none)) ["_law_cell", "_law_k"] [] (sp__law_mixed K)) (O2 : DOkN P w K mg base 1 (He.fAd K ("_law_cell_at", none)) ["_law_script", "_law_k"] [] (sp__law_cell_at K)) {f : Addr} {cdv : Value} {A : Around} {outer : List Env} {s : Shared} {H : Hp} {E : XK} 
    (hr : Room 1 (A.deeper (envOfC "_law_counts" (defScope s__law_counts) s.heap.objs.size f cdv))) :
    PSs (cxOf (L2N.CX P w) P w K mg base N__law_counts "_law_counts" (defScope s__law_counts) f cdv A outer s H E) (defBody s__law_counts) (t__law_counts K (fun c d _ H2 => E c d H2)) := by
  obtain ⟨fd0, ds0, v0, b0, G0, q0⟩ := O0
  obtain ⟨fd1, ds1, v1, b1, G1, q1⟩ := O1
  obtain ⟨fd2, ds2, v2, b2, G2, q2⟩ := O2
  have hu1 := hu_of hr
  have hu64 := hr.units
  have tk : L2N.Takes (cxOf (L2N.CX P w) P w K mg base N__law_counts "_law_counts" (defScope s__law_counts) f cdv A outer s H E) (fun c d _ H2 => E c d H2) := L2N.takes_of rfl rfl rfl rfl
  exact (pss_cons (ps_setLc (i := 2) (own := [("_law_k", 3)]) rfl sc__law_counts.nd rfl rfl (sw_true rfl rfl rfl (by decide +kernel)) (pi_range1 rfl T.f_range (pa_cons (pv 1) pa_nil)) (blkOk_by (own := [("_law_k", 3)]) (N := N__law_counts) (sc := defScope s__law_counts) (by decide +kernel)) (fun _ _ _ _ _ => (pg_name (i := 3) sc__law_counts.nd rfl (Or.inl rfl))) (fun _ _ _ _ _ => pts_nil) (fun _ _ _ _ _ => (pe_clN G0 (hr.mono (by decide)) rfl T.g__law_count q0 b0 v0 takes0N (pa_cons (pe_clN G1 (hr.mono (by decide)) rfl T.g__law_mixed q1 b1 v1 takes0N (pa_cons (pe_clN G2 (hr.mono (by decide)) rfl T.g__law_cell_at q2 b2 v2 takes0N (pa_cons (pv 0) (pa_cons (pe_op op_addU (pe_int) (pe_op op_modU (pv 3) (pe_int))) pa_nil))) (pa_cons (pv 3) pa_nil))) pa_nil))))
    (pss_cons (ps_if (pt_cmpR (op_eqU hu64) (pe_bm PySem.F.plainAttrs_list PySem.F.slot_list_count PySem.F.type_list_count mt_lcount (pv 2) (pa_cons (pe_int) pa_nil)) (pv 1) (nomark _)) (pss_one (ps_asg (pe_op op_addU (pe_int) (pe_op op_modU (pe_clN G2 (hr.mono (by decide)) rfl T.g__law_cell_at q2 b2 v2 tk (pa_cons (pv 0) (pa_cons (pe_int) pa_nil))) (pe_int))) (pg_sub (pv 2) (pe_op op_modU (pe_clN G2 (hr.mono (by decide)) rfl T.g__law_cell_at q2 b2 v2 tk (pa_cons (pv 0) (pa_cons (pe_int) pa_nil))) (pv 1)) set_list))) pss_nil)
    (pss_one (ps_ret (pv 2)))))
theorem fn__law_counts {P : Program} {w : World} {K : PySem.W.Frag} {mg : Str → Option Value} {base : Heap} (T : Tx K mg) {f : Addr} {fd : FuncData} (F : FunD K d__law_counts.name d__law_counts.qual d__law_counts.params d__law_counts.body d__law_counts.scope (d__law_counts.dvs K) (d__law_counts.kws K) f fd) :
    FnOk P w K mg base (L2N.CX P w) 2 f fd ["_law_script", "_law_many"] (sp__law_counts K) :=
  F.ok sc__law_counts (fun vs H Q E h => len__law_counts h) (fun cdv A outer s H vs Q E hr h => ⟨t__law_counts K (fun c d _ H2 => E c d H2), wk__law_counts T (ok__law_count_1 T) (ok__law_mixed_2 T) (ok__law_cell_at_2 T) hr, rd__law_counts  h⟩)
theorem ok__law_counts_2 {P : Program} {w : World} {K : PySem.W.Frag} {mg : Str → Option Value} {base : Heap} (T : Tx K mg) : DOkN P w K mg base 2 (He.fAd K ("_law_counts", none)) ["_law_script", "_law_many"] [] (sp__law_counts K) := by
  obtain ⟨fd, F⟩ := T.d__law_counts
  exact ⟨fd, [], .nil, FunD.bindsN F fun _ _ _ _ _ _ us hl => match us, hl with | [_, _], _ => rfl, fn__law_counts T F, F.kp⟩
abbrev N__law_enough : List Str := ["_law_many", "_law_enough_here"]
theorem sc__law_enough : FnScope N__law_enough ["_law_many"] (defScope s__law_enough) := ⟨rfl, rfl, rfl, by decide +kernel, rfl, by decide +kernel, by decide +kernel⟩
theorem wk__law_enough {P : Program} {w : World} {K : PySem.W.Frag} {mg : Str → Option Value} {base : Heap} (T : Tx K mg)  {f : Addr} {cdv : Value} {A : Around} {outer : List Env} {s : Shared} {H : Hp} {E : XK} 
    (hr : Room 0 (A.deeper (envOfC "_law_enough" (defScope s__law_enough) s.heap.objs.size f cdv))) :
    PSs (cxOf (L2N.CX P w) P w K mg base N__law_enough "_law_enough" (defScope s__law_enough) f cdv A outer s H E) (defBody s__law_enough) (t__law_enough K (fun c d _ H2 => E c d H2)) := by
  have hu1 := hu_of hr
  have hu64 := hr.units
  have tk : L2N.Takes (cxOf (L2N.CX P w) P w K mg base N__law_enough "_law_enough" (defScope s__law_enough) f cdv A outer s H E) (fun c d _ H2 => E c d H2) := L2N.takes_of rfl rfl rfl rfl
  exact (pss_cons (ps_set (i := 1) sc__law_enough.nd rfl (Or.inl rfl) (pe_int))
    (pss_cons (ps_while (passes_of rfl) (pt_cmpR op_ltU (pe_op op_shlU (pe_int) (pv 1)) (pv 0) (nomark _)) (pss_one (ps_set (i := 1) sc__law_enough.nd rfl (Or.inl rfl) (pe_op op_addU (pv 1) (pe_int)))))
    (pss_one (ps_ret (pv 1)))))
theorem fn__law_enough {P : Program} {w : World} {K : PySem.W.Frag} {mg : Str → Option Value} {base : Heap} (T : Tx K mg) {f : Addr} {fd : FuncData} (F : FunD K d__law_enough.name d__law_enough.qual d__law_enough.params d__law_enough.body d__law_enough.scope (d__law_enough.dvs K) (d__law_enough.kws K) f fd) :
    FnOk P w K mg base (L2N.CX P w) 1 f fd ["_law_many"] (sp__law_enough K) :=
  F.ok sc__law_enough (fun vs H Q E h => len__law_enough h) (fun cdv A outer s H vs Q E hr h => ⟨t__law_enough K (fun c d _ H2 => E c d H2), wk__law_enough T  hr, rd__law_enough  h⟩)
theorem ok__law_enough_1 {P : Program} {w : World} {K : PySem.W.Frag} {mg : Str → Option Value} {base : Heap} (T : Tx K mg) : DOkN P w K mg base 1 (He.fAd K ("_law_enough", none)) ["_law_many"] [] (sp__law_enough K) := by
  obtain ⟨fd, F⟩ := T.d__law_enough
  exact ⟨fd, [], .nil, FunD.bindsN F fun _ _ _ _ _ _ us hl => match us, hl with | [_], _ => rfl, fn__law_enough T F, F.kp⟩
abbrev N__law_is_number : List Str := ["_law_thing"]
theorem sc__law_is_number : FnScope N__law_is_number ["_law_thing"] (defScope s__law_is_number) := ⟨rfl, rfl, rfl, by decide +kernel, rfl, by decide +kernel, by decide +kernel⟩
theorem wk__law_is_number {P : Program} {w : World} {K : PySem.W.Frag} {mg : Str → Option Value} {base : Heap} (T : Tx K mg)  {f : Addr} {cdv : Value} {A : Around} {outer : List Env} {s : Shared} {H : Hp} {E : XK} 
    (hr : Room 0 (A.deeper (envOfC "_law_is_number" (defScope s__law_is_number) s.heap.objs.size f cdv))) :
    PSs (cxOf (L2N.CX P w) P w K mg base N__law_is_number "_law_is_number" (defScope s__law_is_number) f cdv A outer s H E) (defBody s__law_is_number) (t__law_is_number K (fun c d _ H2 => E c d H2)) := by
  have hu1 := hu_of hr
  have hu64 := hr.units
  have tk : L2N.Takes (cxOf (L2N.CX P w) P w K mg base N__law_is_number "_law_is_number" (defScope s__law_is_number) f cdv A outer s H E) (fun c d _ H2 => E c d H2) := L2N.takes_of rfl rfl rfl rfl
  exact (pss_one (ps_ret ((pe_and (pe_callB call_isi (by rfl) T.f_isinstance bb_isinstance (pa_cons (pv 0) (pa_cons (pe_bty rfl T.f_int bt_int) pa_nil))) (pe_one (pe_not (pe_callB call_isi (by rfl) T.f_isinstance bb_isinstance (pa_cons (pv 0) (pa_cons (pe_bty rfl T.f_bool bt_bool) pa_nil)))))))))
theorem fn__law_is_number {P : Program} {w : World} {K : PySem.W.Frag} {mg : Str → Option Value} {base : Heap} (T : Tx K mg) {f : Addr} {fd : FuncData} (F : FunD K d__law_is_number.name d__law_is_number.qual d__law_is_number.params d__law_is_number.body d__law_is_number.scope (d__law_is_number.dvs K) (d__law_is_number.kws K) f fd) :
    FnOk P w K mg base (L2N.CX P w) 1 f fd ["_law_thing"] (sp__law_is_number K) :=
  F.ok sc__law_is_number (fun vs H Q E h => len__law_is_number h) (fun cdv A outer s H vs Q E hr h => ⟨t__law_is_number K (fun c d _ H2 => E c d H2), wk__law_is_number T  hr, rd__law_is_number  h⟩)
theorem ok__law_is_number_1 {P : Program} {w : World} {K : PySem.W.Frag} {mg : Str → Option Value} {base : Heap} (T : Tx K mg) : DOkN P w K mg base 1 (He.fAd K ("_law_is_number", none)) ["_law_thing"] [] (sp__law_is_number K) := by
  obtain ⟨fd, F⟩ := T.d__law_is_number
  exact ⟨fd, [], .nil, FunD.bindsN F fun _ _ _ _ _ _ us hl => match us, hl with | [_], _ => rfl, fn__law_is_number T F, F.kp⟩
abbrev N__law_added : List Str := ["_law_one", "_law_other"]
theorem sc__law_added : FnScope N__law_added ["_law_one", "_law_other"] (defScope s__law_added) := ⟨rfl, rfl, rfl, by decide +kernel, rfl, by decide +kernel, by decide +kernel⟩
theorem wk__law_added {P : Program} {w : World} {K : PySem.W.Frag} {mg : Str → Option Value} {base : Heap} (T : Tx K mg)  {f : Addr} {cdv : Value} {A : Around} {outer : List Env} {s : Shared} {H : Hp} {E : XK} 
    (hr : Room 0 (A.deeper (envOfC "_law_added" (defScope s__law_added) s.heap.objs.size f cdv))) :
    PSs (cxOf (L2N.CX P w) P w K mg base N__law_added "_law_added" (defScope s__law_added) f cdv A outer s H E) (defBody s__law_added) (t__law_added K (fun c d _ H2 => E c d H2)) := by
  have hu1 := hu_of hr
  have hu64 := hr.units
  have tk : L2N.Takes (cxOf (L2N.CX P w) P w K mg base N__law_added "_law_added" (defScope s__law_added) f cdv A outer s H E) (fun c d _ H2 => E c d H2) := L2N.takes_of rfl rfl rfl rfl
  exact (pss_cons (ps_if (PW.pt (pw_or (pt_cmpR op_isU (pv 0) (pe_non) (nomark _)) (pw_or1 (pt_cmpR op_isU (pv 1) (pe_non) (nomark _))))) (pss_one (ps_ret (pe_non))) pss_nil)
    (pss_one (ps_ret (pe_op op_addU (pv 0) (pv 1)))))
theorem fn__law_added {P : Program} {w : World} {K : PySem.W.Frag} {mg : Str → Option Value} {base : Heap} (T : Tx K mg) {f : Addr} {fd : FuncData} (F : FunD K d__law_added.name d__law_added.qual d__law_added.params d__law_added.body d__law_added.scope (d__law_added.dvs K) (d__law_added.kws K) f fd) :
    FnOk P w K mg base (L2N.CX P w) 1 f fd ["_law_one", "_law_other"] (sp__law_added K) :=
  F.ok sc__law_added (fun vs H Q E h => len__law_added h) (fun cdv A outer s H vs Q E hr h => ⟨t__law_added K (fun c d _ H2 => E c d H2), wk__law_added T  hr, rd__law_added  h⟩)
theorem ok__law_added_2 {P : Program} {w : World} {K : PySem.W.Frag} {mg : Str → Option Value} {base : Heap} (T : Tx K mg) : DOkN P w K mg base 1 (He.fAd K ("_law_added", none)) ["_law_one", "_law_other"] [] (sp__law_added K) := by
  obtain ⟨fd, F⟩ := T.d__law_added
  exact ⟨fd, [], .nil, FunD.bindsN F fun _ _ _ _ _ _ us hl => match us, hl with | [_, _], _ => rfl, fn__law_added T F, F.kp⟩
abbrev N__law_less : List Str := ["_law_one", "_law_other"]
theorem sc__law_less : FnScope N__law_less ["_law_one", "_law_other"] (defScope s__law_less) := ⟨rfl, rfl, rfl, by decide +kernel, rfl, by decide +kernel, by decide +kernel⟩
theorem wk__law_less {P : Program} {w : World} {K : PySem.W.Frag} {mg : Str → Option Value} {base : Heap} (T : Tx K mg)  {f : Addr} {cdv : Value} {A : Around} {outer : List Env} {s : Shared} {H : Hp} {E : XK} 
    (hr : Room 0 (A.deeper (envOfC "_law_less" (defScope s__law_less) s.heap.objs.size f cdv))) :
    PSs (cxOf (L2N.CX P w) P w K mg base N__law_less "_law_less" (defScope s__law_less) f cdv A outer s H E) (defBody s__law_less) (t__law_less K (fun c d _ H2 => E c d H2)) := by
  have hu1 := hu_of hr
  have hu64 := hr.units
  have tk : L2N.Takes (cxOf (L2N.CX P w) P w K mg base N__law_less "_law_less" (defScope s__law_less) f cdv A outer s H E) (fun c d _ H2 => E c d H2) := L2N.takes_of rfl rfl rfl rfl
  exact (pss_cons (ps_if (PW.pt (pw_or (pt_cmpR op_isU (pv 0) (pe_non) (nomark _)) (pw_or1 (PW.pt (pw_and (pt_cmpR op_notU (pv 1) (pe_non) (nomark _)) (pw_and1 (pt_cmpR op_ltU (pv 1) (pv 0) (nomark _)))))))) (pss_one (ps_ret (pv 1))) pss_nil)
    (pss_one (ps_ret (pv 0))))
theorem fn__law_less {P : Program} {w : World} {K : PySem.W.Frag} {mg : Str → Option Value} {base : Heap} (T : Tx K mg) {f : Addr} {fd : FuncData} (F : FunD K d__law_less.name d__law_less.qual d__law_less.params d__law_less.body d__law_less.scope (d__law_less.dvs K) (d__law_less.kws K) f fd) :
    FnOk P w K mg base (L2N.CX P w) 1 f fd ["_law_one", "_law_other"] (sp__law_less K) :=
  F.ok sc__law_less (fun vs H Q E h => len__law_less h) (fun cdv A outer s H vs Q E hr h => ⟨t__law_less K (fun c d _ H2 => E c d H2), wk__law_less T  hr, rd__law_less  h⟩)
theorem ok__law_less_2 {P : Program} {w : World} {K : PySem.W.Frag} {mg : Str → Option Value} {base : Heap} (T : Tx K mg) : DOkN P w K mg base 1 (He.fAd K ("_law_less", none)) ["_law_one", "_law_other"] [] (sp__law_less K) := by
  obtain ⟨fd, F⟩ := T.d__law_less
  exact ⟨fd, [], .nil, FunD.bindsN F fun _ _ _ _ _ _ us hl => match us, hl with | [_, _], _ => rfl, fn__law_less T F, F.kp⟩
abbrev N__law_least : List Str := ["_law_counts_here", "_law_most", "_law_coming", "_law_many", "_law_k", "_law_rest", "_law_costs", "_law_free", "_law_depth", "_law_now", "_law_deeper", "_law_count_here"]
theorem sc__law_least : FnScope N__law_least ["_law_counts_here", "_law_most"] (defScope s__law_least) := ⟨rfl, rfl, rfl, by decide +kernel, rfl, by decide +kernel, by decide +kernel⟩
theorem wk__law_least {P : Program} {w : World} {K : PySem.W.Frag} {mg : Str → Option Value} {base : Heap} (T : Tx K mg) (O0 : DOkN P w K mg base 1 (He.fAd K ("_law_added", none)) ["_law_one", "_law_other"] [] (sp__law_added K)) (O1 : DOkN P w K mg base 1 (He.fAd K ("_law_less", none)) ["_law_one", "_law_other"] [] (sp__law_less K)) {f : Addr} {cdv : Value} {A : Around} {outer : List Env} {s : Shared} {H : Hp} {E : XK} 
    (hr : Room 1 (A.deeper (envOfC "_law_least" (defScope s__law_least) s.heap.objs.size f cdv))) :
    PSs (cxOf (L2N.CX P w) P w K mg base N__law_least "_law_least" (defScope s__law_least) f cdv A outer s H E) (defBody s__law_least) (t__law_least K (fun c d _ H2 => E c d H2)) := by
  obtain ⟨fd0, ds0, v0, b0, G0, q0⟩ := O0
  obtain ⟨fd1, ds1, v1, b1, G1, q1⟩ := O1
  have hu1 := hu_of hr
  have hu64 := hr.units
  have tk : L2N.Takes (cxOf (L2N.CX P w) P w K mg base N__law_least "_law_least" (defScope s__law_least) f cdv A outer s H E) (fun c d _ H2 => E c d H2) := L2N.takes_of rfl rfl rfl rfl
  exact (pss_cons (ps_set (i := 2) sc__law_least.nd rfl (Or.inr rfl) (pe_callBK cr_sortedRev rfl T.f_sorted bb_sorted (pa_cons (pe_lc (own := [("_law_count_here", 11)]) rfl sc__law_least.nd (pi_list (pv 0)) (blkOk_by (own := [("_law_count_here", 11)]) (N := N__law_least) (sc := defScope s__law_least) (by decide +kernel)) (fun _ _ _ _ _ => (pg_name (i := 11) sc__law_least.nd rfl (Or.inl rfl))) (fun _ _ _ _ _ => pts_one (pt_cmpR op_gtU (pv 11) (pe_int) (nomark _))) (fun _ _ _ _ _ => (pv 11))) pa_nil) (pk_cons ((pe_bl)) pk_nil)))
    (pss_cons (ps_set (i := 3) sc__law_least.nd rfl (Or.inr rfl) (pe_callB cr_lenK (by rfl) T.f_len bb_len (pa_cons (pv 2) pa_nil)))
    (pss_cons (ps_setLc (i := 5) (own := [("_law_k", 4)]) rfl sc__law_least.nd rfl rfl (sw_true rfl rfl rfl (by decide +kernel)) (pi_range1 rfl T.f_range (pa_cons (pe_op op_addU (pv 3) (pe_int)) pa_nil)) (blkOk_by (own := [("_law_k", 4)]) (N := N__law_least) (sc := defScope s__law_least) (by decide +kernel)) (fun _ _ _ _ _ => (pg_name (i := 4) sc__law_least.nd rfl (Or.inl rfl))) (fun _ _ _ _ _ => pts_nil) (fun _ _ _ _ _ => (pe_callB (cr_sum rfl) (by rfl) T.f_sum bb_sum (pa_cons (pe_slice sl_K (pv 2) (po_some (pv 4)) po_none) pa_nil))))
    (pss_cons (ps_set (i := 6) sc__law_least.nd rfl (Or.inl rfl) (pe_lst pa_nil))
    (pss_cons (ps_for (passes_of rfl) rfl (pi_range1 rfl T.f_range (pa_cons (pe_op op_addU (pv 3) (pe_int)) pa_nil)) (pg_name (i := 4) sc__law_least.nd rfl (Or.inr rfl)) (pss_one (ps_expr (pe_bm PySem.F.plainAttrs_list PySem.F.slot_list_append PySem.F.type_list_append mt_append (pv 6) (pa_cons (pe_lc (own := [("_law_free", 7)]) rfl sc__law_least.nd (pi_range1 rfl T.f_range (pa_cons (pe_op op_addU (pv 3) (pe_int)) pa_nil)) (blkOk_by (own := [("_law_free", 7)]) (N := N__law_least) (sc := defScope s__law_least) (by decide +kernel)) (fun _ _ _ _ _ => (pg_name (i := 7) sc__law_least.nd rfl (Or.inl rfl))) (fun _ _ _ _ _ => pts_nil) (fun _ _ _ _ _ => (pe_ix ix_seq (pe_lst (pa_cons (pe_non) (pa_cons (pe_int) pa_nil))) (pe_callTy cr_intK (by rfl) T.f_int bt_int (pa_cons (pe_cmpR op_geU (pv 7) (pe_op op_subU (pv 3) (pv 4)) (nomark _)) pa_nil)) (fun _ _ => rfl)))) pa_nil)))))
    (pss_cons (ps_for (passes_of rfl) rfl (pi_range1 rfl T.f_range (pa_cons (pe_op op_subU (pe_callB (cr_min2K rfl) (by rfl) T.f_min bb_min (pa_cons (pv 1) (pa_cons (pv 3) pa_nil))) (pe_int)) pa_nil)) (pg_name (i := 8) sc__law_least.nd rfl (Or.inl rfl)) (pss_cons (ps_setLc (i := 9) (own := [("_law_k", 4)]) rfl sc__law_least.nd rfl rfl (sw_true rfl rfl rfl (by decide +kernel)) (pi_range1 rfl T.f_range (pa_cons (pe_op op_addU (pv 3) (pe_int)) pa_nil)) (blkOk_by (own := [("_law_k", 4)]) (N := N__law_least) (sc := defScope s__law_least) (by decide +kernel)) (fun _ _ _ _ _ => (pg_name (i := 4) sc__law_least.nd rfl (Or.inl rfl))) (fun _ _ _ _ _ => pts_nil) (fun _ _ _ _ _ => (pe_op op_mulU (pe_lst (pa_cons (pe_int) pa_nil)) (pe_op op_addU (pv 3) (pe_int)))))
    (pss_cons (ps_for (passes_of rfl) rfl (pi_range3 rfl T.f_range (pa_cons (pe_op op_subU (pv 3) (pe_int)) (pa_cons (pe_un un_negU (pe_int)) (pa_cons (pe_un un_negU (pe_int)) pa_nil)))) (pg_name (i := 4) sc__law_least.nd rfl (Or.inr rfl)) (pss_cons (ps_asg (pe_non) (pg_sub (pe_ix ix_seq (pv 9) (pv 4) (fun _ _ => rfl)) (pe_int) set_list))
    (pss_one (ps_for (passes_of rfl) rfl (pi_range2 rfl T.f_range (pa_cons (pe_int) (pa_cons (pe_op op_addU (pv 3) (pe_int)) pa_nil))) (pg_name (i := 7) sc__law_least.nd rfl (Or.inl rfl)) (pss_cons (ps_set (i := 10) sc__law_least.nd rfl (Or.inl rfl) (pe_clN G0 (hr.mono (by decide)) rfl T.g__law_added q0 b0 v0 tk (pa_cons (pe_ix ix_seq (pv 5) (pv 4) (fun _ _ => rfl)) (pa_cons (pe_ix ix_seq (pe_ix ix_seq (pv 6) (pv 4) (fun _ _ => rfl)) (pe_callB (cr_min2K rfl) (by rfl) T.f_min bb_min (pa_cons (pe_op op_mulU (pe_int) (pv 7)) (pa_cons (pe_op op_addU (pv 3) (pe_int)) pa_nil))) (fun _ _ => rfl)) pa_nil))))
    (pss_one (ps_asg (pe_clN G1 (hr.mono (by decide)) rfl T.g__law_less q1 b1 v1 tk (pa_cons (pe_ix ix_seq (pe_ix ix_seq (pv 9) (pe_op op_addU (pv 4) (pe_int)) (fun _ _ => rfl)) (pe_op op_subU (pv 7) (pe_int)) (fun _ _ => rfl)) (pa_cons (pv 10) pa_nil))) (pg_sub (pe_ix ix_seq (pv 9) (pv 4) (fun _ _ => rfl)) (pv 7) set_list))))))))
    (pss_one (ps_set (i := 6) sc__law_least.nd rfl (Or.inl rfl) (pv 9))))))
    (pss_one (ps_ret (pe_op op_addU (pe_ix ix_seq (pv 5) (pe_int) (fun _ _ => rfl)) (pe_ix ix_seq (pe_ix ix_seq (pv 6) (pe_int) (fun _ _ => rfl)) (pe_callB (cr_min2K rfl) (by rfl) T.f_min bb_min (pa_cons (pe_int) (pa_cons (pe_op op_addU (pv 3) (pe_int)) pa_nil))) (fun _ _ => rfl)))))))))))
theorem fn__law_least {P : Program} {w : World} {K : PySem.W.Frag} {mg : Str → Option Value} {base : Heap} (T : Tx K mg) {f : Addr} {fd : FuncData} (F : FunD K d__law_least.name d__law_least.qual d__law_least.params d__law_least.body d__law_least.scope (d__law_least.dvs K) (d__law_least.kws K) f fd) :
    FnOk P w K mg base (L2N.CX P w) 2 f fd ["_law_counts_here", "_law_most"] (sp__law_least K) :=
  F.ok sc__law_least (fun vs H Q E h => len__law_least h) (fun cdv A outer s H vs Q E hr h => ⟨t__law_least K (fun c d _ H2 => E c d H2), wk__law_least T (ok__law_added_2 T) (ok__law_less_2 T) hr, rd__law_least  h⟩)
theorem ok__law_least_2 {P : Program} {w : World} {K : PySem.W.Frag} {mg : Str → Option Value} {base : Heap} (T : Tx K mg) : DOkN P w K mg base 2 (He.fAd K ("_law_least", none)) ["_law_counts_here", "_law_most"] [] (sp__law_least K) := by
  obtain ⟨fd, F⟩ := T.d__law_least
  exact ⟨fd, [], .nil, FunD.bindsN F fun _ _ _ _ _ _ us hl => match us, hl with | [_, _], _ => rfl, fn__law_least T F, F.kp⟩
abbrev N__law_good : List Str := ["_law_lengths", "_law_counts_here", "_law_most", "_law_room", "_law_cost", "_law_count_here", "_law_length"]
theorem sc__law_good : FnScope N__law_good ["_law_lengths", "_law_counts_here", "_law_most"] (defScope s__law_good) := ⟨rfl, rfl, rfl, by decide +kernel, rfl, by decide +kernel, by decide +kernel⟩
theorem wk__law_good {P : Program} {w : World} {K : PySem.W.Frag} {mg : Str → Option Value} {base : Heap} (T : Tx K mg) (O0 : DOkN P w K mg base 1 (He.fAd K ("_law_is_number", none)) ["_law_thing"] [] (sp__law_is_number K)) (O1 : DOkN P w K mg base 2 (He.fAd K ("_law_least", none)) ["_law_counts_here", "_law_most"] [] (sp__law_least K)) {f : Addr} {cdv : Value} {A : Around} {outer : List Env} {s : Shared} {H : Hp} {E : XK} 
    (hr : Room 2 (A.deeper (envOfC "_law_good" (defScope s__law_good) s.heap.objs.size f cdv))) :
    PSs (cxOf (L2N.CX P w) P w K mg base N__law_good "_law_good" (defScope s__law_good) f cdv A outer s H E) (defBody s__law_good) (t__law_good K (fun c d _ H2 => E c d H2)) := by
  obtain ⟨fd0, ds0, v0, b0, G0, q0⟩ := O0
  obtain ⟨fd1, ds1, v1, b1, G1, q1⟩ := O1
  have hu1 := hu_of hr
  have hu64 := hr.units
  have tk : L2N.Takes (cxOf (L2N.CX P w) P w K mg base N__law_good "_law_good" (defScope s__law_good) f cdv A outer s H E) (fun c d _ H2 => E c d H2) := L2N.takes_of rfl rfl rfl rfl
  exact (pss_cons (ps_if (PW.pt (pw_or (pt_not (pt_val (pe_callB call_isi (by rfl) T.f_isinstance bb_isinstance (pa_cons (pv 0) (pa_cons (pe_bty rfl T.f_list bt_list) pa_nil))))) (pw_or1 (pt_cmpR (op_neU hu64) (pe_callB cr_lenK (by rfl) T.f_len bb_len (pa_cons (pv 0) pa_nil)) (pe_callB cr_lenK (by rfl) T.f_len bb_len (pa_cons (pv 1) pa_nil)) (nomark _))))) (pss_one (ps_ret (pe_bl))) pss_nil)
    (pss_cons (ps_set (i := 3) sc__law_good.nd rfl (Or.inl rfl) (pe_int))
    (pss_cons (ps_set (i := 4) sc__law_good.nd rfl (Or.inl rfl) (pe_int))
    (pss_cons (ps_for (passes_of rfl) rfl (pi_zip (by rfl) T.f_zip (pa_cons (pv 1) (pa_cons (pv 0) pa_nil))) (pg_tup rfl (pgs_cons (pg_name (i := 5) sc__law_good.nd rfl (Or.inl rfl)) (pgs_cons (pg_name (i := 6) sc__law_good.nd rfl (Or.inl rfl)) pgs_nil))) (pss_cons (ps_if (PW.pt (pw_or (pt_not (pt_val (pe_clN G0 (hr.mono (by decide)) rfl T.g__law_is_number q0 b0 v0 tk (pa_cons (pv 6) pa_nil)))) (pw_or (pt_not (pt_chain op_leU op_leU (pe_int) (pv 6) (pv 2))) (pw_or1 (pt_cmpR (op_neU hu64) (pe_cmpR (op_eqU hu64) (pv 6) (pe_int) (nomark _)) (pe_cmpR (op_eqU hu64) (pv 5) (pe_int) (nomark _)) (nomark _)))))) (pss_one (ps_ret (pe_bl))) pss_nil)
    (pss_cons (ps_if (pt_cmpR op_gtU (pv 6) (pe_int) (nomark _)) (pss_one (ps_set (i := 3) sc__law_good.nd rfl (Or.inl rfl) (pe_op op_addU (pv 3) (pe_op op_shlU (pe_int) (pe_op op_subU (pv 2) (pv 6)))))) pss_nil)
    (pss_one (ps_set (i := 4) sc__law_good.nd rfl (Or.inl rfl) (pe_op op_addU (pv 4) (pe_op op_mulU (pv 5) (pv 6))))))))
    (pss_one (ps_ret ((pe_and (pe_cmpR op_leU (pv 3) (pe_op op_shlU (pe_int) (pv 2)) (nomark _)) (pe_one (pe_cmpR (op_eqU hu64) (pv 4) (pe_clN G1 (hr.mono (by decide)) rfl T.g__law_least q1 b1 v1 tk (pa_cons (pv 1) (pa_cons (pv 2) pa_nil))) (nomark _)))))))))))
theorem fn__law_good {P : Program} {w : World} {K : PySem.W.Frag} {mg : Str → Option Value} {base : Heap} (T : Tx K mg) {f : Addr} {fd : FuncData} (F : FunD K d__law_good.name d__law_good.qual d__law_good.params d__law_good.body d__law_good.scope (d__law_good.dvs K) (d__law_good.kws K) f fd) :
    FnOk P w K mg base (L2N.CX P w) 3 f fd ["_law_lengths", "_law_counts_here", "_law_most"] (sp__law_good K) :=
  F.ok sc__law_good (fun vs H Q E h => len__law_good h) (fun cdv A outer s H vs Q E hr h => ⟨t__law_good K (fun c d _ H2 => E c d H2), wk__law_good T (ok__law_is_number_1 T) (ok__law_least_2 T) hr, rd__law_good  h⟩)
theorem ok__law_good_3 {P : Program} {w : World} {K : PySem.W.Frag} {mg : Str → Option Value} {base : Heap} (T : Tx K mg) : DOkN P w K mg base 3 (He.fAd K ("_law_good", none)) ["_law_lengths", "_law_counts_here", "_law_most"] [] (sp__law_good K) := by
  obtain ⟨fd, F⟩ := T.d__law_good
  exact ⟨fd, [], .nil, FunD.bindsN F fun _ _ _ _ _ _ us hl => match us, hl with | [_, _, _], _ => rfl, fn__law_good T F, F.kp⟩
abbrev N_law : List Str := ["_law_script", "_law_many", "_law_counts_here", "_law_k", "_law_enough_here", "_law_most", "_law_handed", "_law_told", "_law_kept", "_law_again"]
theorem sc_law : FnScope N_law ["_law_script"] (defScope s_law) := ⟨rfl, rfl, rfl, by decide +kernel, rfl, by decide +kernel, by decide +kernel⟩
theorem wk_law {P : Program} {w : World} {K : PySem.W.Frag} {mg : Str → Option Value} {base : Heap} (T : Tx K mg) (O0 : DOkN P w K mg base 4 (He.fAd K ("_law_alike_right", none)) ["_law_cell"] [] (sp__law_alike_right K)) (O1 : DOkN P w K mg base 1 (He.fAd K ("_law_mixed", none)) ["_law_cell", "_law_k"] [] (sp__law_mixed K)) (O2 : DOkN P w K mg base 1 (He.fAd K ("_law_cell_at", none)) ["_law_script", "_law_k"] [] (sp__law_cell_at K)) (O3 : DOkN P w K mg base 2 (He.fAd K ("_law_counts", none)) ["_law_script", "_law_many"] [] (sp__law_counts K)) (O4 : DOkN P w K mg base 1 (He.fAd K ("_law_enough", none)) ["_law_many"] [] (sp__law_enough K)) (O5 : DOkN P w K mg base 3 (He.fAd K ("lengths_of", none)) ["counts", "most"] [.int 6] (sp_lengths_of K)) (O6 : DOkN P w K mg base 3 (He.fAd K ("lengths_of", none)) ["counts", "most"] [] (sp_lengths_of K)) (O7 : DOkN P w K mg base 3 (He.fAd K ("_law_good", none)) ["_law_lengths", "_law_counts_here", "_law_most"] [] (sp__law_good K)) {f : Addr} {cdv : Value} {A : Around} {outer : List Env} {s : Shared} {H : Hp} {E : XK} 
    (hr : Room 4 (A.deeper (envOfC "law" (defScope s_law) s.heap.objs.size f cdv))) :
    PSs (cxOf (L2N.CX P w) P w K mg base N_law "law" (defScope s_law) f cdv A outer s H E) (defBody s_law) (t_law K (fun c d _ H2 => E c d H2)) := by
  obtain ⟨fd0, ds0, v0, b0, G0, q0⟩ := O0
  obtain ⟨fd1, ds1, v1, b1, G1, q1⟩ := O1
  obtain ⟨fd2, ds2, v2, b2, G2, q2⟩ := O2
  obtain ⟨fd3, ds3, v3, b3, G3, q3⟩ := O3
  obtain ⟨fd4, ds4, v4, b4, G4, q4⟩ := O4
  obtain ⟨fd5, ds5, v5, b5, G5, q5⟩ := O5
  obtain ⟨fd6, ds6, v6, b6, G6, q6⟩ := O6
  obtain ⟨fd7, ds7, v7, b7, G7, q7⟩ := O7
  have hu1 := hu_of hr
  have hu64 := hr.units
  have tk : L2N.Takes (cxOf (L2N.CX P w) P w K mg base N_law "law" (defScope s_law) f cdv A outer s H E) (fun c d _ H2 => E c d H2) := L2N.takes_of rfl rfl rfl rfl
  exact (pss_cons (ps_if (PW.pt (pw_or (pt_cmpR (op_neU hu64) (pe_gint rfl T.g_MOST_BITS) (pe_int) (nomark _)) (pw_or1 (pt_not (pt_val (pe_clN G0 (hr.mono (by decide)) rfl T.g__law_alike_right q0 b0 v0 tk (pa_cons (pe_clN G1 (hr.mono (by decide)) rfl T.g__law_mixed q1 b1 v1 tk (pa_cons (pe_clN G2 (hr.mono (by decide)) rfl T.g__law_cell_at q2 b2 v2 tk (pa_cons (pv 0) (pa_cons (pe_int) pa_nil))) (pa_cons (pe_int) pa_nil))) pa_nil))))))) (pss_one (ps_ret (pe_bl))) pss_nil)
    (pss_cons (ps_set (i := 1) sc_law.nd rfl (Or.inl rfl) (pe_op op_addU (pe_int) (pe_op op_modU (pe_clN G2 (hr.mono (by decide)) rfl T.g__law_cell_at q2 b2 v2 tk (pa_cons (pv 0) (pa_cons (pe_int) pa_nil))) (pe_int))))
    (Evl.pss_cut (ps_if (pt_cmpR (op_eqU hu64) (pe_op op_modU (pe_op op_divU (pe_clN G2 (hr.mono (by decide)) rfl T.g__law_cell_at q2 b2 v2 tk (pa_cons (pv 0) (pa_cons (pe_int) pa_nil))) (pe_int)) (pe_int)) (pe_int) (nomark _)) (pss_one (ps_set (i := 1) sc_law.nd rfl (Or.inl rfl) (pe_op op_addU (pe_int) (pe_op op_modU (pe_op op_divU (pe_clN G2 (hr.mono (by decide)) rfl T.g__law_cell_at q2 b2 v2 tk (pa_cons (pv 0) (pa_cons (pe_int) pa_nil))) (pe_int)) (pe_int))))) pss_nil)
    (pss_cons (ps_set (i := 2) sc_law.nd rfl (Or.inl rfl) (pe_clN G3 (hr.mono (by decide)) rfl T.g__law_counts q3 b3 v3 tk (pa_cons (pv 0) (pa_cons (pv 1) pa_nil))))
    (Evl.pss_cut (ps_if (pt_cmpR (op_eqU hu64) (pe_op op_modU (pe_op op_divU (pe_clN G2 (hr.mono (by decide)) rfl T.g__law_cell_at q2 b2 v2 tk (pa_cons (pv 0) (pa_cons (pe_int) pa_nil))) (pe_int)) (pe_int)) (pe_int) (nomark _)) (pss_one (ps_for (passes_of rfl) rfl (pi_range1 rfl T.f_range (pa_cons (pe_int) pa_nil)) (pg_name (i := 3) sc_law.nd rfl (Or.inl rfl)) (pss_one (ps_expr (pe_bm PySem.F.plainAttrs_list PySem.F.slot_list_insert PySem.F.type_list_insert mt_insert (pv 2) (pa_cons (pe_op op_modU (pe_clN G1 (hr.mono (by decide)) rfl T.g__law_mixed q1 b1 v1 tk (pa_cons (pe_clN G2 (hr.mono (by decide)) rfl T.g__law_cell_at q2 b2 v2 tk (pa_cons (pv 0) (pa_cons (pe_int) pa_nil))) (pa_cons (pv 3) pa_nil))) (pe_op op_addU (pe_callB cr_lenK (by rfl) T.f_len bb_len (pa_cons (pv 2) pa_nil)) (pe_int))) (pa_cons (pe_int) pa_nil))))))) pss_nil)
    (pss_cons (ps_set (i := 4) sc_law.nd rfl (Or.inl rfl) (pe_clN G4 (hr.mono (by decide)) rfl T.g__law_enough q4 b4 v4 tk (pa_cons (pe_op op_subU (pe_callB cr_lenK (by rfl) T.f_len bb_len (pa_cons (pv 2) pa_nil)) (pe_bm PySem.F.plainAttrs_list PySem.F.slot_list_count PySem.F.type_list_count mt_lcount (pv 2) (pa_cons (pe_int) pa_nil))) pa_nil)))
    (pss_cons (ps_set (i := 5) sc_law.nd rfl (Or.inl rfl) (pe_op op_addU (pv 4) (pe_op op_modU (pe_clN G2 (hr.mono (by decide)) rfl T.g__law_cell_at q2 b2 v2 tk (pa_cons (pv 0) (pa_cons (pe_int) pa_nil))) (pe_op op_subU (pe_int) (pv 4)))))
    (pss_cons (ps_set (i := 6) sc_law.nd rfl (Or.inl rfl) (pe_callTy cr_listK (by rfl) T.f_list bt_list (pa_cons (pv 2) pa_nil)))
    (Evl.pss_cut (ps_if (pt_cmpR (op_eqU hu64) (pe_op op_modU (pe_op op_divU (pe_clN G2 (hr.mono (by decide)) rfl T.g__law_cell_at q2 b2 v2 tk (pa_cons (pv 0) (pa_cons (pe_int) pa_nil))) (pe_int)) (pe_int)) (pe_int) (nomark _)) (pss_cons (ps_set (i := 5) sc_law.nd rfl (Or.inl rfl) (pe_int))
    (pss_one (ps_set (i := 7) sc_law.nd rfl (Or.inl rfl) (pe_clN G5 (hr.mono (by decide)) rfl T.g_lengths_of q5 b5 v5 tk (pa_cons (pv 6) pa_nil))))) (pss_one (ps_set (i := 7) sc_law.nd rfl (Or.inl rfl) (pe_clN G6 (hr.mono (by decide)) rfl T.g_lengths_of q6 b6 v6 tk (pa_cons (pv 6) (pa_cons (pv 5) pa_nil))))))
    (pss_cons (ps_if (PW.pt (pw_or (pt_not (pt_val (pe_clN G7 (hr.mono (by decide)) rfl T.g__law_good q7 b7 v7 tk (pa_cons (pv 7) (pa_cons (pv 2) (pa_cons (pv 5) pa_nil)))))) (pw_or1 (pt_cmpR (op_neU hu64) (pv 6) (pv 2) (nomark _))))) (pss_one (ps_ret (pe_bl))) pss_nil)
    (pss_cons (ps_set (i := 8) sc_law.nd rfl (Or.inl rfl) (pe_callTy cr_listK (by rfl) T.f_list bt_list (pa_cons (pv 7) pa_nil)))
    (pss_cons (ps_expr (pe_bm0 PySem.F.plainAttrs_list PySem.F.slot_list_clear PySem.F.type_list_clear mt_clear (pe_clN G6 (hr.mono (by decide)) rfl T.g_lengths_of q6 b6 v6 tk (pa_cons (pe_op op_addU (pe_revL (pv 2)) (pe_lst (pa_cons (pe_int) pa_nil))) (pa_cons (pe_int) pa_nil)))))
    (pss_cons (ps_expr (pe_bm0 PySem.F.plainAttrs_list PySem.F.slot_list_clear PySem.F.type_list_clear mt_clear (pe_clN G6 (hr.mono (by decide)) rfl T.g_lengths_of q6 b6 v6 tk (pa_cons (pe_callTy cr_listK (by rfl) T.f_list bt_list (pa_cons (pv 2) pa_nil)) (pa_cons (pe_int) pa_nil)))))
    (pss_cons (ps_set (i := 9) sc_law.nd rfl (Or.inl rfl) (pe_clN G6 (hr.mono (by decide)) rfl T.g_lengths_of q6 b6 v6 tk (pa_cons (pv 6) (pa_cons (pv 5) pa_nil))))
    (pss_cons (ps_expr (pe_bm PySem.F.plainAttrs_list PySem.F.slot_list_append PySem.F.type_list_append mt_append (pv 7) (pa_cons (pe_int) pa_nil)))
    (pss_one (ps_ret ((pe_and (pe_cmpR (op_eqU hu64) (pv 9) (pv 8) (nomark _)) (pe_and (pe_cmpR (op_eqU hu64) (pv 7) (pe_op op_addU (pv 8) (pe_lst (pa_cons (pe_int) pa_nil))) (nomark _)) (pe_and (pe_cmpR (op_eqU hu64) (pe_clN G6 (hr.mono (by decide)) rfl T.g_lengths_of q6 b6 v6 tk (pa_cons (pe_callTy cr_listK (by rfl) T.f_list bt_list (pa_cons (pv 2) pa_nil)) (pa_cons (pv 5) pa_nil))) (pv 8) (nomark _)) (pe_one (pe_cmpR (op_eqU hu64) (pv 6) (pv 2) (nomark _))))))))))))))))))))))))
theorem fn_law {P : Program} {w : World} {K : PySem.W.Frag} {mg : Str → Option Value} {base : Heap} (T : Tx K mg) {f : Addr} {fd : FuncData} (F : FunD K d_law.name d_law.qual d_law.params d_law.body d_law.scope (d_law.dvs K) (d_law.kws K) f fd) :
    FnOk P w K mg base (L2N.CX P w) 5 f fd ["_law_script"] (sp_law K) :=
  F.ok sc_law (fun vs H Q E h => len_law h) (fun cdv A outer s H vs Q E hr h => ⟨t_law K (fun c d _ H2 => E c d H2), wk_law T (ok__law_alike_right_1 T) (ok__law_mixed_2 T) (ok__law_cell_at_2 T) (ok__law_counts_2 T) (ok__law_enough_1 T) (ok_lengths_of_1 T) (ok_lengths_of_2 T) (ok__law_good_3 T) hr, rd_law  h⟩)
end L2.BW
namespace L2.BW
open PySem PySem.Spec PyProof.Rows
theorem calmly {P : Program} {w : World} {K : PySem.W.Frag} {mg : Str → Option Value} {base : Heap} {k : Nat} {f : Addr} {fd : FuncData} {ps : List Str} {sp : Sp}
    (hE : ∀ vs H Q E, sp vs H Q E → sp vs H Q fun _ _ _ => False) (F : FnOk P w K mg base (L2N.CX P w) k f fd ps sp) : FnOk P w K mg base CX0 k f fd ps sp :=
  ⟨F.len, fun A outer s H args us vs Q E hr he hb hv hs => codeAny_mono (F.run A outer s H args us vs Q _ hr he hb hv (hE _ _ _ _ hs)) fun r s' z => by
    match r, z with
    | .error e, z =>
      obtain ⟨_, _, _, _, _, _, _, _, _, _, _, _, z⟩ := z
      exact z.elim
    | .ok (.ret u), z => exact z⟩
end L2.BW
open PySem PySem.W PySem.Calls PyProof.Rows
theorem PySem.Challenge.cw_balepress_k06_lengths_cost_least_holds : PySem.Challenge.rw_balepress_k06_lengths_cost_least.Holds := by
  w_on; o_law
  refine HandSHeadRun.head_any (r := OpenLaw.row PySem.Challenge.rw_balepress_k06_lengths_cost_least) (q := view (OpenLaw.row PySem.Challenge.rw_balepress_k06_lengths_cost_least).prog [25]) (H := L2.BH.hk) (ob := L2.BH.ob) (M := 40000) (loose := L2.BH.loose) (d := HandSHeadRun.topDef (OpenLaw.row PySem.Challenge.rw_balepress_k06_lengths_cost_least).prog 25) (kwd := [])
    L2.BH.ob_eq (by kernel_rfl) (fun s => by kernel_rfl) L2.BH.run (by kernel_rfl) (by kernel_rfl) (by kernel_rfl) (by rfl) (by first | assumption | decide +kernel) (by decide +kernel)
    ⟨rfl, rfl, rfl, rfl, rfl, by decide +kernel⟩ ?hw ?hc
  case hw => w_witness2
  case hc =>
    refine L2.walk_ofE (l := PySem.Challenge.rw_balepress_k06_lengths_cost_least) (n := 63) (k := 5) (x := "_law_script") (CX := L2.CX0) rfl (by decide) (by kernel_rfl) ⟨rfl, by decide, by decide⟩ ?F (fun _ _ _ _ z => z)
    intro w mg fa h Y G hmg0
    obtain ⟨K, KX, c⟩ := Y
    have hmg : mg ("law" : PySem.Str) = some (.ref fa) := by
      have e : (HandSHeadRun.topDef (OpenLaw.row PySem.Challenge.rw_balepress_k06_lengths_cost_least).prog 25).name = ("law" : PySem.Str) := by kernel_rfl
      exact e ▸ hmg0
    have T := L2.BW.tx_of KX G c
    obtain ⟨fd, F⟩ := T.d_law
    have e := hmg.symm.trans T.g_law
    cases e
    have b := L2.FunD.bindsA (ps := ["_law_script"]) F fun _ _ _ _ _ _ us hl => match us, hl with | [_], _ => rfl
    exact ⟨K, fd, L2.BR.sp_law K, KX, fun s v => b s [v] rfl, fun H a ns hl _ hS => ⟨a, ns, rfl, hS, hl, fun _ => rfl⟩, fun base _ _ => L2.BW.calmly (fun _ _ _ _ h => h) (L2.BW.fn_law T F)⟩
