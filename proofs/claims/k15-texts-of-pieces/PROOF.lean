import PyProof.Rows.All
import Wide.All
import OpenK.AllK
import Wide.FinOn
import HandS.ForMost
import HandS.ForExc
import HandS.Defaults
import HandS.CallSlots
import HandS.IsInst
import HandS.Style
import HandS.Small
import HandS.Conv
import HandS.TryElse
import HandS.HeadHook2
import HandS.Evl
import HandS.Flow
import HandS.Zip
import HandS.Text
import HandS.ExcIs
import HandS.ExcCtx
import HandS.WideBits
import HandS.Hot
import HandS.HotCalls
import PyProof.StrOps2
import KE.SortKeyHeap
import HandS.SortKw
import HandS.DictComp
import HandS.SetFor
import KE.KStateDown
import Lean
import HandS.HeadEnd
import HandS.Head0
import HandS.Head1
import HandS.Head2
import HandS.HeadHook1
import HandS.HeadHook4
import PySem.Challenge.RW_balepress_k15_texts_of_pieces
set_option Elab.async false
set_option linter.all false
set_option maxRecDepth 100000
set_option maxHeartbeats 0
/-! BLib: rules that take several kinds of values at once, calls that may let an error out at the caller's slots, and a picture of the heap as a list of own objects over a base. -/
namespace PySem.SeqAt
open PySem PySem.Spec MeetsSeq
theorem list_eq_declines_dict (l b : Addr) (items : Array Value) (n : Nat) (dd dd2 : Option Addr) (sl sl2 : Array (Option Value)) (dt : Data) :
    Meets (Builtin.«list.__eq__» ⟨[.ref l, .ref b], []⟩) (fun _ R s => s.heap.get? l = some { cls := .type "list", dict := dd, data := .seq items n, slots := sl } ∧ s.heap.get? b = some { cls := .type "dict", dict := dd2, data := dt, slots := sl2 } ∧ R (.ok (.ret .notImplemented)) s) :=
  .of_wp fun prog w A R s h => by obtain ⟨hp, g, d, tk, os⟩ := s; obtain ⟨hl, hb, h⟩ := h; have f1 := F.sub_dict_list; wp_walk using wpAny_loadPart' hl, wpAny_loadPart' hb; exact ⟨_, rfl, h⟩
theorem dict_eq_declines_list (l b : Addr) (items : Array Value) (n n2 : Nat) (es : Array DictEntry) (dd dd2 : Option Addr) (sl sl2 : Array (Option Value)) :
    Meets (Builtin.«dict.__eq__» ⟨[.ref l, .ref b], []⟩) (fun _ R s => s.heap.get? l = some { cls := .type "dict", dict := dd, data := .dict es n2, slots := sl } ∧ s.heap.get? b = some { cls := .type "list", dict := dd2, data := .seq items n, slots := sl2 } ∧ R (.ok (.ret .notImplemented)) s) :=
  .of_wp fun prog w A R s h => by obtain ⟨hp, g, d, tk, os⟩ := s; obtain ⟨hl, hb, h⟩ := h; have f1 := F.sub_list_dict; wp_walk using wpAny_loadPart' hl, wpAny_loadPart' hb; exact ⟨_, rfl, h⟩
theorem RcAt.dict_list {A : Around} {s : Shared} {l b : Addr} {es : Array DictEntry} {n2 : Nat} {dd : Option Addr} {sl : Array (Option Value)} {items : Array Value} (ho : s.heap.get? l = some { cls := .type "dict", dict := dd, data := .dict es n2, slots := sl }) (hb : s.heap.IsList b items) (hu : A.units < cLine) : RcAt A s (.ref l) (.ref b) false := fun prog w E Q h => by
  have hne : l ≠ b := fun e => by
    subst e
    obtain ⟨o2, ho2, hc2, _⟩ := hb
    rw [ho] at ho2
    cases ho2
    exact absurd hc2 (by simp)
  obtain ⟨⟨cls2, dd2, data2, sl2⟩, ho2, hc2, n3, hd2⟩ := id hb
  simp only at hc2 hd2
  subst hc2 hd2
  exact (rc_eq_decline_or (k := false) ⟨_, ho, rfl⟩ ⟨_, ho2, rfl⟩ (by decide) F.sub_list_dict F.slot_dict_eq F.slot_list_eq_refl
    (fun _ hq => call_meets F.slot_dict_eq ⟨_, ho, rfl⟩ F.entry_dict_eq (F.args_dict_eq_2 _ _) (dict_eq_declines_list l b items n3 n2 es dd dd2 sl sl2) ⟨ho, ho2, hq⟩)
    (fun _ hq => call_meets F.slot_list_eq_refl ⟨_, ho2, rfl⟩ F.entry_list_eq (F.args_list_eq_2 _ _) (list_eq_declines_dict b l items n3 dd2 dd sl2 sl _) ⟨ho2, ho, hq⟩)
    (fun _ hq => wpAny_isSame_ref_other' hne ho ho2 (by simp) hq) (.inr hu) h)
end PySem.SeqAt
namespace L2.BP
open PySem PySem.Spec PyProof.Rows
section
variable {X : Cx}
/-! ### operators, by kinds -/
def rAddStr : R2 := fun x y H Q => ∃ i j, x = .str i ∧ y = .str j ∧ i.length + j.length ≤ sizeLine ∧ Q (.str (i ++ j)) H
def rAddI : R2 := rI0 fun i j => .int (i + j)
def rAddU : R2 := fun x y H Q => rAddI x y H Q ∨ rAddStr x y H Q ∨ rCat x y H Q
theorem op_addU : OpR X (binaryOp .Add) rAddU := OpR.or op_add (OpR.or op_add_str op_cat)
def rSubU : R2 := rI0 fun i j => .int (i - j)
theorem op_subU : OpR X (binaryOp .Sub) rSubU := op_sub
def rMulI : R2 := rI CMul fun i j => .int (i * j)
def repS (z : Str) (k : Nat) : Str := if k = 0 then Str.empty else if k = 1 ∨ z.length = 0 then z else ⟨(List.replicate k z.cps).foldl (· ++ ·) #[]⟩
def rRepS : R2 := fun x y H Q => ∃ (z : Str) (k : Nat), x = .str z ∧ y = .int ((k : Nat) : Int) ∧ k ≤ 1000 ∧ z.length ≤ 1000 ∧ (repS z k).length ≤ 1000000 ∧ Q (.str (repS z k)) H
theorem op_repS : OpR X (binaryOp .Mult) rRepS := by
  intro pins s σ H x y v u Q I rx ry h
  obtain ⟨z, k, rfl, rfl, hk, hz, hl, q⟩ := h
  obtain ⟨t, rfl⟩ := rx
  obtain ⟨t', rfl⟩ := ry
  have hm : z.length * k ≤ 1000 * 1000 := Nat.mul_le_mul hz hk
  refine PySem.P.mul_str ?_ ?_ ?_ ?_
  · rw [decide_eq_false (by omega), decide_eq_false (by omega)]
    rfl
  · intro h1 h2 h3
    have h4 : 9223372036854775 ≤ (2 ^ 63 - 1) / ((k : Nat) : Int) := by
      refine (Int.le_ediv_iff_mul_le (by omega)).mpr ?_
      omega
    omega
  · intro h1 h2
    unfold Builtin.Str.tooLong
    rw [Int.toNat_natCast]
    exact decide_eq_false (Nat.not_lt.mpr (Nat.le_trans hm (by decide)))
  · unfold repS at q hl
    by_cases h0 : k = 0
    · subst h0
      rw [if_pos rfl] at q
      rw [if_pos (by decide)]
      exact ⟨by decide, .str Str.empty, H, I.tok _, ⟨_, rfl⟩, q⟩
    · rw [if_neg h0] at q hl
      rw [if_neg (by omega)]
      by_cases h1 : k = 1 ∨ z.length = 0
      · rw [if_pos h1] at q
        have e : ((((k : Nat) : Int) == 1) || z.length == 0) = true := by
          rcases h1 with e | e
          · subst e
            rfl
          · rw [e]
            simp
        rw [e, if_pos rfl]
        exact ⟨.str z, H, I, ⟨_, rfl⟩, q⟩
      · rw [if_neg h1] at q hl
        have e : ((((k : Nat) : Int) == 1) || z.length == 0) = false := by
          have e1 : ¬ k = 1 := fun h => h1 (.inl h)
          have e2 : ¬ z.length = 0 := fun h => h1 (.inr h)
          have e3 : (((k : Nat) : Int) == 1) = false := by
            rw [beq_eq_false_iff_ne]
            omega
          have e4 : (z.length == 0) = false := by
            rw [beq_eq_false_iff_ne]
            exact e2
          rw [e3, e4]
          rfl
        rw [e, if_neg Bool.false_ne_true, Int.toNat_natCast]
        exact ⟨Nat.le_trans hl (by decide), .str _, H, I.tok _, ⟨_, rfl⟩, q⟩
def rMulU : R2 := fun x y H Q => rMulI x y H Q ∨ rRep x y H Q ∨ rRepS x y H Q
theorem op_mulU : OpR X (binaryOp .Mult) rMulU := OpR.or op_mul (OpR.or op_rep op_repS)
def rDivU : R2 := rI CDiv fun i j => .int (i / j)
theorem op_divU : OpR X (binaryOp .FloorDiv) rDivU := op_fdiv
def rModU : R2 := rI (fun _ j => 0 < j) fun i j => .int (i % j)
theorem op_modU : OpR X (binaryOp .Mod) rModU := op_mod
def rPowU : R2 := rI CPow fun i j => .int (i ^ j.toNat)
theorem op_powU : OpR X (binaryOp .Pow) rPowU := op_pow
def rShlU : R2 := fun x y H Q => rI CPow (fun i j => .int (i * 2 ^ j.toNat)) x y H Q ∨ rI CShl (fun i j => .int (i * 2 ^ j.toNat)) x y H Q
theorem op_shlU : OpR X (binaryOp .LShift) rShlU := OpR.or op_shl op_shlW
def rShrU : R2 := rI (fun _ j => 0 ≤ j) fun i j => .int (i / 2 ^ j.toNat)
theorem op_shrU : OpR X (binaryOp .RShift) rShrU := op_shr
def rAndU : R2 := rI0 fun i j => .int (Builtin.bitAnd i j)
theorem op_andU : OpR X (binaryOp .BitAnd) rAndU := op_and
def rOrU : R2 := rI0 fun i j => .int (Builtin.bitOr i j)
theorem op_orU : OpR X (binaryOp .BitOr) rOrU := op_or
def rXorU : R2 := rI0 fun i j => .int (Builtin.bitXor i j)
theorem op_xorU : OpR X (binaryOp .BitXor) rXorU := op_xor
def rNegU : V → Hp → VK → Prop := rU fun i => .int (-i)
theorem un_negU : UnR X (unaryOp .USub) rNegU := un_neg
def rLtU : R2 := rI0 fun i j => .bl (decide (i < j))
theorem op_ltU : OpR X (compareOp .Lt) rLtU := op_lt
def rLeU : R2 := rI0 fun i j => .bl (decide (i ≤ j))
theorem op_leU : OpR X (compareOp .LtE) rLeU := op_le
def rGtU : R2 := rI0 fun i j => .bl (decide (j < i))
theorem op_gtU : OpR X (compareOp .Gt) rGtU := op_gt
def rGeU : R2 := rI0 fun i j => .bl (decide (j ≤ i))
theorem op_geU : OpR X (compareOp .GtE) rGeU := op_ge
/-- a dict and a list -/
def rEqE (K : PySem.W.Frag) : R2 := fun x y H Q => ∃ (a b : Addr) (kvs : List (Key × V)) (ys : List V), x = .ref a ∧ y = .ref b ∧ H a = some (.dK kvs) ∧ SqL K H b ys ∧ Q (.bl false) H
theorem op_eqE (hu : X.A.units + 64 < cLine) : OpR X (compareOp .Eq) (rEqE X.K) := by
  intro pins s σ H x y v u Q I rx ry h
  obtain ⟨a, b, kvs, ys, rfl, rfl, ha, hb, q⟩ := h
  obtain rfl : v = Value.ref a := rx
  obtain rfl : u = Value.ref b := ry
  obtain ⟨_, _, vs, rv, o, es, ep, h1, h2, h3, h4, h5, h6⟩ := (show ObjOk X.prog X.w H s.heap a (.dK kvs) from I.hok a _ ha)
  obtain ⟨its, r, pl, hz⟩ := I.list hb
  obtain ⟨c, d, dt, sl⟩ := o
  obtain ⟨z1, z2, z3⟩ := h2
  simp only at h3 z1 z2 z3
  subst h3 z1
  exact SeqAt.RcAt.dict_list h1 pl.isList (by omega) X.prog X.w _ _ ⟨.bl _, H, I, rfl, q⟩
def rEqU (K : PySem.W.Frag) : R2 := fun x y H Q => rEq x y H Q ∨ rEqD K x y H Q ∨ rEqDA x y H Q ∨ rEqE K x y H Q
theorem op_eqU (hu : X.A.units + 64 < cLine) : OpR X (compareOp .Eq) (rEqU X.K) := OpR.or op_eq (OpR.or (op_eqD hu) (OpR.or (op_eq_dictA (by omega)) (op_eqE hu)))
def rNeU (K : PySem.W.Frag) : R2 := fun x y H Q => rNe x y H Q ∨ rNeD K x y H Q ∨ rNeDA x y H Q
theorem op_neU (hu : X.A.units + 64 < cLine) : OpR X (compareOp .NotEq) (rNeU X.K) := OpR.or op_ne (OpR.or (op_neD hu) (op_ne_dictA (by omega)))
def rInStr : R2 := fun x y H Q => ∃ i j, x = .str i ∧ y = .str j ∧ Q (.bl (!(Builtin.Str.occurrences j i 0 j.length 1).isEmpty)) H
def rNiStr : R2 := fun x y H Q => ∃ i j, x = .str i ∧ y = .str j ∧ Q (.bl (!(!(Builtin.Str.occurrences j i 0 j.length 1).isEmpty))) H
def rInU (K : PySem.W.Frag) : R2 := fun x y H Q => rIn K false x y H Q ∨ rInStr x y H Q
theorem op_inU : OpR X (compareOp .In) (rInU X.K) := OpR.or op_in_seq op_in_str
def rNiU (K : PySem.W.Frag) : R2 := fun x y H Q => rIn K true x y H Q ∨ rNiStr x y H Q
theorem op_niU : OpR X (compareOp .NotIn) (rNiU X.K) := OpR.or op_notIn_seq op_notIn_str
def rIsNo : R2 := fun x y H Q => y = .non ∧ Q (.bl (decide (x = .non))) H
def rNotNo : R2 := fun x y H Q => y = .non ∧ Q (.bl (!decide (x = .non))) H
def rIsU : R2 := fun x y H Q => rIsNo x y H Q ∨ rIsB x y H Q
theorem op_isU : OpR X (compareOp .Is) rIsU := OpR.or op_isN op_isBl
def rNotU : R2 := fun x y H Q => rNotNo x y H Q ∨ rNotB x y H Q
theorem op_notU : OpR X (compareOp .IsNot) rNotU := OpR.or op_notN op_notBl
/-! ### in place -/
def ipAddI : TIp := ipI fun i j => i + j
def ipAddU : TIp := fun x y H Q => ipAddI x y H Q ∨ rExt2 x y H Q ∨ rAddStr x y H Q
theorem ip_addU : PIp X .Add ipAddU := fun pins s σ H x y v u Q I rx ry h => by
  rcases h with h | h | h
  · exact ip_add pins s σ H x y v u Q I rx ry h
  · exact iop_ext pins s σ H x y v u Q I rx ry h
  · exact iop_add_str pins s σ H x y v u Q I rx ry h
def ipSubU : TIp := ipI fun i j => i - j
theorem ip_subU : PIp X .Sub ipSubU := ip_sub
/-! ### slices, walks -/

end
end L2.BP
namespace L2.BP
open PySem PySem.Spec PyProof.Rows
/-! ### calls that may let an error out, wished for at the caller's slots -/
section
variable {X : Cx} {k : Nat} {f C : Addr} {fd : FuncData} {ps : List Str} {sp : Sp} {dvs : List V} {ds : List Value} {W : WX} {x m : Str} {p pos apos : Pos} {e o : Expr} {es : List Expr} {ta : TE} {t : TA}
/-- f(e, ..) -/
def tCl (sp : Sp) (dvs : List V) (W : WX) (t : TA) : TE := fun σ H Q => t σ H fun vs H1 => sp (vs ++ dvs) H1 Q fun c d H2 => W c d σ H2
theorem pe_cl (F : FnOk X.prog X.w X.K X.mg X.base (L2.CX X.prog X.w) k f fd ps sp) (hr : Room k X.A) (hg : Gl X x) (hm : X.mg x = some (.ref f)) (hk : PySem.W.keepIn X.K (.ref f) = true)
    (hb : Binds X.K fd ps ds) (hd : Vals dvs ds) (tk : Takes X W) (ha : PA X (e :: es) t) (hdb : (x == ("__debug__" : Str)) = false := by decide)
    (he : starEach (e :: es) X.env = (false, eval e X.env) :: starEach es X.env := by rfl) (hpl : (backTo pos (starEach es X.env)).any (·.1) = false := by rfl) :
    PE X (.Call (.Name x p) (e :: es) [] pos) (tCl sp dvs W t) :=
  pe_callSD (E := WE W) F hr hg hm hk hb hd (fun σ => passAt tk σ) ha hdb he hpl
theorem pe_cl0 (F : FnOk X.prog X.w X.K X.mg X.base (L2.CX X.prog X.w) k f fd ps sp) (hr : Room k X.A) (hg : Gl X x) (hm : X.mg x = some (.ref f)) (hk : PySem.W.keepIn X.K (.ref f) = true)
    (hb : Binds X.K fd ps ds) (hd : Vals dvs ds) (tk : Takes X W) (hdb : (x == ("__debug__" : Str)) = false := by decide) :
    PE X (.Call (.Name x p) [] [] pos) (tCl sp dvs W tNil) := by
  constructor
  intro pins s σ H Q I h
  have go := run_fnSD (E := WE W) (us := []) F hr hb hd (passAt tk σ) I .nil h
  exact wpAny_Call_Name_kw (ld_glob I hg hm (PySem.W.callWith_K0 I.kIn hk go) hdb)
/-- o.m(e, ..) -/
def tMt (C : Addr) (m : Str) (sp : Sp) (dvs : List V) (W : WX) (ta : TE) (t : TA) : TE := fun σ H Q => ta σ H fun x H1 => ∃ a dx fs, x = .ref a ∧ H1 a = some (.ins C dx fs) ∧ fs.lookup m = none ∧
  t σ H1 fun vs H2 => sp (x :: (vs ++ dvs)) H2 Q fun c d H3 => W c d σ H3
theorem pe_mt' {pl : Sem Bool} (he : PE X o ta) (c : Cls X.K C) (hm : Meth X.K C m f) (F : FnOk X.prog X.w X.K X.mg X.base (L2.CX X.prog X.w) k f fd ps sp) (hr : Room k X.A)
    (hb : Binds X.K fd ps ds) (hd : Vals dvs ds) (tk : Takes X W) (ha : PA X (e :: es) t)
    (hst : starEach (e :: es) X.env = (false, eval e X.env) :: starEach es X.env := by rfl) (hpl : (backTo pos (starEach es X.env)).any (·.1) = false := by rfl)
    (ht : eval (.Call (.Attribute o m apos) (e :: es) [] pos) X.env = (do
      let ov ← eval o X.env; standAt apos.atName
      let (f, first) ← holding [ov] (getMethod ov m pl); callWith pos f first (backTo pos (starEach (e :: es) X.env)) (backToKw pos (keywordEach [] X.env))) := by rfl) :
    PE X (.Call (.Attribute o m apos) (e :: es) [] pos) (tMt C m sp dvs W ta t) := by
  constructor
  intro pins s σ H Q I h
  refine PySem.W.methodCall_KW (pl := pl) (thn (he.run pins s σ H _ I h) ?_) ht
  rintro u s1 ⟨x, H1, I1, rx, a, dx, fs, rfl, ea, l, q⟩
  cases (show u = Value.ref a from rx)
  refine getmeth_ok I1 ea c hm l (PySem.W.callWith_K (first := [.ref a]) (h₀ := X.base) I.ok.mod.kin hm.kp ?_ hst hpl)
  refine thn (ha.run pos pins s1 σ H1 _ I1 q) ?_
  rintro us s2 ⟨vs, H2, I2, r, q2⟩
  exact ⟨I2.kIn, run_fnSD (E := WE W) (us := .ref a :: us) (vs := .ref a :: vs) F hr hb hd (passAt tk σ) I2 (.cons rfl r) q2⟩
theorem pe_mt0' {pl : Sem Bool} (he : PE X o ta) (c : Cls X.K C) (hm : Meth X.K C m f) (F : FnOk X.prog X.w X.K X.mg X.base (L2.CX X.prog X.w) k f fd ps sp) (hr : Room k X.A)
    (hb : Binds X.K fd ps ds) (hd : Vals dvs ds) (tk : Takes X W)
    (ht : eval (.Call (.Attribute o m apos) [] [] pos) X.env = (do
      let ov ← eval o X.env; standAt apos.atName
      let (f, first) ← holding [ov] (getMethod ov m pl); callWith pos f first (backTo pos (starEach [] X.env)) (backToKw pos (keywordEach [] X.env))) := by rfl) :
    PE X (.Call (.Attribute o m apos) [] [] pos) (tMt C m sp dvs W ta tNil) := by
  constructor
  intro pins s σ H Q I h
  refine PySem.W.methodCall_KW (pl := pl) (thn (he.run pins s σ H _ I h) ?_) ht
  rintro u s1 ⟨x, H1, I1, rx, a, dx, fs, rfl, ea, l, q⟩
  cases (show u = Value.ref a from rx)
  refine getmeth_ok I1 ea c hm l ?_
  have go := run_fnSD (E := WE W) (us := [.ref a]) (vs := [.ref a]) F hr hb hd (passAt tk σ) I1 (.cons rfl .nil) q
  exact PySem.W.callWith_K0 (first := [.ref a]) I1.kIn hm.kp go
/-- C(e, ..) -/
def tMk (C : Addr) (sp : Sp) (dvs : List V) (W : WX) (t : TA) : TE := fun σ H Q => t σ H fun vs H1 => ∀ x dx, H1 x = none → H1 dx = none → dx ≠ x →
  sp (.ref x :: (vs ++ dvs)) (upd (upd H1 dx (.own x)) x (.ins C dx [])) (fun v H2 => v = .non ∧ Q (.ref x) H2) fun c d H2 => W c d σ H2
theorem run_mk {pins : List (Addr × Obj)} {σ : St} {H : Hp} {s : Shared} {Q : VK} {us : List Value} {vs : List V} (M : Mk X.K C f) (F : FnOk X.prog X.w X.K X.mg X.base (L2.CX X.prog X.w) k f fd ps sp) (hr : Room (k + 1) X.A)
    (hb : Binds X.K fd ps ds) (hd : Vals dvs ds) (tk : Takes X W) (I : Inv X pins σ H s) (r : Vals vs us)
    (h : ∀ x dx, H x = none → H dx = none → dx ≠ x → sp (.ref x :: (vs ++ dvs)) (upd (upd H dx (.own x)) x (.ins C dx [])) (fun v H2 => v = .non ∧ Q (.ref x) H2) fun c d H2 => W c d σ H2) :
    wpAny (model X.prog X.w) X.A (call (.ref C) us) (EP X pins σ Q) X.xe s := by
  have hq := h (s.heap.objs.size + 1) s.heap.objs.size (I.hok.fresh (Nat.le_succ _)) (I.hok.fresh (Nat.le_refl _)) (Nat.ne_of_lt (Nat.lt_succ_self _))
  have J := Inv.made (C := C) I
  have rr : Vals (V.ref (s.heap.objs.size + 1) :: (vs ++ dvs)) (Value.ref (s.heap.objs.size + 1) :: (us ++ ds)) := .cons rfl (r.append hd)
  have hl : (Value.ref (s.heap.objs.size + 1) :: us ++ ds).length = ps.length := by
    have e1 := rr.length
    rw [F.len _ _ _ _ hq] at e1
    exact e1.symm
  have run := F.run _ X.stack _ _ ⟨Value.ref (s.heap.objs.size + 1) :: us, []⟩ (Value.ref (s.heap.objs.size + 1) :: (us ++ ds)) _ _ _ (hr.make C us []) (J.env0.make C us []) (hb _ (Value.ref (s.heap.objs.size + 1) :: us) J.kIn hl) rr hq
  refine wpAny_call (make_map (f := f) I.kIn M.makes M.init (beq_iff_eq.mp M.fn) (codeAny_mono run ?_))
  intro r s' z
  match r, z with
  | .error e, z => exact (passAt tk σ) pins _ _ e s' J z
  | .ok (.ret u), z =>
    obtain ⟨v, H', J3, rv, ev, q3⟩ := J.after z
    subst ev
    exact ⟨rv, ⟨V.ref (s.heap.objs.size + 1), H', J3, rfl, q3⟩⟩
theorem pe_mk' (M : Mk X.K C f) (F : FnOk X.prog X.w X.K X.mg X.base (L2.CX X.prog X.w) k f fd ps sp) (hr : Room (k + 1) X.A) (hg : Gl X x) (hm : X.mg x = some (.ref C))
    (hb : Binds X.K fd ps ds) (hd : Vals dvs ds) (tk : Takes X W) (ha : PA X (e :: es) t) (hdb : (x == ("__debug__" : Str)) = false := by decide)
    (he : starEach (e :: es) X.env = (false, eval e X.env) :: starEach es X.env := by rfl) (hpl : (backTo pos (starEach es X.env)).any (·.1) = false := by rfl) :
    PE X (.Call (.Name x p) (e :: es) [] pos) (tMk C sp dvs W t) := by
  constructor
  intro pins s σ H Q I h
  refine wpAny_Call_Name_kw (ld_glob I hg hm (PySem.W.callWith_K (h₀ := X.base) I.ok.mod.kin M.kp ?_ he hpl) hdb)
  refine thn (ha.run pos pins s σ H _ I h) ?_
  rintro us s1 ⟨vs, H1, I1, r, q⟩
  exact ⟨I1.kIn, run_mk M F hr hb hd tk I1 r q⟩
theorem pe_mk0' (M : Mk X.K C f) (F : FnOk X.prog X.w X.K X.mg X.base (L2.CX X.prog X.w) k f fd ps sp) (hr : Room (k + 1) X.A) (hg : Gl X x) (hm : X.mg x = some (.ref C))
    (hb : Binds X.K fd ps ds) (hd : Vals dvs ds) (tk : Takes X W) (hdb : (x == ("__debug__" : Str)) = false := by decide) :
    PE X (.Call (.Name x p) [] [] pos) (tMk C sp dvs W tNil) := by
  constructor
  intro pins s σ H Q I h
  have go := run_mk (us := []) M F hr hb hd tk I .nil h
  exact wpAny_Call_Name_kw (ld_glob I hg hm (PySem.W.callWith_K0 I.kIn M.kp go) hdb)
end
/-! ### an error raised -/
def tRz (C : Addr) (W : WX) : TS := fun _ σ H => W (.ref C) none σ H
theorem ps_rz {X : Cx} {W : WX} {C : Addr} {x m : Str} {j : Nat} {p p2 pos pos2 : Pos} (hc : X.calm = true) (tk : Takes X W) (q : PySem.W.excIn X.K C He.veBase "ValueError.__new__" = true ∧ PySem.W.keepIn X.K (.ref C) = true ∧ PySem.W.subIn X.K (.ref C) (.type "BaseException") = some true ∧ PySem.W.typeIn X.K (.ref C) = some (.type "type"))
    (gC : X.mg x = some (.ref C)) (hg : Gl X x) (hdb : (x == ("__debug__" : Str)) = false := by decide) :
    PS X (.Raise (some (.Call (.Name x p) [.Constant (.str m) j p2] [] pos)) none pos2) (tRz C W) :=
  ps_raise hc tk (pmk_own PySem.F.excBase_ValueError q.1 gC q.2.1 (raises_own q.2.2.1 q.2.2.2) hg hdb)
/-! ### names of the module -/
section
variable {X : Cx} {x : Str} {pos : Pos}
theorem pe_gint {i : Int} (hg : Gl X x) (hm : ∃ t, X.mg x = some (.int i t)) (hd : (x == ("__debug__" : Str)) = false := by decide) : PE X (.Name x pos) (tC (.int i)) :=
  hm.elim fun t h => pe_glob (v := .int i) hg h ⟨t, rfl⟩ hd
theorem pe_gstr {z : Str} (hg : Gl X x) (hm : ∃ t, X.mg x = some (.str z t)) (hd : (x == ("__debug__" : Str)) = false := by decide) : PE X (.Name x pos) (tC (.str z)) :=
  hm.elim fun t h => pe_glob (v := .str z) hg h ⟨t, rfl⟩ hd
theorem pe_gref {a : Addr} (hg : Gl X x) (hm : X.mg x = some (.ref a)) (hd : (x == ("__debug__" : Str)) = false := by decide) : PE X (.Name x pos) (tC (.ref a)) := pe_glob (v := .ref a) hg hm rfl hd
theorem pe_bty {n : String} (hg : Gl X x) (hm : X.mg x = none) (hv : bootBuiltins x = some (.type n)) (hn : x ≠ "__name__" := by decide) (hd : (x == ("__debug__" : Str)) = false := by decide) : PE X (.Name x pos) (tC (.ty n)) := pe_bltn (v := .ty n) hg hm hv rfl hn hd
end
theorem bt_int : bootBuiltins "int" = some (.type "int") := by decide +kernel
theorem bt_bool : bootBuiltins "bool" = some (.type "bool") := by decide +kernel
theorem bt_str : bootBuiltins "str" = some (.type "str") := by decide +kernel
theorem bt_list : bootBuiltins "list" = some (.type "list") := by decide +kernel
theorem bt_tuple : bootBuiltins "tuple" = some (.type "tuple") := by decide +kernel
theorem bt_dict : bootBuiltins "dict" = some (.type "dict") := by decide +kernel
theorem bt_ValueError : bootBuiltins "ValueError" = some (.type "ValueError") := by decide +kernel
theorem bt_set : bootBuiltins "set" = some (.type "set") := by decide +kernel
theorem bb_len : bootBuiltins "len" = some (.builtin "len") := by decide +kernel
theorem bb_isinstance : bootBuiltins "isinstance" = some (.builtin "isinstance") := by decide +kernel
theorem bb_all : bootBuiltins "all" = some (.builtin "all") := by decide +kernel
theorem bb_any : bootBuiltins "any" = some (.builtin "any") := by decide +kernel
theorem bb_sum : bootBuiltins "sum" = some (.builtin "sum") := by decide +kernel
theorem bb_min : bootBuiltins "min" = some (.builtin "min") := by decide +kernel
theorem bb_max : bootBuiltins "max" = some (.builtin "max") := by decide +kernel
theorem bb_abs : bootBuiltins "abs" = some (.builtin "abs") := by decide +kernel
theorem bb_divmod : bootBuiltins "divmod" = some (.builtin "divmod") := by decide +kernel
theorem bb_sorted : bootBuiltins "sorted" = some (.builtin "sorted") := by decide +kernel
theorem bb_repr : bootBuiltins "repr" = some (.builtin "repr") := by decide +kernel
/-! ### calls of built-ins by several kinds -/
section
variable {X : Cx}
def rLenK (K : PySem.W.Frag) : List V → Hp → VK → Prop := fun xs H Q => ∃ x n, xs = [x] ∧ LenV K x H n ∧ Q (.int n) H
theorem cr_lenK : CallR X (.builtin "len") (rLenK X.K) := call_len
def rIntK : List V → Hp → VK → Prop := fun xs H Q => (∃ i, xs = [.int i] ∧ Q (.int i) H) ∨ ∃ k, xs = [.bl k] ∧ Q (.int (if k then 1 else 0)) H
theorem cr_intK : CallR X (.type "int") rIntK := call_int1
def rListK (K : PySem.W.Frag) : List V → Hp → VK → Prop := fun xs H Q => ∃ p ys, xs = [.ref p] ∧ (SqL K H p ys ∨ SqT K H p ys) ∧ ∀ l, H l = none → Q (.ref l) (upd H l (.lst ys))
theorem cr_listK : CallR X (.type "list") (rListK X.K) := call_list_of
def rTupleK (K : PySem.W.Frag) : List V → Hp → VK → Prop := fun xs H Q => ∃ p ys, xs = [.ref p] ∧ ((SqL K H p ys ∧ ∀ l, H l = none → Q (.ref l) (upd H l (.tup ys))) ∨ (SqT K H p ys ∧ Q (.ref p) H))
theorem cr_tupleK : CallR X (.type "tuple") (rTupleK X.K) := call_tuple_of
def rDivmodK : List V → Hp → VK → Prop := fun xs H Q => ∃ i j, xs = [.int i, .int j] ∧ CDiv i j ∧ ∀ p, H p = none → Q (.ref p) (upd H p (.tup [.int (i / j), .int (i % j)]))
theorem cr_divmodK : CallR X (.builtin "divmod") rDivmodK := call_divmod
def rMax2K : List V → Hp → VK → Prop := fun xs H Q => ∃ i j, xs = [.int i, .int j] ∧ Q (.int (if j > i then j else i)) H
theorem cr_max2K (hc : X.calm = true) : CallR X (.builtin "max") rMax2K := call_max2 hc
def rMin2K : List V → Hp → VK → Prop := fun xs H Q => ∃ i j, xs = [.int i, .int j] ∧ Q (.int (if j < i then j else i)) H
theorem cr_min2K (hc : X.calm = true) : CallR X (.builtin "min") rMin2K := call_min2 hc
def rAbsK : List V → Hp → VK → Prop := fun xs H Q => ∃ i, xs = [.int i] ∧ Q (.int (if i < 0 then -i else i)) H
theorem cr_absK : CallR X (.builtin "abs") rAbsK := call_abs
def rSlK (K : PySem.W.Frag) : V → Option Int → Option Int → Hp → VK → Prop := fun x lo hi H Q => rSlL K x lo hi H Q ∨ rSlS x lo hi H Q ∨ rSlT K x lo hi H Q
theorem sl_K : SlR X (rSlK X.K) := SlR.or sl_list (SlR.or sl_str sl_tup)
end
end L2.BP
namespace L2.BP
open PySem PySem.Spec PyProof.Rows
/-! ### the heap as own objects over a base -/
structure Hs (B : Hp) (L : List (Addr × HO)) (H : Hp) : Prop where
  ex : Same B H
  nd : (L.map (·.1)).Nodup
  own : ∀ q ∈ L, H q.1 = some q.2 ∧ B q.1 = none
section
variable {B H H' : Hp} {L : List (Addr × HO)} {p : Addr} {o o' : HO} {K : PySem.W.Frag}
theorem Hs.start (H : Hp) : Hs H [] H := ⟨Same.refl H, .nil, fun _ h => nomatch h⟩
theorem Hs.same (h : Hs B L H) (s : Same H H') : Hs B L H' := ⟨h.ex.trans s, h.nd, fun q m => ⟨s _ _ (h.own q m).1, (h.own q m).2⟩⟩
theorem Hs.newS (h : Hs B L H) (hp : H p = none) (s : Same H H') (hn : H' p = some o) : Hs B ((p, o) :: L) H' where
  ex := h.ex.trans s
  nd := by
    refine List.nodup_cons.mpr ⟨fun m => ?_, h.nd⟩
    obtain ⟨q, mq, e⟩ := List.mem_map.mp m
    have z := (h.own q mq).1
    rw [e, hp] at z
    cases z
  own := fun q m => by
    rcases List.mem_cons.mp m with rfl | m
    · exact ⟨hn, h.ex.free hp⟩
    · exact ⟨s _ _ (h.own q m).1, (h.own q m).2⟩
theorem same_upd (hp : H p = none) : Same H (upd H p o) := fun b u e => by rw [upd_ne (ne_of_none e hp)]; exact e
theorem Hs.new (h : Hs B L H) (hp : H p = none) : Hs B ((p, o) :: L) (upd H p o) := h.newS hp (same_upd hp) upd_same
theorem Hs.drop {q : Addr × HO} (h : Hs B (q :: L) H) : Hs B L H := ⟨h.ex, (List.nodup_cons.mp h.nd).2, fun z m => h.own z (List.mem_cons_of_mem _ m)⟩
theorem Hs.get (h : Hs B L H) (m : (p, o) ∈ L) : H p = some o := (h.own _ m).1
theorem Hs.nb (h : Hs B L H) (m : (p, o) ∈ L) : B p = none := (h.own _ m).2
/-- the first of the own objects changed -/
theorem Hs.chg (h : Hs B ((p, o) :: L) H) (k : ∀ b u, b ≠ p → H b = some u → H' b = some u) (hn : H' p = some o') : Hs B ((p, o') :: L) H' where
  ex := fun b u e => k b u (ne_of_none e (h.nb (o := o) (.head _))) (h.ex b u e)
  nd := h.nd
  own := fun q m => by
    rcases List.mem_cons.mp m with rfl | m
    · exact ⟨hn, h.nb (o := o) (.head _)⟩
    · refine ⟨k _ _ (fun z => ?_) (h.own q (.tail _ m)).1, (h.own q (.tail _ m)).2⟩
      exact (List.nodup_cons.mp h.nd).1 (List.mem_map.mpr ⟨q, m, z⟩)
theorem Hs.perm {L' : List (Addr × HO)} (h : Hs B L H) (q : L.Perm L') : Hs B L' H := ⟨h.ex, (q.map _).nodup_iff.mp h.nd, fun z m => h.own z (q.mem_iff.mpr m)⟩
theorem Hs.swap {a b : Addr × HO} (h : Hs B (a :: b :: L) H) : Hs B (b :: a :: L) H := h.perm (.swap b a L)
theorem Hs.rot3 {a b c : Addr × HO} (h : Hs B (a :: b :: c :: L) H) : Hs B (c :: a :: b :: L) H := h.perm ((List.Perm.cons a (.swap c b L)).trans (.swap c a (b :: L)))
theorem Hs.unrot3 {a b c : Addr × HO} (h : Hs B (c :: a :: b :: L) H) : Hs B (a :: b :: c :: L) H := h.perm (((List.Perm.cons a (.swap c b L)).trans (.swap c a (b :: L))).symm)
theorem Hs.u0 (h : Hs B ((p, o) :: L) H) : Hs B ((p, o') :: L) (upd H p o') := h.chg (fun b u n e => by rw [upd_ne n]; exact e) upd_same
theorem Hs.u1 {a : Addr × HO} (h : Hs B (a :: (p, o) :: L) H) : Hs B (a :: (p, o') :: L) (upd H p o') := h.swap.u0.swap
theorem Hs.u2 {a b : Addr × HO} (h : Hs B (a :: b :: (p, o) :: L) H) : Hs B (a :: b :: (p, o') :: L) (upd H p o') := h.rot3.u0.unrot3
theorem Hs.u3 {a b c : Addr × HO} (h : Hs B (a :: b :: c :: (p, o) :: L) H) : Hs B (a :: b :: c :: (p, o') :: L) (upd H p o') := by
  have e : (a :: b :: c :: (p, o) :: L).Perm ((p, o) :: a :: b :: c :: L) := (List.perm_middle (l₁ := [a, b, c]) (a := (p, o)) (l₂ := L))
  have e' : ((p, o') :: a :: b :: c :: L).Perm (a :: b :: c :: (p, o') :: L) := (List.perm_middle (l₁ := [a, b, c]) (a := (p, o')) (l₂ := L)).symm
  exact ((h.perm e).u0 (o' := o')).perm e'
/-- the first one is laid to the base: it changes no more -/
theorem Hs.fix (h : Hs B ((p, o) :: L) H) : Hs (upd B p o) L H where
  ex := fun b u e => by
    by_cases hb : b = p
    · subst hb
      rw [upd_same] at e
      cases e
      exact h.get (.head _)
    · rw [upd_ne hb] at e
      exact h.ex b u e
  nd := (List.nodup_cons.mp h.nd).2
  own := fun q m => by
    refine ⟨(h.own q (.tail _ m)).1, ?_⟩
    have n : q.1 ≠ p := fun z => (List.nodup_cons.mp h.nd).1 (List.mem_map.mpr ⟨q, m, z⟩)
    rw [upd_ne n]
    exact (h.own q (.tail _ m)).2
theorem Hs.sql {xs : List V} (h : Hs B L H) (m : (p, HO.lst xs) ∈ L) : SqL K H p xs := .of (h.get m)
theorem Hs.sqt {xs : List V} (h : Hs B L H) (m : (p, HO.tup xs) ∈ L) : SqT K H p xs := .of (h.get m)
theorem Hs.bl {xs : List V} (h : Hs B L H) (m : SqL K B p xs) : SqL K H p xs := h.ex.seq m
theorem same_sqt {xs : List V} (e : Same H H') (h : SqT K H p xs) : SqT K H' p xs := by
  rcases h with (h | ⟨u, h⟩) | h
  · exact .inl (.inl (e _ _ h))
  · exact .inl (.inr ⟨u, e _ _ h⟩)
  · exact .inr h
theorem Hs.bt {xs : List V} (h : Hs B L H) (m : SqT K B p xs) : SqT K H p xs := same_sqt h.ex m
mutual
theorem dp_same (e : Same H H') : ∀ {v : V} {d : PyData}, Dp K H v d → Dp K H' v d
  | _, _, .non => .non
  | _, _, .bl b => .bl b
  | _, _, .int i => .int i
  | _, _, .str x => .str x
  | _, _, .lst h a => .lst (e.seq h) (dpa_same e a)
  | _, _, .tup h a => .tup (same_sqt e h) (dpa_same e a)
theorem dpa_same (e : Same H H') : ∀ {vs : List V} {ds : List PyData}, DpAll K H vs ds → DpAll K H' vs ds
  | _, _, .nil => .nil
  | _, _, .cons h a => .cons (dp_same e h) (dpa_same e a)
end
theorem dpa_ints : ∀ ns : List Int, DpAll K H (ns.map V.int) (ns.map PyData.int)
  | [] => .nil
  | n :: r => .cons (.int n) (dpa_ints r)
end
/-! ### readings, step by step -/
section
variable {σ : St} {H : Hp} {Q : VK} {v x y : V} {i j : Int} {ta tb te : TE} {K : PySem.W.Frag} {r : R2} {B : Hp} {L : List (Addr × HO)}
theorem c_var {n : Nat} (h : σ[n]? = some (some v)) (k : Q v H) : tVar n σ H Q := ⟨v, h, k⟩
theorem c_c (k : Q v H) : tC v σ H Q := k
theorem c_op (k : ta σ H fun x H1 => tb σ H1 fun y H2 => r x y H2 Q) : tOp r ta tb σ H Q := k
theorem c_un {r : V → Hp → VK → Prop} (k : ta σ H fun x H1 => r x H1 Q) : tUn r ta σ H Q := k
theorem c_addI (k : Q (.int (i + j)) H) : rAddU (.int i) (.int j) H Q := .inl ⟨i, j, rfl, rfl, k⟩
theorem c_addS {a b : Str} (h : a.length + b.length ≤ sizeLine) (k : Q (.str (a ++ b)) H) : rAddU (.str a) (.str b) H Q := .inr (.inl ⟨a, b, rfl, rfl, h, k⟩)
theorem c_addL {p q : Addr} {xs ys : List V} (h : Hs B L H) (hp : H p = some (.lst xs)) (hq : H q = some (.lst ys)) (hl : xs.length + ys.length ≤ sizeLine)
    (k : ∀ a H', Hs B ((a, .lst (xs ++ ys)) :: L) H' → Q (.ref a) H') : rAddU (.ref p) (.ref q) H Q :=
  .inr (.inr ⟨p, q, xs, ys, rfl, rfl, hp, hq, hl, fun a ha => k a _ (h.new ha)⟩)
theorem c_sub (k : Q (.int (i - j)) H) : rSubU (.int i) (.int j) H Q := ⟨i, j, rfl, rfl, k⟩
theorem c_mulI (h : CMul i j) (k : Q (.int (i * j)) H) : rMulU (.int i) (.int j) H Q := .inl ⟨i, j, rfl, rfl, h, k⟩
theorem c_rep {p : Addr} {xs : List V} (h : Hs B L H) (hp : H p = some (.lst xs)) (h1 : -(2 ^ 63) ≤ j) (h2 : j < 2 ^ 63) (hl : xs.length * j.toNat ≤ sizeLine)
    (k : ∀ a H', Hs B ((a, .lst (List.replicate j.toNat xs).flatten) :: L) H' → Q (.ref a) H') : rMulU (.ref p) (.int j) H Q :=
  .inr (.inl ⟨p, j, xs, rfl, rfl, hp, h1, h2, hl, fun a ha => k a _ (h.new ha)⟩)
theorem c_repS {z : Str} {n : Nat} (e : j = ((n : Nat) : Int)) (h1 : n ≤ 1000) (h2 : z.length ≤ 1000) (h3 : (repS z n).length ≤ 1000000) (k : Q (.str (repS z n)) H) : rMulU (.str z) (.int j) H Q := .inr (.inr ⟨z, n, rfl, by rw [e], h1, h2, h3, k⟩)
theorem c_div (h : CDiv i j) (k : Q (.int (i / j)) H) : rDivU (.int i) (.int j) H Q := ⟨i, j, rfl, rfl, h, k⟩
theorem c_mod (h : 0 < j) (k : Q (.int (i % j)) H) : rModU (.int i) (.int j) H Q := ⟨i, j, rfl, rfl, h, k⟩
theorem c_pow (h : CPow i j) (k : Q (.int (i ^ j.toNat)) H) : rPowU (.int i) (.int j) H Q := ⟨i, j, rfl, rfl, h, k⟩
theorem c_shl (h : CPow i j) (k : Q (.int (i * 2 ^ j.toNat)) H) : rShlU (.int i) (.int j) H Q := .inl ⟨i, j, rfl, rfl, h, k⟩
theorem c_shlW (h : CShl i j) (k : Q (.int (i * 2 ^ j.toNat)) H) : rShlU (.int i) (.int j) H Q := .inr ⟨i, j, rfl, rfl, h, k⟩
theorem c_shr (h : 0 ≤ j) (k : Q (.int (i / 2 ^ j.toNat)) H) : rShrU (.int i) (.int j) H Q := ⟨i, j, rfl, rfl, h, k⟩
theorem c_and (k : Q (.int (Builtin.bitAnd i j)) H) : rAndU (.int i) (.int j) H Q := ⟨i, j, rfl, rfl, k⟩
theorem c_or (k : Q (.int (Builtin.bitOr i j)) H) : rOrU (.int i) (.int j) H Q := ⟨i, j, rfl, rfl, k⟩
theorem c_xor (k : Q (.int (Builtin.bitXor i j)) H) : rXorU (.int i) (.int j) H Q := ⟨i, j, rfl, rfl, k⟩
theorem c_neg (k : Q (.int (-i)) H) : rNegU (.int i) H Q := ⟨i, rfl, k⟩
theorem c_lt (k : Q (.bl (decide (i < j))) H) : rLtU (.int i) (.int j) H Q := ⟨i, j, rfl, rfl, k⟩
theorem c_le (k : Q (.bl (decide (i ≤ j))) H) : rLeU (.int i) (.int j) H Q := ⟨i, j, rfl, rfl, k⟩
theorem c_gt (k : Q (.bl (decide (j < i))) H) : rGtU (.int i) (.int j) H Q := ⟨i, j, rfl, rfl, k⟩
theorem c_ge (k : Q (.bl (decide (j ≤ i))) H) : rGeU (.int i) (.int j) H Q := ⟨i, j, rfl, rfl, k⟩
theorem dec_of {p q : Prop} [Decidable p] [Decidable q] (h : p ↔ q) : decide p = decide q := by by_cases z : p <;> simp [z, h.mp, mt h.mpr] <;> simp_all
theorem c_eqI (k : Q (.bl (decide (i = j))) H) : rEqU K (.int i) (.int j) H Q := .inl ⟨rfl, by rw [dec_of (show V.int i = V.int j ↔ i = j by simp)]; exact k⟩
theorem c_neI (k : Q (.bl (!decide (i = j))) H) : rNeU K (.int i) (.int j) H Q := .inl ⟨rfl, by rw [dec_of (show V.int i = V.int j ↔ i = j by simp)]; exact k⟩
theorem c_eqS {a b : Str} (k : Q (.bl (decide (a = b))) H) : rEqU K (.str a) (.str b) H Q := .inl ⟨rfl, by rw [dec_of (show V.str a = V.str b ↔ a = b by simp)]; exact k⟩
theorem c_neS {a b : Str} (k : Q (.bl (!decide (a = b))) H) : rNeU K (.str a) (.str b) H Q := .inl ⟨rfl, by rw [dec_of (show V.str a = V.str b ↔ a = b by simp)]; exact k⟩
theorem c_eqB {a b : Bool} (k : Q (.bl (decide (a = b))) H) : rEqU K (.bl a) (.bl b) H Q := .inl ⟨rfl, by rw [dec_of (show V.bl a = V.bl b ↔ a = b by simp)]; exact k⟩
theorem c_neB {a b : Bool} (k : Q (.bl (!decide (a = b))) H) : rNeU K (.bl a) (.bl b) H Q := .inl ⟨rfl, by rw [dec_of (show V.bl a = V.bl b ↔ a = b by simp)]; exact k⟩
theorem c_eqD {d e : PyData} (hx : Dp K H x d) (hy : Dp K H y e) (h1 : SeqAt.shaped d = true) (h2 : SeqAt.shaped e = true) (k : Q (.bl (PyData.eqv d e)) H) : rEqU K x y H Q := .inr (.inl ⟨d, e, hx, hy, h1, h2, k⟩)
theorem c_neD {d e : PyData} (hx : Dp K H x d) (hy : Dp K H y e) (h1 : SeqAt.shaped d = true) (h2 : SeqAt.shaped e = true) (k : Q (.bl (!PyData.eqv d e)) H) : rNeU K x y H Q := .inr (.inl ⟨d, e, hx, hy, h1, h2, k⟩)
theorem c_isN (k : Q (.bl (decide (x = .non))) H) : rIsU x .non H Q := .inl ⟨rfl, k⟩
theorem c_notN (k : Q (.bl (!decide (x = .non))) H) : rNotU x .non H Q := .inl ⟨rfl, k⟩
theorem c_isB {a b : Bool} (k : Q (.bl (decide (a = b))) H) : rIsU (.bl a) (.bl b) H Q := .inr ⟨a, b, rfl, rfl, k⟩
theorem c_notB {a b : Bool} (k : Q (.bl (!decide (a = b))) H) : rNotU (.bl a) (.bl b) H Q := .inr ⟨a, b, rfl, rfl, k⟩
theorem c_ixL {p : Addr} {xs : List V} (h : SqL K H p xs) (ha : atI xs i = some v) (k : Q v H) : rIx K (.ref p) (.int i) H Q := .inl ⟨p, xs, i, v, rfl, rfl, h, ha, k⟩
theorem c_ixT {p : Addr} {xs : List V} (h : SqT K H p xs) (ha : atI xs i = some v) (k : Q v H) : rIx K (.ref p) (.int i) H Q := .inr (.inl ⟨p, xs, i, v, rfl, rfl, h, ha, k⟩)
theorem c_ixS {z : Str} {c : Nat} (h : z.length ≤ sizeLine) (ha : atI z.cps.toList i = some c) (k : Q (.str ⟨#[c]⟩) H) : rIx K (.str z) (.int i) H Q := .inr (.inr ⟨z, i, c, rfl, rfl, h, ha, k⟩)
theorem c_slL {p : Addr} {xs : List V} {lo hi : Option Int} (h : Hs B L H) (hq : SqL K H p xs) (k : ∀ a H', Hs B ((a, .lst (cutV xs lo hi)) :: L) H' → Q (.ref a) H') : rSlK K (.ref p) lo hi H Q :=
  .inl ⟨p, xs, rfl, hq, fun a ha => k a _ (h.new ha)⟩
theorem c_slS {z : Str} {lo hi : Option Int} (h : z.length ≤ sizeLine) (k : Q (.str (cutS z lo hi)) H) : rSlK K (.str z) lo hi H Q := .inr (.inl ⟨z, rfl, h, k⟩)
theorem c_andV (k : ta σ H fun x H1 => ∃ c, x = .bl c ∧ if c = true then tb σ H1 Q else Q (.bl false) H1) : tAndV ta tb σ H Q := k
theorem c_orV (k : ta σ H fun x H1 => ∃ c, x = .bl c ∧ if c = true then Q (.bl true) H1 else tb σ H1 Q) : tOrV ta tb σ H Q := k
theorem c_notV (k : ta σ H fun x H1 => ∃ c, x = .bl c ∧ Q (.bl (!c)) H1) : tNotV ta σ H Q := k
theorem c_bl {b : Bool} {P : Bool → Prop} (k : P b) : ∃ c, V.bl b = V.bl c ∧ P c := ⟨b, rfl, k⟩
theorem c_test {P : Bool → Hp → Prop} (k : te σ H fun x H' => ∃ c, x = .bl c ∧ P c H') : tTest te σ H P := k
theorem c_B {P : Bool → Hp → Prop} (k : te σ H fun x H' => ∃ c, x = .bl c ∧ P c H') : tB te σ H P := k
theorem c_chain {r' : R2} {tc : TE} (k : ta σ H fun x H1 => tb σ H1 fun y H2 => r x y H2 fun z H3 => ∃ c, z = .bl c ∧ (if c = true then tc σ H3 fun w H4 => r' y w H4 Q else Q (.bl false) H3)) : tChain r r' ta tb tc σ H Q := k
section
variable {t u : TT} {P : Bool → Hp → Prop}
theorem c_tand (k : t σ H fun c H1 => if c = true then u σ H1 P else P false H1) : tAnd t u σ H P := k
theorem c_tor (k : t σ H fun c H1 => if c = true then P true H1 else u σ H1 P) : tOr t u σ H P := k
theorem c_tnot (k : t σ H fun c H1 => P (!c) H1) : tNot t σ H P := k
theorem c_if (k : t σ H fun c H1 => if c = true then ta σ H1 Q else tb σ H1 Q) : tIf t ta tb σ H Q := k
end
section
variable {P : List V → Hp → Prop} {tr : TA}
theorem c_nil (k : P [] H) : tNil σ H P := k
theorem c_cons (k : te σ H fun x H1 => tr σ H1 fun xs H2 => P (x :: xs) H2) : tCons te tr σ H P := k
def TupO (xs : List V) (H : Hp) (Q : VK) : Prop := xs.length ≤ sizeLine ∧ ∀ p, H p = none → Q (.ref p) (upd H p (.tup xs))
def LstO (xs : List V) (H : Hp) (Q : VK) : Prop := xs.length ≤ sizeLine ∧ ∀ p, H p = none → Q (.ref p) (upd H p (.lst xs))
theorem c_tup (k : tr σ H fun xs H1 => TupO xs H1 Q) : tTup tr σ H Q := k
theorem c_lst (k : tr σ H fun xs H1 => LstO xs H1 Q) : tLst tr σ H Q := k
theorem c_tupO {xs : List V} (h : Hs B L H) (hl : xs.length ≤ sizeLine) (k : ∀ p H', Hs B ((p, .tup xs) :: L) H' → Q (.ref p) H') : TupO xs H Q := ⟨hl, fun p hp => k p _ (h.new hp)⟩
theorem c_lstO {xs : List V} (h : Hs B L H) (hl : xs.length ≤ sizeLine) (k : ∀ p H', Hs B ((p, .lst xs) :: L) H' → Q (.ref p) H') : LstO xs H Q := ⟨hl, fun p hp => k p _ (h.new hp)⟩
theorem c_cb {r : List V → Hp → VK → Prop} (k : tr σ H fun vs H1 => r vs H1 Q) : tCB r tr σ H Q := k
theorem c_lenL {p : Addr} {xs : List V} (h : SqL K H p xs) (k : Q (.int xs.length) H) : rLenK K [.ref p] H Q := ⟨_, _, rfl, .inl ⟨xs, h, rfl⟩, k⟩
theorem c_lenT {p : Addr} {xs : List V} (h : SqT K H p xs) (k : Q (.int xs.length) H) : rLenK K [.ref p] H Q := ⟨_, _, rfl, .inr ⟨xs, h, rfl⟩, k⟩
theorem c_lenS {z : Str} (h : z.length ≤ sizeLine) (k : Q (.int z.length) H) : rLenK K [.str z] H Q := ⟨_, _, rfl, ⟨h, rfl⟩, k⟩
theorem c_intI (k : Q (.int i) H) : rIntK [.int i] H Q := .inl ⟨i, rfl, k⟩
theorem c_intB {b : Bool} (k : Q (.int (if b then 1 else 0)) H) : rIntK [.bl b] H Q := .inr ⟨b, rfl, k⟩
theorem c_listL {p : Addr} {xs : List V} (h : Hs B L H) (hq : SqL K H p xs) (k : ∀ a H', Hs B ((a, .lst xs) :: L) H' → Q (.ref a) H') : rListK K [.ref p] H Q := ⟨p, xs, rfl, .inl hq, fun a ha => k a _ (h.new ha)⟩
theorem c_listT {p : Addr} {xs : List V} (h : Hs B L H) (hq : SqT K H p xs) (k : ∀ a H', Hs B ((a, .lst xs) :: L) H' → Q (.ref a) H') : rListK K [.ref p] H Q := ⟨p, xs, rfl, .inr hq, fun a ha => k a _ (h.new ha)⟩
theorem c_divmod (h : Hs B L H) (c : CDiv i j) (k : ∀ a H', Hs B ((a, .tup [.int (i / j), .int (i % j)]) :: L) H' → Q (.ref a) H') : rDivmodK [.int i, .int j] H Q := ⟨i, j, rfl, c, fun a ha => k a _ (h.new ha)⟩
theorem c_max2 (k : Q (.int (if j > i then j else i)) H) : rMax2K [.int i, .int j] H Q := ⟨i, j, rfl, k⟩
theorem c_min2 (k : Q (.int (if j < i then j else i)) H) : rMin2K [.int i, .int j] H Q := ⟨i, j, rfl, k⟩
theorem c_abs (k : Q (.int (if i < 0 then -i else i)) H) : rAbsK [.int i] H Q := ⟨i, rfl, k⟩
theorem c_sum {p : Addr} {ns : List Int} (h : SqL K H p (ns.map V.int)) (k : Q (.int ns.sum) H) : rSum K [.ref p] H Q := ⟨p, ns, rfl, h, k⟩
theorem c_all {p : Addr} {bs : List Bool} (h : SqL K H p (bs.map V.bl)) (k : Q (.bl (bs.all id)) H) : rAll K [.ref p] H Q := ⟨p, bs, rfl, h, k⟩
theorem c_any {p : Addr} {bs : List Bool} (h : SqL K H p (bs.map V.bl)) (k : Q (.bl (bs.any id)) H) : rAny K [.ref p] H Q := ⟨p, bs, rfl, h, k⟩
theorem c_cl {sp : Sp} {dvs : List V} {W : WX} (k : tr σ H fun vs H1 => sp (vs ++ dvs) H1 Q fun c d H2 => W c d σ H2) : tCl sp dvs W tr σ H Q := k
theorem c_mt {C : Addr} {m : Str} {sp : Sp} {dvs : List V} {W : WX} (k : te σ H fun x H1 => ∃ a dx fs, x = .ref a ∧ H1 a = some (.ins C dx fs) ∧ fs.lookup m = none ∧ tr σ H1 fun vs H2 => sp (x :: (vs ++ dvs)) H2 Q fun c d H3 => W c d σ H3) : tMt C m sp dvs W te tr σ H Q := k
theorem c_recv {C dx p : Addr} {fs : List (Str × V)} {m : Str} {P : Prop} (h : H p = some (.ins C dx fs)) (hl : fs.lookup m = none) (k : P) : ∃ a dx fs, V.ref p = .ref a ∧ H a = some (.ins C dx fs) ∧ fs.lookup m = none ∧ P := ⟨p, dx, fs, rfl, h, hl, k⟩
end
/-! isinstance -/
theorem tyx_sql {p : Addr} {xs : List V} (h : SqL K H p xs) : TyX K H (.ref p) (.type "list") := by
  rcases h with (h | ⟨u, h⟩) | ⟨o, a, b, h1, h2, _⟩
  · exact .base (.lst h)
  · exact .base (.frz h)
  · exact .kList h1 h2
theorem c_isi {c : V} {t u : Value} {b : Bool} (T : TyX K H x t) (hc : ClsV c u) (e : PySem.W.kitOne K t u = some b) (k : Q (.bl b) H) : rIsi K [x, c] H Q := ⟨x, c, t, u, b, rfl, hc, T, e, k⟩
theorem k_int_int : PySem.W.kitOne K (.type "int") (.type "int") = some true := kit_ty (by decide +kernel)
theorem k_int_bool : PySem.W.kitOne K (.type "int") (.type "bool") = some false := kit_ty (by decide +kernel)
theorem k_list_list : PySem.W.kitOne K (.type "list") (.type "list") = some true := kit_ty (by decide +kernel)
theorem c_isi_ii (k : Q (.bl true) H) : rIsi K [.int i, .ty "int"] H Q := c_isi (.base (.int i)) (.ty _) k_int_int k
theorem c_isi_ib (k : Q (.bl false) H) : rIsi K [.int i, .ty "bool"] H Q := c_isi (.base (.int i)) (.ty _) k_int_bool k
theorem c_isi_ll {p : Addr} {xs : List V} (h : SqL K H p xs) (k : Q (.bl true) H) : rIsi K [.ref p, .ty "list"] H Q := c_isi (tyx_sql h) (.ty _) k_list_list k
/-! fields -/
def FldO (K : PySem.W.Frag) (f : Str) (x : V) (H : Hp) (Q : VK) : Prop := ∃ a C dx fs v, x = .ref a ∧ H a = some (.ins C dx fs) ∧ Cls K C ∧ NoAttr K C f ∧ fs.lookup f = some v ∧ Q v H
theorem c_fld {f : Str} {C dx p : Addr} {fs : List (Str × V)} (h : H p = some (.ins C dx fs)) (hc : Cls K C) (hn : NoAttr K C f) (hl : fs.lookup f = some v) (k : Q v H) : FldO K f (.ref p) H Q := ⟨p, C, dx, fs, v, rfl, h, hc, hn, hl, k⟩
end
/-! ### statements -/
section
variable {σ : St} {H : Hp} {dn : St → Hp → Prop} {dr : VK} {db dc : St → Hp → Prop} {t u : TS} {te : TE} {g : TG} {v : V} {b : Bool}
theorem w_seq (k : t ⟨u ⟨dn, dr, db, dc⟩, dr, db, dc⟩ σ H) : tSeq t u ⟨dn, dr, db, dc⟩ σ H := k
theorem w_asg (k : te σ H fun x H1 => g x σ H1 dn) : tAsg te g ⟨dn, dr, db, dc⟩ σ H := k
theorem w_name {n : Nat} {P : St → Hp → Prop} (k : P (σ.set n (some v)) H) : gName n v σ H P := k
theorem w_drop (k : te σ H fun _ H1 => dn σ H1) : tDrop te ⟨dn, dr, db, dc⟩ σ H := k
theorem w_ret (k : te σ H dr) : tRet te ⟨dn, dr, db, dc⟩ σ H := k
theorem w_if {c : TT} (k : c σ H fun b H1 => if b = true then t ⟨dn, dr, db, dc⟩ σ H1 else u ⟨dn, dr, db, dc⟩ σ H1) : tIfS c t u ⟨dn, dr, db, dc⟩ σ H := k
theorem w_next (k : dn σ H) : tNext ⟨dn, dr, db, dc⟩ σ H := k
theorem i_t {A A' : Prop} (h : b = true) (k : A) : if b = true then A else A' := by rw [if_pos h]; exact k
theorem i_f {A A' : Prop} (h : b = false) (k : A') : if b = true then A else A' := by rw [h, if_neg Bool.false_ne_true]; exact k
theorem i_2 {A A' : Prop} (k : b = true → A) (k' : b = false → A') : if b = true then A else A' := by cases b; exact iteF (k' rfl); exact iteT (k rfl)
theorem w_aug {n : Nat} {ti : TIp} (h : σ[n]? = some (some v)) (k : te σ H fun y H1 => ti v y H1 fun z H2 => dn (σ.set n (some z)) H2) : tAug n te ti ⟨dn, dr, db, dc⟩ σ H := ⟨v, h, k⟩
theorem c_ipAddI {i j : Int} {Q : VK} (k : Q (.int (i + j)) H) : ipAddU (.int i) (.int j) H Q := .inl ⟨i, j, rfl, rfl, k⟩
theorem c_ipSub {i j : Int} {Q : VK} (k : Q (.int (i - j)) H) : ipSubU (.int i) (.int j) H Q := ⟨i, j, rfl, rfl, k⟩
end
/-! ### loops over what has plain items -/
section
variable {α : Type} {K : PySem.W.Frag} {a : Addr} {g : TG} {tb : TS} {dn : St → Hp → Prop} {dr : VK} {db dc : St → Hp → Prop} {σ : St} {H : Hp}
theorem take_split {l : List α} {i : Nat} {x : α} (h : l[i]? = some x) : l = l.take i ++ x :: l.drop (i + 1) ∧ l.take (i + 1) = l.take i ++ [x] := by
  obtain ⟨hi, e⟩ := List.getElem?_eq_some_iff.mp h
  subst e
  refine ⟨?_, by rw [List.take_add_one, h]; rfl⟩
  conv => lhs; rw [← List.take_append_drop i l, List.drop_eq_getElem_cons hi]
theorem for_l (f : α → V) (l : List α) (Pv : List α → St → Hp → Prop) (h0 : Pv [] σ H) (hq : ∀ pre post σ H, l = pre ++ post → Pv pre σ H → SqL K H a (l.map f))
    (hs : ∀ pre x post σ H, l = pre ++ x :: post → Pv pre σ H → g (f x) σ H fun σ2 H2 => tb ⟨Pv (pre ++ [x]), dr, dn, Pv (pre ++ [x])⟩ σ2 H2) (hd : ∀ σ H, Pv l σ H → dn σ H) :
    ∃ W : Nat → Nat → St → Hp → Prop, (∃ m, W 0 m σ H) ∧ ∀ i m σ H, W i m σ H →
      ((Itl K a).stop i H ∧ dn σ H) ∨ ((Itl K a).go i H ∧ ∃ N : St → Hp → Prop, (∀ σ' H', N σ' H' → ∃ m', m' < m ∧ W (i + 1) m' σ' H') ∧ ∀ x H', (Itl K a).yld i H x H' → g x σ H' fun σ2 H2 => tb ⟨N, dr, dn, N⟩ σ2 H2) := by
  refine L2.for_list (D := { nx := dn, rt := dr }) (xs := l.map f) (fun i => Pv (l.take i)) (by simpa using h0) (fun i σ H _ p => hq _ (l.drop i) σ H (List.take_append_drop i l).symm p) (fun i x σ H hx p => ?_) (fun σ H p => hd σ H (by simpa using p))
  rw [List.getElem?_map] at hx
  cases e : l[i]? with
  | none => rw [e] at hx; cases hx
  | some y =>
    rw [e] at hx
    cases hx
    obtain ⟨e1, e2⟩ := take_split e
    have z := hs _ y _ σ H e1 p
    rw [e2]
    exact z
theorem lc_l {tt : TT} {te : TE} {vs : List Nat} {D : Addr} {Qd : Hp → Prop} (f : α → V) (l : List α) (Pv : List α → Hp → Prop) (h0 : Pv [] (upd H D (.lst []))) (hq : ∀ pre post H, l = pre ++ post → Pv pre H → SqL K H a (l.map f))
    (hs : ∀ pre x post H, l = pre ++ x :: post → Pv pre H → g (f x) (wipe σ vs) H fun σ2 H2 => wipe σ2 vs = wipe σ vs ∧ tt σ2 H2 fun b H3 =>
      if b = true then te σ2 H3 fun y H4 => ∃ acc, H4 D = some (.lst acc) ∧ acc.length < sizeLine ∧ Pv (pre ++ [x]) (upd H4 D (.lst (acc ++ [y]))) else Pv (pre ++ [x]) H3) (hd : ∀ H, Pv l H → Qd H) :
    ∃ W : Nat → Nat → Hp → Prop, (∃ m, W 0 m (upd H D (.lst []))) ∧ ∀ i m H, W i m H →
      ((Itl K a).stop i H ∧ Qd H) ∨ ((Itl K a).go i H ∧ ∃ Nx : Hp → Prop, (∀ H', Nx H' → ∃ m', m' < m ∧ W (i + 1) m' H') ∧ ∀ x H', (Itl K a).yld i H x H' → g x (wipe σ vs) H' fun σ2 H2 => wipe σ2 vs = wipe σ vs ∧ tt σ2 H2 fun b H3 =>
        if b = true then te σ2 H3 fun y H4 => ∃ acc, H4 D = some (.lst acc) ∧ acc.length < sizeLine ∧ Nx (upd H4 D (.lst (acc ++ [y]))) else Nx H3) := by
  refine L2.lc_list (xs := l.map f) (fun i => Pv (l.take i)) (by simpa using h0) (fun i H _ p => hq _ (l.drop i) H (List.take_append_drop i l).symm p) (fun i x H hx p => ?_) (fun H p => hd H (by simpa using p))
  rw [List.getElem?_map] at hx
  cases e : l[i]? with
  | none => rw [e] at hx; cases hx
  | some y =>
    rw [e] at hx
    cases hx
    obtain ⟨e1, e2⟩ := take_split e
    have z := hs _ y _ H e1 p
    rw [e2]
    exact z
end
end L2.BP
namespace L2.BP
open PySem PySem.Spec PyProof.Rows
/-- a def as callers see it: what its defaults are, how the written arguments bind, its promise -/
def DOk (P : Program) (w : World) (K : PySem.W.Frag) (mg : Str → Option Value) (base : Heap) (k : Nat) (f : Addr) (ps : List Str) (dvs : List V) (sp : Sp) : Prop :=
  ∃ (fd : FuncData) (ds : List Value), Vals dvs ds ∧ Binds K fd ps ds ∧ FnOk P w K mg base (L2.CX P w) k f fd ps sp ∧ PySem.W.keepIn K (.ref f) = true
abbrev WF : WX := fun _ _ _ _ => False
/-! ### one of two readings of the same expression -/
def tOrE (t u : TE) : TE := fun σ H Q => t σ H Q ∨ u σ H Q
theorem pe_orE {X : Cx} {e : Expr} {t u : TE} (h : PE X e t) (h' : PE X e u) : PE X e (tOrE t u) :=
  ⟨fun pins s σ H Q I z => z.elim (h.run pins s σ H Q I) (h'.run pins s σ H Q I)⟩
/-! ### kinds of things -/
inductive Tg where
  | non | bl (b : Bool) | int (i : Int) | str (x : Str) | lst (xs : List V) | tup (xs : List V) | dic
/-- the thing v is of that kind -/
inductive Th (K : PySem.W.Frag) (H : Hp) : V → Tg → Prop where
  | non : Th K H .non .non
  | bl (b : Bool) : Th K H (.bl b) (.bl b)
  | int (i : Int) : Th K H (.int i) (.int i)
  | str (x : Str) : Th K H (.str x) (.str x)
  | lst {a : Addr} {xs : List V} (h : SqL K H a xs) : Th K H (.ref a) (.lst xs)
  | tup {a : Addr} {xs : List V} (h : SqT K H a xs) : Th K H (.ref a) (.tup xs)
  | dic {a : Addr} {kvs : List (Key × V)} (h : H a = some (.dK kvs)) : Th K H (.ref a) .dic
def Tg.ty : Tg → String
  | .non => "NoneType" | .bl _ => "bool" | .int _ => "int" | .str _ => "str" | .lst _ => "list" | .tup _ => "tuple" | .dic => "dict"
section
variable {K : PySem.W.Frag} {H H' : Hp} {v : V} {g : Tg} {Q : VK}
theorem Th.same (h : Th K H v g) (e : Same H H') : Th K H' v g := by
  cases h with
  | non => exact .non
  | bl b => exact .bl b
  | int i => exact .int i
  | str x => exact .str x
  | lst h => exact .lst (e.seq h)
  | tup h => exact .tup (same_sqt e h)
  | dic h => exact .dic (e _ _ h)
theorem tyx_sqt {p : Addr} {xs : List V} (h : SqT K H p xs) : TyX K H (.ref p) (.type "tuple") := by
  rcases h with (h | ⟨u, h⟩) | ⟨o, a, b, h1, h2, _⟩
  · exact .base (.tup h)
  · exact .fTuple h
  · exact .kTuple h1 h2
theorem Th.tyx (h : Th K H v g) : TyX K H v (.type g.ty) := by
  cases h with
  | non => exact .base .non
  | bl b => exact .base (.bl b)
  | int i => exact .base (.int i)
  | str x => exact .base (.str x)
  | lst h => exact tyx_sql h
  | tup h => exact tyx_sqt h
  | dic h => exact .base (.dK h)
def Tg.isInt : Tg → Bool
  | .bl _ => true | .int _ => true | _ => false
def Tg.isBool : Tg → Bool
  | .bl _ => true | _ => false
def Tg.isList : Tg → Bool
  | .lst _ => true | _ => false
def Tg.isStr : Tg → Bool
  | .str _ => true | _ => false
def Tg.isTup : Tg → Bool
  | .tup _ => true | _ => false
theorem Tg.kInt (g : Tg) : PySem.W.kitOne K (.type g.ty) (.type "int") = some g.isInt := by cases g <;> exact kit_ty (by kernel_rfl)
theorem Tg.kBool (g : Tg) : PySem.W.kitOne K (.type g.ty) (.type "bool") = some g.isBool := by cases g <;> exact kit_ty (by kernel_rfl)
theorem Tg.kList (g : Tg) : PySem.W.kitOne K (.type g.ty) (.type "list") = some g.isList := by cases g <;> exact kit_ty (by kernel_rfl)
theorem Tg.kStr (g : Tg) : PySem.W.kitOne K (.type g.ty) (.type "str") = some g.isStr := by cases g <;> exact kit_ty (by kernel_rfl)
theorem Tg.kTup (g : Tg) : PySem.W.kitOne K (.type g.ty) (.type "tuple") = some g.isTup := by cases g <;> exact kit_ty (by kernel_rfl)
theorem c_isiInt (h : Th K H v g) (k : Q (.bl g.isInt) H) : rIsi K [v, .ty "int"] H Q := c_isi h.tyx (.ty _) g.kInt k
theorem c_isiBool (h : Th K H v g) (k : Q (.bl g.isBool) H) : rIsi K [v, .ty "bool"] H Q := c_isi h.tyx (.ty _) g.kBool k
theorem c_isiList (h : Th K H v g) (k : Q (.bl g.isList) H) : rIsi K [v, .ty "list"] H Q := c_isi h.tyx (.ty _) g.kList k
theorem c_isiStr (h : Th K H v g) (k : Q (.bl g.isStr) H) : rIsi K [v, .ty "str"] H Q := c_isi h.tyx (.ty _) g.kStr k
theorem c_isiTup (h : Th K H v g) (k : Q (.bl g.isTup) H) : rIsi K [v, .ty "tuple"] H Q := c_isi h.tyx (.ty _) g.kTup k
/-- the results of defs that change nothing: a value, a new list, a new tuple -/
def RetV (H : Hp) (Q : VK) (v : V) : Prop := ∀ H', Same H H' → Q v H'
def RetL (H : Hp) (Q : VK) (xs : List V) : Prop := ∀ p H', H p = none → Same H H' → H' p = some (.lst xs) → Q (.ref p) H'
def RetT (H : Hp) (Q : VK) (xs : List V) : Prop := ∀ p H', H p = none → Same H H' → H' p = some (.tup xs) → Q (.ref p) H'
end
section
variable {B H : Hp} {L : List (Addr × HO)} {K : PySem.W.Frag} {Q : VK} {v : V} {xs : List V}
theorem Hs.rv (h : Hs B L H) (k : RetV B Q v) : Q v H := k H h.ex
theorem Hs.rl {p : Addr} (h : Hs B L H) (m : (p, HO.lst xs) ∈ L) (k : RetL B Q xs) : Q (.ref p) H := k p H (h.nb m) h.ex (h.get m)
theorem Hs.rt {p : Addr} (h : Hs B L H) (m : (p, HO.tup xs) ∈ L) (k : RetT B Q xs) : Q (.ref p) H := k p H (h.nb m) h.ex (h.get m)
theorem retV (h : Hs B L H) (k : ∀ H', Hs B L H' → Q v H') : RetV H Q v := fun H' e => k H' (h.same e)
theorem retL (h : Hs B L H) (k : ∀ p H', Hs B ((p, .lst xs) :: L) H' → Q (.ref p) H') : RetL H Q xs := fun p H' hp e hn => k p H' (h.newS hp e hn)
theorem retT (h : Hs B L H) (k : ∀ p H', Hs B ((p, .tup xs) :: L) H' → Q (.ref p) H') : RetT H Q xs := fun p H' hp e hn => k p H' (h.newS hp e hn)
end
end L2.BP
namespace L2.BP
open PySem PySem.Spec PyProof.Rows
/-! ### loops over the picture of the heap: I tells of what is done, the slots, the own objects, the base -/
abbrev Pic : Type := List (Addr × HO)
section
variable {α : Type} {K : PySem.W.Frag} {a : Addr} {g : TG} {tb : TS} {dn : St → Hp → Prop} {dr : VK} {db dc : St → Hp → Prop} {σ : St} {H B : Hp} {L : Pic}
/-- a list that is read stands in the base, or is an own one that is not changed -/
def NxI {β : Type} (I : β → St → Pic → Hp → Prop) (b : β) : St → Hp → Prop := fun σ H => ∃ L B, I b σ L B ∧ Hs B L H
theorem w_forL (f : α → V) (l : List α) (I : List α → St → Pic → Hp → Prop) (hs : Hs B L H) (h0 : I [] σ L B) (hq : ∀ pre post σ' L' B' H', l = pre ++ post → I pre σ' L' B' → Hs B' L' H' → SqL K H' a (l.map f))
    (turn : ∀ pre x post σ' L' B' H', l = pre ++ x :: post → I pre σ' L' B' → Hs B' L' H' → g (f x) σ' H' fun σ2 H2 => tb ⟨NxI I (pre ++ [x]), dr, dn, NxI I (pre ++ [x])⟩ σ2 H2)
    (fin : ∀ σ' L' B' H', I l σ' L' B' → Hs B' L' H' → dn σ' H') :
    ∃ b, V.ref a = .ref b ∧ (∃ xs, SqL K H b xs) ∧ ∃ W : Nat → Nat → St → Hp → Prop, (∃ m, W 0 m σ H) ∧ ∀ i m σ H, W i m σ H →
      ((Itl K b).stop i H ∧ dn σ H) ∨ ((Itl K b).go i H ∧ ∃ N : St → Hp → Prop, (∀ σ' H', N σ' H' → ∃ m', m' < m ∧ W (i + 1) m' σ' H') ∧ ∀ x H', (Itl K b).yld i H x H' → g x σ H' fun σ2 H2 => tb ⟨N, dr, dn, N⟩ σ2 H2) :=
  ⟨a, rfl, ⟨_, hq [] l σ L B H rfl h0 hs⟩, for_l f l (NxI I) ⟨L, B, h0, hs⟩ (fun pre post σ' H' e ⟨_, _, i, h⟩ => hq pre post _ _ _ _ e i h) (fun pre x post σ' H' e ⟨_, _, i, h⟩ => turn pre x post _ _ _ _ e i h) fun σ' H' ⟨_, _, i, h⟩ => fin _ _ _ _ i h⟩
theorem w_forR {lo : Int} {n : Nat} (I : Nat → St → Pic → Hp → Prop) (hs : Hs B L H) (h0 : I 0 σ L B)
    (turn : ∀ i σ' L' B' H', i < n → I i σ' L' B' → Hs B' L' H' → g (.int (lo + i)) σ' H' fun σ2 H2 => tb ⟨NxI I (i + 1), dr, dn, NxI I (i + 1)⟩ σ2 H2)
    (fin : ∀ σ' L' B' H', I n σ' L' B' → Hs B' L' H' → dn σ' H') :
    ∃ W : Nat → Nat → St → Hp → Prop, (∃ m, W 0 m σ H) ∧ ∀ i m σ H, W i m σ H →
      ((Itr lo n).stop i H ∧ dn σ H) ∨ ((Itr lo n).go i H ∧ ∃ N : St → Hp → Prop, (∀ σ' H', N σ' H' → ∃ m', m' < m ∧ W (i + 1) m' σ' H') ∧ ∀ x H', (Itr lo n).yld i H x H' → g x σ H' fun σ2 H2 => tb ⟨N, dr, dn, N⟩ σ2 H2) :=
  L2.for_range (D := { nx := dn, rt := dr }) (NxI I) ⟨L, B, h0, hs⟩ (fun i σ' H' e ⟨_, _, q, h⟩ => turn i _ _ _ _ e q h) fun σ' H' ⟨_, _, q, h⟩ => fin _ _ _ _ q h
theorem c_rng1 {n : Int} {P : It → Hp → Prop} (h1 : -(2 ^ 62) ≤ n) (h2 : n < 2 ^ 62) (k : P (Itr 0 n.toNat) H) : ∃ j : Int, [V.int n] = [.int j] ∧ -(2 ^ 62) ≤ j ∧ j < 2 ^ 62 ∧ P (Itr 0 j.toNat) H := ⟨n, rfl, h1, h2, k⟩
theorem c_rng2 {i j : Int} {P : It → Hp → Prop} (h1 : -(2 ^ 62) ≤ i ∧ i < 2 ^ 62 ∧ -(2 ^ 62) ≤ j ∧ j < 2 ^ 62) (k : P (Itr i (j - i).toNat) H) :
    ∃ i' j' : Int, [V.int i, V.int j] = [.int i', .int j'] ∧ (-(2 ^ 62) ≤ i' ∧ i' < 2 ^ 62 ∧ -(2 ^ 62) ≤ j' ∧ j' < 2 ^ 62) ∧ P (Itr i' (j' - i').toNat) H := ⟨i, j, rfl, h1, k⟩
/-- while: I falls by its number -/
def WhN (I : Nat → St → Pic → Hp → Prop) (m : Nat) : St → Hp → Prop := fun σ H => ∃ m', m' < m ∧ NxI I m' σ H
theorem w_while {c : TT} (I : Nat → St → Pic → Hp → Prop) (m0 : Nat) (hs : Hs B L H) (h0 : I m0 σ L B)
    (turn : ∀ m σ' L' B' H', I m σ' L' B' → Hs B' L' H' → c σ' H' fun b H1 => if b = true then ∃ N : St → Hp → Prop, (∀ σ3 H3, N σ3 H3 → WhN I m σ3 H3) ∧ tb ⟨N, dr, dn, N⟩ σ' H1 else dn σ' H1) :
    tWhile c tb ⟨dn, dr, db, dc⟩ σ H := ⟨fun m => NxI I m, ⟨m0, L, B, h0, hs⟩, fun m σ' H' ⟨_, _, q, h⟩ => turn m σ' _ _ H' q h⟩
theorem w_turn {P : St → Hp → Prop} (k : tb ⟨P, dr, dn, P⟩ σ H) : ∃ N : St → Hp → Prop, (∀ σ3 H3, N σ3 H3 → P σ3 H3) ∧ tb ⟨N, dr, dn, N⟩ σ H := ⟨_, fun _ _ w => w, k⟩
end
/-! ### comprehensions -/
section
variable {α : Type} {K : PySem.W.Frag} {a : Addr} {g : TG} {tt : TT} {te tl : TE} {σ : St} {H B : Hp} {L : Pic} {Q : VK} {vs : List Nat}
/-- the turn's word: what was made so far stands at D -/
def LcN (I : List α → List V → Hp → Prop) (B : Hp) (L : Pic) (D : Addr) (pre : List α) : Hp → Prop := fun H' => ∃ acc B', I pre acc B' ∧ Same B B' ∧ Hs B' ((D, .lst acc) :: L) H'
theorem c_lcL {P : Addr → Hp → Prop} (f : α → V) (l : List α) (I : List α → List V → Hp → Prop) (hs : Hs B L H) (h0 : I [] [] B)
    (hq : ∀ B' H', Same B B' → Hs B' L H' → SqL K H' a (l.map f))
    (turn : ∀ pre x post acc B' D H', l = pre ++ x :: post → I pre acc B' → Same B B' → Hs B' ((D, .lst acc) :: L) H' → g (f x) (wipe σ vs) H' fun σ2 H2 => wipe σ2 vs = wipe σ vs ∧ tt σ2 H2 fun b H3 =>
      if b = true then te σ2 H3 fun y H4 => ∃ acc, H4 D = some (.lst acc) ∧ acc.length < sizeLine ∧ LcN I B L D (pre ++ [x]) (upd H4 D (.lst (acc ++ [y]))) else LcN I B L D (pre ++ [x]) H3)
    (fin : ∀ acc B' D H', I l acc B' → Same B B' → Hs B' ((D, .lst acc) :: L) H' → P D H') :
    ∃ b, V.ref a = .ref b ∧ (∃ xs, SqL K H b xs) ∧ ∀ D, H D = none → ∃ W : Nat → Nat → Hp → Prop, (∃ m, W 0 m (upd H D (.lst []))) ∧ ∀ i m H, W i m H →
      ((Itl K b).stop i H ∧ P D H) ∨ ((Itl K b).go i H ∧ ∃ Nx : Hp → Prop, (∀ H', Nx H' → ∃ m', m' < m ∧ W (i + 1) m' H') ∧ ∀ x H', (Itl K b).yld i H x H' → g x (wipe σ vs) H' fun σ2 H2 => wipe σ2 vs = wipe σ vs ∧ tt σ2 H2 fun b H3 =>
        if b = true then te σ2 H3 fun y H4 => ∃ acc, H4 D = some (.lst acc) ∧ acc.length < sizeLine ∧ Nx (upd H4 D (.lst (acc ++ [y]))) else Nx H3) :=
  ⟨a, rfl, ⟨_, hq B H (Same.refl B) hs⟩, fun D hD => lc_l f l (LcN I B L D) ⟨[], B, h0, Same.refl B, hs.new hD⟩ (fun pre post H' _ ⟨acc, B', _, e, h⟩ => hq B' H' e h.drop)
    (fun pre x post H' e ⟨acc, B', p, e2, h⟩ => turn pre x post acc B' D H' e p e2 h) fun H' ⟨acc, B', p, e, h⟩ => fin acc B' D H' p e h⟩
theorem c_lcR {P : Addr → Hp → Prop} {lo : Int} {n : Nat} (I : Nat → List V → Hp → Prop) (hs : Hs B L H) (h0 : I 0 [] B)
    (turn : ∀ i acc B' D H', i < n → I i acc B' → Same B B' → Hs B' ((D, .lst acc) :: L) H' → g (.int (lo + i)) (wipe σ vs) H' fun σ2 H2 => wipe σ2 vs = wipe σ vs ∧ tt σ2 H2 fun b H3 =>
      if b = true then te σ2 H3 fun y H4 => ∃ acc, H4 D = some (.lst acc) ∧ acc.length < sizeLine ∧ (fun H' => ∃ acc B', I (i + 1) acc B' ∧ Same B B' ∧ Hs B' ((D, .lst acc) :: L) H') (upd H4 D (.lst (acc ++ [y]))) else (fun H' => ∃ acc B', I (i + 1) acc B' ∧ Same B B' ∧ Hs B' ((D, .lst acc) :: L) H') H3)
    (fin : ∀ acc B' D H', I n acc B' → Same B B' → Hs B' ((D, .lst acc) :: L) H' → P D H') :
    ∀ D, H D = none → ∃ W : Nat → Nat → Hp → Prop, (∃ m, W 0 m (upd H D (.lst []))) ∧ ∀ i m H, W i m H →
      ((Itr lo n).stop i H ∧ P D H) ∨ ((Itr lo n).go i H ∧ ∃ Nx : Hp → Prop, (∀ H', Nx H' → ∃ m', m' < m ∧ W (i + 1) m' H') ∧ ∀ x H', (Itr lo n).yld i H x H' → g x (wipe σ vs) H' fun σ2 H2 => wipe σ2 vs = wipe σ vs ∧ tt σ2 H2 fun b H3 =>
        if b = true then te σ2 H3 fun y H4 => ∃ acc, H4 D = some (.lst acc) ∧ acc.length < sizeLine ∧ Nx (upd H4 D (.lst (acc ++ [y]))) else Nx H3) :=
  fun D hD => L2.lc_range (fun i H' => ∃ acc B', I i acc B' ∧ Same B B' ∧ Hs B' ((D, .lst acc) :: L) H') ⟨[], B, h0, Same.refl B, hs.new hD⟩
    (fun i H' e ⟨acc, B', p, e2, h⟩ => turn i acc B' D H' e p e2 h) fun H' ⟨acc, B', p, e, h⟩ => fin acc B' D H' p e h
/-- one item more -/
theorem c_item {D : Addr} {acc : List V} {y : V} {B2 : Hp} {P : List V → Hp → Prop} (h : Hs B2 ((D, .lst acc) :: L) H) (hz : acc.length < sizeLine) (e : Same B B2) (i : P (acc ++ [y]) B2) :
    ∃ acc, H D = some (.lst acc) ∧ acc.length < sizeLine ∧ ∃ acc2 B', P acc2 B' ∧ Same B B' ∧ Hs B' ((D, .lst acc2) :: L) (upd H D (.lst (acc ++ [y]))) :=
  ⟨acc, h.get (.head _), hz, acc ++ [y], B2, i, e, h.u0⟩
theorem c_lc {wi : TI} (k : wi σ H fun J H1 => ∀ D, H1 D = none → ∃ W : Nat → Nat → Hp → Prop, (∃ m, W 0 m (upd H1 D (.lst []))) ∧ ∀ i m H, W i m H →
      (J.stop i H ∧ Q (.ref D) H) ∨ (J.go i H ∧ ∃ Nx : Hp → Prop, (∀ H', Nx H' → ∃ m', m' < m ∧ W (i + 1) m' H') ∧ ∀ x H', J.yld i H x H' → g x (wipe σ vs) H' fun σ2 H2 => wipe σ2 vs = wipe σ vs ∧ tt σ2 H2 fun b H3 =>
        if b = true then te σ2 H3 fun y H4 => ∃ acc, H4 D = some (.lst acc) ∧ acc.length < sizeLine ∧ Nx (upd H4 D (.lst (acc ++ [y]))) else Nx H3)) : tLc wi g tt te vs σ H Q := k
theorem w_for {wi : TI} {tb : TS} {dn : St → Hp → Prop} {dr : VK} {db dc : St → Hp → Prop} (k : wi σ H fun J H1 => ∃ W : Nat → Nat → St → Hp → Prop, (∃ m, W 0 m σ H1) ∧ ∀ i m σ H, W i m σ H →
  (J.stop i H ∧ dn σ H) ∨ (J.go i H ∧ ∃ N : St → Hp → Prop, (∀ σ' H', N σ' H' → ∃ m', m' < m ∧ W (i + 1) m' σ' H') ∧ ∀ x H', J.yld i H x H' → g x σ H' fun σ2 H2 => tb ⟨N, dr, dn, N⟩ σ2 H2)) : tFor wi g tb ⟨dn, dr, db, dc⟩ σ H := k
theorem c_iL {R : It → Hp → Prop} (k : tl σ H fun x H1 => ∃ a, x = .ref a ∧ (∃ xs, SqL K H1 a xs) ∧ R (Itl K a) H1) : iList K tl σ H R := k
theorem c_iT {R : It → Hp → Prop} (k : tl σ H fun x H1 => ∃ a, x = .ref a ∧ (∃ xs, SqT K H1 a xs) ∧ R (Itt K a) H1) : iTup K tl σ H R := k
theorem c_iR1 {ta : TA} {R : It → Hp → Prop} (k : ta σ H fun vs H1 => ∃ j : Int, vs = [.int j] ∧ -(2 ^ 62) ≤ j ∧ j < 2 ^ 62 ∧ R (Itr 0 j.toNat) H1) : iRng1 ta σ H R := k
theorem c_iR2 {ta : TA} {R : It → Hp → Prop} (k : ta σ H fun vs H1 => ∃ i j : Int, vs = [.int i, .int j] ∧ (-(2 ^ 62) ≤ i ∧ i < 2 ^ 62 ∧ -(2 ^ 62) ≤ j ∧ j < 2 ^ 62) ∧ R (Itr i (j - i).toNat) H1) : iRng2 ta σ H R := k
theorem c_yes {P : Bool → Hp → Prop} (k : P true H) : tYes σ H P := k
/-! targets, fields, methods of lists -/
theorem g_tup {n : Nat} {t : TGs} {xs : List V} {P : St → Hp → Prop} (h : SqT K H a xs) (hn : xs.length = n) (k : t xs σ H P) : gTup K n t (.ref a) σ H P := ⟨a, xs, rfl, h, hn, k⟩
theorem g_lst {n : Nat} {t : TGs} {xs : List V} {P : St → Hp → Prop} (h : SqL K H a xs) (hn : xs.length = n) (k : t xs σ H P) : gLst K n t (.ref a) σ H P := ⟨a, xs, rfl, h, hn, k⟩
theorem g_cons {t : TG} {u : TGs} {v : V} {r : List V} {P : St → Hp → Prop} (k : t v σ H fun σ' H' => u r σ' H' P) : gCons t u (v :: r) σ H P := ⟨v, r, rfl, k⟩
theorem g_nil {P : St → Hp → Prop} (k : P σ H) : gNil [] σ H P := ⟨rfl, k⟩
theorem c_tfld {f : Str} (k : te σ H fun x H1 => FldO K f x H1 Q) : tFld K te f σ H Q := k
def PutO (K : PySem.W.Frag) (f : Str) (y x : V) (H : Hp) (P : Hp → Prop) : Prop := ∃ a C dx fs, x = .ref a ∧ H a = some (.ins C dx fs) ∧ Cls K C ∧ NoAttr K C f ∧ fs.length < 1000 ∧ P (upd H a (.ins C dx (putF f y fs)))
theorem w_sfld {f : Str} {ta : TE} {dn : St → Hp → Prop} {dr : VK} {db dc : St → Hp → Prop} (k : te σ H fun y H1 => ta σ H1 fun x H2 => PutO K f y x H2 (dn σ)) : sFld K ta te f ⟨dn, dr, db, dc⟩ σ H := k
theorem w_put0 {f : Str} {C dx : Addr} {y : V} {fs fs' : List (Str × V)} {P : Hp → Prop} (hs : Hs B ((a, .ins C dx fs) :: L) H) (hc : Cls K C) (hn : NoAttr K C f) (hl : fs.length < 1000) (e : putF f y fs = fs')
    (k : ∀ H', Hs B ((a, .ins C dx fs') :: L) H' → P H') : PutO K f y (.ref a) H P :=
  ⟨a, C, dx, fs, rfl, hs.get (.head _), hc, hn, hl, by rw [e]; exact k _ hs.u0⟩
theorem w_put1 {q : Addr × HO} {f : Str} {C dx : Addr} {y : V} {fs fs' : List (Str × V)} {P : Hp → Prop} (hs : Hs B (q :: (a, .ins C dx fs) :: L) H) (hc : Cls K C) (hn : NoAttr K C f) (hl : fs.length < 1000) (e : putF f y fs = fs')
    (k : ∀ H', Hs B (q :: (a, .ins C dx fs') :: L) H' → P H') : PutO K f y (.ref a) H P := w_put0 hs.swap hc hn hl e fun H' h => k H' h.swap
theorem w_put2 {q r : Addr × HO} {f : Str} {C dx : Addr} {y : V} {fs fs' : List (Str × V)} {P : Hp → Prop} (hs : Hs B (q :: r :: (a, .ins C dx fs) :: L) H) (hc : Cls K C) (hn : NoAttr K C f) (hl : fs.length < 1000) (e : putF f y fs = fs')
    (k : ∀ H', Hs B (q :: r :: (a, .ins C dx fs') :: L) H' → P H') : PutO K f y (.ref a) H P := w_put0 hs.rot3 hc hn hl e fun H' h => k H' h.unrot3
def AugO (K : PySem.W.Frag) (f : Str) (x : V) (H : Hp) (P : Addr → Addr → V → Prop) : Prop := ∃ a C dx fs v, x = .ref a ∧ H a = some (.ins C dx fs) ∧ Cls K C ∧ NoAttr K C f ∧ fs.lookup f = some v ∧ P a C v
def AputO (f : Str) (a C : Addr) (z : V) (H : Hp) (P : Hp → Prop) : Prop := ∃ dx' fs', H a = some (.ins C dx' fs') ∧ fs'.length < 1000 ∧ P (upd H a (.ins C dx' (putF f z fs')))
theorem w_sfldAug {f : Str} {ta : TE} {rd : V → V → Hp → VK → Prop} {dn : St → Hp → Prop} {dr : VK} {db dc : St → Hp → Prop} (k : ta σ H fun x H1 => AugO K f x H1 fun a C v => te σ H1 fun y H2 => rd v y H2 fun z H3 => AputO f a C z H3 (dn σ)) : sFldAug K ta te rd f ⟨dn, dr, db, dc⟩ σ H := k
theorem c_fldA {f : Str} {C dx : Addr} {fs : List (Str × V)} {v : V} {P : Addr → Addr → V → Prop} (h : H a = some (.ins C dx fs)) (hc : Cls K C) (hn : NoAttr K C f) (hl : fs.lookup f = some v) (k : P a C v) :
    AugO K f (.ref a) H P := ⟨a, C, dx, fs, v, rfl, h, hc, hn, hl, k⟩
theorem c_radd {i j : Int} (k : Q (.int (i + j)) H) : rAdd (.int i) (.int j) H Q := ⟨i, j, rfl, rfl, k⟩
theorem c_rsub {i j : Int} (k : Q (.int (i - j)) H) : rSub (.int i) (.int j) H Q := ⟨i, j, rfl, rfl, k⟩
theorem w_aput0 {f : Str} {C dx : Addr} {z : V} {fs fs' : List (Str × V)} {P : Hp → Prop} (hs : Hs B ((a, .ins C dx fs) :: L) H) (hl : fs.length < 1000) (e : putF f z fs = fs') (k : ∀ H', Hs B ((a, .ins C dx fs') :: L) H' → P H') :
    AputO f a C z H P := ⟨dx, fs, hs.get (.head _), hl, by rw [e]; exact k _ hs.u0⟩
theorem w_aput1 {q : Addr × HO} {f : Str} {C dx : Addr} {z : V} {fs fs' : List (Str × V)} {P : Hp → Prop} (hs : Hs B (q :: (a, .ins C dx fs) :: L) H) (hl : fs.length < 1000) (e : putF f z fs = fs') (k : ∀ H', Hs B (q :: (a, .ins C dx fs') :: L) H' → P H') :
    AputO f a C z H P := w_aput0 hs.swap hl e fun H' h => k H' h.swap
theorem w_aput2 {q r : Addr × HO} {f : Str} {C dx : Addr} {z : V} {fs fs' : List (Str × V)} {P : Hp → Prop} (hs : Hs B (q :: r :: (a, .ins C dx fs) :: L) H) (hl : fs.length < 1000) (e : putF f z fs = fs') (k : ∀ H', Hs B (q :: r :: (a, .ins C dx fs') :: L) H' → P H') :
    AputO f a C z H P := w_aput0 hs.rot3 hl e fun H' h => k H' h.unrot3
theorem c_bm {T : String} {r : V → List V → Hp → VK → Prop} {t : TA} (k : te σ H fun x H1 => tyV K T x H1 ∧ t σ H1 fun xs H2 => r x xs H2 Q) : tBM K T r te t σ H Q := k
theorem c_bm0 {T : String} {r : V → List V → Hp → VK → Prop} (k : te σ H fun x H1 => tyV K T x H1 ∧ r x [] H1 Q) : tBM0 K T r te σ H Q := k
theorem c_tyL {xs : List V} {P : Prop} (h : SqL K H a xs) (k : P) : tyV K "list" (.ref a) H ∧ P := ⟨.inl ⟨rfl, _, h⟩, k⟩
theorem c_app0 {xs : List V} {y : V} (hs : Hs B ((a, .lst xs) :: L) H) (hz : xs.length < sizeLine) (k : ∀ H', Hs B ((a, .lst (xs ++ [y])) :: L) H' → Q .non H') : rAppend (.ref a) [y] H Q := ⟨a, xs, y, rfl, rfl, hs.get (.head _), hz, k _ hs.u0⟩
theorem c_app1 {q : Addr × HO} {xs : List V} {y : V} (hs : Hs B (q :: (a, .lst xs) :: L) H) (hz : xs.length < sizeLine) (k : ∀ H', Hs B (q :: (a, .lst (xs ++ [y])) :: L) H' → Q .non H') : rAppend (.ref a) [y] H Q := c_app0 hs.swap hz fun H' h => k H' h.swap
theorem c_app2 {q r : Addr × HO} {xs : List V} {y : V} (hs : Hs B (q :: r :: (a, .lst xs) :: L) H) (hz : xs.length < sizeLine) (k : ∀ H', Hs B (q :: r :: (a, .lst (xs ++ [y])) :: L) H' → Q .non H') : rAppend (.ref a) [y] H Q := c_app0 hs.rot3 hz fun H' h => k H' h.unrot3
theorem c_sl {r : V → Option Int → Option Int → Hp → VK → Prop} {lo hi : TO} (k : te σ H fun x H1 => lo σ H1 fun l H2 => hi σ H2 fun u H3 => r x l u H3 Q) : tSl r te lo hi σ H Q := k
theorem c_part {P : Option Int → Hp → Prop} (k : te σ H fun x H1 => ∃ i, x = .int i ∧ P (some i) H1) : tPart te σ H P := k
theorem c_nopart {P : Option Int → Hp → Prop} (k : P none H) : tNoPart σ H P := k
theorem c_i {i : Int} {P : Int → Prop} (k : P i) : ∃ j, V.int i = .int j ∧ P j := ⟨i, rfl, k⟩
theorem small5 {n : Nat} (h : n ≤ 100000) : n < sizeLine := Nat.lt_of_le_of_lt h (by decide)
theorem small5' {n : Nat} (h : n ≤ 100000) : n ≤ sizeLine := Nat.le_trans h (by decide)
end
end L2.BP
namespace L2.BP
open PySem PySem.Spec PyProof.Rows
section
variable {f g : Str} {v w y : V} {r r' : List (Str × V)}
theorem look0 : List.lookup f ((f, v) :: r) = some v := by simp [List.lookup]
theorem lookS (h : ¬ f = g) (e : List.lookup f r = some v) : List.lookup f ((g, w) :: r) = some v := by
  have n : (f == g) = false := by simpa using h
  show (match f == g with | true => some w | false => List.lookup f r) = some v
  rw [n]
  exact e
theorem lookN : List.lookup f ([] : List (Str × V)) = none := rfl
theorem lookNS (h : ¬ f = g) (e : List.lookup f r = none) : List.lookup f ((g, w) :: r) = none := by
  have n : (f == g) = false := by simpa using h
  show (match f == g with | true => some w | false => List.lookup f r) = none
  rw [n]
  exact e
theorem put0 : putF f y ((f, v) :: r) = (f, y) :: r := if_pos rfl
theorem putN : putF f y [] = [(f, y)] := rfl
theorem putS (h : ¬ g = f) (e : putF f y r = r') : putF f y ((g, w) :: r) = (g, w) :: r' := by
  show (if g = f then _ else (g, w) :: putF f y r) = _
  rw [if_neg h, e]
end
section
variable {K : PySem.W.Frag} {σ : St} {H B : Hp} {L : Pic} {Q : VK} {sp : Sp} {W : WX} {dvs vs : List V} {C : Addr}
def MkO (C : Addr) (sp : Sp) (vs : List V) (H : Hp) (Q : VK) (E : XK) : Prop := ∀ x dx, H x = none → H dx = none → dx ≠ x → sp (.ref x :: vs) (upd (upd H dx (.own x)) x (.ins C dx [])) (fun v H2 => v = .non ∧ Q (.ref x) H2) E
theorem c_mk {t : TA} (k : t σ H fun vs H1 => MkO C sp (vs ++ dvs) H1 Q fun c d H2 => W c d σ H2) : tMk C sp dvs W t σ H Q := k
theorem c_mkO {E : XK} (hs : Hs B L H) (k : ∀ x dx H', Hs B ((x, .ins C dx []) :: L) H' → sp (.ref x :: vs) H' (fun v H2 => v = .non ∧ Q (.ref x) H2) E) : MkO C sp vs H Q E := fun x dx hx hdx ne => by
  have h1 := hs.new (o := HO.own x) hdx
  have h2 : (upd H dx (.own x)) x = none := by rw [upd_ne (Ne.symm ne)]; exact hx
  exact k x dx _ (h1.new h2).swap.drop
/-- drop what stands second, third -/
theorem Hs.drop1 {a b : Addr × HO} (h : Hs B (a :: b :: L) H) : Hs B (a :: L) H := h.swap.drop
theorem Hs.drop2 {a b c : Addr × HO} (h : Hs B (a :: b :: c :: L) H) : Hs B (a :: b :: L) H := h.rot3.drop
end
end L2.BP
namespace L2.BP
open PySem PySem.Spec PyProof.Rows
/-! ### walks that hand out pairs; walks of tuples -/
section
variable {α : Type} {K : PySem.W.Frag} {a : Addr} {g : TG} {tb : TS} {dn : St → Hp → Prop} {dr : VK} {db dc : St → Hp → Prop} {σ : St} {H B : Hp} {L : Pic}
/-- what a for asks of its iterator -/
def ForO (J : It) (g : TG) (tb : TS) (dn : St → Hp → Prop) (dr : VK) (σ : St) (H : Hp) : Prop := ∃ W : Nat → Nat → St → Hp → Prop, (∃ m, W 0 m σ H) ∧ ∀ i m σ H, W i m σ H →
  (J.stop i H ∧ dn σ H) ∨ (J.go i H ∧ ∃ N : St → Hp → Prop, (∀ σ' H', N σ' H' → ∃ m', m' < m ∧ W (i + 1) m' σ' H') ∧ ∀ x H', J.yld i H x H' → g x σ H' fun σ2 H2 => tb ⟨N, dr, dn, N⟩ σ2 H2)
theorem get_map {f : α → V} {l : List α} {i : Nat} {x : V} (h : (l.map f)[i]? = some x) : ∃ y, l[i]? = some y ∧ x = f y := by
  rw [List.getElem?_map] at h
  cases e : l[i]? with
  | none => rw [e] at h; cases h
  | some y => rw [e] at h; exact ⟨y, rfl, (Option.some.inj h).symm⟩
theorem w_forE (f : α → V) (l : List α) (I : List α → St → Pic → Hp → Prop) (hs : Hs B L H) (h0 : I [] σ L B) (hq : ∀ pre post σ' L' B' H', l = pre ++ post → I pre σ' L' B' → Hs B' L' H' → SqL K H' a (l.map f))
    (turn : ∀ pre x post σ' L' B' T H', l = pre ++ x :: post → I pre σ' L' B' → Hs B' ((T, .tup [.int ((pre.length : Nat) : Int), f x]) :: L') H' → g (.ref T) σ' H' fun σ2 H2 => tb ⟨NxI I (pre ++ [x]), dr, dn, NxI I (pre ++ [x])⟩ σ2 H2)
    (fin : ∀ σ' L' B' H', I l σ' L' B' → Hs B' L' H' → dn σ' H') : ForO (Ite K a) g tb dn dr σ H := by
  refine ⟨fun i m σ H => m = l.length - i ∧ i ≤ l.length ∧ NxI I (l.take i) σ H, ⟨l.length, by simp, Nat.zero_le _, L, B, by simpa using h0, hs⟩, ?_⟩
  rintro i m σ' H' ⟨rfl, hi, L', B', q, h⟩
  have z := hq (l.take i) (l.drop i) σ' L' B' H' (List.take_append_drop i l).symm q h
  by_cases hlt : i < l.length
  · refine .inr ⟨⟨l.map f, f l[i], z, by simp [hlt]⟩, NxI I (l.take (i + 1)), fun σ2 H2 p => ⟨_, by omega, rfl, hlt, p⟩, ?_⟩
    rintro v H2 ⟨T, x, rfl, hT, rfl, hx⟩
    obtain ⟨y, e1, rfl⟩ := get_map (hx _ z)
    obtain ⟨e2, e3⟩ := take_split e1
    have el : (l.take i).length = i := by rw [List.length_take]; omega
    have w := turn _ y _ σ' L' B' T _ e2 q (by rw [el]; exact h.new hT)
    rw [e3]
    exact w
  · have e : i = l.length := by omega
    subst e
    exact .inl ⟨⟨_, z, by simp⟩, fin _ _ _ _ (by simpa using q) h⟩
/-- over a tuple -/
theorem w_forT (xs : List V) (I : List V → St → Pic → Hp → Prop) (hs : Hs B L H) (h0 : I [] σ L B) (hq : ∀ pre post σ' L' B' H', xs = pre ++ post → I pre σ' L' B' → Hs B' L' H' → SqT K H' a xs)
    (turn : ∀ pre x post σ' L' B' H', xs = pre ++ x :: post → I pre σ' L' B' → Hs B' L' H' → g x σ' H' fun σ2 H2 => tb ⟨NxI I (pre ++ [x]), dr, dn, NxI I (pre ++ [x])⟩ σ2 H2)
    (fin : ∀ σ' L' B' H', I xs σ' L' B' → Hs B' L' H' → dn σ' H') :
    ∃ b, V.ref a = .ref b ∧ (∃ xs, SqT K H b xs) ∧ ForO (Itt K b) g tb dn dr σ H := by
  refine ⟨a, rfl, ⟨_, hq [] xs σ L B H rfl h0 hs⟩, ?_⟩
  refine L2.for_tup (D := { nx := dn, rt := dr }) (K := K) (a := a) (xs := xs) (fun i => NxI I (xs.take i)) ⟨L, B, by simpa using h0, hs⟩ (fun i σ' H' _ ⟨L', B', q, h⟩ => hq (xs.take i) (xs.drop i) σ' L' B' H' (List.take_append_drop i xs).symm q h) (fun i x σ' H' hx ⟨L', B', q, h⟩ => ?_) fun σ' H' ⟨L', B', q, h⟩ => fin _ _ _ _ (by simpa using q) h
  obtain ⟨e1, e2⟩ := take_split hx
  have w := turn _ x _ σ' L' B' H' e1 q h
  rw [e2]
  exact w
/-- over two lists -/
theorem w_forZ {β : Type} {b : Addr} (f : α → V) (f2 : β → V) (l : List α) (l2 : List β) (hl : l.length = l2.length) (I : Nat → St → Pic → Hp → Prop) (hs : Hs B L H) (h0 : I 0 σ L B)
    (hq : ∀ i σ' L' B' H', I i σ' L' B' → Hs B' L' H' → SqL K H' a (l.map f) ∧ SqL K H' b (l2.map f2))
    (turn : ∀ i x y σ' L' B' T H', l[i]? = some x → l2[i]? = some y → I i σ' L' B' → Hs B' ((T, .tup [f x, f2 y]) :: L') H' → g (.ref T) σ' H' fun σ2 H2 => tb ⟨NxI I (i + 1), dr, dn, NxI I (i + 1)⟩ σ2 H2)
    (fin : ∀ σ' L' B' H', I l.length σ' L' B' → Hs B' L' H' → dn σ' H') : ForO (Itz K a b) g tb dn dr σ H := by
  refine ⟨fun i m σ H => m = l.length - i ∧ i ≤ l.length ∧ NxI I i σ H, ⟨l.length, by simp, Nat.zero_le _, L, B, h0, hs⟩, ?_⟩
  rintro i m σ' H' ⟨rfl, hi, L', B', q, h⟩
  obtain ⟨z1, z2⟩ := hq i σ' L' B' H' q h
  by_cases hlt : i < l.length
  · have hlt2 : i < l2.length := by omega
    refine .inr ⟨⟨l.map f, l2.map f2, f l[i], f2 l2[i], z1, z2, by simp [hlt], by simp [hlt2]⟩, NxI I (i + 1), fun σ2 H2 p => ⟨_, by omega, rfl, hlt, p⟩, ?_⟩
    rintro v H2 ⟨T, x, y, rfl, hT, rfl, hx, hy⟩
    obtain ⟨x', e1, rfl⟩ := get_map (hx _ z1)
    obtain ⟨y', e2, rfl⟩ := get_map (hy _ z2)
    exact turn i x' y' σ' L' B' T _ e1 e2 q (h.new hT)
  · have e : i = l.length := by omega
    subst e
    exact .inl ⟨⟨_, _, z1, z2, by simp⟩, fin _ _ _ _ q h⟩
theorem c_iE {ta : TA} {R : It → Hp → Prop} (k : ta σ H fun vs H1 => ∃ a xs, vs = [.ref a] ∧ SqL K H1 a xs ∧ R (Ite K a) H1) : iEnum K ta σ H R := k
theorem c_iE1 {R : It → Hp → Prop} {xs : List V} (h : SqL K H a xs) (k : R (Ite K a) H) : ∃ b xs, [V.ref a] = [.ref b] ∧ SqL K H b xs ∧ R (Ite K b) H := ⟨a, xs, rfl, h, k⟩
theorem c_iZ {ta : TA} {R : It → Hp → Prop} (k : ta σ H fun vs H1 => ∃ a b xs ys, vs = [.ref a, .ref b] ∧ SqL K H1 a xs ∧ SqL K H1 b ys ∧ R (Itz K a b) H1) : iZip K ta σ H R := k
theorem c_iZ1 {R : It → Hp → Prop} {b : Addr} {xs ys : List V} (h : SqL K H a xs) (h2 : SqL K H b ys) (k : R (Itz K a b) H) : ∃ a' b' xs ys, [V.ref a, V.ref b] = [.ref a', .ref b'] ∧ SqL K H a' xs ∧ SqL K H b' ys ∧ R (Itz K a' b') H := ⟨a, b, xs, ys, rfl, h, h2, k⟩
end
section
variable {α : Type} {K : PySem.W.Frag} {a : Addr} {g : TG} {tt : TT} {te tl : TE} {σ : St} {H B : Hp} {L : Pic} {vs : List Nat}
/-- what a comprehension asks of its iterator -/
def LcO (J : It) (g : TG) (tt : TT) (te : TE) (vs : List Nat) (σ : St) (H : Hp) (P : Addr → Hp → Prop) : Prop := ∀ D, H D = none → ∃ W : Nat → Nat → Hp → Prop, (∃ m, W 0 m (upd H D (.lst []))) ∧ ∀ i m H, W i m H →
  (J.stop i H ∧ P D H) ∨ (J.go i H ∧ ∃ Nx : Hp → Prop, (∀ H', Nx H' → ∃ m', m' < m ∧ W (i + 1) m' H') ∧ ∀ x H', J.yld i H x H' → g x (wipe σ vs) H' fun σ2 H2 => wipe σ2 vs = wipe σ vs ∧ tt σ2 H2 fun b H3 =>
    if b = true then te σ2 H3 fun y H4 => ∃ acc, H4 D = some (.lst acc) ∧ acc.length < sizeLine ∧ Nx (upd H4 D (.lst (acc ++ [y]))) else Nx H3)
theorem c_lcE {P : Addr → Hp → Prop} (f : α → V) (l : List α) (I : List α → List V → Hp → Prop) (hs : Hs B L H) (h0 : I [] [] B) (hq : ∀ B' H', Same B B' → Hs B' L H' → SqL K H' a (l.map f))
    (turn : ∀ pre x post acc B' D T H', l = pre ++ x :: post → I pre acc B' → Same B B' → Hs B' ((T, .tup [.int ((pre.length : Nat) : Int), f x]) :: (D, .lst acc) :: L) H' → g (.ref T) (wipe σ vs) H' fun σ2 H2 => wipe σ2 vs = wipe σ vs ∧ tt σ2 H2 fun b H3 =>
      if b = true then te σ2 H3 fun y H4 => ∃ acc, H4 D = some (.lst acc) ∧ acc.length < sizeLine ∧ LcN I B L D (pre ++ [x]) (upd H4 D (.lst (acc ++ [y]))) else LcN I B L D (pre ++ [x]) H3)
    (fin : ∀ acc B' D H', I l acc B' → Same B B' → Hs B' ((D, .lst acc) :: L) H' → P D H') : LcO (Ite K a) g tt te vs σ H P := by
  intro D hD
  refine ⟨fun i m H' => m = l.length - i ∧ i ≤ l.length ∧ LcN I B L D (l.take i) H', ⟨l.length, by simp, Nat.zero_le _, [], B, by simpa using h0, Same.refl B, hs.new hD⟩, ?_⟩
  rintro i m H' ⟨rfl, hi, acc, B', q, e, h⟩
  have z := hq B' H' e h.drop
  by_cases hlt : i < l.length
  · refine .inr ⟨⟨l.map f, f l[i], z, by simp [hlt]⟩, LcN I B L D (l.take (i + 1)), fun H2 p => ⟨_, by omega, rfl, hlt, p⟩, ?_⟩
    rintro v H2 ⟨T, x, rfl, hT, rfl, hx⟩
    obtain ⟨y, e1, rfl⟩ := get_map (hx _ z)
    obtain ⟨e2, e3⟩ := take_split e1
    have el : (l.take i).length = i := by rw [List.length_take]; omega
    have w := turn _ y _ acc B' D T _ e2 q e (by rw [el]; exact h.new hT)
    rw [e3]
    exact w
  · have e' : i = l.length := by omega
    subst e'
    exact .inl ⟨⟨_, z, by simp⟩, fin acc B' D H' (by simpa using q) e h⟩
end
/-! ### lists of tuples -/
section
variable {K : PySem.W.Frag} {H H' : Hp}
/-- each of these values is a tuple of those items -/
inductive Tups (K : PySem.W.Frag) (H : Hp) : List V → List (List V) → Prop where
  | nil : Tups K H [] []
  | cons {a : Addr} {xs : List V} {vs : List V} {r : List (List V)} : SqT K H a xs → Tups K H vs r → Tups K H (V.ref a :: vs) (xs :: r)
theorem Tups.same (e : Same H H') : ∀ {vs : List V} {ps : List (List V)}, Tups K H vs ps → Tups K H' vs ps
  | _, _, .nil => .nil
  | _, _, .cons h t => .cons (same_sqt e h) (Tups.same e t)
theorem Tups.length : ∀ {vs : List V} {ps : List (List V)}, Tups K H vs ps → vs.length = ps.length
  | _, _, .nil => rfl
  | _, _, .cons _ t => congrArg (· + 1) t.length
theorem Tups.snoc {a : Addr} {xs : List V} : ∀ {vs : List V} {ps : List (List V)}, Tups K H vs ps → SqT K H a xs → Tups K H (vs ++ [.ref a]) (ps ++ [xs])
  | _, _, .nil, h => .cons h .nil
  | _, _, .cons z t, h => .cons z (t.snoc h)
theorem Tups.get : ∀ {vs : List V} {ps : List (List V)} {i : Nat} {xs : List V}, Tups K H vs ps → ps[i]? = some xs → ∃ a, vs[i]? = some (.ref a) ∧ SqT K H a xs
  | _, _, 0, _, .cons h _, e => by cases e; exact ⟨_, rfl, h⟩
  | _, _, i + 1, _, .cons _ t, e => t.get (i := i) e
theorem Tups.split {x : V} {post : List V} : ∀ {pre : List V} {ps : List (List V)}, Tups K H (pre ++ x :: post) ps → ∃ a p1 xs p2, x = .ref a ∧ ps = p1 ++ xs :: p2 ∧ p1.length = pre.length ∧ SqT K H a xs
  | [], ps, h => by
    cases (show Tups K H (x :: post) ps from h) with
    | cons hh t => exact ⟨_, [], _, _, rfl, rfl, rfl, hh⟩
  | y :: pre, ps, h => by
    cases (show Tups K H (y :: (pre ++ x :: post)) ps from h) with
    | cons hh t =>
      obtain ⟨a, p1, xs, p2, e1, e2, e3, e4⟩ := Tups.split t
      exact ⟨a, _ :: p1, xs, p2, e1, by rw [e2]; rfl, by simp [e3], e4⟩
end
end L2.BP
namespace L2.BP
open PySem PySem.Spec PyProof.Rows
section
variable {σ : St} {H B : Hp} {L : Pic} {K : PySem.W.Frag} {dn : St → Hp → Prop} {dr : VK} {db dc : St → Hp → Prop} {Q : VK} {tr : TA} {te to_ ti_ : TE} {a b : Addr} {xs ys : List V} {x v w o i : V}
theorem w_break (k : db σ H) : tBreak ⟨dn, dr, db, dc⟩ σ H := k
theorem w_cont (k : dc σ H) : tCont ⟨dn, dr, db, dc⟩ σ H := k
theorem w_retN (k : dr .non H) : tRetN ⟨dn, dr, db, dc⟩ σ H := k
def ParO (m n : Nat) (vs : List V) (σ : St) (dn : St → Hp → Prop) (H : Hp) : Prop := ∃ v w, vs = [v, w] ∧ dn ((σ.set m (some v)).set n (some w)) H
theorem w_par {m n : Nat} (k : tr σ H fun vs H1 => ParO m n vs σ dn H1) : tPar m n tr ⟨dn, dr, db, dc⟩ σ H := k
theorem c_parO {m n : Nat} (k : dn ((σ.set m (some v)).set n (some w)) H) : ParO m n [v, w] σ dn H := ⟨v, w, rfl, k⟩
/-! a list longer by another one, in place -/
theorem c_ext0 (hs : Hs B ((a, .lst xs) :: L) H) (hb : H b = some (.lst ys)) (hz : xs.length + ys.length ≤ sizeLine) (k : ∀ H', Hs B ((a, .lst (xs ++ ys)) :: L) H' → Q (.ref a) H') : ipAddU (.ref a) (.ref b) H Q :=
  .inr (.inl ⟨a, b, xs, ys, rfl, rfl, hs.get (.head _), hb, hz, k _ hs.u0⟩)
theorem c_extM0 (hs : Hs B ((a, .lst xs) :: L) H) (hb : H b = some (.lst ys)) (hz : xs.length + ys.length ≤ sizeLine) (k : ∀ H', Hs B ((a, .lst (xs ++ ys)) :: L) H' → Q .non H') : rExtend (.ref a) [.ref b] H Q :=
  ⟨a, b, xs, ys, rfl, rfl, hs.get (.head _), hb, hz, k _ hs.u0⟩
theorem c_clear0 (hs : Hs B ((a, .lst xs) :: L) H) (k : ∀ H', Hs B ((a, .lst []) :: L) H' → Q .non H') : rClear (.ref a) [] H Q := ⟨a, xs, rfl, rfl, hs.get (.head _), k _ hs.u0⟩
theorem c_reverse0 (hs : Hs B ((a, .lst xs) :: L) H) (k : ∀ H', Hs B ((a, .lst xs.reverse) :: L) H' → Q .non H') : rReverse (.ref a) [] H Q := ⟨a, xs, rfl, rfl, hs.get (.head _), k _ hs.u0⟩
/-! slices of tuples, lists turned round -/
theorem c_slT {lo hi : Option Int} (h : Hs B L H) (hq : SqT K H a xs) (hn : ¬ (HT.sIx xs.length 0 lo = 0 ∧ HT.sIx xs.length xs.length hi = xs.length)) (k : ∀ p H', Hs B ((p, .tup (cutV xs lo hi)) :: L) H' → Q (.ref p) H') : rSlK K (.ref a) lo hi H Q :=
  .inr (.inr ⟨a, xs, rfl, hq, hn, fun p hp => k p _ (h.new hp)⟩)
def RevO (K : PySem.W.Frag) (x : V) (H : Hp) (Q : VK) : Prop := ∃ a xs, x = .ref a ∧ SqL K H a xs ∧ ∀ p, H p = none → Q (.ref p) (upd H p (.lst xs.reverse))
theorem c_rev (k : te σ H fun x H1 => RevO K x H1 Q) : tRevL K te σ H Q := k
theorem c_revO (h : Hs B L H) (hq : SqL K H a xs) (k : ∀ p H', Hs B ((p, .lst xs.reverse) :: L) H' → Q (.ref p) H') : RevO K (.ref a) H Q := ⟨a, xs, rfl, hq, fun p hp => k p _ (h.new hp)⟩
/-! an item written -/
def SetO (o i v : V) (H : Hp) (P : Hp → Prop) : Prop := rSetL o i v H P
theorem w_augS {K : PySem.W.Frag} {to ti te : TE} {tip : TIp} {dn db dc : St → Hp → Prop} {dr : VK} {σ : St} {H : Hp} (k : to σ H fun o H1 => ti σ H1 fun i H2 => rIxL K o i H2 fun x H3 => te σ H3 fun y H4 => tip x y H4 fun z H5 => SetO o i z H5 fun H6 => dn σ H6) : tAugS to ti te (rIxL K) tip rSetL ⟨dn, dr, db, dc⟩ σ H := k
theorem c_ixLo {K : PySem.W.Frag} {p : Addr} {xs : List V} {i : Int} {v : V} {H : Hp} {Q : VK} (h : SqL K H p xs) (ha : atI xs i = some v) (k : Q v H) : rIxL K (.ref p) (.int i) H Q := ⟨p, xs, i, v, rfl, rfl, h, ha, k⟩
theorem g_sub {P : St → Hp → Prop} (k : to_ σ H fun o H1 => ti_ σ H1 fun i H2 => SetO o i v H2 (P σ)) : gSub to_ ti_ rSetL v σ H P := k
theorem w_set0 {j : Int} {m : Nat} {P : Hp → Prop} (hs : Hs B ((a, .lst xs) :: L) H) (e : j = ((m : Nat) : Int)) (hm : m < xs.length) (k : ∀ H', Hs B ((a, .lst (xs.set m v)) :: L) H' → P H') : SetO (.ref a) (.int j) v H P :=
  ⟨a, xs, j, m, rfl, rfl, hs.get (.head _), by subst e; unfold ixN; rw [if_pos (Int.natCast_nonneg _), if_pos (Int.ofNat_lt.mpr hm), Int.toNat_natCast], k _ hs.u0⟩
theorem w_set1 {q : Addr × HO} {j : Int} {m : Nat} {P : Hp → Prop} (hs : Hs B (q :: (a, .lst xs) :: L) H) (e : j = ((m : Nat) : Int)) (hm : m < xs.length) (k : ∀ H', Hs B (q :: (a, .lst (xs.set m v)) :: L) H' → P H') : SetO (.ref a) (.int j) v H P :=
  w_set0 hs.swap e hm fun H' h => k H' h.swap
theorem c_isiS {z : Str} (k : Q (.bl true) H) : rIsi K [.str z, .ty "str"] H Q := c_isiStr (.str z) k
theorem small6 {n : Nat} (h : n ≤ 200000) : n < sizeLine := Nat.lt_of_le_of_lt h (by decide)
theorem small6' {n : Nat} (h : n ≤ 200000) : n ≤ sizeLine := Nat.le_trans h (by decide)
end
end L2.BP
namespace L2.BP
open PySem PySem.Spec PyProof.Rows
section
variable {K : PySem.W.Frag} {W : WX} {vs : List V} {H : Hp} {Q : VK} {E : XK}
/-! ### == of lists -/
theorem eqvAll_ints : ∀ a b : List Int, PyData.eqvAll (a.map PyData.int) (b.map PyData.int) = decide (a = b)
  | [], [] => by simp [PyData.eqvAll]
  | [], y :: r => by simp [PyData.eqvAll]
  | x :: r, [] => by simp [PyData.eqvAll]
  | x :: r, y :: t => by
    rw [List.map_cons, List.map_cons, PyData.eqvAll, eqvAll_ints r t]
    simp only [PyData.eqv]
    by_cases h : x = y <;> by_cases h2 : r = t <;> simp [h, h2]
theorem canAll_ints : ∀ a : List Int, PyData.canLayAll0 (a.map PyData.int) = true
  | [] => by simp [PyData.canLayAll0]
  | x :: r => by
    rw [List.map_cons, PyData.canLayAll0, canAll_ints r]
    simp [PyData.canLay0]
theorem depAll_ints : ∀ a : List Int, PyData.depthAll (a.map PyData.int) ≤ 1
  | [] => by simp [PyData.depthAll]
  | x :: r => by
    have := depAll_ints r
    rw [List.map_cons, PyData.depthAll]
    simp [PyData.depth]
    omega
theorem shaped_ints (a : List Int) : SeqAt.shaped (.list (a.map PyData.int)) = true := by
  unfold SeqAt.shaped
  rw [PyData.canLay0, canAll_ints, PyData.depth]
  have := depAll_ints a
  simp
  omega
theorem c_eqL {p q : Addr} (a b : List Int) (h1 : SqL K H p (a.map V.int)) (h2 : SqL K H q (b.map V.int)) (k : Q (.bl (decide (a = b))) H) : rEqU K (.ref p) (.ref q) H Q := by
  refine c_eqD (.lst h1 (dpa_ints a)) (.lst h2 (dpa_ints b)) (shaped_ints a) (shaped_ints b) ?_
  rw [PyData.eqv, eqvAll_ints]
  exact k
theorem c_neL {p q : Addr} (a b : List Int) (h1 : SqL K H p (a.map V.int)) (h2 : SqL K H q (b.map V.int)) (k : Q (.bl (!decide (a = b))) H) : rNeU K (.ref p) (.ref q) H Q := by
  refine c_neD (.lst h1 (dpa_ints a)) (.lst h2 (dpa_ints b)) (shaped_ints a) (shaped_ints b) ?_
  rw [PyData.eqv, eqvAll_ints]
  exact k
/-! a list of tuples of whole numbers and texts against an equal one -/
def vD : V → PyData
  | .int i => .int i
  | .str x => .str x
  | .bl b => .bool b
  | _ => .none
def flatV : V → Bool
  | .int _ => true
  | .str x => PyData.canLay0 (.str x)
  | .bl _ => true
  | .non => true
  | _ => false
theorem dp_flat : ∀ {v : V}, flatV v = true → Dp K H v (vD v)
  | .int i, _ => .int i
  | .str x, _ => .str x
  | .bl b, _ => .bl b
  | .non, _ => .non
theorem dpa_flat : ∀ {xs : List V}, xs.all flatV = true → DpAll K H xs (xs.map vD)
  | [], _ => .nil
  | x :: r, h => by
    rw [List.all_cons, Bool.and_eq_true] at h
    exact .cons (dp_flat h.1) (dpa_flat h.2)
theorem can_flat : ∀ {v : V}, flatV v = true → (vD v).canLay0 = true ∧ (vD v).depth = 0
  | .int i, _ => ⟨by simp [vD, PyData.canLay0], by simp [vD, PyData.depth]⟩
  | .str x, h => ⟨h, by simp [vD, PyData.depth]⟩
  | .bl b, _ => ⟨by simp [vD, PyData.canLay0], by simp [vD, PyData.depth]⟩
  | .non, _ => ⟨by simp [vD, PyData.canLay0], by simp [vD, PyData.depth]⟩
theorem canAll_flat : ∀ {xs : List V}, xs.all flatV = true → PyData.canLayAll0 (xs.map vD) = true ∧ PyData.depthAll (xs.map vD) ≤ 1
  | [], _ => ⟨by simp [PyData.canLayAll0], by simp [PyData.depthAll]⟩
  | x :: r, h => by
    rw [List.all_cons, Bool.and_eq_true] at h
    obtain ⟨h1, h2⟩ := can_flat h.1
    obtain ⟨h3, h4⟩ := canAll_flat h.2
    rw [List.map_cons, PyData.canLayAll0, PyData.depthAll, h1, h2, h3]
    exact ⟨rfl, by omega⟩
def tupD (xs : List V) : PyData := .tuple (xs.map vD)
theorem canAll_tups : ∀ {xss : List (List V)}, (∀ xs ∈ xss, xs.all flatV = true) → PyData.canLayAll0 (xss.map tupD) = true ∧ PyData.depthAll (xss.map tupD) ≤ 3
  | [], _ => ⟨by simp [PyData.canLayAll0], by simp [PyData.depthAll]⟩
  | x :: r, h => by
    obtain ⟨h1, h2⟩ := canAll_flat (h x (.head _))
    obtain ⟨h3, h4⟩ := canAll_tups fun y hy => h y (.tail _ hy)
    have e1 : (tupD x).canLay0 = true := by
      unfold tupD
      rw [PyData.canLay0, h1]
    have e2 : (tupD x).depth ≤ 2 := by
      unfold tupD
      rw [PyData.depth]
      omega
    rw [List.map_cons, PyData.canLayAll0, PyData.depthAll, h3, e1]
    exact ⟨rfl, by omega⟩
theorem shaped_tups {xss : List (List V)} (h : ∀ xs ∈ xss, xs.all flatV = true) : SeqAt.shaped (.list (xss.map tupD)) = true := by
  obtain ⟨h1, h2⟩ := canAll_tups h
  unfold SeqAt.shaped
  rw [PyData.canLay0, PyData.depth, h1]
  simp
  omega
theorem dpa_tups : ∀ {ws : List V} {xss : List (List V)}, Tups K H ws xss → (∀ xs ∈ xss, xs.all flatV = true) → DpAll K H ws (xss.map tupD)
  | _, _, .nil, _ => .nil
  | _, _, .cons z t, h => .cons (.tup z (dpa_flat (h _ (.head _)))) (dpa_tups t fun y hy => h y (.tail _ hy))
theorem eqv_vD (v : V) : PyData.eqv (vD v) (vD v) = true := by cases v <;> simp [vD, PyData.eqv]
theorem eqvAll_vD : ∀ xs : List V, PyData.eqvAll (xs.map vD) (xs.map vD) = true
  | [] => by simp [PyData.eqvAll]
  | x :: r => by rw [List.map_cons, PyData.eqvAll, eqv_vD, eqvAll_vD r]; rfl
theorem eqvAll_tupD : ∀ xss : List (List V), PyData.eqvAll (xss.map tupD) (xss.map tupD) = true
  | [] => by simp [PyData.eqvAll]
  | x :: r => by
    have e : PyData.eqv (tupD x) (tupD x) = true := by
      unfold tupD
      rw [PyData.eqv, eqvAll_vD]
    rw [List.map_cons, PyData.eqvAll, e, eqvAll_tupD r]
    rfl
theorem eqv_tups {xss : List (List V)} : PyData.eqv (.list (xss.map tupD)) (.list (xss.map tupD)) = true := by rw [PyData.eqv, eqvAll_tupD]
/-- two lists of equal tuples -/
theorem c_neT {p q : Addr} {ws us : List V} {xss : List (List V)} (hf : ∀ xs ∈ xss, xs.all flatV = true) (h1 : SqL K H p ws) (t1 : Tups K H ws xss) (h2 : SqL K H q us) (t2 : Tups K H us xss) (k : Q (.bl false) H) : rNeU K (.ref p) (.ref q) H Q := by
  refine c_neD (.lst h1 (dpa_tups t1 hf)) (.lst h2 (dpa_tups t2 hf)) (shaped_tups hf) (shaped_tups hf) ?_
  rw [eqv_tups]
  exact k
theorem c_eqT {p q : Addr} {ws us : List V} {xss : List (List V)} (hf : ∀ xs ∈ xss, xs.all flatV = true) (h1 : SqL K H p ws) (t1 : Tups K H ws xss) (h2 : SqL K H q us) (t2 : Tups K H us xss) (k : Q (.bl true) H) : rEqU K (.ref p) (.ref q) H Q := by
  refine c_eqD (.lst h1 (dpa_tups t1 hf)) (.lst h2 (dpa_tups t2 hf)) (shaped_tups hf) (shaped_tups hf) ?_
  rw [eqv_tups]
  exact k
end
end L2.BP
namespace L2.BP
open PySem PySem.Spec PyProof.Rows
/-- both ways of an if meet again -/
theorem w_cut {t u : TS} {dn : St → Hp → Prop} {dr : VK} {db dc : St → Hp → Prop} {σ : St} {H : Hp} (Mid : St → Hp → Prop) (h1 : t ⟨Mid, dr, db, dc⟩ σ H) (h2 : ∀ σ' H', Mid σ' H' → u ⟨dn, dr, db, dc⟩ σ' H') : Evl.tCut t u ⟨dn, dr, db, dc⟩ σ H := ⟨Mid, h1, h2⟩
end L2.BP
namespace L2.BP
open PySem PySem.Spec PyProof.Rows
section
variable {X : Cx} {K : PySem.W.Frag} {σ : St} {H B : Hp} {L : Pic} {Q : VK} {te to_ ti_ : TE} {v : V} {P : St → Hp → Prop}
/-! a field as one of several targets -/
def gAttr (K : PySem.W.Frag) (ta : TE) (f : Str) : TG := fun v σ H P => ta σ H fun x H1 => PutO K f v x H1 (P σ)
theorem pg_attr {o : Expr} {f : Str} {pos : Pos} {ta : TE} (ho : PE X o ta) : PG X (.Attribute o f pos) (gAttr X.K ta f) := by
  refine ⟨fun pins s σ H v u Q I r h => ?_⟩
  show wpAny _ _ (do let ov ← holding [u] (eval o X.env); standAt pos.atName; holding [u, ov] (setAttr ov f u); release [u, ov] []) _ _ _
  refine wpAny_bind (wpAny_holding (thn (ho.run pins s σ H _ I h) fun ov s1 ⟨x, H1, I1, r1, a, C, dx, fs, ex, ea, c, n, l, q⟩ => ?_))
  subst ex
  obtain rfl : ov = Value.ref a := r1
  refine wpAny_bind (wpAny_standAt (wpAny_bind (wpAny_holding ?_)))
  exact setattr_ok I1 ea c n l r fun s2 I2 => wpAny_release ⟨σ, _, I2, q⟩
theorem g_attr {f : Str} (k : te σ H fun x H1 => PutO K f v x H1 (P σ)) : gAttr K te f v σ H P := k
/-! how many different ones -/
def LsO (K : PySem.W.Frag) (x : V) (H : Hp) (Q : VK) : Prop := ∃ (l : Addr) (ns : List Int), x = .ref l ∧ SqL K H l (ns.map V.int) ∧ ns.Nodup ∧ ns.length ≤ 4000 ∧ Q (.int (ns.length : Nat)) H
theorem c_lenset (k : te σ H fun x H1 => LsO K x H1 Q) : RZ.tLenSetI K te σ H Q := k
theorem c_lsO {a : Addr} {ns : List Int} (h : SqL K H a (ns.map V.int)) (hn : ns.Nodup) (hl : ns.length ≤ 4000) (k : Q (.int (ns.length : Nat)) H) : LsO K (.ref a) H Q := ⟨a, ns, rfl, h, hn, hl, k⟩
/-! dicts that are written out -/
def DispO (p : Addr) (ps : List (V × V)) (H : Hp) (Q : VK) : Prop := H p = some (.dK []) ∧ ∃ kvs : List (Key × V), ps = kvs.map (fun kv => (kV kv.1, kv.2)) ∧ kvs.length ≤ 15 ∧ Q (.ref p) (upd H p (.dK (mergeK [] kvs)))
theorem c_disp {trs : List (TE × TE)} (hs : Hs B L H) (k : ∀ p H', Hs B ((p, .dK []) :: L) H' → tPairs trs σ H' fun ps H2 => DispO p ps H2 Q) : tDisp trs σ H Q := fun p hp => k p _ (hs.new hp)
theorem c_tpc {tk tv : TE} {r : List (TE × TE)} {R : List (V × V) → Hp → Prop} (k : tk σ H fun x H1 => tv σ H1 fun y H2 => tPairs r σ H2 fun ps H3 => R ((x, y) :: ps) H3) : tPairs ((tk, tv) :: r) σ H R := k
theorem c_tpn {R : List (V × V) → Hp → Prop} (k : R [] H) : tPairs [] σ H R := k
theorem c_dispO {p : Addr} {ps : List (V × V)} (kvs : List (Key × V)) (hs : Hs B ((p, .dK []) :: L) H) (e : ps = kvs.map (fun kv => (kV kv.1, kv.2))) (hl : kvs.length ≤ 15) (k : ∀ H', Hs B ((p, .dK (mergeK [] kvs)) :: L) H' → Q (.ref p) H') : DispO p ps H Q :=
  ⟨hs.get (.head _), kvs, e, hl, k _ hs.u0⟩
def DgO (x y : V) (H : Hp) (Q : VK) : Prop := ∃ a v, x = .ref a ∧ DGet H a y (some v) ∧ Q v H
theorem c_dget {td ty : TE} (k : td σ H fun x H1 => ty σ H1 fun y H2 => DgO x y H2 Q) : tDGet td ty σ H Q := k
theorem c_dgO {a : Addr} {kvs : List (Key × V)} {key : Key} (h : H a = some (.dK kvs)) (e : valV kvs key = some v) (k : Q v H) : DgO (.ref a) (kV key) H Q := ⟨a, v, rfl, by rw [← e]; exact DGet.k h, k⟩
/-! in a list -/
theorem inV_int (i : Int) : ∀ ns : List Int, L2.inV (.int i) (ns.map V.int) = decide (i ∈ ns)
  | [] => by simp [L2.inV]
  | n :: r => by
    have ih := inV_int i r
    have e : L2.eqV (.int n) (.int i) = decide (n = i) := by
      show (n == i) = decide (n = i)
      by_cases h : n = i <;> simp [h]
    unfold L2.inV at ih ⊢
    rw [List.map_cons, List.any_cons, ih, e]
    by_cases h : n = i
    · simp [h]
    · simp [h, Ne.symm h]
theorem flat_ints (ns : List Int) : (ns.map V.int).all L2.flatV = true := by simp [L2.flatV]
theorem c_inL {a : Addr} {i : Int} (ns : List Int) (h : SqL K H a (ns.map V.int)) (k : Q (.bl (decide (i ∈ ns))) H) : rInU K (.int i) (.ref a) H Q :=
  .inl ⟨a, _, rfl, .inl h, rfl, flat_ints ns, by rw [inV_int]; exact k⟩
theorem c_niL {a : Addr} {i : Int} (ns : List Int) (h : SqL K H a (ns.map V.int)) (k : Q (.bl (!decide (i ∈ ns))) H) : rNiU K (.int i) (.ref a) H Q :=
  .inl ⟨a, _, rfl, .inl h, rfl, flat_ints ns, by rw [inV_int]; exact k⟩
theorem c_inT {a : Addr} {i : Int} (ns : List Int) (h : SqT K H a (ns.map V.int)) (k : Q (.bl (decide (i ∈ ns))) H) : rInU K (.int i) (.ref a) H Q :=
  .inl ⟨a, _, rfl, .inr h, rfl, flat_ints ns, by rw [inV_int]; exact k⟩
theorem xor_nat (a b : Nat) : Builtin.bitXor ((a : Nat) : Int) ((b : Nat) : Int) = ((a ^^^ b : Nat) : Int) := by
  rw [Bits.bitXor_pp (Int.natCast_nonneg a) (Int.natCast_nonneg b), Int.toNat_natCast, Int.toNat_natCast]
end
end L2.BP
namespace L2.BP
open PySem PySem.Spec PyProof.Rows
section
variable {K : PySem.W.Frag} {σ : St} {H B : Hp} {L : Pic} {Q : VK} {ta tb : TE} {a : Addr} {xs : List V}
/-- x or y, by what is empty -/
def OrO (K : PySem.W.Frag) (x : V) (tb : TE) (σ : St) (H : Hp) (Q : VK) : Prop := ∃ k, TruV K x H k ∧ if k = true then Q x H else tb σ H Q
theorem c_orT (k : ta σ H fun x H1 => OrO K x tb σ H1 Q) : tOrT K ta tb σ H Q := k
theorem c_orL (h : SqL K H a xs) (k1 : xs ≠ [] → Q (.ref a) H) (k2 : xs = [] → tb σ H Q) : OrO K (.ref a) tb σ H Q := by
  refine ⟨!xs.isEmpty, .inl ⟨xs, h, rfl⟩, ?_⟩
  cases xs with
  | nil => exact iteF (k2 rfl)
  | cons x r => exact iteT (k1 (by simp))
end
end L2.BP
namespace L2.BP
open PySem PySem.Spec PyProof.Rows
/-! ### a class without an __init__ of its own -/
structure Mk0 (K : PySem.W.Frag) (C : Addr) : Prop where
  makes : PySem.W.makesIn K C = true
  init : PySem.W.findIn K (.ref C) "__init__" = some (some (.builtin "object.__init__"))
  kp : PySem.W.keepIn K (.ref C) = true
section
variable {X : Cx} {C : Addr} {x : Str} {p pos : Pos}
/-- C(): a bare object -/
def MadeO (C : Addr) (H : Hp) (Q : VK) : Prop := ∀ x dx, H x = none → H dx = none → dx ≠ x → Q (.ref x) (upd (upd H dx (.own x)) x (.ins C dx []))
def tMade (C : Addr) : TE := fun _ H Q => MadeO C H Q
theorem run_made {pins : List (Addr × Obj)} {σ : St} {H : Hp} {s : Shared} {Q : VK} (M : Mk0 X.K C) (I : Inv X pins σ H s) (h : MadeO C H Q) : wpAny (model X.prog X.w) X.A (call (.ref C) []) (EP X pins σ Q) X.xe s := by
  have q := h (s.heap.objs.size + 1) s.heap.objs.size (I.hok.fresh (Nat.le_succ _)) (I.hok.fresh (Nat.le_refl _)) (Nat.ne_of_lt (Nat.lt_succ_self _))
  have J := Inv.made (C := C) I
  have Y := PySem.W.makes_of (M := model X.prog X.w) I.kIn M.makes
  refine wpAny_call (make_map0 I.kIn M.makes M.init (fun self => PySem.W.Looks.of_pure (PySem.W.oi_bind self)) ?_)
  have e2 : ((s.heap.push PySem.W.emptyDict).push (PySem.W.instObj C s.heap.objs.size)).get? (s.heap.objs.size + 1) = some (PySem.W.instObj C s.heap.objs.size) := by
    have := Heap.get?_push_size (s.heap.push PySem.W.emptyDict) (o := PySem.W.instObj C s.heap.objs.size) rfl
    rwa [Heap.size_push] at this
  have t1 : PySem.W.Looks (model X.prog X.w) ((s.heap.push PySem.W.emptyDict).push (PySem.W.instObj C s.heap.objs.size)) (typeOf (.ref (s.heap.objs.size + 1))) (.ref C) := (PySem.W.Looks.ld e2).andThen .now
  have t2 : PySem.W.Looks (model X.prog X.w) ((s.heap.push PySem.W.emptyDict).push (PySem.W.instObj C s.heap.objs.size)) (isInstance (.ref (s.heap.objs.size + 1)) (.type "object")) true :=
    t1.andThen (Y.top.keeps fun b o e => Heap.get?_push_of_some _ (Heap.get?_push_of_some _ e))
  refine codeAny_call_builtin PySem.W.oi_plain PySem.W.entry_oi (@PySem.W.check_slot (model X.prog X.w) _ _ _ "object.__init__" "object" "__init__" (.ref (s.heap.objs.size + 1)) [] [] _ PySem.W.oi_kind PySem.W.oi_split t2 (PySem.W.oi_args (.ref (s.heap.objs.size + 1))) ?_)
  rw [PySem.W.oi_run]
  exact wpAny_pure (And.intro rfl ⟨V.ref (s.heap.objs.size + 1), _, J, rfl, q⟩)
theorem pe_made (M : Mk0 X.K C) (hg : Gl X x) (hm : X.mg x = some (.ref C)) (hdb : (x == ("__debug__" : Str)) = false := by decide) : PE X (.Call (.Name x p) [] [] pos) (tMade C) := by
  constructor
  intro pins s σ H Q I h
  exact wpAny_Call_Name_kw (ld_glob I hg hm (PySem.W.callWith_K0 I.kIn M.kp (run_made M I h)) hdb)
end
section
variable {K : PySem.W.Frag} {σ : St} {H B : Hp} {L : Pic} {Q : VK} {C : Addr}
theorem c_made (k : MadeO C H Q) : tMade C σ H Q := k
theorem c_madeO (hs : Hs B L H) (k : ∀ x dx H', Hs B ((x, .ins C dx []) :: L) H' → Q (.ref x) H') : MadeO C H Q := fun x dx hx hdx ne => by
  have h1 := hs.new (o := HO.own x) hdx
  have h2 : (upd H dx (.own x)) x = none := by rw [upd_ne (Ne.symm ne)]; exact hx
  exact k x dx _ (h1.new h2).swap.drop
end
end L2.BP
namespace L2.BP
open PySem PySem.Spec PyProof.Rows
/-! ### walks by steps, and of texts -/
section
variable {K : PySem.W.Frag} {a : Addr} {g : TG} {tb : TS} {dn : St → Hp → Prop} {dr : VK} {db dc : St → Hp → Prop} {σ : St} {H B : Hp} {L : Pic}
theorem w_forC {lo c : Int} {n : Nat} (I : Nat → St → Pic → Hp → Prop) (hs : Hs B L H) (h0 : I 0 σ L B)
    (turn : ∀ i σ' L' B' H', i < n → I i σ' L' B' → Hs B' L' H' → g (.int (lo + (i : Nat) * c)) σ' H' fun σ2 H2 => tb ⟨NxI I (i + 1), dr, dn, NxI I (i + 1)⟩ σ2 H2)
    (fin : ∀ σ' L' B' H', I n σ' L' B' → Hs B' L' H' → dn σ' H') : ForO (Itc lo c n) g tb dn dr σ H := by
  refine ⟨fun i m σ H => m = n - i ∧ i ≤ n ∧ NxI I i σ H, ⟨n, by simp, Nat.zero_le _, L, B, h0, hs⟩, ?_⟩
  rintro i m σ' H' ⟨rfl, hi, L', B', q, h⟩
  by_cases hlt : i < n
  · refine .inr ⟨hlt, NxI I (i + 1), fun σ2 H2 p => ⟨_, by omega, rfl, hlt, p⟩, ?_⟩
    rintro v H2 ⟨rfl, rfl⟩
    exact turn i σ' L' B' _ hlt q h
  · have e : i = n := by omega
    subst e
    exact .inl ⟨Nat.le_refl _, fin _ _ _ _ q h⟩
theorem w_forS {x : Str} (I : Nat → St → Pic → Hp → Prop) (hs : Hs B L H) (h0 : I 0 σ L B)
    (turn : ∀ i c σ' L' B' H', x.cps[i]? = some c → I i σ' L' B' → Hs B' L' H' → g (.str ⟨#[c]⟩) σ' H' fun σ2 H2 => tb ⟨NxI I (i + 1), dr, dn, NxI I (i + 1)⟩ σ2 H2)
    (fin : ∀ σ' L' B' H', I x.cps.size σ' L' B' → Hs B' L' H' → dn σ' H') : ForO (Its x) g tb dn dr σ H := by
  refine ⟨fun i m σ H => m = x.cps.size - i ∧ i ≤ x.cps.size ∧ NxI I i σ H, ⟨x.cps.size, by simp, Nat.zero_le _, L, B, h0, hs⟩, ?_⟩
  rintro i m σ' H' ⟨rfl, hi, L', B', q, h⟩
  by_cases hlt : i < x.cps.size
  · refine .inr ⟨hlt, NxI I (i + 1), fun σ2 H2 p => ⟨_, by omega, rfl, hlt, p⟩, ?_⟩
    rintro v H2 ⟨rfl, c, hc, rfl⟩
    exact turn i c σ' L' B' _ hc q h
  · have e : i = x.cps.size := by omega
    subst e
    exact .inl ⟨Nat.le_refl _, fin _ _ _ _ q h⟩
def RcO (R : It → Hp → Prop) (vs : List V) (H : Hp) : Prop := ∃ (i j c : Int) (n : Nat), vs = [.int i, .int j, .int c] ∧ RgC i j c n ∧ R (Itc i c n) H
theorem c_iR3 {ta : TA} {R : It → Hp → Prop} (k : ta σ H fun vs H1 => RcO R vs H1) : iRng3 ta σ H R := k
theorem c_rcO {R : It → Hp → Prop} {i j c : Int} (n : Nat) (h : RgC i j c n) (k : R (Itc i c n) H) : RcO R [.int i, .int j, .int c] H := ⟨i, j, c, n, rfl, h, k⟩
def SsO (R : It → Hp → Prop) (v : V) (H : Hp) : Prop := ∃ x, v = .str x ∧ R (Its x) H
theorem c_iS {te : TE} {R : It → Hp → Prop} (k : te σ H fun v H1 => SsO R v H1) : iStr te σ H R := k
theorem c_ssO {R : It → Hp → Prop} {x : Str} (k : R (Its x) H) : SsO R (.str x) H := ⟨x, rfl, k⟩
end
end L2.BP
namespace L2.BP
open PySem PySem.Spec PyProof.Rows
section
variable {H B : Hp} {L : Pic} {K : PySem.W.Frag} {σ : St} {Q : VK}
theorem Hs.rot4 {a b c d : Addr × HO} (h : Hs B (a :: b :: c :: d :: L) H) : Hs B (d :: a :: b :: c :: L) H := h.perm (List.perm_middle (l₁ := [a, b, c]))
theorem Hs.rot5 {a b c d e : Addr × HO} (h : Hs B (a :: b :: c :: d :: e :: L) H) : Hs B (e :: a :: b :: c :: d :: L) H := h.perm (List.perm_middle (l₁ := [a, b, c, d]))
theorem c_alt1 {t u : TE} (k : t σ H Q) : tOrE t u σ H Q := .inl k
theorem c_alt2 {t u : TE} (k : u σ H Q) : tOrE t u σ H Q := .inr k
theorem c_eqNN (k : Q (.bl true) H) : rEqU K .non .non H Q := .inl ⟨rfl, k⟩
theorem c_neNN (k : Q (.bl false) H) : rNeU K .non .non H Q := .inl ⟨rfl, k⟩
end
end L2.BP
namespace L2.BP
open PySem PySem.Spec PyProof.Rows
/-! ### isinstance of an own class -/
structure InsC (K : PySem.W.Frag) (C : Addr) : Prop where
  ha : PySem.W.findIn K (.ref C) "__class__" = some (some (.builtin "object.__class__"))
  hn : PySem.W.specialIn K (.builtin "object.__class__") "__get__" = some (some (.builtin "getset_descriptor.__get__"))
  htk : PySem.W.takesIn K (.builtin "object.__class__") = some true
  hm : PySem.W.mroIn K C (.type "object") = some true
theorem c_isiC {K : PySem.W.Frag} {H : Hp} {Q : VK} {x C D dx : Addr} {fs : List (Str × V)} {b : Bool} (h : H x = some (.ins C dx fs)) (cl : Cls K C) (i : InsC K C) (e : PySem.W.kitOne K (.ref C) (.ref D) = some b) (k : Q (.bl b) H) : rIsi K [.ref x, .ref D] H Q :=
  c_isi (.base (.ins h cl i.ha i.hn i.htk i.hm)) (.own D) e k
end L2.BP
namespace L2.BP
open PySem PySem.Spec PyProof.Rows
section
variable {K : PySem.W.Frag} {g : TG} {tt : TT} {te : TE} {σ : St} {H B : Hp} {L : Pic} {vs : List Nat}
/-- a comprehension whose turns change own objects -/
def LcV (I : Nat → List V → Pic → Hp → Prop) (D : Addr) (i : Nat) : Hp → Prop := fun H' => ∃ acc L' B', I i acc L' B' ∧ Hs B' ((D, .lst acc) :: L') H'
theorem c_lcRV {P : Addr → Hp → Prop} {lo : Int} {n : Nat} (I : Nat → List V → Pic → Hp → Prop) (hs : Hs B L H) (h0 : I 0 [] L B)
    (turn : ∀ i acc L' B' D H', i < n → I i acc L' B' → Hs B' ((D, .lst acc) :: L') H' → g (.int (lo + i)) (wipe σ vs) H' fun σ2 H2 => wipe σ2 vs = wipe σ vs ∧ tt σ2 H2 fun b H3 =>
      if b = true then te σ2 H3 fun y H4 => ∃ acc, H4 D = some (.lst acc) ∧ acc.length < sizeLine ∧ LcV I D (i + 1) (upd H4 D (.lst (acc ++ [y]))) else LcV I D (i + 1) H3)
    (fin : ∀ acc L' B' D H', I n acc L' B' → Hs B' ((D, .lst acc) :: L') H' → P D H') :
    ∀ D, H D = none → ∃ W : Nat → Nat → Hp → Prop, (∃ m, W 0 m (upd H D (.lst []))) ∧ ∀ i m H, W i m H →
      ((Itr lo n).stop i H ∧ P D H) ∨ ((Itr lo n).go i H ∧ ∃ Nx : Hp → Prop, (∀ H', Nx H' → ∃ m', m' < m ∧ W (i + 1) m' H') ∧ ∀ x H', (Itr lo n).yld i H x H' → g x (wipe σ vs) H' fun σ2 H2 => wipe σ2 vs = wipe σ vs ∧ tt σ2 H2 fun b H3 =>
        if b = true then te σ2 H3 fun y H4 => ∃ acc, H4 D = some (.lst acc) ∧ acc.length < sizeLine ∧ Nx (upd H4 D (.lst (acc ++ [y]))) else Nx H3) :=
  fun D hD => L2.lc_range (LcV I D) ⟨[], L, B, h0, hs.new hD⟩ (fun i H' e ⟨acc, L', B', p, h⟩ => turn i acc L' B' D H' e p h) fun H' ⟨acc, L', B', p, h⟩ => fin acc L' B' D H' p h
theorem c_itemV {D : Addr} {acc : List V} {y : V} {B2 : Hp} {P : List V → Pic → Hp → Prop} (h : Hs B2 ((D, .lst acc) :: L) H) (hz : acc.length < sizeLine) (i : P (acc ++ [y]) L B2) :
    ∃ acc, H D = some (.lst acc) ∧ acc.length < sizeLine ∧ ∃ acc2 L' B', P acc2 L' B' ∧ Hs B' ((D, .lst acc2) :: L') (upd H D (.lst (acc ++ [y]))) :=
  ⟨acc, h.get (.head _), hz, acc ++ [y], L, B2, i, h.u0⟩
end
end L2.BP
namespace L2.BP
open PySem PySem.Spec PyProof.Rows
theorem Tups.snocFix {K : PySem.W.Frag} {B : Hp} {t : Addr} {xs : List V} {acc : List V} {ps : List (List V)} (h : Tups K B acc ps) (hn : B t = none) : Tups K (upd B t (.tup xs)) (acc ++ [.ref t]) (ps ++ [xs]) := (h.same (same_upd hn)).snoc (SqT.of upd_same)
end L2.BP
namespace L2.BP
open PySem PySem.Spec PyProof.Rows
/-! ### try: .. except X as e: suite -/
def tTryAs (K : PySem.W.Frag) (c : Value) (i : Nat) (tb : WX → TS) (ts : Addr → Value → Option Addr → TS) (W : WX) : TS := fun D σ H => tb (wAs K c i ts W D) D σ H
section
variable {K : PySem.W.Frag} {c cls : Value} {d : Option Addr} {i : Nat} {tb : WX → TS} {ts : Addr → Value → Option Addr → TS} {W : WX} {D : Ends} {σ : St} {H B : Hp} {L : Pic} {Q : VK}
theorem ps_tryAs {X : Cx} {x n : Str} {c : Value} {i : Nat} {body suite : List Stmt} {b₀ : Stmt} {np pos pos' : Pos} {tb : WX → TS} {ts : Addr → Value → Option Addr → TS} {Wout : WX} (hs : X.stack = X.env :: X.outer) (hf : X.env.frame = some X.env.locals) (hN : X.N.Nodup) (hi : X.N[i]? = some n) (hln : X.env.kindOf n = some .local) (hc : Names X x c) (tk : Takes X Wout)
    (hb : ∀ (W : WX) (pn : List (Addr × Obj)) (xe : Value → Shared → Prop), Takes (X.tr pn xe) W → PassesOwn (model X.prog X.w) X.A X.env xe → PSs (X.tr pn xe) body (tb W))
    (hsu : ∀ (a : Addr) (oe : Obj) (cls : Value) (d : Option Addr) (pn : List (Addr × Obj)), Zc cls d oe → (∃ vs, oe.data = .fields vs) → PSs (X.suite a ((a, oe) :: pn)) (b₀ :: suite) (ts a cls d)) :
    PS X (.Try body [.ExceptHandler (some (.Name x np)) (some n) (b₀ :: suite) pos'] [] [] pos) (tTryAs X.K c i tb ts Wout) := ps_try_as hs hf hN hi hln hc tk hb hsu
theorem w_tryAs (k : tb (wAs K c i ts W D) D σ H) : tTryAs K c i tb ts W D σ H := k
theorem c_wAs (e : PySem.W.exmOne K cls c = some true) (k : ∀ a, H a = none → ts a cls d { nx := fun σ' H' => D.nx (σ'.set i none) H', rt := D.rt, bk := fun σ' H' => D.bk (σ'.set i none) H', ct := fun σ' H' => D.ct (σ'.set i none) H' } (σ.set i (some (.ref a))) H) : wAs K c i ts W D cls d σ H :=
  ⟨true, e, fun _ => k, fun z => nomatch z⟩
/-- isinstance(e, c), e what the suite holds: an exception of the class cls -/
def rIsX (K : PySem.W.Frag) (a : Addr) (cls : Value) (d : Option Addr) : List V → Hp → VK → Prop := fun xs H Q => ∃ (D : Addr) (c : V) (cv : Value) (b : Bool), cls = .ref D ∧ d = none ∧ ExcC K D ∧ xs = [.ref a, c] ∧ (∀ u, RelV c u → u = cv) ∧ PySem.W.kitOne K (.ref D) cv = some b ∧ Q (.bl b) H
theorem call_isX {X : Cx} {a : Addr} {oe : Obj} {pn : List (Addr × Obj)} {cls : Value} {d : Option Addr} (hz : Zc cls d oe) (hf : ∃ vs, oe.data = .fields vs) : CallR (X.suite a ((a, oe) :: pn)) (.builtin "isinstance") (rIsX X.K a cls d) := by
  intro pins s σ H xs us Q I r h
  obtain ⟨D, c, cv, b, rfl, rfl, C, e1, e2, e3, q⟩ := h
  exact call_isE C hz hf pins s σ H xs us Q I r ⟨c, cv, b, e1, e2, e3, q⟩
theorem c_isXc {a D C : Addr} {b : Bool} (x : ExcC K D) (e : PySem.W.kitOne K (.ref D) (.ref C) = some b) (k : Q (.bl b) H) : rIsX K a (.ref D) none [.ref a, .ref C] H Q := ⟨D, .ref C, .ref C, b, rfl, rfl, x, rfl, fun _ r => r, e, k⟩
theorem c_isXv {a D : Addr} {t : String} {b : Bool} (x : ExcC K D) (e : PySem.W.kitOne K (.ref D) (.type t) = some b) (k : Q (.bl b) H) : rIsX K a (.ref D) none [.ref a, .ty t] H Q := ⟨D, .ty t, .type t, b, rfl, rfl, x, rfl, fun _ r => r, e, k⟩
theorem c_dnewK (hs : Hs B L H) (k : ∀ p H', Hs B ((p, .dK []) :: L) H' → Q (.ref p) H') : tDNewK σ H Q := fun p hp => k p _ (hs.new hp)
theorem c_tupL {p : Addr} {xs : List V} (h : Hs B L H) (hq : SqL K H p xs) (k : ∀ a H', Hs B ((a, .tup xs) :: L) H' → Q (.ref a) H') : rTupleK K [.ref p] H Q := ⟨p, xs, rfl, .inl ⟨hq, fun a ha => k a _ (h.new ha)⟩⟩
end
/-! ### texts: find, upper, join -/
def rFindK : V → List V → Hp → VK → Prop := fun x xs H Q => ∃ a b, x = .str a ∧ xs = [.str b] ∧ Q (.int (Txt.find a b)) H
def rUpperK : V → List V → Hp → VK → Prop := fun x xs H Q => ∃ a, x = .str a ∧ xs = [] ∧ a.length ≤ 5592405 ∧ Q (.str (Txt.upper a)) H
def rJoinK (K : PySem.W.Frag) : V → List V → Hp → VK → Prop := fun x xs H Q => ∃ a p, ∃ ys : List Str, x = .str a ∧ xs = [.ref p] ∧ (SqL K H p (ys.map V.str) ∨ SqT K H p (ys.map V.str)) ∧ (ys.map (·.length)).sum + ys.length * a.length ≤ 16777216 ∧ Q (.str (Txt.join a ys)) H
section
variable {X : Cx} {o e : Expr} {to te : TE} {K : PySem.W.Frag} {σ : St} {H B : Hp} {L : Pic} {Q : VK}
theorem pe_find {apos pos : Pos} (ho : PE X o to) (he : PE X e te) (hs : starEach [e] X.env = [(false, eval e X.env)] := by rfl) (hbase : attributeBase o "find" X.env (eval o X.env) = eval o X.env := by rfl) (hline : (apos.endLine == pos.line) = true := by rfl) :
    PE X (.Call (.Attribute o "find" apos) [e] [] pos) (tM1 rFindK to te) := pe_m1 F.slot_str_find F.type_str_find mt_find ho he hs hbase hline
theorem pe_upperK {apos pos : Pos} (ho : PE X o to) (hbase : attributeBase o "upper" X.env (eval o X.env) = eval o X.env := by rfl) (hline : (apos.endLine == pos.line) = true := by rfl) :
    PE X (.Call (.Attribute o "upper" apos) [] [] pos) (tM0 rUpperK to) := pe_m0 F.slot_str_upper F.type_str_upper mt_upper ho hbase hline
theorem pe_joinK {apos pos : Pos} (ho : PE X o to) (he : PE X e te) (hs : starEach [e] X.env = [(false, eval e X.env)] := by rfl) (hbase : attributeBase o "join" X.env (eval o X.env) = eval o X.env := by rfl) (hline : (apos.endLine == pos.line) = true := by rfl) :
    PE X (.Call (.Attribute o "join" apos) [e] [] pos) (tM1 (rJoinK X.K) to te) := pe_m1 F.slot_str_join F.type_str_join mt_join ho he hs hbase hline
def StrO (x : V) (P : Prop) : Prop := (∃ a, x = .str a) ∧ P
theorem c_m0 {r : V → List V → Hp → VK → Prop} (k : to σ H fun x H1 => StrO x (r x [] H1 Q)) : tM0 r to σ H Q := k
theorem c_m1 {r : V → List V → Hp → VK → Prop} (k : to σ H fun x H1 => StrO x (te σ H1 fun y H2 => r x [y] H2 Q)) : tM1 r to te σ H Q := k
theorem c_strO {a : Str} {P : Prop} (k : P) : StrO (.str a) P := ⟨⟨a, rfl⟩, k⟩
theorem c_find {a b : Str} (k : Q (.int (Txt.find a b)) H) : rFindK (.str a) [.str b] H Q := ⟨a, b, rfl, rfl, k⟩
theorem c_upper {a : Str} (h : a.length ≤ 5592405) (k : Q (.str (Txt.upper a)) H) : rUpperK (.str a) [] H Q := ⟨a, rfl, rfl, h, k⟩
theorem c_join {a : Str} {p : Addr} {ys : List Str} (h : SqL K H p (ys.map V.str)) (hl : (ys.map (·.length)).sum + ys.length * a.length ≤ 16777216) (k : Q (.str (Txt.join a ys)) H) : rJoinK K (.str a) [.ref p] H Q := ⟨a, p, ys, rfl, rfl, .inl h, hl, k⟩
end
/-! ### a comprehension over a text -/
section
variable {K : PySem.W.Frag} {g : TG} {tt : TT} {te : TE} {σ : St} {H B : Hp} {L : Pic} {vs : List Nat} {P : Addr → Hp → Prop}
theorem c_lcS {x : Str} (I : Nat → List V → Hp → Prop) (hs : Hs B L H) (h0 : I 0 [] B)
    (turn : ∀ i c acc B' D H', x.cps[i]? = some c → I i acc B' → Same B B' → Hs B' ((D, .lst acc) :: L) H' → g (.str ⟨#[c]⟩) (wipe σ vs) H' fun σ2 H2 => wipe σ2 vs = wipe σ vs ∧ tt σ2 H2 fun b H3 =>
      if b = true then te σ2 H3 fun y H4 => ∃ acc, H4 D = some (.lst acc) ∧ acc.length < sizeLine ∧ (fun H' => ∃ acc B', I (i + 1) acc B' ∧ Same B B' ∧ Hs B' ((D, .lst acc) :: L) H') (upd H4 D (.lst (acc ++ [y]))) else (fun H' => ∃ acc B', I (i + 1) acc B' ∧ Same B B' ∧ Hs B' ((D, .lst acc) :: L) H') H3)
    (fin : ∀ acc B' D H', I x.cps.size acc B' → Same B B' → Hs B' ((D, .lst acc) :: L) H' → P D H') :
    ∀ D, H D = none → ∃ W : Nat → Nat → Hp → Prop, (∃ m, W 0 m (upd H D (.lst []))) ∧ ∀ i m H, W i m H →
      ((Its x).stop i H ∧ P D H) ∨ ((Its x).go i H ∧ ∃ Nx : Hp → Prop, (∀ H', Nx H' → ∃ m', m' < m ∧ W (i + 1) m' H') ∧ ∀ v H', (Its x).yld i H v H' → g v (wipe σ vs) H' fun σ2 H2 => wipe σ2 vs = wipe σ vs ∧ tt σ2 H2 fun b H3 =>
        if b = true then te σ2 H3 fun y H4 => ∃ acc, H4 D = some (.lst acc) ∧ acc.length < sizeLine ∧ Nx (upd H4 D (.lst (acc ++ [y]))) else Nx H3) := by
  intro D hD
  refine ⟨fun i m H => m = x.cps.size - i ∧ i ≤ x.cps.size ∧ ∃ acc B', I i acc B' ∧ Same B B' ∧ Hs B' ((D, .lst acc) :: L) H, ⟨x.cps.size, by simp, Nat.zero_le _, [], B, h0, Same.refl B, hs.new hD⟩, ?_⟩
  rintro i m H' ⟨rfl, hi, acc, B', q, e, h⟩
  by_cases hlt : i < x.cps.size
  · refine .inr ⟨hlt, fun H' => ∃ acc B', I (i + 1) acc B' ∧ Same B B' ∧ Hs B' ((D, .lst acc) :: L) H', fun H2 p => ⟨_, by omega, rfl, hlt, p⟩, ?_⟩
    rintro v H2 ⟨rfl, c, hc, rfl⟩
    exact turn i c acc B' D _ hc q e h
  · have e2 : i = x.cps.size := by omega
    subst e2
    exact .inl ⟨Nat.le_refl _, fin _ _ _ _ q e h⟩
end
end L2.BP
namespace L2.BP
open PySem PySem.Spec PyProof.Rows
/-! ### the same rules where exceptions bear no context (L2N) -/
/-! ### calls that may let an error out, wished for at the caller's slots -/
section
variable {X : Cx} {k : Nat} {f C : Addr} {fd : FuncData} {ps : List Str} {sp : Sp} {dvs : List V} {ds : List Value} {W : WX} {x m : Str} {p pos apos : Pos} {e o : Expr} {es : List Expr} {ta : TE} {t : TA}
/-- f(e, ..) -/
theorem pe_clN (F : FnOk X.prog X.w X.K X.mg X.base (L2N.CX X.prog X.w) k f fd ps sp) (hr : Room k X.A) (hg : Gl X x) (hm : X.mg x = some (.ref f)) (hk : PySem.W.keepIn X.K (.ref f) = true)
    (hb : Binds X.K fd ps ds) (hd : Vals dvs ds) (tk : L2N.Takes X W) (ha : PA X (e :: es) t) (hdb : (x == ("__debug__" : Str)) = false := by decide)
    (he : starEach (e :: es) X.env = (false, eval e X.env) :: starEach es X.env := by rfl) (hpl : (backTo pos (starEach es X.env)).any (·.1) = false := by rfl) :
    PE X (.Call (.Name x p) (e :: es) [] pos) (tCl sp dvs W t) :=
  pe_callSD (E := WE W) F hr hg hm hk hb hd (fun σ => L2N.passAt tk σ) ha hdb he hpl
theorem pe_cl0N (F : FnOk X.prog X.w X.K X.mg X.base (L2N.CX X.prog X.w) k f fd ps sp) (hr : Room k X.A) (hg : Gl X x) (hm : X.mg x = some (.ref f)) (hk : PySem.W.keepIn X.K (.ref f) = true)
    (hb : Binds X.K fd ps ds) (hd : Vals dvs ds) (tk : L2N.Takes X W) (hdb : (x == ("__debug__" : Str)) = false := by decide) :
    PE X (.Call (.Name x p) [] [] pos) (tCl sp dvs W tNil) := by
  constructor
  intro pins s σ H Q I h
  have go := run_fnSD (E := WE W) (us := []) F hr hb hd (L2N.passAt tk σ) I .nil h
  exact wpAny_Call_Name_kw (ld_glob I hg hm (PySem.W.callWith_K0 I.kIn hk go) hdb)
/-- o.m(e, ..) -/
theorem pe_mtN {pl : Sem Bool} (he : PE X o ta) (c : Cls X.K C) (hm : Meth X.K C m f) (F : FnOk X.prog X.w X.K X.mg X.base (L2N.CX X.prog X.w) k f fd ps sp) (hr : Room k X.A)
    (hb : Binds X.K fd ps ds) (hd : Vals dvs ds) (tk : L2N.Takes X W) (ha : PA X (e :: es) t)
    (hst : starEach (e :: es) X.env = (false, eval e X.env) :: starEach es X.env := by rfl) (hpl : (backTo pos (starEach es X.env)).any (·.1) = false := by rfl)
    (ht : eval (.Call (.Attribute o m apos) (e :: es) [] pos) X.env = (do
      let ov ← eval o X.env; standAt apos.atName
      let (f, first) ← holding [ov] (getMethod ov m pl); callWith pos f first (backTo pos (starEach (e :: es) X.env)) (backToKw pos (keywordEach [] X.env))) := by rfl) :
    PE X (.Call (.Attribute o m apos) (e :: es) [] pos) (tMt C m sp dvs W ta t) := by
  constructor
  intro pins s σ H Q I h
  refine PySem.W.methodCall_KW (pl := pl) (thn (he.run pins s σ H _ I h) ?_) ht
  rintro u s1 ⟨x, H1, I1, rx, a, dx, fs, rfl, ea, l, q⟩
  cases (show u = Value.ref a from rx)
  refine getmeth_ok I1 ea c hm l (PySem.W.callWith_K (first := [.ref a]) (h₀ := X.base) I.ok.mod.kin hm.kp ?_ hst hpl)
  refine thn (ha.run pos pins s1 σ H1 _ I1 q) ?_
  rintro us s2 ⟨vs, H2, I2, r, q2⟩
  exact ⟨I2.kIn, run_fnSD (E := WE W) (us := .ref a :: us) (vs := .ref a :: vs) F hr hb hd (L2N.passAt tk σ) I2 (.cons rfl r) q2⟩
theorem pe_mt0N {pl : Sem Bool} (he : PE X o ta) (c : Cls X.K C) (hm : Meth X.K C m f) (F : FnOk X.prog X.w X.K X.mg X.base (L2N.CX X.prog X.w) k f fd ps sp) (hr : Room k X.A)
    (hb : Binds X.K fd ps ds) (hd : Vals dvs ds) (tk : L2N.Takes X W)
    (ht : eval (.Call (.Attribute o m apos) [] [] pos) X.env = (do
      let ov ← eval o X.env; standAt apos.atName
      let (f, first) ← holding [ov] (getMethod ov m pl); callWith pos f first (backTo pos (starEach [] X.env)) (backToKw pos (keywordEach [] X.env))) := by rfl) :
    PE X (.Call (.Attribute o m apos) [] [] pos) (tMt C m sp dvs W ta tNil) := by
  constructor
  intro pins s σ H Q I h
  refine PySem.W.methodCall_KW (pl := pl) (thn (he.run pins s σ H _ I h) ?_) ht
  rintro u s1 ⟨x, H1, I1, rx, a, dx, fs, rfl, ea, l, q⟩
  cases (show u = Value.ref a from rx)
  refine getmeth_ok I1 ea c hm l ?_
  have go := run_fnSD (E := WE W) (us := [.ref a]) (vs := [.ref a]) F hr hb hd (L2N.passAt tk σ) I1 (.cons rfl .nil) q
  exact PySem.W.callWith_K0 (first := [.ref a]) I1.kIn hm.kp go
/-- C(e, ..) -/
theorem run_mkN {pins : List (Addr × Obj)} {σ : St} {H : Hp} {s : Shared} {Q : VK} {us : List Value} {vs : List V} (M : Mk X.K C f) (F : FnOk X.prog X.w X.K X.mg X.base (L2N.CX X.prog X.w) k f fd ps sp) (hr : Room (k + 1) X.A)
    (hb : Binds X.K fd ps ds) (hd : Vals dvs ds) (tk : L2N.Takes X W) (I : Inv X pins σ H s) (r : Vals vs us)
    (h : ∀ x dx, H x = none → H dx = none → dx ≠ x → sp (.ref x :: (vs ++ dvs)) (upd (upd H dx (.own x)) x (.ins C dx [])) (fun v H2 => v = .non ∧ Q (.ref x) H2) fun c d H2 => W c d σ H2) :
    wpAny (model X.prog X.w) X.A (call (.ref C) us) (EP X pins σ Q) X.xe s := by
  have hq := h (s.heap.objs.size + 1) s.heap.objs.size (I.hok.fresh (Nat.le_succ _)) (I.hok.fresh (Nat.le_refl _)) (Nat.ne_of_lt (Nat.lt_succ_self _))
  have J := Inv.made (C := C) I
  have rr : Vals (V.ref (s.heap.objs.size + 1) :: (vs ++ dvs)) (Value.ref (s.heap.objs.size + 1) :: (us ++ ds)) := .cons rfl (r.append hd)
  have hl : (Value.ref (s.heap.objs.size + 1) :: us ++ ds).length = ps.length := by
    have e1 := rr.length
    rw [F.len _ _ _ _ hq] at e1
    exact e1.symm
  have run := F.run _ X.stack _ _ ⟨Value.ref (s.heap.objs.size + 1) :: us, []⟩ (Value.ref (s.heap.objs.size + 1) :: (us ++ ds)) _ _ _ (hr.make C us []) (J.env0.make C us []) (hb _ (Value.ref (s.heap.objs.size + 1) :: us) J.kIn hl) rr hq
  refine wpAny_call (make_map (f := f) I.kIn M.makes M.init (beq_iff_eq.mp M.fn) (codeAny_mono run ?_))
  intro r s' z
  match r, z with
  | .error e, z => exact (L2N.passAt tk σ) pins _ _ e s' J z
  | .ok (.ret u), z =>
    obtain ⟨v, H', J3, rv, ev, q3⟩ := J.after z
    subst ev
    exact ⟨rv, ⟨V.ref (s.heap.objs.size + 1), H', J3, rfl, q3⟩⟩
theorem pe_mkN (M : Mk X.K C f) (F : FnOk X.prog X.w X.K X.mg X.base (L2N.CX X.prog X.w) k f fd ps sp) (hr : Room (k + 1) X.A) (hg : Gl X x) (hm : X.mg x = some (.ref C))
    (hb : Binds X.K fd ps ds) (hd : Vals dvs ds) (tk : L2N.Takes X W) (ha : PA X (e :: es) t) (hdb : (x == ("__debug__" : Str)) = false := by decide)
    (he : starEach (e :: es) X.env = (false, eval e X.env) :: starEach es X.env := by rfl) (hpl : (backTo pos (starEach es X.env)).any (·.1) = false := by rfl) :
    PE X (.Call (.Name x p) (e :: es) [] pos) (tMk C sp dvs W t) := by
  constructor
  intro pins s σ H Q I h
  refine wpAny_Call_Name_kw (ld_glob I hg hm (PySem.W.callWith_K (h₀ := X.base) I.ok.mod.kin M.kp ?_ he hpl) hdb)
  refine thn (ha.run pos pins s σ H _ I h) ?_
  rintro us s1 ⟨vs, H1, I1, r, q⟩
  exact ⟨I1.kIn, run_mkN M F hr hb hd tk I1 r q⟩
theorem pe_mk0N (M : Mk X.K C f) (F : FnOk X.prog X.w X.K X.mg X.base (L2N.CX X.prog X.w) k f fd ps sp) (hr : Room (k + 1) X.A) (hg : Gl X x) (hm : X.mg x = some (.ref C))
    (hb : Binds X.K fd ps ds) (hd : Vals dvs ds) (tk : L2N.Takes X W) (hdb : (x == ("__debug__" : Str)) = false := by decide) :
    PE X (.Call (.Name x p) [] [] pos) (tMk C sp dvs W tNil) := by
  constructor
  intro pins s σ H Q I h
  have go := run_mkN (us := []) M F hr hb hd tk I .nil h
  exact wpAny_Call_Name_kw (ld_glob I hg hm (PySem.W.callWith_K0 I.kIn M.kp go) hdb)
end
/-! ### an error raised -/
theorem ps_rzN {X : Cx} {W : WX} {C : Addr} {x m : Str} {j : Nat} {p p2 pos pos2 : Pos} (hc : X.calm = true) (tk : L2N.Takes X W) (q : PySem.W.excIn X.K C He.veBase "ValueError.__new__" = true ∧ PySem.W.keepIn X.K (.ref C) = true ∧ PySem.W.subIn X.K (.ref C) (.type "BaseException") = some true ∧ PySem.W.typeIn X.K (.ref C) = some (.type "type"))
    (gC : X.mg x = some (.ref C)) (hg : Gl X x) (hdb : (x == ("__debug__" : Str)) = false := by decide) :
    PS X (.Raise (some (.Call (.Name x p) [.Constant (.str m) j p2] [] pos)) none pos2) (tRz C W) :=
  L2N.ps_raise hc tk (L2N.pmk_own PySem.F.excBase_ValueError q.1 gC q.2.1 (raises_own q.2.2.1 q.2.2.2) hg hdb)

theorem takes0N {X : Cx} : L2N.Takes X (fun _ _ _ _ => False) := fun _ _ x => by
  obtain ⟨_, _, _, _, _, _, _, _, _, _, _, _, _, _, _, _, z⟩ := x
  exact z.elim
def DOkN (P : Program) (w : World) (K : PySem.W.Frag) (mg : Str → Option Value) (base : Heap) (k : Nat) (f : Addr) (ps : List Str) (dvs : List V) (sp : Sp) : Prop :=
  ∃ (fd : FuncData) (ds : List Value), Vals dvs ds ∧ Binds K fd ps ds ∧ FnOk P w K mg base (L2N.CX P w) k f fd ps sp ∧ PySem.W.keepIn K (.ref f) = true
theorem ps_tryAsN {X : Cx} {x n : Str} {c : Value} {i : Nat} {body suite : List Stmt} {b₀ : Stmt} {np pos pos' : Pos} {tb : WX → TS} {ts : Addr → Value → Option Addr → TS} {Wout : WX} (hs : X.stack = X.env :: X.outer) (hf : X.env.frame = some X.env.locals) (hN : X.N.Nodup) (hi : X.N[i]? = some n) (hln : X.env.kindOf n = some .local) (hc : Names X x c) (tk : L2N.Takes X Wout)
    (hb : ∀ (W : WX) (pn : List (Addr × Obj)) (xe : Value → Shared → Prop), L2N.Takes (X.tr pn xe) W → PassesOwn (model X.prog X.w) X.A X.env xe → PSs (X.tr pn xe) body (tb W))
    (hsu : ∀ (a : Addr) (oe : Obj) (cls : Value) (d : Option Addr) (pn : List (Addr × Obj)), L2N.Zn cls d oe → (∃ vs, oe.data = .fields vs) → PSs (X.suite a ((a, oe) :: pn)) (b₀ :: suite) (ts a cls d)) :
    PS X (.Try body [.ExceptHandler (some (.Name x np)) (some n) (b₀ :: suite) pos'] [] [] pos) (tTryAs X.K c i tb ts Wout) := L2N.ps_try_as hs hf hN hi hln hc tk hb hsu
end L2.BP
namespace L2.BP
open PySem PySem.Spec PyProof.Rows L2H
/-! ### defs that are handed the exception that an except suite holds -/
/-- such a def's promise: where the exception stands, its class, its dict -/
abbrev SpE : Type := Addr → Value → Option Addr → Sp
structure FnE (P : Program) (w : World) (K : PySem.W.Frag) (mg : Str → Option Value) (base : Heap) (CX : CXT) (k : Nat) (f : Addr) (fd : FuncData) (ps : List Str) (sp : SpE) : Prop where
  len : ∀ a c d vs H Q E, sp a c d vs H Q E → vs.length = ps.length
  run : ∀ (A : Around) (outer : List Env) (s : Shared) (H : Hp) (args : Args) (us : List Value) (vs : List V) (Q : VK) (E : XK) (p : Addr × Obj) (cls : Value) (d : Option Addr), RoomH k A → Hot1 A p → L2N.Zn cls d p.2 → PinOk outer H s p → Env0 P w K mg base A outer s H → BindsTo s fd args (ps.zip us) → Vals vs us → sp p.1 cls d vs H Q E →
    codeAny (model P w) A (.call (.ref f) args) (CR CX outer P w H s Q E) s
def flowVal : Flow → Value
  | .ret u => u
  | _ => .none
/-- a body's end, as the caller takes it -/
theorem bodyEnd {P : Program} {w : World} {K : PySem.W.Frag} {mg : Str → Option Value} {base : Heap} {CX : CXT} {N : List Str} {qual : Str} {scope : Scope} {f : Addr} {cd : Value} {A : Around} {outer : List Env} {s s' : Shared} {H : Hp} {Q : VK} {E : XK} {p : Addr × Obj} {fl : Flow}
    (h : SP (cxH CX P w K mg base N qual scope f cd A outer s H E p) [] { nx := fun _ H' => Q .non H', rt := Q } fl s') : CR CX outer P w H s Q E (.ok (.ret (flowVal fl))) s' := by
  cases fl with
  | brk => exact h.elim fun _ h => h.elim fun _ h => h.2.elim
  | cont => exact h.elim fun _ h => h.elim fun _ h => h.2.elim
  | next =>
    obtain ⟨_, H1, J, q⟩ := h
    exact ⟨.non, H1, J.os, J.bare, J.base, J.hok, rfl, q⟩
  | ret u =>
    obtain ⟨v, _, H1, J, rv, q⟩ := h
    exact ⟨v, H1, J.os, J.bare, J.base, J.hok, rv, q⟩

theorem FunD.okE {P : Program} {w : World} {K : PySem.W.Frag} {mg : Str → Option Value} {base : Heap} {x qual : Str} {params : Arguments} {body : List Stmt} {scope : Scope} {dvs : List V} {kws : List (Str × V)} {f : Addr} {fd : FuncData} {CX : CXT} {N ps : List Str} {k : Nat} {sp : SpE} (F : FunD K x qual params body scope dvs kws f fd) (S : FnScope N ps scope) (len : ∀ a c d vs H Q E, sp a c d vs H Q E → vs.length = ps.length)
    (hbody : ∀ (cdv : Value) (A : Around) (outer : List Env) (s : Shared) (H : Hp) (vs : List V) (Q : VK) (E : XK) (p : Addr × Obj) (cls : Value) (d : Option Addr), Hot1 A p → L2N.Zn cls d p.2 → RoomH k (A.deeper (envOfC qual scope s.heap.objs.size f cdv)) → sp p.1 cls d vs H Q E →
      ∃ t, PSs (cxH CX P w K mg base N qual scope f cdv A outer s H E p) body t ∧ t { nx := fun _ H' => Q .non H', rt := Q } (L2.start N vs) H) : FnE P w K mg base CX (k + 1) f fd ps sp where
  len := len
  run := by
    intro A outer s H args us vs Q E p cls d room hot zn pin env binds vals want
    obtain ⟨_, _, _, _, _, _, _, cdv, _, _, e, look, code, _, _⟩ := F.ex
    subst e
    have world := env.mod.kin.keeps fun b o e => (env.bs b o e).1
    have free := env.mod.nolimit.keeps fun b o e => (env.bs b o e).1
    have kinds : ∀ y ∈ ps.zip us, scope.names.lookup y.1 = some .local ∨ (scope.names.lookup y.1 = some .cell ∧ ((cellsFrom (s.heap.objs.size + 1) scope.names []).lookup y.1).isSome = true) := by
      intro y hy
      cases S.par y.1 (List.of_mem_zip (show (y.1, y.2) ∈ ps.zip us from hy)).1 with
      | inl h => exact Or.inl h
      | inr h => exact Or.inr ⟨h, PySem.W.cellsFrom_some _ _ _ (Or.inl h)⟩
    have entered := codeAny_call_function (prog := P) (w := w) (A := A) (R := CR CX outer P w H s Q E) (s := s) (args := args) room.depth (world _ _ look) rfl S.co S.gen rfl (PySem.W.codeRec_of world code)
    apply entered
    apply binds
    apply wpAny_newFunctionEnv_cells S.kind kinds
    rintro env' rfl s1 made
    refine And.intro (free.keeps made.toInCall.keep) (codeAny_func ?_)
    obtain ⟨t, reads, goal⟩ := hbody cdv A outer s H vs Q E p cls d hot zn (room.deeper _) want
    have start : Inv (cxH CX P w K mg base N qual scope f cdv A outer s H E p) [] (L2.start N vs) H s1 := inv_startH S pin env (len _ _ _ _ _ _ _ want) vals made
    exact wpAny_mono (reads.run [] s1 _ _ _ start goal) (fun fl _ h => by
      have z := bodyEnd h
      cases fl <;> exact z) fun _ _ h => h
section
variable {X : Cx} {k : Nat} {f a : Addr} {oe : Obj} {pn : List (Addr × Obj)} {cls : Value} {d : Option Addr} {fd : FuncData} {ps : List Str} {sp : SpE} {x : Str} {q pos : Pos} {e : Expr} {es : List Expr} {t : TA}
theorem hot_of {A : Around} (hz : L2N.Zn cls d oe) (hf : ∃ vs, oe.data = .fields vs) : Hot1 (A.mark (some (.ref a))) (a, oe) :=
  hf.elim fun vs hv => ⟨rfl, vs, hv, hz.2.2 vs hv⟩
/-- f(.., e, ..) in the suite -/
def tClE (a : Addr) (cls : Value) (d : Option Addr) (sp : SpE) (t : TA) : TE := fun σ H Q => t σ H fun vs H1 => sp a cls d vs H1 Q fun _ _ _ => False
theorem c_clE {σ : St} {H : Hp} {Q : VK} (h : t σ H fun vs H1 => sp a cls d vs H1 Q fun _ _ _ => False) : tClE a cls d sp t σ H Q := h
/-- the def called, nothing let out of it -/
theorem run_clE (F : FnE X.prog X.w X.K X.mg X.base (L2N.CX X.prog X.w) k f fd ps sp) (hr : RoomH k X.A) (hz : L2N.Zn cls d oe) (hf : ∃ vs, oe.data = .fields vs) (hb : Binds X.K fd ps []) {pins : List (Addr × Obj)} {σ : St} {s : Shared} {H : Hp} {Q : VK} {us : List Value} {vs : List V}
    (I : Inv (X.suite a ((a, oe) :: pn)) pins σ H s) (r : Vals vs us) (h : sp a cls d vs H Q fun _ _ _ => False) : wpAny (model X.prog X.w) (X.suite a ((a, oe) :: pn)).A (call (.ref f) us) (EP (X.suite a ((a, oe) :: pn)) pins σ Q) (X.suite a ((a, oe) :: pn)).xe s := by
  have many : us.length = ps.length := r.length ▸ F.len _ _ _ _ _ _ _ h
  have bound := hb s us I.kIn (by simpa using many)
  rw [List.append_nil] at bound
  obtain ⟨g1, g2, g3, g4, g5⟩ := I.pin (a, oe) (List.mem_append_left _ (.head _))
  have away : a ∉ frs (X.suite a ((a, oe) :: pn)).stack := fun hm => by
    rcases List.mem_cons.mp (I.stkSub a hm) with z | z
    · exact g3 z
    · exact g4 z
  have ran := F.run (X.suite a ((a, oe) :: pn)).A (X.suite a ((a, oe) :: pn)).stack s H ⟨us, []⟩ us vs Q (fun _ _ _ => False) (a, oe) cls d ⟨hr.dp, hr.un⟩ (hot_of hz hf) hz ⟨g1, g2, away, g5⟩ I.env0 bound r h
  refine wpAny_call (codeAny_mono ran ?_)
  intro res s' got
  match res, got with
  | .error _, got =>
    obtain ⟨_, _, _, _, _, _, _, _, _, _, _, _, z⟩ := got
    exact z.elim
  | .ok (.ret _), got => exact I.after got
theorem pe_clE (F : FnE X.prog X.w X.K X.mg X.base (L2N.CX X.prog X.w) k f fd ps sp) (hr : RoomH k X.A) (hz : L2N.Zn cls d oe) (hf : ∃ vs, oe.data = .fields vs) (hg : Gl (X.suite a ((a, oe) :: pn)) x) (hm : X.mg x = some (.ref f)) (hk : PySem.W.keepIn X.K (.ref f) = true) (hb : Binds X.K fd ps [])
    (ha : PA (X.suite a ((a, oe) :: pn)) (e :: es) t) (hdb : (x == ("__debug__" : Str)) = false := by decide) (he : starEach (e :: es) X.env = (false, eval e X.env) :: starEach es X.env := by rfl) (hpl : (backTo pos (starEach es X.env)).any (·.1) = false := by rfl) :
    PE (X.suite a ((a, oe) :: pn)) (.Call (.Name x q) (e :: es) [] pos) (tClE a cls d sp t) where
  run := fun pins s σ H Q I h => wpAny_Call_Name_kw (ld_glob I hg hm (PySem.W.callWith_K (h₀ := X.base) I.ok.mod.kin hk
    (thn (ha.run pos pins s σ H _ I h) fun _ s1 z => z.elim fun vs z => z.elim fun H1 z => ⟨z.1.kIn, run_clE F hr hz hf hb z.1 z.2.1 z.2.2⟩) he hpl) hdb)
/-- isinstance(e, c) in the def -/
theorem call_isP {X : Cx} {p : Addr × Obj} {cls : Value} {d : Option Addr} (hp : p ∈ X.pn) (hz : Zc cls d p.2) (hf : ∃ vs, p.2.data = .fields vs) : CallR X (.builtin "isinstance") (rIsX X.K p.1 cls d) := by
  rintro pins s σ H xs us Q I r ⟨D, c, cv, b, rfl, rfl, C, rfl, hcv, e, q⟩
  match us, r with
  | [_, _], .cons rfl (.cons rt .nil) =>
    rw [hcv _ rt]
    have there := (I.pin p (List.mem_append_left _ hp)).1
    have J : PySem.W.InstAt s.heap p.1 p.2 D none := by
      obtain ⟨vs, hv⟩ := hf
      obtain ⟨pa, ⟨_, _, _, _⟩⟩ := p
      obtain ⟨h1, h2⟩ := hz
      dsimp only at h1 h2 hv
      subst h1 h2 hv
      exact ⟨there, rfl, rfl, trivial⟩
    exact PySem.W.kia_one (PySem.W.handS_kitx_exc C.hg C.hk C.hs C.hd C.ha C.hn C.ht C.hm) I.kIn J e (fun z => nomatch z) fun tk => ⟨.bl b, H, I.kept (t' := tk) fun _ _ z => z, rfl, q⟩
theorem hot_fields {A : Around} {p : Addr × Obj} (h : Hot1 A p) : ∃ vs, p.2.data = .fields vs := h.2.elim fun vs z => ⟨vs, z.1⟩
end
end L2.BP
namespace L2.BP
open PySem PySem.Spec PyProof.Rows HotX L2H
/-! ### name = [.. for .. in a list ..], where an exception is handled -/
section
variable {prog : Program} {w : World} {A : Around} {E : Value → Shared → Prop} {s : Shared}
/-- a list's iterator at its end: the StopIteration that is made there has the handled one for its context -/
theorem endHot {it l e1 : Addr} {n : Nat} {xs : Array Value} {Q : Option Value → Shared → Prop} (hot : HotAt A e1 s.heap) (ne : it ≠ e1) (at_ : s.heap.IsListIter it l n) (lst : s.heap.IsList l xs) (out : xs[n]? = none)
    (k : ∀ h', (∀ b o, b ≠ it → s.heap.get? b = some o → h'.get? b = some o) → Q none { s with heap := h' }) : wpAny (model prog w) A (pyNext (.ref it)) Q E s := by
  obtain ⟨held, ox, fields, there, data, ctx⟩ := hot
  obtain ⟨oi, geti, _, di⟩ := id at_
  obtain ⟨ol, getl, _, _, dl⟩ := lst
  have kept : ∀ {b : Addr} {o : Obj} {f : Obj → Obj} {u v : Obj}, b ≠ it → s.heap.get? b = some o → (((s.heap.update it f).push u).push v).get? b = some o := by
    intro b o f u v hb e
    apply Heap.get?_push_of_some
    apply Heap.get?_push_of_some
    rw [Heap.get?_update_other _ _ hb.symm]
    exact e
  unfold pyNext
  apply wpAny_bind
  apply wpAny_attempt
  apply wpAny_callSpecial?_slot (name := Str.ofString "__next__") at_.typeIs slot_listiter_next
  refine wpAny_call_entry slot_listiter_next at_.typeIs entry_listiter_next ?_ (args_listiter_next _)
  change wpAny _ _ (field (.ref it) 0 >>= _) _ _ s
  apply wpAny_bind
  refine wpAny_field geti di (x := .ref l) rfl ?_
  change wpAny _ _ (if (Value.ref l == Value.none) = true then _ else _) _ _ s
  rw [if_neg (by exact Bool.false_ne_true)]
  change wpAny _ _ (field (.ref it) 1 >>= _) _ _ s
  apply wpAny_bind
  refine wpAny_field geti di (x := .int n 0) rfl ?_
  change wpAny _ _ (seqItems? (.ref l) >>= _) _ _ s
  apply wpAny_bind
  apply wpAny_seqItems getl dl
  simp only [Int.toNat_natCast, out]
  apply wpAny_bind
  apply wpAny_rule
  apply wpAny_bind
  refine wpAny_setField geti di (by simp) ?_
  change wpAny _ _ (newExc (.type "StopIteration") [] >>= _) _ _ _
  apply wpAny_bind
  simp only [newExc, newTuple]
  apply wpAny_bind
  refine wpAny_newObj_type ?_ (by size_fits)
  apply wpAny_bind (m := firstArgMember _ _)
  refine wpAny_of_eq (a := Value.none) (by first | rfl | (simp only [firstArgMember]; rfl)) ?_
  refine wpAny_newObj_type ?_ (by size_fits)
  refine raiseNew_hot ⟨held, ox, fields, kept ne.symm there, data, ctx⟩ (Nat.ne_of_lt (Heap.lt_size (Heap.get?_push_of_some _ (by rw [Heap.get?_update_other _ _ ne]; exact there)))) (Heap.get?_push_size _ rfl) rfl (by first | (simp; done) | (simp; omega) | (simp only [Array.size_append]; simp; omega)) ?_
  apply wpAny_bind
  refine wpAny_isInstance (T := "StopIteration") (b := true) ⟨_, Heap.get?_update_self _ (Heap.get?_push_size _ rfl) rfl, rfl⟩ isSubtype_stop ?_
  refine wpAny_pure (k _ fun b o hb e => ?_)
  rw [Heap.get?_update_other _ _ (Nat.ne_of_gt (Heap.lt_size (Heap.get?_push_of_some _ (by rw [Heap.get?_update_other _ _ hb.symm]; exact e))))]
  exact kept hb e
/-- a tuple's iterator at its end -/
theorem endTupHot {it l e1 : Addr} {n : Nat} {xs : Array Value} {Q : Option Value → Shared → Prop} (hot : HotAt A e1 s.heap) (ne : it ≠ e1) (at_ : s.heap.IsTupleIter it l n) (lst : s.heap.IsTuple l xs) (out : xs[n]? = none)
    (k : ∀ h', (∀ b o, b ≠ it → s.heap.get? b = some o → h'.get? b = some o) → Q none { s with heap := h' }) : wpAny (model prog w) A (pyNext (.ref it)) Q E s := by
  obtain ⟨held, ox, fields, there, data, ctx⟩ := hot
  obtain ⟨oi, geti, _, di⟩ := id at_
  obtain ⟨ol, getl, _, _, dl⟩ := lst
  have kept : ∀ {b : Addr} {o : Obj} {f : Obj → Obj} {u v : Obj}, b ≠ it → s.heap.get? b = some o → (((s.heap.update it f).push u).push v).get? b = some o := by
    intro b o f u v hb e
    apply Heap.get?_push_of_some
    apply Heap.get?_push_of_some
    rw [Heap.get?_update_other _ _ hb.symm]
    exact e
  unfold pyNext
  apply wpAny_bind
  apply wpAny_attempt
  apply wpAny_callSpecial?_slot (name := Str.ofString "__next__") at_.typeIs F.slot_tuple_iterator_next
  refine wpAny_call_entry F.slot_tuple_iterator_next at_.typeIs F.entry_tuple_iterator_next ?_ (F.args_tuple_iterator_next_1 _)
  change wpAny _ _ (field (.ref it) 0 >>= _) _ _ s
  apply wpAny_bind
  refine wpAny_field geti di (x := .ref l) rfl ?_
  change wpAny _ _ (if (Value.ref l == Value.none) = true then _ else _) _ _ s
  rw [if_neg (by exact Bool.false_ne_true)]
  change wpAny _ _ (field (.ref it) 1 >>= _) _ _ s
  apply wpAny_bind
  refine wpAny_field geti di (x := .int n 0) rfl ?_
  change wpAny _ _ (seqItems? (.ref l) >>= _) _ _ s
  apply wpAny_bind
  apply wpAny_seqItems getl dl
  simp only [Int.toNat_natCast, out]
  apply wpAny_bind
  apply wpAny_rule
  apply wpAny_bind
  refine wpAny_setField geti di (by simp) ?_
  change wpAny _ _ (newExc (.type "StopIteration") [] >>= _) _ _ _
  apply wpAny_bind
  simp only [newExc, newTuple]
  apply wpAny_bind
  refine wpAny_newObj_type ?_ (by size_fits)
  apply wpAny_bind (m := firstArgMember _ _)
  refine wpAny_of_eq (a := Value.none) (by first | rfl | (simp only [firstArgMember]; rfl)) ?_
  refine wpAny_newObj_type ?_ (by size_fits)
  refine raiseNew_hot ⟨held, ox, fields, kept ne.symm there, data, ctx⟩ (Nat.ne_of_lt (Heap.lt_size (Heap.get?_push_of_some _ (by rw [Heap.get?_update_other _ _ ne]; exact there)))) (Heap.get?_push_size _ rfl) rfl (by first | (simp; done) | (simp; omega) | (simp only [Array.size_append]; simp; omega)) ?_
  apply wpAny_bind
  refine wpAny_isInstance (T := "StopIteration") (b := true) ⟨_, Heap.get?_update_self _ (Heap.get?_push_size _ rfl) rfl, rfl⟩ isSubtype_stop ?_
  refine wpAny_pure (k _ fun b o hb e => ?_)
  rw [Heap.get?_update_other _ _ (Nat.ne_of_gt (Heap.lt_size (Heap.get?_push_of_some _ (by rw [Heap.get?_update_other _ _ hb.symm]; exact e))))]
  exact kept hb e
/-- (a, b, ..) = a tuple -/
theorem tupHot {env : Env} {elts : List Expr} {k1 : Nat} {pos : Pos} {t e1 : Addr} {items : Array Value} {Q : Unit → Shared → Prop} (hot : HotAt A e1 s.heap) (ht : s.heap.IsTuple t items) (hn : (assignEach elts env).length = items.size) (hstar : (assignEach elts env).findIdx? (·.1) = none)
    (h : ∀ h', (∀ b o, b ≠ s.heap.objs.size → s.heap.get? b = some o → h'.get? b = some o) → wpAny (model prog w) A (assignInOrder ((assignEach elts env).map (·.2)) items.toList) Q E { s with heap := h' }) : wpAny (model prog w) A (assign (.Tuple elts k1 pos) env (.ref t)) Q E s := by
  have old : t ≠ s.heap.objs.size := by
    obtain ⟨o, e, _⟩ := ht
    exact Nat.ne_of_lt (Heap.lt_size e)
  obtain ⟨held, ox, fields, there, data, ctx⟩ := hot
  have ne : s.heap.objs.size ≠ e1 := Nat.ne_of_gt (Heap.lt_size there)
  rw [arm_assign_Tuple]
  apply wpAny_bind
  apply wpAny_standAt
  unfold unpack
  rw [hn, hstar]
  apply wpAny_bind
  apply wpAny_holding
  unfold unpackItems
  apply wpAny_bind
  unfold notIterableAtAll
  apply wpAny_bind
  apply wpAny_specialOf ht.typeIs F.slot_tuple_iter.lookup
  apply wpAny_pure
  simp only [Bool.false_eq_true, if_false]
  apply wpAny_bind
  apply wpAny_holding
  apply wpAny_pyIter_tuple ht
  apply wpAny_bind
  apply wpAny_holding
  refine wpAny_draw_tuple old items.size 0 _ _ ⟨_, Heap.get?_push_size _ rfl, rfl, rfl⟩ (ht.push _) (by omega) fun h1 at1 but1 => ?_
  rw [List.drop_zero, List.take_of_length_le (by simp), if_neg (by simp)]
  apply wpAny_bind
  apply wpAny_holding
  have keep1 : ∀ b o, b ≠ s.heap.objs.size → s.heap.get? b = some o → h1.get? b = some o := fun b o hb e => but1.extBut b o hb (Heap.get?_push_of_some _ e)
  refine endTupHot (s := { s with heap := h1 }) (e1 := e1) ⟨held, ox, fields, keep1 _ _ ne.symm there, data, ctx⟩ ne at1 ((ht.push _).extBut but1.extBut old) (by simp) fun h2 keep2 => ?_
  simp only [Option.isSome_none, Bool.false_eq_true, if_false]
  exact wpAny_pure (h h2 fun b o hb e => keep2 b o hb (keep1 b o hb e))
end
/-- a target, the handled exception being pinned -/
structure PGH (X : Cx) (p : Addr × Obj) (tg : Expr) (g : TG) : Prop where
  run : ∀ (pins : List (Addr × Obj)) (s : Shared) (σ : St) (H : Hp) (v : V) (u : Value) (Q : St → Hp → Prop), p ∈ X.pn ++ pins → Inv X pins σ H s → RelV v u → g v σ H Q → wpAny (model X.prog X.w) X.A (assign tg X.env u) (fun _ s' => ∃ σ' H', Inv X pins σ' H' s' ∧ Q σ' H') X.xe s
theorem PGH.of {X : Cx} {p : Addr × Obj} {tg : Expr} {g : TG} (h : PG X tg g) : PGH X p tg g := ⟨fun pins s σ H v u Q _ I r k => h.run pins s σ H v u Q I r k⟩
theorem pg_tupH {X : Cx} {p : Addr × Obj} {es : List Expr} {k n : Nat} {pos : Pos} {t : TGs} (hot : Hot1 X.A p) (h : PGs X es t) (hn : (assignEach es X.env).length = n := by rfl) (hst : (assignEach es X.env).findIdx? (·.1) = none := by rfl) : PGH X p (.Tuple es k pos) (gTup X.K n t) where
  run := by
    rintro pins s σ H v u Q hp I r ⟨a, xs, rfl, hq, hl, more⟩
    cases r
    obtain ⟨its, rv, ht, hz⟩ := I.tuple hq
    obtain ⟨hh, v1, e1, c1⟩ := hot
    refine tupHot (e1 := p.1) ⟨hh, p.2, v1, (I.pin p hp).1, e1, c1⟩ (show s.heap.IsTuple a its.toArray from ht) (by simp [hn, ← hl, rv.length]) hst fun h' keep => ?_
    exact h.run pins _ σ H xs _ Q (I.kept (t' := s.toks) fun b o e => keep b o (Nat.ne_of_lt (Heap.lt_size e)) e) (by simpa using rv) more
section
variable {B : Cx} {tg : Expr} {a it : Addr} {pins : List (Addr × Obj)} {s : Shared} {ρ : St} {H : Hp} {E : Value → Shared → Prop} {p : Addr × Obj}
/-- how the loop over the list at a stands, n turns at most to come -/
def HotLp (B : Cx) (p : Addr × Obj) (it a : Addr) (ρ : St) (W : Nat → Nat → Hp → Prop) (n : Nat) (s : Shared) : Prop := ∃ i H, Inv B [p] ρ H s ∧ s.heap.IsListIter it a i ∧ H it = none ∧ W i n H
theorem fpHot (ex : B.ex = [it]) (pn : B.pn = []) (ne : it ≠ p.1) (I : Inv B [p] ρ H s) (free : H it = none) : FpOk B [p] H it := by
  have mem : it ∈ B.ex := by rw [ex]; exact .head _
  obtain ⟨z1, z2⟩ := I.ok.exf it mem
  refine ⟨free, z1, I.ok.exfs it mem, .inl mem, z2, fun q hq => ?_⟩
  rw [pn] at hq
  rw [List.mem_singleton.mp (show q ∈ [p] from hq)]
  exact ne.symm
theorem turnHot {R : Result → Shared → Prop} {NB : Value → Shared → Prop} {elt : Expr} {ifs : List Expr} {σ : St} {vs : List Nat} {D : Addr} {W : Nat → Nat → Hp → Prop} {g : TG} {tt : TT} {te : TE} {P : Hp → Prop} {n : Nat}
    (hot : Hot1 B.A p) (ex : B.ex = [it]) (pn : B.pn = []) (xe : B.xe = fun _ _ => False) (ne : it ≠ p.1) (hρ : ρ = wipe σ vs) (pg : PGH B p tg g) (pt : PTs B ifs tt) (pe : PE B elt te)
    (leave : ∀ s' H', Inv B [p] ρ H' s' → P H' → R (.ok .next) s')
    (turns : ∀ i m H, W i m H → ((Itl B.K a).stop i H ∧ P H) ∨ ((Itl B.K a).go i H ∧ ∃ Nx : Hp → Prop, (∀ H', Nx H' → ∃ m', m' < m ∧ W (i + 1) m' H') ∧ ∀ x H', (Itl B.K a).yld i H x H' → g x (wipe σ vs) H' fun σ2 H2 => wipe σ2 vs = wipe σ vs ∧ tt σ2 H2 fun b H3 =>
      if b = true then te σ2 H3 fun y H4 => ∃ acc, H4 D = some (.lst acc) ∧ acc.length < sizeLine ∧ Nx (upd H4 D (.lst (acc ++ [y]))) else Nx H3))
    (st : HotLp B p it a ρ W n s) :
    wpAny (model B.prog B.w) B.A (pyNext (.ref it)) (fun r s₁ => match r with
      | none => R (.ok .next) s₁
      | some v => wpAny (model B.prog B.w) B.A (letOwnedTupleGo tg (.ref it) v) (fun _ s₁' => wpAny (model B.prog B.w) B.A (assign tg B.env v) (fun _ s₂ =>
          wpAny (model B.prog B.w) B.A (forIn ifs true fun c r => if r = true then do let ok ← isTrue c B.env (eval c B.env); pure (ForInStep.yield ok) else pure (ForInStep.yield r)) (fun ok s₃ =>
            if ok = true then wpAny (model B.prog B.w) B.A (eval elt B.env) (fun x s₄ =>
              wpAny (model B.prog B.w) B.A (call (.builtin "list.append") [.ref D, x]) (fun _ s₅ => ∃ m, m < n ∧ HotLp B p it a ρ W m s₅) NB s₄) NB s₃
            else ∃ m, m < n ∧ HotLp B p it a ρ W m s₃) NB s₂) NB s₁') NB s₁) NB s := by
  obtain ⟨i, H0, I0, li, fr, w0⟩ := st
  have fp := fpHot ex pn ne I0 fr
  obtain ⟨f0, f1, f2, f3, f4, f5⟩ := id fp
  rcases turns i n H0 w0 with ⟨⟨xs, hq, hx⟩, fin⟩ | ⟨⟨xs, x, hq, hx⟩, Nx, down, step⟩
  · obtain ⟨its, rv, q, _⟩ := I0.list hq
    have many := rv.length
    obtain ⟨hh, v1, e1, c1⟩ := hot
    exact endHot (e1 := p.1) ⟨hh, p.2, v1, (I0.pin p (List.mem_append_right _ (.head _))).1, e1, c1⟩ ne li q.isList (by simp; omega) fun h' kept => leave _ H0 (I0.turned (t' := s.toks) (fun b o hb e => kept b o hb e) f0 f1 f3 f4 f5) fin
  · obtain ⟨its, rv, q, _⟩ := I0.list hq
    obtain ⟨u, hu, ru⟩ := rv.get hx
    refine wpAny_pyNext_list_item li q.isList (x := u) (by simpa using hu) fun h1 li1 but => ?_
    obtain ⟨oi, ei, ci, di⟩ := id li1
    have I1 : Inv B [p] ρ H0 { s with heap := h1 } := I0.turned (t' := s.toks) (fun b o hb e => (but.2 b hb).trans e) f0 f1 f3 f4 f5
    refine go_of (s := { s with heap := h1 }) ei ci di (by decide) ?_
    have J1 := I1.pinned (fp := [it]) (fun b hb => by rw [List.mem_singleton.mp hb]; exact fp) fun b hb => by
      rw [List.mem_singleton.mp hb]
      exact ⟨oi, ei, fun v z => by rw [di] at z; cases z⟩
    have err : ∀ {α : Type} {t : Sem α} {Q Q' : α → Shared → Prop} {s' : Shared}, wpAny (model B.prog B.w) B.A t Q B.xe s' → (∀ r s'', Q r s'' → Q' r s'') → wpAny (model B.prog B.w) B.A t Q' NB s' := by
      intro α t Q Q' s' h hQ
      rw [xe] at h
      exact wpAny_mono h hQ fun _ _ z => z.elim
    subst hρ
    have yes : (Itl B.K a).yld i H0 x H0 := ⟨rfl, fun ys hy => by rw [I0.list_inj hy hq]; exact hx⟩
    refine err (pg.run _ _ _ H0 x u _ (List.mem_append_right _ (.head _)) J1 ru (step x H0 yes)) ?_
    rintro - s2 ⟨σ2, H2, I2, same, q2⟩
    refine err (pt.run _ s2 σ2 H2 _ I2 q2) ?_
    rintro b s3 ⟨H3, I3, q3⟩
    have again : ∀ s' H', Inv B ([p] ++ pinsAt [it] h1) σ2 H' s' → Nx H' → ∃ m, m < n ∧ HotLp B p it a (wipe σ vs) W m s' := by
      intro s' H' I' nx
      obtain ⟨m, hm, w'⟩ := down H' nx
      have stays := I'.pin (it, oi) (List.mem_append_right _ (List.mem_append_right _ (mem_pinsAt (.head _) ei)))
      refine ⟨m, hm, i + 1, H', (I'.unpinned (pins := [p])).weak ?_ ?_, li1.at fun o e => ?_, stays.2.1, w'⟩
      · rw [← same, wipe_length]
      · intro j v e
        rw [← same] at e
        exact (wipe_some e).1
      · rw [ei] at e
        cases e
        exact stays.1
    cases b with
    | false => exact again s3 H3 I3 (by simpa using q3)
    | true =>
      refine err (pe.run _ s3 σ2 H3 _ I3 (by simpa using q3)) ?_
      rintro z s4 ⟨y, H4, I4, ry, acc, hD, hz, nx⟩
      exact app_ok (X := B) I4 hD hz ry fun s5 I5 => again s5 _ I5 nx
end
end L2.BP
namespace L2.BP
open PySem PySem.Spec PyProof.Rows HotX L2H
section
variable {X : Cx}
/-- a list's iterator, fresh -/
theorem iterHot {iter : Expr} {tl : TE} (hl : PE X iter tl) {pins : List (Addr × Obj)} {s : Shared} {σ : St} {H : Hp} {R : It → Hp → Prop} (I : Inv X pins σ H s) (h : iList X.K tl σ H R) :
    wpAny (model X.prog X.w) X.A (eval iter X.env) (fun v s1 => wpAny (model X.prog X.w) X.A (pyIter v) (fun v2 s2 => ∃ (it a : Addr) (H' : Hp), v2 = .ref it ∧ Inv X pins σ H' s2 ∧ s2.heap.IsListIter it a 0 ∧ FpOk X pins H' it ∧ R (Itl X.K a) H') X.xe s1) X.xe s := by
  apply thn (hl.run pins s σ H _ I h)
  rintro v s1 ⟨_, H1, I1, rel, a, rfl, ⟨xs, sq⟩, more⟩
  cases rel
  obtain ⟨its, _, q, _⟩ := I1.list sq
  apply wpAny_pyIter_list q.isList
  exact ⟨_, a, H1, rfl, I1.kept (t' := s1.toks) fun b o e => Heap.get?_push_of_some _ e, ⟨_, Heap.get?_push_size _ rfl, rfl, rfl⟩, I1.fpOk (Nat.le_refl _) (I1.hok.fresh (Nat.le_refl _)), more⟩
theorem ps_setHot {i : Nat} {y : Str} {py : Pos} {elt tg iter : Expr} {ifs : List Expr} {scope : Scope} {own : List (Str × Nat)} {pos spos : Pos} {tl : TE} {g : TG} {tt : TT} {te : TE} {p : Addr × Obj} (hot : Hot1 X.A p) (hp : p ∈ X.pn) (hN : X.N.Nodup) (hy : X.N[i]? = some y) (hyl : X.env.scope.names.lookup y = some .local)
    (hsw : swapsWith (.ListComp elt [⟨tg, iter, ifs, 0⟩] scope pos) (some (.Name y py)) spos.line X.env = pure true) (hi : PE X iter tl) (ok : BlkOk X.N X.env.scope scope own)
    (hg : ∀ (s : Shared) (H : Hp) (C : Addr) (cl : List (Str × Addr)) (fp : List Addr), PGH (X.blk s H scope (compEnvC scope cl C X.env) fp) p tg g) (ht : ∀ (s : Shared) (H : Hp) (C : Addr) (cl : List (Str × Addr)) (fp : List Addr), PTs (X.blk s H scope (compEnvC scope cl C X.env) fp) ifs tt)
    (he : ∀ (s : Shared) (H : Hp) (C : Addr) (cl : List (Str × Addr)) (fp : List Addr), PE (X.blk s H scope (compEnvC scope cl C X.env) fp) elt te) (hs : ∀ x, foldedSetIterable iter X.env x = pure x := by intro _; rfl) :
    PS X (.Assign [.Name y py] (.ListComp elt [⟨tg, iter, ifs, 0⟩] scope pos) spos) (tAsg (tLc (iList X.K tl) g tt te (own.map (·.2))) (gName i)) := by
  constructor
  intro pins s σ H D I want
  have want : tLc (iList X.K tl) g tt te (own.map (·.2)) σ H (fun x H1 => gName i x σ H1 D.nx) := want
  have closed : ∀ z ∈ scope.names, z.2 = .free → ∃ c, X.env.cells.lookup z.1 = some c := fun z hz e => (ok.free z hz e).elim (fun k => I.ok.has _ (.inl k)) fun k => I.ok.has _ (.inr k)
  rw [exec_Assign_Name_used _ _ _ _ hsw]
  apply wpAny_bind
  apply wpAny_standAt
  apply wpAny_bind
  change wpAny _ X.A (do let _ ← comprehension (.ListComp elt [⟨tg, iter, ifs, 0⟩] scope pos) scope X.env (firstIterPos [⟨tg, iter, ifs, 0⟩] pos) (newList []) false (eval iter X.env) (some (assign (.Name y py) X.env))) _ _ s
  apply wpAny_bind
  refine thn (Q := fun _ s' => SP X pins D .next s') ?_ fun _ s' done => wpAny_pure (wpAny_pure done)
  refine wpAny_comprehension_free (use := some (assign (.Name y py) X.env)) rfl hs (closure_ok closed) ok.kind (fun z hz e => by rw [ok.uniq z hz, e]) (thn (iterHot hi I want) fun v s1 hv => thn hv ?_)
  rintro v2 s2 ⟨it, a, H2, rfl, I2, li2, fit, make⟩
  obtain ⟨W, ⟨m0, w0⟩, turns⟩ := make s2.heap.objs.size (I2.hok.fresh (Nat.le_refl _))
  have itIn : it < s2.heap.objs.size := by
    obtain ⟨o, e, _⟩ := li2
    exact Heap.lt_size e
  refine wpAny_newObj_type (newEnv_comp ?_) (Nat.zero_le sizeLine)
  -- the new list
  generalize eD : s2.heap.objs.size = L at w0 turns itIn ⊢
  generalize es3 : ({ s2 with heap := s2.heap.push { cls := .type "list", data := .seq ([] : List Value).toArray } } : Shared) = s3
  have grow3 : ∀ b o, s2.heap.get? b = some o → s3.heap.get? b = some o := fun b o e => by
    rw [← es3]
    exact Heap.get?_push_of_some _ e
  have I3 : Inv X pins σ (upd H2 L (.lst [])) s3 := by
    rw [← es3]
    refine I2.laid (t' := s2.toks) (fun b o e => Heap.get?_push_of_some _ e) (Nat.le_of_eq eD) ⟨Nat.zero_le _, [], 0, .nil, ?_⟩
    rw [← eD]
    exact Heap.get?_push_size _ rfl
  have free3 : upd H2 L (.lst []) it = none := by
    rw [upd_ne (Nat.ne_of_lt itIn)]
    exact fit.1
  generalize upd H2 L (.lst []) = H3 at w0 I3 free3
  have itIn3 : it < s3.heap.objs.size := by
    obtain ⟨o, e, _⟩ := li2
    exact Heap.lt_size (grow3 _ _ e)
  have fit3 : FpOk X pins H3 it := ⟨free3, fit.2⟩
  have P3 := I3.pin p (List.mem_append_left _ hp)
  have ne : it ≠ p.1 := fun z => fit.2.2.2.2.2 p (List.mem_append_left _ hp) z.symm
  -- the block
  have I4 := block_start (fp := [it]) I3 ok hN fun b hb => by
    rw [List.mem_singleton.mp hb]
    exact ⟨fit3, itIn3⟩
  have pg := hg s3 H3 s3.heap.objs.size (cellsFrom (s3.heap.objs.size + 1) scope.names (cloFrom X.env.cells scope.names [])) [it]
  have pt := ht s3 H3 s3.heap.objs.size (cellsFrom (s3.heap.objs.size + 1) scope.names (cloFrom X.env.cells scope.names [])) [it]
  have pe := he s3 H3 s3.heap.objs.size (cellsFrom (s3.heap.objs.size + 1) scope.names (cloFrom X.env.cells scope.names [])) [it]
  change codeAny _ _ (.compStart (.ListComp elt [⟨tg, iter, ifs, 0⟩] scope pos) 0 (.ref it) (.ref L) (compEnvC scope (cellsFrom (s3.heap.objs.size + 1) scope.names (cloFrom X.env.cells scope.names [])) s3.heap.objs.size X.env)) (compPost (model X.prog X.w) X.A X.xe (some (assign (.Name y py) X.env)) (fun _ s' => SP X pins D .next s') (.ref L) s3.heap.objs.size) { s3 with heap := pushCells (s3.heap.push { cls := .type "dict", data := .dict #[] }) scope.names }
  generalize ece : compEnvC scope (cellsFrom (s3.heap.objs.size + 1) scope.names (cloFrom X.env.cells scope.names [])) s3.heap.objs.size X.env = ce at I4 pg pt pe ⊢
  have locs : ce.locals = s3.heap.objs.size := by
    subst ece
    rfl
  have grow4 : ∀ b o, s3.heap.get? b = some o → (pushCells (s3.heap.push { cls := .type "dict", data := .dict #[] }) scope.names).get? b = some o := fun b o e => pushCells_keeps _ _ _ _ (Heap.get?_push_of_some _ e)
  have I5 := I4.pins_of (pins' := [p]) fun q hq => by
    rw [List.mem_singleton.mp hq]
    refine ⟨grow4 _ _ P3.1, P3.2.1, ?_, ?_, P3.2.2.2.2⟩
    · change p.1 ≠ ce.locals
      rw [locs]
      exact Nat.ne_of_lt (Heap.lt_size P3.1)
    · intro z
      rcases List.mem_cons.mp (I3.stkSub _ z) with z | z
      · exact P3.2.2.1 z
      · exact P3.2.2.2.1 z
  have li4 : (pushCells (s3.heap.push { cls := .type "dict", data := .dict #[] }) scope.names).IsListIter it a 0 := li2.at fun o e => grow4 _ _ (grow3 _ _ e)
  generalize es4 : ({ s3 with heap := pushCells (s3.heap.push { cls := .type "dict", data := .dict #[] }) scope.names } : Shared) = s4 at I5 ⊢
  have li4 : s4.heap.IsListIter it a 0 := by
    rw [← es4]
    exact li4
  have loop : codeAny (model X.prog X.w) X.A (.compLoop (.ListComp elt [⟨tg, iter, ifs, 0⟩] scope pos) 0 (.ref it) (.ref L) ce) (compPost (model X.prog X.w) X.A X.xe (some (assign (.Name y py) X.env)) (fun _ s' => SP X pins D .next s') (.ref L) s3.heap.objs.size) s4 := by
    refine compLoop_any (HotLp (X.blk s3 H3 scope ce [it]) p it a (wipe σ (own.map (·.2))) W) (fun n s5 st => ?_) m0 ⟨0, H3, I5, li4, free3, w0⟩
    refine turnHot (B := X.blk s3 H3 scope ce [it]) (σ := σ) (vs := own.map (·.2)) hot rfl rfl rfl ne rfl pg pt pe ?_ turns st
    -- behind the last turn: the name is bound
    intro s6 H6 I6 q
    have back : Inv X pins σ H6 s6 := I3.call' (ch := [it]) I6.os I6.base I6.hok I6.bare fun b hb => by
      rw [List.mem_singleton.mp hb]
      exact ⟨fit3.2.2.2.1, fit3.2.1, fit3.2.2.2.2.1, fit3.2.2.2.2.2⟩
    have clear : H6 s3.heap.objs.size = none := by
      have z : H6 ce.locals = none := I6.free
      rw [locs] at z
      exact z
    obtain ⟨m, names, _⟩ := I6.loc
    have names : s6.heap.Ns ce.locals m := names
    rw [locs] at names
    obtain ⟨f0, f1, f2, f3, f4, f5⟩ := I3.fpOk (H' := H6) (Nat.le_refl _) clear
    change wpAny _ _ (assign (.Name y py) X.env (.ref L)) _ _ _
    refine wpAny_assign_Name (store_ok2 (v := V.ref L) back hN hy (.inl hyl) rfl ?_ (.inr hyl))
    rintro s7 I7 ⟨c, but, place⟩
    have apart : s3.heap.objs.size ≠ c := by
      rcases place with z | z
      · rw [z]
        exact f1
      · exact fun e => f4 y c z e.symm
    exact ⟨m, names.sameBut but apart, fun h8 but8 => ⟨_, H6, I7.turned (t' := s7.toks) (fun b o hb e => (but8.2 b hb).trans e) f0 f1 f3 f4 f5, q⟩⟩
  exact codeAny_compStart_list loop (wpAny_pyIter_listiter li4 loop)
end
end L2.BP
namespace L2.BP
open PySem PySem.Spec PyProof.Rows
theorem noneBack {H B : Hp} {p : Addr} (s : Same H B) (h : B p = none) : H p = none := by
  cases e : H p with
  | none => rfl
  | some u =>
    have z := s _ _ e
    rw [h] at z
    cases z
end L2.BP
namespace L2.BP
open PySem PySem.Spec PyProof.Rows HotX L2H
/-! ### defs called in a suite that don't look at the exception -/
theorem FunD.okH {P : Program} {w : World} {K : PySem.W.Frag} {mg : Str → Option Value} {base : Heap} {x qual : Str} {params : Arguments} {body : List Stmt} {scope : Scope} {dvs : List V} {kws : List (Str × V)} {f : Addr} {fd : FuncData} {CX : CXT} {N ps : List Str} {k : Nat} {sp : Sp} (F : FunD K x qual params body scope dvs kws f fd) (S : FnScope N ps scope) (len : ∀ vs H Q E, sp vs H Q E → vs.length = ps.length)
    (hbody : ∀ (cdv : Value) (A : Around) (outer : List Env) (s : Shared) (H : Hp) (vs : List V) (Q : VK) (E : XK) (p : Addr × Obj), Hot1 A p → RoomH k (A.deeper (envOfC qual scope s.heap.objs.size f cdv)) → sp vs H Q E →
      ∃ t, PSs (cxH CX P w K mg base N qual scope f cdv A outer s H E p) body t ∧ t { nx := fun _ H' => Q .non H', rt := Q } (L2.start N vs) H) : FnH P w K mg base CX (k + 1) f fd ps sp := by
  obtain ⟨_, _, _, _, _, _, _, cdv, _, _, e, look, code, _, _⟩ := F.ex
  subst e
  exact fn_ofH look code S len (hbody cdv)
theorem roomMark {k : Nat} {A : Around} {h : Option Value} (r : RoomH k A) : RoomH k (A.mark h) := ⟨r.dp, r.un⟩
theorem pe_clH {Y : Cx} {k : Nat} {f : Addr} {fd : FuncData} {ps : List Str} {sp : Sp} {x : Str} {q pos : Pos} {e : Expr} {es : List Expr} {t : TA} (F : FnH Y.prog Y.w Y.K Y.mg Y.base (L2N.CX Y.prog Y.w) k f fd ps sp) (hr : RoomH k Y.A) (hc : HotC Y) (hg : Gl Y x) (hm : Y.mg x = some (.ref f)) (hk : PySem.W.keepIn Y.K (.ref f) = true) (hb : Binds Y.K fd ps [])
    (ha : PA Y (e :: es) t) (hdb : (x == ("__debug__" : Str)) = false := by decide) (he : starEach (e :: es) Y.env = (false, eval e Y.env) :: starEach es Y.env := by rfl) (hpl : (backTo pos (starEach es Y.env)).any (·.1) = false := by rfl) :
    PE Y (.Call (.Name x q) (e :: es) [] pos) (tCl sp [] WF t) where
  run := fun pins s σ H Q I h => by
    have same : (fun vs H1 => sp (vs ++ []) H1 Q fun c d H2 => WF c d σ H2) = fun vs H1 => sp vs H1 Q (WE WF σ) := by
      funext vs H1
      rw [List.append_nil]
    have h' : t σ H fun vs H1 => sp vs H1 Q (WE WF σ) := same ▸ h
    exact (pe_callH (E := WE WF) F hr hc hg hm hk hb (fun σ => L2N.passAt takes0N σ) ha hdb he hpl).run pins s σ H Q I h'
/-- a list walked there -/
theorem turn_listH {P : Program} {w : World} {K : PySem.W.Frag} {tg : Expr} (a it : Addr) : TurnH P w K tg (Itl K a) [it] it (fun i h => h.IsListIter it a i) where
  mem := (turn_list (P := P) (w := w) (K := K) (tg := tg) a it).mem
  obj := (turn_list (P := P) (w := w) (K := K) (tg := tg) a it).obj
  keep := (turn_list (P := P) (w := w) (K := K) (tg := tg) a it).keep
  self := (turn_list (P := P) (w := w) (K := K) (tg := tg) a it).self
  item := by
    rintro X rfl rfl rfl _ i pins s σ H E I hf li ⟨xs, x, hq, hx⟩
    obtain ⟨its, rv, q, _⟩ := I.list hq
    obtain ⟨u, hu, ru⟩ := rv.get hx
    obtain ⟨f0, f1, f2, f3, f4, f5⟩ := hf it (.head _)
    refine wpAny_pyNext_list_item li q.isList (x := u) (by simpa using hu) fun h1 li1 but => ⟨u, rfl, ?_⟩
    obtain ⟨oi, ei, ci, di⟩ := id li1
    refine go_of (s := { s with heap := h1 }) ei ci di (by decide) ⟨x, H, I.turned (t' := s.toks) (fun b o hb e => (but.2 b hb).trans e) f0 f1 f3 f4 f5, ru, ⟨rfl, fun ys hy => ?_⟩, li1, fun b hb => (hf b hb).1⟩
    rw [I.list_inj hy hq]
    exact hx
  done := by
    rintro X rfl rfl rfl ⟨p, ⟨hh, v1, e1, c1⟩, hp⟩ i pins s σ H E I hf li ⟨xs, hq, hx⟩
    obtain ⟨its, rv, q, _⟩ := I.list hq
    have many := rv.length
    obtain ⟨f0, f1, f2, f3, f4, f5⟩ := hf it (.head _)
    exact endHot (e1 := p.1) ⟨hh, p.2, v1, (I.pin p (List.mem_append_left _ hp)).1, e1, c1⟩ (fun z => f5 p (List.mem_append_left _ hp) z.symm) li q.isList (by simp; omega) fun h' kept => ⟨rfl, I.turned (t' := s.toks) (fun b o hb e => kept b o hb e) f0 f1 f3 f4 f5⟩
theorem pi_listH {X : Cx} {tg l : Expr} {tl : TE} (hl : PE X l tl) : PIH X tg l (iList X.K tl) where
  run := fun pins s σ H R I h => by
    apply thn (hl.run pins s σ H _ I h)
    rintro v s1 ⟨_, H1, I1, rel, a, rfl, ⟨xs, sq⟩, more⟩
    cases rel
    obtain ⟨its, _, q, _⟩ := I1.list sq
    apply wpAny_pyIter_list q.isList
    refine ⟨_, [s1.heap.objs.size], _, _, H1, rfl, I1.kept (t' := s1.toks) fun b o e => Heap.get?_push_of_some _ e, turn_listH a _, ⟨_, Heap.get?_push_size _ rfl, rfl, rfl⟩, fun b hb => ?_, more⟩
    rw [List.mem_singleton.mp hb]
    exact I1.fpOk (Nat.le_refl _) (I1.hok.fresh (Nat.le_refl _))
end L2.BP
namespace L2.BP
open PySem PySem.Spec PyProof.Rows
/-- the first own objects laid to the base, all at once -/
theorem Hs.fixes : ∀ {N L : Pic} {B H : Hp}, Hs B (N ++ L) H → ∃ B', Same B B' ∧ Hs B' L H ∧ ∀ q ∈ N, B' q.1 = some q.2
  | [], _, B, _, h => ⟨B, Same.refl B, h, fun _ z => nomatch z⟩
  | (p, o) :: N, L, B, H, h => by
    obtain ⟨B', s, h', k⟩ := Hs.fixes (N := N) (L := L) (Hs.fix h)
    refine ⟨B', (same_upd (h.nb (.head _))).trans s, h', fun q hq => ?_⟩
    rcases List.mem_cons.mp hq with rfl | hq
    · exact s _ _ upd_same
    · exact k q hq
end L2.BP
namespace L2.BP
open PySem PySem.Spec PyProof.Rows L2H
/-- o.m() where an exception is handled -/
theorem pe_mt0H {Y : Cx} {C f : Addr} {m : Str} {k : Nat} {fd : FuncData} {ps : List Str} {sp : Sp} {o : Expr} {ta : TE} {pos apos : Pos} {pl : Sem Bool} (he : PE Y o ta) (c : Cls Y.K C) (hm : Meth Y.K C m f) (F : FnH Y.prog Y.w Y.K Y.mg Y.base (L2N.CX Y.prog Y.w) k f fd ps sp) (hr : RoomH k Y.A) (hc : HotC Y)
    (hb : Binds Y.K fd ps []) (ht : eval (.Call (.Attribute o m apos) [] [] pos) Y.env = (do
      let ov ← eval o Y.env; standAt apos.atName
      let (f, first) ← holding [ov] (getMethod ov m pl); callWith pos f first (backTo pos (starEach [] Y.env)) (backToKw pos (keywordEach [] Y.env))) := by rfl) :
    PE Y (.Call (.Attribute o m apos) [] [] pos) (tMt C m sp [] WF ta tNil) where
  run := fun pins s σ H Q I h => by
    refine PySem.W.methodCall_KW (pl := pl) (thn (he.run pins s σ H _ I h) ?_) ht
    rintro u s1 ⟨x, H1, I1, rx, a, dx, fs, rfl, ea, l, q⟩
    cases (show u = Value.ref a from rx)
    have go := run_fnH (E := WE WF) (us := [.ref a]) (vs := [.ref a]) F hr hc hb (L2N.passAt takes0N σ) I1 (.cons rfl .nil) q
    exact getmeth_ok I1 ea c hm l (PySem.W.callWith_K0 (first := [.ref a]) I1.kIn hm.kp go)
end L2.BP
namespace L2.BP
open PySem PySem.Spec PyProof.Rows
/-- a key's function that tells a tuple's first item and leaves the heap -/
def KeyFirst (P : Program) (w : World) (K : PySem.W.Frag) (f : Addr) : Prop :=
  ∀ (A : Around) (s : Shared) (p : Addr) (its : Array Value) (i : Int) (t : Tok), K.In s.heap → s.heap.NoLimit → A.depth < recursionLimit → IsTup s.heap p its → its[0]? = some (.int i t) →
    wpAny (model P w) A (call (.ref f) [.ref p]) (PySem.W.KeyPure (.int i) s) (fun _ _ => False) s
/-- the form of such a def's body -/
def firstKeyOf : List Stmt → Option Str
  | [.Return (some (.Subscript (.Name v _) (.Constant (.int 0) _ _) _)) _] => some v
  | _ => none
theorem firstKey_form {b : List Stmt} {v : Str} (h : firstKeyOf b = some v) : ∃ (j : Nat) (p1 p2 p3 p4 : Pos), b = [.Return (some (.Subscript (.Name v p1) (.Constant (.int 0) j p2) p3)) p4] := by
  unfold firstKeyOf at h
  split at h
  · cases h
    exact ⟨_, _, _, _, _, rfl⟩
  · cases h
theorem FunD.keyFirst {P : Program} {w : World} {K : PySem.W.Frag} {x qual v : Str} {params : Arguments} {body : List Stmt} {scope : Scope} {f : Addr} {fd : FuncData} {dvs : List V} {kws : List (Str × V)}
    (F : FunD K x qual params body scope dvs kws f fd) (hform : firstKeyOf body = some v) (S : FnScope [v] [v] scope) (hv : scope.names.lookup v = some .local) (hb : Binds K fd [v] []) (hd : (v == ("__debug__" : Str)) = false := by decide) : KeyFirst P w K f := by
  obtain ⟨j, p1, p2, p3, p4, rfl⟩ := firstKey_form hform
  intro A s p its i t KX lim hr ht hi
  obtain ⟨_, _, _, _, _, _, _, cdv, _, _, e, look, code, _, _⟩ := F.ex
  have hb := hb s [.ref p] KX rfl
  subst e
  refine wpAny_call (codeAny_call_function hr (KX _ _ look) rfl S.co S.gen rfl (PySem.W.codeRec_of KX code) (hb _ _ _ _ ?_))
  refine wpAny_newFunctionEnv_cells S.kind (fun y hy => ?_) fun env he s1 hx => ?_
  · have e1 : y = (v, Value.ref p) := by simpa using hy
    subst e1
    exact .inl hv
  subst he
  refine ⟨lim.keeps hx.toInCall.keep, codeAny_func ?_⟩
  obtain ⟨h1, tk, rfl, hk⟩ := hx.done
  have hns := hx.toInCall.ns
  have hkv : (envOfC qual scope s.heap.objs.size f cdv).kindOf v = some .local := hv
  have hm : bindL (envOfC qual scope s.heap.objs.size f cdv).kindOf ([v].zip [Value.ref p]) (fun _ => none) v = some (.ref p) := by
    show bindL _ [(v, Value.ref p)] _ v = _
    unfold bindL
    rw [if_pos hkv]
    show (if v = v then _ else _) = _
    rw [if_pos rfl]
  obtain ⟨o, e1, e2, n, e3⟩ := ht
  have ht1 : IsTup h1 p its := ⟨o, hk _ _ e1, e2, n, e3⟩
  have hil : 0 < its.size := by
    cases e : its.size with
    | zero =>
      rw [Array.getElem?_eq_none (by omega)] at hi
      cases hi
    | succ m => omega
  refine wpAny_execs_cons (wpAny_Return_some (Subscript_ (wpAny_Name (wpAny_loadName_local S.kind hkv hns hm ?_) hd)))
  refine wpAny_Constant_int ?_
  refine subscriptTail_builtinR (x := .int i t) ht1.typeIs slot_tuple_getitem.lookup (getItem_tuple (j := 0) ht1 (by decide) (by decide) ?_ hi ⟨rfl, ?_⟩) rfl
  · rw [seqIndex_of (by decide) (by omega)]; rfl
  · exact ⟨_, _, rfl, hk, .int _ _⟩

def sortedBy (xs : List V) (ws : List Int) : List V := ((xs.zip ws).mergeSort fun a b => decide (a.2 ≤ b.2)).map (·.1)
/-- sorted(l, key=f), f as above -/
def rSortKF (K : PySem.W.Frag) (f : Addr) : List V → List V → Hp → VK → Prop := fun vs zs H Q => ∃ (a : Addr) (xs : List V) (ws : List Int), vs = [.ref a] ∧ zs = [.ref f] ∧ SqL K H a xs ∧
  Paired (fun x i => ∃ p ys, x = V.ref p ∧ SqT K H p (.int i :: ys)) xs ws ∧ ∀ p, H p = none → Q (.ref p) (upd H p (.lst (sortedBy xs ws)))
theorem vals_one {x : V} {us : List Value} (h : Vals [x] us) : ∃ u, us = [u] ∧ RelV x u := by
  cases h with
  | cons e t =>
    cases t
    exact ⟨_, rfl, e⟩
theorem vals_each {S : Value → V × Int → Prop} {out : List Value} {l : List (V × Int)} (h : PySem.W.EachIs (fun v b => RelV b.1 v ∧ S v b) out l) : Vals (l.map (·.1)) out := by
  induction h with
  | nil => exact .nil
  | cons e _ ih => exact .cons e.1 ih
theorem cr_sortedKF {X : Cx} {f : Addr} (hf : KeyFirst X.prog X.w X.K f) (hr : Room 1 X.A) : CallRK X (.builtin "sorted") [Str.ofString "key"] (rSortKF X.K f) := by
  intro pins s σ H vs zs us ws0 Q I r1 r2 q
  obtain ⟨a, xs, ws, rfl, rfl, hS, hP, q⟩ := q
  obtain ⟨u, rfl, e1⟩ := vals_one r1
  obtain ⟨u2, rfl, e2⟩ := vals_one r2
  cases e1
  cases e2
  obtain ⟨its, rv, hl, hz⟩ := I.list hS
  -- items by their values and keys
  have each : PySem.W.EachIs (fun (v : Value) (b : V × Int) => RelV b.1 v ∧ ∃ p items t, v = .ref p ∧ IsTup s.heap p items ∧ items[0]? = some (.int b.2 t)) its (xs.zip ws) := by
    clear hl q hz hS
    induction hP generalizing its with
    | nil => cases rv; exact .nil
    | cons h t ih =>
      cases rv with
      | cons e r =>
        obtain ⟨p, ys, rfl, hT⟩ := h
        cases e
        obtain ⟨its2, r2, hI, _⟩ := I.tuple hT
        refine .cons ⟨rfl, ?_⟩ (ih _ r)
        cases r2 with
        | cons e5 r5 =>
          obtain ⟨t5, rfl⟩ := e5
          exact ⟨p, _, t5, rfl, hI, by simp⟩
  have hlen : (xs.zip ws).length = xs.length := by rw [List.length_zip, hP.length, Nat.min_self]
  show wpAny _ _ (call (.builtin "sorted") [.ref a] [(Str.ofString "key", .ref f)]) _ _ _
  refine PySem.W.sorted_key_data (b := false) (fun b : V × Int => .int b.2) hl.isList each (PySem.W.AllAlike.of fun _ _ => by simp [PySem.W.alike]) (PySem.W.Sortable.others fun b => ⟨by simp, by simp⟩) (by rw [hlen]; exact hz) (fun b _ => ?_) (ksk_s1 _ _) (fun _ => ksk_l1 _ _) (fun _ => ksk_t1 _ _)
    (fun v b hR _ h tk kp => ?_) fun out c h' tk kp _ hD hol eo => ?_
  · have := hr.un
    show X.A.units + 2 + 0 < cLine
    omega
  · obtain ⟨_, p, items, t, rfl, ⟨o, e1, e2, n, e3⟩, hi⟩ := hR
    have hd : X.A.in1.in1.depth < recursionLimit := by
      have := hr.dp
      show X.A.depth < _
      omega
    exact hf _ _ p items b.2 t (I.kIn.keeps kp) (I.nolimit.keeps kp) hd ⟨o, kp _ _ e1, e2, n, e3⟩ hi
  · have fr : H (s.heap.objs.size + 1) = none := I.hok.fresh (Nat.le_succ _)
    rw [PySem.W.dataLe_int] at eo
    have hv := vals_each eo
    have hsl : (sortedBy xs ws).length ≤ sizeLine := by
      unfold sortedBy
      rw [List.length_map, List.length_mergeSort, hlen]
      exact hz
    exact ⟨.ref (s.heap.objs.size + 1), _, I.laid (o := .lst (sortedBy xs ws)) (t' := tk) kp (Nat.le_succ _) ⟨hsl, out, c, hv, hD⟩, rfl, q _ fr⟩
end L2.BP
namespace L2.BP
open PySem PySem.Spec PyProof.Rows
section
variable {K : PySem.W.Frag} {H : Hp} {Q : VK} {B : Hp} {L : Pic} {σ : St} {x : V}
theorem c_ckw {r : List V → List V → Hp → VK → Prop} {t tk : TA} (k : t σ H fun vs H1 => tk σ H1 fun zs H2 => r vs zs H2 Q) : tCKw r t tk σ H Q := k
theorem c_sortedKF {f a : Addr} {xs : List V} {ws : List Int} (hs : Hs B L H) (hS : SqL K H a xs) (hP : Paired (fun x i => ∃ p ys, x = V.ref p ∧ SqT K H p (.int i :: ys)) xs ws) (k : ∀ p H', Hs B ((p, .lst (sortedBy xs ws)) :: L) H' → Q (.ref p) H') : rSortKF K f [.ref a] [.ref f] H Q :=
  ⟨a, xs, ws, rfl, rfl, hS, hP, fun p hp => k p _ (hs.new hp)⟩
theorem c_countL {p : Addr} {ns : List Int} {i : Int} (h : SqL K H p (ns.map V.int)) (k : Q (.int (ns.count i : Nat)) H) : rCntI K (.ref p) [.int i] H Q := ⟨p, ns, i, rfl, rfl, h, k⟩
/-- values that are alike by kind alone -/
theorem c_eqX {x y : V} (h : scal x y = true) (k : Q (.bl (decide (x = y))) H) : rEqU K x y H Q := .inl ⟨h, k⟩
theorem c_neX {x y : V} (h : scal x y = true) (k : Q (.bl (!decide (x = y))) H) : rNeU K x y H Q := .inl ⟨h, k⟩
/-- an empty dict -/
theorem c_neE {a b : Addr} (h1 : H a = some (.dK [])) (h2 : H b = some (.dK [])) (k : Q (.bl false) H) : rNeU K (.ref a) (.ref b) H Q := .inr (.inr ⟨a, b, [], [], rfl, rfl, h1, h2, rfl, (fun _ z => nomatch z), k⟩)
theorem c_eqE {a b : Addr} (h1 : H a = some (.dK [])) (h2 : H b = some (.dK [])) (k : Q (.bl true) H) : rEqU K (.ref a) (.ref b) H Q := .inr (.inr (.inl ⟨a, b, [], [], rfl, rfl, h1, h2, rfl, (fun _ z => nomatch z), k⟩))
end
end L2.BP
namespace L2.BR
open PySem PySem.Spec PyProof.Rows L2.BP
section
variable {K : PySem.W.Frag} {W : WX} {vs : List V} {H : Hp} {Q : VK} {E : XK}
/-! ### rows -/
def Tg.isByte : Tg → Bool
  | .int i => decide (0 ≤ i) && decide (i ≤ 255)
  | _ => false
/-- whether a thing is a byte, by itself -/
def byteV : V → Bool
  | .int i => decide (0 ≤ i) && decide (i ≤ 255)
  | _ => false
theorem byteV_of {v : V} {g : Tg} (h : Th K H v g) : Tg.isByte g = byteV v := by cases h <;> rfl
def Tg.isRow : Tg → Bool
  | .lst xs => xs.all byteV
  | _ => false
/-- the thing may be looked at: its items are things, too -/
def Tg.ok (K : PySem.W.Frag) (H : Hp) : Tg → Prop
  | .lst xs => (∀ x ∈ xs, ∃ g, Th K H x g) ∧ xs.length ≤ 100000
  | _ => True
/-- a row: its numbers -/
def Bytes (ns : List Int) : Prop := ∀ n ∈ ns, 0 ≤ n ∧ n ≤ 255
theorem ints_of : ∀ {xs : List V}, xs.all byteV = true → ∃ ns : List Int, xs = ns.map V.int ∧ Bytes ns
  | [], _ => ⟨[], rfl, fun _ h => nomatch h⟩
  | x :: r, h => by
    simp only [List.all_cons, Bool.and_eq_true] at h
    obtain ⟨ns, e, hb⟩ := ints_of h.2
    cases x with
    | int i =>
      refine ⟨i :: ns, by rw [e]; rfl, fun n hn => ?_⟩
      rcases List.mem_cons.mp hn with z | z
      · have h1 := h.1
        simp only [byteV, Bool.and_eq_true, decide_eq_true_eq] at h1
        rw [z]
        exact h1
      · exact hb n z
    | _ => cases h.1
theorem all_byteV {ns : List Int} (h : Bytes ns) : (ns.map V.int).all byteV = true := by
  rw [List.all_eq_true]
  intro x hx
  obtain ⟨n, hn, rfl⟩ := List.mem_map.mp hx
  have := h n hn
  simp only [byteV, Bool.and_eq_true, decide_eq_true_eq]
  exact this
theorem ok_ints {H : Hp} {ns : List Int} (h : ns.length ≤ 100000) : Tg.ok K H (.lst (ns.map V.int)) := by
  refine ⟨fun x hx => ?_, by rw [List.length_map]; exact h⟩
  obtain ⟨n, _, rfl⟩ := List.mem_map.mp hx
  exact ⟨_, .int n⟩
theorem cutV_ints (ns : List Int) (lo hi : Option Int) : cutV (ns.map V.int) lo hi = ((ns.drop (HT.sIx ns.length 0 lo)).take (HT.sIx ns.length ns.length hi - HT.sIx ns.length 0 lo)).map V.int := by
  unfold cutV
  rw [List.length_map, List.map_take, List.map_drop]
theorem sIx_at (n d k : Nat) (h : k ≤ n) : HT.sIx n d (some ((k : Nat) : Int)) = k := by rw [HT.sIx_nat]; omega
theorem map_int_inj : ∀ {a b : List Int}, a.map V.int = b.map V.int → a = b
  | [], [], _ => rfl
  | [], _ :: _, h => by cases h
  | _ :: _, [], h => by cases h
  | x :: r, y :: t, h => by
    injection h with h1 h2
    injection h1 with h1
    rw [h1, map_int_inj h2]
theorem ne_f {a b : Int} (h : a = b) : (!decide (a = b)) = false := by rw [decide_eq_true h]; rfl
theorem cut_take (ns : List Int) (m : Nat) : cutV (ns.map V.int) none (some ((m : Nat) : Int)) = (ns.take m).map V.int := by
  rw [cutV_ints, HT.sIx_nat, HT.sIx_none, List.drop_zero, Nat.sub_zero]
  congr 1
  by_cases h : m ≤ ns.length
  · rw [Nat.min_eq_left h]
  · rw [Nat.min_eq_right (by omega), List.take_of_length_le (Nat.le_refl _), List.take_of_length_le (by omega)]
theorem cut_drop (ns : List Int) (m : Nat) : cutV (ns.map V.int) (some ((m : Nat) : Int)) none = (ns.drop m).map V.int := by
  rw [cutV_ints, HT.sIx_nat, HT.sIx_none]
  congr 1
  by_cases h : m ≤ ns.length
  · rw [Nat.min_eq_left h, List.take_of_length_le (by rw [List.length_drop]; omega)]
  · rw [Nat.min_eq_right (by omega), List.drop_of_length_le (Nat.le_refl _), List.drop_of_length_le (by omega), List.take_nil]
theorem cut_mid (ns : List Int) (a b : Nat) (h1 : a ≤ b) (h2 : b ≤ ns.length) : cutV (ns.map V.int) (some ((a : Nat) : Int)) (some ((b : Nat) : Int)) = ((ns.drop a).take (b - a)).map V.int := by
  rw [cutV_ints, HT.sIx_nat _ 0 a, HT.sIx_nat _ _ b, Nat.min_eq_left (show a ≤ ns.length by omega), Nat.min_eq_left h2]
theorem at_nat {ns : List Int} {k : Nat} (h : k < ns.length) : atI (ns.map V.int) ((k : Nat) : Int) = some (.int (ns.getD k 0)) := by
  rw [atI_nat (v := .int (ns.getD k 0))]
  rw [List.getElem?_map, List.getElem?_eq_getElem h, List.getD_eq_getElem?_getD, List.getElem?_eq_getElem h]
  rfl
theorem at_i {ns : List Int} {i : Int} {k : Nat} (e : i = ((k : Nat) : Int)) (h : k < ns.length) : atI (ns.map V.int) i = some (.int (ns.getD k 0)) := by rw [e]; exact at_nat h
/-- two flat tuples -/
theorem dp_tup {p : Addr} {xs : List V} (hf : xs.all L2.BP.flatV = true) (h : SqT K H p xs) : Dp K H (.ref p) (tupD xs) := .tup h (dpa_flat hf)
theorem shaped_tup {xs : List V} (hf : xs.all L2.BP.flatV = true) : SeqAt.shaped (tupD xs) = true := by
  obtain ⟨z1, z2⟩ := canAll_flat hf
  unfold SeqAt.shaped tupD
  simp only [PyData.canLay0, PyData.depth, z1]
  simp
  omega
theorem c_eqTup {p q : Addr} {xs : List V} (hf : xs.all L2.BP.flatV = true) (h1 : SqT K H p xs) (h2 : SqT K H q xs) (k : Q (.bl true) H) : rEqU K (.ref p) (.ref q) H Q := by
  refine c_eqD (dp_tup hf h1) (dp_tup hf h2) (shaped_tup hf) (shaped_tup hf) ?_
  rw [show PyData.eqv (tupD xs) (tupD xs) = true by unfold tupD; rw [PyData.eqv, eqvAll_vD]]
  exact k
theorem c_neTup {p q : Addr} {xs : List V} (hf : xs.all L2.BP.flatV = true) (h1 : SqT K H p xs) (h2 : SqT K H q xs) (k : Q (.bl false) H) : rNeU K (.ref p) (.ref q) H Q := by
  refine c_neD (dp_tup hf h1) (dp_tup hf h2) (shaped_tup hf) (shaped_tup hf) ?_
  rw [show PyData.eqv (tupD xs) (tupD xs) = true by unfold tupD; rw [PyData.eqv, eqvAll_vD]]
  exact k
theorem mem_cutV {xs : List V} {lo hi : Option Int} {x : V} (h : x ∈ cutV xs lo hi) : x ∈ xs := by
  unfold cutV at h
  exact List.mem_of_mem_drop (List.mem_of_mem_take h)
theorem cutV_le (xs : List V) (lo hi : Option Int) : (cutV xs lo hi).length ≤ xs.length := by
  unfold cutV
  rw [List.length_take, List.length_drop]
  omega
theorem ok_same {H' : Hp} {g : Tg} (h : Tg.ok K H g) (e : Same H H') : Tg.ok K H' g := by
  cases g with
  | lst xs => exact ⟨fun x hx => (h.1 x hx).imp fun _ z => z.same e, h.2⟩
  | _ => trivial
theorem mixed_ok {row : List Int} {ov : V} {og : Tg} {lo hi lo' hi' : Option Int} (ho : Th K H ov og) (hl : row.length ≤ 1000) : Tg.ok K H (.lst (cutV (row.map V.int) lo hi ++ [ov] ++ cutV (row.map V.int) lo' hi')) := by
  refine ⟨fun x hx => ?_, ?_⟩
  · have allI : ∀ x ∈ row.map V.int, ∃ g, Th K H x g := fun x hx => by
      obtain ⟨n, _, rfl⟩ := List.mem_map.mp hx
      exact ⟨_, .int n⟩
    rcases List.mem_append.mp hx with hx | hx
    · rcases List.mem_append.mp hx with hx | hx
      · exact allI x (mem_cutV hx)
      · rw [List.mem_singleton.mp hx]
        exact ⟨og, ho⟩
    · exact allI x (mem_cutV hx)
  · have z1 := cutV_le (row.map V.int) lo hi
    have z2 := cutV_le (row.map V.int) lo' hi'
    rw [List.length_map] at z1 z2
    rw [List.length_append, List.length_append, List.length_singleton]
    omega
end
end L2.BR
namespace L2.BR
open PySem PySem.Spec PyProof.Rows L2.BP
section
variable {K : PySem.W.Frag} {W : WX} {vs : List V} {H : Hp} {Q : VK} {E : XK}
/-! ### the word of a caught error -/
def wordL : List (Str × Str) := [("row", "BadRow"), ("bits", "BadBits"), ("nobits", "NoBits"), ("shares", "BadShares"), ("lengths", "BadLengths"), ("code", "BadCode"), ("table", "BadTable"), ("cut", "Cut"), ("pieces", "BadPieces"), ("body", "BadBody"), ("head", "BadHead"), ("check", "BadCheck"), ("mark", "BadMark"), ("tail", "BadTail"), ("behind", "Behind"), ("over", "Over"), ("range", "NoRange"), ("letters", "BadLetters")]
structure WordOf (K : PySem.W.Frag) (D : Addr) (w : Str) : Prop where
  x : ExcC K D
  v : PySem.W.kitOne K (.ref D) (.type "ValueError") = some true
  f : ∀ p ∈ wordL, PySem.W.kitOne K (.ref D) (.ref (He.ga K p.2)) = some (decide (p.1 = w))
  one : (wordL.map fun p => (p.1, decide (p.1 = w))).filter (·.2) = [(w, true)]
abbrev pairW (p : Str × Bool) : List V := [.str p.1, .bl p.2]
theorem tups_W {α : Type} {f : α → List V} {ps : List α} {acc pre post : List V} {x : V} (h : Tups K H acc (ps.map f)) (e : acc = pre ++ x :: post) : ∃ a p, x = .ref a ∧ ps[pre.length]? = some p ∧ SqT K H a (f p) := by
  subst e
  obtain ⟨a, p1, xs, p2, rfl, e2, e3, e4⟩ := h.split
  have e5 : (ps.map f)[pre.length]? = some xs := by
    rw [e2, ← e3]
    simp
  rw [List.getElem?_map] at e5
  cases e6 : ps[pre.length]? with
  | none => rw [e6] at e5; cases e5
  | some p =>
    rw [e6] at e5
    cases e5
    exact ⟨a, p, rfl, rfl, e4⟩
section
variable {B : Hp} {l l2 u1 u2 u3 : Addr} {xs a b c : List V} {ps : List (List V)}
theorem word1 (h : Hs B [(l2, .lst [.ref u1]), (u1, .tup a), (l, .lst xs)] H) (hT : Tups K B xs ps) (hl : xs.length ≤ 100) (k : ∀ r B' H', Tups K B' (xs ++ [.ref u1]) (ps ++ [a]) → Same B B' → Hs B' [(r, .lst (xs ++ [.ref u1]))] H' → Q (.ref r) H') : rAddU (.ref l) (.ref l2) H Q := by
  refine c_addL h (h.get (.tail _ (.tail _ (.head _)))) (h.get (.head _)) (small6' (by rw [List.length_singleton]; omega)) fun r H' h' => ?_
  have k1 := h.nb (.tail _ (.head _))
  exact k r _ H' (hT.snocFix k1) (same_upd k1) h'.drop1.swap.fix.drop1
theorem word2 (h : Hs B [(l2, .lst [.ref u1, .ref u2]), (u2, .tup b), (u1, .tup a), (l, .lst xs)] H) (hT : Tups K B xs ps) (hl : xs.length ≤ 100) (k : ∀ r B' H', Tups K B' (xs ++ [.ref u1, .ref u2]) (ps ++ [a, b]) → Same B B' → Hs B' [(r, .lst (xs ++ [.ref u1, .ref u2]))] H' → Q (.ref r) H') : rAddU (.ref l) (.ref l2) H Q := by
  refine c_addL h (h.get (.tail _ (.tail _ (.tail _ (.head _))))) (h.get (.head _)) (small6' (by show xs.length + 2 ≤ _; omega)) fun r H' h' => ?_
  have k1 := h'.drop1.rot3.nb (.head _)
  have h2 := h'.drop1.rot3.fix.swap
  have k2 := h2.nb (.head _)
  have z := (hT.snocFix (xs := a) k1).snocFix (xs := b) k2
  rw [List.append_assoc, List.append_assoc] at z
  exact k r _ H' z ((same_upd k1).trans (same_upd k2)) h2.fix.drop1
theorem word3 (h : Hs B [(l2, .lst [.ref u1, .ref u2, .ref u3]), (u3, .tup c), (u2, .tup b), (u1, .tup a), (l, .lst xs)] H) (hT : Tups K B xs ps) (hl : xs.length ≤ 100) (k : ∀ r B' H', Tups K B' (xs ++ [.ref u1, .ref u2, .ref u3]) (ps ++ [a, b, c]) → Same B B' → Hs B' [(r, .lst (xs ++ [.ref u1, .ref u2, .ref u3]))] H' → Q (.ref r) H') : rAddU (.ref l) (.ref l2) H Q := by
  refine c_addL h (h.get (.tail _ (.tail _ (.tail _ (.tail _ (.head _)))))) (h.get (.head _)) (small6' (by show xs.length + 3 ≤ _; omega)) fun r H' h' => ?_
  have k1 := h'.drop1.rot4.nb (.head _)
  have h2 := h'.drop1.rot4.fix.rot3
  have k2 := h2.nb (.head _)
  have h3 := h2.fix.swap
  have k3 := h3.nb (.head _)
  have z := ((hT.snocFix (xs := a) k1).snocFix (xs := b) k2).snocFix (xs := c) k3
  rw [List.append_assoc, List.append_assoc, List.append_assoc, List.append_assoc] at z
  exact k r _ H' z (((same_upd k1).trans (same_upd k2)).trans (same_upd k3)) h3.fix.drop1
end
theorem c_isXw {a D : Addr} {w u c : Str} (W : WordOf K D w) (m : (u, c) ∈ wordL) (k : Q (.bl (decide (u = w))) H) : rIsX K a (.ref D) none [.ref a, .ref (He.ga K c)] H Q := c_isXc W.x (W.f (u, c) m) k
theorem c_niBl {l : Addr} {xs : List V} (h : SqL K H l xs) (hf : xs.all L2.flatV = true) (hn : L2.inV (.bl true) xs = false) (k : Q (.bl true) H) : rNiU K (.bl true) (.ref l) H Q := .inl ⟨l, xs, rfl, .inl h, rfl, hf, by rw [hn]; exact k⟩
end
end L2.BR
namespace L2.BR
open PySem PySem.Spec PyProof.Rows L2.BP
section
variable {K : PySem.W.Frag} {H H' : Hp} {Q : VK}
/-! ### things that are data, compared with copies of themselves -/
/-- data of few layers -/
def LD (K : PySem.W.Frag) (H : Hp) (n : Nat) (xs : List V) : Prop := ∃ ds, DpAll K H xs ds ∧ PyData.canLayAll0 ds = true ∧ PyData.depthAll ds ≤ n
def OD (K : PySem.W.Frag) (H : Hp) (n : Nat) (x : V) : Prop := ∃ d, Dp K H x d ∧ PyData.canLay0 d = true ∧ PyData.depth d ≤ n
theorem dpAll_app : ∀ {xs ys : List V} {ds es : List PyData}, DpAll K H xs ds → DpAll K H ys es → DpAll K H (xs ++ ys) (ds ++ es)
  | _, _, _, _, .nil, h => h
  | _, _, _, _, .cons e t, h => .cons e (dpAll_app t h)
theorem lay_app : ∀ {ds es : List PyData}, PyData.canLayAll0 ds = true → PyData.canLayAll0 es = true → PyData.canLayAll0 (ds ++ es) = true
  | [], _, _, h => h
  | d :: ds, es, h, h2 => by
    simp only [PyData.canLayAll0, Bool.and_eq_true, List.cons_append] at h ⊢
    exact ⟨h.1, lay_app h.2 h2⟩
theorem depth_app : ∀ {ds es : List PyData} {n : Nat}, PyData.depthAll ds ≤ n → PyData.depthAll es ≤ n → PyData.depthAll (ds ++ es) ≤ n
  | [], _, _, _, h => h
  | d :: ds, es, n, h, h2 => by
    simp only [PyData.depthAll, List.cons_append] at h ⊢
    have := depth_app (ds := ds) (n := n) (by omega) h2
    omega
theorem LD.nil {n : Nat} : LD K H n [] := ⟨[], .nil, rfl, Nat.zero_le _⟩
theorem LD.app {n : Nat} {xs ys : List V} (h : LD K H n xs) (h2 : LD K H n ys) : LD K H n (xs ++ ys) := by
  obtain ⟨ds, a1, a2, a3⟩ := h
  obtain ⟨es, b1, b2, b3⟩ := h2
  exact ⟨_, dpAll_app a1 b1, lay_app a2 b2, depth_app a3 b3⟩
theorem LD.one {n : Nat} {x : V} (h : OD K H n x) : LD K H n [x] := by
  obtain ⟨d, a1, a2, a3⟩ := h
  exact ⟨[d], .cons a1 .nil, by simp [PyData.canLayAll0, a2], by simp [PyData.depthAll]; exact a3⟩
theorem LD.cons {n : Nat} {x : V} {xs : List V} (h : OD K H n x) (t : LD K H n xs) : LD K H n (x :: xs) := (LD.one h).app t
theorem OD.flat {n : Nat} {x : V} (h : L2.BP.flatV x = true) : OD K H n x := ⟨_, dp_flat h, (can_flat h).1, by rw [(can_flat h).2]; exact Nat.zero_le _⟩
theorem LD.flat {n : Nat} : ∀ {xs : List V}, xs.all L2.BP.flatV = true → LD K H n xs
  | [], _ => .nil
  | x :: r, h => by
    rw [List.all_cons, Bool.and_eq_true] at h
    exact .cons (.flat h.1) (LD.flat h.2)
theorem LD.ints {n : Nat} {ns : List Int} : LD K H n (ns.map V.int) := .flat (by rw [List.all_map]; simp [L2.BP.flatV])
theorem OD.lst {n : Nat} {a : Addr} {xs : List V} (h : SqL K H a xs) (t : LD K H n xs) : OD K H (n + 1) (.ref a) := by
  obtain ⟨ds, a1, a2, a3⟩ := t
  exact ⟨.list ds, .lst h a1, by simpa [PyData.canLay0] using a2, by simp only [PyData.depth]; omega⟩
theorem OD.tup {n : Nat} {a : Addr} {xs : List V} (h : SqT K H a xs) (t : LD K H n xs) : OD K H (n + 1) (.ref a) := by
  obtain ⟨ds, a1, a2, a3⟩ := t
  exact ⟨.tuple ds, .tup h a1, by simpa [PyData.canLay0] using a2, by simp only [PyData.depth]; omega⟩
theorem eqvS {d : PyData} (h : PyData.canLay0 d = true) : PyData.eqv d d = true := SeqAt.eqv_refl d h
theorem shapedS {d : PyData} (h : PyData.canLay0 d = true) {n : Nat} (h2 : PyData.depth d ≤ n) (hn : n ≤ 64) : SeqAt.shaped d = true := by
  unfold SeqAt.shaped
  rw [h, Bool.true_and]
  exact decide_eq_true (by omega)
/-- two lists of the same items -/
theorem c_neSame {n : Nat} {a b : Addr} {xs : List V} (h1 : SqL K H a xs) (h2 : SqL K H b xs) (t : LD K H n xs) (hn : n ≤ 60) (k : Q (.bl false) H) : rNeU K (.ref a) (.ref b) H Q := by
  obtain ⟨ds, a1, a2, a3⟩ := t
  have c : PyData.canLay0 (.list ds) = true := by simpa [PyData.canLay0] using a2
  have e : PyData.depth (.list ds) ≤ n + 1 := by simp only [PyData.depth]; omega
  refine c_neD (.lst h1 a1) (.lst h2 a1) (shapedS c e (by omega)) (shapedS c e (by omega)) ?_
  rw [eqvS c]
  exact k
theorem c_eqSame {n : Nat} {a b : Addr} {xs : List V} (h1 : SqL K H a xs) (h2 : SqL K H b xs) (t : LD K H n xs) (hn : n ≤ 60) (k : Q (.bl true) H) : rEqU K (.ref a) (.ref b) H Q := by
  obtain ⟨ds, a1, a2, a3⟩ := t
  have c : PyData.canLay0 (.list ds) = true := by simpa [PyData.canLay0] using a2
  have e : PyData.depth (.list ds) ≤ n + 1 := by simp only [PyData.depth]; omega
  refine c_eqD (.lst h1 a1) (.lst h2 a1) (shapedS c e (by omega)) (shapedS c e (by omega)) ?_
  rw [eqvS c]
  exact k
/-- a thing and itself -/
theorem c_neSelf {n : Nat} {x : V} (t : OD K H n x) (hn : n ≤ 60) (k : Q (.bl false) H) : rNeU K x x H Q := by
  obtain ⟨d, a1, a2, a3⟩ := t
  refine c_neD a1 a1 (shapedS a2 a3 (by omega)) (shapedS a2 a3 (by omega)) ?_
  rw [eqvS a2]
  exact k
theorem c_eqSelf {n : Nat} {x : V} (t : OD K H n x) (hn : n ≤ 60) (k : Q (.bl true) H) : rEqU K x x H Q := by
  obtain ⟨d, a1, a2, a3⟩ := t
  refine c_eqD a1 a1 (shapedS a2 a3 (by omega)) (shapedS a2 a3 (by omega)) ?_
  rw [eqvS a2]
  exact k
mutual
theorem Dp.same (s : Same H H') : ∀ {d : PyData} {x : V}, Dp K H x d → Dp K H' x d
  | _, _, .non => .non
  | _, _, .bl b => .bl b
  | _, _, .int i => .int i
  | _, _, .str z => .str z
  | _, _, .lst h t => .lst (s.seq h) (DpAll.same s t)
  | _, _, .tup h t => .tup (same_sqt s h) (DpAll.same s t)
theorem DpAll.same (s : Same H H') : ∀ {ds : List PyData} {xs : List V}, DpAll K H xs ds → DpAll K H' xs ds
  | _, _, .nil => .nil
  | _, _, .cons h t => .cons (Dp.same s h) (DpAll.same s t)
end
theorem LD.same {n : Nat} {xs : List V} (h : LD K H n xs) (s : Same H H') : LD K H' n xs := by
  obtain ⟨ds, a1, a2, a3⟩ := h
  exact ⟨ds, DpAll.same s a1, a2, a3⟩
theorem OD.same {n : Nat} {x : V} (h : OD K H n x) (s : Same H H') : OD K H' n x := by
  obtain ⟨ds, a1, a2, a3⟩ := h
  exact ⟨ds, Dp.same s a1, a2, a3⟩
end
end L2.BR
namespace L2.BP
open PySem PySem.Spec PyProof.Rows L2
theorem getl {X : Cx} : PGet X (rIxL X.K) := by
  intro pins s σ H o i ov iv Q I ro ri h
  obtain ⟨p, xs, i, z, rfl, rfl, hq, he, q⟩ := h
  cases ro
  obtain ⟨t, rfl⟩ := ri
  obtain ⟨its, r, pl, hz⟩ := I.list hq
  obtain ⟨j, h1, h2, h3, h4, h5⟩ := atI_get he
  obtain ⟨w, ew, rw'⟩ := r.get h2
  have hl := r.length
  have hn := line63
  have fin : EP X pins σ Q w s := ⟨z, H, I, rw', q⟩
  by_cases h0 : 0 ≤ i
  · have hj : i.toNat = j := by
      rw [seqIndex_of h0 h5] at h1
      exact Option.some.inj h1
    exact wpAny_getItem_list pl.isList h0 (by omega) (by rw [hj]; simpa using ew) fin
  · have hj : (i + (its.toArray.size : Int)).toNat = j := by
      rw [seqIndex_neg (by omega) h4] at h1
      rw [List.size_toArray, ← hl]
      exact Option.some.inj h1
    exact wpAny_getItem_list_neg pl.isList (by omega) (by rw [List.size_toArray] <;> omega) (by omega) (by rw [hj]; simpa using ew) fin
end L2.BP
namespace L2.BP
open PySem PySem.Spec PyProof.Rows
/-! ### isinstance(e, (C1, C2, ..)), e the exception that the def was handed -/
def rIsXT (K : PySem.W.Frag) (a : Addr) (cls : Value) (d : Option Addr) : List V → Hp → VK → Prop := fun xs H Q => ∃ (D tp : Addr) (cs : List V) (us : List Value) (b : Bool), cls = .ref D ∧ d = none ∧ ExcC K D ∧ xs = [.ref a, .ref tp] ∧ H tp = some (.tup cs) ∧ Paired ClsV cs us ∧ PySem.W.kitAny K (.ref D) us = some b ∧ Q (.bl b) H
theorem call_isPT {X : Cx} {p : Addr × Obj} {cls : Value} {d : Option Addr} (hp : p ∈ X.pn) (hz : Zc cls d p.2) (hf : ∃ vs, p.2.data = .fields vs) : CallR X (.builtin "isinstance") (rIsXT X.K p.1 cls d) := by
  rintro pins s σ H xs us Q I r ⟨D, tp, cs, ws, b, rfl, rfl, C, rfl, hT, k, e, q⟩
  match us, r with
  | [_, _], .cons rfl (.cons rt .nil) =>
    cases rt
    obtain ⟨_, its, rv, o, h1, h2, n, h3⟩ := (show ObjOk X.prog X.w H s.heap tp (.tup cs) from I.hok tp _ hT)
    have e3 := ClsV.all k rv
    subst e3
    have there := (I.pin p (List.mem_append_left _ hp)).1
    have J : PySem.W.InstAt s.heap p.1 p.2 D none := by
      obtain ⟨vs, hv⟩ := hf
      obtain ⟨pa, ⟨_, _, _, _⟩⟩ := p
      obtain ⟨h1, h2⟩ := hz
      dsimp only at h1 h2 hv
      subst h1 h2 hv
      exact ⟨there, rfl, rfl, trivial⟩
    obtain ⟨oc, od, dt, sl⟩ := o
    simp only at h2 h3
    subst h2 h3
    exact PySem.W.kia_tup (PySem.W.handS_kitx_exc C.hg C.hk C.hs C.hd C.ha C.hn C.ht C.hm) I.kIn J h1 e (fun z => nomatch z) fun tk => ⟨.bl b, H, I.kept (t' := tk) fun _ _ z => z, rfl, q⟩
end L2.BP
namespace L2.BR
open PySem PySem.Spec PyProof.Rows L2.BP
theorem clsV_own (K : PySem.W.Frag) : ∀ us : List (Str × Str), Paired ClsV (us.map fun p => V.ref (He.ga K p.2)) (us.map fun p => Value.ref (He.ga K p.2))
  | [] => .nil
  | _ :: us => .cons (.own _) (clsV_own K us)
theorem any_word {K : PySem.W.Frag} {D : Addr} {w : Str} (W : WordOf K D w) : ∀ us : List (Str × Str), (∀ p ∈ us, p ∈ wordL) → PySem.W.kitAny K (.ref D) (us.map fun p => Value.ref (He.ga K p.2)) = some (us.any fun p => decide (p.1 = w))
  | [], _ => rfl
  | p :: us, m => by
    have ih := any_word W us fun q hq => m q (.tail _ hq)
    refine kitAny_cons (W.f p (m p (.head _))) (fun hb => ?_) fun hb => ?_
    · rw [ih, List.any_cons, hb, Bool.false_or]
    · rw [List.any_cons, hb, Bool.true_or]
theorem c_isXT {K : PySem.W.Frag} {H : Hp} {Q : VK} {a D tp : Addr} {w : Str} (W : WordOf K D w) (us : List (Str × Str)) (m : ∀ p ∈ us, p ∈ wordL) (h : H tp = some (.tup (us.map fun p => V.ref (He.ga K p.2)))) (k : Q (.bl (us.any fun p => decide (p.1 = w))) H) : rIsXT K a (.ref D) none [.ref a, .ref tp] H Q :=
  ⟨D, tp, _, _, _, rfl, rfl, W.x, rfl, h, clsV_own K us, any_word W us m, k⟩
end L2.BR
namespace L2.BR
open PySem PySem.Spec PyProof.Rows L2.BP
/-- a dict is no list -/
theorem c_eqDE {K : PySem.W.Frag} {H : Hp} {Q : VK} {a b : Addr} {kvs : List (Key × V)} {ys : List V} (h : H a = some (.dK kvs)) (hy : SqL K H b ys) (k : Q (.bl false) H) : rEqU K (.ref a) (.ref b) H Q := .inr (.inr (.inr ⟨a, b, kvs, ys, rfl, rfl, h, hy, k⟩))
theorem eqvAll_len : ∀ {a b : List PyData}, PyData.eqvAll a b = true → a.length = b.length
  | [], [], _ => rfl
  | [], _ :: _, h => by simp [PyData.eqvAll] at h
  | _ :: _, [], h => by simp [PyData.eqvAll] at h
  | _ :: a, _ :: b, h => by
    simp only [PyData.eqvAll, Bool.and_eq_true] at h
    rw [List.length_cons, List.length_cons, eqvAll_len h.2]
theorem dpAll_len {K : PySem.W.Frag} {H : Hp} : ∀ {xs : List V} {ds : List PyData}, DpAll K H xs ds → xs.length = ds.length
  | _, _, .nil => rfl
  | _, _, .cons _ t => by rw [List.length_cons, List.length_cons, dpAll_len t]
/-- lists of other lengths -/
theorem c_eqLen {K : PySem.W.Frag} {H : Hp} {Q : VK} {n m : Nat} {a b : Addr} {xs ys : List V} (h1 : SqL K H a xs) (h2 : SqL K H b ys) (t : LD K H n xs) (u : LD K H m ys) (hn : n ≤ 60) (hm : m ≤ 60) (hl : xs.length ≠ ys.length) (k : Q (.bl false) H) : rEqU K (.ref a) (.ref b) H Q := by
  obtain ⟨ds, a1, a2, a3⟩ := t
  obtain ⟨es, b1, b2, b3⟩ := u
  have c : PyData.canLay0 (.list ds) = true := by simpa [PyData.canLay0] using a2
  have e : PyData.depth (.list ds) ≤ n + 1 := by simp only [PyData.depth]; omega
  have c' : PyData.canLay0 (.list es) = true := by simpa [PyData.canLay0] using b2
  have e' : PyData.depth (.list es) ≤ m + 1 := by simp only [PyData.depth]; omega
  refine c_eqD (.lst h1 a1) (.lst h2 b1) (shapedS c e (by omega)) (shapedS c' e' (by omega)) ?_
  have z : PyData.eqv (.list ds) (.list es) = false := by
    rw [PyData.eqv]
    cases z : PyData.eqvAll ds es with
    | false => rfl
    | true => exact absurd (by rw [dpAll_len a1, dpAll_len b1]; exact eqvAll_len z) hl
  rw [z]
  exact k
end L2.BR
section
open L2.BP
/-! steps, as rows of the tactic that the library names walk_at -/
local macro_rules | `(tactic| walk_at "mem") => `(tactic| first | exact .head _ | exact .tail _ (.head _) | exact .tail _ (.tail _ (.head _)) | exact .tail _ (.tail _ (.tail _ (.head _))) | exact .tail _ (.tail _ (.tail _ (.tail _ (.head _)))) | exact .tail _ (.tail _ (.tail _ (.tail _ (.tail _ (.head _))))))
local macro_rules | `(tactic| walk_at "get") => `(tactic| first | assumption | ((with_reducible apply Hs.get); (· assumption); (· walk_at "mem")) | exact (Hs.ex (by assumption)) _ _ (by assumption))
local macro_rules | `(tactic| walk_at "sq") => `(tactic| first | assumption | ((with_reducible apply Hs.sql); (· assumption); (· walk_at "mem")) | ((with_reducible apply Hs.bl); (· assumption); (· assumption)) | ((with_reducible apply SqL.of); (walk_at "get")))
local macro_rules | `(tactic| walk_at "sqt") => `(tactic| first | assumption | ((with_reducible apply Hs.sqt); (· assumption); (· walk_at "mem")) | ((with_reducible apply Hs.bt); (· assumption); (· assumption)) | ((with_reducible apply SqT.of); (walk_at "get")))
local macro_rules | `(tactic| walk_at "bd") => `(tactic| first | decide | omega | assumption)
local macro_rules | `(tactic| walk_at "cmul") => `(tactic| first | exact .inr ⟨by decide, by decide⟩ | exact .inl ⟨by decide, by decide⟩ | exact .inl ⟨by omega, by omega⟩ | exact .inr ⟨by omega, by omega⟩ | assumption)
local macro_rules | `(tactic| walk_at "yes") => `(tactic| first | rfl | assumption | exact decide_eq_true (by first | assumption | omega) | (simp only [Bool.not_eq_true', decide_eq_true_eq, decide_eq_false_iff_not, Bool.and_eq_true, Bool.or_eq_true] <;> omega))
local macro_rules | `(tactic| walk_at "no") => `(tactic| first | rfl | assumption | exact decide_eq_false (by first | assumption | omega) | (simp only [Bool.not_eq_false', decide_eq_true_eq, decide_eq_false_iff_not, Bool.and_eq_false_iff, Bool.or_eq_false_iff] <;> omega))
local macro_rules | `(tactic| walk_at "look") => `(tactic| first | (with_reducible exact look0) | ((with_reducible apply lookS); (· (decide +kernel)); walk_at "look"))
local macro_rules | `(tactic| walk_at "lookn") => `(tactic| first | (with_reducible exact lookN) | ((with_reducible apply lookNS); (· (decide +kernel)); walk_at "lookn"))
local macro_rules | `(tactic| walk_at "put") => `(tactic| first | (with_reducible exact put0) | (with_reducible exact putN) | ((with_reducible apply putS); (· (decide +kernel)); walk_at "put"))
local macro_rules | `(tactic| walk_at "few") => `(tactic| (exact of_decide_eq_true rfl))
local macro_rules | `(tactic| walk_at "s") => `(tactic| first
  | ((with_reducible apply c_var); (· exact rfl))
  | (with_reducible apply c_c)
  | (with_reducible apply c_op)
  | (with_reducible apply w_seq)
  | (with_reducible apply w_asg)
  | (with_reducible apply w_name)
  | (with_reducible apply w_if)
  | (with_reducible apply c_test)
  | (with_reducible apply c_bl)
  | ((with_reducible apply i_t); (· walk_at "yes"))
  | ((with_reducible apply i_f); (· walk_at "no"))
  | (with_reducible apply c_cons)
  | (with_reducible apply c_nil)
  | (with_reducible apply c_cb)
  | (with_reducible apply c_cl)
  | (with_reducible apply w_ret)
  | (with_reducible apply w_drop)
  | (with_reducible apply w_break)
  | (with_reducible apply w_cont)
  | (with_reducible apply w_retN)
  | (with_reducible apply w_par)
  | (with_reducible apply c_parO)
  | (with_reducible apply c_rev)
  | (with_reducible apply g_sub)
  | (with_reducible apply g_attr)
  | (with_reducible apply c_orT)
  | (with_reducible apply c_lenset)
  | (with_reducible apply c_dget)
  | (with_reducible apply c_tpc)
  | (with_reducible apply c_tpn)
  | ((with_reducible apply c_disp); (· assumption); intro _ _ _)
  | (with_reducible apply w_next)
  | (with_reducible apply c_addI)
  | (with_reducible apply c_sub)
  | ((with_reducible apply c_mulI); (· walk_at "cmul"))
  | ((with_reducible apply c_mod); (· walk_at "bd"))
  | ((with_reducible apply c_div); (· exact ⟨by walk_at "bd", by walk_at "bd"⟩))
  | (with_reducible apply c_lt)
  | (with_reducible apply c_le)
  | (with_reducible apply c_gt)
  | (with_reducible apply c_ge)
  | (with_reducible apply c_eqI)
  | ((with_reducible apply c_eqL); (· walk_at "sq"); (· walk_at "sq"))
  | ((with_reducible apply c_neL); (· walk_at "sq"); (· walk_at "sq"))
  | (with_reducible apply c_neI)
  | (with_reducible apply c_eqB)
  | (with_reducible apply c_neB)
  | (with_reducible apply c_eqS)
  | (with_reducible apply c_neS)
  | (with_reducible apply c_isN)
  | (with_reducible apply c_notN)
  | (with_reducible apply c_isB)
  | (with_reducible apply c_notB)
  | (with_reducible apply c_un)
  | (with_reducible apply c_neg)
  | (with_reducible apply c_and)
  | (with_reducible apply c_or)
  | (with_reducible apply c_xor)
  | ((with_reducible apply c_shr); (· walk_at "bd"))
  | ((with_reducible apply c_shl); (· exact ⟨by walk_at "bd", by walk_at "bd", by walk_at "bd"⟩))
  | (with_reducible apply c_B)
  | (with_reducible apply c_tand)
  | (with_reducible apply c_tor)
  | (with_reducible apply c_tnot)
  | (with_reducible apply c_andV)
  | (with_reducible apply c_orV)
  | (with_reducible apply c_notV)
  | (with_reducible apply c_chain)
  | (with_reducible apply c_if)
  | (with_reducible apply c_isi_ii)
  | (with_reducible apply c_isi_ib)
  | ((with_reducible apply c_lenL); (· walk_at "sq"))
  | ((with_reducible apply c_lenT); (· walk_at "sqt"))
  | (with_reducible apply c_isiS)
  | ((with_reducible apply c_ixL); (· (walk_at "sq")); (· first | exact rfl | assumption))
  | ((with_reducible apply c_ixT); (· (walk_at "sqt")); (· first | exact rfl | assumption))
  | (with_reducible apply c_tup)
  | (with_reducible apply c_lst)
  | ((with_reducible apply c_tupO); (· assumption); (· exact small5' (of_decide_eq_true rfl)); intro _ _ _)
  | ((with_reducible apply c_lstO); (· assumption); (· exact small5' (of_decide_eq_true rfl)); intro _ _ _)
  | ((with_reducible apply w_aug); (· exact rfl))
  | (with_reducible apply w_augS)
  | (with_reducible apply c_ckw)
  | (with_reducible apply c_ipAddI)
  | (with_reducible apply c_ipSub)
  | (with_reducible apply c_intI)
  | (with_reducible apply c_intB)
  | (with_reducible apply c_max2)
  | (with_reducible apply c_mt)
  | ((with_reducible apply c_recv); (· (walk_at "get")); (· (walk_at "lookn")))
  | (with_reducible apply c_tfld)
  | ((with_reducible apply c_fld); (· (walk_at "get")); (· assumption); (· assumption); (· (walk_at "look")))
  | (with_reducible apply w_sfld)
  | (with_reducible apply w_sfldAug)
  | ((with_reducible apply c_fldA); (· (walk_at "get")); (· assumption); (· assumption); (· (walk_at "look")))
  | (with_reducible apply c_radd)
  | (with_reducible apply c_rsub)
  | ((with_reducible apply w_put0); (· assumption); (· assumption); (· assumption); (· (walk_at "few")); (· (walk_at "put")); intro _ _)
  | ((with_reducible apply w_put1); (· assumption); (· assumption); (· assumption); (· (walk_at "few")); (· (walk_at "put")); intro _ _)
  | ((with_reducible apply w_put2); (· assumption); (· assumption); (· assumption); (· (walk_at "few")); (· (walk_at "put")); intro _ _)
  | ((with_reducible apply w_aput0); (· assumption); (· (walk_at "few")); (· (walk_at "put")); intro _ _)
  | ((with_reducible apply w_aput1); (· assumption); (· (walk_at "few")); (· (walk_at "put")); intro _ _)
  | ((with_reducible apply w_aput2); (· assumption); (· (walk_at "few")); (· (walk_at "put")); intro _ _)
  | (with_reducible apply c_bm)
  | (with_reducible apply c_bm0)
  | ((with_reducible apply c_tyL); (· (walk_at "sq")))
  | (with_reducible apply c_sl)
  | (with_reducible apply c_part)
  | (with_reducible apply c_nopart)
  | (with_reducible apply c_i)
  | (with_reducible apply c_lc)
  | (with_reducible apply w_for)
  | (with_reducible apply c_iL)
  | (with_reducible apply c_iT)
  | (with_reducible apply c_iR1)
  | (with_reducible apply c_iR3)
  | (with_reducible apply c_iS)
  | (with_reducible apply c_ssO)
  | (with_reducible apply c_made)
  | ((with_reducible apply c_madeO); (· assumption); intro _ _ _ _)
  | (with_reducible apply c_iR2)
  | (with_reducible apply c_yes)
  | (with_reducible apply g_cons)
  | (with_reducible apply g_nil)
  | ((with_reducible apply g_tup); (· (walk_at "sqt")); (· exact rfl))
  | (with_reducible apply c_mk)
  | ((with_reducible apply c_mkO); (· assumption); intro _ _ _ _)
  | (with_reducible apply c_iE)
  | (with_reducible apply c_iZ)
  | ((with_reducible apply c_iE1); (· walk_at "sq"))
  | ((with_reducible apply c_slL); (· assumption); (· walk_at "sq"); intro _ _ _)
  | ((with_reducible apply c_listL); (· assumption); (· walk_at "sq"); intro _ _ _)
  | (with_reducible apply c_min2))
local macro_rules | `(tactic| walk_at "go") => `(tactic| repeat walk_at "s")
local macro_rules | `(tactic| walk_at "deep") => `(tactic| repeat (first | exact List.Mem.head _ | apply List.Mem.tail))
namespace L2.BR
open PySem PySem.Spec PyProof.Rows L2.BP
variable {K : PySem.W.Frag} {W : WX} {vs : List V} {H : Hp} {Q : VK} {E : XK}
def sp_is_byte (K : PySem.W.Frag) : Sp := fun vs H Q _ => ∃ (v : V) (g : Tg), vs = [v] ∧ Th K H v g ∧ Q (.bl (Tg.isByte g)) H
theorem len_is_byte (h : sp_is_byte K vs H Q E) : vs.length = 1 := by
  obtain ⟨v, g, rfl, _⟩ := h
  rfl
def t_is_byte (K : PySem.W.Frag) (W : WX) : TS :=
  (tRet ((tAndV (tCB (rIsi K) (tCons (tVar 0) (tCons (tC (.ty "int")) tNil))) (tAndV (tNotV (tCB (rIsi K) (tCons (tVar 0) (tCons (tC (.ty "bool")) tNil)))) (tChain rLeU rLeU (tC (.int 0)) (tVar 0) (tC (.int 255)))))))
theorem rd_is_byte (h : sp_is_byte K vs H Q E) : t_is_byte K W { nx := fun _ H' => Q .non H', rt := Q } (start ["thing"] vs) H := by
  obtain ⟨v, g, rfl, hT, q⟩ := h
  have hs := Hs.start H
  unfold t_is_byte
  cases hT with
  | int i =>
    have q : Q (.bl (decide (0 ≤ i) && decide (i ≤ 255))) H := q
    walk_at "go"
    cases e : decide ((0 : Int) ≤ i) with
    | false =>
      rw [e] at q
      walk_at "go"
      exact q
    | true =>
      rw [e] at q
      walk_at "go"
      exact q
  | bl b =>
    walk_at "go"
    refine c_isiInt (.bl b) ?_
    walk_at "go"
    refine c_isiBool (.bl b) ?_
    walk_at "go"
    exact q
  | non => walk_at "go"; refine c_isiInt .non ?_; walk_at "go"; exact q
  | str x => walk_at "go"; refine c_isiInt (.str x) ?_; walk_at "go"; exact q
  | lst z => walk_at "go"; refine c_isiInt (.lst z) ?_; walk_at "go"; exact q
  | tup z => walk_at "go"; refine c_isiInt (.tup z) ?_; walk_at "go"; exact q
  | dic z => walk_at "go"; refine c_isiInt (.dic z) ?_; walk_at "go"; exact q
def sp_is_row (K : PySem.W.Frag) : Sp := fun vs H Q _ => ∃ (v : V) (g : Tg), vs = [v] ∧ Th K H v g ∧ Tg.ok K H g ∧ RetV H Q (.bl (Tg.isRow g))
theorem len_is_row (h : sp_is_row K vs H Q E) : vs.length = 1 := by
  obtain ⟨v, g, rfl, _⟩ := h
  rfl
def t_is_row (K : PySem.W.Frag) (W : WX) : TS :=
  (tRet ((tAndV (tCB (rIsi K) (tCons (tVar 0) (tCons (tC (.ty "list")) tNil))) (tCB (rAll K) (tCons (tLc (iList K (tVar 0)) (gName 1) tYes (tCl (sp_is_byte K) [] WF (tCons (tVar 1) tNil)) [1]) tNil)))))
theorem rd_is_row (h : sp_is_row K vs H Q E) : t_is_row K W { nx := fun _ H' => Q .non H', rt := Q } (start ["thing", "number"] vs) H := by
  obtain ⟨v, g, rfl, hT, hok, q⟩ := h
  have hs := Hs.start H
  unfold t_is_row
  cases hT with
  | @lst a xs z =>
    walk_at "go"
    refine c_isiList (.lst z) ?_
    walk_at "go"
    refine c_lcL (f := id) xs (fun pre acc B => acc = (pre.map byteV).map V.bl) hs rfl (fun B' H' e h => by rw [List.map_id]; exact (e.trans h.ex).seq z) ?_ ?_
    · intro pre x post acc B' D H' e i eB h
      obtain ⟨g, hg⟩ := hok.1 x (by rw [e]; simp)
      walk_at "go"
      refine ⟨rfl, ?_⟩
      walk_at "go"
      refine ⟨x, g, rfl, hg.same (eB.trans h.ex), ?_⟩
      subst i
      refine c_item h (small5 ?_) eB ?_
      · have := congrArg List.length e
        have := hok.2
        simp at *
        omega
      · rw [byteV_of hg]
        simp
    · intro acc B' D H' i eB h
      subst i
      walk_at "go"
      refine c_all (h.sql (.head _)) ?_
      have e : ((xs.map byteV).all id) = xs.all byteV := by simp
      rw [e]
      exact q _ (eB.trans h.ex)
  | non => walk_at "go"; refine c_isiList .non ?_; walk_at "go"; exact q _ hs.ex
  | bl b => walk_at "go"; refine c_isiList (.bl b) ?_; walk_at "go"; exact q _ hs.ex
  | int i => walk_at "go"; refine c_isiList (.int i) ?_; walk_at "go"; exact q _ hs.ex
  | str x => walk_at "go"; refine c_isiList (.str x) ?_; walk_at "go"; exact q _ hs.ex
  | tup z => walk_at "go"; refine c_isiList (.tup z) ?_; walk_at "go"; exact q _ hs.ex
  | dic z => walk_at "go"; refine c_isiList (.dic z) ?_; walk_at "go"; exact q _ hs.ex
def sp_need_row (K : PySem.W.Frag) : Sp := fun vs H Q E => ∃ (v : V) (g : Tg), vs = [v] ∧ Th K H v g ∧ Tg.ok K H g ∧
  (∀ xs, g = .lst xs → Tg.isRow g = true → RetL H Q xs) ∧ (Tg.isRow g = false → ∀ H', Same H H' → E (.ref (He.ga K "BadRow")) none H')
theorem len_need_row (h : sp_need_row K vs H Q E) : vs.length = 1 := by
  obtain ⟨v, g, rfl, _⟩ := h
  rfl
def t_need_row (K : PySem.W.Frag) (W : WX) : TS :=
  (tSeq (tIfS (tNot (tB (tCl (sp_is_row K) [] W (tCons (tVar 0) tNil)))) (tRz (He.ga K "BadRow") W) tNext)
    (tRet (tCB (rListK K) (tCons (tVar 0) tNil))))
theorem rd_need_row (h : sp_need_row K vs H Q E) : t_need_row K (fun c d _ H2 => E c d H2) { nx := fun _ H' => Q .non H', rt := Q } (start ["thing"] vs) H := by
  obtain ⟨v, g, rfl, hT, hok, q, qe⟩ := h
  have hs := Hs.start H
  unfold t_need_row
  walk_at "go"
  refine ⟨v, g, rfl, hT, hok, retV hs fun H1 h1 => ?_⟩
  walk_at "go"
  cases e : Tg.isRow g with
  | false =>
    walk_at "go"
    exact qe e _ h1.ex
  | true =>
    cases hT with
    | @lst a xs z =>
      walk_at "go"
      rename_i p H2 h2
      exact h2.rl (.head _) (q xs rfl e)
    | _ => cases e
end L2.BR

namespace L2.BR
open PySem PySem.Spec PyProof.Rows L2.BP
variable {K : PySem.W.Frag}
/-! ### the script's cells -/
def cellAt (ns : List Int) (k : Int) : Int := if k < ns.length then ns.getD k.toNat 0 else 0
def sp__law_cell_at (K : PySem.W.Frag) : Sp := fun vs H Q _ => ∃ (a : Addr) (ns : List Int) (k : Int), vs = [.ref a, .int k] ∧ SqL K H a (ns.map V.int) ∧ 0 ≤ k ∧ Q (.int (cellAt ns k)) H
theorem len__law_cell_at {vs : List V} {H : Hp} {Q : VK} {E : XK} (h : sp__law_cell_at K vs H Q E) : vs.length = 2 := by
  obtain ⟨a, ns, k, rfl, _⟩ := h
  rfl
theorem at_ints {ns : List Int} {k : Int} (h0 : 0 ≤ k) (h : k < ns.length) : atI (ns.map V.int) k = some (.int (ns.getD k.toNat 0)) := by
  obtain ⟨n, rfl⟩ := Int.eq_ofNat_of_zero_le h0
  have hn : n < ns.length := by omega
  rw [atI_nat (v := .int (ns.getD n 0))]
  · rfl
  · rw [List.getElem?_map, List.getElem?_eq_getElem hn, List.getD_eq_getElem?_getD, List.getElem?_eq_getElem hn]
    rfl
def t__law_cell_at (K : PySem.W.Frag) (W : WX) : TS :=
  (tSeq (tIfS (tTest (tOp rLtU (tVar 1) (tCB (rLenK K) (tCons (tVar 0) tNil)))) (tRet (tOp (rIx K) (tVar 0) (tVar 1))) tNext)
    (tRet (tC (.int 0))))
theorem rd__law_cell_at {W : WX} {vs : List V} {H : Hp} {Q : VK} {E : XK} (h : sp__law_cell_at K vs H Q E) : t__law_cell_at K W { nx := fun _ H' => Q .non H', rt := Q } (start ["_law_script", "_law_k"] vs) H := by
  obtain ⟨a, ns, k, rfl, hS, h0, q⟩ := h
  have hs := Hs.start H
  unfold t__law_cell_at
  walk_at "go"
  refine i_2 (fun c => ?_) (fun c => ?_)
  · have c := of_decide_eq_true c
    rw [List.length_map] at c
    walk_at "go"
    refine c_ixL (by walk_at "sq") (at_ints h0 c) ?_
    rw [show cellAt ns k = ns.getD k.toNat 0 from if_pos c] at q
    exact q
  · have c := of_decide_eq_false c
    rw [List.length_map] at c
    walk_at "go"
    rw [show cellAt ns k = 0 from if_neg c] at q
    exact q
end L2.BR

namespace L2.BR
open PySem PySem.Spec PyProof.Rows L2.BP
/-! ### copies, pieces -/
/-- how many signs from a place on are those so many places ahead, from f on, m at most -/
def alk (ns : List Int) (p b : Nat) : Nat → Nat → Nat
  | 0, f => f
  | m + 1, f => if ns[p + f]? = ns[p + f - b]? then alk ns p b m (f + 1) else f
def alike (ns : List Int) (p b most : Nat) : Nat := alk ns p b most 0
theorem alk_le (ns : List Int) (p b : Nat) : ∀ m f, f ≤ alk ns p b m f ∧ alk ns p b m f ≤ f + m
  | 0, f => ⟨Nat.le_refl _, Nat.le_refl _⟩
  | m + 1, f => by
    have ih := alk_le ns p b m (f + 1)
    unfold alk
    by_cases h : ns[p + f]? = ns[p + f - b]?
    · rw [if_pos h]
      omega
    · rw [if_neg h]
      omega
theorem alk_eq (ns : List Int) (p b : Nat) : ∀ m f k, f ≤ k → k < alk ns p b m f → ns[p + k]? = ns[p + k - b]?
  | 0, f, k, h1, h2 => by
    unfold alk at h2
    omega
  | m + 1, f, k, h1, h2 => by
    unfold alk at h2
    by_cases h : ns[p + f]? = ns[p + f - b]?
    · rw [if_pos h] at h2
      by_cases hk : k = f
      · rw [hk]
        exact h
      · exact alk_eq ns p b m (f + 1) k (by omega) h2
    · rw [if_neg h] at h2
      omega
theorem alk_stop (ns : List Int) (p b : Nat) : ∀ m f, alk ns p b m f < f + m → ¬ ns[p + alk ns p b m f]? = ns[p + alk ns p b m f - b]?
  | 0, f, h => by
    unfold alk at h
    omega
  | m + 1, f, h => by
    by_cases e : ns[p + f]? = ns[p + f - b]?
    · have e2 : alk ns p b (m + 1) f = alk ns p b m (f + 1) := by
        conv => lhs; unfold alk
        rw [if_pos e]
      rw [e2] at h ⊢
      exact alk_stop ns p b m (f + 1) (by omega)
    · have e2 : alk ns p b (m + 1) f = f := by
        unfold alk
        rw [if_neg e]
      rw [e2]
      exact e
theorem alike_le (ns : List Int) (p b m : Nat) : alike ns p b m ≤ m := by
  have := (alk_le ns p b m 0).2
  unfold alike
  omega
theorem alike_eq {ns : List Int} {p b m k : Nat} (h : k < alike ns p b m) : ns[p + k]? = ns[p + k - b]? := alk_eq ns p b m 0 k (Nat.zero_le _) h
theorem alike_stop {ns : List Int} {p b m : Nat} (h : alike ns p b m < m) : ¬ ns[p + alike ns p b m]? = ns[p + alike ns p b m - b]? := alk_stop ns p b m 0 (by unfold alike at h; omega)
/-- the search: so many places ahead by turns, what was found -/
def lcp (ns : List Int) (p most : Nat) : List Nat → Nat × Nat → Nat × Nat
  | [], c => c
  | b :: r, c => if ns[p]? = ns[p - b]? then
      (if alike ns p b most = most then (if c.2 < alike ns p b most then (b, alike ns p b most) else c) else lcp ns p most r (if c.2 < alike ns p b most then (b, alike ns p b most) else c))
    else lcp ns p most r c
def backs (p : Nat) : List Nat := (List.range (min 255 p)).map (· + 1)
def mostAt (ns : List Int) (p : Nat) : Nat := min 18 (ns.length - p)
def longest (ns : List Int) (p : Nat) : Nat × Nat := lcp ns p (mostAt ns p) (backs p) (0, 0)
/-- what a found pair is -/
def Found (ns : List Int) (p : Nat) (c : Nat × Nat) : Prop := c = (0, 0) ∨ (1 ≤ c.1 ∧ c.1 ≤ 255 ∧ c.1 ≤ p ∧ c.2 = alike ns p c.1 (mostAt ns p))
theorem lcp_found {ns : List Int} {p : Nat} : ∀ (l : List Nat) (c : Nat × Nat), (∀ b ∈ l, 1 ≤ b ∧ b ≤ 255 ∧ b ≤ p) → Found ns p c → Found ns p (lcp ns p (mostAt ns p) l c)
  | [], c, _, h => h
  | b :: r, c, hl, h => by
    have hb := hl b (.head _)
    have hr : ∀ x ∈ r, 1 ≤ x ∧ x ≤ 255 ∧ x ≤ p := fun x hx => hl x (.tail _ hx)
    have hc : Found ns p (if c.2 < alike ns p b (mostAt ns p) then (b, alike ns p b (mostAt ns p)) else c) := by
      by_cases q : c.2 < alike ns p b (mostAt ns p)
      · rw [if_pos q]
        exact .inr ⟨hb.1, hb.2.1, hb.2.2, rfl⟩
      · rw [if_neg q]
        exact h
    unfold lcp
    by_cases e : ns[p]? = ns[p - b]?
    · rw [if_pos e]
      by_cases e2 : alike ns p b (mostAt ns p) = mostAt ns p
      · rw [if_pos e2]
        exact hc
      · rw [if_neg e2]
        exact lcp_found r _ hr hc
    · rw [if_neg e]
      exact lcp_found r c hr h
theorem backs_ok (p : Nat) : ∀ b ∈ backs p, 1 ≤ b ∧ b ≤ 255 ∧ b ≤ p := by
  intro b hb
  unfold backs at hb
  obtain ⟨i, hi, rfl⟩ := List.mem_map.mp hb
  have := List.mem_range.mp hi
  omega
theorem longest_found (ns : List Int) (p : Nat) : Found ns p (longest ns p) := lcp_found _ _ (backs_ok p) (.inl rfl)
theorem longest_copy {ns : List Int} {p : Nat} (h : 3 ≤ (longest ns p).2) : 1 ≤ (longest ns p).1 ∧ (longest ns p).1 ≤ 255 ∧ (longest ns p).1 ≤ p ∧ (longest ns p).2 = alike ns p (longest ns p).1 (mostAt ns p) := by
  rcases longest_found ns p with e | e
  · rw [e] at h
    simp at h
  · exact e
theorem longest_size (ns : List Int) (p : Nat) : (longest ns p).2 ≤ mostAt ns p := by
  rcases longest_found ns p with e | e
  · rw [e]
    exact Nat.zero_le _
  · rw [e.2.2.2]
    exact alike_le _ _ _ _
/-- a piece -/
inductive Pc where
  | sign (n : Int)
  | copy (b s : Nat)
abbrev pcV : Pc → List V
  | .sign n => [.str "sign", .int n]
  | .copy b s => [.str "copy", .int ((b : Nat) : Int), .int ((s : Nat) : Int)]
def Pc.ok : Pc → Prop
  | .sign n => 0 ≤ n ∧ n ≤ 255
  | .copy b s => 1 ≤ b ∧ b ≤ 255 ∧ 3 ≤ s ∧ s ≤ 18
def pcs (ns : List Int) : Nat → Nat → List Pc
  | 0, _ => []
  | m + 1, p => if p < ns.length then (if 3 ≤ (longest ns p).2 then .copy (longest ns p).1 (longest ns p).2 :: pcs ns m (p + (longest ns p).2) else .sign (ns.getD p 0) :: pcs ns m (p + 1)) else []
theorem pcs_end {ns : List Int} {m p : Nat} (h : ns.length ≤ p) : pcs ns m p = [] := by
  cases m with
  | zero => rfl
  | succ m =>
    unfold pcs
    rw [if_neg (by omega)]
theorem pcs_copy {ns : List Int} {m p : Nat} (h : p < ns.length) (h3 : 3 ≤ (longest ns p).2) : pcs ns (m + 1) p = .copy (longest ns p).1 (longest ns p).2 :: pcs ns m (p + (longest ns p).2) := by
  conv => lhs; unfold pcs
  rw [if_pos h, if_pos h3]
theorem pcs_sign {ns : List Int} {m p : Nat} (h : p < ns.length) (h3 : ¬ 3 ≤ (longest ns p).2) : pcs ns (m + 1) p = .sign (ns.getD p 0) :: pcs ns m (p + 1) := by
  conv => lhs; unfold pcs
  rw [if_pos h, if_neg h3]
/-! what pieces tell -/
def cpy (b : Nat) : Nat → List Int → List Int
  | 0, l => l
  | s + 1, l => cpy b s (l ++ [l.getD (l.length - b) 0])
def app (l : List Int) : Pc → List Int
  | .sign n => l ++ [n]
  | .copy b s => cpy b s l
def told (l : List Int) (ps : List Pc) : List Int := ps.foldl app l
/-- no copy reaches back too far -/
def Reach : List Int → List Pc → Prop
  | _, [] => True
  | l, .sign n :: r => Reach (l ++ [n]) r
  | l, .copy b s :: r => b ≤ l.length ∧ Reach (cpy b s l) r
theorem cpy_length (b : Nat) : ∀ s l, (cpy b s l).length = l.length + s
  | 0, l => rfl
  | s + 1, l => by
    unfold cpy
    rw [cpy_length b s, List.length_append, List.length_singleton]
    omega
theorem cpy_succ (b : Nat) : ∀ s l, cpy b (s + 1) l = cpy b s l ++ [(cpy b s l).getD ((cpy b s l).length - b) 0]
  | 0, l => rfl
  | s + 1, l => by
    show cpy b (s + 1) (l ++ [l.getD (l.length - b) 0]) = _
    rw [cpy_succ b s]
    rfl
theorem take_snoc {ns : List Int} {p : Nat} (h : p < ns.length) : ns.take p ++ [ns.getD p 0] = ns.take (p + 1) := by
  rw [List.take_add_one, List.getElem?_eq_getElem h, List.getD_eq_getElem?_getD, List.getElem?_eq_getElem h]
  rfl
theorem getD_of {ns : List Int} {i j : Nat} (h : ns[i]? = ns[j]?) : ns.getD i 0 = ns.getD j 0 := by rw [List.getD_eq_getElem?_getD, List.getD_eq_getElem?_getD, h]
theorem cpy_take {ns : List Int} {b : Nat} (hb : 1 ≤ b) : ∀ s p, b ≤ p → p + s ≤ ns.length → (∀ k, k < s → ns[p + k]? = ns[p + k - b]?) → cpy b s (ns.take p) = ns.take (p + s)
  | 0, p, _, _, _ => rfl
  | s + 1, p, h1, h2, h3 => by
    have l : (ns.take p).length = p := by rw [List.length_take]; omega
    have e0 := h3 0 (by omega)
    have e1 : (ns.take p).getD ((ns.take p).length - b) 0 = ns.getD p 0 := by
      rw [l, List.getD_eq_getElem?_getD, List.getElem?_take, if_pos (by omega), ← List.getD_eq_getElem?_getD]
      exact (getD_of e0).symm
    unfold cpy
    rw [e1, take_snoc (by omega)]
    rw [cpy_take hb s (p + 1) (by omega) (by omega) fun k hk => by
      have := h3 (k + 1) (by omega)
      rw [show p + 1 + k = p + (k + 1) by omega]
      exact this]
    congr 1
    omega
theorem pcs_told {ns : List Int} : ∀ m p, p ≤ ns.length → ns.length - p ≤ m → told (ns.take p) (pcs ns m p) = ns ∧ Reach (ns.take p) (pcs ns m p)
  | 0, p, h1, h2 => ⟨by rw [show p = ns.length by omega]; exact List.take_of_length_le (Nat.le_refl _), trivial⟩
  | m + 1, p, h1, h2 => by
    by_cases hp : p < ns.length
    · by_cases h3 : 3 ≤ (longest ns p).2
      · rw [pcs_copy hp h3]
        obtain ⟨c1, c2, c3, c4⟩ := longest_copy h3
        have hs := longest_size ns p
        unfold mostAt at hs
        have e := cpy_take (ns := ns) c1 (longest ns p).2 p c3 (by omega) fun k hk => by
          rw [c4] at hk
          exact alike_eq hk
        have ih := pcs_told (ns := ns) m (p + (longest ns p).2) (by omega) (by omega)
        refine ⟨?_, ?_, ?_⟩
        · show told (cpy _ _ (ns.take p)) _ = ns
          rw [e]
          exact ih.1
        · rw [List.length_take]
          omega
        · rw [e]
          exact ih.2
      · rw [pcs_sign hp h3]
        have ih := pcs_told (ns := ns) m (p + 1) (by omega) (by omega)
        refine ⟨?_, ?_⟩
        · show told (ns.take p ++ [ns.getD p 0]) _ = ns
          rw [take_snoc hp]
          exact ih.1
        · show Reach (ns.take p ++ [ns.getD p 0]) _
          rw [take_snoc hp]
          exact ih.2
    · rw [pcs_end (by omega)]
      exact ⟨by rw [show p = ns.length by omega]; exact List.take_of_length_le (Nat.le_refl _), trivial⟩
theorem pcs_ok {ns : List Int} (hn : ∀ n ∈ ns, 0 ≤ n ∧ n ≤ 255) : ∀ m p, ∀ c ∈ pcs ns m p, Pc.ok c
  | 0, p => fun c h => by cases h
  | m + 1, p => by
    intro c h
    by_cases hp : p < ns.length
    · by_cases h3 : 3 ≤ (longest ns p).2
      · rw [pcs_copy hp h3] at h
        rcases List.mem_cons.mp h with e | h
        · rw [e]
          obtain ⟨c1, c2, c3, c4⟩ := longest_copy h3
          have hs := longest_size ns p
          unfold mostAt at hs
          exact ⟨c1, c2, h3, by omega⟩
        · exact pcs_ok hn _ _ c h
      · rw [pcs_sign hp h3] at h
        rcases List.mem_cons.mp h with e | h
        · rw [e]
          have : ns.getD p 0 = ns[p] := by rw [List.getD_eq_getElem?_getD, List.getElem?_eq_getElem hp]; rfl
          rw [this]
          exact hn _ (List.getElem_mem hp)
        · exact pcs_ok hn _ _ c h
    · rw [pcs_end (by omega)] at h
      cases h
theorem pcs_length {ns : List Int} : ∀ m p, (pcs ns m p).length ≤ ns.length - p
  | 0, p => Nat.zero_le _
  | m + 1, p => by
    by_cases hp : p < ns.length
    · by_cases h3 : 3 ≤ (longest ns p).2
      · rw [pcs_copy hp h3, List.length_cons]
        have := pcs_length (ns := ns) m (p + (longest ns p).2)
        omega
      · rw [pcs_sign hp h3, List.length_cons]
        have := pcs_length (ns := ns) m (p + 1)
        omega
    · rw [pcs_end (by omega)]
      exact Nat.zero_le _
theorem told_append (l : List Int) (a b : List Pc) : told l (a ++ b) = told (told l a) b := by unfold told; rw [List.foldl_append]
theorem app_pre (l : List Int) (c : Pc) : ∃ r, app l c = l ++ r := by
  cases c with
  | sign n => exact ⟨_, rfl⟩
  | copy b s =>
    show ∃ r, cpy b s l = l ++ r
    induction s generalizing l with
    | zero => exact ⟨[], by simp [cpy]⟩
    | succ s ih =>
      unfold cpy
      obtain ⟨r, e⟩ := ih (l ++ [l.getD (l.length - b) 0])
      exact ⟨_, by rw [e, List.append_assoc]⟩
theorem told_pre : ∀ (ps : List Pc) (l : List Int), ∃ r, told l ps = l ++ r
  | [], l => ⟨[], by simp [told]⟩
  | c :: ps, l => by
    obtain ⟨r, e⟩ := app_pre l c
    obtain ⟨r2, e2⟩ := told_pre ps (app l c)
    exact ⟨r ++ r2, by show told (app l c) ps = _; rw [e2, e, List.append_assoc]⟩
theorem reach_append {b : List Pc} : ∀ {a : List Pc} {l : List Int}, Reach l (a ++ b) → Reach l a
  | [], _, _ => trivial
  | .sign n :: a, l, h => reach_append (a := a) h
  | .copy x s :: a, l, h => ⟨h.1, reach_append (a := a) h.2⟩
/-! signs exchanged one for one -/
def copyV : Pc → Option (List V)
  | .sign _ => none
  | .copy b s => some [.int ((b : Nat) : Int), .int ((s : Nat) : Int)]
section
variable {f : Int → Int} (hf : ∀ a b, f a = f b → a = b)
include hf
theorem map_at (ns : List Int) (i j : Nat) : ((ns.map f)[i]? = (ns.map f)[j]?) ↔ (ns[i]? = ns[j]?) := by
  rw [List.getElem?_map, List.getElem?_map]
  cases ns[i]? with
  | none => cases ns[j]? <;> simp
  | some a =>
    cases ns[j]? with
    | none => simp
    | some b =>
      simp only [Option.map_some, Option.some.injEq]
      exact ⟨hf a b, fun e => by rw [e]⟩
theorem alk_map (ns : List Int) (p b : Nat) : ∀ m g, alk (ns.map f) p b m g = alk ns p b m g
  | 0, g => rfl
  | m + 1, g => by
    unfold alk
    rw [alk_map ns p b m (g + 1)]
    by_cases h : ns[p + g]? = ns[p + g - b]?
    · rw [if_pos h, if_pos ((map_at hf ns _ _).mpr h)]
    · rw [if_neg h, if_neg fun z => h ((map_at hf ns _ _).mp z)]
theorem lcp_map (ns : List Int) (p m : Nat) : ∀ l c, lcp (ns.map f) p m l c = lcp ns p m l c
  | [], c => rfl
  | b :: r, c => by
    unfold lcp alike
    rw [alk_map hf, lcp_map ns p m r, lcp_map ns p m r]
    by_cases h : ns[p]? = ns[p - b]?
    · rw [if_pos h, if_pos ((map_at hf ns _ _).mpr h)]
    · rw [if_neg h, if_neg fun z => h ((map_at hf ns _ _).mp z)]
theorem longest_map (ns : List Int) (p : Nat) : longest (ns.map f) p = longest ns p := by
  unfold longest mostAt
  rw [lcp_map hf, List.length_map]
theorem pcs_map (ns : List Int) : ∀ m p, (pcs (ns.map f) m p).filterMap copyV = (pcs ns m p).filterMap copyV
  | 0, p => rfl
  | m + 1, p => by
    unfold pcs
    rw [longest_map hf, List.length_map]
    by_cases h : p < ns.length
    · rw [if_pos h, if_pos h]
      by_cases h3 : 3 ≤ (longest ns p).2
      · rw [if_pos h3, if_pos h3, List.filterMap_cons, List.filterMap_cons, pcs_map ns m]
      · rw [if_neg h3, if_neg h3, List.filterMap_cons, List.filterMap_cons, pcs_map ns m]
        rfl
    · rw [if_neg h, if_neg h]
end
end L2.BR

namespace L2.BR
open PySem PySem.Spec PyProof.Rows L2.BP
variable {K : PySem.W.Frag} {W : WX} {vs : List V} {H : Hp} {Q : VK} {E : XK}
def sp__law_mixed (K : PySem.W.Frag) : Sp := fun vs H Q _ => ∃ c k : Int, vs = [.int c, .int k] ∧ 0 ≤ k ∧ k ≤ 100000 ∧ ∀ m : Int, 0 ≤ m → Q (.int m) H
theorem len__law_mixed (h : sp__law_mixed K vs H Q E) : vs.length = 2 := by
  obtain ⟨c, k, rfl, _⟩ := h
  rfl
def t__law_mixed (K : PySem.W.Frag) (W : WX) : TS :=
  (tRet (tOp rModU (tOp rMulU (tOp rModU (tOp rMulU (tOp rAddU (tOp rAddU (tVar 0) (tOp rMulU (tOp rMulU (tC (.int 101)) (tVar 1)) (tVar 1))) (tC (.int 7))) (tC (.int 48271))) (tC (.int 2147483647))) (tC (.int 69621))) (tC (.int 2147483629))))
theorem rd__law_mixed (h : sp__law_mixed K vs H Q E) : t__law_mixed K W { nx := fun _ H' => Q .non H', rt := Q } (start ["_law_cell", "_law_k"] vs) H := by
  obtain ⟨c, k, rfl, h0, h1, q⟩ := h
  have hs := Hs.start H
  unfold t__law_mixed
  walk_at "go"
  exact q _ (Int.emod_nonneg _ (by decide))
end L2.BR

namespace L2.BR
open PySem PySem.Spec PyProof.Rows L2.BP
variable {K : PySem.W.Frag} {W : WX} {vs : List V} {H : Hp} {Q : VK} {E : XK}
/-! ### windows -/
def Tg.isWin : Tg → Bool
  | .non => true
  | .lst xs => xs.all byteV && decide (xs.length ≤ 255)
  | _ => false
def Tg.items : Tg → List V
  | .lst xs => xs
  | _ => []
def sp_need_window (K : PySem.W.Frag) : Sp := fun vs H Q E => ∃ (v : V) (g : Tg), vs = [v] ∧ Th K H v g ∧ Tg.ok K H g ∧
  (Tg.isWin g = true → RetL H Q (Tg.items g)) ∧ (Tg.isWin g = false → ∀ H', Same H H' → E (.ref (He.ga K "BadRow")) none H')
theorem len_need_window (h : sp_need_window K vs H Q E) : vs.length = 1 := by
  obtain ⟨v, g, rfl, _⟩ := h
  rfl
def t_need_window (K : PySem.W.Frag) (W : WX) : TS :=
  (tSeq (tIfS (tTest (tOp rIsU (tVar 0) (tC .non))) (tRet (tLst tNil)) tNext)
    (tSeq (tIfS ((tOr (tNot (tB (tCl (sp_is_row K) [] W (tCons (tVar 0) tNil)))) (tTest (tOp rGtU (tCB (rLenK K) (tCons (tVar 0) tNil)) (tC (.int 255)))))) (tRz (He.ga K "BadRow") W) tNext)
    (tRet (tCB (rListK K) (tCons (tVar 0) tNil)))))
theorem rd_need_window (h : sp_need_window K vs H Q E) : t_need_window K (fun c d _ H2 => E c d H2) { nx := fun _ H' => Q .non H', rt := Q } (start ["before"] vs) H := by
  obtain ⟨v, g, rfl, hT, hok, q, qe⟩ := h
  have hs := Hs.start H
  unfold t_need_window
  cases hT with
  | non =>
    walk_at "go"
    rename_i p H2 h2
    exact h2.rl (.head _) (q rfl)
  | @lst a xs z =>
    walk_at "go"
    refine ⟨.ref a, .lst xs, rfl, .lst z, hok, retV hs fun H1 h1 => ?_⟩
    walk_at "go"
    have z1 := h1.bl z
    cases e : Tg.isRow (.lst xs) with
    | false =>
      walk_at "go"
      exact qe (by simp only [Tg.isWin]; rw [show xs.all byteV = false from e]; rfl) _ h1.ex
    | true =>
      walk_at "go"
      by_cases hl : xs.length ≤ 255
      · refine i_f (decide_eq_false (by omega)) ?_
        walk_at "go"
        rename_i p H2 h2
        exact h2.rl (.head _) (q (by simp only [Tg.isWin]; rw [show xs.all byteV = true from e, decide_eq_true hl]; rfl))
      · refine i_t (decide_eq_true (by omega)) ?_
        walk_at "go"
        exact qe (by simp only [Tg.isWin]; rw [decide_eq_false hl, Bool.and_false]) _ h1.ex
  | bl b => walk_at "go"; refine ⟨_, _, rfl, .bl b, trivial, retV hs fun H1 h1 => ?_⟩; walk_at "go"; exact qe rfl _ h1.ex
  | int b => walk_at "go"; refine ⟨_, _, rfl, .int b, trivial, retV hs fun H1 h1 => ?_⟩; walk_at "go"; exact qe rfl _ h1.ex
  | str b => walk_at "go"; refine ⟨_, _, rfl, .str b, trivial, retV hs fun H1 h1 => ?_⟩; walk_at "go"; exact qe rfl _ h1.ex
  | tup z => walk_at "go"; refine ⟨_, _, rfl, .tup z, trivial, retV hs fun H1 h1 => ?_⟩; walk_at "go"; exact qe rfl _ h1.ex
  | dic z => walk_at "go"; refine ⟨_, _, rfl, .dic z, trivial, retV hs fun H1 h1 => ?_⟩; walk_at "go"; exact qe rfl _ h1.ex
theorem opt_getD {ns : List Int} {i j : Nat} (hi : i < ns.length) (hj : j < ns.length) : (ns[i]? = ns[j]?) ↔ (ns.getD i 0 = ns.getD j 0) := by
  rw [List.getD_eq_getElem?_getD, List.getD_eq_getElem?_getD, List.getElem?_eq_getElem hi, List.getElem?_eq_getElem hj]
  simp
def sp_alike_size (K : PySem.W.Frag) : Sp := fun vs H Q _ => ∃ (a : Addr) (ns : List Int) (p b most : Nat), vs = [.ref a, .int ((p : Nat) : Int), .int ((b : Nat) : Int), .int ((most : Nat) : Int)] ∧ SqL K H a (ns.map V.int) ∧ b ≤ p ∧ p + most ≤ ns.length ∧
  RetV H Q (.int ((alike ns p b most : Nat) : Int))
theorem len_alike_size (h : sp_alike_size K vs H Q E) : vs.length = 4 := by
  obtain ⟨a, ns, p, b, most, rfl, _⟩ := h
  rfl
def t_alike_size (K : PySem.W.Frag) (W : WX) : TS :=
  (tSeq (tAsg (tC (.int 0)) (gName 4))
    (tSeq (tWhile ((tAnd (tTest (tOp rLtU (tVar 4) (tVar 3))) (tTest (tOp (rEqU K) (tOp (rIx K) (tVar 0) (tOp rAddU (tVar 1) (tVar 4))) (tOp (rIx K) (tVar 0) (tOp rSubU (tOp rAddU (tVar 1) (tVar 4)) (tVar 2))))))) (tAug 4 (tC (.int 1)) ipAddU))
    (tRet (tVar 4))))
theorem rd_alike_size (h : sp_alike_size K vs H Q E) : t_alike_size K W { nx := fun _ H' => Q .non H', rt := Q } (start ["signs", "place", "back", "most", "found"] vs) H := by
  obtain ⟨a, ns, p, b, most, rfl, hS, hb, hm, q⟩ := h
  have hs := Hs.start H
  unfold t_alike_size
  walk_at "go"
  refine w_while (fun m σ' L' B' => ∃ f : Nat, f + m = most ∧ alk ns p b m f = alike ns p b most ∧ σ' = [some (.ref a), some (.int p), some (.int b), some (.int most), some (.int f)] ∧ B' = H ∧ L' = []) most hs ⟨0, by omega, rfl, rfl, rfl, rfl⟩ ?_
  rintro m σ' L' B' H' ⟨f, hf, hk, rfl, rfl, rfl⟩ h
  have hS' := h.bl hS
  walk_at "go"
  by_cases hlt : f < most
  · refine i_t (decide_eq_true (by omega)) ?_
    obtain ⟨m, rfl⟩ : ∃ m', m = m' + 1 := ⟨m - 1, by omega⟩
    have i1 : atI (ns.map V.int) (((p : Nat) : Int) + ((f : Nat) : Int)) = some (.int (ns.getD (p + f) 0)) := at_i (by omega) (by omega)
    have i2 : atI (ns.map V.int) (((p : Nat) : Int) + ((f : Nat) : Int) - ((b : Nat) : Int)) = some (.int (ns.getD (p + f - b) 0)) := at_i (by omega) (by omega)
    walk_at "go"
    unfold alk at hk
    by_cases he : ns[p + f]? = ns[p + f - b]?
    · rw [if_pos he] at hk
      refine i_t (decide_eq_true (getD_of he)) (w_turn ?_)
      walk_at "go"
      exact ⟨m, by omega, _, _, ⟨f + 1, by omega, hk, rfl, rfl, rfl⟩, h⟩
    · rw [if_neg he] at hk
      refine i_f (decide_eq_false fun z => he ((opt_getD (by omega) (by omega)).mpr z)) ?_
      walk_at "go"
      rw [hk]
      exact q _ h.ex
  · refine i_f (decide_eq_false (by omega)) ?_
    walk_at "go"
    rw [show m = 0 by omega] at hk
    unfold alk at hk
    rw [hk]
    exact q _ h.ex
theorem backs_split {p i : Nat} (h : i < min 255 p) : (backs p).drop i = (1 + i) :: (backs p).drop (i + 1) := by
  have l : i < (backs p).length := by unfold backs; simpa using h
  rw [List.drop_eq_getElem_cons l]
  have e : (backs p)[i] = 1 + i := by
    simp [backs]
    omega
  rw [e]
theorem backs_all {p : Nat} : (backs p).drop (min 255 p) = [] := List.drop_of_length_le (by unfold backs; simp)
def sp_longest_copy (K : PySem.W.Frag) : Sp := fun vs H Q _ => ∃ (a : Addr) (ns : List Int) (p : Nat), vs = [.ref a, .int ((p : Nat) : Int)] ∧ SqL K H a (ns.map V.int) ∧ p < ns.length ∧ ns.length ≤ 200000 ∧
  RetT H Q [.int (((longest ns p).1 : Nat) : Int), .int (((longest ns p).2 : Nat) : Int)]
theorem len_longest_copy (h : sp_longest_copy K vs H Q E) : vs.length = 2 := by
  obtain ⟨a, ns, p, rfl, _⟩ := h
  rfl
def t_longest_copy (K : PySem.W.Frag) (W : WX) : TS :=
  (tSeq (tAsg (tCB (rMin2K) (tCons (tC (.int 18)) (tCons (tOp rSubU (tCB (rLenK K) (tCons (tVar 0) tNil)) (tVar 1)) tNil))) (gName 2))
    (tSeq (tAsg (tTup (tCons (tC (.int 0)) (tCons (tC (.int 0)) tNil))) (gName 3))
    (tSeq (tFor (iRng2 (tCons (tC (.int 1)) (tCons (tOp rAddU (tCB (rMin2K) (tCons (tC (.int 255)) (tCons (tVar 1) tNil))) (tC (.int 1))) tNil))) (gName 4) (tSeq (tIfS (tTest (tOp (rNeU K) (tOp (rIx K) (tVar 0) (tVar 1)) (tOp (rIx K) (tVar 0) (tOp rSubU (tVar 1) (tVar 4))))) (tCont) tNext)
    (tSeq (tAsg (tCl (sp_alike_size K) [] W (tCons (tVar 0) (tCons (tVar 1) (tCons (tVar 4) (tCons (tVar 2) tNil))))) (gName 5))
    (tSeq (tIfS (tTest (tOp rGtU (tVar 5) (tOp (rIx K) (tVar 3) (tC (.int 1))))) (tAsg (tTup (tCons (tVar 4) (tCons (tVar 5) tNil))) (gName 3)) tNext)
    (tIfS (tTest (tOp (rEqU K) (tVar 5) (tVar 2))) (tBreak) tNext)))))
    (tRet (tVar 3)))))
theorem rd_longest_copy (h : sp_longest_copy K vs H Q E) : t_longest_copy K W { nx := fun _ H' => Q .non H', rt := Q } (start ["signs", "place", "most", "found", "back", "size"] vs) H := by
  obtain ⟨a, ns, p, rfl, hS, hp, hl, q⟩ := h
  have hs := Hs.start H
  unfold t_longest_copy
  walk_at "go"
  rw [List.length_map, show (if ((ns.length : Nat) : Int) - ((p : Nat) : Int) < 18 then ((ns.length : Nat) : Int) - ((p : Nat) : Int) else 18) = ((mostAt ns p : Nat) : Int) by unfold mostAt; split <;> omega]
  rename_i t0 H0 h0
  have hm : mostAt ns p ≤ ns.length - p ∧ mostAt ns p ≤ 18 := by unfold mostAt; omega
  have e1 : (if ((p : Nat) : Int) < 255 then ((p : Nat) : Int) else 255) + 1 = ((min 255 p + 1 : Nat) : Int) := by split <;> omega
  rw [e1]
  refine ⟨1, _, rfl, ⟨by decide, by decide, by omega, by omega⟩, ?_⟩
  have e2 : (((min 255 p + 1 : Nat) : Int) - 1).toNat = min 255 p := by omega
  rw [e2]
  refine w_forR (fun i σ' L' B' => ∃ (c : Nat × Nat) (t : Addr) (w4 w5 : Option V), lcp ns p (mostAt ns p) ((backs p).drop i) c = longest ns p ∧ σ' = [some (.ref a), some (.int p), some (.int ((mostAt ns p : Nat) : Int)), some (.ref t), w4, w5] ∧ B' = H ∧
    L' = [(t, .tup [.int ((c.1 : Nat) : Int), .int ((c.2 : Nat) : Int)])]) h0 ⟨(0, 0), t0, none, none, rfl, rfl, rfl, rfl⟩ ?_ ?_
  · rintro i σ' L' B' H' hi ⟨c, t, w4, w5, hc, rfl, rfl, rfl⟩ h
    rw [backs_split hi] at hc
    have hS' := h.bl hS
    have i1 : atI (ns.map V.int) ((p : Nat) : Int) = some (.int (ns.getD p 0)) := at_nat hp
    have i2 : atI (ns.map V.int) (((p : Nat) : Int) - (1 + ((i : Nat) : Int))) = some (.int (ns.getD (p - (1 + i)) 0)) := at_i (by omega) (by omega)
    unfold lcp at hc
    walk_at "go"
    by_cases he : ns[p]? = ns[p - (1 + i)]?
    · rw [if_pos he] at hc
      refine i_f (ne_f (getD_of he)) ?_
      walk_at "go"
      refine ⟨a, ns, p, 1 + i, mostAt ns p, rfl, hS', by omega, by omega, retV h fun H2 h2 => ?_⟩
      clear h
      have ht2 := h2.sqt (K := K) (.head _)
      walk_at "go"
      by_cases c1 : c.2 < alike ns p (1 + i) (mostAt ns p)
      · rw [if_pos c1] at hc
        refine i_t (decide_eq_true (by omega)) ?_
        walk_at "go"
        rename_i t3 H3 h3
        have h4 := h3.drop1
        by_cases c2 : alike ns p (1 + i) (mostAt ns p) = mostAt ns p
        · rw [if_pos c2] at hc
          refine i_t (decide_eq_true (by omega)) ?_
          rw [← hc] at q
          walk_at "go"
          exact h4.rt (.head _) q
        · rw [if_neg c2] at hc
          refine i_f (decide_eq_false (by omega)) ?_
          walk_at "go"
          exact ⟨_, _, ⟨_, t3, _, _, hc, rfl, rfl, rfl⟩, h4⟩
      · rw [if_neg c1] at hc
        refine i_f (decide_eq_false (by omega)) ?_
        walk_at "go"
        by_cases c2 : alike ns p (1 + i) (mostAt ns p) = mostAt ns p
        · rw [if_pos c2] at hc
          refine i_t (decide_eq_true (by omega)) ?_
          rw [← hc] at q
          walk_at "go"
          exact h2.rt (.head _) q
        · rw [if_neg c2] at hc
          refine i_f (decide_eq_false (by omega)) ?_
          walk_at "go"
          exact ⟨_, _, ⟨c, t, _, _, hc, rfl, rfl, rfl⟩, h2⟩
    · rw [if_neg he] at hc
      refine i_t (by rw [decide_eq_false fun z => he ((opt_getD (by omega) (by omega)).mpr z)]; rfl) ?_
      walk_at "go"
      exact ⟨_, _, ⟨c, t, _, _, hc, rfl, rfl, rfl⟩, h⟩
  · rintro σ' L' B' H' ⟨c, t, w4, w5, hc, rfl, rfl, rfl⟩ h
    rw [backs_all] at hc
    unfold lcp at hc
    rw [← hc] at q
    walk_at "go"
    exact h.rt (.head _) q
/-- rows handed over -/
theorem isWin_ints {ns : List Int} (h : Bytes ns) (hl : ns.length ≤ 255) : Tg.isWin (.lst (ns.map V.int)) = true := by
  simp only [Tg.isWin]
  rw [all_byteV h, decide_eq_true (by rw [List.length_map]; exact hl)]
  rfl
def sp_pieces_of (K : PySem.W.Frag) : Sp := fun vs H Q E => ∃ (B : Hp) (L : Pic) (v w : V) (g k : Tg), vs = [v, w] ∧ Hs B L H ∧ Th K H v g ∧ Tg.ok K H g ∧ Th K H w k ∧ Tg.ok K H k ∧
  (∀ ts ws : List Int, g = .lst (ts.map V.int) → Bytes ts → Tg.isWin k = true → Tg.items k = ws.map V.int → ∀ B2 p xs H', Same B B2 → Tups K B2 xs ((pcs (ws ++ ts) (ts.length) ws.length).map pcV) → Hs B2 ((p, .lst xs) :: L) H' → Q (.ref p) H') ∧
  ((Tg.isRow g = false ∨ Tg.isWin k = false) → ∀ H', Hs B L H' → E (.ref (He.ga K "BadRow")) none H')
theorem len_pieces_of (h : sp_pieces_of K vs H Q E) : vs.length = 2 := by
  obtain ⟨B, L, v, w, g, k, rfl, _⟩ := h
  rfl
theorem Tg.ok_same {g : Tg} {H' : Hp} (e : Same H H') (h : Tg.ok K H g) : Tg.ok K H' g := by
  cases g with
  | lst xs => exact ⟨fun x hx => (h.1 x hx).elim fun g hg => ⟨g, hg.same e⟩, h.2⟩
  | _ => trivial
theorem row_ints {g : Tg} (h : Tg.isRow g = true) : ∃ ns : List Int, g = .lst (ns.map V.int) ∧ Bytes ns := by
  cases g with
  | lst xs =>
    obtain ⟨ns, e, hb⟩ := ints_of (show xs.all byteV = true from h)
    exact ⟨ns, by rw [e], hb⟩
  | _ => cases h
theorem win_ints {g : Tg} (h : Tg.isWin g = true) : ∃ ns : List Int, Tg.items g = ns.map V.int ∧ Bytes ns ∧ ns.length ≤ 255 := by
  cases g with
  | non => exact ⟨[], rfl, fun _ h => (nomatch h), Nat.zero_le _⟩
  | lst xs =>
    have h1 : (xs.all byteV && decide (xs.length ≤ 255)) = true := h
    rw [Bool.and_eq_true, decide_eq_true_eq] at h1
    obtain ⟨ns, e, hb⟩ := ints_of h1.1
    exact ⟨ns, e, hb, by rw [e, List.length_map] at h1; exact h1.2⟩
  | _ => cases h
def t_pieces_of (K : PySem.W.Frag) (W : WX) : TS :=
  (tSeq (tAsg (tCl (sp_need_row K) [] W (tCons (tVar 0) tNil)) (gName 2))
    (tSeq (tAsg (tCl (sp_need_window K) [] W (tCons (tVar 1) tNil)) (gName 3))
    (tSeq (tAsg (tCB (rLenK K) (tCons (tVar 3) tNil)) (gName 4))
    (tSeq (tAug 3 (tVar 2) ipAddU)
    (tSeq (tAsg (tLst tNil) (gName 5))
    (tSeq (tWhile (tTest (tOp rLtU (tVar 4) (tCB (rLenK K) (tCons (tVar 3) tNil)))) (tSeq (tAsg (tCl (sp_longest_copy K) [] W (tCons (tVar 3) (tCons (tVar 4) tNil))) (gTup K 2 (gCons (gName 6) (gCons (gName 7) gNil))))
    (tIfS (tTest (tOp rGeU (tVar 7) (tC (.int 3)))) (tSeq (tDrop (tBM K "list" rAppend (tVar 5) (tCons (tTup (tCons (tC (.str "copy")) (tCons (tVar 6) (tCons (tVar 7) tNil)))) tNil)))
    (tAug 4 (tVar 7) ipAddU)) (tSeq (tDrop (tBM K "list" rAppend (tVar 5) (tCons (tTup (tCons (tC (.str "sign")) (tCons (tOp (rIx K) (tVar 3) (tVar 4)) tNil))) tNil)))
    (tAug 4 (tC (.int 1)) ipAddU)))))
    (tRet (tVar 5))))))))
theorem rd_pieces_of (h : sp_pieces_of K vs H Q E) : t_pieces_of K (fun c d _ H2 => E c d H2) { nx := fun _ H' => Q .non H', rt := Q } (start ["text", "before", "row", "signs", "place", "found", "back", "size"] vs) H := by
  obtain ⟨B, L, v, w, g, k, rfl, hs, hT, hok, hT2, hok2, q, qe⟩ := h
  unfold t_pieces_of
  walk_at "go"
  refine ⟨v, g, rfl, hT, hok, fun xs e hr => ?_, fun hr H' e => qe (.inl hr) H' (hs.same e)⟩
  obtain ⟨ts, e2, hb⟩ := row_ints hr
  have hx : xs = ts.map V.int := by rw [e] at e2; exact Tg.lst.inj e2
  subst hx
  have q := fun ws => q ts ws e hb
  have hlt : ts.length ≤ 100000 := by rw [e] at hok; have := hok.2; rw [List.length_map] at this; exact this
  intro r H1 hn1 e1 hr1
  have h1 := hs.newS hn1 e1 hr1
  walk_at "go"
  refine ⟨w, k, rfl, hT2.same e1, Tg.ok_same e1 hok2, fun hw => ?_, fun hw H' e => qe (.inr hw) H' (hs.same (e1.trans e))⟩
  obtain ⟨ws, e3, hb3, hl3⟩ := win_ints hw
  have q := q ws hw e3
  rw [e3]
  refine retL h1 fun s H2 h2 => ?_
  clear h1 hs
  walk_at "go"
  refine c_ext0 h2 (h2.get (.tail _ (.head _))) ?_ fun H3 h3 => ?_
  · rw [List.length_map, List.length_map]
    exact small6' (by omega)
  clear h2
  rw [← List.map_append] at h3
  have h4 := h3.drop1
  clear h3
  walk_at "go"
  rename_i f H4 h5
  rw [List.length_map]
  have hla : (ws ++ ts).length = ws.length + ts.length := List.length_append
  refine w_while (fun m σ' L' B' => ∃ (p : Nat) (qs : List Pc) (acc : List V) (w6 w7 : Option V), pcs (ws ++ ts) ts.length ws.length = qs ++ pcs (ws ++ ts) m p ∧ p ≤ (ws ++ ts).length ∧ (ws ++ ts).length ≤ p + m ∧ qs.length ≤ p ∧
    Same B B' ∧ Tups K B' acc (qs.map pcV) ∧ σ' = [some v, some w, some (.ref r), some (.ref s), some (.int ((p : Nat) : Int)), some (.ref f), w6, w7] ∧ L' = (f, .lst acc) :: (s, .lst ((ws ++ ts).map V.int)) :: L) ts.length h5
    ⟨ws.length, [], [], none, none, rfl, by omega, by omega, Nat.zero_le _, Same.refl _, .nil, rfl, rfl⟩ ?_
  rintro m σ' L' B' H' ⟨p, qs, acc, w6, w7, hq, hp1, hp2, hp3, hB, hT, rfl, rfl⟩ h
  have hal : acc.length = qs.length := by rw [hT.length, List.length_map]
  walk_at "go"
  rw [List.length_map]
  by_cases hlt : p < (ws ++ ts).length
  · refine i_t (decide_eq_true (by omega)) (w_turn ?_)
    obtain ⟨m, rfl⟩ : ∃ m', m = m' + 1 := ⟨m - 1, by omega⟩
    walk_at "go"
    refine ⟨s, ws ++ ts, p, rfl, h.sql (.tail _ (.head _)), hlt, by omega, retT h fun t H5 h6 => ?_⟩
    have ht6 := h6.sqt (K := K) (.head _)
    have h7 := h6.drop
    have hs7 := h7.sql (K := K) (.tail _ (.head _))
    have hix := at_nat hlt
    clear h6 h
    walk_at "go"
    by_cases h3 : 3 ≤ (longest (ws ++ ts) p).2
    · refine i_t (decide_eq_true (by omega)) ?_
      rw [pcs_copy hlt h3] at hq
      have hz := longest_size (ws ++ ts) p
      unfold mostAt at hz
      walk_at "go"
      rename_i u H6 h8
      have hn := h8.nb (.head _)
      refine c_app0 h8.fix (small6 (by omega)) fun H7 h9 => ?_
      walk_at "go"
      refine ⟨m, by omega, _, _, ⟨p + (longest (ws ++ ts) p).2, qs ++ [.copy (longest (ws ++ ts) p).1 (longest (ws ++ ts) p).2], _, _, _, by rw [hq, List.append_assoc]; rfl, by omega, by omega, by rw [List.length_append, List.length_singleton]; omega, hB.trans (same_upd hn), ?_, rfl, rfl⟩, h9⟩
      rw [List.map_append]
      exact hT.snocFix hn
    · refine i_f (decide_eq_false (by omega)) ?_
      rw [pcs_sign hlt h3] at hq
      walk_at "go"
      rename_i u H6 h8
      have hn := h8.nb (.head _)
      refine c_app0 h8.fix (small6 (by omega)) fun H7 h9 => ?_
      walk_at "go"
      refine ⟨m, by omega, _, _, ⟨p + 1, qs ++ [.sign ((ws ++ ts).getD p 0)], _, _, _, by rw [hq, List.append_assoc]; rfl, by omega, by omega, by rw [List.length_append, List.length_singleton]; omega, hB.trans (same_upd hn), ?_, rfl, rfl⟩, h9⟩
      rw [List.map_append]
      exact hT.snocFix hn
  · refine i_f (decide_eq_false (by omega)) ?_
    walk_at "go"
    rw [pcs_end (ns := ws ++ ts) (p := p) (by omega), List.append_nil] at hq
    rw [← hq] at hT
    exact q B' f acc H' hB hT h.drop1
theorem tups_item {α : Type} {f : α → List V} {ps : List α} {acc pre post : List V} {x : V} (h : Tups K H acc (ps.map f)) (e : acc = pre ++ x :: post) : ∃ a p, x = .ref a ∧ ps[pre.length]? = some p ∧ SqT K H a (f p) := by
  subst e
  obtain ⟨a, p1, xs, p2, rfl, e2, e3, e4⟩ := h.split
  have z : (ps.map f)[pre.length]? = some xs := by rw [e2, ← e3]; simp
  rw [List.getElem?_map] at z
  cases e5 : ps[pre.length]? with
  | none => rw [e5] at z; cases z
  | some p =>
    rw [e5] at z
    cases z
    exact ⟨a, p, rfl, rfl, e4⟩
end L2.BR

namespace L2.BR
open PySem PySem.Spec PyProof.Rows L2.BP
variable {K : PySem.W.Frag} {W : WX} {vs : List V} {H : Hp} {Q : VK} {E : XK}
/-! ### texts of pieces, of any things -/
def Tg.among (g : Tg) (a b : Int) : Bool := match g with
  | .int i => decide (a ≤ i) && decide (i ≤ b)
  | _ => false
def amV (a b : Int) : V → Bool
  | .int i => decide (a ≤ i) && decide (i ≤ b)
  | _ => false
theorem amV_of {v : V} {g : Tg} {a b : Int} (h : Th K H v g) : Tg.among g a b = amV a b v := by cases h <;> rfl
def sp_is_among (K : PySem.W.Frag) : Sp := fun vs H Q _ => ∃ (v : V) (g : Tg) (a b : Int), vs = [v, .int a, .int b] ∧ Th K H v g ∧ Q (.bl (Tg.among g a b)) H
theorem len_is_among (h : sp_is_among K vs H Q E) : vs.length = 3 := by
  obtain ⟨v, g, a, b, rfl, _⟩ := h
  rfl
def t_is_among (K : PySem.W.Frag) (W : WX) : TS :=
  (tRet ((tAndV (tCB (rIsi K) (tCons (tVar 0) (tCons (tC (.ty "int")) tNil))) (tAndV (tNotV (tCB (rIsi K) (tCons (tVar 0) (tCons (tC (.ty "bool")) tNil)))) (tChain rLeU rLeU (tVar 1) (tVar 0) (tVar 2))))))
theorem rd_is_among (h : sp_is_among K vs H Q E) : t_is_among K W { nx := fun _ H' => Q .non H', rt := Q } (start ["thing", "least", "most"] vs) H := by
  obtain ⟨v, g, a, b, rfl, hT, q⟩ := h
  have hs := Hs.start H
  unfold t_is_among
  walk_at "go"
  refine c_isiInt hT ?_
  cases hT with
  | int i =>
    have q : Q (.bl (decide (a ≤ i) && decide (i ≤ b))) H := q
    walk_at "go"
    cases e : decide (a ≤ i) with
    | false =>
      rw [e] at q
      walk_at "go"
      exact q
    | true =>
      rw [e] at q
      walk_at "go"
      exact q
  | bl b => walk_at "go"; refine c_isiBool (.bl b) ?_; walk_at "go"; exact q
  | _ => walk_at "go"; exact q
/-- whether a tuple of these is a piece -/
def isPc : List V → Bool
  | [.str k, v] => decide (k = "sign") && byteV v
  | [.str k, b, s] => decide (k = "copy") && (amV 1 255 b && amV 3 18 s)
  | _ => false
theorem byteV_int {v : V} (h : byteV v = true) : ∃ n : Int, v = .int n ∧ 0 ≤ n ∧ n ≤ 255 := by
  cases v with
  | int i =>
    have h : (decide (0 ≤ i) && decide (i ≤ 255)) = true := h
    rw [Bool.and_eq_true, decide_eq_true_eq, decide_eq_true_eq] at h
    exact ⟨i, rfl, h⟩
  | _ => cases h
theorem amV_int {v : V} {a b : Int} (h : amV a b v = true) : ∃ n : Int, v = .int n ∧ a ≤ n ∧ n ≤ b := by
  cases v with
  | int i =>
    have h : (decide (a ≤ i) && decide (i ≤ b)) = true := h
    rw [Bool.and_eq_true, decide_eq_true_eq, decide_eq_true_eq] at h
    exact ⟨i, rfl, h⟩
  | _ => cases h
theorem isPc_of {xs : List V} (h : isPc xs = true) : ∃ c, xs = pcV c ∧ Pc.ok c := by
  unfold isPc at h
  split at h
  · rw [Bool.and_eq_true, decide_eq_true_eq] at h
    obtain ⟨rfl, h⟩ := h
    obtain ⟨n, rfl, a, b⟩ := byteV_int h
    exact ⟨.sign n, rfl, a, b⟩
  · rw [Bool.and_eq_true, Bool.and_eq_true, decide_eq_true_eq] at h
    obtain ⟨rfl, h1, h2⟩ := h
    obtain ⟨n, rfl, a, b⟩ := amV_int h1
    obtain ⟨m, rfl, c, d⟩ := amV_int h2
    refine ⟨.copy n.toNat m.toNat, ?_, ?_⟩
    · show _ = [V.str "copy", V.int ((n.toNat : Nat) : Int), V.int ((m.toNat : Nat) : Int)]
      rw [Int.toNat_of_nonneg (by omega), Int.toNat_of_nonneg (by omega)]
    · show 1 ≤ n.toNat ∧ n.toNat ≤ 255 ∧ 3 ≤ m.toNat ∧ m.toNat ≤ 18
      omega
  · cases h
theorem isPc_pcV {c : Pc} (h : Pc.ok c) : isPc (pcV c) = true := by
  cases c with
  | sign n =>
    obtain ⟨a, b⟩ := h
    show (decide (("sign" : Str) = "sign") && (decide (0 ≤ n) && decide (n ≤ 255))) = true
    rw [decide_eq_true a, decide_eq_true b, decide_eq_true rfl]
    rfl
  | copy b s =>
    obtain ⟨o1, o2, o3, o4⟩ := h
    show (decide (("copy" : Str) = "copy") && ((decide (1 ≤ ((b : Nat) : Int)) && decide (((b : Nat) : Int) ≤ 255)) && (decide (3 ≤ ((s : Nat) : Int)) && decide (((s : Nat) : Int) ≤ 18)))) = true
    rw [decide_eq_true rfl, decide_eq_true (by omega), decide_eq_true (by omega), decide_eq_true (by omega), decide_eq_true (by omega)]
    rfl
theorem isPc_nostr {x : V} {r : List V} (h : ∀ z, x ≠ .str z) : isPc (x :: r) = false := by
  unfold isPc
  split
  · rename_i e
    cases e
    exact absurd rfl (h _)
  · rename_i e
    cases e
    exact absurd rfl (h _)
  · rfl
/-- a thing and whether it is a piece -/
inductive IsPz (K : PySem.W.Frag) (H : Hp) : V → Bool → Prop
  | tup {a : Addr} {xs : List V} : SqT K H a xs → (∀ x ∈ xs, ∃ g, Th K H x g) → IsPz K H (.ref a) (isPc xs)
  | no {v : V} {g : Tg} : Th K H v g → (∀ xs, g ≠ .tup xs) → IsPz K H v false
theorem IsPz.same {H' : Hp} {v : V} {b : Bool} (h : IsPz K H v b) (s : Same H H') : IsPz K H' v b := by
  cases h with
  | tup h t => exact .tup (same_sqt s h) fun x hx => (t x hx).imp fun _ z => z.same s
  | no h t => exact .no (h.same s) t
theorem IsPz.good {t : Addr} {c : Pc} (h : SqT K H t (pcV c)) (o : Pc.ok c) : IsPz K H (.ref t) true := by
  have z := IsPz.tup (K := K) (H := H) h fun x hx => by
    cases c with
    | sign n =>
      simp only [pcV, List.mem_cons, List.not_mem_nil, or_false] at hx
      rcases hx with rfl | rfl
      · exact ⟨_, .str _⟩
      · exact ⟨_, .int _⟩
    | copy b s =>
      simp only [pcV, List.mem_cons, List.not_mem_nil, or_false] at hx
      rcases hx with rfl | rfl | rfl
      · exact ⟨_, .str _⟩
      · exact ⟨_, .int _⟩
      · exact ⟨_, .int _⟩
  rw [isPc_pcV o] at z
  exact z
theorem IsPz.piece {v : V} {b : Bool} (h : IsPz K H v b) (e : b = true) : ∃ t c, v = .ref t ∧ SqT K H t (pcV c) ∧ Pc.ok c := by
  cases h with
  | tup h _ =>
    obtain ⟨c, rfl, o⟩ := isPc_of e
    exact ⟨_, c, rfl, h, o⟩
  | no => cases e
def sp_is_piece (K : PySem.W.Frag) : Sp := fun vs H Q _ => ∃ (v : V) (b : Bool), vs = [v] ∧ IsPz K H v b ∧ Q (.bl b) H
theorem len_is_piece (h : sp_is_piece K vs H Q E) : vs.length = 1 := by
  obtain ⟨v, b, rfl, _⟩ := h
  rfl
def t_is_piece (K : PySem.W.Frag) (W : WX) : TS :=
  (tSeq (tIfS ((tOr (tNot (tB (tCB (rIsi K) (tCons (tVar 0) (tCons (tC (.ty "tuple")) tNil))))) (tOr (tTest (tOp (rEqU K) (tCB (rLenK K) (tCons (tVar 0) tNil)) (tC (.int 0)))) (tNot (tB (tCB (rIsi K) (tCons (tOp (rIx K) (tVar 0) (tC (.int 0))) (tCons (tC (.ty "str")) tNil)))))))) (tRet (tC (.bl false))) tNext)
    (tSeq (tIfS (tTest (tOp (rEqU K) (tOp (rIx K) (tVar 0) (tC (.int 0))) (tC (.str "sign")))) (tRet ((tAndV (tOp (rEqU K) (tCB (rLenK K) (tCons (tVar 0) tNil)) (tC (.int 2))) (tCl (sp_is_byte K) [] W (tCons (tOp (rIx K) (tVar 0) (tC (.int 1))) tNil))))) tNext)
    (tSeq (tIfS ((tOr (tTest (tOp (rNeU K) (tOp (rIx K) (tVar 0) (tC (.int 0))) (tC (.str "copy")))) (tTest (tOp (rNeU K) (tCB (rLenK K) (tCons (tVar 0) tNil)) (tC (.int 3)))))) (tRet (tC (.bl false))) tNext)
    (tRet ((tAndV (tCl (sp_is_among K) [] W (tCons (tOp (rIx K) (tVar 0) (tC (.int 1))) (tCons (tC (.int 1)) (tCons (tC (.int 255)) tNil)))) (tCl (sp_is_among K) [] W (tCons (tOp (rIx K) (tVar 0) (tC (.int 2))) (tCons (tC (.int 3)) (tCons (tC (.int 18)) tNil))))))))))
theorem rd_is_piece (h : sp_is_piece K vs H Q E) : t_is_piece K W { nx := fun _ H' => Q .non H', rt := Q } (start ["thing"] vs) H := by
  obtain ⟨v, b, rfl, hz, q⟩ := h
  have hs := Hs.start H
  unfold t_is_piece
  cases hz with
  | @no _ g hT hn =>
    walk_at "go"
    refine c_isiTup hT ?_
    cases g with
    | tup xs => exact absurd rfl (hn xs)
    | _ => walk_at "go"; exact q
  | @tup a xs hT hx =>
    walk_at "go"
    refine c_isiTup (.tup hT) ?_
    walk_at "go"
    cases xs with
    | nil =>
      walk_at "go"
      exact q
    | cons x r =>
      have hr : ¬ ((((x :: r).length : Nat) : Int) = 0) := by rw [List.length_cons]; omega
      refine i_f (decide_eq_false hr) ?_
      obtain ⟨gx, hgx⟩ := hx x (.head _)
      have i0 : atI (x :: r) 0 = some x := by rw [atI, ixN, if_pos (by decide), if_pos (by rw [List.length_cons]; omega)]; rfl
      walk_at "go"
      refine c_isiStr hgx ?_
      cases hgx with
      | str k =>
        walk_at "go"
        by_cases hk : k = "sign"
        · subst hk
          refine i_t (decide_eq_true rfl) ?_
          walk_at "go"
          match r, hx, hT, q, i0 with
          | [], hx, hT, q, i0 => walk_at "go"; exact q
          | [y], hx, hT, q, i0 =>
            obtain ⟨gy, hgy⟩ := hx y (by simp)
            have i1 : atI [V.str "sign", y] 1 = some y := rfl
            walk_at "go"
            refine ⟨y, gy, rfl, hgy, ?_⟩
            rw [byteV_of hgy]
            exact q
          | [y, z], hx, hT, q, i0 =>
            have q : Q (.bl false) H := q
            walk_at "go"
            exact q
          | y :: z :: w :: t, hx, hT, q, i0 =>
            have q : Q (.bl false) H := q
            refine i_f (decide_eq_false (by simp only [List.length_cons]; omega)) ?_
            walk_at "go"
            exact q
        · refine i_f (decide_eq_false hk) ?_
          walk_at "go"
          by_cases hc : k = "copy"
          · subst hc
            rw [decide_eq_true rfl]
            walk_at "go"
            match r, hx, hT, q, i0 with
            | [], hx, hT, q, i0 => walk_at "go"; exact q
            | [y], hx, hT, q, i0 =>
              have q : Q (.bl false) H := q
              walk_at "go"
              exact q
            | [y, z], hx, hT, q, i0 =>
              have q : Q (.bl (amV 1 255 y && amV 3 18 z)) H := q
              obtain ⟨gy, hgy⟩ := hx y (by simp)
              obtain ⟨gz, hgz⟩ := hx z (by simp)
              have i1 : atI [V.str "copy", y, z] 1 = some y := rfl
              have i2 : atI [V.str "copy", y, z] 2 = some z := rfl
              walk_at "go"
              refine ⟨y, gy, _, _, rfl, hgy, ?_⟩
              rw [amV_of hgy]
              cases e : amV 1 255 y with
              | false =>
                rw [e] at q
                walk_at "go"
                exact q
              | true =>
                rw [e] at q
                walk_at "go"
                refine ⟨z, gz, _, _, rfl, hgz, ?_⟩
                rw [amV_of hgz]
                exact q
            | y :: z :: w :: t, hx, hT, q, i0 =>
              have q : Q (.bl false) H := q
              rw [decide_eq_false (show ¬ ((((V.str "copy" :: y :: z :: w :: t).length : Nat) : Int) = 3) by simp only [List.length_cons]; omega)]
              walk_at "go"
              exact q
          · rw [decide_eq_false hc]
            have q : Q (.bl false) H := by
              have e : isPc (V.str k :: r) = false := by
                unfold isPc
                split
                · rename_i e
                  cases e
                  rw [decide_eq_false hk]
                  rfl
                · rename_i e
                  cases e
                  rw [decide_eq_false hc]
                  rfl
                · rfl
              rw [e] at q
              exact q
            walk_at "go"
            exact q
      | _ =>
        rw [isPc_nostr (fun z e => by cases e)] at q
        walk_at "go"
        exact q
def tells : List Int → List Pc → Option (List Int)
  | l, [] => some l
  | l, .sign n :: r => tells (l ++ [n]) r
  | l, .copy b s :: r => if b ≤ l.length then tells (cpy b s l) r else none
theorem tells_append (b : List Pc) : ∀ (a : List Pc) (l : List Int), tells l (a ++ b) = (tells l a).bind fun m => tells m b
  | [], _ => rfl
  | .sign n :: a, l => tells_append b a (l ++ [n])
  | .copy x y :: a, l => by
    show (if x ≤ l.length then tells (cpy x y l) (a ++ b) else none) = (if x ≤ l.length then tells (cpy x y l) a else none).bind fun m => tells m b
    split
    · exact tells_append b a _
    · rfl
theorem tells_told : ∀ {ps : List Pc} {l : List Int}, Reach l ps → tells l ps = some (told l ps)
  | [], _, _ => rfl
  | .sign n :: r, l, h => tells_told (ps := r) (l := l ++ [n]) h
  | .copy b s :: r, l, h => by
    show (if b ≤ l.length then tells (cpy b s l) r else none) = _
    rw [if_pos h.1]
    exact tells_told (ps := r) h.2
theorem tells_length : ∀ {ps : List Pc} {l t : List Int}, (∀ c ∈ ps, Pc.ok c) → tells l ps = some t → t.length ≤ l.length + 18 * ps.length
  | [], l, t, _, h => by cases h; simp
  | .sign n :: r, l, t, o, h => by
    have z := tells_length (ps := r) (l := l ++ [n]) (fun c hc => o c (.tail _ hc)) h
    rw [List.length_append, List.length_singleton] at z
    rw [List.length_cons]
    omega
  | .copy b s :: r, l, t, o, h => by
    have h : (if b ≤ l.length then tells (cpy b s l) r else none) = some t := h
    split at h
    · have z := tells_length (ps := r) (fun c hc => o c (.tail _ hc)) h
      have oc : 1 ≤ b ∧ b ≤ 255 ∧ 3 ≤ s ∧ s ≤ 18 := o _ (.head _)
      rw [cpy_length] at z
      rw [List.length_cons]
      omega
    · cases h
theorem tells_pre : ∀ {ps : List Pc} {l t : List Int}, tells l ps = some t → ∃ r, t = l ++ r
  | [], l, t, h => by cases h; exact ⟨[], by simp⟩
  | .sign n :: r, l, t, h => by
    obtain ⟨u, rfl⟩ := tells_pre (ps := r) (l := l ++ [n]) h
    exact ⟨[n] ++ u, by rw [List.append_assoc]⟩
  | .copy b s :: r, l, t, h => by
    have h : (if b ≤ l.length then tells (cpy b s l) r else none) = some t := h
    split at h
    · obtain ⟨u, rfl⟩ := tells_pre (ps := r) h
      obtain ⟨v, e⟩ := app_pre l (.copy b s)
      have e : cpy b s l = l ++ v := e
      exact ⟨v ++ u, by rw [e, List.append_assoc]⟩
    · cases h
/-- several things, each with whether it is a piece -/
inductive Pzs (K : PySem.W.Frag) (H : Hp) : List V → List Bool → Prop
  | nil : Pzs K H [] []
  | cons {v : V} {b : Bool} {vs : List V} {bs : List Bool} : IsPz K H v b → Pzs K H vs bs → Pzs K H (v :: vs) (b :: bs)
theorem Pzs.same {H' : Hp} (s : Same H H') : ∀ {xs : List V} {bs : List Bool}, Pzs K H xs bs → Pzs K H' xs bs
  | _, _, .nil => .nil
  | _, _, .cons h t => .cons (h.same s) (t.same s)
theorem Pzs.length : ∀ {xs : List V} {bs : List Bool}, Pzs K H xs bs → xs.length = bs.length
  | _, _, .nil => rfl
  | _, _, .cons _ t => by rw [List.length_cons, List.length_cons, t.length]
theorem Pzs.app : ∀ {xs ys : List V} {bs cs : List Bool}, Pzs K H xs bs → Pzs K H ys cs → Pzs K H (xs ++ ys) (bs ++ cs)
  | _, _, _, _, .nil, u => u
  | _, _, _, _, .cons h t, u => .cons h (t.app u)
theorem Pzs.at : ∀ {pre : List V} {x : V} {post : List V} {bs : List Bool}, Pzs K H (pre ++ x :: post) bs → ∃ b, bs[pre.length]? = some b ∧ IsPz K H x b
  | [], _, _, _, .cons h _ => ⟨_, rfl, h⟩
  | _ :: _, _, _, _, .cons _ t => t.at
theorem Pzs.tups : ∀ {xs : List V} {ps : List Pc}, Tups K H xs (ps.map pcV) → (∀ c ∈ ps, Pc.ok c) → Pzs K H xs (List.replicate ps.length true)
  | _, [], .nil, _ => .nil
  | _, c :: ps, .cons h t, o => .cons (.good h (o c (.head _))) (Pzs.tups t fun d hd => o d (.tail _ hd))
theorem Pzs.all : ∀ {xs : List V} {bs : List Bool}, Pzs K H xs bs → bs.all id = true → ∃ ps : List Pc, Tups K H xs (ps.map pcV) ∧ ∀ c ∈ ps, Pc.ok c
  | _, _, .nil, _ => ⟨[], .nil, fun _ h => nomatch h⟩
  | _, _, .cons h t, e => by
    rw [List.all_cons, Bool.and_eq_true] at e
    obtain ⟨u, c, rfl, h2, o⟩ := h.piece e.1
    obtain ⟨ps, h3, o3⟩ := t.all e.2
    exact ⟨c :: ps, .cons h2 h3, fun d hd => by
      rcases List.mem_cons.mp hd with rfl | hd
      · exact o
      · exact o3 d hd⟩
/-- what is handed to text_of: its pieces, if it is a list of such -/
inductive PT (K : PySem.W.Frag) (H : Hp) : V → Option (List Pc) → Prop
  | good {a : Addr} {xs : List V} {ps : List Pc} : SqL K H a xs → Tups K H xs (ps.map pcV) → (∀ c ∈ ps, Pc.ok c) → ps.length ≤ 5000 → PT K H (.ref a) (some ps)
  | odd {a : Addr} {xs : List V} {bs : List Bool} : SqL K H a xs → Pzs K H xs bs → bs.all id = false → xs.length ≤ 5000 → PT K H (.ref a) none
  | no {v : V} {g : Tg} : Th K H v g → (∀ xs, g ≠ .lst xs) → PT K H v none
theorem PT.same {H' : Hp} {v : V} {o : Option (List Pc)} (h : PT K H v o) (s : Same H H') : PT K H' v o := by
  cases h with
  | good a b c d => exact .good (s.seq a) (b.same s) c d
  | odd a b c d => exact .odd (s.seq a) (b.same s) c d
  | no a b => exact .no (a.same s) b
def textR (ws : List Int) (o : Option (List Pc)) : Option (List Int) := o.bind fun ps => (tells ws ps).map fun ts => ts.drop ws.length
def sp_text_of (K : PySem.W.Frag) : Sp := fun vs H Q E => ∃ (v w : V) (o : Option (List Pc)) (k : Tg), vs = [v, w] ∧ PT K H v o ∧ Th K H w k ∧ Tg.ok K H k ∧
  (Tg.isWin k = false → ∀ H', Same H H' → E (.ref (He.ga K "BadRow")) none H') ∧
  (∀ ws : List Int, Tg.isWin k = true → Tg.items k = ws.map V.int → (∀ ts, textR ws o = some ts → RetL H Q (ts.map V.int)) ∧ (textR ws o = none → ∀ H', Same H H' → E (.ref (He.ga K "BadPieces")) none H'))
theorem len_text_of (h : sp_text_of K vs H Q E) : vs.length = 2 := by
  obtain ⟨v, w, o, k, rfl, _⟩ := h
  rfl
def t_text_of (K : PySem.W.Frag) (W : WX) : TS :=
  (tSeq (tAsg (tCl (sp_need_window K) [] W (tCons (tVar 1) tNil)) (gName 2))
    (tSeq (tAsg (tCB (rLenK K) (tCons (tVar 2) tNil)) (gName 3))
    (tSeq (tIfS ((tOr (tNot (tB (tCB (rIsi K) (tCons (tVar 0) (tCons (tC (.ty "list")) tNil))))) (tNot (tB (tCB (rAll K) (tCons (tLc (iList K (tVar 0)) (gName 6) tYes (tCl (sp_is_piece K) [] WF (tCons (tVar 6) tNil)) [6]) tNil)))))) (tRz (He.ga K "BadPieces") W) tNext)
    (tSeq (tFor (iList K (tVar 0)) (gName 4) (tSeq (tIfS (tTest (tOp (rEqU K) (tOp (rIx K) (tVar 4) (tC (.int 0))) (tC (.str "sign")))) (tSeq (tDrop (tBM K "list" rAppend (tVar 2) (tCons (tOp (rIx K) (tVar 4) (tC (.int 1))) tNil)))
    (tCont)) tNext)
    (tSeq (tIfS (tTest (tOp rGtU (tOp (rIx K) (tVar 4) (tC (.int 1))) (tCB (rLenK K) (tCons (tVar 2) tNil)))) (tRz (He.ga K "BadPieces") W) tNext)
    (tFor (iRng1 (tCons (tOp (rIx K) (tVar 4) (tC (.int 2))) tNil)) (gName 5) (tDrop (tBM K "list" rAppend (tVar 2) (tCons (tOp (rIx K) (tVar 2) (tOp rSubU (tCB (rLenK K) (tCons (tVar 2) tNil)) (tOp (rIx K) (tVar 4) (tC (.int 1))))) tNil)))))))
    (tRet (tSl (rSlK K) (tVar 2) (tPart (tVar 3)) tNoPart))))))
theorem rd_text_of (h : sp_text_of K vs H Q E) : t_text_of K (fun c d _ H2 => E c d H2) { nx := fun _ H' => Q .non H', rt := Q } (start ["pieces", "before", "signs", "begin", "piece", "turn", "one"] vs) H := by
  obtain ⟨v, w, o, k, rfl, hP, hw1, hw2, qr, qt⟩ := h
  have hs := Hs.start H
  unfold t_text_of
  walk_at "go"
  refine ⟨w, k, rfl, hw1, hw2, fun hw3 => ?_, qr⟩
  obtain ⟨ws, e', hb', hl'⟩ := win_ints hw3
  obtain ⟨qg, qb⟩ := qt ws hw3 e'
  clear qr qt
  rw [e']
  refine retL hs fun s H1 h1 => ?_
  obtain ⟨g, hT, hn, rfl⟩ | ⟨a, xs, bs, rfl, hS, hz, hxl, hy⟩ : (∃ g, Th K H v g ∧ (∀ xs, g ≠ .lst xs) ∧ o = none) ∨ ∃ (a : Addr) (xs : List V) (bs : List Bool), v = .ref a ∧ SqL K H a xs ∧ Pzs K H xs bs ∧ xs.length ≤ 5000 ∧ (bs.all id = true → ∃ ps, o = some ps ∧ Tups K H xs (ps.map pcV) ∧ ∀ c ∈ ps, Pc.ok c) ∧ (bs.all id = false → o = none) := by
    cases hP with
    | no a b => exact .inl ⟨_, a, b, rfl⟩
    | good a b c d => exact .inr ⟨_, _, _, rfl, a, .tups b c, (by rw [b.length, List.length_map]; exact d), (fun _ => ⟨_, rfl, b, c⟩), fun z => by simp at z⟩
    | odd a b c d => exact .inr ⟨_, _, _, rfl, a, b, d, (fun z => by rw [c] at z; cases z), fun _ => rfl⟩
  · walk_at "go"
    refine c_isiList (hT.same h1.ex) ?_
    cases g with
    | lst xs => exact absurd rfl (hn xs)
    | _ => walk_at "go"; exact qb rfl _ h1.ex
  have hS1 := h1.bl hS
  walk_at "go"
  refine c_isiList (.lst hS1) ?_
  walk_at "go"
  refine c_lcL id xs (fun pre acc B' => acc = (bs.take pre.length).map V.bl ∧ B' = H) h1 ⟨rfl, rfl⟩ (fun B' H' e h => by rw [List.map_id]; exact (e.trans h.ex).seq hS) ?_ ?_
  · rintro pre v post acc B' D H' e ⟨rfl, rfl⟩ _ h
    subst e
    obtain ⟨b, hb, hz1⟩ := hz.at
    rw [id_eq]
    walk_at "go"
    refine ⟨rfl, ?_⟩
    walk_at "go"
    refine ⟨v, b, rfl, hz1.same h.ex, ?_⟩
    have hpl : pre.length < 5000 := by rw [List.length_append, List.length_cons] at hxl; omega
    refine c_item h (small5 (by rw [List.length_map, List.length_take]; omega)) (Same.refl _) ⟨?_, rfl⟩
    rw [List.length_append, List.length_singleton, List.take_add_one, hb, List.map_append]
    rfl
  · rintro acc B' D H2 ⟨rfl, rfl⟩ _ h2
    rw [hz.length, List.take_of_length_le (Nat.le_refl _)] at h2
    walk_at "go"
    refine c_all (h2.sql (.head _)) ?_
    have h3 := h2.drop
    clear h2
    cases eb : bs.all id with
    | false =>
      walk_at "go"
      exact qb (by rw [hy.2 eb]; rfl) _ h3.ex
    | true =>
    obtain ⟨ps, rfl, hT, ho⟩ := hy.1 eb
    have hxp : xs.length = ps.length := by rw [hT.length, List.length_map]
    walk_at "go"
    rw [List.length_map]
    refine w_forL id xs (fun pre σ' L' B'' => ∃ (cur : List Int) (w4 w5 : Option V), tells ws (ps.take pre.length) = some cur ∧ σ' = [some (.ref a), some w, some (.ref s), some (.int ((ws.length : Nat) : Int)), w4, w5, none] ∧ B'' = B' ∧ L' = [(s, .lst (cur.map V.int))]) h3 ⟨ws, none, none, rfl, rfl, rfl, rfl⟩ ?_ ?_ ?_
    · rintro pre post σ' L' B'' H' _ ⟨_, w4, w5, _, _, rfl, rfl⟩ h
      rw [List.map_id]
      exact h.bl hS
    · rintro pre v post σ' L' B'' H' e ⟨cur, w4, w5, ht, rfl, rfl, rfl⟩ h
      obtain ⟨t, c, rfl, hc, htc⟩ := tups_W hT e
      have ht' := h.bt htc
      have htl := tells_length (fun x hx => ho x (List.mem_of_mem_take hx)) ht
      rw [List.length_take] at htl
      have hsp := (take_split hc).1
      rw [id_eq]
      cases c with
      | sign n =>
        walk_at "go"
        refine c_app0 h (small6 (by rw [List.length_map]; omega)) fun H4 h4 => ?_
        walk_at "go"
        refine ⟨_, _, ⟨cur ++ [n], _, _, ?_, rfl, rfl, ?_⟩, h4⟩
        · rw [List.length_append, List.length_singleton, List.take_add_one, hc, tells_append, ht]
          rfl
        · rw [List.map_append]
          rfl
      | copy b z =>
        have hok := ho _ (List.mem_of_getElem? hc)
        have hz := hok.2.2.2
        have hb1 := hok.1
        walk_at "go"
        rw [List.length_map]
        by_cases hre : b ≤ cur.length
        · refine i_f (decide_eq_false (by omega)) ?_
          walk_at "go"
          refine ⟨((z : Nat) : Int), rfl, by omega, by omega, ?_⟩
          rw [Int.toNat_natCast]
          refine w_forR (fun i σ' L' B2 => ∃ w5, σ' = [some (.ref a), some w, some (.ref s), some (.int ((ws.length : Nat) : Int)), some (.ref t), w5, none] ∧ B2 = B'' ∧ L' = [(s, .lst ((cpy b i cur).map V.int))]) h ⟨_, rfl, rfl, rfl⟩ ?_ ?_
          · rintro i σ' L' B2 H4 hi ⟨w5, rfl, rfl, rfl⟩ h4
            have ht4 := h4.bt htc
            have hcl := cpy_length b i cur
            walk_at "go"
            rw [List.length_map]
            refine c_ixL (h4.sql (.head _)) (at_i (k := (cpy b i cur).length - b) (by omega) (by omega)) ?_
            walk_at "go"
            refine c_app0 h4 (small6 (by rw [List.length_map]; omega)) fun H5 h5 => ?_
            walk_at "go"
            refine ⟨_, _, ⟨_, rfl, rfl, ?_⟩, h5⟩
            rw [cpy_succ, List.map_append]
            rfl
          · rintro σ' L' B2 H4 ⟨w5, rfl, rfl, rfl⟩ h4
            refine ⟨_, _, ⟨_, _, _, ?_, rfl, rfl, rfl⟩, h4⟩
            rw [List.length_append, List.length_singleton, List.take_add_one, hc, tells_append, ht]
            show (if b ≤ cur.length then some (cpy b z cur) else none) = _
            rw [if_pos hre]
        · refine i_t (decide_eq_true (by omega)) ?_
          walk_at "go"
          refine qb ?_ _ h.ex
          have e2 : tells ws ps = none := by
            rw [hsp, tells_append, ht]
            show (if b ≤ cur.length then _ else none) = none
            rw [if_neg hre]
          show (tells ws ps).map _ = none
          rw [e2]
          rfl
    · rintro σ' L' B'' H4 ⟨cur, w4, w5, ht, rfl, rfl, rfl⟩ h4
      rw [hxp, List.take_of_length_le (Nat.le_refl _)] at ht
      walk_at "go"
      rename_i p H5 h5
      rw [cut_drop] at h5
      refine h5.rl (.head _) (qg _ ?_)
      show (tells ws ps).map _ = _
      rw [ht]
      rfl
end L2.BR

namespace L2.BR
open PySem PySem.Spec PyProof.Rows L2.BP
variable {K : PySem.W.Frag}
structure KWBadRow (K : PySem.W.Frag) : Prop where
  x : ExcC K (He.ga K "BadRow")
  p : PySem.W.exmOne K (.ref (He.ga K "BadRow")) (.ref (He.ga K "PressError")) = some true
  v : PySem.W.kitOne K (.ref (He.ga K "BadRow")) (.type "ValueError") = some true
  f0 : PySem.W.kitOne K (.ref (He.ga K "BadRow")) (.ref (He.ga K "BadRow")) = some true
  f1 : PySem.W.kitOne K (.ref (He.ga K "BadRow")) (.ref (He.ga K "BadBits")) = some false
  f2 : PySem.W.kitOne K (.ref (He.ga K "BadRow")) (.ref (He.ga K "NoBits")) = some false
  f3 : PySem.W.kitOne K (.ref (He.ga K "BadRow")) (.ref (He.ga K "BadShares")) = some false
  f4 : PySem.W.kitOne K (.ref (He.ga K "BadRow")) (.ref (He.ga K "BadLengths")) = some false
  f5 : PySem.W.kitOne K (.ref (He.ga K "BadRow")) (.ref (He.ga K "BadCode")) = some false
  f6 : PySem.W.kitOne K (.ref (He.ga K "BadRow")) (.ref (He.ga K "BadTable")) = some false
  f7 : PySem.W.kitOne K (.ref (He.ga K "BadRow")) (.ref (He.ga K "Cut")) = some false
  f8 : PySem.W.kitOne K (.ref (He.ga K "BadRow")) (.ref (He.ga K "BadPieces")) = some false
  f9 : PySem.W.kitOne K (.ref (He.ga K "BadRow")) (.ref (He.ga K "BadBody")) = some false
  f10 : PySem.W.kitOne K (.ref (He.ga K "BadRow")) (.ref (He.ga K "BadHead")) = some false
  f11 : PySem.W.kitOne K (.ref (He.ga K "BadRow")) (.ref (He.ga K "BadCheck")) = some false
  f12 : PySem.W.kitOne K (.ref (He.ga K "BadRow")) (.ref (He.ga K "BadMark")) = some false
  f13 : PySem.W.kitOne K (.ref (He.ga K "BadRow")) (.ref (He.ga K "BadTail")) = some false
  f14 : PySem.W.kitOne K (.ref (He.ga K "BadRow")) (.ref (He.ga K "Behind")) = some false
  f15 : PySem.W.kitOne K (.ref (He.ga K "BadRow")) (.ref (He.ga K "Over")) = some false
  f16 : PySem.W.kitOne K (.ref (He.ga K "BadRow")) (.ref (He.ga K "NoRange")) = some false
  f17 : PySem.W.kitOne K (.ref (He.ga K "BadRow")) (.ref (He.ga K "BadLetters")) = some false
theorem KWBadRow.word (k : KWBadRow K) : WordOf K (He.ga K "BadRow") "row" := by
  refine ⟨k.x, k.v, fun p m => ?_, by decide +kernel⟩
  simp only [wordL, List.mem_cons, List.not_mem_nil, or_false] at m
  rcases m with rfl | rfl | rfl | rfl | rfl | rfl | rfl | rfl | rfl | rfl | rfl | rfl | rfl | rfl | rfl | rfl | rfl | rfl
  · rw [show decide (("row" : Str) = "row") = true by decide +kernel]
    exact k.f0
  · rw [show decide (("bits" : Str) = "row") = false by decide +kernel]
    exact k.f1
  · rw [show decide (("nobits" : Str) = "row") = false by decide +kernel]
    exact k.f2
  · rw [show decide (("shares" : Str) = "row") = false by decide +kernel]
    exact k.f3
  · rw [show decide (("lengths" : Str) = "row") = false by decide +kernel]
    exact k.f4
  · rw [show decide (("code" : Str) = "row") = false by decide +kernel]
    exact k.f5
  · rw [show decide (("table" : Str) = "row") = false by decide +kernel]
    exact k.f6
  · rw [show decide (("cut" : Str) = "row") = false by decide +kernel]
    exact k.f7
  · rw [show decide (("pieces" : Str) = "row") = false by decide +kernel]
    exact k.f8
  · rw [show decide (("body" : Str) = "row") = false by decide +kernel]
    exact k.f9
  · rw [show decide (("head" : Str) = "row") = false by decide +kernel]
    exact k.f10
  · rw [show decide (("check" : Str) = "row") = false by decide +kernel]
    exact k.f11
  · rw [show decide (("mark" : Str) = "row") = false by decide +kernel]
    exact k.f12
  · rw [show decide (("tail" : Str) = "row") = false by decide +kernel]
    exact k.f13
  · rw [show decide (("behind" : Str) = "row") = false by decide +kernel]
    exact k.f14
  · rw [show decide (("over" : Str) = "row") = false by decide +kernel]
    exact k.f15
  · rw [show decide (("range" : Str) = "row") = false by decide +kernel]
    exact k.f16
  · rw [show decide (("letters" : Str) = "row") = false by decide +kernel]
    exact k.f17
end L2.BR

namespace L2.BR
open PySem PySem.Spec PyProof.Rows L2.BP
variable {K : PySem.W.Frag}
structure KWBadPieces (K : PySem.W.Frag) : Prop where
  x : ExcC K (He.ga K "BadPieces")
  p : PySem.W.exmOne K (.ref (He.ga K "BadPieces")) (.ref (He.ga K "PressError")) = some true
  v : PySem.W.kitOne K (.ref (He.ga K "BadPieces")) (.type "ValueError") = some true
  f0 : PySem.W.kitOne K (.ref (He.ga K "BadPieces")) (.ref (He.ga K "BadRow")) = some false
  f1 : PySem.W.kitOne K (.ref (He.ga K "BadPieces")) (.ref (He.ga K "BadBits")) = some false
  f2 : PySem.W.kitOne K (.ref (He.ga K "BadPieces")) (.ref (He.ga K "NoBits")) = some false
  f3 : PySem.W.kitOne K (.ref (He.ga K "BadPieces")) (.ref (He.ga K "BadShares")) = some false
  f4 : PySem.W.kitOne K (.ref (He.ga K "BadPieces")) (.ref (He.ga K "BadLengths")) = some false
  f5 : PySem.W.kitOne K (.ref (He.ga K "BadPieces")) (.ref (He.ga K "BadCode")) = some false
  f6 : PySem.W.kitOne K (.ref (He.ga K "BadPieces")) (.ref (He.ga K "BadTable")) = some false
  f7 : PySem.W.kitOne K (.ref (He.ga K "BadPieces")) (.ref (He.ga K "Cut")) = some false
  f8 : PySem.W.kitOne K (.ref (He.ga K "BadPieces")) (.ref (He.ga K "BadPieces")) = some true
  f9 : PySem.W.kitOne K (.ref (He.ga K "BadPieces")) (.ref (He.ga K "BadBody")) = some false
  f10 : PySem.W.kitOne K (.ref (He.ga K "BadPieces")) (.ref (He.ga K "BadHead")) = some false
  f11 : PySem.W.kitOne K (.ref (He.ga K "BadPieces")) (.ref (He.ga K "BadCheck")) = some false
  f12 : PySem.W.kitOne K (.ref (He.ga K "BadPieces")) (.ref (He.ga K "BadMark")) = some false
  f13 : PySem.W.kitOne K (.ref (He.ga K "BadPieces")) (.ref (He.ga K "BadTail")) = some false
  f14 : PySem.W.kitOne K (.ref (He.ga K "BadPieces")) (.ref (He.ga K "Behind")) = some false
  f15 : PySem.W.kitOne K (.ref (He.ga K "BadPieces")) (.ref (He.ga K "Over")) = some false
  f16 : PySem.W.kitOne K (.ref (He.ga K "BadPieces")) (.ref (He.ga K "NoRange")) = some false
  f17 : PySem.W.kitOne K (.ref (He.ga K "BadPieces")) (.ref (He.ga K "BadLetters")) = some false
theorem KWBadPieces.word (k : KWBadPieces K) : WordOf K (He.ga K "BadPieces") "pieces" := by
  refine ⟨k.x, k.v, fun p m => ?_, by decide +kernel⟩
  simp only [wordL, List.mem_cons, List.not_mem_nil, or_false] at m
  rcases m with rfl | rfl | rfl | rfl | rfl | rfl | rfl | rfl | rfl | rfl | rfl | rfl | rfl | rfl | rfl | rfl | rfl | rfl
  · rw [show decide (("row" : Str) = "pieces") = false by decide +kernel]
    exact k.f0
  · rw [show decide (("bits" : Str) = "pieces") = false by decide +kernel]
    exact k.f1
  · rw [show decide (("nobits" : Str) = "pieces") = false by decide +kernel]
    exact k.f2
  · rw [show decide (("shares" : Str) = "pieces") = false by decide +kernel]
    exact k.f3
  · rw [show decide (("lengths" : Str) = "pieces") = false by decide +kernel]
    exact k.f4
  · rw [show decide (("code" : Str) = "pieces") = false by decide +kernel]
    exact k.f5
  · rw [show decide (("table" : Str) = "pieces") = false by decide +kernel]
    exact k.f6
  · rw [show decide (("cut" : Str) = "pieces") = false by decide +kernel]
    exact k.f7
  · rw [show decide (("pieces" : Str) = "pieces") = true by decide +kernel]
    exact k.f8
  · rw [show decide (("body" : Str) = "pieces") = false by decide +kernel]
    exact k.f9
  · rw [show decide (("head" : Str) = "pieces") = false by decide +kernel]
    exact k.f10
  · rw [show decide (("check" : Str) = "pieces") = false by decide +kernel]
    exact k.f11
  · rw [show decide (("mark" : Str) = "pieces") = false by decide +kernel]
    exact k.f12
  · rw [show decide (("tail" : Str) = "pieces") = false by decide +kernel]
    exact k.f13
  · rw [show decide (("behind" : Str) = "pieces") = false by decide +kernel]
    exact k.f14
  · rw [show decide (("over" : Str) = "pieces") = false by decide +kernel]
    exact k.f15
  · rw [show decide (("range" : Str) = "pieces") = false by decide +kernel]
    exact k.f16
  · rw [show decide (("letters" : Str) = "pieces") = false by decide +kernel]
    exact k.f17
end L2.BR

namespace L2.BR
open PySem PySem.Spec PyProof.Rows L2.BP
variable {K : PySem.W.Frag} {W : WX} {vs : List V} {H : Hp} {Q : VK} {E : XK}
theorem c_rep01 {B : Hp} {L : Pic} {p : Addr} {v : V} {b : Bool} (h : Hs B L H) (hx : H p = some (.lst [v])) (k : ∀ l H', Hs B ((l, .lst (if b = true then [v] else [])) :: L) H' → Q (.ref l) H') : rMulU (.ref p) (.int (if b = true then 1 else 0)) H Q := by
  cases b with
  | true => exact c_rep h hx (by decide) (by decide) (small6' (by rw [List.length_singleton]; decide)) k
  | false => exact c_rep h hx (by decide) (by decide) (small6' (by rw [List.length_singleton]; decide)) k
def sp__law_word (K : PySem.W.Frag) : SpE := fun a cls d vs H Q _ => ∃ (D : Addr) (w : Str), cls = .ref D ∧ d = none ∧ vs = [.ref a] ∧ WordOf K D w ∧ (w = "pieces" ∨ w = "row") ∧ RetL H Q [.str w]
theorem len__law_word {a : Addr} {cls : Value} {d : Option Addr} (h : sp__law_word K a cls d vs H Q E) : vs.length = 1 := by
  obtain ⟨D, w, _, _, rfl, _⟩ := h
  rfl
def t__law_word (K : PySem.W.Frag) (a : Addr) (cls : Value) (d : Option Addr) : TS :=
  (tSeq (tIfS (tB (tCB (rIsXT K a cls d) (tCons (tVar 0) (tCons (tTup (tCons (tC (.ref (He.ga K "BadBits"))) (tCons (tC (.ref (He.ga K "BadBody"))) (tCons (tC (.ref (He.ga K "BadCheck"))) (tCons (tC (.ref (He.ga K "BadCode"))) (tCons (tC (.ref (He.ga K "BadHead"))) (tCons (tC (.ref (He.ga K "BadLengths"))) (tCons (tC (.ref (He.ga K "BadLetters"))) (tCons (tC (.ref (He.ga K "BadMark"))) (tCons (tC (.ref (He.ga K "BadShares"))) tNil)))))))))) tNil)))) (tRet (tLst (tCons (tC (.str "another")) tNil))) tNext)
    (tSeq (tIfS (tB (tCB (rIsXT K a cls d) (tCons (tVar 0) (tCons (tTup (tCons (tC (.ref (He.ga K "BadTable"))) (tCons (tC (.ref (He.ga K "BadTail"))) (tCons (tC (.ref (He.ga K "Behind"))) (tCons (tC (.ref (He.ga K "Cut"))) (tCons (tC (.ref (He.ga K "NoBits"))) (tCons (tC (.ref (He.ga K "NoRange"))) (tCons (tC (.ref (He.ga K "Over"))) tNil)))))))) tNil)))) (tRet (tLst (tCons (tC (.str "another")) tNil))) tNext)
    (tSeq (tAsg (tOp rAddU (tOp rMulU (tLst (tCons (tC (.str "pieces")) tNil)) (tCB (rIntK) (tCons (tCB (rIsX K a cls d) (tCons (tVar 0) (tCons (tC (.ref (He.ga K "BadPieces"))) tNil))) tNil))) (tOp rMulU (tLst (tCons (tC (.str "row")) tNil)) (tCB (rIntK) (tCons (tCB (rIsX K a cls d) (tCons (tVar 0) (tCons (tC (.ref (He.ga K "BadRow"))) tNil))) tNil)))) (gName 1))
    (tRet (tOp rAddU (tVar 1) (tOp rMulU (tLst (tCons (tC (.str "bare")) tNil)) (tCB (rIntK) (tCons (tNotV (tCB (rIsX K a cls d) (tCons (tVar 0) (tCons (tC (.ty "ValueError")) tNil)))) tNil))))))))
theorem rd__law_word {a : Addr} {cls : Value} {d : Option Addr} (h : sp__law_word K a cls d vs H Q E) : t__law_word K a cls d { nx := fun _ H' => Q .non H', rt := Q } (start ["_law_e", "_law_found"] vs) H := by
  obtain ⟨D, w, rfl, rfl, rfl, W, hw, q⟩ := h
  have hs := Hs.start H
  unfold t__law_word
  walk_at "go"
  rename_i t1 H1 h1
  refine c_isXT W [("bits", "BadBits"), ("body", "BadBody"), ("check", "BadCheck"), ("code", "BadCode"), ("head", "BadHead"), ("lengths", "BadLengths"), ("letters", "BadLetters"), ("mark", "BadMark"), ("shares", "BadShares")] (by decide) (h1.get (.head _)) ?_
  rw [show (List.any [(("bits" : Str), ("BadBits" : Str)), ("body", "BadBody"), ("check", "BadCheck"), ("code", "BadCode"), ("head", "BadHead"), ("lengths", "BadLengths"), ("letters", "BadLetters"), ("mark", "BadMark"), ("shares", "BadShares")] fun p => decide (p.1 = w)) = false by rcases hw with rfl | rfl <;> decide +kernel]
  have h1 := h1.drop
  walk_at "go"
  rename_i t2 H2 h2
  refine c_isXT W [("table", "BadTable"), ("tail", "BadTail"), ("behind", "Behind"), ("cut", "Cut"), ("nobits", "NoBits"), ("range", "NoRange"), ("over", "Over")] (by decide) (h2.get (.head _)) ?_
  rw [show (List.any [(("table" : Str), ("BadTable" : Str)), ("tail", "BadTail"), ("behind", "Behind"), ("cut", "Cut"), ("nobits", "NoBits"), ("range", "NoRange"), ("over", "Over")] fun p => decide (p.1 = w)) = false by rcases hw with rfl | rfl <;> decide +kernel]
  have h2 := h2.drop
  walk_at "go"
  refine c_isXw W (u := "pieces") (by decide) ?_
  walk_at "go"
  rename_i a1 G1 g1
  refine c_rep01 g1 (g1.get (.head _)) fun l1 G2 g2 => ?_
  walk_at "go"
  refine c_isXw W (u := "row") (by decide) ?_
  walk_at "go"
  rename_i a2 G3 g3
  refine c_rep01 g3 (g3.get (.head _)) fun l2 G4 g4 => ?_
  refine c_addL g4 (g4.get (.tail _ (.tail _ (.head _)))) (g4.get (.head _)) (small6' (by rcases hw with rfl | rfl <;> decide +kernel)) fun l3 G5 g5 => ?_
  have e : (if (decide (("pieces" : Str) = w)) = true then [V.str "pieces"] else []) ++ (if (decide (("row" : Str) = w)) = true then [V.str "row"] else []) = [V.str w] := by rcases hw with rfl | rfl <;> decide +kernel
  rw [e] at g5
  have g6 := g5.drop1.drop1.drop1.drop1
  clear g1 g2 g3 g4 g5
  walk_at "go"
  refine c_isXv W.x W.v ?_
  walk_at "go"
  rename_i a3 G7 g7
  refine c_rep01 (b := false) g7 (g7.get (.head _)) fun l4 G8 g8 => ?_
  refine c_addL g8 (g8.get (.tail _ (.tail _ (.head _)))) (g8.get (.head _)) (small6' (by rw [List.length_singleton]; decide)) fun l5 G9 g9 => ?_
  walk_at "go"
  exact g9.rl (.head _) q
/-- refused with the word w -/
def Rf (K : PySem.W.Frag) (H : Hp) (Q : VK) (w : Str) : Prop := ∀ H' t l, Same H H' → SqT K H' t [.str "refused", .ref l] → SqL K H' l [.str w] → Q (.ref t) H'
theorem od_rf {t l : Addr} {w : Str} (hw : SeqAt.shaped (.str w) = true) (hT : SqT K H t [.str "refused", .ref l]) (hL : SqL K H l [.str w]) : OD K H 3 (.ref t) := by
  refine .tup hT (.cons (.flat (by decide +kernel)) (.one (.lst hL (.one ⟨_, .str _, ?_, by simp [PyData.depth]⟩))))
  unfold SeqAt.shaped at hw
  rw [Bool.and_eq_true] at hw
  exact hw.1
def rfD (w : Str) : PyData := .tuple [.str "refused", .list [.str w]]
theorem dp_rf {t l : Addr} {w : Str} (hT : SqT K H t [.str "refused", .ref l]) (hL : SqL K H l [.str w]) : Dp K H (.ref t) (rfD w) := .tup hT (.cons (.str _) (.cons (.lst hL (.cons (.str _) .nil)) .nil))
theorem rf_ok {w : Str} (hw : w = "pieces" ∨ w = "row") : SeqAt.shaped (rfD w) = true ∧ PyData.eqv (rfD w) (rfD w) = true := by
  have h : SeqAt.shaped (rfD w) = true := by rcases hw with rfl | rfl <;> decide +kernel
  refine ⟨h, eqvS ?_⟩
  unfold SeqAt.shaped at h
  rw [Bool.and_eq_true] at h
  exact h.1
theorem c_neRf {t l t2 l2 : Addr} {w : Str} (hw : w = "pieces" ∨ w = "row") (hT : SqT K H t [.str "refused", .ref l]) (hL : SqL K H l [.str w]) (hT2 : SqT K H t2 [.str "refused", .ref l2]) (hL2 : SqL K H l2 [.str w]) (k : Q (.bl false) H) : rNeU K (.ref t) (.ref t2) H Q := by
  refine c_neD (dp_rf hT hL) (dp_rf hT2 hL2) (rf_ok hw).1 (rf_ok hw).1 ?_
  rw [(rf_ok hw).2]
  exact k
theorem c_eqRf {t l t2 l2 : Addr} {w : Str} (hw : w = "pieces" ∨ w = "row") (hT : SqT K H t [.str "refused", .ref l]) (hL : SqL K H l [.str w]) (hT2 : SqT K H t2 [.str "refused", .ref l2]) (hL2 : SqL K H l2 [.str w]) (k : Q (.bl true) H) : rEqU K (.ref t) (.ref t2) H Q := by
  refine c_eqD (dp_rf hT hL) (dp_rf hT2 hL2) (rf_ok hw).1 (rf_ok hw).1 ?_
  rw [(rf_ok hw).2]
  exact k
def sp__law_told (K : PySem.W.Frag) : Sp := fun vs H Q _ => ∃ (v w : V) (o : Option (List Pc)) (k : Tg), vs = [v, w] ∧ PT K H v o ∧ Th K H w k ∧ Tg.ok K H k ∧
  (Tg.isWin k = false → Rf K H Q "row") ∧
  (∀ ws : List Int, Tg.isWin k = true → Tg.items k = ws.map V.int → (∀ ts, textR ws o = some ts → RetL H Q (ts.map V.int)) ∧ (textR ws o = none → Rf K H Q "pieces"))
theorem len__law_told (h : sp__law_told K vs H Q E) : vs.length = 2 := by
  obtain ⟨v, w, o, k, rfl, _⟩ := h
  rfl
def t__law_told (K : PySem.W.Frag) (W : WX) : TS :=
  (tTryAs K (.ref (He.ga K "PressError")) 2 (fun W => (tRet (tCl (sp_text_of K) [] W (tCons (tVar 0) (tCons (tVar 1) tNil)))))
    (fun a cls d => (tRet (tTup (tCons (tC (.str "refused")) (tCons (tClE a cls d (sp__law_word K) (tCons (tVar 2) tNil)) tNil))))) W)
theorem rd__law_told (kWBadRow : KWBadRow K) (kWBadPieces : KWBadPieces K) (h : sp__law_told K vs H Q E) : t__law_told K (fun c d _ H2 => E c d H2) { nx := fun _ H' => Q .non H', rt := Q } (start ["_law_pieces", "_law_before", "_law_e"] vs) H := by
  obtain ⟨v, w, o, k, rfl, hP, hw1, hw2, qr, qt⟩ := h
  have hs := Hs.start H
  unfold t__law_told
  walk_at "go"
  refine w_tryAs ?_
  walk_at "go"
  refine ⟨v, w, o, k, rfl, hP, hw1, hw2, fun hw3 H1 e1 => ?_, fun ws a b => ⟨fun ts e => (qt ws a b).1 ts e, fun e H1 e1 => ?_⟩⟩
  · have qr := qr hw3
    refine c_wAs kWBadRow.p fun ea hea => ?_
    have h1 := Hs.start H1
    walk_at "go"
    refine c_clE ?_
    walk_at "go"
    refine ⟨_, _, rfl, rfl, rfl, kWBadRow.word, .inr rfl, retL h1 fun l H2 h2 => ?_⟩
    walk_at "go"
    rename_i t H3 h3
    exact qr H3 t l (e1.trans h3.ex) (h3.sqt (.head _)) (h3.sql (.tail _ (.head _)))
  · have qp := (qt ws a b).2 e
    refine c_wAs kWBadPieces.p fun ea hea => ?_
    have h1 := Hs.start H1
    walk_at "go"
    refine c_clE ?_
    walk_at "go"
    refine ⟨_, _, rfl, rfl, rfl, kWBadPieces.word, .inl rfl, retL h1 fun l H2 h2 => ?_⟩
    walk_at "go"
    rename_i t H3 h3
    exact qp H3 t l (e1.trans h3.ex) (h3.sqt (.head _)) (h3.sql (.tail _ (.head _)))
/-- pieces are told, in a list -/
def RetP (K : PySem.W.Frag) (H : Hp) (Q : VK) (ps : List Pc) : Prop := ∀ p xs H', Same H H' → H' p = some (.lst xs) → Tups K H' xs (ps.map pcV) → Q (.ref p) H'
def sp__law_cut (K : PySem.W.Frag) : Sp := fun vs H Q _ => ∃ (v w : V) (g k : Tg), vs = [v, w] ∧ Th K H v g ∧ Tg.ok K H g ∧ Th K H w k ∧ Tg.ok K H k ∧
  (∀ ts ws : List Int, g = .lst (ts.map V.int) → Bytes ts → Tg.isWin k = true → Tg.items k = ws.map V.int → RetP K H Q (pcs (ws ++ ts) ts.length ws.length)) ∧
  ((Tg.isRow g = false ∨ Tg.isWin k = false) → Rf K H Q "row")
theorem len__law_cut (h : sp__law_cut K vs H Q E) : vs.length = 2 := by
  obtain ⟨v, w, g, k, rfl, _⟩ := h
  rfl
def t__law_cut (K : PySem.W.Frag) (W : WX) : TS :=
  (tTryAs K (.ref (He.ga K "PressError")) 2 (fun W => (tRet (tCl (sp_pieces_of K) [] W (tCons (tVar 0) (tCons (tVar 1) tNil)))))
    (fun a cls d => (tRet (tTup (tCons (tC (.str "refused")) (tCons (tClE a cls d (sp__law_word K) (tCons (tVar 2) tNil)) tNil))))) W)
theorem rd__law_cut (kWBadRow : KWBadRow K) (h : sp__law_cut K vs H Q E) : t__law_cut K (fun c d _ H2 => E c d H2) { nx := fun _ H' => Q .non H', rt := Q } (start ["_law_text_here", "_law_before", "_law_e"] vs) H := by
  obtain ⟨v, w, g, k, rfl, hv1, hv2, hw1, hw2, qg, qr⟩ := h
  have hs := Hs.start H
  unfold t__law_cut
  walk_at "go"
  refine w_tryAs ?_
  walk_at "go"
  refine ⟨H, [], v, w, g, k, rfl, hs, hv1, hv2, hw1, hw2, fun ts ws a b c d B2 p xs H1 s hT h1 => ?_, fun bad H1 h1 => ?_⟩
  · exact qg ts ws a b c d p xs H1 (s.trans h1.ex) (h1.get (.head _)) (hT.same h1.ex)
  · have qr := qr bad
    refine c_wAs kWBadRow.p fun ea hea => ?_
    have h2 := Hs.start H1
    walk_at "go"
    refine c_clE ?_
    walk_at "go"
    refine ⟨_, _, rfl, rfl, rfl, kWBadRow.word, .inr rfl, retL h2 fun l H2 h2 => ?_⟩
    walk_at "go"
    rename_i t H3 h3
    exact qr H3 t l (h1.ex.trans h3.ex) (h3.sqt (.head _)) (h3.sql (.tail _ (.head _)))
def sp__law_drawn_pieces (K : PySem.W.Frag) : Sp := fun vs H Q _ => ∃ (a : Addr) (ns : List Int) (many : Nat), vs = [.ref a, .int ((many : Nat) : Int)] ∧ SqL K H a (ns.map V.int) ∧ many ≤ 255 ∧
  ∀ ps : List Pc, (∀ c ∈ ps, Pc.ok c) → ps.length ≤ 23 → (∀ ws : List Int, ws.length = many → ∃ ts, tells ws ps = some ts) → RetP K H Q ps
theorem len__law_drawn_pieces (h : sp__law_drawn_pieces K vs H Q E) : vs.length = 2 := by
  obtain ⟨a, ns, many, rfl, _⟩ := h
  rfl
def t__law_drawn_pieces (K : PySem.W.Frag) (W : WX) : TS :=
  (tSeq (tAsg (tLst tNil) (gName 2))
    (tSeq (tAsg (tVar 1) (gName 3))
    (tSeq (tFor (iRng1 (tCons (tOp rModU (tCl (sp__law_mixed K) [] W (tCons (tCl (sp__law_cell_at K) [] W (tCons (tVar 0) (tCons (tC (.int 1)) tNil))) (tCons (tC (.int 2)) tNil))) (tC (.int 24))) tNil)) (gName 4) (tSeq (tAsg (tCl (sp__law_mixed K) [] W (tCons (tCl (sp__law_cell_at K) [] W (tCons (tVar 0) (tCons (tOp rAddU (tC (.int 18)) (tVar 4)) tNil))) (tCons (tVar 4) tNil))) (gName 5))
    (tIfS ((tOr (tTest (tOp (rEqU K) (tOp rModU (tVar 5) (tC (.int 2))) (tC (.int 0)))) (tTest (tOp (rEqU K) (tVar 3) (tC (.int 0)))))) (tSeq (tDrop (tBM K "list" rAppend (tVar 2) (tCons (tTup (tCons (tC (.str "sign")) (tCons (tOp rModU (tOp rDivU (tVar 5) (tC (.int 2))) (tC (.int 256))) tNil))) tNil)))
    (tAug 3 (tC (.int 1)) ipAddU)) (tSeq (tAsg (tOp (rIx K) (tLst (tCons (tC (.int 1)) (tCons (tC (.int 2)) (tCons (tOp rAddU (tC (.int 1)) (tOp rModU (tOp rDivU (tVar 5) (tC (.int 2))) (tCB (rMin2K) (tCons (tVar 3) (tCons (tC (.int 255)) tNil))))) (tCons (tCB (rMin2K) (tCons (tVar 3) (tCons (tC (.int 255)) tNil))) (tCons (tOp rAddU (tC (.int 1)) (tOp rModU (tOp rDivU (tVar 5) (tC (.int 2))) (tCB (rMin2K) (tCons (tVar 3) (tCons (tC (.int 5)) tNil))))) tNil)))))) (tOp rModU (tOp rDivU (tVar 5) (tC (.int 512))) (tC (.int 5)))) (gName 6))
    (tSeq (tAsg (tOp (rIx K) (tLst (tCons (tC (.int 3)) (tCons (tC (.int 18)) (tCons (tOp rAddU (tC (.int 3)) (tOp rModU (tOp rDivU (tVar 5) (tC (.int 2560))) (tC (.int 16)))) tNil)))) (tOp rModU (tOp rDivU (tVar 5) (tC (.int 41))) (tC (.int 3)))) (gName 7))
    (tSeq (tDrop (tBM K "list" rAppend (tVar 2) (tCons (tTup (tCons (tC (.str "copy")) (tCons (tCB (rMin2K) (tCons (tVar 3) (tCons (tVar 6) tNil))) (tCons (tVar 7) tNil)))) tNil)))
    (tAug 3 (tVar 7) ipAddU)))))))
    (tRet (tVar 2)))))
theorem rd__law_drawn_pieces (h : sp__law_drawn_pieces K vs H Q E) : t__law_drawn_pieces K (fun c d _ H2 => E c d H2) { nx := fun _ H' => Q .non H', rt := Q } (start ["_law_script", "_law_many", "_law_found", "_law_at", "_law_k", "_law_number", "_law_back", "_law_size"] vs) H := by
  obtain ⟨a, ns, many, rfl, hS, hm, q⟩ := h
  have hs := Hs.start H
  unfold t__law_drawn_pieces
  walk_at "go"
  rename_i f H0 h0
  have hS0 := h0.bl hS
  refine ⟨a, ns, _, rfl, hS0, by decide, ?_⟩
  walk_at "go"
  refine ⟨_, _, rfl, by decide, by decide, fun m0 hm0 => ?_⟩
  obtain ⟨n, hn, hnl⟩ : ∃ n : Nat, m0 % 24 = ((n : Nat) : Int) ∧ n ≤ 23 := ⟨(m0 % 24).toNat, by omega, by omega⟩
  walk_at "go"
  rw [hn]
  refine ⟨_, rfl, by omega, by omega, ?_⟩
  rw [Int.toNat_natCast]
  refine w_forR (fun i σ' L' B' => ∃ (ps : List Pc) (xs : List V) (at_ : Nat) (w4 w5 w6 w7 : Option V), ps.length = i ∧ (∀ c ∈ ps, Pc.ok c) ∧ (∀ ws : List Int, ws.length = many → ∃ ts, tells ws ps = some ts ∧ ts.length = at_) ∧ Same H B' ∧ Tups K B' xs (ps.map pcV) ∧
    σ' = [some (.ref a), some (.int ((many : Nat) : Int)), some (.ref f), some (.int ((at_ : Nat) : Int)), w4, w5, w6, w7] ∧ L' = [(f, .lst xs)]) h0
    ⟨[], [], many, none, none, none, none, rfl, (fun _ z => nomatch z), (fun ws e => ⟨ws, rfl, e⟩), Same.refl _, .nil, rfl, rfl⟩ ?_ ?_
  · rintro i σ' L' B' H' hi ⟨ps, xs, at_, w4, w5, w6, w7, hpl, hok, htl, hB, hT, rfl, rfl⟩ h
    have hxl : xs.length = ps.length := by rw [hT.length, List.length_map]
    have hS' := h.bl (hB.seq hS)
    walk_at "go"
    refine ⟨a, ns, _, rfl, hS', by omega, ?_⟩
    walk_at "go"
    refine ⟨_, _, rfl, by omega, by omega, fun M hM => ?_⟩
    have sgnok : ∀ c ∈ ps ++ [Pc.sign (M / 2 % 256)], Pc.ok c := fun c hc => by
      rcases List.mem_append.mp hc with z | z
      · exact hok c z
      · rw [List.mem_singleton.mp z]
        show 0 ≤ M / 2 % 256 ∧ M / 2 % 256 ≤ 255
        omega
    have sgntl : ∀ ws : List Int, ws.length = many → ∃ ts, tells ws (ps ++ [Pc.sign (M / 2 % 256)]) = some ts ∧ ts.length = at_ + 1 := fun ws e => by
      obtain ⟨ts, e1, e2⟩ := htl ws e
      refine ⟨ts ++ [M / 2 % 256], ?_, by rw [List.length_append, List.length_singleton, e2]⟩
      rw [tells_append, e1]
      rfl
    walk_at "go"
    by_cases hM2 : M % 2 = 0
    · refine i_t (decide_eq_true hM2) ?_
      walk_at "go"
      rename_i t H4 h4
      have nb4 := h4.nb (.head _)
      refine c_app0 h4.fix (small6 (by omega)) fun H5 h5 => ?_
      walk_at "go"
      exact ⟨_, _, ⟨ps ++ [.sign (M / 2 % 256)], _, at_ + 1, _, _, _, _, by rw [List.length_append, List.length_singleton, hpl], sgnok, sgntl, hB.trans (same_upd nb4), by rw [List.map_append]; exact hT.snocFix nb4, rfl, rfl⟩, h5⟩
    refine i_f (decide_eq_false hM2) ?_
    walk_at "go"
    by_cases ha0 : at_ = 0
    · refine i_t (decide_eq_true (by omega)) ?_
      walk_at "go"
      rename_i t H4 h4
      have nb4 := h4.nb (.head _)
      refine c_app0 h4.fix (small6 (by omega)) fun H5 h5 => ?_
      walk_at "go"
      exact ⟨_, _, ⟨ps ++ [.sign (M / 2 % 256)], _, at_ + 1, _, _, _, _, by rw [List.length_append, List.length_singleton, hpl], sgnok, sgntl, hB.trans (same_upd nb4), by rw [List.map_append]; exact hT.snocFix nb4, rfl, rfl⟩, h5⟩
    refine i_f (decide_eq_false (by omega)) ?_
    walk_at "go"
    rename_i l4 H4 h4
    obtain ⟨bk, hbk, bk1, bk2⟩ : ∃ bk : Nat, atI [V.int 1, V.int 2, V.int (1 + M / 2 % if 255 < ((at_ : Nat) : Int) then 255 else ((at_ : Nat) : Int)), V.int (if 255 < ((at_ : Nat) : Int) then 255 else ((at_ : Nat) : Int)), V.int (1 + M / 2 % if 5 < ((at_ : Nat) : Int) then 5 else ((at_ : Nat) : Int))] (M / 512 % 5) = some (.int ((bk : Nat) : Int)) ∧ 1 ≤ bk ∧ bk ≤ 255 := by
      obtain ⟨m1, e1, a1, b1⟩ : ∃ m : Nat, (if 255 < ((at_ : Nat) : Int) then 255 else ((at_ : Nat) : Int)) = ((m : Nat) : Int) ∧ 1 ≤ m ∧ m ≤ 255 := by
        by_cases c : 255 < at_
        · exact ⟨255, by rw [if_pos (by omega)]; rfl, by omega, by omega⟩
        · exact ⟨at_, by rw [if_neg (by omega)], by omega, by omega⟩
      obtain ⟨m2, e2, a2, b2⟩ : ∃ m : Nat, (if 5 < ((at_ : Nat) : Int) then 5 else ((at_ : Nat) : Int)) = ((m : Nat) : Int) ∧ 1 ≤ m ∧ m ≤ 5 := by
        by_cases c : 5 < at_
        · exact ⟨5, by rw [if_pos (by omega)]; rfl, by omega, by omega⟩
        · exact ⟨at_, by rw [if_neg (by omega)], by omega, by omega⟩
      rw [e1, e2]
      have z1 := Int.emod_nonneg (M / 2) (show ((m1 : Nat) : Int) ≠ 0 by omega)
      have z2 := Int.emod_lt_of_pos (M / 2) (show 0 < ((m1 : Nat) : Int) by omega)
      have z3 := Int.emod_nonneg (M / 2) (show ((m2 : Nat) : Int) ≠ 0 by omega)
      have z4 := Int.emod_lt_of_pos (M / 2) (show 0 < ((m2 : Nat) : Int) by omega)
      obtain ⟨k, hk, hkl⟩ : ∃ k : Nat, M / 512 % 5 = ((k : Nat) : Int) ∧ k < 5 := ⟨(M / 512 % 5).toNat, by omega, by omega⟩
      rw [hk]
      rcases (by omega : k = 0 ∨ k = 1 ∨ k = 2 ∨ k = 3 ∨ k = 4) with rfl | rfl | rfl | rfl | rfl
      · exact ⟨1, rfl, by omega, by omega⟩
      · exact ⟨2, rfl, by omega, by omega⟩
      · exact ⟨(1 + M / 2 % ((m1 : Nat) : Int)).toNat, by rw [Int.toNat_of_nonneg (by omega)]; rfl, by omega, by omega⟩
      · exact ⟨m1, rfl, by omega, by omega⟩
      · exact ⟨(1 + M / 2 % ((m2 : Nat) : Int)).toNat, by rw [Int.toNat_of_nonneg (by omega)]; rfl, by omega, by omega⟩
    refine c_ixL (h4.sql (.head _)) hbk ?_
    have h5 := h4.drop
    clear h4 hbk
    walk_at "go"
    rename_i l6 H6 h6
    obtain ⟨sz, hsz, sz1, sz2⟩ : ∃ sz : Nat, atI [V.int 3, V.int 18, V.int (3 + M / 2560 % 16)] (M / 41 % 3) = some (.int ((sz : Nat) : Int)) ∧ 3 ≤ sz ∧ sz ≤ 18 := by
      obtain ⟨k, hk, hkl⟩ : ∃ k : Nat, M / 41 % 3 = ((k : Nat) : Int) ∧ k < 3 := ⟨(M / 41 % 3).toNat, by omega, by omega⟩
      rw [hk]
      rcases (by omega : k = 0 ∨ k = 1 ∨ k = 2) with rfl | rfl | rfl
      · exact ⟨3, rfl, by omega, by omega⟩
      · exact ⟨18, rfl, by omega, by omega⟩
      · exact ⟨(3 + M / 2560 % 16).toNat, by rw [Int.toNat_of_nonneg (by omega)]; rfl, by omega, by omega⟩
    refine c_ixL (h6.sql (.head _)) hsz ?_
    have h7 := h6.drop
    clear h6 hsz
    walk_at "go"
    rename_i t H8 h8
    obtain ⟨bb, ebb, bb1, bb2, bb3⟩ : ∃ bb : Nat, (if ((bk : Nat) : Int) < ((at_ : Nat) : Int) then ((bk : Nat) : Int) else ((at_ : Nat) : Int)) = ((bb : Nat) : Int) ∧ 1 ≤ bb ∧ bb ≤ 255 ∧ bb ≤ at_ := by
      by_cases c : bk < at_
      · exact ⟨bk, by rw [if_pos (by omega)], by omega, by omega, by omega⟩
      · exact ⟨at_, by rw [if_neg (by omega)], by omega, by omega, by omega⟩
    rw [ebb] at h8
    have nb8 := h8.nb (.head _)
    refine c_app0 h8.fix (small6 (by omega)) fun H9 h9 => ?_
    walk_at "go"
    refine ⟨_, _, ⟨ps ++ [.copy bb sz], _, at_ + sz, _, _, _, _, by rw [List.length_append, List.length_singleton, hpl], fun c hc => ?_, fun ws e => ?_, hB.trans (same_upd nb8), by rw [List.map_append]; exact hT.snocFix nb8, rfl, rfl⟩, h9⟩
    · rcases List.mem_append.mp hc with z | z
      · exact hok c z
      · rw [List.mem_singleton.mp z]
        exact ⟨bb1, bb2, sz1, sz2⟩
    · obtain ⟨ts, e1, e2⟩ := htl ws e
      refine ⟨cpy bb sz ts, ?_, by rw [cpy_length, e2]⟩
      rw [tells_append, e1]
      show (if bb ≤ ts.length then some (cpy bb sz ts) else none) = _
      rw [if_pos (by omega)]
  · rintro σ' L' B' H' ⟨ps, xs, at_, w4, w5, w6, w7, hpl, hok, htl, hB, hT, rfl, rfl⟩ h
    walk_at "go"
    exact q ps hok (by omega) (fun ws e => (htl ws e).imp fun _ z => z.1) f xs _ (hB.trans h.ex) (h.get (.head _)) (hT.same h.ex)
def sp__law_text (K : PySem.W.Frag) : Sp := fun vs H Q _ => ∃ (a b : Addr) (xs : List V) (ps : List Pc) (ws ts : List Int), vs = [.ref a, .ref b] ∧ SqL K H a xs ∧ Tups K H xs (ps.map pcV) ∧ (∀ c ∈ ps, Pc.ok c) ∧ ps.length ≤ 5000 ∧ SqL K H b (ws.map V.int) ∧ ws.length ≤ 255 ∧ tells ws ps = some ts ∧ RetL H Q ((ts.drop ws.length).map V.int)
theorem len__law_text (h : sp__law_text K vs H Q E) : vs.length = 2 := by
  obtain ⟨a, b, xs, ps, ws, ts, rfl, _⟩ := h
  rfl
theorem at_back {ns : List Int} {b : Nat} (h1 : 1 ≤ b) (h2 : b ≤ ns.length) : atI (ns.map V.int) (-((b : Nat) : Int)) = some (.int (ns.getD (ns.length - b) 0)) := by
  unfold atI ixN
  rw [List.length_map, if_neg (by omega), if_pos (by omega), Option.bind_some, show (-((b : Nat) : Int) + ((ns.length : Nat) : Int)).toNat = ns.length - b by omega, List.getElem?_map, List.getD_eq_getElem?_getD, List.getElem?_eq_getElem (by omega)]
  rfl
def t__law_text (K : PySem.W.Frag) (W : WX) : TS :=
  (tSeq (tAsg (tCB (rListK K) (tCons (tVar 1) tNil)) (gName 2))
    (tSeq (tFor (iList K (tVar 0)) (gName 3) (tIfS (tTest (tOp (rEqU K) (tOp (rIx K) (tVar 3) (tC (.int 0))) (tC (.str "sign")))) (tDrop (tBM K "list" rAppend (tVar 2) (tCons (tOp (rIx K) (tVar 3) (tC (.int 1))) tNil))) (tFor (iRng1 (tCons (tOp (rIx K) (tVar 3) (tC (.int 2))) tNil)) (gName 4) (tDrop (tBM K "list" rAppend (tVar 2) (tCons (tOp (rIx K) (tVar 2) (tUn rNegU (tOp (rIx K) (tVar 3) (tC (.int 1))))) tNil))))))
    (tRet (tSl (rSlK K) (tVar 2) (tPart (tCB (rLenK K) (tCons (tVar 1) tNil))) tNoPart))))
theorem rd__law_text (h : sp__law_text K vs H Q E) : t__law_text K (fun c d _ H2 => E c d H2) { nx := fun _ H' => Q .non H', rt := Q } (start ["_law_pieces", "_law_before", "_law_signs_here", "_law_piece", "_law_turn"] vs) H := by
  obtain ⟨a, b, xs, ps, ws, ts, rfl, hS, hT, ho, hpl, hW, hwl, hts, q⟩ := h
  have hs := Hs.start H
  have hxp : xs.length = ps.length := by rw [hT.length, List.length_map]
  unfold t__law_text
  walk_at "go"
  rename_i s H1 h1
  have hS1 := h1.bl hS
  refine w_forL id xs (fun pre σ' L' B'' => ∃ (cur : List Int) (w3 w4 : Option V), tells ws (ps.take pre.length) = some cur ∧ σ' = [some (.ref a), some (.ref b), some (.ref s), w3, w4] ∧ B'' = H ∧ L' = [(s, .lst (cur.map V.int))]) h1 ⟨ws, none, none, rfl, rfl, rfl, rfl⟩ ?_ ?_ ?_
  · rintro pre post σ' L' B'' H' _ ⟨_, w4, w5, _, _, rfl, rfl⟩ h
    rw [List.map_id]
    exact h.bl hS
  · rintro pre v post σ' L' B'' H' e ⟨cur, w3, w4, ht, rfl, rfl, rfl⟩ h
    obtain ⟨t, c, rfl, hc, htc⟩ := tups_W hT e
    have ht' := h.bt htc
    have htl := tells_length (fun x hx => ho x (List.mem_of_mem_take hx)) ht
    rw [List.length_take] at htl
    have hsp := (take_split hc).1
    rw [id_eq]
    cases c with
    | sign n =>
      walk_at "go"
      refine c_app0 h (small6 (by rw [List.length_map]; omega)) fun H4 h4 => ?_
      walk_at "go"
      refine ⟨_, _, ⟨cur ++ [n], _, _, ?_, rfl, rfl, ?_⟩, h4⟩
      · rw [List.length_append, List.length_singleton, List.take_add_one, hc, tells_append, ht]
        rfl
      · rw [List.map_append]
        rfl
    | copy bk z =>
      have hok := ho _ (List.mem_of_getElem? hc)
      have hz := hok.2.2.2
      have hb1 := hok.1
      have hre : bk ≤ cur.length := by
        rw [hsp, tells_append, ht] at hts
        have hts : (if bk ≤ cur.length then tells (cpy bk z cur) (ps.drop (pre.length + 1)) else none) = some ts := hts
        split at hts
        · assumption
        · cases hts
      walk_at "go"
      refine ⟨((z : Nat) : Int), rfl, by omega, by omega, ?_⟩
      rw [Int.toNat_natCast]
      refine w_forR (fun i σ' L' B2 => ∃ w4, σ' = [some (.ref a), some (.ref b), some (.ref s), some (.ref t), w4] ∧ B2 = B'' ∧ L' = [(s, .lst ((cpy bk i cur).map V.int))]) h ⟨_, rfl, rfl, rfl⟩ ?_ ?_
      · rintro i σ' L' B2 H4 hi ⟨w5, rfl, rfl, rfl⟩ h4
        have ht4 := h4.bt htc
        have hcl := cpy_length bk i cur
        walk_at "go"
        refine c_ixL (h4.sql (.head _)) (at_back hb1 (by omega)) ?_
        walk_at "go"
        refine c_app0 h4 (small6 (by rw [List.length_map]; omega)) fun H5 h5 => ?_
        walk_at "go"
        refine ⟨_, _, ⟨_, rfl, rfl, ?_⟩, h5⟩
        rw [cpy_succ, List.map_append]
        rfl
      · rintro σ' L' B2 H4 ⟨w5, rfl, rfl, rfl⟩ h4
        refine ⟨_, _, ⟨_, _, _, ?_, rfl, rfl, rfl⟩, h4⟩
        rw [List.length_append, List.length_singleton, List.take_add_one, hc, tells_append, ht]
        show (if bk ≤ cur.length then some (cpy bk z cur) else none) = _
        rw [if_pos hre]
  · rintro σ' L' B'' H4 ⟨cur, w3, w4, ht, rfl, rfl, rfl⟩ h4
    rw [hxp, List.take_of_length_le (Nat.le_refl _), hts] at ht
    cases ht
    have hW4 := h4.bl hW
    walk_at "go"
    rename_i p5 H5 h5
    rw [List.length_map, cut_drop] at h5
    exact h5.rl (.head _) q
def sp__law_rows (K : PySem.W.Frag) : Sp := fun vs H Q _ => ∃ (p q : Addr) (ns : List Int), vs = [.ref p, .ref q] ∧ SqL K H p (ns.map V.int) ∧ SqL K H q (ns.map V.int) ∧ RetV H Q (.bl true)
theorem len__law_rows (h : sp__law_rows K vs H Q E) : vs.length = 2 := by
  obtain ⟨p, q, ns, rfl, _⟩ := h
  rfl
def t__law_rows (K : PySem.W.Frag) (W : WX) : TS :=
  (tSeq (tIfS ((tOr (tNot (tB (tCB (rIsi K) (tCons (tVar 0) (tCons (tC (.ty "list")) tNil))))) (tTest (tOp (rNeU K) (tVar 0) (tVar 1))))) (tRet (tC (.bl false))) tNext)
    (tRet (tOp (rEqU K) (tLc (iList K (tVar 0)) (gName 2) ((tOr (tNot (tB (tCB (rIsi K) (tCons (tVar 2) (tCons (tC (.ty "int")) tNil))))) (tB (tCB (rIsi K) (tCons (tVar 2) (tCons (tC (.ty "bool")) tNil)))))) (tVar 2) [2]) (tLst tNil))))
theorem rd__law_rows (h : sp__law_rows K vs H Q E) : t__law_rows K W { nx := fun _ H' => Q .non H', rt := Q } (start ["_law_found", "_law_due", "_law_one"] vs) H := by
  obtain ⟨p, q, ns, rfl, h1, h2, qt⟩ := h
  have hs := Hs.start H
  unfold t__law_rows
  walk_at "go"
  refine c_isiList (.lst h1) ?_
  walk_at "go"
  refine c_lcL V.int ns (fun pre acc B' => acc = [] ∧ B' = H) hs ⟨rfl, rfl⟩ (fun B' H' e h => (e.trans h.ex).seq h1) ?_ ?_
  · rintro pre v post acc B' D H' e ⟨rfl, rfl⟩ _ h
    walk_at "go"
    refine ⟨rfl, ?_⟩
    walk_at "go"
    exact ⟨_, _, ⟨rfl, rfl⟩, Same.refl _, h⟩
  · rintro acc B' D H3 ⟨rfl, rfl⟩ _ h3
    walk_at "go"
    rename_i e H4 h4
    refine c_eqL [] [] (h4.sql (.tail _ (.head _))) (h4.sql (.head _)) ?_
    rw [decide_eq_true rfl]
    exact qt _ h4.ex
end L2.BR

namespace L2.BP
open PySem PySem.Spec PyProof.Rows
/-- all own objects but the first one are from now on of the base -/
theorem Hs.fixTail {x : Addr × HO} : ∀ {T : Pic} {B H : Hp}, Hs B (x :: T) H → ∃ B2, Same B B2 ∧ Hs B2 [x] H ∧ ∀ a o, (a, o) ∈ T → B2 a = some o
  | [], B, H, h => ⟨B, Same.refl _, h, fun _ _ z => nomatch z⟩
  | t :: T, B, H, h => by
    have h1 := h.swap
    have n := h1.nb (.head _)
    obtain ⟨B2, s, h2, f⟩ := Hs.fixTail h1.fix
    refine ⟨B2, (same_upd n).trans s, h2, fun a o hq => ?_⟩
    rcases List.mem_cons.mp hq with rfl | hq
    · exact s _ _ upd_same
    · exact f a o hq
theorem Hs.last {B H : Hp} {x : Addr × HO} {T : Pic} (h : Hs B (T ++ [x]) H) : Hs B (x :: T) H := h.perm List.perm_append_comm
end L2.BP
namespace L2.BR
open PySem PySem.Spec PyProof.Rows L2.BP
variable {K : PySem.W.Frag} {W : WX} {vs : List V} {H : Hp} {Q : VK} {E : XK}
/-- none of these is a piece -/
def AllBad (K : PySem.W.Frag) (H : Hp) (xs : List V) : Prop := ∀ x ∈ xs, IsPz K H x false ∧ OD K H 3 x
theorem AllBad.nil : AllBad K H [] := fun _ z => nomatch z
theorem AllBad.cons {x : V} {xs : List V} (h : IsPz K H x false ∧ OD K H 3 x) (t : AllBad K H xs) : AllBad K H (x :: xs) := fun y hy => by
  rcases List.mem_cons.mp hy with rfl | hy
  · exact h
  · exact t y hy
theorem AllBad.app {xs ys : List V} (h : AllBad K H xs) (t : AllBad K H ys) : AllBad K H (xs ++ ys) := fun y hy => by
  rcases List.mem_append.mp hy with hy | hy
  · exact h y hy
  · exact t y hy
theorem AllBad.same {H' : Hp} {xs : List V} (h : AllBad K H xs) (s : Same H H') : AllBad K H' xs := fun x hx => ⟨(h x hx).1.same s, (h x hx).2.same s⟩
theorem th_flat {v : V} (h : L2.BP.flatV v = true) : ∃ g, Th K H v g := by
  cases v with
  | non => exact ⟨_, .non⟩
  | bl b => exact ⟨_, .bl b⟩
  | int i => exact ⟨_, .int i⟩
  | str x => exact ⟨_, .str x⟩
  | _ => cases h
theorem badT {a : Addr} {xs : List V} (h : H a = some (.tup xs)) (hf : xs.all L2.BP.flatV = true) (hp : isPc xs = false) : IsPz K H (.ref a) false ∧ OD K H 3 (.ref a) := by
  refine ⟨?_, .tup (SqT.of h) (.flat hf)⟩
  have z := IsPz.tup (K := K) (SqT.of h) fun x hx => th_flat (List.all_eq_true.mp hf x hx)
  rw [hp] at z
  exact z
theorem badL {a : Addr} {xs : List V} (h : H a = some (.lst xs)) (hf : xs.all L2.BP.flatV = true) : IsPz K H (.ref a) false ∧ OD K H 3 (.ref a) := ⟨.no (.lst (SqL.of h)) (fun _ e => nomatch e), .lst (SqL.of h) (.flat hf)⟩
theorem badTL {a q : Addr} (h : H a = some (.tup [.str "sign", .ref q])) (h2 : H q = some (.lst [.int 5])) : IsPz K H (.ref a) false ∧ OD K H 3 (.ref a) := by
  refine ⟨?_, .tup (SqT.of h) (.cons (.flat (by decide +kernel)) (.one (.lst (SqL.of h2) (LD.ints (ns := [5])))))⟩
  have z := IsPz.tup (K := K) (SqT.of h) fun x hx => by
    simp only [List.mem_cons, List.not_mem_nil, or_false] at hx
    rcases hx with rfl | rfl
    · exact ⟨_, .str _⟩
    · exact ⟨_, .lst (SqL.of h2)⟩
  rw [show isPc [.str "sign", .ref q] = false by simp [isPc, byteV]] at z
  exact z
theorem badStep {B : Hp} {l : Addr} {xs : List V} {T : Pic} (n : Nat) (h : Hs B ((l, .lst xs) :: T) H) (hn : xs.length = n) (k : ∀ B2, Same B B2 → (∀ a o, (a, o) ∈ T → B2 a = some o) → AllBad K B2 xs) : ∃ B2 X, Same B B2 ∧ Hs B2 [(l, .lst X)] H ∧ AllBad K B2 X ∧ X.length = n := by
  obtain ⟨B2, s, h2, f⟩ := h.fixTail
  exact ⟨B2, xs, s, h2, k B2 s f, hn⟩
def sp__law_odd_piece (K : PySem.W.Frag) : Sp := fun vs H Q _ => ∃ (num many : Int), vs = [.int num, .int many] ∧ 0 ≤ many ∧ many ≤ 255 ∧ ∀ v H', Same H H' →
  ((IsPz K H' v false ∧ OD K H' 3 v) ∨ (many < 255 ∧ num % 3 = 0 ∧ ∃ (t : Addr) (b : Nat), v = .ref t ∧ SqT K H' t (pcV (.copy b 3)) ∧ many < ((b : Nat) : Int) ∧ 1 ≤ b ∧ b ≤ 255)) → Q v H'
theorem len__law_odd_piece (h : sp__law_odd_piece K vs H Q E) : vs.length = 2 := by
  obtain ⟨a, b, rfl, _⟩ := h
  rfl
def t__law_odd_piece (K : PySem.W.Frag) (W : WX) : TS :=
  (tSeq (tAsg (tLst (tCons (tTup (tCons (tC (.str "sign")) (tCons (tC (.int 256)) tNil))) (tCons (tTup (tCons (tC (.str "sign")) (tCons (tUn rNegU (tC (.int 1))) tNil))) (tCons (tTup (tCons (tC (.str "sign")) (tCons (tC (.bl true)) tNil))) (tCons (tTup (tCons (tC (.str "sign")) tNil)) (tCons (tTup (tCons (tC (.str "sign")) (tCons (tC (.int 5)) (tCons (tC (.int 5)) tNil)))) (tCons (tLst (tCons (tC (.str "sign")) (tCons (tC (.int 5)) tNil))) (tCons (tTup (tCons (tC (.str "Sign")) (tCons (tC (.int 5)) tNil))) (tCons (tTup tNil) (tCons (tC .non) tNil)))))))))) (gName 2))
    (tSeq (tAug 2 (tLst (tCons (tTup (tCons (tC (.str "copy")) (tCons (tC (.int 0)) (tCons (tC (.int 3)) tNil)))) (tCons (tTup (tCons (tC (.str "copy")) (tCons (tC (.int 1)) (tCons (tC (.int 2)) tNil)))) (tCons (tTup (tCons (tC (.str "copy")) (tCons (tC (.int 1)) (tCons (tC (.int 19)) tNil)))) (tCons (tTup (tCons (tC (.str "copy")) (tCons (tC (.int 256)) (tCons (tC (.int 3)) tNil)))) (tCons (tTup (tCons (tC (.str "copy")) (tCons (tUn rNegU (tC (.int 1))) (tCons (tC (.int 3)) tNil)))) (tCons (tTup (tCons (tC (.str "copy")) (tCons (tC (.int 1)) tNil))) (tCons (tC (.str "copy")) tNil)))))))) ipAddU)
    (tSeq (tAug 2 (tLst (tCons (tTup (tCons (tC (.str "copy")) (tCons (tC (.bl true)) (tCons (tC (.int 3)) tNil)))) (tCons (tTup (tCons (tC (.str "copy")) (tCons (tC (.int 1)) (tCons (tC (.bl true)) tNil)))) (tCons (tTup (tCons (tC (.str "copy")) (tCons (tC (.str "1")) (tCons (tC (.int 3)) tNil)))) (tCons (tTup (tCons (tC (.str "copy")) (tCons (tC (.int 1)) (tCons (tC (.int 3)) (tCons (tC (.int 3)) tNil))))) (tCons (tTup (tCons (tC (.str "copy")) (tCons (tC .non) (tCons (tC (.int 3)) tNil)))) (tCons (tC (.int 5)) (tCons (tTup (tCons (tC (.str "copy")) tNil)) tNil)))))))) ipAddU)
    (tSeq (tAug 2 (tLst (tCons (tTup (tCons (tC .non) (tCons (tC (.int 5)) tNil))) (tCons (tTup (tCons (tC (.str "sign")) (tCons (tC .non) tNil))) (tCons (tTup (tCons (tC (.str "sign")) (tCons (tLst (tCons (tC (.int 5)) tNil)) tNil))) (tCons (tTup (tCons (tC (.str "copy")) (tCons (tC (.int 1)) (tCons (tC .non) tNil)))) (tCons (tTup (tCons (tC (.str "sign")) (tCons (tOp rPowU (tC (.int 10)) (tC (.int 20))) tNil))) (tCons (tTup (tCons (tC (.str "copy")) (tCons (tC (.int 1)) (tCons (tOp rPowU (tC (.int 10)) (tC (.int 20))) tNil)))) tNil))))))) ipAddU)
    (tSeq (tIfS ((tAnd (tTest (tOp rLtU (tVar 1) (tC (.int 255)))) (tTest (tOp (rEqU K) (tOp rModU (tVar 0) (tC (.int 3))) (tC (.int 0)))))) (tRet (tTup (tCons (tC (.str "copy")) (tCons (tCB (rMin2K) (tCons (tC (.int 255)) (tCons (tOp rAddU (tOp rAddU (tVar 1) (tC (.int 1))) (tOp rModU (tOp rDivU (tVar 0) (tC (.int 3))) (tC (.int 9)))) tNil))) (tCons (tC (.int 3)) tNil))))) tNext)
    (tRet (tOp (rIx K) (tVar 2) (tOp rModU (tOp rDivU (tVar 0) (tC (.int 3))) (tC (.int 29))))))))))
theorem rd__law_odd_piece (h : sp__law_odd_piece K vs H Q E) : t__law_odd_piece K W { nx := fun _ H' => Q .non H', rt := Q } (start ["_law_number", "_law_many", "_law_some"] vs) H := by
  obtain ⟨num, many, rfl, hm0, hm1, q⟩ := h
  have hs := Hs.start H
  unfold t__law_odd_piece
  walk_at "go"
  rename_i l2 H1 h1
  have h2 := h1.perm (List.perm_middle (l₁ := [_, _, _, _, _, _, _]))
  refine c_ext0 h2 (h2.get (.tail _ (.head _))) (small6' (by simp only [List.length_cons, List.length_nil]; decide)) fun H3 h3 => ?_
  clear h1 h2
  obtain ⟨B3, X3, s3, h3, bad3, l3⟩ := badStep (K := K) 16 h3 rfl fun B2 s f => AllBad.app (by (repeat' (first | exact AllBad.nil | exact ⟨.no .non (fun _ e => nomatch e), .flat rfl⟩ | exact ⟨.no (.int _) (fun _ e => nomatch e), .flat rfl⟩ | exact ⟨.no (.str _) (fun _ e => nomatch e), .flat (by decide +kernel)⟩ | exact badT (f _ _ (by walk_at "deep")) (by decide +kernel) (by decide +kernel) | exact badL (f _ _ (by walk_at "deep")) (by decide +kernel) | refine AllBad.cons ?_ ?_))) (by (repeat' (first | exact AllBad.nil | exact ⟨.no .non (fun _ e => nomatch e), .flat rfl⟩ | exact ⟨.no (.int _) (fun _ e => nomatch e), .flat rfl⟩ | exact ⟨.no (.str _) (fun _ e => nomatch e), .flat (by decide +kernel)⟩ | exact badT (f _ _ (by walk_at "deep")) (by decide +kernel) (by decide +kernel) | exact badL (f _ _ (by walk_at "deep")) (by decide +kernel) | refine AllBad.cons ?_ ?_)))
  walk_at "go"
  rename_i l4 H4 h4
  have h5 := Hs.last (T := [_, _, _, _, _, _, _]) h4
  refine c_ext0 h5 (h5.get (.tail _ (.head _))) (small6' (by rw [l3]; simp only [List.length_cons, List.length_nil]; decide)) fun H6 h6 => ?_
  clear h4 h5
  obtain ⟨B6, X6, s6, h6, bad6, l6⟩ := badStep (K := K) 23 h6 (by rw [List.length_append, l3]; rfl) fun B2 s f => AllBad.app (bad3.same s) (by (repeat' (first | exact AllBad.nil | exact ⟨.no .non (fun _ e => nomatch e), .flat rfl⟩ | exact ⟨.no (.int _) (fun _ e => nomatch e), .flat rfl⟩ | exact ⟨.no (.str _) (fun _ e => nomatch e), .flat (by decide +kernel)⟩ | exact badT (f _ _ (by walk_at "deep")) (by decide +kernel) (by decide +kernel) | exact badL (f _ _ (by walk_at "deep")) (by decide +kernel) | refine AllBad.cons ?_ ?_)))
  clear h3 bad3 l3
  walk_at "go"
  rename_i l7 H7 h7
  refine c_pow ⟨by decide, by decide, by decide⟩ ?_
  walk_at "go"
  refine c_pow ⟨by decide, by decide, by decide⟩ ?_
  walk_at "go"
  rename_i l8 H8 h8
  have e20 : ((10 : Int) ^ (20 : Int).toNat) = 100000000000000000000 := by decide +kernel
  rw [e20] at h8
  have h9 := Hs.last (T := [_, _, _, _, _, _, _, _]) h8
  refine c_ext0 h9 (h9.get (.tail _ (.head _))) (small6' (by rw [l6]; simp only [List.length_cons, List.length_nil]; decide)) fun H10 h10 => ?_
  clear h7 h8 h9
  obtain ⟨B10, X, s10, h10, bad10, l10⟩ := badStep (K := K) 29 h10 (by rw [List.length_append, l6]; rfl) fun B2 s f => AllBad.app (bad6.same s) (by (repeat' (first | exact AllBad.nil | exact ⟨.no .non (fun _ e => nomatch e), .flat rfl⟩ | exact ⟨.no (.int _) (fun _ e => nomatch e), .flat rfl⟩ | exact ⟨.no (.str _) (fun _ e => nomatch e), .flat (by decide +kernel)⟩ | exact badT (f _ _ (by walk_at "deep")) (by decide +kernel) (by decide +kernel) | exact badTL (f _ _ (by walk_at "deep")) (f _ _ (by walk_at "deep")) | exact badL (f _ _ (by walk_at "deep")) (by decide +kernel) | refine AllBad.cons ?_ ?_)))
  clear h6 bad6 l6
  obtain ⟨v, hv, qv⟩ : ∃ v, atI X (num / 3 % 29) = some v ∧ Q v H10 := by
    obtain ⟨k, hk, hkl⟩ : ∃ k : Nat, num / 3 % 29 = ((k : Nat) : Int) ∧ k < 29 := ⟨(num / 3 % 29).toNat, by omega, by omega⟩
    have hv : X[k]? = some (X[k]'(by omega)) := List.getElem?_eq_getElem (by omega)
    refine ⟨_, by rw [hk]; exact atI_nat hv, ?_⟩
    obtain ⟨z1, z2⟩ := bad10 _ (List.mem_of_getElem? hv)
    exact q _ H10 (((s3.trans s6).trans s10).trans h10.ex) (.inl ⟨z1.same h10.ex, z2.same h10.ex⟩)
  clear bad10
  walk_at "go"
  by_cases m1 : many < 255
  · refine i_t (decide_eq_true m1) ?_
    walk_at "go"
    by_cases m2 : num % 3 = 0
    · refine i_t (decide_eq_true m2) ?_
      walk_at "go"
      rename_i t H11 h11
      obtain ⟨bb, ebb, b1, b2, b3⟩ : ∃ bb : Nat, (if many + 1 + num / 3 % 9 < 255 then many + 1 + num / 3 % 9 else 255) = ((bb : Nat) : Int) ∧ 1 ≤ bb ∧ bb ≤ 255 ∧ many < ((bb : Nat) : Int) := by
        by_cases c : many + 1 + num / 3 % 9 < 255
        · exact ⟨(many + 1 + num / 3 % 9).toNat, by rw [if_pos c]; omega, by omega, by omega, by omega⟩
        · exact ⟨255, by rw [if_neg c]; rfl, by omega, by omega, by omega⟩
      rw [ebb] at h11
      exact q _ H11 (((s3.trans s6).trans s10).trans h11.ex) (.inr ⟨m1, m2, t, bb, rfl, h11.sqt (.head _), b3, b1, b2⟩)
    · refine i_f (decide_eq_false m2) ?_
      walk_at "go"
      exact qv
  · refine i_f (decide_eq_false m1) ?_
    walk_at "go"
    exact qv
/-- 256 noughts -/
abbrev zs256 : List V := (List.replicate 256 (0 : Int)).map V.int
/-- a window that is none -/
def OddW (K : PySem.W.Frag) (H : Hp) (v : V) : Prop := ∃ k, Th K H v k ∧ Tg.ok K H k ∧ Tg.isWin k = false ∧ ((k = .lst zs256 ∧ ∃ l, v = .ref l) ∨ (Tg.isRow k = false ∧ ∀ (H2 : Hp) (b : Addr) (Q2 : VK), Same H H2 → SqL K H2 b zs256 → Q2 (.bl false) H2 → rEqU K v (.ref b) H2 Q2))
theorem OddW.same {H' : Hp} {v : V} (h : OddW K H v) (s : Same H H') : OddW K H' v := by
  obtain ⟨k, h1, h2, h3, h4⟩ := h
  refine ⟨k, h1.same s, Tg.ok_same s h2, h3, h4.imp id fun z => ⟨z.1, fun H2 b Q2 e => z.2 H2 b Q2 (s.trans e)⟩⟩
theorem oddL {l : Addr} {xs : List V} (h : H l = some (.lst xs)) (hb : xs.all byteV = false) (ho : ∀ x ∈ xs, ∃ g, Th K H x g) (hl : xs.length ≤ 255) (hd : LD K H 3 xs) : OddW K H (.ref l) := by
  refine ⟨.lst xs, .lst (.of h), ⟨ho, by omega⟩, by simp only [Tg.isWin]; rw [hb]; rfl, .inr ⟨hb, fun H2 b Q2 e h2 q2 => ?_⟩⟩
  exact c_eqLen (e.seq (.of h)) h2 (hd.same e) (LD.ints (n := 3)) (by decide) (by decide) (by rw [List.length_map, List.length_replicate]; omega) q2
theorem oddF {l : Addr} {xs : List V} (h : H l = some (.lst xs)) (hb : xs.all byteV = false) (hf : xs.all L2.BP.flatV = true) (hl : xs.length ≤ 255) : OddW K H (.ref l) := oddL h hb (fun x hx => th_flat (List.all_eq_true.mp hf x hx)) hl (.flat hf)
theorem oddT {t : Addr} {xs : List V} (h : H t = some (.tup xs)) (hf : xs.all L2.BP.flatV = true) : OddW K H (.ref t) := by
  refine ⟨.tup xs, .tup (.of h), trivial, rfl, .inr ⟨rfl, fun H2 b Q2 e h2 q2 => ?_⟩⟩
  refine c_eqD (dp_tup hf (same_sqt e (.of h))) (.lst h2 (dpa_ints _)) (shaped_tup hf) (shaped_ints _) ?_
  exact q2
theorem oddS {v : V} {k : Tg} {d : PyData} (h : Th K H v k) (ho : Tg.ok K H k) (h1 : Tg.isWin k = false) (h2 : Tg.isRow k = false) (hd : ∀ H2, Dp K H2 v d) (hs : SeqAt.shaped d = true) (hn : ∀ xs, PyData.eqv d (.list xs) = false) : OddW K H v := by
  refine ⟨k, h, ho, h1, .inr ⟨h2, fun H2 b Q2 e h2 q2 => ?_⟩⟩
  refine c_eqD (hd H2) (.lst h2 (dpa_ints _)) hs (shaped_ints _) ?_
  rw [hn]
  exact q2
def AllOdd (K : PySem.W.Frag) (H : Hp) (xs : List V) : Prop := ∀ x ∈ xs, OddW K H x
theorem AllOdd.nil : AllOdd K H [] := fun _ z => nomatch z
theorem AllOdd.cons {x : V} {xs : List V} (h : OddW K H x) (t : AllOdd K H xs) : AllOdd K H (x :: xs) := fun y hy => by
  rcases List.mem_cons.mp hy with rfl | hy
  · exact h
  · exact t y hy
theorem flat_ints {ns : List Int} : (ns.map V.int).all L2.BP.flatV = true := by rw [List.all_map]; simp [L2.BP.flatV]
def sp__law_odd_row (K : PySem.W.Frag) : Sp := fun vs H Q _ => ∃ (num : Int) (a : Addr) (ns : List Int), vs = [.int num, .ref a] ∧ H a = some (.lst (ns.map V.int)) ∧ Bytes ns ∧ ns.length ≤ 255 ∧ ∀ v H', Same H H' → OddW K H' v → Q v H'
theorem len__law_odd_row (h : sp__law_odd_row K vs H Q E) : vs.length = 2 := by
  obtain ⟨a, b, ns, rfl, _⟩ := h
  rfl
def t__law_odd_row (K : PySem.W.Frag) (W : WX) : TS :=
  (tSeq (tAsg (tLst (tCons (tTup tNil) (tCons (tCB (rTupleK K) (tCons (tOp rAddU (tVar 1) (tLst (tCons (tC (.int 1)) tNil))) tNil)) (tCons (tC (.str "row")) (tCons (tDNewK) (tCons (tC (.int 5)) (tCons (tC (.bl true)) (tCons (tOp rAddU (tSl (rSlK K) (tVar 1) tNoPart (tPart (tC (.int 250)))) (tLst (tCons (tC (.int 256)) tNil))) (tCons (tOp rAddU (tSl (rSlK K) (tVar 1) tNoPart (tPart (tC (.int 250)))) (tLst (tCons (tUn rNegU (tC (.int 1))) tNil))) (tCons (tOp rAddU (tLst (tCons (tC (.bl true)) tNil)) (tSl (rSlK K) (tVar 1) tNoPart (tPart (tC (.int 9))))) (tCons (tLst (tCons (tC .non) tNil)) tNil))))))))))) (gName 2))
    (tRet (tOp (rIx K) (tOp rAddU (tVar 2) (tLst (tCons (tLst (tCons (tC (.str "1")) tNil)) (tCons (tLst (tCons (tLst (tCons (tC (.int 1)) tNil)) tNil)) (tCons (tOp rMulU (tLst (tCons (tC (.int 0)) tNil)) (tC (.int 256))) (tCons (tOp rAddU (tSl (rSlK K) (tVar 1) tNoPart (tPart (tC (.int 9)))) (tLst (tCons (tOp rPowU (tC (.int 10)) (tC (.int 20))) tNil))) tNil)))))) (tOp rModU (tVar 0) (tC (.int 14))))))
theorem rd__law_odd_row (h : sp__law_odd_row K vs H Q E) : t__law_odd_row K W { nx := fun _ H' => Q .non H', rt := Q } (start ["_law_number", "_law_row", "_law_some"] vs) H := by
  obtain ⟨num, a, ns, rfl, hR, hb, hl, q⟩ := h
  have hS : SqL K H a (ns.map V.int) := .of hR
  have hs := Hs.start H
  unfold t__law_odd_row
  walk_at "go"
  rename_i p0 P0 p1 l1 H1 h1
  refine c_addL h1 (h1.ex _ _ hR) (h1.get (.head _)) (small6' (by rw [List.length_map]; simp; omega)) fun l2 H2 h2 => ?_
  walk_at "go"
  refine c_tupL h2 (h2.sql (.head _)) fun l3 H3 h3 => ?_
  walk_at "go"
  refine c_dnewK h3 fun l4 H4 h4 => ?_
  clear h1 h2 h3
  have hS4 := h4.bl hS
  walk_at "go"
  rename_i l5 H5 h5 l6 H6 h6
  refine c_addL h6 (h6.get (.tail _ (.head _))) (h6.get (.head _)) (small6' (by have := cutV_le (ns.map V.int) none (some 250); rw [List.length_map] at this; simp; omega)) fun l7 H7 h7 => ?_
  clear h5 h6
  have hS7 := h7.bl hS
  walk_at "go"
  rename_i l8 H8 h8 l9 H9 h9
  refine c_addL h9 (h9.get (.tail _ (.head _))) (h9.get (.head _)) (small6' (by have := cutV_le (ns.map V.int) none (some 250); rw [List.length_map] at this; simp; omega)) fun l10 H10 h10 => ?_
  clear h8 h9
  have hS10 := h10.bl hS
  walk_at "go"
  rename_i l11 H11 h11 l12 H12 h12
  refine c_addL h12 (h12.get (.tail _ (.head _))) (h12.get (.head _)) (small6' (by have := cutV_le (ns.map V.int) none (some 9); rw [List.length_map] at this; simp; omega)) fun l13 H13 h13 => ?_
  clear h11 h12
  walk_at "go"
  rename_i a1 A1 b1 a2 A2 b2 a3 A3 b3 a4 A4 b4 a5 A5 b5 l14 H14 h14
  clear b1 b2 b3 b4 b5
  refine c_rep h14 (h14.get (.head _)) (by decide) (by decide) (small6' (by rw [List.length_singleton]; decide)) fun l15 H15 h15 => ?_
  rw [List.flatten_replicate_singleton, show List.replicate (256 : Int).toNat (V.int 0) = zs256 from List.map_replicate.symm] at h15
  clear h14
  have hS15 := h15.bl hS
  walk_at "go"
  refine c_pow ⟨by decide, by decide, by decide⟩ ?_
  walk_at "go"
  rename_i l16 H16 h16 l17 H17 h17
  have e20 : ((10 : Int) ^ (20 : Int).toNat) = 100000000000000000000 := by decide +kernel
  rw [e20] at h17
  refine c_addL h17 (h17.get (.tail _ (.head _))) (h17.get (.head _)) (small6' (by have := cutV_le (ns.map V.int) none (some 9); rw [List.length_map] at this; simp; omega)) fun l18 H18 h18 => ?_
  clear h16 h17
  walk_at "go"
  rename_i l19 H19 h19
  refine c_addL h19 (h19.get (by walk_at "deep")) (h19.get (.head _)) (small6' (by simp only [List.length_cons, List.length_nil]; decide)) fun l20 H20 h20 => ?_
  clear h18 h19
  have c250 : cutV (ns.map V.int) none (some 250) = (ns.take 250).map V.int := cut_take ns 250
  have c9 : cutV (ns.map V.int) none (some 9) = (ns.take 9).map V.int := cut_take ns 9
  rw [c250, c9] at h20
  have t250 : (ns.take 250).length ≤ 250 := by rw [List.length_take]; omega
  have t9 : (ns.take 9).length ≤ 9 := by rw [List.length_take]; omega
  have odd : AllOdd K H20 _ := .cons (oddT (t := p0) (xs := []) (h20.get (by walk_at "deep")) rfl) <| .cons (oddT (t := l3) (h20.get (by walk_at "deep")) (by rw [List.all_append, flat_ints]; rfl)) <| .cons (oddS (d := .str "row") (.str "row") trivial rfl rfl (fun _ => .str _) (by decide +kernel) fun _ => rfl)
    <| .cons (show OddW K H20 (.ref l4) from ⟨.dic, .dic (h20.get (by walk_at "deep")), trivial, rfl, .inr ⟨rfl, fun H2 b Q2 e h2 q2 => c_eqDE (e _ _ (h20.get (by walk_at "deep"))) h2 q2⟩⟩)
    <| .cons (oddS (d := .int 5) (.int 5) trivial rfl rfl (fun _ => .int _) (by decide +kernel) fun _ => rfl) <| .cons (oddS (d := .bool true) (.bl true) trivial rfl rfl (fun _ => .bl _) (by decide +kernel) fun _ => rfl)
    <| .cons (oddF (l := l7) (h20.get (by walk_at "deep")) (by rw [List.all_append, show [V.int 256].all byteV = false by decide +kernel, Bool.and_false]) (by rw [List.all_append, flat_ints]; rfl) (by rw [List.length_append, List.length_map, List.length_singleton]; omega))
    <| .cons (oddF (l := l10) (h20.get (by walk_at "deep")) (by rw [List.all_append, show [V.int (-1)].all byteV = false by decide +kernel, Bool.and_false]) (by rw [List.all_append, flat_ints]; rfl) (by rw [List.length_append, List.length_map, List.length_singleton]; omega))
    <| .cons (oddF (l := l13) (h20.get (by walk_at "deep")) (by rw [List.all_append, show [V.bl true].all byteV = false by decide +kernel, Bool.false_and]) (by rw [List.all_append, flat_ints]; rfl) (by rw [List.length_append, List.length_map, List.length_singleton]; omega))
    <| .cons (oddF (l := a1) (xs := [V.non]) (h20.get (by walk_at "deep")) (by decide +kernel) rfl (by decide)) <| .cons (oddF (l := a3) (xs := [V.str "1"]) (h20.get (by walk_at "deep")) (by decide +kernel) (by decide +kernel) (by simp))
    <| .cons (oddL (l := a5) (h20.get (by walk_at "deep")) (by rfl) (fun x hx => by rw [List.mem_singleton.mp hx]; exact ⟨_, .lst (h20.sql (by walk_at "deep"))⟩) (by simp) (.one (.lst (h20.sql (by walk_at "deep")) (LD.ints (ns := [1])))))
    <| .cons (show OddW K H20 (.ref l15) from ⟨.lst zs256, .lst (h20.sql (by walk_at "deep")), ok_ints (by rw [List.length_replicate]; decide), by simp [Tg.isWin], .inl ⟨rfl, l15, rfl⟩⟩)
    <| .cons (oddF (l := l18) (h20.get (by walk_at "deep")) (by rw [List.all_append, show [V.int 100000000000000000000].all byteV = false by decide +kernel, Bool.and_false]) (by rw [List.all_append, flat_ints]; rfl) (by rw [List.length_append, List.length_map, List.length_singleton]; omega)) .nil
  obtain ⟨v, hv, qv⟩ : ∃ v, atI _ (num % 14) = some v ∧ Q v H20 := by
    obtain ⟨k, hk, hkl⟩ : ∃ k : Nat, num % 14 = ((k : Nat) : Int) ∧ k < 14 := ⟨(num % 14).toNat, by omega, by omega⟩
    have hv := List.getElem?_eq_getElem (show k < [V.ref p0, V.ref l3, V.str "row", V.ref l4, V.int 5, V.bl true, V.ref l7, V.ref l10, V.ref l13, V.ref a1, V.ref a3, V.ref a5, V.ref l15, V.ref l18].length from hkl)
    exact ⟨_, by rw [hk]; exact atI_nat hv, q _ H20 h20.ex (odd _ (List.mem_of_getElem? hv))⟩
  walk_at "go"
  exact qv
end L2.BR

namespace L2.BR
open PySem PySem.Spec PyProof.Rows L2.BP
variable {K : PySem.W.Frag} {W : WX} {vs : List V} {H : Hp} {Q : VK} {E : XK}
/-- signs that are drawn: any ones, so many -/
def sp__law_signs (K : PySem.W.Frag) : Sp := fun vs H Q _ => ∃ (a : Addr) (ns : List Int) (z k : Nat), vs = [.ref a, .int 2, .int ((z : Nat) : Int), .int ((k : Nat) : Int)] ∧ SqL K H a (ns.map V.int) ∧ z ≤ 1000 ∧ k ≤ 20 ∧
  ∀ ts : List Int, Bytes ts → ts.length = z → RetL H Q (ts.map V.int)
theorem len__law_signs (h : sp__law_signs K vs H Q E) : vs.length = 4 := by
  obtain ⟨a, ns, z, k, rfl, _⟩ := h
  rfl
def t__law_signs (K : PySem.W.Frag) (W : WX) : TS :=
  (tSeq (tAsg (tLst tNil) (gName 4))
    (tSeq (tAsg (tC (.int 0)) (gName 5))
    (tSeq (tWhile (tTest (tOp rLtU (tCB (rLenK K) (tCons (tVar 4) tNil)) (tVar 2))) (tSeq (tAsg (tCl (sp__law_mixed K) [] W (tCons (tCl (sp__law_cell_at K) [] W (tCons (tVar 0) (tCons (tOp rAddU (tVar 1) (tOp rModU (tVar 5) (tC (.int 16)))) tNil))) (tCons (tVar 5) tNil))) (gName 6))
    (tSeq (tIfS ((tOr (tTest (tOp rGtU (tOp rModU (tVar 6) (tC (.int 3))) (tC (.int 0)))) (tTest (tOp (rEqU K) (tVar 4) (tLst tNil))))) (tSeq (tAsg (tOp rDivU (tVar 6) (tC (.int 3))) (gName 7))
    (tDrop (tBM K "list" rAppend (tVar 4) (tCons (tIf (tTest (tOp (rEqU K) (tVar 3) (tC (.int 0)))) (tOp rModU (tVar 7) (tC (.int 256))) (tOp rAddU (tOp rMulU (tC (.int 7)) (tOp rModU (tVar 7) (tVar 3))) (tVar 3))) tNil)))) (tSeq (tAsg (tOp rAddU (tC (.int 1)) (tOp rModU (tOp rDivU (tVar 6) (tC (.int 3))) (tCB (rMin2K) (tCons (tCB (rLenK K) (tCons (tVar 4) tNil)) (tCons (tOp (rIx K) (tLst (tCons (tC (.int 4)) (tCons (tC (.int 20)) (tCons (tC (.int 255)) tNil)))) (tOp rModU (tOp rDivU (tVar 6) (tC (.int 765))) (tC (.int 3)))) tNil))))) (gName 8))
    (tFor (iRng1 (tCons (tOp rAddU (tC (.int 1)) (tOp rModU (tOp rDivU (tVar 6) (tC (.int 2295))) (tOp (rIx K) (tLst (tCons (tC (.int 4)) (tCons (tC (.int 9)) (tCons (tC (.int 25)) tNil)))) (tOp rModU (tOp rDivU (tVar 6) (tC (.int 57375))) (tC (.int 3)))))) tNil)) (gName 9) (tDrop (tBM K "list" rAppend (tVar 4) (tCons (tOp (rIx K) (tVar 4) (tOp rSubU (tCB (rLenK K) (tCons (tVar 4) tNil)) (tVar 8))) tNil))))))
    (tAug 5 (tC (.int 1)) ipAddU))))
    (tRet (tSl (rSlK K) (tVar 4) tNoPart (tPart (tVar 2)))))))
theorem rd__law_signs (h : sp__law_signs K vs H Q E) : t__law_signs K W { nx := fun _ H' => Q .non H', rt := Q } (start ["_law_script", "_law_first", "_law_size", "_law_kinds", "_law_found", "_law_k", "_law_number", "_law_more", "_law_back", "_law_turn"] vs) H := by
  obtain ⟨a, ns, z, k, rfl, hS, hz, hk, q⟩ := h
  have hs := Hs.start H
  unfold t__law_signs
  walk_at "go"
  rename_i f H0 h0
  refine w_while (fun m σ' L' B' => ∃ (ts : List Int) (i : Nat) (w6 w7 w8 w9 : Option V), m = z - ts.length ∧ Bytes ts ∧ ts.length ≤ 2000 ∧ i ≤ ts.length ∧ σ' = [some (.ref a), some (.int 2), some (.int z), some (.int k), some (.ref f), some (.int ((i : Nat) : Int)), w6, w7, w8, w9] ∧ B' = H ∧ L' = [(f, .lst (ts.map V.int))]) z h0
    ⟨[], 0, none, none, none, none, by simp, fun _ h => (nomatch h), by simp, Nat.le_refl _, rfl, rfl, rfl⟩ ?_
  rintro m σ' L' B' H' ⟨ts, i, w6, w7, w8, w9, rfl, hb, hl, hi, rfl, rfl, rfl⟩ h
  have hS' := h.bl hS
  walk_at "go"
  rw [List.length_map]
  by_cases hlt : ts.length < z
  · refine i_t (decide_eq_true (by omega)) (w_turn ?_)
    walk_at "go"
    refine ⟨a, ns, _, rfl, hS', by omega, ?_⟩
    walk_at "go"
    refine ⟨_, _, rfl, by omega, by omega, fun x hx => ?_⟩
    obtain ⟨M, rfl⟩ := Int.eq_ofNat_of_zero_le hx
    have app : ∀ (x : Int) (w7 w8 w9 : Option V) (H2 : Hp), 0 ≤ x → x ≤ 255 → Hs B' [(f, .lst ((ts ++ [x]).map V.int))] H2 →
        NxI (fun m σ' L' B'' => ∃ (ts : List Int) (i : Nat) (w6 w7 w8 w9 : Option V), m = z - ts.length ∧ Bytes ts ∧ ts.length ≤ 2000 ∧ i ≤ ts.length ∧ σ' = [some (.ref a), some (.int 2), some (.int z), some (.int k), some (.ref f), some (.int ((i : Nat) : Int)), w6, w7, w8, w9] ∧ B'' = B' ∧ L' = [(f, .lst (ts.map V.int))]) (z - (ts.length + 1))
          [some (.ref a), some (.int 2), some (.int z), some (.int k), some (.ref f), some (.int (((i : Nat) : Int) + 1)), some (.int M), w7, w8, w9] H2 := by
      intro x w7 w8 w9 H2 h1 h2 h3
      refine ⟨_, _, ⟨ts ++ [x], i + 1, _, _, _, _, by rw [List.length_append, List.length_singleton], ?_, by rw [List.length_append, List.length_singleton]; omega, by rw [List.length_append, List.length_singleton]; omega, rfl, rfl, rfl⟩, h3⟩
      intro n hn
      rcases List.mem_append.mp hn with q | q
      · exact hb n q
      · rw [List.mem_singleton.mp q]
        exact ⟨h1, h2⟩
    have hm1 : ((M : Nat) : Int) / 3 = ((M / 3 : Nat) : Int) := by omega
    have hmk : 0 < k → ((M / 3 : Nat) : Int) % ((k : Nat) : Int) = ((M / 3 % k : Nat) : Int) := fun _ => by push_cast; rfl
    have hmk2 : 0 < k → M / 3 % k < k := fun h => Nat.mod_lt _ h
    walk_at "go"
    by_cases c1 : 0 < M % 3
    · refine i_t (decide_eq_true (by omega)) ?_
      walk_at "go"
      rw [hm1]
      by_cases ck : k = 0
      · refine i_t (decide_eq_true (by omega)) ?_
        walk_at "go"
        refine c_app0 h (small5 (by rw [List.length_map]; omega)) fun H2 h2 => ?_
        walk_at "go"
        refine ⟨_, ?_, app (((M / 3 : Nat) : Int) % 256) _ _ _ H2 (by omega) (by omega) (by rw [List.map_append]; exact h2)⟩
        omega
      · refine i_f (decide_eq_false (by omega)) ?_
        have e2 := hmk (by omega)
        have e3 := hmk2 (by omega)
        walk_at "go"
        refine c_app0 h (small5 (by rw [List.length_map]; omega)) fun H2 h2 => ?_
        walk_at "go"
        refine ⟨_, ?_, app (7 * (((M / 3 : Nat) : Int) % ((k : Nat) : Int)) + ((k : Nat) : Int)) _ _ _ H2 (by omega) (by omega) (by rw [List.map_append]; exact h2)⟩
        omega
    · refine i_f (decide_eq_false (by omega)) ?_
      walk_at "go"
      rename_i e0 H2 h2
      refine c_eqL ts [] (h2.sql (.tail _ (.head _))) (h2.sql (.head _)) ?_
      have h3 := h2.drop
      clear h2 h
      by_cases ce : ts = []
      · rw [decide_eq_true ce]
        walk_at "go"
        rw [hm1]
        by_cases ck : k = 0
        · refine i_t (decide_eq_true (by omega)) ?_
          walk_at "go"
          refine c_app0 h3 (small5 (by rw [List.length_map]; omega)) fun H4 h4 => ?_
          walk_at "go"
          refine ⟨_, ?_, app (((M / 3 : Nat) : Int) % 256) _ _ _ H4 (by omega) (by omega) (by rw [List.map_append]; exact h4)⟩
          omega
        · refine i_f (decide_eq_false (by omega)) ?_
          have e2 := hmk (by omega)
          have e3 := hmk2 (by omega)
          walk_at "go"
          refine c_app0 h3 (small5 (by rw [List.length_map]; omega)) fun H4 h4 => ?_
          walk_at "go"
          refine ⟨_, ?_, app (7 * (((M / 3 : Nat) : Int) % ((k : Nat) : Int)) + ((k : Nat) : Int)) _ _ _ H4 (by omega) (by omega) (by rw [List.map_append]; exact h4)⟩
          omega
      · rw [decide_eq_false ce]
        have hpos : 0 < ts.length := List.length_pos_iff.mpr ce
        obtain ⟨v1, hv1, hi1⟩ : ∃ v : Nat, (v = 4 ∨ v = 20 ∨ v = 255) ∧ atI [V.int 4, V.int 20, V.int 255] (((M : Nat) : Int) / 765 % 3) = some (.int ((v : Nat) : Int)) := by
          have hj : ((M : Nat) : Int) / 765 % 3 = 0 ∨ ((M : Nat) : Int) / 765 % 3 = 1 ∨ ((M : Nat) : Int) / 765 % 3 = 2 := by omega
          rcases hj with e | e | e
          · exact ⟨4, by omega, by rw [e]; rfl⟩
          · exact ⟨20, by omega, by rw [e]; rfl⟩
          · exact ⟨255, by omega, by rw [e]; rfl⟩
        obtain ⟨v2, hv2, hi2⟩ : ∃ v : Nat, (v = 4 ∨ v = 9 ∨ v = 25) ∧ atI [V.int 4, V.int 9, V.int 25] (((M : Nat) : Int) / 57375 % 3) = some (.int ((v : Nat) : Int)) := by
          have hj : ((M : Nat) : Int) / 57375 % 3 = 0 ∨ ((M : Nat) : Int) / 57375 % 3 = 1 ∨ ((M : Nat) : Int) / 57375 % 3 = 2 := by omega
          rcases hj with e | e | e
          · exact ⟨4, by omega, by rw [e]; rfl⟩
          · exact ⟨9, by omega, by rw [e]; rfl⟩
          · exact ⟨25, by omega, by rw [e]; rfl⟩
        obtain ⟨mn, emn, hmn1, hmn2⟩ : ∃ mn : Nat, (if ((v1 : Nat) : Int) < ((ts.length : Nat) : Int) then ((v1 : Nat) : Int) else ((ts.length : Nat) : Int)) = ((mn : Nat) : Int) ∧ 1 ≤ mn ∧ mn ≤ ts.length := by
          by_cases c : v1 < ts.length
          · exact ⟨v1, by rw [if_pos (by omega)], by omega, by omega⟩
          · exact ⟨ts.length, by rw [if_neg (by omega)], by omega, by omega⟩
        obtain ⟨bk, ebk, hbk⟩ : ∃ bk : Nat, ((M : Nat) : Int) / 3 % ((mn : Nat) : Int) = ((bk : Nat) : Int) ∧ bk < mn := ⟨M / 3 % mn, by push_cast; rfl, Nat.mod_lt _ (by omega)⟩
        obtain ⟨ct, ect, hct⟩ : ∃ ct : Nat, ((M : Nat) : Int) / 2295 % ((v2 : Nat) : Int) = ((ct : Nat) : Int) ∧ ct < v2 := ⟨M / 2295 % v2, by push_cast; rfl, Nat.mod_lt _ (by omega)⟩
        walk_at "go"
        rw [List.length_map, emn]
        walk_at "go"
        rw [ebk, ect]
        rename_i l1 H5 h5 l2 H6 h6
        have h7 := h6.drop.drop
        clear h6 h5 h3
        refine ⟨_, rfl, by omega, by omega, ?_⟩
        rw [show (1 + ((ct : Nat) : Int)).toNat = 1 + ct by omega]
        refine w_forR (fun j σ' L' B'' => ∃ (us : List Int) (w9 : Option V), us.length = ts.length + j ∧ Bytes us ∧ B'' = B' ∧ L' = [(f, .lst (us.map V.int))] ∧
          σ' = [some (.ref a), some (.int 2), some (.int z), some (.int k), some (.ref f), some (.int ((i : Nat) : Int)), some (.int M), w7, some (.int (1 + ((bk : Nat) : Int))), w9]) h7 ⟨ts, _, rfl, hb, rfl, rfl, rfl⟩ ?_ ?_
        · rintro j σ' L' B'' H8 hj ⟨us, w9, hu, hub, rfl, rfl, rfl⟩ h8
          walk_at "go"
          rw [List.length_map]
          have hlt2 : us.length - (1 + bk) < us.length := by omega
          refine c_ixL (h8.sql (.head _)) (at_i (k := us.length - (1 + bk)) (by omega) hlt2) ?_
          walk_at "go"
          refine c_app0 h8 (small5 (by rw [List.length_map]; omega)) fun H9 h9 => ?_
          walk_at "go"
          refine ⟨_, _, ⟨us ++ [us.getD (us.length - (1 + bk)) 0], _, by rw [List.length_append, List.length_singleton]; omega, ?_, rfl, by rw [List.map_append]; rfl, rfl⟩, h9⟩
          intro n hn
          rcases List.mem_append.mp hn with q | q
          · exact hub n q
          · rw [List.mem_singleton.mp q, List.getD_eq_getElem?_getD, List.getElem?_eq_getElem hlt2]
            exact hub _ (List.getElem_mem hlt2)
        · rintro σ' L' B'' H8 ⟨us, w9, hu, hub, rfl, rfl, rfl⟩ h8
          walk_at "go"
          refine ⟨_, ?_, _, _, ⟨us, i + 1, _, _, _, _, rfl, hub, by omega, by omega, rfl, rfl, rfl⟩, h8⟩
          omega
  · refine i_f (decide_eq_false (by omega)) ?_
    walk_at "go"
    rename_i p H2 h2
    rw [cut_take] at h2
    refine h2.rl (.head _) (q (ts.take z) (fun n hn => hb n (List.mem_of_mem_take hn)) ?_)
    rw [List.length_take]
    omega
end L2.BR

namespace L2.BR
open PySem PySem.Spec PyProof.Rows L2.BP
variable {K : PySem.W.Frag} {W : WX} {vs : List V} {H : Hp} {Q : VK} {E : XK}
theorem flat_pc (c : Pc) : (pcV c).all L2.BP.flatV = true := by
  cases c with
  | sign n =>
    show (L2.BP.flatV (.str "sign") && (L2.BP.flatV (.int n) && true)) = true
    rw [show L2.BP.flatV (.str "sign") = true by decide +kernel]
    rfl
  | copy b s =>
    show (L2.BP.flatV (.str "copy") && (L2.BP.flatV (.int _) && (L2.BP.flatV (.int _) && true))) = true
    rw [show L2.BP.flatV (.str "copy") = true by decide +kernel]
    rfl
theorem ld_tups : ∀ {xs : List V} {ps : List Pc}, Tups K H xs (ps.map pcV) → LD K H 3 xs
  | _, [], .nil => .nil
  | _, c :: ps, .cons h t => .cons (.tup h (.flat (flat_pc c))) (ld_tups t)
/-- a list of pieces that is refused behind ws -/
def Odd15 (K : PySem.W.Frag) (H : Hp) (v : V) (ws : List Int) : Prop := ∃ (l : Addr) (xs : List V) (o : Option (List Pc)), v = .ref l ∧ SqL K H l xs ∧ xs.length ≤ 100 ∧ PT K H v o ∧ textR ws o = none ∧ LD K H 3 xs
theorem Odd15.same {H' : Hp} {v : V} {ws : List Int} (h : Odd15 K H v ws) (s : Same H H') : Odd15 K H' v ws := by
  obtain ⟨l, xs, o, rfl, h1, h2, h3, h4, h5⟩ := h
  exact ⟨l, xs, o, rfl, s.seq h1, h2, h3.same s, h4, h5.same s⟩
structure St15 (K : PySem.W.Frag) (H : Hp) (a b ol kl : Addr) (xs oxs : List V) (ps : List Pc) (oo : Option (List Pc)) (ws : List Int) (w : V) : Prop where
  hA : H a = some (.lst xs)
  hB : H b = some (.lst (ws.map V.int))
  hT : Tups K H xs (ps.map pcV)
  o1 : SqL K H ol oxs
  hk : SqL K H kl oxs
  o3 : PT K H (.ref ol) oo
  o5 : LD K H 3 oxs
  w : OddW K H w
theorem St15.same {H' : Hp} {a b ol kl : Addr} {xs oxs : List V} {ps : List Pc} {oo : Option (List Pc)} {ws : List Int} {w : V} (h : St15 K H a b ol kl xs oxs ps oo ws w) (e : Same H H') : St15 K H' a b ol kl xs oxs ps oo ws w :=
  ⟨e _ _ h.hA, e _ _ h.hB, h.hT.same e, e.seq h.o1, e.seq h.hk, h.o3.same e, h.o5.same e, h.w.same e⟩
theorem text_zs {ws : List Int} {ts : List Int} (hw : Bytes ws) (ht : Bytes ts) : textR ws (some (pcs (ws ++ ts) ts.length ws.length)) = some ts ∧ (∀ c ∈ pcs (ws ++ ts) ts.length ws.length, Pc.ok c) ∧ (pcs (ws ++ ts) ts.length ws.length).length ≤ ts.length := by
  have hb : ∀ n ∈ ws ++ ts, 0 ≤ n ∧ n ≤ 255 := fun n hn => by
    rcases List.mem_append.mp hn with z | z
    · exact hw n z
    · exact ht n z
  have hl := pcs_length (ns := ws ++ ts) ts.length ws.length
  rw [List.length_append] at hl
  obtain ⟨z1, z2⟩ := pcs_told (ns := ws ++ ts) ts.length ws.length (by rw [List.length_append]; omega) (by rw [List.length_append]; omega)
  rw [List.take_left] at z1 z2
  refine ⟨?_, pcs_ok hb _ _, by omega⟩
  show (tells ws _).map _ = _
  rw [tells_told z2, z1]
  show some ((ws ++ ts).drop ws.length) = some ts
  rw [List.drop_left]
def sp__law_refused (K : PySem.W.Frag) : Sp := fun vs H Q _ => ∃ (a b : Addr) (xs : List V) (ps : List Pc) (ws ts : List Int) (num : Int), vs = [.ref a, .ref b, .int num] ∧ H a = some (.lst xs) ∧ Tups K H xs (ps.map pcV) ∧ (∀ c ∈ ps, Pc.ok c) ∧ ps.length ≤ 23 ∧
  H b = some (.lst (ws.map V.int)) ∧ Bytes ws ∧ ws.length ≤ 255 ∧ tells ws ps = some ts ∧ RetV H Q (.bl true)
theorem len__law_refused (h : sp__law_refused K vs H Q E) : vs.length = 3 := by
  obtain ⟨a, b, xs, ps, ws, ts, num, rfl, _⟩ := h
  rfl
def OddP (K : PySem.W.Frag) (H : Hp) (many num : Int) (v : V) : Prop := (IsPz K H v false ∧ OD K H 3 v) ∨ (many < 255 ∧ num % 3 = 0 ∧ ∃ (t : Addr) (b : Nat), v = .ref t ∧ SqT K H t (pcV (.copy b 3)) ∧ many < ((b : Nat) : Int) ∧ 1 ≤ b ∧ b ≤ 255)
theorem OddP.same {H' : Hp} {many num : Int} {v : V} (h : OddP K H many num v) (s : Same H H') : OddP K H' many num v := by
  rcases h with ⟨z1, z2⟩ | ⟨z1, z2, t, b, z3, z4, z5⟩
  · exact .inl ⟨z1.same s, z2.same s⟩
  · exact .inr ⟨z1, z2, t, b, z3, same_sqt s z4, z5⟩
theorem odd_before {l : Addr} {xs : List V} {v : V} {ps : List Pc} {ws : List Int} {num : Int} (h : SqL K H l ([v] ++ xs)) (hT : Tups K H xs (ps.map pcV)) (ho : ∀ c ∈ ps, Pc.ok c) (hl : ps.length ≤ 23)
    (hv : OddP K H ((ws.length : Nat) : Int) num v) : Odd15 K H (.ref l) ws := by
  have hx : xs.length = ps.length := by rw [hT.length, List.length_map]
  rcases hv with ⟨z1, z2⟩ | ⟨_, _, t, b, rfl, h1, h2, h3, h4⟩
  · exact ⟨l, _, none, rfl, h, by simp; omega, .odd (bs := false :: List.replicate ps.length true) h (.cons z1 (.tups hT ho)) rfl (by simp; omega), rfl, .cons z2 (ld_tups hT)⟩
  · have hT2 : Tups K H ([V.ref t] ++ xs) ((Pc.copy b 3 :: ps).map pcV) := .cons h1 hT
    refine ⟨l, _, some (.copy b 3 :: ps), rfl, h, by simp; omega, .good h hT2 (fun c hc => ?_) (by simp; omega), ?_, ld_tups hT2⟩
    · rcases List.mem_cons.mp hc with rfl | hc
      · exact ⟨h3, h4, by decide, by decide⟩
      · exact ho c hc
    · show (if b ≤ ws.length then tells (cpy b 3 ws) ps else none).map _ = none
      rw [if_neg (by omega)]
      rfl
theorem odd_behind {l : Addr} {xs : List V} {v : V} {ps : List Pc} {ws : List Int} (h : SqL K H l (xs ++ [v])) (hT : Tups K H xs (ps.map pcV)) (ho : ∀ c ∈ ps, Pc.ok c) (hl : ps.length ≤ 23) (hv : IsPz K H v false ∧ OD K H 3 v) : Odd15 K H (.ref l) ws := by
  have hx : xs.length = ps.length := by rw [hT.length, List.length_map]
  refine ⟨l, _, none, rfl, h, by simp; omega, .odd (bs := List.replicate ps.length true ++ [false]) h ((Pzs.tups hT ho).app (.cons hv.1 .nil)) (by simp) (by simp; omega), rfl, (ld_tups hT).app (.one hv.2)⟩
def t__law_refused (K : PySem.W.Frag) (W : WX) : TS :=
  (tSeq (tAsg (tOp rAddU (tLst (tCons (tCl (sp__law_odd_piece K) [] W (tCons (tVar 2) (tCons (tCB (rLenK K) (tCons (tVar 1) tNil)) tNil))) tNil)) (tVar 0)) (gName 3))
    (Evl.tCut (tIfS (tTest (tOp (rEqU K) (tOp rModU (tOp rDivU (tVar 2) (tC (.int 128))) (tC (.int 2))) (tC (.int 1)))) (tAsg (tOp rAddU (tVar 0) (tLst (tCons (tCl (sp__law_odd_piece K) [] W (tCons (tOp rAddU (tOp rMulU (tC (.int 3)) (tVar 2)) (tC (.int 1))) (tCons (tC (.int 0)) tNil))) tNil))) (gName 3)) tNext)
    (tSeq (tAsg (tCB (rListK K) (tCons (tVar 3) tNil)) (gName 4))
    (tSeq (tAsg (tCl (sp__law_odd_row K) [] W (tCons (tOp rDivU (tVar 2) (tC (.int 7))) (tCons (tVar 1) tNil))) (gName 5))
    (tSeq (tIfS ((tOr (tTest (tOp (rNeU K) (tCl (sp__law_told K) [] W (tCons (tVar 3) (tCons (tVar 1) tNil))) (tTup (tCons (tC (.str "refused")) (tCons (tLst (tCons (tC (.str "pieces")) tNil)) tNil))))) (tTest (tOp (rNeU K) (tVar 3) (tVar 4))))) (tRet (tC (.bl false))) tNext)
    (tSeq (tFor (iList K (tLst (tCons (tC .non) (tCons (tCB (rTupleK K) (tCons (tVar 0) tNil)) (tCons (tDNewK) (tCons (tC (.str "pieces")) (tCons (tC (.int 5)) (tCons (tC (.bl true)) tNil)))))))) (gName 6) (tIfS (tTest (tOp (rNeU K) (tCl (sp__law_told K) [] W (tCons (tVar 6) (tCons (tVar 1) tNil))) (tTup (tCons (tC (.str "refused")) (tCons (tLst (tCons (tC (.str "pieces")) tNil)) tNil))))) (tRet (tC (.bl false))) tNext))
    (tSeq (tIfS ((tOr (tTest (tOp (rNeU K) (tCl (sp__law_told K) [] W (tCons (tVar 3) (tCons (tVar 5) tNil))) (tTup (tCons (tC (.str "refused")) (tCons (tLst (tCons (tC (.str "row")) tNil)) tNil))))) (tTest (tOp (rNeU K) (tCl (sp__law_told K) [] W (tCons (tVar 0) (tCons (tVar 5) tNil))) (tTup (tCons (tC (.str "refused")) (tCons (tLst (tCons (tC (.str "row")) tNil)) tNil))))))) (tRet (tC (.bl false))) tNext)
    (Evl.tCut (tIfS (tTest (tOp (rEqU K) (tVar 5) (tOp rMulU (tLst (tCons (tC (.int 0)) tNil)) (tC (.int 256))))) (tIfS (tTest (tOp (rNeU K) (tCl (sp__law_told K) [] W (tCons (tCl (sp__law_cut K) [] W (tCons (tVar 5) (tCons (tVar 1) tNil))) (tCons (tVar 1) tNil))) (tVar 5))) (tRet (tC (.bl false))) tNext) (tIfS (tTest (tOp (rNeU K) (tCl (sp__law_cut K) [] W (tCons (tVar 5) (tCons (tVar 1) tNil))) (tTup (tCons (tC (.str "refused")) (tCons (tLst (tCons (tC (.str "row")) tNil)) tNil))))) (tRet (tC (.bl false))) tNext))
    (tSeq (tAsg (tOp rAddU (tCB (rLenK K) (tCons (tVar 1) tNil)) (tCB (rLenK K) (tCons (tCl (sp__law_text K) [] W (tCons (tVar 0) (tCons (tVar 1) tNil))) tNil))) (gName 7))
    (tSeq (tIfS ((tAnd (tTest (tOp rLtU (tVar 7) (tC (.int 255)))) (tTest (tOp (rNeU K) (tCl (sp__law_told K) [] W (tCons (tOp rAddU (tVar 0) (tLst (tCons (tTup (tCons (tC (.str "copy")) (tCons (tOp rAddU (tVar 7) (tC (.int 1))) (tCons (tC (.int 3)) tNil)))) tNil))) (tCons (tVar 1) tNil))) (tTup (tCons (tC (.str "refused")) (tCons (tLst (tCons (tC (.str "pieces")) tNil)) tNil))))))) (tRet (tC (.bl false))) tNext)
    (tRet ((tAndV (tOp (rEqU K) (tCl (sp__law_cut K) [] W (tCons (tLst (tCons (tC (.int 5)) (tCons (tC (.int 6)) tNil))) (tCons (tVar 5) tNil))) (tTup (tCons (tC (.str "refused")) (tCons (tLst (tCons (tC (.str "row")) tNil)) tNil)))) (tOp (rEqU K) (tCl (sp__law_cut K) [] W (tCons (tVar 5) (tCons (tVar 5) tNil))) (tTup (tCons (tC (.str "refused")) (tCons (tLst (tCons (tC (.str "row")) tNil)) tNil)))))))))))))))))
theorem rd__law_refused (h : sp__law_refused K vs H Q E) : t__law_refused K (fun c d _ H2 => E c d H2) { nx := fun _ H' => Q .non H', rt := Q } (start ["_law_pieces", "_law_before", "_law_number", "_law_odd", "_law_kept", "_law_window", "_law_thing", "_law_many"] vs) H := by
  obtain ⟨a, b, xs, ps, ws, ts, num, rfl, hA, hT, ho, hpl, hB, hwb, hwl, hts, q⟩ := h
  have hs := Hs.start H
  have hx : xs.length = ps.length := by rw [hT.length, List.length_map]
  have hSa : SqL K H a xs := .of hA
  have hSb : SqL K H b (ws.map V.int) := .of hB
  unfold t__law_refused
  walk_at "go"
  rw [List.length_map]
  refine ⟨_, _, rfl, by omega, by omega, fun v H1 e1 hv => ?_⟩
  have hv : OddP K H1 ((ws.length : Nat) : Int) num v := hv
  have hA1 := e1 _ _ hA
  have hB1 := e1 _ _ hB
  have hT1 := hT.same e1
  have h1 := Hs.start H1
  clear hs
  walk_at "go"
  rename_i l2 H2 h2
  refine c_addL h2 (h2.get (.head _)) (h2.ex _ _ hA1) (small6' (by simp; omega)) fun l3 H3 h3 => ?_
  have odd3 := odd_before (h3.sql (K := K) (.head _)) (hT1.same h3.ex) ho hpl (hv.same h3.ex)
  have hA3 := h3.ex _ _ hA1
  have hB3 := h3.ex _ _ hB1
  have hT3 := hT1.same h3.ex
  have q3 : ∀ H', Same H3 H' → Q (.bl true) H' := fun H' e => q H' ((e1.trans h3.ex).trans e)
  have h4 := Hs.start H3
  clear h1 h2 h3 hv hA hB hT hA1 hB1 hT1 q hSa hSb e1
  walk_at "go"
  refine w_cut (fun σ2 H6 => ∃ ov, Same H3 H6 ∧ Odd15 K H6 ov ws ∧ σ2 = [some (.ref a), some (.ref b), some (.int num), some ov, none, none, none, none]) ?_ ?_
  · walk_at "go"
    by_cases c : num / 128 % 2 = 1
    · refine i_t (decide_eq_true c) ?_
      walk_at "go"
      refine ⟨_, _, rfl, by omega, by omega, fun v H5 e5 hv => ?_⟩
      have hv : IsPz K H5 v false ∧ OD K H5 3 v := by
        rcases hv with z | ⟨_, z, _⟩
        · exact z
        · omega
      have hA5 := e5 _ _ hA3
      have hT5 := hT3.same e5
      have h5 := Hs.start H5
      walk_at "go"
      rename_i l6 H6 h6
      refine c_addL h6 (h6.ex _ _ hA5) (h6.get (.head _)) (small6' (by simp; omega)) fun l7 H7 h7 => ?_
      walk_at "go"
      exact ⟨_, e5.trans h7.ex, odd_behind (h7.sql (.head _)) (hT5.same h7.ex) ho hpl ⟨hv.1.same h7.ex, hv.2.same h7.ex⟩, rfl⟩
    · refine i_f (decide_eq_false c) ?_
      walk_at "go"
      exact ⟨_, Same.refl _, odd3, rfl⟩
  clear h4 odd3
  rintro σ2 H6 ⟨ov, e6, hodd, rfl⟩
  have hA6 := e6 _ _ hA3
  have hB6 := e6 _ _ hB3
  have hT6 := hT3.same e6
  have q6 : ∀ H', Same H6 H' → Q (.bl true) H' := fun H' e => q3 H' (e6.trans e)
  have h6 := Hs.start H6
  clear hA3 hB3 hT3 q3 e6
  obtain ⟨ol, oxs, oo, rfl, o1, o2, o3, o4, o5⟩ := hodd
  walk_at "go"
  rename_i kl H7 h7
  have hk7 := h7.sql (K := K) (.head _)
  refine ⟨_, _, _, rfl, h7.ex _ _ hB6, hwb, hwl, fun w H8 e8 hw => ?_⟩
  have e8' := h7.ex.trans e8
  have q8 : ∀ H', Same H8 H' → Q (.bl true) H' := fun H' e => q6 H' (e8'.trans e)
  have S8 : St15 K H8 a b ol kl xs oxs ps oo ws w := ⟨e8' _ _ hA6, e8' _ _ hB6, hT6.same e8', e8'.seq o1, e8.seq hk7, o3.same e8', o5.same e8', hw⟩
  have h8 := Hs.start H8
  clear h6 h7 hk7 hA6 hB6 hT6 o1 o3 o5 q6 e8 e8' hw
  have hSb : SqL K H8 b (ws.map V.int) := .of S8.hB
  have bw : Tg.isWin (.lst (ws.map V.int)) = true := isWin_ints hwb hwl
  have refuse : ∀ {ws2 : List Int} {o : Option (List Pc)} {P : List Int → Prop}, textR ws o = none → Tg.items (.lst (ws.map V.int)) = ws2.map V.int → (∀ ts, textR ws2 o = some ts → P ts) := fun o4 ew ts2 z => by
    have := map_int_inj ew
    subst this
    rw [o4] at z
    cases z
  walk_at "go"
  refine ⟨_, _, oo, .lst (ws.map V.int), rfl, S8.o3, .lst hSb, ok_ints (by omega), (fun z => by rw [bw] at z; cases z), fun ws2 _ ew => ⟨refuse o4 ew, fun _ H9 t9 l9 e9 hT9 hL9 => ?_⟩⟩
  have S9 := S8.same e9
  have q9 : ∀ H', Same H9 H' → Q (.bl true) H' := fun H' e => q8 H' (e9.trans e)
  have h9 := Hs.start H9
  clear S8 q8 hSb h8
  walk_at "go"
  rename_i l10 H10 h10 t11 H11 h11
  refine c_neRf (.inl rfl) (same_sqt h11.ex hT9) (h11.bl hL9) (h11.sqt (.head _)) (h11.sql (.tail _ (.head _))) ?_
  have S11 := S9.same h11.ex
  have q11 : ∀ H', Same H11 H' → Q (.bl true) H' := fun H' e => q9 H' (h11.ex.trans e)
  clear S9 q9 h9 h10 hT9 hL9
  have h12 := Hs.start H11
  clear h11
  walk_at "go"
  refine c_neSame S11.o1 S11.hk S11.o5 (by decide) ?_
  have hSa : SqL K H11 a xs := .of S11.hA
  walk_at "go"
  refine c_tupL h12 hSa fun tp H13 h13 => ?_
  walk_at "go"
  refine c_dnewK h13 fun dp H14 h14 => ?_
  walk_at "go"
  rename_i lp H15 h15
  have S15 := S11.same h15.ex
  have q15 : ∀ H', Same H15 H' → Q (.bl true) H' := fun H' e => q11 H' (h15.ex.trans e)
  have all15 : ∀ x ∈ [V.non, V.ref tp, V.ref dp, V.str "pieces", V.int 5, V.bl true], PT K H15 x none := fun x hx => by
    simp only [List.mem_cons, List.not_mem_nil, or_false] at hx
    rcases hx with rfl | rfl | rfl | rfl | rfl | rfl
    · exact .no .non (fun _ z => nomatch z)
    · exact .no (.tup (h15.sqt (.tail _ (.tail _ (.head _))))) (fun _ z => nomatch z)
    · exact .no (.dic (h15.get (.tail _ (.head _)))) (fun _ z => nomatch z)
    · exact .no (.str _) (fun _ z => nomatch z)
    · exact .no (.int _) (fun _ z => nomatch z)
    · exact .no (.bl _) (fun _ z => nomatch z)
  have hL15 := h15.sql (K := K) (.head _)
  have h16 := Hs.start H15
  clear S11 q11 h12 h13 h14 h15 hSa
  generalize [V.non, V.ref tp, V.ref dp, V.str "pieces", V.int 5, V.bl true] = its at *
  refine w_forL id its (fun pre σ' L' B' => ∃ w6, Same H15 B' ∧ σ' = [some (.ref a), some (.ref b), some (.int num), some (.ref ol), some (.ref kl), some w, w6, none] ∧ L' = []) h16 ⟨none, Same.refl _, rfl, rfl⟩ ?_ ?_ ?_
  · rintro pre post σ' L' B' H' _ ⟨w6, e, rfl, rfl⟩ h
    rw [List.map_id]
    exact h.bl (e.seq hL15)
  · rintro pre v post σ' L' B' H' e ⟨w6, eB, rfl, rfl⟩ h
    have eH := eB.trans h.ex
    have S := S15.same eH
    have hv : PT K H' v none := (all15 v (by rw [e]; simp)).same eH
    have hSb : SqL K H' b (ws.map V.int) := .of S.hB
    have hg := Hs.start H'
    rw [id_eq]
    clear h eB
    walk_at "go"
    refine ⟨_, _, none, .lst (ws.map V.int), rfl, hv, .lst hSb, ok_ints (by omega), (fun z => by rw [bw] at z; cases z), fun ws2 _ ew => ⟨(fun _ z => nomatch z), fun _ H9 t9 l9 e9 hT9 hL9 => ?_⟩⟩
    have hg9 := Hs.start H9
    walk_at "go"
    rename_i l10 H10 h10 t11 H11 h11
    refine c_neRf (.inl rfl) (same_sqt h11.ex hT9) (h11.bl hL9) (h11.sqt (.head _)) (h11.sql (.tail _ (.head _))) ?_
    walk_at "go"
    exact ⟨_, _, ⟨_, eH.trans (e9.trans h11.ex), rfl, rfl⟩, Hs.start _⟩
  rintro σ' L' B' H17 ⟨w6, eB, rfl, rfl⟩ h
  have S17 := S15.same (eB.trans h.ex)
  have q17 : ∀ H', Same H17 H' → Q (.bl true) H' := fun H' e => q15 H' ((eB.trans h.ex).trans e)
  have h17 := Hs.start H17
  clear S15 q15 h16 h hL15 all15 eB
  obtain ⟨k, w1, w2, w3, w4⟩ := S17.w
  walk_at "go"
  refine ⟨_, _, oo, k, rfl, S17.o3, w1, w2, fun _ H18 t18 l18 e18 hT18 hL18 => ?_, fun ws2 z => by rw [w3] at z; cases z⟩
  have h18 := Hs.start H18
  walk_at "go"
  rename_i l19 H19 h19 t20 H20 h20
  refine c_neRf (.inr rfl) (same_sqt h20.ex hT18) (h20.bl hL18) (h20.sqt (.head _)) (h20.sql (.tail _ (.head _))) ?_
  have e20 := e18.trans h20.ex
  have S20 := S17.same e20
  have q20 : ∀ H', Same H20 H' → Q (.bl true) H' := fun H' e => q17 H' (e20.trans e)
  have w1 := w1.same e20
  have w2 := Tg.ok_same e20 w2
  clear S17 q17 h17 h18 h19 hT18 hL18
  have h21 := Hs.start H20
  walk_at "go"
  refine ⟨_, _, some ps, k, rfl, .good (.of S20.hA) S20.hT ho (by omega), w1, w2, fun _ H18 t18 l18 e18 hT18 hL18 => ?_, fun ws2 z => by rw [w3] at z; cases z⟩
  have h18 := Hs.start H18
  walk_at "go"
  rename_i l19 H19 h19 t22 H22 h22
  refine c_neRf (.inr rfl) (same_sqt h22.ex hT18) (h22.bl hL18) (h22.sqt (.head _)) (h22.sql (.tail _ (.head _))) ?_
  have e22 := e18.trans h22.ex
  have S22 := S20.same e22
  have q22 : ∀ H', Same H22 H' → Q (.bl true) H' := fun H' e => q20 H' (e22.trans e)
  have w1 := w1.same e22
  have w2 := Tg.ok_same e22 w2
  have e22b := e20.trans e22
  clear S20 q20 h21 h18 h19 hT18 hL18 h20 h22
  have h23 := Hs.start H22
  have hSb : SqL K H22 b (ws.map V.int) := .of S22.hB
  walk_at "go"
  refine w_cut (fun σ2 H6 => Same H22 H6 ∧ σ2 = [some (.ref a), some (.ref b), some (.int num), some (.ref ol), some (.ref kl), some w, w6, none]) ?_ ?_
  · walk_at "go"
    rename_i l24 H24 h24
    refine c_rep h24 (h24.get (.head _)) (by decide) (by decide) (small6' (by rw [List.length_singleton]; decide)) fun l25 H25 h25 => ?_
    rw [List.flatten_replicate_singleton, show List.replicate (256 : Int).toNat (V.int 0) = zs256 from List.map_replicate.symm] at h25
    rcases w4 with ⟨rfl, wl, rfl⟩ | ⟨w5, w7⟩
    · cases w1 with
      | lst w1 =>
      have hW := h25.bl w1
      refine c_eqL _ _ hW (h25.sql (.head _)) ?_
      rw [decide_eq_true rfl]
      have h26 := Hs.start H25
      have hz : Bytes (List.replicate 256 (0 : Int)) := fun n hn => by
        rw [List.eq_of_mem_replicate hn]
        exact ⟨by decide, by decide⟩
      obtain ⟨t1, t2, t3⟩ := text_zs hwb hz
      have hSb := h25.bl hSb
      walk_at "go"
      refine ⟨_, _, .lst zs256, .lst (ws.map V.int), rfl, .lst hW, ok_ints (by rw [List.length_replicate]; decide), .lst hSb, ok_ints (by omega), fun ts1 ws1 ez1 _ _ ew1 pl pxs H27 e27 hp27 hT27 => ?_, fun z => ?_⟩
      · have ew := map_int_inj ew1
        subst ew
        have ez := map_int_inj (Tg.lst.inj ez1)
        subst ez
        have h28 := Hs.start H27
        have hSb := e27.seq hSb
        have hW := e27.seq hW
        walk_at "go"
        refine ⟨_, _, _, .lst (ws.map V.int), rfl, .good (.of hp27) hT27 t2 (by have l256 : (List.replicate 256 (0 : Int)).length = 256 := List.length_replicate; omega), .lst hSb, ok_ints (by omega), (fun z => by rw [bw] at z; cases z), fun ws2 _ ew => ?_⟩
        have ew := map_int_inj ew
        subst ew
        refine ⟨fun ts2 z => ?_, fun z => by rw [t1] at z; cases z⟩
        rw [t1] at z
        cases z
        refine retL h28 fun l29 H29 h29 => ?_
        have hW := h29.bl hW
        walk_at "go"
        exact ⟨h25.ex.trans (e27.trans h29.ex), rfl⟩
      · rcases z with z | z
        · exact absurd z (by decide +kernel)
        · rw [bw] at z
          cases z
    · refine w7 _ _ _ (e22b.trans h25.ex) (h25.sql (.head _)) ?_
      have h26 := Hs.start H25
      have hSb := h25.bl hSb
      have w1 := w1.same h25.ex
      have w2 := Tg.ok_same h25.ex w2
      walk_at "go"
      refine ⟨_, _, k, .lst (ws.map V.int), rfl, w1, w2, .lst hSb, ok_ints (by omega), fun ts1 ws1 ez1 hb1 _ _ => ?_, fun _ H18 t18 l18 e18 hT18 hL18 => ?_⟩
      · exfalso
        rw [ez1] at w5
        have z : (ts1.map V.int).all byteV = true := by
          rw [List.all_map, List.all_eq_true]
          intro n hn
          obtain ⟨z1, z2⟩ := hb1 n hn
          show (decide (0 ≤ n) && decide (n ≤ 255)) = true
          rw [decide_eq_true z1, decide_eq_true z2]
          rfl
        rw [show Tg.isRow (.lst (ts1.map V.int)) = (ts1.map V.int).all byteV from rfl, z] at w5
        cases w5
      · have h18 := Hs.start H18
        walk_at "go"
        rename_i l19 H19 h19 t22 H22 h22
        refine c_neRf (.inr rfl) (same_sqt h22.ex hT18) (h22.bl hL18) (h22.sqt (.head _)) (h22.sql (.tail _ (.head _))) ?_
        walk_at "go"
        exact ⟨h25.ex.trans (e18.trans h22.ex), rfl⟩
  rintro σ2 H24 ⟨e24, rfl⟩
  have S24 := S22.same e24
  have q24 : ∀ H', Same H24 H' → Q (.bl true) H' := fun H' e => q22 H' (e24.trans e)
  have w1 := w1.same e24
  have w2 := Tg.ok_same e24 w2
  clear S22 q22 hSb h23 w4 e22b
  have hSa : SqL K H24 a xs := .of S24.hA
  have hSb : SqL K H24 b (ws.map V.int) := .of S24.hB
  have h24 := Hs.start H24
  have htl := tells_length ho hts
  have htp : ts.length = ws.length + (ts.drop ws.length).length := by
    obtain ⟨r, rfl⟩ := tells_pre hts
    rw [List.drop_left, List.length_append]
  walk_at "go"
  refine ⟨a, b, xs, ps, ws, ts, rfl, hSa, S24.hT, ho, by omega, hSb, hwl, hts, retL h24 fun l25 H25 h25 => ?_⟩
  walk_at "go"
  rw [List.length_map, List.length_map, show ((ws.length : Nat) : Int) + (((ts.drop ws.length).length : Nat) : Int) = ((ts.length : Nat) : Int) by omega]
  by_cases c : ts.length < 255
  · refine i_t (decide_eq_true (by omega)) ?_
    have e25 := h25.ex
    have S25 := S24.same e25
    have h25 := Hs.start H25
    walk_at "go"
    rename_i t26 H26 h26 l27 H27 h27
    refine c_addL h27 (h27.ex _ _ S25.hA) (h27.get (.head _)) (small6' (by simp; omega)) fun l28 H28 h28 => ?_
    have hSb := h28.bl (SqL.of (K := K) S25.hB)
    have hT2 : Tups K H28 (xs ++ [V.ref t26]) ((ps ++ [Pc.copy (ts.length + 1) 3]).map pcV) := by
      rw [List.map_append]
      exact (S25.hT.same h28.ex).snoc (by have z := h28.sqt (K := K) (.tail _ (.tail _ (.head _))); exact z)
    have e28 := e25.trans h28.ex
    have h29 := Hs.start H28
    walk_at "go"
    refine ⟨_, _, some (ps ++ [Pc.copy (ts.length + 1) 3]), .lst (ws.map V.int), rfl, .good (h28.sql (.head _)) hT2 (fun c' hc => ?_) (by rw [List.length_append, List.length_singleton]; omega), .lst hSb, ok_ints (by omega), (fun z => by rw [bw] at z; cases z), fun ws2 _ ew => ⟨refuse ?_ ew, fun _ H18 t18 l18 e18 hT18 hL18 => ?_⟩⟩
    · rcases List.mem_append.mp hc with z | z
      · exact ho c' z
      · rw [List.mem_singleton.mp z]
        exact ⟨by omega, by omega, by decide, by decide⟩
    · show (tells ws (ps ++ [Pc.copy (ts.length + 1) 3])).map _ = none
      rw [tells_append, hts]
      show (if ts.length + 1 ≤ ts.length then some (cpy (ts.length + 1) 3 ts) else none).map _ = none
      rw [if_neg (by omega)]
      rfl
    have h18 := Hs.start H18
    walk_at "go"
    rename_i l19 H19 h19 t22 H22 h22
    refine c_neRf (.inl rfl) (same_sqt h22.ex hT18) (h22.bl hL18) (h22.sqt (.head _)) (h22.sql (.tail _ (.head _))) ?_
    have eB := e28.trans (e18.trans h22.ex)
    clear h18 h19 hT18 hL18 h29 h28 h27 h26 h25 h24 hSb hT2
    have hB := Hs.start H22
    clear h22
    walk_at "go"
    rename_i lz Hz hz
    have w1z := w1.same (eB.trans hz.ex)
    have w2z := Tg.ok_same (eB.trans hz.ex) w2
    refine ⟨_, _, .lst (([5, 6] : List Int).map V.int), k, rfl, .lst (hz.sql (.head _)), ok_ints (by decide), w1z, w2z, (fun ts1 ws1 _ _ z => by rw [w3] at z; cases z), fun _ H30 t30 l30 e30 hT30 hL30 => ?_⟩
    have h30 := Hs.start H30
    walk_at "go"
    rename_i l31 H31 h31 t32 H32 h32
    refine c_eqRf (.inr rfl) (same_sqt h32.ex hT30) (h32.bl hL30) (h32.sqt (.head _)) (h32.sql (.tail _ (.head _))) ?_
    have w1y := w1z.same (e30.trans h32.ex)
    have w2y := Tg.ok_same (e30.trans h32.ex) w2z
    have h33 := Hs.start H32
    walk_at "go"
    refine ⟨_, _, k, k, rfl, w1y, w2y, w1y, w2y, (fun ts1 ws1 _ _ z => by rw [w3] at z; cases z), fun _ H34 t34 l34 e34 hT34 hL34 => ?_⟩
    have h34 := Hs.start H34
    walk_at "go"
    rename_i l35 H35 h35 t36 H36 h36
    refine c_eqRf (.inr rfl) (same_sqt h36.ex hT34) (h36.bl hL34) (h36.sqt (.head _)) (h36.sql (.tail _ (.head _))) ?_
    exact q24 _ (eB.trans (hz.ex.trans ((e30.trans h32.ex).trans (e34.trans h36.ex))))
  · refine i_f (decide_eq_false (by omega)) ?_
    have eB := h25.ex
    clear h24
    have hB := Hs.start H25
    clear h25
    walk_at "go"
    rename_i lz Hz hz
    have w1z := w1.same (eB.trans hz.ex)
    have w2z := Tg.ok_same (eB.trans hz.ex) w2
    refine ⟨_, _, .lst (([5, 6] : List Int).map V.int), k, rfl, .lst (hz.sql (.head _)), ok_ints (by decide), w1z, w2z, (fun ts1 ws1 _ _ z => by rw [w3] at z; cases z), fun _ H30 t30 l30 e30 hT30 hL30 => ?_⟩
    have h30 := Hs.start H30
    walk_at "go"
    rename_i l31 H31 h31 t32 H32 h32
    refine c_eqRf (.inr rfl) (same_sqt h32.ex hT30) (h32.bl hL30) (h32.sqt (.head _)) (h32.sql (.tail _ (.head _))) ?_
    have w1y := w1z.same (e30.trans h32.ex)
    have w2y := Tg.ok_same (e30.trans h32.ex) w2z
    have h33 := Hs.start H32
    walk_at "go"
    refine ⟨_, _, k, k, rfl, w1y, w2y, w1y, w2y, (fun ts1 ws1 _ _ z => by rw [w3] at z; cases z), fun _ H34 t34 l34 e34 hT34 hL34 => ?_⟩
    have h34 := Hs.start H34
    walk_at "go"
    rename_i l35 H35 h35 t36 H36 h36
    refine c_eqRf (.inr rfl) (same_sqt h36.ex hT34) (h36.bl hL34) (h36.sqt (.head _)) (h36.sql (.tail _ (.head _))) ?_
    exact q24 _ (eB.trans (hz.ex.trans ((e30.trans h32.ex).trans (e34.trans h36.ex))))
theorem c_ne2 {l l2 p0 p1 q0 q1 : Addr} {xs ys : List V} (h1 : SqL K H l [.ref p0, .ref p1]) (h2 : SqL K H l2 [.ref q0, .ref q1]) (a1 : SqL K H p0 xs) (a2 : SqL K H q0 xs) (b1 : SqL K H p1 ys) (b2 : SqL K H q1 ys) (t : LD K H 3 xs) (u : LD K H 3 ys) (k : Q (.bl false) H) : rNeU K (.ref l) (.ref l2) H Q := by
  obtain ⟨ds, d1, d2, d3⟩ := t
  obtain ⟨es, e1, e2, e3⟩ := u
  have c : PyData.canLay0 (.list [.list ds, .list es]) = true := by simp [PyData.canLay0, PyData.canLayAll0, d2, e2]
  have e : PyData.depth (.list [.list ds, .list es]) ≤ 5 := by simp only [PyData.depth, PyData.depthAll]; omega
  refine c_neD (.lst h1 (.cons (.lst a1 d1) (.cons (.lst b1 e1) .nil))) (.lst h2 (.cons (.lst a2 d1) (.cons (.lst b2 e1) .nil))) (shapedS c e (by decide)) (shapedS c e (by decide)) ?_
  rw [eqvS c]
  exact k
def sp_law (K : PySem.W.Frag) : Sp := fun vs H Q _ => ∃ (a : Addr) (ns : List Int), vs = [.ref a] ∧ SqL K H a (ns.map V.int) ∧ ns.length ≤ 63 ∧ ∀ H', Q (.bl true) H'
theorem len_law (h : sp_law K vs H Q E) : vs.length = 1 := by
  obtain ⟨a, ns, rfl, _⟩ := h
  rfl
def t_law (K : PySem.W.Frag) (W : WX) : TS :=
  (tSeq (tAsg (tCl (sp__law_mixed K) [] W (tCons (tCl (sp__law_cell_at K) [] W (tCons (tVar 0) (tCons (tC (.int 0)) tNil))) (tCons (tC (.int 1)) tNil))) (gName 1))
    (tSeq (tAsg (tOp (rIx K) (tLst (tCons (tC (.int 0)) (tCons (tC (.int 3)) (tCons (tOp rModU (tOp rDivU (tVar 1) (tC (.int 4))) (tC (.int 30))) (tCons (tOp rSubU (tC (.int 255)) (tOp rModU (tOp rDivU (tVar 1) (tC (.int 4))) (tC (.int 3)))) tNil))))) (tOp rModU (tVar 1) (tC (.int 4)))) (gName 2))
    (tSeq (tAsg (tCl (sp__law_signs K) [] W (tCons (tVar 0) (tCons (tC (.int 2)) (tCons (tVar 2) (tCons (tOp (rIx K) (tLst (tCons (tC (.int 0)) (tCons (tC (.int 3)) tNil))) (tOp rModU (tOp rDivU (tVar 1) (tC (.int 97))) (tC (.int 2)))) tNil))))) (gName 3))
    (tSeq (tAsg (tCl (sp__law_drawn_pieces K) [] W (tCons (tVar 0) (tCons (tCB (rLenK K) (tCons (tVar 3) tNil)) tNil))) (gName 4))
    (tSeq (tAsg (tLst (tCons (tCB (rListK K) (tCons (tVar 4) tNil)) (tCons (tCB (rListK K) (tCons (tVar 3) tNil)) tNil))) (gName 5))
    (tSeq (tAsg (tCl (sp__law_told K) [] W (tCons (tOp (rIx K) (tVar 5) (tC (.int 0))) (tCons (tOp (rIx K) (tVar 5) (tC (.int 1))) tNil))) (gName 6))
    (tSeq (tAsg (tCl (sp__law_text K) [] W (tCons (tVar 4) (tCons (tVar 3) tNil))) (gName 7))
    (tSeq (tIfS ((tOr (tNot (tB (tCl (sp__law_rows K) [] W (tCons (tVar 6) (tCons (tVar 7) tNil))))) (tTest (tOp (rNeU K) (tVar 5) (tLst (tCons (tVar 4) (tCons (tVar 3) tNil))))))) (tRet (tC (.bl false))) tNext)
    (tSeq (tDrop (tBM0 K "list" rClear (tOp (rIx K) (tVar 5) (tC (.int 0)))))
    (tSeq (tDrop (tBM0 K "list" rClear (tOp (rIx K) (tVar 5) (tC (.int 1)))))
    (tSeq (tIfS ((tOr (tNot (tB (tCl (sp__law_rows K) [] W (tCons (tCl (sp__law_told K) [] W (tCons (tOp (rIx K) (tVar 5) (tC (.int 0))) (tCons (tOp (rIx K) (tVar 5) (tC (.int 1))) tNil))) (tCons (tLst tNil) tNil))))) (tNot (tB (tCl (sp__law_refused K) [] W (tCons (tVar 4) (tCons (tVar 3) (tCons (tOp rDivU (tVar 1) (tC (.int 8))) tNil)))))))) (tRet (tC (.bl false))) tNext)
    (tSeq (tAsg (tOp rMulU (tLst (tCons (tOp rModU (tOp rDivU (tVar 1) (tC (.int 3))) (tC (.int 256))) tNil)) (tOp rAddU (tC (.int 250)) (tOp rModU (tOp rDivU (tVar 1) (tC (.int 7))) (tC (.int 60))))) (gName 8))
    (tSeq (tAug 8 (tOp rMulU (tLst (tCons (tOp rModU (tOp rDivU (tVar 1) (tC (.int 11))) (tC (.int 256))) tNil)) (tOp rModU (tOp rDivU (tVar 1) (tC (.int 13))) (tC (.int 30)))) ipAddU)
    (tSeq (tIfS (tTest (tOp (rNeU K) (tCl (sp__law_told K) [] W (tCons (tCl (sp__law_cut K) [] W (tCons (tVar 8) (tCons (tVar 3) tNil))) (tCons (tVar 3) tNil))) (tVar 8))) (tRet (tC (.bl false))) tNext)
    (tSeq (tAsg (tCl (sp__law_drawn_pieces K) [] W (tCons (tVar 0) (tCons (tC (.int 0)) tNil))) (gName 9))
    (tSeq (tAsg (tLst (tCons (tCl (sp_text_of K) [.non] W (tCons (tVar 9) tNil)) (tCons (tCl (sp_text_of K) [] W (tCons (tVar 9) (tCons (tC .non) tNil))) (tCons (tCl (sp_text_of K) [] W (tCons (tVar 9) (tCons (tOp (rIx K) (tVar 5) (tC (.int 1))) tNil))) (tCons (tCl (sp__law_told K) [] W (tCons (tVar 4) (tCons (tVar 3) tNil))) tNil))))) (gName 10))
    (tSeq (tIfS (tTest (tOp (rNeU K) (tLc (iList K (tSl (rSlK K) (tVar 10) tNoPart (tPart (tC (.int 3))))) (gName 11) (tNot (tB (tCl (sp__law_rows K) [] WF (tCons (tVar 11) (tCons (tCl (sp__law_text K) [] WF (tCons (tVar 9) (tCons (tLst tNil) tNil))) tNil))))) (tVar 11) [11]) (tLst tNil))) (tRet (tC (.bl false))) tNext)
    (tSeq (tDrop (tBM K "list" rAppend (tOp (rIx K) (tVar 10) (tC (.int 3))) (tCons (tC (.int 0)) tNil)))
    (tRet (tCl (sp__law_rows K) [] W (tCons (tVar 6) (tCons (tVar 7) tNil))))))))))))))))))))))
theorem rd_law (h : sp_law K vs H Q E) : t_law K (fun c d _ H2 => E c d H2) { nx := fun _ H' => Q .non H', rt := Q } (start ["_law_script", "_law_number", "_law_ahead", "_law_before", "_law_pieces", "_law_handed", "_law_found", "_law_due", "_law_long_one", "_law_lone", "_law_told_here", "_law_one"] vs) H := by
  obtain ⟨a, ns, rfl, hS, hl, q⟩ := h
  have hs := Hs.start H
  unfold t_law
  walk_at "go"
  refine ⟨a, ns, _, rfl, hS, by decide, ?_⟩
  walk_at "go"
  refine ⟨_, _, rfl, by decide, by decide, fun N hN => ?_⟩
  walk_at "go"
  rename_i l1 H1 h1
  obtain ⟨z, hz, hzl⟩ : ∃ z : Nat, atI [V.int 0, V.int 3, V.int (N / 4 % 30), V.int (255 - N / 4 % 3)] (N % 4) = some (.int ((z : Nat) : Int)) ∧ z ≤ 255 := by
    obtain ⟨k, hk, hkl⟩ : ∃ k : Nat, N % 4 = ((k : Nat) : Int) ∧ k < 4 := ⟨(N % 4).toNat, by omega, by omega⟩
    rw [hk]
    rcases (by omega : k = 0 ∨ k = 1 ∨ k = 2 ∨ k = 3) with rfl | rfl | rfl | rfl
    · exact ⟨0, rfl, by omega⟩
    · exact ⟨3, rfl, by omega⟩
    · exact ⟨(N / 4 % 30).toNat, by rw [Int.toNat_of_nonneg (by omega)]; rfl, by omega⟩
    · exact ⟨(255 - N / 4 % 3).toNat, by rw [Int.toNat_of_nonneg (by omega)]; rfl, by omega⟩
  refine c_ixL (h1.sql (.head _)) hz ?_
  walk_at "go"
  rename_i l2 H2 h2
  obtain ⟨kk, hk, hkl⟩ : ∃ k : Nat, atI [V.int 0, V.int 3] (N / 97 % 2) = some (.int ((k : Nat) : Int)) ∧ k ≤ 20 := by
    obtain ⟨k, hk, hkl⟩ : ∃ k : Nat, N / 97 % 2 = ((k : Nat) : Int) ∧ k < 2 := ⟨(N / 97 % 2).toNat, by omega, by omega⟩
    rw [hk]
    rcases (by omega : k = 0 ∨ k = 1) with rfl | rfl
    · exact ⟨0, rfl, by omega⟩
    · exact ⟨3, rfl, by omega⟩
  refine c_ixL (h2.sql (.head _)) hk ?_
  have hS2 := h2.bl hS
  have h3 := Hs.start H2
  clear h1 h2 hs hS
  walk_at "go"
  refine ⟨a, ns, z, kk, rfl, hS2, by omega, hkl, fun ws hwb hwl => retL h3 fun b H4 h4 => ?_⟩
  have hB := h4.get (.head _)
  have hS4 := h4.bl hS2
  have h5 := Hs.start H4
  clear h3 h4 hS2 hz hk
  have hSb := SqL.of (K := K) hB
  have bw : Tg.isWin (.lst (ws.map V.int)) = true := isWin_ints hwb (by omega)
  walk_at "go"
  rw [List.length_map]
  refine ⟨a, ns, ws.length, rfl, hS4, by omega, fun ps hok hpl htl pl xs H6 e6 hP hT => ?_⟩
  obtain ⟨ts, hts⟩ := htl ws rfl
  have hB := e6 _ _ hB
  have hSb := e6.seq hSb
  have hS6 := e6.seq hS4
  have hSp := SqL.of (K := K) hP
  have h6 := Hs.start H6
  clear h5 hS4 htl
  have tR : textR ws (some ps) = some (ts.drop ws.length) := by
    show (tells ws ps).map _ = _
    rw [hts]
    rfl
  walk_at "go"
  rename_i p0 H7 h7 p1 H8 h8 hd H9 h9
  refine ⟨_, _, some ps, .lst (ws.map V.int), rfl, .good (h9.sql (by walk_at "deep")) (hT.same h9.ex) hok (by omega), .lst (h9.sql (by walk_at "deep")), ok_ints (by omega), (fun z => by rw [bw] at z; cases z), fun ws2 _ ew => ?_⟩
  have ew := map_int_inj ew
  subst ew
  refine ⟨fun ts2 z => ?_, fun z => by rw [tR] at z; cases z⟩
  rw [tR] at z
  cases z
  clear h7 h8
  refine retL h9 fun fd H10 h10 => ?_
  have hSp10 := h10.bl hSp
  have hSb10 := h10.bl hSb
  walk_at "go"
  refine ⟨pl, b, xs, ps, ws, ts, rfl, hSp10, hT.same h10.ex, hok, by omega, hSb10, by omega, hts, retL h10 fun du H11 h11 => ?_⟩
  clear h9 hSp10 hSb10 h10
  walk_at "go"
  refine ⟨fd, du, _, rfl, h11.sql (by walk_at "deep"), h11.sql (by walk_at "deep"), retV h11 fun H12 h12 => ?_⟩
  walk_at "go"
  rename_i l13 H13 h13
  have hxl : xs.length = ps.length := by rw [hT.length, List.length_map]
  refine c_ne2 (h13.sql (by walk_at "deep")) (h13.sql (.head _)) (h13.sql (by walk_at "deep")) (h13.bl hSp) (h13.sql (by walk_at "deep")) (h13.bl hSb) (ld_tups (hT.same h13.ex)) LD.ints ?_
  clear h11 h12
  walk_at "go"
  have h14 := Hs.last (T := [_, _, _, _, _]) h13
  refine c_clear0 h14 fun H15 h15 => ?_
  clear h13 h14
  walk_at "go"
  have h16 := Hs.last (T := [_, _, _, _, _]) h15
  refine c_clear0 h16 fun H17 h17 => ?_
  clear h15 h16
  have hfd := h17.sql (K := K) (p := fd) (by walk_at "deep")
  have hdu := h17.sql (K := K) (p := du) (by walk_at "deep")
  have hhd := h17.sql (K := K) (p := hd) (by walk_at "deep")
  have hp0 := h17.sql (K := K) (p := p0) (by walk_at "deep")
  have hp1 := h17.sql (K := K) (p := p1) (by walk_at "deep")
  have hB := h17.ex _ _ hB
  have hP := h17.ex _ _ hP
  have hT := hT.same h17.ex
  have hS := h17.ex.seq hS6
  clear hSb hSp hS6
  have hp0e : PT K H17 (.ref p0) (some []) := .good hp0 .nil (fun _ z => nomatch z) (by decide)
  have b0 : Tg.isWin (.lst ([].map V.int)) = true := rfl
  have h18 := Hs.start H17
  clear h6 h17
  walk_at "go"
  refine ⟨_, _, some [], .lst (([] : List Int).map V.int), rfl, hp0e, .lst hp1, ok_ints (by decide), (fun z => nomatch z), fun ws2 _ ew => ?_⟩
  have ew := map_int_inj ew
  subst ew
  refine ⟨fun ts2 z => ?_, fun z => nomatch z⟩
  cases z
  refine retL h18 fun l19 H19 h19 => ?_
  walk_at "go"
  rename_i l20 H20 h20
  refine ⟨l19, l20, [], rfl, h20.sql (.tail _ (.head _)), h20.sql (.head _), retV h20 fun H21 h21 => ?_⟩
  walk_at "go"
  refine ⟨pl, b, xs, ps, ws, ts, _, rfl, h21.ex _ _ hP, hT.same h21.ex, hok, hpl, h21.ex _ _ hB, hwb, by omega, hts, retV h21 fun H22 h22 => ?_⟩
  have e22 := h22.ex
  have hfd := e22.seq hfd
  have hdu := e22.seq hdu
  have hhd := e22.seq hhd
  have hp1 := e22.seq hp1
  have hB := e22 _ _ hB
  have hP := e22 _ _ hP
  have hT := hT.same e22
  have hS := e22.seq hS
  clear h18 h19 h20 h21 h22 hp0e hp0
  have h23 := Hs.start H22
  clear e22
  obtain ⟨A, hA, hAl⟩ : ∃ A : Nat, 250 + N / 7 % 60 = ((A : Nat) : Int) ∧ A ≤ 309 := ⟨(250 + N / 7 % 60).toNat, by omega, by omega⟩
  obtain ⟨A2, hA2, hA2l⟩ : ∃ A : Nat, N / 13 % 30 = ((A : Nat) : Int) ∧ A ≤ 29 := ⟨(N / 13 % 30).toNat, by omega, by omega⟩
  walk_at "go"
  rename_i l24 H24 h24
  rw [hA]
  refine c_rep h24 (h24.get (.head _)) (by omega) (by omega) (small6' (by rw [List.length_singleton]; omega)) fun l25 H25 h25 => ?_
  rw [Int.toNat_natCast, List.flatten_replicate_singleton, ← List.map_replicate] at h25
  walk_at "go"
  rename_i l26 H26 h26
  rw [hA2]
  refine c_rep h26 (h26.get (.head _)) (by omega) (by omega) (small6' (by rw [List.length_singleton]; omega)) fun l27 H27 h27 => ?_
  rw [Int.toNat_natCast, List.flatten_replicate_singleton, ← List.map_replicate] at h27
  refine c_ext0 h27.rot3 (h27.get (.head _)) (small6' (by simp; omega)) fun H28 h28 => ?_
  rw [← List.map_append] at h28
  clear h24 h25 h26 h27
  obtain ⟨lg, elg, hlb, hll⟩ : ∃ lg : List Int, lg = List.replicate A (N / 3 % 256) ++ List.replicate A2 (N / 11 % 256) ∧ Bytes lg ∧ lg.length ≤ 400 := by
    refine ⟨_, rfl, fun n hn => ?_, by simp; omega⟩
    rcases List.mem_append.mp hn with z | z
    · rw [List.eq_of_mem_replicate z]
      omega
    · rw [List.eq_of_mem_replicate z]
      omega
  rw [← elg] at h28
  obtain ⟨t1, t2, t3⟩ := text_zs hwb hlb
  have hSb28 := h28.bl (SqL.of (K := K) hB)
  walk_at "go"
  refine ⟨_, _, .lst (lg.map V.int), .lst (ws.map V.int), rfl, .lst (h28.sql (.head _)), ok_ints (by omega), .lst hSb28, ok_ints (by omega), fun ts1 ws1 ez1 _ _ ew1 cl cxs H29 e29 hp29 hT29 => ?_, fun z => ?_⟩
  rotate_left
  · rcases z with z | z
    · have z2 : Tg.isRow (.lst (lg.map V.int)) = true := by
        show (lg.map V.int).all byteV = true
        rw [List.all_map, List.all_eq_true]
        intro n hn
        obtain ⟨z1, z2⟩ := hlb n hn
        show (decide (0 ≤ n) && decide (n ≤ 255)) = true
        rw [decide_eq_true z1, decide_eq_true z2]
        rfl
      rw [z2] at z
      cases z
    · rw [bw] at z
      cases z
  have ew := map_int_inj ew1
  subst ew
  have ez := map_int_inj (Tg.lst.inj ez1)
  subst ez
  have e29b := h28.ex.trans e29
  have hSl := e29.seq (h28.sql (K := K) (p := l25) (.head _))
  have hSb29 := e29.seq hSb28
  have h29 := Hs.start H29
  walk_at "go"
  refine ⟨_, _, _, .lst (ws.map V.int), rfl, .good (.of hp29) hT29 t2 (by omega), .lst hSb29, ok_ints (by omega), (fun z => by rw [bw] at z; cases z), fun ws2 _ ew => ?_⟩
  have ew := map_int_inj ew
  subst ew
  refine ⟨fun ts2 z => ?_, fun z => by rw [t1] at z; cases z⟩
  rw [t1] at z
  cases z
  refine retL h29 fun l30 H30 h30 => ?_
  have hSl := h30.bl hSl
  have e30 := e29b.trans h30.ex
  have hfd := e30.seq hfd
  have hdu := e30.seq hdu
  have hhd := e30.seq hhd
  have hp1 := e30.seq hp1
  have hB := e30 _ _ hB
  have hP := e30 _ _ hP
  have hT := hT.same e30
  have hS := e30.seq hS
  clear e29b e29 h28 h23 hSb28 hSb29
  walk_at "go"
  refine ⟨a, ns, 0, rfl, hS, by decide, fun ps2 ok2 pl2 tl2 ln xs2 H31 e31 hP2 hT2 => ?_⟩
  obtain ⟨us, hus⟩ := tl2 [] rfl
  have tR2 : textR [] (some ps2) = some us := by
    show (tells [] ps2).map _ = _
    rw [hus]
    rfl
  have hfd := e31.seq hfd
  have hdu := e31.seq hdu
  have hhd := e31.seq hhd
  have hp1 := e31.seq hp1
  have hB := e31 _ _ hB
  have hP := e31 _ _ hP
  have hT := hT.same e31
  have g2 : ∀ {H}, Same H31 H → PT K H (.ref ln) (some ps2) := fun e => .good (.of (e _ _ hP2)) (hT2.same e) ok2 (by omega)
  have h31 := Hs.start H31
  clear h29 h30 hSl e30 e31 hS
  walk_at "go"
  refine ⟨_, _, some ps2, .non, rfl, g2 (Same.refl _), .non, trivial, (fun z => nomatch z), fun ws2 _ ew => ?_⟩
  have ew := map_int_inj (a := ([] : List Int)) ew
  subst ew
  refine ⟨fun ts2 z => ?_, fun z => by rw [tR2] at z; cases z⟩
  rw [tR2] at z
  cases z
  refine retL h31 fun u1 H32 h32 => ?_
  walk_at "go"
  refine ⟨_, _, some ps2, .non, rfl, g2 h32.ex, .non, trivial, (fun z => nomatch z), fun ws2 _ ew => ?_⟩
  have ew := map_int_inj (a := ([] : List Int)) ew
  subst ew
  refine ⟨fun ts2 z => ?_, fun z => by rw [tR2] at z; cases z⟩
  rw [tR2] at z
  cases z
  refine retL h32 fun u2 H33 h33 => ?_
  have hhd33 := h33.bl hhd
  walk_at "go"
  refine ⟨_, _, some ps2, .lst (([] : List Int).map V.int), rfl, g2 h33.ex, .lst (h33.bl hp1), ok_ints (by decide), (fun z => nomatch z), fun ws2 _ ew => ?_⟩
  have ew := map_int_inj ew
  subst ew
  refine ⟨fun ts2 z => ?_, fun z => by rw [tR2] at z; cases z⟩
  rw [tR2] at z
  cases z
  refine retL h33 fun u3 H34 h34 => ?_
  walk_at "go"
  refine ⟨_, _, some ps, .lst (ws.map V.int), rfl, .good (.of (h34.ex _ _ hP)) (hT.same h34.ex) hok (by omega), .lst (.of (h34.ex _ _ hB)), ok_ints (by omega), (fun z => by rw [bw] at z; cases z), fun ws2 _ ew => ?_⟩
  have ew := map_int_inj ew
  subst ew
  refine ⟨fun ts2 z => ?_, fun z => by rw [tR] at z; cases z⟩
  rw [tR] at z
  cases z
  refine retL h34 fun u4 H35 h35 => ?_
  walk_at "go"
  rename_i lt Ht ht th H36 h36
  obtain ⟨B2, s2, h37, f2⟩ := h36.rot3.fixTail
  have hth : SqL K B2 th [.ref u1, .ref u2, .ref u3] := .of (f2 _ _ (by walk_at "deep"))
  have hlt : SqL K B2 lt [.ref u1, .ref u2, .ref u3, .ref u4] := .of (f2 _ _ (by walk_at "deep"))
  have allU : ∀ x ∈ [V.ref u1, V.ref u2, V.ref u3], ∃ u, x = .ref u ∧ SqL K B2 u (us.map V.int) := fun x hx => by
    simp only [List.mem_cons, List.not_mem_nil, or_false] at hx
    rcases hx with rfl | rfl | rfl
    · exact ⟨_, rfl, .of (f2 _ _ (by walk_at "deep"))⟩
    · exact ⟨_, rfl, .of (f2 _ _ (by walk_at "deep"))⟩
    · exact ⟨_, rfl, .of (f2 _ _ (by walk_at "deep"))⟩
  have hP2 := s2 _ _ hP2
  have hT2 := hT2.same s2
  have hfd := s2.seq hfd
  have hdu := s2.seq hdu
  clear h31 h32 h33 h34 h35 h36 ht hhd33 f2 g2
  refine c_lcL id [V.ref u1, V.ref u2, V.ref u3] (fun pre acc B' => acc = [] ∧ B' = B2) h37 ⟨rfl, rfl⟩ (fun B' H' e h => by rw [List.map_id]; exact (e.trans h.ex).seq hth) ?_ ?_
  · rintro pre v post acc B' D H' e ⟨rfl, rfl⟩ _ h
    obtain ⟨u, rfl, hu⟩ := allU v (by rw [e]; simp)
    have hu' := h.bl hu
    rw [id_eq]
    walk_at "go"
    refine ⟨rfl, ?_⟩
    walk_at "go"
    rename_i e2 H38 h38
    refine ⟨ln, e2, xs2, ps2, [], us, rfl, .of (h38.ex _ _ hP2), hT2.same h38.ex, ok2, by omega, h38.sql (.head _), by decide, hus, retL h38 fun t H39 h39 => ?_⟩
    walk_at "go"
    refine ⟨u, t, us, rfl, h39.bl hu, h39.sql (.head _), retV h39 fun H40 h40 => ?_⟩
    walk_at "go"
    exact ⟨_, _, ⟨rfl, rfl⟩, Same.refl _, h40.drop.drop⟩
  · rintro acc B' D H41 ⟨rfl, rfl⟩ _ h41
    walk_at "go"
    rename_i e3 H42 h42
    refine c_neL [] [] (h42.sql (.tail _ (.head _))) (h42.sql (.head _)) ?_
    rw [decide_eq_true rfl]
    have hlt42 := h42.bl hlt
    walk_at "go"
    have htl := tells_length hok hts
    refine c_app2 h42 (small6 (by rw [List.length_map, List.length_drop]; omega)) fun H43 h43 => ?_
    walk_at "go"
    exact ⟨fd, du, _, rfl, h43.bl hfd, h43.bl hdu, retV h43 fun H44 _ => q _⟩
end L2.BR

end
namespace L2.BH
open PySem PySem.Spec PyProof.Rows L2
def top (i : Nat) : Stmt := PySem.Challenge.pw_balepress_k15_texts_of_pieces.main.body.getD i (.Pass ⟨0, 0, 0, 0⟩)
abbrev s_is_byte : Stmt := top 22
abbrev s_is_row : Stmt := top 23
abbrev s_need_row : Stmt := top 24
abbrev s_need_window : Stmt := top 29
abbrev s_alike_size : Stmt := top 30
abbrev s_longest_copy : Stmt := top 31
abbrev s_pieces_of : Stmt := top 32
abbrev s_is_among : Stmt := top 33
abbrev s_is_piece : Stmt := top 34
abbrev s_text_of : Stmt := top 35
abbrev s__law_cell_at : Stmt := top 37
abbrev s__law_mixed : Stmt := top 38
abbrev s__law_signs : Stmt := top 39
abbrev s__law_word : Stmt := top 40
abbrev s__law_told : Stmt := top 41
abbrev s__law_cut : Stmt := top 42
abbrev s__law_drawn_pieces : Stmt := top 43
abbrev s__law_text : Stmt := top 44
abbrev s__law_rows : Stmt := top 45
abbrev s__law_odd_piece : Stmt := top 46
abbrev s__law_odd_row : Stmt := top 47
abbrev s__law_refused : Stmt := top 48
abbrev s_law : Stmt := top 49
def d_is_byte : He.DefD := ⟨("is_byte", none), "is_byte", "is_byte", defArgs s_is_byte, defBody s_is_byte, defScope s_is_byte, [], []⟩
def d_is_row : He.DefD := ⟨("is_row", none), "is_row", "is_row", defArgs s_is_row, defBody s_is_row, defScope s_is_row, [], []⟩
def d_need_row : He.DefD := ⟨("need_row", none), "need_row", "need_row", defArgs s_need_row, defBody s_need_row, defScope s_need_row, [], []⟩
def d_need_window : He.DefD := ⟨("need_window", none), "need_window", "need_window", defArgs s_need_window, defBody s_need_window, defScope s_need_window, [], []⟩
def d_alike_size : He.DefD := ⟨("alike_size", none), "alike_size", "alike_size", defArgs s_alike_size, defBody s_alike_size, defScope s_alike_size, [], []⟩
def d_longest_copy : He.DefD := ⟨("longest_copy", none), "longest_copy", "longest_copy", defArgs s_longest_copy, defBody s_longest_copy, defScope s_longest_copy, [], []⟩
def d_pieces_of : He.DefD := ⟨("pieces_of", none), "pieces_of", "pieces_of", defArgs s_pieces_of, defBody s_pieces_of, defScope s_pieces_of, [.non], []⟩
def d_is_among : He.DefD := ⟨("is_among", none), "is_among", "is_among", defArgs s_is_among, defBody s_is_among, defScope s_is_among, [], []⟩
def d_is_piece : He.DefD := ⟨("is_piece", none), "is_piece", "is_piece", defArgs s_is_piece, defBody s_is_piece, defScope s_is_piece, [], []⟩
def d_text_of : He.DefD := ⟨("text_of", none), "text_of", "text_of", defArgs s_text_of, defBody s_text_of, defScope s_text_of, [.non], []⟩
def d__law_cell_at : He.DefD := ⟨("_law_cell_at", none), "_law_cell_at", "_law_cell_at", defArgs s__law_cell_at, defBody s__law_cell_at, defScope s__law_cell_at, [], []⟩
def d__law_mixed : He.DefD := ⟨("_law_mixed", none), "_law_mixed", "_law_mixed", defArgs s__law_mixed, defBody s__law_mixed, defScope s__law_mixed, [], []⟩
def d__law_signs : He.DefD := ⟨("_law_signs", none), "_law_signs", "_law_signs", defArgs s__law_signs, defBody s__law_signs, defScope s__law_signs, [], []⟩
def d__law_word : He.DefD := ⟨("_law_word", none), "_law_word", "_law_word", defArgs s__law_word, defBody s__law_word, defScope s__law_word, [], []⟩
def d__law_told : He.DefD := ⟨("_law_told", none), "_law_told", "_law_told", defArgs s__law_told, defBody s__law_told, defScope s__law_told, [], []⟩
def d__law_cut : He.DefD := ⟨("_law_cut", none), "_law_cut", "_law_cut", defArgs s__law_cut, defBody s__law_cut, defScope s__law_cut, [], []⟩
def d__law_drawn_pieces : He.DefD := ⟨("_law_drawn_pieces", none), "_law_drawn_pieces", "_law_drawn_pieces", defArgs s__law_drawn_pieces, defBody s__law_drawn_pieces, defScope s__law_drawn_pieces, [], []⟩
def d__law_text : He.DefD := ⟨("_law_text", none), "_law_text", "_law_text", defArgs s__law_text, defBody s__law_text, defScope s__law_text, [], []⟩
def d__law_rows : He.DefD := ⟨("_law_rows", none), "_law_rows", "_law_rows", defArgs s__law_rows, defBody s__law_rows, defScope s__law_rows, [], []⟩
def d__law_odd_piece : He.DefD := ⟨("_law_odd_piece", none), "_law_odd_piece", "_law_odd_piece", defArgs s__law_odd_piece, defBody s__law_odd_piece, defScope s__law_odd_piece, [], []⟩
def d__law_odd_row : He.DefD := ⟨("_law_odd_row", none), "_law_odd_row", "_law_odd_row", defArgs s__law_odd_row, defBody s__law_odd_row, defScope s__law_odd_row, [], []⟩
def d__law_refused : He.DefD := ⟨("_law_refused", none), "_law_refused", "_law_refused", defArgs s__law_refused, defBody s__law_refused, defScope s__law_refused, [], []⟩
def d_law : He.DefD := ⟨("law", none), "law", "law", defArgs s_law, defBody s_law, defScope s_law, [], []⟩
def fn : List He.DefD := [d_is_byte, d_is_row, d_need_row, d_need_window, d_alike_size, d_longest_copy, d_pieces_of, d_is_among, d_is_piece, d_text_of, d__law_cell_at, d__law_mixed, d__law_signs, d__law_word, d__law_told, d__law_cut, d__law_drawn_pieces, d__law_text, d__law_rows, d__law_odd_piece, d__law_odd_row, d__law_refused, d_law]
def fa : List He.Fa := [.glo "PressError", .exc "PressError", .glo "BadRow", .exc "BadRow", .glo "BadBits", .exc "BadBits", .glo "NoBits", .exc "NoBits", .glo "BadShares", .exc "BadShares", .glo "BadLengths", .exc "BadLengths", .glo "BadCode", .exc "BadCode", .glo "BadTable", .exc "BadTable", .glo "BadPieces", .exc "BadPieces", .glo "BadBody", .exc "BadBody", .glo "BadHead", .exc "BadHead", .glo "BadCheck", .exc "BadCheck", .glo "BadMark", .exc "BadMark", .glo "BadTail", .exc "BadTail", .glo "Cut", .exc "Cut", .glo "Behind", .exc "Behind", .glo "Over", .exc "Over", .glo "NoRange", .exc "NoRange", .glo "BadLetters", .exc "BadLetters", .int "MOST_BYTE" 255, .glo "is_byte", .glo "is_row", .glo "need_row", .int "LEAST_SIZE" 3, .int "MOST_SIZE" 18, .int "MOST_BACK" 255, .glo "need_window", .glo "alike_size", .glo "longest_copy", .glo "pieces_of", .glo "is_among", .glo "is_piece", .glo "text_of", .glo "_law_cell_at", .glo "_law_mixed", .glo "_law_signs", .glo "_law_word", .glo "_law_told", .glo "_law_cut", .glo "_law_drawn_pieces", .glo "_law_text", .glo "_law_rows", .glo "_law_odd_piece", .glo "_law_odd_row", .glo "_law_refused", .glo "law", .free "all", .free "bool", .free "int", .free "isinstance", .free "len", .free "list", .free "min", .free "range", .free "str", .free "tuple", .free "ValueError"]
abbrev R : PySem.W.OpenRow := PySem.W.OpenLaw.row PySem.Challenge.rw_balepress_k15_texts_of_pieces
def exs : List (PySem.W.Frag → Bool) := [fun K => (He.eqO (PySem.W.findIn K (.ref (He.ga K "BadRow")) "__getattribute__") (some (some (.builtin "BaseException.__getattribute__"))) && (He.eqO (PySem.W.findIn K (.ref (He.ga K "BadRow")) "__getattr__") (some none) && (decide (PySem.W.subIn K (.ref (He.ga K "BadRow")) (.type "BaseException") = some true) && (PySem.W.hasDictIn K (He.ga K "BadRow") && (He.eqO (PySem.W.findIn K (.ref (He.ga K "BadRow")) "__class__") (some (some (.builtin "object.__class__"))) && (He.eqO (PySem.W.specialIn K (.builtin "object.__class__") "__get__") (some (some (.builtin "getset_descriptor.__get__"))) && (decide (PySem.W.takesIn K (.builtin "object.__class__") = some true) && (decide (PySem.W.mroIn K (He.ga K "BadRow") (.type "object") = some true))))))))),
  fun K => decide (PySem.W.exmOne K (.ref (He.ga K "BadRow")) (.ref (He.ga K "PressError")) = some true),
  fun K => decide (PySem.W.kitOne K (.ref (He.ga K "BadRow")) (.ref (He.ga K "BadBits")) = some false),
  fun K => decide (PySem.W.kitOne K (.ref (He.ga K "BadRow")) (.ref (He.ga K "BadBody")) = some false),
  fun K => decide (PySem.W.kitOne K (.ref (He.ga K "BadRow")) (.ref (He.ga K "BadCheck")) = some false),
  fun K => decide (PySem.W.kitOne K (.ref (He.ga K "BadRow")) (.ref (He.ga K "BadCode")) = some false),
  fun K => decide (PySem.W.kitOne K (.ref (He.ga K "BadRow")) (.ref (He.ga K "BadHead")) = some false),
  fun K => decide (PySem.W.kitOne K (.ref (He.ga K "BadRow")) (.ref (He.ga K "BadLengths")) = some false),
  fun K => decide (PySem.W.kitOne K (.ref (He.ga K "BadRow")) (.ref (He.ga K "BadLetters")) = some false),
  fun K => decide (PySem.W.kitOne K (.ref (He.ga K "BadRow")) (.ref (He.ga K "BadMark")) = some false),
  fun K => decide (PySem.W.kitOne K (.ref (He.ga K "BadRow")) (.ref (He.ga K "BadShares")) = some false),
  fun K => decide (PySem.W.kitOne K (.ref (He.ga K "BadRow")) (.ref (He.ga K "BadTable")) = some false),
  fun K => decide (PySem.W.kitOne K (.ref (He.ga K "BadRow")) (.ref (He.ga K "BadTail")) = some false),
  fun K => decide (PySem.W.kitOne K (.ref (He.ga K "BadRow")) (.ref (He.ga K "Behind")) = some false),
  fun K => decide (PySem.W.kitOne K (.ref (He.ga K "BadRow")) (.ref (He.ga K "Cut")) = some false),
  fun K => decide (PySem.W.kitOne K (.ref (He.ga K "BadRow")) (.ref (He.ga K "NoBits")) = some false),
  fun K => decide (PySem.W.kitOne K (.ref (He.ga K "BadRow")) (.ref (He.ga K "NoRange")) = some false),
  fun K => decide (PySem.W.kitOne K (.ref (He.ga K "BadRow")) (.ref (He.ga K "Over")) = some false),
  fun K => decide (PySem.W.kitOne K (.ref (He.ga K "BadRow")) (.ref (He.ga K "BadPieces")) = some false),
  fun K => decide (PySem.W.kitOne K (.ref (He.ga K "BadRow")) (.ref (He.ga K "BadRow")) = some true),
  fun K => decide (PySem.W.kitOne K (.ref (He.ga K "BadRow")) (.type "ValueError") = some true),
  fun K => (He.eqO (PySem.W.findIn K (.ref (He.ga K "BadPieces")) "__getattribute__") (some (some (.builtin "BaseException.__getattribute__"))) && (He.eqO (PySem.W.findIn K (.ref (He.ga K "BadPieces")) "__getattr__") (some none) && (decide (PySem.W.subIn K (.ref (He.ga K "BadPieces")) (.type "BaseException") = some true) && (PySem.W.hasDictIn K (He.ga K "BadPieces") && (He.eqO (PySem.W.findIn K (.ref (He.ga K "BadPieces")) "__class__") (some (some (.builtin "object.__class__"))) && (He.eqO (PySem.W.specialIn K (.builtin "object.__class__") "__get__") (some (some (.builtin "getset_descriptor.__get__"))) && (decide (PySem.W.takesIn K (.builtin "object.__class__") = some true) && (decide (PySem.W.mroIn K (He.ga K "BadPieces") (.type "object") = some true))))))))),
  fun K => decide (PySem.W.exmOne K (.ref (He.ga K "BadPieces")) (.ref (He.ga K "PressError")) = some true),
  fun K => decide (PySem.W.kitOne K (.ref (He.ga K "BadPieces")) (.ref (He.ga K "BadBits")) = some false),
  fun K => decide (PySem.W.kitOne K (.ref (He.ga K "BadPieces")) (.ref (He.ga K "BadBody")) = some false),
  fun K => decide (PySem.W.kitOne K (.ref (He.ga K "BadPieces")) (.ref (He.ga K "BadCheck")) = some false),
  fun K => decide (PySem.W.kitOne K (.ref (He.ga K "BadPieces")) (.ref (He.ga K "BadCode")) = some false),
  fun K => decide (PySem.W.kitOne K (.ref (He.ga K "BadPieces")) (.ref (He.ga K "BadHead")) = some false),
  fun K => decide (PySem.W.kitOne K (.ref (He.ga K "BadPieces")) (.ref (He.ga K "BadLengths")) = some false),
  fun K => decide (PySem.W.kitOne K (.ref (He.ga K "BadPieces")) (.ref (He.ga K "BadLetters")) = some false),
  fun K => decide (PySem.W.kitOne K (.ref (He.ga K "BadPieces")) (.ref (He.ga K "BadMark")) = some false),
  fun K => decide (PySem.W.kitOne K (.ref (He.ga K "BadPieces")) (.ref (He.ga K "BadShares")) = some false),
  fun K => decide (PySem.W.kitOne K (.ref (He.ga K "BadPieces")) (.ref (He.ga K "BadTable")) = some false),
  fun K => decide (PySem.W.kitOne K (.ref (He.ga K "BadPieces")) (.ref (He.ga K "BadTail")) = some false),
  fun K => decide (PySem.W.kitOne K (.ref (He.ga K "BadPieces")) (.ref (He.ga K "Behind")) = some false),
  fun K => decide (PySem.W.kitOne K (.ref (He.ga K "BadPieces")) (.ref (He.ga K "Cut")) = some false),
  fun K => decide (PySem.W.kitOne K (.ref (He.ga K "BadPieces")) (.ref (He.ga K "NoBits")) = some false),
  fun K => decide (PySem.W.kitOne K (.ref (He.ga K "BadPieces")) (.ref (He.ga K "NoRange")) = some false),
  fun K => decide (PySem.W.kitOne K (.ref (He.ga K "BadPieces")) (.ref (He.ga K "Over")) = some false),
  fun K => decide (PySem.W.kitOne K (.ref (He.ga K "BadPieces")) (.ref (He.ga K "BadPieces")) = some true),
  fun K => decide (PySem.W.kitOne K (.ref (He.ga K "BadPieces")) (.ref (He.ga K "BadRow")) = some false),
  fun K => decide (PySem.W.kitOne K (.ref (He.ga K "BadPieces")) (.type "ValueError") = some true)]
def ex (K : PySem.W.Frag) : Bool := exs.all fun e => e K
theorem ex_at {K : PySem.W.Frag} (h : ex K = true) (i : Nat) {e : PySem.W.Frag → Bool} (he : exs[i]? = some e := by rfl) : e K = true := List.all_eq_true.mp h e (List.mem_of_getElem? he)
abbrev hk : PySem.W.Hook := He.hookX 6 fa fn [] [] ex
def ob (s : PySem.W.SharedT) : He.AlX := He.obsX 6 fa fn [] [] ex (HandSHeadRun.getT s)
theorem ob_eq (s : PySem.W.SharedT) : ob s = hk.obs s.abs := He.obsX_eq (HandSHeadRun.getT_eq s)
def loose0 : List PySem.Str := ["PressError", "ValueError", "BadRow", "BadBits", "NoBits", "BadShares", "BadLengths", "BadCode", "BadTable", "BadPieces", "BadBody", "BadHead", "BadCheck", "BadMark", "BadTail", "Cut", "Behind", "Over", "NoRange", "BadLetters", "MOST_BYTE", "is_byte", "is_row", "need_row", "LEAST_SIZE", "MOST_SIZE", "MOST_BACK", "need_window", "alike_size", "longest_copy"]
def loose1 : List PySem.Str := ["pieces_of", "is_among", "is_piece", "text_of", "_law_cell_at", "_law_mixed", "_law_signs", "_law_word", "_law_told", "_law_cut", "_law_drawn_pieces", "_law_text", "_law_rows", "_law_odd_piece", "_law_odd_row", "_law_refused"]
abbrev loose : List PySem.Str := loose0 ++ loose1
theorem run (w : World) : HandSHeadRun.RunEq R (PySem.W.view R.prog [49]) hk ob 40000 loose w := by
  intro os
  kernel_rfl
end L2.BH
namespace L2.BW
open PySem PySem.Spec PyProof.Rows L2.BP L2.BR L2.BH L2H
structure Tx (K : PySem.W.Frag) (mg : Str → Option Value) : Prop where
  g_PressError : mg "PressError" = some (.ref (He.ga K "PressError"))
  x_PressError : PySem.W.excIn K (He.ga K "PressError") He.veBase "ValueError.__new__" = true ∧ PySem.W.keepIn K (.ref (He.ga K "PressError")) = true ∧ PySem.W.subIn K (.ref (He.ga K "PressError")) (.type "BaseException") = some true ∧ PySem.W.typeIn K (.ref (He.ga K "PressError")) = some (.type "type")
  g_BadRow : mg "BadRow" = some (.ref (He.ga K "BadRow"))
  x_BadRow : PySem.W.excIn K (He.ga K "BadRow") He.veBase "ValueError.__new__" = true ∧ PySem.W.keepIn K (.ref (He.ga K "BadRow")) = true ∧ PySem.W.subIn K (.ref (He.ga K "BadRow")) (.type "BaseException") = some true ∧ PySem.W.typeIn K (.ref (He.ga K "BadRow")) = some (.type "type")
  g_BadBits : mg "BadBits" = some (.ref (He.ga K "BadBits"))
  x_BadBits : PySem.W.excIn K (He.ga K "BadBits") He.veBase "ValueError.__new__" = true ∧ PySem.W.keepIn K (.ref (He.ga K "BadBits")) = true ∧ PySem.W.subIn K (.ref (He.ga K "BadBits")) (.type "BaseException") = some true ∧ PySem.W.typeIn K (.ref (He.ga K "BadBits")) = some (.type "type")
  g_NoBits : mg "NoBits" = some (.ref (He.ga K "NoBits"))
  x_NoBits : PySem.W.excIn K (He.ga K "NoBits") He.veBase "ValueError.__new__" = true ∧ PySem.W.keepIn K (.ref (He.ga K "NoBits")) = true ∧ PySem.W.subIn K (.ref (He.ga K "NoBits")) (.type "BaseException") = some true ∧ PySem.W.typeIn K (.ref (He.ga K "NoBits")) = some (.type "type")
  g_BadShares : mg "BadShares" = some (.ref (He.ga K "BadShares"))
  x_BadShares : PySem.W.excIn K (He.ga K "BadShares") He.veBase "ValueError.__new__" = true ∧ PySem.W.keepIn K (.ref (He.ga K "BadShares")) = true ∧ PySem.W.subIn K (.ref (He.ga K "BadShares")) (.type "BaseException") = some true ∧ PySem.W.typeIn K (.ref (He.ga K "BadShares")) = some (.type "type")
  g_BadLengths : mg "BadLengths" = some (.ref (He.ga K "BadLengths"))
  x_BadLengths : PySem.W.excIn K (He.ga K "BadLengths") He.veBase "ValueError.__new__" = true ∧ PySem.W.keepIn K (.ref (He.ga K "BadLengths")) = true ∧ PySem.W.subIn K (.ref (He.ga K "BadLengths")) (.type "BaseException") = some true ∧ PySem.W.typeIn K (.ref (He.ga K "BadLengths")) = some (.type "type")
  g_BadCode : mg "BadCode" = some (.ref (He.ga K "BadCode"))
  x_BadCode : PySem.W.excIn K (He.ga K "BadCode") He.veBase "ValueError.__new__" = true ∧ PySem.W.keepIn K (.ref (He.ga K "BadCode")) = true ∧ PySem.W.subIn K (.ref (He.ga K "BadCode")) (.type "BaseException") = some true ∧ PySem.W.typeIn K (.ref (He.ga K "BadCode")) = some (.type "type")
  g_BadTable : mg "BadTable" = some (.ref (He.ga K "BadTable"))
  x_BadTable : PySem.W.excIn K (He.ga K "BadTable") He.veBase "ValueError.__new__" = true ∧ PySem.W.keepIn K (.ref (He.ga K "BadTable")) = true ∧ PySem.W.subIn K (.ref (He.ga K "BadTable")) (.type "BaseException") = some true ∧ PySem.W.typeIn K (.ref (He.ga K "BadTable")) = some (.type "type")
  g_BadPieces : mg "BadPieces" = some (.ref (He.ga K "BadPieces"))
  x_BadPieces : PySem.W.excIn K (He.ga K "BadPieces") He.veBase "ValueError.__new__" = true ∧ PySem.W.keepIn K (.ref (He.ga K "BadPieces")) = true ∧ PySem.W.subIn K (.ref (He.ga K "BadPieces")) (.type "BaseException") = some true ∧ PySem.W.typeIn K (.ref (He.ga K "BadPieces")) = some (.type "type")
  g_BadBody : mg "BadBody" = some (.ref (He.ga K "BadBody"))
  x_BadBody : PySem.W.excIn K (He.ga K "BadBody") He.veBase "ValueError.__new__" = true ∧ PySem.W.keepIn K (.ref (He.ga K "BadBody")) = true ∧ PySem.W.subIn K (.ref (He.ga K "BadBody")) (.type "BaseException") = some true ∧ PySem.W.typeIn K (.ref (He.ga K "BadBody")) = some (.type "type")
  g_BadHead : mg "BadHead" = some (.ref (He.ga K "BadHead"))
  x_BadHead : PySem.W.excIn K (He.ga K "BadHead") He.veBase "ValueError.__new__" = true ∧ PySem.W.keepIn K (.ref (He.ga K "BadHead")) = true ∧ PySem.W.subIn K (.ref (He.ga K "BadHead")) (.type "BaseException") = some true ∧ PySem.W.typeIn K (.ref (He.ga K "BadHead")) = some (.type "type")
  g_BadCheck : mg "BadCheck" = some (.ref (He.ga K "BadCheck"))
  x_BadCheck : PySem.W.excIn K (He.ga K "BadCheck") He.veBase "ValueError.__new__" = true ∧ PySem.W.keepIn K (.ref (He.ga K "BadCheck")) = true ∧ PySem.W.subIn K (.ref (He.ga K "BadCheck")) (.type "BaseException") = some true ∧ PySem.W.typeIn K (.ref (He.ga K "BadCheck")) = some (.type "type")
  g_BadMark : mg "BadMark" = some (.ref (He.ga K "BadMark"))
  x_BadMark : PySem.W.excIn K (He.ga K "BadMark") He.veBase "ValueError.__new__" = true ∧ PySem.W.keepIn K (.ref (He.ga K "BadMark")) = true ∧ PySem.W.subIn K (.ref (He.ga K "BadMark")) (.type "BaseException") = some true ∧ PySem.W.typeIn K (.ref (He.ga K "BadMark")) = some (.type "type")
  g_BadTail : mg "BadTail" = some (.ref (He.ga K "BadTail"))
  x_BadTail : PySem.W.excIn K (He.ga K "BadTail") He.veBase "ValueError.__new__" = true ∧ PySem.W.keepIn K (.ref (He.ga K "BadTail")) = true ∧ PySem.W.subIn K (.ref (He.ga K "BadTail")) (.type "BaseException") = some true ∧ PySem.W.typeIn K (.ref (He.ga K "BadTail")) = some (.type "type")
  g_Cut : mg "Cut" = some (.ref (He.ga K "Cut"))
  x_Cut : PySem.W.excIn K (He.ga K "Cut") He.veBase "ValueError.__new__" = true ∧ PySem.W.keepIn K (.ref (He.ga K "Cut")) = true ∧ PySem.W.subIn K (.ref (He.ga K "Cut")) (.type "BaseException") = some true ∧ PySem.W.typeIn K (.ref (He.ga K "Cut")) = some (.type "type")
  g_Behind : mg "Behind" = some (.ref (He.ga K "Behind"))
  x_Behind : PySem.W.excIn K (He.ga K "Behind") He.veBase "ValueError.__new__" = true ∧ PySem.W.keepIn K (.ref (He.ga K "Behind")) = true ∧ PySem.W.subIn K (.ref (He.ga K "Behind")) (.type "BaseException") = some true ∧ PySem.W.typeIn K (.ref (He.ga K "Behind")) = some (.type "type")
  g_Over : mg "Over" = some (.ref (He.ga K "Over"))
  x_Over : PySem.W.excIn K (He.ga K "Over") He.veBase "ValueError.__new__" = true ∧ PySem.W.keepIn K (.ref (He.ga K "Over")) = true ∧ PySem.W.subIn K (.ref (He.ga K "Over")) (.type "BaseException") = some true ∧ PySem.W.typeIn K (.ref (He.ga K "Over")) = some (.type "type")
  g_NoRange : mg "NoRange" = some (.ref (He.ga K "NoRange"))
  x_NoRange : PySem.W.excIn K (He.ga K "NoRange") He.veBase "ValueError.__new__" = true ∧ PySem.W.keepIn K (.ref (He.ga K "NoRange")) = true ∧ PySem.W.subIn K (.ref (He.ga K "NoRange")) (.type "BaseException") = some true ∧ PySem.W.typeIn K (.ref (He.ga K "NoRange")) = some (.type "type")
  g_BadLetters : mg "BadLetters" = some (.ref (He.ga K "BadLetters"))
  x_BadLetters : PySem.W.excIn K (He.ga K "BadLetters") He.veBase "ValueError.__new__" = true ∧ PySem.W.keepIn K (.ref (He.ga K "BadLetters")) = true ∧ PySem.W.subIn K (.ref (He.ga K "BadLetters")) (.type "BaseException") = some true ∧ PySem.W.typeIn K (.ref (He.ga K "BadLetters")) = some (.type "type")
  g_MOST_BYTE : ∃ t, mg "MOST_BYTE" = some (.int 255 t)
  g_is_byte : mg "is_byte" = some (.ref (He.ga K "is_byte"))
  g_is_row : mg "is_row" = some (.ref (He.ga K "is_row"))
  g_need_row : mg "need_row" = some (.ref (He.ga K "need_row"))
  g_LEAST_SIZE : ∃ t, mg "LEAST_SIZE" = some (.int 3 t)
  g_MOST_SIZE : ∃ t, mg "MOST_SIZE" = some (.int 18 t)
  g_MOST_BACK : ∃ t, mg "MOST_BACK" = some (.int 255 t)
  g_need_window : mg "need_window" = some (.ref (He.ga K "need_window"))
  g_alike_size : mg "alike_size" = some (.ref (He.ga K "alike_size"))
  g_longest_copy : mg "longest_copy" = some (.ref (He.ga K "longest_copy"))
  g_pieces_of : mg "pieces_of" = some (.ref (He.ga K "pieces_of"))
  g_is_among : mg "is_among" = some (.ref (He.ga K "is_among"))
  g_is_piece : mg "is_piece" = some (.ref (He.ga K "is_piece"))
  g_text_of : mg "text_of" = some (.ref (He.ga K "text_of"))
  g__law_cell_at : mg "_law_cell_at" = some (.ref (He.ga K "_law_cell_at"))
  g__law_mixed : mg "_law_mixed" = some (.ref (He.ga K "_law_mixed"))
  g__law_signs : mg "_law_signs" = some (.ref (He.ga K "_law_signs"))
  g__law_word : mg "_law_word" = some (.ref (He.ga K "_law_word"))
  g__law_told : mg "_law_told" = some (.ref (He.ga K "_law_told"))
  g__law_cut : mg "_law_cut" = some (.ref (He.ga K "_law_cut"))
  g__law_drawn_pieces : mg "_law_drawn_pieces" = some (.ref (He.ga K "_law_drawn_pieces"))
  g__law_text : mg "_law_text" = some (.ref (He.ga K "_law_text"))
  g__law_rows : mg "_law_rows" = some (.ref (He.ga K "_law_rows"))
  g__law_odd_piece : mg "_law_odd_piece" = some (.ref (He.ga K "_law_odd_piece"))
  g__law_odd_row : mg "_law_odd_row" = some (.ref (He.ga K "_law_odd_row"))
  g__law_refused : mg "_law_refused" = some (.ref (He.ga K "_law_refused"))
  g_law : mg "law" = some (.ref (He.ga K "law"))
  f_all : mg "all" = none
  f_bool : mg "bool" = none
  f_int : mg "int" = none
  f_isinstance : mg "isinstance" = none
  f_len : mg "len" = none
  f_list : mg "list" = none
  f_min : mg "min" = none
  f_range : mg "range" = none
  f_str : mg "str" = none
  f_tuple : mg "tuple" = none
  f_ValueError : mg "ValueError" = none
  e_BadRow : L2.ExcC K (He.ga K "BadRow")
  y_BadRow_PressError : PySem.W.exmOne K (.ref (He.ga K "BadRow")) (.ref (He.ga K "PressError")) = some true
  s_BadRow_BadBits : PySem.W.kitOne K (.ref (He.ga K "BadRow")) (.ref (He.ga K "BadBits")) = some false
  s_BadRow_BadBody : PySem.W.kitOne K (.ref (He.ga K "BadRow")) (.ref (He.ga K "BadBody")) = some false
  s_BadRow_BadCheck : PySem.W.kitOne K (.ref (He.ga K "BadRow")) (.ref (He.ga K "BadCheck")) = some false
  s_BadRow_BadCode : PySem.W.kitOne K (.ref (He.ga K "BadRow")) (.ref (He.ga K "BadCode")) = some false
  s_BadRow_BadHead : PySem.W.kitOne K (.ref (He.ga K "BadRow")) (.ref (He.ga K "BadHead")) = some false
  s_BadRow_BadLengths : PySem.W.kitOne K (.ref (He.ga K "BadRow")) (.ref (He.ga K "BadLengths")) = some false
  s_BadRow_BadLetters : PySem.W.kitOne K (.ref (He.ga K "BadRow")) (.ref (He.ga K "BadLetters")) = some false
  s_BadRow_BadMark : PySem.W.kitOne K (.ref (He.ga K "BadRow")) (.ref (He.ga K "BadMark")) = some false
  s_BadRow_BadShares : PySem.W.kitOne K (.ref (He.ga K "BadRow")) (.ref (He.ga K "BadShares")) = some false
  s_BadRow_BadTable : PySem.W.kitOne K (.ref (He.ga K "BadRow")) (.ref (He.ga K "BadTable")) = some false
  s_BadRow_BadTail : PySem.W.kitOne K (.ref (He.ga K "BadRow")) (.ref (He.ga K "BadTail")) = some false
  s_BadRow_Behind : PySem.W.kitOne K (.ref (He.ga K "BadRow")) (.ref (He.ga K "Behind")) = some false
  s_BadRow_Cut : PySem.W.kitOne K (.ref (He.ga K "BadRow")) (.ref (He.ga K "Cut")) = some false
  s_BadRow_NoBits : PySem.W.kitOne K (.ref (He.ga K "BadRow")) (.ref (He.ga K "NoBits")) = some false
  s_BadRow_NoRange : PySem.W.kitOne K (.ref (He.ga K "BadRow")) (.ref (He.ga K "NoRange")) = some false
  s_BadRow_Over : PySem.W.kitOne K (.ref (He.ga K "BadRow")) (.ref (He.ga K "Over")) = some false
  s_BadRow_BadPieces : PySem.W.kitOne K (.ref (He.ga K "BadRow")) (.ref (He.ga K "BadPieces")) = some false
  s_BadRow_BadRow : PySem.W.kitOne K (.ref (He.ga K "BadRow")) (.ref (He.ga K "BadRow")) = some true
  v_BadRow_ValueError : PySem.W.kitOne K (.ref (He.ga K "BadRow")) (.type "ValueError") = some true
  e_BadPieces : L2.ExcC K (He.ga K "BadPieces")
  y_BadPieces_PressError : PySem.W.exmOne K (.ref (He.ga K "BadPieces")) (.ref (He.ga K "PressError")) = some true
  s_BadPieces_BadBits : PySem.W.kitOne K (.ref (He.ga K "BadPieces")) (.ref (He.ga K "BadBits")) = some false
  s_BadPieces_BadBody : PySem.W.kitOne K (.ref (He.ga K "BadPieces")) (.ref (He.ga K "BadBody")) = some false
  s_BadPieces_BadCheck : PySem.W.kitOne K (.ref (He.ga K "BadPieces")) (.ref (He.ga K "BadCheck")) = some false
  s_BadPieces_BadCode : PySem.W.kitOne K (.ref (He.ga K "BadPieces")) (.ref (He.ga K "BadCode")) = some false
  s_BadPieces_BadHead : PySem.W.kitOne K (.ref (He.ga K "BadPieces")) (.ref (He.ga K "BadHead")) = some false
  s_BadPieces_BadLengths : PySem.W.kitOne K (.ref (He.ga K "BadPieces")) (.ref (He.ga K "BadLengths")) = some false
  s_BadPieces_BadLetters : PySem.W.kitOne K (.ref (He.ga K "BadPieces")) (.ref (He.ga K "BadLetters")) = some false
  s_BadPieces_BadMark : PySem.W.kitOne K (.ref (He.ga K "BadPieces")) (.ref (He.ga K "BadMark")) = some false
  s_BadPieces_BadShares : PySem.W.kitOne K (.ref (He.ga K "BadPieces")) (.ref (He.ga K "BadShares")) = some false
  s_BadPieces_BadTable : PySem.W.kitOne K (.ref (He.ga K "BadPieces")) (.ref (He.ga K "BadTable")) = some false
  s_BadPieces_BadTail : PySem.W.kitOne K (.ref (He.ga K "BadPieces")) (.ref (He.ga K "BadTail")) = some false
  s_BadPieces_Behind : PySem.W.kitOne K (.ref (He.ga K "BadPieces")) (.ref (He.ga K "Behind")) = some false
  s_BadPieces_Cut : PySem.W.kitOne K (.ref (He.ga K "BadPieces")) (.ref (He.ga K "Cut")) = some false
  s_BadPieces_NoBits : PySem.W.kitOne K (.ref (He.ga K "BadPieces")) (.ref (He.ga K "NoBits")) = some false
  s_BadPieces_NoRange : PySem.W.kitOne K (.ref (He.ga K "BadPieces")) (.ref (He.ga K "NoRange")) = some false
  s_BadPieces_Over : PySem.W.kitOne K (.ref (He.ga K "BadPieces")) (.ref (He.ga K "Over")) = some false
  s_BadPieces_BadPieces : PySem.W.kitOne K (.ref (He.ga K "BadPieces")) (.ref (He.ga K "BadPieces")) = some true
  s_BadPieces_BadRow : PySem.W.kitOne K (.ref (He.ga K "BadPieces")) (.ref (He.ga K "BadRow")) = some false
  v_BadPieces_ValueError : PySem.W.kitOne K (.ref (He.ga K "BadPieces")) (.type "ValueError") = some true
  d__law_mixed : ∃ fd, FunD K d__law_mixed.name d__law_mixed.qual d__law_mixed.params d__law_mixed.body d__law_mixed.scope (d__law_mixed.dvs K) (d__law_mixed.kws K) (He.fAd K d__law_mixed.at_) fd
  d__law_cell_at : ∃ fd, FunD K d__law_cell_at.name d__law_cell_at.qual d__law_cell_at.params d__law_cell_at.body d__law_cell_at.scope (d__law_cell_at.dvs K) (d__law_cell_at.kws K) (He.fAd K d__law_cell_at.at_) fd
  d__law_signs : ∃ fd, FunD K d__law_signs.name d__law_signs.qual d__law_signs.params d__law_signs.body d__law_signs.scope (d__law_signs.dvs K) (d__law_signs.kws K) (He.fAd K d__law_signs.at_) fd
  d__law_drawn_pieces : ∃ fd, FunD K d__law_drawn_pieces.name d__law_drawn_pieces.qual d__law_drawn_pieces.params d__law_drawn_pieces.body d__law_drawn_pieces.scope (d__law_drawn_pieces.dvs K) (d__law_drawn_pieces.kws K) (He.fAd K d__law_drawn_pieces.at_) fd
  d_is_byte : ∃ fd, FunD K d_is_byte.name d_is_byte.qual d_is_byte.params d_is_byte.body d_is_byte.scope (d_is_byte.dvs K) (d_is_byte.kws K) (He.fAd K d_is_byte.at_) fd
  d_is_row : ∃ fd, FunD K d_is_row.name d_is_row.qual d_is_row.params d_is_row.body d_is_row.scope (d_is_row.dvs K) (d_is_row.kws K) (He.fAd K d_is_row.at_) fd
  d_need_window : ∃ fd, FunD K d_need_window.name d_need_window.qual d_need_window.params d_need_window.body d_need_window.scope (d_need_window.dvs K) (d_need_window.kws K) (He.fAd K d_need_window.at_) fd
  d_is_among : ∃ fd, FunD K d_is_among.name d_is_among.qual d_is_among.params d_is_among.body d_is_among.scope (d_is_among.dvs K) (d_is_among.kws K) (He.fAd K d_is_among.at_) fd
  d_is_piece : ∃ fd, FunD K d_is_piece.name d_is_piece.qual d_is_piece.params d_is_piece.body d_is_piece.scope (d_is_piece.dvs K) (d_is_piece.kws K) (He.fAd K d_is_piece.at_) fd
  d_text_of : ∃ fd, FunD K d_text_of.name d_text_of.qual d_text_of.params d_text_of.body d_text_of.scope (d_text_of.dvs K) (d_text_of.kws K) (He.fAd K d_text_of.at_) fd
  d__law_word : ∃ fd, FunD K d__law_word.name d__law_word.qual d__law_word.params d__law_word.body d__law_word.scope (d__law_word.dvs K) (d__law_word.kws K) (He.fAd K d__law_word.at_) fd
  d__law_told : ∃ fd, FunD K d__law_told.name d__law_told.qual d__law_told.params d__law_told.body d__law_told.scope (d__law_told.dvs K) (d__law_told.kws K) (He.fAd K d__law_told.at_) fd
  d__law_text : ∃ fd, FunD K d__law_text.name d__law_text.qual d__law_text.params d__law_text.body d__law_text.scope (d__law_text.dvs K) (d__law_text.kws K) (He.fAd K d__law_text.at_) fd
  d__law_rows : ∃ fd, FunD K d__law_rows.name d__law_rows.qual d__law_rows.params d__law_rows.body d__law_rows.scope (d__law_rows.dvs K) (d__law_rows.kws K) (He.fAd K d__law_rows.at_) fd
  d__law_odd_piece : ∃ fd, FunD K d__law_odd_piece.name d__law_odd_piece.qual d__law_odd_piece.params d__law_odd_piece.body d__law_odd_piece.scope (d__law_odd_piece.dvs K) (d__law_odd_piece.kws K) (He.fAd K d__law_odd_piece.at_) fd
  d__law_odd_row : ∃ fd, FunD K d__law_odd_row.name d__law_odd_row.qual d__law_odd_row.params d__law_odd_row.body d__law_odd_row.scope (d__law_odd_row.dvs K) (d__law_odd_row.kws K) (He.fAd K d__law_odd_row.at_) fd
  d_need_row : ∃ fd, FunD K d_need_row.name d_need_row.qual d_need_row.params d_need_row.body d_need_row.scope (d_need_row.dvs K) (d_need_row.kws K) (He.fAd K d_need_row.at_) fd
  d_alike_size : ∃ fd, FunD K d_alike_size.name d_alike_size.qual d_alike_size.params d_alike_size.body d_alike_size.scope (d_alike_size.dvs K) (d_alike_size.kws K) (He.fAd K d_alike_size.at_) fd
  d_longest_copy : ∃ fd, FunD K d_longest_copy.name d_longest_copy.qual d_longest_copy.params d_longest_copy.body d_longest_copy.scope (d_longest_copy.dvs K) (d_longest_copy.kws K) (He.fAd K d_longest_copy.at_) fd
  d_pieces_of : ∃ fd, FunD K d_pieces_of.name d_pieces_of.qual d_pieces_of.params d_pieces_of.body d_pieces_of.scope (d_pieces_of.dvs K) (d_pieces_of.kws K) (He.fAd K d_pieces_of.at_) fd
  d__law_cut : ∃ fd, FunD K d__law_cut.name d__law_cut.qual d__law_cut.params d__law_cut.body d__law_cut.scope (d__law_cut.dvs K) (d__law_cut.kws K) (He.fAd K d__law_cut.at_) fd
  d__law_refused : ∃ fd, FunD K d__law_refused.name d__law_refused.qual d__law_refused.params d__law_refused.body d__law_refused.scope (d__law_refused.dvs K) (d__law_refused.kws K) (He.fAd K d__law_refused.at_) fd
  d_law : ∃ fd, FunD K d_law.name d_law.qual d_law.params d_law.body d_law.scope (d_law.dvs K) (d_law.kws K) (He.fAd K d_law.at_) fd
theorem tx_of {K : PySem.W.Frag} {h : Heap} {mg : Str → Option Value} (X : K.In h) (G : h.Ns mainGlobals mg) (c : He.SaysD fa fn K) (ce : ex K = true) : Tx K mg where
  g_PressError := He.glo_ok X G (c.fact 0 (f := .glo "PressError") rfl)
  x_PressError := He.exc_ok (c.fact 1 (f := .exc "PressError") rfl)
  g_BadRow := He.glo_ok X G (c.fact 2 (f := .glo "BadRow") rfl)
  x_BadRow := He.exc_ok (c.fact 3 (f := .exc "BadRow") rfl)
  g_BadBits := He.glo_ok X G (c.fact 4 (f := .glo "BadBits") rfl)
  x_BadBits := He.exc_ok (c.fact 5 (f := .exc "BadBits") rfl)
  g_NoBits := He.glo_ok X G (c.fact 6 (f := .glo "NoBits") rfl)
  x_NoBits := He.exc_ok (c.fact 7 (f := .exc "NoBits") rfl)
  g_BadShares := He.glo_ok X G (c.fact 8 (f := .glo "BadShares") rfl)
  x_BadShares := He.exc_ok (c.fact 9 (f := .exc "BadShares") rfl)
  g_BadLengths := He.glo_ok X G (c.fact 10 (f := .glo "BadLengths") rfl)
  x_BadLengths := He.exc_ok (c.fact 11 (f := .exc "BadLengths") rfl)
  g_BadCode := He.glo_ok X G (c.fact 12 (f := .glo "BadCode") rfl)
  x_BadCode := He.exc_ok (c.fact 13 (f := .exc "BadCode") rfl)
  g_BadTable := He.glo_ok X G (c.fact 14 (f := .glo "BadTable") rfl)
  x_BadTable := He.exc_ok (c.fact 15 (f := .exc "BadTable") rfl)
  g_BadPieces := He.glo_ok X G (c.fact 16 (f := .glo "BadPieces") rfl)
  x_BadPieces := He.exc_ok (c.fact 17 (f := .exc "BadPieces") rfl)
  g_BadBody := He.glo_ok X G (c.fact 18 (f := .glo "BadBody") rfl)
  x_BadBody := He.exc_ok (c.fact 19 (f := .exc "BadBody") rfl)
  g_BadHead := He.glo_ok X G (c.fact 20 (f := .glo "BadHead") rfl)
  x_BadHead := He.exc_ok (c.fact 21 (f := .exc "BadHead") rfl)
  g_BadCheck := He.glo_ok X G (c.fact 22 (f := .glo "BadCheck") rfl)
  x_BadCheck := He.exc_ok (c.fact 23 (f := .exc "BadCheck") rfl)
  g_BadMark := He.glo_ok X G (c.fact 24 (f := .glo "BadMark") rfl)
  x_BadMark := He.exc_ok (c.fact 25 (f := .exc "BadMark") rfl)
  g_BadTail := He.glo_ok X G (c.fact 26 (f := .glo "BadTail") rfl)
  x_BadTail := He.exc_ok (c.fact 27 (f := .exc "BadTail") rfl)
  g_Cut := He.glo_ok X G (c.fact 28 (f := .glo "Cut") rfl)
  x_Cut := He.exc_ok (c.fact 29 (f := .exc "Cut") rfl)
  g_Behind := He.glo_ok X G (c.fact 30 (f := .glo "Behind") rfl)
  x_Behind := He.exc_ok (c.fact 31 (f := .exc "Behind") rfl)
  g_Over := He.glo_ok X G (c.fact 32 (f := .glo "Over") rfl)
  x_Over := He.exc_ok (c.fact 33 (f := .exc "Over") rfl)
  g_NoRange := He.glo_ok X G (c.fact 34 (f := .glo "NoRange") rfl)
  x_NoRange := He.exc_ok (c.fact 35 (f := .exc "NoRange") rfl)
  g_BadLetters := He.glo_ok X G (c.fact 36 (f := .glo "BadLetters") rfl)
  x_BadLetters := He.exc_ok (c.fact 37 (f := .exc "BadLetters") rfl)
  g_MOST_BYTE := He.int_ok X G (c.fact 38 (f := .int "MOST_BYTE" 255) rfl)
  g_is_byte := He.glo_ok X G (c.fact 39 (f := .glo "is_byte") rfl)
  g_is_row := He.glo_ok X G (c.fact 40 (f := .glo "is_row") rfl)
  g_need_row := He.glo_ok X G (c.fact 41 (f := .glo "need_row") rfl)
  g_LEAST_SIZE := He.int_ok X G (c.fact 42 (f := .int "LEAST_SIZE" 3) rfl)
  g_MOST_SIZE := He.int_ok X G (c.fact 43 (f := .int "MOST_SIZE" 18) rfl)
  g_MOST_BACK := He.int_ok X G (c.fact 44 (f := .int "MOST_BACK" 255) rfl)
  g_need_window := He.glo_ok X G (c.fact 45 (f := .glo "need_window") rfl)
  g_alike_size := He.glo_ok X G (c.fact 46 (f := .glo "alike_size") rfl)
  g_longest_copy := He.glo_ok X G (c.fact 47 (f := .glo "longest_copy") rfl)
  g_pieces_of := He.glo_ok X G (c.fact 48 (f := .glo "pieces_of") rfl)
  g_is_among := He.glo_ok X G (c.fact 49 (f := .glo "is_among") rfl)
  g_is_piece := He.glo_ok X G (c.fact 50 (f := .glo "is_piece") rfl)
  g_text_of := He.glo_ok X G (c.fact 51 (f := .glo "text_of") rfl)
  g__law_cell_at := He.glo_ok X G (c.fact 52 (f := .glo "_law_cell_at") rfl)
  g__law_mixed := He.glo_ok X G (c.fact 53 (f := .glo "_law_mixed") rfl)
  g__law_signs := He.glo_ok X G (c.fact 54 (f := .glo "_law_signs") rfl)
  g__law_word := He.glo_ok X G (c.fact 55 (f := .glo "_law_word") rfl)
  g__law_told := He.glo_ok X G (c.fact 56 (f := .glo "_law_told") rfl)
  g__law_cut := He.glo_ok X G (c.fact 57 (f := .glo "_law_cut") rfl)
  g__law_drawn_pieces := He.glo_ok X G (c.fact 58 (f := .glo "_law_drawn_pieces") rfl)
  g__law_text := He.glo_ok X G (c.fact 59 (f := .glo "_law_text") rfl)
  g__law_rows := He.glo_ok X G (c.fact 60 (f := .glo "_law_rows") rfl)
  g__law_odd_piece := He.glo_ok X G (c.fact 61 (f := .glo "_law_odd_piece") rfl)
  g__law_odd_row := He.glo_ok X G (c.fact 62 (f := .glo "_law_odd_row") rfl)
  g__law_refused := He.glo_ok X G (c.fact 63 (f := .glo "_law_refused") rfl)
  g_law := He.glo_ok X G (c.fact 64 (f := .glo "law") rfl)
  f_all := He.free_ok X G (c.fact 65 (f := .free "all") rfl)
  f_bool := He.free_ok X G (c.fact 66 (f := .free "bool") rfl)
  f_int := He.free_ok X G (c.fact 67 (f := .free "int") rfl)
  f_isinstance := He.free_ok X G (c.fact 68 (f := .free "isinstance") rfl)
  f_len := He.free_ok X G (c.fact 69 (f := .free "len") rfl)
  f_list := He.free_ok X G (c.fact 70 (f := .free "list") rfl)
  f_min := He.free_ok X G (c.fact 71 (f := .free "min") rfl)
  f_range := He.free_ok X G (c.fact 72 (f := .free "range") rfl)
  f_str := He.free_ok X G (c.fact 73 (f := .free "str") rfl)
  f_tuple := He.free_ok X G (c.fact 74 (f := .free "tuple") rfl)
  f_ValueError := He.free_ok X G (c.fact 75 (f := .free "ValueError") rfl)
  e_BadRow := by have h := ex_at ce 0; have z0 := He.ba h; have z1 := He.ba z0.2; have z2 := He.ba z1.2; have z3 := He.ba z2.2; have z4 := He.ba z3.2; have z5 := He.ba z4.2; have z6 := He.ba z5.2; exact ⟨He.eqO_ok z0.1, He.eqO_ok z1.1, of_decide_eq_true z2.1, z3.1, He.eqO_ok z4.1, He.eqO_ok z5.1, of_decide_eq_true z6.1, of_decide_eq_true z6.2⟩
  y_BadRow_PressError := by have h := ex_at ce 1; exact of_decide_eq_true h
  s_BadRow_BadBits := by have h := ex_at ce 2; exact of_decide_eq_true h
  s_BadRow_BadBody := by have h := ex_at ce 3; exact of_decide_eq_true h
  s_BadRow_BadCheck := by have h := ex_at ce 4; exact of_decide_eq_true h
  s_BadRow_BadCode := by have h := ex_at ce 5; exact of_decide_eq_true h
  s_BadRow_BadHead := by have h := ex_at ce 6; exact of_decide_eq_true h
  s_BadRow_BadLengths := by have h := ex_at ce 7; exact of_decide_eq_true h
  s_BadRow_BadLetters := by have h := ex_at ce 8; exact of_decide_eq_true h
  s_BadRow_BadMark := by have h := ex_at ce 9; exact of_decide_eq_true h
  s_BadRow_BadShares := by have h := ex_at ce 10; exact of_decide_eq_true h
  s_BadRow_BadTable := by have h := ex_at ce 11; exact of_decide_eq_true h
  s_BadRow_BadTail := by have h := ex_at ce 12; exact of_decide_eq_true h
  s_BadRow_Behind := by have h := ex_at ce 13; exact of_decide_eq_true h
  s_BadRow_Cut := by have h := ex_at ce 14; exact of_decide_eq_true h
  s_BadRow_NoBits := by have h := ex_at ce 15; exact of_decide_eq_true h
  s_BadRow_NoRange := by have h := ex_at ce 16; exact of_decide_eq_true h
  s_BadRow_Over := by have h := ex_at ce 17; exact of_decide_eq_true h
  s_BadRow_BadPieces := by have h := ex_at ce 18; exact of_decide_eq_true h
  s_BadRow_BadRow := by have h := ex_at ce 19; exact of_decide_eq_true h
  v_BadRow_ValueError := by have h := ex_at ce 20; exact of_decide_eq_true h
  e_BadPieces := by have h := ex_at ce 21; have z0 := He.ba h; have z1 := He.ba z0.2; have z2 := He.ba z1.2; have z3 := He.ba z2.2; have z4 := He.ba z3.2; have z5 := He.ba z4.2; have z6 := He.ba z5.2; exact ⟨He.eqO_ok z0.1, He.eqO_ok z1.1, of_decide_eq_true z2.1, z3.1, He.eqO_ok z4.1, He.eqO_ok z5.1, of_decide_eq_true z6.1, of_decide_eq_true z6.2⟩
  y_BadPieces_PressError := by have h := ex_at ce 22; exact of_decide_eq_true h
  s_BadPieces_BadBits := by have h := ex_at ce 23; exact of_decide_eq_true h
  s_BadPieces_BadBody := by have h := ex_at ce 24; exact of_decide_eq_true h
  s_BadPieces_BadCheck := by have h := ex_at ce 25; exact of_decide_eq_true h
  s_BadPieces_BadCode := by have h := ex_at ce 26; exact of_decide_eq_true h
  s_BadPieces_BadHead := by have h := ex_at ce 27; exact of_decide_eq_true h
  s_BadPieces_BadLengths := by have h := ex_at ce 28; exact of_decide_eq_true h
  s_BadPieces_BadLetters := by have h := ex_at ce 29; exact of_decide_eq_true h
  s_BadPieces_BadMark := by have h := ex_at ce 30; exact of_decide_eq_true h
  s_BadPieces_BadShares := by have h := ex_at ce 31; exact of_decide_eq_true h
  s_BadPieces_BadTable := by have h := ex_at ce 32; exact of_decide_eq_true h
  s_BadPieces_BadTail := by have h := ex_at ce 33; exact of_decide_eq_true h
  s_BadPieces_Behind := by have h := ex_at ce 34; exact of_decide_eq_true h
  s_BadPieces_Cut := by have h := ex_at ce 35; exact of_decide_eq_true h
  s_BadPieces_NoBits := by have h := ex_at ce 36; exact of_decide_eq_true h
  s_BadPieces_NoRange := by have h := ex_at ce 37; exact of_decide_eq_true h
  s_BadPieces_Over := by have h := ex_at ce 38; exact of_decide_eq_true h
  s_BadPieces_BadPieces := by have h := ex_at ce 39; exact of_decide_eq_true h
  s_BadPieces_BadRow := by have h := ex_at ce 40; exact of_decide_eq_true h
  v_BadPieces_ValueError := by have h := ex_at ce 41; exact of_decide_eq_true h
  d__law_mixed := c.def_ 11 (d := d__law_mixed) rfl
  d__law_cell_at := c.def_ 10 (d := d__law_cell_at) rfl
  d__law_signs := c.def_ 12 (d := d__law_signs) rfl
  d__law_drawn_pieces := c.def_ 16 (d := d__law_drawn_pieces) rfl
  d_is_byte := c.def_ 0 (d := d_is_byte) rfl
  d_is_row := c.def_ 1 (d := d_is_row) rfl
  d_need_window := c.def_ 3 (d := d_need_window) rfl
  d_is_among := c.def_ 7 (d := d_is_among) rfl
  d_is_piece := c.def_ 8 (d := d_is_piece) rfl
  d_text_of := c.def_ 9 (d := d_text_of) rfl
  d__law_word := c.def_ 13 (d := d__law_word) rfl
  d__law_told := c.def_ 14 (d := d__law_told) rfl
  d__law_text := c.def_ 17 (d := d__law_text) rfl
  d__law_rows := c.def_ 18 (d := d__law_rows) rfl
  d__law_odd_piece := c.def_ 19 (d := d__law_odd_piece) rfl
  d__law_odd_row := c.def_ 20 (d := d__law_odd_row) rfl
  d_need_row := c.def_ 2 (d := d_need_row) rfl
  d_alike_size := c.def_ 4 (d := d_alike_size) rfl
  d_longest_copy := c.def_ 5 (d := d_longest_copy) rfl
  d_pieces_of := c.def_ 6 (d := d_pieces_of) rfl
  d__law_cut := c.def_ 15 (d := d__law_cut) rfl
  d__law_refused := c.def_ 21 (d := d__law_refused) rfl
  d_law := c.def_ 22 (d := d_law) rfl
theorem of_KWBadRow {K : PySem.W.Frag} {mg : Str → Option Value} (T : Tx K mg) : KWBadRow K := ⟨T.e_BadRow, T.y_BadRow_PressError, T.v_BadRow_ValueError, T.s_BadRow_BadRow, T.s_BadRow_BadBits, T.s_BadRow_NoBits, T.s_BadRow_BadShares, T.s_BadRow_BadLengths, T.s_BadRow_BadCode, T.s_BadRow_BadTable, T.s_BadRow_Cut, T.s_BadRow_BadPieces, T.s_BadRow_BadBody, T.s_BadRow_BadHead, T.s_BadRow_BadCheck, T.s_BadRow_BadMark, T.s_BadRow_BadTail, T.s_BadRow_Behind, T.s_BadRow_Over, T.s_BadRow_NoRange, T.s_BadRow_BadLetters⟩
theorem of_KWBadPieces {K : PySem.W.Frag} {mg : Str → Option Value} (T : Tx K mg) : KWBadPieces K := ⟨T.e_BadPieces, T.y_BadPieces_PressError, T.v_BadPieces_ValueError, T.s_BadPieces_BadRow, T.s_BadPieces_BadBits, T.s_BadPieces_NoBits, T.s_BadPieces_BadShares, T.s_BadPieces_BadLengths, T.s_BadPieces_BadCode, T.s_BadPieces_BadTable, T.s_BadPieces_Cut, T.s_BadPieces_BadPieces, T.s_BadPieces_BadBody, T.s_BadPieces_BadHead, T.s_BadPieces_BadCheck, T.s_BadPieces_BadMark, T.s_BadPieces_BadTail, T.s_BadPieces_Behind, T.s_BadPieces_Over, T.s_BadPieces_NoRange, T.s_BadPieces_BadLetters⟩
abbrev N__law_mixed : List Str := ["_law_cell", "_law_k"]
theorem sc__law_mixed : FnScope N__law_mixed ["_law_cell", "_law_k"] (defScope s__law_mixed) := ⟨rfl, rfl, rfl, by decide +kernel, rfl, by decide +kernel, by decide +kernel⟩
theorem wk__law_mixed {P : Program} {w : World} {K : PySem.W.Frag} {mg : Str → Option Value} {base : Heap} (T : Tx K mg)  {f : Addr} {cdv : Value} {A : Around} {outer : List Env} {s : Shared} {H : Hp} {E : XK}
    (hr : Room 0 (A.deeper (envOfC "_law_mixed" (defScope s__law_mixed) s.heap.objs.size f cdv))) :
    PSs (cxOf (L2N.CX P w) P w K mg base N__law_mixed "_law_mixed" (defScope s__law_mixed) f cdv A outer s H E) (defBody s__law_mixed) (t__law_mixed K (fun c d _ H2 => E c d H2)) := by
  have hu1 := hu_of hr
  have hu64 := hr.units
  have tk : L2N.Takes (cxOf (L2N.CX P w) P w K mg base N__law_mixed "_law_mixed" (defScope s__law_mixed) f cdv A outer s H E) (fun c d _ H2 => E c d H2) := L2N.takes_of rfl rfl rfl rfl
  exact (pss_one (ps_ret (pe_op op_modU (pe_op op_mulU (pe_op op_modU (pe_op op_mulU (pe_op op_addU (pe_op op_addU (pv 0) (pe_op op_mulU (pe_op op_mulU (pe_int) (pv 1)) (pv 1))) (pe_int)) (pe_int)) (pe_int)) (pe_int)) (pe_int))))
theorem fn__law_mixed {P : Program} {w : World} {K : PySem.W.Frag} {mg : Str → Option Value} {base : Heap} (T : Tx K mg) {f : Addr} {fd : FuncData} (F : FunD K d__law_mixed.name d__law_mixed.qual d__law_mixed.params d__law_mixed.body d__law_mixed.scope (d__law_mixed.dvs K) (d__law_mixed.kws K) f fd) :
    FnOk P w K mg base (L2N.CX P w) 1 f fd ["_law_cell", "_law_k"] (sp__law_mixed K) :=
  F.ok sc__law_mixed (fun vs H Q E h => len__law_mixed h) (fun cdv A outer s H vs Q E hr h => ⟨t__law_mixed K (fun c d _ H2 => E c d H2), wk__law_mixed T  hr, rd__law_mixed  h⟩)
theorem ok__law_mixed_2 {P : Program} {w : World} {K : PySem.W.Frag} {mg : Str → Option Value} {base : Heap} (T : Tx K mg) : DOkN P w K mg base 1 (He.fAd K ("_law_mixed", none)) ["_law_cell", "_law_k"] [] (sp__law_mixed K) := by
  obtain ⟨fd, F⟩ := T.d__law_mixed
  exact ⟨fd, [], .nil, FunD.bindsN F fun _ _ _ _ _ _ us hl => match us, hl with | [_, _], _ => rfl, fn__law_mixed T F, F.kp⟩
abbrev N__law_cell_at : List Str := ["_law_script", "_law_k"]
theorem sc__law_cell_at : FnScope N__law_cell_at ["_law_script", "_law_k"] (defScope s__law_cell_at) := ⟨rfl, rfl, rfl, by decide +kernel, rfl, by decide +kernel, by decide +kernel⟩
theorem wk__law_cell_at {P : Program} {w : World} {K : PySem.W.Frag} {mg : Str → Option Value} {base : Heap} (T : Tx K mg)  {f : Addr} {cdv : Value} {A : Around} {outer : List Env} {s : Shared} {H : Hp} {E : XK}
    (hr : Room 0 (A.deeper (envOfC "_law_cell_at" (defScope s__law_cell_at) s.heap.objs.size f cdv))) :
    PSs (cxOf (L2N.CX P w) P w K mg base N__law_cell_at "_law_cell_at" (defScope s__law_cell_at) f cdv A outer s H E) (defBody s__law_cell_at) (t__law_cell_at K (fun c d _ H2 => E c d H2)) := by
  have hu1 := hu_of hr
  have hu64 := hr.units
  have tk : L2N.Takes (cxOf (L2N.CX P w) P w K mg base N__law_cell_at "_law_cell_at" (defScope s__law_cell_at) f cdv A outer s H E) (fun c d _ H2 => E c d H2) := L2N.takes_of rfl rfl rfl rfl
  exact (pss_cons (ps_if (pt_cmpR op_ltU (pv 1) (pe_callB cr_lenK (by rfl) T.f_len bb_len (pa_cons (pv 0) pa_nil)) (nomark _)) (pss_one (ps_ret (pe_ix ix_seq (pv 0) (pv 1) (fun _ _ => rfl)))) pss_nil)
    (pss_one (ps_ret (pe_int))))
theorem fn__law_cell_at {P : Program} {w : World} {K : PySem.W.Frag} {mg : Str → Option Value} {base : Heap} (T : Tx K mg) {f : Addr} {fd : FuncData} (F : FunD K d__law_cell_at.name d__law_cell_at.qual d__law_cell_at.params d__law_cell_at.body d__law_cell_at.scope (d__law_cell_at.dvs K) (d__law_cell_at.kws K) f fd) :
    FnOk P w K mg base (L2N.CX P w) 1 f fd ["_law_script", "_law_k"] (sp__law_cell_at K) :=
  F.ok sc__law_cell_at (fun vs H Q E h => len__law_cell_at h) (fun cdv A outer s H vs Q E hr h => ⟨t__law_cell_at K (fun c d _ H2 => E c d H2), wk__law_cell_at T  hr, rd__law_cell_at  h⟩)
theorem ok__law_cell_at_2 {P : Program} {w : World} {K : PySem.W.Frag} {mg : Str → Option Value} {base : Heap} (T : Tx K mg) : DOkN P w K mg base 1 (He.fAd K ("_law_cell_at", none)) ["_law_script", "_law_k"] [] (sp__law_cell_at K) := by
  obtain ⟨fd, F⟩ := T.d__law_cell_at
  exact ⟨fd, [], .nil, FunD.bindsN F fun _ _ _ _ _ _ us hl => match us, hl with | [_, _], _ => rfl, fn__law_cell_at T F, F.kp⟩
abbrev N__law_signs : List Str := ["_law_script", "_law_first", "_law_size", "_law_kinds", "_law_found", "_law_k", "_law_number", "_law_more", "_law_back", "_law_turn"]
theorem sc__law_signs : FnScope N__law_signs ["_law_script", "_law_first", "_law_size", "_law_kinds"] (defScope s__law_signs) := ⟨rfl, rfl, rfl, by decide +kernel, rfl, by decide +kernel, by decide +kernel⟩
theorem wk__law_signs {P : Program} {w : World} {K : PySem.W.Frag} {mg : Str → Option Value} {base : Heap} (T : Tx K mg) (O0 : DOkN P w K mg base 1 (He.fAd K ("_law_mixed", none)) ["_law_cell", "_law_k"] [] (sp__law_mixed K)) (O1 : DOkN P w K mg base 1 (He.fAd K ("_law_cell_at", none)) ["_law_script", "_law_k"] [] (sp__law_cell_at K)) {f : Addr} {cdv : Value} {A : Around} {outer : List Env} {s : Shared} {H : Hp} {E : XK}
    (hr : Room 1 (A.deeper (envOfC "_law_signs" (defScope s__law_signs) s.heap.objs.size f cdv))) :
    PSs (cxOf (L2N.CX P w) P w K mg base N__law_signs "_law_signs" (defScope s__law_signs) f cdv A outer s H E) (defBody s__law_signs) (t__law_signs K (fun c d _ H2 => E c d H2)) := by
  obtain ⟨fd0, ds0, v0, b0, G0, q0⟩ := O0
  obtain ⟨fd1, ds1, v1, b1, G1, q1⟩ := O1
  have hu1 := hu_of hr
  have hu64 := hr.units
  have tk : L2N.Takes (cxOf (L2N.CX P w) P w K mg base N__law_signs "_law_signs" (defScope s__law_signs) f cdv A outer s H E) (fun c d _ H2 => E c d H2) := L2N.takes_of rfl rfl rfl rfl
  exact (pss_cons (ps_set (i := 4) sc__law_signs.nd rfl (Or.inl rfl) (pe_lst pa_nil))
    (pss_cons (ps_set (i := 5) sc__law_signs.nd rfl (Or.inl rfl) (pe_int))
    (pss_cons (ps_while (passes_of rfl) (pt_cmpR op_ltU (pe_callB cr_lenK (by rfl) T.f_len bb_len (pa_cons (pv 4) pa_nil)) (pv 2) (nomark _)) (pss_cons (ps_set (i := 6) sc__law_signs.nd rfl (Or.inl rfl) (pe_clN G0 (hr.mono (by decide)) rfl T.g__law_mixed q0 b0 v0 tk (pa_cons (pe_clN G1 (hr.mono (by decide)) rfl T.g__law_cell_at q1 b1 v1 tk (pa_cons (pv 0) (pa_cons (pe_op op_addU (pv 1) (pe_op op_modU (pv 5) (pe_int))) pa_nil))) (pa_cons (pv 5) pa_nil))))
    (pss_cons (ps_if (PW.pt (pw_or (pt_cmpR op_gtU (pe_op op_modU (pv 6) (pe_int)) (pe_int) (nomark _)) (pw_or1 (pt_cmpR (op_eqU hu64) (pv 4) (pe_lst pa_nil) (nomark _))))) (pss_cons (ps_set (i := 7) sc__law_signs.nd rfl (Or.inl rfl) (pe_op op_divU (pv 6) (pe_int)))
    (pss_one (ps_expr (pe_bm PySem.F.plainAttrs_list PySem.F.slot_list_append PySem.F.type_list_append mt_append (pv 4) (pa_cons (pe_ifExp (pt_cmpR (op_eqU hu64) (pv 3) (pe_int) (nomark _)) (pe_op op_modU (pv 7) (pe_int)) (pe_op op_addU (pe_op op_mulU (pe_int) (pe_op op_modU (pv 7) (pv 3))) (pv 3))) pa_nil))))) (pss_cons (ps_set (i := 8) sc__law_signs.nd rfl (Or.inl rfl) (pe_op op_addU (pe_int) (pe_op op_modU (pe_op op_divU (pv 6) (pe_int)) (pe_callB (cr_min2K rfl) (by rfl) T.f_min bb_min (pa_cons (pe_callB cr_lenK (by rfl) T.f_len bb_len (pa_cons (pv 4) pa_nil)) (pa_cons (pe_ix ix_seq (pe_lst (pa_cons (pe_int) (pa_cons (pe_int) (pa_cons (pe_int) pa_nil)))) (pe_op op_modU (pe_op op_divU (pv 6) (pe_int)) (pe_int)) (fun _ _ => rfl)) pa_nil))))))
    (pss_one (ps_for (passes_of rfl) rfl (pi_range1 rfl T.f_range (pa_cons (pe_op op_addU (pe_int) (pe_op op_modU (pe_op op_divU (pv 6) (pe_int)) (pe_ix ix_seq (pe_lst (pa_cons (pe_int) (pa_cons (pe_int) (pa_cons (pe_int) pa_nil)))) (pe_op op_modU (pe_op op_divU (pv 6) (pe_int)) (pe_int)) (fun _ _ => rfl)))) pa_nil)) (pg_name (i := 9) sc__law_signs.nd rfl (Or.inl rfl)) (pss_one (ps_expr (pe_bm PySem.F.plainAttrs_list PySem.F.slot_list_append PySem.F.type_list_append mt_append (pv 4) (pa_cons (pe_ix ix_seq (pv 4) (pe_op op_subU (pe_callB cr_lenK (by rfl) T.f_len bb_len (pa_cons (pv 4) pa_nil)) (pv 8)) (fun _ _ => rfl)) pa_nil))))))))
    (pss_one (ps_aug (i := 5) sc__law_signs.nd rfl (Or.inl rfl) (pe_int) ip_addU)))))
    (pss_one (ps_ret (pe_slice sl_K (pv 4) po_none (po_some (pv 2))))))))
theorem fn__law_signs {P : Program} {w : World} {K : PySem.W.Frag} {mg : Str → Option Value} {base : Heap} (T : Tx K mg) {f : Addr} {fd : FuncData} (F : FunD K d__law_signs.name d__law_signs.qual d__law_signs.params d__law_signs.body d__law_signs.scope (d__law_signs.dvs K) (d__law_signs.kws K) f fd) :
    FnOk P w K mg base (L2N.CX P w) 2 f fd ["_law_script", "_law_first", "_law_size", "_law_kinds"] (sp__law_signs K) :=
  F.ok sc__law_signs (fun vs H Q E h => len__law_signs h) (fun cdv A outer s H vs Q E hr h => ⟨t__law_signs K (fun c d _ H2 => E c d H2), wk__law_signs T (ok__law_mixed_2 T) (ok__law_cell_at_2 T) hr, rd__law_signs  h⟩)
theorem ok__law_signs_4 {P : Program} {w : World} {K : PySem.W.Frag} {mg : Str → Option Value} {base : Heap} (T : Tx K mg) : DOkN P w K mg base 2 (He.fAd K ("_law_signs", none)) ["_law_script", "_law_first", "_law_size", "_law_kinds"] [] (sp__law_signs K) := by
  obtain ⟨fd, F⟩ := T.d__law_signs
  exact ⟨fd, [], .nil, FunD.bindsN F fun _ _ _ _ _ _ us hl => match us, hl with | [_, _, _, _], _ => rfl, fn__law_signs T F, F.kp⟩
abbrev N__law_drawn_pieces : List Str := ["_law_script", "_law_many", "_law_found", "_law_at", "_law_k", "_law_number", "_law_back", "_law_size"]
theorem sc__law_drawn_pieces : FnScope N__law_drawn_pieces ["_law_script", "_law_many"] (defScope s__law_drawn_pieces) := ⟨rfl, rfl, rfl, by decide +kernel, rfl, by decide +kernel, by decide +kernel⟩
theorem wk__law_drawn_pieces {P : Program} {w : World} {K : PySem.W.Frag} {mg : Str → Option Value} {base : Heap} (T : Tx K mg) (O0 : DOkN P w K mg base 1 (He.fAd K ("_law_mixed", none)) ["_law_cell", "_law_k"] [] (sp__law_mixed K)) (O1 : DOkN P w K mg base 1 (He.fAd K ("_law_cell_at", none)) ["_law_script", "_law_k"] [] (sp__law_cell_at K)) {f : Addr} {cdv : Value} {A : Around} {outer : List Env} {s : Shared} {H : Hp} {E : XK}
    (hr : Room 1 (A.deeper (envOfC "_law_drawn_pieces" (defScope s__law_drawn_pieces) s.heap.objs.size f cdv))) :
    PSs (cxOf (L2N.CX P w) P w K mg base N__law_drawn_pieces "_law_drawn_pieces" (defScope s__law_drawn_pieces) f cdv A outer s H E) (defBody s__law_drawn_pieces) (t__law_drawn_pieces K (fun c d _ H2 => E c d H2)) := by
  obtain ⟨fd0, ds0, v0, b0, G0, q0⟩ := O0
  obtain ⟨fd1, ds1, v1, b1, G1, q1⟩ := O1
  have hu1 := hu_of hr
  have hu64 := hr.units
  have tk : L2N.Takes (cxOf (L2N.CX P w) P w K mg base N__law_drawn_pieces "_law_drawn_pieces" (defScope s__law_drawn_pieces) f cdv A outer s H E) (fun c d _ H2 => E c d H2) := L2N.takes_of rfl rfl rfl rfl
  exact (pss_cons (ps_set (i := 2) sc__law_drawn_pieces.nd rfl (Or.inl rfl) (pe_lst pa_nil))
    (pss_cons (ps_set (i := 3) sc__law_drawn_pieces.nd rfl (Or.inl rfl) (pv 1))
    (pss_cons (ps_for (passes_of rfl) rfl (pi_range1 rfl T.f_range (pa_cons (pe_op op_modU (pe_clN G0 (hr.mono (by decide)) rfl T.g__law_mixed q0 b0 v0 tk (pa_cons (pe_clN G1 (hr.mono (by decide)) rfl T.g__law_cell_at q1 b1 v1 tk (pa_cons (pv 0) (pa_cons (pe_int) pa_nil))) (pa_cons (pe_int) pa_nil))) (pe_int)) pa_nil)) (pg_name (i := 4) sc__law_drawn_pieces.nd rfl (Or.inl rfl)) (pss_cons (ps_set (i := 5) sc__law_drawn_pieces.nd rfl (Or.inl rfl) (pe_clN G0 (hr.mono (by decide)) rfl T.g__law_mixed q0 b0 v0 tk (pa_cons (pe_clN G1 (hr.mono (by decide)) rfl T.g__law_cell_at q1 b1 v1 tk (pa_cons (pv 0) (pa_cons (pe_op op_addU (pe_int) (pv 4)) pa_nil))) (pa_cons (pv 4) pa_nil))))
    (pss_one (ps_if (PW.pt (pw_or (pt_cmpR (op_eqU hu64) (pe_op op_modU (pv 5) (pe_int)) (pe_int) (nomark _)) (pw_or1 (pt_cmpR (op_eqU hu64) (pv 3) (pe_int) (nomark _))))) (pss_cons (ps_expr (pe_bm PySem.F.plainAttrs_list PySem.F.slot_list_append PySem.F.type_list_append mt_append (pv 2) (pa_cons (pe_tup (pa_cons (pe_str) (pa_cons (pe_op op_modU (pe_op op_divU (pv 5) (pe_int)) (pe_int)) pa_nil))) pa_nil)))
    (pss_one (ps_aug (i := 3) sc__law_drawn_pieces.nd rfl (Or.inl rfl) (pe_int) ip_addU))) (pss_cons (ps_set (i := 6) sc__law_drawn_pieces.nd rfl (Or.inl rfl) (pe_ix ix_seq (pe_lst (pa_cons (pe_int) (pa_cons (pe_int) (pa_cons (pe_op op_addU (pe_int) (pe_op op_modU (pe_op op_divU (pv 5) (pe_int)) (pe_callB (cr_min2K rfl) (by rfl) T.f_min bb_min (pa_cons (pv 3) (pa_cons (pe_int) pa_nil))))) (pa_cons (pe_callB (cr_min2K rfl) (by rfl) T.f_min bb_min (pa_cons (pv 3) (pa_cons (pe_int) pa_nil))) (pa_cons (pe_op op_addU (pe_int) (pe_op op_modU (pe_op op_divU (pv 5) (pe_int)) (pe_callB (cr_min2K rfl) (by rfl) T.f_min bb_min (pa_cons (pv 3) (pa_cons (pe_int) pa_nil))))) pa_nil)))))) (pe_op op_modU (pe_op op_divU (pv 5) (pe_int)) (pe_int)) (fun _ _ => rfl)))
    (pss_cons (ps_set (i := 7) sc__law_drawn_pieces.nd rfl (Or.inl rfl) (pe_ix ix_seq (pe_lst (pa_cons (pe_int) (pa_cons (pe_int) (pa_cons (pe_op op_addU (pe_int) (pe_op op_modU (pe_op op_divU (pv 5) (pe_int)) (pe_int))) pa_nil)))) (pe_op op_modU (pe_op op_divU (pv 5) (pe_int)) (pe_int)) (fun _ _ => rfl)))
    (pss_cons (ps_expr (pe_bm PySem.F.plainAttrs_list PySem.F.slot_list_append PySem.F.type_list_append mt_append (pv 2) (pa_cons (pe_tup (pa_cons (pe_str) (pa_cons (pe_callB (cr_min2K rfl) (by rfl) T.f_min bb_min (pa_cons (pv 3) (pa_cons (pv 6) pa_nil))) (pa_cons (pv 7) pa_nil)))) pa_nil)))
    (pss_one (ps_aug (i := 3) sc__law_drawn_pieces.nd rfl (Or.inl rfl) (pv 7) ip_addU)))))))))
    (pss_one (ps_ret (pv 2))))))
theorem fn__law_drawn_pieces {P : Program} {w : World} {K : PySem.W.Frag} {mg : Str → Option Value} {base : Heap} (T : Tx K mg) {f : Addr} {fd : FuncData} (F : FunD K d__law_drawn_pieces.name d__law_drawn_pieces.qual d__law_drawn_pieces.params d__law_drawn_pieces.body d__law_drawn_pieces.scope (d__law_drawn_pieces.dvs K) (d__law_drawn_pieces.kws K) f fd) :
    FnOk P w K mg base (L2N.CX P w) 2 f fd ["_law_script", "_law_many"] (sp__law_drawn_pieces K) :=
  F.ok sc__law_drawn_pieces (fun vs H Q E h => len__law_drawn_pieces h) (fun cdv A outer s H vs Q E hr h => ⟨t__law_drawn_pieces K (fun c d _ H2 => E c d H2), wk__law_drawn_pieces T (ok__law_mixed_2 T) (ok__law_cell_at_2 T) hr, rd__law_drawn_pieces  h⟩)
theorem ok__law_drawn_pieces_2 {P : Program} {w : World} {K : PySem.W.Frag} {mg : Str → Option Value} {base : Heap} (T : Tx K mg) : DOkN P w K mg base 2 (He.fAd K ("_law_drawn_pieces", none)) ["_law_script", "_law_many"] [] (sp__law_drawn_pieces K) := by
  obtain ⟨fd, F⟩ := T.d__law_drawn_pieces
  exact ⟨fd, [], .nil, FunD.bindsN F fun _ _ _ _ _ _ us hl => match us, hl with | [_, _], _ => rfl, fn__law_drawn_pieces T F, F.kp⟩
abbrev N_is_byte : List Str := ["thing"]
theorem sc_is_byte : FnScope N_is_byte ["thing"] (defScope s_is_byte) := ⟨rfl, rfl, rfl, by decide +kernel, rfl, by decide +kernel, by decide +kernel⟩
theorem wk_is_byte {P : Program} {w : World} {K : PySem.W.Frag} {mg : Str → Option Value} {base : Heap} (T : Tx K mg)  {f : Addr} {cdv : Value} {A : Around} {outer : List Env} {s : Shared} {H : Hp} {E : XK}
    (hr : Room 0 (A.deeper (envOfC "is_byte" (defScope s_is_byte) s.heap.objs.size f cdv))) :
    PSs (cxOf (L2N.CX P w) P w K mg base N_is_byte "is_byte" (defScope s_is_byte) f cdv A outer s H E) (defBody s_is_byte) (t_is_byte K (fun c d _ H2 => E c d H2)) := by
  have hu1 := hu_of hr
  have hu64 := hr.units
  have tk : L2N.Takes (cxOf (L2N.CX P w) P w K mg base N_is_byte "is_byte" (defScope s_is_byte) f cdv A outer s H E) (fun c d _ H2 => E c d H2) := L2N.takes_of rfl rfl rfl rfl
  exact (pss_one (ps_ret ((pe_and (pe_callB call_isi (by rfl) T.f_isinstance bb_isinstance (pa_cons (pv 0) (pa_cons (pe_bty rfl T.f_int bt_int) pa_nil))) (pe_and (pe_not (pe_callB call_isi (by rfl) T.f_isinstance bb_isinstance (pa_cons (pv 0) (pa_cons (pe_bty rfl T.f_bool bt_bool) pa_nil)))) (pe_one (pe_chain op_leU op_leU (pe_int) (pv 0) (pe_gint rfl T.g_MOST_BYTE))))))))
theorem fn_is_byte {P : Program} {w : World} {K : PySem.W.Frag} {mg : Str → Option Value} {base : Heap} (T : Tx K mg) {f : Addr} {fd : FuncData} (F : FunD K d_is_byte.name d_is_byte.qual d_is_byte.params d_is_byte.body d_is_byte.scope (d_is_byte.dvs K) (d_is_byte.kws K) f fd) :
    FnOk P w K mg base (L2N.CX P w) 1 f fd ["thing"] (sp_is_byte K) :=
  F.ok sc_is_byte (fun vs H Q E h => len_is_byte h) (fun cdv A outer s H vs Q E hr h => ⟨t_is_byte K (fun c d _ H2 => E c d H2), wk_is_byte T  hr, rd_is_byte  h⟩)
theorem ok_is_byte_1 {P : Program} {w : World} {K : PySem.W.Frag} {mg : Str → Option Value} {base : Heap} (T : Tx K mg) : DOkN P w K mg base 1 (He.fAd K ("is_byte", none)) ["thing"] [] (sp_is_byte K) := by
  obtain ⟨fd, F⟩ := T.d_is_byte
  exact ⟨fd, [], .nil, FunD.bindsN F fun _ _ _ _ _ _ us hl => match us, hl with | [_], _ => rfl, fn_is_byte T F, F.kp⟩
abbrev N_is_row : List Str := ["thing", "number"]
theorem sc_is_row : FnScope N_is_row ["thing"] (defScope s_is_row) := ⟨rfl, rfl, rfl, by decide +kernel, rfl, by decide +kernel, by decide +kernel⟩
theorem wk_is_row {P : Program} {w : World} {K : PySem.W.Frag} {mg : Str → Option Value} {base : Heap} (T : Tx K mg) (O0 : DOkN P w K mg base 1 (He.fAd K ("is_byte", none)) ["thing"] [] (sp_is_byte K)) {f : Addr} {cdv : Value} {A : Around} {outer : List Env} {s : Shared} {H : Hp} {E : XK}
    (hr : Room 1 (A.deeper (envOfC "is_row" (defScope s_is_row) s.heap.objs.size f cdv))) :
    PSs (cxOf (L2N.CX P w) P w K mg base N_is_row "is_row" (defScope s_is_row) f cdv A outer s H E) (defBody s_is_row) (t_is_row K (fun c d _ H2 => E c d H2)) := by
  obtain ⟨fd0, ds0, v0, b0, G0, q0⟩ := O0
  have hu1 := hu_of hr
  have hu64 := hr.units
  have tk : L2N.Takes (cxOf (L2N.CX P w) P w K mg base N_is_row "is_row" (defScope s_is_row) f cdv A outer s H E) (fun c d _ H2 => E c d H2) := L2N.takes_of rfl rfl rfl rfl
  exact (pss_one (ps_ret ((pe_and (pe_callB call_isi (by rfl) T.f_isinstance bb_isinstance (pa_cons (pv 0) (pa_cons (pe_bty rfl T.f_list bt_list) pa_nil))) (pe_one (pe_callB (cr_all rfl) (by rfl) T.f_all bb_all (pa_cons (pe_lc (own := [("number", 1)]) rfl sc_is_row.nd (pi_list (pv 0)) (blkOk_by (own := [("number", 1)]) (N := N_is_row) (sc := defScope s_is_row) (by decide +kernel)) (fun _ _ _ _ _ => (pg_name (i := 1) sc_is_row.nd rfl (Or.inl rfl))) (fun _ _ _ _ _ => pts_nil) (fun _ _ _ _ _ => (pe_clN G0 (hr.mono (by decide)) rfl T.g_is_byte q0 b0 v0 takes0N (pa_cons (pv 1) pa_nil)))) pa_nil)))))))
theorem fn_is_row {P : Program} {w : World} {K : PySem.W.Frag} {mg : Str → Option Value} {base : Heap} (T : Tx K mg) {f : Addr} {fd : FuncData} (F : FunD K d_is_row.name d_is_row.qual d_is_row.params d_is_row.body d_is_row.scope (d_is_row.dvs K) (d_is_row.kws K) f fd) :
    FnOk P w K mg base (L2N.CX P w) 2 f fd ["thing"] (sp_is_row K) :=
  F.ok sc_is_row (fun vs H Q E h => len_is_row h) (fun cdv A outer s H vs Q E hr h => ⟨t_is_row K (fun c d _ H2 => E c d H2), wk_is_row T (ok_is_byte_1 T) hr, rd_is_row  h⟩)
theorem ok_is_row_1 {P : Program} {w : World} {K : PySem.W.Frag} {mg : Str → Option Value} {base : Heap} (T : Tx K mg) : DOkN P w K mg base 2 (He.fAd K ("is_row", none)) ["thing"] [] (sp_is_row K) := by
  obtain ⟨fd, F⟩ := T.d_is_row
  exact ⟨fd, [], .nil, FunD.bindsN F fun _ _ _ _ _ _ us hl => match us, hl with | [_], _ => rfl, fn_is_row T F, F.kp⟩
abbrev N_need_window : List Str := ["before"]
theorem sc_need_window : FnScope N_need_window ["before"] (defScope s_need_window) := ⟨rfl, rfl, rfl, by decide +kernel, rfl, by decide +kernel, by decide +kernel⟩
theorem wk_need_window {P : Program} {w : World} {K : PySem.W.Frag} {mg : Str → Option Value} {base : Heap} (T : Tx K mg) (O0 : DOkN P w K mg base 2 (He.fAd K ("is_row", none)) ["thing"] [] (sp_is_row K)) {f : Addr} {cdv : Value} {A : Around} {outer : List Env} {s : Shared} {H : Hp} {E : XK}
    (hr : Room 2 (A.deeper (envOfC "need_window" (defScope s_need_window) s.heap.objs.size f cdv))) :
    PSs (cxOf (L2N.CX P w) P w K mg base N_need_window "need_window" (defScope s_need_window) f cdv A outer s H E) (defBody s_need_window) (t_need_window K (fun c d _ H2 => E c d H2)) := by
  obtain ⟨fd0, ds0, v0, b0, G0, q0⟩ := O0
  have hu1 := hu_of hr
  have hu64 := hr.units
  have tk : L2N.Takes (cxOf (L2N.CX P w) P w K mg base N_need_window "need_window" (defScope s_need_window) f cdv A outer s H E) (fun c d _ H2 => E c d H2) := L2N.takes_of rfl rfl rfl rfl
  exact (pss_cons (ps_if (pt_cmpR op_isU (pv 0) (pe_non) (nomark _)) (pss_one (ps_ret (pe_lst pa_nil))) pss_nil)
    (pss_cons (ps_if (PW.pt (pw_or (pt_not (pt_val (pe_clN G0 (hr.mono (by decide)) rfl T.g_is_row q0 b0 v0 tk (pa_cons (pv 0) pa_nil)))) (pw_or1 (pt_cmpR op_gtU (pe_callB cr_lenK (by rfl) T.f_len bb_len (pa_cons (pv 0) pa_nil)) (pe_gint rfl T.g_MOST_BACK) (nomark _))))) (pss_one (ps_rzN rfl tk T.x_BadRow T.g_BadRow rfl)) pss_nil)
    (pss_one (ps_ret (pe_callTy cr_listK (by rfl) T.f_list bt_list (pa_cons (pv 0) pa_nil))))))
theorem fn_need_window {P : Program} {w : World} {K : PySem.W.Frag} {mg : Str → Option Value} {base : Heap} (T : Tx K mg) {f : Addr} {fd : FuncData} (F : FunD K d_need_window.name d_need_window.qual d_need_window.params d_need_window.body d_need_window.scope (d_need_window.dvs K) (d_need_window.kws K) f fd) :
    FnOk P w K mg base (L2N.CX P w) 3 f fd ["before"] (sp_need_window K) :=
  F.ok sc_need_window (fun vs H Q E h => len_need_window h) (fun cdv A outer s H vs Q E hr h => ⟨t_need_window K (fun c d _ H2 => E c d H2), wk_need_window T (ok_is_row_1 T) hr, rd_need_window  h⟩)
theorem ok_need_window_1 {P : Program} {w : World} {K : PySem.W.Frag} {mg : Str → Option Value} {base : Heap} (T : Tx K mg) : DOkN P w K mg base 3 (He.fAd K ("need_window", none)) ["before"] [] (sp_need_window K) := by
  obtain ⟨fd, F⟩ := T.d_need_window
  exact ⟨fd, [], .nil, FunD.bindsN F fun _ _ _ _ _ _ us hl => match us, hl with | [_], _ => rfl, fn_need_window T F, F.kp⟩
abbrev N_is_among : List Str := ["thing", "least", "most"]
theorem sc_is_among : FnScope N_is_among ["thing", "least", "most"] (defScope s_is_among) := ⟨rfl, rfl, rfl, by decide +kernel, rfl, by decide +kernel, by decide +kernel⟩
theorem wk_is_among {P : Program} {w : World} {K : PySem.W.Frag} {mg : Str → Option Value} {base : Heap} (T : Tx K mg)  {f : Addr} {cdv : Value} {A : Around} {outer : List Env} {s : Shared} {H : Hp} {E : XK}
    (hr : Room 0 (A.deeper (envOfC "is_among" (defScope s_is_among) s.heap.objs.size f cdv))) :
    PSs (cxOf (L2N.CX P w) P w K mg base N_is_among "is_among" (defScope s_is_among) f cdv A outer s H E) (defBody s_is_among) (t_is_among K (fun c d _ H2 => E c d H2)) := by
  have hu1 := hu_of hr
  have hu64 := hr.units
  have tk : L2N.Takes (cxOf (L2N.CX P w) P w K mg base N_is_among "is_among" (defScope s_is_among) f cdv A outer s H E) (fun c d _ H2 => E c d H2) := L2N.takes_of rfl rfl rfl rfl
  exact (pss_one (ps_ret ((pe_and (pe_callB call_isi (by rfl) T.f_isinstance bb_isinstance (pa_cons (pv 0) (pa_cons (pe_bty rfl T.f_int bt_int) pa_nil))) (pe_and (pe_not (pe_callB call_isi (by rfl) T.f_isinstance bb_isinstance (pa_cons (pv 0) (pa_cons (pe_bty rfl T.f_bool bt_bool) pa_nil)))) (pe_one (pe_chain op_leU op_leU (pv 1) (pv 0) (pv 2))))))))
theorem fn_is_among {P : Program} {w : World} {K : PySem.W.Frag} {mg : Str → Option Value} {base : Heap} (T : Tx K mg) {f : Addr} {fd : FuncData} (F : FunD K d_is_among.name d_is_among.qual d_is_among.params d_is_among.body d_is_among.scope (d_is_among.dvs K) (d_is_among.kws K) f fd) :
    FnOk P w K mg base (L2N.CX P w) 1 f fd ["thing", "least", "most"] (sp_is_among K) :=
  F.ok sc_is_among (fun vs H Q E h => len_is_among h) (fun cdv A outer s H vs Q E hr h => ⟨t_is_among K (fun c d _ H2 => E c d H2), wk_is_among T  hr, rd_is_among  h⟩)
theorem ok_is_among_3 {P : Program} {w : World} {K : PySem.W.Frag} {mg : Str → Option Value} {base : Heap} (T : Tx K mg) : DOkN P w K mg base 1 (He.fAd K ("is_among", none)) ["thing", "least", "most"] [] (sp_is_among K) := by
  obtain ⟨fd, F⟩ := T.d_is_among
  exact ⟨fd, [], .nil, FunD.bindsN F fun _ _ _ _ _ _ us hl => match us, hl with | [_, _, _], _ => rfl, fn_is_among T F, F.kp⟩
abbrev N_is_piece : List Str := ["thing"]
theorem sc_is_piece : FnScope N_is_piece ["thing"] (defScope s_is_piece) := ⟨rfl, rfl, rfl, by decide +kernel, rfl, by decide +kernel, by decide +kernel⟩
theorem wk_is_piece {P : Program} {w : World} {K : PySem.W.Frag} {mg : Str → Option Value} {base : Heap} (T : Tx K mg) (O0 : DOkN P w K mg base 1 (He.fAd K ("is_byte", none)) ["thing"] [] (sp_is_byte K)) (O1 : DOkN P w K mg base 1 (He.fAd K ("is_among", none)) ["thing", "least", "most"] [] (sp_is_among K)) {f : Addr} {cdv : Value} {A : Around} {outer : List Env} {s : Shared} {H : Hp} {E : XK}
    (hr : Room 1 (A.deeper (envOfC "is_piece" (defScope s_is_piece) s.heap.objs.size f cdv))) :
    PSs (cxOf (L2N.CX P w) P w K mg base N_is_piece "is_piece" (defScope s_is_piece) f cdv A outer s H E) (defBody s_is_piece) (t_is_piece K (fun c d _ H2 => E c d H2)) := by
  obtain ⟨fd0, ds0, v0, b0, G0, q0⟩ := O0
  obtain ⟨fd1, ds1, v1, b1, G1, q1⟩ := O1
  have hu1 := hu_of hr
  have hu64 := hr.units
  have tk : L2N.Takes (cxOf (L2N.CX P w) P w K mg base N_is_piece "is_piece" (defScope s_is_piece) f cdv A outer s H E) (fun c d _ H2 => E c d H2) := L2N.takes_of rfl rfl rfl rfl
  exact (pss_cons (ps_if (PW.pt (pw_or (pt_not (pt_val (pe_callB call_isi (by rfl) T.f_isinstance bb_isinstance (pa_cons (pv 0) (pa_cons (pe_bty rfl T.f_tuple bt_tuple) pa_nil))))) (pw_or (pt_cmpR (op_eqU hu64) (pe_callB cr_lenK (by rfl) T.f_len bb_len (pa_cons (pv 0) pa_nil)) (pe_int) (nomark _)) (pw_or1 (pt_not (pt_val (pe_callB call_isi (by rfl) T.f_isinstance bb_isinstance (pa_cons (pe_ix ix_seq (pv 0) (pe_int) (fun _ _ => rfl)) (pa_cons (pe_bty rfl T.f_str bt_str) pa_nil))))))))) (pss_one (ps_ret (pe_bl))) pss_nil)
    (pss_cons (ps_if (pt_cmpR (op_eqU hu64) (pe_ix ix_seq (pv 0) (pe_int) (fun _ _ => rfl)) (pe_str) (nomark _)) (pss_one (ps_ret ((pe_and (pe_cmpR (op_eqU hu64) (pe_callB cr_lenK (by rfl) T.f_len bb_len (pa_cons (pv 0) pa_nil)) (pe_int) (nomark _)) (pe_one (pe_clN G0 (hr.mono (by decide)) rfl T.g_is_byte q0 b0 v0 tk (pa_cons (pe_ix ix_seq (pv 0) (pe_int) (fun _ _ => rfl)) pa_nil))))))) pss_nil)
    (pss_cons (ps_if (PW.pt (pw_or (pt_cmpR (op_neU hu64) (pe_ix ix_seq (pv 0) (pe_int) (fun _ _ => rfl)) (pe_str) (nomark _)) (pw_or1 (pt_cmpR (op_neU hu64) (pe_callB cr_lenK (by rfl) T.f_len bb_len (pa_cons (pv 0) pa_nil)) (pe_int) (nomark _))))) (pss_one (ps_ret (pe_bl))) pss_nil)
    (pss_one (ps_ret ((pe_and (pe_clN G1 (hr.mono (by decide)) rfl T.g_is_among q1 b1 v1 tk (pa_cons (pe_ix ix_seq (pv 0) (pe_int) (fun _ _ => rfl)) (pa_cons (pe_int) (pa_cons (pe_gint rfl T.g_MOST_BACK) pa_nil)))) (pe_one (pe_clN G1 (hr.mono (by decide)) rfl T.g_is_among q1 b1 v1 tk (pa_cons (pe_ix ix_seq (pv 0) (pe_int) (fun _ _ => rfl)) (pa_cons (pe_gint rfl T.g_LEAST_SIZE) (pa_cons (pe_gint rfl T.g_MOST_SIZE) pa_nil))))))))))))
theorem fn_is_piece {P : Program} {w : World} {K : PySem.W.Frag} {mg : Str → Option Value} {base : Heap} (T : Tx K mg) {f : Addr} {fd : FuncData} (F : FunD K d_is_piece.name d_is_piece.qual d_is_piece.params d_is_piece.body d_is_piece.scope (d_is_piece.dvs K) (d_is_piece.kws K) f fd) :
    FnOk P w K mg base (L2N.CX P w) 2 f fd ["thing"] (sp_is_piece K) :=
  F.ok sc_is_piece (fun vs H Q E h => len_is_piece h) (fun cdv A outer s H vs Q E hr h => ⟨t_is_piece K (fun c d _ H2 => E c d H2), wk_is_piece T (ok_is_byte_1 T) (ok_is_among_3 T) hr, rd_is_piece  h⟩)
theorem ok_is_piece_1 {P : Program} {w : World} {K : PySem.W.Frag} {mg : Str → Option Value} {base : Heap} (T : Tx K mg) : DOkN P w K mg base 2 (He.fAd K ("is_piece", none)) ["thing"] [] (sp_is_piece K) := by
  obtain ⟨fd, F⟩ := T.d_is_piece
  exact ⟨fd, [], .nil, FunD.bindsN F fun _ _ _ _ _ _ us hl => match us, hl with | [_], _ => rfl, fn_is_piece T F, F.kp⟩
abbrev N_text_of : List Str := ["pieces", "before", "signs", "begin", "piece", "turn", "one"]
theorem sc_text_of : FnScope N_text_of ["pieces", "before"] (defScope s_text_of) := ⟨rfl, rfl, rfl, by decide +kernel, rfl, by decide +kernel, by decide +kernel⟩
theorem wk_text_of {P : Program} {w : World} {K : PySem.W.Frag} {mg : Str → Option Value} {base : Heap} (T : Tx K mg) (O0 : DOkN P w K mg base 3 (He.fAd K ("need_window", none)) ["before"] [] (sp_need_window K)) (O1 : DOkN P w K mg base 2 (He.fAd K ("is_piece", none)) ["thing"] [] (sp_is_piece K)) {f : Addr} {cdv : Value} {A : Around} {outer : List Env} {s : Shared} {H : Hp} {E : XK}
    (hr : Room 3 (A.deeper (envOfC "text_of" (defScope s_text_of) s.heap.objs.size f cdv))) :
    PSs (cxOf (L2N.CX P w) P w K mg base N_text_of "text_of" (defScope s_text_of) f cdv A outer s H E) (defBody s_text_of) (t_text_of K (fun c d _ H2 => E c d H2)) := by
  obtain ⟨fd0, ds0, v0, b0, G0, q0⟩ := O0
  obtain ⟨fd1, ds1, v1, b1, G1, q1⟩ := O1
  have hu1 := hu_of hr
  have hu64 := hr.units
  have tk : L2N.Takes (cxOf (L2N.CX P w) P w K mg base N_text_of "text_of" (defScope s_text_of) f cdv A outer s H E) (fun c d _ H2 => E c d H2) := L2N.takes_of rfl rfl rfl rfl
  exact (pss_cons (ps_set (i := 2) sc_text_of.nd rfl (Or.inl rfl) (pe_clN G0 (hr.mono (by decide)) rfl T.g_need_window q0 b0 v0 tk (pa_cons (pv 1) pa_nil)))
    (pss_cons (ps_set (i := 3) sc_text_of.nd rfl (Or.inl rfl) (pe_callB cr_lenK (by rfl) T.f_len bb_len (pa_cons (pv 2) pa_nil)))
    (pss_cons (ps_if (PW.pt (pw_or (pt_not (pt_val (pe_callB call_isi (by rfl) T.f_isinstance bb_isinstance (pa_cons (pv 0) (pa_cons (pe_bty rfl T.f_list bt_list) pa_nil))))) (pw_or1 (pt_not (pt_val (pe_callB (cr_all rfl) (by rfl) T.f_all bb_all (pa_cons (pe_lc (own := [("one", 6)]) rfl sc_text_of.nd (pi_list (pv 0)) (blkOk_by (own := [("one", 6)]) (N := N_text_of) (sc := defScope s_text_of) (by decide +kernel)) (fun _ _ _ _ _ => (pg_name (i := 6) sc_text_of.nd rfl (Or.inl rfl))) (fun _ _ _ _ _ => pts_nil) (fun _ _ _ _ _ => (pe_clN G1 (hr.mono (by decide)) rfl T.g_is_piece q1 b1 v1 takes0N (pa_cons (pv 6) pa_nil)))) pa_nil))))))) (pss_one (ps_rzN rfl tk T.x_BadPieces T.g_BadPieces rfl)) pss_nil)
    (pss_cons (ps_for (passes_of rfl) rfl (pi_list (pv 0)) (pg_name (i := 4) sc_text_of.nd rfl (Or.inl rfl)) (pss_cons (ps_if (pt_cmpR (op_eqU hu64) (pe_ix ix_seq (pv 4) (pe_int) (fun _ _ => rfl)) (pe_str) (nomark _)) (pss_cons (ps_expr (pe_bm PySem.F.plainAttrs_list PySem.F.slot_list_append PySem.F.type_list_append mt_append (pv 2) (pa_cons (pe_ix ix_seq (pv 4) (pe_int) (fun _ _ => rfl)) pa_nil)))
    (pss_one (ps_continue))) pss_nil)
    (pss_cons (ps_if (pt_cmpR op_gtU (pe_ix ix_seq (pv 4) (pe_int) (fun _ _ => rfl)) (pe_callB cr_lenK (by rfl) T.f_len bb_len (pa_cons (pv 2) pa_nil)) (nomark _)) (pss_one (ps_rzN rfl tk T.x_BadPieces T.g_BadPieces rfl)) pss_nil)
    (pss_one (ps_for (passes_of rfl) rfl (pi_range1 rfl T.f_range (pa_cons (pe_ix ix_seq (pv 4) (pe_int) (fun _ _ => rfl)) pa_nil)) (pg_name (i := 5) sc_text_of.nd rfl (Or.inl rfl)) (pss_one (ps_expr (pe_bm PySem.F.plainAttrs_list PySem.F.slot_list_append PySem.F.type_list_append mt_append (pv 2) (pa_cons (pe_ix ix_seq (pv 2) (pe_op op_subU (pe_callB cr_lenK (by rfl) T.f_len bb_len (pa_cons (pv 2) pa_nil)) (pe_ix ix_seq (pv 4) (pe_int) (fun _ _ => rfl))) (fun _ _ => rfl)) pa_nil)))))))))
    (pss_one (ps_ret (pe_slice sl_K (pv 2) (po_some (pv 3)) po_none)))))))
theorem fn_text_of {P : Program} {w : World} {K : PySem.W.Frag} {mg : Str → Option Value} {base : Heap} (T : Tx K mg) {f : Addr} {fd : FuncData} (F : FunD K d_text_of.name d_text_of.qual d_text_of.params d_text_of.body d_text_of.scope (d_text_of.dvs K) (d_text_of.kws K) f fd) :
    FnOk P w K mg base (L2N.CX P w) 4 f fd ["pieces", "before"] (sp_text_of K) :=
  F.ok sc_text_of (fun vs H Q E h => len_text_of h) (fun cdv A outer s H vs Q E hr h => ⟨t_text_of K (fun c d _ H2 => E c d H2), wk_text_of T (ok_need_window_1 T) (ok_is_piece_1 T) hr, rd_text_of  h⟩)
theorem ok_text_of_1 {P : Program} {w : World} {K : PySem.W.Frag} {mg : Str → Option Value} {base : Heap} (T : Tx K mg) : DOkN P w K mg base 4 (He.fAd K ("text_of", none)) ["pieces", "before"] [.non] (sp_text_of K) := by
  obtain ⟨fd, F⟩ := T.d_text_of
  obtain ⟨ds, v, b⟩ := FunD.binds1 (ps := ["pieces", "before"]) F 1 0 (by intro z; cases z) (by rfl) fun T kV doc pm an cdv ct us its hl hi => match us, hl, its, hi with | [_], _, [_], _ => ⟨_, rfl, rfl⟩
  exact ⟨fd, ds, v, b, fn_text_of T F, F.kp⟩
theorem ok_text_of_2 {P : Program} {w : World} {K : PySem.W.Frag} {mg : Str → Option Value} {base : Heap} (T : Tx K mg) : DOkN P w K mg base 4 (He.fAd K ("text_of", none)) ["pieces", "before"] [] (sp_text_of K) := by
  obtain ⟨fd, F⟩ := T.d_text_of
  obtain ⟨ds, v, b⟩ := FunD.binds1 (ps := ["pieces", "before"]) F 2 1 (by intro z; cases z) (by rfl) fun T kV doc pm an cdv ct us its hl hi => match us, hl, its, hi with | [_, _], _, [_], _ => ⟨_, rfl, rfl⟩
  exact ⟨fd, ds, v, b, fn_text_of T F, F.kp⟩
abbrev N__law_word : List Str := ["_law_e", "_law_found"]
theorem sc__law_word : FnScope N__law_word ["_law_e"] (defScope s__law_word) := ⟨rfl, rfl, rfl, by decide +kernel, rfl, by decide +kernel, by decide +kernel⟩
theorem wk__law_word {P : Program} {w : World} {K : PySem.W.Frag} {mg : Str → Option Value} {base : Heap} (T : Tx K mg) {f : Addr} {cdv : Value} {A : Around} {outer : List Env} {s : Shared} {H : Hp} {E : XK} {p : Addr × Obj} {cls : Value} {d : Option Addr} (hot : Hot1 A p) (hz : L2N.Zn cls d p.2)
    (hr : RoomH 0 (A.deeper (envOfC "_law_word" (defScope s__law_word) s.heap.objs.size f cdv))) :
    PSs (cxH (L2N.CX P w) P w K mg base N__law_word "_law_word" (defScope s__law_word) f cdv A outer s H E p) (defBody s__law_word) (t__law_word K p.1 cls d) := by
  have hu64 : (A.deeper (envOfC "_law_word" (defScope s__law_word) s.heap.objs.size f cdv)).units + 64 < cLine := by
    have z := hr.un
    omega
  exact (pss_cons (ps_if (pt_val (pe_callB (call_isPT (.head _) hz.zc (hot_fields hot)) (by rfl) T.f_isinstance bb_isinstance (pa_cons (pv 0) (pa_cons (pe_tup (pa_cons (pe_gref rfl T.g_BadBits) (pa_cons (pe_gref rfl T.g_BadBody) (pa_cons (pe_gref rfl T.g_BadCheck) (pa_cons (pe_gref rfl T.g_BadCode) (pa_cons (pe_gref rfl T.g_BadHead) (pa_cons (pe_gref rfl T.g_BadLengths) (pa_cons (pe_gref rfl T.g_BadLetters) (pa_cons (pe_gref rfl T.g_BadMark) (pa_cons (pe_gref rfl T.g_BadShares) pa_nil)))))))))) pa_nil)))) (pss_one (ps_ret (pe_lst (pa_cons (pe_str) pa_nil)))) pss_nil)
    (pss_cons (ps_if (pt_val (pe_callB (call_isPT (.head _) hz.zc (hot_fields hot)) (by rfl) T.f_isinstance bb_isinstance (pa_cons (pv 0) (pa_cons (pe_tup (pa_cons (pe_gref rfl T.g_BadTable) (pa_cons (pe_gref rfl T.g_BadTail) (pa_cons (pe_gref rfl T.g_Behind) (pa_cons (pe_gref rfl T.g_Cut) (pa_cons (pe_gref rfl T.g_NoBits) (pa_cons (pe_gref rfl T.g_NoRange) (pa_cons (pe_gref rfl T.g_Over) pa_nil)))))))) pa_nil)))) (pss_one (ps_ret (pe_lst (pa_cons (pe_str) pa_nil)))) pss_nil)
    (pss_cons (ps_set (i := 1) sc__law_word.nd rfl (Or.inl rfl) (pe_op op_addU (pe_op op_mulU (pe_lst (pa_cons (pe_str) pa_nil)) (pe_callTy cr_intK (by rfl) T.f_int bt_int (pa_cons (pe_callB (call_isP (.head _) hz.zc (hot_fields hot)) (by rfl) T.f_isinstance bb_isinstance (pa_cons (pv 0) (pa_cons (pe_gref rfl T.g_BadPieces) pa_nil))) pa_nil))) (pe_op op_mulU (pe_lst (pa_cons (pe_str) pa_nil)) (pe_callTy cr_intK (by rfl) T.f_int bt_int (pa_cons (pe_callB (call_isP (.head _) hz.zc (hot_fields hot)) (by rfl) T.f_isinstance bb_isinstance (pa_cons (pv 0) (pa_cons (pe_gref rfl T.g_BadRow) pa_nil))) pa_nil)))))
    (pss_one (ps_ret (pe_op op_addU (pv 1) (pe_op op_mulU (pe_lst (pa_cons (pe_str) pa_nil)) (pe_callTy cr_intK (by rfl) T.f_int bt_int (pa_cons (pe_not (pe_callB (call_isP (.head _) hz.zc (hot_fields hot)) (by rfl) T.f_isinstance bb_isinstance (pa_cons (pv 0) (pa_cons (pe_bty rfl T.f_ValueError bt_ValueError) pa_nil)))) pa_nil)))))))))
theorem ok__law_word_1 {P : Program} {w : World} {K : PySem.W.Frag} {mg : Str → Option Value} {base : Heap} (T : Tx K mg) : ∃ fd, Binds K fd ["_law_e"] [] ∧ FnE P w K mg base (L2N.CX P w) 1 (He.fAd K ("_law_word", none)) fd ["_law_e"] (sp__law_word K) ∧ PySem.W.keepIn K (.ref (He.fAd K ("_law_word", none))) = true := by
  obtain ⟨fd, F⟩ := T.d__law_word
  exact ⟨fd, FunD.bindsN F fun _ _ _ _ _ _ us hl => match us, hl with | [_], _ => rfl, FunD.okE F sc__law_word (fun a c d vs H Q E h => len__law_word h) (fun cdv A outer s H vs Q E p cls d hot hz hr h => ⟨t__law_word K p.1 cls d, wk__law_word T hot hz hr, rd__law_word  h⟩), F.kp⟩
abbrev N__law_told : List Str := ["_law_pieces", "_law_before", "_law_e"]
theorem sc__law_told : FnScope N__law_told ["_law_pieces", "_law_before"] (defScope s__law_told) := ⟨rfl, rfl, rfl, by decide +kernel, rfl, by decide +kernel, by decide +kernel⟩
theorem wk__law_told {P : Program} {w : World} {K : PySem.W.Frag} {mg : Str → Option Value} {base : Heap} (T : Tx K mg) (O0 : DOkN P w K mg base 4 (He.fAd K ("text_of", none)) ["pieces", "before"] [] (sp_text_of K)) (O1 : ∃ fd, Binds K fd ["_law_e"] [] ∧ FnE P w K mg base (L2N.CX P w) 1 (He.fAd K ("_law_word", none)) fd ["_law_e"] (sp__law_word K) ∧ PySem.W.keepIn K (.ref (He.fAd K ("_law_word", none))) = true) {f : Addr} {cdv : Value} {A : Around} {outer : List Env} {s : Shared} {H : Hp} {E : XK}
    (hr : Room 4 (A.deeper (envOfC "_law_told" (defScope s__law_told) s.heap.objs.size f cdv))) :
    PSs (cxOf (L2N.CX P w) P w K mg base N__law_told "_law_told" (defScope s__law_told) f cdv A outer s H E) (defBody s__law_told) (t__law_told K (fun c d _ H2 => E c d H2)) := by
  obtain ⟨fd0, ds0, v0, b0, G0, q0⟩ := O0
  obtain ⟨fd1, b1, G1, q1⟩ := O1
  have hu1 := hu_of hr
  have hu64 := hr.units
  have tk : L2N.Takes (cxOf (L2N.CX P w) P w K mg base N__law_told "_law_told" (defScope s__law_told) f cdv A outer s H E) (fun c d _ H2 => E c d H2) := L2N.takes_of rfl rfl rfl rfl
  exact (pss_one (ps_tryAsN rfl rfl sc__law_told.nd rfl rfl ⟨rfl, by decide, .inl T.g_PressError⟩ tk (fun W pn xe tk po => (pss_one (ps_ret (pe_clN G0 (hr.mono (by decide)) rfl T.g_text_of q0 b0 v0 tk (pa_cons (pv 0) (pa_cons (pv 1) pa_nil))))))
    (fun a oe cls d pn hz hf => (pss_one (ps_ret (pe_tup (pa_cons (pe_str) (pa_cons (pe_clE G1 (roomH_of (hr.mono (by decide))) hz hf rfl T.g__law_word q1 b1 (pa_cons (pv 2) pa_nil)) pa_nil))))))))
theorem fn__law_told {P : Program} {w : World} {K : PySem.W.Frag} {mg : Str → Option Value} {base : Heap} (T : Tx K mg) {f : Addr} {fd : FuncData} (F : FunD K d__law_told.name d__law_told.qual d__law_told.params d__law_told.body d__law_told.scope (d__law_told.dvs K) (d__law_told.kws K) f fd) :
    FnOk P w K mg base (L2N.CX P w) 5 f fd ["_law_pieces", "_law_before"] (sp__law_told K) :=
  F.ok sc__law_told (fun vs H Q E h => len__law_told h) (fun cdv A outer s H vs Q E hr h => ⟨t__law_told K (fun c d _ H2 => E c d H2), wk__law_told T (ok_text_of_2 T) (ok__law_word_1 T) hr, rd__law_told (of_KWBadRow T) (of_KWBadPieces T) h⟩)
theorem ok__law_told_2 {P : Program} {w : World} {K : PySem.W.Frag} {mg : Str → Option Value} {base : Heap} (T : Tx K mg) : DOkN P w K mg base 5 (He.fAd K ("_law_told", none)) ["_law_pieces", "_law_before"] [] (sp__law_told K) := by
  obtain ⟨fd, F⟩ := T.d__law_told
  exact ⟨fd, [], .nil, FunD.bindsN F fun _ _ _ _ _ _ us hl => match us, hl with | [_, _], _ => rfl, fn__law_told T F, F.kp⟩
abbrev N__law_text : List Str := ["_law_pieces", "_law_before", "_law_signs_here", "_law_piece", "_law_turn"]
theorem sc__law_text : FnScope N__law_text ["_law_pieces", "_law_before"] (defScope s__law_text) := ⟨rfl, rfl, rfl, by decide +kernel, rfl, by decide +kernel, by decide +kernel⟩
theorem wk__law_text {P : Program} {w : World} {K : PySem.W.Frag} {mg : Str → Option Value} {base : Heap} (T : Tx K mg)  {f : Addr} {cdv : Value} {A : Around} {outer : List Env} {s : Shared} {H : Hp} {E : XK}
    (hr : Room 0 (A.deeper (envOfC "_law_text" (defScope s__law_text) s.heap.objs.size f cdv))) :
    PSs (cxOf (L2N.CX P w) P w K mg base N__law_text "_law_text" (defScope s__law_text) f cdv A outer s H E) (defBody s__law_text) (t__law_text K (fun c d _ H2 => E c d H2)) := by
  have hu1 := hu_of hr
  have hu64 := hr.units
  have tk : L2N.Takes (cxOf (L2N.CX P w) P w K mg base N__law_text "_law_text" (defScope s__law_text) f cdv A outer s H E) (fun c d _ H2 => E c d H2) := L2N.takes_of rfl rfl rfl rfl
  exact (pss_cons (ps_set (i := 2) sc__law_text.nd rfl (Or.inl rfl) (pe_callTy cr_listK (by rfl) T.f_list bt_list (pa_cons (pv 1) pa_nil)))
    (pss_cons (ps_for (passes_of rfl) rfl (pi_list (pv 0)) (pg_name (i := 3) sc__law_text.nd rfl (Or.inl rfl)) (pss_one (ps_if (pt_cmpR (op_eqU hu64) (pe_ix ix_seq (pv 3) (pe_int) (fun _ _ => rfl)) (pe_str) (nomark _)) (pss_one (ps_expr (pe_bm PySem.F.plainAttrs_list PySem.F.slot_list_append PySem.F.type_list_append mt_append (pv 2) (pa_cons (pe_ix ix_seq (pv 3) (pe_int) (fun _ _ => rfl)) pa_nil)))) (pss_one (ps_for (passes_of rfl) rfl (pi_range1 rfl T.f_range (pa_cons (pe_ix ix_seq (pv 3) (pe_int) (fun _ _ => rfl)) pa_nil)) (pg_name (i := 4) sc__law_text.nd rfl (Or.inl rfl)) (pss_one (ps_expr (pe_bm PySem.F.plainAttrs_list PySem.F.slot_list_append PySem.F.type_list_append mt_append (pv 2) (pa_cons (pe_ix ix_seq (pv 2) (pe_un un_negU (pe_ix ix_seq (pv 3) (pe_int) (fun _ _ => rfl))) (fun _ _ => rfl)) pa_nil)))))))))
    (pss_one (ps_ret (pe_slice sl_K (pv 2) (po_some (pe_callB cr_lenK (by rfl) T.f_len bb_len (pa_cons (pv 1) pa_nil))) po_none)))))
theorem fn__law_text {P : Program} {w : World} {K : PySem.W.Frag} {mg : Str → Option Value} {base : Heap} (T : Tx K mg) {f : Addr} {fd : FuncData} (F : FunD K d__law_text.name d__law_text.qual d__law_text.params d__law_text.body d__law_text.scope (d__law_text.dvs K) (d__law_text.kws K) f fd) :
    FnOk P w K mg base (L2N.CX P w) 1 f fd ["_law_pieces", "_law_before"] (sp__law_text K) :=
  F.ok sc__law_text (fun vs H Q E h => len__law_text h) (fun cdv A outer s H vs Q E hr h => ⟨t__law_text K (fun c d _ H2 => E c d H2), wk__law_text T  hr, rd__law_text  h⟩)
theorem ok__law_text_2 {P : Program} {w : World} {K : PySem.W.Frag} {mg : Str → Option Value} {base : Heap} (T : Tx K mg) : DOkN P w K mg base 1 (He.fAd K ("_law_text", none)) ["_law_pieces", "_law_before"] [] (sp__law_text K) := by
  obtain ⟨fd, F⟩ := T.d__law_text
  exact ⟨fd, [], .nil, FunD.bindsN F fun _ _ _ _ _ _ us hl => match us, hl with | [_, _], _ => rfl, fn__law_text T F, F.kp⟩
abbrev N__law_rows : List Str := ["_law_found", "_law_due", "_law_one"]
theorem sc__law_rows : FnScope N__law_rows ["_law_found", "_law_due"] (defScope s__law_rows) := ⟨rfl, rfl, rfl, by decide +kernel, rfl, by decide +kernel, by decide +kernel⟩
theorem wk__law_rows {P : Program} {w : World} {K : PySem.W.Frag} {mg : Str → Option Value} {base : Heap} (T : Tx K mg)  {f : Addr} {cdv : Value} {A : Around} {outer : List Env} {s : Shared} {H : Hp} {E : XK}
    (hr : Room 0 (A.deeper (envOfC "_law_rows" (defScope s__law_rows) s.heap.objs.size f cdv))) :
    PSs (cxOf (L2N.CX P w) P w K mg base N__law_rows "_law_rows" (defScope s__law_rows) f cdv A outer s H E) (defBody s__law_rows) (t__law_rows K (fun c d _ H2 => E c d H2)) := by
  have hu1 := hu_of hr
  have hu64 := hr.units
  have tk : L2N.Takes (cxOf (L2N.CX P w) P w K mg base N__law_rows "_law_rows" (defScope s__law_rows) f cdv A outer s H E) (fun c d _ H2 => E c d H2) := L2N.takes_of rfl rfl rfl rfl
  exact (pss_cons (ps_if (PW.pt (pw_or (pt_not (pt_val (pe_callB call_isi (by rfl) T.f_isinstance bb_isinstance (pa_cons (pv 0) (pa_cons (pe_bty rfl T.f_list bt_list) pa_nil))))) (pw_or1 (pt_cmpR (op_neU hu64) (pv 0) (pv 1) (nomark _))))) (pss_one (ps_ret (pe_bl))) pss_nil)
    (pss_one (ps_ret (pe_cmpR (op_eqU hu64) (pe_lc (own := [("_law_one", 2)]) rfl sc__law_rows.nd (pi_list (pv 0)) (blkOk_by (own := [("_law_one", 2)]) (N := N__law_rows) (sc := defScope s__law_rows) (by decide +kernel)) (fun _ _ _ _ _ => (pg_name (i := 2) sc__law_rows.nd rfl (Or.inl rfl))) (fun _ _ _ _ _ => pts_one (PW.pt (pw_or (pt_not (pt_val (pe_callB call_isi (by rfl) T.f_isinstance bb_isinstance (pa_cons (pv 2) (pa_cons (pe_bty rfl T.f_int bt_int) pa_nil))))) (pw_or1 (pt_val (pe_callB call_isi (by rfl) T.f_isinstance bb_isinstance (pa_cons (pv 2) (pa_cons (pe_bty rfl T.f_bool bt_bool) pa_nil)))))))) (fun _ _ _ _ _ => (pv 2))) (pe_lst pa_nil) (nomark _)))))
theorem fn__law_rows {P : Program} {w : World} {K : PySem.W.Frag} {mg : Str → Option Value} {base : Heap} (T : Tx K mg) {f : Addr} {fd : FuncData} (F : FunD K d__law_rows.name d__law_rows.qual d__law_rows.params d__law_rows.body d__law_rows.scope (d__law_rows.dvs K) (d__law_rows.kws K) f fd) :
    FnOk P w K mg base (L2N.CX P w) 1 f fd ["_law_found", "_law_due"] (sp__law_rows K) :=
  F.ok sc__law_rows (fun vs H Q E h => len__law_rows h) (fun cdv A outer s H vs Q E hr h => ⟨t__law_rows K (fun c d _ H2 => E c d H2), wk__law_rows T  hr, rd__law_rows  h⟩)
theorem ok__law_rows_2 {P : Program} {w : World} {K : PySem.W.Frag} {mg : Str → Option Value} {base : Heap} (T : Tx K mg) : DOkN P w K mg base 1 (He.fAd K ("_law_rows", none)) ["_law_found", "_law_due"] [] (sp__law_rows K) := by
  obtain ⟨fd, F⟩ := T.d__law_rows
  exact ⟨fd, [], .nil, FunD.bindsN F fun _ _ _ _ _ _ us hl => match us, hl with | [_, _], _ => rfl, fn__law_rows T F, F.kp⟩
abbrev N__law_odd_piece : List Str := ["_law_number", "_law_many", "_law_some"]
theorem sc__law_odd_piece : FnScope N__law_odd_piece ["_law_number", "_law_many"] (defScope s__law_odd_piece) := ⟨rfl, rfl, rfl, by decide +kernel, rfl, by decide +kernel, by decide +kernel⟩
theorem wk__law_odd_piece {P : Program} {w : World} {K : PySem.W.Frag} {mg : Str → Option Value} {base : Heap} (T : Tx K mg)  {f : Addr} {cdv : Value} {A : Around} {outer : List Env} {s : Shared} {H : Hp} {E : XK}
    (hr : Room 0 (A.deeper (envOfC "_law_odd_piece" (defScope s__law_odd_piece) s.heap.objs.size f cdv))) :
    PSs (cxOf (L2N.CX P w) P w K mg base N__law_odd_piece "_law_odd_piece" (defScope s__law_odd_piece) f cdv A outer s H E) (defBody s__law_odd_piece) (t__law_odd_piece K (fun c d _ H2 => E c d H2)) := by
  have hu1 := hu_of hr
  have hu64 := hr.units
  have tk : L2N.Takes (cxOf (L2N.CX P w) P w K mg base N__law_odd_piece "_law_odd_piece" (defScope s__law_odd_piece) f cdv A outer s H E) (fun c d _ H2 => E c d H2) := L2N.takes_of rfl rfl rfl rfl
  exact (pss_cons (ps_set (i := 2) sc__law_odd_piece.nd rfl (Or.inl rfl) (pe_lst (pa_cons (pe_tup (pa_cons (pe_str) (pa_cons (pe_int) pa_nil))) (pa_cons (pe_tup (pa_cons (pe_str) (pa_cons (pe_un un_negU (pe_int)) pa_nil))) (pa_cons (pe_tup (pa_cons (pe_str) (pa_cons (pe_bl) pa_nil))) (pa_cons (pe_tup (pa_cons (pe_str) pa_nil)) (pa_cons (pe_tup (pa_cons (pe_str) (pa_cons (pe_int) (pa_cons (pe_int) pa_nil)))) (pa_cons (pe_lst (pa_cons (pe_str) (pa_cons (pe_int) pa_nil))) (pa_cons (pe_tup (pa_cons (pe_str) (pa_cons (pe_int) pa_nil))) (pa_cons (pe_tup pa_nil) (pa_cons (pe_non) pa_nil)))))))))))
    (pss_cons (ps_aug (i := 2) sc__law_odd_piece.nd rfl (Or.inl rfl) (pe_lst (pa_cons (pe_tup (pa_cons (pe_str) (pa_cons (pe_int) (pa_cons (pe_int) pa_nil)))) (pa_cons (pe_tup (pa_cons (pe_str) (pa_cons (pe_int) (pa_cons (pe_int) pa_nil)))) (pa_cons (pe_tup (pa_cons (pe_str) (pa_cons (pe_int) (pa_cons (pe_int) pa_nil)))) (pa_cons (pe_tup (pa_cons (pe_str) (pa_cons (pe_int) (pa_cons (pe_int) pa_nil)))) (pa_cons (pe_tup (pa_cons (pe_str) (pa_cons (pe_un un_negU (pe_int)) (pa_cons (pe_int) pa_nil)))) (pa_cons (pe_tup (pa_cons (pe_str) (pa_cons (pe_int) pa_nil))) (pa_cons (pe_str) pa_nil)))))))) ip_addU)
    (pss_cons (ps_aug (i := 2) sc__law_odd_piece.nd rfl (Or.inl rfl) (pe_lst (pa_cons (pe_tup (pa_cons (pe_str) (pa_cons (pe_bl) (pa_cons (pe_int) pa_nil)))) (pa_cons (pe_tup (pa_cons (pe_str) (pa_cons (pe_int) (pa_cons (pe_bl) pa_nil)))) (pa_cons (pe_tup (pa_cons (pe_str) (pa_cons (pe_str) (pa_cons (pe_int) pa_nil)))) (pa_cons (pe_tup (pa_cons (pe_str) (pa_cons (pe_int) (pa_cons (pe_int) (pa_cons (pe_int) pa_nil))))) (pa_cons (pe_tup (pa_cons (pe_str) (pa_cons (pe_non) (pa_cons (pe_int) pa_nil)))) (pa_cons (pe_int) (pa_cons (pe_tup (pa_cons (pe_str) pa_nil)) pa_nil)))))))) ip_addU)
    (pss_cons (ps_aug (i := 2) sc__law_odd_piece.nd rfl (Or.inl rfl) (pe_lst (pa_cons (pe_tup (pa_cons (pe_non) (pa_cons (pe_int) pa_nil))) (pa_cons (pe_tup (pa_cons (pe_str) (pa_cons (pe_non) pa_nil))) (pa_cons (pe_tup (pa_cons (pe_str) (pa_cons (pe_lst (pa_cons (pe_int) pa_nil)) pa_nil))) (pa_cons (pe_tup (pa_cons (pe_str) (pa_cons (pe_int) (pa_cons (pe_non) pa_nil)))) (pa_cons (pe_tup (pa_cons (pe_str) (pa_cons (pe_op op_powU (pe_int) (pe_int)) pa_nil))) (pa_cons (pe_tup (pa_cons (pe_str) (pa_cons (pe_int) (pa_cons (pe_op op_powU (pe_int) (pe_int)) pa_nil)))) pa_nil))))))) ip_addU)
    (pss_cons (ps_if (PW.pt (pw_and (pt_cmpR op_ltU (pv 1) (pe_int) (nomark _)) (pw_and1 (pt_cmpR (op_eqU hu64) (pe_op op_modU (pv 0) (pe_int)) (pe_int) (nomark _))))) (pss_one (ps_ret (pe_tup (pa_cons (pe_str) (pa_cons (pe_callB (cr_min2K rfl) (by rfl) T.f_min bb_min (pa_cons (pe_int) (pa_cons (pe_op op_addU (pe_op op_addU (pv 1) (pe_int)) (pe_op op_modU (pe_op op_divU (pv 0) (pe_int)) (pe_int))) pa_nil))) (pa_cons (pe_int) pa_nil)))))) pss_nil)
    (pss_one (ps_ret (pe_ix ix_seq (pv 2) (pe_op op_modU (pe_op op_divU (pv 0) (pe_int)) (pe_int)) (fun _ _ => rfl)))))))))
theorem fn__law_odd_piece {P : Program} {w : World} {K : PySem.W.Frag} {mg : Str → Option Value} {base : Heap} (T : Tx K mg) {f : Addr} {fd : FuncData} (F : FunD K d__law_odd_piece.name d__law_odd_piece.qual d__law_odd_piece.params d__law_odd_piece.body d__law_odd_piece.scope (d__law_odd_piece.dvs K) (d__law_odd_piece.kws K) f fd) :
    FnOk P w K mg base (L2N.CX P w) 1 f fd ["_law_number", "_law_many"] (sp__law_odd_piece K) :=
  F.ok sc__law_odd_piece (fun vs H Q E h => len__law_odd_piece h) (fun cdv A outer s H vs Q E hr h => ⟨t__law_odd_piece K (fun c d _ H2 => E c d H2), wk__law_odd_piece T  hr, rd__law_odd_piece  h⟩)
theorem ok__law_odd_piece_2 {P : Program} {w : World} {K : PySem.W.Frag} {mg : Str → Option Value} {base : Heap} (T : Tx K mg) : DOkN P w K mg base 1 (He.fAd K ("_law_odd_piece", none)) ["_law_number", "_law_many"] [] (sp__law_odd_piece K) := by
  obtain ⟨fd, F⟩ := T.d__law_odd_piece
  exact ⟨fd, [], .nil, FunD.bindsN F fun _ _ _ _ _ _ us hl => match us, hl with | [_, _], _ => rfl, fn__law_odd_piece T F, F.kp⟩
abbrev N__law_odd_row : List Str := ["_law_number", "_law_row", "_law_some"]
theorem sc__law_odd_row : FnScope N__law_odd_row ["_law_number", "_law_row"] (defScope s__law_odd_row) := ⟨rfl, rfl, rfl, by decide +kernel, rfl, by decide +kernel, by decide +kernel⟩
theorem wk__law_odd_row {P : Program} {w : World} {K : PySem.W.Frag} {mg : Str → Option Value} {base : Heap} (T : Tx K mg)  {f : Addr} {cdv : Value} {A : Around} {outer : List Env} {s : Shared} {H : Hp} {E : XK}
    (hr : Room 0 (A.deeper (envOfC "_law_odd_row" (defScope s__law_odd_row) s.heap.objs.size f cdv))) :
    PSs (cxOf (L2N.CX P w) P w K mg base N__law_odd_row "_law_odd_row" (defScope s__law_odd_row) f cdv A outer s H E) (defBody s__law_odd_row) (t__law_odd_row K (fun c d _ H2 => E c d H2)) := by
  have hu1 := hu_of hr
  have hu64 := hr.units
  have tk : L2N.Takes (cxOf (L2N.CX P w) P w K mg base N__law_odd_row "_law_odd_row" (defScope s__law_odd_row) f cdv A outer s H E) (fun c d _ H2 => E c d H2) := L2N.takes_of rfl rfl rfl rfl
  exact (pss_cons (ps_set (i := 2) sc__law_odd_row.nd rfl (Or.inl rfl) (pe_lst (pa_cons (pe_tup pa_nil) (pa_cons (pe_callTy cr_tupleK (by rfl) T.f_tuple bt_tuple (pa_cons (pe_op op_addU (pv 1) (pe_lst (pa_cons (pe_int) pa_nil))) pa_nil)) (pa_cons (pe_str) (pa_cons (pe_dnewK) (pa_cons (pe_int) (pa_cons (pe_bl) (pa_cons (pe_op op_addU (pe_slice sl_K (pv 1) po_none (po_some (pe_int))) (pe_lst (pa_cons (pe_int) pa_nil))) (pa_cons (pe_op op_addU (pe_slice sl_K (pv 1) po_none (po_some (pe_int))) (pe_lst (pa_cons (pe_un un_negU (pe_int)) pa_nil))) (pa_cons (pe_op op_addU (pe_lst (pa_cons (pe_bl) pa_nil)) (pe_slice sl_K (pv 1) po_none (po_some (pe_int)))) (pa_cons (pe_lst (pa_cons (pe_non) pa_nil)) pa_nil))))))))))))
    (pss_one (ps_ret (pe_ix ix_seq (pe_op op_addU (pv 2) (pe_lst (pa_cons (pe_lst (pa_cons (pe_str) pa_nil)) (pa_cons (pe_lst (pa_cons (pe_lst (pa_cons (pe_int) pa_nil)) pa_nil)) (pa_cons (pe_op op_mulU (pe_lst (pa_cons (pe_int) pa_nil)) (pe_int)) (pa_cons (pe_op op_addU (pe_slice sl_K (pv 1) po_none (po_some (pe_int))) (pe_lst (pa_cons (pe_op op_powU (pe_int) (pe_int)) pa_nil))) pa_nil)))))) (pe_op op_modU (pv 0) (pe_int)) (fun _ _ => rfl)))))
theorem fn__law_odd_row {P : Program} {w : World} {K : PySem.W.Frag} {mg : Str → Option Value} {base : Heap} (T : Tx K mg) {f : Addr} {fd : FuncData} (F : FunD K d__law_odd_row.name d__law_odd_row.qual d__law_odd_row.params d__law_odd_row.body d__law_odd_row.scope (d__law_odd_row.dvs K) (d__law_odd_row.kws K) f fd) :
    FnOk P w K mg base (L2N.CX P w) 1 f fd ["_law_number", "_law_row"] (sp__law_odd_row K) :=
  F.ok sc__law_odd_row (fun vs H Q E h => len__law_odd_row h) (fun cdv A outer s H vs Q E hr h => ⟨t__law_odd_row K (fun c d _ H2 => E c d H2), wk__law_odd_row T  hr, rd__law_odd_row  h⟩)
theorem ok__law_odd_row_2 {P : Program} {w : World} {K : PySem.W.Frag} {mg : Str → Option Value} {base : Heap} (T : Tx K mg) : DOkN P w K mg base 1 (He.fAd K ("_law_odd_row", none)) ["_law_number", "_law_row"] [] (sp__law_odd_row K) := by
  obtain ⟨fd, F⟩ := T.d__law_odd_row
  exact ⟨fd, [], .nil, FunD.bindsN F fun _ _ _ _ _ _ us hl => match us, hl with | [_, _], _ => rfl, fn__law_odd_row T F, F.kp⟩
abbrev N_need_row : List Str := ["thing"]
theorem sc_need_row : FnScope N_need_row ["thing"] (defScope s_need_row) := ⟨rfl, rfl, rfl, by decide +kernel, rfl, by decide +kernel, by decide +kernel⟩
theorem wk_need_row {P : Program} {w : World} {K : PySem.W.Frag} {mg : Str → Option Value} {base : Heap} (T : Tx K mg) (O0 : DOkN P w K mg base 2 (He.fAd K ("is_row", none)) ["thing"] [] (sp_is_row K)) {f : Addr} {cdv : Value} {A : Around} {outer : List Env} {s : Shared} {H : Hp} {E : XK}
    (hr : Room 2 (A.deeper (envOfC "need_row" (defScope s_need_row) s.heap.objs.size f cdv))) :
    PSs (cxOf (L2N.CX P w) P w K mg base N_need_row "need_row" (defScope s_need_row) f cdv A outer s H E) (defBody s_need_row) (t_need_row K (fun c d _ H2 => E c d H2)) := by
  obtain ⟨fd0, ds0, v0, b0, G0, q0⟩ := O0
  have hu1 := hu_of hr
  have hu64 := hr.units
  have tk : L2N.Takes (cxOf (L2N.CX P w) P w K mg base N_need_row "need_row" (defScope s_need_row) f cdv A outer s H E) (fun c d _ H2 => E c d H2) := L2N.takes_of rfl rfl rfl rfl
  exact (pss_cons (ps_if (pt_not (pt_val (pe_clN G0 (hr.mono (by decide)) rfl T.g_is_row q0 b0 v0 tk (pa_cons (pv 0) pa_nil)))) (pss_one (ps_rzN rfl tk T.x_BadRow T.g_BadRow rfl)) pss_nil)
    (pss_one (ps_ret (pe_callTy cr_listK (by rfl) T.f_list bt_list (pa_cons (pv 0) pa_nil)))))
theorem fn_need_row {P : Program} {w : World} {K : PySem.W.Frag} {mg : Str → Option Value} {base : Heap} (T : Tx K mg) {f : Addr} {fd : FuncData} (F : FunD K d_need_row.name d_need_row.qual d_need_row.params d_need_row.body d_need_row.scope (d_need_row.dvs K) (d_need_row.kws K) f fd) :
    FnOk P w K mg base (L2N.CX P w) 3 f fd ["thing"] (sp_need_row K) :=
  F.ok sc_need_row (fun vs H Q E h => len_need_row h) (fun cdv A outer s H vs Q E hr h => ⟨t_need_row K (fun c d _ H2 => E c d H2), wk_need_row T (ok_is_row_1 T) hr, rd_need_row  h⟩)
theorem ok_need_row_1 {P : Program} {w : World} {K : PySem.W.Frag} {mg : Str → Option Value} {base : Heap} (T : Tx K mg) : DOkN P w K mg base 3 (He.fAd K ("need_row", none)) ["thing"] [] (sp_need_row K) := by
  obtain ⟨fd, F⟩ := T.d_need_row
  exact ⟨fd, [], .nil, FunD.bindsN F fun _ _ _ _ _ _ us hl => match us, hl with | [_], _ => rfl, fn_need_row T F, F.kp⟩
abbrev N_alike_size : List Str := ["signs", "place", "back", "most", "found"]
theorem sc_alike_size : FnScope N_alike_size ["signs", "place", "back", "most"] (defScope s_alike_size) := ⟨rfl, rfl, rfl, by decide +kernel, rfl, by decide +kernel, by decide +kernel⟩
theorem wk_alike_size {P : Program} {w : World} {K : PySem.W.Frag} {mg : Str → Option Value} {base : Heap} (T : Tx K mg)  {f : Addr} {cdv : Value} {A : Around} {outer : List Env} {s : Shared} {H : Hp} {E : XK}
    (hr : Room 0 (A.deeper (envOfC "alike_size" (defScope s_alike_size) s.heap.objs.size f cdv))) :
    PSs (cxOf (L2N.CX P w) P w K mg base N_alike_size "alike_size" (defScope s_alike_size) f cdv A outer s H E) (defBody s_alike_size) (t_alike_size K (fun c d _ H2 => E c d H2)) := by
  have hu1 := hu_of hr
  have hu64 := hr.units
  have tk : L2N.Takes (cxOf (L2N.CX P w) P w K mg base N_alike_size "alike_size" (defScope s_alike_size) f cdv A outer s H E) (fun c d _ H2 => E c d H2) := L2N.takes_of rfl rfl rfl rfl
  exact (pss_cons (ps_set (i := 4) sc_alike_size.nd rfl (Or.inl rfl) (pe_int))
    (pss_cons (ps_while (passes_of rfl) (PW.pt (pw_and (pt_cmpR op_ltU (pv 4) (pv 3) (nomark _)) (pw_and1 (pt_cmpR (op_eqU hu64) (pe_ix ix_seq (pv 0) (pe_op op_addU (pv 1) (pv 4)) (fun _ _ => rfl)) (pe_ix ix_seq (pv 0) (pe_op op_subU (pe_op op_addU (pv 1) (pv 4)) (pv 2)) (fun _ _ => rfl)) (nomark _))))) (pss_one (ps_aug (i := 4) sc_alike_size.nd rfl (Or.inl rfl) (pe_int) ip_addU)))
    (pss_one (ps_ret (pv 4)))))
theorem fn_alike_size {P : Program} {w : World} {K : PySem.W.Frag} {mg : Str → Option Value} {base : Heap} (T : Tx K mg) {f : Addr} {fd : FuncData} (F : FunD K d_alike_size.name d_alike_size.qual d_alike_size.params d_alike_size.body d_alike_size.scope (d_alike_size.dvs K) (d_alike_size.kws K) f fd) :
    FnOk P w K mg base (L2N.CX P w) 1 f fd ["signs", "place", "back", "most"] (sp_alike_size K) :=
  F.ok sc_alike_size (fun vs H Q E h => len_alike_size h) (fun cdv A outer s H vs Q E hr h => ⟨t_alike_size K (fun c d _ H2 => E c d H2), wk_alike_size T  hr, rd_alike_size  h⟩)
theorem ok_alike_size_4 {P : Program} {w : World} {K : PySem.W.Frag} {mg : Str → Option Value} {base : Heap} (T : Tx K mg) : DOkN P w K mg base 1 (He.fAd K ("alike_size", none)) ["signs", "place", "back", "most"] [] (sp_alike_size K) := by
  obtain ⟨fd, F⟩ := T.d_alike_size
  exact ⟨fd, [], .nil, FunD.bindsN F fun _ _ _ _ _ _ us hl => match us, hl with | [_, _, _, _], _ => rfl, fn_alike_size T F, F.kp⟩
abbrev N_longest_copy : List Str := ["signs", "place", "most", "found", "back", "size"]
theorem sc_longest_copy : FnScope N_longest_copy ["signs", "place"] (defScope s_longest_copy) := ⟨rfl, rfl, rfl, by decide +kernel, rfl, by decide +kernel, by decide +kernel⟩
theorem wk_longest_copy {P : Program} {w : World} {K : PySem.W.Frag} {mg : Str → Option Value} {base : Heap} (T : Tx K mg) (O0 : DOkN P w K mg base 1 (He.fAd K ("alike_size", none)) ["signs", "place", "back", "most"] [] (sp_alike_size K)) {f : Addr} {cdv : Value} {A : Around} {outer : List Env} {s : Shared} {H : Hp} {E : XK}
    (hr : Room 1 (A.deeper (envOfC "longest_copy" (defScope s_longest_copy) s.heap.objs.size f cdv))) :
    PSs (cxOf (L2N.CX P w) P w K mg base N_longest_copy "longest_copy" (defScope s_longest_copy) f cdv A outer s H E) (defBody s_longest_copy) (t_longest_copy K (fun c d _ H2 => E c d H2)) := by
  obtain ⟨fd0, ds0, v0, b0, G0, q0⟩ := O0
  have hu1 := hu_of hr
  have hu64 := hr.units
  have tk : L2N.Takes (cxOf (L2N.CX P w) P w K mg base N_longest_copy "longest_copy" (defScope s_longest_copy) f cdv A outer s H E) (fun c d _ H2 => E c d H2) := L2N.takes_of rfl rfl rfl rfl
  exact (pss_cons (ps_set (i := 2) sc_longest_copy.nd rfl (Or.inl rfl) (pe_callB (cr_min2K rfl) (by rfl) T.f_min bb_min (pa_cons (pe_gint rfl T.g_MOST_SIZE) (pa_cons (pe_op op_subU (pe_callB cr_lenK (by rfl) T.f_len bb_len (pa_cons (pv 0) pa_nil)) (pv 1)) pa_nil))))
    (pss_cons (ps_set (i := 3) sc_longest_copy.nd rfl (Or.inl rfl) (pe_tup (pa_cons (pe_int) (pa_cons (pe_int) pa_nil))))
    (pss_cons (ps_for (passes_of rfl) rfl (pi_range2 rfl T.f_range (pa_cons (pe_int) (pa_cons (pe_op op_addU (pe_callB (cr_min2K rfl) (by rfl) T.f_min bb_min (pa_cons (pe_gint rfl T.g_MOST_BACK) (pa_cons (pv 1) pa_nil))) (pe_int)) pa_nil))) (pg_name (i := 4) sc_longest_copy.nd rfl (Or.inl rfl)) (pss_cons (ps_if (pt_cmpR (op_neU hu64) (pe_ix ix_seq (pv 0) (pv 1) (fun _ _ => rfl)) (pe_ix ix_seq (pv 0) (pe_op op_subU (pv 1) (pv 4)) (fun _ _ => rfl)) (nomark _)) (pss_one (ps_continue)) pss_nil)
    (pss_cons (ps_set (i := 5) sc_longest_copy.nd rfl (Or.inl rfl) (pe_clN G0 (hr.mono (by decide)) rfl T.g_alike_size q0 b0 v0 tk (pa_cons (pv 0) (pa_cons (pv 1) (pa_cons (pv 4) (pa_cons (pv 2) pa_nil))))))
    (pss_cons (ps_if (pt_cmpR op_gtU (pv 5) (pe_ix ix_seq (pv 3) (pe_int) (fun _ _ => rfl)) (nomark _)) (pss_one (ps_set (i := 3) sc_longest_copy.nd rfl (Or.inl rfl) (pe_tup (pa_cons (pv 4) (pa_cons (pv 5) pa_nil))))) pss_nil)
    (pss_one (ps_if (pt_cmpR (op_eqU hu64) (pv 5) (pv 2) (nomark _)) (pss_one (ps_break)) pss_nil))))))
    (pss_one (ps_ret (pv 3))))))
theorem fn_longest_copy {P : Program} {w : World} {K : PySem.W.Frag} {mg : Str → Option Value} {base : Heap} (T : Tx K mg) {f : Addr} {fd : FuncData} (F : FunD K d_longest_copy.name d_longest_copy.qual d_longest_copy.params d_longest_copy.body d_longest_copy.scope (d_longest_copy.dvs K) (d_longest_copy.kws K) f fd) :
    FnOk P w K mg base (L2N.CX P w) 2 f fd ["signs", "place"] (sp_longest_copy K) :=
  F.ok sc_longest_copy (fun vs H Q E h => len_longest_copy h) (fun cdv A outer s H vs Q E hr h => ⟨t_longest_copy K (fun c d _ H2 => E c d H2), wk_longest_copy T (ok_alike_size_4 T) hr, rd_longest_copy  h⟩)
theorem ok_longest_copy_2 {P : Program} {w : World} {K : PySem.W.Frag} {mg : Str → Option Value} {base : Heap} (T : Tx K mg) : DOkN P w K mg base 2 (He.fAd K ("longest_copy", none)) ["signs", "place"] [] (sp_longest_copy K) := by
  obtain ⟨fd, F⟩ := T.d_longest_copy
  exact ⟨fd, [], .nil, FunD.bindsN F fun _ _ _ _ _ _ us hl => match us, hl with | [_, _], _ => rfl, fn_longest_copy T F, F.kp⟩
abbrev N_pieces_of : List Str := ["text", "before", "row", "signs", "place", "found", "back", "size"]
theorem sc_pieces_of : FnScope N_pieces_of ["text", "before"] (defScope s_pieces_of) := ⟨rfl, rfl, rfl, by decide +kernel, rfl, by decide +kernel, by decide +kernel⟩
theorem wk_pieces_of {P : Program} {w : World} {K : PySem.W.Frag} {mg : Str → Option Value} {base : Heap} (T : Tx K mg) (O0 : DOkN P w K mg base 3 (He.fAd K ("need_row", none)) ["thing"] [] (sp_need_row K)) (O1 : DOkN P w K mg base 3 (He.fAd K ("need_window", none)) ["before"] [] (sp_need_window K)) (O2 : DOkN P w K mg base 2 (He.fAd K ("longest_copy", none)) ["signs", "place"] [] (sp_longest_copy K)) {f : Addr} {cdv : Value} {A : Around} {outer : List Env} {s : Shared} {H : Hp} {E : XK}
    (hr : Room 3 (A.deeper (envOfC "pieces_of" (defScope s_pieces_of) s.heap.objs.size f cdv))) :
    PSs (cxOf (L2N.CX P w) P w K mg base N_pieces_of "pieces_of" (defScope s_pieces_of) f cdv A outer s H E) (defBody s_pieces_of) (t_pieces_of K (fun c d _ H2 => E c d H2)) := by
  obtain ⟨fd0, ds0, v0, b0, G0, q0⟩ := O0
  obtain ⟨fd1, ds1, v1, b1, G1, q1⟩ := O1
  obtain ⟨fd2, ds2, v2, b2, G2, q2⟩ := O2
  have hu1 := hu_of hr
  have hu64 := hr.units
  have tk : L2N.Takes (cxOf (L2N.CX P w) P w K mg base N_pieces_of "pieces_of" (defScope s_pieces_of) f cdv A outer s H E) (fun c d _ H2 => E c d H2) := L2N.takes_of rfl rfl rfl rfl
  exact (pss_cons (ps_set (i := 2) sc_pieces_of.nd rfl (Or.inl rfl) (pe_clN G0 (hr.mono (by decide)) rfl T.g_need_row q0 b0 v0 tk (pa_cons (pv 0) pa_nil)))
    (pss_cons (ps_set (i := 3) sc_pieces_of.nd rfl (Or.inl rfl) (pe_clN G1 (hr.mono (by decide)) rfl T.g_need_window q1 b1 v1 tk (pa_cons (pv 1) pa_nil)))
    (pss_cons (ps_set (i := 4) sc_pieces_of.nd rfl (Or.inl rfl) (pe_callB cr_lenK (by rfl) T.f_len bb_len (pa_cons (pv 3) pa_nil)))
    (pss_cons (ps_aug (i := 3) sc_pieces_of.nd rfl (Or.inl rfl) (pv 2) ip_addU)
    (pss_cons (ps_set (i := 5) sc_pieces_of.nd rfl (Or.inl rfl) (pe_lst pa_nil))
    (pss_cons (ps_while (passes_of rfl) (pt_cmpR op_ltU (pv 4) (pe_callB cr_lenK (by rfl) T.f_len bb_len (pa_cons (pv 3) pa_nil)) (nomark _)) (pss_cons (ps_asg (pe_clN G2 (hr.mono (by decide)) rfl T.g_longest_copy q2 b2 v2 tk (pa_cons (pv 3) (pa_cons (pv 4) pa_nil))) (pg_tup rfl (pgs_cons (pg_name (i := 6) sc_pieces_of.nd rfl (Or.inl rfl)) (pgs_cons (pg_name (i := 7) sc_pieces_of.nd rfl (Or.inl rfl)) pgs_nil))))
    (pss_one (ps_if (pt_cmpR op_geU (pv 7) (pe_gint rfl T.g_LEAST_SIZE) (nomark _)) (pss_cons (ps_expr (pe_bm PySem.F.plainAttrs_list PySem.F.slot_list_append PySem.F.type_list_append mt_append (pv 5) (pa_cons (pe_tup (pa_cons (pe_str) (pa_cons (pv 6) (pa_cons (pv 7) pa_nil)))) pa_nil)))
    (pss_one (ps_aug (i := 4) sc_pieces_of.nd rfl (Or.inl rfl) (pv 7) ip_addU))) (pss_cons (ps_expr (pe_bm PySem.F.plainAttrs_list PySem.F.slot_list_append PySem.F.type_list_append mt_append (pv 5) (pa_cons (pe_tup (pa_cons (pe_str) (pa_cons (pe_ix ix_seq (pv 3) (pv 4) (fun _ _ => rfl)) pa_nil))) pa_nil)))
    (pss_one (ps_aug (i := 4) sc_pieces_of.nd rfl (Or.inl rfl) (pe_int) ip_addU)))))))
    (pss_one (ps_ret (pv 5)))))))))
theorem fn_pieces_of {P : Program} {w : World} {K : PySem.W.Frag} {mg : Str → Option Value} {base : Heap} (T : Tx K mg) {f : Addr} {fd : FuncData} (F : FunD K d_pieces_of.name d_pieces_of.qual d_pieces_of.params d_pieces_of.body d_pieces_of.scope (d_pieces_of.dvs K) (d_pieces_of.kws K) f fd) :
    FnOk P w K mg base (L2N.CX P w) 4 f fd ["text", "before"] (sp_pieces_of K) :=
  F.ok sc_pieces_of (fun vs H Q E h => len_pieces_of h) (fun cdv A outer s H vs Q E hr h => ⟨t_pieces_of K (fun c d _ H2 => E c d H2), wk_pieces_of T (ok_need_row_1 T) (ok_need_window_1 T) (ok_longest_copy_2 T) hr, rd_pieces_of  h⟩)
theorem ok_pieces_of_2 {P : Program} {w : World} {K : PySem.W.Frag} {mg : Str → Option Value} {base : Heap} (T : Tx K mg) : DOkN P w K mg base 4 (He.fAd K ("pieces_of", none)) ["text", "before"] [] (sp_pieces_of K) := by
  obtain ⟨fd, F⟩ := T.d_pieces_of
  obtain ⟨ds, v, b⟩ := FunD.binds1 (ps := ["text", "before"]) F 2 1 (by intro z; cases z) (by rfl) fun T kV doc pm an cdv ct us its hl hi => match us, hl, its, hi with | [_, _], _, [_], _ => ⟨_, rfl, rfl⟩
  exact ⟨fd, ds, v, b, fn_pieces_of T F, F.kp⟩
abbrev N__law_cut : List Str := ["_law_text_here", "_law_before", "_law_e"]
theorem sc__law_cut : FnScope N__law_cut ["_law_text_here", "_law_before"] (defScope s__law_cut) := ⟨rfl, rfl, rfl, by decide +kernel, rfl, by decide +kernel, by decide +kernel⟩
theorem wk__law_cut {P : Program} {w : World} {K : PySem.W.Frag} {mg : Str → Option Value} {base : Heap} (T : Tx K mg) (O0 : DOkN P w K mg base 4 (He.fAd K ("pieces_of", none)) ["text", "before"] [] (sp_pieces_of K)) (O1 : ∃ fd, Binds K fd ["_law_e"] [] ∧ FnE P w K mg base (L2N.CX P w) 1 (He.fAd K ("_law_word", none)) fd ["_law_e"] (sp__law_word K) ∧ PySem.W.keepIn K (.ref (He.fAd K ("_law_word", none))) = true) {f : Addr} {cdv : Value} {A : Around} {outer : List Env} {s : Shared} {H : Hp} {E : XK}
    (hr : Room 4 (A.deeper (envOfC "_law_cut" (defScope s__law_cut) s.heap.objs.size f cdv))) :
    PSs (cxOf (L2N.CX P w) P w K mg base N__law_cut "_law_cut" (defScope s__law_cut) f cdv A outer s H E) (defBody s__law_cut) (t__law_cut K (fun c d _ H2 => E c d H2)) := by
  obtain ⟨fd0, ds0, v0, b0, G0, q0⟩ := O0
  obtain ⟨fd1, b1, G1, q1⟩ := O1
  have hu1 := hu_of hr
  have hu64 := hr.units
  have tk : L2N.Takes (cxOf (L2N.CX P w) P w K mg base N__law_cut "_law_cut" (defScope s__law_cut) f cdv A outer s H E) (fun c d _ H2 => E c d H2) := L2N.takes_of rfl rfl rfl rfl
  exact (pss_one (ps_tryAsN rfl rfl sc__law_cut.nd rfl rfl ⟨rfl, by decide, .inl T.g_PressError⟩ tk (fun W pn xe tk po => (pss_one (ps_ret (pe_clN G0 (hr.mono (by decide)) rfl T.g_pieces_of q0 b0 v0 tk (pa_cons (pv 0) (pa_cons (pv 1) pa_nil))))))
    (fun a oe cls d pn hz hf => (pss_one (ps_ret (pe_tup (pa_cons (pe_str) (pa_cons (pe_clE G1 (roomH_of (hr.mono (by decide))) hz hf rfl T.g__law_word q1 b1 (pa_cons (pv 2) pa_nil)) pa_nil))))))))
theorem fn__law_cut {P : Program} {w : World} {K : PySem.W.Frag} {mg : Str → Option Value} {base : Heap} (T : Tx K mg) {f : Addr} {fd : FuncData} (F : FunD K d__law_cut.name d__law_cut.qual d__law_cut.params d__law_cut.body d__law_cut.scope (d__law_cut.dvs K) (d__law_cut.kws K) f fd) :
    FnOk P w K mg base (L2N.CX P w) 5 f fd ["_law_text_here", "_law_before"] (sp__law_cut K) :=
  F.ok sc__law_cut (fun vs H Q E h => len__law_cut h) (fun cdv A outer s H vs Q E hr h => ⟨t__law_cut K (fun c d _ H2 => E c d H2), wk__law_cut T (ok_pieces_of_2 T) (ok__law_word_1 T) hr, rd__law_cut (of_KWBadRow T) h⟩)
theorem ok__law_cut_2 {P : Program} {w : World} {K : PySem.W.Frag} {mg : Str → Option Value} {base : Heap} (T : Tx K mg) : DOkN P w K mg base 5 (He.fAd K ("_law_cut", none)) ["_law_text_here", "_law_before"] [] (sp__law_cut K) := by
  obtain ⟨fd, F⟩ := T.d__law_cut
  exact ⟨fd, [], .nil, FunD.bindsN F fun _ _ _ _ _ _ us hl => match us, hl with | [_, _], _ => rfl, fn__law_cut T F, F.kp⟩
abbrev N__law_refused : List Str := ["_law_pieces", "_law_before", "_law_number", "_law_odd", "_law_kept", "_law_window", "_law_thing", "_law_many"]
theorem sc__law_refused : FnScope N__law_refused ["_law_pieces", "_law_before", "_law_number"] (defScope s__law_refused) := ⟨rfl, rfl, rfl, by decide +kernel, rfl, by decide +kernel, by decide +kernel⟩
theorem wk__law_refused {P : Program} {w : World} {K : PySem.W.Frag} {mg : Str → Option Value} {base : Heap} (T : Tx K mg) (O0 : DOkN P w K mg base 1 (He.fAd K ("_law_odd_piece", none)) ["_law_number", "_law_many"] [] (sp__law_odd_piece K)) (O1 : DOkN P w K mg base 1 (He.fAd K ("_law_odd_row", none)) ["_law_number", "_law_row"] [] (sp__law_odd_row K)) (O2 : DOkN P w K mg base 5 (He.fAd K ("_law_told", none)) ["_law_pieces", "_law_before"] [] (sp__law_told K)) (O3 : DOkN P w K mg base 5 (He.fAd K ("_law_cut", none)) ["_law_text_here", "_law_before"] [] (sp__law_cut K)) (O4 : DOkN P w K mg base 1 (He.fAd K ("_law_text", none)) ["_law_pieces", "_law_before"] [] (sp__law_text K)) {f : Addr} {cdv : Value} {A : Around} {outer : List Env} {s : Shared} {H : Hp} {E : XK}
    (hr : Room 5 (A.deeper (envOfC "_law_refused" (defScope s__law_refused) s.heap.objs.size f cdv))) :
    PSs (cxOf (L2N.CX P w) P w K mg base N__law_refused "_law_refused" (defScope s__law_refused) f cdv A outer s H E) (defBody s__law_refused) (t__law_refused K (fun c d _ H2 => E c d H2)) := by
  obtain ⟨fd0, ds0, v0, b0, G0, q0⟩ := O0
  obtain ⟨fd1, ds1, v1, b1, G1, q1⟩ := O1
  obtain ⟨fd2, ds2, v2, b2, G2, q2⟩ := O2
  obtain ⟨fd3, ds3, v3, b3, G3, q3⟩ := O3
  obtain ⟨fd4, ds4, v4, b4, G4, q4⟩ := O4
  have hu1 := hu_of hr
  have hu64 := hr.units
  have tk : L2N.Takes (cxOf (L2N.CX P w) P w K mg base N__law_refused "_law_refused" (defScope s__law_refused) f cdv A outer s H E) (fun c d _ H2 => E c d H2) := L2N.takes_of rfl rfl rfl rfl
  exact (pss_cons (ps_set (i := 3) sc__law_refused.nd rfl (Or.inl rfl) (pe_op op_addU (pe_lst (pa_cons (pe_clN G0 (hr.mono (by decide)) rfl T.g__law_odd_piece q0 b0 v0 tk (pa_cons (pv 2) (pa_cons (pe_callB cr_lenK (by rfl) T.f_len bb_len (pa_cons (pv 1) pa_nil)) pa_nil))) pa_nil)) (pv 0)))
    (Evl.pss_cut (ps_if (pt_cmpR (op_eqU hu64) (pe_op op_modU (pe_op op_divU (pv 2) (pe_int)) (pe_int)) (pe_int) (nomark _)) (pss_one (ps_set (i := 3) sc__law_refused.nd rfl (Or.inl rfl) (pe_op op_addU (pv 0) (pe_lst (pa_cons (pe_clN G0 (hr.mono (by decide)) rfl T.g__law_odd_piece q0 b0 v0 tk (pa_cons (pe_op op_addU (pe_op op_mulU (pe_int) (pv 2)) (pe_int)) (pa_cons (pe_int) pa_nil))) pa_nil))))) pss_nil)
    (pss_cons (ps_set (i := 4) sc__law_refused.nd rfl (Or.inl rfl) (pe_callTy cr_listK (by rfl) T.f_list bt_list (pa_cons (pv 3) pa_nil)))
    (pss_cons (ps_set (i := 5) sc__law_refused.nd rfl (Or.inl rfl) (pe_clN G1 (hr.mono (by decide)) rfl T.g__law_odd_row q1 b1 v1 tk (pa_cons (pe_op op_divU (pv 2) (pe_int)) (pa_cons (pv 1) pa_nil))))
    (pss_cons (ps_if (PW.pt (pw_or (pt_cmpR (op_neU hu64) (pe_clN G2 (hr.mono (by decide)) rfl T.g__law_told q2 b2 v2 tk (pa_cons (pv 3) (pa_cons (pv 1) pa_nil))) (pe_tup (pa_cons (pe_str) (pa_cons (pe_lst (pa_cons (pe_str) pa_nil)) pa_nil))) (nomark _)) (pw_or1 (pt_cmpR (op_neU hu64) (pv 3) (pv 4) (nomark _))))) (pss_one (ps_ret (pe_bl))) pss_nil)
    (pss_cons (ps_for (passes_of rfl) rfl (pi_list (pe_lst (pa_cons (pe_non) (pa_cons (pe_callTy cr_tupleK (by rfl) T.f_tuple bt_tuple (pa_cons (pv 0) pa_nil)) (pa_cons (pe_dnewK) (pa_cons (pe_str) (pa_cons (pe_int) (pa_cons (pe_bl) pa_nil)))))))) (pg_name (i := 6) sc__law_refused.nd rfl (Or.inl rfl)) (pss_one (ps_if (pt_cmpR (op_neU hu64) (pe_clN G2 (hr.mono (by decide)) rfl T.g__law_told q2 b2 v2 tk (pa_cons (pv 6) (pa_cons (pv 1) pa_nil))) (pe_tup (pa_cons (pe_str) (pa_cons (pe_lst (pa_cons (pe_str) pa_nil)) pa_nil))) (nomark _)) (pss_one (ps_ret (pe_bl))) pss_nil)))
    (pss_cons (ps_if (PW.pt (pw_or (pt_cmpR (op_neU hu64) (pe_clN G2 (hr.mono (by decide)) rfl T.g__law_told q2 b2 v2 tk (pa_cons (pv 3) (pa_cons (pv 5) pa_nil))) (pe_tup (pa_cons (pe_str) (pa_cons (pe_lst (pa_cons (pe_str) pa_nil)) pa_nil))) (nomark _)) (pw_or1 (pt_cmpR (op_neU hu64) (pe_clN G2 (hr.mono (by decide)) rfl T.g__law_told q2 b2 v2 tk (pa_cons (pv 0) (pa_cons (pv 5) pa_nil))) (pe_tup (pa_cons (pe_str) (pa_cons (pe_lst (pa_cons (pe_str) pa_nil)) pa_nil))) (nomark _))))) (pss_one (ps_ret (pe_bl))) pss_nil)
    (Evl.pss_cut (ps_if (pt_cmpR (op_eqU hu64) (pv 5) (pe_op op_mulU (pe_lst (pa_cons (pe_int) pa_nil)) (pe_int)) (nomark _)) (pss_one (ps_if (pt_cmpR (op_neU hu64) (pe_clN G2 (hr.mono (by decide)) rfl T.g__law_told q2 b2 v2 tk (pa_cons (pe_clN G3 (hr.mono (by decide)) rfl T.g__law_cut q3 b3 v3 tk (pa_cons (pv 5) (pa_cons (pv 1) pa_nil))) (pa_cons (pv 1) pa_nil))) (pv 5) (nomark _)) (pss_one (ps_ret (pe_bl))) pss_nil)) (pss_one (ps_if (pt_cmpR (op_neU hu64) (pe_clN G3 (hr.mono (by decide)) rfl T.g__law_cut q3 b3 v3 tk (pa_cons (pv 5) (pa_cons (pv 1) pa_nil))) (pe_tup (pa_cons (pe_str) (pa_cons (pe_lst (pa_cons (pe_str) pa_nil)) pa_nil))) (nomark _)) (pss_one (ps_ret (pe_bl))) pss_nil)))
    (pss_cons (ps_set (i := 7) sc__law_refused.nd rfl (Or.inl rfl) (pe_op op_addU (pe_callB cr_lenK (by rfl) T.f_len bb_len (pa_cons (pv 1) pa_nil)) (pe_callB cr_lenK (by rfl) T.f_len bb_len (pa_cons (pe_clN G4 (hr.mono (by decide)) rfl T.g__law_text q4 b4 v4 tk (pa_cons (pv 0) (pa_cons (pv 1) pa_nil))) pa_nil))))
    (pss_cons (ps_if (PW.pt (pw_and (pt_cmpR op_ltU (pv 7) (pe_int) (nomark _)) (pw_and1 (pt_cmpR (op_neU hu64) (pe_clN G2 (hr.mono (by decide)) rfl T.g__law_told q2 b2 v2 tk (pa_cons (pe_op op_addU (pv 0) (pe_lst (pa_cons (pe_tup (pa_cons (pe_str) (pa_cons (pe_op op_addU (pv 7) (pe_int)) (pa_cons (pe_int) pa_nil)))) pa_nil))) (pa_cons (pv 1) pa_nil))) (pe_tup (pa_cons (pe_str) (pa_cons (pe_lst (pa_cons (pe_str) pa_nil)) pa_nil))) (nomark _))))) (pss_one (ps_ret (pe_bl))) pss_nil)
    (pss_one (ps_ret ((pe_and (pe_cmpR (op_eqU hu64) (pe_clN G3 (hr.mono (by decide)) rfl T.g__law_cut q3 b3 v3 tk (pa_cons (pe_lst (pa_cons (pe_int) (pa_cons (pe_int) pa_nil))) (pa_cons (pv 5) pa_nil))) (pe_tup (pa_cons (pe_str) (pa_cons (pe_lst (pa_cons (pe_str) pa_nil)) pa_nil))) (nomark _)) (pe_one (pe_cmpR (op_eqU hu64) (pe_clN G3 (hr.mono (by decide)) rfl T.g__law_cut q3 b3 v3 tk (pa_cons (pv 5) (pa_cons (pv 5) pa_nil))) (pe_tup (pa_cons (pe_str) (pa_cons (pe_lst (pa_cons (pe_str) pa_nil)) pa_nil))) (nomark _)))))))))))))))))
theorem fn__law_refused {P : Program} {w : World} {K : PySem.W.Frag} {mg : Str → Option Value} {base : Heap} (T : Tx K mg) {f : Addr} {fd : FuncData} (F : FunD K d__law_refused.name d__law_refused.qual d__law_refused.params d__law_refused.body d__law_refused.scope (d__law_refused.dvs K) (d__law_refused.kws K) f fd) :
    FnOk P w K mg base (L2N.CX P w) 6 f fd ["_law_pieces", "_law_before", "_law_number"] (sp__law_refused K) :=
  F.ok sc__law_refused (fun vs H Q E h => len__law_refused h) (fun cdv A outer s H vs Q E hr h => ⟨t__law_refused K (fun c d _ H2 => E c d H2), wk__law_refused T (ok__law_odd_piece_2 T) (ok__law_odd_row_2 T) (ok__law_told_2 T) (ok__law_cut_2 T) (ok__law_text_2 T) hr, rd__law_refused  h⟩)
theorem ok__law_refused_3 {P : Program} {w : World} {K : PySem.W.Frag} {mg : Str → Option Value} {base : Heap} (T : Tx K mg) : DOkN P w K mg base 6 (He.fAd K ("_law_refused", none)) ["_law_pieces", "_law_before", "_law_number"] [] (sp__law_refused K) := by
  obtain ⟨fd, F⟩ := T.d__law_refused
  exact ⟨fd, [], .nil, FunD.bindsN F fun _ _ _ _ _ _ us hl => match us, hl with | [_, _, _], _ => rfl, fn__law_refused T F, F.kp⟩
abbrev N_law : List Str := ["_law_script", "_law_number", "_law_ahead", "_law_before", "_law_pieces", "_law_handed", "_law_found", "_law_due", "_law_long_one", "_law_lone", "_law_told_here", "_law_one"]
theorem sc_law : FnScope N_law ["_law_script"] (defScope s_law) := ⟨rfl, rfl, rfl, by decide +kernel, rfl, by decide +kernel, by decide +kernel⟩
theorem wk_law {P : Program} {w : World} {K : PySem.W.Frag} {mg : Str → Option Value} {base : Heap} (T : Tx K mg) (O0 : DOkN P w K mg base 1 (He.fAd K ("_law_mixed", none)) ["_law_cell", "_law_k"] [] (sp__law_mixed K)) (O1 : DOkN P w K mg base 1 (He.fAd K ("_law_cell_at", none)) ["_law_script", "_law_k"] [] (sp__law_cell_at K)) (O2 : DOkN P w K mg base 2 (He.fAd K ("_law_signs", none)) ["_law_script", "_law_first", "_law_size", "_law_kinds"] [] (sp__law_signs K)) (O3 : DOkN P w K mg base 2 (He.fAd K ("_law_drawn_pieces", none)) ["_law_script", "_law_many"] [] (sp__law_drawn_pieces K)) (O4 : DOkN P w K mg base 5 (He.fAd K ("_law_told", none)) ["_law_pieces", "_law_before"] [] (sp__law_told K)) (O5 : DOkN P w K mg base 1 (He.fAd K ("_law_text", none)) ["_law_pieces", "_law_before"] [] (sp__law_text K)) (O6 : DOkN P w K mg base 1 (He.fAd K ("_law_rows", none)) ["_law_found", "_law_due"] [] (sp__law_rows K)) (O7 : DOkN P w K mg base 6 (He.fAd K ("_law_refused", none)) ["_law_pieces", "_law_before", "_law_number"] [] (sp__law_refused K)) (O8 : DOkN P w K mg base 5 (He.fAd K ("_law_cut", none)) ["_law_text_here", "_law_before"] [] (sp__law_cut K)) (O9 : DOkN P w K mg base 4 (He.fAd K ("text_of", none)) ["pieces", "before"] [.non] (sp_text_of K)) (O10 : DOkN P w K mg base 4 (He.fAd K ("text_of", none)) ["pieces", "before"] [] (sp_text_of K)) {f : Addr} {cdv : Value} {A : Around} {outer : List Env} {s : Shared} {H : Hp} {E : XK}
    (hr : Room 6 (A.deeper (envOfC "law" (defScope s_law) s.heap.objs.size f cdv))) :
    PSs (cxOf (L2N.CX P w) P w K mg base N_law "law" (defScope s_law) f cdv A outer s H E) (defBody s_law) (t_law K (fun c d _ H2 => E c d H2)) := by
  obtain ⟨fd0, ds0, v0, b0, G0, q0⟩ := O0
  obtain ⟨fd1, ds1, v1, b1, G1, q1⟩ := O1
  obtain ⟨fd2, ds2, v2, b2, G2, q2⟩ := O2
  obtain ⟨fd3, ds3, v3, b3, G3, q3⟩ := O3
  obtain ⟨fd4, ds4, v4, b4, G4, q4⟩ := O4
  obtain ⟨fd5, ds5, v5, b5, G5, q5⟩ := O5
  obtain ⟨fd6, ds6, v6, b6, G6, q6⟩ := O6
  obtain ⟨fd7, ds7, v7, b7, G7, q7⟩ := O7
  obtain ⟨fd8, ds8, v8, b8, G8, q8⟩ := O8
  obtain ⟨fd9, ds9, v9, b9, G9, q9⟩ := O9
  obtain ⟨fd10, ds10, v10, b10, G10, q10⟩ := O10
  have hu1 := hu_of hr
  have hu64 := hr.units
  have tk : L2N.Takes (cxOf (L2N.CX P w) P w K mg base N_law "law" (defScope s_law) f cdv A outer s H E) (fun c d _ H2 => E c d H2) := L2N.takes_of rfl rfl rfl rfl
  exact (pss_cons (ps_set (i := 1) sc_law.nd rfl (Or.inl rfl) (pe_clN G0 (hr.mono (by decide)) rfl T.g__law_mixed q0 b0 v0 tk (pa_cons (pe_clN G1 (hr.mono (by decide)) rfl T.g__law_cell_at q1 b1 v1 tk (pa_cons (pv 0) (pa_cons (pe_int) pa_nil))) (pa_cons (pe_int) pa_nil))))
    (pss_cons (ps_set (i := 2) sc_law.nd rfl (Or.inl rfl) (pe_ix ix_seq (pe_lst (pa_cons (pe_int) (pa_cons (pe_int) (pa_cons (pe_op op_modU (pe_op op_divU (pv 1) (pe_int)) (pe_int)) (pa_cons (pe_op op_subU (pe_int) (pe_op op_modU (pe_op op_divU (pv 1) (pe_int)) (pe_int))) pa_nil))))) (pe_op op_modU (pv 1) (pe_int)) (fun _ _ => rfl)))
    (pss_cons (ps_set (i := 3) sc_law.nd rfl (Or.inl rfl) (pe_clN G2 (hr.mono (by decide)) rfl T.g__law_signs q2 b2 v2 tk (pa_cons (pv 0) (pa_cons (pe_int) (pa_cons (pv 2) (pa_cons (pe_ix ix_seq (pe_lst (pa_cons (pe_int) (pa_cons (pe_int) pa_nil))) (pe_op op_modU (pe_op op_divU (pv 1) (pe_int)) (pe_int)) (fun _ _ => rfl)) pa_nil))))))
    (pss_cons (ps_set (i := 4) sc_law.nd rfl (Or.inl rfl) (pe_clN G3 (hr.mono (by decide)) rfl T.g__law_drawn_pieces q3 b3 v3 tk (pa_cons (pv 0) (pa_cons (pe_callB cr_lenK (by rfl) T.f_len bb_len (pa_cons (pv 3) pa_nil)) pa_nil))))
    (pss_cons (ps_set (i := 5) sc_law.nd rfl (Or.inl rfl) (pe_lst (pa_cons (pe_callTy cr_listK (by rfl) T.f_list bt_list (pa_cons (pv 4) pa_nil)) (pa_cons (pe_callTy cr_listK (by rfl) T.f_list bt_list (pa_cons (pv 3) pa_nil)) pa_nil))))
    (pss_cons (ps_set (i := 6) sc_law.nd rfl (Or.inl rfl) (pe_clN G4 (hr.mono (by decide)) rfl T.g__law_told q4 b4 v4 tk (pa_cons (pe_ix ix_seq (pv 5) (pe_int) (fun _ _ => rfl)) (pa_cons (pe_ix ix_seq (pv 5) (pe_int) (fun _ _ => rfl)) pa_nil))))
    (pss_cons (ps_set (i := 7) sc_law.nd rfl (Or.inl rfl) (pe_clN G5 (hr.mono (by decide)) rfl T.g__law_text q5 b5 v5 tk (pa_cons (pv 4) (pa_cons (pv 3) pa_nil))))
    (pss_cons (ps_if (PW.pt (pw_or (pt_not (pt_val (pe_clN G6 (hr.mono (by decide)) rfl T.g__law_rows q6 b6 v6 tk (pa_cons (pv 6) (pa_cons (pv 7) pa_nil))))) (pw_or1 (pt_cmpR (op_neU hu64) (pv 5) (pe_lst (pa_cons (pv 4) (pa_cons (pv 3) pa_nil))) (nomark _))))) (pss_one (ps_ret (pe_bl))) pss_nil)
    (pss_cons (ps_expr (pe_bm0 PySem.F.plainAttrs_list PySem.F.slot_list_clear PySem.F.type_list_clear mt_clear (pe_ix ix_seq (pv 5) (pe_int) (fun _ _ => rfl))))
    (pss_cons (ps_expr (pe_bm0 PySem.F.plainAttrs_list PySem.F.slot_list_clear PySem.F.type_list_clear mt_clear (pe_ix ix_seq (pv 5) (pe_int) (fun _ _ => rfl))))
    (pss_cons (ps_if (PW.pt (pw_or (pt_not (pt_val (pe_clN G6 (hr.mono (by decide)) rfl T.g__law_rows q6 b6 v6 tk (pa_cons (pe_clN G4 (hr.mono (by decide)) rfl T.g__law_told q4 b4 v4 tk (pa_cons (pe_ix ix_seq (pv 5) (pe_int) (fun _ _ => rfl)) (pa_cons (pe_ix ix_seq (pv 5) (pe_int) (fun _ _ => rfl)) pa_nil))) (pa_cons (pe_lst pa_nil) pa_nil))))) (pw_or1 (pt_not (pt_val (pe_clN G7 (hr.mono (by decide)) rfl T.g__law_refused q7 b7 v7 tk (pa_cons (pv 4) (pa_cons (pv 3) (pa_cons (pe_op op_divU (pv 1) (pe_int)) pa_nil))))))))) (pss_one (ps_ret (pe_bl))) pss_nil)
    (pss_cons (ps_set (i := 8) sc_law.nd rfl (Or.inl rfl) (pe_op op_mulU (pe_lst (pa_cons (pe_op op_modU (pe_op op_divU (pv 1) (pe_int)) (pe_int)) pa_nil)) (pe_op op_addU (pe_int) (pe_op op_modU (pe_op op_divU (pv 1) (pe_int)) (pe_int)))))
    (pss_cons (ps_aug (i := 8) sc_law.nd rfl (Or.inl rfl) (pe_op op_mulU (pe_lst (pa_cons (pe_op op_modU (pe_op op_divU (pv 1) (pe_int)) (pe_int)) pa_nil)) (pe_op op_modU (pe_op op_divU (pv 1) (pe_int)) (pe_int))) ip_addU)
    (pss_cons (ps_if (pt_cmpR (op_neU hu64) (pe_clN G4 (hr.mono (by decide)) rfl T.g__law_told q4 b4 v4 tk (pa_cons (pe_clN G8 (hr.mono (by decide)) rfl T.g__law_cut q8 b8 v8 tk (pa_cons (pv 8) (pa_cons (pv 3) pa_nil))) (pa_cons (pv 3) pa_nil))) (pv 8) (nomark _)) (pss_one (ps_ret (pe_bl))) pss_nil)
    (pss_cons (ps_set (i := 9) sc_law.nd rfl (Or.inr rfl) (pe_clN G3 (hr.mono (by decide)) rfl T.g__law_drawn_pieces q3 b3 v3 tk (pa_cons (pv 0) (pa_cons (pe_int) pa_nil))))
    (pss_cons (ps_set (i := 10) sc_law.nd rfl (Or.inl rfl) (pe_lst (pa_cons (pe_clN G9 (hr.mono (by decide)) rfl T.g_text_of q9 b9 v9 tk (pa_cons (pv 9) pa_nil)) (pa_cons (pe_clN G10 (hr.mono (by decide)) rfl T.g_text_of q10 b10 v10 tk (pa_cons (pv 9) (pa_cons (pe_non) pa_nil))) (pa_cons (pe_clN G10 (hr.mono (by decide)) rfl T.g_text_of q10 b10 v10 tk (pa_cons (pv 9) (pa_cons (pe_ix ix_seq (pv 5) (pe_int) (fun _ _ => rfl)) pa_nil))) (pa_cons (pe_clN G4 (hr.mono (by decide)) rfl T.g__law_told q4 b4 v4 tk (pa_cons (pv 4) (pa_cons (pv 3) pa_nil))) pa_nil))))))
    (pss_cons (ps_if (pt_cmpR (op_neU hu64) (pe_lc (own := [("_law_one", 11)]) rfl sc_law.nd (pi_list (pe_slice sl_K (pv 10) po_none (po_some (pe_int)))) (blkOk_by (own := [("_law_one", 11)]) (N := N_law) (sc := defScope s_law) (by decide +kernel)) (fun _ _ _ _ _ => (pg_name (i := 11) sc_law.nd rfl (Or.inl rfl))) (fun _ _ _ _ _ => pts_one (pt_not (pt_val (pe_clN G6 (hr.mono (by decide)) rfl T.g__law_rows q6 b6 v6 takes0N (pa_cons (pv 11) (pa_cons (pe_clN G5 (hr.mono (by decide)) rfl T.g__law_text q5 b5 v5 takes0N (pa_cons (pv 9) (pa_cons (pe_lst pa_nil) pa_nil))) pa_nil)))))) (fun _ _ _ _ _ => (pv 11))) (pe_lst pa_nil) (nomark _)) (pss_one (ps_ret (pe_bl))) pss_nil)
    (pss_cons (ps_expr (pe_bm PySem.F.plainAttrs_list PySem.F.slot_list_append PySem.F.type_list_append mt_append (pe_ix ix_seq (pv 10) (pe_int) (fun _ _ => rfl)) (pa_cons (pe_int) pa_nil)))
    (pss_one (ps_ret (pe_clN G6 (hr.mono (by decide)) rfl T.g__law_rows q6 b6 v6 tk (pa_cons (pv 6) (pa_cons (pv 7) pa_nil)))))))))))))))))))))))
theorem fn_law {P : Program} {w : World} {K : PySem.W.Frag} {mg : Str → Option Value} {base : Heap} (T : Tx K mg) {f : Addr} {fd : FuncData} (F : FunD K d_law.name d_law.qual d_law.params d_law.body d_law.scope (d_law.dvs K) (d_law.kws K) f fd) :
    FnOk P w K mg base (L2N.CX P w) 7 f fd ["_law_script"] (sp_law K) :=
  F.ok sc_law (fun vs H Q E h => len_law h) (fun cdv A outer s H vs Q E hr h => ⟨t_law K (fun c d _ H2 => E c d H2), wk_law T (ok__law_mixed_2 T) (ok__law_cell_at_2 T) (ok__law_signs_4 T) (ok__law_drawn_pieces_2 T) (ok__law_told_2 T) (ok__law_text_2 T) (ok__law_rows_2 T) (ok__law_refused_3 T) (ok__law_cut_2 T) (ok_text_of_1 T) (ok_text_of_2 T) hr, rd_law  h⟩)
end L2.BW
namespace L2.BW
open PySem PySem.Spec PyProof.Rows
theorem calmly {P : Program} {w : World} {K : PySem.W.Frag} {mg : Str → Option Value} {base : Heap} {k : Nat} {f : Addr} {fd : FuncData} {ps : List Str} {sp : Sp}
    (hE : ∀ vs H Q E, sp vs H Q E → sp vs H Q fun _ _ _ => False) (F : FnOk P w K mg base (L2N.CX P w) k f fd ps sp) : FnOk P w K mg base CX0 k f fd ps sp :=
  ⟨F.len, fun A outer s H args us vs Q E hr he hb hv hs => codeAny_mono (F.run A outer s H args us vs Q _ hr he hb hv (hE _ _ _ _ hs)) fun r s' z => by
    match r, z with
    | .error e, z =>
      obtain ⟨_, _, _, _, _, _, _, _, _, _, _, _, z⟩ := z
      exact z.elim
    | .ok (.ret u), z => exact z⟩
end L2.BW
open PySem PySem.W PySem.Calls PyProof.Rows
theorem PySem.Challenge.cw_balepress_k15_texts_of_pieces_holds : PySem.Challenge.rw_balepress_k15_texts_of_pieces.Holds := by
  w_on; o_law
  refine HandSHeadRun.head_any (r := OpenLaw.row PySem.Challenge.rw_balepress_k15_texts_of_pieces) (q := view (OpenLaw.row PySem.Challenge.rw_balepress_k15_texts_of_pieces).prog [49]) (H := L2.BH.hk) (ob := L2.BH.ob) (M := 40000) (loose := L2.BH.loose) (d := HandSHeadRun.topDef (OpenLaw.row PySem.Challenge.rw_balepress_k15_texts_of_pieces).prog 49) (kwd := [])
    L2.BH.ob_eq (by kernel_rfl) (fun s => by kernel_rfl) L2.BH.run (by kernel_rfl) (by kernel_rfl) (by kernel_rfl) (by rfl) (by first | assumption | decide +kernel) (by decide +kernel)
    ⟨rfl, rfl, rfl, rfl, rfl, by decide +kernel⟩ ?hw ?hc
  case hw => w_witness2
  case hc =>
    refine L2.walk_ofE (l := PySem.Challenge.rw_balepress_k15_texts_of_pieces) (n := 63) (k := 7) (x := "_law_script") (CX := L2.CX0) rfl (by decide) (by kernel_rfl) ⟨rfl, by decide, by decide⟩ ?F (fun _ _ _ _ z => z)
    intro w mg fa h Y G hmg0
    obtain ⟨K, KX, c⟩ := Y
    have hmg : mg ("law" : PySem.Str) = some (.ref fa) := by
      have e : (HandSHeadRun.topDef (OpenLaw.row PySem.Challenge.rw_balepress_k15_texts_of_pieces).prog 49).name = ("law" : PySem.Str) := by kernel_rfl
      exact e ▸ hmg0
    have T := L2.BW.tx_of KX G c.t.d c.more
    obtain ⟨fd, F⟩ := T.d_law
    have e := hmg.symm.trans T.g_law
    cases e
    have b := L2.FunD.bindsA (ps := ["_law_script"]) F fun _ _ _ _ _ _ us hl => match us, hl with | [_], _ => rfl
    exact ⟨K, fd, L2.BR.sp_law K, KX, fun s v => b s [v] rfl, fun H a ns hl _ hS => ⟨a, ns, rfl, hS, hl, fun _ => rfl⟩, fun base _ _ => L2.BW.calmly (fun _ _ _ _ h => h) (L2.BW.fn_law T F)⟩
