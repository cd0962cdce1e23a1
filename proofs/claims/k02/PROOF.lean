import PyProof.Rows.All
import Wide.All
import OpenK.AllK
import Wide.FinOn
import HandS.ForMost
import HandS.Evl
import HandS.IsInst
import HandS.Deep
import HandS.Wide
import HandS.Defaults
import HandS.More
import HandS.Zip
import HandS.TupAny
import HandS.Head2
import HandS.HeadEnd
import HandS.HeadHook3
import HandS.Codes
import HandS.Walk
import HandS.HeadHook4
import PySem.Challenge.RW_hushlane_k02_names_and_numbers
set_option Elab.async false
set_option linter.all false
set_option maxRecDepth 100000
set_option maxHeartbeats 3000000
/-! Common part, 1: the bag of draws as an opaque thing; deep data; steps of a reading. -/
namespace Cm
open L2 PySem PySem.Spec PyProof.Rows
abbrev Ex : Hp → Hp → Prop := Evl.Ex
abbrev Frag := PySem.W.Frag
theorem upd_self {H : Hp} {a : Addr} {o : HO} (h : H a = some o) : upd H a o = H := by
  funext b
  unfold upd
  by_cases e : b = a
  · rw [if_pos e, e, h]
  · rw [if_neg e]
/-! ### the bag -/
def bagL (c : Addr) (i r m k : Int) : List V := [.ref c, .int i, .int r, .int m, .int k]
def bagOk (i r m k : Int) : Prop := 0 ≤ i ∧ 0 ≤ r ∧ 0 ≤ m ∧ m < 4294967296 ∧ 0 ≤ k
def bagP (c b : Addr) : Heap → Prop := fun h => ∃ (i r m k : Int) (its : List Value) (n : Nat), bagOk i r m k ∧ Vals (bagL c i r m k) its ∧ h.get? b = some { cls := .type "list", data := .seq its.toArray n }
/-- b is a bag: what it holds is open, but for its form -/
def Bag (H : Hp) (b : Addr) : Prop := ∃ (c : Addr) (cs : List Int), H b = some (.ext (bagP c b)) ∧ H c = some (.lst (cs.map V.int)) ∧ cs.length ≤ 63
theorem Bag.ex {H H' : Hp} {b : Addr} (e : Ex H H') (h : Bag H b) : Bag H' b := by
  obtain ⟨c, cs, h1, h2, h3⟩ := h
  exact ⟨c, cs, e _ _ h1, e _ _ h2, h3⟩
section
variable {X : Cx} {pins : List (Addr × Obj)} {σ : L2.St} {H : Hp} {s : Shared} {b c : Addr}
/-- the thing at b is known in another way from now on -/
theorem retrack {o : HO} (I : Inv X pins σ H s) (mu : Mut (H b)) (he : ∃ u, s.heap.get? b = some u) (new : ObjOk X.prog X.w (upd H b o) s.heap b o) : Inv X pins σ (upd H b o) s :=
  Inv.write (x := b) (e := b) (h' := s.heap) (t' := s.toks) I mu (Or.inl rfl) (fun _ _ _ q => q) he new
theorem bag_open (I : Inv X pins σ H s) (h : H b = some (.ext (bagP c b))) : ∃ i r m k, bagOk i r m k ∧ Inv X pins σ (upd H b (.lst (bagL c i r m k))) s := by
  obtain ⟨⟨i, r, m, k, its, n, hk, hv, hg⟩, _, _⟩ := I.hok b _ h
  refine ⟨i, r, m, k, hk, retrack I (by rw [h]; exact True.intro) ⟨_, hg⟩ ⟨?_, its, n, hv, hg⟩⟩
  rw [sizeLine_eq]
  show 5 ≤ 16777216
  decide
theorem bag_close {i r m k : Int} (I : Inv X pins σ H s) (h : H b = some (.lst (bagL c i r m k))) (hk : bagOk i r m k) : Inv X pins σ (upd H b (.ext (bagP c b))) s := by
  obtain ⟨_, its, n, hv, hg⟩ := (show ObjOk X.prog X.w H s.heap b (.lst (bagL c i r m k)) from I.hok b _ h)
  refine retrack I (by rw [h]; exact True.intro) ⟨_, hg⟩ ⟨⟨i, r, m, k, its, n, hk, hv, hg⟩, ⟨_, hg⟩, fun h1 h2 => ?_⟩
  rintro ⟨i, r, m, k, its, n, q1, q2, q3⟩ q
  exact ⟨i, r, m, k, its, n, q1, q2, q _ q3⟩
/-- back to the bag -/
def shut (c b : Addr) (P : Hp → Prop) (H : Hp) : Prop := ∃ i r m k, bagOk i r m k ∧ H b = some (.lst (bagL c i r m k)) ∧ P (upd H b (.ext (bagP c b)))
/-- a block that looks into the bag -/
def tLook (t : TS) : TS := fun D σ H => ∃ b c, H b = some (.ext (bagP c b)) ∧ ∀ i r m k, bagOk i r m k →
  t ⟨fun σ' => shut c b (D.nx σ'), fun v => shut c b (D.rt v), fun σ' => shut c b (D.bk σ'), fun σ' => shut c b (D.ct σ')⟩ σ (upd H b (.lst (bagL c i r m k)))
theorem pss_look {body : List Stmt} {t : TS} (h : PSs X body t) : PSs X body (tLook t) := by
  refine ⟨fun pins s σ H D I hw => ?_⟩
  obtain ⟨b, c, hb, hw⟩ := hw
  obtain ⟨i, r, m, k, hk, I1⟩ := bag_open I hb
  refine thn (h.run pins s σ _ _ I1 (hw i r m k hk)) fun f s1 q => ?_
  cases f with
  | next => obtain ⟨σ1, H1, J, i1, r1, m1, k1, q1, q2, q3⟩ := q; exact ⟨σ1, _, bag_close J q2 q1, q3⟩
  | brk => obtain ⟨σ1, H1, J, i1, r1, m1, k1, q1, q2, q3⟩ := q; exact ⟨σ1, _, bag_close J q2 q1, q3⟩
  | cont => obtain ⟨σ1, H1, J, i1, r1, m1, k1, q1, q2, q3⟩ := q; exact ⟨σ1, _, bag_close J q2 q1, q3⟩
  | ret u => obtain ⟨v1, σ1, H1, J, rv, i1, r1, m1, k1, q1, q2, q3⟩ := q; exact ⟨v1, σ1, _, bag_close J q2 q1, rv, q3⟩
/-- a block that makes the bag: a list of its form becomes one -/
def tSeal (t : TS) : TS := fun D σ H => t ⟨D.nx, fun v H' => ∃ b c, v = .ref b ∧ shut c b (D.rt v) H', D.bk, D.ct⟩ σ H
theorem pss_seal {body : List Stmt} {t : TS} (h : PSs X body t) : PSs X body (tSeal t) := by
  refine ⟨fun pins s σ H D I hw => ?_⟩
  refine thn (h.run pins s σ _ _ I hw) fun f s1 q => ?_
  cases f with
  | next => exact q
  | brk => exact q
  | cont => exact q
  | ret u => obtain ⟨v1, σ1, H1, J, rv, b, c, _, i1, r1, m1, k1, q1, q2, q3⟩ := q; exact ⟨v1, σ1, _, bag_close J q2 q1, rv, q3⟩
end
end Cm

set_option Elab.async false
set_option linter.all false
set_option maxRecDepth 100000
set_option maxHeartbeats 3000000
/-! Common part, 2: rules that serve several kinds of values, calls by the def's name. -/
namespace Cm
open L2 PySem PySem.Spec PyProof.Rows
def rStrCat : R2 := fun x y H Q => ∃ i j, x = .str i ∧ y = .str j ∧ i.length + j.length ≤ sizeLine ∧ Q (.str (i ++ j)) H
def xAdd (K : Frag) : R2 := fun x y H Q => rI0 (fun i j => .int (i + j)) x y H Q ∨ (rStrCat x y H Q ∨ (rCat x y H Q ∨ rCatA K x y H Q))
def xSub : R2 := rI0 fun i j => .int (i - j)
def xMul : R2 := fun x y H Q => rI CMul (fun i j => .int (i * j)) x y H Q ∨ rRep x y H Q
def xDiv : R2 := rI CDivW fun i j => .int (i / j)
def xMod : R2 := rI (fun _ j => 0 < j) fun i j => .int (i % j)
def xPow : R2 := rI CPow fun i j => .int (i ^ j.toNat)
def xEq (K : Frag) : R2 := fun x y H Q => rEq x y H Q ∨ rEqD K x y H Q
def xNe (K : Frag) : R2 := fun x y H Q => rNe x y H Q ∨ rNeD K x y H Q
def xLt : R2 := rI0 fun i j => .bl (decide (i < j))
def xLe : R2 := rI0 fun i j => .bl (decide (i ≤ j))
def xGt : R2 := rI0 fun i j => .bl (decide (j < i))
def xGe : R2 := rI0 fun i j => .bl (decide (j ≤ i))
def rSign : R2 := fun x y H Q => ∃ (c : Nat) (z : Str), x = .str ⟨#[c]⟩ ∧ y = .str z ∧ Q (.bl (decide (c ∈ z.cps.toList))) H
def xIn (K : Frag) : R2 := fun x y H Q => rIn K false x y H Q ∨ (rInD K x y H Q ∨ rSign x y H Q)
def xIsN : R2 := fun x y H Q => y = .non ∧ Q (.bl (decide (x = .non))) H
def xNotN : R2 := fun x y H Q => y = .non ∧ Q (.bl (!decide (x = .non))) H
def xSl (K : Frag) : V → Option Int → Option Int → Hp → VK → Prop := fun x lo hi H Q => rSlL K x lo hi H Q ∨ (rSlA K x lo hi H Q ∨ rSlS x lo hi H Q)
section
variable {X : Cx}
theorem op_xAdd : OpR X (binaryOp .Add) (xAdd X.K) := OpR.or op_add (OpR.or op_add_str (OpR.or op_cat op_catA))
theorem op_xSub : OpR X (binaryOp .Sub) xSub := op_sub
theorem op_xMul : OpR X (binaryOp .Mult) xMul := OpR.or op_mul op_rep
theorem op_xDiv : OpR X (binaryOp .FloorDiv) xDiv := op_fdivW
theorem op_xMod : OpR X (binaryOp .Mod) xMod := op_mod
theorem op_xPow : OpR X (binaryOp .Pow) xPow := op_pow
theorem op_xEq (hu : X.A.units + 64 < cLine) : OpR X (compareOp .Eq) (xEq X.K) := OpR.or op_eq (op_eqD hu)
theorem op_xNe (hu : X.A.units + 64 < cLine) : OpR X (compareOp .NotEq) (xNe X.K) := OpR.or op_ne (op_neD hu)
theorem op_xLt : OpR X (compareOp .Lt) xLt := op_lt
theorem op_xLe : OpR X (compareOp .LtE) xLe := op_le
theorem op_xGt : OpR X (compareOp .Gt) xGt := op_gt
theorem op_xGe : OpR X (compareOp .GtE) xGe := op_ge
theorem op_xIn (hu : X.A.units + 65 < cLine) : OpR X (compareOp .In) (xIn X.K) := OpR.or op_in_seq (OpR.or (op_inD hu) op_in_sign)
theorem op_xIsN : OpR X (compareOp .Is) xIsN := op_isN
theorem op_xNotN : OpR X (compareOp .IsNot) xNotN := op_notN
theorem sl_x : SlR X (xSl X.K) := SlR.or sl_list (SlR.or sl_tupA sl_str)
end
/-! ### built-in functions -/
def rLn (K : Frag) : List V → Hp → VK → Prop := fun xs H Q => ∃ x n, xs = [x] ∧ LenV K x H n ∧ Q (.int (n : Nat)) H
def rInt : List V → Hp → VK → Prop := fun xs H Q => (∃ i, xs = [.int i] ∧ Q (.int i) H) ∨ ∃ k, xs = [.bl k] ∧ Q (.int (if k then 1 else 0)) H
def rList (K : Frag) : List V → Hp → VK → Prop := fun xs H Q => ∃ p ys, xs = [.ref p] ∧ (SqL K H p ys ∨ SqT K H p ys) ∧ ∀ l, H l = none → Q (.ref l) (upd H l (.lst ys))
section
variable {X : Cx}
theorem cr_len : CallR X (.builtin "len") (rLn X.K) := call_len
theorem cr_int : CallR X (.type "int") rInt := call_int1
theorem cr_list : CallR X (.type "list") (rList X.K) := call_list_of
theorem boot_isinst : bootBuiltins "isinstance" = some (.builtin "isinstance") := by decide +kernel
theorem boot_ln : bootBuiltins "len" = some (.builtin "len") := by decide +kernel
theorem boot_all' : bootBuiltins "all" = some (.builtin "all") := by decide +kernel
theorem boot_any' : bootBuiltins "any" = some (.builtin "any") := by decide +kernel
theorem boot_int' : bootBuiltins "int" = some (.type "int") := by decide +kernel
theorem boot_bool' : bootBuiltins "bool" = some (.type "bool") := by decide +kernel
theorem boot_str' : bootBuiltins "str" = some (.type "str") := by decide +kernel
theorem boot_list' : bootBuiltins "list" = some (.type "list") := by decide +kernel
theorem boot_tuple' : bootBuiltins "tuple" = some (.type "tuple") := by decide +kernel
end
/-! ### a def by its name -/
structure Fn (P : Program) (w : World) (K : Frag) (mg : Str → Option Value) (base : Heap) (CX : CXT) (k : Nat) (x : Str) (ps : List Str) (sp : Sp) : Prop where
  ex : ∃ (f : Addr) (fd : FuncData), FnOk P w K mg base CX k f fd ps sp ∧ mg x = some (.ref f) ∧ PySem.W.keepIn K (.ref f) = true ∧ Binds K fd ps []
/-- called with keywords ks behind n values -/
structure FnK (P : Program) (w : World) (K : Frag) (mg : Str → Option Value) (base : Heap) (CX : CXT) (k : Nat) (x : Str) (n : Nat) (ks : List Str) (gV : List V → List V → List V) (sp : Sp) : Prop where
  ex : ∃ (f : Addr) (fd : FuncData) (ps : List Str) (g : List Value → List Value → List Value), FnOk P w K mg base CX k f fd ps sp ∧ mg x = some (.ref f) ∧ PySem.W.keepIn K (.ref f) = true ∧ KBn K fd ps n ks g gV
section
variable {X : Cx} {CX : CXT} {j k n : Nat} {x : Str} {ps ks : List Str} {sp : Sp} {E : XK} {p pos : Pos} {e : Expr} {es : List Expr} {kws : List Keyword} {t tk : TA} {gV : List V → List V → List V}
theorem pe_fn (c : Fn X.prog X.w X.K X.mg X.base CX k x ps sp) (hr : Room j X.A) (hk : k ≤ j) (hg : Gl X x) (hx : Passes CX X E) (ha : PA X (e :: es) t) (hdb : (x == ("__debug__" : Str)) = false := by decide)
    (he : starEach (e :: es) X.env = (false, eval e X.env) :: starEach es X.env := by rfl) (hpl : (backTo pos (starEach es X.env)).any (·.1) = false := by rfl) : PE X (.Call (.Name x p) (e :: es) [] pos) (tCall sp [] E t) := by
  obtain ⟨f, fd, F, hm, kp, b⟩ := c.ex
  exact pe_call F (hr.mono hk) hg hm kp b .nil hx ha hdb he hpl
theorem pe_fn0 (c : Fn X.prog X.w X.K X.mg X.base CX k x ps sp) (hr : Room j X.A) (hk : k ≤ j) (hg : Gl X x) (hx : Passes CX X E) (hdb : (x == ("__debug__" : Str)) = false := by decide) : PE X (.Call (.Name x p) [] [] pos) (tCall sp [] E tNil) := by
  obtain ⟨f, fd, F, hm, kp, b⟩ := c.ex
  exact pe_call0 F (hr.mono hk) hg hm kp b .nil hx hdb
theorem pe_fnk {m : Nat} (c : FnK X.prog X.w X.K X.mg X.base CX k x n ks gV sp) (hr : Room j X.A) (hk : k ≤ j) (hg : Gl X x) (hx : Passes CX X E) (ha : PA X (e :: es) t) (hkw : PK X kws tk)
    (hall : (backToKw pos (keywordEach kws X.env)).all (·.1.isSome) = true := by rfl) (hks : (backToKw pos (keywordEach kws X.env)).filterMap (·.1) = ks := by rfl)
    (hdb : (x == ("__debug__" : Str)) = false := by decide) (he : starEach (e :: es) X.env = (false, eval e X.env) :: starEach es X.env := by rfl)
    (hpl : ((backTo pos (starEach (e :: es) X.env)).any (·.1) || (backToKw pos (keywordEach kws X.env)).any (·.1.isNone)) = false := by rfl) (hmm : ks.length = m := by rfl) : PE X (.Call (.Name x p) (e :: es) kws pos) (tCallN n m sp gV E t tk) := by
  obtain ⟨f, fd, ps, g, F, hm, kp, b⟩ := c.ex
  subst hmm
  exact pe_callN F (hr.mono hk) hg hm kp b hx ha hkw hall hks hdb he hpl
theorem pe_fnk0 {m : Nat} (c : FnK X.prog X.w X.K X.mg X.base CX k x 0 ks gV sp) (hr : Room j X.A) (hk : k ≤ j) (hg : Gl X x) (hx : Passes CX X E) (hkw : PK X kws tk)
    (hall : (backToKw pos (keywordEach kws X.env)).all (·.1.isSome) = true := by rfl) (hks : (backToKw pos (keywordEach kws X.env)).filterMap (·.1) = ks := by rfl)
    (hdb : (x == ("__debug__" : Str)) = false := by decide) (hpl : ((backTo pos (starEach [] X.env)).any (·.1) || (backToKw pos (keywordEach kws X.env)).any (·.1.isNone)) = false := by rfl) (hmm : ks.length = m := by rfl) :
    PE X (.Call (.Name x p) [] kws pos) (tCallN 0 m sp gV E tNil tk) := by
  obtain ⟨f, fd, ps, g, F, hm, kp, b⟩ := c.ex
  subst hmm
  refine ⟨fun pins s σ H Q I h => wpAny_Call_Name_kw (ld_glob I hg hm ?_ hdb)⟩
  refine PySem.W.callWith_KW0 (h₀ := X.base) I.mod.kin kp hall (thn (hkw.run pos pins s σ H _ I h) ?_) hpl
  rintro ws s2 ⟨zs, H2, I2, rz, l1, l2, q2⟩
  refine ⟨I2.kIn, ?_⟩
  rw [hks]
  exact run_fnN (us := []) (vs := []) F (hr.mono hk) b hx I2 .nil rz rfl l2 q2
end
/-! ### d.get(k, x), d a written dict -/
def rKget (K : Frag) (d : Addr) : V → V → V → Hp → VK → Prop := fun x y z H Q => ∃ (t : Str) (r : Option Value) (v : V), x = .ref d ∧ y = .str t ∧ PySem.W.nsIn K d t = some r ∧ (∀ u, r = some u → RelV v u) ∧ (r = none → v = z) ∧ Q v H
def tKget (K : Frag) (d : Addr) (td ty tz : TE) : TE := fun σ H Q => td σ H fun x H1 => x = .ref d ∧ ty σ H1 fun y H2 => tz σ H2 fun z H3 => rKget K d x y z H3 Q
section
variable {X : Cx} {d : Addr} {es : Array DictEntry} {n : Nat} {o e f : Expr} {apos cpos : Pos} {td ty tz : TE}
theorem pe_kget (D : KDict X.K X.w d es n) (ho : PE X o td) (he : PE X e ty) (hf : PE X f tz) (m : M2 X o "get" apos e f cpos) : PE X (.Call (.Attribute o "get" apos) [e, f] [] cpos) (tKget X.K d td ty tz) := by
  refine ⟨fun pins s σ H Q I h => ?_⟩
  refine wpAny_Call_method m.base m.few m.line PySem.F.plainAttrs_dict PySem.F.slot_dict_get PySem.F.type_dict_get ?_
  refine thn (ho.run pins s σ H _ I h) ?_
  rintro u s1 ⟨x, H1, I1, rx, ex, q1⟩
  subst ex
  obtain rfl : u = Value.ref d := rx
  have hM := PySem.W.mapOf_K (prog := X.prog) (w := X.w) I1.kIn D.at_ D.lit
  refine ⟨kd_type D I1, fun b q => ?_, ?_⟩
  · cases q
    exact ⟨_, I1.kIn _ _ D.at_, rfl⟩
  rw [m.trees]
  refine Calls.callWith_builtin rfl (Calls.evalArgs_plain (Calls.spliced_cons (thn (he.run pins s1 σ H1 _ I1 q1) ?_)))
  rintro iv s2 ⟨y, H2, I2, ry, q2⟩
  refine Calls.spliced_cons (thn (hf.run pins s2 σ H2 _ I2 q2) ?_)
  rintro fv s3 ⟨z, H3, I3, rz, t, r, v, _, ey, er, h1, h2, q3⟩
  subst ey
  obtain ⟨tk, rfl⟩ := ry
  refine Calls.spliced_nil ?_
  have hM3 := PySem.W.mapOf_K (prog := X.prog) (w := X.w) I3.kIn D.at_ D.lit
  refine call_meetsIn PySem.F.slot_dict_get (kd_type D I3) PySem.F.entry_dict_get (PySem.F.args_dict_get_3 _ _ _) (meets_dict_get_default (strKind X.prog X.w) d (PySem.strKind_is X.prog X.w t tk) D.low fv) ⟨_, hM3, ?_⟩
  rw [PySem.W.find_K D.at_ er]
  cases r with
  | none =>
    have ev := h2 rfl
    subst ev
    exact ⟨_, H3, I3.tok _, rz, q3⟩
  | some u0 => exact ⟨v, H3, I3.tok _, h1 u0 rfl, q3⟩
end
end Cm

set_option Elab.async false
set_option linter.all false
set_option maxRecDepth 100000
set_option maxHeartbeats 3000000
/-! Common part, 3: deep data over growing heaps; one step of a reading at a time. -/
namespace Cm
open L2 PySem PySem.Spec PyProof.Rows
section
variable {K : Frag} {H H' : Hp}
mutual
theorem dp_ex (e : Ex H H') : ∀ (d : PyData) (v : V), Dp K H v d → Dp K H' v d
  | .none, _, h => by cases h; exact .non
  | .bool b, _, h => by cases h; exact .bl b
  | .int i, _, h => by cases h; exact .int i
  | .str x, _, h => by cases h; exact .str x
  | .list ds, _, h => by
    cases h with
    | lst hs ha => exact .lst (Evl.ex_l e hs) (dpa_ex e ds _ ha)
  | .tuple ds, _, h => by
    cases h with
    | tup hs ha => exact .tup (Evl.ex_t e hs) (dpa_ex e ds _ ha)
  | .dict _, _, h => by cases h
theorem dpa_ex (e : Ex H H') : ∀ (ds : List PyData) (vs : List V), DpAll K H vs ds → DpAll K H' vs ds
  | [], _, h => by cases h; exact .nil
  | d :: ds, _, h => by
    cases h with
    | cons h1 h2 => exact .cons (dp_ex e d _ h1) (dpa_ex e ds _ h2)
end
theorem ex_get {a : Addr} {o : HO} (e : Ex H H') (h : H a = some o) : H' a = some o := e a o h
theorem ex_tr {H0 : Hp} (e : Ex H0 H) (f : Ex H H') : Ex H0 H' := Evl.Ex.trans e f
theorem up {v : V} {d : PyData} (e : Ex H H') (h : Dp K H v d) : Dp K H' v d := dp_ex e d v h
theorem dpa_len : ∀ {vs : List V} {ds : List PyData}, DpAll K H vs ds → vs.length = ds.length
  | _, _, .nil => rfl
  | _, _, .cons _ t => congrArg Nat.succ (dpa_len t)
theorem dpa_get : ∀ {vs : List V} {ds : List PyData} {i : Nat} {v : V}, DpAll K H vs ds → vs[i]? = some v → ∃ d, ds[i]? = some d ∧ Dp K H v d
  | _, _, _, _, .nil, e => by simp at e
  | _, _, 0, _, .cons h _, e => by
    simp at e
    subst e
    exact ⟨_, rfl, h⟩
  | _, _, i + 1, v, .cons _ t, e => by
    obtain ⟨d, h1, h2⟩ := dpa_get (i := i) (v := v) t (by simpa using e)
    exact ⟨d, by simpa using h1, h2⟩
theorem dpa_bools : ∀ (bs : List Bool), DpAll K H (bs.map V.bl) (bs.map PyData.bool)
  | [] => .nil
  | b :: bs => .cons (.bl b) (dpa_bools bs)
/-- a list, a tuple just made -/
theorem dp_lst {p : Addr} {xs : List V} {ds : List PyData} (h : H p = some (.lst xs)) (a : DpAll K H xs ds) : Dp K H (.ref p) (.list ds) := .lst (Evl.sq_of h) a
theorem dp_tup {p : Addr} {xs : List V} {ds : List PyData} (h : H p = some (.tup xs)) (a : DpAll K H xs ds) : Dp K H (.ref p) (.tuple ds) := .tup (Evl.st_of h) a
/-! ### kinds -/
def tyD : PyData → String
  | .none => "NoneType" | .bool _ => "bool" | .int _ => "int" | .str _ => "str" | .list _ => "list" | .tuple _ => "tuple" | .dict _ => "dict"
theorem tyx_lst {a : Addr} {xs : List V} (h : SqL K H a xs) : TyX K H (.ref a) (.type "list") := by
  rcases h with (h | ⟨o, h⟩) | ⟨o, its, n, h1, h2, _⟩
  · exact .base (.lst h)
  · exact .base (.frz h)
  · exact .kList h1 h2
theorem tyx_tup {a : Addr} {xs : List V} (h : SqT K H a xs) : TyX K H (.ref a) (.type "tuple") := by
  rcases h with (h | ⟨o, h⟩) | ⟨o, its, n, h1, h2, _⟩
  · exact .base (.tup h)
  · exact .fTuple h
  · exact .kTuple h1 h2
theorem tyx_of {v : V} {d : PyData} (h : Dp K H v d) : TyX K H v (.type (tyD d)) := by
  cases h with
  | non => exact .base .non
  | bl b => exact .base (.bl b)
  | int i => exact .base (.int i)
  | str x => exact .base (.str x)
  | lst hs _ => exact tyx_lst hs
  | tup hs _ => exact tyx_tup hs
/-- isinstance of such data, for the built-in classes that are asked -/
def isiD (d : PyData) (c : String) : Bool := tyD d == c || (c == "int" && tyD d == "bool")
theorem kit_d (K : Frag) {d : PyData} {c : String} (hc : c ∈ ["int", "bool", "str", "list", "tuple"]) : PySem.W.kitOne K (.type (tyD d)) (.type c) = some (isiD d c) := by
  have hd : tyD d ∈ ["NoneType", "bool", "int", "str", "list", "tuple", "dict"] := by cases d <;> simp [tyD]
  unfold isiD
  generalize tyD d = a at hd
  refine kit_ty ?_
  revert a c
  decide +kernel
end
/-! ### the steps -/
section
variable {K : Frag} {σ : L2.St} {H : Hp} {D : Ends} {ta tb tc te : TE} {t u : TS} {c c2 : TT} {g : TG} {w : TA} {i : Nat} {v x y z : V} {r r' : R2} {Q : VK} {QB : Bool → Hp → Prop} {QA : List V → Hp → Prop} {E : XK}
theorem g_seq (h : t { D with nx := u D } σ H) : tSeq t u D σ H := h
theorem g_asg (h : te σ H fun x H1 => D.nx (σ.set i (some x)) H1) : tAsg te (gName i) D σ H := h
theorem g_name {QS : L2.St → Hp → Prop} (q : QS (σ.set i (some v)) H) : gName i v σ H QS := q
theorem g_asgS (h : te σ H fun x H1 => ta σ H1 fun o H2 => tb σ H2 fun j H3 => rSetL o j x H3 fun H4 => D.nx σ H4) : tAsg te (gSub ta tb rSetL) D σ H := h
theorem g_ret (h : te σ H D.rt) : tRet te D σ H := h
theorem g_drop (h : te σ H fun _ H1 => D.nx σ H1) : tDrop te D σ H := h
theorem g_if (h : c σ H fun b H1 => if b = true then t D σ H1 else u D σ H1) : tIfS c t u D σ H := h
theorem g_next (h : D.nx σ H) : tNext D σ H := h
theorem g_par {j : Nat} (h : ta σ H fun x H1 => tb σ H1 fun y H2 => D.nx ((σ.set i (some x)).set j (some y)) H2) : tPar i j (tCons ta (tCons tb tNil)) D σ H := by
  show ta σ H fun x H1 => tb σ H1 fun y H2 => ∃ v w, [x, y] = [v, w] ∧ _
  have e : (fun x H1 => tb σ H1 fun y H2 => D.nx ((σ.set i (some x)).set j (some y)) H2) = (fun x H1 => tb σ H1 fun y H2 => ∃ v w, [x, y] = [v, w] ∧ D.nx ((σ.set i (some v)).set j (some w)) H2) := by
    funext x H1
    congr 1
    funext y H2
    refine propext ⟨fun h => ⟨x, y, rfl, h⟩, ?_⟩
    rintro ⟨v, w, e, h⟩
    simp only [List.cons.injEq, and_true] at e
    rw [e.1, e.2]
    exact h
  exact e ▸ h
theorem g_var (h : σ[i]? = some (some v)) (q : Q v H) : tVar i σ H Q := ⟨v, h, q⟩
theorem g_c (q : Q v H) : tC v σ H Q := q
theorem g_op (h : ta σ H fun x H1 => tb σ H1 fun y H2 => r x y H2 Q) : tOp r ta tb σ H Q := h
theorem g_un {f : V → Hp → VK → Prop} (h : ta σ H fun x H1 => f x H1 Q) : tUn f ta σ H Q := h
theorem g_test (h : ta σ H fun x H1 => ∃ k, x = .bl k ∧ QB k H1) : tTest ta σ H QB := h
theorem g_tB (h : ta σ H fun x H1 => ∃ k, x = .bl k ∧ QB k H1) : tB ta σ H QB := h
theorem g_k {k : Bool} (q : QB k H) : ∃ k', V.bl k = .bl k' ∧ QB k' H := ⟨k, rfl, q⟩
theorem g_not (h : c σ H fun b H1 => QB (!b) H1) : tNot c σ H QB := h
theorem g_and (h : c σ H fun b H1 => if b = true then c2 σ H1 QB else QB false H1) : tAnd c c2 σ H QB := h
theorem g_or (h : c σ H fun b H1 => if b = true then QB true H1 else c2 σ H1 QB) : tOr c c2 σ H QB := h
theorem g_andV (h : ta σ H fun x H1 => ∃ k, x = .bl k ∧ if k = true then tb σ H1 Q else Q (.bl false) H1) : tAndV ta tb σ H Q := h
theorem g_orV (h : ta σ H fun x H1 => ∃ k, x = .bl k ∧ if k = true then Q (.bl true) H1 else tb σ H1 Q) : tOrV ta tb σ H Q := h
theorem g_notV (h : ta σ H fun x H1 => ∃ k, x = .bl k ∧ Q (.bl (!k)) H1) : tNotV ta σ H Q := h
theorem g_kV {k : Bool} {P : Bool → Prop} (q : P k) : ∃ k', V.bl k = .bl k' ∧ P k' := ⟨k, rfl, q⟩
theorem g_ifE (h : c σ H fun b H1 => if b = true then ta σ H1 Q else tb σ H1 Q) : tIf c ta tb σ H Q := h
theorem g_chain (h : ta σ H fun x H1 => tb σ H1 fun y H2 => r x y H2 fun z H3 => ∃ k, z = .bl k ∧ (if k = true then tc σ H3 fun w' H4 => r' y w' H4 Q else Q (.bl false) H3)) : tChain r r' ta tb tc σ H Q := h
theorem g_cons (h : ta σ H fun x H1 => w σ H1 fun xs H2 => QA (x :: xs) H2) : tCons ta w σ H QA := h
theorem g_nil (q : QA [] H) : tNil σ H QA := q
def NewT (Q : VK) (xs : List V) (H : Hp) : Prop := xs.length ≤ sizeLine ∧ ∀ p, H p = none → Q (.ref p) (upd H p (.tup xs))
def NewL (Q : VK) (xs : List V) (H : Hp) : Prop := xs.length ≤ sizeLine ∧ ∀ p, H p = none → Q (.ref p) (upd H p (.lst xs))
theorem g_tup (h : w σ H (NewT Q)) : tTup w σ H Q := h
theorem g_lst (h : w σ H (NewL Q)) : tLst w σ H Q := h
theorem g_new1 {o : HO} (h : ∀ p H1, H p = none → Ex H H1 → H1 p = some o → Q (.ref p) H1) : ∀ p, H p = none → Q (.ref p) (upd H p o) :=
  fun p hp => h p _ hp (Evl.Ex.new hp) upd_same
theorem g_newL {xs : List V} (h : ∀ p H1, H p = none → Ex H H1 → H1 p = some (.lst xs) → Q (.ref p) H1) (hl : xs.length ≤ 100000 := by simp) : NewL Q xs H := ⟨Evl.sz_of hl, g_new1 h⟩
theorem g_newT {xs : List V} (h : ∀ p H1, H p = none → Ex H H1 → H1 p = some (.tup xs) → Q (.ref p) H1) (hl : xs.length ≤ 100000 := by simp) : NewT Q xs H := ⟨Evl.sz_of hl, g_new1 h⟩
theorem g_call {sp : Sp} (h : w σ H fun vs H1 => sp vs H1 Q E) : tCall sp [] E w σ H Q := by
  show w σ H fun vs H1 => sp (vs ++ []) H1 Q E
  simp only [List.append_nil]
  exact h
theorem g_callN {n m : Nat} {sp : Sp} {gV : List V → List V → List V} {wk : TA} (h : w σ H fun vs H1 => wk σ H1 fun zs H2 => vs.length = n ∧ zs.length = m ∧ sp (gV vs zs) H2 Q E) : tCallN n m sp gV E w wk σ H Q := h
theorem g_cb {f : List V → Hp → VK → Prop} (h : w σ H fun vs H1 => f vs H1 Q) : tCB f w σ H Q := h
theorem g_sl {f : V → Option Int → Option Int → Hp → VK → Prop} {tl th : TO} (h : ta σ H fun x H1 => tl σ H1 fun l H2 => th σ H2 fun u H3 => f x l u H3 Q) : tSl f ta tl th σ H Q := h
theorem g_noPart {QO : Option Int → Hp → Prop} (q : QO none H) : tNoPart σ H QO := q
theorem g_part {QO : Option Int → Hp → Prop} (h : ta σ H fun x H1 => ∃ i, x = .int i ∧ QO (some i) H1) : tPart ta σ H QO := h
theorem g_i {n : Int} {P : Int → Prop} (q : P n) : ∃ i, V.int n = .int i ∧ P i := ⟨n, rfl, q⟩
theorem g_bm {T : String} {f : V → List V → Hp → VK → Prop} (h : ta σ H fun x H1 => tyV K T x H1 ∧ w σ H1 fun xs H2 => f x xs H2 Q) : tBM K T f ta w σ H Q := h
/-! operations -/
theorem g_add {a b : Int} (q : Q (.int (a + b)) H) : xAdd K (.int a) (.int b) H Q := Or.inl ⟨a, b, rfl, rfl, q⟩
theorem g_cat {a b : Str} (hl : a.length + b.length ≤ sizeLine) (q : Q (.str (a ++ b)) H) : xAdd K (.str a) (.str b) H Q := Or.inr (Or.inl ⟨a, b, rfl, rfl, hl, q⟩)
theorem g_lcat {a b : Addr} {xs ys : List V} (ha : H a = some (.lst xs)) (hb : H b = some (.lst ys)) (hl : xs.length + ys.length ≤ sizeLine) (h : ∀ p H1, H p = none → Ex H H1 → H1 p = some (.lst (xs ++ ys)) → Q (.ref p) H1) : xAdd K (.ref a) (.ref b) H Q :=
  Or.inr (Or.inr (Or.inl ⟨a, b, xs, ys, rfl, rfl, ha, hb, hl, g_new1 h⟩))
theorem g_sub {a b : Int} (q : Q (.int (a - b)) H) : xSub (.int a) (.int b) H Q := ⟨a, b, rfl, rfl, q⟩
theorem g_mul {a b : Int} (hc : CMul a b) (q : Q (.int (a * b)) H) : xMul (.int a) (.int b) H Q := Or.inl ⟨a, b, rfl, rfl, hc, q⟩
theorem g_rep {a : Addr} {xs : List V} {k : Int} (ha : H a = some (.lst xs)) (h1 : 0 ≤ k) (h2 : k ≤ 100000) (h3 : xs.length ≤ 100) (h : ∀ p H1, H p = none → Ex H H1 → H1 p = some (.lst (List.replicate k.toNat xs).flatten) → Q (.ref p) H1) : xMul (.ref a) (.int k) H Q := by
  refine Or.inr ⟨a, k, xs, rfl, rfl, ha, by omega, by omega, ?_, g_new1 h⟩
  rw [sizeLine_eq]
  have h4 : xs.length * k.toNat ≤ 100 * 100000 := Nat.mul_le_mul h3 (by omega)
  omega
theorem g_div {a b : Int} (hb : 0 < b) (hw : b.natAbs.log2 < 9000) (q : Q (.int (a / b)) H) : xDiv (.int a) (.int b) H Q := ⟨a, b, rfl, rfl, ⟨hb, hw⟩, q⟩
theorem g_mod {a b : Int} (hb : 0 < b) (q : Q (.int (a % b)) H) : xMod (.int a) (.int b) H Q := ⟨a, b, rfl, rfl, hb, q⟩
theorem g_pow {a b : Int} (hc : CPow a b) (q : Q (.int (a ^ b.toNat)) H) : xPow (.int a) (.int b) H Q := ⟨a, b, rfl, rfl, hc, q⟩
theorem g_lt {a b : Int} (q : Q (.bl (decide (a < b))) H) : xLt (.int a) (.int b) H Q := ⟨a, b, rfl, rfl, q⟩
theorem g_le {a b : Int} (q : Q (.bl (decide (a ≤ b))) H) : xLe (.int a) (.int b) H Q := ⟨a, b, rfl, rfl, q⟩
theorem g_gt {a b : Int} (q : Q (.bl (decide (b < a))) H) : xGt (.int a) (.int b) H Q := ⟨a, b, rfl, rfl, q⟩
theorem g_ge {a b : Int} (q : Q (.bl (decide (b ≤ a))) H) : xGe (.int a) (.int b) H Q := ⟨a, b, rfl, rfl, q⟩
theorem g_neg {a : Int} (q : Q (.int (-a)) H) : rU (fun i => .int (-i)) (.int a) H Q := ⟨a, rfl, q⟩
theorem g_eq (hs : scal x y = true) (q : Q (.bl (decide (x = y))) H) : xEq K x y H Q := Or.inl ⟨hs, q⟩
theorem g_eqI {a b : Int} (q : Q (.bl (decide (a = b))) H) : xEq K (.int a) (.int b) H Q := Or.inl ⟨rfl, by
  have e : decide (V.int a = V.int b) = decide (a = b) := by simp
  rw [e]
  exact q⟩
theorem g_neI {a b : Int} (q : Q (.bl (!decide (a = b))) H) : xNe K (.int a) (.int b) H Q := Or.inl ⟨rfl, by
  have e : decide (V.int a = V.int b) = decide (a = b) := by simp
  rw [e]
  exact q⟩
theorem g_isN (q : Q (.bl (decide (x = .non))) H) : xIsN x .non H Q := ⟨rfl, q⟩
theorem g_int {a : Int} (q : Q (.int a) H) : rInt [.int a] H Q := Or.inl ⟨a, rfl, q⟩
theorem g_lenS {s : Str} (hl : s.length ≤ sizeLine) (q : Q (.int (s.length : Nat)) H) : rLn K [.str s] H Q := ⟨_, s.length, rfl, ⟨hl, rfl⟩, q⟩
theorem g_lenL {a : Addr} {xs : List V} (h : SqL K H a xs) (q : Q (.int (xs.length : Nat)) H) : rLn K [.ref a] H Q := ⟨_, xs.length, rfl, Or.inl ⟨xs, h, rfl⟩, q⟩
theorem g_lenT {a : Addr} {xs : List V} (h : SqT K H a xs) (q : Q (.int (xs.length : Nat)) H) : rLn K [.ref a] H Q := ⟨_, xs.length, rfl, Or.inr ⟨xs, h, rfl⟩, q⟩
theorem g_ixL {a : Addr} {xs : List V} {n : Int} (h : SqL K H a xs) (hi : atI xs n = some v) (q : Q v H) : rIx K (.ref a) (.int n) H Q := Or.inl ⟨a, xs, n, v, rfl, rfl, h, hi, q⟩
theorem g_ixT {a : Addr} {xs : List V} {n : Int} (h : SqT K H a xs) (hi : atI xs n = some v) (q : Q v H) : rIx K (.ref a) (.int n) H Q := Or.inr (Or.inl ⟨a, xs, n, v, rfl, rfl, h, hi, q⟩)
theorem g_ixS {s : Str} {n : Int} {k : Nat} (hl : s.length ≤ sizeLine) (hi : atI s.cps.toList n = some k) (q : Q (.str ⟨#[k]⟩) H) : rIx K (.str s) (.int n) H Q := Or.inr (Or.inr ⟨s, n, k, rfl, rfl, hl, hi, q⟩)
theorem g_setL {a : Addr} {xs : List V} {n : Int} {j : Nat} {P : Hp → Prop} (h : H a = some (.lst xs)) (hj : ixN xs.length n = some j) (q : P (upd H a (.lst (xs.set j x)))) : rSetL (.ref a) (.int n) x H P := ⟨a, xs, n, j, rfl, rfl, h, hj, q⟩
theorem g_isi {d : PyData} {cl : String} (h : Dp K H v d) (hc : cl ∈ ["int", "bool", "str", "list", "tuple"]) (q : Q (.bl (isiD d cl)) H) : rIsi K [v, .ty cl] H Q :=
  ⟨v, .ty cl, .type (tyD d), .type cl, isiD d cl, rfl, .ty cl, tyx_of h, kit_d K hc, q⟩
theorem g_list {a : Addr} {xs : List V} (h : SqL K H a xs ∨ SqT K H a xs) (q : ∀ p H1, H p = none → Ex H H1 → H1 p = some (.lst xs) → Q (.ref p) H1) : rList K [.ref a] H Q := ⟨a, xs, rfl, h, g_new1 q⟩
theorem g_inF {a : Addr} {xs : List V} (h : SqL K H a xs ∨ SqT K H a xs) (hx : flatV x = true) (hf : xs.all flatV = true) (q : Q (.bl (inV x xs)) H) : xIn K x (.ref a) H Q :=
  Or.inl ⟨a, xs, rfl, h, hx, hf, q⟩
theorem g_inD {d : PyData} {ds : List PyData} (h : Dp K H x d) (h2 : Dp K H y (.list ds)) (s1 : SeqAt.shaped d = true) (s2 : SeqAt.shaped (.list ds) = true) (q : Q (.bl (ds.any fun z => PyData.eqv z d)) H) : xIn K x y H Q :=
  Or.inr (Or.inl ⟨d, ds, h, h2, s1, s2, q⟩)
theorem g_iteB {b : Bool} {A B : Prop} (h1 : b = true → A) (h2 : b = false → B) : if b = true then A else B := by
  cases b with
  | true => exact iteT (h1 rfl)
  | false => exact iteF (h2 rfl)
end
end Cm

set_option Elab.async false
set_option linter.all false
set_option maxRecDepth 100000
set_option maxHeartbeats 3000000
/-! Common part, 3b: comprehensions and loops whose turns only make new things. -/
namespace Cm
open L2 PySem PySem.Spec PyProof.Rows RZ
/-- all but what stands at D is as it was -/
def ExB (D : Addr) (H H' : Hp) : Prop := ∀ a o, a ≠ D → H a = some o → H' a = some o
theorem ExB.of {D : Addr} {H H' : Hp} (e : Ex H H') : ExB D H H' := fun a o _ h => e a o h
theorem ExB.trans {D : Addr} {H H1 H2 : Hp} (e : ExB D H H1) (f : ExB D H1 H2) : ExB D H H2 := fun a o n h => f a o n (e a o n h)
theorem ExB.upd {D : Addr} {H : Hp} {o : HO} : ExB D H (upd H D o) := fun a u n h => by rw [upd_ne n]; exact h
theorem ExB.ex {D : Addr} {H H' : Hp} (e : ExB D H H') (h : H D = none) : Ex H H' := fun a o q => e a o (ne_of_none q h) q
/-- the i below n that f lets -/
def lets (n : Nat) (f : Nat → Bool) : List Nat := (List.range n).filter f
theorem lets_succ {n : Nat} {f : Nat → Bool} : lets (n + 1) f = lets n f ++ (if f n = true then [n] else []) := by
  unfold lets
  rw [List.range_succ, List.filter_append]
  congr 1
  by_cases h : f n = true
  · rw [if_pos h, List.filter_cons_of_pos h]
    rfl
  · rw [if_neg h, List.filter_cons_of_neg h]
    rfl
theorem lets_len (n : Nat) (f : Nat → Bool) : (lets n f).length ≤ n := by
  have h := List.length_filter_le f (List.range n)
  rw [List.length_range] at h
  exact h
theorem lets_all {n : Nat} {f : Nat → Bool} (h : ∀ i, i < n → f i = true) : lets n f = List.range n := List.filter_eq_self.mpr fun i hi => h i (List.mem_range.mp hi)
section
variable {J : It} {n : Nat} {G : Hp → Prop} {Y : Nat → Hp → V → Hp → Prop} {g : TG} {tt : TT} {te : TE} {vs : List Nat} {σ : L2.St} {H1 : Hp} {Q : VK}
/-- a comprehension over what J walks; a loop over it -/
def LcOn (J : It) (g : TG) (tt : TT) (te : TE) (vs : List Nat) (σ : L2.St) (Q : VK) (H1 : Hp) : Prop := tLc (fun _ _ R => R J H1) g tt te vs σ H1 Q
def ForOn (J : It) (g : TG) (tb : TS) (D : Ends) (σ : L2.St) (H1 : Hp) : Prop := tFor (fun _ _ R => R J H1) g tb D σ H1
theorem g_lc {wi : TI} {H : Hp} (h : wi σ H fun J H2 => LcOn J g tt te vs σ Q H2) : tLc wi g tt te vs σ H Q := h
theorem g_for {wi : TI} {tb : TS} {D : Ends} {H : Hp} (h : wi σ H fun J H2 => ForOn J g tb D σ H2) : tFor wi g tb D σ H := h
theorem for_on (w : Walk J n G Y) {tb : TS} {D : Ends} {H : Hp} (Pv : Nat → L2.St → Hp → Prop) (h0 : Pv 0 σ H) (hG : ∀ i σ H, i ≤ n → Pv i σ H → G H)
    (hs : ∀ i x σ H H', i < n → Pv i σ H → Y i H x H' → g x σ H' fun σ2 H2 => tb { D with nx := Pv (i + 1), ct := Pv (i + 1), bk := D.nx } σ2 H2) (hd : ∀ σ H, Pv n σ H → D.nx σ H) : ForOn J g tb D σ H := for_it w Pv h0 hG hs hd
/-- a comprehension that makes new things alone: its list told place by place -/
theorem lc_if (w : Walk J n G Y) (hn : n ≤ 100000) (hG : ∀ H', Ex H1 H' → G H') (f : Nat → Bool) (R : Addr → Nat → V → Hp → Prop) (hR : ∀ D i v H H', ExB D H H' → R D i v H → R D i v H')
    (hs : ∀ D i x H2 H3, H1 D = none → (∃ ys, H2 D = some (.lst ys)) → i < n → Ex H1 H2 → Y i H2 x H3 → 
      ∀ Nt : VK, (∀ y H5, f i = true → Ex H2 H5 → R D i y H5 → Nt y H5) → ∀ Nf : Hp → Prop, (∀ H5, f i = false → Ex H2 H5 → Nf H5) →
      g x (wipe σ vs) H3 fun σ2 H4 => wipe σ2 vs = wipe σ vs ∧ tt σ2 H4 fun b H5 => if b = true then te σ2 H5 Nt else Nf H5)
    (hd : ∀ D ys H', H1 D = none → Ex H1 H' → H' D = some (.lst ys) → ys.length = (lets n f).length → (∀ (j : Nat) (y : V), ys[j]? = some y → ∃ i, (lets n f)[j]? = some i ∧ R D i y H') → Q (.ref D) H') :
    LcOn J g tt te vs σ Q H1 := by
  intro D hD
  refine lc_it w (Qd := fun H' => Q (.ref D) H') (fun i H' => Ex H1 H' ∧ ∃ ys, H' D = some (.lst ys) ∧ ys.length = (lets i f).length ∧ ∀ (j : Nat) (y : V), ys[j]? = some y → ∃ k, (lets i f)[j]? = some k ∧ R D k y H')
    ⟨Evl.Ex.new hD, [], upd_same, rfl, fun j y e => by simp at e⟩ (fun i H' _ p => hG H' p.1) ?_ ?_
  · rintro i x H2 H3 hi ⟨e, ys, h1, h2, h3⟩ hy
    refine hs D i x H2 H3 hD ⟨ys, h1⟩ hi e hy _ ?_ _ ?_
    · intro y H5 hf e5 r
      refine ⟨ys, e5 _ _ h1, ?_, Evl.Ex.mut (e.trans e5) hD, ys ++ [y], upd_same, ?_, ?_⟩
      · have := lets_len i f
        rw [h2, sizeLine_eq]
        omega
      · rw [lets_succ, if_pos hf, List.length_append, List.length_append, h2]
        rfl
      · intro j y' q
        rw [lets_succ, if_pos hf]
        by_cases hj : j < ys.length
        · rw [List.getElem?_append_left hj] at q
          obtain ⟨k, k1, k2⟩ := h3 j y' q
          refine ⟨k, ?_, hR D k y' H2 _ (ExB.trans (ExB.of e5) ExB.upd) k2⟩
          rw [List.getElem?_append_left (by omega)]
          exact k1
        · have hj2 : j = ys.length := by
            have := (List.getElem?_eq_some_iff.mp q).1
            rw [List.length_append] at this
            simp only [List.length_cons, List.length_nil] at this
            omega
          subst hj2
          rw [List.getElem?_append_right (Nat.le_refl _), Nat.sub_self] at q
          have e6 : y = y' := by simpa using q
          subst e6
          refine ⟨i, ?_, hR D i y H5 _ ExB.upd r⟩
          rw [h2, List.getElem?_append_right (Nat.le_refl _), Nat.sub_self]
          rfl
    · intro H5 hf e5
      refine ⟨e.trans e5, ys, e5 _ _ h1, ?_, ?_⟩
      · rw [lets_succ, if_neg (by rw [hf]; decide), List.append_nil, h2]
      · intro j y q
        obtain ⟨k, k1, k2⟩ := h3 j y q
        refine ⟨k, ?_, hR D k y H2 _ (ExB.of e5) k2⟩
        rw [lets_succ, if_neg (by rw [hf]; decide), List.append_nil]
        exact k1
  · rintro H' ⟨e, ys, h1, h2, h3⟩
    exact hd D ys H' hD e h1 h2 h3
/-- without tests -/
theorem lc_all (w : Walk J n G Y) (hn : n ≤ 100000) (hG : ∀ H', Ex H1 H' → G H') (R : Addr → Nat → V → Hp → Prop) (hR : ∀ D i v H H', ExB D H H' → R D i v H → R D i v H')
    (hs : ∀ D i x H2 H3, H1 D = none → (∃ ys, H2 D = some (.lst ys)) → i < n → Ex H1 H2 → Y i H2 x H3 → ∀ Nt : VK, (∀ y H5, Ex H2 H5 → R D i y H5 → Nt y H5) →
      g x (wipe σ vs) H3 fun σ2 H4 => wipe σ2 vs = wipe σ vs ∧ te σ2 H4 Nt)
    (hd : ∀ D ys H', H1 D = none → Ex H1 H' → H' D = some (.lst ys) → ys.length = n → (∀ (i : Nat) (y : V), ys[i]? = some y → R D i y H') → Q (.ref D) H') :
    LcOn J g tYes te vs σ Q H1 := by
  refine lc_if w hn hG (fun _ => true) R hR (fun D i x H2 H3 h1 h2 h3 h4 h5 Nt hN Nf _ => hs D i x H2 H3 h1 h2 h3 h4 h5 Nt fun y H5 e r => hN y H5 rfl e r) fun D ys H' h1 h2 h3 h4 h5 => ?_
  have el : lets n (fun _ => true) = List.range n := lets_all fun _ _ => rfl
  rw [el] at h4 h5
  rw [List.length_range] at h4
  refine hd D ys H' h1 h2 h3 h4 fun i y q => ?_
  obtain ⟨k, k1, k2⟩ := h5 i y q
  have hlt := (List.getElem?_eq_some_iff.mp q).1
  rw [List.getElem?_range (by omega)] at k1
  cases k1
  exact k2
end
theorem walk_zipT {K : Frag} {a b : Addr} {xs ys : List V} {n : Nat} (hn : n = min xs.length ys.length) : Walk (ItzT K a b) n (fun H => SqT K H a xs ∧ SqT K H b ys) (YPair (fun i => xs[i]?) (fun i => ys[i]?)) := by
  subst hn
  constructor
  · intro i H hi q
    have h1 : i < xs.length := by omega
    have h2 : i < ys.length := by omega
    exact ⟨xs, ys, xs[i], ys[i], q.1, q.2, List.getElem?_eq_getElem h1, List.getElem?_eq_getElem h2⟩
  · intro H q
    exact ⟨xs, ys, q.1, q.2, by omega⟩
  · rintro i H v H' _ q ⟨T, x, z, h1, h2, h3, h4, h5⟩
    exact ⟨T, x, z, h1, h2, h3, h4 xs q.1, h5 ys q.2⟩
section
variable {K : Frag} {σ : L2.St} {H : Hp} {w : TA} {ta : TE} {R : It → Hp → Prop}
def ZipOn (K : Frag) (R : It → Hp → Prop) (vs : List V) (H : Hp) : Prop := iZipA K (fun _ H' Q => Q vs H') [] H R
theorem g_izip (h : w σ H (ZipOn K R)) : iZipA K w σ H R := h
theorem g_zipL {a b : Addr} {xs ys : List V} (h1 : SqL K H a xs) (h2 : SqL K H b ys) (h : R (Itz K a b) H) : ZipOn K R [.ref a, .ref b] H := ⟨a, b, xs, ys, rfl, Or.inl ⟨h1, h2, h⟩⟩
theorem g_zipT {a b : Addr} {xs ys : List V} (h1 : SqT K H a xs) (h2 : SqT K H b ys) (h : R (ItzT K a b) H) : ZipOn K R [.ref a, .ref b] H := ⟨a, b, xs, ys, rfl, Or.inr ⟨h1, h2, h⟩⟩
def RngOn (R : It → Hp → Prop) (vs : List V) (H : Hp) : Prop := iRng1 (fun _ H' Q => Q vs H') [] H R
theorem g_irng (h : w σ H (RngOn R)) : iRng1 w σ H R := h
theorem g_rng {n : Int} (h0 : 0 ≤ n) (hn : n ≤ 100000) (h : R (Itr 0 n.toNat) H) : RngOn R [.int n] H := ⟨n, rfl, by omega, by omega, h⟩
def LstOn (K : Frag) (R : It → Hp → Prop) (v : V) (H : Hp) : Prop := iList K (fun _ H' Q => Q v H') [] H R
theorem g_ilist (h : ta σ H (LstOn K R)) : iList K ta σ H R := h
theorem g_onL {a : Addr} {xs : List V} (h1 : SqL K H a xs) (h : R (Itl K a) H) : LstOn K R (.ref a) H := ⟨a, rfl, ⟨xs, h1⟩, h⟩
/-- a pair taken apart -/
theorem g_pair {i j : Nat} {T : Addr} {x y : V} {Q : L2.St → Hp → Prop} (h : SqT K H T [x, y]) (q : Q ((σ.set i (some x)).set j (some y)) H) : gTup K 2 (gCons (gName i) (gCons (gName j) gNil)) (.ref T) σ H Q :=
  ⟨T, [x, y], rfl, h, rfl, x, [y], rfl, y, [], rfl, rfl, q⟩
end
end Cm

set_option Elab.async false
set_option linter.all false
set_option maxRecDepth 100000
set_option maxHeartbeats 3000000
/-! Common part, 4: the helpers that all laws share: draws, kinds, equality of data. -/
local macro_rules | `(tactic| walk_at "one") => `(tactic| (with_reducible (first | refine Cm.g_seq ?_ | refine Cm.g_asg ?_ | refine Cm.g_asgS ?_ | refine Cm.g_ret ?_ | refine Cm.g_drop ?_ | refine Cm.g_if ?_ | refine Cm.g_next ?_ | refine Cm.g_par ?_ | refine Cm.g_c ?_ | refine Cm.g_op ?_ | refine Cm.g_un ?_ | refine Cm.g_test ?_ | refine Cm.g_tB ?_ | refine Cm.g_k ?_ | refine Cm.g_not ?_ | refine Cm.g_and ?_ | refine Cm.g_or ?_ | refine Cm.g_andV ?_ | refine Cm.g_orV ?_ | refine Cm.g_notV ?_ | refine Cm.g_kV ?_ | refine Cm.g_ifE ?_ | refine Cm.g_chain ?_ | refine Cm.g_cons ?_ | refine Cm.g_nil ?_ | refine Cm.g_tup ?_ | refine Cm.g_lst ?_ | refine Cm.g_call ?_ | refine Cm.g_callN ?_ | refine Cm.g_cb ?_ | refine Cm.g_sl ?_ | refine Cm.g_noPart ?_ | refine Cm.g_part ?_ | refine Cm.g_i ?_ | refine Cm.g_bm ?_ | refine Cm.g_name ?_ | refine Cm.g_lc ?_ | refine Cm.g_for ?_ | refine Cm.g_izip ?_ | refine Cm.g_irng ?_ | refine Cm.g_ilist ?_ | refine Cm.g_add ?_ | refine Cm.g_sub ?_ | refine Cm.g_lt ?_ | refine Cm.g_le ?_ | refine Cm.g_gt ?_ | refine Cm.g_ge ?_ | refine Cm.g_neg ?_ | refine Cm.g_eqI ?_ | refine Cm.g_neI ?_ | refine Cm.g_isN ?_ | refine Cm.g_int ?_ | (refine' Cm.g_var ?h1 ?_; (case h1 => with_unfolding_all rfl)))))
local macro_rules | `(tactic| walk_at "go") => `(tactic| (repeat (walk_at "one"; try dsimp only [List.set_cons_zero, List.set_cons_succ])))
namespace Cm
open L2 PySem PySem.Spec PyProof.Rows RZ
/-! ### promises -/
def sp_law_start (K : Frag) : Sp := fun vs H Q _ => ∃ (a : Addr) (ns : List Int), vs = [.ref a] ∧ SqL K H a (ns.map V.int) ∧ ns.length ≤ 63 ∧ ∀ b H', Ex H H' → Bag H' b → Q (.ref b) H'
def sp_law_pull (K : Frag) : Sp := fun vs H Q _ => ∃ (b : Addr) (n : Int), vs = [.ref b, .int n] ∧ Bag H b ∧ 0 < n ∧ n.natAbs.log2 < 9000 ∧ ∀ d : Int, 0 ≤ d → d < n → Q (.int d) H
def sp_law_pick (K : Frag) : Sp := fun vs H Q _ => ∃ (b : Addr) (y : V), vs = [.ref b, y] ∧ Bag H b ∧
  ((∃ l xs, y = .ref l ∧ SqL K H l xs ∧ xs ≠ [] ∧ xs.length ≤ 10000 ∧ ∀ x, x ∈ xs → Q x H) ∨ ∃ s : Str, y = .str s ∧ 0 < s.length ∧ s.length ≤ 10000 ∧ ∀ c, c ∈ s.cps.toList → Q (.str ⟨#[c]⟩) H)
def kindD : PyData → Int
  | .none => 0 | .bool _ => 1 | .int _ => 2 | .str _ => 3 | .list _ => 4 | .tuple _ => 5 | .dict _ => 6
def sp_law_kind (K : Frag) : Sp := fun vs H Q _ => ∃ v d, vs = [v] ∧ Dp K H v d ∧ ∀ H', Ex H H' → Q (.int (kindD d)) H'
/-- no deeper than n, no list too long -/
def fit : Nat → PyData → Prop
  | 0, .list _ => False
  | 0, .tuple _ => False
  | n + 1, .list ds => ds.length ≤ 100000 ∧ ∀ d ∈ ds, fit n d
  | n + 1, .tuple ds => ds.length ≤ 100000 ∧ ∀ d ∈ ds, fit n d
  | _, _ => True
def fit1 : Nat → PyData → Prop
  | 0, _ => False
  | n + 1, d => fit n d
def sp_law_same (K : Frag) (n : Nat) : Sp := fun vs H Q _ => ∃ v u d, vs = [v, u] ∧ Dp K H v d ∧ Dp K H u d ∧ fit1 n d ∧ ∀ H', Ex H H' → Q (.bl true) H'
def t_law_start (K : Frag) : TS := tSeal (tRet (tLst (tCons (tCB (rList K) (tCons (tSl (xSl K) (tVar 0) tNoPart (tPart (tC (.int 63)))) tNil)) (tCons (tC (.int 0)) (tCons (tC (.int 0)) (tCons (tOp (xAdd K) (tC (.int 10015)) (tCB (rLn K) (tCons (tVar 0) tNil))) (tCons (tC (.int 0)) tNil)))))))
def t_law_pull (K : Frag) : TS := tLook (Evl.tCut (tIfS (tAnd (tTest (tOp (xEq K) (tOp (rIx K) (tVar 0) (tC (.int 2))) (tC (.int 0)))) (tTest (tOp xLt (tOp (rIx K) (tVar 0) (tC (.int 1))) (tCB (rLn K) (tCons (tOp (rIx K) (tVar 0) (tC (.int 0))) tNil))))) (tSeq (tAsg (tOp (rIx K) (tOp (rIx K) (tVar 0) (tC (.int 0))) (tOp (rIx K) (tVar 0) (tC (.int 1)))) (gName 2)) (tSeq (tAsg (tOp (xAdd K) (tOp (rIx K) (tVar 0) (tC (.int 1))) (tC (.int 1))) (gSub (tVar 0) (tC (.int 1)) rSetL)) (tIfS (tTest (tOp xGe (tVar 2) (tOp xPow (tC (.int 10)) (tC (.int 18))))) (tAsg (tVar 2) (gSub (tVar 0) (tC (.int 2)) rSetL)) (tAsg (tOp xMod (tCB rInt (tCons (tOp (xAdd K) (tOp (xAdd K) (tOp xMul (tOp (rIx K) (tVar 0) (tC (.int 3))) (tC (.int 40039))) (tOp xMul (tOp xMod (tCB rInt (tCons (tVar 2) tNil)) (tC (.int 2147483477))) (tC (.int 6971)))) (tC (.int 41))) tNil)) (tC (.int 2147483587))) (gSub (tVar 0) (tC (.int 3)) rSetL))))) tNext) (tSeq (tIfS (tTest (tOp xGt (tOp (rIx K) (tVar 0) (tC (.int 2))) (tC (.int 0)))) (tSeq (tAsg (tOp xMod (tCB rInt (tCons (tOp (rIx K) (tVar 0) (tC (.int 2))) tNil)) (tVar 1)) (gName 3)) (tSeq (tAsg (tOp xDiv (tOp (rIx K) (tVar 0) (tC (.int 2))) (tVar 1)) (gSub (tVar 0) (tC (.int 2)) rSetL)) (tRet (tVar 3)))) tNext) (tSeq (tAsg (tOp (xAdd K) (tOp (rIx K) (tVar 0) (tC (.int 4))) (tC (.int 1))) (gSub (tVar 0) (tC (.int 4)) rSetL)) (tSeq (tAsg (tOp (rIx K) (tVar 0) (tC (.int 3))) (gName 4)) (tSeq (tAsg (tOp xMod (tCB rInt (tCons (tOp (xAdd K) (tOp (xAdd K) (tOp (xAdd K) (tOp xMul (tVar 4) (tVar 4)) (tOp xMul (tVar 4) (tC (.int 30059)))) (tOp xMul (tOp (rIx K) (tVar 0) (tC (.int 4))) (tC (.int 1299721)))) (tC (.int 80021))) tNil)) (tC (.int 2147483563))) (gSub (tVar 0) (tC (.int 3)) rSetL)) (tRet (tOp xMod (tCB rInt (tCons (tOp (xAdd K) (tOp xDiv (tOp (rIx K) (tVar 0) (tC (.int 3))) (tC (.int 61))) (tOp xMul (tOp xMod (tCB rInt (tCons (tOp (rIx K) (tVar 0) (tC (.int 3))) tNil)) (tC (.int 8039))) (tC (.int 53)))) tNil)) (tVar 1))))))))
def t_law_pick (K : Frag) : TS := (tRet (tOp (rIx K) (tVar 1) (tCall (sp_law_pull K) [] E0 (tCons (tVar 0) (tCons (tCB (rLn K) (tCons (tVar 1) tNil)) tNil)))))
def t_law_kind (K : Frag) : TS := (tSeq (tAsg (tLst (tCons (tOp xIsN (tVar 0) (tC .non)) (tCons (tCB (rIsi K) (tCons (tVar 0) (tCons (tC (.ty "bool")) tNil))) (tCons (tCB (rIsi K) (tCons (tVar 0) (tCons (tC (.ty "int")) tNil))) (tCons (tCB (rIsi K) (tCons (tVar 0) (tCons (tC (.ty "str")) tNil))) tNil))))) (gName 1)) (tSeq (tAsg (tOp (xAdd K) (tVar 1) (tLst (tCons (tCB (rIsi K) (tCons (tVar 0) (tCons (tC (.ty "list")) tNil))) (tCons (tCB (rIsi K) (tCons (tVar 0) (tCons (tC (.ty "tuple")) tNil))) (tCons (tC (.bl true)) tNil))))) (gName 1)) (tRet (tBM K "list" (rIndex K) (tVar 1) (tCons (tC (.bl true)) tNil)))))
def t_law_same (K : Frag) (nS : Nat) : TS := (tSeq (tIfS (tTest (tOp (xNe K) (tCall (sp_law_kind K) [] E0 (tCons (tVar 0) tNil)) (tCall (sp_law_kind K) [] E0 (tCons (tVar 1) tNil)))) (tRet (tC (.bl false))) tNext) (tSeq (tIfS (tTest (tOp (xIn K) (tCall (sp_law_kind K) [] E0 (tCons (tVar 1) tNil)) (tTup (tCons (tC (.int 4)) (tCons (tC (.int 5)) tNil))))) (tRet (tAndV (tOp (xEq K) (tCB (rLn K) (tCons (tVar 0) tNil)) (tCB (rLn K) (tCons (tVar 1) tNil))) (tCB (rAll K) (tCons (tLc (iZipA K (tCons (tVar 0) (tCons (tVar 1) tNil))) (gTup K 2 (gCons (gName 2) (gCons (gName 3) gNil))) tYes (tCall (sp_law_same K nS) [] E0 (tCons (tVar 2) (tCons (tVar 3) tNil))) [2, 3]) tNil)))) tNext) (tRet (tOp (xEq K) (tVar 0) (tVar 1)))))
/-! ### the bag's places -/
section
variable {K : Frag} {σ : L2.St} {H : Hp} {Q : VK} {P : Hp → Prop} {b c : Addr} {i r m k x : Int}
abbrev bagH (H : Hp) (b c : Addr) (i r m k : Int) : Hp := upd H b (.lst (bagL c i r m k))
theorem bag_at : SqL K (bagH H b c i r m k) b (bagL c i r m k) := Evl.sq_of upd_same
theorem b_get0 (q : Q (.ref c) (bagH H b c i r m k)) : rIx K (.ref b) (.int 0) (bagH H b c i r m k) Q := g_ixL bag_at rfl q
theorem b_get1 (q : Q (.int i) (bagH H b c i r m k)) : rIx K (.ref b) (.int 1) (bagH H b c i r m k) Q := g_ixL bag_at rfl q
theorem b_get2 (q : Q (.int r) (bagH H b c i r m k)) : rIx K (.ref b) (.int 2) (bagH H b c i r m k) Q := g_ixL bag_at rfl q
theorem b_get3 (q : Q (.int m) (bagH H b c i r m k)) : rIx K (.ref b) (.int 3) (bagH H b c i r m k) Q := g_ixL bag_at rfl q
theorem b_get4 (q : Q (.int k) (bagH H b c i r m k)) : rIx K (.ref b) (.int 4) (bagH H b c i r m k) Q := g_ixL bag_at rfl q
theorem b_set {n : Int} {j : Nat} {i' r' m' k' : Int} (hj : ixN 5 n = some j) (e : (bagL c i r m k).set j (.int x) = bagL c i' r' m' k') (q : P (bagH H b c i' r' m' k')) : rSetL (.ref b) (.int n) (.int x) (bagH H b c i r m k) P := by
  refine g_setL upd_same hj ?_
  rw [upd_upd, e]
  exact q
theorem b_set1 (q : P (bagH H b c x r m k)) : rSetL (.ref b) (.int 1) (.int x) (bagH H b c i r m k) P := b_set rfl rfl q
theorem b_set2 (q : P (bagH H b c i x m k)) : rSetL (.ref b) (.int 2) (.int x) (bagH H b c i r m k) P := b_set rfl rfl q
theorem b_set3 (q : P (bagH H b c i r x k)) : rSetL (.ref b) (.int 3) (.int x) (bagH H b c i r m k) P := b_set rfl rfl q
theorem b_set4 (q : P (bagH H b c i r m x)) : rSetL (.ref b) (.int 4) (.int x) (bagH H b c i r m k) P := b_set rfl rfl q
theorem b_shut (hb : H b = some (.ext (bagP c b))) (hk : bagOk i r m k) (q : P H) : shut c b P (bagH H b c i r m k) := by
  refine ⟨i, r, m, k, hk, upd_same, ?_⟩
  rw [upd_upd, upd_self hb]
  exact q
end
local macro_rules | `(tactic| walk_at "bag") => `(tactic| (with_reducible (first | refine b_get0 ?_ | refine b_get1 ?_ | refine b_get2 ?_ | refine b_get3 ?_ | refine b_get4 ?_ | refine b_set1 ?_ | refine b_set2 ?_ | refine b_set3 ?_ | refine b_set4 ?_ | walk_at "one")))
local macro_rules | `(tactic| walk_at "gob") => `(tactic| (repeat (walk_at "bag"; try dsimp only [List.set_cons_zero, List.set_cons_succ])))
theorem cell_at {cs : List Int} {i : Int} (h0 : 0 ≤ i) (h1 : i < ((cs.map V.int).length : Nat)) : ∃ z : Int, atI (cs.map V.int) i = some (.int z) := by
  have e : (i.toNat : Int) = i := Int.toNat_of_nonneg h0
  have hl : i.toNat < cs.length := by
    rw [List.length_map] at h1
    omega
  have g : atI (cs.map V.int) ((i.toNat : Nat) : Int) = some (.int cs[i.toNat]) := atI_nat (by rw [List.getElem?_map, List.getElem?_eq_getElem hl]; rfl)
  rw [e] at g
  exact ⟨_, g⟩
theorem small_log {n : Int} (h : 0 < n) (h2 : n < 2 ^ 40) : n.natAbs.log2 < 9000 := by
  have h3 : n.natAbs < 2 ^ 40 := by omega
  have h4 := (Nat.log2_lt (by omega)).mpr h3
  omega
theorem ten18 : ((10 : Int) ^ (18 : Int).toNat) = 1000000000000000000 := by decide +kernel
theorem pure_law_pull {K : Frag} (vs : List V) (H : Hp) (Q : VK) (E : XK) (h : sp_law_pull K vs H Q E) : t_law_pull K ⟨fun _ H' => Q .non H', Q, fun _ _ => False, fun _ _ => False⟩ (start ["bag", "size", "cell", "digit", "seed"] vs) H := by
  obtain ⟨b, n, rfl, ⟨c, cs, hb, hc, hl⟩, hn, hw, q⟩ := h
  refine ⟨b, c, hb, fun i r m k hk => ?_⟩
  have nbc : c ≠ b := ne_of hc hb (by intro z; cases z)
  have hcL : ∀ i r m k, SqL K (bagH H b c i r m k) c (cs.map V.int) := fun i r m k => Evl.sq_of (by show upd H b _ c = _; rw [upd_ne nbc]; exact hc)
  obtain ⟨k1, k2, k3, k4, k5⟩ := hk
  refine ⟨fun σ' H' => ∃ i r m k o, bagOk i r m k ∧ σ' = [some (.ref b), some (.int n), o, none, none] ∧ H' = bagH H b c i r m k, ?_, ?_⟩
  rotate_left
  · rintro σ' H' ⟨i, r, m, k, o, hk, rfl, rfl⟩
    obtain ⟨k1, k2, k3, k4, k5⟩ := hk
    walk_at "gob"
    refine g_iteB (fun h1 => ?_) (fun h1 => ?_)
    · walk_at "gob"
      refine g_mod hn ?_
      walk_at "gob"
      refine g_div hn hw ?_
      walk_at "gob"
      refine b_shut hb ⟨k1, Int.ediv_nonneg k2 (by omega), k3, k4, k5⟩ (q _ (Int.emod_nonneg _ (by omega)) (Int.emod_lt_of_pos _ hn))
    · walk_at "gob"
      refine g_mul (Or.inl (by omega)) ?_
      walk_at "gob"
      refine g_mul (Or.inl (by omega)) ?_
      walk_at "gob"
      refine g_mul (Or.inr (by omega)) ?_
      walk_at "gob"
      refine g_mod (by omega) ?_
      walk_at "gob"
      have e1 := Int.emod_nonneg (m * m + m * 30059 + (k + 1) * 1299721 + 80021) (b := 2147483563) (by omega)
      have e2 := Int.emod_lt_of_pos (m * m + m * 30059 + (k + 1) * 1299721 + 80021) (b := 2147483563) (by omega)
      generalize (m * m + m * 30059 + (k + 1) * 1299721 + 80021) % 2147483563 = z at e1 e2
      refine g_div (by omega) (small_log (by omega) (by omega)) ?_
      walk_at "gob"
      refine g_mod (by omega) ?_
      walk_at "gob"
      refine g_mul (Or.inr (by omega)) ?_
      walk_at "gob"
      refine g_mod hn ?_
      walk_at "gob"
      exact b_shut hb ⟨k1, k2, e1, by omega, by omega⟩ (q _ (Int.emod_nonneg _ (by omega)) (Int.emod_lt_of_pos _ hn))
  show tIfS _ _ _ _ [some (.ref b), some (.int n), none, none, none] (bagH H b c i r m k)
  walk_at "gob"
  refine g_iteB (fun h1 => ?_) (fun h1 => ?_)
  · walk_at "gob"
    refine g_lenL (hcL _ _ _ _) ?_
    walk_at "gob"
    refine g_iteB (fun h2 => ?_) (fun h2 => ?_)
    · obtain ⟨z, hz⟩ := cell_at k1 (of_decide_eq_true h2)
      walk_at "gob"
      refine g_ixL (hcL _ _ _ _) hz ?_
      walk_at "gob"
      refine g_pow ⟨by decide, by decide, by decide⟩ ?_
      walk_at "gob"
      refine g_iteB (fun h3 => ?_) (fun h3 => ?_)
      · have h4 := of_decide_eq_true h3
        rw [ten18] at h4
        walk_at "gob"
        refine ⟨_, _, _, _, _, ?_, rfl, rfl⟩
        exact ⟨by omega, by omega, k3, k4, k5⟩
      · walk_at "gob"
        refine g_mul (Or.inl (by omega)) ?_
        walk_at "gob"
        refine g_mod (by omega) ?_
        walk_at "gob"
        refine g_mul (Or.inr (by omega)) ?_
        walk_at "gob"
        refine g_mod (by omega) ?_
        walk_at "gob"
        refine ⟨_, _, _, _, _, ?_, rfl, rfl⟩
        exact ⟨by omega, k2, by omega, by omega, k5⟩
    · walk_at "gob"
      refine ⟨_, _, _, _, _, ?_, rfl, rfl⟩
      exact ⟨k1, k2, k3, k4, k5⟩
  · walk_at "gob"
    refine ⟨_, _, _, _, _, ?_, rfl, rfl⟩
    exact ⟨k1, k2, k3, k4, k5⟩
/-! ### the start -/
section
variable {K : Frag} {H : Hp} {Q : VK}
theorem g_slL {a : Addr} {xs : List V} {lo hi : Option Int} (h : SqL K H a xs) (q : ∀ p H1, H p = none → Ex H H1 → H1 p = some (.lst (cutV xs lo hi)) → Q (.ref p) H1) : xSl K (.ref a) lo hi H Q :=
  Or.inl ⟨a, xs, rfl, h, g_new1 q⟩
theorem g_slS {z : Str} {lo hi : Option Int} (hl : z.length ≤ sizeLine) (q : Q (.str (cutS z lo hi)) H) : xSl K (.str z) lo hi H Q := Or.inr (Or.inr ⟨z, rfl, hl, q⟩)
end
theorem cut_map {ns : List Int} {lo hi : Option Int} : ∃ cs : List Int, cutV (ns.map V.int) lo hi = cs.map V.int ∧ cs.length ≤ ns.length := by
  unfold cutV
  rw [← List.map_drop, ← List.map_take]
  exact ⟨_, rfl, by rw [List.length_take, List.length_drop]; omega⟩
theorem sz5 {n : Nat} (h : n ≤ 100000) : n ≤ sizeLine := Evl.sz_of h
theorem pure_law_start {K : Frag} (vs : List V) (H : Hp) (Q : VK) (E : XK) (h : sp_law_start K vs H Q E) : t_law_start K ⟨fun _ H' => Q .non H', Q, fun _ _ => False, fun _ _ => False⟩ (start ["script"] vs) H := by
  obtain ⟨a, ns, rfl, hS, hl, q⟩ := h
  show tRet _ _ [some (.ref a)] H
  walk_at "go"
  refine g_slL hS fun p H1 hp e1 h1 => ?_
  walk_at "go"
  refine g_list (Or.inl (Evl.sq_of h1)) fun l H2 hl2 e2 h2 => ?_
  walk_at "go"
  refine g_lenL (Evl.ex_l (e1.trans e2) hS) ?_
  walk_at "go"
  refine g_newL fun b H3 hb e3 h3 => ?_
  obtain ⟨cs, hc, hcl⟩ := cut_map (ns := ns) (lo := none) (hi := some 63)
  rw [hc] at h2
  rw [List.length_map] at h3
  have nlb : l ≠ b := ne_of_none h2 hb
  have hb0 : H b = none := Evl.fresh_back (e1.trans e2) hb
  refine ⟨b, l, rfl, 0, 0, _, 0, ⟨by decide, by decide, ?_, ?_, by decide⟩, h3, ?_⟩
  · omega
  · omega
  · refine q b _ (Evl.Ex.mut ((e1.trans e2).trans e3) hb0) ⟨l, cs, upd_same, ?_, by omega⟩
    rw [upd_ne nlb]
    exact e3 _ _ h2
theorem pure_law_pick {K : Frag} (vs : List V) (H : Hp) (Q : VK) (E : XK) (h : sp_law_pick K vs H Q E) : t_law_pick K ⟨fun _ H' => Q .non H', Q, fun _ _ => False, fun _ _ => False⟩ (start ["bag", "some"] vs) H := by
  obtain ⟨b, y, rfl, hB, h⟩ := h
  show tRet _ _ [some (.ref b), some y] H
  walk_at "go"
  rcases h with ⟨l, xs, rfl, hx, hne, hl, q⟩ | ⟨s, rfl, h0, hl, q⟩
  · have hp : 0 < xs.length := List.length_pos_iff.mpr hne
    refine g_lenL hx ?_
    walk_at "go"
    refine ⟨b, _, rfl, hB, by omega, small_log (by omega) (by omega), fun d d0 d1 => ?_⟩
    have e : (d.toNat : Int) = d := Int.toNat_of_nonneg d0
    have hd : d.toNat < xs.length := by omega
    refine g_ixL (v := xs[d.toNat]) hx ?_ (q _ (List.getElem_mem hd))
    have g : atI xs ((d.toNat : Nat) : Int) = some xs[d.toNat] := atI_nat (List.getElem?_eq_getElem hd)
    rw [e] at g
    exact g
  · refine g_lenS (sz5 (by omega)) ?_
    walk_at "go"
    refine ⟨b, _, rfl, hB, by omega, small_log (by omega) (by omega), fun d d0 d1 => ?_⟩
    have e : (d.toNat : Int) = d := Int.toNat_of_nonneg d0
    have hd : d.toNat < s.cps.toList.length := by
      have : s.length = s.cps.toList.length := by show s.cps.size = _; simp
      omega
    refine g_ixS (k := s.cps.toList[d.toNat]) (sz5 (by omega)) ?_ (q _ (List.getElem_mem hd))
    have g : atI s.cps.toList ((d.toNat : Nat) : Int) = some s.cps.toList[d.toNat] := atI_nat (List.getElem?_eq_getElem hd)
    rw [e] at g
    exact g
/-! ### kinds -/
theorem g_indexT {K : Frag} {H : Hp} {Q : VK} {p : Addr} {bs : List Bool} {j : Nat} (h : H p = some (.lst (bs.map V.bl))) (hj : bs[j]? = some true) (hn : ∀ m : Nat, m < j → bs[m]? = some false) (q : Q (.int (j : Nat)) H) :
    rIndex K (.ref p) [.bl true] H Q := by
  refine ⟨p, bs.map V.bl, .bl true, j, .bl true, rfl, rfl, Evl.sq_of h, rfl, ?_, ?_, rfl, fun m z hm hz => ?_, q⟩
  · rw [List.all_eq_true]
    intro x hx
    obtain ⟨b, _, rfl⟩ := List.mem_map.mp hx
    rfl
  · rw [List.getElem?_map, hj]
    rfl
  · rw [List.getElem?_map, hn m hm] at hz
    cases hz
    rfl
theorem pure_law_kind {K : Frag} (vs : List V) (H : Hp) (Q : VK) (E : XK) (h : sp_law_kind K vs H Q E) : t_law_kind K ⟨fun _ H' => Q .non H', Q, fun _ _ => False, fun _ _ => False⟩ (start ["thing", "marks"] vs) H := by
  obtain ⟨v, d, rfl, hd, q⟩ := h
  show tSeq _ _ _ [some v, none] H
  walk_at "go"
  refine g_isi hd (by decide) ?_
  walk_at "go"
  refine g_isi hd (by decide) ?_
  walk_at "go"
  refine g_isi hd (by decide) ?_
  walk_at "go"
  refine g_newL fun p H1 hp e1 h1 => ?_
  walk_at "go"
  refine g_isi (up e1 hd) (by decide) ?_
  walk_at "go"
  refine g_isi (up e1 hd) (by decide) ?_
  walk_at "go"
  refine g_newL fun p2 H2 hp2 e2 h2 => ?_
  walk_at "go"
  refine g_lcat (e2 _ _ h1) h2 (sz5 (by simp)) fun p3 H3 hp3 e3 h3 => ?_
  walk_at "go"
  refine ⟨Or.inl ⟨rfl, _, Evl.sq_of h3⟩, ?_⟩
  walk_at "go"
  have e := (e1.trans e2).trans e3
  have h4 : H3 p3 = some (.lst ([decide (v = .non), isiD d "bool", isiD d "int", isiD d "str", isiD d "list", isiD d "tuple", true].map V.bl)) := h3
  have ek : ∀ j : Nat, (j : Int) = kindD d → Q (.int (j : Int)) H3 := fun j hj => by
    rw [hj]
    exact q H3 e
  cases hd with
  | non => exact g_indexT (j := 0) h4 (by simp) (fun m hm => absurd hm (by omega)) (ek 0 rfl)
  | bl b => exact g_indexT (j := 1) h4 (by simp [isiD, tyD]) (fun m hm => by rcases (by omega : m = 0 ∨ m = 0) with rfl | rfl <;> simp) (ek 1 rfl)
  | int i => exact g_indexT (j := 2) h4 (by simp [isiD, tyD]) (fun m hm => by rcases (by omega : m = 0 ∨ m = 1) with rfl | rfl <;> simp [isiD, tyD]) (ek 2 rfl)
  | str x => exact g_indexT (j := 3) h4 (by simp [isiD, tyD]) (fun m hm => by rcases (by omega : m = 0 ∨ m = 1 ∨ m = 2) with rfl | rfl | rfl <;> simp [isiD, tyD]) (ek 3 rfl)
  | lst hs ha => exact g_indexT (j := 4) h4 (by simp [isiD, tyD]) (fun m hm => by rcases (by omega : m = 0 ∨ m = 1 ∨ m = 2 ∨ m = 3) with rfl | rfl | rfl | rfl <;> simp [isiD, tyD]) (ek 4 rfl)
  | tup hs ha => exact g_indexT (j := 5) h4 (by simp [isiD, tyD]) (fun m hm => by rcases (by omega : m = 0 ∨ m = 1 ∨ m = 2 ∨ m = 3 ∨ m = 4) with rfl | rfl | rfl | rfl | rfl <;> simp [isiD, tyD]) (ek 5 rfl)
/-! ### two things the same -/
theorem all_true {ys : List V} {n : Nat} (h : ∀ (i : Nat) (y : V), ys[i]? = some y → y = .bl true) : ∃ bs : List Bool, ys = bs.map V.bl ∧ bs.all id = true := by
  induction ys generalizing n with
  | nil => exact ⟨[], rfl, rfl⟩
  | cons y ys ih =>
    obtain ⟨bs, e1, e2⟩ := ih (n := n) fun i z hz => h (i + 1) z (by simpa using hz)
    exact ⟨true :: bs, by rw [h 0 y rfl, e1]; rfl, by simpa using e2⟩
theorem g_all {K : Frag} {H : Hp} {Q : VK} {p : Addr} {ys : List V} (h : H p = some (.lst ys)) (ht : ∀ (i : Nat) (y : V), ys[i]? = some y → y = .bl true) (q : Q (.bl true) H) : rAll K [.ref p] H Q := by
  obtain ⟨bs, e1, e2⟩ := all_true (n := 0) ht
  refine ⟨p, bs, rfl, Evl.sq_of (by rw [h, e1]), ?_⟩
  rw [e2]
  exact q
theorem pure_law_same {K : Frag} (n : Nat) (vs : List V) (H : Hp) (Q : VK) (E : XK) (h : sp_law_same K (n + 1) vs H Q E) : t_law_same K n ⟨fun _ H' => Q .non H', Q, fun _ _ => False, fun _ _ => False⟩ (start ["found", "due", "a", "b"] vs) H := by
  obtain ⟨v, u, d, rfl, hv, hu, hd, q⟩ := h
  show tSeq _ _ _ [some v, some u, none, none] H
  walk_at "go"
  refine ⟨v, d, rfl, hv, fun H1 e1 => ?_⟩
  walk_at "go"
  refine ⟨u, d, rfl, up e1 hu, fun H2 e2 => ?_⟩
  walk_at "go"
  refine g_iteB (fun h1 => by simp at h1) (fun _ => ?_)
  walk_at "go"
  refine ⟨u, d, rfl, up (e1.trans e2) hu, fun H3 e3 => ?_⟩
  walk_at "go"
  refine g_newT fun p H4 hp e4 h4 => ?_
  have e := ((e1.trans e2).trans e3).trans e4
  refine g_inF (Or.inr (Evl.st_of h4)) rfl rfl ?_
  walk_at "go"
  cases hv with
  | non =>
    cases hu
    refine g_iteB (fun h => absurd h (by simp [inV, eqV, kindD])) (fun _ => ?_)
    walk_at "go"
    refine g_eq rfl ?_
    simpa using q H4 e
  | bl b =>
    cases hu
    refine g_iteB (fun h => absurd h (by simp [inV, eqV, kindD])) (fun _ => ?_)
    walk_at "go"
    refine g_eq rfl ?_
    simpa using q H4 e
  | int b =>
    cases hu
    refine g_iteB (fun h => absurd h (by simp [inV, eqV, kindD])) (fun _ => ?_)
    walk_at "go"
    simpa using q H4 e
  | str b =>
    cases hu
    refine g_iteB (fun h => absurd h (by simp [inV, eqV, kindD])) (fun _ => ?_)
    walk_at "go"
    refine g_eq rfl ?_
    simpa using q H4 e
  | @lst a xs ds hs ha =>
    cases hu with
    | @lst b ys _ hs2 ha2 =>
     cases n with
     | zero => exact hd.elim
     | succ n =>
      have l1 := dpa_len ha
      have l2 := dpa_len ha2
      refine g_iteB (fun _ => ?_) (fun h => absurd h (by simp [inV, eqV, kindD]))
      walk_at "go"
      refine g_lenL (Evl.ex_l e hs) ?_
      walk_at "go"
      refine g_lenL (Evl.ex_l e hs2) ?_
      walk_at "go"
      refine g_iteB (fun _ => ?_) (fun h => absurd h (by simp; omega))
      walk_at "go"
      refine g_zipL (Evl.ex_l e hs) (Evl.ex_l e hs2) ?_
      refine lc_all (walk_zip (xs := xs) (ys := ys) (n := xs.length) (by omega)) (by rw [l1]; exact hd.1) (fun H' e' => ⟨Evl.ex_l (e.trans e') hs, Evl.ex_l (e.trans e') hs2⟩) (fun _ _ y _ => y = .bl true) (fun _ _ _ _ _ _ h => h) ?_ ?_
      · rintro Dd i x H5 H6 _ _ hi e5 ⟨T, x1, y1, rfl, hT, rfl, hx, hy⟩ Nt hN
        refine g_pair (Evl.st_of upd_same) ⟨rfl, ?_⟩
        obtain ⟨d1, q1, r1⟩ := dpa_get ha hx
        obtain ⟨d2, q2, r2⟩ := dpa_get ha2 hy
        rw [q1] at q2
        cases q2
        walk_at "go"
        refine ⟨x1, y1, d1, rfl, up ((e.trans e5).trans (Evl.Ex.new hT)) r1, up ((e.trans e5).trans (Evl.Ex.new hT)) r2, hd.2 _ (List.mem_of_getElem? q1), fun H7 e7 => hN _ H7 ((Evl.Ex.new hT).trans e7) rfl⟩
      · intro Dd ys' H5 _ e5 h5 _ hys
        walk_at "go"
        exact g_all h5 hys (q H5 (e.trans e5))
  | @tup a xs ds hs ha =>
    cases hu with
    | @tup b ys _ hs2 ha2 =>
     cases n with
     | zero => exact hd.elim
     | succ n =>
      have l1 := dpa_len ha
      have l2 := dpa_len ha2
      refine g_iteB (fun _ => ?_) (fun h => absurd h (by simp [inV, eqV, kindD]))
      walk_at "go"
      refine g_lenT (Evl.ex_t e hs) ?_
      walk_at "go"
      refine g_lenT (Evl.ex_t e hs2) ?_
      walk_at "go"
      refine g_iteB (fun _ => ?_) (fun h => absurd h (by simp; omega))
      walk_at "go"
      refine g_zipT (Evl.ex_t e hs) (Evl.ex_t e hs2) ?_
      refine lc_all (walk_zipT (xs := xs) (ys := ys) (n := xs.length) (by omega)) (by rw [l1]; exact hd.1) (fun H' e' => ⟨Evl.ex_t (e.trans e') hs, Evl.ex_t (e.trans e') hs2⟩) (fun _ _ y _ => y = .bl true) (fun _ _ _ _ _ _ h => h) ?_ ?_
      · rintro Dd i x H5 H6 _ _ hi e5 ⟨T, x1, y1, rfl, hT, rfl, hx, hy⟩ Nt hN
        refine g_pair (Evl.st_of upd_same) ⟨rfl, ?_⟩
        obtain ⟨d1, q1, r1⟩ := dpa_get ha hx
        obtain ⟨d2, q2, r2⟩ := dpa_get ha2 hy
        rw [q1] at q2
        cases q2
        walk_at "go"
        refine ⟨x1, y1, d1, rfl, up ((e.trans e5).trans (Evl.Ex.new hT)) r1, up ((e.trans e5).trans (Evl.Ex.new hT)) r2, hd.2 _ (List.mem_of_getElem? q1), fun H7 e7 => hN _ H7 ((Evl.Ex.new hT).trans e7) rfl⟩
      · intro Dd ys' H5 _ e5 h5 _ hys
        walk_at "go"
        exact g_all h5 hys (q H5 (e.trans e5))
end Cm

set_option Elab.async false
set_option linter.all false
set_option maxRecDepth 100000
set_option maxHeartbeats 3000000
/-! Common part, 5: numbers and harms. -/
namespace Cm
open L2 PySem PySem.Spec PyProof.Rows RZ
def isIntD : PyData → Bool
  | .int _ => true
  | _ => false
def isNumD (d : PyData) (lo hi : Int) : Bool := match d with
  | .int i => decide (lo ≤ i) && decide (i ≤ hi)
  | _ => false
def sp_is_integer (K : Frag) : Sp := fun vs H Q _ => ∃ v d, vs = [v] ∧ Dp K H v d ∧ ∀ H', Ex H H' → Q (.bl (isIntD d)) H'
def sp_is_number (K : Frag) : Sp := fun vs H Q _ => ∃ v d lo hi, vs = [v, .int lo, .int hi] ∧ Dp K H v d ∧ ∀ H', Ex H H' → Q (.bl (isNumD d lo hi)) H'
def harmN (t : Str) : Int := if t = "in" ∨ t = "halt" then 1 else if t = "bare" ∨ t = "long" then 2 else 0
def isHarmD : PyData → Bool
  | .tuple [.str t] => harmN t == 1
  | .tuple [.str t, n] => harmN t == 2 && isNumD n 0 1000000
  | _ => false
def sp_is_harm (K : Frag) : Sp := fun vs H Q _ => ∃ v d, vs = [v] ∧ Dp K H v d ∧ SeqAt.shaped d = true ∧ fit 9 d ∧ ∀ H', Ex H H' → Q (.bl (isHarmD d)) H'
def t_is_integer (K : Frag) : TS := (tRet (tAndV (tCB (rIsi K) (tCons (tVar 0) (tCons (tC (.ty "int")) tNil))) (tNotV (tCB (rIsi K) (tCons (tVar 0) (tCons (tC (.ty "bool")) tNil))))))
def t_is_number (K : Frag) : TS := (tRet (tAndV (tCall (sp_is_integer K) [] E0 (tCons (tVar 0) tNil)) (tChain xLe xLe (tVar 1) (tVar 0) (tVar 2))))
def t_is_harm (K : Frag) : TS := (tSeq (tIfS (tOr (tNot (tB (tCB (rIsi K) (tCons (tVar 0) (tCons (tC (.ty "tuple")) tNil))))) (tOr (tTest (tOp (xEq K) (tVar 0) (tTup tNil))) (tNot (tB (tCB (rIsi K) (tCons (tOp (rIx K) (tVar 0) (tC (.int 0))) (tCons (tC (.ty "str")) tNil))))))) (tRet (tC (.bl false))) tNext) (tSeq (tIfS (tTest (tOp (xNe K) (tKget K (He.ga K "HARMS") (tC (.ref (He.ga K "HARMS"))) (tOp (rIx K) (tVar 0) (tC (.int 0))) (tC (.int 0))) (tCB (rLn K) (tCons (tVar 0) tNil)))) (tRet (tC (.bl false))) tNext) (tRet (tOrV (tOp (xEq K) (tCB (rLn K) (tCons (tVar 0) tNil)) (tC (.int 1))) (tCall (sp_is_number K) [] E0 (tCons (tOp (rIx K) (tVar 0) (tC (.int 1))) (tCons (tC (.int 0)) (tCons (tC (.int 1000000)) tNil))))))))
theorem pure_is_integer {K : Frag} (vs : List V) (H : Hp) (Q : VK) (E : XK) (h : sp_is_integer K vs H Q E) : t_is_integer K ⟨fun _ H' => Q .non H', Q, fun _ _ => False, fun _ _ => False⟩ (start ["value"] vs) H := by
  obtain ⟨v, d, rfl, hd, q⟩ := h
  show tRet _ _ [some v] H
  walk_at "go"
  refine g_isi hd (by decide) ?_
  walk_at "go"
  have e : ∀ b, isIntD d = b → Q (.bl b) H := fun b hb => by rw [← hb]; exact q H (Evl.Ex.refl H)
  refine g_iteB (fun h1 => ?_) (fun h1 => ?_)
  · walk_at "go"
    refine g_isi hd (by decide) ?_
    walk_at "go"
    refine e _ ?_
    cases d <;> simp [isiD, tyD, isIntD] at h1 ⊢
  · refine e _ ?_
    cases d <;> simp [isiD, tyD, isIntD] at h1 ⊢
theorem dp_int {K : Frag} {H : Hp} {v : V} {d : PyData} (h : Dp K H v d) (hi : isIntD d = true) : ∃ i, v = .int i ∧ d = .int i := by
  cases h with
  | int i => exact ⟨i, rfl, rfl⟩
  | _ => cases hi
theorem isNum_no {d : PyData} {lo hi : Int} (h : isIntD d = false) : isNumD d lo hi = false := by
  cases d <;> first | rfl | cases h
theorem pure_is_number {K : Frag} (vs : List V) (H : Hp) (Q : VK) (E : XK) (h : sp_is_number K vs H Q E) : t_is_number K ⟨fun _ H' => Q .non H', Q, fun _ _ => False, fun _ _ => False⟩ (start ["value", "low", "high"] vs) H := by
  obtain ⟨v, d, lo, hi, rfl, hd, q⟩ := h
  show tRet _ _ [some v, some (.int lo), some (.int hi)] H
  walk_at "go"
  refine ⟨v, d, rfl, hd, fun H1 e1 => ?_⟩
  walk_at "go"
  have e : ∀ b, isNumD d lo hi = b → Q (.bl b) H1 := fun b hb => by rw [← hb]; exact q H1 e1
  refine g_iteB (fun h1 => ?_) (fun h1 => e _ (isNum_no h1))
  obtain ⟨i, rfl, rfl⟩ := dp_int hd h1
  walk_at "go"
  refine g_iteB (fun h2 => ?_) (fun h2 => ?_)
  · walk_at "go"
    refine e _ ?_
    simp [isNumD] at h2 ⊢
    omega
  · refine e _ ?_
    simp [isNumD] at h2 ⊢
    omega
/-! ### harms -/
def HarmTab (K : Frag) : Prop := ∀ t : Str, ∃ r, PySem.W.nsIn K (He.ga K "HARMS") t = some r ∧ (∀ u, r = some u → RelV (.int (harmN t)) u) ∧ (r = none → harmN t = 0)
section
variable {K : Frag} {H : Hp} {σ : L2.St} {Q : VK} {td ty tz : TE}
theorem g_kget {d : Addr} (h : td σ H fun x H1 => x = .ref d ∧ ty σ H1 fun y H2 => tz σ H2 fun z H3 => rKget K d x y z H3 Q) : tKget K d td ty tz σ H Q := h
theorem g_eqD {x y : V} {d e : PyData} (hx : Dp K H x d) (hy : Dp K H y e) (s1 : SeqAt.shaped d = true) (s2 : SeqAt.shaped e = true) (q : Q (.bl (PyData.eqv d e)) H) : xEq K x y H Q := Or.inr ⟨d, e, hx, hy, s1, s2, q⟩
theorem g_neD {x y : V} {d e : PyData} (hx : Dp K H x d) (hy : Dp K H y e) (s1 : SeqAt.shaped d = true) (s2 : SeqAt.shaped e = true) (q : Q (.bl (!PyData.eqv d e)) H) : xNe K x y H Q := Or.inr ⟨d, e, hx, hy, s1, s2, q⟩
end
theorem harmN_le (t : Str) : harmN t ≤ 2 := by
  unfold harmN
  split
  · omega
  · split <;> omega
theorem at0 {α : Type} {x : α} {xs : List α} : atI (x :: xs) 0 = some x := atI_nat (j := 0) rfl
theorem at1 {α : Type} {x y : α} {xs : List α} : atI (x :: y :: xs) 1 = some y := atI_nat (j := 1) rfl
theorem pure_is_harm {K : Frag} (hT : HarmTab K) (vs : List V) (H : Hp) (Q : VK) (E : XK) (h : sp_is_harm K vs H Q E) : t_is_harm K ⟨fun _ H' => Q .non H', Q, fun _ _ => False, fun _ _ => False⟩ (start ["value"] vs) H := by
  obtain ⟨v, d, rfl, hd, hs, hf, q⟩ := h
  show tSeq _ _ _ [some v] H
  have e : ∀ b, isHarmD d = b → ∀ H1, Ex H H1 → Q (.bl b) H1 := fun b hb => by rw [← hb]; exact q
  walk_at "go"
  refine g_isi hd (by decide) ?_
  walk_at "go"
  by_cases ht : ∃ ds, d = .tuple ds
  · obtain ⟨ds, rfl⟩ := ht
    refine g_iteB (fun h1 => by simp [isiD, tyD] at h1) (fun _ => ?_)
    cases hd with
    | @tup a xs _ hT' ha =>
      walk_at "go"
      refine g_newT fun p H1 hp e1 h1 => ?_
      refine g_eqD (up e1 (.tup hT' ha)) (.tup (Evl.st_of h1) .nil) hs (by decide) ?_
      walk_at "go"
      cases ha with
      | nil =>
        refine g_iteB (fun _ => ?_) (fun h => by simp [PyData.eqv, PyData.eqvAll] at h)
        walk_at "go"
        exact e _ rfl H1 e1
      | @cons y ys x ds' hy hys =>
        refine g_iteB (fun h => by simp [PyData.eqv, PyData.eqvAll] at h) (fun _ => ?_)
        walk_at "go"
        refine g_ixT (Evl.ex_t e1 hT') at0 ?_
        walk_at "go"
        refine g_isi (up e1 hy) (by decide) ?_
        walk_at "go"
        by_cases hx : ∃ t, x = .str t
        · obtain ⟨t, rfl⟩ := hx
          cases hy
          refine g_iteB (fun h => by simp [isiD, tyD] at h) (fun _ => ?_)
          walk_at "go"
          refine g_kget ?_
          walk_at "go"
          refine ⟨rfl, ?_⟩
          walk_at "go"
          refine g_ixT (Evl.ex_t e1 hT') at0 ?_
          walk_at "go"
          obtain ⟨r, r1, r2, r3⟩ := hT t
          refine ⟨t, r, .int (harmN t), rfl, rfl, r1, r2, fun h => by rw [r3 h], ?_⟩
          walk_at "go"
          refine g_lenT (Evl.ex_t e1 hT') ?_
          walk_at "go"
          have l1 := dpa_len hys
          refine g_iteB (fun h => ?_) (fun h => ?_)
          · walk_at "go"
            refine e _ ?_ H1 e1
            simp [l1] at h
            rcases ds' with _ | ⟨n, _ | ⟨m, r⟩⟩ <;> simp [isHarmD] at h ⊢ <;> omega
          · simp [l1] at h
            walk_at "go"
            refine g_lenT (Evl.ex_t e1 hT') ?_
            walk_at "go"
            refine g_iteB (fun h2 => ?_) (fun h2 => ?_)
            · simp [l1] at h2
              refine e _ ?_ H1 e1
              obtain rfl : ds' = [] := List.length_eq_zero_iff.mp (by omega)
              simp at h
              simp [isHarmD, h]
            · simp [l1] at h2
              cases hys with
              | nil => simp at h2
              | @cons y2 ys2 x2 ds2 hy2 hys2 =>
                walk_at "go"
                refine g_ixT (Evl.ex_t e1 hT') at1 ?_
                walk_at "go"
                refine ⟨y2, x2, 0, 1000000, rfl, up e1 hy2, fun H2 e2 => ?_⟩
                refine e _ ?_ H2 (e1.trans e2)
                rcases ds2 with _ | ⟨m, r⟩
                · simp at h
                  simp [isHarmD, h]
                · exfalso
                  simp at h
                  have := harmN_le t
                  omega
        · refine g_iteB (fun _ => ?_) (fun h => ?_)
          · walk_at "go"
            refine e _ ?_ H1 e1
            cases x <;> first | rfl | (exfalso; exact hx ⟨_, rfl⟩) | (cases ds' <;> rfl)
          · exfalso
            cases x <;> first | (exact hx ⟨_, rfl⟩) | simp [isiD, tyD] at h
  · refine g_iteB (fun _ => ?_) (fun h => ?_)
    · walk_at "go"
      refine e _ ?_ H (Evl.Ex.refl H)
      cases d <;> first | rfl | (exfalso; exact ht ⟨_, rfl⟩)
    · exfalso
      cases d <;> first | (exact ht ⟨_, rfl⟩) | simp [isiD, tyD] at h
end Cm

set_option Elab.async false
set_option linter.all false
set_option maxRecDepth 100000
set_option maxHeartbeats 3000000
/-! Common part, 6: data that is good to be told: shape and depth. -/
namespace Cm
open L2 PySem PySem.Spec PyProof.Rows RZ
theorem fit_int (n : Nat) (i : Int) : fit n (.int i) := by cases n <;> simp [fit]
theorem fit_bl (n : Nat) (i : Bool) : fit n (.bool i) := by cases n <;> simp [fit]
theorem fit_non (n : Nat) : fit n .none := by cases n <;> simp [fit]
theorem fit_str (n : Nat) (i : Str) : fit n (.str i) := by cases n <;> simp [fit]
theorem fit_dict (n : Nat) (i : List (PyData × PyData)) : fit n (.dict i) := by cases n <;> simp [fit]
def okD (n : Nat) (d : PyData) : Prop := d.canLay0 = true ∧ fit n d
theorem canAll : ∀ {ds : List PyData}, (∀ d ∈ ds, d.canLay0 = true) → PyData.canLayAll0 ds = true
  | [], _ => by unfold PyData.canLayAll0; rfl
  | d :: ds, h => by
    unfold PyData.canLayAll0
    rw [h d (List.mem_cons_self ..), canAll fun x hx => h x (List.mem_cons_of_mem _ hx)]
    rfl
theorem ok_tup {n : Nat} {ds : List PyData} (hl : ds.length ≤ 100000) (h : ∀ d ∈ ds, okD n d) : okD (n + 1) (.tuple ds) :=
  ⟨by unfold PyData.canLay0; exact canAll fun d hd => (h d hd).1, hl, fun d hd => (h d hd).2⟩
theorem ok_lst {n : Nat} {ds : List PyData} (hl : ds.length ≤ 100000) (h : ∀ d ∈ ds, okD n d) : okD (n + 1) (.list ds) :=
  ⟨by unfold PyData.canLay0; exact canAll fun d hd => (h d hd).1, hl, fun d hd => (h d hd).2⟩
theorem can_mem : ∀ {ds : List PyData} {d : PyData}, PyData.canLayAll0 ds = true → d ∈ ds → d.canLay0 = true
  | [], _, _, h => by cases h
  | x :: xs, d, hc, h => by
    unfold PyData.canLayAll0 at hc
    obtain ⟨c1, c2⟩ := Bool.and_eq_true_iff.mp hc
    rcases List.mem_cons.mp h with rfl | h
    · exact c1
    · exact can_mem c2 h
theorem ok_of_tup {n : Nat} {ds : List PyData} {d : PyData} (h : okD (n + 1) (.tuple ds)) (hd : d ∈ ds) : okD n d := ⟨can_mem (by have := h.1; unfold PyData.canLay0 at this; exact this) hd, h.2.2 _ hd⟩
theorem ok_of_lst {n : Nat} {ds : List PyData} {d : PyData} (h : okD (n + 1) (.list ds)) (hd : d ∈ ds) : okD n d := ⟨can_mem (by have := h.1; unfold PyData.canLay0 at this; exact this) hd, h.2.2 _ hd⟩
theorem ok_int {n : Nat} {i : Int} : okD n (.int i) := ⟨by unfold PyData.canLay0; rfl, fit_int ..⟩
theorem ok_bl {n : Nat} {b : Bool} : okD n (.bool b) := ⟨by unfold PyData.canLay0; rfl, fit_bl ..⟩
theorem ok_non {n : Nat} : okD n .none := ⟨by unfold PyData.canLay0; rfl, fit_non ..⟩
theorem ok_str {n : Nat} {x : Str} (h : PyData.strOk x = true) : okD n (.str x) := ⟨by unfold PyData.canLay0; exact h, fit_str ..⟩
theorem fit_up : ∀ {n m : Nat} {d : PyData}, n ≤ m → fit n d → fit m d
  | 0, m, .list _, _, h => h.elim
  | 0, m, .tuple _, _, h => h.elim
  | n + 1, 0, _, hm, _ => absurd hm (by omega)
  | n + 1, m + 1, .list ds, hm, h => ⟨h.1, fun d hd => fit_up (by omega) (h.2 d hd)⟩
  | n + 1, m + 1, .tuple ds, hm, h => ⟨h.1, fun d hd => fit_up (by omega) (h.2 d hd)⟩
  | _, _, .none, _, _ => fit_non ..
  | _, _, .bool _, _, _ => fit_bl ..
  | _, _, .int _, _, _ => fit_int ..
  | _, _, .str _, _, _ => fit_str ..
  | _, _, .dict _, _, _ => fit_dict ..
theorem okD.up {n m : Nat} {d : PyData} (hm : n ≤ m) (h : okD n d) : okD m d := ⟨h.1, fit_up hm h.2⟩
mutual
theorem fit_depth : ∀ (d : PyData) (n : Nat), d.canLay0 = true → fit n d → d.depth ≤ n
  | .list ds, 0, _, h => h.elim
  | .tuple ds, 0, _, h => h.elim
  | .list ds, n + 1, hc, h => by
    unfold PyData.depth
    have := fit_depthAll ds n (by unfold PyData.canLay0 at hc; exact hc) h.2
    omega
  | .tuple ds, n + 1, hc, h => by
    unfold PyData.depth
    have := fit_depthAll ds n (by unfold PyData.canLay0 at hc; exact hc) h.2
    omega
  | .none, n, _, _ => by unfold PyData.depth; omega
  | .bool _, n, _, _ => by unfold PyData.depth; omega
  | .int _, n, _, _ => by unfold PyData.depth; omega
  | .str _, n, _, _ => by unfold PyData.depth; omega
  | .dict _, _, hc, _ => by unfold PyData.canLay0 at hc; cases hc
theorem fit_depthAll : ∀ (ds : List PyData) (n : Nat), PyData.canLayAll0 ds = true → (∀ d ∈ ds, fit n d) → PyData.depthAll ds ≤ n
  | [], _, _, _ => by unfold PyData.depthAll; omega
  | d :: ds, n, hc, h => by
    unfold PyData.canLayAll0 at hc
    obtain ⟨c1, c2⟩ := Bool.and_eq_true_iff.mp hc
    have h1 := fit_depth d n c1 (h d (List.mem_cons_self ..))
    have h2 := fit_depthAll ds n c2 fun x hx => h x (List.mem_cons_of_mem _ hx)
    unfold PyData.depthAll
    omega
end
theorem okD.shaped {n : Nat} {d : PyData} (h : okD n d) (hn : n ≤ 64) : SeqAt.shaped d = true := by
  unfold SeqAt.shaped
  rw [h.1]
  have := fit_depth d n h.1 h.2
  simp
  omega
/-- a thing that is such data -/
def Gd (K : Frag) (H : Hp) (n : Nat) (x : V) : Prop := ∃ d, Dp K H x d ∧ okD n d
section
variable {K : Frag} {H H' : Hp} {n : Nat}
theorem Gd.ex {x : V} (e : Ex H H') (h : Gd K H n x) : Gd K H' n x := let ⟨d, h1, h2⟩ := h; ⟨d, up e h1, h2⟩
theorem Gd.le {m : Nat} {x : V} (hm : n ≤ m) (h : Gd K H n x) : Gd K H m x := let ⟨d, h1, h2⟩ := h; ⟨d, h1, h2.up hm⟩
theorem gd_int {i : Int} : Gd K H n (.int i) := ⟨_, .int i, ok_int⟩
theorem gd_bl {i : Bool} : Gd K H n (.bl i) := ⟨_, .bl i, ok_bl⟩
theorem gd_non : Gd K H n .non := ⟨_, .non, ok_non⟩
theorem gd_str {s : Str} (h : PyData.strOk s = true) : Gd K H n (.str s) := ⟨_, .str s, ok_str h⟩
theorem gd_all : ∀ {xs : List V}, (∀ x ∈ xs, Gd K H n x) → ∃ ds, DpAll K H xs ds ∧ ds.length = xs.length ∧ ∀ d ∈ ds, okD n d
  | [], _ => ⟨[], .nil, rfl, fun _ h => by cases h⟩
  | x :: xs, h => by
    obtain ⟨d, h1, h2⟩ := h x (List.mem_cons_self ..)
    obtain ⟨ds, h3, h4, h5⟩ := gd_all fun y hy => h y (List.mem_cons_of_mem _ hy)
    refine ⟨d :: ds, .cons h1 h3, by rw [List.length_cons, List.length_cons, h4], fun y hy => ?_⟩
    rcases List.mem_cons.mp hy with rfl | hy
    · exact h2
    · exact h5 y hy
theorem gd_tup {p : Addr} {xs : List V} (h : H p = some (.tup xs)) (hl : xs.length ≤ 100000) (ha : ∀ x ∈ xs, Gd K H n x) : Gd K H (n + 1) (.ref p) := by
  obtain ⟨ds, h1, h2, h3⟩ := gd_all ha
  exact ⟨_, dp_tup h h1, ok_tup (by omega) h3⟩
theorem gd_lst {p : Addr} {xs : List V} (h : H p = some (.lst xs)) (hl : xs.length ≤ 100000) (ha : ∀ x ∈ xs, Gd K H n x) : Gd K H (n + 1) (.ref p) := by
  obtain ⟨ds, h1, h2, h3⟩ := gd_all ha
  exact ⟨_, dp_lst h h1, ok_lst (by omega) h3⟩
end
end Cm

set_option Elab.async false
set_option linter.all false
set_option maxRecDepth 100000
set_option maxHeartbeats 3000000
/-! Common part, 7: what the head tells, turned to what the defs ask. -/
namespace Cm
open L2 PySem PySem.Spec PyProof.Rows RZ
theorem kbn_of {K : Frag} {x qual : Str} {params : Arguments} {body : List Stmt} {scope : Scope} {f : Addr} {fd : FuncData} {ps ks : List Str} {n : Nat} {g : List Value → List Value → List Value} {gV : List V → List V → List V}
    (F : FunD K x qual params body scope [] [] f fd) (_u : True = True)
    (h : ∀ (kV doc pm : Value) (an : Option Addr) (cdv ct : Value) (us ws : List Value), us.length = n → ws.length = ks.length → bindArgs (PySem.W.fnOf x qual params body scope .none kV doc pm an cdv ct) ⟨us, ks.zip ws⟩ = pure (ps.zip (g us ws)))
    (hr : ∀ {vs : List V} {us : List Value} {zs : List V} {ws : List Value}, Vals vs us → Vals zs ws → Vals (gV vs zs) (g us ws)) : KBn K fd ps n ks g gV := by
  obtain ⟨oc, od, dV, kV, doc, pm, an, cdv, ct, osl, rfl, _, _, hD, _⟩ := F.ex
  rcases hD with ⟨_, rfl⟩ | ⟨e, _⟩
  · exact ⟨fun s us ws _ l1 l2 => .of_eq (h kV doc pm an cdv ct us ws l1 l2), hr⟩
  · exact absurd rfl e
theorem vals_getD {vs : List V} {us : List Value} {i : Nat} (r : Vals vs us) : RelV (vs.getD i .non) (us.getD i .none) := by
  rw [List.getD_eq_getElem?_getD, List.getD_eq_getElem?_getD]
  cases h : vs[i]? with
  | none =>
    rw [Vals.none_of r h]
    rfl
  | some v =>
    obtain ⟨u, h1, h2⟩ := r.get h
    rw [h1]
    exact h2
theorem tab_says {fa : List He.Fa} {fn : List He.DefD} {ts : List He.Tab} {w : World} {K : Frag} (c : He.SaysT fa fn ts w K) (i : Nat) {t : He.Tab} (h : ts[i]? = some t) : He.dicW K (t.1 K) = some (He.keysIn w.params t.2) := by
  have e : ts.map (fun t => He.dicW K (t.1 K)) = ts.map fun t => some (He.keysIn w.params t.2) := congrArg (fun z : He.AlT => z.2) c
  have e2 := congrArg (fun l : List (Option (List (Option (Str × Int)))) => l[i]?) e
  simp only [List.getElem?_map, h, Option.map_some, Option.some.injEq] at e2
  exact e2
/-- a key that the table lacks -/
theorem tab_miss {K : Frag} {P : Params} {a : Addr} {ks : List Str} (h : He.dicW K a = some (He.keysIn P ks)) {t : Str} (ht : t ∉ ks) : PySem.W.nsIn K a t = some none := by
  unfold He.dicW at h
  unfold PySem.W.nsIn
  split at h
  · rename_i c es n sl q
    rw [q]
    dsimp only
    split at h
    · have e := Option.some.inj h
      have hk : ∀ d ∈ es.toList, ∃ k ∈ ks, ∃ t, d.key = .str k t := by
        intro d hd
        have h1 : He.keyOf d ∈ He.keysIn P ks := by rw [← e]; exact List.mem_map_of_mem hd
        unfold He.keysIn at h1
        obtain ⟨k, hk, hq⟩ := List.mem_map.mp h1
        refine ⟨k, hk, ?_⟩
        unfold He.keyOf at hq
        split at hq
        · rename_i x t2 q2
          have h3 := (Prod.mk.inj (Option.some.inj hq)).1
          exact ⟨t2, by rw [h3]; exact q2⟩
        · cases hq
      have h1 : es.toList.find? (fun d => d.key.isStr t) = none := by
        rw [List.find?_eq_none]
        intro d hd hs
        obtain ⟨k, hk1, tk, hk2⟩ := hk d hd
        rw [hk2] at hs
        have h4 : (k == t) = true := hs
        exact ht ((beq_iff_eq.mp h4) ▸ hk1)
      have h2 : es.toList.any (fun d => d.refKey) = false := by
        rw [List.any_eq_false]
        intro d hd
        obtain ⟨k, _, tk, hk2⟩ := hk d hd
        simp [DictEntry.refKey, hk2]
      rw [h1, h2]
      rfl
    · cases h
  · cases h
theorem harm_tab {K : Frag} {P : Params} (h : He.dicW K (He.ga K "HARMS") = some (He.keysIn P ["in", "halt", "bare", "long"])) (hv : He.valsB K (He.ga K "HARMS") [("in", .int 1), ("halt", .int 1), ("bare", .int 2), ("long", .int 2)] = true) : HarmTab K := by
  have at_ : ∀ (q : Str × He.Dv), q ∈ ([("in", .int 1), ("halt", .int 1), ("bare", .int 2), ("long", .int 2)] : List (Str × He.Dv)) → q.2.v K = .int (harmN q.1) → ∃ r, PySem.W.nsIn K (He.ga K "HARMS") q.1 = some r ∧ (∀ u, r = some u → RelV (.int (harmN q.1)) u) ∧ (r = none → harmN q.1 = 0) := by
    intro q hq hn
    obtain ⟨u, h1, h2⟩ := He.valsB_ok hv hq
    refine ⟨_, h1, fun u' e => ?_, fun e => by cases e⟩
    cases e
    rw [← hn]
    exact h2
  intro t
  by_cases h1 : t = "in"
  · subst h1; exact at_ ("in", .int 1) (by simp) (by simp [He.Dv.v, harmN])
  · by_cases h2 : t = "halt"
    · subst h2; exact at_ ("halt", .int 1) (by simp) (by simp [He.Dv.v, harmN])
    · by_cases h3 : t = "bare"
      · subst h3; exact at_ ("bare", .int 2) (by simp) (by show V.int 2 = V.int (harmN "bare"); congr 1)
      · by_cases h4 : t = "long"
        · subst h4; exact at_ ("long", .int 2) (by simp) (by show V.int 2 = V.int (harmN "long"); congr 1)
        · refine ⟨none, tab_miss h (by simp [h1, h2, h3, h4]), fun u e => by (cases e), fun _ => ?_⟩
          unfold harmN
          rw [if_neg (by simp [h1, h2]), if_neg (by simp [h3, h4])]
end Cm

set_option Elab.async false
set_option linter.all false
set_option maxRecDepth 100000
set_option maxHeartbeats 3000000
/-! Common part, 8: words, names. -/
local macro_rules | `(tactic| walk_at "gds") => `(tactic| (repeat' (first | exact Cm.gd_int | exact Cm.gd_bl | exact Cm.gd_non | exact Cm.gd_str (by decide +kernel) | refine List.forall_mem_cons.mpr ⟨?_, ?_⟩ | exact List.forall_mem_nil _ | assumption)))
local macro_rules | `(tactic| walk_at "ex") => `(tactic| (first | exact Evl.Ex.refl _ | assumption | (refine' Cm.ex_tr ?e1 ?e2; (case e2 => assumption); (case e1 => walk_at "ex"))))
local macro_rules | `(tactic| walk_at "at") => `(tactic| (first | assumption | (refine' Cm.ex_get ?e1 ?e2; (case e1 => assumption); (case e2 => walk_at "at"))))
namespace Cm
open L2 PySem PySem.Spec PyProof.Rows RZ
def rJoin (K : Frag) : V → List V → Hp → VK → Prop := fun x xs H Q => ∃ a p, ∃ ys : List Str, x = .str a ∧ xs = [.ref p] ∧ (SqL K H p (ys.map V.str) ∨ SqT K H p (ys.map V.str)) ∧ (ys.map (·.length)).sum + ys.length * a.length ≤ 16777216 ∧ Q (.str (Txt.join a ys)) H
abbrev letS : Str := "abcdefghijklmnopqrstuvwxyz"
def letL (l : List Nat) : Prop := ∀ c ∈ l, c ∈ TL.tl letS
def wordOf (pre post : List Nat) (f : Int) (i : Nat) : Str := ⟨(pre ++ [(TL.tl letS).getD ((f + 7 * i) % 26).toNat 0] ++ post).toArray⟩
def sp_law_words (K : Frag) : Sp := fun vs H Q _ => ∃ (b : Addr) (n : Int), vs = [.ref b, .int n] ∧ Bag H b ∧ 0 ≤ n ∧ n ≤ 1000 ∧
  ∀ (pre post : List Nat) (f : Int) (p : Addr) (H' : Hp), Ex H H' → letL pre → letL post → pre.length + post.length ≤ 7 → 0 ≤ f → f < 26 → H' p = some (.lst ((List.range n.toNat).map fun i => V.str (wordOf pre post f i))) → Q (.ref p) H'
def isNameS (s : Str) : Bool := decide (1 ≤ s.length) && decide (s.length ≤ 8) && (TL.tl s).all fun c => decide (c ∈ TL.tl letS)
def isNameD : PyData → Bool
  | .str s => isNameS s
  | _ => false
def shortD : PyData → Prop
  | .str s => s.length ≤ 100000
  | _ => True
def sp_is_name (K : Frag) : Sp := fun vs H Q _ => ∃ v d, vs = [v] ∧ Dp K H v d ∧ shortD d ∧ ∀ H', Ex H H' → Q (.bl (isNameD d)) H'
def t_is_name (K : Frag) : TS := (tSeq (tIfS (tOr (tNot (tB (tCB (rIsi K) (tCons (tVar 0) (tCons (tC (.ty "str")) tNil))))) (tNot (tTest (tChain xLe xLe (tC (.int 1)) (tCB (rLn K) (tCons (tVar 0) tNil)) (tC (.int 8)))))) (tRet (tC (.bl false))) tNext) (tRet (tCB (rAll K) (tCons (tLc (iStr (tVar 0)) (gName 1) tYes (tOp (xIn K) (tVar 1) (tC (.str "abcdefghijklmnopqrstuvwxyz"))) [1]) tNil))))
def t_law_words (K : Frag) : TS := (tSeq (tAsg (tC (.str "abcdefghijklmnopqrstuvwxyz")) (gName 2)) (tSeq (tAsg (tM1 (rJoin K) (tC (.str "")) (tLc (iRng1 (tCons (tCall (sp_law_pick K) [] E0 (tCons (tVar 0) (tCons (tLst (tCons (tC (.int 0)) (tCons (tC (.int 1)) (tCons (tC (.int 2)) (tCons (tC (.int 7)) tNil))))) tNil))) tNil)) (gName 4) tYes (tCall (sp_law_pick K) [] E0 (tCons (tVar 0) (tCons (tVar 2) tNil))) [4])) (gName 3)) (tSeq (tAsg (tTup (tCons (tCall (sp_law_pull K) [] E0 (tCons (tVar 0) (tCons (tOp (xAdd K) (tCB (rLn K) (tCons (tVar 3) tNil)) (tC (.int 1))) tNil))) (tCons (tCall (sp_law_pull K) [] E0 (tCons (tVar 0) (tCons (tC (.int 26)) tNil))) tNil))) (gTup K 2 (gCons (gName 5) (gCons (gName 6) gNil)))) (tRet (tLc (iRng1 (tCons (tVar 1) tNil)) (gName 4) tYes (tOp (xAdd K) (tOp (xAdd K) (tSl (xSl K) (tVar 3) tNoPart (tPart (tVar 5))) (tOp (rIx K) (tVar 2) (tOp xMod (tCB rInt (tCons (tOp (xAdd K) (tVar 6) (tOp xMul (tC (.int 7)) (tVar 4))) tNil)) (tC (.int 26))))) (tSl (xSl K) (tVar 3) (tPart (tVar 5)) tNoPart)) [4])))))
section
variable {J : It} {n : Nat} {G : Hp → Prop} {Y : Nat → Hp → V → Hp → Prop} {g : TG} {te : TE} {vs : List Nat} {σ : L2.St} {H1 : Hp} {Q : VK}
theorem ys_eq {ys : List V} {g : Nat → V} (hl : ys.length = n) (h : ∀ (i : Nat) (y : V), ys[i]? = some y → y = g i) : ys = (List.range n).map g := by
  refine List.ext_getElem? fun i => ?_
  rw [List.getElem?_map]
  by_cases hi : i < n
  · rw [List.getElem?_range hi, List.getElem?_eq_getElem (by omega)]
    rw [h i _ (List.getElem?_eq_getElem (by omega))]
    rfl
  · rw [List.getElem?_eq_none (by omega), List.getElem?_eq_none (by rw [List.length_range]; omega)]
    rfl
/-- a comprehension whose i-th thing is known -/
theorem lc_map (w : Walk J n G Y) (hn : n ≤ 100000) (hG : ∀ H', Ex H1 H' → G H') (f : Nat → V)
    (hs : ∀ i x H2 H3, i < n → Ex H1 H2 → Y i H2 x H3 → ∀ Nt : VK, (∀ H5, Ex H2 H5 → Nt (f i) H5) → g x (wipe σ vs) H3 fun σ2 H4 => wipe σ2 vs = wipe σ vs ∧ te σ2 H4 Nt)
    (hd : ∀ D H', H1 D = none → Ex H1 H' → H' D = some (.lst ((List.range n).map f)) → Q (.ref D) H') : LcOn J g tYes te vs σ Q H1 := by
  refine lc_all w hn hG (fun _ i y _ => y = f i) (fun _ _ _ _ _ _ h => h) ?_ ?_
  · intro D i x H2 H3 _ _ hi e hy Nt hN
    exact hs i x H2 H3 hi e hy Nt fun H5 e5 => hN _ H5 e5 rfl
  · intro D ys H' hD e h hl hy
    exact hd D H' hD e (by rw [h, ys_eq hl hy])
def StrOn (R : It → Hp → Prop) (v : V) (H : Hp) : Prop := ∃ x, v = .str x ∧ R (Its x) H
theorem g_istr {ta : TE} {R : It → Hp → Prop} {H : Hp} (h : ta σ H (StrOn R)) : iStr ta σ H R := h
theorem g_asgG {D : Ends} {ta : TE} {g : TG} {H : Hp} (h : ta σ H fun x H1 => g x σ H1 D.nx) : tAsg ta g D σ H := h
theorem g_onS {R : It → Hp → Prop} {H : Hp} {x : Str} (h : R (Its x) H) : StrOn R (.str x) H := ⟨x, rfl, h⟩
theorem g_m1 {ta tb : TE} {r : V → List V → Hp → VK → Prop} {H : Hp} (h : ta σ H fun x H1 => (∃ a, x = .str a) ∧ tb σ H1 fun y H2 => r x [y] H2 Q) : tM1 r ta tb σ H Q := h
theorem g_join {K : Frag} {H : Hp} {a : Str} {p : Addr} {ys : List Str} (h : H p = some (.lst (ys.map V.str))) (hl : (ys.map (·.length)).sum + ys.length * a.length ≤ 16777216) (q : Q (.str (Txt.join a ys)) H) : rJoin K (.str a) [.ref p] H Q :=
  ⟨a, p, ys, rfl, rfl, Or.inl (Evl.sq_of h), hl, q⟩
theorem g_allB {K : Frag} {H : Hp} {p : Addr} {bs : List Bool} (h : H p = some (.lst (bs.map V.bl))) (q : Q (.bl (bs.all id)) H) : rAll K [.ref p] H Q := ⟨p, bs, rfl, Evl.sq_of h, q⟩
theorem g_inS {K : Frag} {H : Hp} {c : Nat} {z : Str} (q : Q (.bl (decide (c ∈ TL.tl z))) H) : xIn K (.str ⟨#[c]⟩) (.str z) H Q := Or.inr (Or.inr ⟨c, z, rfl, rfl, q⟩)
end
theorem range_map_tl (s : Str) (f : Nat → V) : (List.range s.cps.size).map (fun i => f (s.cps.toList.getD i 0)) = (TL.tl s).map f := by
  refine (ys_eq (n := s.cps.size) (by simp) fun i y h => ?_).symm
  rw [List.getElem?_map] at h
  cases e : (TL.tl s)[i]? with
  | none => rw [e] at h; cases h
  | some c =>
    rw [e] at h
    cases h
    rw [List.getD_eq_getElem?_getD]
    show _ = f ((TL.tl s)[i]?.getD 0)
    rw [e]
    rfl
theorem letS_len : (TL.tl letS).length = 26 := by decide +kernel
theorem tl_len (s : Str) : (TL.tl s).length = s.length := by show s.cps.toList.length = s.cps.size; simp
theorem pure_is_name {K : Frag} (vs : List V) (H : Hp) (Q : VK) (E : XK) (h : sp_is_name K vs H Q E) : t_is_name K ⟨fun _ H' => Q .non H', Q, fun _ _ => False, fun _ _ => False⟩ (start ["value", "letter"] vs) H := by
  obtain ⟨v, d, rfl, hd, hs, q⟩ := h
  show tSeq _ _ _ [some v, none] H
  have e : ∀ b, isNameD d = b → ∀ H1, Ex H H1 → Q (.bl b) H1 := fun b hb => by rw [← hb]; exact q
  walk_at "go"
  refine g_isi hd (by decide) ?_
  walk_at "go"
  by_cases hx : ∃ s, d = .str s
  · obtain ⟨s, rfl⟩ := hx
    cases hd
    refine g_iteB (fun h => by simp [isiD, tyD] at h) (fun _ => ?_)
    walk_at "go"
    refine g_lenS (sz5 hs) ?_
    walk_at "go"
    refine g_iteB (fun h1 => ?_) (fun h1 => ?_)
    · walk_at "go"
      refine g_iteB (fun h2 => ?_) (fun h2 => ?_)
      · walk_at "go"
        refine e _ ?_ H (Evl.Ex.refl H)
        simp at h1 h2
        simp [isNameD, isNameS]
        omega
      · walk_at "go"
        refine g_istr ?_
        walk_at "go"
        refine g_onS ?_
        refine lc_map walk_str (by have := tl_len s; simp at h1 h2; show s.length ≤ _; omega) (fun _ _ => trivial) (fun i => .bl (decide (s.cps.toList.getD i 0 ∈ TL.tl letS))) ?_ ?_
        · rintro i x H2 H3 hi e2 ⟨rfl, c, hc, rfl⟩ Nt hN
          walk_at "go"
          refine ⟨rfl, ?_⟩
          walk_at "go"
          refine g_inS ?_
          have hc2 : s.cps.toList.getD i 0 = c := by
            rw [List.getD_eq_getElem?_getD, Array.getElem?_toList, hc]
            rfl
          have := hN _ (Evl.Ex.refl _)
          rw [hc2] at this
          exact this
        · intro D H' hD e1 h
          walk_at "go"
          rw [range_map_tl s (fun c => .bl (decide (c ∈ TL.tl letS)))] at h
          have h3 : H' D = some (.lst (((TL.tl s).map fun c => decide (c ∈ TL.tl letS)).map V.bl)) := by
            rw [h, List.map_map]
            rfl
          refine g_allB h3 ?_
          refine e _ ?_ H' e1
          simp at h1 h2
          have a1 : decide (1 ≤ s.length) = true := by simp; omega
          have a2 : decide (s.length ≤ 8) = true := by simp; omega
          show (decide (1 ≤ s.length) && decide (s.length ≤ 8) && (TL.tl s).all fun c => decide (c ∈ TL.tl letS)) = _
          rw [a1, a2, List.all_map]
          rfl
    · walk_at "go"
      refine e _ ?_ H (Evl.Ex.refl H)
      simp at h1
      simp [isNameD, isNameS]
      omega
  · refine g_iteB (fun _ => ?_) (fun h => ?_)
    · walk_at "go"
      refine e _ ?_ H (Evl.Ex.refl H)
      cases d <;> first | rfl | (exfalso; exact hx ⟨_, rfl⟩)
    · exfalso
      cases d <;> first | (exact hx ⟨_, rfl⟩) | simp [isiD, tyD] at h
theorem join_tl : ∀ ys : List Str, TL.tl (Txt.join "" ys) = (ys.map TL.tl).flatten := by
  have e0 : TL.tl ("" : Str) = [] := by decide +kernel
  have key : ∀ zs : List (List Nat), TL.joinL [] zs = zs.flatten := by
    intro zs
    induction zs with
    | nil => rfl
    | cons p r ih =>
      cases r with
      | nil => simp [TL.joinL]
      | cons q r => simp only [TL.joinL, List.nil_append, List.flatten_cons] at ih ⊢; rw [ih]
  intro ys
  rw [TL.join_eq, TL.tl_join, e0, key]
theorem cut_mem {z : Str} {lo hi : Option Int} {c : Nat} (h : c ∈ TL.tl (cutS z lo hi)) : c ∈ TL.tl z := List.mem_of_mem_drop (List.mem_of_mem_take h)
theorem cut_len (z : Str) (lo hi : Option Int) : (cutS z lo hi).length ≤ z.length := by
  rw [← tl_len, ← tl_len]
  show ((_ : List Nat).take _).length ≤ _
  rw [List.length_take, List.length_drop]
  exact Nat.le_trans (Nat.min_le_right _ _) (Nat.sub_le _ _)
theorem cut_two (z : Str) {i : Int} (h0 : 0 ≤ i) : (TL.tl (cutS z none (some i))).length + (TL.tl (cutS z (some i) none)).length ≤ z.length := by
  have e : (i.toNat : Int) = i := Int.toNat_of_nonneg h0
  rw [← e]
  show (((TL.tl z).drop (HT.sIx z.length 0 none)).take (HT.sIx z.length z.length (some (i.toNat : Int)) - HT.sIx z.length 0 none)).length + (((TL.tl z).drop (HT.sIx z.length 0 (some (i.toNat : Int)))).take (HT.sIx z.length z.length none - HT.sIx z.length 0 (some (i.toNat : Int)))).length ≤ z.length
  rw [HT.sIx_nat, HT.sIx_nat, HT.sIx_none, HT.sIx_none, List.length_take, List.length_take, List.length_drop, List.length_drop, tl_len]
  omega
theorem len_app (a b : Str) : (a ++ b).length = a.length + b.length := by rw [← tl_len, TL.tl_append, List.length_append, tl_len, tl_len]
/-- one of some texts -/
theorem pick_ints {K : Frag} {H : Hp} {Q : VK} {E : XK} {b l : Addr} {xs : List V} (hB : Bag H b) (h : H l = some (.lst xs)) (h0 : xs ≠ []) (h1 : xs.length ≤ 10000) (q : ∀ x ∈ xs, Q x H) : sp_law_pick K [.ref b, .ref l] H Q E :=
  ⟨b, .ref l, rfl, hB, Or.inl ⟨l, xs, rfl, Evl.sq_of h, h0, h1, q⟩⟩
theorem pull_n {K : Frag} {H : Hp} {Q : VK} {E : XK} {b : Addr} {n : Int} (hB : Bag H b) (h0 : 0 < n) (h1 : n < 2 ^ 40) (q : ∀ d : Int, 0 ≤ d → d < n → Q (.int d) H) : sp_law_pull K [.ref b, .int n] H Q E :=
  ⟨b, n, rfl, hB, h0, small_log h0 h1, q⟩
theorem pure_law_words {K : Frag} (vs : List V) (H : Hp) (Q : VK) (E : XK) (h : sp_law_words K vs H Q E) : t_law_words K ⟨fun _ H' => Q .non H', Q, fun _ _ => False, fun _ _ => False⟩ (start ["bag", "count", "letters", "stem", "k", "at", "first"] vs) H := by
  obtain ⟨b, n, rfl, hB, hn0, hn1, q⟩ := h
  show tSeq _ _ _ [some (.ref b), some (.int n), none, none, none, none, none] H
  walk_at "go"
  refine g_m1 ?_
  walk_at "go"
  refine ⟨⟨_, rfl⟩, ?_⟩
  walk_at "go"
  refine g_newL fun p1 A1 _ f1 i1 => ?_
  walk_at "go"
  have hB1 := Bag.ex f1 hB
  refine pick_ints hB1 i1 (by simp) (by simp) ?_
  have key : ∀ m : Nat, m ≤ 7 → RngOn (fun J H2 => LcOn J (gName 4) tYes (tCall (sp_law_pick K) [] E0 (tCons (tVar 0) (tCons (tVar 2) tNil))) [4] [some (.ref b), some (.int n), some (.str letS), none, none, none, none] (fun y H2 => rJoin K (.str "") [y] H2 fun x H3 => tSeq (tAsg (tTup (tCons (tCall (sp_law_pull K) [] E0 (tCons (tVar 0) (tCons (tOp (xAdd K) (tCB (rLn K) (tCons (tVar 3) tNil)) (tC (.int 1))) tNil))) (tCons (tCall (sp_law_pull K) [] E0 (tCons (tVar 0) (tCons (tC (.int 26)) tNil))) tNil))) (gTup K 2 (gCons (gName 5) (gCons (gName 6) gNil)))) (tRet (tLc (iRng1 (tCons (tVar 1) tNil)) (gName 4) tYes (tOp (xAdd K) (tOp (xAdd K) (tSl (xSl K) (tVar 3) tNoPart (tPart (tVar 5))) (tOp (rIx K) (tVar 2) (tOp xMod (tCB rInt (tCons (tOp (xAdd K) (tVar 6) (tOp xMul (tC (.int 7)) (tVar 4))) tNil)) (tC (.int 26))))) (tSl (xSl K) (tVar 3) (tPart (tVar 5)) tNoPart)) [4])) ⟨fun _ H' => Q .non H', Q, fun _ _ => False, fun _ _ => False⟩ (([some (.ref b), some (.int n), some (.str letS), none, none, none, none] : L2.St).set 3 (some x)) H3) H2) [.int (m : Nat)] A1 := by
    intro m hm
    refine g_rng (by omega) (by omega) ?_
    refine lc_all walk_range (by omega) (fun _ _ => trivial) (fun _ _ y _ => ∃ c, c ∈ TL.tl letS ∧ y = .str ⟨#[c]⟩) (fun _ _ _ _ _ _ h => h) ?_ ?_
    · rintro D i x H2 H3 _ _ hi e2 ⟨rfl, rfl⟩ Nt hN
      walk_at "go"
      refine ⟨rfl, ?_⟩
      walk_at "go"
      refine ⟨b, _, rfl, Bag.ex e2 hB1, Or.inr ⟨letS, rfl, by decide +kernel, by decide +kernel, fun c hc => ?_⟩⟩
      exact hN _ _ (Evl.Ex.refl _) ⟨c, hc, rfl⟩
    · intro D ys A2 hD f2 h2 hl hy
      obtain ⟨cs, rfl, hcs⟩ : ∃ cs : List Nat, ys = (cs.map fun c => (⟨#[c]⟩ : Str)).map V.str ∧ ∀ c ∈ cs, c ∈ TL.tl letS := by
        clear h2 hl
        induction ys with
        | nil => exact ⟨[], rfl, fun _ h => by cases h⟩
        | cons y ys ih =>
          obtain ⟨cs, e, h⟩ := ih fun i z hz => hy (i + 1) z (by simpa using hz)
          obtain ⟨c, hc, rfl⟩ := hy 0 y rfl
          exact ⟨c :: cs, by rw [e]; rfl, fun z hz => by rcases List.mem_cons.mp hz with rfl | hz; exact hc; exact h z hz⟩
      rw [List.length_map, List.length_map] at hl
      have hflat : ((cs.map fun c => (⟨#[c]⟩ : Str)).map TL.tl).flatten = cs := by
        clear h2 hl hy hcs
        induction cs with
        | nil => rfl
        | cons c cs ih => rw [List.map_cons, List.map_cons, List.flatten_cons, ih]; rfl
      have hsum : (((cs.map fun c => (⟨#[c]⟩ : Str)).map (·.length)).sum) = cs.length := by
        clear h2 hl hy hcs hflat
        induction cs with
        | nil => rfl
        | cons c cs ih => rw [List.map_cons, List.map_cons, List.sum_cons, ih, List.length_cons]; show 1 + _ = _; omega
      refine g_join h2 (by rw [hsum, List.length_map]; show cs.length + cs.length * 0 ≤ _; omega) ?_
      have hst : TL.tl (Txt.join "" (cs.map fun c => (⟨#[c]⟩ : Str))) = cs := by rw [join_tl, hflat]
      generalize Txt.join "" (cs.map fun c => (⟨#[c]⟩ : Str)) = stem at hst ⊢
      have hsl : stem.length = m := by rw [← tl_len, hst]; exact hl
      have hB2 := Bag.ex f2 hB1
      walk_at "go"
      refine g_asgG ?_
      walk_at "go"
      refine g_lenS (sz5 (by omega)) ?_
      walk_at "go"
      refine pull_n hB2 (by omega) (by omega) fun at_ a0 a1 => ?_
      walk_at "go"
      refine pull_n hB2 (by omega) (by omega) fun f b0 b1 => ?_
      walk_at "go"
      refine g_newT fun pT AT _ fT iT => ?_
      refine g_pair (Evl.st_of iT) ?_
      walk_at "go"
      refine g_rng hn0 (by omega) ?_
      have c2 := cut_two stem a0
      refine lc_map walk_range (by omega) (fun _ _ => trivial) (fun i => .str (wordOf (TL.tl (cutS stem none (some at_))) (TL.tl (cutS stem (some at_) none)) f i)) ?_ ?_
      · rintro i x H2 H3 hi e2 ⟨rfl, rfl⟩ Nt hN
        walk_at "go"
        refine ⟨rfl, ?_⟩
        walk_at "go"
        refine g_slS (sz5 (by omega)) ?_
        walk_at "go"
        refine g_mul (Or.inl (by omega)) ?_
        walk_at "go"
        refine g_mod (by omega) ?_
        have m0 := Int.emod_nonneg (f + 7 * (0 + (i : Int))) (b := 26) (by omega)
        have m1 := Int.emod_lt_of_pos (f + 7 * (0 + (i : Int))) (b := 26) (by omega)
        have hd : ((f + 7 * (0 + (i : Int))) % 26).toNat < (TL.tl letS).length := by rw [letS_len]; omega
        refine g_ixS (k := (TL.tl letS).getD ((f + 7 * (0 + (i : Int))) % 26).toNat 0) (by rw [← tl_len, letS_len]; exact sz5 (by omega)) ?_ ?_
        · have g : atI (TL.tl letS) ((((f + 7 * (0 + (i : Int))) % 26).toNat : Nat) : Int) = some ((TL.tl letS).getD ((f + 7 * (0 + (i : Int))) % 26).toNat 0) := atI_nat (by rw [List.getD_eq_getElem?_getD, List.getElem?_eq_getElem hd]; rfl)
          rw [Int.toNat_of_nonneg m0] at g
          exact g
        · have l1 := cut_len stem none (some at_)
          have l2 := cut_len stem (some at_) none
          refine g_cat (sz5 (by show _ + 1 ≤ _; omega)) ?_
          walk_at "go"
          refine g_slS (sz5 (by omega)) ?_
          refine g_cat (sz5 (by rw [len_app]; show _ + 1 + _ ≤ _; omega)) ?_
          have e := hN _ (Evl.Ex.refl _)
          have ez : wordOf (TL.tl (cutS stem none (some at_))) (TL.tl (cutS stem (some at_) none)) f i = cutS stem none (some at_) ++ ⟨#[(TL.tl letS).getD ((f + 7 * (0 + (i : Int))) % 26).toNat 0]⟩ ++ cutS stem (some at_) none := by
            refine TL.ext_tl ?_
            rw [TL.tl_append, TL.tl_append]
            show _ ++ [(TL.tl letS).getD ((f + 7 * (i : Int)) % 26).toNat 0] ++ _ = _
            rw [show (0 + (i : Int)) = (i : Int) by omega]
          rw [ez] at e
          exact e
      · intro D2 A3 _ f3 h3
        refine q _ _ f D2 A3 (((f1.trans f2).trans fT).trans f3) ?_ ?_ ?_ b0 b1 h3
        · intro c hc
          exact hcs c (hst ▸ cut_mem hc)
        · intro c hc
          exact hcs c (hst ▸ cut_mem hc)
        · omega
  intro x hx
  simp only [List.mem_cons, List.not_mem_nil, or_false] at hx
  rcases hx with rfl | rfl | rfl | rfl
  · exact key 0 (by omega)
  · exact key 1 (by omega)
  · exact key 2 (by omega)
  · exact key 7 (by omega)
end Cm

set_option Elab.async false
set_option linter.all false
set_option maxRecDepth 100000
set_option maxHeartbeats 3000000
/-! Common part, 9: what a law promises. -/
namespace Cm
open L2 PySem PySem.Spec PyProof.Rows RZ
def sp_law (K : Frag) : Sp := fun vs H Q _ => ∃ (a : Addr) (ns : List Int), vs = [.ref a] ∧ SqL K H a (ns.map V.int) ∧ ns.length ≤ 63 ∧ ∀ H', Q (.bl true) H'
end Cm

set_option Elab.async false
set_option linter.all false
set_option maxRecDepth 100000
set_option maxHeartbeats 3000000
namespace Cm
open L2 PySem PySem.Spec PyProof.Rows RZ
def t_law_k02 (K : Frag) : TS := (tSeq (tAsg (tCall (sp_law_start K) [] E0 (tCons (tVar 0) tNil)) (gName 1)) (tSeq (tFor (iRng1 (tCons (tC (.int 10)) tNil)) (gName 2) (tSeq (tAsg (tOp (rIx K) (tCall (sp_law_words K) [] E0 (tCons (tVar 1) (tCons (tC (.int 1)) tNil))) (tC (.int 0))) (gName 3)) (tSeq (tAsg (tCall (sp_law_pull K) [] E0 (tCons (tVar 1) (tCons (tOp (xAdd K) (tCB (rLn K) (tCons (tVar 3) tNil)) (tC (.int 1))) tNil))) (gName 4)) (tSeq (tAsg (tCall (sp_law_pick K) [] E0 (tCons (tVar 1) (tCons (tLst (tCons (tC (.str "")) (tCons (tC (.str "a")) (tCons (tC (.str "z")) (tCons (tC (.str "A")) (tCons (tC (.str "1")) (tCons (tC (.str " ")) (tCons (tC (.str "_")) (tCons (tC (.str "-")) (tCons (tC (.str "\n")) (tCons (tC (.str "bcdefgh")) tNil))))))))))) tNil))) (gName 5)) (tSeq (tAsg (tOp (xAdd K) (tOp (xAdd K) (tSl (xSl K) (tVar 3) tNoPart (tPart (tVar 4))) (tVar 5)) (tSl (xSl K) (tVar 3) (tPart (tOp (xAdd K) (tVar 4) (tCall (sp_law_pull K) [] E0 (tCons (tVar 1) (tCons (tC (.int 2)) tNil))))) tNoPart)) (gName 6)) (Evl.tCut (tAsg (tAndV (tChain xLe xLe (tC (.int 1)) (tCB (rLn K) (tCons (tVar 6) tNil)) (tC (.int 8))) (tCB (rAll K) (tCons (tLc (iStr (tVar 6)) (gName 8) tYes (tOp (xIn K) (tVar 8) (tC (.str "abcdefghijklmnopqrstuvwxyz"))) [8]) tNil))) (gName 7)) (tSeq (tIfS (tNot (tB (tCall (sp_law_same K 9) [] E0 (tCons (tLst (tCons (tCall (sp_is_name K) [] E0 (tCons (tVar 3) tNil)) (tCons (tCallN 0 1 (sp_is_name K) (fun vs zs => [zs.getD 0 .non]) E0 tNil (tCons (tVar 6) tNil)) tNil))) (tCons (tLst (tCons (tC (.bl true)) (tCons (tVar 7) tNil))) tNil))))) (tRet (tC (.bl false))) tNext) (tSeq (tAsg (tOp xSub (tCall (sp_law_pull K) [] E0 (tCons (tVar 1) (tCons (tC (.int 9)) tNil))) (tC (.int 4))) (gName 9)) (tSeq (tAsg (tCall (sp_law_pick K) [] E0 (tCons (tVar 1) (tCons (tLst (tCons (tC (.int 0)) (tCons (tC (.int 3)) (tCons (tOp xPow (tC (.int 10)) (tC (.int 6))) tNil)))) tNil))) (gName 10)) (tSeq (tAsg (tCall (sp_law_pick K) [] E0 (tCons (tVar 1) (tCons (tLst (tCons (tOp xSub (tVar 9) (tC (.int 1))) (tCons (tVar 9) (tCons (tOp (xAdd K) (tVar 9) (tVar 10)) (tCons (tOp (xAdd K) (tOp (xAdd K) (tVar 9) (tVar 10)) (tC (.int 1))) (tCons (tCall (sp_law_pull K) [] E0 (tCons (tVar 1) (tCons (tOp xPow (tC (.int 10)) (tC (.int 9))) tNil))) tNil)))))) tNil))) (gName 11)) (Evl.tCut (tAsg (tChain xLe xLe (tVar 9) (tVar 11) (tOp (xAdd K) (tVar 9) (tVar 10))) (gName 12)) (tIfS (tNot (tB (tCall (sp_law_same K 9) [] E0 (tCons (tLst (tCons (tCall (sp_is_number K) [] E0 (tCons (tVar 11) (tCons (tVar 9) (tCons (tOp (xAdd K) (tVar 9) (tVar 10)) tNil)))) (tCons (tCallN 0 3 (sp_is_number K) (fun vs zs => [zs.getD 1 .non, zs.getD 2 .non, zs.getD 0 .non]) E0 tNil (tCons (tOp (xAdd K) (tVar 9) (tVar 10)) (tCons (tVar 11) (tCons (tVar 9) tNil)))) tNil))) (tCons (tLst (tCons (tVar 12) (tCons (tVar 12) tNil))) tNil))))) (tRet (tC (.bl false))) tNext)))))))))))) (tSeq (tAsg (tLst (tCons (tC .non) (tCons (tC (.bl true)) (tCons (tC (.bl false)) (tCons (tTup tNil) (tCons (tLst tNil) (tCons (tLst (tCons (tC (.str "a")) tNil)) (tCons (tTup (tCons (tC (.str "a")) tNil)) (tCons (tC (.str "1")) (tCons (tLst (tCons (tC (.int 1)) tNil)) (tCons (tTup (tCons (tC (.int 1)) (tCons (tC (.int 2)) tNil))) tNil))))))))))) (gName 13)) (tSeq (tIfS (tNot (tB (tCall (sp_law_same K 9) [] E0 (tCons (tLc (iList K (tVar 13)) (gName 14) tYes (tCall (sp_is_number K) [] E0 (tCons (tVar 14) (tCons (tUn (rU fun i => .int (-i)) (tC (.int 3))) (tCons (tOp xPow (tC (.int 10)) (tC (.int 20))) tNil)))) [14]) (tCons (tOp xMul (tLst (tCons (tC (.bl false)) tNil)) (tC (.int 10))) tNil))))) (tRet (tC (.bl false))) tNext) (tRet (tCall (sp_law_same K 9) [] E0 (tCons (tLc (iList K (tOp (xAdd K) (tVar 13) (tLst (tCons (tC (.int 3)) (tCons (tC (.str "")) tNil))))) (gName 14) tYes (tCall (sp_is_name K) [] E0 (tCons (tVar 14) tNil)) [14]) (tCons (tOp xMul (tLst (tCons (tC (.bl false)) tNil)) (tC (.int 12))) tNil))))))))
theorem word_ok {pre post : List Nat} {f : Int} {i : Nat} (h1 : letL pre) (h2 : letL post) (hl : pre.length + post.length ≤ 7) (f0 : 0 ≤ f) (f1 : f < 26) : (wordOf pre post f i).length ≤ 8 ∧ isNameS (wordOf pre post f i) = true := by
  have m0 := Int.emod_nonneg (f + 7 * (i : Int)) (b := 26) (by omega)
  have m1 := Int.emod_lt_of_pos (f + 7 * (i : Int)) (b := 26) (by omega)
  have hd : ((f + 7 * (i : Int)) % 26).toNat < (TL.tl letS).length := by rw [letS_len]; omega
  have ht : TL.tl (wordOf pre post f i) = pre ++ [(TL.tl letS).getD ((f + 7 * (i : Int)) % 26).toNat 0] ++ post := rfl
  have hlen : (wordOf pre post f i).length = pre.length + 1 + post.length := by rw [← tl_len, ht]; simp; omega
  refine ⟨by omega, ?_⟩
  unfold isNameS
  rw [ht, hlen]
  have a1 : decide (1 ≤ pre.length + 1 + post.length) = true := by simp; omega
  have a2 : decide (pre.length + 1 + post.length ≤ 8) = true := by simp; omega
  rw [a1, a2]
  simp only [Bool.true_and]
  rw [List.all_eq_true]
  intro c hc
  rw [decide_eq_true_iff]
  rcases List.mem_append.mp hc with hc | hc
  · rcases List.mem_append.mp hc with hc | hc
    · exact h1 c hc
    · obtain rfl := List.mem_singleton.mp hc
      rw [List.getD_eq_getElem?_getD, List.getElem?_eq_getElem hd]
      exact List.getElem_mem hd
  · exact h2 c hc
theorem rep_map (n : Nat) (v : V) : (List.range n).map (fun _ => v) = List.replicate n v := by
  rw [List.map_const']
  rw [List.length_range]
theorem dpa_rep {K : Frag} {H : Hp} {v : V} {d : PyData} (h : Dp K H v d) : ∀ n : Nat, DpAll K H (List.replicate n v) (List.replicate n d)
  | 0 => .nil
  | n + 1 => .cons h (dpa_rep h n)
theorem dpa_app {K : Frag} {H : Hp} : ∀ {xs ys : List V} {ds es : List PyData}, DpAll K H xs ds → DpAll K H ys es → DpAll K H (xs ++ ys) (ds ++ es)
  | _, _, _, _, .nil, h => h
  | _, _, _, _, .cons h t, g => .cons h (dpa_app t g)
/-- the odd things: none a name, none a number -/
def oddD : List PyData := [.none, .bool true, .bool false, .tuple [], .list [], .list [.str "a"], .tuple [.str "a"], .str "1", .list [.int 1], .tuple [.int 1, .int 2]]
theorem pure_law_k02 {K : Frag} (vs : List V) (H : Hp) (Q : VK) (E : XK) (h : sp_law K vs H Q E) : t_law_k02 K ⟨fun _ H' => Q .non H', Q, fun _ _ => False, fun _ _ => False⟩ (start ["script", "bag", "turn_k", "word", "spot", "sign", "bent", "good", "letter", "least", "wide", "here", "due", "odds", "thing"] vs) H := by
  obtain ⟨a, ns, rfl, hS, hl, q⟩ := h
  show tSeq _ _ _ [some (.ref a), none, none, none, none, none, none, none, none, none, none, none, none, none, none] H
  walk_at "go"
  refine ⟨a, ns, rfl, hS, hl, fun b H1 e1 hB => ?_⟩
  walk_at "go"
  refine g_rng (by decide) (by decide) ?_
  refine for_on walk_range (fun i σ H' => ∃ x2 x3 x4 x5 x6 x7 x8 x9 x10 x11 x12 : Option V, σ = [some (.ref a), some (.ref b), x2, x3, x4, x5, x6, x7, x8, x9, x10, x11, x12, none, none] ∧ Bag H' b) ⟨_, _, _, _, _, _, _, _, _, _, _, rfl, hB⟩ (fun _ _ _ _ _ => trivial) ?_ ?_
  · rintro i x σ H2 H3 hi ⟨x2, x3, x4, x5, x6, x7, x8, x9, x10, x11, x12, rfl, hB⟩ ⟨rfl, rfl⟩
    walk_at "go"
    refine ⟨b, 1, rfl, hB, by decide, by decide, fun pre post f p A1 f1 l1 l2 l3 r0 r1 i1 => ?_⟩
    replace hB := Bag.ex f1 hB
    refine g_ixL (Evl.sq_of i1) (v := .str (wordOf pre post f 0)) rfl ?_
    obtain ⟨wl, wn⟩ := word_ok (i := 0) l1 l2 l3 r0 r1
    generalize wordOf pre post f 0 = word at wl wn
    clear i1
    walk_at "go"
    refine g_lenS (sz5 (by omega)) ?_
    walk_at "go"
    refine pull_n hB (by omega) (by omega) fun spot s0 s1 => ?_
    walk_at "go"
    refine g_newL fun p1 A2 _ f2 i2 => ?_
    walk_at "go"
    replace hB := Bag.ex f2 hB
    refine pick_ints hB i2 (by simp) (by simp) fun sg hsg => ?_
    obtain ⟨sign, rfl, hsl⟩ : ∃ s : Str, sg = .str s ∧ s.length ≤ 7 := by
      simp only [List.mem_cons, List.not_mem_nil, or_false] at hsg
      rcases hsg with rfl | rfl | rfl | rfl | rfl | rfl | rfl | rfl | rfl | rfl <;> exact ⟨_, rfl, by decide +kernel⟩
    clear hsg i2
    walk_at "go"
    refine g_slS (sz5 (by omega)) ?_
    have k1 := cut_len word none (some spot)
    walk_at "go"
    refine g_cat ?_ ?_
    · exact sz5 (by omega)
    walk_at "go"
    refine pull_n hB (by omega) (by omega) fun d2 _ _ => ?_
    walk_at "go"
    refine g_slS (sz5 (by omega)) ?_
    have k2 := cut_len word (some (spot + d2)) none
    have k3 : (cutS word none (some spot) ++ sign ++ cutS word (some (spot + d2)) none).length ≤ 30 := by rw [len_app, len_app]; omega
    refine g_cat ?_ ?_
    · exact sz5 (by rw [len_app]; omega)
    generalize cutS word none (some spot) ++ sign ++ cutS word (some (spot + d2)) none = bent at k3 ⊢
    walk_at "go"
    refine ⟨fun σ' H' => (∃ x8 : Option V, σ' = [some (.ref a), some (.ref b), some (.int (0 + (i : Int))), some (.str word), some (.int spot), some (.str sign), some (.str bent), some (.bl (isNameS bent)), x8, x9, x10, x11, x12, none, none]) ∧ Ex A2 H', ?_, ?_⟩
    · have e : ∀ k, isNameS bent = k → ∀ H', Ex A2 H' → (∃ x8' : Option V, [some (V.ref a), some (.ref b), some (.int (0 + (i : Int))), some (.str word), some (.int spot), some (.str sign), some (.str bent), some (.bl k), x8, x9, x10, x11, x12, none, none] = [some (.ref a), some (.ref b), some (.int (0 + (i : Int))), some (.str word), some (.int spot), some (.str sign), some (.str bent), some (.bl (isNameS bent)), x8', x9, x10, x11, x12, none, none]) ∧ Ex A2 H' := fun k hk H' e => by
        subst hk
        exact ⟨⟨_, rfl⟩, e⟩
      walk_at "go"
      refine g_lenS (sz5 (by omega)) ?_
      walk_at "go"
      refine g_iteB (fun h1 => ?_) (fun h1 => ?_)
      · walk_at "go"
        refine g_iteB (fun h2 => ?_) (fun h2 => ?_)
        · walk_at "go"
          refine g_istr ?_
          walk_at "go"
          refine g_onS ?_
          refine lc_map walk_str (by have := tl_len bent; show bent.length ≤ _; omega) (fun _ _ => trivial) (fun i => .bl (decide (bent.cps.toList.getD i 0 ∈ TL.tl letS))) ?_ ?_
          · rintro i x H2 H3 hi e2 ⟨rfl, c, hc, rfl⟩ Nt hN
            walk_at "go"
            refine ⟨rfl, ?_⟩
            walk_at "go"
            refine g_inS ?_
            have hc2 : bent.cps.toList.getD i 0 = c := by
              rw [List.getD_eq_getElem?_getD, Array.getElem?_toList, hc]
              rfl
            have := hN _ (Evl.Ex.refl _)
            rw [hc2] at this
            exact this
          · intro D H' hD e1 h
            walk_at "go"
            rw [range_map_tl bent (fun c => .bl (decide (c ∈ TL.tl letS)))] at h
            have h3 : H' D = some (.lst (((TL.tl bent).map fun c => decide (c ∈ TL.tl letS)).map V.bl)) := by
              rw [h, List.map_map]
              rfl
            refine g_allB h3 ?_
            refine e _ ?_ H' e1
            simp at h1 h2
            have a1 : decide (1 ≤ bent.length) = true := by simp; omega
            have a2 : decide (bent.length ≤ 8) = true := by simp; omega
            show (decide (1 ≤ bent.length) && decide (bent.length ≤ 8) && (TL.tl bent).all fun c => decide (c ∈ TL.tl letS)) = _
            rw [a1, a2, List.all_map]
            rfl
        · refine e _ ?_ _ (Evl.Ex.refl _)
          simp at h1 h2
          simp [isNameS]
          omega
      · walk_at "go"
        refine g_iteB (fun h => by cases h) (fun _ => ?_)
        walk_at "go"
        refine e _ ?_ _ (Evl.Ex.refl _)
        simp at h1
        simp [isNameS]
        omega
    · rintro σ' A3 ⟨⟨x8, rfl⟩, f3⟩
      replace hB := Bag.ex f3 hB
      walk_at "go"
      refine ⟨_, .str word, rfl, .str _, (by show word.length ≤ _; omega), fun A4 f4 => ?_⟩
      walk_at "go"
      refine ⟨rfl, rfl, _, .str bent, rfl, .str _, (by show bent.length ≤ _; omega), fun A5 f5 => ?_⟩
      walk_at "go"
      refine g_newL fun p1 A6 _ f6 i6 => ?_
      walk_at "go"
      refine g_newL fun p2 A7 _ f7 i7 => ?_
      walk_at "go"
      have ew : isNameD (.str word) = true := wn
      rw [ew] at i6
      refine ⟨_, _, .list [.bool true, .bool (isNameS bent)], rfl, dp_lst (f7 _ _ i6) (.cons (.bl _) (.cons (.bl _) .nil)), dp_lst i7 (.cons (.bl _) (.cons (.bl _) .nil)), by simp [fit1, fit], fun A8 f8 => ?_⟩
      replace hB := Bag.ex ((((f4.trans f5).trans f6).trans f7).trans f8) hB
      clear i6 i7
      walk_at "go"
      refine g_iteB (fun h => by cases h) (fun _ => ?_)
      walk_at "go"
      refine pull_n hB (by omega) (by omega) fun least0 _ _ => ?_
      walk_at "go"
      generalize least0 - 4 = least
      refine g_pow ⟨by decide, by decide, by decide⟩ ?_
      walk_at "go"
      refine g_newL fun p3 A9 _ f9 i9 => ?_
      walk_at "go"
      replace hB := Bag.ex f9 hB
      refine pick_ints hB i9 (by simp) (by simp) fun wd hwd => ?_
      obtain ⟨wide, rfl⟩ : ∃ s : Int, wd = .int s := by
        simp only [List.mem_cons, List.not_mem_nil, or_false] at hwd
        rcases hwd with rfl | rfl | rfl <;> exact ⟨_, rfl⟩
      clear hwd i9
      walk_at "go"
      refine g_pow ⟨by decide, by decide, by decide⟩ ?_
      walk_at "go"
      refine pull_n hB (by decide) (by decide) fun far _ _ => ?_
      walk_at "go"
      refine g_newL fun p4 B1 _ j1 k1' => ?_
      walk_at "go"
      replace hB := Bag.ex j1 hB
      refine pick_ints hB k1' (by simp) (by simp) fun hr hhr => ?_
      obtain ⟨here, rfl⟩ : ∃ s : Int, hr = .int s := by
        simp only [List.mem_cons, List.not_mem_nil, or_false] at hhr
        rcases hhr with rfl | rfl | rfl | rfl | rfl <;> exact ⟨_, rfl⟩
      clear hhr k1'
      walk_at "go"
      refine ⟨fun σ' H' => σ' = [some (.ref a), some (.ref b), some (.int (0 + (i : Int))), some (.str word), some (.int spot), some (.str sign), some (.str bent), some (.bl (isNameS bent)), x8, some (.int least), some (.int wide), some (.int here), some (.bl (isNumD (.int here) least (least + wide))), none, none] ∧ H' = B1, ?_, ?_⟩
      · have ek : ∀ k, isNumD (.int here) least (least + wide) = k → [some (V.ref a), some (.ref b), some (.int (0 + (i : Int))), some (.str word), some (.int spot), some (.str sign), some (.str bent), some (.bl (isNameS bent)), x8, some (.int least), some (.int wide), some (.int here), some (.bl k), none, none] = [some (.ref a), some (.ref b), some (.int (0 + (i : Int))), some (.str word), some (.int spot), some (.str sign), some (.str bent), some (.bl (isNameS bent)), x8, some (.int least), some (.int wide), some (.int here), some (.bl (isNumD (.int here) least (least + wide))), none, none] ∧ B1 = B1 := fun k hk => by
          subst hk
          exact ⟨rfl, rfl⟩
        walk_at "go"
        refine g_iteB (fun h1 => ?_) (fun h1 => ?_)
        · walk_at "go"
          refine ek _ ?_
          show (decide (least ≤ here) && decide (here ≤ least + wide)) = _
          rw [h1]
          rfl
        · walk_at "go"
          refine ek _ ?_
          show (decide (least ≤ here) && decide (here ≤ least + wide)) = _
          rw [h1]
          rfl
      · rintro σ' _ ⟨rfl, rfl⟩
        walk_at "go"
        refine ⟨_, .int here, least, least + wide, rfl, .int _, fun B2 j2 => ?_⟩
        walk_at "go"
        refine ⟨rfl, rfl, _, .int here, least, least + wide, rfl, .int _, fun B3 j3 => ?_⟩
        walk_at "go"
        refine g_newL fun p1 B4 _ j4 k4 => ?_
        walk_at "go"
        refine g_newL fun p2 B5 _ j5 k5 => ?_
        walk_at "go"
        refine ⟨_, _, .list [.bool (isNumD (.int here) least (least + wide)), .bool (isNumD (.int here) least (least + wide))], rfl, dp_lst (j5 _ _ k4) (.cons (.bl _) (.cons (.bl _) .nil)), dp_lst k5 (.cons (.bl _) (.cons (.bl _) .nil)), by simp [fit1, fit], fun B6 j6 => ?_⟩
        walk_at "go"
        refine g_iteB (fun h => by cases h) (fun _ => ?_)
        walk_at "go"
        exact ⟨_, _, _, _, _, _, _, _, _, _, _, rfl, Bag.ex ((((j2.trans j3).trans j4).trans j5).trans j6) hB⟩
  · rintro σ' H2 ⟨x2, x3, x4, x5, x6, x7, x8, x9, x10, x11, x12, rfl, hB⟩
    walk_at "go"
    refine g_newT fun p1 A1 _ f1 i1 => ?_
    walk_at "go"
    refine g_newL fun p2 A2 _ f2 i2 => ?_
    walk_at "go"
    refine g_newL fun p3 A3 _ f3 i3 => ?_
    walk_at "go"
    refine g_newT fun p4 A4 _ f4 i4 => ?_
    walk_at "go"
    refine g_newL fun p5 A5 _ f5 i5 => ?_
    walk_at "go"
    refine g_newT fun p6 A6 _ f6 i6 => ?_
    walk_at "go"
    refine g_newL fun p7 A7 _ f7 i7 => ?_
    walk_at "go"
    have hO : DpAll K A7 [.non, .bl true, .bl false, .ref p1, .ref p2, .ref p3, .ref p4, .str "1", .ref p5, .ref p6] oddD := by
      refine .cons .non (.cons (.bl _) (.cons (.bl _) (.cons ?_ (.cons ?_ (.cons ?_ (.cons ?_ (.cons (.str _) (.cons ?_ (.cons ?_ .nil)))))))))
      · exact dp_tup (xs := []) (by walk_at "at") .nil
      · exact dp_lst (xs := []) (by walk_at "at") .nil
      · exact dp_lst (xs := [.str "a"]) (by walk_at "at") (.cons (.str _) .nil)
      · exact dp_tup (xs := [.str "a"]) (by walk_at "at") (.cons (.str _) .nil)
      · exact dp_lst (xs := [.int 1]) (by walk_at "at") (.cons (.int _) .nil)
      · exact dp_tup (xs := [.int 1, .int 2]) (by walk_at "at") (.cons (.int _) (.cons (.int _) .nil))
    clear i1 i2 i3 i4 i5 i6
    refine g_onL (Evl.sq_of i7) ?_
    refine lc_map walk_list (by simp) (fun H' e => Evl.sq_of (e _ _ i7)) (fun _ => .bl false) ?_ ?_
    · rintro i x B1 B2 hi e2 ⟨rfl, hx⟩ Nt hN
      walk_at "go"
      refine ⟨rfl, ?_⟩
      walk_at "go"
      refine g_pow ⟨by decide, by decide, by decide⟩ ?_
      walk_at "go"
      obtain ⟨d, hd1, hd2⟩ := dpa_get hO hx
      refine ⟨_, d, _, _, rfl, up e2 hd2, fun B3 j3 => ?_⟩
      have hf : isNumD d (-3) (10 ^ (20 : Int).toNat) = false := by
        have hm : d ∈ oddD := List.mem_of_getElem? hd1
        simp only [oddD, List.mem_cons, List.not_mem_nil, or_false] at hm
        rcases hm with rfl | rfl | rfl | rfl | rfl | rfl | rfl | rfl | rfl | rfl <;> rfl
      rw [hf]
      exact hN _ j3
    · intro D B1 hD j1 k1
      walk_at "go"
      refine g_newL fun p8 B2 _ j2 k2 => ?_
      walk_at "go"
      refine g_rep k2 (by decide) (by decide) (by simp) fun p9 B3 _ j3 k3 => ?_
      walk_at "go"
      rw [rep_map] at k1
      refine ⟨_, _, .list (List.replicate 10 (.bool false)), rfl, dp_lst (j3 _ _ (j2 _ _ k1)) (dpa_rep (.bl _) _), dp_lst (xs := List.replicate 10 (.bl false)) k3 (dpa_rep (.bl _) _), by simp [fit1, fit], fun B4 j4 => ?_⟩
      walk_at "go"
      refine g_iteB (fun h => by cases h) (fun _ => ?_)
      have jj := ((j1.trans j2).trans j3).trans j4
      replace hO := dpa_ex jj _ _ hO
      replace i7 := jj _ _ i7
      clear k1 k2 k3
      walk_at "go"
      refine g_newL fun p10 C1 _ m1 n1 => ?_
      walk_at "go"
      refine g_lcat (m1 _ _ i7) n1 (sz5 (by simp)) fun p11 C2 _ m2 n2 => ?_
      have hO2 : DpAll K C2 ([.non, .bl true, .bl false, .ref p1, .ref p2, .ref p3, .ref p4, .str "1", .ref p5, .ref p6] ++ [.int 3, .str ""]) (oddD ++ [.int 3, .str ""]) := dpa_ex (m1.trans m2) _ _ (dpa_app hO (.cons (.int _) (.cons (.str _) .nil)))
      refine g_onL (Evl.sq_of n2) ?_
      refine lc_map walk_list (by simp) (fun H' e => Evl.sq_of (e _ _ n2)) (fun _ => .bl false) ?_ ?_
      · rintro i x B1 B2 hi e2 ⟨rfl, hx⟩ Nt hN
        walk_at "go"
        refine ⟨rfl, ?_⟩
        walk_at "go"
        obtain ⟨d, hd1, hd2⟩ := dpa_get hO2 hx
        have hm : d ∈ oddD ++ [.int 3, .str ""] := List.mem_of_getElem? hd1
        simp only [oddD, List.cons_append, List.nil_append, List.mem_cons, List.not_mem_nil, or_false] at hm
        have hf : isNameD d = false ∧ shortD d := by
          rcases hm with rfl | rfl | rfl | rfl | rfl | rfl | rfl | rfl | rfl | rfl | rfl | rfl <;> first | exact ⟨rfl, trivial⟩ | exact ⟨by decide +kernel, by show Str.length _ ≤ 100000; decide +kernel⟩
        refine ⟨_, d, rfl, up e2 hd2, hf.2, fun B3 j3 => ?_⟩
        rw [hf.1]
        exact hN _ j3
      · intro D B1 hD j1 k1
        walk_at "go"
        refine g_newL fun p8 B2 _ j2 k2 => ?_
        walk_at "go"
        refine g_rep k2 (by decide) (by decide) (by simp) fun p9 B3 _ j3 k3 => ?_
        walk_at "go"
        rw [rep_map] at k1
        refine ⟨_, _, .list (List.replicate 12 (.bool false)), rfl, dp_lst (j3 _ _ (j2 _ _ k1)) (dpa_rep (.bl _) _), dp_lst (xs := List.replicate 12 (.bl false)) k3 (dpa_rep (.bl _) _), by simp [fit1, fit], fun B4 j4 => ?_⟩
        exact q B4
end Cm

set_option Elab.async false
set_option linter.all false
set_option maxRecDepth 100000
set_option maxHeartbeats 9000000
namespace K02
open L2 PySem PySem.Spec PyProof.Rows RZ Cm
open C8 (pe_gc)
def top (i : Nat) : Stmt := PySem.Challenge.pw_hushlane_k02_names_and_numbers.main.body.getD i (.Pass ⟨0, 0, 0, 0⟩)
abbrev s_law_start : Stmt := top 7
abbrev N_law_start : List Str := ["script"]
abbrev S_law_start : Scope := defScope s_law_start
abbrev s_law_pull : Stmt := top 8
abbrev N_law_pull : List Str := ["bag", "size", "cell", "digit", "seed"]
abbrev S_law_pull : Scope := defScope s_law_pull
abbrev s_law_pick : Stmt := top 9
abbrev N_law_pick : List Str := ["bag", "some"]
abbrev S_law_pick : Scope := defScope s_law_pick
abbrev s_law_words : Stmt := top 10
abbrev N_law_words : List Str := ["bag", "count", "letters", "stem", "k", "at", "first"]
abbrev S_law_words : Scope := defScope s_law_words
abbrev s_law_kind : Stmt := top 11
abbrev N_law_kind : List Str := ["thing", "marks"]
abbrev S_law_kind : Scope := defScope s_law_kind
abbrev s_law_same : Stmt := top 12
abbrev N_law_same : List Str := ["found", "due", "a", "b"]
abbrev S_law_same : Scope := defScope s_law_same
abbrev s_is_name : Stmt := top 5
abbrev N_is_name : List Str := ["value", "letter"]
abbrev S_is_name : Scope := defScope s_is_name
abbrev s_is_integer : Stmt := top 3
abbrev N_is_integer : List Str := ["value"]
abbrev S_is_integer : Scope := defScope s_is_integer
abbrev s_is_number : Stmt := top 4
abbrev N_is_number : List Str := ["value", "low", "high"]
abbrev S_is_number : Scope := defScope s_is_number
abbrev s_law : Stmt := top 13
abbrev N_law : List Str := ["script", "bag", "turn_k", "word", "spot", "sign", "bent", "good", "letter", "least", "wide", "here", "due", "odds", "thing"]
abbrev S_law : Scope := defScope s_law
local macro_rules | `(tactic| walk_at "kv") => `(tactic| (repeat (first | exact .nil | refine .cons (vals_getD (by assumption)) ?_)))
section
variable {P : Program} {w : World} {K : Frag} {mg : Str → Option Value} {base : Heap} {f : Addr} {fd : FuncData} {es : Array DictEntry} {en : Nat}
theorem sc_law_start : FnScope N_law_start ["script"] S_law_start := ⟨rfl, rfl, rfl, by decide +kernel, rfl, by decide +kernel, by decide +kernel⟩
theorem ok_law_start (F : FunD K "_law_start" "_law_start" (defArgs s_law_start) (defBody s_law_start) S_law_start [] [] f fd) (b_len : mg "len" = none) (b_list : mg "list" = none) : FnOk P w K mg base CX0 (1) f fd ["script"] (sp_law_start K) := by
  refine F.ok sc_law_start (fun vs H Q E h => by first | (obtain ⟨_, rfl, _⟩ := h; rfl) | (obtain ⟨_, _, rfl, _⟩ := h; rfl) | (obtain ⟨_, _, _, rfl, _⟩ := h; rfl) | (obtain ⟨_, _, _, _, rfl, _⟩ := h; rfl) | (obtain ⟨_, _, _, _, _, rfl, _⟩ := h; rfl)) (fun cdv A outer s H vs Q E hr h => ⟨t_law_start K, PSs.nox ?_, pure_law_start vs H Q E h⟩)
  exact (pss_seal (pss_one (ps_ret (pe_lst (pa_cons (pe_callTy cr_list (by rfl) b_list boot_list' (pa_cons (pe_slice sl_x (pv 0) po_none (po_some pe_int)) pa_nil)) (pa_cons pe_int (pa_cons pe_int (pa_cons (pe_op op_xAdd pe_int (pe_callB cr_len (by rfl) b_len boot_ln (pa_cons (pv 0) pa_nil))) (pa_cons pe_int pa_nil)))))))))
theorem sc_law_pull : FnScope N_law_pull ["bag", "size"] S_law_pull := ⟨rfl, rfl, rfl, by decide +kernel, rfl, by decide +kernel, by decide +kernel⟩
theorem ok_law_pull (F : FunD K "_law_pull" "_law_pull" (defArgs s_law_pull) (defBody s_law_pull) S_law_pull [] [] f fd) (b_int : mg "int" = none) (b_len : mg "len" = none) : FnOk P w K mg base CX0 (1) f fd ["bag", "size"] (sp_law_pull K) := by
  refine F.ok sc_law_pull (fun vs H Q E h => by first | (obtain ⟨_, rfl, _⟩ := h; rfl) | (obtain ⟨_, _, rfl, _⟩ := h; rfl) | (obtain ⟨_, _, _, rfl, _⟩ := h; rfl) | (obtain ⟨_, _, _, _, rfl, _⟩ := h; rfl) | (obtain ⟨_, _, _, _, _, rfl, _⟩ := h; rfl)) (fun cdv A outer s H vs Q E hr h => ⟨t_law_pull K, PSs.nox ?_, pure_law_pull vs H Q E h⟩)
  exact (pss_look (Evl.pss_cut (ps_if (PW.pt (pw_and (pt_cmpR (op_xEq hr.units) (pe_ix ix_seq (pv 0) pe_int (fun _ _ => rfl)) pe_int (nomark _)) (pw_and1 (pt_cmpR op_xLt (pe_ix ix_seq (pv 0) pe_int (fun _ _ => rfl)) (pe_callB cr_len (by rfl) b_len boot_ln (pa_cons (pe_ix ix_seq (pv 0) pe_int (fun _ _ => rfl)) pa_nil)) (nomark _))))) (pss_cons (ps_set (i := 2) sc_law_pull.nd rfl (by first | exact Or.inl rfl | exact Or.inr rfl) (pe_ix ix_seq (pe_ix ix_seq (pv 0) pe_int (fun _ _ => rfl)) (pe_ix ix_seq (pv 0) pe_int (fun _ _ => rfl)) (fun _ _ => rfl))) (pss_cons (ps_asg (pe_op op_xAdd (pe_ix ix_seq (pv 0) pe_int (fun _ _ => rfl)) pe_int) (pg_sub (pv 0) pe_int set_list)) (pss_one (ps_if (pt_cmpR op_xGe (pv 2) (pe_op op_xPow pe_int pe_int) (nomark _)) (pss_one (ps_asg (pv 2) (pg_sub (pv 0) pe_int set_list))) (pss_one (ps_asg (pe_op op_xMod (pe_callTy cr_int (by rfl) b_int boot_int' (pa_cons (pe_op op_xAdd (pe_op op_xAdd (pe_op op_xMul (pe_ix ix_seq (pv 0) pe_int (fun _ _ => rfl)) pe_int) (pe_op op_xMul (pe_op op_xMod (pe_callTy cr_int (by rfl) b_int boot_int' (pa_cons (pv 2) pa_nil)) pe_int) pe_int)) pe_int) pa_nil)) pe_int) (pg_sub (pv 0) pe_int set_list))))))) pss_nil) (pss_cons (ps_if (pt_cmpR op_xGt (pe_ix ix_seq (pv 0) pe_int (fun _ _ => rfl)) pe_int (nomark _)) (pss_cons (ps_set (i := 3) sc_law_pull.nd rfl (by first | exact Or.inl rfl | exact Or.inr rfl) (pe_op op_xMod (pe_callTy cr_int (by rfl) b_int boot_int' (pa_cons (pe_ix ix_seq (pv 0) pe_int (fun _ _ => rfl)) pa_nil)) (pv 1))) (pss_cons (ps_asg (pe_op op_xDiv (pe_ix ix_seq (pv 0) pe_int (fun _ _ => rfl)) (pv 1)) (pg_sub (pv 0) pe_int set_list)) (pss_one (ps_ret (pv 3))))) pss_nil) (pss_cons (ps_asg (pe_op op_xAdd (pe_ix ix_seq (pv 0) pe_int (fun _ _ => rfl)) pe_int) (pg_sub (pv 0) pe_int set_list)) (pss_cons (ps_set (i := 4) sc_law_pull.nd rfl (by first | exact Or.inl rfl | exact Or.inr rfl) (pe_ix ix_seq (pv 0) pe_int (fun _ _ => rfl))) (pss_cons (ps_asg (pe_op op_xMod (pe_callTy cr_int (by rfl) b_int boot_int' (pa_cons (pe_op op_xAdd (pe_op op_xAdd (pe_op op_xAdd (pe_op op_xMul (pv 4) (pv 4)) (pe_op op_xMul (pv 4) pe_int)) (pe_op op_xMul (pe_ix ix_seq (pv 0) pe_int (fun _ _ => rfl)) pe_int)) pe_int) pa_nil)) pe_int) (pg_sub (pv 0) pe_int set_list)) (pss_one (ps_ret (pe_op op_xMod (pe_callTy cr_int (by rfl) b_int boot_int' (pa_cons (pe_op op_xAdd (pe_op op_xDiv (pe_ix ix_seq (pv 0) pe_int (fun _ _ => rfl)) pe_int) (pe_op op_xMul (pe_op op_xMod (pe_callTy cr_int (by rfl) b_int boot_int' (pa_cons (pe_ix ix_seq (pv 0) pe_int (fun _ _ => rfl)) pa_nil)) pe_int) pe_int)) pa_nil)) (pv 1))))))))))
theorem sc_law_pick : FnScope N_law_pick ["bag", "some"] S_law_pick := ⟨rfl, rfl, rfl, by decide +kernel, rfl, by decide +kernel, by decide +kernel⟩
theorem ok_law_pick (F : FunD K "_law_pick" "_law_pick" (defArgs s_law_pick) (defBody s_law_pick) S_law_pick [] [] f fd) (f_law_pull : Fn P w K mg base CX0 1 "_law_pull" ["bag", "size"] (sp_law_pull K)) (b_len : mg "len" = none) : FnOk P w K mg base CX0 (2) f fd ["bag", "some"] (sp_law_pick K) := by
  refine F.ok sc_law_pick (fun vs H Q E h => by first | (obtain ⟨_, rfl, _⟩ := h; rfl) | (obtain ⟨_, _, rfl, _⟩ := h; rfl) | (obtain ⟨_, _, _, rfl, _⟩ := h; rfl) | (obtain ⟨_, _, _, _, rfl, _⟩ := h; rfl) | (obtain ⟨_, _, _, _, _, rfl, _⟩ := h; rfl)) (fun cdv A outer s H vs Q E hr h => ⟨t_law_pick K, PSs.nox ?_, pure_law_pick vs H Q E h⟩)
  exact (pss_one (ps_ret (pe_ix ix_seq (pv 1) (pe_fn f_law_pull hr (by omega) (by rfl) pass0 (pa_cons (pv 0) (pa_cons (pe_callB cr_len (by rfl) b_len boot_ln (pa_cons (pv 1) pa_nil)) pa_nil))) (fun _ _ => rfl))))
theorem sc_law_words : FnScope N_law_words ["bag", "count"] S_law_words := ⟨rfl, rfl, rfl, by decide +kernel, rfl, by decide +kernel, by decide +kernel⟩
theorem ok_law_words (F : FunD K "_law_words" "_law_words" (defArgs s_law_words) (defBody s_law_words) S_law_words [] [] f fd) (f_law_pick : Fn P w K mg base CX0 2 "_law_pick" ["bag", "some"] (sp_law_pick K)) (f_law_pull : Fn P w K mg base CX0 1 "_law_pull" ["bag", "size"] (sp_law_pull K)) (b_int : mg "int" = none) (b_len : mg "len" = none) (b_range : mg "range" = none) : FnOk P w K mg base CX0 (3) f fd ["bag", "count"] (sp_law_words K) := by
  refine F.ok sc_law_words (fun vs H Q E h => by first | (obtain ⟨_, rfl, _⟩ := h; rfl) | (obtain ⟨_, _, rfl, _⟩ := h; rfl) | (obtain ⟨_, _, _, rfl, _⟩ := h; rfl) | (obtain ⟨_, _, _, _, rfl, _⟩ := h; rfl) | (obtain ⟨_, _, _, _, _, rfl, _⟩ := h; rfl)) (fun cdv A outer s H vs Q E hr h => ⟨t_law_words K, PSs.nox ?_, pure_law_words vs H Q E h⟩)
  exact (pss_cons (ps_set (i := 2) sc_law_words.nd rfl (by first | exact Or.inl rfl | exact Or.inr rfl) pe_str) (pss_cons (ps_set (i := 3) sc_law_words.nd rfl (by first | exact Or.inl rfl | exact Or.inr rfl) (pe_join pe_str (pe_lc (own := [("k", 4)]) (g := (gName 4)) (tt := tYes) rfl sc_law_words.nd (pi_range1 (by rfl) b_range (pa_cons (pe_fn f_law_pick hr (by omega) (by rfl) pass0 (pa_cons (pv 0) (pa_cons (pe_lst (pa_cons pe_int (pa_cons pe_int (pa_cons pe_int (pa_cons pe_int pa_nil))))) pa_nil))) pa_nil)) (blkOk_by (own := [("k", 4)]) (N := N_law_words) (sc := S_law_words) (by decide +kernel)) (fun _ _ _ _ _ => (pg_name (i := 4) sc_law_words.nd rfl (by first | exact Or.inl rfl | exact Or.inr rfl))) (fun _ _ _ _ _ => pts_nil) (fun _ _ _ _ _ => (pe_fn f_law_pick hr (by omega) (by rfl) pass0 (pa_cons (pv 0) (pa_cons (pv 2) pa_nil))))))) (pss_cons (ps_asg (pe_tup (pa_cons (pe_fn f_law_pull hr (by omega) (by rfl) pass0 (pa_cons (pv 0) (pa_cons (pe_op op_xAdd (pe_callB cr_len (by rfl) b_len boot_ln (pa_cons (pv 3) pa_nil)) pe_int) pa_nil))) (pa_cons (pe_fn f_law_pull hr (by omega) (by rfl) pass0 (pa_cons (pv 0) (pa_cons pe_int pa_nil))) pa_nil))) (pg_tup rfl (pgs_cons (pg_name (i := 5) sc_law_words.nd rfl (by first | exact Or.inl rfl | exact Or.inr rfl)) (pgs_cons (pg_name (i := 6) sc_law_words.nd rfl (by first | exact Or.inl rfl | exact Or.inr rfl)) pgs_nil)))) (pss_one (ps_ret (pe_lc (own := [("k", 4)]) (g := (gName 4)) (tt := tYes) rfl sc_law_words.nd (pi_range1 (by rfl) b_range (pa_cons (pv 1) pa_nil)) (blkOk_by (own := [("k", 4)]) (N := N_law_words) (sc := S_law_words) (by decide +kernel)) (fun _ _ _ _ _ => (pg_name (i := 4) sc_law_words.nd rfl (by first | exact Or.inl rfl | exact Or.inr rfl))) (fun _ _ _ _ _ => pts_nil) (fun _ _ _ _ _ => (pe_op op_xAdd (pe_op op_xAdd (pe_slice sl_x (pv 3) po_none (po_some (pv 5))) (pe_ix ix_seq (pv 2) (pe_op op_xMod (pe_callTy cr_int (by rfl) b_int boot_int' (pa_cons (pe_op op_xAdd (pv 6) (pe_op op_xMul pe_int (pv 4))) pa_nil)) pe_int) (fun _ _ => rfl))) (pe_slice sl_x (pv 3) (po_some (pv 5)) po_none)))))))))
theorem sc_law_kind : FnScope N_law_kind ["thing"] S_law_kind := ⟨rfl, rfl, rfl, by decide +kernel, rfl, by decide +kernel, by decide +kernel⟩
theorem ok_law_kind (F : FunD K "_law_kind" "_law_kind" (defArgs s_law_kind) (defBody s_law_kind) S_law_kind [] [] f fd) (b_bool : mg "bool" = none) (b_int : mg "int" = none) (b_isinstance : mg "isinstance" = none) (b_list : mg "list" = none) (b_str : mg "str" = none) (b_tuple : mg "tuple" = none) : FnOk P w K mg base CX0 (1) f fd ["thing"] (sp_law_kind K) := by
  refine F.ok sc_law_kind (fun vs H Q E h => by first | (obtain ⟨_, rfl, _⟩ := h; rfl) | (obtain ⟨_, _, rfl, _⟩ := h; rfl) | (obtain ⟨_, _, _, rfl, _⟩ := h; rfl) | (obtain ⟨_, _, _, _, rfl, _⟩ := h; rfl) | (obtain ⟨_, _, _, _, _, rfl, _⟩ := h; rfl)) (fun cdv A outer s H vs Q E hr h => ⟨t_law_kind K, PSs.nox ?_, pure_law_kind vs H Q E h⟩)
  exact (pss_cons (ps_set (i := 1) sc_law_kind.nd rfl (by first | exact Or.inl rfl | exact Or.inr rfl) (pe_lst (pa_cons (pe_cmpR op_xIsN (pv 0) pe_non (nomark _)) (pa_cons (pe_callB call_isi (by rfl) b_isinstance boot_isinst (pa_cons (pv 0) (pa_cons (pe_bltn (by rfl) b_bool boot_bool' rfl) pa_nil))) (pa_cons (pe_callB call_isi (by rfl) b_isinstance boot_isinst (pa_cons (pv 0) (pa_cons (pe_bltn (by rfl) b_int boot_int' rfl) pa_nil))) (pa_cons (pe_callB call_isi (by rfl) b_isinstance boot_isinst (pa_cons (pv 0) (pa_cons (pe_bltn (by rfl) b_str boot_str' rfl) pa_nil))) pa_nil)))))) (pss_cons (ps_set (i := 1) sc_law_kind.nd rfl (by first | exact Or.inl rfl | exact Or.inr rfl) (pe_op op_xAdd (pv 1) (pe_lst (pa_cons (pe_callB call_isi (by rfl) b_isinstance boot_isinst (pa_cons (pv 0) (pa_cons (pe_bltn (by rfl) b_list boot_list' rfl) pa_nil))) (pa_cons (pe_callB call_isi (by rfl) b_isinstance boot_isinst (pa_cons (pv 0) (pa_cons (pe_bltn (by rfl) b_tuple boot_tuple' rfl) pa_nil))) (pa_cons pe_bl pa_nil)))))) (pss_one (ps_ret (pe_bm PySem.F.plainAttrs_list PySem.F.slot_list_index PySem.F.type_list_index mt_index (pv 1) (pa_cons pe_bl pa_nil))))))
theorem sc_law_same : FnScope N_law_same ["found", "due"] S_law_same := ⟨rfl, rfl, rfl, by decide +kernel, rfl, by decide +kernel, by decide +kernel⟩
theorem ok_law_same (n : Nat) (F : FunD K "_law_same" "_law_same" (defArgs s_law_same) (defBody s_law_same) S_law_same [] [] f fd) (f_law_kind : Fn P w K mg base CX0 1 "_law_kind" ["thing"] (sp_law_kind K)) (f_law_same : Fn P w K mg base CX0 (n + 2) "_law_same" ["found", "due"] (sp_law_same K n)) (b_all : mg "all" = none) (b_len : mg "len" = none) (b_zip : mg "zip" = none) : FnOk P w K mg base CX0 (n + 3) f fd ["found", "due"] (sp_law_same K (n + 1)) := by
  refine F.ok sc_law_same (fun vs H Q E h => by first | (obtain ⟨_, rfl, _⟩ := h; rfl) | (obtain ⟨_, _, rfl, _⟩ := h; rfl) | (obtain ⟨_, _, _, rfl, _⟩ := h; rfl) | (obtain ⟨_, _, _, _, rfl, _⟩ := h; rfl) | (obtain ⟨_, _, _, _, _, rfl, _⟩ := h; rfl)) (fun cdv A outer s H vs Q E hr h => ⟨t_law_same K n, PSs.nox ?_, pure_law_same n vs H Q E h⟩)
  have hu65 : (Around.deeper A (PyProof.Rows.envOfC "_law_same" S_law_same s.heap.objs.size f cdv)).units + 65 < cLine := by have := hr.un; omega
  exact (pss_cons (ps_if (pt_cmpR (op_xNe hr.units) (pe_fn f_law_kind hr (by omega) (by rfl) pass0 (pa_cons (pv 0) pa_nil)) (pe_fn f_law_kind hr (by omega) (by rfl) pass0 (pa_cons (pv 1) pa_nil)) (nomark _)) (pss_one (ps_ret pe_bl)) pss_nil) (pss_cons (ps_if (pt_cmpR (op_xIn hu65) (pe_fn f_law_kind hr (by omega) (by rfl) pass0 (pa_cons (pv 1) pa_nil)) (pe_tup (pa_cons pe_int (pa_cons pe_int pa_nil))) rfl) (pss_one (ps_ret (pe_and (pe_cmpR (op_xEq hr.units) (pe_callB cr_len (by rfl) b_len boot_ln (pa_cons (pv 0) pa_nil)) (pe_callB cr_len (by rfl) b_len boot_ln (pa_cons (pv 1) pa_nil)) (nomark _)) (pe_one (pe_callB (cr_all rfl) (by rfl) b_all boot_all' (pa_cons (pe_lc (own := [("a", 2), ("b", 3)]) (g := (gTup K 2 (gCons (gName 2) (gCons (gName 3) gNil)))) (tt := tYes) rfl sc_law_same.nd (pi_zipA (by rfl) b_zip (pa_cons (pv 0) (pa_cons (pv 1) pa_nil))) (blkOk_by (own := [("a", 2), ("b", 3)]) (N := N_law_same) (sc := S_law_same) (by decide +kernel)) (fun _ _ _ _ _ => (pg_tup rfl (pgs_cons (pg_name (i := 2) sc_law_same.nd rfl (by first | exact Or.inl rfl | exact Or.inr rfl)) (pgs_cons (pg_name (i := 3) sc_law_same.nd rfl (by first | exact Or.inl rfl | exact Or.inr rfl)) pgs_nil)))) (fun _ _ _ _ _ => pts_nil) (fun _ _ _ _ _ => (pe_fn f_law_same hr (by omega) (by rfl) pass0 (pa_cons (pv 2) (pa_cons (pv 3) pa_nil))))) pa_nil)))))) pss_nil) (pss_one (ps_ret (pe_cmpR (op_xEq hr.units) (pv 0) (pv 1) (nomark _))))))
theorem sc_is_name : FnScope N_is_name ["value"] S_is_name := ⟨rfl, rfl, rfl, by decide +kernel, rfl, by decide +kernel, by decide +kernel⟩
theorem ok_is_name (F : FunD K "is_name" "is_name" (defArgs s_is_name) (defBody s_is_name) S_is_name [] [] f fd) (b_all : mg "all" = none) (b_isinstance : mg "isinstance" = none) (b_len : mg "len" = none) (b_str : mg "str" = none) (c_LETTERS : ∃ u, mg "LETTERS" = some u ∧ RelV (.str "abcdefghijklmnopqrstuvwxyz") u) (c_MOST_LETTERS : ∃ u, mg "MOST_LETTERS" = some u ∧ RelV (.int 8) u) : FnOk P w K mg base CX0 (1) f fd ["value"] (sp_is_name K) := by
  refine F.ok sc_is_name (fun vs H Q E h => by first | (obtain ⟨_, rfl, _⟩ := h; rfl) | (obtain ⟨_, _, rfl, _⟩ := h; rfl) | (obtain ⟨_, _, _, rfl, _⟩ := h; rfl) | (obtain ⟨_, _, _, _, rfl, _⟩ := h; rfl) | (obtain ⟨_, _, _, _, _, rfl, _⟩ := h; rfl)) (fun cdv A outer s H vs Q E hr h => ⟨t_is_name K, PSs.nox ?_, pure_is_name vs H Q E h⟩)
  have hu65 : (Around.deeper A (PyProof.Rows.envOfC "is_name" S_is_name s.heap.objs.size f cdv)).units + 65 < cLine := by have := hr.un; omega
  exact (pss_cons (ps_if (PW.pt (pw_or (pt_not (pt_val (pe_callB call_isi (by rfl) b_isinstance boot_isinst (pa_cons (pv 0) (pa_cons (pe_bltn (by rfl) b_str boot_str' rfl) pa_nil))))) (pw_or1 (pt_not (pt_chain op_xLe op_xLe pe_int (pe_callB cr_len (by rfl) b_len boot_ln (pa_cons (pv 0) pa_nil)) (pe_gc (by rfl) c_MOST_LETTERS)))))) (pss_one (ps_ret pe_bl)) pss_nil) (pss_one (ps_ret (pe_callB (cr_all rfl) (by rfl) b_all boot_all' (pa_cons (pe_lc (own := [("letter", 1)]) (g := (gName 1)) (tt := tYes) rfl sc_is_name.nd (pi_str (pv 0)) (blkOk_by (own := [("letter", 1)]) (N := N_is_name) (sc := S_is_name) (by decide +kernel)) (fun _ _ _ _ _ => (pg_name (i := 1) sc_is_name.nd rfl (by first | exact Or.inl rfl | exact Or.inr rfl))) (fun _ _ _ _ _ => pts_nil) (fun _ _ _ _ _ => (pe_cmpR (op_xIn hu65) (pv 1) (pe_gc (by rfl) c_LETTERS) rfl))) pa_nil)))))
theorem sc_is_integer : FnScope N_is_integer ["value"] S_is_integer := ⟨rfl, rfl, rfl, by decide +kernel, rfl, by decide +kernel, by decide +kernel⟩
theorem ok_is_integer (F : FunD K "is_integer" "is_integer" (defArgs s_is_integer) (defBody s_is_integer) S_is_integer [] [] f fd) (b_bool : mg "bool" = none) (b_int : mg "int" = none) (b_isinstance : mg "isinstance" = none) : FnOk P w K mg base CX0 (1) f fd ["value"] (sp_is_integer K) := by
  refine F.ok sc_is_integer (fun vs H Q E h => by first | (obtain ⟨_, rfl, _⟩ := h; rfl) | (obtain ⟨_, _, rfl, _⟩ := h; rfl) | (obtain ⟨_, _, _, rfl, _⟩ := h; rfl) | (obtain ⟨_, _, _, _, rfl, _⟩ := h; rfl) | (obtain ⟨_, _, _, _, _, rfl, _⟩ := h; rfl)) (fun cdv A outer s H vs Q E hr h => ⟨t_is_integer K, PSs.nox ?_, pure_is_integer vs H Q E h⟩)
  exact (pss_one (ps_ret (pe_and (pe_callB call_isi (by rfl) b_isinstance boot_isinst (pa_cons (pv 0) (pa_cons (pe_bltn (by rfl) b_int boot_int' rfl) pa_nil))) (pe_one (pe_not (pe_callB call_isi (by rfl) b_isinstance boot_isinst (pa_cons (pv 0) (pa_cons (pe_bltn (by rfl) b_bool boot_bool' rfl) pa_nil))))))))
theorem sc_is_number : FnScope N_is_number ["value", "low", "high"] S_is_number := ⟨rfl, rfl, rfl, by decide +kernel, rfl, by decide +kernel, by decide +kernel⟩
theorem ok_is_number (F : FunD K "is_number" "is_number" (defArgs s_is_number) (defBody s_is_number) S_is_number [] [] f fd) (f_is_integer : Fn P w K mg base CX0 1 "is_integer" ["value"] (sp_is_integer K)) : FnOk P w K mg base CX0 (2) f fd ["value", "low", "high"] (sp_is_number K) := by
  refine F.ok sc_is_number (fun vs H Q E h => by first | (obtain ⟨_, rfl, _⟩ := h; rfl) | (obtain ⟨_, _, rfl, _⟩ := h; rfl) | (obtain ⟨_, _, _, rfl, _⟩ := h; rfl) | (obtain ⟨_, _, _, _, rfl, _⟩ := h; rfl) | (obtain ⟨_, _, _, _, _, rfl, _⟩ := h; rfl)) (fun cdv A outer s H vs Q E hr h => ⟨t_is_number K, PSs.nox ?_, pure_is_number vs H Q E h⟩)
  exact (pss_one (ps_ret (pe_and (pe_fn f_is_integer hr (by omega) (by rfl) pass0 (pa_cons (pv 0) pa_nil)) (pe_one (pe_chain op_xLe op_xLe (pv 1) (pv 0) (pv 2))))))
theorem sc_law : FnScope N_law ["script"] S_law := ⟨rfl, rfl, rfl, by decide +kernel, rfl, by decide +kernel, by decide +kernel⟩
theorem ok_law (F : FunD K "law" "law" (defArgs s_law) (defBody s_law) S_law [] [] f fd) (f_law_start : Fn P w K mg base CX0 1 "_law_start" ["script"] (sp_law_start K)) (f_law_words : Fn P w K mg base CX0 3 "_law_words" ["bag", "count"] (sp_law_words K)) (f_law_pull : Fn P w K mg base CX0 1 "_law_pull" ["bag", "size"] (sp_law_pull K)) (f_law_pick : Fn P w K mg base CX0 2 "_law_pick" ["bag", "some"] (sp_law_pick K)) (f_law_same : Fn P w K mg base CX0 11 "_law_same" ["found", "due"] (sp_law_same K 9)) (f_is_name_k0_value : FnK P w K mg base CX0 1 "is_name" 0 ["value"] (fun vs zs => [zs.getD 0 .non]) (sp_is_name K)) (f_is_name : Fn P w K mg base CX0 1 "is_name" ["value"] (sp_is_name K)) (f_is_number_k0_high_value_low : FnK P w K mg base CX0 2 "is_number" 0 ["high", "value", "low"] (fun vs zs => [zs.getD 1 .non, zs.getD 2 .non, zs.getD 0 .non]) (sp_is_number K)) (f_is_number : Fn P w K mg base CX0 2 "is_number" ["value", "low", "high"] (sp_is_number K)) (b_all : mg "all" = none) (b_len : mg "len" = none) (b_range : mg "range" = none) : FnOk P w K mg base CX0 (12) f fd ["script"] (sp_law K) := by
  refine F.ok sc_law (fun vs H Q E h => by first | (obtain ⟨_, rfl, _⟩ := h; rfl) | (obtain ⟨_, _, rfl, _⟩ := h; rfl) | (obtain ⟨_, _, _, rfl, _⟩ := h; rfl) | (obtain ⟨_, _, _, _, rfl, _⟩ := h; rfl) | (obtain ⟨_, _, _, _, _, rfl, _⟩ := h; rfl)) (fun cdv A outer s H vs Q E hr h => ⟨t_law_k02 K, PSs.nox ?_, pure_law_k02 vs H Q E h⟩)
  have hu65 : (Around.deeper A (PyProof.Rows.envOfC "law" S_law s.heap.objs.size f cdv)).units + 65 < cLine := by have := hr.un; omega
  exact (pss_cons (ps_set (i := 1) sc_law.nd rfl (by first | exact Or.inl rfl | exact Or.inr rfl) (pe_fn f_law_start hr (by omega) (by rfl) pass0 (pa_cons (pv 0) pa_nil))) (pss_cons (ps_for PassesOwn.never rfl (pi_range1 (by rfl) b_range (pa_cons pe_int pa_nil)) (pg_name (i := 2) sc_law.nd rfl (by first | exact Or.inl rfl | exact Or.inr rfl)) (pss_cons (ps_set (i := 3) sc_law.nd rfl (by first | exact Or.inl rfl | exact Or.inr rfl) (pe_ix ix_seq (pe_fn f_law_words hr (by omega) (by rfl) pass0 (pa_cons (pv 1) (pa_cons pe_int pa_nil))) pe_int (fun _ _ => rfl))) (pss_cons (ps_set (i := 4) sc_law.nd rfl (by first | exact Or.inl rfl | exact Or.inr rfl) (pe_fn f_law_pull hr (by omega) (by rfl) pass0 (pa_cons (pv 1) (pa_cons (pe_op op_xAdd (pe_callB cr_len (by rfl) b_len boot_ln (pa_cons (pv 3) pa_nil)) pe_int) pa_nil)))) (pss_cons (ps_set (i := 5) sc_law.nd rfl (by first | exact Or.inl rfl | exact Or.inr rfl) (pe_fn f_law_pick hr (by omega) (by rfl) pass0 (pa_cons (pv 1) (pa_cons (pe_lst (pa_cons pe_str (pa_cons pe_str (pa_cons pe_str (pa_cons pe_str (pa_cons pe_str (pa_cons pe_str (pa_cons pe_str (pa_cons pe_str (pa_cons pe_str (pa_cons pe_str pa_nil))))))))))) pa_nil)))) (pss_cons (ps_set (i := 6) sc_law.nd rfl (by first | exact Or.inl rfl | exact Or.inr rfl) (pe_op op_xAdd (pe_op op_xAdd (pe_slice sl_x (pv 3) po_none (po_some (pv 4))) (pv 5)) (pe_slice sl_x (pv 3) (po_some (pe_op op_xAdd (pv 4) (pe_fn f_law_pull hr (by omega) (by rfl) pass0 (pa_cons (pv 1) (pa_cons pe_int pa_nil))))) po_none))) (Evl.pss_cut (ps_set (i := 7) sc_law.nd rfl (by first | exact Or.inl rfl | exact Or.inr rfl) (pe_and (pe_chain op_xLe op_xLe pe_int (pe_callB cr_len (by rfl) b_len boot_ln (pa_cons (pv 6) pa_nil)) pe_int) (pe_one (pe_callB (cr_all rfl) (by rfl) b_all boot_all' (pa_cons (pe_lc (own := [("letter", 8)]) (g := (gName 8)) (tt := tYes) rfl sc_law.nd (pi_str (pv 6)) (blkOk_by (own := [("letter", 8)]) (N := N_law) (sc := S_law) (by decide +kernel)) (fun _ _ _ _ _ => (pg_name (i := 8) sc_law.nd rfl (by first | exact Or.inl rfl | exact Or.inr rfl))) (fun _ _ _ _ _ => pts_nil) (fun _ _ _ _ _ => (pe_cmpR (op_xIn hu65) (pv 8) pe_str rfl))) pa_nil))))) (pss_cons (ps_if (pt_not (pt_val (pe_fn f_law_same hr (by omega) (by rfl) pass0 (pa_cons (pe_lst (pa_cons (pe_fn f_is_name hr (by omega) (by rfl) pass0 (pa_cons (pv 3) pa_nil)) (pa_cons (pe_fnk0 f_is_name_k0_value hr (by omega) (by rfl) pass0 (pk_cons (pv 6) pk_nil)) pa_nil))) (pa_cons (pe_lst (pa_cons pe_bl (pa_cons (pv 7) pa_nil))) pa_nil))))) (pss_one (ps_ret pe_bl)) pss_nil) (pss_cons (ps_set (i := 9) sc_law.nd rfl (by first | exact Or.inl rfl | exact Or.inr rfl) (pe_op op_xSub (pe_fn f_law_pull hr (by omega) (by rfl) pass0 (pa_cons (pv 1) (pa_cons pe_int pa_nil))) pe_int)) (pss_cons (ps_set (i := 10) sc_law.nd rfl (by first | exact Or.inl rfl | exact Or.inr rfl) (pe_fn f_law_pick hr (by omega) (by rfl) pass0 (pa_cons (pv 1) (pa_cons (pe_lst (pa_cons pe_int (pa_cons pe_int (pa_cons (pe_op op_xPow pe_int pe_int) pa_nil)))) pa_nil)))) (pss_cons (ps_set (i := 11) sc_law.nd rfl (by first | exact Or.inl rfl | exact Or.inr rfl) (pe_fn f_law_pick hr (by omega) (by rfl) pass0 (pa_cons (pv 1) (pa_cons (pe_lst (pa_cons (pe_op op_xSub (pv 9) pe_int) (pa_cons (pv 9) (pa_cons (pe_op op_xAdd (pv 9) (pv 10)) (pa_cons (pe_op op_xAdd (pe_op op_xAdd (pv 9) (pv 10)) pe_int) (pa_cons (pe_fn f_law_pull hr (by omega) (by rfl) pass0 (pa_cons (pv 1) (pa_cons (pe_op op_xPow pe_int pe_int) pa_nil))) pa_nil)))))) pa_nil)))) (Evl.pss_cut (ps_set (i := 12) sc_law.nd rfl (by first | exact Or.inl rfl | exact Or.inr rfl) (pe_chain op_xLe op_xLe (pv 9) (pv 11) (pe_op op_xAdd (pv 9) (pv 10)))) (pss_one (ps_if (pt_not (pt_val (pe_fn f_law_same hr (by omega) (by rfl) pass0 (pa_cons (pe_lst (pa_cons (pe_fn f_is_number hr (by omega) (by rfl) pass0 (pa_cons (pv 11) (pa_cons (pv 9) (pa_cons (pe_op op_xAdd (pv 9) (pv 10)) pa_nil)))) (pa_cons (pe_fnk0 f_is_number_k0_high_value_low hr (by omega) (by rfl) pass0 (pk_cons (pe_op op_xAdd (pv 9) (pv 10)) (pk_cons (pv 11) (pk_cons (pv 9) pk_nil)))) pa_nil))) (pa_cons (pe_lst (pa_cons (pv 12) (pa_cons (pv 12) pa_nil))) pa_nil))))) (pss_one (ps_ret pe_bl)) pss_nil))))))))))))) (pss_cons (ps_set (i := 13) sc_law.nd rfl (by first | exact Or.inl rfl | exact Or.inr rfl) (pe_lst (pa_cons pe_non (pa_cons pe_bl (pa_cons pe_bl (pa_cons (pe_tup pa_nil) (pa_cons (pe_lst pa_nil) (pa_cons (pe_lst (pa_cons pe_str pa_nil)) (pa_cons (pe_tup (pa_cons pe_str pa_nil)) (pa_cons pe_str (pa_cons (pe_lst (pa_cons pe_int pa_nil)) (pa_cons (pe_tup (pa_cons pe_int (pa_cons pe_int pa_nil))) pa_nil)))))))))))) (pss_cons (ps_if (pt_not (pt_val (pe_fn f_law_same hr (by omega) (by rfl) pass0 (pa_cons (pe_lc (own := [("thing", 14)]) (g := (gName 14)) (tt := tYes) rfl sc_law.nd (pi_list (pv 13)) (blkOk_by (own := [("thing", 14)]) (N := N_law) (sc := S_law) (by decide +kernel)) (fun _ _ _ _ _ => (pg_name (i := 14) sc_law.nd rfl (by first | exact Or.inl rfl | exact Or.inr rfl))) (fun _ _ _ _ _ => pts_nil) (fun _ _ _ _ _ => (pe_fn f_is_number hr (by omega) (by rfl) pass0 (pa_cons (pv 14) (pa_cons (pe_un un_neg pe_int) (pa_cons (pe_op op_xPow pe_int pe_int) pa_nil)))))) (pa_cons (pe_op op_xMul (pe_lst (pa_cons pe_bl pa_nil)) pe_int) pa_nil))))) (pss_one (ps_ret pe_bl)) pss_nil) (pss_one (ps_ret (pe_fn f_law_same hr (by omega) (by rfl) pass0 (pa_cons (pe_lc (own := [("thing", 14)]) (g := (gName 14)) (tt := tYes) rfl sc_law.nd (pi_list (pe_op op_xAdd (pv 13) (pe_lst (pa_cons pe_int (pa_cons pe_str pa_nil))))) (blkOk_by (own := [("thing", 14)]) (N := N_law) (sc := S_law) (by decide +kernel)) (fun _ _ _ _ _ => (pg_name (i := 14) sc_law.nd rfl (by first | exact Or.inl rfl | exact Or.inr rfl))) (fun _ _ _ _ _ => pts_nil) (fun _ _ _ _ _ => (pe_fn f_is_name hr (by omega) (by rfl) pass0 (pa_cons (pv 14) pa_nil)))) (pa_cons (pe_op op_xMul (pe_lst (pa_cons pe_bl pa_nil)) pe_int) pa_nil)))))))))
end
def d_law_start : He.DefD := ⟨("_law_start", none), "_law_start", "_law_start", defArgs s_law_start, defBody s_law_start, defScope s_law_start, [], []⟩
def d_law_pull : He.DefD := ⟨("_law_pull", none), "_law_pull", "_law_pull", defArgs s_law_pull, defBody s_law_pull, defScope s_law_pull, [], []⟩
def d_law_pick : He.DefD := ⟨("_law_pick", none), "_law_pick", "_law_pick", defArgs s_law_pick, defBody s_law_pick, defScope s_law_pick, [], []⟩
def d_law_words : He.DefD := ⟨("_law_words", none), "_law_words", "_law_words", defArgs s_law_words, defBody s_law_words, defScope s_law_words, [], []⟩
def d_law_kind : He.DefD := ⟨("_law_kind", none), "_law_kind", "_law_kind", defArgs s_law_kind, defBody s_law_kind, defScope s_law_kind, [], []⟩
def d_law_same : He.DefD := ⟨("_law_same", none), "_law_same", "_law_same", defArgs s_law_same, defBody s_law_same, defScope s_law_same, [], []⟩
def d_is_name : He.DefD := ⟨("is_name", none), "is_name", "is_name", defArgs s_is_name, defBody s_is_name, defScope s_is_name, [], []⟩
def d_is_integer : He.DefD := ⟨("is_integer", none), "is_integer", "is_integer", defArgs s_is_integer, defBody s_is_integer, defScope s_is_integer, [], []⟩
def d_is_number : He.DefD := ⟨("is_number", none), "is_number", "is_number", defArgs s_is_number, defBody s_is_number, defScope s_is_number, [], []⟩
def d_law : He.DefD := ⟨("law", none), "law", "law", defArgs s_law, defBody s_law, defScope s_law, [], []⟩
def fn : List He.DefD := [d_law_start, d_law_pull, d_law_pick, d_law_words, d_law_kind, d_law_same, d_is_name, d_is_integer, d_is_number, d_law]
def fa : List He.Fa := [.glo "_law_start", .glo "_law_pull", .glo "_law_pick", .glo "_law_words", .glo "_law_kind", .glo "_law_same", .glo "is_name", .glo "is_integer", .glo "is_number", .glo "law", .free "all", .free "bool", .free "int", .free "isinstance", .free "len", .free "list", .free "range", .free "str", .free "tuple", .free "zip", .str "LETTERS" "abcdefghijklmnopqrstuvwxyz", .int "MOST_LETTERS" 8]
def ts : List He.Tab := []
def ex : Frag → Bool := fun K => true
abbrev R : PySem.W.OpenRow := PySem.W.OpenLaw.row PySem.Challenge.rw_hushlane_k02_names_and_numbers
abbrev hk : PySem.W.Hook := He.hookX 4 fa fn ts [] ex
def ob (s : PySem.W.SharedT) : He.AlX := He.obsX 4 fa fn ts [] ex (HandSHeadRun.getT s)
theorem ob_eq (s : PySem.W.SharedT) : ob s = hk.obs s.abs := He.obsX_eq (HandSHeadRun.getT_eq s)
def loose0 : List Str := ["LETTERS", "MOST_LETTERS", "is_integer", "is_number", "is_name", "_law_start", "_law_pull", "_law_pick", "_law_words", "_law_kind", "_law_same"]
abbrev loose : List Str := loose0
theorem run2 (b : Bool) (w : World) : HandSHeadRun.RunEq R (PySem.W.view R.prog [13]) hk ob 2000 loose (w.withFollow "special-get-raises" b) := by
  intro os
  cases b <;> kernel_rfl
theorem run (w : World) : HandSHeadRun.RunEq R (PySem.W.view R.prog [13]) hk ob 2000 loose w := by
  have h := run2 (w.params.followText "special-get-raises") w
  rwa [World.withFollow_self] at h
theorem facts {P : Program} {w : World} {K : Frag} {h h0 : Heap} {mg : Str → Option Value} {f : Addr} (X : K.In h) (G : h.Ns mainGlobals mg) (hfa : mg ("law" : Str) = some (.ref f)) (cx : He.SaysX fa fn ts [] ex w h0 K) :
    ∃ fd : FuncData, (∀ (s : Shared) (v : Value), BindsTo s fd ⟨[v], []⟩ [("script", v)]) ∧ ∀ base : Heap, K.In base → base.Ns mainGlobals mg → FnOk P w K mg base CX0 12 f fd ["script"] (sp_law K) := by
  have c := cx.t.d
  have more := cx.more
  obtain ⟨fd_law_start, F_law_start⟩ := c.def_ 0 (d := d_law_start) rfl
  obtain ⟨fd_law_pull, F_law_pull⟩ := c.def_ 1 (d := d_law_pull) rfl
  obtain ⟨fd_law_pick, F_law_pick⟩ := c.def_ 2 (d := d_law_pick) rfl
  obtain ⟨fd_law_words, F_law_words⟩ := c.def_ 3 (d := d_law_words) rfl
  obtain ⟨fd_law_kind, F_law_kind⟩ := c.def_ 4 (d := d_law_kind) rfl
  obtain ⟨fd_law_same, F_law_same⟩ := c.def_ 5 (d := d_law_same) rfl
  obtain ⟨fd_is_name, F_is_name⟩ := c.def_ 6 (d := d_is_name) rfl
  obtain ⟨fd_is_integer, F_is_integer⟩ := c.def_ 7 (d := d_is_integer) rfl
  obtain ⟨fd_is_number, F_is_number⟩ := c.def_ 8 (d := d_is_number) rfl
  obtain ⟨fd_law, F_law⟩ := c.def_ 9 (d := d_law) rfl
  have g_law_start := He.glo_ok X G (c.fact 0 (f := .glo "_law_start") rfl)
  have g_law_pull := He.glo_ok X G (c.fact 1 (f := .glo "_law_pull") rfl)
  have g_law_pick := He.glo_ok X G (c.fact 2 (f := .glo "_law_pick") rfl)
  have g_law_words := He.glo_ok X G (c.fact 3 (f := .glo "_law_words") rfl)
  have g_law_kind := He.glo_ok X G (c.fact 4 (f := .glo "_law_kind") rfl)
  have g_law_same := He.glo_ok X G (c.fact 5 (f := .glo "_law_same") rfl)
  have g_is_name := He.glo_ok X G (c.fact 6 (f := .glo "is_name") rfl)
  have g_is_integer := He.glo_ok X G (c.fact 7 (f := .glo "is_integer") rfl)
  have g_is_number := He.glo_ok X G (c.fact 8 (f := .glo "is_number") rfl)
  have g_law := He.glo_ok X G (c.fact 9 (f := .glo "law") rfl)
  have b_all := He.free_ok X G (c.fact 10 (f := .free "all") rfl)
  have b_bool := He.free_ok X G (c.fact 11 (f := .free "bool") rfl)
  have b_int := He.free_ok X G (c.fact 12 (f := .free "int") rfl)
  have b_isinstance := He.free_ok X G (c.fact 13 (f := .free "isinstance") rfl)
  have b_len := He.free_ok X G (c.fact 14 (f := .free "len") rfl)
  have b_list := He.free_ok X G (c.fact 15 (f := .free "list") rfl)
  have b_range := He.free_ok X G (c.fact 16 (f := .free "range") rfl)
  have b_str := He.free_ok X G (c.fact 17 (f := .free "str") rfl)
  have b_tuple := He.free_ok X G (c.fact 18 (f := .free "tuple") rfl)
  have b_zip := He.free_ok X G (c.fact 19 (f := .free "zip") rfl)
  have c_LETTERS : ∃ u, mg "LETTERS" = some u ∧ RelV (.str "abcdefghijklmnopqrstuvwxyz") u := let ⟨t, e⟩ := He.str_ok X G (c.fact 20 (f := .str "LETTERS" "abcdefghijklmnopqrstuvwxyz") rfl); ⟨_, e, t, rfl⟩
  have c_MOST_LETTERS : ∃ u, mg "MOST_LETTERS" = some u ∧ RelV (.int 8) u := let ⟨t, e⟩ := He.int_ok X G (c.fact 21 (f := .int "MOST_LETTERS" 8) rfl); ⟨_, e, t, rfl⟩
  have e := hfa.symm.trans g_law
  cases e
  have bL := FunD.bindsA (ps := ["script"]) F_law fun _ _ _ _ _ _ us hl => match us, hl with | [_], _ => rfl
  refine ⟨fd_law, fun s v => bL s [v] rfl, fun base _ _ => ?_⟩
  have bd_law_start : Binds K fd_law_start ["script"] [] := F_law_start.bindsN fun _ _ _ _ _ _ us hl => match us, hl with | [_], _ => rfl
  have ok_law_start := ok_law_start (P := P) (w := w) (mg := mg) (base := base) F_law_start b_len b_list
  have f_law_start : Fn P w K mg base CX0 1 "_law_start" ["script"] (sp_law_start K) := ⟨_, _, ok_law_start, g_law_start, F_law_start.kp, bd_law_start⟩
  have bd_law_pull : Binds K fd_law_pull ["bag", "size"] [] := F_law_pull.bindsN fun _ _ _ _ _ _ us hl => match us, hl with | [_, _], _ => rfl
  have ok_law_pull := ok_law_pull (P := P) (w := w) (mg := mg) (base := base) F_law_pull b_int b_len
  have f_law_pull : Fn P w K mg base CX0 1 "_law_pull" ["bag", "size"] (sp_law_pull K) := ⟨_, _, ok_law_pull, g_law_pull, F_law_pull.kp, bd_law_pull⟩
  have bd_law_pick : Binds K fd_law_pick ["bag", "some"] [] := F_law_pick.bindsN fun _ _ _ _ _ _ us hl => match us, hl with | [_, _], _ => rfl
  have ok_law_pick := ok_law_pick (P := P) (w := w) (mg := mg) (base := base) F_law_pick f_law_pull b_len
  have f_law_pick : Fn P w K mg base CX0 2 "_law_pick" ["bag", "some"] (sp_law_pick K) := ⟨_, _, ok_law_pick, g_law_pick, F_law_pick.kp, bd_law_pick⟩
  have bd_law_words : Binds K fd_law_words ["bag", "count"] [] := F_law_words.bindsN fun _ _ _ _ _ _ us hl => match us, hl with | [_, _], _ => rfl
  have ok_law_words := ok_law_words (P := P) (w := w) (mg := mg) (base := base) F_law_words f_law_pick f_law_pull b_int b_len b_range
  have f_law_words : Fn P w K mg base CX0 3 "_law_words" ["bag", "count"] (sp_law_words K) := ⟨_, _, ok_law_words, g_law_words, F_law_words.kp, bd_law_words⟩
  have bd_law_kind : Binds K fd_law_kind ["thing"] [] := F_law_kind.bindsN fun _ _ _ _ _ _ us hl => match us, hl with | [_], _ => rfl
  have ok_law_kind := ok_law_kind (P := P) (w := w) (mg := mg) (base := base) F_law_kind b_bool b_int b_isinstance b_list b_str b_tuple
  have f_law_kind : Fn P w K mg base CX0 1 "_law_kind" ["thing"] (sp_law_kind K) := ⟨_, _, ok_law_kind, g_law_kind, F_law_kind.kp, bd_law_kind⟩
  have bd_law_same : Binds K fd_law_same ["found", "due"] [] := F_law_same.bindsN fun _ _ _ _ _ _ us hl => match us, hl with | [_, _], _ => rfl
  have hS : ∀ n : Nat, FnOk P w K mg base CX0 (n + 2) (He.fAd K d_law_same.at_) fd_law_same ["found", "due"] (sp_law_same K n) := by
    intro n
    induction n with
    | zero => exact ⟨fun vs H Q E h => by obtain ⟨_, _, _, _, _, _, h, _⟩ := h; exact h.elim, fun _ _ _ _ _ _ _ _ _ _ _ _ _ h => by obtain ⟨_, _, _, _, _, _, h, _⟩ := h; exact h.elim⟩
    | succ n ih => exact ok_law_same n F_law_same f_law_kind ⟨_, _, ih, g_law_same, F_law_same.kp, bd_law_same⟩ b_all b_len b_zip
  have ok_law_same := hS 9
  have f_law_same : Fn P w K mg base CX0 11 "_law_same" ["found", "due"] (sp_law_same K 9) := ⟨_, _, ok_law_same, g_law_same, F_law_same.kp, bd_law_same⟩
  have bd_is_name : Binds K fd_is_name ["value"] [] := F_is_name.bindsN fun _ _ _ _ _ _ us hl => match us, hl with | [_], _ => rfl
  have ok_is_name := ok_is_name (P := P) (w := w) (mg := mg) (base := base) F_is_name b_all b_isinstance b_len b_str c_LETTERS c_MOST_LETTERS
  have f_is_name : Fn P w K mg base CX0 1 "is_name" ["value"] (sp_is_name K) := ⟨_, _, ok_is_name, g_is_name, F_is_name.kp, bd_is_name⟩
  have f_is_name_k0_value : FnK P w K mg base CX0 1 "is_name" 0 ["value"] (fun vs zs => [zs.getD 0 .non]) (sp_is_name K) := by
    refine ⟨_, _, _, (fun vs zs => [zs.getD 0 .none]), ok_is_name, g_is_name, F_is_name.kp, ?_⟩
    exact kbn_of F_is_name rfl (fun _ _ _ _ _ _ us ws h1 h2 => match us, ws, h1, h2 with | [], [_], _, _ => rfl) (fun r1 r2 => by walk_at "kv")
  have bd_is_integer : Binds K fd_is_integer ["value"] [] := F_is_integer.bindsN fun _ _ _ _ _ _ us hl => match us, hl with | [_], _ => rfl
  have ok_is_integer := ok_is_integer (P := P) (w := w) (mg := mg) (base := base) F_is_integer b_bool b_int b_isinstance
  have f_is_integer : Fn P w K mg base CX0 1 "is_integer" ["value"] (sp_is_integer K) := ⟨_, _, ok_is_integer, g_is_integer, F_is_integer.kp, bd_is_integer⟩
  have bd_is_number : Binds K fd_is_number ["value", "low", "high"] [] := F_is_number.bindsN fun _ _ _ _ _ _ us hl => match us, hl with | [_, _, _], _ => rfl
  have ok_is_number := ok_is_number (P := P) (w := w) (mg := mg) (base := base) F_is_number f_is_integer
  have f_is_number : Fn P w K mg base CX0 2 "is_number" ["value", "low", "high"] (sp_is_number K) := ⟨_, _, ok_is_number, g_is_number, F_is_number.kp, bd_is_number⟩
  have f_is_number_k0_high_value_low : FnK P w K mg base CX0 2 "is_number" 0 ["high", "value", "low"] (fun vs zs => [zs.getD 1 .non, zs.getD 2 .non, zs.getD 0 .non]) (sp_is_number K) := by
    refine ⟨_, _, _, (fun vs zs => [zs.getD 1 .none, zs.getD 2 .none, zs.getD 0 .none]), ok_is_number, g_is_number, F_is_number.kp, ?_⟩
    exact kbn_of F_is_number rfl (fun _ _ _ _ _ _ us ws h1 h2 => match us, ws, h1, h2 with | [], [_, _, _], _, _ => rfl) (fun r1 r2 => by walk_at "kv")
  exact ok_law F_law f_law_start f_law_words f_law_pull f_law_pick f_law_same f_is_name_k0_value f_is_name f_is_number_k0_high_value_low f_is_number b_all b_len b_range
end K02
open PySem PySem.W PySem.Calls PyProof.Rows
theorem PySem.Challenge.cw_hushlane_k02_names_and_numbers_holds : PySem.Challenge.rw_hushlane_k02_names_and_numbers.Holds := by
  w_on; o_law
  refine HandSHeadRun.head_any (r := OpenLaw.row PySem.Challenge.rw_hushlane_k02_names_and_numbers) (q := view (OpenLaw.row PySem.Challenge.rw_hushlane_k02_names_and_numbers).prog [13]) (H := K02.hk) (ob := K02.ob) (M := 2000) (loose := K02.loose) (d := HandSHeadRun.topDef (OpenLaw.row PySem.Challenge.rw_hushlane_k02_names_and_numbers).prog 13) (kwd := []) K02.ob_eq
    (by kernel_rfl) (fun s => by kernel_rfl) K02.run (by kernel_rfl) (by kernel_rfl) (by kernel_rfl) (by rfl) (by first | assumption | decide +kernel) (by decide +kernel) ⟨rfl, rfl, rfl, rfl, rfl, by decide +kernel⟩ ?hw ?hc
  case hw => w_witness2
  case hc =>
    refine L2.walk_ofE (l := PySem.Challenge.rw_hushlane_k02_names_and_numbers) (n := 63) (k := 12) (x := "script") (CX := L2.CX0) rfl (by decide) (by kernel_rfl) ⟨rfl, by decide, by decide⟩ ?F (fun _ _ _ _ z => z)
    intro w mg fa h Y G hmg0
    obtain ⟨K, KX, c⟩ := Y
    have hmg : mg ("law" : PySem.Str) = some (.ref fa) := by
      have e : (HandSHeadRun.topDef (OpenLaw.row PySem.Challenge.rw_hushlane_k02_names_and_numbers).prog 13).name = ("law" : PySem.Str) := by kernel_rfl
      rw [← e]
      exact hmg0
    obtain ⟨fd, hb, hF⟩ := K02.facts (P := (PySem.Challenge.rw_hushlane_k02_names_and_numbers).prog) (w := w) KX G hmg c
    exact ⟨K, fd, Cm.sp_law K, KX, hb, fun H a ns hl _ hS => ⟨a, ns, rfl, hS, hl, fun _ => rfl⟩, hF⟩
