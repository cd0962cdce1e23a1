import PyProof.Rows.All
import Wide.All
import OpenK.AllK
import Wide.FinOn
import HandS.ForMost
import HandS.Evl
import HandS.IsInst
import HandS.Deep
import HandS.Wide
import HandS.Defaults
import HandS.More
import HandS.Zip
import HandS.TupAny
import HandS.Head2
import HandS.HeadEnd
import HandS.HeadHook3
import HandS.Codes
import HandS.Walk
import HandS.HeadHook4
import KE.GoesEnum
import HandS.OwnEq
import HandS.Star
import HandS.ExcInit
import HandS.Lambda
import HandS.HeadNt
import HandS.Exc
import HandS.ExcSuper
import HandS.ExcField
import HandS.ExcIs
import KE.KExcSuper
import KE.KExcInit
import KE.KSuper
import KE.KTryMore
import HandS.HotCalls
import HandS.FStr
import HandS.Property
import HandS.ClsMeth
import HandS.WordsExc
import HandS.Style
import HandS.MakeKw
import OpenK.KOps
import OpenK.KMeth
import HandS.Steps
import HandS.HeadWalk
import KE.KDflt
import KE.SortKeyHeap
import HandS.SortKw
import HandS.Keys
import HandS.MakeKwOnly
import HandS.DictComp
import HandS.Text
import HandS.SortInts
import PySem.Challenge.RW_hushlane_k05_lanes_changed
set_option Elab.async false
set_option linter.all false
set_option maxRecDepth 100000
set_option maxHeartbeats 3000000
/-! Common part, 1: the bag of draws as an opaque thing; deep data; steps of a reading. -/
namespace Cm
open L2 PySem PySem.Spec PyProof.Rows
abbrev Ex : Hp → Hp → Prop := Evl.Ex
abbrev Frag := PySem.W.Frag
theorem upd_self {H : Hp} {a : Addr} {o : HO} (h : H a = some o) : upd H a o = H := by
  funext b
  unfold upd
  by_cases e : b = a
  · rw [if_pos e, e, h]
  · rw [if_neg e]
/-! ### the bag -/
def bagL (c : Addr) (i r m k : Int) : List V := [.ref c, .int i, .int r, .int m, .int k]
def bagOk (i r m k : Int) : Prop := 0 ≤ i ∧ 0 ≤ r ∧ 0 ≤ m ∧ m < 4294967296 ∧ 0 ≤ k
def bagP (c b : Addr) : Heap → Prop := fun h => ∃ (i r m k : Int) (its : List Value) (n : Nat), bagOk i r m k ∧ Vals (bagL c i r m k) its ∧ h.get? b = some { cls := .type "list", data := .seq its.toArray n }
/-- b is a bag: what it holds is open, but for its form -/
def Bag (H : Hp) (b : Addr) : Prop := ∃ (c : Addr) (cs : List Int), H b = some (.ext (bagP c b)) ∧ H c = some (.lst (cs.map V.int)) ∧ cs.length ≤ 63
theorem Bag.ex {H H' : Hp} {b : Addr} (e : Ex H H') (h : Bag H b) : Bag H' b := by
  obtain ⟨c, cs, h1, h2, h3⟩ := h
  exact ⟨c, cs, e _ _ h1, e _ _ h2, h3⟩
section
variable {X : Cx} {pins : List (Addr × Obj)} {σ : L2.St} {H : Hp} {s : Shared} {b c : Addr}
/-- the thing at b is known in another way from now on -/
theorem retrack {o : HO} (I : Inv X pins σ H s) (mu : Mut (H b)) (he : ∃ u, s.heap.get? b = some u) (new : ObjOk X.prog X.w (upd H b o) s.heap b o) : Inv X pins σ (upd H b o) s :=
  Inv.write (x := b) (e := b) (h' := s.heap) (t' := s.toks) I mu (Or.inl rfl) (fun _ _ _ q => q) he new
theorem bag_open (I : Inv X pins σ H s) (h : H b = some (.ext (bagP c b))) : ∃ i r m k, bagOk i r m k ∧ Inv X pins σ (upd H b (.lst (bagL c i r m k))) s := by
  obtain ⟨⟨i, r, m, k, its, n, hk, hv, hg⟩, _, _⟩ := I.hok b _ h
  refine ⟨i, r, m, k, hk, retrack I (by rw [h]; exact True.intro) ⟨_, hg⟩ ⟨?_, its, n, hv, hg⟩⟩
  rw [sizeLine_eq]
  show 5 ≤ 16777216
  decide
theorem bag_close {i r m k : Int} (I : Inv X pins σ H s) (h : H b = some (.lst (bagL c i r m k))) (hk : bagOk i r m k) : Inv X pins σ (upd H b (.ext (bagP c b))) s := by
  obtain ⟨_, its, n, hv, hg⟩ := (show ObjOk X.prog X.w H s.heap b (.lst (bagL c i r m k)) from I.hok b _ h)
  refine retrack I (by rw [h]; exact True.intro) ⟨_, hg⟩ ⟨⟨i, r, m, k, its, n, hk, hv, hg⟩, ⟨_, hg⟩, fun h1 h2 => ?_⟩
  rintro ⟨i, r, m, k, its, n, q1, q2, q3⟩ q
  exact ⟨i, r, m, k, its, n, q1, q2, q _ q3⟩
/-- back to the bag -/
def shut (c b : Addr) (P : Hp → Prop) (H : Hp) : Prop := ∃ i r m k, bagOk i r m k ∧ H b = some (.lst (bagL c i r m k)) ∧ P (upd H b (.ext (bagP c b)))
/-- a block that looks into the bag -/
def tLook (t : TS) : TS := fun D σ H => ∃ b c, H b = some (.ext (bagP c b)) ∧ ∀ i r m k, bagOk i r m k →
  t ⟨fun σ' => shut c b (D.nx σ'), fun v => shut c b (D.rt v), fun σ' => shut c b (D.bk σ'), fun σ' => shut c b (D.ct σ')⟩ σ (upd H b (.lst (bagL c i r m k)))
theorem pss_look {body : List Stmt} {t : TS} (h : PSs X body t) : PSs X body (tLook t) := by
  refine ⟨fun pins s σ H D I hw => ?_⟩
  obtain ⟨b, c, hb, hw⟩ := hw
  obtain ⟨i, r, m, k, hk, I1⟩ := bag_open I hb
  refine thn (h.run pins s σ _ _ I1 (hw i r m k hk)) fun f s1 q => ?_
  cases f with
  | next => obtain ⟨σ1, H1, J, i1, r1, m1, k1, q1, q2, q3⟩ := q; exact ⟨σ1, _, bag_close J q2 q1, q3⟩
  | brk => obtain ⟨σ1, H1, J, i1, r1, m1, k1, q1, q2, q3⟩ := q; exact ⟨σ1, _, bag_close J q2 q1, q3⟩
  | cont => obtain ⟨σ1, H1, J, i1, r1, m1, k1, q1, q2, q3⟩ := q; exact ⟨σ1, _, bag_close J q2 q1, q3⟩
  | ret u => obtain ⟨v1, σ1, H1, J, rv, i1, r1, m1, k1, q1, q2, q3⟩ := q; exact ⟨v1, σ1, _, bag_close J q2 q1, rv, q3⟩
/-- a block that makes the bag: a list of its form becomes one -/
def tSeal (t : TS) : TS := fun D σ H => t ⟨D.nx, fun v H' => ∃ b c, v = .ref b ∧ shut c b (D.rt v) H', D.bk, D.ct⟩ σ H
theorem pss_seal {body : List Stmt} {t : TS} (h : PSs X body t) : PSs X body (tSeal t) := by
  refine ⟨fun pins s σ H D I hw => ?_⟩
  refine thn (h.run pins s σ _ _ I hw) fun f s1 q => ?_
  cases f with
  | next => exact q
  | brk => exact q
  | cont => exact q
  | ret u => obtain ⟨v1, σ1, H1, J, rv, b, c, _, i1, r1, m1, k1, q1, q2, q3⟩ := q; exact ⟨v1, σ1, _, bag_close J q2 q1, rv, q3⟩
end
end Cm

set_option Elab.async false
set_option linter.all false
set_option maxRecDepth 100000
set_option maxHeartbeats 3000000
/-! Common part, 2: rules that serve several kinds of values, calls by the def's name. -/
namespace Cm
open L2 PySem PySem.Spec PyProof.Rows
def rStrCat : R2 := fun x y H Q => ∃ i j, x = .str i ∧ y = .str j ∧ i.length + j.length ≤ sizeLine ∧ Q (.str (i ++ j)) H
def xAdd (K : Frag) : R2 := fun x y H Q => rI0 (fun i j => .int (i + j)) x y H Q ∨ (rStrCat x y H Q ∨ (rCat x y H Q ∨ rCatA K x y H Q))
def xSub : R2 := rI0 fun i j => .int (i - j)
def xMul : R2 := fun x y H Q => rI CMul (fun i j => .int (i * j)) x y H Q ∨ rRep x y H Q
def xDiv : R2 := rI CDivW fun i j => .int (i / j)
def xMod : R2 := rI (fun _ j => 0 < j) fun i j => .int (i % j)
def xPow : R2 := rI CPow fun i j => .int (i ^ j.toNat)
def xEq (K : Frag) : R2 := fun x y H Q => rEq x y H Q ∨ rEqD K x y H Q
def xNe (K : Frag) : R2 := fun x y H Q => rNe x y H Q ∨ rNeD K x y H Q
def xLt : R2 := rI0 fun i j => .bl (decide (i < j))
def xLe : R2 := rI0 fun i j => .bl (decide (i ≤ j))
def xGt : R2 := rI0 fun i j => .bl (decide (j < i))
def xGe : R2 := rI0 fun i j => .bl (decide (j ≤ i))
def rSign : R2 := fun x y H Q => ∃ (c : Nat) (z : Str), x = .str ⟨#[c]⟩ ∧ y = .str z ∧ Q (.bl (decide (c ∈ z.cps.toList))) H
def xIn (K : Frag) : R2 := fun x y H Q => rIn K false x y H Q ∨ (rInD K x y H Q ∨ rSign x y H Q)
def xIsN : R2 := fun x y H Q => y = .non ∧ Q (.bl (decide (x = .non))) H
def xNotN : R2 := fun x y H Q => y = .non ∧ Q (.bl (!decide (x = .non))) H
def xSl (K : Frag) : V → Option Int → Option Int → Hp → VK → Prop := fun x lo hi H Q => rSlL K x lo hi H Q ∨ (rSlA K x lo hi H Q ∨ rSlS x lo hi H Q)
section
variable {X : Cx}
theorem op_xAdd : OpR X (binaryOp .Add) (xAdd X.K) := OpR.or op_add (OpR.or op_add_str (OpR.or op_cat op_catA))
theorem op_xSub : OpR X (binaryOp .Sub) xSub := op_sub
theorem op_xMul : OpR X (binaryOp .Mult) xMul := OpR.or op_mul op_rep
theorem op_xDiv : OpR X (binaryOp .FloorDiv) xDiv := op_fdivW
theorem op_xMod : OpR X (binaryOp .Mod) xMod := op_mod
theorem op_xPow : OpR X (binaryOp .Pow) xPow := op_pow
theorem op_xEq (hu : X.A.units + 64 < cLine) : OpR X (compareOp .Eq) (xEq X.K) := OpR.or op_eq (op_eqD hu)
theorem op_xNe (hu : X.A.units + 64 < cLine) : OpR X (compareOp .NotEq) (xNe X.K) := OpR.or op_ne (op_neD hu)
theorem op_xLt : OpR X (compareOp .Lt) xLt := op_lt
theorem op_xLe : OpR X (compareOp .LtE) xLe := op_le
theorem op_xGt : OpR X (compareOp .Gt) xGt := op_gt
theorem op_xGe : OpR X (compareOp .GtE) xGe := op_ge
theorem op_xIn (hu : X.A.units + 65 < cLine) : OpR X (compareOp .In) (xIn X.K) := OpR.or op_in_seq (OpR.or (op_inD hu) op_in_sign)
theorem op_xIsN : OpR X (compareOp .Is) xIsN := op_isN
theorem op_xNotN : OpR X (compareOp .IsNot) xNotN := op_notN
theorem sl_x : SlR X (xSl X.K) := SlR.or sl_list (SlR.or sl_tupA sl_str)
end
/-! ### built-in functions -/
def rLn (K : Frag) : List V → Hp → VK → Prop := fun xs H Q => ∃ x n, xs = [x] ∧ LenV K x H n ∧ Q (.int (n : Nat)) H
def rInt : List V → Hp → VK → Prop := fun xs H Q => (∃ i, xs = [.int i] ∧ Q (.int i) H) ∨ ∃ k, xs = [.bl k] ∧ Q (.int (if k then 1 else 0)) H
def rList (K : Frag) : List V → Hp → VK → Prop := fun xs H Q => ∃ p ys, xs = [.ref p] ∧ (SqL K H p ys ∨ SqT K H p ys) ∧ ∀ l, H l = none → Q (.ref l) (upd H l (.lst ys))
section
variable {X : Cx}
theorem cr_len : CallR X (.builtin "len") (rLn X.K) := call_len
theorem cr_int : CallR X (.type "int") rInt := call_int1
theorem cr_list : CallR X (.type "list") (rList X.K) := call_list_of
theorem boot_isinst : bootBuiltins "isinstance" = some (.builtin "isinstance") := by decide +kernel
theorem boot_ln : bootBuiltins "len" = some (.builtin "len") := by decide +kernel
theorem boot_all' : bootBuiltins "all" = some (.builtin "all") := by decide +kernel
theorem boot_any' : bootBuiltins "any" = some (.builtin "any") := by decide +kernel
theorem boot_int' : bootBuiltins "int" = some (.type "int") := by decide +kernel
theorem boot_bool' : bootBuiltins "bool" = some (.type "bool") := by decide +kernel
theorem boot_str' : bootBuiltins "str" = some (.type "str") := by decide +kernel
theorem boot_list' : bootBuiltins "list" = some (.type "list") := by decide +kernel
theorem boot_tuple' : bootBuiltins "tuple" = some (.type "tuple") := by decide +kernel
end
/-! ### a def by its name -/
structure Fn (P : Program) (w : World) (K : Frag) (mg : Str → Option Value) (base : Heap) (CX : CXT) (k : Nat) (x : Str) (ps : List Str) (sp : Sp) : Prop where
  ex : ∃ (f : Addr) (fd : FuncData), FnOk P w K mg base CX k f fd ps sp ∧ mg x = some (.ref f) ∧ PySem.W.keepIn K (.ref f) = true ∧ Binds K fd ps []
/-- called with keywords ks behind n values -/
structure FnK (P : Program) (w : World) (K : Frag) (mg : Str → Option Value) (base : Heap) (CX : CXT) (k : Nat) (x : Str) (n : Nat) (ks : List Str) (gV : List V → List V → List V) (sp : Sp) : Prop where
  ex : ∃ (f : Addr) (fd : FuncData) (ps : List Str) (g : List Value → List Value → List Value), FnOk P w K mg base CX k f fd ps sp ∧ mg x = some (.ref f) ∧ PySem.W.keepIn K (.ref f) = true ∧ KBn K fd ps n ks g gV
section
variable {X : Cx} {CX : CXT} {j k n : Nat} {x : Str} {ps ks : List Str} {sp : Sp} {E : XK} {p pos : Pos} {e : Expr} {es : List Expr} {kws : List Keyword} {t tk : TA} {gV : List V → List V → List V}
theorem pe_fn (c : Fn X.prog X.w X.K X.mg X.base CX k x ps sp) (hr : Room j X.A) (hk : k ≤ j) (hg : Gl X x) (hx : Passes CX X E) (ha : PA X (e :: es) t) (hdb : (x == ("__debug__" : Str)) = false := by decide)
    (he : starEach (e :: es) X.env = (false, eval e X.env) :: starEach es X.env := by rfl) (hpl : (backTo pos (starEach es X.env)).any (·.1) = false := by rfl) : PE X (.Call (.Name x p) (e :: es) [] pos) (tCall sp [] E t) := by
  obtain ⟨f, fd, F, hm, kp, b⟩ := c.ex
  exact pe_call F (hr.mono hk) hg hm kp b .nil hx ha hdb he hpl
theorem pe_fn0 (c : Fn X.prog X.w X.K X.mg X.base CX k x ps sp) (hr : Room j X.A) (hk : k ≤ j) (hg : Gl X x) (hx : Passes CX X E) (hdb : (x == ("__debug__" : Str)) = false := by decide) : PE X (.Call (.Name x p) [] [] pos) (tCall sp [] E tNil) := by
  obtain ⟨f, fd, F, hm, kp, b⟩ := c.ex
  exact pe_call0 F (hr.mono hk) hg hm kp b .nil hx hdb
theorem pe_fnk {m : Nat} (c : FnK X.prog X.w X.K X.mg X.base CX k x n ks gV sp) (hr : Room j X.A) (hk : k ≤ j) (hg : Gl X x) (hx : Passes CX X E) (ha : PA X (e :: es) t) (hkw : PK X kws tk)
    (hall : (backToKw pos (keywordEach kws X.env)).all (·.1.isSome) = true := by rfl) (hks : (backToKw pos (keywordEach kws X.env)).filterMap (·.1) = ks := by rfl)
    (hdb : (x == ("__debug__" : Str)) = false := by decide) (he : starEach (e :: es) X.env = (false, eval e X.env) :: starEach es X.env := by rfl)
    (hpl : ((backTo pos (starEach (e :: es) X.env)).any (·.1) || (backToKw pos (keywordEach kws X.env)).any (·.1.isNone)) = false := by rfl) (hmm : ks.length = m := by rfl) : PE X (.Call (.Name x p) (e :: es) kws pos) (tCallN n m sp gV E t tk) := by
  obtain ⟨f, fd, ps, g, F, hm, kp, b⟩ := c.ex
  subst hmm
  exact pe_callN F (hr.mono hk) hg hm kp b hx ha hkw hall hks hdb he hpl
theorem pe_fnk0 {m : Nat} (c : FnK X.prog X.w X.K X.mg X.base CX k x 0 ks gV sp) (hr : Room j X.A) (hk : k ≤ j) (hg : Gl X x) (hx : Passes CX X E) (hkw : PK X kws tk)
    (hall : (backToKw pos (keywordEach kws X.env)).all (·.1.isSome) = true := by rfl) (hks : (backToKw pos (keywordEach kws X.env)).filterMap (·.1) = ks := by rfl)
    (hdb : (x == ("__debug__" : Str)) = false := by decide) (hpl : ((backTo pos (starEach [] X.env)).any (·.1) || (backToKw pos (keywordEach kws X.env)).any (·.1.isNone)) = false := by rfl) (hmm : ks.length = m := by rfl) :
    PE X (.Call (.Name x p) [] kws pos) (tCallN 0 m sp gV E tNil tk) := by
  obtain ⟨f, fd, ps, g, F, hm, kp, b⟩ := c.ex
  subst hmm
  refine ⟨fun pins s σ H Q I h => wpAny_Call_Name_kw (ld_glob I hg hm ?_ hdb)⟩
  refine PySem.W.callWith_KW0 (h₀ := X.base) I.mod.kin kp hall (thn (hkw.run pos pins s σ H _ I h) ?_) hpl
  rintro ws s2 ⟨zs, H2, I2, rz, l1, l2, q2⟩
  refine ⟨I2.kIn, ?_⟩
  rw [hks]
  exact run_fnN (us := []) (vs := []) F (hr.mono hk) b hx I2 .nil rz rfl l2 q2
end
/-! ### d.get(k, x), d a written dict -/
def rKget (K : Frag) (d : Addr) : V → V → V → Hp → VK → Prop := fun x y z H Q => ∃ (t : Str) (r : Option Value) (v : V), x = .ref d ∧ y = .str t ∧ PySem.W.nsIn K d t = some r ∧ (∀ u, r = some u → RelV v u) ∧ (r = none → v = z) ∧ Q v H
def tKget (K : Frag) (d : Addr) (td ty tz : TE) : TE := fun σ H Q => td σ H fun x H1 => x = .ref d ∧ ty σ H1 fun y H2 => tz σ H2 fun z H3 => rKget K d x y z H3 Q
section
variable {X : Cx} {d : Addr} {es : Array DictEntry} {n : Nat} {o e f : Expr} {apos cpos : Pos} {td ty tz : TE}
theorem pe_kget (D : KDict X.K X.w d es n) (ho : PE X o td) (he : PE X e ty) (hf : PE X f tz) (m : M2 X o "get" apos e f cpos) : PE X (.Call (.Attribute o "get" apos) [e, f] [] cpos) (tKget X.K d td ty tz) := by
  refine ⟨fun pins s σ H Q I h => ?_⟩
  refine wpAny_Call_method m.base m.few m.line PySem.F.plainAttrs_dict PySem.F.slot_dict_get PySem.F.type_dict_get ?_
  refine thn (ho.run pins s σ H _ I h) ?_
  rintro u s1 ⟨x, H1, I1, rx, ex, q1⟩
  subst ex
  obtain rfl : u = Value.ref d := rx
  have hM := PySem.W.mapOf_K (prog := X.prog) (w := X.w) I1.kIn D.at_ D.lit
  refine ⟨kd_type D I1, fun b q => ?_, ?_⟩
  · cases q
    exact ⟨_, I1.kIn _ _ D.at_, rfl⟩
  rw [m.trees]
  refine Calls.callWith_builtin rfl (Calls.evalArgs_plain (Calls.spliced_cons (thn (he.run pins s1 σ H1 _ I1 q1) ?_)))
  rintro iv s2 ⟨y, H2, I2, ry, q2⟩
  refine Calls.spliced_cons (thn (hf.run pins s2 σ H2 _ I2 q2) ?_)
  rintro fv s3 ⟨z, H3, I3, rz, t, r, v, _, ey, er, h1, h2, q3⟩
  subst ey
  obtain ⟨tk, rfl⟩ := ry
  refine Calls.spliced_nil ?_
  have hM3 := PySem.W.mapOf_K (prog := X.prog) (w := X.w) I3.kIn D.at_ D.lit
  refine call_meetsIn PySem.F.slot_dict_get (kd_type D I3) PySem.F.entry_dict_get (PySem.F.args_dict_get_3 _ _ _) (meets_dict_get_default (strKind X.prog X.w) d (PySem.strKind_is X.prog X.w t tk) D.low fv) ⟨_, hM3, ?_⟩
  rw [PySem.W.find_K D.at_ er]
  cases r with
  | none =>
    have ev := h2 rfl
    subst ev
    exact ⟨_, H3, I3.tok _, rz, q3⟩
  | some u0 => exact ⟨v, H3, I3.tok _, h1 u0 rfl, q3⟩
end
end Cm

set_option Elab.async false
set_option linter.all false
set_option maxRecDepth 100000
set_option maxHeartbeats 3000000
/-! Common part, 3: deep data over growing heaps; one step of a reading at a time. -/
namespace Cm
open L2 PySem PySem.Spec PyProof.Rows
section
variable {K : Frag} {H H' : Hp}
mutual
theorem dp_ex (e : Ex H H') : ∀ (d : PyData) (v : V), Dp K H v d → Dp K H' v d
  | .none, _, h => by cases h; exact .non
  | .bool b, _, h => by cases h; exact .bl b
  | .int i, _, h => by cases h; exact .int i
  | .str x, _, h => by cases h; exact .str x
  | .list ds, _, h => by
    cases h with
    | lst hs ha => exact .lst (Evl.ex_l e hs) (dpa_ex e ds _ ha)
  | .tuple ds, _, h => by
    cases h with
    | tup hs ha => exact .tup (Evl.ex_t e hs) (dpa_ex e ds _ ha)
  | .dict _, _, h => by cases h
theorem dpa_ex (e : Ex H H') : ∀ (ds : List PyData) (vs : List V), DpAll K H vs ds → DpAll K H' vs ds
  | [], _, h => by cases h; exact .nil
  | d :: ds, _, h => by
    cases h with
    | cons h1 h2 => exact .cons (dp_ex e d _ h1) (dpa_ex e ds _ h2)
end
theorem ex_get {a : Addr} {o : HO} (e : Ex H H') (h : H a = some o) : H' a = some o := e a o h
theorem ex_tr {H0 : Hp} (e : Ex H0 H) (f : Ex H H') : Ex H0 H' := Evl.Ex.trans e f
theorem up {v : V} {d : PyData} (e : Ex H H') (h : Dp K H v d) : Dp K H' v d := dp_ex e d v h
theorem dpa_len : ∀ {vs : List V} {ds : List PyData}, DpAll K H vs ds → vs.length = ds.length
  | _, _, .nil => rfl
  | _, _, .cons _ t => congrArg Nat.succ (dpa_len t)
theorem dpa_get : ∀ {vs : List V} {ds : List PyData} {i : Nat} {v : V}, DpAll K H vs ds → vs[i]? = some v → ∃ d, ds[i]? = some d ∧ Dp K H v d
  | _, _, _, _, .nil, e => by simp at e
  | _, _, 0, _, .cons h _, e => by
    simp at e
    subst e
    exact ⟨_, rfl, h⟩
  | _, _, i + 1, v, .cons _ t, e => by
    obtain ⟨d, h1, h2⟩ := dpa_get (i := i) (v := v) t (by simpa using e)
    exact ⟨d, by simpa using h1, h2⟩
theorem dpa_bools : ∀ (bs : List Bool), DpAll K H (bs.map V.bl) (bs.map PyData.bool)
  | [] => .nil
  | b :: bs => .cons (.bl b) (dpa_bools bs)
/-- a list, a tuple just made -/
theorem dp_lst {p : Addr} {xs : List V} {ds : List PyData} (h : H p = some (.lst xs)) (a : DpAll K H xs ds) : Dp K H (.ref p) (.list ds) := .lst (Evl.sq_of h) a
theorem dp_tup {p : Addr} {xs : List V} {ds : List PyData} (h : H p = some (.tup xs)) (a : DpAll K H xs ds) : Dp K H (.ref p) (.tuple ds) := .tup (Evl.st_of h) a
/-! ### kinds -/
def tyD : PyData → String
  | .none => "NoneType" | .bool _ => "bool" | .int _ => "int" | .str _ => "str" | .list _ => "list" | .tuple _ => "tuple" | .dict _ => "dict"
theorem tyx_lst {a : Addr} {xs : List V} (h : SqL K H a xs) : TyX K H (.ref a) (.type "list") := by
  rcases h with (h | ⟨o, h⟩) | ⟨o, its, n, h1, h2, _⟩
  · exact .base (.lst h)
  · exact .base (.frz h)
  · exact .kList h1 h2
theorem tyx_tup {a : Addr} {xs : List V} (h : SqT K H a xs) : TyX K H (.ref a) (.type "tuple") := by
  rcases h with (h | ⟨o, h⟩) | ⟨o, its, n, h1, h2, _⟩
  · exact .base (.tup h)
  · exact .fTuple h
  · exact .kTuple h1 h2
theorem tyx_of {v : V} {d : PyData} (h : Dp K H v d) : TyX K H v (.type (tyD d)) := by
  cases h with
  | non => exact .base .non
  | bl b => exact .base (.bl b)
  | int i => exact .base (.int i)
  | str x => exact .base (.str x)
  | lst hs _ => exact tyx_lst hs
  | tup hs _ => exact tyx_tup hs
/-- isinstance of such data, for the built-in classes that are asked -/
def isiD (d : PyData) (c : String) : Bool := tyD d == c || (c == "int" && tyD d == "bool")
theorem kit_d (K : Frag) {d : PyData} {c : String} (hc : c ∈ ["int", "bool", "str", "list", "tuple"]) : PySem.W.kitOne K (.type (tyD d)) (.type c) = some (isiD d c) := by
  have hd : tyD d ∈ ["NoneType", "bool", "int", "str", "list", "tuple", "dict"] := by cases d <;> simp [tyD]
  unfold isiD
  generalize tyD d = a at hd
  refine kit_ty ?_
  revert a c
  decide +kernel
end
/-! ### the steps -/
section
variable {K : Frag} {σ : L2.St} {H : Hp} {D : Ends} {ta tb tc te : TE} {t u : TS} {c c2 : TT} {g : TG} {w : TA} {i : Nat} {v x y z : V} {r r' : R2} {Q : VK} {QB : Bool → Hp → Prop} {QA : List V → Hp → Prop} {E : XK}
theorem g_seq (h : t { D with nx := u D } σ H) : tSeq t u D σ H := h
theorem g_asg (h : te σ H fun x H1 => D.nx (σ.set i (some x)) H1) : tAsg te (gName i) D σ H := h
theorem g_name {QS : L2.St → Hp → Prop} (q : QS (σ.set i (some v)) H) : gName i v σ H QS := q
theorem g_asgS (h : te σ H fun x H1 => ta σ H1 fun o H2 => tb σ H2 fun j H3 => rSetL o j x H3 fun H4 => D.nx σ H4) : tAsg te (gSub ta tb rSetL) D σ H := h
theorem g_ret (h : te σ H D.rt) : tRet te D σ H := h
theorem g_drop (h : te σ H fun _ H1 => D.nx σ H1) : tDrop te D σ H := h
theorem g_if (h : c σ H fun b H1 => if b = true then t D σ H1 else u D σ H1) : tIfS c t u D σ H := h
theorem g_next (h : D.nx σ H) : tNext D σ H := h
theorem g_par {j : Nat} (h : ta σ H fun x H1 => tb σ H1 fun y H2 => D.nx ((σ.set i (some x)).set j (some y)) H2) : tPar i j (tCons ta (tCons tb tNil)) D σ H := by
  show ta σ H fun x H1 => tb σ H1 fun y H2 => ∃ v w, [x, y] = [v, w] ∧ _
  have e : (fun x H1 => tb σ H1 fun y H2 => D.nx ((σ.set i (some x)).set j (some y)) H2) = (fun x H1 => tb σ H1 fun y H2 => ∃ v w, [x, y] = [v, w] ∧ D.nx ((σ.set i (some v)).set j (some w)) H2) := by
    funext x H1
    congr 1
    funext y H2
    refine propext ⟨fun h => ⟨x, y, rfl, h⟩, ?_⟩
    rintro ⟨v, w, e, h⟩
    simp only [List.cons.injEq, and_true] at e
    rw [e.1, e.2]
    exact h
  exact e ▸ h
theorem g_var (h : σ[i]? = some (some v)) (q : Q v H) : tVar i σ H Q := ⟨v, h, q⟩
theorem g_c (q : Q v H) : tC v σ H Q := q
theorem g_op (h : ta σ H fun x H1 => tb σ H1 fun y H2 => r x y H2 Q) : tOp r ta tb σ H Q := h
theorem g_un {f : V → Hp → VK → Prop} (h : ta σ H fun x H1 => f x H1 Q) : tUn f ta σ H Q := h
theorem g_test (h : ta σ H fun x H1 => ∃ k, x = .bl k ∧ QB k H1) : tTest ta σ H QB := h
theorem g_tB (h : ta σ H fun x H1 => ∃ k, x = .bl k ∧ QB k H1) : tB ta σ H QB := h
theorem g_k {k : Bool} (q : QB k H) : ∃ k', V.bl k = .bl k' ∧ QB k' H := ⟨k, rfl, q⟩
theorem g_not (h : c σ H fun b H1 => QB (!b) H1) : tNot c σ H QB := h
theorem g_and (h : c σ H fun b H1 => if b = true then c2 σ H1 QB else QB false H1) : tAnd c c2 σ H QB := h
theorem g_or (h : c σ H fun b H1 => if b = true then QB true H1 else c2 σ H1 QB) : tOr c c2 σ H QB := h
theorem g_andV (h : ta σ H fun x H1 => ∃ k, x = .bl k ∧ if k = true then tb σ H1 Q else Q (.bl false) H1) : tAndV ta tb σ H Q := h
theorem g_orV (h : ta σ H fun x H1 => ∃ k, x = .bl k ∧ if k = true then Q (.bl true) H1 else tb σ H1 Q) : tOrV ta tb σ H Q := h
theorem g_notV (h : ta σ H fun x H1 => ∃ k, x = .bl k ∧ Q (.bl (!k)) H1) : tNotV ta σ H Q := h
theorem g_kV {k : Bool} {P : Bool → Prop} (q : P k) : ∃ k', V.bl k = .bl k' ∧ P k' := ⟨k, rfl, q⟩
theorem g_ifE (h : c σ H fun b H1 => if b = true then ta σ H1 Q else tb σ H1 Q) : tIf c ta tb σ H Q := h
theorem g_chain (h : ta σ H fun x H1 => tb σ H1 fun y H2 => r x y H2 fun z H3 => ∃ k, z = .bl k ∧ (if k = true then tc σ H3 fun w' H4 => r' y w' H4 Q else Q (.bl false) H3)) : tChain r r' ta tb tc σ H Q := h
theorem g_cons (h : ta σ H fun x H1 => w σ H1 fun xs H2 => QA (x :: xs) H2) : tCons ta w σ H QA := h
theorem g_nil (q : QA [] H) : tNil σ H QA := q
def NewT (Q : VK) (xs : List V) (H : Hp) : Prop := xs.length ≤ sizeLine ∧ ∀ p, H p = none → Q (.ref p) (upd H p (.tup xs))
def NewL (Q : VK) (xs : List V) (H : Hp) : Prop := xs.length ≤ sizeLine ∧ ∀ p, H p = none → Q (.ref p) (upd H p (.lst xs))
theorem g_tup (h : w σ H (NewT Q)) : tTup w σ H Q := h
theorem g_lst (h : w σ H (NewL Q)) : tLst w σ H Q := h
theorem g_new1 {o : HO} (h : ∀ p H1, H p = none → Ex H H1 → H1 p = some o → Q (.ref p) H1) : ∀ p, H p = none → Q (.ref p) (upd H p o) :=
  fun p hp => h p _ hp (Evl.Ex.new hp) upd_same
theorem g_newL {xs : List V} (h : ∀ p H1, H p = none → Ex H H1 → H1 p = some (.lst xs) → Q (.ref p) H1) (hl : xs.length ≤ 100000 := by simp) : NewL Q xs H := ⟨Evl.sz_of hl, g_new1 h⟩
theorem g_newT {xs : List V} (h : ∀ p H1, H p = none → Ex H H1 → H1 p = some (.tup xs) → Q (.ref p) H1) (hl : xs.length ≤ 100000 := by simp) : NewT Q xs H := ⟨Evl.sz_of hl, g_new1 h⟩
theorem g_call {sp : Sp} (h : w σ H fun vs H1 => sp vs H1 Q E) : tCall sp [] E w σ H Q := by
  show w σ H fun vs H1 => sp (vs ++ []) H1 Q E
  simp only [List.append_nil]
  exact h
theorem g_callN {n m : Nat} {sp : Sp} {gV : List V → List V → List V} {wk : TA} (h : w σ H fun vs H1 => wk σ H1 fun zs H2 => vs.length = n ∧ zs.length = m ∧ sp (gV vs zs) H2 Q E) : tCallN n m sp gV E w wk σ H Q := h
theorem g_cb {f : List V → Hp → VK → Prop} (h : w σ H fun vs H1 => f vs H1 Q) : tCB f w σ H Q := h
theorem g_sl {f : V → Option Int → Option Int → Hp → VK → Prop} {tl th : TO} (h : ta σ H fun x H1 => tl σ H1 fun l H2 => th σ H2 fun u H3 => f x l u H3 Q) : tSl f ta tl th σ H Q := h
theorem g_noPart {QO : Option Int → Hp → Prop} (q : QO none H) : tNoPart σ H QO := q
theorem g_part {QO : Option Int → Hp → Prop} (h : ta σ H fun x H1 => ∃ i, x = .int i ∧ QO (some i) H1) : tPart ta σ H QO := h
theorem g_i {n : Int} {P : Int → Prop} (q : P n) : ∃ i, V.int n = .int i ∧ P i := ⟨n, rfl, q⟩
theorem g_bm {T : String} {f : V → List V → Hp → VK → Prop} (h : ta σ H fun x H1 => tyV K T x H1 ∧ w σ H1 fun xs H2 => f x xs H2 Q) : tBM K T f ta w σ H Q := h
/-! operations -/
theorem g_add {a b : Int} (q : Q (.int (a + b)) H) : xAdd K (.int a) (.int b) H Q := Or.inl ⟨a, b, rfl, rfl, q⟩
theorem g_cat {a b : Str} (hl : a.length + b.length ≤ sizeLine) (q : Q (.str (a ++ b)) H) : xAdd K (.str a) (.str b) H Q := Or.inr (Or.inl ⟨a, b, rfl, rfl, hl, q⟩)
theorem g_lcat {a b : Addr} {xs ys : List V} (ha : H a = some (.lst xs)) (hb : H b = some (.lst ys)) (hl : xs.length + ys.length ≤ sizeLine) (h : ∀ p H1, H p = none → Ex H H1 → H1 p = some (.lst (xs ++ ys)) → Q (.ref p) H1) : xAdd K (.ref a) (.ref b) H Q :=
  Or.inr (Or.inr (Or.inl ⟨a, b, xs, ys, rfl, rfl, ha, hb, hl, g_new1 h⟩))
theorem g_sub {a b : Int} (q : Q (.int (a - b)) H) : xSub (.int a) (.int b) H Q := ⟨a, b, rfl, rfl, q⟩
theorem g_mul {a b : Int} (hc : CMul a b) (q : Q (.int (a * b)) H) : xMul (.int a) (.int b) H Q := Or.inl ⟨a, b, rfl, rfl, hc, q⟩
theorem g_rep {a : Addr} {xs : List V} {k : Int} (ha : H a = some (.lst xs)) (h1 : 0 ≤ k) (h2 : k ≤ 100000) (h3 : xs.length ≤ 100) (h : ∀ p H1, H p = none → Ex H H1 → H1 p = some (.lst (List.replicate k.toNat xs).flatten) → Q (.ref p) H1) : xMul (.ref a) (.int k) H Q := by
  refine Or.inr ⟨a, k, xs, rfl, rfl, ha, by omega, by omega, ?_, g_new1 h⟩
  rw [sizeLine_eq]
  have h4 : xs.length * k.toNat ≤ 100 * 100000 := Nat.mul_le_mul h3 (by omega)
  omega
theorem g_div {a b : Int} (hb : 0 < b) (hw : b.natAbs.log2 < 9000) (q : Q (.int (a / b)) H) : xDiv (.int a) (.int b) H Q := ⟨a, b, rfl, rfl, ⟨hb, hw⟩, q⟩
theorem g_mod {a b : Int} (hb : 0 < b) (q : Q (.int (a % b)) H) : xMod (.int a) (.int b) H Q := ⟨a, b, rfl, rfl, hb, q⟩
theorem g_pow {a b : Int} (hc : CPow a b) (q : Q (.int (a ^ b.toNat)) H) : xPow (.int a) (.int b) H Q := ⟨a, b, rfl, rfl, hc, q⟩
theorem g_lt {a b : Int} (q : Q (.bl (decide (a < b))) H) : xLt (.int a) (.int b) H Q := ⟨a, b, rfl, rfl, q⟩
theorem g_le {a b : Int} (q : Q (.bl (decide (a ≤ b))) H) : xLe (.int a) (.int b) H Q := ⟨a, b, rfl, rfl, q⟩
theorem g_gt {a b : Int} (q : Q (.bl (decide (b < a))) H) : xGt (.int a) (.int b) H Q := ⟨a, b, rfl, rfl, q⟩
theorem g_ge {a b : Int} (q : Q (.bl (decide (b ≤ a))) H) : xGe (.int a) (.int b) H Q := ⟨a, b, rfl, rfl, q⟩
theorem g_neg {a : Int} (q : Q (.int (-a)) H) : rU (fun i => .int (-i)) (.int a) H Q := ⟨a, rfl, q⟩
theorem g_eq (hs : scal x y = true) (q : Q (.bl (decide (x = y))) H) : xEq K x y H Q := Or.inl ⟨hs, q⟩
theorem g_eqI {a b : Int} (q : Q (.bl (decide (a = b))) H) : xEq K (.int a) (.int b) H Q := Or.inl ⟨rfl, by
  have e : decide (V.int a = V.int b) = decide (a = b) := by simp
  rw [e]
  exact q⟩
theorem g_neI {a b : Int} (q : Q (.bl (!decide (a = b))) H) : xNe K (.int a) (.int b) H Q := Or.inl ⟨rfl, by
  have e : decide (V.int a = V.int b) = decide (a = b) := by simp
  rw [e]
  exact q⟩
theorem g_isN (q : Q (.bl (decide (x = .non))) H) : xIsN x .non H Q := ⟨rfl, q⟩
theorem g_int {a : Int} (q : Q (.int a) H) : rInt [.int a] H Q := Or.inl ⟨a, rfl, q⟩
theorem g_lenS {s : Str} (hl : s.length ≤ sizeLine) (q : Q (.int (s.length : Nat)) H) : rLn K [.str s] H Q := ⟨_, s.length, rfl, ⟨hl, rfl⟩, q⟩
theorem g_lenL {a : Addr} {xs : List V} (h : SqL K H a xs) (q : Q (.int (xs.length : Nat)) H) : rLn K [.ref a] H Q := ⟨_, xs.length, rfl, Or.inl ⟨xs, h, rfl⟩, q⟩
theorem g_lenT {a : Addr} {xs : List V} (h : SqT K H a xs) (q : Q (.int (xs.length : Nat)) H) : rLn K [.ref a] H Q := ⟨_, xs.length, rfl, Or.inr ⟨xs, h, rfl⟩, q⟩
theorem g_ixL {a : Addr} {xs : List V} {n : Int} (h : SqL K H a xs) (hi : atI xs n = some v) (q : Q v H) : rIx K (.ref a) (.int n) H Q := Or.inl ⟨a, xs, n, v, rfl, rfl, h, hi, q⟩
theorem g_ixT {a : Addr} {xs : List V} {n : Int} (h : SqT K H a xs) (hi : atI xs n = some v) (q : Q v H) : rIx K (.ref a) (.int n) H Q := Or.inr (Or.inl ⟨a, xs, n, v, rfl, rfl, h, hi, q⟩)
theorem g_ixS {s : Str} {n : Int} {k : Nat} (hl : s.length ≤ sizeLine) (hi : atI s.cps.toList n = some k) (q : Q (.str ⟨#[k]⟩) H) : rIx K (.str s) (.int n) H Q := Or.inr (Or.inr ⟨s, n, k, rfl, rfl, hl, hi, q⟩)
theorem g_setL {a : Addr} {xs : List V} {n : Int} {j : Nat} {P : Hp → Prop} (h : H a = some (.lst xs)) (hj : ixN xs.length n = some j) (q : P (upd H a (.lst (xs.set j x)))) : rSetL (.ref a) (.int n) x H P := ⟨a, xs, n, j, rfl, rfl, h, hj, q⟩
theorem g_isi {d : PyData} {cl : String} (h : Dp K H v d) (hc : cl ∈ ["int", "bool", "str", "list", "tuple"]) (q : Q (.bl (isiD d cl)) H) : rIsi K [v, .ty cl] H Q :=
  ⟨v, .ty cl, .type (tyD d), .type cl, isiD d cl, rfl, .ty cl, tyx_of h, kit_d K hc, q⟩
theorem g_list {a : Addr} {xs : List V} (h : SqL K H a xs ∨ SqT K H a xs) (q : ∀ p H1, H p = none → Ex H H1 → H1 p = some (.lst xs) → Q (.ref p) H1) : rList K [.ref a] H Q := ⟨a, xs, rfl, h, g_new1 q⟩
theorem g_inF {a : Addr} {xs : List V} (h : SqL K H a xs ∨ SqT K H a xs) (hx : flatV x = true) (hf : xs.all flatV = true) (q : Q (.bl (inV x xs)) H) : xIn K x (.ref a) H Q :=
  Or.inl ⟨a, xs, rfl, h, hx, hf, q⟩
theorem g_inD {d : PyData} {ds : List PyData} (h : Dp K H x d) (h2 : Dp K H y (.list ds)) (s1 : SeqAt.shaped d = true) (s2 : SeqAt.shaped (.list ds) = true) (q : Q (.bl (ds.any fun z => PyData.eqv z d)) H) : xIn K x y H Q :=
  Or.inr (Or.inl ⟨d, ds, h, h2, s1, s2, q⟩)
theorem g_iteB {b : Bool} {A B : Prop} (h1 : b = true → A) (h2 : b = false → B) : if b = true then A else B := by
  cases b with
  | true => exact iteT (h1 rfl)
  | false => exact iteF (h2 rfl)
end
end Cm

set_option Elab.async false
set_option linter.all false
set_option maxRecDepth 100000
set_option maxHeartbeats 3000000
/-! Common part, 3b: comprehensions and loops whose turns only make new things. -/
namespace Cm
open L2 PySem PySem.Spec PyProof.Rows RZ
/-- all but what stands at D is as it was -/
def ExB (D : Addr) (H H' : Hp) : Prop := ∀ a o, a ≠ D → H a = some o → H' a = some o
theorem ExB.of {D : Addr} {H H' : Hp} (e : Ex H H') : ExB D H H' := fun a o _ h => e a o h
theorem ExB.trans {D : Addr} {H H1 H2 : Hp} (e : ExB D H H1) (f : ExB D H1 H2) : ExB D H H2 := fun a o n h => f a o n (e a o n h)
theorem ExB.upd {D : Addr} {H : Hp} {o : HO} : ExB D H (upd H D o) := fun a u n h => by rw [upd_ne n]; exact h
theorem ExB.ex {D : Addr} {H H' : Hp} (e : ExB D H H') (h : H D = none) : Ex H H' := fun a o q => e a o (ne_of_none q h) q
/-- the i below n that f lets -/
def lets (n : Nat) (f : Nat → Bool) : List Nat := (List.range n).filter f
theorem lets_succ {n : Nat} {f : Nat → Bool} : lets (n + 1) f = lets n f ++ (if f n = true then [n] else []) := by
  unfold lets
  rw [List.range_succ, List.filter_append]
  congr 1
  by_cases h : f n = true
  · rw [if_pos h, List.filter_cons_of_pos h]
    rfl
  · rw [if_neg h, List.filter_cons_of_neg h]
    rfl
theorem lets_len (n : Nat) (f : Nat → Bool) : (lets n f).length ≤ n := by
  have h := List.length_filter_le f (List.range n)
  rw [List.length_range] at h
  exact h
theorem lets_all {n : Nat} {f : Nat → Bool} (h : ∀ i, i < n → f i = true) : lets n f = List.range n := List.filter_eq_self.mpr fun i hi => h i (List.mem_range.mp hi)
section
variable {J : It} {n : Nat} {G : Hp → Prop} {Y : Nat → Hp → V → Hp → Prop} {g : TG} {tt : TT} {te : TE} {vs : List Nat} {σ : L2.St} {H1 : Hp} {Q : VK}
/-- a comprehension over what J walks; a loop over it -/
def LcOn (J : It) (g : TG) (tt : TT) (te : TE) (vs : List Nat) (σ : L2.St) (Q : VK) (H1 : Hp) : Prop := tLc (fun _ _ R => R J H1) g tt te vs σ H1 Q
def ForOn (J : It) (g : TG) (tb : TS) (D : Ends) (σ : L2.St) (H1 : Hp) : Prop := tFor (fun _ _ R => R J H1) g tb D σ H1
theorem g_lc {wi : TI} {H : Hp} (h : wi σ H fun J H2 => LcOn J g tt te vs σ Q H2) : tLc wi g tt te vs σ H Q := h
theorem g_for {wi : TI} {tb : TS} {D : Ends} {H : Hp} (h : wi σ H fun J H2 => ForOn J g tb D σ H2) : tFor wi g tb D σ H := h
theorem for_on (w : Walk J n G Y) {tb : TS} {D : Ends} {H : Hp} (Pv : Nat → L2.St → Hp → Prop) (h0 : Pv 0 σ H) (hG : ∀ i σ H, i ≤ n → Pv i σ H → G H)
    (hs : ∀ i x σ H H', i < n → Pv i σ H → Y i H x H' → g x σ H' fun σ2 H2 => tb { D with nx := Pv (i + 1), ct := Pv (i + 1), bk := D.nx } σ2 H2) (hd : ∀ σ H, Pv n σ H → D.nx σ H) : ForOn J g tb D σ H := for_it w Pv h0 hG hs hd
/-- a comprehension that makes new things alone: its list told place by place -/
theorem lc_if (w : Walk J n G Y) (hn : n ≤ 100000) (hG : ∀ H', Ex H1 H' → G H') (f : Nat → Bool) (R : Addr → Nat → V → Hp → Prop) (hR : ∀ D i v H H', ExB D H H' → R D i v H → R D i v H')
    (hs : ∀ D i x H2 H3, H1 D = none → (∃ ys, H2 D = some (.lst ys)) → i < n → Ex H1 H2 → Y i H2 x H3 → 
      ∀ Nt : VK, (∀ y H5, f i = true → Ex H2 H5 → R D i y H5 → Nt y H5) → ∀ Nf : Hp → Prop, (∀ H5, f i = false → Ex H2 H5 → Nf H5) →
      g x (wipe σ vs) H3 fun σ2 H4 => wipe σ2 vs = wipe σ vs ∧ tt σ2 H4 fun b H5 => if b = true then te σ2 H5 Nt else Nf H5)
    (hd : ∀ D ys H', H1 D = none → Ex H1 H' → H' D = some (.lst ys) → ys.length = (lets n f).length → (∀ (j : Nat) (y : V), ys[j]? = some y → ∃ i, (lets n f)[j]? = some i ∧ R D i y H') → Q (.ref D) H') :
    LcOn J g tt te vs σ Q H1 := by
  intro D hD
  refine lc_it w (Qd := fun H' => Q (.ref D) H') (fun i H' => Ex H1 H' ∧ ∃ ys, H' D = some (.lst ys) ∧ ys.length = (lets i f).length ∧ ∀ (j : Nat) (y : V), ys[j]? = some y → ∃ k, (lets i f)[j]? = some k ∧ R D k y H')
    ⟨Evl.Ex.new hD, [], upd_same, rfl, fun j y e => by simp at e⟩ (fun i H' _ p => hG H' p.1) ?_ ?_
  · rintro i x H2 H3 hi ⟨e, ys, h1, h2, h3⟩ hy
    refine hs D i x H2 H3 hD ⟨ys, h1⟩ hi e hy _ ?_ _ ?_
    · intro y H5 hf e5 r
      refine ⟨ys, e5 _ _ h1, ?_, Evl.Ex.mut (e.trans e5) hD, ys ++ [y], upd_same, ?_, ?_⟩
      · have := lets_len i f
        rw [h2, sizeLine_eq]
        omega
      · rw [lets_succ, if_pos hf, List.length_append, List.length_append, h2]
        rfl
      · intro j y' q
        rw [lets_succ, if_pos hf]
        by_cases hj : j < ys.length
        · rw [List.getElem?_append_left hj] at q
          obtain ⟨k, k1, k2⟩ := h3 j y' q
          refine ⟨k, ?_, hR D k y' H2 _ (ExB.trans (ExB.of e5) ExB.upd) k2⟩
          rw [List.getElem?_append_left (by omega)]
          exact k1
        · have hj2 : j = ys.length := by
            have := (List.getElem?_eq_some_iff.mp q).1
            rw [List.length_append] at this
            simp only [List.length_cons, List.length_nil] at this
            omega
          subst hj2
          rw [List.getElem?_append_right (Nat.le_refl _), Nat.sub_self] at q
          have e6 : y = y' := by simpa using q
          subst e6
          refine ⟨i, ?_, hR D i y H5 _ ExB.upd r⟩
          rw [h2, List.getElem?_append_right (Nat.le_refl _), Nat.sub_self]
          rfl
    · intro H5 hf e5
      refine ⟨e.trans e5, ys, e5 _ _ h1, ?_, ?_⟩
      · rw [lets_succ, if_neg (by rw [hf]; decide), List.append_nil, h2]
      · intro j y q
        obtain ⟨k, k1, k2⟩ := h3 j y q
        refine ⟨k, ?_, hR D k y H2 _ (ExB.of e5) k2⟩
        rw [lets_succ, if_neg (by rw [hf]; decide), List.append_nil]
        exact k1
  · rintro H' ⟨e, ys, h1, h2, h3⟩
    exact hd D ys H' hD e h1 h2 h3
/-- without tests -/
theorem lc_all (w : Walk J n G Y) (hn : n ≤ 100000) (hG : ∀ H', Ex H1 H' → G H') (R : Addr → Nat → V → Hp → Prop) (hR : ∀ D i v H H', ExB D H H' → R D i v H → R D i v H')
    (hs : ∀ D i x H2 H3, H1 D = none → (∃ ys, H2 D = some (.lst ys)) → i < n → Ex H1 H2 → Y i H2 x H3 → ∀ Nt : VK, (∀ y H5, Ex H2 H5 → R D i y H5 → Nt y H5) →
      g x (wipe σ vs) H3 fun σ2 H4 => wipe σ2 vs = wipe σ vs ∧ te σ2 H4 Nt)
    (hd : ∀ D ys H', H1 D = none → Ex H1 H' → H' D = some (.lst ys) → ys.length = n → (∀ (i : Nat) (y : V), ys[i]? = some y → R D i y H') → Q (.ref D) H') :
    LcOn J g tYes te vs σ Q H1 := by
  refine lc_if w hn hG (fun _ => true) R hR (fun D i x H2 H3 h1 h2 h3 h4 h5 Nt hN Nf _ => hs D i x H2 H3 h1 h2 h3 h4 h5 Nt fun y H5 e r => hN y H5 rfl e r) fun D ys H' h1 h2 h3 h4 h5 => ?_
  have el : lets n (fun _ => true) = List.range n := lets_all fun _ _ => rfl
  rw [el] at h4 h5
  rw [List.length_range] at h4
  refine hd D ys H' h1 h2 h3 h4 fun i y q => ?_
  obtain ⟨k, k1, k2⟩ := h5 i y q
  have hlt := (List.getElem?_eq_some_iff.mp q).1
  rw [List.getElem?_range (by omega)] at k1
  cases k1
  exact k2
end
theorem walk_zipT {K : Frag} {a b : Addr} {xs ys : List V} {n : Nat} (hn : n = min xs.length ys.length) : Walk (ItzT K a b) n (fun H => SqT K H a xs ∧ SqT K H b ys) (YPair (fun i => xs[i]?) (fun i => ys[i]?)) := by
  subst hn
  constructor
  · intro i H hi q
    have h1 : i < xs.length := by omega
    have h2 : i < ys.length := by omega
    exact ⟨xs, ys, xs[i], ys[i], q.1, q.2, List.getElem?_eq_getElem h1, List.getElem?_eq_getElem h2⟩
  · intro H q
    exact ⟨xs, ys, q.1, q.2, by omega⟩
  · rintro i H v H' _ q ⟨T, x, z, h1, h2, h3, h4, h5⟩
    exact ⟨T, x, z, h1, h2, h3, h4 xs q.1, h5 ys q.2⟩
section
variable {K : Frag} {σ : L2.St} {H : Hp} {w : TA} {ta : TE} {R : It → Hp → Prop}
def ZipOn (K : Frag) (R : It → Hp → Prop) (vs : List V) (H : Hp) : Prop := iZipA K (fun _ H' Q => Q vs H') [] H R
theorem g_izip (h : w σ H (ZipOn K R)) : iZipA K w σ H R := h
theorem g_zipL {a b : Addr} {xs ys : List V} (h1 : SqL K H a xs) (h2 : SqL K H b ys) (h : R (Itz K a b) H) : ZipOn K R [.ref a, .ref b] H := ⟨a, b, xs, ys, rfl, Or.inl ⟨h1, h2, h⟩⟩
theorem g_zipT {a b : Addr} {xs ys : List V} (h1 : SqT K H a xs) (h2 : SqT K H b ys) (h : R (ItzT K a b) H) : ZipOn K R [.ref a, .ref b] H := ⟨a, b, xs, ys, rfl, Or.inr ⟨h1, h2, h⟩⟩
def RngOn (R : It → Hp → Prop) (vs : List V) (H : Hp) : Prop := iRng1 (fun _ H' Q => Q vs H') [] H R
theorem g_irng (h : w σ H (RngOn R)) : iRng1 w σ H R := h
theorem g_rng {n : Int} (h0 : 0 ≤ n) (hn : n ≤ 100000) (h : R (Itr 0 n.toNat) H) : RngOn R [.int n] H := ⟨n, rfl, by omega, by omega, h⟩
def LstOn (K : Frag) (R : It → Hp → Prop) (v : V) (H : Hp) : Prop := iList K (fun _ H' Q => Q v H') [] H R
theorem g_ilist (h : ta σ H (LstOn K R)) : iList K ta σ H R := h
theorem g_onL {a : Addr} {xs : List V} (h1 : SqL K H a xs) (h : R (Itl K a) H) : LstOn K R (.ref a) H := ⟨a, rfl, ⟨xs, h1⟩, h⟩
/-- a pair taken apart -/
theorem g_pair {i j : Nat} {T : Addr} {x y : V} {Q : L2.St → Hp → Prop} (h : SqT K H T [x, y]) (q : Q ((σ.set i (some x)).set j (some y)) H) : gTup K 2 (gCons (gName i) (gCons (gName j) gNil)) (.ref T) σ H Q :=
  ⟨T, [x, y], rfl, h, rfl, x, [y], rfl, y, [], rfl, rfl, q⟩
end
end Cm

set_option Elab.async false
set_option linter.all false
set_option maxRecDepth 100000
set_option maxHeartbeats 3000000
/-! Common part, 4: the helpers that all laws share: draws, kinds, equality of data. -/
local macro_rules | `(tactic| walk_at "one") => `(tactic| (with_reducible (first | refine Cm.g_seq ?_ | refine Cm.g_asg ?_ | refine Cm.g_asgS ?_ | refine Cm.g_ret ?_ | refine Cm.g_drop ?_ | refine Cm.g_if ?_ | refine Cm.g_next ?_ | refine Cm.g_par ?_ | refine Cm.g_c ?_ | refine Cm.g_op ?_ | refine Cm.g_un ?_ | refine Cm.g_test ?_ | refine Cm.g_tB ?_ | refine Cm.g_k ?_ | refine Cm.g_not ?_ | refine Cm.g_and ?_ | refine Cm.g_or ?_ | refine Cm.g_andV ?_ | refine Cm.g_orV ?_ | refine Cm.g_notV ?_ | refine Cm.g_kV ?_ | refine Cm.g_ifE ?_ | refine Cm.g_chain ?_ | refine Cm.g_cons ?_ | refine Cm.g_nil ?_ | refine Cm.g_tup ?_ | refine Cm.g_lst ?_ | refine Cm.g_call ?_ | refine Cm.g_callN ?_ | refine Cm.g_cb ?_ | refine Cm.g_sl ?_ | refine Cm.g_noPart ?_ | refine Cm.g_part ?_ | refine Cm.g_i ?_ | refine Cm.g_bm ?_ | refine Cm.g_name ?_ | refine Cm.g_lc ?_ | refine Cm.g_for ?_ | refine Cm.g_izip ?_ | refine Cm.g_irng ?_ | refine Cm.g_ilist ?_ | refine Cm.g_add ?_ | refine Cm.g_sub ?_ | refine Cm.g_lt ?_ | refine Cm.g_le ?_ | refine Cm.g_gt ?_ | refine Cm.g_ge ?_ | refine Cm.g_neg ?_ | refine Cm.g_eqI ?_ | refine Cm.g_neI ?_ | refine Cm.g_isN ?_ | refine Cm.g_int ?_ | (refine' Cm.g_var ?h1 ?_; (case h1 => with_unfolding_all rfl)))))
local macro_rules | `(tactic| walk_at "go") => `(tactic| (repeat (walk_at "one"; try dsimp only [List.set_cons_zero, List.set_cons_succ])))
namespace Cm
open L2 PySem PySem.Spec PyProof.Rows RZ
/-! ### promises -/
def sp_law_start (K : Frag) : Sp := fun vs H Q _ => ∃ (a : Addr) (ns : List Int), vs = [.ref a] ∧ SqL K H a (ns.map V.int) ∧ ns.length ≤ 63 ∧ ∀ b H', Ex H H' → Bag H' b → Q (.ref b) H'
def sp_law_pull (K : Frag) : Sp := fun vs H Q _ => ∃ (b : Addr) (n : Int), vs = [.ref b, .int n] ∧ Bag H b ∧ 0 < n ∧ n.natAbs.log2 < 9000 ∧ ∀ d : Int, 0 ≤ d → d < n → Q (.int d) H
def sp_law_pick (K : Frag) : Sp := fun vs H Q _ => ∃ (b : Addr) (y : V), vs = [.ref b, y] ∧ Bag H b ∧
  ((∃ l xs, y = .ref l ∧ SqL K H l xs ∧ xs ≠ [] ∧ xs.length ≤ 10000 ∧ ∀ x, x ∈ xs → Q x H) ∨ ∃ s : Str, y = .str s ∧ 0 < s.length ∧ s.length ≤ 10000 ∧ ∀ c, c ∈ s.cps.toList → Q (.str ⟨#[c]⟩) H)
def kindD : PyData → Int
  | .none => 0 | .bool _ => 1 | .int _ => 2 | .str _ => 3 | .list _ => 4 | .tuple _ => 5 | .dict _ => 6
def sp_law_kind (K : Frag) : Sp := fun vs H Q _ => ∃ v d, vs = [v] ∧ Dp K H v d ∧ ∀ H', Ex H H' → Q (.int (kindD d)) H'
/-- no deeper than n, no list too long -/
def fit : Nat → PyData → Prop
  | 0, .list _ => False
  | 0, .tuple _ => False
  | n + 1, .list ds => ds.length ≤ 100000 ∧ ∀ d ∈ ds, fit n d
  | n + 1, .tuple ds => ds.length ≤ 100000 ∧ ∀ d ∈ ds, fit n d
  | _, _ => True
def fit1 : Nat → PyData → Prop
  | 0, _ => False
  | n + 1, d => fit n d
def sp_law_same (K : Frag) (n : Nat) : Sp := fun vs H Q _ => ∃ v u d, vs = [v, u] ∧ Dp K H v d ∧ Dp K H u d ∧ fit1 n d ∧ ∀ H', Ex H H' → Q (.bl true) H'
def t_law_start (K : Frag) : TS := tSeal (tRet (tLst (tCons (tCB (rList K) (tCons (tSl (xSl K) (tVar 0) tNoPart (tPart (tC (.int 63)))) tNil)) (tCons (tC (.int 0)) (tCons (tC (.int 0)) (tCons (tOp (xAdd K) (tC (.int 10015)) (tCB (rLn K) (tCons (tVar 0) tNil))) (tCons (tC (.int 0)) tNil)))))))
def t_law_pull (K : Frag) : TS := tLook (Evl.tCut (tIfS (tAnd (tTest (tOp (xEq K) (tOp (rIx K) (tVar 0) (tC (.int 2))) (tC (.int 0)))) (tTest (tOp xLt (tOp (rIx K) (tVar 0) (tC (.int 1))) (tCB (rLn K) (tCons (tOp (rIx K) (tVar 0) (tC (.int 0))) tNil))))) (tSeq (tAsg (tOp (rIx K) (tOp (rIx K) (tVar 0) (tC (.int 0))) (tOp (rIx K) (tVar 0) (tC (.int 1)))) (gName 2)) (tSeq (tAsg (tOp (xAdd K) (tOp (rIx K) (tVar 0) (tC (.int 1))) (tC (.int 1))) (gSub (tVar 0) (tC (.int 1)) rSetL)) (tIfS (tTest (tOp xGe (tVar 2) (tOp xPow (tC (.int 10)) (tC (.int 18))))) (tAsg (tVar 2) (gSub (tVar 0) (tC (.int 2)) rSetL)) (tAsg (tOp xMod (tCB rInt (tCons (tOp (xAdd K) (tOp (xAdd K) (tOp xMul (tOp (rIx K) (tVar 0) (tC (.int 3))) (tC (.int 40039))) (tOp xMul (tOp xMod (tCB rInt (tCons (tVar 2) tNil)) (tC (.int 2147483477))) (tC (.int 6971)))) (tC (.int 41))) tNil)) (tC (.int 2147483587))) (gSub (tVar 0) (tC (.int 3)) rSetL))))) tNext) (tSeq (tIfS (tTest (tOp xGt (tOp (rIx K) (tVar 0) (tC (.int 2))) (tC (.int 0)))) (tSeq (tAsg (tOp xMod (tCB rInt (tCons (tOp (rIx K) (tVar 0) (tC (.int 2))) tNil)) (tVar 1)) (gName 3)) (tSeq (tAsg (tOp xDiv (tOp (rIx K) (tVar 0) (tC (.int 2))) (tVar 1)) (gSub (tVar 0) (tC (.int 2)) rSetL)) (tRet (tVar 3)))) tNext) (tSeq (tAsg (tOp (xAdd K) (tOp (rIx K) (tVar 0) (tC (.int 4))) (tC (.int 1))) (gSub (tVar 0) (tC (.int 4)) rSetL)) (tSeq (tAsg (tOp (rIx K) (tVar 0) (tC (.int 3))) (gName 4)) (tSeq (tAsg (tOp xMod (tCB rInt (tCons (tOp (xAdd K) (tOp (xAdd K) (tOp (xAdd K) (tOp xMul (tVar 4) (tVar 4)) (tOp xMul (tVar 4) (tC (.int 30059)))) (tOp xMul (tOp (rIx K) (tVar 0) (tC (.int 4))) (tC (.int 1299721)))) (tC (.int 80021))) tNil)) (tC (.int 2147483563))) (gSub (tVar 0) (tC (.int 3)) rSetL)) (tRet (tOp xMod (tCB rInt (tCons (tOp (xAdd K) (tOp xDiv (tOp (rIx K) (tVar 0) (tC (.int 3))) (tC (.int 61))) (tOp xMul (tOp xMod (tCB rInt (tCons (tOp (rIx K) (tVar 0) (tC (.int 3))) tNil)) (tC (.int 8039))) (tC (.int 53)))) tNil)) (tVar 1))))))))
def t_law_pick (K : Frag) : TS := (tRet (tOp (rIx K) (tVar 1) (tCall (sp_law_pull K) [] E0 (tCons (tVar 0) (tCons (tCB (rLn K) (tCons (tVar 1) tNil)) tNil)))))
def t_law_kind (K : Frag) : TS := (tSeq (tAsg (tLst (tCons (tOp xIsN (tVar 0) (tC .non)) (tCons (tCB (rIsi K) (tCons (tVar 0) (tCons (tC (.ty "bool")) tNil))) (tCons (tCB (rIsi K) (tCons (tVar 0) (tCons (tC (.ty "int")) tNil))) (tCons (tCB (rIsi K) (tCons (tVar 0) (tCons (tC (.ty "str")) tNil))) tNil))))) (gName 1)) (tSeq (tAsg (tOp (xAdd K) (tVar 1) (tLst (tCons (tCB (rIsi K) (tCons (tVar 0) (tCons (tC (.ty "list")) tNil))) (tCons (tCB (rIsi K) (tCons (tVar 0) (tCons (tC (.ty "tuple")) tNil))) (tCons (tC (.bl true)) tNil))))) (gName 1)) (tRet (tBM K "list" (rIndex K) (tVar 1) (tCons (tC (.bl true)) tNil)))))
def t_law_same (K : Frag) (nS : Nat) : TS := (tSeq (tIfS (tTest (tOp (xNe K) (tCall (sp_law_kind K) [] E0 (tCons (tVar 0) tNil)) (tCall (sp_law_kind K) [] E0 (tCons (tVar 1) tNil)))) (tRet (tC (.bl false))) tNext) (tSeq (tIfS (tTest (tOp (xIn K) (tCall (sp_law_kind K) [] E0 (tCons (tVar 1) tNil)) (tTup (tCons (tC (.int 4)) (tCons (tC (.int 5)) tNil))))) (tRet (tAndV (tOp (xEq K) (tCB (rLn K) (tCons (tVar 0) tNil)) (tCB (rLn K) (tCons (tVar 1) tNil))) (tCB (rAll K) (tCons (tLc (iZipA K (tCons (tVar 0) (tCons (tVar 1) tNil))) (gTup K 2 (gCons (gName 2) (gCons (gName 3) gNil))) tYes (tCall (sp_law_same K nS) [] E0 (tCons (tVar 2) (tCons (tVar 3) tNil))) [2, 3]) tNil)))) tNext) (tRet (tOp (xEq K) (tVar 0) (tVar 1)))))
/-! ### the bag's places -/
section
variable {K : Frag} {σ : L2.St} {H : Hp} {Q : VK} {P : Hp → Prop} {b c : Addr} {i r m k x : Int}
abbrev bagH (H : Hp) (b c : Addr) (i r m k : Int) : Hp := upd H b (.lst (bagL c i r m k))
theorem bag_at : SqL K (bagH H b c i r m k) b (bagL c i r m k) := Evl.sq_of upd_same
theorem b_get0 (q : Q (.ref c) (bagH H b c i r m k)) : rIx K (.ref b) (.int 0) (bagH H b c i r m k) Q := g_ixL bag_at rfl q
theorem b_get1 (q : Q (.int i) (bagH H b c i r m k)) : rIx K (.ref b) (.int 1) (bagH H b c i r m k) Q := g_ixL bag_at rfl q
theorem b_get2 (q : Q (.int r) (bagH H b c i r m k)) : rIx K (.ref b) (.int 2) (bagH H b c i r m k) Q := g_ixL bag_at rfl q
theorem b_get3 (q : Q (.int m) (bagH H b c i r m k)) : rIx K (.ref b) (.int 3) (bagH H b c i r m k) Q := g_ixL bag_at rfl q
theorem b_get4 (q : Q (.int k) (bagH H b c i r m k)) : rIx K (.ref b) (.int 4) (bagH H b c i r m k) Q := g_ixL bag_at rfl q
theorem b_set {n : Int} {j : Nat} {i' r' m' k' : Int} (hj : ixN 5 n = some j) (e : (bagL c i r m k).set j (.int x) = bagL c i' r' m' k') (q : P (bagH H b c i' r' m' k')) : rSetL (.ref b) (.int n) (.int x) (bagH H b c i r m k) P := by
  refine g_setL upd_same hj ?_
  rw [upd_upd, e]
  exact q
theorem b_set1 (q : P (bagH H b c x r m k)) : rSetL (.ref b) (.int 1) (.int x) (bagH H b c i r m k) P := b_set rfl rfl q
theorem b_set2 (q : P (bagH H b c i x m k)) : rSetL (.ref b) (.int 2) (.int x) (bagH H b c i r m k) P := b_set rfl rfl q
theorem b_set3 (q : P (bagH H b c i r x k)) : rSetL (.ref b) (.int 3) (.int x) (bagH H b c i r m k) P := b_set rfl rfl q
theorem b_set4 (q : P (bagH H b c i r m x)) : rSetL (.ref b) (.int 4) (.int x) (bagH H b c i r m k) P := b_set rfl rfl q
theorem b_shut (hb : H b = some (.ext (bagP c b))) (hk : bagOk i r m k) (q : P H) : shut c b P (bagH H b c i r m k) := by
  refine ⟨i, r, m, k, hk, upd_same, ?_⟩
  rw [upd_upd, upd_self hb]
  exact q
end
local macro_rules | `(tactic| walk_at "bag") => `(tactic| (with_reducible (first | refine b_get0 ?_ | refine b_get1 ?_ | refine b_get2 ?_ | refine b_get3 ?_ | refine b_get4 ?_ | refine b_set1 ?_ | refine b_set2 ?_ | refine b_set3 ?_ | refine b_set4 ?_ | walk_at "one")))
local macro_rules | `(tactic| walk_at "gob") => `(tactic| (repeat (walk_at "bag"; try dsimp only [List.set_cons_zero, List.set_cons_succ])))
theorem cell_at {cs : List Int} {i : Int} (h0 : 0 ≤ i) (h1 : i < ((cs.map V.int).length : Nat)) : ∃ z : Int, atI (cs.map V.int) i = some (.int z) := by
  have e : (i.toNat : Int) = i := Int.toNat_of_nonneg h0
  have hl : i.toNat < cs.length := by
    rw [List.length_map] at h1
    omega
  have g : atI (cs.map V.int) ((i.toNat : Nat) : Int) = some (.int cs[i.toNat]) := atI_nat (by rw [List.getElem?_map, List.getElem?_eq_getElem hl]; rfl)
  rw [e] at g
  exact ⟨_, g⟩
theorem small_log {n : Int} (h : 0 < n) (h2 : n < 2 ^ 40) : n.natAbs.log2 < 9000 := by
  have h3 : n.natAbs < 2 ^ 40 := by omega
  have h4 := (Nat.log2_lt (by omega)).mpr h3
  omega
theorem ten18 : ((10 : Int) ^ (18 : Int).toNat) = 1000000000000000000 := by decide +kernel
theorem pure_law_pull {K : Frag} (vs : List V) (H : Hp) (Q : VK) (E : XK) (h : sp_law_pull K vs H Q E) : t_law_pull K ⟨fun _ H' => Q .non H', Q, fun _ _ => False, fun _ _ => False⟩ (start ["bag", "size", "cell", "digit", "seed"] vs) H := by
  obtain ⟨b, n, rfl, ⟨c, cs, hb, hc, hl⟩, hn, hw, q⟩ := h
  refine ⟨b, c, hb, fun i r m k hk => ?_⟩
  have nbc : c ≠ b := ne_of hc hb (by intro z; cases z)
  have hcL : ∀ i r m k, SqL K (bagH H b c i r m k) c (cs.map V.int) := fun i r m k => Evl.sq_of (by show upd H b _ c = _; rw [upd_ne nbc]; exact hc)
  obtain ⟨k1, k2, k3, k4, k5⟩ := hk
  refine ⟨fun σ' H' => ∃ i r m k o, bagOk i r m k ∧ σ' = [some (.ref b), some (.int n), o, none, none] ∧ H' = bagH H b c i r m k, ?_, ?_⟩
  rotate_left
  · rintro σ' H' ⟨i, r, m, k, o, hk, rfl, rfl⟩
    obtain ⟨k1, k2, k3, k4, k5⟩ := hk
    walk_at "gob"
    refine g_iteB (fun h1 => ?_) (fun h1 => ?_)
    · walk_at "gob"
      refine g_mod hn ?_
      walk_at "gob"
      refine g_div hn hw ?_
      walk_at "gob"
      refine b_shut hb ⟨k1, Int.ediv_nonneg k2 (by omega), k3, k4, k5⟩ (q _ (Int.emod_nonneg _ (by omega)) (Int.emod_lt_of_pos _ hn))
    · walk_at "gob"
      refine g_mul (Or.inl (by omega)) ?_
      walk_at "gob"
      refine g_mul (Or.inl (by omega)) ?_
      walk_at "gob"
      refine g_mul (Or.inr (by omega)) ?_
      walk_at "gob"
      refine g_mod (by omega) ?_
      walk_at "gob"
      have e1 := Int.emod_nonneg (m * m + m * 30059 + (k + 1) * 1299721 + 80021) (b := 2147483563) (by omega)
      have e2 := Int.emod_lt_of_pos (m * m + m * 30059 + (k + 1) * 1299721 + 80021) (b := 2147483563) (by omega)
      generalize (m * m + m * 30059 + (k + 1) * 1299721 + 80021) % 2147483563 = z at e1 e2
      refine g_div (by omega) (small_log (by omega) (by omega)) ?_
      walk_at "gob"
      refine g_mod (by omega) ?_
      walk_at "gob"
      refine g_mul (Or.inr (by omega)) ?_
      walk_at "gob"
      refine g_mod hn ?_
      walk_at "gob"
      exact b_shut hb ⟨k1, k2, e1, by omega, by omega⟩ (q _ (Int.emod_nonneg _ (by omega)) (Int.emod_lt_of_pos _ hn))
  show tIfS _ _ _ _ [some (.ref b), some (.int n), none, none, none] (bagH H b c i r m k)
  walk_at "gob"
  refine g_iteB (fun h1 => ?_) (fun h1 => ?_)
  · walk_at "gob"
    refine g_lenL (hcL _ _ _ _) ?_
    walk_at "gob"
    refine g_iteB (fun h2 => ?_) (fun h2 => ?_)
    · obtain ⟨z, hz⟩ := cell_at k1 (of_decide_eq_true h2)
      walk_at "gob"
      refine g_ixL (hcL _ _ _ _) hz ?_
      walk_at "gob"
      refine g_pow ⟨by decide, by decide, by decide⟩ ?_
      walk_at "gob"
      refine g_iteB (fun h3 => ?_) (fun h3 => ?_)
      · have h4 := of_decide_eq_true h3
        rw [ten18] at h4
        walk_at "gob"
        refine ⟨_, _, _, _, _, ?_, rfl, rfl⟩
        exact ⟨by omega, by omega, k3, k4, k5⟩
      · walk_at "gob"
        refine g_mul (Or.inl (by omega)) ?_
        walk_at "gob"
        refine g_mod (by omega) ?_
        walk_at "gob"
        refine g_mul (Or.inr (by omega)) ?_
        walk_at "gob"
        refine g_mod (by omega) ?_
        walk_at "gob"
        refine ⟨_, _, _, _, _, ?_, rfl, rfl⟩
        exact ⟨by omega, k2, by omega, by omega, k5⟩
    · walk_at "gob"
      refine ⟨_, _, _, _, _, ?_, rfl, rfl⟩
      exact ⟨k1, k2, k3, k4, k5⟩
  · walk_at "gob"
    refine ⟨_, _, _, _, _, ?_, rfl, rfl⟩
    exact ⟨k1, k2, k3, k4, k5⟩
/-! ### the start -/
section
variable {K : Frag} {H : Hp} {Q : VK}
theorem g_slL {a : Addr} {xs : List V} {lo hi : Option Int} (h : SqL K H a xs) (q : ∀ p H1, H p = none → Ex H H1 → H1 p = some (.lst (cutV xs lo hi)) → Q (.ref p) H1) : xSl K (.ref a) lo hi H Q :=
  Or.inl ⟨a, xs, rfl, h, g_new1 q⟩
theorem g_slS {z : Str} {lo hi : Option Int} (hl : z.length ≤ sizeLine) (q : Q (.str (cutS z lo hi)) H) : xSl K (.str z) lo hi H Q := Or.inr (Or.inr ⟨z, rfl, hl, q⟩)
end
theorem cut_map {ns : List Int} {lo hi : Option Int} : ∃ cs : List Int, cutV (ns.map V.int) lo hi = cs.map V.int ∧ cs.length ≤ ns.length := by
  unfold cutV
  rw [← List.map_drop, ← List.map_take]
  exact ⟨_, rfl, by rw [List.length_take, List.length_drop]; omega⟩
theorem sz5 {n : Nat} (h : n ≤ 100000) : n ≤ sizeLine := Evl.sz_of h
theorem pure_law_start {K : Frag} (vs : List V) (H : Hp) (Q : VK) (E : XK) (h : sp_law_start K vs H Q E) : t_law_start K ⟨fun _ H' => Q .non H', Q, fun _ _ => False, fun _ _ => False⟩ (start ["script"] vs) H := by
  obtain ⟨a, ns, rfl, hS, hl, q⟩ := h
  show tRet _ _ [some (.ref a)] H
  walk_at "go"
  refine g_slL hS fun p H1 hp e1 h1 => ?_
  walk_at "go"
  refine g_list (Or.inl (Evl.sq_of h1)) fun l H2 hl2 e2 h2 => ?_
  walk_at "go"
  refine g_lenL (Evl.ex_l (e1.trans e2) hS) ?_
  walk_at "go"
  refine g_newL fun b H3 hb e3 h3 => ?_
  obtain ⟨cs, hc, hcl⟩ := cut_map (ns := ns) (lo := none) (hi := some 63)
  rw [hc] at h2
  rw [List.length_map] at h3
  have nlb : l ≠ b := ne_of_none h2 hb
  have hb0 : H b = none := Evl.fresh_back (e1.trans e2) hb
  refine ⟨b, l, rfl, 0, 0, _, 0, ⟨by decide, by decide, ?_, ?_, by decide⟩, h3, ?_⟩
  · omega
  · omega
  · refine q b _ (Evl.Ex.mut ((e1.trans e2).trans e3) hb0) ⟨l, cs, upd_same, ?_, by omega⟩
    rw [upd_ne nlb]
    exact e3 _ _ h2
theorem pure_law_pick {K : Frag} (vs : List V) (H : Hp) (Q : VK) (E : XK) (h : sp_law_pick K vs H Q E) : t_law_pick K ⟨fun _ H' => Q .non H', Q, fun _ _ => False, fun _ _ => False⟩ (start ["bag", "some"] vs) H := by
  obtain ⟨b, y, rfl, hB, h⟩ := h
  show tRet _ _ [some (.ref b), some y] H
  walk_at "go"
  rcases h with ⟨l, xs, rfl, hx, hne, hl, q⟩ | ⟨s, rfl, h0, hl, q⟩
  · have hp : 0 < xs.length := List.length_pos_iff.mpr hne
    refine g_lenL hx ?_
    walk_at "go"
    refine ⟨b, _, rfl, hB, by omega, small_log (by omega) (by omega), fun d d0 d1 => ?_⟩
    have e : (d.toNat : Int) = d := Int.toNat_of_nonneg d0
    have hd : d.toNat < xs.length := by omega
    refine g_ixL (v := xs[d.toNat]) hx ?_ (q _ (List.getElem_mem hd))
    have g : atI xs ((d.toNat : Nat) : Int) = some xs[d.toNat] := atI_nat (List.getElem?_eq_getElem hd)
    rw [e] at g
    exact g
  · refine g_lenS (sz5 (by omega)) ?_
    walk_at "go"
    refine ⟨b, _, rfl, hB, by omega, small_log (by omega) (by omega), fun d d0 d1 => ?_⟩
    have e : (d.toNat : Int) = d := Int.toNat_of_nonneg d0
    have hd : d.toNat < s.cps.toList.length := by
      have : s.length = s.cps.toList.length := by show s.cps.size = _; simp
      omega
    refine g_ixS (k := s.cps.toList[d.toNat]) (sz5 (by omega)) ?_ (q _ (List.getElem_mem hd))
    have g : atI s.cps.toList ((d.toNat : Nat) : Int) = some s.cps.toList[d.toNat] := atI_nat (List.getElem?_eq_getElem hd)
    rw [e] at g
    exact g
/-! ### kinds -/
theorem g_indexT {K : Frag} {H : Hp} {Q : VK} {p : Addr} {bs : List Bool} {j : Nat} (h : H p = some (.lst (bs.map V.bl))) (hj : bs[j]? = some true) (hn : ∀ m : Nat, m < j → bs[m]? = some false) (q : Q (.int (j : Nat)) H) :
    rIndex K (.ref p) [.bl true] H Q := by
  refine ⟨p, bs.map V.bl, .bl true, j, .bl true, rfl, rfl, Evl.sq_of h, rfl, ?_, ?_, rfl, fun m z hm hz => ?_, q⟩
  · rw [List.all_eq_true]
    intro x hx
    obtain ⟨b, _, rfl⟩ := List.mem_map.mp hx
    rfl
  · rw [List.getElem?_map, hj]
    rfl
  · rw [List.getElem?_map, hn m hm] at hz
    cases hz
    rfl
theorem pure_law_kind {K : Frag} (vs : List V) (H : Hp) (Q : VK) (E : XK) (h : sp_law_kind K vs H Q E) : t_law_kind K ⟨fun _ H' => Q .non H', Q, fun _ _ => False, fun _ _ => False⟩ (start ["thing", "marks"] vs) H := by
  obtain ⟨v, d, rfl, hd, q⟩ := h
  show tSeq _ _ _ [some v, none] H
  walk_at "go"
  refine g_isi hd (by decide) ?_
  walk_at "go"
  refine g_isi hd (by decide) ?_
  walk_at "go"
  refine g_isi hd (by decide) ?_
  walk_at "go"
  refine g_newL fun p H1 hp e1 h1 => ?_
  walk_at "go"
  refine g_isi (up e1 hd) (by decide) ?_
  walk_at "go"
  refine g_isi (up e1 hd) (by decide) ?_
  walk_at "go"
  refine g_newL fun p2 H2 hp2 e2 h2 => ?_
  walk_at "go"
  refine g_lcat (e2 _ _ h1) h2 (sz5 (by simp)) fun p3 H3 hp3 e3 h3 => ?_
  walk_at "go"
  refine ⟨Or.inl ⟨rfl, _, Evl.sq_of h3⟩, ?_⟩
  walk_at "go"
  have e := (e1.trans e2).trans e3
  have h4 : H3 p3 = some (.lst ([decide (v = .non), isiD d "bool", isiD d "int", isiD d "str", isiD d "list", isiD d "tuple", true].map V.bl)) := h3
  have ek : ∀ j : Nat, (j : Int) = kindD d → Q (.int (j : Int)) H3 := fun j hj => by
    rw [hj]
    exact q H3 e
  cases hd with
  | non => exact g_indexT (j := 0) h4 (by simp) (fun m hm => absurd hm (by omega)) (ek 0 rfl)
  | bl b => exact g_indexT (j := 1) h4 (by simp [isiD, tyD]) (fun m hm => by rcases (by omega : m = 0 ∨ m = 0) with rfl | rfl <;> simp) (ek 1 rfl)
  | int i => exact g_indexT (j := 2) h4 (by simp [isiD, tyD]) (fun m hm => by rcases (by omega : m = 0 ∨ m = 1) with rfl | rfl <;> simp [isiD, tyD]) (ek 2 rfl)
  | str x => exact g_indexT (j := 3) h4 (by simp [isiD, tyD]) (fun m hm => by rcases (by omega : m = 0 ∨ m = 1 ∨ m = 2) with rfl | rfl | rfl <;> simp [isiD, tyD]) (ek 3 rfl)
  | lst hs ha => exact g_indexT (j := 4) h4 (by simp [isiD, tyD]) (fun m hm => by rcases (by omega : m = 0 ∨ m = 1 ∨ m = 2 ∨ m = 3) with rfl | rfl | rfl | rfl <;> simp [isiD, tyD]) (ek 4 rfl)
  | tup hs ha => exact g_indexT (j := 5) h4 (by simp [isiD, tyD]) (fun m hm => by rcases (by omega : m = 0 ∨ m = 1 ∨ m = 2 ∨ m = 3 ∨ m = 4) with rfl | rfl | rfl | rfl | rfl <;> simp [isiD, tyD]) (ek 5 rfl)
/-! ### two things the same -/
theorem all_true {ys : List V} {n : Nat} (h : ∀ (i : Nat) (y : V), ys[i]? = some y → y = .bl true) : ∃ bs : List Bool, ys = bs.map V.bl ∧ bs.all id = true := by
  induction ys generalizing n with
  | nil => exact ⟨[], rfl, rfl⟩
  | cons y ys ih =>
    obtain ⟨bs, e1, e2⟩ := ih (n := n) fun i z hz => h (i + 1) z (by simpa using hz)
    exact ⟨true :: bs, by rw [h 0 y rfl, e1]; rfl, by simpa using e2⟩
theorem g_all {K : Frag} {H : Hp} {Q : VK} {p : Addr} {ys : List V} (h : H p = some (.lst ys)) (ht : ∀ (i : Nat) (y : V), ys[i]? = some y → y = .bl true) (q : Q (.bl true) H) : rAll K [.ref p] H Q := by
  obtain ⟨bs, e1, e2⟩ := all_true (n := 0) ht
  refine ⟨p, bs, rfl, Evl.sq_of (by rw [h, e1]), ?_⟩
  rw [e2]
  exact q
theorem pure_law_same {K : Frag} (n : Nat) (vs : List V) (H : Hp) (Q : VK) (E : XK) (h : sp_law_same K (n + 1) vs H Q E) : t_law_same K n ⟨fun _ H' => Q .non H', Q, fun _ _ => False, fun _ _ => False⟩ (start ["found", "due", "a", "b"] vs) H := by
  obtain ⟨v, u, d, rfl, hv, hu, hd, q⟩ := h
  show tSeq _ _ _ [some v, some u, none, none] H
  walk_at "go"
  refine ⟨v, d, rfl, hv, fun H1 e1 => ?_⟩
  walk_at "go"
  refine ⟨u, d, rfl, up e1 hu, fun H2 e2 => ?_⟩
  walk_at "go"
  refine g_iteB (fun h1 => by simp at h1) (fun _ => ?_)
  walk_at "go"
  refine ⟨u, d, rfl, up (e1.trans e2) hu, fun H3 e3 => ?_⟩
  walk_at "go"
  refine g_newT fun p H4 hp e4 h4 => ?_
  have e := ((e1.trans e2).trans e3).trans e4
  refine g_inF (Or.inr (Evl.st_of h4)) rfl rfl ?_
  walk_at "go"
  cases hv with
  | non =>
    cases hu
    refine g_iteB (fun h => absurd h (by simp [inV, eqV, kindD])) (fun _ => ?_)
    walk_at "go"
    refine g_eq rfl ?_
    simpa using q H4 e
  | bl b =>
    cases hu
    refine g_iteB (fun h => absurd h (by simp [inV, eqV, kindD])) (fun _ => ?_)
    walk_at "go"
    refine g_eq rfl ?_
    simpa using q H4 e
  | int b =>
    cases hu
    refine g_iteB (fun h => absurd h (by simp [inV, eqV, kindD])) (fun _ => ?_)
    walk_at "go"
    simpa using q H4 e
  | str b =>
    cases hu
    refine g_iteB (fun h => absurd h (by simp [inV, eqV, kindD])) (fun _ => ?_)
    walk_at "go"
    refine g_eq rfl ?_
    simpa using q H4 e
  | @lst a xs ds hs ha =>
    cases hu with
    | @lst b ys _ hs2 ha2 =>
     cases n with
     | zero => exact hd.elim
     | succ n =>
      have l1 := dpa_len ha
      have l2 := dpa_len ha2
      refine g_iteB (fun _ => ?_) (fun h => absurd h (by simp [inV, eqV, kindD]))
      walk_at "go"
      refine g_lenL (Evl.ex_l e hs) ?_
      walk_at "go"
      refine g_lenL (Evl.ex_l e hs2) ?_
      walk_at "go"
      refine g_iteB (fun _ => ?_) (fun h => absurd h (by simp; omega))
      walk_at "go"
      refine g_zipL (Evl.ex_l e hs) (Evl.ex_l e hs2) ?_
      refine lc_all (walk_zip (xs := xs) (ys := ys) (n := xs.length) (by omega)) (by rw [l1]; exact hd.1) (fun H' e' => ⟨Evl.ex_l (e.trans e') hs, Evl.ex_l (e.trans e') hs2⟩) (fun _ _ y _ => y = .bl true) (fun _ _ _ _ _ _ h => h) ?_ ?_
      · rintro Dd i x H5 H6 _ _ hi e5 ⟨T, x1, y1, rfl, hT, rfl, hx, hy⟩ Nt hN
        refine g_pair (Evl.st_of upd_same) ⟨rfl, ?_⟩
        obtain ⟨d1, q1, r1⟩ := dpa_get ha hx
        obtain ⟨d2, q2, r2⟩ := dpa_get ha2 hy
        rw [q1] at q2
        cases q2
        walk_at "go"
        refine ⟨x1, y1, d1, rfl, up ((e.trans e5).trans (Evl.Ex.new hT)) r1, up ((e.trans e5).trans (Evl.Ex.new hT)) r2, hd.2 _ (List.mem_of_getElem? q1), fun H7 e7 => hN _ H7 ((Evl.Ex.new hT).trans e7) rfl⟩
      · intro Dd ys' H5 _ e5 h5 _ hys
        walk_at "go"
        exact g_all h5 hys (q H5 (e.trans e5))
  | @tup a xs ds hs ha =>
    cases hu with
    | @tup b ys _ hs2 ha2 =>
     cases n with
     | zero => exact hd.elim
     | succ n =>
      have l1 := dpa_len ha
      have l2 := dpa_len ha2
      refine g_iteB (fun _ => ?_) (fun h => absurd h (by simp [inV, eqV, kindD]))
      walk_at "go"
      refine g_lenT (Evl.ex_t e hs) ?_
      walk_at "go"
      refine g_lenT (Evl.ex_t e hs2) ?_
      walk_at "go"
      refine g_iteB (fun _ => ?_) (fun h => absurd h (by simp; omega))
      walk_at "go"
      refine g_zipT (Evl.ex_t e hs) (Evl.ex_t e hs2) ?_
      refine lc_all (walk_zipT (xs := xs) (ys := ys) (n := xs.length) (by omega)) (by rw [l1]; exact hd.1) (fun H' e' => ⟨Evl.ex_t (e.trans e') hs, Evl.ex_t (e.trans e') hs2⟩) (fun _ _ y _ => y = .bl true) (fun _ _ _ _ _ _ h => h) ?_ ?_
      · rintro Dd i x H5 H6 _ _ hi e5 ⟨T, x1, y1, rfl, hT, rfl, hx, hy⟩ Nt hN
        refine g_pair (Evl.st_of upd_same) ⟨rfl, ?_⟩
        obtain ⟨d1, q1, r1⟩ := dpa_get ha hx
        obtain ⟨d2, q2, r2⟩ := dpa_get ha2 hy
        rw [q1] at q2
        cases q2
        walk_at "go"
        refine ⟨x1, y1, d1, rfl, up ((e.trans e5).trans (Evl.Ex.new hT)) r1, up ((e.trans e5).trans (Evl.Ex.new hT)) r2, hd.2 _ (List.mem_of_getElem? q1), fun H7 e7 => hN _ H7 ((Evl.Ex.new hT).trans e7) rfl⟩
      · intro Dd ys' H5 _ e5 h5 _ hys
        walk_at "go"
        exact g_all h5 hys (q H5 (e.trans e5))
end Cm

set_option Elab.async false
set_option linter.all false
set_option maxRecDepth 100000
set_option maxHeartbeats 3000000
/-! Common part, 5: numbers and harms. -/
namespace Cm
open L2 PySem PySem.Spec PyProof.Rows RZ
def isIntD : PyData → Bool
  | .int _ => true
  | _ => false
def isNumD (d : PyData) (lo hi : Int) : Bool := match d with
  | .int i => decide (lo ≤ i) && decide (i ≤ hi)
  | _ => false
def sp_is_integer (K : Frag) : Sp := fun vs H Q _ => ∃ v d, vs = [v] ∧ Dp K H v d ∧ ∀ H', Ex H H' → Q (.bl (isIntD d)) H'
def sp_is_number (K : Frag) : Sp := fun vs H Q _ => ∃ v d lo hi, vs = [v, .int lo, .int hi] ∧ Dp K H v d ∧ ∀ H', Ex H H' → Q (.bl (isNumD d lo hi)) H'
def harmN (t : Str) : Int := if t = "in" ∨ t = "halt" then 1 else if t = "bare" ∨ t = "long" then 2 else 0
def isHarmD : PyData → Bool
  | .tuple [.str t] => harmN t == 1
  | .tuple [.str t, n] => harmN t == 2 && isNumD n 0 1000000
  | _ => false
def sp_is_harm (K : Frag) : Sp := fun vs H Q _ => ∃ v d, vs = [v] ∧ Dp K H v d ∧ SeqAt.shaped d = true ∧ fit 9 d ∧ ∀ H', Ex H H' → Q (.bl (isHarmD d)) H'
def t_is_integer (K : Frag) : TS := (tRet (tAndV (tCB (rIsi K) (tCons (tVar 0) (tCons (tC (.ty "int")) tNil))) (tNotV (tCB (rIsi K) (tCons (tVar 0) (tCons (tC (.ty "bool")) tNil))))))
def t_is_number (K : Frag) : TS := (tRet (tAndV (tCall (sp_is_integer K) [] E0 (tCons (tVar 0) tNil)) (tChain xLe xLe (tVar 1) (tVar 0) (tVar 2))))
def t_is_harm (K : Frag) : TS := (tSeq (tIfS (tOr (tNot (tB (tCB (rIsi K) (tCons (tVar 0) (tCons (tC (.ty "tuple")) tNil))))) (tOr (tTest (tOp (xEq K) (tVar 0) (tTup tNil))) (tNot (tB (tCB (rIsi K) (tCons (tOp (rIx K) (tVar 0) (tC (.int 0))) (tCons (tC (.ty "str")) tNil))))))) (tRet (tC (.bl false))) tNext) (tSeq (tIfS (tTest (tOp (xNe K) (tKget K (He.ga K "HARMS") (tC (.ref (He.ga K "HARMS"))) (tOp (rIx K) (tVar 0) (tC (.int 0))) (tC (.int 0))) (tCB (rLn K) (tCons (tVar 0) tNil)))) (tRet (tC (.bl false))) tNext) (tRet (tOrV (tOp (xEq K) (tCB (rLn K) (tCons (tVar 0) tNil)) (tC (.int 1))) (tCall (sp_is_number K) [] E0 (tCons (tOp (rIx K) (tVar 0) (tC (.int 1))) (tCons (tC (.int 0)) (tCons (tC (.int 1000000)) tNil))))))))
theorem pure_is_integer {K : Frag} (vs : List V) (H : Hp) (Q : VK) (E : XK) (h : sp_is_integer K vs H Q E) : t_is_integer K ⟨fun _ H' => Q .non H', Q, fun _ _ => False, fun _ _ => False⟩ (start ["value"] vs) H := by
  obtain ⟨v, d, rfl, hd, q⟩ := h
  show tRet _ _ [some v] H
  walk_at "go"
  refine g_isi hd (by decide) ?_
  walk_at "go"
  have e : ∀ b, isIntD d = b → Q (.bl b) H := fun b hb => by rw [← hb]; exact q H (Evl.Ex.refl H)
  refine g_iteB (fun h1 => ?_) (fun h1 => ?_)
  · walk_at "go"
    refine g_isi hd (by decide) ?_
    walk_at "go"
    refine e _ ?_
    cases d <;> simp [isiD, tyD, isIntD] at h1 ⊢
  · refine e _ ?_
    cases d <;> simp [isiD, tyD, isIntD] at h1 ⊢
theorem dp_int {K : Frag} {H : Hp} {v : V} {d : PyData} (h : Dp K H v d) (hi : isIntD d = true) : ∃ i, v = .int i ∧ d = .int i := by
  cases h with
  | int i => exact ⟨i, rfl, rfl⟩
  | _ => cases hi
theorem isNum_no {d : PyData} {lo hi : Int} (h : isIntD d = false) : isNumD d lo hi = false := by
  cases d <;> first | rfl | cases h
theorem pure_is_number {K : Frag} (vs : List V) (H : Hp) (Q : VK) (E : XK) (h : sp_is_number K vs H Q E) : t_is_number K ⟨fun _ H' => Q .non H', Q, fun _ _ => False, fun _ _ => False⟩ (start ["value", "low", "high"] vs) H := by
  obtain ⟨v, d, lo, hi, rfl, hd, q⟩ := h
  show tRet _ _ [some v, some (.int lo), some (.int hi)] H
  walk_at "go"
  refine ⟨v, d, rfl, hd, fun H1 e1 => ?_⟩
  walk_at "go"
  have e : ∀ b, isNumD d lo hi = b → Q (.bl b) H1 := fun b hb => by rw [← hb]; exact q H1 e1
  refine g_iteB (fun h1 => ?_) (fun h1 => e _ (isNum_no h1))
  obtain ⟨i, rfl, rfl⟩ := dp_int hd h1
  walk_at "go"
  refine g_iteB (fun h2 => ?_) (fun h2 => ?_)
  · walk_at "go"
    refine e _ ?_
    simp [isNumD] at h2 ⊢
    omega
  · refine e _ ?_
    simp [isNumD] at h2 ⊢
    omega
/-! ### harms -/
def HarmTab (K : Frag) : Prop := ∀ t : Str, ∃ r, PySem.W.nsIn K (He.ga K "HARMS") t = some r ∧ (∀ u, r = some u → RelV (.int (harmN t)) u) ∧ (r = none → harmN t = 0)
section
variable {K : Frag} {H : Hp} {σ : L2.St} {Q : VK} {td ty tz : TE}
theorem g_kget {d : Addr} (h : td σ H fun x H1 => x = .ref d ∧ ty σ H1 fun y H2 => tz σ H2 fun z H3 => rKget K d x y z H3 Q) : tKget K d td ty tz σ H Q := h
theorem g_eqD {x y : V} {d e : PyData} (hx : Dp K H x d) (hy : Dp K H y e) (s1 : SeqAt.shaped d = true) (s2 : SeqAt.shaped e = true) (q : Q (.bl (PyData.eqv d e)) H) : xEq K x y H Q := Or.inr ⟨d, e, hx, hy, s1, s2, q⟩
theorem g_neD {x y : V} {d e : PyData} (hx : Dp K H x d) (hy : Dp K H y e) (s1 : SeqAt.shaped d = true) (s2 : SeqAt.shaped e = true) (q : Q (.bl (!PyData.eqv d e)) H) : xNe K x y H Q := Or.inr ⟨d, e, hx, hy, s1, s2, q⟩
end
theorem harmN_le (t : Str) : harmN t ≤ 2 := by
  unfold harmN
  split
  · omega
  · split <;> omega
theorem at0 {α : Type} {x : α} {xs : List α} : atI (x :: xs) 0 = some x := atI_nat (j := 0) rfl
theorem at1 {α : Type} {x y : α} {xs : List α} : atI (x :: y :: xs) 1 = some y := atI_nat (j := 1) rfl
theorem pure_is_harm {K : Frag} (hT : HarmTab K) (vs : List V) (H : Hp) (Q : VK) (E : XK) (h : sp_is_harm K vs H Q E) : t_is_harm K ⟨fun _ H' => Q .non H', Q, fun _ _ => False, fun _ _ => False⟩ (start ["value"] vs) H := by
  obtain ⟨v, d, rfl, hd, hs, hf, q⟩ := h
  show tSeq _ _ _ [some v] H
  have e : ∀ b, isHarmD d = b → ∀ H1, Ex H H1 → Q (.bl b) H1 := fun b hb => by rw [← hb]; exact q
  walk_at "go"
  refine g_isi hd (by decide) ?_
  walk_at "go"
  by_cases ht : ∃ ds, d = .tuple ds
  · obtain ⟨ds, rfl⟩ := ht
    refine g_iteB (fun h1 => by simp [isiD, tyD] at h1) (fun _ => ?_)
    cases hd with
    | @tup a xs _ hT' ha =>
      walk_at "go"
      refine g_newT fun p H1 hp e1 h1 => ?_
      refine g_eqD (up e1 (.tup hT' ha)) (.tup (Evl.st_of h1) .nil) hs (by decide) ?_
      walk_at "go"
      cases ha with
      | nil =>
        refine g_iteB (fun _ => ?_) (fun h => by simp [PyData.eqv, PyData.eqvAll] at h)
        walk_at "go"
        exact e _ rfl H1 e1
      | @cons y ys x ds' hy hys =>
        refine g_iteB (fun h => by simp [PyData.eqv, PyData.eqvAll] at h) (fun _ => ?_)
        walk_at "go"
        refine g_ixT (Evl.ex_t e1 hT') at0 ?_
        walk_at "go"
        refine g_isi (up e1 hy) (by decide) ?_
        walk_at "go"
        by_cases hx : ∃ t, x = .str t
        · obtain ⟨t, rfl⟩ := hx
          cases hy
          refine g_iteB (fun h => by simp [isiD, tyD] at h) (fun _ => ?_)
          walk_at "go"
          refine g_kget ?_
          walk_at "go"
          refine ⟨rfl, ?_⟩
          walk_at "go"
          refine g_ixT (Evl.ex_t e1 hT') at0 ?_
          walk_at "go"
          obtain ⟨r, r1, r2, r3⟩ := hT t
          refine ⟨t, r, .int (harmN t), rfl, rfl, r1, r2, fun h => by rw [r3 h], ?_⟩
          walk_at "go"
          refine g_lenT (Evl.ex_t e1 hT') ?_
          walk_at "go"
          have l1 := dpa_len hys
          refine g_iteB (fun h => ?_) (fun h => ?_)
          · walk_at "go"
            refine e _ ?_ H1 e1
            simp [l1] at h
            rcases ds' with _ | ⟨n, _ | ⟨m, r⟩⟩ <;> simp [isHarmD] at h ⊢ <;> omega
          · simp [l1] at h
            walk_at "go"
            refine g_lenT (Evl.ex_t e1 hT') ?_
            walk_at "go"
            refine g_iteB (fun h2 => ?_) (fun h2 => ?_)
            · simp [l1] at h2
              refine e _ ?_ H1 e1
              obtain rfl : ds' = [] := List.length_eq_zero_iff.mp (by omega)
              simp at h
              simp [isHarmD, h]
            · simp [l1] at h2
              cases hys with
              | nil => simp at h2
              | @cons y2 ys2 x2 ds2 hy2 hys2 =>
                walk_at "go"
                refine g_ixT (Evl.ex_t e1 hT') at1 ?_
                walk_at "go"
                refine ⟨y2, x2, 0, 1000000, rfl, up e1 hy2, fun H2 e2 => ?_⟩
                refine e _ ?_ H2 (e1.trans e2)
                rcases ds2 with _ | ⟨m, r⟩
                · simp at h
                  simp [isHarmD, h]
                · exfalso
                  simp at h
                  have := harmN_le t
                  omega
        · refine g_iteB (fun _ => ?_) (fun h => ?_)
          · walk_at "go"
            refine e _ ?_ H1 e1
            cases x <;> first | rfl | (exfalso; exact hx ⟨_, rfl⟩) | (cases ds' <;> rfl)
          · exfalso
            cases x <;> first | (exact hx ⟨_, rfl⟩) | simp [isiD, tyD] at h
  · refine g_iteB (fun _ => ?_) (fun h => ?_)
    · walk_at "go"
      refine e _ ?_ H (Evl.Ex.refl H)
      cases d <;> first | rfl | (exfalso; exact ht ⟨_, rfl⟩)
    · exfalso
      cases d <;> first | (exact ht ⟨_, rfl⟩) | simp [isiD, tyD] at h
end Cm

set_option Elab.async false
set_option linter.all false
set_option maxRecDepth 100000
set_option maxHeartbeats 3000000
/-! Common part, 6: data that is good to be told: shape and depth. -/
namespace Cm
open L2 PySem PySem.Spec PyProof.Rows RZ
theorem fit_int (n : Nat) (i : Int) : fit n (.int i) := by cases n <;> simp [fit]
theorem fit_bl (n : Nat) (i : Bool) : fit n (.bool i) := by cases n <;> simp [fit]
theorem fit_non (n : Nat) : fit n .none := by cases n <;> simp [fit]
theorem fit_str (n : Nat) (i : Str) : fit n (.str i) := by cases n <;> simp [fit]
theorem fit_dict (n : Nat) (i : List (PyData × PyData)) : fit n (.dict i) := by cases n <;> simp [fit]
def okD (n : Nat) (d : PyData) : Prop := d.canLay0 = true ∧ fit n d
theorem canAll : ∀ {ds : List PyData}, (∀ d ∈ ds, d.canLay0 = true) → PyData.canLayAll0 ds = true
  | [], _ => by unfold PyData.canLayAll0; rfl
  | d :: ds, h => by
    unfold PyData.canLayAll0
    rw [h d (List.mem_cons_self ..), canAll fun x hx => h x (List.mem_cons_of_mem _ hx)]
    rfl
theorem ok_tup {n : Nat} {ds : List PyData} (hl : ds.length ≤ 100000) (h : ∀ d ∈ ds, okD n d) : okD (n + 1) (.tuple ds) :=
  ⟨by unfold PyData.canLay0; exact canAll fun d hd => (h d hd).1, hl, fun d hd => (h d hd).2⟩
theorem ok_lst {n : Nat} {ds : List PyData} (hl : ds.length ≤ 100000) (h : ∀ d ∈ ds, okD n d) : okD (n + 1) (.list ds) :=
  ⟨by unfold PyData.canLay0; exact canAll fun d hd => (h d hd).1, hl, fun d hd => (h d hd).2⟩
theorem can_mem : ∀ {ds : List PyData} {d : PyData}, PyData.canLayAll0 ds = true → d ∈ ds → d.canLay0 = true
  | [], _, _, h => by cases h
  | x :: xs, d, hc, h => by
    unfold PyData.canLayAll0 at hc
    obtain ⟨c1, c2⟩ := Bool.and_eq_true_iff.mp hc
    rcases List.mem_cons.mp h with rfl | h
    · exact c1
    · exact can_mem c2 h
theorem ok_of_tup {n : Nat} {ds : List PyData} {d : PyData} (h : okD (n + 1) (.tuple ds)) (hd : d ∈ ds) : okD n d := ⟨can_mem (by have := h.1; unfold PyData.canLay0 at this; exact this) hd, h.2.2 _ hd⟩
theorem ok_of_lst {n : Nat} {ds : List PyData} {d : PyData} (h : okD (n + 1) (.list ds)) (hd : d ∈ ds) : okD n d := ⟨can_mem (by have := h.1; unfold PyData.canLay0 at this; exact this) hd, h.2.2 _ hd⟩
theorem ok_int {n : Nat} {i : Int} : okD n (.int i) := ⟨by unfold PyData.canLay0; rfl, fit_int ..⟩
theorem ok_bl {n : Nat} {b : Bool} : okD n (.bool b) := ⟨by unfold PyData.canLay0; rfl, fit_bl ..⟩
theorem ok_non {n : Nat} : okD n .none := ⟨by unfold PyData.canLay0; rfl, fit_non ..⟩
theorem ok_str {n : Nat} {x : Str} (h : PyData.strOk x = true) : okD n (.str x) := ⟨by unfold PyData.canLay0; exact h, fit_str ..⟩
theorem fit_up : ∀ {n m : Nat} {d : PyData}, n ≤ m → fit n d → fit m d
  | 0, m, .list _, _, h => h.elim
  | 0, m, .tuple _, _, h => h.elim
  | n + 1, 0, _, hm, _ => absurd hm (by omega)
  | n + 1, m + 1, .list ds, hm, h => ⟨h.1, fun d hd => fit_up (by omega) (h.2 d hd)⟩
  | n + 1, m + 1, .tuple ds, hm, h => ⟨h.1, fun d hd => fit_up (by omega) (h.2 d hd)⟩
  | _, _, .none, _, _ => fit_non ..
  | _, _, .bool _, _, _ => fit_bl ..
  | _, _, .int _, _, _ => fit_int ..
  | _, _, .str _, _, _ => fit_str ..
  | _, _, .dict _, _, _ => fit_dict ..
theorem okD.up {n m : Nat} {d : PyData} (hm : n ≤ m) (h : okD n d) : okD m d := ⟨h.1, fit_up hm h.2⟩
mutual
theorem fit_depth : ∀ (d : PyData) (n : Nat), d.canLay0 = true → fit n d → d.depth ≤ n
  | .list ds, 0, _, h => h.elim
  | .tuple ds, 0, _, h => h.elim
  | .list ds, n + 1, hc, h => by
    unfold PyData.depth
    have := fit_depthAll ds n (by unfold PyData.canLay0 at hc; exact hc) h.2
    omega
  | .tuple ds, n + 1, hc, h => by
    unfold PyData.depth
    have := fit_depthAll ds n (by unfold PyData.canLay0 at hc; exact hc) h.2
    omega
  | .none, n, _, _ => by unfold PyData.depth; omega
  | .bool _, n, _, _ => by unfold PyData.depth; omega
  | .int _, n, _, _ => by unfold PyData.depth; omega
  | .str _, n, _, _ => by unfold PyData.depth; omega
  | .dict _, _, hc, _ => by unfold PyData.canLay0 at hc; cases hc
theorem fit_depthAll : ∀ (ds : List PyData) (n : Nat), PyData.canLayAll0 ds = true → (∀ d ∈ ds, fit n d) → PyData.depthAll ds ≤ n
  | [], _, _, _ => by unfold PyData.depthAll; omega
  | d :: ds, n, hc, h => by
    unfold PyData.canLayAll0 at hc
    obtain ⟨c1, c2⟩ := Bool.and_eq_true_iff.mp hc
    have h1 := fit_depth d n c1 (h d (List.mem_cons_self ..))
    have h2 := fit_depthAll ds n c2 fun x hx => h x (List.mem_cons_of_mem _ hx)
    unfold PyData.depthAll
    omega
end
theorem okD.shaped {n : Nat} {d : PyData} (h : okD n d) (hn : n ≤ 64) : SeqAt.shaped d = true := by
  unfold SeqAt.shaped
  rw [h.1]
  have := fit_depth d n h.1 h.2
  simp
  omega
/-- a thing that is such data -/
def Gd (K : Frag) (H : Hp) (n : Nat) (x : V) : Prop := ∃ d, Dp K H x d ∧ okD n d
section
variable {K : Frag} {H H' : Hp} {n : Nat}
theorem Gd.ex {x : V} (e : Ex H H') (h : Gd K H n x) : Gd K H' n x := let ⟨d, h1, h2⟩ := h; ⟨d, up e h1, h2⟩
theorem Gd.le {m : Nat} {x : V} (hm : n ≤ m) (h : Gd K H n x) : Gd K H m x := let ⟨d, h1, h2⟩ := h; ⟨d, h1, h2.up hm⟩
theorem gd_int {i : Int} : Gd K H n (.int i) := ⟨_, .int i, ok_int⟩
theorem gd_bl {i : Bool} : Gd K H n (.bl i) := ⟨_, .bl i, ok_bl⟩
theorem gd_non : Gd K H n .non := ⟨_, .non, ok_non⟩
theorem gd_str {s : Str} (h : PyData.strOk s = true) : Gd K H n (.str s) := ⟨_, .str s, ok_str h⟩
theorem gd_all : ∀ {xs : List V}, (∀ x ∈ xs, Gd K H n x) → ∃ ds, DpAll K H xs ds ∧ ds.length = xs.length ∧ ∀ d ∈ ds, okD n d
  | [], _ => ⟨[], .nil, rfl, fun _ h => by cases h⟩
  | x :: xs, h => by
    obtain ⟨d, h1, h2⟩ := h x (List.mem_cons_self ..)
    obtain ⟨ds, h3, h4, h5⟩ := gd_all fun y hy => h y (List.mem_cons_of_mem _ hy)
    refine ⟨d :: ds, .cons h1 h3, by rw [List.length_cons, List.length_cons, h4], fun y hy => ?_⟩
    rcases List.mem_cons.mp hy with rfl | hy
    · exact h2
    · exact h5 y hy
theorem gd_tup {p : Addr} {xs : List V} (h : H p = some (.tup xs)) (hl : xs.length ≤ 100000) (ha : ∀ x ∈ xs, Gd K H n x) : Gd K H (n + 1) (.ref p) := by
  obtain ⟨ds, h1, h2, h3⟩ := gd_all ha
  exact ⟨_, dp_tup h h1, ok_tup (by omega) h3⟩
theorem gd_lst {p : Addr} {xs : List V} (h : H p = some (.lst xs)) (hl : xs.length ≤ 100000) (ha : ∀ x ∈ xs, Gd K H n x) : Gd K H (n + 1) (.ref p) := by
  obtain ⟨ds, h1, h2, h3⟩ := gd_all ha
  exact ⟨_, dp_lst h h1, ok_lst (by omega) h3⟩
end
end Cm

set_option Elab.async false
set_option linter.all false
set_option maxRecDepth 100000
set_option maxHeartbeats 3000000
/-! Common part, 7: what the head tells, turned to what the defs ask. -/
namespace Cm
open L2 PySem PySem.Spec PyProof.Rows RZ
theorem kbn_of {K : Frag} {x qual : Str} {params : Arguments} {body : List Stmt} {scope : Scope} {f : Addr} {fd : FuncData} {ps ks : List Str} {n : Nat} {g : List Value → List Value → List Value} {gV : List V → List V → List V}
    (F : FunD K x qual params body scope [] [] f fd) (_u : True = True)
    (h : ∀ (kV doc pm : Value) (an : Option Addr) (cdv ct : Value) (us ws : List Value), us.length = n → ws.length = ks.length → bindArgs (PySem.W.fnOf x qual params body scope .none kV doc pm an cdv ct) ⟨us, ks.zip ws⟩ = pure (ps.zip (g us ws)))
    (hr : ∀ {vs : List V} {us : List Value} {zs : List V} {ws : List Value}, Vals vs us → Vals zs ws → Vals (gV vs zs) (g us ws)) : KBn K fd ps n ks g gV := by
  obtain ⟨oc, od, dV, kV, doc, pm, an, cdv, ct, osl, rfl, _, _, hD, _⟩ := F.ex
  rcases hD with ⟨_, rfl⟩ | ⟨e, _⟩
  · exact ⟨fun s us ws _ l1 l2 => .of_eq (h kV doc pm an cdv ct us ws l1 l2), hr⟩
  · exact absurd rfl e
theorem vals_getD {vs : List V} {us : List Value} {i : Nat} (r : Vals vs us) : RelV (vs.getD i .non) (us.getD i .none) := by
  rw [List.getD_eq_getElem?_getD, List.getD_eq_getElem?_getD]
  cases h : vs[i]? with
  | none =>
    rw [Vals.none_of r h]
    rfl
  | some v =>
    obtain ⟨u, h1, h2⟩ := r.get h
    rw [h1]
    exact h2
theorem tab_says {fa : List He.Fa} {fn : List He.DefD} {ts : List He.Tab} {w : World} {K : Frag} (c : He.SaysT fa fn ts w K) (i : Nat) {t : He.Tab} (h : ts[i]? = some t) : He.dicW K (t.1 K) = some (He.keysIn w.params t.2) := by
  have e : ts.map (fun t => He.dicW K (t.1 K)) = ts.map fun t => some (He.keysIn w.params t.2) := congrArg (fun z : He.AlT => z.2) c
  have e2 := congrArg (fun l : List (Option (List (Option (Str × Int)))) => l[i]?) e
  simp only [List.getElem?_map, h, Option.map_some, Option.some.injEq] at e2
  exact e2
/-- a key that the table lacks -/
theorem tab_miss {K : Frag} {P : Params} {a : Addr} {ks : List Str} (h : He.dicW K a = some (He.keysIn P ks)) {t : Str} (ht : t ∉ ks) : PySem.W.nsIn K a t = some none := by
  unfold He.dicW at h
  unfold PySem.W.nsIn
  split at h
  · rename_i c es n sl q
    rw [q]
    dsimp only
    split at h
    · have e := Option.some.inj h
      have hk : ∀ d ∈ es.toList, ∃ k ∈ ks, ∃ t, d.key = .str k t := by
        intro d hd
        have h1 : He.keyOf d ∈ He.keysIn P ks := by rw [← e]; exact List.mem_map_of_mem hd
        unfold He.keysIn at h1
        obtain ⟨k, hk, hq⟩ := List.mem_map.mp h1
        refine ⟨k, hk, ?_⟩
        unfold He.keyOf at hq
        split at hq
        · rename_i x t2 q2
          have h3 := (Prod.mk.inj (Option.some.inj hq)).1
          exact ⟨t2, by rw [h3]; exact q2⟩
        · cases hq
      have h1 : es.toList.find? (fun d => d.key.isStr t) = none := by
        rw [List.find?_eq_none]
        intro d hd hs
        obtain ⟨k, hk1, tk, hk2⟩ := hk d hd
        rw [hk2] at hs
        have h4 : (k == t) = true := hs
        exact ht ((beq_iff_eq.mp h4) ▸ hk1)
      have h2 : es.toList.any (fun d => d.refKey) = false := by
        rw [List.any_eq_false]
        intro d hd
        obtain ⟨k, _, tk, hk2⟩ := hk d hd
        simp [DictEntry.refKey, hk2]
      rw [h1, h2]
      rfl
    · cases h
  · cases h
theorem harm_tab {K : Frag} {P : Params} (h : He.dicW K (He.ga K "HARMS") = some (He.keysIn P ["in", "halt", "bare", "long"])) (hv : He.valsB K (He.ga K "HARMS") [("in", .int 1), ("halt", .int 1), ("bare", .int 2), ("long", .int 2)] = true) : HarmTab K := by
  have at_ : ∀ (q : Str × He.Dv), q ∈ ([("in", .int 1), ("halt", .int 1), ("bare", .int 2), ("long", .int 2)] : List (Str × He.Dv)) → q.2.v K = .int (harmN q.1) → ∃ r, PySem.W.nsIn K (He.ga K "HARMS") q.1 = some r ∧ (∀ u, r = some u → RelV (.int (harmN q.1)) u) ∧ (r = none → harmN q.1 = 0) := by
    intro q hq hn
    obtain ⟨u, h1, h2⟩ := He.valsB_ok hv hq
    refine ⟨_, h1, fun u' e => ?_, fun e => by cases e⟩
    cases e
    rw [← hn]
    exact h2
  intro t
  by_cases h1 : t = "in"
  · subst h1; exact at_ ("in", .int 1) (by simp) (by simp [He.Dv.v, harmN])
  · by_cases h2 : t = "halt"
    · subst h2; exact at_ ("halt", .int 1) (by simp) (by simp [He.Dv.v, harmN])
    · by_cases h3 : t = "bare"
      · subst h3; exact at_ ("bare", .int 2) (by simp) (by show V.int 2 = V.int (harmN "bare"); congr 1)
      · by_cases h4 : t = "long"
        · subst h4; exact at_ ("long", .int 2) (by simp) (by show V.int 2 = V.int (harmN "long"); congr 1)
        · refine ⟨none, tab_miss h (by simp [h1, h2, h3, h4]), fun u e => by (cases e), fun _ => ?_⟩
          unfold harmN
          rw [if_neg (by simp [h1, h2]), if_neg (by simp [h3, h4])]
end Cm

set_option Elab.async false
set_option linter.all false
set_option maxRecDepth 100000
set_option maxHeartbeats 3000000
/-! Common part, 8: words, names. -/
local macro_rules | `(tactic| walk_at "gds") => `(tactic| (repeat' (first | exact Cm.gd_int | exact Cm.gd_bl | exact Cm.gd_non | exact Cm.gd_str (by decide +kernel) | refine List.forall_mem_cons.mpr ⟨?_, ?_⟩ | exact List.forall_mem_nil _ | assumption)))
local macro_rules | `(tactic| walk_at "ex") => `(tactic| (first | exact Evl.Ex.refl _ | assumption | (refine' Cm.ex_tr ?e1 ?e2; (case e2 => assumption); (case e1 => walk_at "ex"))))
local macro_rules | `(tactic| walk_at "at") => `(tactic| (first | assumption | (refine' Cm.ex_get ?e1 ?e2; (case e1 => assumption); (case e2 => walk_at "at"))))
namespace Cm
open L2 PySem PySem.Spec PyProof.Rows RZ
def rJoin (K : Frag) : V → List V → Hp → VK → Prop := fun x xs H Q => ∃ a p, ∃ ys : List Str, x = .str a ∧ xs = [.ref p] ∧ (SqL K H p (ys.map V.str) ∨ SqT K H p (ys.map V.str)) ∧ (ys.map (·.length)).sum + ys.length * a.length ≤ 16777216 ∧ Q (.str (Txt.join a ys)) H
abbrev letS : Str := "abcdefghijklmnopqrstuvwxyz"
def letL (l : List Nat) : Prop := ∀ c ∈ l, c ∈ TL.tl letS
def wordOf (pre post : List Nat) (f : Int) (i : Nat) : Str := ⟨(pre ++ [(TL.tl letS).getD ((f + 7 * i) % 26).toNat 0] ++ post).toArray⟩
def sp_law_words (K : Frag) : Sp := fun vs H Q _ => ∃ (b : Addr) (n : Int), vs = [.ref b, .int n] ∧ Bag H b ∧ 0 ≤ n ∧ n ≤ 1000 ∧
  ∀ (pre post : List Nat) (f : Int) (p : Addr) (H' : Hp), Ex H H' → letL pre → letL post → pre.length + post.length ≤ 7 → 0 ≤ f → f < 26 → H' p = some (.lst ((List.range n.toNat).map fun i => V.str (wordOf pre post f i))) → Q (.ref p) H'
def isNameS (s : Str) : Bool := decide (1 ≤ s.length) && decide (s.length ≤ 8) && (TL.tl s).all fun c => decide (c ∈ TL.tl letS)
def isNameD : PyData → Bool
  | .str s => isNameS s
  | _ => false
def shortD : PyData → Prop
  | .str s => s.length ≤ 100000
  | _ => True
def sp_is_name (K : Frag) : Sp := fun vs H Q _ => ∃ v d, vs = [v] ∧ Dp K H v d ∧ shortD d ∧ ∀ H', Ex H H' → Q (.bl (isNameD d)) H'
def t_is_name (K : Frag) : TS := (tSeq (tIfS (tOr (tNot (tB (tCB (rIsi K) (tCons (tVar 0) (tCons (tC (.ty "str")) tNil))))) (tNot (tTest (tChain xLe xLe (tC (.int 1)) (tCB (rLn K) (tCons (tVar 0) tNil)) (tC (.int 8)))))) (tRet (tC (.bl false))) tNext) (tRet (tCB (rAll K) (tCons (tLc (iStr (tVar 0)) (gName 1) tYes (tOp (xIn K) (tVar 1) (tC (.str "abcdefghijklmnopqrstuvwxyz"))) [1]) tNil))))
def t_law_words (K : Frag) : TS := (tSeq (tAsg (tC (.str "abcdefghijklmnopqrstuvwxyz")) (gName 2)) (tSeq (tAsg (tM1 (rJoin K) (tC (.str "")) (tLc (iRng1 (tCons (tCall (sp_law_pick K) [] E0 (tCons (tVar 0) (tCons (tLst (tCons (tC (.int 0)) (tCons (tC (.int 1)) (tCons (tC (.int 2)) (tCons (tC (.int 7)) tNil))))) tNil))) tNil)) (gName 4) tYes (tCall (sp_law_pick K) [] E0 (tCons (tVar 0) (tCons (tVar 2) tNil))) [4])) (gName 3)) (tSeq (tAsg (tTup (tCons (tCall (sp_law_pull K) [] E0 (tCons (tVar 0) (tCons (tOp (xAdd K) (tCB (rLn K) (tCons (tVar 3) tNil)) (tC (.int 1))) tNil))) (tCons (tCall (sp_law_pull K) [] E0 (tCons (tVar 0) (tCons (tC (.int 26)) tNil))) tNil))) (gTup K 2 (gCons (gName 5) (gCons (gName 6) gNil)))) (tRet (tLc (iRng1 (tCons (tVar 1) tNil)) (gName 4) tYes (tOp (xAdd K) (tOp (xAdd K) (tSl (xSl K) (tVar 3) tNoPart (tPart (tVar 5))) (tOp (rIx K) (tVar 2) (tOp xMod (tCB rInt (tCons (tOp (xAdd K) (tVar 6) (tOp xMul (tC (.int 7)) (tVar 4))) tNil)) (tC (.int 26))))) (tSl (xSl K) (tVar 3) (tPart (tVar 5)) tNoPart)) [4])))))
section
variable {J : It} {n : Nat} {G : Hp → Prop} {Y : Nat → Hp → V → Hp → Prop} {g : TG} {te : TE} {vs : List Nat} {σ : L2.St} {H1 : Hp} {Q : VK}
theorem ys_eq {ys : List V} {g : Nat → V} (hl : ys.length = n) (h : ∀ (i : Nat) (y : V), ys[i]? = some y → y = g i) : ys = (List.range n).map g := by
  refine List.ext_getElem? fun i => ?_
  rw [List.getElem?_map]
  by_cases hi : i < n
  · rw [List.getElem?_range hi, List.getElem?_eq_getElem (by omega)]
    rw [h i _ (List.getElem?_eq_getElem (by omega))]
    rfl
  · rw [List.getElem?_eq_none (by omega), List.getElem?_eq_none (by rw [List.length_range]; omega)]
    rfl
/-- a comprehension whose i-th thing is known -/
theorem lc_map (w : Walk J n G Y) (hn : n ≤ 100000) (hG : ∀ H', Ex H1 H' → G H') (f : Nat → V)
    (hs : ∀ i x H2 H3, i < n → Ex H1 H2 → Y i H2 x H3 → ∀ Nt : VK, (∀ H5, Ex H2 H5 → Nt (f i) H5) → g x (wipe σ vs) H3 fun σ2 H4 => wipe σ2 vs = wipe σ vs ∧ te σ2 H4 Nt)
    (hd : ∀ D H', H1 D = none → Ex H1 H' → H' D = some (.lst ((List.range n).map f)) → Q (.ref D) H') : LcOn J g tYes te vs σ Q H1 := by
  refine lc_all w hn hG (fun _ i y _ => y = f i) (fun _ _ _ _ _ _ h => h) ?_ ?_
  · intro D i x H2 H3 _ _ hi e hy Nt hN
    exact hs i x H2 H3 hi e hy Nt fun H5 e5 => hN _ H5 e5 rfl
  · intro D ys H' hD e h hl hy
    exact hd D H' hD e (by rw [h, ys_eq hl hy])
def StrOn (R : It → Hp → Prop) (v : V) (H : Hp) : Prop := ∃ x, v = .str x ∧ R (Its x) H
theorem g_istr {ta : TE} {R : It → Hp → Prop} {H : Hp} (h : ta σ H (StrOn R)) : iStr ta σ H R := h
theorem g_asgG {D : Ends} {ta : TE} {g : TG} {H : Hp} (h : ta σ H fun x H1 => g x σ H1 D.nx) : tAsg ta g D σ H := h
theorem g_onS {R : It → Hp → Prop} {H : Hp} {x : Str} (h : R (Its x) H) : StrOn R (.str x) H := ⟨x, rfl, h⟩
theorem g_m1 {ta tb : TE} {r : V → List V → Hp → VK → Prop} {H : Hp} (h : ta σ H fun x H1 => (∃ a, x = .str a) ∧ tb σ H1 fun y H2 => r x [y] H2 Q) : tM1 r ta tb σ H Q := h
theorem g_join {K : Frag} {H : Hp} {a : Str} {p : Addr} {ys : List Str} (h : H p = some (.lst (ys.map V.str))) (hl : (ys.map (·.length)).sum + ys.length * a.length ≤ 16777216) (q : Q (.str (Txt.join a ys)) H) : rJoin K (.str a) [.ref p] H Q :=
  ⟨a, p, ys, rfl, rfl, Or.inl (Evl.sq_of h), hl, q⟩
theorem g_allB {K : Frag} {H : Hp} {p : Addr} {bs : List Bool} (h : H p = some (.lst (bs.map V.bl))) (q : Q (.bl (bs.all id)) H) : rAll K [.ref p] H Q := ⟨p, bs, rfl, Evl.sq_of h, q⟩
theorem g_inS {K : Frag} {H : Hp} {c : Nat} {z : Str} (q : Q (.bl (decide (c ∈ TL.tl z))) H) : xIn K (.str ⟨#[c]⟩) (.str z) H Q := Or.inr (Or.inr ⟨c, z, rfl, rfl, q⟩)
end
theorem range_map_tl (s : Str) (f : Nat → V) : (List.range s.cps.size).map (fun i => f (s.cps.toList.getD i 0)) = (TL.tl s).map f := by
  refine (ys_eq (n := s.cps.size) (by simp) fun i y h => ?_).symm
  rw [List.getElem?_map] at h
  cases e : (TL.tl s)[i]? with
  | none => rw [e] at h; cases h
  | some c =>
    rw [e] at h
    cases h
    rw [List.getD_eq_getElem?_getD]
    show _ = f ((TL.tl s)[i]?.getD 0)
    rw [e]
    rfl
theorem letS_len : (TL.tl letS).length = 26 := by decide +kernel
theorem tl_len (s : Str) : (TL.tl s).length = s.length := by show s.cps.toList.length = s.cps.size; simp
theorem pure_is_name {K : Frag} (vs : List V) (H : Hp) (Q : VK) (E : XK) (h : sp_is_name K vs H Q E) : t_is_name K ⟨fun _ H' => Q .non H', Q, fun _ _ => False, fun _ _ => False⟩ (start ["value", "letter"] vs) H := by
  obtain ⟨v, d, rfl, hd, hs, q⟩ := h
  show tSeq _ _ _ [some v, none] H
  have e : ∀ b, isNameD d = b → ∀ H1, Ex H H1 → Q (.bl b) H1 := fun b hb => by rw [← hb]; exact q
  walk_at "go"
  refine g_isi hd (by decide) ?_
  walk_at "go"
  by_cases hx : ∃ s, d = .str s
  · obtain ⟨s, rfl⟩ := hx
    cases hd
    refine g_iteB (fun h => by simp [isiD, tyD] at h) (fun _ => ?_)
    walk_at "go"
    refine g_lenS (sz5 hs) ?_
    walk_at "go"
    refine g_iteB (fun h1 => ?_) (fun h1 => ?_)
    · walk_at "go"
      refine g_iteB (fun h2 => ?_) (fun h2 => ?_)
      · walk_at "go"
        refine e _ ?_ H (Evl.Ex.refl H)
        simp at h1 h2
        simp [isNameD, isNameS]
        omega
      · walk_at "go"
        refine g_istr ?_
        walk_at "go"
        refine g_onS ?_
        refine lc_map walk_str (by have := tl_len s; simp at h1 h2; show s.length ≤ _; omega) (fun _ _ => trivial) (fun i => .bl (decide (s.cps.toList.getD i 0 ∈ TL.tl letS))) ?_ ?_
        · rintro i x H2 H3 hi e2 ⟨rfl, c, hc, rfl⟩ Nt hN
          walk_at "go"
          refine ⟨rfl, ?_⟩
          walk_at "go"
          refine g_inS ?_
          have hc2 : s.cps.toList.getD i 0 = c := by
            rw [List.getD_eq_getElem?_getD, Array.getElem?_toList, hc]
            rfl
          have := hN _ (Evl.Ex.refl _)
          rw [hc2] at this
          exact this
        · intro D H' hD e1 h
          walk_at "go"
          rw [range_map_tl s (fun c => .bl (decide (c ∈ TL.tl letS)))] at h
          have h3 : H' D = some (.lst (((TL.tl s).map fun c => decide (c ∈ TL.tl letS)).map V.bl)) := by
            rw [h, List.map_map]
            rfl
          refine g_allB h3 ?_
          refine e _ ?_ H' e1
          simp at h1 h2
          have a1 : decide (1 ≤ s.length) = true := by simp; omega
          have a2 : decide (s.length ≤ 8) = true := by simp; omega
          show (decide (1 ≤ s.length) && decide (s.length ≤ 8) && (TL.tl s).all fun c => decide (c ∈ TL.tl letS)) = _
          rw [a1, a2, List.all_map]
          rfl
    · walk_at "go"
      refine e _ ?_ H (Evl.Ex.refl H)
      simp at h1
      simp [isNameD, isNameS]
      omega
  · refine g_iteB (fun _ => ?_) (fun h => ?_)
    · walk_at "go"
      refine e _ ?_ H (Evl.Ex.refl H)
      cases d <;> first | rfl | (exfalso; exact hx ⟨_, rfl⟩)
    · exfalso
      cases d <;> first | (exact hx ⟨_, rfl⟩) | simp [isiD, tyD] at h
theorem join_tl : ∀ ys : List Str, TL.tl (Txt.join "" ys) = (ys.map TL.tl).flatten := by
  have e0 : TL.tl ("" : Str) = [] := by decide +kernel
  have key : ∀ zs : List (List Nat), TL.joinL [] zs = zs.flatten := by
    intro zs
    induction zs with
    | nil => rfl
    | cons p r ih =>
      cases r with
      | nil => simp [TL.joinL]
      | cons q r => simp only [TL.joinL, List.nil_append, List.flatten_cons] at ih ⊢; rw [ih]
  intro ys
  rw [TL.join_eq, TL.tl_join, e0, key]
theorem cut_mem {z : Str} {lo hi : Option Int} {c : Nat} (h : c ∈ TL.tl (cutS z lo hi)) : c ∈ TL.tl z := List.mem_of_mem_drop (List.mem_of_mem_take h)
theorem cut_len (z : Str) (lo hi : Option Int) : (cutS z lo hi).length ≤ z.length := by
  rw [← tl_len, ← tl_len]
  show ((_ : List Nat).take _).length ≤ _
  rw [List.length_take, List.length_drop]
  exact Nat.le_trans (Nat.min_le_right _ _) (Nat.sub_le _ _)
theorem cut_two (z : Str) {i : Int} (h0 : 0 ≤ i) : (TL.tl (cutS z none (some i))).length + (TL.tl (cutS z (some i) none)).length ≤ z.length := by
  have e : (i.toNat : Int) = i := Int.toNat_of_nonneg h0
  rw [← e]
  show (((TL.tl z).drop (HT.sIx z.length 0 none)).take (HT.sIx z.length z.length (some (i.toNat : Int)) - HT.sIx z.length 0 none)).length + (((TL.tl z).drop (HT.sIx z.length 0 (some (i.toNat : Int)))).take (HT.sIx z.length z.length none - HT.sIx z.length 0 (some (i.toNat : Int)))).length ≤ z.length
  rw [HT.sIx_nat, HT.sIx_nat, HT.sIx_none, HT.sIx_none, List.length_take, List.length_take, List.length_drop, List.length_drop, tl_len]
  omega
theorem len_app (a b : Str) : (a ++ b).length = a.length + b.length := by rw [← tl_len, TL.tl_append, List.length_append, tl_len, tl_len]
/-- one of some texts -/
theorem pick_ints {K : Frag} {H : Hp} {Q : VK} {E : XK} {b l : Addr} {xs : List V} (hB : Bag H b) (h : H l = some (.lst xs)) (h0 : xs ≠ []) (h1 : xs.length ≤ 10000) (q : ∀ x ∈ xs, Q x H) : sp_law_pick K [.ref b, .ref l] H Q E :=
  ⟨b, .ref l, rfl, hB, Or.inl ⟨l, xs, rfl, Evl.sq_of h, h0, h1, q⟩⟩
theorem pull_n {K : Frag} {H : Hp} {Q : VK} {E : XK} {b : Addr} {n : Int} (hB : Bag H b) (h0 : 0 < n) (h1 : n < 2 ^ 40) (q : ∀ d : Int, 0 ≤ d → d < n → Q (.int d) H) : sp_law_pull K [.ref b, .int n] H Q E :=
  ⟨b, n, rfl, hB, h0, small_log h0 h1, q⟩
theorem pure_law_words {K : Frag} (vs : List V) (H : Hp) (Q : VK) (E : XK) (h : sp_law_words K vs H Q E) : t_law_words K ⟨fun _ H' => Q .non H', Q, fun _ _ => False, fun _ _ => False⟩ (start ["bag", "count", "letters", "stem", "k", "at", "first"] vs) H := by
  obtain ⟨b, n, rfl, hB, hn0, hn1, q⟩ := h
  show tSeq _ _ _ [some (.ref b), some (.int n), none, none, none, none, none] H
  walk_at "go"
  refine g_m1 ?_
  walk_at "go"
  refine ⟨⟨_, rfl⟩, ?_⟩
  walk_at "go"
  refine g_newL fun p1 A1 _ f1 i1 => ?_
  walk_at "go"
  have hB1 := Bag.ex f1 hB
  refine pick_ints hB1 i1 (by simp) (by simp) ?_
  have key : ∀ m : Nat, m ≤ 7 → RngOn (fun J H2 => LcOn J (gName 4) tYes (tCall (sp_law_pick K) [] E0 (tCons (tVar 0) (tCons (tVar 2) tNil))) [4] [some (.ref b), some (.int n), some (.str letS), none, none, none, none] (fun y H2 => rJoin K (.str "") [y] H2 fun x H3 => tSeq (tAsg (tTup (tCons (tCall (sp_law_pull K) [] E0 (tCons (tVar 0) (tCons (tOp (xAdd K) (tCB (rLn K) (tCons (tVar 3) tNil)) (tC (.int 1))) tNil))) (tCons (tCall (sp_law_pull K) [] E0 (tCons (tVar 0) (tCons (tC (.int 26)) tNil))) tNil))) (gTup K 2 (gCons (gName 5) (gCons (gName 6) gNil)))) (tRet (tLc (iRng1 (tCons (tVar 1) tNil)) (gName 4) tYes (tOp (xAdd K) (tOp (xAdd K) (tSl (xSl K) (tVar 3) tNoPart (tPart (tVar 5))) (tOp (rIx K) (tVar 2) (tOp xMod (tCB rInt (tCons (tOp (xAdd K) (tVar 6) (tOp xMul (tC (.int 7)) (tVar 4))) tNil)) (tC (.int 26))))) (tSl (xSl K) (tVar 3) (tPart (tVar 5)) tNoPart)) [4])) ⟨fun _ H' => Q .non H', Q, fun _ _ => False, fun _ _ => False⟩ (([some (.ref b), some (.int n), some (.str letS), none, none, none, none] : L2.St).set 3 (some x)) H3) H2) [.int (m : Nat)] A1 := by
    intro m hm
    refine g_rng (by omega) (by omega) ?_
    refine lc_all walk_range (by omega) (fun _ _ => trivial) (fun _ _ y _ => ∃ c, c ∈ TL.tl letS ∧ y = .str ⟨#[c]⟩) (fun _ _ _ _ _ _ h => h) ?_ ?_
    · rintro D i x H2 H3 _ _ hi e2 ⟨rfl, rfl⟩ Nt hN
      walk_at "go"
      refine ⟨rfl, ?_⟩
      walk_at "go"
      refine ⟨b, _, rfl, Bag.ex e2 hB1, Or.inr ⟨letS, rfl, by decide +kernel, by decide +kernel, fun c hc => ?_⟩⟩
      exact hN _ _ (Evl.Ex.refl _) ⟨c, hc, rfl⟩
    · intro D ys A2 hD f2 h2 hl hy
      obtain ⟨cs, rfl, hcs⟩ : ∃ cs : List Nat, ys = (cs.map fun c => (⟨#[c]⟩ : Str)).map V.str ∧ ∀ c ∈ cs, c ∈ TL.tl letS := by
        clear h2 hl
        induction ys with
        | nil => exact ⟨[], rfl, fun _ h => by cases h⟩
        | cons y ys ih =>
          obtain ⟨cs, e, h⟩ := ih fun i z hz => hy (i + 1) z (by simpa using hz)
          obtain ⟨c, hc, rfl⟩ := hy 0 y rfl
          exact ⟨c :: cs, by rw [e]; rfl, fun z hz => by rcases List.mem_cons.mp hz with rfl | hz; exact hc; exact h z hz⟩
      rw [List.length_map, List.length_map] at hl
      have hflat : ((cs.map fun c => (⟨#[c]⟩ : Str)).map TL.tl).flatten = cs := by
        clear h2 hl hy hcs
        induction cs with
        | nil => rfl
        | cons c cs ih => rw [List.map_cons, List.map_cons, List.flatten_cons, ih]; rfl
      have hsum : (((cs.map fun c => (⟨#[c]⟩ : Str)).map (·.length)).sum) = cs.length := by
        clear h2 hl hy hcs hflat
        induction cs with
        | nil => rfl
        | cons c cs ih => rw [List.map_cons, List.map_cons, List.sum_cons, ih, List.length_cons]; show 1 + _ = _; omega
      refine g_join h2 (by rw [hsum, List.length_map]; show cs.length + cs.length * 0 ≤ _; omega) ?_
      have hst : TL.tl (Txt.join "" (cs.map fun c => (⟨#[c]⟩ : Str))) = cs := by rw [join_tl, hflat]
      generalize Txt.join "" (cs.map fun c => (⟨#[c]⟩ : Str)) = stem at hst ⊢
      have hsl : stem.length = m := by rw [← tl_len, hst]; exact hl
      have hB2 := Bag.ex f2 hB1
      walk_at "go"
      refine g_asgG ?_
      walk_at "go"
      refine g_lenS (sz5 (by omega)) ?_
      walk_at "go"
      refine pull_n hB2 (by omega) (by omega) fun at_ a0 a1 => ?_
      walk_at "go"
      refine pull_n hB2 (by omega) (by omega) fun f b0 b1 => ?_
      walk_at "go"
      refine g_newT fun pT AT _ fT iT => ?_
      refine g_pair (Evl.st_of iT) ?_
      walk_at "go"
      refine g_rng hn0 (by omega) ?_
      have c2 := cut_two stem a0
      refine lc_map walk_range (by omega) (fun _ _ => trivial) (fun i => .str (wordOf (TL.tl (cutS stem none (some at_))) (TL.tl (cutS stem (some at_) none)) f i)) ?_ ?_
      · rintro i x H2 H3 hi e2 ⟨rfl, rfl⟩ Nt hN
        walk_at "go"
        refine ⟨rfl, ?_⟩
        walk_at "go"
        refine g_slS (sz5 (by omega)) ?_
        walk_at "go"
        refine g_mul (Or.inl (by omega)) ?_
        walk_at "go"
        refine g_mod (by omega) ?_
        have m0 := Int.emod_nonneg (f + 7 * (0 + (i : Int))) (b := 26) (by omega)
        have m1 := Int.emod_lt_of_pos (f + 7 * (0 + (i : Int))) (b := 26) (by omega)
        have hd : ((f + 7 * (0 + (i : Int))) % 26).toNat < (TL.tl letS).length := by rw [letS_len]; omega
        refine g_ixS (k := (TL.tl letS).getD ((f + 7 * (0 + (i : Int))) % 26).toNat 0) (by rw [← tl_len, letS_len]; exact sz5 (by omega)) ?_ ?_
        · have g : atI (TL.tl letS) ((((f + 7 * (0 + (i : Int))) % 26).toNat : Nat) : Int) = some ((TL.tl letS).getD ((f + 7 * (0 + (i : Int))) % 26).toNat 0) := atI_nat (by rw [List.getD_eq_getElem?_getD, List.getElem?_eq_getElem hd]; rfl)
          rw [Int.toNat_of_nonneg m0] at g
          exact g
        · have l1 := cut_len stem none (some at_)
          have l2 := cut_len stem (some at_) none
          refine g_cat (sz5 (by show _ + 1 ≤ _; omega)) ?_
          walk_at "go"
          refine g_slS (sz5 (by omega)) ?_
          refine g_cat (sz5 (by rw [len_app]; show _ + 1 + _ ≤ _; omega)) ?_
          have e := hN _ (Evl.Ex.refl _)
          have ez : wordOf (TL.tl (cutS stem none (some at_))) (TL.tl (cutS stem (some at_) none)) f i = cutS stem none (some at_) ++ ⟨#[(TL.tl letS).getD ((f + 7 * (0 + (i : Int))) % 26).toNat 0]⟩ ++ cutS stem (some at_) none := by
            refine TL.ext_tl ?_
            rw [TL.tl_append, TL.tl_append]
            show _ ++ [(TL.tl letS).getD ((f + 7 * (i : Int)) % 26).toNat 0] ++ _ = _
            rw [show (0 + (i : Int)) = (i : Int) by omega]
          rw [ez] at e
          exact e
      · intro D2 A3 _ f3 h3
        refine q _ _ f D2 A3 (((f1.trans f2).trans fT).trans f3) ?_ ?_ ?_ b0 b1 h3
        · intro c hc
          exact hcs c (hst ▸ cut_mem hc)
        · intro c hc
          exact hcs c (hst ▸ cut_mem hc)
        · omega
  intro x hx
  simp only [List.mem_cons, List.not_mem_nil, or_false] at hx
  rcases hx with rfl | rfl | rfl | rfl
  · exact key 0 (by omega)
  · exact key 1 (by omega)
  · exact key 2 (by omega)
  · exact key 7 (by omega)
end Cm

set_option Elab.async false
set_option linter.all false
set_option maxRecDepth 100000
set_option maxHeartbeats 3000000
/-! Common part, 9: what a law promises. -/
namespace Cm
open L2 PySem PySem.Spec PyProof.Rows RZ
def sp_law (K : Frag) : Sp := fun vs H Q _ => ∃ (a : Addr) (ns : List Int), vs = [.ref a] ∧ SqL K H a (ns.map V.int) ∧ ns.length ≤ 63 ∧ ∀ H', Q (.bl true) H'
theorem rep_map (n : Nat) (v : V) : (List.range n).map (fun _ => v) = List.replicate n v := by
  rw [List.map_const']
  rw [List.length_range]
theorem dpa_rep {K : Frag} {H : Hp} {v : V} {d : PyData} (h : Dp K H v d) : ∀ n : Nat, DpAll K H (List.replicate n v) (List.replicate n d)
  | 0 => .nil
  | n + 1 => .cons h (dpa_rep h n)
theorem dpa_app {K : Frag} {H : Hp} : ∀ {xs ys : List V} {ds es : List PyData}, DpAll K H xs ds → DpAll K H ys es → DpAll K H (xs ++ ys) (ds ++ es)
  | _, _, _, _, .nil, h => h
  | _, _, _, _, .cons h t, g => .cons h (dpa_app t g)
end Cm

set_option Elab.async false
set_option linter.all false
set_option maxRecDepth 100000
set_option maxHeartbeats 3000000
/-! Common part, 10: enumerate of a tuple; what is never reached. -/
namespace CmE
open PySem
set_option maxHeartbeats 1000000 in
theorem meets_en1 {v : Value} {o : Obj} {G : Heap → Prop} (B : Begins v o G) :
    Meets (Builtin.«enumerate.__new__» ⟨[.type "enumerate", v], []⟩) (fun _ R s1 => G s1.heap ∧
      R (.ok (.ret (.ref (s1.heap.push o).objs.size))) { s1 with heap := (s1.heap.push o).push { cls := .type "enumerate", data := .fields #[.none, .bool false, .ref s1.heap.objs.size, rawInt 0, .none, .none] } }) :=
  .of_wp fun prog w A R s1 z => by
    obtain ⟨hp, gs, dr, tk, os⟩ := s1
    obtain ⟨z1, z2⟩ := z
    have sub1 := sub_enumerate
    have it1 : ∀ {A' : Around} {E : Value → Shared → Prop} {Q : Value → Shared → Prop}, Q (.ref hp.objs.size) ⟨hp.push o, gs, dr, tk, os⟩ → wpAny (model prog w) A' (pyIter v) Q E ⟨hp, gs, dr, tk, os⟩ := fun q => B.iter prog w _ _ ⟨hp, gs, dr, tk, os⟩ _ z1 q
    wp_walk using it1
    refine wpAny_stack_any fun st1 => wpAny_pure ?_
    split
    · rename_i cc _ _ _ _ _
      cases (cc == Value.type "enumerate")
      · wp_walk using it1
        exact ⟨_, rfl, z2⟩
      · wp_walk using it1
        exact ⟨_, rfl, z2⟩
    · wp_walk using it1
      exact ⟨_, rfl, z2⟩
section
variable {prog : Program} {w : World} {A : Around} {E : Value → Shared → Prop} {s : Shared}
theorem call_en1 {v : Value} {o : Obj} {G : Heap → Prop} {Q : Value → Shared → Prop} (B : Begins v o G) (g1 : G s.heap)
    (hq : ∀ h2, IsEnum h2 (s.heap.objs.size + 1) s.heap.objs.size 0 .none → h2.get? s.heap.objs.size = some o → (∀ b ob, s.heap.get? b = some ob → h2.get? b = some ob) → Q (.ref (s.heap.objs.size + 1)) { s with heap := h2 }) :
    wpAny (model prog w) A (call (.type "enumerate") [v]) Q E s := by
  refine callType_new F.called_enumerate (by decide) (F.typeCall_enumerate_1 _) (F.newCall_enumerate_1 _) (fun ob => F.args_object_init_2 ob _) F.entry_enumerate_new (meets_en1 B) ⟨g1, ?_⟩
  have sz : (s.heap.push o).objs.size = s.heap.objs.size + 1 := Heap.size_push ..
  show _ ∧ _
  rw [sz]
  have e1 : IsEnum ((s.heap.push o).push { cls := .type "enumerate", data := .fields #[.none, .bool false, .ref s.heap.objs.size, rawInt 0, .none, .none] }) (s.heap.objs.size + 1) s.heap.objs.size 0 .none := by
    have q := Heap.get?_push_size (s.heap.push o) (o := { cls := .type "enumerate", data := .fields #[.none, .bool false, .ref s.heap.objs.size, rawInt 0, .none, .none] }) rfl
    rw [sz] at q; exact q
  exact ⟨⟨_, e1, rfl⟩, hq _ e1 (Heap.get?_push_of_some _ (Heap.get?_push_size _ B.free)) fun b ob x => Heap.get?_push_of_some _ (Heap.get?_push_of_some _ x)⟩
end
end CmE
namespace Cm
open L2 PySem PySem.Spec PyProof.Rows RZ
/-- the tuple at a, each item in a new pair with its place -/
def IteT (K : Frag) (a : Addr) : It :=
  ⟨fun i H => ∃ (xs : List V) (x : V), SqT K H a xs ∧ xs[i]? = some x, fun i H v H' => ∃ T x, v = .ref T ∧ H T = none ∧ H' = upd H T (.tup [.int (i : Nat), x]) ∧ ∀ xs, SqT K H a xs → xs[i]? = some x, fun i H => ∃ xs : List V, SqT K H a xs ∧ xs.length = i⟩
theorem turn_enT {P : Program} {w : World} {K : Frag} {elts : List Expr} {kk : Nat} {tpos : Pos} (a e it : Addr) :
    Turn P w K (.Tuple elts kk tpos) (IteT K a) [e, it] e (fun i h => (∃ old, IsEnum h e it ((i : Nat) : Int) old) ∧ h.IsTupleIter it a i ∧ e ≠ it ∧ a ≠ it ∧ a ≠ e) where
  mem := by simp
  obj := fun i h st b hb => by
    obtain ⟨⟨old, he⟩, ⟨o, ho, hc, hd⟩, _⟩ := st
    rcases List.mem_cons.mp hb with z | z
    · rw [z]; exact ⟨_, he, fun v q => nomatch q⟩
    · rw [List.mem_singleton.mp z]; exact ⟨o, ho, fun v q => by rw [hd] at q; cases q⟩
  keep := fun i h h' st k => let ⟨⟨old, he⟩, hi, hne⟩ := st; ⟨⟨old, k e (by simp) _ he⟩, hi.at fun o q => k it (by simp) o q, hne⟩
  item := by
    intro X hP hw hK hc i pins s σ H E I hf st hg
    subst hP; subst hw; subst hK
    obtain ⟨⟨old, he⟩, hit, hne, ha1, ha2⟩ := st
    obtain ⟨xs, x, hq, hx⟩ := hg
    obtain ⟨its, rv, p, hz⟩ := I.tuple hq
    obtain ⟨u, hu, ru⟩ := rv.get hx
    have hel : e < s.heap.objs.size := Heap.lt_size he
    have hil : it < s.heap.objs.size := by obtain ⟨_, q, _⟩ := hit; exact Heap.lt_size q
    have hil2 : i < its.toArray.size := by
      have := (List.getElem?_eq_some_iff.mp hu).1
      simpa using this
    have hh : X.A.in1.handled = none := I.ok.hd hc
    refine wpAny_pyNext_enum_itemD (Draws.tuple hh it a ha1 its.toArray) he ⟨hit, p⟩ hil2 hne (by simp [hne, Ne.symm ha2]) fun y h' tk hy ho hit' hT hsz hk => ?_
    have hy2 : y = u := by
      rw [List.getElem?_toArray] at hy
      rw [hu] at hy
      exact (Option.some.inj hy).symm
    subst hy2
    refine ⟨_, rfl, wpAny_letOwnedTupleGo_enum (s := { s with heap := h', toks := tk + 1 }) ho fun h'' he' sb => ?_⟩
    have hT2 : h''.get? s.heap.objs.size = some { cls := .type "tuple", data := .seq #[.int i tk, y] } := (sb.2 _ (Nat.ne_of_gt hel)).trans hT
    have new : ObjOk X.prog X.w (upd H s.heap.objs.size (.tup [.int (i : Nat), x])) h'' s.heap.objs.size (.tup [.int (i : Nat), x]) := ⟨by show 2 ≤ sizeLine; decide, [.int i tk, y], .cons ⟨_, rfl⟩ (.cons ru .nil), ⟨_, hT2, rfl, _, rfl⟩⟩
    have I1 : Inv X pins σ (upd H s.heap.objs.size (.tup [.int (i : Nat), x])) { s with heap := h'', toks := tk + 1 } := by
      refine I.turnedNew (ch := [e, it]) (fun b ob hb q => ?_) hf (Nat.le_refl _) new
      have n1 : b ≠ e := fun z => hb (by simp [z])
      have n2 : b ≠ it := fun z => hb (by simp [z])
      exact (sb.2 b n1).trans (hk b ob n1 n2 q)
    refine ⟨.ref s.heap.objs.size, _, I1, rfl, ⟨_, x, rfl, I.hok.fresh (Nat.le_refl _), rfl, fun ys hy => by rw [I.tuple_inj hy hq]; exact hx⟩, ⟨⟨y, ?_⟩, hit'.1.at fun o q => (sb.2 it (Ne.symm hne)).trans q, hne, ha1, ha2⟩, fun b hb => ?_⟩
    · rw [show ((i + 1 : Nat) : Int) = (i : Int) + 1 by omega]
      exact he'
    · have hb' : b < s.heap.objs.size := by
        rcases List.mem_cons.mp hb with z | z
        · rw [z]; exact hel
        · rw [List.mem_singleton.mp z]; exact hil
      rw [upd_ne (Nat.ne_of_lt hb')]
      exact (hf b hb).1
  done := by
    intro X hP hw hK hc i pins s σ H E I hf st hg
    subst hP; subst hw; subst hK
    obtain ⟨⟨old, he⟩, hit, hne, ha1, ha2⟩ := st
    obtain ⟨xs, hq, hx⟩ := hg
    obtain ⟨its, rv, p, hz⟩ := I.tuple hq
    obtain ⟨f0, f1, f2, f3, f4, f5⟩ := hf it (by simp)
    have hh : X.A.in1.handled = none := I.ok.hd hc
    have hl : its.toArray.size = i := by rw [List.size_toArray, ← rv.length, hx]
    refine wpAny_pyNext_enum_endD (Draws.tuple hh it a ha1 its.toArray) he ⟨?_, p⟩ fun h' eb => ⟨rfl, I.turned (t' := s.toks) (fun b o hb q => eb b o hb q) f0 f1 f3 f4 f5⟩
    rw [hl]
    exact hit
  self := fun A i s Q E st h => let ⟨⟨_, he⟩, _⟩ := st; wpAny_pyIter_enum he h
theorem walk_enT {K : Frag} {a : Addr} {xs : List V} : Walk (IteT K a) xs.length (fun H => SqT K H a xs) (YPair (fun i => some (.int (i : Nat))) (fun i => xs[i]?)) := by
  constructor
  · intro i H hi q
    exact ⟨xs, xs[i], q, List.getElem?_eq_getElem hi⟩
  · intro H q
    exact ⟨xs, q, rfl⟩
  · rintro i H v H' _ q ⟨T, x, h1, h2, h3, h4⟩
    exact ⟨T, .int (i : Nat), x, h1, h2, h3, rfl, h4 xs q⟩
/-- enumerate of a list, of a tuple -/
def iEnumA (K : Frag) (ta : TA) : TI := fun σ H R => ta σ H fun vs H1 => ∃ a xs, vs = [.ref a] ∧ ((SqL K H1 a xs ∧ R (Ite K a) H1) ∨ (SqT K H1 a xs ∧ R (IteT K a) H1))
theorem pi_enumA {X : Cx} {e : Expr} {ta : TA} {p pos tpos : Pos} {elts : List Expr} {kk : Nat} (hg : Gl X "enumerate") (hm : X.mg "enumerate" = none) (ha : PA X [e] ta) (hs : starEach [e] X.env = [(false, eval e X.env)] := by rfl) :
    PI X (.Tuple elts kk tpos) (.Call (.Name "enumerate" p) [e] [] pos) (iEnumA X.K ta) := by
  refine ⟨fun pins s σ H R I h => ?_⟩
  refine Call_ (ld_blt I hg hm boot_enumerate (PyProof.Rows.callWith_type1 (thn (ha.run pos pins s σ H _ I h) fun us s1 ⟨vs, H1, I1, r1, a, xs, ex, qq⟩ => ?_) hs rfl))
  subst ex
  cases r1 with
  | cons r rr =>
    cases rr
    cases r
    have fresh : ∀ b ∈ [s1.heap.objs.size + 1, s1.heap.objs.size], s1.heap.objs.size ≤ b := fun b hb => by
      rcases List.mem_cons.mp hb with z | z
      · rw [z]; exact Nat.le_add_right _ _
      · rw [List.mem_singleton.mp z]; exact Nat.le_refl _
    rcases qq with ⟨hq, q⟩ | ⟨hq, q⟩
    · obtain ⟨its, rv, p', hz⟩ := I1.list hq
      refine call_enumerate_list p'.isList fun h2 he hit hsz hk => wpAny_pyIter_enum he ?_
      have I2 : Inv X pins σ H1 { s1 with heap := h2 } := I1.kept (t' := s1.toks) hk
      exact ⟨_, [s1.heap.objs.size + 1, s1.heap.objs.size], _, _, H1, rfl, I2, turn_enum a _ _, ⟨⟨.none, he⟩, hit, Nat.succ_ne_self _⟩, fun b hb => I1.fpOk (fresh b hb) (I1.hok.fresh (fresh b hb)), q⟩
    · obtain ⟨its, rv, p', hz⟩ := I1.tuple hq
      refine CmE.call_en1 (begins_tuple a its.toArray) p' fun h2 he hit hk => wpAny_pyIter_enum he ?_
      have I2 : Inv X pins σ H1 { s1 with heap := h2 } := I1.kept (t' := s1.toks) hk
      have hal : a < s1.heap.objs.size := by obtain ⟨o, ho, _⟩ := p'; exact Heap.lt_size ho
      exact ⟨_, [s1.heap.objs.size + 1, s1.heap.objs.size], _, _, H1, rfl, I2, turn_enT a _ _, ⟨⟨.none, he⟩, ⟨_, hit, rfl, rfl⟩, Nat.succ_ne_self _, Nat.ne_of_lt hal, Nat.ne_of_lt (Nat.lt_succ_of_lt hal)⟩, fun b hb => I1.fpOk (fresh b hb) (I1.hok.fresh (fresh b hb)), q⟩
section
variable {K : Frag} {σ : L2.St} {H : Hp} {w : TA} {R : It → Hp → Prop}
def EnuOn (K : Frag) (R : It → Hp → Prop) (vs : List V) (H : Hp) : Prop := iEnumA K (fun _ H' Q => Q vs H') [] H R
theorem g_ienu (h : w σ H (EnuOn K R)) : iEnumA K w σ H R := h
theorem g_enL {a : Addr} {xs : List V} (h1 : SqL K H a xs) (h : R (Ite K a) H) : EnuOn K R [.ref a] H := ⟨a, xs, rfl, Or.inl ⟨h1, h⟩⟩
theorem g_enT {a : Addr} {xs : List V} (h1 : SqT K H a xs) (h : R (IteT K a) H) : EnuOn K R [.ref a] H := ⟨a, xs, rfl, Or.inr ⟨h1, h⟩⟩
end
/-- what is never reached -/
def tNo : TS := fun _ _ _ => False
theorem ps_no {X : Cx} {st : Stmt} : PS X st tNo := ⟨fun _ _ _ _ _ _ h => h.elim⟩
end Cm

set_option Elab.async false
set_option linter.all false
set_option maxRecDepth 100000
set_option maxHeartbeats 3000000
/-! Common part, 11: == and != by an own __eq__, with either answer. -/
namespace CmE
open PySem PySem.W PySem.Calls PyProof.Rows
section
variable {prog : Program} {w : World} {A : Around} {E : Value → Shared → Prop} {s : Shared} {K : PySem.W.Frag} {x C L f : Addr} {h₀ : Heap} {m : Str → Option Value} {ox : Obj} {od : Option Obj} {b tb : Value}
theorem ne_body {Q : Fin → Shared → Prop} (hu : A.units < cLine) (X : K.In s.heap) (I : InstAt s.heap x ox C od) (hs : findIn K (.ref C) "__eq__" = some (some (.ref f))) (hf : isFn K (.ref f) = true)
    (h : wpAny (model prog w) A (call (.ref f) [.ref x, b]) (fun v s' => ∃ k, v = .bool k ∧ Q (.done (.ret (.bool (!k)))) s') E s) : wpAny (model prog w) A (Builtin.«object.__ne__» ⟨[.ref x, b], []⟩) Q E s := by
  unfold Builtin.«object.__ne__»
  repeat (first
    | with_reducible refine wpAny_cRoomFor hu ?_
    | (refine wpAny_bind (m := callSpecialIfBound? (.ref x) (Str.ofString "__eq__") [b]) (ifBound_K X I hs hf (wpAny_mono h (fun r s' hr => by
          obtain ⟨k, rfl, hq⟩ := hr
          repeat (first | exact hq | exact wpAny_pure hq | exact wpAny_truthy_bool hq | (refine wpAny_bind (m := truthy (.bool _)) (wpAny_truthy_bool ?_)) | wp_step)) fun _ _ e => e)))
    | wp_step)
theorem ne_K {Q : Value → Shared → Prop} (hu : A.units + 1 < cLine) (F : Fr h₀ L s.heap m) (X₀ : K.In h₀) (I : InstAt s.heap x ox C od) (hb : Looks (model prog w) s.heap (typeOf b) tb) (hn : notFirst K C tb = true)
    (hne : findIn K (.ref C) "__ne__" = some (some (.builtin "object.__ne__"))) (hob : mroIn K C (.type "object") = some true) (hs : findIn K (.ref C) "__eq__" = some (some (.ref f))) (hf : isFn K (.ref f) = true)
    (h : wpAny (model prog w) A.in1 (call (.ref f) [.ref x, b]) (fun v s' => ∃ k, v = .bool k ∧ Q (.bool (!k)) s') E s) : wpAny (model prog w) A (richCompare .NotEq (.ref x) b) Q E s := by
  have X := X₀.keeps F.keep
  have FB := PySem.F.cmp_object
  have isI : Looks (model prog w) s.heap (isInstance (.ref x) (.type "object")) true := I.type.andThen (looks_mroIn X hob)
  have one : wpAny (model prog w) A (tryCompare (.ref x) "__ne__" b) (fun r s' => ∃ v, r = some v ∧ Q v s') E s := by
    unfold tryCompare
    refine wpAny_bind ?_
    simp only [callSpecialIfBound?, bindSpecialIfBound?]
    refine wpAny_holding (wpAny_bind (wpAny_bind (wpAny_bind (I.type.here ((looks_findIn X hne).here ?_)))))
    simp only [FB.ne.bind]
    refine wpAny_bind (wpAny_askSetting (wpAny_ite ?_))
    have fin : wpAny (model prog w) A (call (.builtin "object.__ne__") ([.ref x] ++ [b]) >>= fun v => pure (some v)) (fun r s' => ∃ k, r = some (.bool (!k)) ∧ Q (.bool (!k)) s') E s := by
      refine wpAny_bind (wpAny_call (codeAny_call_builtin FB.ne.plain PySem.F.cmpEntry_ne (check_slot PySem.F.cmpKind_ne PySem.F.cmpSplit_ne isI (PySem.F.cmpArgs_ne _ _) ?_)))
      refine ne_body (A := A.in1) hu X I hs hf (wpAny_mono h (fun v s' hv => ?_) fun _ _ e => e)
      obtain ⟨k, rfl, hq⟩ := hv
      exact ⟨k, rfl, wpAny_pure ⟨k, rfl, hq⟩⟩
    split
    · exact wpAny_bind (wpAny_pure (wpAny_pure (wpAny_mono fin (fun r s' hr => by obtain ⟨k, rfl, hq⟩ := hr; exact wpAny_pure ⟨_, rfl, hq⟩) fun _ _ e => e)))
    · exact wpAny_tryCatch (wpAny_bind (wpAny_pure (wpAny_pure (wpAny_mono fin (fun r s' hr => by obtain ⟨k, rfl, hq⟩ := hr; exact wpAny_pure ⟨_, rfl, hq⟩) fun _ _ e => e))))
  unfold richCompare
  simp only [oneThing_ref]
  refine wpAny_holding (wpAny_bind (wpAny_cRoomFor (Nat.lt_of_succ_lt hu) ?_))
  refine wpAny_bind (I.type.here (wpAny_bind (hb.here ?_)))
  split
  · rename_i q
    have e : subIn K tb (.ref C) = some false := by
      rcases Bool.or_eq_true_iff.mp hn with e | e
      · rw [beq_iff_eq.mp e] at q; simp at q
      · exact beq_iff_eq.mp e
    refine wpAny_bind ((looks_subIn X e).here ?_)
    simp only [Bool.false_eq_true, if_false]
    refine wpAny_bind (wpAny_mono one (fun r s' z => ?_) fun _ _ e => e)
    obtain ⟨v, rfl, hq⟩ := z
    exact wpAny_pure hq
  · refine wpAny_bind (wpAny_pure ?_)
    simp only [Bool.false_eq_true, if_false]
    refine wpAny_bind (wpAny_mono one (fun r s' z => ?_) fun _ _ e => e)
    obtain ⟨v, rfl, hq⟩ := z
    exact wpAny_pure hq
end
end CmE
namespace Cm
open L2 PySem PySem.Spec PyProof.Rows RZ
theorem nf_list (K : Frag) (C : Addr) : PySem.W.notFirst K C (.type "list") = true := by kernel_rfl
theorem nf_tuple (K : Frag) (C : Addr) : PySem.W.notFirst K C (.type "tuple") = true := by kernel_rfl
theorem nf_none (K : Frag) (C : Addr) : PySem.W.notFirst K C (.type "NoneType") = true := by kernel_rfl
theorem nf_str (K : Frag) (C : Addr) : PySem.W.notFirst K C (.type "str") = true := by kernel_rfl
theorem nf_int (K : Frag) (C : Addr) : PySem.W.notFirst K C (.type "int") = true := by kernel_rfl
theorem nf_bool (K : Frag) (C : Addr) : PySem.W.notFirst K C (.type "bool") = true := by kernel_rfl
theorem nf_d {K : Frag} {C : Addr} {H : Hp} {v : V} {d : PyData} (h : Dp K H v d) : PySem.W.notFirst K C (.type (tyD d)) = true := by
  cases h with
  | non => exact nf_none K C
  | bl b => exact nf_bool K C
  | int i => exact nf_int K C
  | str x => exact nf_str K C
  | lst _ _ => exact nf_list K C
  | tup _ _ => exact nf_tuple K C
theorem nf_self (K : Frag) (C : Addr) : PySem.W.notFirst K C (.ref C) = true := by
  unfold PySem.W.notFirst
  rw [show ((Value.ref C == Value.ref C) = true) from beq_self_eq_true _]
  rfl
/-- what stands on the right: an instance of the same class, or data -/
def Beside (K : Frag) (C : Addr) (y : V) (H : Hp) : Prop := (∃ b dy gs, y = .ref b ∧ H b = some (.ins C dy gs)) ∨ ∃ d, Dp K H y d
def rOwnE (K : Frag) (C : Addr) (sp : Sp) (E : XK) : R2 := fun x y H Q => ∃ a dx fs, x = .ref a ∧ H a = some (.ins C dx fs) ∧ Beside K C y H ∧ sp [x, y] H (fun v H' => ∃ b, v = .bl b ∧ Q (.bl b) H') E
def rOwnN (K : Frag) (C : Addr) (sp : Sp) (E : XK) : R2 := fun x y H Q => ∃ a dx fs, x = .ref a ∧ H a = some (.ins C dx fs) ∧ Beside K C y H ∧ sp [x, y] H (fun v H' => ∃ b, v = .bl b ∧ Q (.bl (!b)) H') E
section
variable {X : Cx} {CX : CXT} {C f : Addr} {sp : Sp} {E : XK} {n : Nat}
theorem beside_ty {pins : List (Addr × Obj)} {σ : L2.St} {H : Hp} {s : Shared} {y : V} {u : Value} (I : Inv X pins σ H s) (ry : RelV y u) (h : Beside X.K C y H) : ∃ tb, PySem.W.Looks (model X.prog X.w) s.heap (typeOf u) tb ∧ PySem.W.notFirst X.K C tb = true := by
  rcases h with ⟨b, dy, gs, rfl, hb⟩ | ⟨d, hd⟩
  · cases ry
    obtain ⟨mB, J, _⟩ := ins_get I.hok hb
    obtain ⟨od, J, _⟩ := J.look
    exact ⟨_, J.type, nf_self _ _⟩
  · obtain ⟨P, k, p, _⟩ := kit_of I ry (tyx_of hd)
    exact ⟨_, k.ty _ _ I.kIn p, nf_d hd⟩
theorem op_ownE (F : FnR X.prog X.w X.K X.mg X.base CX n f sp) (hs : PySem.W.findIn X.K (.ref C) "__eq__" = some (some (.ref f))) (hf : PySem.W.isFn X.K (.ref f) = true) (hr : Room n X.A) (hx : Passes CX X E) : OpR X (compareOp .Eq) (rOwnE X.K C sp E) := by
  intro pins s σ H x y v u Q I rx ry hq
  obtain ⟨a, dx, fs, rfl, ha, hb, hsp⟩ := hq
  cases rx
  obtain ⟨mA, J, _⟩ := ins_get I.hok ha
  obtain ⟨od, J, _⟩ := J.look
  obtain ⟨m, hF⟩ := I.fr
  obtain ⟨tb, lk, nf⟩ := beside_ty I ry hb
  show wpAny (model X.prog X.w) X.A (richCompare .Eq (.ref a) u) (EP X pins σ Q) X.xe s
  refine PySem.W.cmp_K (op := .Eq) hr.units0 hF I.ok.mod.kin J lk nf hs hf ?_
  refine wpAny_call (codeAny_mono (F X.A X.stack s H [.ref a, u] [.ref a, y] _ E hr I.env0 (.cons rfl (.cons ry .nil)) hsp) fun r s' hq => ?_)
  cases r with
  | error e => exact hx pins σ H s e s' I hq
  | ok fl =>
    cases fl with
    | ret w =>
      obtain ⟨z, H', I', rz, b, ez, q⟩ := I.after hq
      subst ez
      cases rz
      exact ⟨.bl b, H', I', rfl, q⟩
    | next => exact False.elim hq
    | brk => exact False.elim hq
    | cont => exact False.elim hq
theorem op_ownN (F : FnR X.prog X.w X.K X.mg X.base CX n f sp) (hne : PySem.W.findIn X.K (.ref C) "__ne__" = some (some (.builtin "object.__ne__"))) (hob : PySem.W.mroIn X.K C (.type "object") = some true) (hs : PySem.W.findIn X.K (.ref C) "__eq__" = some (some (.ref f))) (hf : PySem.W.isFn X.K (.ref f) = true) (hr : Room (n + 1) X.A) (hx : Passes CX X E) :
    OpR X (compareOp .NotEq) (rOwnN X.K C sp E) := by
  intro pins s σ H x y v u Q I rx ry hq
  obtain ⟨a, dx, fs, rfl, ha, hb, hsp⟩ := hq
  cases rx
  obtain ⟨mA, J, _⟩ := ins_get I.hok ha
  obtain ⟨od, J, _⟩ := J.look
  obtain ⟨m, hF⟩ := I.fr
  obtain ⟨tb, lk, nf⟩ := beside_ty I ry hb
  show wpAny (model X.prog X.w) X.A (richCompare .NotEq (.ref a) u) (EP X pins σ Q) X.xe s
  have hu : X.A.units + 1 < cLine := by have := hr.un; omega
  refine CmE.ne_K hu hF I.ok.mod.kin J lk nf hne hob hs hf ?_
  have e1 : Env0 X.prog X.w X.K X.mg X.base X.A.in1 X.stack s H := by
    have e := I.env0
    exact ⟨e.frames, e.mod, e.bs, e.bsz, e.funs, e.frf, e.hok, e.bare⟩
  refine wpAny_call (codeAny_mono (F X.A.in1 X.stack s H [.ref a, u] [.ref a, y] _ E hr.in1 e1 (.cons rfl (.cons ry .nil)) hsp) fun r s' hq => ?_)
  cases r with
  | error e => exact hx pins σ H s e s' I hq
  | ok fl =>
    cases fl with
    | ret w =>
      obtain ⟨z, H', I', rz, b, ez, q⟩ := I.after hq
      subst ez
      cases rz
      exact ⟨b, rfl, .bl (!b), H', I', rfl, q⟩
    | next => exact False.elim hq
    | brk => exact False.elim hq
    | cont => exact False.elim hq
end
end Cm

set_option Elab.async false
set_option linter.all false
set_option maxRecDepth 100000
set_option maxHeartbeats 3000000
/-! Common part, 12: classes by their names: methods, making, own ==; fields. -/
namespace Cm
open L2 PySem PySem.Spec PyProof.Rows RZ StX
structure Mth (P : Program) (w : World) (K : Frag) (mg : Str → Option Value) (base : Heap) (CX : CXT) (k : Nat) (C : Addr) (m : Str) (ps : List Str) (sp : Sp) : Prop where
  ex : ∃ (f : Addr) (fd : FuncData), FnOk P w K mg base CX k f fd ps sp ∧ Meth K C m f ∧ Binds K fd ps []
structure MthK (P : Program) (w : World) (K : Frag) (mg : Str → Option Value) (base : Heap) (CX : CXT) (k : Nat) (C : Addr) (m : Str) (n : Nat) (ks : List Str) (gV : List V → List V → List V) (sp : Sp) : Prop where
  ex : ∃ (f : Addr) (fd : FuncData) (ps : List Str) (g : List Value → List Value → List Value), FnOk P w K mg base CX k f fd ps sp ∧ Meth K C m f ∧ KBn K fd ps n ks g gV
structure Mkr (P : Program) (w : World) (K : Frag) (mg : Str → Option Value) (base : Heap) (CX : CXT) (k : Nat) (x : Str) (C : Addr) (sp : Sp) : Prop where
  ex : ∃ f : Addr, Mk K C f ∧ FnR P w K mg base CX k f sp ∧ mg x = some (.ref C)
structure OwnQ (P : Program) (w : World) (K : Frag) (mg : Str → Option Value) (base : Heap) (CX : CXT) (k : Nat) (C : Addr) (sp : Sp) : Prop where
  ex : ∃ f : Addr, FnR P w K mg base CX k f sp ∧ PySem.W.findIn K (.ref C) "__eq__" = some (some (.ref f)) ∧ PySem.W.isFn K (.ref f) = true
  ne : PySem.W.findIn K (.ref C) "__ne__" = some (some (.builtin "object.__ne__"))
  ob : PySem.W.mroIn K C (.type "object") = some true
/-- called with a star parameter behind n others -/
def starSp (n : Nat) (sp : Sp) : Sp := fun vs H Q E => ∃ ws rest, vs = ws ++ rest ∧ ws.length = n ∧ rest.length ≤ sizeLine ∧ ∀ p, H p = none → sp (ws ++ [V.ref p]) (upd H p (.tup rest)) Q E
/-- o.m(k = v, ..) -/
def tMethN (C : Addr) (m : Str) (j : Nat) (sp : Sp) (gV : List V → List V → List V) (E : XK) (ta : TE) (tk : TA) : TE := fun σ H Q => ta σ H fun x H1 => ∃ a dx fs, x = .ref a ∧ H1 a = some (.ins C dx fs) ∧ fs.lookup m = none ∧
  tk σ H1 fun zs H2 => zs.length = j ∧ sp (gV [x] zs) H2 Q E
section
variable {X : Cx} {CX : CXT} {j k n : Nat} {C : Addr} {x m : Str} {ps ks : List Str} {sp : Sp} {E : XK} {p pos apos : Pos} {o e : Expr} {es : List Expr} {kws : List Keyword} {ta : TE} {t tk : TA} {gV : List V → List V → List V}
theorem pe_mth {pl : Sem Bool} (he : PE X o ta) (c : Cls X.K C) (M : Mth X.prog X.w X.K X.mg X.base CX k C m ps sp) (hr : Room j X.A) (hk : k ≤ j) (hx : Passes CX X E) (ha : PA X (e :: es) t)
    (hst : starEach (e :: es) X.env = (false, eval e X.env) :: starEach es X.env := by rfl) (hpl : (backTo pos (starEach es X.env)).any (·.1) = false := by rfl)
    (ht : eval (.Call (.Attribute o m apos) (e :: es) [] pos) X.env = (do
      let ov ← eval o X.env
      standAt apos.atName
      let (f, first) ← holding [ov] (getMethod ov m pl)
      callWith pos f first (backTo pos (starEach (e :: es) X.env)) (backToKw pos (keywordEach [] X.env))) := by rfl) : PE X (.Call (.Attribute o m apos) (e :: es) [] pos) (tMeth C m sp [] E ta t) := by
  obtain ⟨f, fd, F, hm, b⟩ := M.ex
  exact pe_meth he c hm F (hr.mono hk) b .nil hx ha hst hpl ht
theorem pe_mth0 {pl : Sem Bool} (he : PE X o ta) (c : Cls X.K C) (M : Mth X.prog X.w X.K X.mg X.base CX k C m ps sp) (hr : Room j X.A) (hk : k ≤ j) (hx : Passes CX X E)
    (ht : eval (.Call (.Attribute o m apos) [] [] pos) X.env = (do
      let ov ← eval o X.env
      standAt apos.atName
      let (f, first) ← holding [ov] (getMethod ov m pl)
      callWith pos f first (backTo pos (starEach [] X.env)) (backToKw pos (keywordEach [] X.env))) := by rfl) : PE X (.Call (.Attribute o m apos) [] [] pos) (tMeth C m sp [] E ta tNil) := by
  obtain ⟨f, fd, F, hm, b⟩ := M.ex
  exact pe_meth0 he c hm F (hr.mono hk) b .nil hx ht
theorem pe_mthk0 {pl : Sem Bool} {i : Nat} (he : PE X o ta) (c : Cls X.K C) (M : MthK X.prog X.w X.K X.mg X.base CX k C m 1 ks gV sp) (hr : Room j X.A) (hk : k ≤ j) (hx : Passes CX X E) (hkw : PK X kws tk)
    (hall : (backToKw pos (keywordEach kws X.env)).all (·.1.isSome) = true := by rfl) (hks : (backToKw pos (keywordEach kws X.env)).filterMap (·.1) = ks := by rfl)
    (hpl : ((backTo pos (starEach [] X.env)).any (·.1) || (backToKw pos (keywordEach kws X.env)).any (·.1.isNone)) = false := by rfl) (hmm : ks.length = i := by rfl)
    (ht : eval (.Call (.Attribute o m apos) [] kws pos) X.env = (do
      let ov ← eval o X.env
      standAt apos.atName
      let (f, first) ← holding [ov] (getMethod ov m pl)
      callWith pos f first (backTo pos (starEach [] X.env)) (backToKw pos (keywordEach kws X.env))) := by rfl) : PE X (.Call (.Attribute o m apos) [] kws pos) (tMethN C m i sp gV E ta tk) := by
  obtain ⟨f, fd, ps, g, F, hm, b⟩ := M.ex
  subst hmm
  refine ⟨fun pins s σ H Q I h => ?_⟩
  refine PySem.W.methodCall_KW (pl := pl) (thn (he.run pins s σ H _ I h) fun u s1 ⟨y, H1, I1, rx, a, dx, fs, ey, ea, l, q⟩ => ?_) ht
  subst ey
  obtain rfl : u = Value.ref a := rx
  refine getmeth_ok I1 ea c hm l ?_
  refine PySem.W.callWith_KW0 (h₀ := X.base) I1.mod.kin hm.kp hall (thn (hkw.run pos pins s1 σ H1 _ I1 q) ?_) hpl
  rintro ws s2 ⟨zs, H2, I2, rz, l2, q2⟩
  refine ⟨I2.kIn, ?_⟩
  rw [hks]
  exact run_fnN (us := [.ref a]) (vs := [.ref a]) F (hr.mono hk) b hx I2 (.cons rfl .nil) rz rfl l2 q2
theorem pe_new (M : Mkr X.prog X.w X.K X.mg X.base CX k x C sp) (hr : Room j X.A) (hk : k + 1 ≤ j) (hg : Gl X x) (hx : Passes CX X E) (ha : PA X (e :: es) t) (hdb : (x == ("__debug__" : Str)) = false := by decide)
    (he : starEach (e :: es) X.env = (false, eval e X.env) :: starEach es X.env := by rfl) (hpl : (backTo pos (starEach es X.env)).any (·.1) = false := by rfl) : PE X (.Call (.Name x p) (e :: es) [] pos) (tMakeR C sp E t) := by
  obtain ⟨f, mk, F, hm⟩ := M.ex
  exact pe_makeR mk F (hr.mono hk) hg hm hx ha hdb he hpl
theorem op_qE (M : OwnQ X.prog X.w X.K X.mg X.base CX k C sp) (hr : Room j X.A) (hk : k ≤ j) (hx : Passes CX X E) : OpR X (compareOp .Eq) (rOwnE X.K C sp E) := by
  obtain ⟨f, F, h1, h2⟩ := M.ex
  exact op_ownE F h1 h2 (hr.mono hk) hx
theorem op_qN (M : OwnQ X.prog X.w X.K X.mg X.base CX k C sp) (hr : Room j X.A) (hk : k + 1 ≤ j) (hx : Passes CX X E) : OpR X (compareOp .NotEq) (rOwnN X.K C sp E) := by
  obtain ⟨f, F, h1, h2⟩ := M.ex
  exact op_ownN F M.ne M.ob h1 h2 (hr.mono hk) hx
end
section
variable {K : Frag} {σ : L2.St} {H : Hp} {D : Ends} {ta tb : TE} {t : TA} {C : Addr} {m f : Str} {sp : Sp} {E : XK} {Q : VK} {v : V}
def MthOn (C : Addr) (m : Str) (sp : Sp) (E : XK) (t : TA) (σ : L2.St) (Q : VK) (x : V) (H1 : Hp) : Prop := ∃ a dx fs, x = .ref a ∧ H1 a = some (.ins C dx fs) ∧ fs.lookup m = none ∧ t σ H1 fun vs H2 => sp (x :: vs) H2 Q E
theorem g_meth (h : ta σ H (MthOn C m sp E t σ Q)) : tMeth C m sp [] E ta t σ H Q := by
  unfold tMeth
  simp only [List.append_nil]
  exact h
theorem g_onM {a dx : Addr} {fs : List (Str × V)} (ha : H a = some (.ins C dx fs)) (l : fs.lookup m = none) (h : t σ H fun vs H2 => sp (.ref a :: vs) H2 Q E) : MthOn C m sp E t σ Q (.ref a) H := ⟨a, dx, fs, rfl, ha, l, h⟩
def MtkOn (C : Addr) (m : Str) (j : Nat) (sp : Sp) (gV : List V → List V → List V) (E : XK) (t : TA) (σ : L2.St) (Q : VK) (x : V) (H1 : Hp) : Prop := ∃ a dx fs, x = .ref a ∧ H1 a = some (.ins C dx fs) ∧ fs.lookup m = none ∧ t σ H1 fun zs H2 => zs.length = j ∧ sp (gV [x] zs) H2 Q E
theorem g_methk {j : Nat} {gV : List V → List V → List V} (h : ta σ H (MtkOn C m j sp gV E t σ Q)) : tMethN C m j sp gV E ta t σ H Q := h
theorem g_onMk {j : Nat} {gV : List V → List V → List V} {a dx : Addr} {fs : List (Str × V)} (ha : H a = some (.ins C dx fs)) (l : fs.lookup m = none) (h : t σ H fun zs H2 => zs.length = j ∧ sp (gV [.ref a] zs) H2 Q E) : MtkOn C m j sp gV E t σ Q (.ref a) H := ⟨a, dx, fs, rfl, ha, l, h⟩
def FldOn (K : Frag) (f : Str) (Q : VK) (x : V) (H1 : Hp) : Prop := ∃ a C dx fs v, x = .ref a ∧ H1 a = some (.ins C dx fs) ∧ Cls K C ∧ NoAttr K C f ∧ fs.lookup f = some v ∧ Q v H1
theorem g_fld (h : ta σ H (FldOn K f Q)) : tFld K ta f σ H Q := h
theorem g_onF {a dx : Addr} {fs : List (Str × V)} (ha : H a = some (.ins C dx fs)) (c : Cls K C) (n : NoAttr K C f) (l : fs.lookup f = some v) (q : Q v H) : FldOn K f Q (.ref a) H := ⟨a, C, dx, fs, v, rfl, ha, c, n, l, q⟩
def PutOn (K : Frag) (f : Str) (P : Hp → Prop) (y : V) (x : V) (H2 : Hp) : Prop := ∃ a C dx fs, x = .ref a ∧ H2 a = some (.ins C dx fs) ∧ Cls K C ∧ NoAttr K C f ∧ fs.length < 1000 ∧ P (upd H2 a (.ins C dx (putF f y fs)))
theorem g_put (h : tb σ H fun y H1 => ta σ H1 (PutOn K f (D.nx σ) y)) : sFld K ta tb f D σ H := h
theorem g_onP {P : Hp → Prop} {a dx : Addr} {fs : List (Str × V)} {y : V} (ha : H a = some (.ins C dx fs)) (c : Cls K C) (n : NoAttr K C f) (l : fs.length < 1000) (q : P (upd H a (.ins C dx (putF f y fs)))) : PutOn K f P y (.ref a) H := ⟨a, C, dx, fs, rfl, ha, c, n, l, q⟩
abbrev MkOn (C : Addr) (sp : Sp) (E : XK) (Q : VK) (vs : List V) (H1 : Hp) : Prop := ∀ x dx, H1 x = none → H1 dx = none → dx ≠ x → sp (.ref x :: vs) (upd (upd H1 dx (.own x)) x (.ins C dx [])) (fun v H2 => v = .non ∧ Q (.ref x) H2) E
theorem g_make (h : t σ H (MkOn C sp E Q)) : tMakeR C sp E t σ H Q := h
/-- three names taken out of a tuple -/
theorem g_trip {i j l : Nat} {T : Addr} {x y z : V} {QS : L2.St → Hp → Prop} (h : SqT K H T [x, y, z]) (q : QS (((σ.set i (some x)).set j (some y)).set l (some z)) H) : gTup K 3 (gCons (gName i) (gCons (gName j) (gCons (gName l) gNil))) (.ref T) σ H QS :=
  ⟨T, [x, y, z], rfl, h, rfl, x, [y, z], rfl, y, [z], rfl, z, [], rfl, rfl, q⟩
end
end Cm

set_option Elab.async false
set_option linter.all false
set_option maxRecDepth 100000
set_option maxHeartbeats 3000000
/-! Plain law: matrices of differences, their closure; the closing by three loops; one row more. -/
namespace Dbm
abbrev OI := Option Int
def oadd : OI → OI → OI
  | some a, some b => some (a + b)
  | _, _ => none
def ole : OI → OI → Prop
  | _, none => True
  | none, some _ => False
  | some a, some b => a ≤ b
def omin : OI → OI → OI
  | none, b => b
  | a, none => a
  | some a, some b => some (if b < a then b else a)
theorem ole_refl (a : OI) : ole a a := by cases a <;> simp [ole]
theorem ole_trans {a b c : OI} (h : ole a b) (g : ole b c) : ole a c := by
  cases a <;> cases b <;> cases c <;> simp [ole] at * ; omega
theorem ole_antisymm {a b : OI} (h : ole a b) (g : ole b a) : a = b := by
  cases a <;> cases b <;> simp [ole] at * ; omega
theorem omin_left (a b : OI) : ole (omin a b) a := by
  cases a <;> cases b <;> simp [ole, omin]; split <;> omega
theorem omin_right (a b : OI) : ole (omin a b) b := by
  cases a <;> cases b <;> simp [ole, omin]; split <;> omega
theorem le_omin {a b c : OI} (h : ole c a) (g : ole c b) : ole c (omin a b) := by
  cases a <;> cases b <;> cases c <;> simp [ole, omin] at * <;> first | omega | (split <;> omega)
theorem omin_cases (a b : OI) : omin a b = a ∨ omin a b = b := by
  cases a <;> cases b <;> simp [omin]; omega
theorem oadd_mono {a b c d : OI} (h : ole a b) (g : ole c d) : ole (oadd a c) (oadd b d) := by
  cases a <;> cases b <;> cases c <;> cases d <;> simp [ole, oadd] at * ; omega
theorem oadd_assoc (a b c : OI) : oadd (oadd a b) c = oadd a (oadd b c) := by
  cases a <;> cases b <;> cases c <;> simp [oadd]; omega
theorem oadd_zero (a : OI) : oadd a (some 0) = a := by cases a <;> simp [oadd]
theorem zero_oadd (a : OI) : oadd (some 0) a = a := by cases a <;> simp [oadd]
theorem omin_eq_left {a b : OI} (h : ole a b) : omin a b = a := ole_antisymm (omin_left a b) (le_omin (ole_refl a) h)
abbrev Mx := Nat → Nat → OI
abbrev Cs := Nat → Nat → Int → Prop
structure Closed (N : Nat) (M : Mx) : Prop where
  diag : ∀ i, i < N → M i i = some 0
  tri : ∀ i j k, i < N → j < N → k < N → ole (M i j) (oadd (M i k) (M k j))
structure Md (N : Nat) (S : Cs) (M : Mx) : Prop where
  cl : Closed N M
  le : ∀ a b w, S a b w → a < N → b < N → ole (M a b) (some w)
structure IsClo (N : Nat) (S : Cs) (M : Mx) : Prop where
  md : Md N S M
  top : ∀ M', Md N S M' → ∀ i j, i < N → j < N → ole (M' i j) (M i j)
def Cons (N : Nat) (S : Cs) : Prop := ∃ M, Md N S M
theorem IsClo.uniq {N : Nat} {S : Cs} {M M' : Mx} (h : IsClo N S M) (h' : IsClo N S M') {i j : Nat} (hi : i < N) (hj : j < N) : M i j = M' i j := ole_antisymm (h'.top _ h.md i j hi hj) (h.top _ h'.md i j hi hj)
/-- one row more -/
def also (S : Cs) (a b : Nat) (w : Int) : Cs := fun i j v => S i j v ∨ (i = a ∧ j = b ∧ v = w)
def free : Mx := fun i j => if i = 0 ∨ i = j then some 0 else none
/-- no row but that no clock is below 0 -/
def none0 : Cs := fun i _ w => i = 0 ∧ w = 0
theorem free_clo (N : Nat) : IsClo N none0 free := by
  refine ⟨⟨⟨fun i _ => by simp [free], fun i j k _ _ _ => ?_⟩, ?_⟩, ?_⟩
  · unfold free
    by_cases h1 : i = 0
    · subst h1
      simp
      by_cases h2 : k = 0 ∨ k = j
      · rw [if_pos h2]; simp [oadd, ole]
      · rw [if_neg h2]; simp [oadd, ole]
    · by_cases h2 : i = k
      · subst h2
        simp [h1]
        rw [zero_oadd]
        exact ole_refl _
      · rw [show (if i = 0 ∨ i = k then some (0 : Int) else none) = none by simp [h1, h2]]
        simp [oadd, ole]
  · rintro a b w ⟨rfl, rfl⟩ _ _
    simp [free, ole]
  · intro M' h i j hi hj
    unfold free
    by_cases h1 : i = 0
    · subst h1
      simp
      exact h.le 0 j 0 ⟨rfl, rfl⟩ hi hj
    · by_cases h2 : i = j
      · subst h2
        simp
        rw [h.cl.diag i hi]
        exact ole_refl _
      · simp [h1, h2, ole]
def tight (M : Mx) (a b : Nat) (w : Int) : Mx := fun i j => omin (M i j) (oadd (M i a) (oadd (some w) (M b j)))
section
variable {N : Nat} {S : Cs} {M : Mx} {a b : Nat} {w : Int}
theorem tight_no (h : IsClo N S M) (ha : a < N) (hb : b < N) {c : Int} (hc : M b a = some c) (hn : c + w < 0) : ¬ Cons N (also S a b w) := by
  rintro ⟨M', m⟩
  have m0 : Md N S M' := ⟨m.cl, fun i j v q => m.le i j v (Or.inl q)⟩
  have h1 := h.top M' m0 b a hb ha
  have h2 := m.le a b w (Or.inr ⟨rfl, rfl, rfl⟩) ha hb
  have h3 := m.cl.tri b b a hb hb ha
  rw [m.cl.diag b hb] at h3
  rw [hc] at h1
  have h4 := ole_trans h3 (oadd_mono h1 h2)
  simp [ole, oadd] at h4
  omega
theorem tight_clo (h : IsClo N S M) (ha : a < N) (hb : b < N) (hn : ∀ c, M b a = some c → 0 ≤ c + w) : IsClo N (also S a b w) (tight M a b w) := by
  have T := h.md.cl.tri
  have Dg := h.md.cl.diag
  have key : ∀ i j, i < N → j < N → ole (some 0) (oadd (some w) (oadd (M b i) (M i a))) := fun i _ hi _ => by
    have h1 := T b a i hb ha hi
    cases hc : oadd (M b i) (M i a) with
    | none => simp [oadd, ole]
    | some d =>
      rw [hc] at h1
      cases hc2 : M b a with
      | none => rw [hc2] at h1; simp [ole] at h1
      | some c =>
        rw [hc2] at h1
        have := hn c hc2
        simp [ole, oadd] at h1 ⊢
        omega
  refine ⟨⟨⟨fun i hi => ?_, fun i j k hi hj hk => ?_⟩, ?_⟩, ?_⟩
  · unfold tight
    rw [Dg i hi]
    refine omin_eq_left ?_
    have := key i i hi hi
    cases h1 : M i a <;> cases h2 : M b i <;> rw [h1, h2] at this <;> simp [oadd, ole] at * ; omega
  · unfold tight
    have l1 : ole (omin (M i j) (oadd (M i a) (oadd (some w) (M b j)))) (M i j) := omin_left _ _
    have l2 : ole (omin (M i j) (oadd (M i a) (oadd (some w) (M b j)))) (oadd (M i a) (oadd (some w) (M b j))) := omin_right _ _
    rcases omin_cases (M i k) (oadd (M i a) (oadd (some w) (M b k))) with e1 | e1 <;> rcases omin_cases (M k j) (oadd (M k a) (oadd (some w) (M b j))) with e2 | e2 <;> rw [e1, e2]
    · exact ole_trans l1 (T i j k hi hj hk)
    · refine ole_trans l2 ?_
      rw [← oadd_assoc (M i k)]
      exact oadd_mono (T i a k hi ha hk) (ole_refl _)
    · refine ole_trans l2 ?_
      rw [oadd_assoc, oadd_assoc]
      exact oadd_mono (ole_refl _) (oadd_mono (ole_refl _) (T b j k hb hj hk))
    · refine ole_trans l2 ?_
      have q := key k k hk hk
      have e3 : oadd (oadd (M i a) (oadd (some w) (M b k))) (oadd (M k a) (oadd (some w) (M b j))) = oadd (M i a) (oadd (oadd (some w) (oadd (M b k) (M k a))) (oadd (some w) (M b j))) := by simp only [oadd_assoc]
      rw [e3]
      refine oadd_mono (ole_refl _) ?_
      have := oadd_mono q (ole_refl (oadd (some w) (M b j)))
      rw [zero_oadd] at this
      exact this
  · intro i j v q hi hj
    rcases q with q | ⟨rfl, rfl, rfl⟩
    · exact ole_trans (omin_left _ _) (h.md.le i j v q hi hj)
    · refine ole_trans (omin_right _ _) ?_
      rw [Dg i hi, Dg j hj, oadd_zero, zero_oadd]
      exact ole_refl _
  · intro M' m i j hi hj
    have m0 : Md N S M' := ⟨m.cl, fun i j v q => m.le i j v (Or.inl q)⟩
    refine le_omin (h.top M' m0 i j hi hj) ?_
    refine ole_trans (m.cl.tri i j a hi hj ha) (oadd_mono (h.top M' m0 i a hi ha) ?_)
    exact ole_trans (m.cl.tri a j b ha hj hb) (oadd_mono (m.le a b w (Or.inr ⟨rfl, rfl, rfl⟩) ha hb) (h.top M' m0 b j hb hj))
theorem tight_same (h : IsClo N S M) (ha : a < N) (hb : b < N) (hl : ole (M a b) (some w)) : IsClo N (also S a b w) M := by
  refine ⟨⟨h.md.cl, ?_⟩, fun M' m => h.top M' ⟨m.cl, fun i j v q => m.le i j v (Or.inl q)⟩⟩
  intro i j v q hi hj
  rcases q with q | ⟨rfl, rfl, rfl⟩
  · exact h.md.le i j v q hi hj
  · exact hl
end
/-- two sets of rows with the same matrices below -/
theorem IsClo.swap {N : Nat} {S S' : Cs} {M : Mx} (h : IsClo N S M) (e : ∀ M', Md N S M' ↔ Md N S' M') : IsClo N S' M := ⟨(e M).mp h.md, fun M' m => h.top M' ((e M').mpr m)⟩
/-! ### three loops -/
def st (F : Mx) (k : Nat) : Mx := fun i j => omin (F i j) (oadd (F i k) (F k j))
def upd1 (F : Mx) (k i j : Nat) : Mx := fun i' j' => if i' = i ∧ j' = j then st F k i j else F i' j'
def fwJ (F : Mx) (k i : Nat) : Nat → Mx
  | 0 => F
  | n + 1 => upd1 (fwJ F k i n) k i n
def fwI (N : Nat) (F : Mx) (k : Nat) : Nat → Mx
  | 0 => F
  | n + 1 => fwJ (fwI N F k n) k n N
def fwK (N : Nat) (F : Mx) : Nat → Mx
  | 0 => F
  | n + 1 => fwI N (fwK N F n) n N
section
variable {N : Nat} {F : Mx}
/-- what holds of all that one step makes -/
theorem fw_keep (P : Mx → Prop) (hs : ∀ F k i j, k < N → i < N → j < N → P F → P (upd1 F k i j)) : (∀ F k i n, k < N → i < N → n ≤ N → P F → P (fwJ F k i n)) ∧ (∀ F k n, k < N → n ≤ N → P F → P (fwI N F k n)) ∧ ∀ F n, n ≤ N → P F → P (fwK N F n) := by
  have h1 : ∀ F k i n, k < N → i < N → n ≤ N → P F → P (fwJ F k i n) := by
    intro F k i n hk hi hn h
    induction n with
    | zero => exact h
    | succ n ih => exact hs _ k i n hk hi (by omega) (ih (by omega))
  have h2 : ∀ F k n, k < N → n ≤ N → P F → P (fwI N F k n) := by
    intro F k n hk hn h
    induction n with
    | zero => exact h
    | succ n ih => exact h1 _ k n N hk (by omega) (Nat.le_refl _) (ih (by omega))
  refine ⟨h1, h2, ?_⟩
  intro F n hn h
  induction n with
  | zero => exact h
  | succ n ih => exact h2 _ n N (by omega) (Nat.le_refl _) (ih (by omega))
theorem upd1_low {k i j : Nat} {M' : Mx} (c : Closed N M') (hk : k < N) (hi : i < N) (hj : j < N) (h : ∀ i j, i < N → j < N → ole (M' i j) (F i j)) : ∀ i' j', i' < N → j' < N → ole (M' i' j') (upd1 F k i j i' j') := by
  intro i' j' hi' hj'
  unfold upd1
  split
  · rename_i e
    obtain ⟨rfl, rfl⟩ := e
    exact le_omin (h _ _ hi' hj') (ole_trans (c.tri i' j' k hi' hj' hk) (oadd_mono (h _ _ hi' hk) (h _ _ hk hj')))
  · exact h _ _ hi' hj'
theorem upd1_dec {k i j : Nat} (i' j' : Nat) : ole (upd1 F k i j i' j') (F i' j') := by
  unfold upd1
  split
  · rename_i e
    obtain ⟨rfl, rfl⟩ := e
    exact omin_left _ _
  · exact ole_refl _
def Part (N : Nat) (F : Mx) (k I J : Nat) (C : Mx) : Prop := ∀ i j, i < N → j < N → C i j = if i < I ∨ (i = I ∧ j < J) then st F k i j else F i j
theorem part_step {k I J : Nat} {C : Mx} (hk : k < N) (hI : I < N) (hJ : J < N) (h0 : F k k = some 0) (p : Part N F k I J C) : Part N F k I (J + 1) (upd1 C k I J) := by
  have col : ∀ i, i < N → C i k = F i k := fun i hi => by
    rw [p i k hi hk]
    split
    · show omin (F i k) (oadd (F i k) (F k k)) = _
      rw [h0, oadd_zero]
      exact omin_eq_left (ole_refl _)
    · rfl
  have row : ∀ j, j < N → C k j = F k j := fun j hj => by
    rw [p k j hk hj]
    split
    · show omin (F k j) (oadd (F k k) (F k j)) = _
      rw [h0, zero_oadd]
      exact omin_eq_left (ole_refl _)
    · rfl
  intro i j hi hj
  unfold upd1
  by_cases e : i = I ∧ j = J
  · obtain ⟨rfl, rfl⟩ := e
    rw [if_pos ⟨rfl, rfl⟩, if_pos (Or.inr ⟨rfl, Nat.lt_succ_self _⟩)]
    show omin (C i j) (oadd (C i k) (C k j)) = _
    rw [col i hi, row j hj, p i j hi hj, if_neg (by omega)]
    rfl
  · rw [if_neg e, p i j hi hj]
    by_cases h1 : i < I ∨ (i = I ∧ j < J)
    · rw [if_pos h1, if_pos (by omega)]
    · rw [if_neg h1, if_neg (by omega)]
theorem part_J {k I : Nat} {C : Mx} (hk : k < N) (hI : I < N) (h0 : F k k = some 0) (p : Part N F k I 0 C) : ∀ n, n ≤ N → Part N F k I n (fwJ C k I n)
  | 0, _ => p
  | n + 1, hn => part_step hk hI (by omega) h0 (part_J hk hI h0 p n (by omega))
theorem part_I {k : Nat} (hk : k < N) (h0 : F k k = some 0) : ∀ n, n ≤ N → Part N F k n 0 (fwI N F k n)
  | 0, _ => fun i j hi hj => by rw [if_neg (by omega)]; rfl
  | n + 1, hn => fun i j hi hj => by
    rw [show fwI N F k (n + 1) = fwJ (fwI N F k n) k n N from rfl, part_J hk (by omega) h0 (part_I hk h0 n (by omega)) N (Nat.le_refl _) i j hi hj]
    by_cases h1 : i < n + 1
    · rw [if_pos (by omega), if_pos (by omega)]
    · rw [if_neg (by omega), if_neg (by omega)]
def TriTo (N : Nat) (F : Mx) (K : Nat) : Prop := ∀ k, k < K → ∀ i j, i < N → j < N → ole (F i j) (oadd (F i k) (F k j))
theorem tri_step {K : Nat} {F' : Mx} (hK : K < N) (h0 : F K K = some 0) (t : TriTo N F K) (e : ∀ i j, i < N → j < N → F' i j = st F K i j) : TriTo N F' (K + 1) := by
  intro k hk i j hi hj
  have hkN : k < N := by omega
  have colK : ∀ i, i < N → F' i K = F i K := fun i hi => by
    rw [e i K hi hK]
    show omin (F i K) (oadd (F i K) (F K K)) = _
    rw [h0, oadd_zero]
    exact omin_eq_left (ole_refl _)
  have rowK : ∀ j, j < N → F' K j = F K j := fun j hj => by
    rw [e K j hK hj]
    show omin (F K j) (oadd (F K K) (F K j)) = _
    rw [h0, zero_oadd]
    exact omin_eq_left (ole_refl _)
  have l1 : ole (F' i j) (F i j) := by rw [e i j hi hj]; exact omin_left _ _
  have l2 : ole (F' i j) (oadd (F i K) (F K j)) := by rw [e i j hi hj]; exact omin_right _ _
  by_cases hk2 : k = K
  · subst hk2
    rw [colK i hi, rowK j hj]
    exact l2
  · have hk3 : k < K := by omega
    rw [e i k hi hkN, e k j hkN hj]
    unfold st
    rcases omin_cases (F i k) (oadd (F i K) (F K k)) with e1 | e1 <;> rcases omin_cases (F k j) (oadd (F k K) (F K j)) with e2 | e2 <;> rw [e1, e2]
    · exact ole_trans l1 (t k hk3 i j hi hj)
    · refine ole_trans l2 ?_
      rw [← oadd_assoc]
      exact oadd_mono (t k hk3 i K hi hK) (ole_refl _)
    · refine ole_trans l2 ?_
      rw [oadd_assoc]
      exact oadd_mono (ole_refl _) (t k hk3 K j hK hj)
    · refine ole_trans l2 ?_
      have q := t k hk3 K K hK hK
      rw [h0] at q
      have e3 : oadd (oadd (F i K) (F K k)) (oadd (F k K) (F K j)) = oadd (F i K) (oadd (oadd (F K k) (F k K)) (F K j)) := by simp only [oadd_assoc]
      rw [e3]
      refine oadd_mono (ole_refl _) ?_
      have := oadd_mono q (ole_refl (F K j))
      rw [zero_oadd] at this
      exact this
theorem fw_dec (n : Nat) (hn : n ≤ N) (i j : Nat) : ole (fwK N F n i j) (F i j) :=
  (fw_keep (N := N) (fun G => ole (G i j) (F i j)) (fun G k a b _ _ _ h => ole_trans (upd1_dec i j) h)).2.2 F n hn (ole_refl _)
theorem fw_dec2 (m n : Nat) (hn : m + n ≤ N) (i j : Nat) : ole (fwK N F (m + n) i j) (fwK N F m i j) := by
  induction n with
  | zero => exact ole_refl _
  | succ n ih =>
    refine ole_trans ?_ (ih (by omega))
    exact (fw_keep (N := N) (fun G => ole (G i j) (fwK N F (m + n) i j)) (fun G k a b _ _ _ h => ole_trans (upd1_dec i j) h)).2.1 _ (m + n) N (by omega) (Nat.le_refl _) (ole_refl _)
theorem fw_closed (h0 : ∀ i, i < N → F i i = some 0) (hd : ∀ i, i < N → fwK N F N i i = some 0) : Closed N (fwK N F N) := by
  have mid : ∀ n, n ≤ N → ∀ i, i < N → fwK N F n i i = some 0 := fun n hn i hi => by
    refine ole_antisymm ?_ ?_
    · rw [← h0 i hi]; exact fw_dec n hn i i
    · rw [← hd i hi]
      have := fw_dec2 (N := N) (F := F) n (N - n) (by omega) i i
      rw [show n + (N - n) = N by omega] at this
      exact this
  have tri : ∀ n, n ≤ N → TriTo N (fwK N F n) n := by
    intro n
    induction n with
    | zero => exact fun _ k hk => absurd hk (by omega)
    | succ n ih =>
      intro hn
      have hk := mid n (by omega) n (by omega)
      refine tri_step (by omega) hk (ih (by omega)) fun i j hi hj => ?_
      rw [show fwK N F (n + 1) = fwI N (fwK N F n) n N from rfl, part_I (by omega) hk N (Nat.le_refl _) i j hi hj, if_pos (Or.inl hi)]
  exact ⟨hd, fun i j k hi hj hk => tri N (Nat.le_refl _) k hk i j hi hj⟩
theorem fw_low {M' : Mx} (c : Closed N M') (h : ∀ i j, i < N → j < N → ole (M' i j) (F i j)) : ∀ i j, i < N → j < N → ole (M' i j) (fwK N F N i j) :=
  (fw_keep (N := N) (fun G => ∀ i j, i < N → j < N → ole (M' i j) (G i j)) (fun G k a b hk ha hb h => upd1_low c hk ha hb h)).2.2 F N (Nat.le_refl _) h
end
/-! ### the rows put in -/
def ins (F : Mx) (a b : Nat) (w : Int) : Mx := fun i j => if i = a ∧ j = b then omin (F a b) (some w) else F i j
abbrev Edge := Nat × Nat × Int
def insAll (F : Mx) (R : List Edge) : Mx := R.foldl (fun G r => ins G r.1 r.2.1 r.2.2) F
/-- the rows of a list, and that no clock is below 0 -/
def cs (R : List Edge) : Cs := fun a b w => none0 a b w ∨ (a, b, w) ∈ R
theorem ins_dec (F : Mx) (a b : Nat) (w : Int) (i j : Nat) : ole (ins F a b w i j) (F i j) := by
  unfold ins
  split
  · rename_i e; obtain ⟨rfl, rfl⟩ := e; exact omin_left _ _
  · exact ole_refl _
theorem insAll_dec : ∀ (R : List Edge) (F : Mx) (i j : Nat), ole (insAll F R i j) (F i j)
  | [], F, i, j => ole_refl _
  | r :: R, F, i, j => ole_trans (insAll_dec R _ i j) (ins_dec F _ _ _ i j)
theorem insAll_row : ∀ (R : List Edge) (F : Mx) (a b : Nat) (w : Int), (a, b, w) ∈ R → ole (insAll F R a b) (some w)
  | r :: R, F, a, b, w, h => by
    rcases List.mem_cons.mp h with rfl | h
    · refine ole_trans (insAll_dec R _ a b) ?_
      show ole (ins F a b w a b) (some w)
      unfold ins
      rw [if_pos ⟨rfl, rfl⟩]
      exact omin_right _ _
    · exact insAll_row R _ a b w h
theorem insAll_low {N : Nat} {M' : Mx} : ∀ (R : List Edge) (F : Mx), (∀ i j, i < N → j < N → ole (M' i j) (F i j)) → (∀ a b w, (a, b, w) ∈ R → a < N → b < N → ole (M' a b) (some w)) → ∀ i j, i < N → j < N → ole (M' i j) (insAll F R i j)
  | [], F, h, _, i, j, hi, hj => h i j hi hj
  | r :: R, F, h, hr, i, j, hi, hj => by
    refine insAll_low R _ (fun i j hi hj => ?_) (fun a b w q => hr a b w (List.mem_cons_of_mem _ q)) i j hi hj
    show ole (M' i j) (ins F r.1 r.2.1 r.2.2 i j)
    unfold ins
    split
    · rename_i e
      obtain ⟨rfl, rfl⟩ := e
      exact le_omin (h _ _ hi hj) (hr _ _ _ (List.mem_cons_self ..) hi hj)
    · exact h _ _ hi hj
theorem insAll_diag : ∀ (R : List Edge) (F : Mx), (∀ r ∈ R, r.1 ≠ r.2.1) → ∀ i, insAll F R i i = F i i
  | [], F, _, i => rfl
  | r :: R, F, h, i => by
    refine (insAll_diag R _ (fun q hq => h q (List.mem_cons_of_mem _ hq)) i).trans ?_
    show ins F r.1 r.2.1 r.2.2 i i = _
    unfold ins
    rw [if_neg fun e => h r (List.mem_cons_self ..) (e.1.symm.trans e.2)]
def closing (N : Nat) (R : List Edge) : Mx := fwK N (insAll free R) N
theorem closing_le (N : Nat) (R : List Edge) {i : Nat} (hd : ∀ r ∈ R, r.1 ≠ r.2.1) : ole (closing N R i i) (some 0) := by
  refine ole_trans (fw_dec N (Nat.le_refl _) i i) ?_
  rw [insAll_diag R free hd i]
  simp [free, ole]
theorem closing_low {N : Nat} {R : List Edge} {M' : Mx} (m : Md N (cs R) M') : ∀ i j, i < N → j < N → ole (M' i j) (closing N R i j) := by
  refine fw_low m.cl (insAll_low R free ?_ fun a b w q => m.le a b w (Or.inr q))
  exact (free_clo N).top M' ⟨m.cl, fun a b w q => m.le a b w (Or.inl q)⟩
theorem closing_clo {N : Nat} {R : List Edge} (hd : ∀ r ∈ R, r.1 ≠ r.2.1) (h : ∀ i, i < N → closing N R i i = some 0) : IsClo N (cs R) (closing N R) := by
  have c : Closed N (closing N R) := fw_closed (fun i _ => by rw [insAll_diag R free hd i]; simp [free]) h
  refine ⟨⟨c, fun a b w q ha hb => ?_⟩, fun M' m => closing_low m⟩
  refine ole_trans (fw_dec N (Nat.le_refl _) a b) ?_
  rcases q with ⟨rfl, rfl⟩ | q
  · refine ole_trans (insAll_dec R free 0 b) ?_
    simp [free, ole]
  · exact insAll_row R free a b w q
theorem closing_no {N : Nat} {R : List Edge} {i : Nat} (hi : i < N) {c : Int} (h : closing N R i i = some c) (hc : c < 0) : ¬ Cons N (cs R) := by
  rintro ⟨M', m⟩
  have := closing_low m i i hi hi
  rw [m.cl.diag i hi, h] at this
  simp [ole] at this
  omega
end Dbm

set_option Elab.async false
set_option linter.all false
set_option maxRecDepth 100000
set_option maxHeartbeats 3000000
/-! Common part, 13: more steps; matrices in the heap. -/
namespace Cm
open L2 PySem PySem.Spec PyProof.Rows RZ StX Dbm
section
variable {K : Frag} {σ : L2.St} {H : Hp} {Q : VK} {R : It → Hp → Prop} {ta : TE} {x : V}
theorem g_notN (q : Q (.bl (!decide (x = .non))) H) : xNotN x .non H Q := ⟨rfl, q⟩
def TupOn (K : Frag) (R : It → Hp → Prop) (v : V) (H : Hp) : Prop := iTup K (fun _ H' Q => Q v H') [] H R
theorem g_itup (h : ta σ H (TupOn K R)) : iTup K ta σ H R := h
theorem g_onT {a : Addr} {xs : List V} (h1 : SqT K H a xs) (h : R (Itt K a) H) : TupOn K R (.ref a) H := ⟨a, rfl, ⟨xs, h1⟩, h⟩
theorem g_append {l : Addr} {xs : List V} {y : V} (h : H l = some (.lst xs)) (hl : xs.length < sizeLine) (q : Q .non (upd H l (.lst (xs ++ [y])))) : rAppend (.ref l) [y] H Q := ⟨l, xs, y, rfl, rfl, h, hl, q⟩
end
end Cm
local macro_rules | `(tactic| walk_at "st1") => `(tactic| (with_reducible (first | refine Cm.g_seq ?_ | refine Cm.g_asg ?_ | refine Cm.g_asgS ?_ | refine Cm.g_ret ?_ | refine Cm.g_drop ?_ | refine Cm.g_if ?_ | refine Cm.g_next ?_ | refine Cm.g_par ?_ | refine Cm.g_c ?_ | refine Cm.g_op ?_ | refine Cm.g_un ?_ | refine Cm.g_test ?_ | refine Cm.g_tB ?_ | refine Cm.g_k ?_ | refine Cm.g_not ?_ | refine Cm.g_and ?_ | refine Cm.g_or ?_ | refine Cm.g_andV ?_ | refine Cm.g_orV ?_ | refine Cm.g_notV ?_ | refine Cm.g_kV ?_ | refine Cm.g_ifE ?_ | refine Cm.g_chain ?_ | refine Cm.g_cons ?_ | refine Cm.g_nil ?_ | refine Cm.g_tup ?_ | refine Cm.g_lst ?_ | refine Cm.g_call ?_ | refine Cm.g_callN ?_ | refine Cm.g_cb ?_ | refine Cm.g_sl ?_ | refine Cm.g_noPart ?_ | refine Cm.g_part ?_ | refine Cm.g_i ?_ | refine Cm.g_bm ?_ | refine Cm.g_name ?_ | refine Cm.g_lc ?_ | refine Cm.g_for ?_ | refine Cm.g_izip ?_ | refine Cm.g_irng ?_ | refine Cm.g_ilist ?_ | refine Cm.g_add ?_ | refine Cm.g_sub ?_ | refine Cm.g_lt ?_ | refine Cm.g_le ?_ | refine Cm.g_gt ?_ | refine Cm.g_ge ?_ | refine Cm.g_neg ?_ | refine Cm.g_eqI ?_ | refine Cm.g_neI ?_ | refine Cm.g_isN ?_ | refine Cm.g_notN ?_ | refine Cm.g_meth ?_ | refine Cm.g_methk ?_ | refine Cm.g_fld ?_ | refine Cm.g_put ?_ | refine Cm.g_istr ?_ | refine Cm.g_m1 ?_ | refine Cm.g_ienu ?_ | refine Cm.g_itup ?_ | refine Cm.g_make ?_ | refine Cm.g_int ?_ | (refine' Cm.g_var ?h1 ?_; (case h1 => with_unfolding_all rfl)))))
local macro_rules | `(tactic| walk_at "run") => `(tactic| (repeat (walk_at "st1"; try dsimp only [List.set_cons_zero, List.set_cons_succ])))
namespace Cm
open L2 PySem PySem.Spec PyProof.Rows RZ StX Dbm
def cellV : OI → V
  | none => .non
  | some i => .int i
def cellD : OI → PyData
  | none => .none
  | some i => .int i
def rowV (N : Nat) (M : Mx) (i : Nat) : List V := (List.range N).map fun j => cellV (M i j)
def rowD (N : Nat) (M : Mx) (i : Nat) : PyData := .list ((List.range N).map fun j => cellD (M i j))
def mxD (N : Nat) (M : Mx) : PyData := .list ((List.range N).map fun i => rowD N M i)
section
variable {K : Frag} {H : Hp} {Q : VK}
theorem dp_cell {v : V} {c : OI} (h : Dp K H v (cellD c)) : v = cellV c := by
  cases c with
  | none => cases h; rfl
  | some i => cases h; rfl
theorem cell_dp (c : OI) : Dp K H (cellV c) (cellD c) := by
  cases c with
  | none => exact .non
  | some i => exact .int i
theorem dpa_cells {α : Type} {f : α → OI} : ∀ {l : List α} {xs : List V}, DpAll K H xs (l.map fun j => cellD (f j)) → xs = l.map fun j => cellV (f j)
  | [], _, h => by cases h; rfl
  | a :: l, _, h => by
    cases h with
    | cons h1 h2 => rw [dp_cell h1, dpa_cells h2]; rfl
theorem cells_dpa {α : Type} {f : α → OI} : ∀ l : List α, DpAll K H (l.map fun j => cellV (f j)) (l.map fun j => cellD (f j))
  | [] => .nil
  | a :: l => .cons (cell_dp _) (cells_dpa l)
theorem row_at {N : Nat} {M : Mx} {i j : Nat} (hj : j < N) : atI (rowV N M i) (j : Int) = some (cellV (M i j)) := atI_nat (by
  unfold rowV
  rw [List.getElem?_map, List.getElem?_range hj]
  rfl)
theorem row_len {N : Nat} {M : Mx} {i : Nat} : (rowV N M i).length = N := by unfold rowV; simp
theorem mx_open {v : V} {N : Nat} {M : Mx} (h : Dp K H v (mxD N M)) : ∃ a xs, v = .ref a ∧ SqL K H a xs ∧ xs.length = N ∧ ∀ i, i < N → ∃ r, xs[i]? = some (.ref r) ∧ SqL K H r (rowV N M i) := by
  unfold mxD at h
  cases h with
  | @lst a xs _ hs ha =>
    have hl := dpa_len ha
    rw [List.length_map, List.length_range] at hl
    refine ⟨a, xs, rfl, hs, hl, fun i hi => ?_⟩
    have h1 : xs[i]? = some xs[i] := List.getElem?_eq_getElem (by omega)
    obtain ⟨d, e, hd⟩ := dpa_get ha h1
    rw [List.getElem?_map, List.getElem?_range hi] at e
    cases e
    generalize xs[i] = u at h1 hd
    unfold rowD at hd
    cases hd with
    | @lst r ys _ hs2 ha2 =>
      refine ⟨r, h1, ?_⟩
      rw [dpa_cells ha2] at hs2
      exact hs2
theorem mx_close {a : Addr} {N : Nat} {M : Mx} {xs : List V} (h : SqL K H a xs) (hl : xs.length = N) (hr : ∀ i, i < N → ∃ r, xs[i]? = some (.ref r) ∧ SqL K H r (rowV N M i)) : Dp K H (.ref a) (mxD N M) := by
  unfold mxD
  refine .lst h ?_
  subst hl
  have key : ∀ (ys : List V) (k : Nat), (∀ j, j < ys.length → ∃ r, ys[j]? = some (.ref r) ∧ SqL K H r (rowV xs.length M (k + j))) → DpAll K H ys ((List.range' k ys.length).map fun i => rowD xs.length M i) := by
    intro ys
    induction ys with
    | nil => intro k _; exact .nil
    | cons y ys ih =>
      intro k hk
      obtain ⟨r, e, hs⟩ := hk 0 (by simp)
      have e2 : y = .ref r := by simpa using e
      subst e2
      rw [List.length_cons, List.range'_succ]
      refine .cons (.lst hs (cells_dpa _)) (ih (k + 1) fun j hj => ?_)
      obtain ⟨r2, e2, hs2⟩ := hk (j + 1) (by simp; omega)
      exact ⟨r2, by simpa using e2, by rw [show k + 1 + j = k + (j + 1) by omega]; exact hs2⟩
  rw [List.range_eq_range']
  exact key xs 0 fun j hj => by rw [Nat.zero_add]; exact hr j hj
theorem g_row {v : V} {N : Nat} {M : Mx} {i : Nat} (h : Dp K H v (mxD N M)) (hi : i < N) (q : ∀ r, SqL K H r (rowV N M i) → Q (.ref r) H) : rIx K v (.int i) H Q := by
  obtain ⟨a, xs, rfl, hs, hl, hr⟩ := mx_open h
  obtain ⟨r, e, hs2⟩ := hr i hi
  exact g_ixL hs (atI_nat e) (q r hs2)
theorem g_cell {r : Addr} {N : Nat} {M : Mx} {i j : Nat} (h : SqL K H r (rowV N M i)) (hj : j < N) (q : Q (cellV (M i j)) H) : rIx K (.ref r) (.int j) H Q := g_ixL h (row_at hj) q
end
/-! ### what the program's functions promise -/
def isLess : OI → OI → Bool
  | none, _ => false
  | some _, none => true
  | some a, some b => decide (a < b)
def sp_added (K : Frag) : Sp := fun vs H Q _ => ∃ a b : OI, vs = [cellV a, cellV b] ∧ ∀ H', Ex H H' → Q (cellV (oadd a b)) H'
def sp_is_less (K : Frag) : Sp := fun vs H Q _ => ∃ a b : OI, vs = [cellV a, cellV b] ∧ ∀ H', Ex H H' → Q (.bl (isLess a b)) H'
def sp_free_matrix (K : Frag) : Sp := fun vs H Q _ => ∃ n : Nat, vs = [.int n] ∧ n ≤ 1000 ∧ ∀ v H', Ex H H' → Dp K H' v (mxD (n + 1) free) → Q v H'
def trD (r : Edge) : PyData := .tuple [.int r.1, .int r.2.1, .int r.2.2]
def sp_is_bound (K : Frag) : Sp := fun vs H Q _ => ∃ (v : V) (n : Nat) (r : Edge), vs = [v, .int n] ∧ Dp K H v (trD r) ∧ r.1 ≤ n ∧ r.2.1 ≤ n ∧ r.1 ≠ r.2.1 ∧ ∀ H', Ex H H' → Q (.bl true) H'
def sp_tightened (K : Frag) : Sp := fun vs H Q _ => ∃ (v : V) (N : Nat) (M : Mx) (a b : Nat) (w : Int) (S : Cs), vs = [v, .int a, .int b, .int w] ∧ N ≤ 1000 ∧ a < N ∧ b < N ∧ Dp K H v (mxD N M) ∧ IsClo N S M ∧
  (∀ H', Ex H H' → ¬ Cons N (also S a b w) → Q .non H') ∧ ∀ v' M' H', Ex H H' → Dp K H' v' (mxD N M') → IsClo N (also S a b w) M' → Q v' H'
def t_added (K : Frag) : TS := (tRet (tIf (tOr (tTest (tOp xIsN (tVar 0) (tC .non))) (tTest (tOp xIsN (tVar 1) (tC .non)))) (tC .non) (tOp (xAdd K) (tVar 0) (tVar 1))))
def t_is_less (K : Frag) : TS := (tRet (tAndV (tOp xNotN (tVar 0) (tC .non)) (tOrV (tOp xIsN (tVar 1) (tC .non)) (tOp xLt (tVar 0) (tVar 1)))))
def t_free_matrix (K : Frag) : TS := (tSeq (tAsg (tOp (xAdd K) (tVar 0) (tC (.int 1))) (gName 1)) (tRet (tLc (iRng1 (tCons (tVar 1) tNil)) (gName 3) tYes (tLc (iRng1 (tCons (tVar 1) tNil)) (gName 2) tYes (tIf (tOr (tTest (tOp (xEq K) (tVar 3) (tC (.int 0)))) (tTest (tOp (xEq K) (tVar 3) (tVar 2)))) (tC (.int 0)) (tC .non)) [2]) [3])))
def t_is_bound (K : Frag) : TS := (tSeq (tIfS (tOr (tNot (tB (tCB (rIsi K) (tCons (tVar 0) (tCons (tC (.ty "tuple")) tNil))))) (tTest (tOp (xNe K) (tCB (rLn K) (tCons (tVar 0) tNil)) (tC (.int 3))))) (tRet (tC (.bl false))) tNext) (tSeq (tAsg (tVar 0) (gTup K 3 (gCons (gName 2) (gCons (gName 3) (gCons (gName 4) gNil))))) (tRet (tAndV (tCall (sp_is_number K) [] E0 (tCons (tVar 2) (tCons (tC (.int 0)) (tCons (tVar 1) tNil)))) (tAndV (tCall (sp_is_number K) [] E0 (tCons (tVar 3) (tCons (tC (.int 0)) (tCons (tVar 1) tNil)))) (tAndV (tOp (xNe K) (tVar 2) (tVar 3)) (tCall (sp_is_integer K) [] E0 (tCons (tVar 4) tNil))))))))
def t_tightened (K : Frag) : TS := (tSeq (tAsg (tOp (rIx K) (tOp (rIx K) (tVar 0) (tVar 2)) (tVar 1)) (gName 4)) (Evl.tCut (tIfS (tAnd (tTest (tOp xNotN (tVar 4) (tC .non))) (tTest (tOp xLt (tOp (xAdd K) (tVar 4) (tVar 3)) (tC (.int 0))))) (tRet (tC .non)) tNext) (tSeq (tIfS (tNot (tB (tCall (sp_is_less K) [] E0 (tCons (tVar 3) (tCons (tOp (rIx K) (tOp (rIx K) (tVar 0) (tVar 1)) (tVar 2)) tNil))))) (tRet (tVar 0)) tNext) (tSeq (tAsg (tLc (iList K (tOp (rIx K) (tVar 0) (tVar 2))) (gName 6) tYes (tCall (sp_added K) [] E0 (tCons (tVar 3) (tCons (tVar 6) tNil))) [6]) (gName 5)) (tSeq (tAsg (tLst tNil) (gName 7)) (tSeq (tFor (iList K (tVar 0)) (gName 8) (tSeq (tPar 9 10 (tCons (tOp (rIx K) (tVar 8) (tVar 1)) (tCons (tCB (rList K) (tCons (tVar 8) tNil)) tNil))) (Evl.tCut (tIfS (tTest (tOp xNotN (tVar 9) (tC .non))) (tFor (iEnumA K (tCons (tVar 5) tNil)) (gTup K 2 (gCons (gName 11) (gCons (gName 6) gNil))) (tIfS (tAnd (tTest (tOp xNotN (tVar 6) (tC .non))) (tOr (tTest (tOp xIsN (tOp (rIx K) (tVar 10) (tVar 11)) (tC .non))) (tTest (tOp xLt (tOp (xAdd K) (tVar 9) (tVar 6)) (tOp (rIx K) (tVar 10) (tVar 11)))))) (tAsg (tOp (xAdd K) (tVar 9) (tVar 6)) (gSub (tVar 10) (tVar 11) rSetL)) tNext)) tNext) (tDrop (tBM K "list" rAppend (tVar 7) (tCons (tVar 10) tNil)))))) (tRet (tVar 7))))))))
theorem pure_added {K : Frag} (vs : List V) (H : Hp) (Q : VK) (E : XK) (h : sp_added K vs H Q E) : t_added K ⟨fun _ H' => Q .non H', Q, fun _ _ => False, fun _ _ => False⟩ (start ["one", "other"] vs) H := by
  obtain ⟨a, b, rfl, q⟩ := h
  show tRet _ _ [some (cellV a), some (cellV b)] H
  walk_at "run"
  cases a with
  | none =>
    walk_at "run"
    refine g_iteB (fun _ => ?_) (fun h => by simp [cellV] at h)
    walk_at "run"
    exact q H (Evl.Ex.refl H)
  | some a =>
    refine g_iteB (fun h => by simp [cellV] at h) (fun _ => ?_)
    walk_at "run"
    cases b with
    | none =>
      refine g_iteB (fun _ => ?_) (fun h => by simp [cellV] at h)
      walk_at "run"
      exact q H (Evl.Ex.refl H)
    | some b =>
      refine g_iteB (fun h => by simp [cellV] at h) (fun _ => ?_)
      walk_at "run"
      exact g_add (q H (Evl.Ex.refl H))
theorem pure_is_less {K : Frag} (vs : List V) (H : Hp) (Q : VK) (E : XK) (h : sp_is_less K vs H Q E) : t_is_less K ⟨fun _ H' => Q .non H', Q, fun _ _ => False, fun _ _ => False⟩ (start ["one", "other"] vs) H := by
  obtain ⟨a, b, rfl, q⟩ := h
  show tRet _ _ [some (cellV a), some (cellV b)] H
  walk_at "run"
  cases a with
  | none =>
    refine g_iteB (fun h => by simp [cellV] at h) (fun _ => ?_)
    exact q H (Evl.Ex.refl H)
  | some a =>
    refine g_iteB (fun _ => ?_) (fun h => by simp [cellV] at h)
    walk_at "run"
    cases b with
    | none =>
      refine g_iteB (fun _ => ?_) (fun h => by simp [cellV] at h)
      exact q H (Evl.Ex.refl H)
    | some b =>
      refine g_iteB (fun h => by simp [cellV] at h) (fun _ => ?_)
      walk_at "run"
      exact g_lt (q H (Evl.Ex.refl H))
theorem pure_is_bound {K : Frag} (vs : List V) (H : Hp) (Q : VK) (E : XK) (h : sp_is_bound K vs H Q E) : t_is_bound K ⟨fun _ H' => Q .non H', Q, fun _ _ => False, fun _ _ => False⟩ (start ["value", "many", "one", "other", "most"] vs) H := by
  obtain ⟨v, n, ⟨a, b, w⟩, rfl, hd, ha, hb, hne, q⟩ := h
  show tSeq _ _ _ [some v, some (.int n), none, none, none] H
  walk_at "run"
  refine g_isi hd (by decide) ?_
  walk_at "run"
  refine g_iteB (fun h => by simp [isiD, tyD, trD] at h) (fun _ => ?_)
  walk_at "run"
  unfold trD at hd
  cases hd with
  | @tup t xs _ hs hx =>
    cases hx with
    | cons h1 hx =>
      cases hx with
      | cons h2 hx =>
        cases hx with
        | cons h3 hx =>
          cases hx
          cases h1; cases h2; cases h3
          refine g_lenT hs ?_
          walk_at "run"
          refine g_iteB (fun h => by simp at h) (fun _ => ?_)
          walk_at "run"
          refine g_asgG ?_
          walk_at "run"
          refine g_trip hs ?_
          walk_at "run"
          refine ⟨_, .int a, 0, n, rfl, .int _, fun H1 e1 => ?_⟩
          walk_at "run"
          refine g_iteB (fun _ => ?_) (fun h => by simp [isNumD] at h; dsimp only at ha; omega)
          walk_at "run"
          refine ⟨_, .int b, 0, n, rfl, .int _, fun H2 e2 => ?_⟩
          walk_at "run"
          refine g_iteB (fun _ => ?_) (fun h => by simp [isNumD] at h; dsimp only at hb; omega)
          walk_at "run"
          refine g_iteB (fun _ => ?_) (fun h => by simp at h; dsimp only at hne; omega)
          walk_at "run"
          exact ⟨_, .int w, rfl, .int _, fun H3 e3 => q H3 ((e1.trans e2).trans e3)⟩
end Cm

set_option Elab.async false
set_option linter.all false
set_option maxRecDepth 100000
set_option maxHeartbeats 3000000
/-! Common part, 14: free matrices, a matrix tightened. -/
namespace Cm
open L2 PySem PySem.Spec PyProof.Rows RZ StX Dbm
def partV (N : Nat) (f g : Nat → OI) (t : Nat) : List V := (List.range N).map fun j => cellV (if j < t then f j else g j)
section
variable {N t : Nat} {f g : Nat → OI}
theorem part_zero : partV N f g 0 = (List.range N).map fun j => cellV (g j) := by
  unfold partV
  refine List.map_congr_left fun j _ => ?_
  rw [if_neg (by omega)]
theorem part_full : partV N f g N = (List.range N).map fun j => cellV (f j) := by
  unfold partV
  refine List.map_congr_left fun j hj => ?_
  rw [if_pos (List.mem_range.mp hj)]
theorem part_len : (partV N f g t).length = N := by unfold partV; simp
theorem part_at (ht : t < N) : atI (partV N f g t) (t : Int) = some (cellV (g t)) := atI_nat (by
  unfold partV
  rw [List.getElem?_map, List.getElem?_range ht]
  show some (cellV (if t < t then f t else g t)) = _
  rw [if_neg (by omega)])
theorem part_set (ht : t < N) : (partV N f g t).set t (cellV (f t)) = partV N f g (t + 1) := by
  refine List.ext_getElem? fun j => ?_
  rw [List.getElem?_set]
  by_cases e : t = j
  · subst e
    rw [if_pos rfl, part_len, if_pos ht]
    unfold partV
    rw [List.getElem?_map, List.getElem?_range ht]
    show _ = some (cellV (if t < t + 1 then f t else g t))
    rw [if_pos (by omega)]
  · rw [if_neg e]
    unfold partV
    rw [List.getElem?_map, List.getElem?_map]
    by_cases hj : j < N
    · rw [List.getElem?_range hj]
      show some (cellV (if j < t then f j else g j)) = some (cellV (if j < t + 1 then f j else g j))
      by_cases h1 : j < t
      · rw [if_pos h1, if_pos (by omega)]
      · rw [if_neg h1, if_neg (by omega)]
    · rw [List.getElem?_eq_none (by rw [List.length_range]; omega)]
      rfl
theorem part_same (h : f t = g t) : partV N f g (t + 1) = partV N f g t := by
  unfold partV
  refine List.map_congr_left fun j _ => ?_
  by_cases e : j = t
  · subst e
    rw [if_pos (by omega), if_neg (by omega), h]
  · by_cases h1 : j < t
    · rw [if_pos h1, if_pos (by omega)]
    · rw [if_neg h1, if_neg (by omega)]
end
theorem ixN_nat {n i : Nat} (h : i < n) : ixN n (i : Int) = some i := by
  unfold ixN
  rw [if_pos (by omega)]
  simp
  omega
theorem mx_of {K : Frag} {H : Hp} {D : Addr} {ys : List V} {N : Nat} {M : Mx} (h : H D = some (.lst ys)) (hl : ys.length = N) (hr : ∀ (i : Nat) (y : V), ys[i]? = some y → ∃ r, y = .ref r ∧ H r = some (.lst (rowV N M i))) : Dp K H (.ref D) (mxD N M) := by
  refine mx_close (Evl.sq_of h) hl fun i hi => ?_
  have h1 : ys[i]? = some ys[i] := List.getElem?_eq_getElem (by omega)
  obtain ⟨r, e, h2⟩ := hr i _ h1
  exact ⟨r, by rw [h1, e], Evl.sq_of h2⟩
theorem pure_free_matrix {K : Frag} (vs : List V) (H : Hp) (Q : VK) (E : XK) (h : sp_free_matrix K vs H Q E) : t_free_matrix K ⟨fun _ H' => Q .non H', Q, fun _ _ => False, fun _ _ => False⟩ (start ["many", "size", "other", "one"] vs) H := by
  obtain ⟨n, rfl, hn, q⟩ := h
  show tSeq _ _ _ [some (.int n), none, none, none] H
  walk_at "run"
  refine g_rng (by omega) (by omega) ?_
  have eN : ((n : Int) + 1).toNat = n + 1 := by omega
  rw [eN]
  refine lc_all walk_range (by omega) (fun _ _ => trivial) (fun D i y H' => ∃ r, y = .ref r ∧ r ≠ D ∧ H' r = some (.lst (rowV (n + 1) free i))) (fun D i v H H' e ⟨r, e1, e2, e3⟩ => ⟨r, e1, e2, e r _ e2 e3⟩) ?_ ?_
  · rintro D i x H2 H3 hD ⟨ys, hy⟩ hi e2 ⟨rfl, rfl⟩ Nt hN
    walk_at "run"
    refine ⟨rfl, ?_⟩
    walk_at "run"
    refine g_rng (by omega) (by omega) ?_
    rw [eN]
    refine lc_map walk_range (by omega) (fun _ _ => trivial) (fun j => cellV (free i j)) ?_ ?_
    · rintro j x H4 H5 hj e4 ⟨rfl, rfl⟩ Nt2 hN2
      walk_at "run"
      refine ⟨rfl, ?_⟩
      walk_at "run"
      have e := hN2 _ (Evl.Ex.refl _)
      refine g_iteB (fun h1 => ?_) (fun h1 => ?_)
      · walk_at "run"
        refine g_iteB (fun _ => ?_) (fun h => by cases h)
        walk_at "run"
        simp at h1
        have ef : free i j = some 0 := by unfold free; rw [if_pos (by omega)]
        rw [ef] at e
        exact e
      · walk_at "run"
        simp at h1
        refine g_iteB (fun h2 => ?_) (fun h2 => ?_)
        · walk_at "run"
          simp at h2
          have ef : free i j = some 0 := by unfold free; rw [if_pos (by omega)]
          rw [ef] at e
          exact e
        · walk_at "run"
          simp at h2
          have ef : free i j = none := by unfold free; rw [if_neg (by omega)]
          rw [ef] at e
          exact e
    · intro D2 H6 hD2 e6 h6
      refine hN _ _ e6 ⟨D2, rfl, ?_, h6⟩
      exact Ne.symm (ne_of_none hy hD2)
  · intro D ys H' hD e h hl hr
    exact q _ _ e (mx_of h hl fun i y hy => by obtain ⟨r, e1, _, e3⟩ := hr i y hy; exact ⟨r, e1, e3⟩)
theorem pure_tightened {K : Frag} (vs : List V) (H : Hp) (Q : VK) (E : XK) (h : sp_tightened K vs H Q E) : t_tightened K ⟨fun _ H' => Q .non H', Q, fun _ _ => False, fun _ _ => False⟩ (start ["far", "one", "other", "most", "back", "rest", "tail", "found", "row", "head", "late", "at"] vs) H := by
  obtain ⟨v, N, M, a, b, w, S, rfl, hN, ha, hb, hM, hC, qn, qs⟩ := h
  show tSeq _ _ _ [some v, some (.int a), some (.int b), some (.int w), none, none, none, none, none, none, none, none] H
  walk_at "run"
  refine g_row hM hb fun r1 hr1 => ?_
  walk_at "run"
  refine g_cell hr1 ha ?_
  walk_at "run"
  refine ⟨fun σ' H' => σ' = [some v, some (.int a), some (.int b), some (.int w), some (cellV (M b a)), none, none, none, none, none, none, none] ∧ H' = H ∧ ∀ c, M b a = some c → 0 ≤ c + w, ?_, ?_⟩
  · walk_at "run"
    cases hc : M b a with
    | none =>
      refine g_iteB (fun h => by simp [cellV] at h) (fun _ => ?_)
      walk_at "run"
      exact ⟨rfl, rfl, fun c h => by cases h⟩
    | some c =>
      refine g_iteB (fun _ => ?_) (fun h => by simp [cellV] at h)
      walk_at "run"
      refine g_add ?_
      walk_at "run"
      refine g_iteB (fun h => ?_) (fun h => ?_)
      · walk_at "run"
        exact qn H (Evl.Ex.refl H) (tight_no hC ha hb hc (of_decide_eq_true h))
      · walk_at "run"
        exact ⟨rfl, rfl, fun c' h' => by cases h'; simp at h; omega⟩
  · rintro _ _ ⟨rfl, rfl, hn⟩
    walk_at "run"
    refine g_row hM ha fun r2 hr2 => ?_
    walk_at "run"
    refine g_cell hr2 hb ?_
    walk_at "run"
    refine ⟨some w, M a b, rfl, fun H1 e1 => ?_⟩
    walk_at "run"
    refine g_iteB (fun hl => ?_) (fun hl => ?_)
    · walk_at "run"
      refine qs v M H1 e1 (up e1 hM) (tight_same hC ha hb ?_)
      cases hc : M a b with
      | none => rw [hc] at hl; simp [isLess] at hl
      | some c => rw [hc] at hl; simp [isLess] at hl; exact hl
    · walk_at "run"
      have hM1 := up e1 hM
      refine g_row hM1 hb fun r3 hr3 => ?_
      refine g_onL hr3 ?_
      refine lc_map walk_list (by rw [row_len]; omega) (fun H' e => Evl.ex_l e hr3) (fun j => cellV (oadd (some w) (M b j))) ?_ ?_
      · rintro j x H2 H3 hj e2 ⟨rfl, hx⟩ Nt hNt
        walk_at "run"
        refine ⟨rfl, ?_⟩
        walk_at "run"
        rw [row_len] at hj
        have hx2 : x = cellV (M b j) := by
          unfold rowV at hx
          rw [List.getElem?_map, List.getElem?_range hj] at hx
          exact (Option.some.inj hx).symm
        subst hx2
        exact ⟨some w, M b j, rfl, fun H4 e4 => hNt H4 e4⟩
      · intro rl H2 _ e2 hrl
        rw [row_len] at hrl
        walk_at "run"
        refine g_newL fun fd H3 hfd e3 h3 => ?_
        walk_at "run"
        have hM2 := up e2 hM1
        obtain ⟨fa, xs, rfl, hfs, hfl, hfr⟩ := mx_open hM2
        refine g_onL (Evl.ex_l e3 hfs) ?_
        refine for_on walk_list (fun i σ H' => (∃ x6 x8 x9 x10 x11 : Option V, σ = [some (.ref fa), some (.int a), some (.int b), some (.int w), some (cellV (M b a)), some (.ref rl), x6, some (.ref fd), x8, x9, x10, x11]) ∧ Ex H2 H' ∧
          ∃ ys, H' fd = some (.lst ys) ∧ ys.length = i ∧ ∀ (k : Nat) (y : V), ys[k]? = some y → ∃ r, y = .ref r ∧ r ≠ fd ∧ H' r = some (.lst (rowV N (tight M a b w) k)))
          ⟨⟨_, _, _, _, _, rfl⟩, e3, [], h3, rfl, fun k y h => by simp at h⟩ (fun i σ H' _ p => Evl.ex_l p.2.1 hfs) ?_ ?_
        · rintro i x σ H4 H5 hi ⟨⟨x6, x8, x9, x10, x11, rfl⟩, e4, ys, hy1, hy2, hy3⟩ ⟨rfl, hx⟩
          rw [hfl] at hi
          obtain ⟨r, hr1', hr2'⟩ := hfr i hi
          rw [hx] at hr1'
          cases hr1'
          walk_at "run"
          have hrow := Evl.ex_l e4 hr2'
          refine g_cell hrow ha ?_
          walk_at "run"
          refine g_list (Or.inl hrow) fun l H6 hl6 e6 h6 => ?_
          walk_at "run"
          refine ⟨fun σ' H7 => (∃ x6 x11 : Option V, σ' = [some (.ref fa), some (.int a), some (.int b), some (.int w), some (cellV (M b a)), some (.ref rl), x6, some (.ref fd), some (.ref r), some (cellV (M i a)), some (.ref l), x11]) ∧ Ex H5 H7 ∧ H7 l = some (.lst (rowV N (tight M a b w) i)), ?_, ?_⟩
          · walk_at "run"
            cases hh : M i a with
            | none =>
              refine g_iteB (fun h => by simp [cellV] at h) (fun _ => ?_)
              walk_at "run"
              refine ⟨⟨_, _, rfl⟩, e6, ?_⟩
              rw [h6]
              congr 2
              unfold rowV tight
              refine List.map_congr_left fun j _ => ?_
              rw [hh]
              cases M i j <;> rfl
            | some hd =>
              refine g_iteB (fun _ => ?_) (fun h => by simp [cellV] at h)
              walk_at "run"
              refine g_enL (Evl.sq_of (e6 _ _ (e4 _ _ hrl))) ?_
              refine for_on walk_enum (fun t σ H7 => (∃ x6 x11 : Option V, σ = [some (.ref fa), some (.int a), some (.int b), some (.int w), some (cellV (M b a)), some (.ref rl), x6, some (.ref fd), some (.ref r), some (.int hd), some (.ref l), x11]) ∧ Ex H5 H7 ∧ H7 l = some (.lst (partV N (tight M a b w i) (M i) t)))
                ⟨⟨_, _, rfl⟩, e6, by rw [part_zero]; exact h6⟩ (fun t σ H7 _ p => Evl.sq_of (p.2.1 _ _ (e4 _ _ hrl))) ?_ ?_
              · rintro t x σ H7 H8 ht ⟨⟨x6, x11, rfl⟩, e7, h7⟩ ⟨T, y, z, rfl, hT, rfl, hy, hz⟩
                rw [List.length_map, List.length_range] at ht
                simp only [List.getElem?_map, List.getElem?_range ht, Option.map_some, Option.some.injEq] at hy hz
                subst hy; subst hz
                refine g_pair (Evl.st_of upd_same) ?_
                have e8 : Ex H5 (upd H7 T (.tup [.int (t : Nat), cellV (oadd (some w) (M b t))])) := e7.trans (Evl.Ex.new hT)
                have h8 : upd H7 T (.tup [.int (t : Nat), cellV (oadd (some w) (M b t))]) l = some (.lst (partV N (tight M a b w i) (M i) t)) := by rw [upd_ne (ne_of_none h7 hT)]; exact h7
                generalize upd H7 T (.tup [.int (t : Nat), cellV (oadd (some w) (M b t))]) = H9 at e8 h8
                have same : tight M a b w i t = M i t → (∃ x6 x11' : Option V, [some (V.ref fa), some (.int a), some (.int b), some (.int w), some (cellV (M b a)), some (.ref rl), some (cellV (oadd (some w) (M b t))), some (.ref fd), some (.ref r), some (.int hd), some (.ref l), some (.int (t : Nat))] = [some (.ref fa), some (.int a), some (.int b), some (.int w), some (cellV (M b a)), some (.ref rl), x6, some (.ref fd), some (.ref r), some (.int hd), some (.ref l), x11']) ∧ Ex H5 H9 ∧ H9 l = some (.lst (partV N (tight M a b w i) (M i) (t + 1))) := fun e => ⟨⟨_, _, rfl⟩, e8, by rw [part_same e]; exact h8⟩
                walk_at "run"
                cases hb2 : M b t with
                | none =>
                  refine g_iteB (fun h => by simp [cellV, oadd] at h) (fun _ => ?_)
                  walk_at "run"
                  have := same (by unfold tight; rw [hb2, hh]; cases M i t <;> rfl)
                  rw [hb2] at this
                  exact this
                | some c =>
                  refine g_iteB (fun _ => ?_) (fun h => by simp [cellV, oadd] at h)
                  walk_at "run"
                  refine g_ixL (Evl.sq_of h8) (part_at ht) ?_
                  walk_at "run"
                  have put : tight M a b w i t = some (hd + (w + c)) → (∃ x6 x11' : Option V, [some (V.ref fa), some (.int a), some (.int b), some (.int w), some (cellV (M b a)), some (.ref rl), some (cellV (oadd (some w) (some c))), some (.ref fd), some (.ref r), some (.int hd), some (.ref l), some (.int (t : Nat))] = [some (.ref fa), some (.int a), some (.int b), some (.int w), some (cellV (M b a)), some (.ref rl), x6, some (.ref fd), some (.ref r), some (.int hd), some (.ref l), x11']) ∧ Ex H5 (upd H9 l (.lst ((partV N (tight M a b w i) (M i) t).set t (.int (hd + (w + c)))))) ∧ (upd H9 l (.lst ((partV N (tight M a b w i) (M i) t).set t (.int (hd + (w + c)))))) l = some (.lst (partV N (tight M a b w i) (M i) (t + 1))) := fun e => by
                    refine ⟨⟨_, _, rfl⟩, Evl.Ex.mut e8 hl6, ?_⟩
                    rw [upd_same, ← part_set ht, e]
                    rfl
                  cases hi2 : M i t with
                  | none =>
                    refine g_iteB (fun _ => ?_) (fun h => by simp [cellV] at h)
                    walk_at "run"
                    refine g_iteB (fun _ => ?_) (fun h => by cases h)
                    walk_at "run"
                    refine g_add ?_
                    walk_at "run"
                    exact g_setL h8 (by rw [part_len]; exact ixN_nat ht) (put (by unfold tight; rw [hb2, hh, hi2]; rfl))
                  | some e =>
                    refine g_iteB (fun h => by simp [cellV] at h) (fun _ => ?_)
                    walk_at "run"
                    refine g_add ?_
                    walk_at "run"
                    refine g_ixL (Evl.sq_of h8) (part_at ht) ?_
                    rw [hi2]
                    refine g_lt ?_
                    walk_at "run"
                    refine g_iteB (fun h => ?_) (fun h => ?_)
                    · walk_at "run"
                      refine g_add ?_
                      walk_at "run"
                      refine g_setL h8 (by rw [part_len]; exact ixN_nat ht) (put ?_)
                      unfold tight
                      rw [hb2, hh, hi2]
                      simp at h
                      simp [oadd, omin]
                      omega
                    · walk_at "run"
                      have := same (by
                        unfold tight
                        rw [hb2, hh, hi2]
                        simp at h
                        simp [oadd, omin]
                        omega)
                      rw [hb2] at this
                      exact this
              · rintro σ' H7 ⟨⟨x6, x11, rfl⟩, e7, h7⟩
                rw [List.length_map, List.length_range, part_full] at h7
                exact ⟨⟨_, _, rfl⟩, e7, h7⟩
          · rintro σ' H7 ⟨⟨x6', x11', rfl⟩, e7, h7⟩
            walk_at "run"
            refine ⟨Or.inl ⟨rfl, _, Evl.sq_of (e7 _ _ hy1)⟩, ?_⟩
            walk_at "run"
            refine g_append (e7 _ _ hy1) (sz5 (by omega)) ?_
            have nlf : l ≠ fd := Ne.symm (ne_of_none hy1 hl6)
            refine ⟨⟨_, _, _, _, _, rfl⟩, Evl.Ex.mut (e4.trans e7) hfd, ys ++ [.ref l], upd_same, by rw [List.length_append, hy2]; rfl, fun k y hk => ?_⟩
            by_cases hk2 : k < ys.length
            · rw [List.getElem?_append_left hk2] at hk
              obtain ⟨r', h1, h2, h3'⟩ := hy3 k y hk
              exact ⟨r', h1, h2, by rw [upd_ne h2]; exact e7 _ _ h3'⟩
            · rw [List.getElem?_append_right (by omega)] at hk
              have hk3 : k = i := by
                have := (List.getElem?_eq_some_iff.mp hk).1
                simp at this
                omega
              subst hk3
              rw [hy2, Nat.sub_self] at hk
              cases hk
              exact ⟨l, rfl, nlf, by rw [upd_ne nlf]; exact h7⟩
        · rintro σ' H4 ⟨⟨x6, x8, x9, x10, x11, rfl⟩, e4, ys, hy1, hy2, hy3⟩
          walk_at "run"
          refine qs _ _ _ ((e1.trans e2).trans e4) (mx_of hy1 (by rw [hy2, hfl]) fun k y hk => ?_) (tight_clo hC ha hb hn)
          obtain ⟨r, h1, _, h2⟩ := hy3 k y hk
          exact ⟨r, h1, h2⟩
end Cm

set_option Elab.async false
set_option linter.all false
set_option maxRecDepth 100000
set_option maxHeartbeats 3000000
/-! Common part, 15: the class Bounds. -/
namespace Cm
open L2 PySem PySem.Spec PyProof.Rows RZ StX Dbm
abbrev CB (K : Frag) : Addr := He.ga K "Bounds"
structure BndK (K : Frag) : Prop where
  cls : Cls K (CB K)
  n1 : NoAttr K (CB K) "own_many"
  n2 : NoAttr K (CB K) "far"
  is : C8.InsC K (CB K)
abbrev bdF (n : Nat) (far : V) : List (Str × V) := [("own_many", .int n), ("far", far)]
def BdO (K : Frag) (H : Hp) (v : V) (n : Nat) (far : V) : Prop := ∃ a dx, v = .ref a ∧ H a = some (.ins (CB K) dx (bdF n far))
structure BdAt (K : Frag) (H : Hp) (v : V) (n : Nat) (S : Cs) : Prop where
  ex : ∃ far M, BdO K H v n far ∧ Dp K H far (mxD (n + 1) M) ∧ IsClo (n + 1) S M
  lo : 1 ≤ n
  hi : n ≤ 12
section
variable {K : Frag} {H H' : Hp} {v : V} {n : Nat} {far : V} {S : Cs}
theorem BdO.ex (e : Ex H H') (h : BdO K H v n far) : BdO K H' v n far := let ⟨a, dx, h1, h2⟩ := h; ⟨a, dx, h1, e _ _ h2⟩
theorem BdAt.up (e : Ex H H') (h : BdAt K H v n S) : BdAt K H' v n S := by
  obtain ⟨⟨far, M, h1, h2, h3⟩, lo, hi⟩ := h
  exact ⟨⟨far, M, h1.ex e, Cm.up e h2, h3⟩, lo, hi⟩
theorem look1 : (bdF n far).lookup ("own_many" : Str) = some (V.int n) := by simp [List.lookup]
theorem look2 : (bdF n far).lookup ("far" : Str) = some far := by
  have e : (("far" : Str) == "own_many") = false := by decide +kernel
  unfold bdF
  rw [List.lookup_cons, e]
  simp [List.lookup]
theorem look3 {m : Str} (h1 : (m == ("own_many" : Str)) = false := by decide +kernel) (h2 : (m == ("far" : Str)) = false := by decide +kernel) : (bdF n far).lookup m = none := by
  unfold bdF
  rw [List.lookup_cons, h1]
  show ([("far", far)] : List (Str × V)).lookup m = none
  rw [List.lookup_cons, h2]
  rfl
theorem put1 : putF "own_many" (.int n) [] = [(("own_many" : Str), V.int n)] := rfl
theorem put2 : putF "far" far [(("own_many" : Str), V.int n)] = bdF n far := by
  unfold putF
  rw [if_neg (by decide +kernel)]
  rfl
theorem put3 {far' : V} : putF "far" far' (bdF n far) = bdF n far' := by
  unfold bdF putF
  rw [if_neg (by decide +kernel)]
  unfold putF
  rw [if_pos rfl]
end
section
variable {K : Frag} {H H' : Hp} {x C dx : Addr} {fs : List (Str × V)}
/-- data do not go through an instance -/
theorem l_exb (hx : H x = some (.ins C dx fs)) (e : ExB x H H') {a : Addr} {xs : List V} (h : SqL K H a xs) : SqL K H' a xs := by
  rcases h with (h | ⟨o, h⟩) | h
  · exact .inl (.inl (e _ _ (fun z => by rw [z, hx] at h; cases h) h))
  · exact .inl (.inr ⟨o, e _ _ (fun z => by rw [z, hx] at h; cases h) h⟩)
  · exact .inr h
theorem t_exb (hx : H x = some (.ins C dx fs)) (e : ExB x H H') {a : Addr} {xs : List V} (h : SqT K H a xs) : SqT K H' a xs := by
  rcases h with (h | ⟨o, h⟩) | h
  · exact .inl (.inl (e _ _ (fun z => by rw [z, hx] at h; cases h) h))
  · exact .inl (.inr ⟨o, e _ _ (fun z => by rw [z, hx] at h; cases h) h⟩)
  · exact .inr h
theorem t_exl {ys : List V} (hx : H x = some (.lst ys)) (e : ExB x H H') {a : Addr} {xs : List V} (h : SqT K H a xs) : SqT K H' a xs := by
  rcases h with (h | ⟨o, h⟩) | h
  · exact .inl (.inl (e _ _ (fun z => by rw [z, hx] at h; cases h) h))
  · exact .inl (.inr ⟨o, e _ _ (fun z => by rw [z, hx] at h; cases h) h⟩)
  · exact .inr h
mutual
theorem dp_exb (hx : H x = some (.ins C dx fs)) (e : ExB x H H') : ∀ (d : PyData) (v : V), Dp K H v d → Dp K H' v d
  | .none, _, h => by cases h; exact .non
  | .bool b, _, h => by cases h; exact .bl b
  | .int i, _, h => by cases h; exact .int i
  | .str x, _, h => by cases h; exact .str x
  | .list ds, _, h => by
    cases h with
    | lst hs ha => exact .lst (l_exb hx e hs) (dpa_exb hx e ds _ ha)
  | .tuple ds, _, h => by
    cases h with
    | tup hs ha => exact .tup (t_exb hx e hs) (dpa_exb hx e ds _ ha)
  | .dict _, _, h => by cases h
theorem dpa_exb (hx : H x = some (.ins C dx fs)) (e : ExB x H H') : ∀ (ds : List PyData) (vs : List V), DpAll K H vs ds → DpAll K H' vs ds
  | [], _, h => by cases h; exact .nil
  | d :: ds, _, h => by
    cases h with
    | cons h1 h2 => exact .cons (dp_exb hx e d _ h1) (dpa_exb hx e ds _ h2)
end
theorem tr_open {v : V} {r : Edge} (h : Dp K H v (trD r)) : ∃ t, v = .ref t ∧ SqT K H t [.int r.1, .int r.2.1, .int r.2.2] := by
  unfold trD at h
  cases h with
  | @tup t xs _ hs hx =>
    cases hx with
    | cons h1 hx =>
      cases hx with
      | cons h2 hx =>
        cases hx with
        | cons h3 hx =>
          cases hx
          cases h1; cases h2; cases h3
          exact ⟨t, rfl, hs⟩
theorem tr_mk {t : Addr} {r : Edge} (h : SqT K H t [.int r.1, .int r.2.1, .int r.2.2]) : Dp K H (.ref t) (trD r) := .tup h (.cons (.int _) (.cons (.int _) (.cons (.int _) .nil)))
theorem tr_exl {ys : List V} (hx : H x = some (.lst ys)) (e : ExB x H H') {v : V} {r : Edge} (h : Dp K H v (trD r)) : Dp K H' v (trD r) := by
  obtain ⟨t, rfl, hs⟩ := tr_open h
  exact tr_mk (t_exl hx e hs)
theorem trs_exl {ys : List V} (hx : H x = some (.lst ys)) (e : ExB x H H') : ∀ {vs : List V} {R : List Edge}, DpAll K H vs (R.map trD) → DpAll K H' vs (R.map trD)
  | _, [], h => by cases h; exact .nil
  | _, r :: R, h => by
    cases h with
    | cons h1 h2 => exact .cons (tr_exl hx e h1) (trs_exl hx e h2)
end
/-! ### sets of rows -/
def mem (L : List Edge) : Cs := fun a b w => (a, b, w) ∈ L
def uni (S T : Cs) : Cs := fun a b w => S a b w ∨ T a b w
theorem Md.iff {N : Nat} {S T : Cs} (h : ∀ a b w, S a b w ↔ T a b w) (M : Mx) : Md N S M ↔ Md N T M := ⟨fun m => ⟨m.cl, fun a b w q => m.le a b w ((h a b w).mpr q)⟩, fun m => ⟨m.cl, fun a b w q => m.le a b w ((h a b w).mp q)⟩⟩
theorem Cons.mono {N : Nat} {S T : Cs} (h : ∀ a b w, S a b w → T a b w) : Cons N T → Cons N S := fun ⟨M, m⟩ => ⟨M, m.cl, fun a b w q => m.le a b w (h a b w q)⟩
theorem take_also {S : Cs} {L : List Edge} {i : Nat} {r : Edge} (h : L[i]? = some r) (a b : Nat) (w : Int) : also (uni S (mem (L.take i))) r.1 r.2.1 r.2.2 a b w ↔ uni S (mem (L.take (i + 1))) a b w := by
  have e : L.take (i + 1) = L.take i ++ [r] := by rw [List.take_add_one, h]; rfl
  unfold also uni mem
  rw [e, List.mem_append, List.mem_singleton]
  constructor
  · rintro ((q | q) | ⟨rfl, rfl, rfl⟩)
    · exact Or.inl q
    · exact Or.inr (Or.inl q)
    · exact Or.inr (Or.inr rfl)
  · rintro (q | q | q)
    · exact Or.inl (Or.inl q)
    · exact Or.inl (Or.inr q)
    · exact Or.inr (by subst q; exact ⟨rfl, rfl, rfl⟩)
theorem cs_uni (R : List Edge) : cs R = uni none0 (mem R) := rfl
/-! ### promises -/
def sp_Bounds_init (K : Frag) : Sp := fun vs H Q _ => ∃ (x dx : Addr) (n : Nat) (p : Addr) (rs : List V) (R : List Edge), vs = [.ref x, .int n, .ref p] ∧ H x = some (.ins (CB K) dx []) ∧ 1 ≤ n ∧ n ≤ 12 ∧ SqT K H p rs ∧ DpAll K H rs (R.map trD) ∧ R.length ≤ 1000 ∧
  (∀ r ∈ R, r.1 ≤ n ∧ r.2.1 ≤ n ∧ r.1 ≠ r.2.1) ∧ Cons (n + 1) (cs R) ∧ ∀ H' far M, ExB x H H' → H' x = some (.ins (CB K) dx (bdF n far)) → Dp K H' far (mxD (n + 1) M) → IsClo (n + 1) (cs R) M → Q .non H'
def sp_Bounds_with_matrix (K : Frag) : Sp := fun vs H Q _ => ∃ (s : V) (n : Nat) (far v : V), vs = [s, v] ∧ BdO K H s n far ∧ 1 ≤ n ∧ n ≤ 12 ∧ ((v = .non ∧ ∀ H', Ex H H' → Q .non H') ∨ (v ≠ .non ∧ ∀ v' H', Ex H H' → BdO K H' v' n v → Q v' H'))
def sp_Bounds_need (K : Frag) : Sp := fun vs H Q _ => ∃ (s : V) (n : Nat) (far : V) (i lo : Int), vs = [s, .int i, .int lo] ∧ BdO K H s n far ∧ lo ≤ i ∧ i ≤ n ∧ ∀ H', Ex H H' → Q .non H'
def sp_Bounds_greatest (K : Frag) : Sp := fun vs H Q _ => ∃ (s : V) (n : Nat) (far : V) (M : Mx) (i j : Nat), vs = [s, .int i, .int j] ∧ BdO K H s n far ∧ Dp K H far (mxD (n + 1) M) ∧ i ≤ n ∧ j ≤ n ∧ ∀ H', Ex H H' → Q (cellV (M i j)) H'
def entR (N : Nat) (M : Mx) (i : Nat) (k : Nat) : List Edge := (List.range k).filterMap fun j => if i = j then none else (M i j).map fun w => (i, j, w)
def ents (N : Nat) (M : Mx) (k : Nat) : List Edge := (List.range k).flatMap fun i => entR N M i N
def sp_Bounds_rows (K : Frag) : Sp := fun vs H Q _ => ∃ (s : V) (n : Nat) (far : V) (M : Mx), vs = [s] ∧ BdO K H s n far ∧ n ≤ 12 ∧ Dp K H far (mxD (n + 1) M) ∧ ∀ p ys H', H p = none → Ex H H' → H' p = some (.lst ys) → DpAll K H' ys ((ents (n + 1) M (n + 1)).map trD) → Q (.ref p) H'
def sp_Bounds_with_row (K : Frag) : Sp := fun vs H Q _ => ∃ (s : V) (n : Nat) (S : Cs) (a b : Nat) (w : Int), vs = [s, .int a, .int b, .int w] ∧ BdAt K H s n S ∧ a ≤ n ∧ b ≤ n ∧ (∀ H', Ex H H' → ¬ Cons (n + 1) (also S a b w) → Q .non H') ∧
  ∀ v' H', Ex H H' → BdAt K H' v' n (also S a b w) → Q v' H'
def sp_Bounds_both (K : Frag) : Sp := fun vs H Q _ => ∃ (s o : V) (n : Nat) (S T : Cs), vs = [s, o] ∧ BdAt K H s n S ∧ BdAt K H o n T ∧ (∀ H', Ex H H' → ¬ Cons (n + 1) (uni S T) → Q .non H') ∧ ∀ v' H', Ex H H' → BdAt K H' v' n (uni S T) → Q v' H'
def eqMx (N : Nat) (M M' : Mx) : Bool := (List.range N).all fun i => (List.range N).all fun j => decide (M i j = M' i j)
def sp_Bounds_eq (K : Frag) : Sp := fun vs H Q _ => ∃ (s o : V) (n m : Nat) (far far' : V) (M M' : Mx), vs = [s, o] ∧ BdO K H s n far ∧ BdO K H o m far' ∧ n ≤ 12 ∧ m ≤ 12 ∧ Dp K H far (mxD (n + 1) M) ∧ Dp K H far' (mxD (m + 1) M') ∧ ∀ H', Ex H H' → Q (.bl (decide (n = m) && eqMx (n + 1) M M')) H'
def t_Bounds_init (K : Frag) : TS := (tSeq (tIfS (tNot (tB (tCall (sp_is_number K) [] E0 (tCons (tVar 1) (tCons (tC (.int 1)) (tCons (tC (.int 12)) tNil)))))) tNo tNext) (tSeq (tFor (iEnumA K (tCons (tVar 2) tNil)) (gTup K 2 (gCons (gName 3) (gCons (gName 4) gNil))) (tIfS (tNot (tB (tCall (sp_is_bound K) [] E0 (tCons (tVar 4) (tCons (tVar 1) tNil))))) tNo tNext)) (tSeq (tAsg (tCall (sp_free_matrix K) [] E0 (tCons (tVar 1) tNil)) (gName 5)) (tSeq (tFor (iTup K (tVar 2)) (gTup K 3 (gCons (gName 6) (gCons (gName 7) (gCons (gName 8) gNil)))) (tSeq (tAsg (tCall (sp_tightened K) [] E0 (tCons (tVar 5) (tCons (tVar 6) (tCons (tVar 7) (tCons (tVar 8) tNil))))) (gName 5)) (tIfS (tTest (tOp xIsN (tVar 5) (tC .non))) tNo tNext))) (tSeq (sFld K (tVar 0) (tVar 1) "own_many") (sFld K (tVar 0) (tVar 5) "far"))))))
def t_Bounds_with_matrix (K : Frag) : TS := (tSeq (tIfS (tTest (tOp xIsN (tVar 1) (tC .non))) (tRet (tC .non)) tNext) (tSeq (tAsg (tMakeR (He.ga K "Bounds") (starSp 2 (sp_Bounds_init K)) E0 (tCons (tFld K (tVar 0) "own_many") tNil)) (gName 2)) (tSeq (sFld K (tVar 2) (tVar 1) "far") (tRet (tVar 2)))))
def t_Bounds_need (K : Frag) : TS := (tIfS (tNot (tB (tCall (sp_is_number K) [] E0 (tCons (tVar 1) (tCons (tVar 2) (tCons (tFld K (tVar 0) "own_many") tNil)))))) tNo tNext)
def t_Bounds_greatest (K : Frag) : TS := (tSeq (tDrop (tMeth (He.ga K "Bounds") "need" (sp_Bounds_need K) [] E0 (tVar 0) (tCons (tVar 1) (tCons (tC (.int 0)) tNil)))) (tSeq (tDrop (tMeth (He.ga K "Bounds") "need" (sp_Bounds_need K) [] E0 (tVar 0) (tCons (tVar 2) (tCons (tC (.int 0)) tNil)))) (tRet (tOp (rIx K) (tOp (rIx K) (tFld K (tVar 0) "far") (tVar 1)) (tVar 2)))))
def t_Bounds_rows (K : Frag) : TS := (tSeq (tAsg (tLst tNil) (gName 1)) (tSeq (tFor (iEnumA K (tCons (tFld K (tVar 0) "far") tNil)) (gTup K 2 (gCons (gName 2) (gCons (gName 3) gNil))) (tFor (iEnumA K (tCons (tVar 3) tNil)) (gTup K 2 (gCons (gName 4) (gCons (gName 5) gNil))) (tIfS (tAnd (tTest (tOp (xNe K) (tVar 2) (tVar 4))) (tTest (tOp xNotN (tVar 5) (tC .non)))) (tDrop (tBM K "list" rAppend (tVar 1) (tCons (tTup (tCons (tVar 2) (tCons (tVar 4) (tCons (tVar 5) tNil)))) tNil))) tNext))) (tRet (tVar 1))))
def t_Bounds_with_row (K : Frag) : TS := (tSeq (tDrop (tMeth (He.ga K "Bounds") "need" (sp_Bounds_need K) [] E0 (tVar 0) (tCons (tVar 1) (tCons (tC (.int 0)) tNil)))) (tSeq (tDrop (tMeth (He.ga K "Bounds") "need" (sp_Bounds_need K) [] E0 (tVar 0) (tCons (tVar 2) (tCons (tC (.int 0)) tNil)))) (tRet (tMeth (He.ga K "Bounds") "with_matrix" (sp_Bounds_with_matrix K) [] E0 (tVar 0) (tCons (tCall (sp_tightened K) [] E0 (tCons (tFld K (tVar 0) "far") (tCons (tVar 1) (tCons (tVar 2) (tCons (tVar 3) tNil))))) tNil)))))
def t_Bounds_both (K : Frag) : TS := (tSeq (tAsg (tFld K (tVar 0) "far") (gName 2)) (tSeq (tFor (iList K (tMeth (He.ga K "Bounds") "rows" (sp_Bounds_rows K) [] E0 (tVar 1) tNil)) (gTup K 3 (gCons (gName 3) (gCons (gName 4) (gCons (gName 5) gNil)))) (tSeq (tAsg (tCall (sp_tightened K) [] E0 (tCons (tVar 2) (tCons (tVar 3) (tCons (tVar 4) (tCons (tVar 5) tNil))))) (gName 2)) (tIfS (tTest (tOp xIsN (tVar 2) (tC .non))) (tRet (tC .non)) tNext))) (tRet (tMeth (He.ga K "Bounds") "with_matrix" (sp_Bounds_with_matrix K) [] E0 (tVar 0) (tCons (tVar 2) tNil)))))
def t_Bounds_eq (K : Frag) : TS := (tRet (tAndV (tCB (rIsi K) (tCons (tVar 1) (tCons (tC (.ref (He.ga K "Bounds"))) tNil))) (tAndV (tOp (xEq K) (tFld K (tVar 0) "own_many") (tFld K (tVar 1) "own_many")) (tOp (xEq K) (tFld K (tVar 0) "far") (tFld K (tVar 1) "far")))))

theorem pure_Bounds_need {K : Frag} (bk : BndK K) (vs : List V) (H : Hp) (Q : VK) (E : XK) (h : sp_Bounds_need K vs H Q E) : t_Bounds_need K ⟨fun _ H' => Q .non H', Q, fun _ _ => False, fun _ _ => False⟩ (start ["self", "number", "least"] vs) H := by
  obtain ⟨s, n, far, i, lo, rfl, ⟨a, dx, rfl, hb⟩, h1, h2, q⟩ := h
  show tIfS _ _ _ _ [some (.ref a), some (.int i), some (.int lo)] H
  walk_at "run"
  refine g_onF hb bk.cls bk.n1 look1 ?_
  walk_at "run"
  refine ⟨_, .int i, lo, n, rfl, .int _, fun H1 e1 => ?_⟩
  walk_at "run"
  refine g_iteB (fun h => by simp [isNumD] at h; omega) (fun _ => ?_)
  walk_at "run"
  exact q H1 e1
theorem pure_Bounds_greatest {K : Frag} (bk : BndK K) (vs : List V) (H : Hp) (Q : VK) (E : XK) (h : sp_Bounds_greatest K vs H Q E) : t_Bounds_greatest K ⟨fun _ H' => Q .non H', Q, fun _ _ => False, fun _ _ => False⟩ (start ["self", "one", "other"] vs) H := by
  obtain ⟨s, n, far, M, i, j, rfl, hb, hM, h1, h2, q⟩ := h
  have hb0 := hb
  obtain ⟨a, dx, rfl, ha⟩ := hb
  show tSeq _ _ _ [some (.ref a), some (.int i), some (.int j)] H
  walk_at "run"
  refine g_onM ha look3 ?_
  walk_at "run"
  refine ⟨_, n, far, i, 0, rfl, hb0, by omega, by omega, fun H1 e1 => ?_⟩
  walk_at "run"
  refine g_onM (e1 _ _ ha) look3 ?_
  walk_at "run"
  refine ⟨_, n, far, j, 0, rfl, hb0.ex e1, by omega, by omega, fun H2 e2 => ?_⟩
  walk_at "run"
  refine g_onF ((e1.trans e2) _ _ ha) bk.cls bk.n2 look2 ?_
  walk_at "run"
  refine g_row (up (e1.trans e2) hM) (by omega) fun r hr => ?_
  walk_at "run"
  exact g_cell hr (by omega) (q _ (e1.trans e2))
theorem eqv_all {α : Type} {f g : α → PyData} : ∀ l : List α, PyData.eqvAll (l.map f) (l.map g) = l.all fun x => PyData.eqv (f x) (g x)
  | [] => by simp [PyData.eqvAll]
  | a :: l => by simp [PyData.eqvAll, eqv_all l]
theorem eqv_cell (a b : OI) : PyData.eqv (cellD a) (cellD b) = decide (a = b) := by
  cases a with
  | none => cases b <;> simp [cellD, PyData.eqv]
  | some i =>
    cases b with
    | none => simp [cellD, PyData.eqv]
    | some j =>
      simp only [cellD, PyData.eqv, Option.some.injEq]
      by_cases h : i = j
      · subst h; simp
      · rw [decide_eq_false h]; exact beq_eq_false_iff_ne.mpr h
theorem eqv_mx (N : Nat) (M M' : Mx) : PyData.eqv (mxD N M) (mxD N M') = eqMx N M M' := by
  unfold mxD eqMx
  rw [PyData.eqv, eqv_all]
  congr 1
  funext i
  unfold rowD
  rw [PyData.eqv, eqv_all]
  congr 1
  funext j
  exact eqv_cell _ _
theorem ok_mx {N : Nat} {M : Mx} (hN : N ≤ 1000) : okD 2 (mxD N M) := by
  refine ok_lst (by simp; omega) fun d hd => ?_
  obtain ⟨i, _, rfl⟩ := List.mem_map.mp hd
  refine ok_lst (by simp; omega) fun d hd => ?_
  obtain ⟨j, _, rfl⟩ := List.mem_map.mp hd
  cases M i j with
  | none => exact ok_non
  | some c => exact ok_int
theorem g_isiO {K : Frag} {H : Hp} {Q : VK} {C a dx : Addr} {fs : List (Str × V)} (ha : H a = some (.ins C dx fs)) (c : C8.InsC K C) (q : Q (.bl true) H) : rIsi K [.ref a, .ref C] H Q :=
  ⟨.ref a, .ref C, .ref C, .ref C, true, rfl, .own C, .base (TyOf.ins ha c.cl c.ha c.hn c.htk c.hm), c.me, q⟩
theorem pure_Bounds_eq {K : Frag} (bk : BndK K) (vs : List V) (H : Hp) (Q : VK) (E : XK) (h : sp_Bounds_eq K vs H Q E) : t_Bounds_eq K ⟨fun _ H' => Q .non H', Q, fun _ _ => False, fun _ _ => False⟩ (start ["self", "other"] vs) H := by
  obtain ⟨s, o, n, m, far, far', M, M', rfl, ⟨a, dx, rfl, ha⟩, ⟨b, dy, rfl, hb⟩, hn, hm, hM, hM', q⟩ := h
  show tRet _ _ [some (.ref a), some (.ref b)] H
  walk_at "run"
  refine g_isiO hb bk.is ?_
  walk_at "run"
  refine g_iteB (fun _ => ?_) (fun h => by cases h)
  walk_at "run"
  refine g_onF ha bk.cls bk.n1 look1 ?_
  walk_at "run"
  refine g_onF hb bk.cls bk.n1 look1 ?_
  walk_at "run"
  refine g_iteB (fun h => ?_) (fun h => ?_)
  · obtain rfl : n = m := by simp at h; omega
    walk_at "run"
    refine g_onF ha bk.cls bk.n2 look2 ?_
    walk_at "run"
    refine g_onF hb bk.cls bk.n2 look2 ?_
    refine g_eqD hM hM' ((ok_mx (by omega)).shaped (by decide)) ((ok_mx (by omega)).shaped (by decide)) ?_
    rw [eqv_mx]
    have := q H (Evl.Ex.refl H)
    simpa using this
  · simp at h
    have := q H (Evl.Ex.refl H)
    rw [show decide (n = m) = false by simp; omega] at this
    exact this
theorem dpa_at {K : Frag} {H : Hp} : ∀ {vs : List V} {ds : List PyData} {i : Nat} {d : PyData}, DpAll K H vs ds → ds[i]? = some d → ∃ v, vs[i]? = some v ∧ Dp K H v d
  | _, _, _, _, .nil, e => by simp at e
  | _, _, 0, _, .cons h _, e => by
    simp at e
    subst e
    exact ⟨_, rfl, h⟩
  | _, _, i + 1, d, .cons _ t, e => by
    obtain ⟨v, h1, h2⟩ := dpa_at (i := i) (d := d) t (by simpa using e)
    exact ⟨v, by simpa using h1, h2⟩
theorem row_of {K : Frag} {H : Hp} {vs : List V} {R : List Edge} {i : Nat} {x : V} (h : DpAll K H vs (R.map trD)) (hx : vs[i]? = some x) : ∃ r, R[i]? = some r ∧ Dp K H x (trD r) := by
  obtain ⟨d, e, hd⟩ := dpa_get h hx
  rw [List.getElem?_map] at e
  cases hr : R[i]? with
  | none => rw [hr] at e; cases e
  | some r => rw [hr] at e; cases e; exact ⟨r, rfl, hd⟩
theorem pure_Bounds_init {K : Frag} (bk : BndK K) (vs : List V) (H : Hp) (Q : VK) (E : XK) (h : sp_Bounds_init K vs H Q E) : t_Bounds_init K ⟨fun _ H' => Q .non H', Q, fun _ _ => False, fun _ _ => False⟩ (start ["self", "many", "rows", "at", "row", "far", "one", "other", "most"] vs) H := by
  obtain ⟨x, dx, n, p, rs, R, rfl, hx, n1, n2, hp, hR, hRl, hv, hC, q⟩ := h
  have hlen : rs.length = R.length := by rw [dpa_len hR, List.length_map]
  show tSeq _ _ _ [some (.ref x), some (.int n), some (.ref p), none, none, none, none, none, none] H
  walk_at "run"
  refine ⟨_, .int n, 1, 12, rfl, .int _, fun H1 e1 => ?_⟩
  walk_at "run"
  refine g_iteB (fun h => by simp [isNumD] at h; omega) (fun _ => ?_)
  walk_at "run"
  refine g_enT (Evl.ex_t e1 hp) ?_
  refine for_on walk_enT (fun i σ H' => (∃ x3 x4 : Option V, σ = [some (.ref x), some (.int n), some (.ref p), x3, x4, none, none, none, none]) ∧ Ex H1 H') ⟨⟨_, _, rfl⟩, Evl.Ex.refl _⟩ (fun _ _ H' _ h => Evl.ex_t (e1.trans h.2) hp) ?_ ?_
  · rintro i y σ H2 H3 hi ⟨⟨x3, x4, rfl⟩, e2⟩ ⟨T, u, z, rfl, hT, rfl, hu, hz⟩
    cases hu
    refine g_pair (Evl.st_of upd_same) ?_
    have e3 : Ex H1 (upd H2 T (.tup [.int (i : Nat), z])) := e2.trans (Evl.Ex.new hT)
    generalize upd H2 T (.tup [.int (i : Nat), z]) = H3 at e3
    walk_at "run"
    obtain ⟨r, hr, hd⟩ := row_of hR hz
    obtain ⟨v1, v2, v3⟩ := hv r (List.mem_of_getElem? hr)
    refine ⟨z, n, r, rfl, up (e1.trans e3) hd, v1, v2, v3, fun H4 e4 => ?_⟩
    walk_at "run"
    refine g_iteB (fun h => by cases h) (fun _ => ?_)
    walk_at "run"
    exact ⟨⟨_, _, rfl⟩, e3.trans e4⟩
  · rintro σ H2 ⟨⟨x3, x4, rfl⟩, e2⟩
    walk_at "run"
    refine ⟨n, rfl, by omega, fun v H3 e3 hM => ?_⟩
    walk_at "run"
    have e13 := (e1.trans e2).trans e3
    refine g_onT (Evl.ex_t e13 hp) ?_
    refine for_on walk_tup (fun i σ H' => (∃ (x3 x4 x6 x7 x8 : Option V) (far : V) (M : Mx), σ = [some (.ref x), some (.int n), some (.ref p), x3, x4, some far, x6, x7, x8] ∧ Dp K H' far (mxD (n + 1) M) ∧ IsClo (n + 1) (uni none0 (mem (R.take i))) M) ∧ Ex H H')
      ⟨⟨_, _, _, _, _, _, _, rfl, hM, (free_clo (n + 1)).swap (Md.iff fun a b w => by unfold uni mem; simp)⟩, e13⟩ (fun _ _ H' _ h => Evl.ex_t h.2 hp) ?_ ?_
    · rintro i y σ H4 H5 hi ⟨⟨x3, x4, x6, x7, x8, far, M, rfl, hM, hc⟩, e4⟩ ⟨rfl, hy⟩
      obtain ⟨r, hr, hd⟩ := row_of hR hy
      obtain ⟨v1, v2, v3⟩ := hv r (List.mem_of_getElem? hr)
      obtain ⟨T, rfl, hT⟩ := tr_open (up e4 hd)
      refine g_trip hT ?_
      walk_at "run"
      refine ⟨far, n + 1, M, r.1, r.2.1, r.2.2, _, rfl, by omega, by omega, by omega, hM, hc, ?_, ?_⟩
      · intro H6 e6 hno
        exfalso
        refine hno (Cons.mono (fun a b w h => ?_) hC)
        rw [cs_uni]
        rcases (take_also hr a b w).mp h with h | h
        · exact Or.inl h
        · exact Or.inr (List.mem_of_mem_take h)
      · intro v' M' H6 e6 hM' hc'
        walk_at "run"
        obtain ⟨fa, _, rfl, _⟩ := mx_open hM'
        refine g_iteB (fun h => by simp at h) (fun _ => ?_)
        walk_at "run"
        exact ⟨⟨_, _, _, _, _, _, _, rfl, hM', hc'.swap (Md.iff (take_also hr))⟩, e4.trans e6⟩
    · rintro σ H4 ⟨⟨x3, x4, x6, x7, x8, far, M, rfl, hM, hc⟩, e4⟩
      walk_at "run"
      refine g_onP (e4 _ _ hx) bk.cls bk.n1 (by simp) ?_
      walk_at "run"
      refine g_onP upd_same bk.cls bk.n2 (by rw [put1]; simp) ?_
      rw [put1, put2, upd_upd]
      walk_at "run"
      have hx4 := e4 _ _ hx
      refine q _ far M ((ExB.of e4).trans ExB.upd) upd_same (dp_exb hx4 ExB.upd _ _ hM) ?_
      rw [hlen, List.take_length] at hc
      exact hc
theorem pure_Bounds_with_matrix {K : Frag} (bk : BndK K) (vs : List V) (H : Hp) (Q : VK) (E : XK) (h : sp_Bounds_with_matrix K vs H Q E) : t_Bounds_with_matrix K ⟨fun _ H' => Q .non H', Q, fun _ _ => False, fun _ _ => False⟩ (start ["self", "far", "found"] vs) H := by
  obtain ⟨s, n, far, v, rfl, ⟨a, dx, rfl, ha⟩, n1, n2, h⟩ := h
  show tSeq _ _ _ [some (.ref a), some v, none] H
  walk_at "run"
  rcases h with ⟨rfl, q⟩ | ⟨hv, q⟩
  · refine g_iteB (fun _ => ?_) (fun h => by simp at h)
    walk_at "run"
    exact q H (Evl.Ex.refl H)
  · refine g_iteB (fun h => by simp at h; exact absurd h hv) (fun _ => ?_)
    walk_at "run"
    refine g_onF ha bk.cls bk.n1 look1 ?_
    walk_at "run"
    intro x dx' hx hdx hne
    have e1 : Ex H (upd (upd H dx' (.own x)) x (.ins (CB K) dx' [])) := Evl.Ex.mut (Evl.Ex.new hdx) hx
    refine ⟨[.ref x, .int n], [], rfl, rfl, Nat.zero_le _, fun p hp => ?_⟩
    have hpx : p ≠ x := fun z => by rw [z, upd_same] at hp; cases hp
    refine ⟨x, dx', n, p, [], [], rfl, ?_, n1, n2, Evl.st_of upd_same, .nil, by simp, (fun r h => by cases h), ?_, fun H' far' M e2 h2 hM hc => ?_⟩
    · rw [upd_ne (Ne.symm hpx), upd_same]
    · exact ⟨free, ((free_clo (n + 1)).swap (Md.iff fun a b w => by unfold cs; simp)).md⟩
    · refine ⟨rfl, ?_⟩
      walk_at "run"
      refine g_onP h2 bk.cls bk.n2 (by simp [bdF]) ?_
      rw [put3]
      walk_at "run"
      have e3 : Ex H (upd (upd (upd H dx' (.own x)) x (.ins (CB K) dx' [])) p (.tup [])) := e1.trans (Evl.Ex.new hp)
      refine q _ _ (ExB.ex (D := x) ((ExB.trans (ExB.of e3) e2).trans ExB.upd) hx) ⟨x, dx', rfl, upd_same⟩
theorem pure_Bounds_with_row {K : Frag} (bk : BndK K) (vs : List V) (H : Hp) (Q : VK) (E : XK) (h : sp_Bounds_with_row K vs H Q E) : t_Bounds_with_row K ⟨fun _ H' => Q .non H', Q, fun _ _ => False, fun _ _ => False⟩ (start ["self", "one", "other", "most"] vs) H := by
  obtain ⟨s, n, S, a, b, w, rfl, ⟨⟨far, M, hb, hM, hc⟩, n1, n2⟩, ha, hb', qn, qs⟩ := h
  have hb0 := hb
  obtain ⟨o, dx, rfl, ho⟩ := hb
  show tSeq _ _ _ [some (.ref o), some (.int a), some (.int b), some (.int w)] H
  walk_at "run"
  refine g_onM ho look3 ?_
  walk_at "run"
  refine ⟨_, n, far, a, 0, rfl, hb0, by omega, by omega, fun H1 e1 => ?_⟩
  walk_at "run"
  refine g_onM (e1 _ _ ho) look3 ?_
  walk_at "run"
  refine ⟨_, n, far, b, 0, rfl, hb0.ex e1, by omega, by omega, fun H2 e2 => ?_⟩
  have e12 := e1.trans e2
  walk_at "run"
  refine g_onM (e12 _ _ ho) look3 ?_
  walk_at "run"
  refine g_onF (e12 _ _ ho) bk.cls bk.n2 look2 ?_
  walk_at "run"
  refine ⟨far, n + 1, M, a, b, w, S, rfl, by omega, by omega, by omega, up e12 hM, hc, fun H3 e3 hno => ?_, fun v' M' H3 e3 hM' hc' => ?_⟩
  · walk_at "run"
    exact ⟨_, n, far, .non, rfl, hb0.ex (e12.trans e3), n1, n2, Or.inl ⟨rfl, fun H4 e4 => qn H4 ((e12.trans e3).trans e4) hno⟩⟩
  · walk_at "run"
    refine ⟨_, n, far, v', rfl, hb0.ex (e12.trans e3), n1, n2, Or.inr ⟨?_, fun v2 H4 e4 h4 => qs v2 H4 ((e12.trans e3).trans e4) ⟨⟨v', M', h4, up e4 hM', hc'⟩, n1, n2⟩⟩⟩
    obtain ⟨fa, _, rfl, _⟩ := mx_open hM'
    exact fun h => by cases h
end Cm

set_option Elab.async false
set_option linter.all false
set_option maxRecDepth 100000
set_option maxHeartbeats 3000000
/-! Common part, 16: the rows of a Bounds, two Bounds together. -/
namespace Cm
open L2 PySem PySem.Spec PyProof.Rows RZ StX Dbm
theorem entR_succ {N : Nat} {M : Mx} {i j : Nat} : entR N M i (j + 1) = entR N M i j ++ (if i = j then [] else match M i j with
  | some w => [(i, j, w)]
  | none => []) := by
  unfold entR
  rw [List.range_succ, List.filterMap_append]
  congr 1
  by_cases h : i = j
  · simp [h]
  · cases hm : M i j <;> simp [h, hm]
theorem entR_len (N : Nat) (M : Mx) (i k : Nat) : (entR N M i k).length ≤ k := by
  unfold entR
  have := List.length_filterMap_le (fun j => if i = j then none else (M i j).map fun w => (i, j, w)) (List.range k)
  rw [List.length_range] at this
  exact this
theorem ents_succ {N : Nat} {M : Mx} {k : Nat} : ents N M (k + 1) = ents N M k ++ entR N M k N := by
  unfold ents
  rw [List.range_succ, List.flatMap_append]
  simp
theorem ents_len (N : Nat) (M : Mx) : ∀ k, (ents N M k).length ≤ k * N
  | 0 => by simp [ents]
  | k + 1 => by
    rw [ents_succ, List.length_append, Nat.succ_mul]
    have h1 := ents_len N M k
    have h2 := entR_len N M k N
    omega
theorem entR_mem {N : Nat} {M : Mx} {i k : Nat} {r : Edge} : r ∈ entR N M i k ↔ ∃ j, j < k ∧ i ≠ j ∧ ∃ w, M i j = some w ∧ r = (i, j, w) := by
  unfold entR
  rw [List.mem_filterMap]
  constructor
  · rintro ⟨j, hj, h⟩
    by_cases e : i = j
    · rw [if_pos e] at h; cases h
    · rw [if_neg e] at h
      cases hm : M i j with
      | none => rw [hm] at h; cases h
      | some w => rw [hm] at h; cases h; exact ⟨j, List.mem_range.mp hj, e, w, hm, rfl⟩
  · rintro ⟨j, hj, e, w, hm, rfl⟩
    exact ⟨j, List.mem_range.mpr hj, by rw [if_neg e, hm]; rfl⟩
theorem ents_mem {N : Nat} {M : Mx} {k : Nat} {r : Edge} : r ∈ ents N M k ↔ ∃ i j, i < k ∧ j < N ∧ i ≠ j ∧ ∃ w, M i j = some w ∧ r = (i, j, w) := by
  unfold ents
  rw [List.mem_flatMap]
  constructor
  · rintro ⟨i, hi, h⟩
    obtain ⟨j, hj, e, w, hm, rfl⟩ := entR_mem.mp h
    exact ⟨i, j, List.mem_range.mp hi, hj, e, w, hm, rfl⟩
  · rintro ⟨i, j, hi, hj, e, w, hm, rfl⟩
    exact ⟨i, List.mem_range.mpr hi, entR_mem.mpr ⟨j, hj, e, w, hm, rfl⟩⟩
/-- the rows of a closed matrix say all that it says -/
theorem ents_md {N : Nat} {S T : Cs} {M : Mx} (h : IsClo N T M) (X : Mx) : Md N (uni S (mem (ents N M N))) X ↔ Md N (uni S T) X := by
  constructor
  · intro m
    have low : ∀ i j, i < N → j < N → ole (X i j) (M i j) := fun i j hi hj => by
      by_cases e : i = j
      · subst e
        rw [m.cl.diag i hi, h.md.cl.diag i hi]
        exact ole_refl _
      · cases hm : M i j with
        | none => cases X i j <;> simp [ole]
        | some w => exact m.le i j w (Or.inr (ents_mem.mpr ⟨i, j, hi, hj, e, w, hm, rfl⟩)) hi hj
    refine ⟨m.cl, fun a b w q ha hb => ?_⟩
    rcases q with q | q
    · exact m.le a b w (Or.inl q) ha hb
    · exact ole_trans (low a b ha hb) (h.md.le a b w q ha hb)
  · intro m
    have mT : Md N T X := ⟨m.cl, fun a b w q => m.le a b w (Or.inr q)⟩
    refine ⟨m.cl, fun a b w q ha hb => ?_⟩
    rcases q with q | q
    · exact m.le a b w (Or.inl q) ha hb
    · obtain ⟨i, j, hi, hj, e, w', hm, hr⟩ := ents_mem.mp q
      simp only [Prod.mk.injEq] at hr
      obtain ⟨r1, r2, r3⟩ := hr
      have := h.top X mT i j hi hj
      rw [hm, ← r1, ← r2, ← r3] at this
      exact this
theorem cons_md {N : Nat} {S T : Cs} (h : ∀ X, Md N S X ↔ Md N T X) : Cons N S ↔ Cons N T := ⟨fun ⟨X, m⟩ => ⟨X, (h X).mp m⟩, fun ⟨X, m⟩ => ⟨X, (h X).mpr m⟩⟩
theorem trs_up {K : Frag} {H H' : Hp} (e : Ex H H') {vs : List V} {ds : List PyData} (h : DpAll K H vs ds) : DpAll K H' vs ds := dpa_ex e _ _ h
theorem row_get {N : Nat} {M : Mx} {i j : Nat} {x : V} (h : (rowV N M i)[j]? = some x) : j < N ∧ x = cellV (M i j) := by
  have hj : j < N := by
    have := (List.getElem?_eq_some_iff.mp h).1
    rw [row_len] at this
    exact this
  unfold rowV at h
  rw [List.getElem?_map, List.getElem?_range hj] at h
  exact ⟨hj, (Option.some.inj h).symm⟩
theorem pure_Bounds_rows {K : Frag} (bk : BndK K) (vs : List V) (H : Hp) (Q : VK) (E : XK) (h : sp_Bounds_rows K vs H Q E) : t_Bounds_rows K ⟨fun _ H' => Q .non H', Q, fun _ _ => False, fun _ _ => False⟩ (start ["self", "found", "one", "row", "other", "most"] vs) H := by
  obtain ⟨s, n, far, M, rfl, ⟨a, dx, rfl, ha⟩, n2, hM, q⟩ := h
  show tSeq _ _ _ [some (.ref a), none, none, none, none, none] H
  walk_at "run"
  refine g_newL fun fd H1 hfd e1 h1 => ?_
  walk_at "run"
  refine g_onF (e1 _ _ ha) bk.cls bk.n2 look2 ?_
  walk_at "run"
  obtain ⟨fa, xs, rfl, hfs, hfl, hfr⟩ := mx_open hM
  refine g_enL (Evl.ex_l e1 hfs) ?_
  refine for_on walk_enum (fun i σ H' => (∃ x2 x3 x4 x5 : Option V, σ = [some (.ref a), some (.ref fd), x2, x3, x4, x5]) ∧ Ex H H' ∧ ∃ ys, H' fd = some (.lst ys) ∧ DpAll K H' ys ((ents (n + 1) M i).map trD))
    ⟨⟨_, _, _, _, rfl⟩, e1, [], h1, .nil⟩ (fun _ _ H' _ p => Evl.ex_l p.2.1 hfs) ?_ ?_
  · rintro i x σ H2 H3 hi ⟨⟨x2, x3, x4, x5, rfl⟩, e2, ys, hy, hd⟩ ⟨T, u, z, rfl, hT, rfl, hu, hz⟩
    cases hu
    rw [hfl] at hi
    obtain ⟨r, hr1, hr2⟩ := hfr i hi
    rw [show xs[i]? = some z from hz] at hr1
    cases hr1
    refine g_pair (Evl.st_of upd_same) ?_
    have eT := Evl.Ex.new (o := .tup [.int (i : Nat), .ref r]) hT
    have e3 := e2.trans eT
    replace hy := eT _ _ hy
    replace hd := trs_up eT hd
    generalize upd H2 T (.tup [.int (i : Nat), .ref r]) = H4 at e3 hy hd
    clear eT
    walk_at "run"
    refine g_enL (Evl.ex_l e3 hr2) ?_
    refine for_on walk_enum (fun j σ H' => (∃ x4 x5 : Option V, σ = [some (.ref a), some (.ref fd), some (.int (i : Nat)), some (.ref r), x4, x5]) ∧ Ex H H' ∧ ∃ ys, H' fd = some (.lst ys) ∧ DpAll K H' ys ((ents (n + 1) M i ++ entR (n + 1) M i j).map trD))
      ⟨⟨_, _, rfl⟩, e3, ys, hy, by rw [show entR (n + 1) M i 0 = [] from rfl, List.append_nil]; exact hd⟩ (fun _ _ H' _ p => Evl.ex_l p.2.1 hr2) ?_ ?_
    · rintro j x σ H5 H6 hj ⟨⟨x4, x5, rfl⟩, e5, ys, hy, hd⟩ ⟨T, u, z, rfl, hT, rfl, hu, hz⟩
      cases hu
      obtain ⟨hj, rfl⟩ := row_get hz
      refine g_pair (Evl.st_of upd_same) ?_
      have eT := Evl.Ex.new (o := .tup [.int (j : Nat), cellV (M i j)]) hT
      have e6 := e5.trans eT
      replace hy := eT _ _ hy
      replace hd := trs_up eT hd
      generalize upd H5 T (.tup [.int (j : Nat), cellV (M i j)]) = H7 at e6 hy hd
      clear eT
      walk_at "run"
      have same : entR (n + 1) M i (j + 1) = entR (n + 1) M i j → (∃ x4' x5' : Option V, [some (V.ref a), some (.ref fd), some (.int (i : Nat)), some (.ref r), some (.int (j : Nat)), some (cellV (M i j))] = [some (.ref a), some (.ref fd), some (.int (i : Nat)), some (.ref r), x4', x5']) ∧ Ex H H7 ∧ ∃ ys, H7 fd = some (.lst ys) ∧ DpAll K H7 ys ((ents (n + 1) M i ++ entR (n + 1) M i (j + 1)).map trD) := fun e => ⟨⟨_, _, rfl⟩, e6, ys, hy, by rw [e]; exact hd⟩
      refine g_iteB (fun h => ?_) (fun h => ?_)
      · simp at h
        walk_at "run"
        cases hm : M i j with
        | none =>
          refine g_iteB (fun h => by simp [cellV] at h) (fun _ => ?_)
          walk_at "run"
          have := same (by rw [entR_succ, hm, if_neg (by omega), List.append_nil])
          rw [hm] at this
          exact this
        | some w =>
          refine g_iteB (fun _ => ?_) (fun h => by simp [cellV] at h)
          walk_at "run"
          refine ⟨Or.inl ⟨rfl, _, Evl.sq_of hy⟩, ?_⟩
          walk_at "run"
          refine g_newT fun T2 H8 _ e8 h8 => ?_
          walk_at "run"
          have hy8 := e8 _ _ hy
          have l1 := ents_len (n + 1) M i
          have l2 := entR_len (n + 1) M i j
          have l3 := dpa_len hd
          rw [List.length_map, List.length_append] at l3
          have l4 : i * (n + 1) ≤ 12 * 13 := Nat.mul_le_mul (by omega) (by omega)
          refine g_append hy8 (sz5 (by omega)) ?_
          refine ⟨⟨_, _, rfl⟩, Evl.Ex.mut (e6.trans e8) hfd, _, upd_same, ?_⟩
          rw [entR_succ, hm, if_neg (by omega), ← List.append_assoc, List.map_append]
          refine dpa_app (trs_exl hy8 ExB.upd (trs_up e8 hd)) (.cons ?_ .nil)
          exact tr_exl hy8 ExB.upd (tr_mk (r := (i, j, w)) (Evl.st_of h8))
      · simp at h
        walk_at "run"
        refine g_iteB (fun h => by cases h) (fun _ => ?_)
        walk_at "run"
        exact same (by rw [entR_succ, if_pos (by omega), List.append_nil])
    · rintro σ' H5 ⟨⟨x4, x5, rfl⟩, e5, ys, hy, hd⟩
      rw [row_len, ← ents_succ] at hd
      exact ⟨⟨_, _, _, _, rfl⟩, e5, ys, hy, hd⟩
  · rintro σ' H2 ⟨⟨x2, x3, x4, x5, rfl⟩, e2, ys, hy, hd⟩
    walk_at "run"
    rw [hfl] at hd
    exact q fd ys H2 hfd e2 hy hd
theorem pure_Bounds_both {K : Frag} (bk : BndK K) (vs : List V) (H : Hp) (Q : VK) (E : XK) (h : sp_Bounds_both K vs H Q E) : t_Bounds_both K ⟨fun _ H' => Q .non H', Q, fun _ _ => False, fun _ _ => False⟩ (start ["self", "other", "far", "one", "late", "most"] vs) H := by
  obtain ⟨s, o, n, S, T, rfl, ⟨⟨far, M, hb, hM, hc⟩, n1, n2⟩, ⟨⟨far2, M2, hb2, hM2, hc2⟩, _, _⟩, qn, qs⟩ := h
  have hb0 := hb
  have hb20 := hb2
  obtain ⟨a, dx, rfl, ha⟩ := hb
  obtain ⟨b, dy, rfl, hb2⟩ := hb2
  show tSeq _ _ _ [some (.ref a), some (.ref b), none, none, none, none] H
  walk_at "run"
  refine g_onF ha bk.cls bk.n2 look2 ?_
  walk_at "run"
  refine g_onM hb2 look3 ?_
  walk_at "run"
  refine ⟨_, n, far2, M2, rfl, hb20, n2, hM2, fun p ys H1 _ e1 h1 hd => ?_⟩
  refine g_onL (Evl.sq_of h1) ?_
  refine for_on walk_list (fun i σ H' => (∃ (x3 x4 x5 : Option V) (far : V) (M : Mx), σ = [some (.ref a), some (.ref b), some far, x3, x4, x5] ∧ Dp K H' far (mxD (n + 1) M) ∧ IsClo (n + 1) (uni S (mem ((ents (n + 1) M2 (n + 1)).take i))) M) ∧ Ex H1 H')
    ⟨⟨_, _, _, _, _, rfl, up e1 hM, hc.swap (Md.iff fun a b w => by unfold uni mem; simp)⟩, Evl.Ex.refl _⟩ (fun _ _ H' _ p => Evl.sq_of (p.2 _ _ h1)) ?_ ?_
  · rintro i x σ H2 H3 hi ⟨⟨x3, x4, x5, far, M, rfl, hM, hc⟩, e2⟩ ⟨rfl, hx⟩
    obtain ⟨r, hr, hdr⟩ := row_of hd hx
    obtain ⟨T', rfl, hT⟩ := tr_open (up e2 hdr)
    refine g_trip hT ?_
    walk_at "run"
    obtain ⟨i1, j1, hi1, hj1, _, w, _, rfl⟩ := ents_mem.mp (List.mem_of_getElem? hr)
    refine ⟨far, n + 1, M, i1, j1, w, _, rfl, by omega, hi1, hj1, hM, hc, fun H4 e4 hno => ?_, fun v' M' H4 e4 hM' hc' => ?_⟩
    · walk_at "run"
      refine g_iteB (fun _ => ?_) (fun h => by simp at h)
      walk_at "run"
      refine qn _ ((e1.trans e2).trans e4) fun hC => hno ?_
      refine Cons.mono (fun a b w h => ?_) ((cons_md (ents_md hc2)).mpr hC)
      rcases (take_also hr a b w).mp h with h | h
      · exact Or.inl h
      · exact Or.inr (List.mem_of_mem_take h)
    · walk_at "run"
      obtain ⟨fa, _, rfl, _⟩ := mx_open hM'
      refine g_iteB (fun h => by simp at h) (fun _ => ?_)
      walk_at "run"
      exact ⟨⟨_, _, _, _, _, rfl, hM', hc'.swap (Md.iff (take_also hr))⟩, e2.trans e4⟩
  · rintro σ' H2 ⟨⟨x3, x4, x5, far', M', rfl, hM', hc'⟩, e2⟩
    walk_at "run"
    refine g_onM ((e1.trans e2) _ _ ha) look3 ?_
    walk_at "run"
    have hl : ys.length = (ents (n + 1) M2 (n + 1)).length := by rw [dpa_len hd, List.length_map]
    rw [hl, List.take_length] at hc'
    refine ⟨_, n, far, far', rfl, hb0.ex (e1.trans e2), n1, n2, Or.inr ⟨?_, fun v2 H4 e4 h4 => qs v2 H4 ((e1.trans e2).trans e4) ⟨⟨far', M', h4, up e4 hM', hc'.swap (ents_md hc2)⟩, n1, n2⟩⟩⟩
    obtain ⟨fa, _, rfl, _⟩ := mx_open hM'
    exact fun h => by cases h
end Cm

set_option Elab.async false
set_option linter.all false
set_option maxRecDepth 100000
set_option maxHeartbeats 3000000
/-! Common part, 17: rows drawn; rows closed by three loops. -/
namespace Cm
open L2 PySem PySem.Spec PyProof.Rows RZ StX Dbm
theorem sz5lt {n : Nat} (h : n < 100000) : n < sizeLine := by rw [sizeLine_eq]; omega
section
variable {J : It} {n : Nat} {G : Hp → Prop} {Y : Nat → Hp → V → Hp → Prop} {g : TG} {te : TE} {vs : List Nat} {σ : L2.St} {H1 : Hp} {Q : VK}
/-- a comprehension that makes one new list a turn -/
theorem lc_new (w : Walk J n G Y) (hn : n ≤ 100000) (hG : ∀ H', Ex H1 H' → G H') (f : Nat → List V)
    (hs : ∀ i x H2 H3, i < n → Ex H1 H2 → Y i H2 x H3 → ∀ Nt : VK, (∀ r H5, H2 r = none → Ex H2 H5 → H5 r = some (.lst (f i)) → Nt (.ref r) H5) → g x (wipe σ vs) H3 fun σ2 H4 => wipe σ2 vs = wipe σ vs ∧ te σ2 H4 Nt)
    (hd : ∀ D (rs : List Addr) H', H1 D = none → Ex H1 H' → H' D = some (.lst (rs.map V.ref)) → rs.length = n → rs.Nodup → D ∉ rs → (∀ (i : Nat) (r : Addr), rs[i]? = some r → H' r = some (.lst (f i)) ∧ H1 r = none) → Q (.ref D) H') : LcOn J g tYes te vs σ Q H1 := by
  intro D hD
  refine lc_it w (Qd := fun H' => Q (.ref D) H') (fun i H' => Ex H1 H' ∧ ∃ rs : List Addr, H' D = some (.lst (rs.map V.ref)) ∧ rs.length = i ∧ rs.Nodup ∧ D ∉ rs ∧ ∀ (k : Nat) (r : Addr), rs[k]? = some r → H' r = some (.lst (f k)) ∧ H1 r = none)
    ⟨Evl.Ex.new hD, [], upd_same, rfl, List.nodup_nil, by simp, fun k r e => by simp at e⟩ (fun i H' _ p => hG H' p.1) ?_ ?_
  · rintro i x H2 H3 hi ⟨e, rs, h1, h2, h3, h4, h5⟩ hy
    have key := hs i x H2 H3 hi e hy (fun y H4 => ∃ acc, H4 D = some (.lst acc) ∧ acc.length < sizeLine ∧ (Ex H1 (upd H4 D (.lst (acc ++ [y]))) ∧ ∃ rs : List Addr, upd H4 D (.lst (acc ++ [y])) D = some (.lst (rs.map V.ref)) ∧ rs.length = i + 1 ∧ rs.Nodup ∧ D ∉ rs ∧ ∀ (k : Nat) (r : Addr), rs[k]? = some r → upd H4 D (.lst (acc ++ [y])) r = some (.lst (f k)) ∧ H1 r = none)) ?_
    · exact key
    · intro r H5 hr e5 hr5
      have nrD : r ≠ D := Ne.symm (ne_of_none h1 hr)
      have nin : r ∉ rs := fun hm => by
        obtain ⟨k, hk⟩ := List.mem_iff_getElem?.mp hm
        have := (h5 k r hk).1
        rw [hr] at this
        cases this
      refine ⟨_, e5 _ _ h1, sz5lt (by rw [List.length_map]; omega), Evl.Ex.mut (e.trans e5) hD, rs ++ [r], by rw [upd_same, List.map_append]; rfl, by rw [List.length_append, h2]; rfl, ?_, ?_, ?_⟩
      · rw [List.nodup_append]
        refine ⟨h3, by simp, fun a ha b hb => ?_⟩
        obtain rfl := List.mem_singleton.mp hb
        exact fun z => nin (z ▸ ha)
      · simp [h4, Ne.symm nrD]
      · intro k r' hk
        by_cases hk2 : k < rs.length
        · rw [List.getElem?_append_left hk2] at hk
          obtain ⟨q1, q2⟩ := h5 k r' hk
          have n1 : r' ≠ D := fun z => h4 (z ▸ List.mem_of_getElem? hk)
          exact ⟨by rw [upd_ne n1]; exact e5 _ _ q1, q2⟩
        · rw [List.getElem?_append_right (by omega)] at hk
          have hk3 : k = i := by
            have := (List.getElem?_eq_some_iff.mp hk).1
            simp at this
            omega
          subst hk3
          rw [h2, Nat.sub_self] at hk
          cases hk
          exact ⟨by rw [upd_ne nrD]; exact hr5, Evl.fresh_back e hr⟩
  · rintro H' ⟨e, rs, h1, h2, h3, h4, h5⟩
    exact hd D rs H' hD e h1 h2 h3 h4 h5
end
/-! ### a matrix that is written -/
structure MxH (H0 H : Hp) (fa : Addr) (rs : List Addr) (N : Nat) (F : Mx) : Prop where
  at_ : H fa = some (.lst (rs.map V.ref))
  len : rs.length = N
  nd : rs.Nodup
  nf : fa ∉ rs
  row : ∀ (i : Nat) (r : Addr), rs[i]? = some r → H r = some (.lst (rowV N F i))
  new : ∀ (i : Nat) (r : Addr), rs[i]? = some r → H0 r = none
  ex : Ex H0 H
def setM (F : Mx) (i j : Nat) (c : OI) : Mx := fun i' j' => if i' = i ∧ j' = j then c else F i' j'
section
variable {K : Frag} {H0 H H' : Hp} {fa : Addr} {rs : List Addr} {N : Nat} {F : Mx} {Q : VK} {i j : Nat}
theorem MxH.up (m : MxH H0 H fa rs N F) (e : Ex H H') : MxH H0 H' fa rs N F := ⟨e _ _ m.at_, m.len, m.nd, m.nf, fun i r h => e _ _ (m.row i r h), m.new, m.ex.trans e⟩
theorem MxH.get (m : MxH H0 H fa rs N F) (hi : i < N) : ∃ r, rs[i]? = some r := ⟨rs[i]'(by rw [m.len]; exact hi), List.getElem?_eq_getElem _⟩
theorem g_mr (m : MxH H0 H fa rs N F) (hi : i < N) (q : ∀ r, rs[i]? = some r → Q (.ref r) H) : rIx K (.ref fa) (.int i) H Q := by
  obtain ⟨r, hr⟩ := m.get hi
  exact g_ixL (v := .ref r) (Evl.sq_of m.at_) (atI_nat (by rw [List.getElem?_map, hr]; rfl)) (q r hr)
theorem g_mc {r : Addr} (m : MxH H0 H fa rs N F) (hr : rs[i]? = some r) (hj : j < N) (q : Q (cellV (F i j)) H) : rIx K (.ref r) (.int j) H Q := g_cell (Evl.sq_of (m.row i r hr)) hj q
theorem MxH.set {r : Addr} {c : OI} (m : MxH H0 H fa rs N F) (hr : rs[i]? = some r) (hj : j < N) : MxH H0 (upd H r (.lst ((rowV N F i).set j (cellV c)))) fa rs N (setM F i j c) := by
  have nfr : fa ≠ r := fun z => m.nf (z ▸ List.mem_of_getElem? hr)
  refine ⟨by rw [upd_ne nfr]; exact m.at_, m.len, m.nd, m.nf, fun k r' hk => ?_, m.new, Evl.Ex.mut m.ex (m.new i r hr)⟩
  by_cases e : k = i
  · subst e
    rw [hr] at hk
    cases hk
    rw [upd_same]
    congr 2
    refine List.ext_getElem? fun l => ?_
    unfold rowV
    rw [List.getElem?_set, List.getElem?_map, List.getElem?_map]
    by_cases e2 : j = l
    · subst e2
      rw [if_pos rfl, List.getElem?_range hj]
      simp [setM, hj]
    · rw [if_neg e2]
      by_cases hl : l < N
      · rw [List.getElem?_range hl]
        show _ = some (cellV (setM F k j c k l))
        unfold setM
        rw [if_neg (by omega)]
        rfl
      · rw [List.getElem?_eq_none (by rw [List.length_range]; omega)]
        rfl
  · have ne : r' ≠ r := fun z => e (by
      subst z
      obtain ⟨h1, h2⟩ := List.getElem?_eq_some_iff.mp hk
      obtain ⟨h3, h4⟩ := List.getElem?_eq_some_iff.mp hr
      have pw := List.pairwise_iff_getElem.mp m.nd
      rcases Nat.lt_trichotomy k i with h | h | h
      · exact absurd (h2.trans h4.symm) (pw k i h1 h3 h)
      · exact h
      · exact absurd (h4.trans h2.symm) (pw i k h3 h1 h))
    rw [upd_ne ne, m.row k r' hk]
    congr 2
    unfold rowV
    refine List.map_congr_left fun l _ => ?_
    unfold setM
    rw [if_neg (by omega)]
theorem MxH.dp (m : MxH H0 H fa rs N F) : Dp K H (.ref fa) (mxD N F) := by
  refine mx_of m.at_ (by rw [List.length_map, m.len]) fun i y hy => ?_
  rw [List.getElem?_map] at hy
  cases hr : rs[i]? with
  | none => rw [hr] at hy; cases hy
  | some r => rw [hr] at hy; cases hy; exact ⟨r, rfl, m.row i r hr⟩
theorem g_min2 {x y : Int} {a : Addr} (h : H a = some (.lst [.int x, .int y])) (q : Q (.int (if y < x then y else x)) H) : rMin K [.ref a] H Q := by
  refine ⟨a, [x, y], rfl, Evl.sq_of h, by simp, fun m hm hy => ?_⟩
  have h1 := hy x (by simp)
  have h2 := hy y (by simp)
  have e : m = if y < x then y else x := by
    simp at hm
    split <;> omega
  rw [e]
  exact q
end
/-! ### promises -/
def okE (n : Nat) (r : Edge) : Prop := r.1 ≤ n ∧ r.2.1 ≤ n ∧ r.1 ≠ r.2.1
def okR (n : Nat) (r : Edge) : Prop := okE n r ∧ r.2.2 < 10 ^ 30 ∧ -6 < r.2.2
def RowsAt (K : Frag) (H : Hp) (v : V) (R : List Edge) : Prop := ∃ p ys, v = .ref p ∧ H p = some (.lst ys) ∧ DpAll K H ys (R.map trD)
def sp_law_bound_rows (K : Frag) : Sp := fun vs H Q _ => ∃ (b : Addr) (n c : Nat), vs = [.ref b, .int n, .int c] ∧ Bag H b ∧ 1 ≤ n ∧ n ≤ 12 ∧ c ≤ 100 ∧
  ∀ v R H', Ex H H' → (∀ p, v = .ref p → H p = none) → RowsAt K H' v R → R.length = c → (∀ r ∈ R, okR n r) → Q v H'
def sp_law_closed_rows (K : Frag) : Sp := fun vs H Q _ => ∃ (n : Nat) (v : V) (R : List Edge), vs = [.int n, v] ∧ n ≤ 12 ∧ RowsAt K H v R ∧ R.length ≤ 1000 ∧ (∀ r ∈ R, okE n r) ∧ (∀ H', Ex H H' → ¬ Cons (n + 1) (cs R) → Q .non H') ∧
  ∀ v' M H', Ex H H' → Dp K H' v' (mxD (n + 1) M) → IsClo (n + 1) (cs R) M → Q v' H'
def t_law_bound_rows (K : Frag) : TS := (tSeq (tAsg (tLst tNil) (gName 3)) (tSeq (tFor (iRng1 (tCons (tVar 2) tNil)) (gName 4) (tSeq (tAsg (tCall (sp_law_pull K) [] E0 (tCons (tVar 0) (tCons (tOp (xAdd K) (tVar 1) (tC (.int 1))) tNil))) (gName 5)) (tSeq (tAsg (tOp xMod (tCB rInt (tCons (tOp (xAdd K) (tOp (xAdd K) (tVar 5) (tC (.int 1))) (tCall (sp_law_pull K) [] E0 (tCons (tVar 0) (tCons (tVar 1) tNil)))) tNil)) (tOp (xAdd K) (tVar 1) (tC (.int 1)))) (gName 6)) (tDrop (tBM K "list" rAppend (tVar 3) (tCons (tTup (tCons (tVar 5) (tCons (tVar 6) (tCons (tCall (sp_law_pick K) [] E0 (tCons (tVar 0) (tCons (tLst (tCons (tCall (sp_law_pull K) [] E0 (tCons (tVar 0) (tCons (tC (.int 12)) tNil))) (tCons (tOp xSub (tC (.int 0)) (tCall (sp_law_pull K) [] E0 (tCons (tVar 0) (tCons (tC (.int 6)) tNil)))) (tCons (tCall (sp_law_pull K) [] E0 (tCons (tVar 0) (tCons (tOp xPow (tC (.int 10)) (tC (.int 30))) tNil))) tNil)))) tNil))) tNil)))) tNil)))))) (tRet (tVar 3))))
def t_law_closed_rows (K : Frag) : TS := (tSeq (tAsg (tLc (iRng1 (tCons (tOp (xAdd K) (tVar 0) (tC (.int 1))) tNil)) (gName 4) tYes (tLc (iRng1 (tCons (tOp (xAdd K) (tVar 0) (tC (.int 1))) tNil)) (gName 3) tYes (tIf (tOr (tTest (tOp (xEq K) (tVar 4) (tC (.int 0)))) (tTest (tOp (xEq K) (tVar 4) (tVar 3)))) (tC (.int 0)) (tC .non)) [3]) [4]) (gName 2)) (tSeq (tFor (iList K (tVar 1)) (gTup K 3 (gCons (gName 5) (gCons (gName 6) (gCons (gName 7) gNil)))) (tAsg (tIf (tTest (tOp xIsN (tOp (rIx K) (tOp (rIx K) (tVar 2) (tVar 5)) (tVar 6)) (tC .non))) (tVar 7) (tCB (rMin K) (tCons (tLst (tCons (tOp (rIx K) (tOp (rIx K) (tVar 2) (tVar 5)) (tVar 6)) (tCons (tVar 7) tNil))) tNil))) (gSub (tOp (rIx K) (tVar 2) (tVar 5)) (tVar 6) rSetL))) (tSeq (tFor (iRng1 (tCons (tOp (xAdd K) (tVar 0) (tC (.int 1))) tNil)) (gName 8) (tFor (iRng1 (tCons (tOp (xAdd K) (tVar 0) (tC (.int 1))) tNil)) (gName 4) (tFor (iRng1 (tCons (tOp (xAdd K) (tVar 0) (tC (.int 1))) tNil)) (gName 3) (tIfS (tAnd (tTest (tOp xNotN (tOp (rIx K) (tOp (rIx K) (tVar 2) (tVar 4)) (tVar 8)) (tC .non))) (tTest (tOp xNotN (tOp (rIx K) (tOp (rIx K) (tVar 2) (tVar 8)) (tVar 3)) (tC .non)))) (tSeq (tAsg (tOp (xAdd K) (tOp (rIx K) (tOp (rIx K) (tVar 2) (tVar 4)) (tVar 8)) (tOp (rIx K) (tOp (rIx K) (tVar 2) (tVar 8)) (tVar 3))) (gName 9)) (tAsg (tIf (tTest (tOp xIsN (tOp (rIx K) (tOp (rIx K) (tVar 2) (tVar 4)) (tVar 3)) (tC .non))) (tVar 9) (tCB (rMin K) (tCons (tLst (tCons (tOp (rIx K) (tOp (rIx K) (tVar 2) (tVar 4)) (tVar 3)) (tCons (tVar 9) tNil))) tNil))) (gSub (tOp (rIx K) (tVar 2) (tVar 4)) (tVar 3) rSetL))) tNext)))) (tRet (tIf (tTest (tOp xLt (tCB (rMin K) (tCons (tLc (iRng1 (tCons (tOp (xAdd K) (tVar 0) (tC (.int 1))) tNil)) (gName 8) tYes (tOp (rIx K) (tOp (rIx K) (tVar 2) (tVar 8)) (tVar 8)) [8]) tNil)) (tC (.int 0)))) (tC .non) (tVar 2))))))

theorem RowsAt.up {K : Frag} {H H' : Hp} {v : V} {R : List Edge} (e : Ex H H') (h : RowsAt K H v R) : RowsAt K H' v R := let ⟨p, ys, h1, h2, h3⟩ := h; ⟨p, ys, h1, e _ _ h2, trs_up e h3⟩
theorem pure_law_bound_rows {K : Frag} (vs : List V) (H : Hp) (Q : VK) (E : XK) (h : sp_law_bound_rows K vs H Q E) : t_law_bound_rows K ⟨fun _ H' => Q .non H', Q, fun _ _ => False, fun _ _ => False⟩ (start ["bag", "size", "count", "found", "k", "a", "b"] vs) H := by
  obtain ⟨b, n, c, rfl, hB, n1, n2, hc, q⟩ := h
  show tSeq _ _ _ [some (.ref b), some (.int n), some (.int c), none, none, none, none] H
  walk_at "run"
  refine g_newL fun fd H1 hfd e1 h1 => ?_
  walk_at "run"
  refine g_rng (by omega) (by omega) ?_
  rw [show ((c : Int)).toNat = c by omega]
  refine for_on walk_range (fun i σ H' => (∃ x4 x5 x6 : Option V, σ = [some (.ref b), some (.int n), some (.int c), some (.ref fd), x4, x5, x6]) ∧ Ex H H' ∧ ∃ ys R, H' fd = some (.lst ys) ∧ DpAll K H' ys (R.map trD) ∧ R.length = i ∧ ∀ r ∈ R, okR n r)
    ⟨⟨_, _, _, rfl⟩, e1, [], [], h1, .nil, rfl, fun r h => by cases h⟩ (fun _ _ _ _ _ => trivial) ?_ ?_
  · rintro i x σ H2 H3 hi ⟨⟨x4, x5, x6, rfl⟩, e2, ys, R, hy, hd, hl, hR⟩ ⟨rfl, rfl⟩
    have hB2 := Bag.ex e2 hB
    walk_at "run"
    refine pull_n hB2 (by omega) (by omega) fun a a0 a1 => ?_
    walk_at "run"
    refine pull_n hB2 (by omega) (by omega) fun d d0 d1 => ?_
    walk_at "run"
    refine g_mod (by omega) ?_
    have hb : 0 ≤ (a + 1 + d) % ((n : Int) + 1) ∧ (a + 1 + d) % ((n : Int) + 1) < (n : Int) + 1 ∧ (a + 1 + d) % ((n : Int) + 1) ≠ a := by
      refine ⟨Int.emod_nonneg _ (by omega), Int.emod_lt_of_pos _ (by omega), ?_⟩
      by_cases h : a + 1 + d < (n : Int) + 1
      · rw [Int.emod_eq_of_lt (by omega) h]; omega
      · have e : (a + 1 + d) % ((n : Int) + 1) = a + d - n := by
          have h2 : a + 1 + d = (a + d - n) + ((n : Int) + 1) := by omega
          rw [h2, Int.add_emod_right, Int.emod_eq_of_lt (by omega) (by omega)]
        rw [e]; omega
    generalize (a + 1 + d) % ((n : Int) + 1) = e at hb
    obtain ⟨a', rfl⟩ := Int.eq_ofNat_of_zero_le a0
    obtain ⟨e', rfl⟩ := Int.eq_ofNat_of_zero_le hb.1
    walk_at "run"
    refine ⟨Or.inl ⟨rfl, _, Evl.sq_of hy⟩, ?_⟩
    walk_at "run"
    refine pull_n hB2 (by omega) (by omega) fun z1 _ z2 => ?_
    walk_at "run"
    refine pull_n hB2 (by omega) (by omega) fun z3 _ z4 => ?_
    walk_at "run"
    refine g_pow ⟨by decide, by decide, by decide⟩ ?_
    walk_at "run"
    refine ⟨b, _, rfl, hB2, by decide +kernel, by decide +kernel, fun z5 _ z6 => ?_⟩
    walk_at "run"
    refine g_newL fun p1 H4 _ e4 h4 => ?_
    walk_at "run"
    refine pick_ints (Bag.ex e4 hB2) h4 (by simp) (by simp) fun w hw => ?_
    obtain ⟨z, rfl, hz⟩ : ∃ z : Int, w = .int z ∧ z < 10 ^ 30 ∧ -6 < z := by
      have e30 : ((10 : Int) ^ (30 : Int).toNat) = 10 ^ 30 := rfl
      rw [e30] at z6
      simp only [List.mem_cons, List.not_mem_nil, or_false] at hw
      rcases hw with rfl | rfl | rfl
      · exact ⟨_, rfl, by omega, by omega⟩
      · exact ⟨_, rfl, by omega, by omega⟩
      · exact ⟨_, rfl, z6, by omega⟩
    clear hw h4
    walk_at "run"
    refine g_newT fun T H5 _ e5 h5 => ?_
    walk_at "run"
    have hy5 := (e4.trans e5) _ _ hy
    have l3 := dpa_len hd
    rw [List.length_map] at l3
    refine g_append hy5 (sz5lt (by omega)) ?_
    refine ⟨⟨_, _, _, rfl⟩, Evl.Ex.mut ((e2.trans e4).trans e5) hfd, _, R ++ [(a', e', z)], upd_same, ?_, by rw [List.length_append, hl]; rfl, fun r hr => ?_⟩
    · rw [List.map_append]
      refine dpa_app (trs_exl hy5 ExB.upd (trs_up (e4.trans e5) hd)) (.cons ?_ .nil)
      exact tr_exl hy5 ExB.upd (tr_mk (r := (a', e', z)) (Evl.st_of h5))
    · rcases List.mem_append.mp hr with hr | hr
      · exact hR r hr
      · obtain rfl := List.mem_singleton.mp hr
        exact ⟨⟨by show a' ≤ n; omega, by show e' ≤ n; omega, by show a' ≠ e'; omega⟩, hz⟩
  · rintro σ' H2 ⟨⟨x4, x5, x6, rfl⟩, e2, ys, R, hy, hd, hl, hR⟩
    walk_at "run"
    exact q _ R H2 e2 (fun p h => by cases h; exact hfd) ⟨fd, ys, rfl, hy, hd⟩ hl hR
end Cm

set_option Elab.async false
set_option linter.all false
set_option maxRecDepth 100000
set_option maxHeartbeats 3000000
/-! Common part, 18: rows closed by three loops. -/
namespace Cm
open L2 PySem PySem.Spec PyProof.Rows RZ StX Dbm
theorem insAll_succ {F : Mx} {R : List Edge} {i : Nat} {r : Edge} (h : R[i]? = some r) : insAll F (R.take (i + 1)) = setM (insAll F (R.take i)) r.1 r.2.1 (omin (insAll F (R.take i) r.1 r.2.1) (some r.2.2)) := by
  have e : R.take (i + 1) = R.take i ++ [r] := by rw [List.take_add_one, h]; rfl
  rw [e]
  unfold insAll
  rw [List.foldl_append]
  rfl
theorem upd1_set (F : Mx) (k i j : Nat) : upd1 F k i j = setM F i j (omin (F i j) (oadd (F i k) (F k j))) := rfl
theorem upd1_same {F : Mx} {k i j : Nat} (h : oadd (F i k) (F k j) = none) : upd1 F k i j = F := by
  funext i' j'
  unfold upd1
  split
  · rename_i e
    obtain ⟨rfl, rfl⟩ := e
    unfold Dbm.st
    rw [h]
    cases F i' j' <;> rfl
  · rfl
theorem pure_law_closed_rows {K : Frag} (vs : List V) (H : Hp) (Q : VK) (E : XK) (h : sp_law_closed_rows K vs H Q E) : t_law_closed_rows K ⟨fun _ H' => Q .non H', Q, fun _ _ => False, fun _ _ => False⟩ (start ["size", "rows", "far", "j", "i", "a", "b", "number", "k", "by"] vs) H := by
  obtain ⟨n, v, R, rfl, hn, ⟨p, ys, rfl, hp, hd⟩, hl, hR, qn, qs⟩ := h
  show tSeq _ _ _ [some (.int n), some (.ref p), none, none, none, none, none, none, none, none] H
  walk_at "run"
  refine g_rng (by omega) (by omega) ?_
  have eN : ((n : Int) + 1).toNat = n + 1 := by omega
  rw [eN]
  refine lc_new walk_range (by omega) (fun _ _ => trivial) (fun i => rowV (n + 1) free i) ?_ ?_
  · rintro i x H2 H3 hi e2 ⟨rfl, rfl⟩ Nt hN
    walk_at "run"
    refine ⟨rfl, ?_⟩
    walk_at "run"
    refine g_rng (by omega) (by omega) ?_
    rw [eN]
    refine lc_map walk_range (by omega) (fun _ _ => trivial) (fun j => cellV (free i j)) ?_ ?_
    · rintro j x H4 H5 hj e4 ⟨rfl, rfl⟩ Nt2 hN2
      walk_at "run"
      refine ⟨rfl, ?_⟩
      walk_at "run"
      have e := hN2 _ (Evl.Ex.refl _)
      refine g_iteB (fun h1 => ?_) (fun h1 => ?_)
      · walk_at "run"
        refine g_iteB (fun _ => ?_) (fun h => by cases h)
        walk_at "run"
        simp at h1
        have ef : free i j = some 0 := by unfold free; rw [if_pos (by omega)]
        rw [ef] at e
        exact e
      · walk_at "run"
        simp at h1
        refine g_iteB (fun h2 => ?_) (fun h2 => ?_)
        · walk_at "run"
          simp at h2
          have ef : free i j = some 0 := by unfold free; rw [if_pos (by omega)]
          rw [ef] at e
          exact e
        · walk_at "run"
          simp at h2
          have ef : free i j = none := by unfold free; rw [if_neg (by omega)]
          rw [ef] at e
          exact e
    · intro D2 H6 hD2 e6 h6
      exact hN _ _ hD2 e6 h6
  · intro fa rs H1 hfa e1 h1 hrl hnd hnf hr
    have m0 : MxH H H1 fa rs (n + 1) (insAll free (R.take 0)) := ⟨h1, hrl, hnd, hnf, fun i r h => (hr i r h).1, fun i r h => (hr i r h).2, e1⟩
    walk_at "run"
    refine g_onL (Evl.sq_of (e1 _ _ hp)) ?_
    refine for_on walk_list (fun i σ H' => (∃ x5 x6 x7 : Option V, σ = [some (.int n), some (.ref p), some (.ref fa), none, none, x5, x6, x7, none, none]) ∧ MxH H H' fa rs (n + 1) (insAll free (R.take i))) ⟨⟨_, _, _, rfl⟩, m0⟩ (fun _ _ H' _ q => Evl.sq_of (q.2.ex _ _ hp)) ?_ ?_
    · rintro i x σ H2 H3 hi ⟨⟨x5, x6, x7, rfl⟩, m⟩ ⟨rfl, hx⟩
      obtain ⟨r, hr2, hdr⟩ := row_of hd hx
      obtain ⟨T, rfl, hT⟩ := tr_open (Cm.up m.ex hdr)
      obtain ⟨ra, rb, rne⟩ := hR r (List.mem_of_getElem? hr2)
      refine g_trip hT ?_
      have fin : ∀ (r1 : Addr) (c : Int) (H4 : Hp), rs[r.1]? = some r1 → MxH H H4 fa rs (n + 1) (insAll free (R.take i)) → omin (insAll free (R.take i) r.1 r.2.1) (some r.2.2) = some c → MxH H (upd H4 r1 (.lst ((rowV (n + 1) (insAll free (R.take i)) r.1).set r.2.1 (.int c)))) fa rs (n + 1) (insAll free (R.take (i + 1))) := fun r1 c H4 h1 m4 e => by
        rw [insAll_succ hr2, e]
        exact m4.set (c := some c) h1 (by omega)
      generalize hF : insAll free (R.take i) = F at m fin
      walk_at "run"
      refine g_mr m (by omega) fun r1 hr1 => ?_
      walk_at "run"
      refine g_mc m hr1 (by omega) ?_
      walk_at "run"
      cases hc : F r.1 r.2.1 with
      | none =>
        refine g_iteB (fun _ => ?_) (fun h => by simp [cellV] at h)
        walk_at "run"
        refine g_mr m (by omega) fun r2 hr2' => ?_
        walk_at "run"
        refine g_setL (m.row _ _ hr2') (by rw [row_len]; exact ixN_nat (by omega)) ?_
        exact ⟨⟨_, _, _, rfl⟩, fin r2 _ _ hr2' m (by rw [hc]; rfl)⟩
      | some c =>
        refine g_iteB (fun h => by simp [cellV] at h) (fun _ => ?_)
        walk_at "run"
        refine g_mr m (by omega) fun r2 hr2' => ?_
        walk_at "run"
        refine g_mc m hr2' (by omega) ?_
        walk_at "run"
        rw [hc]
        refine g_newL fun q1 H4 _ e4 h4 => ?_
        walk_at "run"
        refine g_min2 h4 ?_
        have m4 := m.up e4
        walk_at "run"
        refine g_mr m4 (by omega) fun r3 hr3 => ?_
        walk_at "run"
        refine g_setL (m4.row _ _ hr3) (by rw [row_len]; exact ixN_nat (by omega)) ?_
        exact ⟨⟨_, _, _, rfl⟩, fin r3 _ _ hr3 m4 (by rw [hc]; rfl)⟩
    · rintro σ' H2 ⟨⟨x5, x6, x7, rfl⟩, m⟩
      have hlen : ys.length = R.length := by rw [dpa_len hd, List.length_map]
      rw [hlen, List.take_length] at m
      walk_at "run"
      refine g_rng (by omega) (by omega) ?_
      rw [eN]
      refine for_on walk_range (fun k σ H' => (∃ x3 x4 x8 x9 : Option V, σ = [some (.int n), some (.ref p), some (.ref fa), x3, x4, x5, x6, x7, x8, x9]) ∧ MxH H H' fa rs (n + 1) (fwK (n + 1) (insAll free R) k)) ⟨⟨_, _, _, _, rfl⟩, m⟩ (fun _ _ _ _ _ => trivial) ?_ ?_
      · rintro k x σ H3 H4 hk ⟨⟨x3, x4, x8, x9, rfl⟩, m⟩ ⟨rfl, rfl⟩
        walk_at "run"
        refine g_rng (by omega) (by omega) ?_
        rw [eN]
        refine for_on walk_range (fun i σ H' => (∃ x3 x4 x9 : Option V, σ = [some (.int n), some (.ref p), some (.ref fa), x3, x4, x5, x6, x7, some (.int (0 + (k : Int))), x9]) ∧ MxH H H' fa rs (n + 1) (fwI (n + 1) (fwK (n + 1) (insAll free R) k) k i)) ⟨⟨_, _, _, rfl⟩, m⟩ (fun _ _ _ _ _ => trivial) ?_ ?_
        · rintro i x σ H5 H6 hi ⟨⟨x3, x4, x9, rfl⟩, m⟩ ⟨rfl, rfl⟩
          walk_at "run"
          refine g_rng (by omega) (by omega) ?_
          rw [eN]
          refine for_on walk_range (fun j σ H' => (∃ x3 x9 : Option V, σ = [some (.int n), some (.ref p), some (.ref fa), x3, some (.int (0 + (i : Int))), x5, x6, x7, some (.int (0 + (k : Int))), x9]) ∧ MxH H H' fa rs (n + 1) (fwJ (fwI (n + 1) (fwK (n + 1) (insAll free R) k) k i) k i j)) ⟨⟨_, _, rfl⟩, m⟩ (fun _ _ _ _ _ => trivial) ?_ ?_
          · rintro j x σ H7 H8 hj ⟨⟨x3, x9, rfl⟩, m⟩ ⟨rfl, rfl⟩
            show gName 3 _ _ _ fun σ2 H2 => tIfS _ _ _ { nx := fun σ H' => _ ∧ MxH H H' fa rs (n + 1) (upd1 (fwJ (fwI (n + 1) (fwK (n + 1) (insAll free R) k) k i) k i j) k i j), rt := _, bk := _, ct := _ } σ2 H2
            generalize fwJ (fwI (n + 1) (fwK (n + 1) (insAll free R) k) k i) k i j = F at m
            simp only [Int.zero_add]
            walk_at "run"
            refine g_mr m hi fun r1 hr1 => ?_
            walk_at "run"
            refine g_mc m hr1 hk ?_
            walk_at "run"
            cases h1 : F i k with
            | none =>
              refine g_iteB (fun h => by simp [cellV] at h) (fun _ => ?_)
              walk_at "run"
              refine g_iteB (fun h => by cases h) (fun _ => ?_)
              walk_at "run"
              exact ⟨⟨_, _, rfl⟩, by rw [upd1_same (by rw [h1]; rfl)]; exact m⟩
            | some c1 =>
              refine g_iteB (fun _ => ?_) (fun h => by simp [cellV] at h)
              walk_at "run"
              refine g_mr m hk fun r2 hr2 => ?_
              walk_at "run"
              refine g_mc m hr2 hj ?_
              walk_at "run"
              cases h2 : F k j with
              | none =>
                refine g_iteB (fun h => by simp [cellV] at h) (fun _ => ?_)
                walk_at "run"
                exact ⟨⟨_, _, rfl⟩, by rw [upd1_same (by rw [h1, h2]; rfl)]; exact m⟩
              | some c2 =>
                refine g_iteB (fun _ => ?_) (fun h => by simp [cellV] at h)
                walk_at "run"
                refine g_mr m hi fun r3 hr3 => ?_
                walk_at "run"
                refine g_mc m hr3 hk ?_
                walk_at "run"
                refine g_mr m hk fun r4 hr4 => ?_
                walk_at "run"
                refine g_mc m hr4 hj ?_
                rw [h1, h2]
                refine g_add ?_
                walk_at "run"
                refine g_mr m hi fun r5 hr5 => ?_
                walk_at "run"
                refine g_mc m hr5 hj ?_
                walk_at "run"
                have fin : ∀ (r1 : Addr) (c : Int) (H4 : Hp), rs[i]? = some r1 → MxH H H4 fa rs (n + 1) F → omin (F i j) (some (c1 + c2)) = some c → MxH H (upd H4 r1 (.lst ((rowV (n + 1) F i).set j (.int c)))) fa rs (n + 1) (upd1 F k i j) := fun r1 c H4 q1 m4 e => by
                  rw [upd1_set, h1, h2]
                  show MxH _ _ _ _ _ (setM F i j (omin (F i j) (some (c1 + c2))))
                  rw [e]
                  exact m4.set (c := some c) q1 hj
                cases h3 : F i j with
                | none =>
                  refine g_iteB (fun _ => ?_) (fun h => by simp [cellV] at h)
                  walk_at "run"
                  refine g_mr m hi fun r6 hr6 => ?_
                  walk_at "run"
                  refine g_setL (m.row _ _ hr6) (by rw [row_len]; exact ixN_nat hj) ?_
                  exact ⟨⟨_, _, rfl⟩, fin r6 _ _ hr6 m (by rw [h3]; rfl)⟩
                | some c3 =>
                  refine g_iteB (fun h => by simp [cellV] at h) (fun _ => ?_)
                  walk_at "run"
                  refine g_mr m hi fun r6 hr6 => ?_
                  walk_at "run"
                  refine g_mc m hr6 hj ?_
                  walk_at "run"
                  rw [h3]
                  refine g_newL fun q1 H4 _ e4 h4 => ?_
                  walk_at "run"
                  refine g_min2 h4 ?_
                  have m4 := m.up e4
                  walk_at "run"
                  refine g_mr m4 hi fun r7 hr7 => ?_
                  walk_at "run"
                  refine g_setL (m4.row _ _ hr7) (by rw [row_len]; exact ixN_nat hj) ?_
                  exact ⟨⟨_, _, rfl⟩, fin r7 _ _ hr7 m4 (by rw [h3]; rfl)⟩
          · rintro σ' H7 ⟨⟨x3, x9, rfl⟩, m⟩
            exact ⟨⟨_, _, _, rfl⟩, m⟩
        · rintro σ' H5 ⟨⟨x3, x4, x9, rfl⟩, m⟩
          exact ⟨⟨_, _, _, _, rfl⟩, m⟩
      · rintro σ' H3 ⟨⟨x3, x4, x8, x9, rfl⟩, m⟩
        change MxH H H3 fa rs (n + 1) (closing (n + 1) R) at m
        have hdg : ∀ r ∈ R, r.1 ≠ r.2.1 := fun r hr => (hR r hr).2.2
        have some_ : ∀ i, i < n + 1 → ∃ c, closing (n + 1) R i i = some c ∧ c ≤ 0 := fun i hi => by
          have := closing_le (n + 1) R (i := i) hdg
          cases hc : closing (n + 1) R i i with
          | none => rw [hc] at this; simp [ole] at this
          | some c => rw [hc] at this; exact ⟨c, rfl, by simpa [ole] using this⟩
        walk_at "run"
        refine g_rng (by omega) (by omega) ?_
        rw [eN]
        refine lc_map walk_range (by omega) (fun _ _ => trivial) (fun i => .int ((closing (n + 1) R i i).getD 0)) ?_ ?_
        · rintro i x H4 H5 hi e4 ⟨rfl, rfl⟩ Nt hN
          walk_at "run"
          refine ⟨rfl, ?_⟩
          simp only [Int.zero_add]
          walk_at "run"
          refine g_mr (m.up e4) hi fun r1 hr1 => ?_
          walk_at "run"
          refine g_mc (m.up e4) hr1 hi ?_
          have e := hN _ (Evl.Ex.refl _)
          obtain ⟨c, hc, _⟩ := some_ i hi
          rw [hc] at e ⊢
          exact e
        · intro D H4 hD e4 h4
          walk_at "run"
          refine ⟨D, (List.range (n + 1)).map fun i => (closing (n + 1) R i i).getD 0, rfl, Evl.sq_of (by rw [h4, List.map_map]; rfl), by simp, fun mm hm hmin => ?_⟩
          walk_at "run"
          refine g_iteB (fun h => ?_) (fun h => ?_)
          · walk_at "run"
            simp at h
            obtain ⟨i, hi, e⟩ := List.mem_map.mp hm
            rw [List.mem_range] at hi
            obtain ⟨c, hc, _⟩ := some_ i hi
            rw [hc] at e
            simp at e
            exact qn _ (m.ex.trans e4) (closing_no hi hc (by omega))
          · walk_at "run"
            simp at h
            refine qs _ (closing (n + 1) R) _ (m.ex.trans e4) (Cm.up e4 m.dp) (closing_clo hdg fun i hi => ?_)
            obtain ⟨c, hc, hc0⟩ := some_ i hi
            have := hmin _ (List.mem_map.mpr ⟨i, List.mem_range.mpr hi, rfl⟩)
            rw [hc] at this ⊢
            simp at this
            congr 1
            omega
end Cm

set_option Elab.async false
set_option linter.all false
set_option maxRecDepth 100000
set_option maxHeartbeats 3000000
/-! Common part, 19: Bounds made of rows; rows that agree. -/
namespace Cm
open L2 PySem PySem.Spec PyProof.Rows RZ StX Dbm
def sp_law_made_bounds (K : Frag) : Sp := fun vs H Q _ => ∃ (n : Nat) (v : V) (R : List Edge), vs = [.int n, v] ∧ 1 ≤ n ∧ n ≤ 12 ∧ RowsAt K H v R ∧ R.length ≤ 500 ∧ (∀ r ∈ R, okE n r) ∧ Cons (n + 1) (cs R) ∧ ∀ v' H', Ex H H' → BdAt K H' v' n (cs R) → Q v' H'
def sp_law_good_rows (K : Frag) : Sp := fun vs H Q _ => ∃ (b : Addr) (n c : Nat), vs = [.ref b, .int n, .int c] ∧ Bag H b ∧ 1 ≤ n ∧ n ≤ 12 ∧ c ≤ 99 ∧ ∀ v R H', Ex H H' → RowsAt K H' v R → R.length ≤ c → (∀ r ∈ R, okR n r) → Cons (n + 1) (cs R) → Q v H'
def t_law_made_bounds (K : Frag) : TS := (tSeq (tAsg (tMakeR (He.ga K "Bounds") (starSp 2 (sp_Bounds_init K)) E0 (tCons (tVar 0) tNil)) (gName 2)) (Evl.tCut (tIfS (tTest (tOp xGt (tCB (rLn K) (tCons (tVar 1) tNil)) (tC (.int 2)))) (tAsg (tMakeR (He.ga K "Bounds") (starSp 2 (sp_Bounds_init K)) E0 (tCons (tVar 0) (tCons (tOp (rIx K) (tVar 1) (tC (.int 0))) (tCons (tOp (rIx K) (tVar 1) (tC (.int 1))) (tCons (tOp (rIx K) (tVar 1) (tC (.int 2))) tNil))))) (gName 2)) (tIfS (tTest (tOp xGt (tCB (rLn K) (tCons (tVar 1) tNil)) (tC (.int 0)))) (tAsg (tMakeR (He.ga K "Bounds") (starSp 2 (sp_Bounds_init K)) E0 (tCons (tVar 0) (tCons (tOp (rIx K) (tVar 1) (tC (.int 0))) (tCons (tOp (rIx K) (tVar 1) (tUn (rU fun i => .int (-i)) (tC (.int 1)))) tNil)))) (gName 2)) tNext)) (tSeq (tFor (iList K (tSl (xSl K) (tVar 1) (tPart (tC (.int 3))) tNoPart)) (gName 3) (tAsg (tIf (tTest (tOp xIsN (tVar 2) (tC .non))) (tC .non) (tMeth (He.ga K "Bounds") "with_row" (sp_Bounds_with_row K) [] E0 (tVar 2) (tCons (tOp (rIx K) (tVar 3) (tC (.int 0))) (tCons (tOp (rIx K) (tVar 3) (tC (.int 1))) (tCons (tOp (rIx K) (tVar 3) (tC (.int 2))) tNil))))) (gName 2))) (tRet (tVar 2)))))
def t_law_good_rows (K : Frag) : TS := (tSeq (tAsg (tLst tNil) (gName 3)) (tSeq (tFor (iList K (tCall (sp_law_bound_rows K) [] E0 (tCons (tVar 0) (tCons (tVar 1) (tCons (tCall (sp_law_pull K) [] E0 (tCons (tVar 0) (tCons (tOp (xAdd K) (tVar 2) (tC (.int 1))) tNil))) tNil))))) (gName 4) (tIfS (tTest (tOp xNotN (tCall (sp_law_closed_rows K) [] E0 (tCons (tVar 1) (tCons (tOp (xAdd K) (tVar 3) (tLst (tCons (tVar 4) tNil))) tNil))) (tC .non))) (tDrop (tBM K "list" rAppend (tVar 3) (tCons (tVar 4) tNil))) tNext)) (tRet (tVar 3))))

section
variable {K : Frag} {H : Hp} {Q : VK}
theorem cut_drop (xs : List V) (k : Nat) : cutV xs (some (k : Int)) none = xs.drop k := by
  unfold cutV
  rw [HT.sIx_nat, HT.sIx_none]
  by_cases h : k ≤ xs.length
  · rw [Nat.min_eq_left h]
    refine List.take_of_length_le ?_
    rw [List.length_drop]
    omega
  · rw [Nat.min_eq_right (by omega), List.drop_of_length_le (Nat.le_refl _), List.drop_of_length_le (by omega), List.take_nil]
theorem dpa_drop : ∀ {vs : List V} {ds : List PyData} (k : Nat), DpAll K H vs ds → DpAll K H (vs.drop k) (ds.drop k)
  | _, _, 0, h => h
  | _, _, k + 1, .nil => .nil
  | _, _, k + 1, .cons _ t => dpa_drop k t
/-- a Bounds made of some rows -/
theorem make_bd {n : Nat} {rest : List V} {R : List Edge} (h1 : 1 ≤ n) (h2 : n ≤ 12) (hd : DpAll K H rest (R.map trD)) (hl : R.length ≤ 1000) (hR : ∀ r ∈ R, okE n r) (hC : Cons (n + 1) (cs R)) (q : ∀ v H', Ex H H' → BdAt K H' v n (cs R) → Q v H') :
    MkOn (CB K) (starSp 2 (sp_Bounds_init K)) E0 Q (.int n :: rest) H := by
  intro x dx hx hdx hne
  have e1 : Ex H (upd (upd H dx (.own x)) x (.ins (CB K) dx [])) := Evl.Ex.mut (Evl.Ex.new hdx) hx
  have hrl : rest.length = R.length := by rw [dpa_len hd, List.length_map]
  refine ⟨[.ref x, .int n], rest, rfl, rfl, sz5 (by omega), fun p hp => ?_⟩
  have hpx : p ≠ x := fun z => by rw [z, upd_same] at hp; cases hp
  have e3 := e1.trans (Evl.Ex.new (o := .tup rest) hp)
  refine ⟨x, dx, n, p, rest, R, rfl, ?_, h1, h2, Evl.st_of upd_same, trs_up e3 hd, hl, hR, hC, fun H' far M e2 h hM hc => ?_⟩
  · rw [upd_ne (Ne.symm hpx), upd_same]
  · exact ⟨rfl, q _ _ (ExB.ex (D := x) (ExB.trans (ExB.of e3) e2) hx) ⟨⟨far, M, ⟨x, dx, rfl, h⟩, hM, hc⟩, h1, h2⟩⟩
theorem BdAt.swap {v : V} {n : Nat} {S T : Cs} (h : BdAt K H v n S) (e : ∀ a b w, S a b w ↔ T a b w) : BdAt K H v n T := by
  obtain ⟨⟨far, M, h1, h2, h3⟩, lo, hi⟩ := h
  exact ⟨⟨far, M, h1, h2, h3.swap (Md.iff e)⟩, lo, hi⟩
theorem BdAt.swapM {v : V} {n : Nat} {S T : Cs} (h : BdAt K H v n S) (e : ∀ X, Md (n + 1) S X ↔ Md (n + 1) T X) : BdAt K H v n T := by
  obtain ⟨⟨far, M, h1, h2, h3⟩, lo, hi⟩ := h
  exact ⟨⟨far, M, h1, h2, h3.swap e⟩, lo, hi⟩
end
theorem pure_law_made_bounds {K : Frag} (vs : List V) (H : Hp) (Q : VK) (E : XK) (h : sp_law_made_bounds K vs H Q E) : t_law_made_bounds K ⟨fun _ H' => Q .non H', Q, fun _ _ => False, fun _ _ => False⟩ (start ["size", "rows", "found", "row"] vs) H := by
  obtain ⟨n, v, R, rfl, h1, h2, ⟨p, ys, rfl, hp, hd⟩, hl, hR, hC, q⟩ := h
  have hlen : ys.length = R.length := by rw [dpa_len hd, List.length_map]
  show tSeq _ _ _ [some (.int n), some (.ref p), none, none] H
  walk_at "run"
  refine make_bd (R := []) h1 h2 .nil (by simp) (fun r h => by cases h) (Cons.mono (fun a b w h => ?_) hC) fun v0 H1 e1 hb0 => ?_
  · rcases h with h | h
    · exact Or.inl h
    · cases h
  walk_at "run"
  refine ⟨fun σ' H' => (∃ v, σ' = [some (.int n), some (.ref p), some v, none] ∧ BdAt K H' v n (uni none0 (mem (R.take 3)))) ∧ Ex H H', ?_, ?_⟩
  · walk_at "run"
    refine g_lenL (Evl.sq_of (e1 _ _ hp)) ?_
    walk_at "run"
    refine g_iteB (fun h => ?_) (fun h => ?_)
    · simp at h
      have h3 : 3 ≤ R.length := by omega
      obtain ⟨r0, r1, r2, R', rfl⟩ : ∃ r0 r1 r2 R', R = r0 :: r1 :: r2 :: R' := by
        rcases R with _ | ⟨a, _ | ⟨b, _ | ⟨c, r⟩⟩⟩ <;> first | exact ⟨_, _, _, _, rfl⟩ | (simp at h3)
      cases hd with
      | @cons y0 _ _ _ d0 hd =>
        cases hd with
        | @cons y1 _ _ _ d1 hd =>
          cases hd with
          | @cons y2 ys' _ _ d2 hd =>
            walk_at "run"
            refine g_ixL (v := y0) (Evl.sq_of (e1 _ _ hp)) (atI_nat (j := 0) rfl) ?_
            walk_at "run"
            refine g_ixL (v := y1) (Evl.sq_of (e1 _ _ hp)) (atI_nat (j := 1) rfl) ?_
            walk_at "run"
            refine g_ixL (v := y2) (Evl.sq_of (e1 _ _ hp)) (atI_nat (j := 2) rfl) ?_
            walk_at "run"
            refine make_bd (R := [r0, r1, r2]) h1 h2 (trs_up e1 (.cons d0 (.cons d1 (.cons d2 .nil)))) (by simp) (fun r h => hR r ?_) (Cons.mono (fun a b w h => ?_) hC) fun v2 H2 e2 hb2 => ?_
            · simp at h ⊢
              rcases h with h | h | h <;> simp [h]
            · rcases h with h | h
              · exact Or.inl h
              · refine Or.inr ?_
                simp at h ⊢
                rcases h with h | h | h <;> simp [h]
            · walk_at "run"
              exact ⟨⟨_, rfl, hb2⟩, e1.trans e2⟩
    · simp at h
      walk_at "run"
      refine g_lenL (Evl.sq_of (e1 _ _ hp)) ?_
      walk_at "run"
      refine g_iteB (fun h4 => ?_) (fun h4 => ?_)
      · simp at h4
        obtain ⟨y0, yl, r0, rl, a0, al, d0, dl, hm, ht⟩ : ∃ (y0 yl : V) (r0 rl : Edge), atI ys 0 = some y0 ∧ atI ys (-1) = some yl ∧ Dp K H y0 (trD r0) ∧ Dp K H yl (trD rl) ∧ (∀ r, r ∈ [r0, rl] ↔ r ∈ R) ∧ R.take 3 = R := by
          rcases R with _ | ⟨r0, _ | ⟨r1, R'⟩⟩
          · rw [hlen] at h4; exact absurd h4 (by simp)
          · cases hd with
            | @cons y0 _ _ _ d0 hd =>
              cases hd
              exact ⟨y0, y0, r0, r0, atI_nat (j := 0) rfl, rfl, d0, d0, fun r => by simp, rfl⟩
          · cases hd with
            | @cons y0 _ _ _ d0 hd =>
              cases hd with
              | @cons y1 _ _ _ d1 hd =>
                have hR0 : R' = [] := by
                  rw [hlen] at h
                  simp only [List.length_cons] at h
                  exact List.length_eq_zero_iff.mp (by omega)
                subst hR0
                cases hd
                exact ⟨y0, y1, r0, r1, atI_nat (j := 0) rfl, rfl, d0, d1, fun r => by simp, rfl⟩
        walk_at "run"
        refine g_ixL (v := y0) (Evl.sq_of (e1 _ _ hp)) a0 ?_
        walk_at "run"
        refine g_ixL (v := yl) (Evl.sq_of (e1 _ _ hp)) al ?_
        walk_at "run"
        refine make_bd (R := [r0, rl]) h1 h2 (trs_up e1 (.cons d0 (.cons dl .nil))) (by simp) (fun r h => hR r ((hm r).mp h)) (Cons.mono (fun a b w h => ?_) hC) fun v2 H2 e2 hb2 => ?_
        · rcases h with h | h
          · exact Or.inl h
          · exact Or.inr ((hm _).mp h)
        · walk_at "run"
          refine ⟨⟨_, rfl, hb2.swap fun a b w => ?_⟩, e1.trans e2⟩
          rw [ht]
          unfold cs uni mem
          rw [hm]
      · simp at h4
        walk_at "run"
        refine ⟨⟨_, rfl, hb0.swap fun a b w => ?_⟩, e1⟩
        have hR0 : R = [] := List.length_eq_zero_iff.mp (by rw [← hlen]; first | exact congrArg List.length h4 | omega)
        subst hR0
        rfl
  · rintro σ' H2 ⟨⟨v2, rfl, hb2⟩, e2⟩
    walk_at "run"
    refine g_slL (Evl.sq_of (e2 _ _ hp)) fun p3 H3 _ e3 h3 => ?_
    rw [show cutV ys (some 3) none = ys.drop 3 from cut_drop ys 3] at h3
    have hd3 := dpa_drop 3 hd
    rw [← List.map_drop] at hd3
    refine g_onL (Evl.sq_of h3) ?_
    refine for_on walk_list (fun i σ H' => (∃ v x3, σ = [some (.int n), some (.ref p), some v, x3] ∧ BdAt K H' v n (uni none0 (mem (R.take (3 + i))))) ∧ Ex H3 H') ⟨⟨_, _, rfl, hb2.up e3⟩, Evl.Ex.refl _⟩ (fun _ _ H' _ p => Evl.sq_of (p.2 _ _ h3)) ?_ ?_
    · rintro i x σ H4 H5 hi ⟨⟨v4, x3, rfl, hb4⟩, e4⟩ ⟨rfl, hx⟩
      obtain ⟨r, hr, hdr⟩ := row_of hd3 hx
      rw [List.getElem?_drop] at hr
      have e04 := (e2.trans e3).trans e4
      obtain ⟨T, rfl, hT⟩ := tr_open (up e04 hdr)
      have ok := hR r (List.mem_of_getElem? hr)
      walk_at "run"
      have hb4' := hb4
      obtain ⟨⟨far, M, ⟨a, dx, rfl, ha⟩, hM, hc⟩, _, _⟩ := hb4'
      refine g_iteB (fun h => by simp at h) (fun _ => ?_)
      walk_at "run"
      refine g_onM ha look3 ?_
      walk_at "run"
      refine g_ixT hT (v := .int r.1) (atI_nat (j := 0) rfl) ?_
      walk_at "run"
      refine g_ixT hT (v := .int r.2.1) (atI_nat (j := 1) rfl) ?_
      walk_at "run"
      refine g_ixT hT (v := .int r.2.2) (atI_nat (j := 2) rfl) ?_
      walk_at "run"
      refine ⟨_, n, _, r.1, r.2.1, r.2.2, rfl, hb4, ok.1, ok.2.1, fun H6 e6 hno => ?_, fun v6 H6 e6 hb6 => ?_⟩
      · exfalso
        refine hno (Cons.mono (fun a b w h => ?_) hC)
        rw [cs_uni]
        rcases (take_also hr a b w).mp h with h | h
        · exact Or.inl h
        · exact Or.inr (List.mem_of_mem_take h)
      · walk_at "run"
        exact ⟨⟨_, _, rfl, hb6.swap (take_also hr)⟩, e4.trans e6⟩
    · rintro σ' H4 ⟨⟨v4, x3, rfl, hb4⟩, e4⟩
      walk_at "run"
      refine q _ _ ((e2.trans e3).trans e4) (hb4.swap fun a b w => ?_)
      rw [cs_uni, List.take_of_length_le (by rw [List.length_drop]; omega)]
theorem pure_law_good_rows {K : Frag} (vs : List V) (H : Hp) (Q : VK) (E : XK) (h : sp_law_good_rows K vs H Q E) : t_law_good_rows K ⟨fun _ H' => Q .non H', Q, fun _ _ => False, fun _ _ => False⟩ (start ["bag", "size", "count", "found", "row"] vs) H := by
  obtain ⟨b, n, c, rfl, hB, h1, h2, hc, q⟩ := h
  show tSeq _ _ _ [some (.ref b), some (.int n), some (.int c), none, none] H
  walk_at "run"
  refine g_newL fun fd H1 hfd e1 h1' => ?_
  walk_at "run"
  have hB1 := Bag.ex e1 hB
  refine pull_n hB1 (by omega) (by omega) fun d d0 d1 => ?_
  obtain ⟨m, rfl⟩ := Int.eq_ofNat_of_zero_le d0
  walk_at "run"
  refine ⟨b, n, m, rfl, hB1, h1, h2, by omega, fun v R H2 e2 hnew ⟨p, ys, ev, hp, hd⟩ hl hR => ?_⟩
  subst ev
  refine g_onL (Evl.sq_of hp) ?_
  have hlen : ys.length = R.length := by rw [dpa_len hd, List.length_map]
  have npf : p ≠ fd := fun z => by
    have := hnew p rfl
    rw [z, h1'] at this
    cases this
  refine for_on walk_list (fun i σ H' => (∃ x4 : Option V, σ = [some (.ref b), some (.int n), some (.int c), some (.ref fd), x4]) ∧ ExB fd H2 H' ∧ Ex H H' ∧ ∃ zs T, H' fd = some (.lst zs) ∧ DpAll K H' zs (T.map trD) ∧ T.length ≤ i ∧ (∀ r ∈ T, okR n r) ∧ Cons (n + 1) (cs T))
    ⟨⟨_, rfl⟩, fun _ _ _ h => h, e1.trans e2, [], [], e2 _ _ h1', .nil, by simp, (fun r h => by cases h), ⟨free, ((free_clo (n + 1)).swap (Md.iff fun a b w => by unfold cs; simp)).md⟩⟩ (fun _ _ H' _ q => Evl.sq_of (q.2.1 _ _ npf hp)) ?_ ?_
  · rintro i x σ H3 H4 hi ⟨⟨x4, rfl⟩, e3, e03, zs, T, hz, hdz, hTl, hT, hC⟩ ⟨rfl, hx⟩
    obtain ⟨r, hr, hdr⟩ := row_of hd hx
    have ok := hR r (List.mem_of_getElem? hr)
    replace hdr := tr_exl (e2 _ _ h1') e3 hdr
    walk_at "run"
    refine g_newL fun q1 H5 _ e5 h5 => ?_
    walk_at "run"
    have lz : zs.length = T.length := by rw [dpa_len hdz, List.length_map]
    refine g_lcat (e5 _ _ hz) h5 (sz5 (by simp; omega)) fun q2 H6 _ e6 h6 => ?_
    have e56 := e5.trans e6
    walk_at "run"
    refine ⟨n, _, T ++ [r], rfl, h2, ⟨q2, _, rfl, h6, ?_⟩, by simp; omega, fun r' hr' => ?_, fun H7 e7 hno => ?_, fun v' M H7 e7 hM hc' => ?_⟩
    · rw [List.map_append]
      exact dpa_app (trs_up e56 hdz) (.cons (up e56 hdr) .nil)
    · rcases List.mem_append.mp hr' with h | h
      · exact (hT r' h).1
      · obtain rfl := List.mem_singleton.mp h
        exact ok.1
    · walk_at "run"
      refine g_iteB (fun h => by simp at h) (fun _ => ?_)
      walk_at "run"
      have e7' := e56.trans e7
      exact ⟨⟨_, rfl⟩, ExB.trans e3 (ExB.of e7'), e03.trans e7', zs, T, e7' _ _ hz, trs_up e7' hdz, by omega, hT, hC⟩
    · walk_at "run"
      obtain ⟨fa, _, rfl, _⟩ := mx_open hM
      refine g_iteB (fun _ => ?_) (fun h => by simp at h)
      walk_at "run"
      have e7' := e56.trans e7
      refine ⟨Or.inl ⟨rfl, _, Evl.sq_of (e7' _ _ hz)⟩, ?_⟩
      walk_at "run"
      refine g_append (e7' _ _ hz) (sz5lt (by omega)) ?_
      refine ⟨⟨_, rfl⟩, ExB.trans (ExB.trans e3 (ExB.of e7')) ExB.upd, Evl.Ex.mut (e03.trans e7') hfd, _, T ++ [r], upd_same, ?_, by simp; omega, fun r' hr' => ?_, ⟨M, hc'.md⟩⟩
      · rw [List.map_append]
        exact dpa_app (trs_exl (e7' _ _ hz) ExB.upd (trs_up e7' hdz)) (.cons (tr_exl (e7' _ _ hz) ExB.upd (up e7' hdr)) .nil)
      · rcases List.mem_append.mp hr' with h | h
        · exact hT r' h
        · obtain rfl := List.mem_singleton.mp h
          exact ok
  · rintro σ' H3 ⟨⟨x4, rfl⟩, e3, e03, zs, T, hz, hdz, hTl, hT, hC⟩
    walk_at "run"
    exact q _ T H3 e03 ⟨fd, zs, rfl, hz, hdz⟩ (by omega) hT hC
end Cm

set_option Elab.async false
set_option linter.all false
set_option maxRecDepth 100000
set_option maxHeartbeats 3000000
/-! Common part, 20: how great a bound may be; what the laws ask of Bounds. -/
namespace Cm
open L2 PySem PySem.Spec PyProof.Rows RZ StX Dbm
/-- what a row may add to a bound from i to j -/
def pot (M : Mx) (i j : Nat) (r : Edge) : Int := if (M i r.1).isSome && (M r.2.1 j).isSome then max r.2.2 0 else 0
def potS (M : Mx) (i j : Nat) (R : List Edge) : Int := (R.map (pot M i j)).sum
theorem pot_nn (M : Mx) (i j : Nat) (r : Edge) : 0 ≤ pot M i j r := by
  unfold pot
  split <;> omega
theorem sum_le {f g : Edge → Int} : ∀ {R : List Edge}, (∀ r ∈ R, f r ≤ g r) → (R.map f).sum ≤ (R.map g).sum
  | [], _ => by simp
  | r :: R, h => by
    have h1 := h r (List.mem_cons_self ..)
    have h2 := sum_le (R := R) fun x hx => h x (List.mem_cons_of_mem _ hx)
    simp only [List.map_cons, List.sum_cons]
    omega
theorem sum_add {f g : Edge → Int} : ∀ R : List Edge, (R.map f).sum + (R.map g).sum = (R.map fun r => f r + g r).sum
  | [] => by simp
  | r :: R => by
    have := sum_add (f := f) (g := g) R
    simp only [List.map_cons, List.sum_cons]
    omega
theorem cs_app {R : List Edge} {r : Edge} (a b : Nat) (w : Int) : also (cs R) r.1 r.2.1 r.2.2 a b w ↔ cs (R ++ [r]) a b w := by
  unfold also cs
  rw [List.mem_append, List.mem_singleton]
  constructor
  · rintro ((q | q) | ⟨rfl, rfl, rfl⟩)
    · exact Or.inl q
    · exact Or.inr (Or.inl q)
    · exact Or.inr (Or.inr rfl)
  · rintro (q | q | q)
    · exact Or.inl (Or.inl q)
    · exact Or.inl (Or.inr q)
    · exact Or.inr (by subst q; exact ⟨rfl, rfl, rfl⟩)
theorem isSome_omin_l {a b : OI} (h : a.isSome = true) : (omin a b).isSome = true := by
  cases a <;> cases b <;> simp [omin] at *
theorem isSome_omin_r {a b : OI} (h : b.isSome = true) : (omin a b).isSome = true := by
  cases a <;> cases b <;> simp [omin] at *
theorem isSome_oadd {a b : OI} (h : a.isSome = true) (g : b.isSome = true) : (oadd a b).isSome = true := by
  cases a <;> cases b <;> simp [oadd] at *
theorem isSome_le {a b : OI} (h : ole a b) (g : b.isSome = true) : a.isSome = true := by
  cases a <;> cases b <;> simp [ole] at *
theorem clo_pot {N : Nat} : ∀ (k : Nat) (R : List Edge), R.length = k → (∀ r ∈ R, r.1 < N ∧ r.2.1 < N) → Cons N (cs R) → ∃ M, IsClo N (cs R) M ∧ ∀ i j c, i < N → j < N → M i j = some c → c ≤ potS M i j R
  | 0, R, hk, _, _ => by
    obtain rfl := List.length_eq_zero_iff.mp hk
    refine ⟨free, (free_clo N).swap (Md.iff fun a b w => by unfold cs; simp), fun i j c _ _ h => ?_⟩
    unfold free at h
    split at h
    · cases h; simp [potS]
    · cases h
  | k + 1, R, hk, hr, hC => by
    obtain ⟨R0, e, rfl⟩ : ∃ R0 e, R = R0 ++ [e] := by
      rcases List.eq_nil_or_concat R with h | ⟨R0, e, h⟩
      · rw [h] at hk; cases hk
      · exact ⟨R0, e, by rw [h, List.concat_eq_append]⟩
    obtain ⟨a, b, w⟩ := e
    have hl : R0.length = k := by simpa using hk
    have he := hr (a, b, w) (by simp)
    have ha : a < N := he.1
    have hb : b < N := he.2
    have h0 : Cons N (cs R0) := Cons.mono (fun x y z h => by rcases h with h | h; exact Or.inl h; exact Or.inr (List.mem_append_left _ h)) hC
    obtain ⟨M, hM, hp⟩ := clo_pot k R0 hl (fun r h => hr r (List.mem_append_left _ h)) h0
    have hn : ∀ c, M b a = some c → 0 ≤ c + w := fun c hc => by
      refine Int.not_lt.mp fun h => ?_
      exact tight_no hM ha hb hc h ((cons_md (Md.iff (cs_app (r := (a, b, w))))).mpr hC)
    have hT := (tight_clo hM ha hb hn).swap (Md.iff (cs_app (r := (a, b, w))))
    refine ⟨tight M a b w, hT, fun i j c hi hj hc => ?_⟩
    have up_ : ∀ x y, (M x y).isSome = true → (tight M a b w x y).isSome = true := fun x y h => isSome_omin_l h
    have via : ∀ x y, (M x a).isSome = true → (M b y).isSome = true → (tight M a b w x y).isSome = true := fun x y h g => isSome_omin_r (isSome_oadd h (isSome_oadd rfl g))
    have tot : potS (tight M a b w) i j (R0 ++ [(a, b, w)]) = potS (tight M a b w) i j R0 + pot (tight M a b w) i j (a, b, w) := by
      unfold potS
      rw [List.map_append, List.sum_append]
      simp
    rw [tot]
    cases hm : M i j with
    | some c0 =>
      have h1 := hp i j c0 hi hj hm
      have h2 : c ≤ c0 := by
        have := omin_left (M i j) (oadd (M i a) (oadd (some w) (M b j)))
        change ole (tight M a b w i j) _ at this
        rw [hc, hm] at this
        exact this
      have h3 : potS M i j R0 ≤ potS (tight M a b w) i j R0 := sum_le fun r _ => by
        unfold pot
        split
        · rename_i q
          rw [Bool.and_eq_true] at q
          rw [if_pos (by rw [up_ _ _ q.1, up_ _ _ q.2]; rfl)]
          exact Int.le_refl _
        · split <;> omega
      have h4 := pot_nn (tight M a b w) i j (a, b, w)
      omega
    | none =>
      have hc2 : oadd (M i a) (oadd (some w) (M b j)) = some c := by
        have : omin (M i j) (oadd (M i a) (oadd (some w) (M b j))) = some c := hc
        rw [hm] at this
        exact this
      cases h1 : M i a with
      | none => rw [h1] at hc2; cases hc2
      | some x =>
        cases h2 : M b j with
        | none => rw [h1, h2] at hc2; cases hc2
        | some y =>
          rw [h1, h2] at hc2
          have ec : c = x + (w + y) := by cases hc2; rfl
          have q1 := hp i a x hi ha h1
          have q2 := hp b j y hb hj h2
          have q3 : potS M i a R0 + potS M b j R0 ≤ potS (tight M a b w) i j R0 := by
            unfold potS
            rw [sum_add]
            refine sum_le fun r hrm => ?_
            obtain ⟨u, v, z⟩ := r
            have hu := hr (u, v, z) (List.mem_append_left _ hrm)
            have huv : (M u v).isSome = true := isSome_le (hM.md.le u v z (Or.inr hrm) hu.1 hu.2) rfl
            have not_ : ¬ ((M i u).isSome = true ∧ (M v j).isSome = true) := fun ⟨g1, g2⟩ => by
              have t1 := isSome_le (hM.md.cl.tri i v u hi hu.2 hu.1) (isSome_oadd g1 huv)
              have t2 := isSome_le (hM.md.cl.tri i j v hi hj hu.2) (isSome_oadd t1 g2)
              rw [hm] at t2
              cases t2
            have yes : (M i u).isSome = true ∧ (M v a).isSome = true ∨ (M b u).isSome = true ∧ (M v j).isSome = true → pot (tight M a b w) i j (u, v, z) = max z 0 := fun g => by
              unfold pot
              rw [if_pos]
              rw [Bool.and_eq_true]
              rcases g with ⟨g1, g2⟩ | ⟨g1, g2⟩
              · exact ⟨up_ _ _ g1, via _ _ g2 (by rw [h2]; rfl)⟩
              · exact ⟨via _ _ (by rw [h1]; rfl) g1, up_ _ _ g2⟩
            have nn := pot_nn (tight M a b w) i j (u, v, z)
            by_cases g1 : (M i u).isSome = true ∧ (M v a).isSome = true
            · have e1 : pot M i a (u, v, z) = max z 0 := by unfold pot; rw [if_pos (by rw [Bool.and_eq_true]; exact g1)]
              have e2 : pot M b j (u, v, z) = 0 := by
                unfold pot
                rw [if_neg]
                rw [Bool.and_eq_true]
                exact fun g => not_ ⟨g1.1, g.2⟩
              rw [e1, e2, yes (Or.inl g1)]
              omega
            · have e1 : pot M i a (u, v, z) = 0 := by unfold pot; rw [if_neg (by rw [Bool.and_eq_true]; exact g1)]
              by_cases g2 : (M b u).isSome = true ∧ (M v j).isSome = true
              · have e2 : pot M b j (u, v, z) = max z 0 := by unfold pot; rw [if_pos (by rw [Bool.and_eq_true]; exact g2)]
                rw [e1, e2, yes (Or.inr g2)]
                omega
              · have e2 : pot M b j (u, v, z) = 0 := by unfold pot; rw [if_neg (by rw [Bool.and_eq_true]; exact g2)]
                rw [e1, e2]
                omega
          have q4 : pot (tight M a b w) i j (a, b, w) = max w 0 := by
            unfold pot
            rw [if_pos]
            rw [Bool.and_eq_true]
            exact ⟨up_ _ _ (by show (M i a).isSome = true; rw [h1]; rfl), up_ _ _ (by show (M b j).isSome = true; rw [h2]; rfl)⟩
          omega
theorem clo_le {N : Nat} {R : List Edge} {M : Mx} {B : Int} (h : IsClo N (cs R) M) (hr : ∀ r ∈ R, r.1 < N ∧ r.2.1 < N) (hB : 0 ≤ B) (hw : ∀ r ∈ R, r.2.2 ≤ B) {i j : Nat} {c : Int} (hi : i < N) (hj : j < N) (hc : M i j = some c) : c ≤ R.length * B := by
  obtain ⟨M', h', hp⟩ := clo_pot R.length R rfl hr ⟨M, h.md⟩
  have e := h.uniq h' hi hj
  have h1 := hp i j c hi hj (by rw [← e]; exact hc)
  have h2 : potS M' i j R ≤ (R.map fun _ => B).sum := sum_le fun r hr' => by
    have := hw r hr'
    unfold pot
    split <;> omega
  have h3 : ∀ L : List Edge, (L.map fun _ => B).sum = L.length * B := fun L => by
    induction L with
    | nil => simp
    | cons x L ih =>
      simp only [List.map_cons, List.sum_cons, List.length_cons]
      rw [ih, Int.natCast_add, Int.add_mul]
      omega
  rw [h3] at h2
  omega
/-! ### steps with Bounds -/
def LateV (K : Frag) (H : Hp) (v : V) (n : Nat) (S : Cs) : Prop := (v = .non ∧ ¬ Cons (n + 1) S) ∨ BdAt K H v n S
section
variable {K : Frag} {H H' : Hp} {Q : VK} {E : XK} {n : Nat} {S T : Cs} {x y : V}
theorem LateV.up (e : Ex H H') (h : LateV K H x n S) : LateV K H' x n S := h.elim Or.inl fun h => Or.inr (h.up e)
theorem LateV.swap (h : LateV K H x n S) (e : ∀ a b w, S a b w ↔ T a b w) : LateV K H x n T := h.elim (fun h => Or.inl ⟨h.1, fun c => h.2 ((cons_md (Md.iff e)).mpr c)⟩) fun h => Or.inr (h.swap e)
theorem bd_ref (h : BdAt K H x n S) : ∃ a dx fs, x = .ref a ∧ H a = some (.ins (CB K) dx fs) ∧ ∀ m : Str, (m == ("own_many" : Str)) = false → (m == ("far" : Str)) = false → fs.lookup m = none := by
  obtain ⟨⟨far, M, ⟨a, dx, rfl, ha⟩, _, _⟩, _, _⟩ := h
  exact ⟨a, dx, _, rfl, ha, fun m h1 h2 => look3 h1 h2⟩
theorem wr_merge {a b : Nat} {w : Int} (h : BdAt K H x n S) (ha : a ≤ n) (hb : b ≤ n) (next : ∀ v' H', Ex H H' → LateV K H' v' n (also S a b w) → Q v' H') : sp_Bounds_with_row K [x, .int a, .int b, .int w] H Q E :=
  ⟨x, n, S, a, b, w, rfl, h, ha, hb, fun H' e hno => next _ H' e (Or.inl ⟨rfl, hno⟩), fun v' H' e hv => next v' H' e (Or.inr hv)⟩
theorem bo_merge (h : BdAt K H x n S) (g : BdAt K H y n T) (next : ∀ v' H', Ex H H' → LateV K H' v' n (uni S T) → Q v' H') : sp_Bounds_both K [x, y] H Q E :=
  ⟨x, y, n, S, T, rfl, h, g, fun H' e hno => next _ H' e (Or.inl ⟨rfl, hno⟩), fun v' H' e hv => next v' H' e (Or.inr hv)⟩
theorem g_neB (h1 : BdAt K H x n S) (h2 : BdAt K H y n T) (e : ∀ X, Md (n + 1) S X ↔ Md (n + 1) T X) (q : ∀ H', Ex H H' → Q (.bl false) H') : rOwnN K (CB K) (sp_Bounds_eq K) E0 x y H Q := by
  obtain ⟨⟨far, M, hb, hM, hc⟩, _, n2⟩ := h1
  obtain ⟨⟨far2, M2, hb2, hM2, hc2⟩, _, _⟩ := h2
  have hb0 := hb
  have hb20 := hb2
  obtain ⟨a, dx, rfl, ha⟩ := hb
  obtain ⟨b, dy, rfl, hb⟩ := hb2
  refine ⟨a, dx, _, rfl, ha, Or.inl ⟨b, dy, _, rfl, hb⟩, _, _, n, n, far, far2, M, M2, rfl, hb0, hb20, n2, n2, hM, hM2, fun H' e' => ⟨_, rfl, ?_⟩⟩
  have eq1 : eqMx (n + 1) M M2 = true := by
    unfold eqMx
    rw [List.all_eq_true]
    intro i hi
    rw [List.all_eq_true]
    intro j hj
    rw [decide_eq_true_iff]
    exact (hc.swap e).uniq hc2 (List.mem_range.mp hi) (List.mem_range.mp hj)
  rw [eq1]
  simpa using q H' e'
theorem cl_merge {R : List Edge} {v : V} (hn : n ≤ 12) (h : RowsAt K H v R) (hl : R.length ≤ 1000) (hR : ∀ r ∈ R, okE n r) (next : ∀ v' H', Ex H H' → ((v' = .non ∧ ¬ Cons (n + 1) (cs R)) ∨ (v' ≠ .non ∧ Cons (n + 1) (cs R))) → Q v' H') : sp_law_closed_rows K [.int n, v] H Q E := by
  refine ⟨n, v, R, rfl, hn, h, hl, hR, fun H' e hno => next _ H' e (Or.inl ⟨rfl, hno⟩), fun v' M H' e hM hc => next v' H' e (Or.inr ⟨?_, M, hc.md⟩)⟩
  obtain ⟨fa, _, rfl, _⟩ := mx_open hM
  exact fun h => by cases h
theorem rows_cat {R T : List Edge} {a b : Addr} {xs ys : List V} (h1 : H a = some (.lst xs)) (d1 : DpAll K H xs (R.map trD)) (h2 : H b = some (.lst ys)) (d2 : DpAll K H ys (T.map trD)) (hl : R.length + T.length ≤ 1000) (q : ∀ v H', Ex H H' → RowsAt K H' v (R ++ T) → Q v H') : xAdd K (.ref a) (.ref b) H Q := by
  have l1 := dpa_len d1
  have l2 := dpa_len d2
  rw [List.length_map] at l1 l2
  refine g_lcat h1 h2 (sz5 (by omega)) fun p H' _ e hp => q _ H' e ⟨p, _, rfl, hp, ?_⟩
  rw [List.map_append]
  exact dpa_app (trs_up e d1) (trs_up e d2)
end
end Cm

set_option Elab.async false
set_option linter.all false
set_option maxRecDepth 100000
set_option maxHeartbeats 3000000
/-! Common part, 21: what a head tells of a class. -/
namespace Cm
open L2 PySem PySem.Spec PyProof.Rows RZ StX
def ownB (K : Frag) (C : Addr) : Bool := decide (PySem.W.findIn K (.ref C) "__ne__" = some (some (.builtin "object.__ne__"))) && decide (PySem.W.mroIn K C (.type "object") = some true)
theorem ownB_ok {K : Frag} {C : Addr} (h : ownB K C = true) : PySem.W.findIn K (.ref C) "__ne__" = some (some (.builtin "object.__ne__")) ∧ PySem.W.mroIn K C (.type "object") = some true := by
  obtain ⟨h1, h2⟩ := Bool.and_eq_true_iff.mp h
  exact ⟨of_decide_eq_true h1, of_decide_eq_true h2⟩
def insCB (K : Frag) (C : Addr) : Bool := decide (PySem.W.findIn K (.ref C) "__class__" = some (some (.builtin "object.__class__"))) && (decide (PySem.W.specialIn K (.builtin "object.__class__") "__get__" = some (some (.builtin "getset_descriptor.__get__"))) &&
  (decide (PySem.W.takesIn K (.builtin "object.__class__") = some true) && (decide (PySem.W.mroIn K C (.type "object") = some true) && decide (PySem.W.kitOne K (.ref C) (.ref C) = some true))))
theorem insCB_ok {K : Frag} {C : Addr} (c : Cls K C) (h : insCB K C = true) : C8.InsC K C := by
  obtain ⟨h1, h⟩ := Bool.and_eq_true_iff.mp h
  obtain ⟨h2, h⟩ := Bool.and_eq_true_iff.mp h
  obtain ⟨h3, h⟩ := Bool.and_eq_true_iff.mp h
  obtain ⟨h4, h5⟩ := Bool.and_eq_true_iff.mp h
  exact ⟨c, of_decide_eq_true h1, of_decide_eq_true h2, of_decide_eq_true h3, of_decide_eq_true h4, of_decide_eq_true h5⟩
end Cm

set_option Elab.async false
set_option linter.all false
set_option maxRecDepth 100000
set_option maxHeartbeats 3000000
/-! Common part, 22: one matrix within another. -/
namespace Cm
open L2 PySem PySem.Spec PyProof.Rows RZ StX Dbm
def leMx (N : Nat) (M M' : Mx) : Bool := (List.range N).all fun i => (List.range N).all fun j => !isLess (M' i j) (M i j)
theorem leMx_iff {N : Nat} {M M' : Mx} : leMx N M M' = true ↔ ∀ i j, i < N → j < N → ole (M i j) (M' i j) := by
  have e : ∀ a b : OI, (!isLess b a) = true ↔ ole a b := fun a b => by
    cases a <;> cases b <;> simp [isLess, ole]
  unfold leMx
  rw [List.all_eq_true]
  constructor
  · intro h i j hi hj
    have h1 := h i (List.mem_range.mpr hi)
    rw [List.all_eq_true] at h1
    exact (e _ _).mp (h1 j (List.mem_range.mpr hj))
  · intro h i hi
    rw [List.all_eq_true]
    intro j hj
    exact (e _ _).mpr (h i j (List.mem_range.mp hi) (List.mem_range.mp hj))
theorem leMx_no {N : Nat} {M M' : Mx} {i j : Nat} (hi : i < N) (hj : j < N) (h : isLess (M' i j) (M i j) = true) : leMx N M M' = false := by
  cases e : leMx N M M' with
  | false => rfl
  | true =>
    have := leMx_iff.mp e i j hi hj
    cases h1 : M i j <;> cases h2 : M' i j <;> rw [h1, h2] at this h <;> simp [isLess, ole] at this h
    omega
def sp_Bounds_within (K : Frag) : Sp := fun vs H Q _ => ∃ (s o : V) (n : Nat) (far far' : V) (M M' : Mx), vs = [s, o] ∧ BdO K H s n far ∧ BdO K H o n far' ∧ n ≤ 12 ∧ Dp K H far (mxD (n + 1) M) ∧ Dp K H far' (mxD (n + 1) M') ∧ ∀ H', Ex H H' → Q (.bl (leMx (n + 1) M M')) H'
def sp_law_is_within (K : Frag) : Sp := fun vs H Q _ => ∃ (v v' : V) (N : Nat) (M M' : Mx), vs = [v, v'] ∧ N ≤ 100 ∧ Dp K H v (mxD N M) ∧ Dp K H v' (mxD N M') ∧ ∀ H', Ex H H' → Q (.bl (leMx N M M')) H'
def t_Bounds_within (K : Frag) : TS := (tSeq (tFor (iZipA K (tCons (tFld K (tVar 0) "far") (tCons (tFld K (tVar 1) "far") tNil))) (gTup K 2 (gCons (gName 2) (gCons (gName 3) gNil))) (tFor (iZipA K (tCons (tVar 2) (tCons (tVar 3) tNil))) (gTup K 2 (gCons (gName 4) (gCons (gName 5) gNil))) (tIfS (tB (tCall (sp_is_less K) [] E0 (tCons (tVar 5) (tCons (tVar 4) tNil)))) (tRet (tC (.bl false))) tNext))) (tRet (tC (.bl true))))
def t_law_is_within (K : Frag) : TS := (tSeq (tFor (iZipA K (tCons (tVar 0) (tCons (tVar 1) tNil))) (gTup K 2 (gCons (gName 2) (gCons (gName 3) gNil))) (tFor (iZipA K (tCons (tVar 2) (tCons (tVar 3) tNil))) (gTup K 2 (gCons (gName 4) (gCons (gName 5) gNil))) (tIfS (tAnd (tTest (tOp xNotN (tVar 5) (tC .non))) (tOr (tTest (tOp xIsN (tVar 4) (tC .non))) (tTest (tOp xGt (tVar 4) (tVar 5))))) (tRet (tC (.bl false))) tNext))) (tRet (tC (.bl true))))
/-- two matrices walked side by side: a no at the first place that is not within -/
theorem zip_walk {K : Frag} {H : Hp} {N : Nat} {M M' : Mx} {fa fb : Addr} {xs ys : List V} {a b : V} {D : Ends} {body : TS} {x2 x3 x4 x5 : Option V}
    (h1 : SqL K H fa xs) (l1 : xs.length = N) (r1 : ∀ i, i < N → ∃ r, xs[i]? = some (.ref r) ∧ SqL K H r (rowV N M i)) (h2 : SqL K H fb ys) (l2 : ys.length = N) (r2 : ∀ i, i < N → ∃ r, ys[i]? = some (.ref r) ∧ SqL K H r (rowV N M' i))
    (hb : ∀ (D' : Ends) (i j : Nat) (x2 x3 : V) (H1 : Hp), i < N → j < N → Ex H H1 → (∀ H2, Ex H1 H2 → isLess (M' i j) (M i j) = true → D'.rt (.bl false) H2) → (∀ H2, Ex H1 H2 → isLess (M' i j) (M i j) = false → D'.nx [some a, some b, some x2, some x3, some (cellV (M i j)), some (cellV (M' i j))] H2) → body D' [some a, some b, some x2, some x3, some (cellV (M i j)), some (cellV (M' i j))] H1)
    (hr : ∀ H', Ex H H' → leMx N M M' = false → D.rt (.bl false) H') (hn : ∀ (x2 x3 x4 x5 : Option V) (H' : Hp), Ex H H' → leMx N M M' = true → D.nx [some a, some b, x2, x3, x4, x5] H') :
    ForOn (Itz K fa fb) (gTup K 2 (gCons (gName 2) (gCons (gName 3) gNil))) (tFor (iZipA K (tCons (tVar 2) (tCons (tVar 3) tNil))) (gTup K 2 (gCons (gName 4) (gCons (gName 5) gNil))) body) D [some a, some b, x2, x3, x4, x5] H := by
  refine for_on (walk_zip (xs := xs) (ys := ys) (n := N) (by omega)) (fun i σ H' => (∃ x2 x3 x4 x5 : Option V, σ = [some a, some b, x2, x3, x4, x5]) ∧ Ex H H' ∧ ∀ i' j, i' < i → j < N → isLess (M' i' j) (M i' j) = false) ⟨⟨_, _, _, _, rfl⟩, Evl.Ex.refl _, fun _ _ h => absurd h (by omega)⟩ (fun _ _ H' _ p => ⟨Evl.ex_l p.2.1 h1, Evl.ex_l p.2.1 h2⟩) ?_ ?_
  · rintro i x σ H2 H3 hi ⟨⟨x2, x3, x4, x5, rfl⟩, e2, hok⟩ ⟨T, u, z, rfl, hT, rfl, hu, hz⟩
    obtain ⟨ra, q1, q2⟩ := r1 i hi
    obtain ⟨rb, q3, q4⟩ := r2 i hi
    rw [show xs[i]? = some u from hu] at q1
    rw [show ys[i]? = some z from hz] at q3
    cases q1; cases q3
    refine g_pair (Evl.st_of upd_same) ?_
    have e3 := e2.trans (Evl.Ex.new (o := .tup [.ref ra, .ref rb]) hT)
    generalize upd H2 T (.tup [.ref ra, .ref rb]) = H4 at e3
    walk_at "run"
    refine g_zipL (Evl.ex_l e3 q2) (Evl.ex_l e3 q4) ?_
    refine for_on (walk_zip (xs := rowV N M i) (ys := rowV N M' i) (n := N) (by rw [row_len, row_len]; omega)) (fun j σ H' => (∃ x4 x5 : Option V, σ = [some a, some b, some (.ref ra), some (.ref rb), x4, x5]) ∧ Ex H H' ∧ ∀ j', j' < j → isLess (M' i j') (M i j') = false) ⟨⟨_, _, rfl⟩, e3, fun _ h => absurd h (by omega)⟩ (fun _ _ H' _ p => ⟨Evl.ex_l p.2.1 q2, Evl.ex_l p.2.1 q4⟩) ?_ ?_
    · rintro j x σ H5 H6 hj ⟨⟨x4, x5, rfl⟩, e5, hok2⟩ ⟨T, u, z, rfl, hT, rfl, hu, hz⟩
      obtain ⟨_, rfl⟩ := row_get hu
      obtain ⟨_, rfl⟩ := row_get hz
      refine g_pair (Evl.st_of upd_same) ?_
      have e6 := e5.trans (Evl.Ex.new (o := .tup [cellV (M i j), cellV (M' i j)]) hT)
      generalize upd H5 T (.tup [cellV (M i j), cellV (M' i j)]) = H7 at e6
      refine hb _ i j _ _ H7 hi hj e6 (fun H8 e8 hl => hr H8 (e6.trans e8) (leMx_no hi hj hl)) fun H8 e8 hl => ⟨⟨_, _, rfl⟩, e6.trans e8, fun j' hj' => ?_⟩
      by_cases ej : j' = j
      · rw [ej]; exact hl
      · exact hok2 j' (by omega)
    · rintro σ' H5 ⟨⟨x4, x5, rfl⟩, e5, hok2⟩
      refine ⟨⟨_, _, _, _, rfl⟩, e5, fun i' j hi' hj => ?_⟩
      by_cases ei : i' = i
      · rw [ei]; exact hok2 j hj
      · exact hok i' j (by omega) hj
  · rintro σ' H2 ⟨⟨x2, x3, x4, x5, rfl⟩, e2, hok⟩
    refine hn _ _ _ _ H2 e2 ?_
    unfold leMx
    rw [List.all_eq_true]
    intro i hi
    rw [List.all_eq_true]
    intro j hj
    rw [hok i j (List.mem_range.mp hi) (List.mem_range.mp hj)]
    rfl
theorem pure_Bounds_within {K : Frag} (bk : BndK K) (vs : List V) (H : Hp) (Q : VK) (E : XK) (h : sp_Bounds_within K vs H Q E) : t_Bounds_within K ⟨fun _ H' => Q .non H', Q, fun _ _ => False, fun _ _ => False⟩ (start ["self", "other", "row", "late", "most", "bound"] vs) H := by
  obtain ⟨s, o, n, far, far', M, M', rfl, ⟨a, dx, rfl, ha⟩, ⟨b, dy, rfl, hb⟩, n2, hM, hM', q⟩ := h
  show tSeq _ _ _ [some (.ref a), some (.ref b), none, none, none, none] H
  walk_at "run"
  refine g_onF ha bk.cls bk.n2 look2 ?_
  walk_at "run"
  refine g_onF hb bk.cls bk.n2 look2 ?_
  walk_at "run"
  obtain ⟨fa, xs, rfl, h1, l1, r1⟩ := mx_open hM
  obtain ⟨fb, ys, rfl, h2, l2, r2⟩ := mx_open hM'
  refine g_zipL h1 h2 ?_
  refine zip_walk h1 l1 r1 h2 l2 r2 ?_ (fun H' e h => by have := q H' e; rw [h] at this; exact this) (fun x2 x3 x4 x5 H' e h => by walk_at "run"; have := q H' e; rw [h] at this; exact this)
  intro D' i j x2 x3 H1 hi hj e1 k1 k2
  walk_at "run"
  refine ⟨M' i j, M i j, rfl, fun H2 e2 => ?_⟩
  walk_at "run"
  refine g_iteB (fun h => ?_) (fun h => ?_)
  · walk_at "run"
    exact k1 H2 e2 h
  · walk_at "run"
    exact k2 H2 e2 h
theorem pure_law_is_within {K : Frag} (vs : List V) (H : Hp) (Q : VK) (E : XK) (h : sp_law_is_within K vs H Q E) : t_law_is_within K ⟨fun _ H' => Q .non H', Q, fun _ _ => False, fun _ _ => False⟩ (start ["far", "late", "row", "second", "a", "b"] vs) H := by
  obtain ⟨v, v', N, M, M', rfl, hN, hM, hM', q⟩ := h
  obtain ⟨fa, xs, rfl, h1, l1, r1⟩ := mx_open hM
  obtain ⟨fb, ys, rfl, h2, l2, r2⟩ := mx_open hM'
  show tSeq _ _ _ [some (.ref fa), some (.ref fb), none, none, none, none] H
  walk_at "run"
  refine g_zipL h1 h2 ?_
  refine zip_walk h1 l1 r1 h2 l2 r2 ?_ (fun H' e h => by have := q H' e; rw [h] at this; exact this) (fun x2 x3 x4 x5 H' e h => by walk_at "run"; have := q H' e; rw [h] at this; exact this)
  intro D' i j x2 x3 H1 hi hj e1 k1 k2
  walk_at "run"
  have k1' := k1 H1 (Evl.Ex.refl _)
  have k2' := k2 H1 (Evl.Ex.refl _)
  cases hm' : M' i j with
  | none =>
    rw [hm'] at k2'
    refine g_iteB (fun h => by simp [cellV] at h) (fun _ => ?_)
    walk_at "run"
    refine g_iteB (fun h => by cases h) (fun _ => ?_)
    walk_at "run"
    exact k2' rfl
  | some c =>
    rw [hm'] at k1' k2'
    refine g_iteB (fun _ => ?_) (fun h => by simp [cellV] at h)
    walk_at "run"
    cases hm : M i j with
    | none =>
      rw [hm] at k1'
      refine g_iteB (fun _ => ?_) (fun h => by simp [cellV] at h)
      walk_at "run"
      refine g_iteB (fun _ => ?_) (fun h => by cases h)
      walk_at "run"
      exact k1' rfl
    | some e =>
      rw [hm] at k1' k2'
      refine g_iteB (fun h => by simp [cellV] at h) (fun _ => ?_)
      walk_at "run"
      refine g_gt ?_
      walk_at "run"
      refine g_iteB (fun h => ?_) (fun h => ?_)
      · walk_at "run"
        exact k1' h
      · walk_at "run"
        exact k2' h
end Cm

set_option Elab.async false
set_option linter.all false
set_option maxRecDepth 100000
set_option maxHeartbeats 3000000
/-! Common part, 23: a matrix closed by the program; has; all pairs. -/
namespace Cm
open L2 PySem PySem.Spec PyProof.Rows RZ StX Dbm
def rTuple (K : Frag) : List V → Hp → VK → Prop := fun xs H Q => ∃ p ys, xs = [.ref p] ∧ ((SqL K H p ys ∧ ∀ l, H l = none → Q (.ref l) (upd H l (.tup ys))) ∨ (SqT K H p ys ∧ Q (.ref p) H))
theorem cr_tuple {X : Cx} : CallR X (.type "tuple") (rTuple X.K) := call_tuple_of
/-! ### steps that are taken at once -/
def stK (F : Mx) : Nat → Mx
  | 0 => F
  | n + 1 => Dbm.st (stK F n) n
def entS (N : Nat) (F : Mx) : Cs := fun i j w => i < N ∧ j < N ∧ F i j = some w
section
variable {N : Nat} {F X : Mx}
theorem stK_low (c : Closed N X) (h : ∀ i j, i < N → j < N → ole (X i j) (F i j)) : ∀ n, n ≤ N → ∀ i j, i < N → j < N → ole (X i j) (stK F n i j)
  | 0, _, i, j, hi, hj => h i j hi hj
  | n + 1, hn, i, j, hi, hj => le_omin (stK_low c h n (by omega) i j hi hj) (ole_trans (c.tri i j n hi hj (by omega)) (oadd_mono (stK_low c h n (by omega) i n hi (by omega)) (stK_low c h n (by omega) n j (by omega) hj)))
theorem stK_dec : ∀ (n : Nat) (i j : Nat), ole (stK F n i j) (F i j)
  | 0, _, _ => ole_refl _
  | n + 1, i, j => ole_trans (omin_left _ _) (stK_dec n i j)
theorem stK_diag (c : Closed N X) (h : ∀ i j, i < N → j < N → ole (X i j) (F i j)) (hd : ∀ i, i < N → F i i = some 0) {n : Nat} (hn : n ≤ N) {i : Nat} (hi : i < N) : stK F n i i = some 0 := by
  refine ole_antisymm ?_ ?_
  · rw [← hd i hi]; exact stK_dec n i i
  · rw [← c.diag i hi]; exact stK_low c h n hn i i hi hi
theorem stK_clo (c : Closed N X) (h : ∀ i j, i < N → j < N → ole (X i j) (F i j)) (hd : ∀ i, i < N → F i i = some 0) : IsClo N (entS N F) (stK F N) := by
  have tri : ∀ n, n ≤ N → TriTo N (stK F n) n := by
    intro n
    induction n with
    | zero => exact fun _ k hk => absurd hk (by omega)
    | succ n ih => exact fun hn => tri_step (by omega) (stK_diag c h hd (by omega) (by omega)) (ih (by omega)) fun i j _ _ => rfl
  refine ⟨⟨⟨fun i hi => stK_diag c h hd (Nat.le_refl _) hi, fun i j k hi hj hk => tri N (Nat.le_refl _) k hk i j hi hj⟩, ?_⟩, ?_⟩
  · rintro a b w ⟨ha, hb, e⟩ _ _
    rw [← e]
    exact stK_dec N a b
  · intro M' m
    refine stK_low m.cl (fun i j hi hj => ?_) N (Nat.le_refl _)
    cases e : F i j with
    | none => cases M' i j <;> simp [ole]
    | some w => exact m.le i j w ⟨hi, hj, e⟩ hi hj
end
/-- the step for via k, done up to row I and place J -/
def partF (G : Mx) (k I J : Nat) : Mx := fun i j => if i < I ∨ (i = I ∧ j < J) then Dbm.st G k i j else G i j
section
variable {G : Mx} {k i j N : Nat}
theorem partF_set : setM (partF G k i j) i j (Dbm.st G k i j) = partF G k i (j + 1) := by
  funext i' j'
  unfold setM partF
  by_cases e : i' = i ∧ j' = j
  · obtain ⟨rfl, rfl⟩ := e
    rw [if_pos ⟨rfl, rfl⟩, if_pos (Or.inr ⟨rfl, Nat.lt_succ_self _⟩)]
  · rw [if_neg e]
    by_cases h1 : i' < i ∨ (i' = i ∧ j' < j)
    · rw [if_pos h1, if_pos (by omega)]
    · rw [if_neg h1, if_neg (by omega)]
theorem partF_same (h : Dbm.st G k i j = G i j) : partF G k i (j + 1) = partF G k i j := by
  rw [← partF_set]
  funext i' j'
  unfold setM
  by_cases e : i' = i ∧ j' = j
  · obtain ⟨rfl, rfl⟩ := e
    rw [if_pos ⟨rfl, rfl⟩, h]
    unfold partF
    rw [if_neg (by omega)]
  · rw [if_neg e]
theorem partF_at : partF G k i j i j = G i j := by
  unfold partF
  rw [if_neg (by omega)]
theorem partF_row (h0 : G k k = some 0) (I J : Nat) : rowV N (partF G k I J) k = rowV N G k := by
  unfold rowV
  refine List.map_congr_left fun l _ => ?_
  unfold partF
  split
  · show cellV (omin (G k l) (oadd (G k k) (G k l))) = _
    rw [h0, zero_oadd, omin_eq_left (ole_refl _)]
  · rfl
theorem MxH.congr {H0 H : Hp} {fa : Addr} {rs : List Addr} {F F' : Mx} (m : MxH H0 H fa rs N F) (h : ∀ i j, i < N → j < N → F i j = F' i j) : MxH H0 H fa rs N F' := by
  refine ⟨m.at_, m.len, m.nd, m.nf, fun i r hr => ?_, m.new, m.ex⟩
  rw [m.row i r hr]
  congr 2
  unfold rowV
  refine List.map_congr_left fun l hl => ?_
  have hi : i < N := by
    have := (List.getElem?_eq_some_iff.mp hr).1
    rw [m.len] at this
    exact this
  rw [h i l hi (List.mem_range.mp hl)]
end
def sp_closed (K : Frag) : Sp := fun vs H Q _ => ∃ (v : V) (N : Nat) (F X : Mx), vs = [v] ∧ N ≤ 100 ∧ Dp K H v (mxD N F) ∧ Closed N X ∧ (∀ i j, i < N → j < N → ole (X i j) (F i j)) ∧ (∀ i, i < N → F i i = some 0) ∧ ∀ v' M' H', Ex H H' → Dp K H' v' (mxD N M') → IsClo N (entS N F) M' → Q v' H'
def t_closed (K : Frag) : TS := (tSeq (tAsg (tLc (iList K (tVar 0)) (gName 2) tYes (tCB (rList K) (tCons (tVar 2) tNil)) [2]) (gName 1)) (tSeq (tFor (iEnumA K (tCons (tVar 1) tNil)) (gTup K 2 (gCons (gName 3) (gCons (gName 4) gNil))) (tFor (iList K (tVar 1)) (gName 2) (tSeq (tAsg (tOp (rIx K) (tVar 2) (tVar 3)) (gName 5)) (tIfS (tTest (tOp xNotN (tVar 5) (tC .non))) (tFor (iEnumA K (tCons (tVar 4) tNil)) (gTup K 2 (gCons (gName 6) (gCons (gName 7) gNil))) (tIfS (tAnd (tTest (tOp xNotN (tVar 7) (tC .non))) (tOr (tTest (tOp xIsN (tOp (rIx K) (tVar 2) (tVar 6)) (tC .non))) (tTest (tOp xLt (tOp (xAdd K) (tVar 5) (tVar 7)) (tOp (rIx K) (tVar 2) (tVar 6)))))) (tAsg (tOp (xAdd K) (tVar 5) (tVar 7)) (gSub (tVar 2) (tVar 6) rSetL)) tNext)) tNext)))) (tSeq (tFor (iEnumA K (tCons (tVar 1) tNil)) (gTup K 2 (gCons (gName 6) (gCons (gName 2) gNil))) (tIfS (tTest (tOp xLt (tOp (rIx K) (tVar 2) (tVar 6)) (tC (.int 0)))) (tRet (tC .non)) tNext)) (tRet (tVar 1)))))
def t_Bounds_has (K : Frag) : TS := (tSeq (tIfS (tTest (tOp (xNe K) (tCB (rLn K) (tCons (tVar 1) tNil)) (tFld K (tVar 0) "own_many"))) tNo tNext) (tSeq (tAsg (tLst (tCons (tC (.int 0)) (tStar K (tVar 1) tNil))) (gName 2)) (tSeq (tFor (iList K (tMeth (He.ga K "Bounds") "rows" (sp_Bounds_rows K) [] E0 (tVar 0) tNil)) (gTup K 3 (gCons (gName 3) (gCons (gName 4) (gCons (gName 5) gNil)))) (tIfS (tTest (tOp xGt (tOp xSub (tOp (rIx K) (tVar 2) (tVar 3)) (tOp (rIx K) (tVar 2) (tVar 4))) (tVar 5))) (tRet (tC (.bl false))) tNext)) (tRet (tC (.bl true))))))
def t_law_all_pairs (K : Frag) : TS := (tRet (tLc (iRng1 (tCons (tOp xPow (tOp (xAdd K) (tVar 0) (tC (.int 1))) (tC (.int 2))) tNil)) (gName 1) tYes (tTup (tCons (tOp xDiv (tVar 1) (tOp (xAdd K) (tVar 0) (tC (.int 1)))) (tCons (tOp xMod (tCB rInt (tCons (tVar 1) tNil)) (tOp (xAdd K) (tVar 0) (tC (.int 1)))) tNil))) [1]))
/-- the rows of a matrix, each copied -/
theorem lc_copy {K : Frag} {H : Hp} {Q : VK} {N : Nat} {F : Mx} {fa : Addr} {xs : List V} {σ : L2.St} {s : Nat} (hN : N ≤ 1000) (hs : SqL K H fa xs) (hl : xs.length = N) (hr : ∀ i, i < N → ∃ r, xs[i]? = some (.ref r) ∧ SqL K H r (rowV N F i)) (hsl : s < σ.length)
    (q : ∀ D rs H', MxH H H' D rs N F → Q (.ref D) H') : LcOn (Itl K fa) (gName s) tYes (tCB (rList K) (tCons (tVar s) tNil)) [s] σ Q H := by
  refine lc_new walk_list (by omega) (fun H' e => Evl.ex_l e hs) (fun i => rowV N F i) ?_ ?_
  · rintro i x H2 H3 hi e2 ⟨rfl, hx⟩ Nt hNt
    obtain ⟨r, h1, h2⟩ := hr i (by omega)
    rw [hx] at h1
    cases h1
    refine g_name ⟨?_, ?_⟩
    · show ((σ.set s none).set s (some (V.ref r))).set s none = σ.set s none
      rw [List.set_set, List.set_set]
    · refine g_cb (g_cons (g_var (v := .ref r) ?_ (g_nil ?_)))
      · show ((σ.set s none).set s (some (V.ref r)))[s]? = _
        rw [List.set_set, List.getElem?_set, if_pos rfl, if_pos hsl]
      · exact g_list (Or.inl (Evl.ex_l e2 h2)) fun p H4 hp e4 h4 => hNt p H4 hp e4 h4
  · intro D rs H' hD e h hl' hnd hnf hrow
    exact q D rs H' ⟨h, by rw [hl', hl], hnd, hnf, fun i r hi => (hrow i r hi).1, fun i r hi => (hrow i r hi).2, e⟩
theorem pure_closed {K : Frag} (vs : List V) (H : Hp) (Q : VK) (E : XK) (h : sp_closed K vs H Q E) : t_closed K ⟨fun _ H' => Q .non H', Q, fun _ _ => False, fun _ _ => False⟩ (start ["far", "found", "row", "via", "rest", "head", "at", "tail"] vs) H := by
  obtain ⟨v, N, F, X, rfl, hN, hM, cX, lX, dF, q⟩ := h
  obtain ⟨f0, xs, rfl, hfs, hfl, hfr⟩ := mx_open hM
  show tSeq _ _ _ [some (.ref f0), none, none, none, none, none, none, none] H
  walk_at "run"
  refine g_onL hfs ?_
  refine lc_copy (by omega) hfs hfl hfr (by simp) fun fa rs H1 m0 => ?_
  walk_at "run"
  refine g_enL (Evl.sq_of m0.at_) ?_
  refine for_on walk_enum (fun k σ H' => (∃ x2 x3 x4 x5 x6 x7 : Option V, σ = [some (.ref f0), some (.ref fa), x2, x3, x4, x5, x6, x7]) ∧ MxH H H' fa rs N (stK F k)) ⟨⟨_, _, _, _, _, _, rfl⟩, m0⟩ (fun _ _ H' _ p => Evl.sq_of p.2.at_) ?_ ?_
  · rintro k x σ H2 H3 hk ⟨⟨x2, x3, x4, x5, x6, x7, rfl⟩, m⟩ ⟨T, u, z, rfl, hT, rfl, hu, hz⟩
    cases hu
    rw [List.length_map, m0.len] at hk
    obtain ⟨rk, hrk⟩ := m.get hk
    have ez : z = .ref rk := by
      have h1 : (rs.map V.ref)[k]? = some z := hz
      rw [List.getElem?_map, hrk] at h1
      exact (Option.some.inj h1).symm
    subst ez
    refine g_pair (Evl.st_of upd_same) ?_
    replace m := m.up (Evl.Ex.new (o := .tup [.int (k : Nat), .ref rk]) hT)
    generalize upd H2 T (.tup [.int (k : Nat), .ref rk]) = H4 at m
    have G0 := stK_diag cX lX dF (n := k) (by omega) hk
    have stS : stK F (k + 1) = Dbm.st (stK F k) k := rfl
    generalize stK F k = G at m G0 stS
    walk_at "run"
    refine g_onL (Evl.sq_of m.at_) ?_
    have m00 : MxH H H4 fa rs N (partF G k 0 0) := m.congr fun i j _ _ => by unfold partF; rw [if_neg (by omega)]
    refine for_on walk_list (fun i σ H' => (∃ x2 x5 x6 x7 : Option V, σ = [some (.ref f0), some (.ref fa), x2, some (.int (k : Nat)), some (.ref rk), x5, x6, x7]) ∧ MxH H H' fa rs N (partF G k i 0)) ⟨⟨_, _, _, _, rfl⟩, m00⟩ (fun _ _ H' _ p => Evl.sq_of p.2.at_) ?_ ?_
    · rintro i x σ H5 H6 hi ⟨⟨x2, x5, x6, x7, rfl⟩, m⟩ ⟨rfl, hx⟩
      rw [List.length_map, m0.len] at hi
      obtain ⟨ri, hri⟩ := m.get hi
      have ex : x = .ref ri := by
        rw [List.getElem?_map, hri] at hx
        exact (Option.some.inj hx).symm
      subst ex
      walk_at "run"
      refine g_mc m hri hk ?_
      have e0 : partF G k i 0 i k = G i k := by unfold partF; rw [if_neg (by omega)]
      rw [e0]
      walk_at "run"
      have nxt : ∀ (J : Nat) (F' : Mx) (H7 : Hp), F' = partF G k i J → (J = N ∨ G i k = none) → MxH H H7 fa rs N F' → MxH H H7 fa rs N (partF G k (i + 1) 0) := fun J F' H7 e hJ m7 => by
        subst e
        refine m7.congr fun i' j' hi' hj' => ?_
        unfold partF
        by_cases h1 : i' < i ∨ (i' = i ∧ j' < J)
        · rw [if_pos h1, if_pos (by omega)]
        · rw [if_neg h1]
          by_cases h2 : i' < i + 1
          · rw [if_pos (Or.inl h2)]
            have h3 : i' = i := by omega
            subst h3
            rcases hJ with hJ | hJ
            · omega
            · unfold Dbm.st
              rw [hJ]
              cases G i' j' <;> rfl
          · rw [if_neg (by omega)]
      cases hh : G i k with
      | none =>
        refine g_iteB (fun h => by simp [cellV] at h) (fun _ => ?_)
        walk_at "run"
        exact ⟨⟨_, _, _, _, rfl⟩, nxt 0 _ _ rfl (Or.inr hh) m⟩
      | some hd =>
        refine g_iteB (fun _ => ?_) (fun h => by simp [cellV] at h)
        walk_at "run"
        have rowk : ∀ (J : Nat) (H7 : Hp), MxH H H7 fa rs N (partF G k i J) → SqL K H7 rk (rowV N G k) := fun J H7 m7 => by
          have := m7.row k rk hrk
          rw [partF_row G0] at this
          exact Evl.sq_of this
        refine g_enL (rowk 0 _ m) ?_
        refine for_on walk_enum (fun j σ H' => (∃ x6 x7 : Option V, σ = [some (.ref f0), some (.ref fa), some (.ref ri), some (.int (k : Nat)), some (.ref rk), some (.int hd), x6, x7]) ∧ MxH H H' fa rs N (partF G k i j)) ⟨⟨_, _, rfl⟩, m⟩ (fun _ _ H' _ p => rowk _ _ p.2) ?_ ?_
        · rintro j x σ H7 H8 hj ⟨⟨x6, x7, rfl⟩, m⟩ ⟨T, u, z, rfl, hT, rfl, hu, hz⟩
          cases hu
          obtain ⟨hj, rfl⟩ := row_get hz
          refine g_pair (Evl.st_of upd_same) ?_
          replace m := m.up (Evl.Ex.new (o := .tup [.int (j : Nat), cellV (G k j)]) hT)
          generalize upd H7 T (.tup [.int (j : Nat), cellV (G k j)]) = H9 at m
          walk_at "run"
          have same : Dbm.st G k i j = G i j → (∃ x6' x7' : Option V, [some (V.ref f0), some (.ref fa), some (.ref ri), some (.int (k : Nat)), some (.ref rk), some (.int hd), some (.int (j : Nat)), some (cellV (G k j))] = [some (.ref f0), some (.ref fa), some (.ref ri), some (.int (k : Nat)), some (.ref rk), some (.int hd), x6', x7']) ∧ MxH H H9 fa rs N (partF G k i (j + 1)) := fun e => ⟨⟨_, _, rfl⟩, by rw [partF_same e]; exact m⟩
          cases ht : G k j with
          | none =>
            refine g_iteB (fun h => by simp [cellV] at h) (fun _ => ?_)
            walk_at "run"
            have := same (by unfold Dbm.st; rw [hh, ht]; cases G i j <;> rfl)
            rw [ht] at this
            exact this
          | some c =>
            refine g_iteB (fun _ => ?_) (fun h => by simp [cellV] at h)
            walk_at "run"
            refine g_mc m hri hj ?_
            walk_at "run"
            rw [partF_at]
            have put : Dbm.st G k i j = some (hd + c) → (∃ x6' x7' : Option V, [some (V.ref f0), some (.ref fa), some (.ref ri), some (.int (k : Nat)), some (.ref rk), some (.int hd), some (.int (j : Nat)), some (cellV (some c))] = [some (.ref f0), some (.ref fa), some (.ref ri), some (.int (k : Nat)), some (.ref rk), some (.int hd), x6', x7']) ∧ MxH H (upd H9 ri (.lst ((rowV N (partF G k i j) i).set j (.int (hd + c))))) fa rs N (partF G k i (j + 1)) := fun e => by
              refine ⟨⟨_, _, rfl⟩, ?_⟩
              have := m.set (c := some (hd + c)) hri hj
              rw [← e, partF_set] at this
              rw [e] at this
              exact this
            cases h3 : G i j with
            | none =>
              refine g_iteB (fun _ => ?_) (fun h => by simp [cellV] at h)
              walk_at "run"
              refine g_iteB (fun _ => ?_) (fun h => by cases h)
              walk_at "run"
              refine g_add ?_
              walk_at "run"
              exact g_setL (m.row _ _ hri) (by rw [row_len]; exact ixN_nat hj) (put (by unfold Dbm.st; rw [hh, ht, h3]; rfl))
            | some e =>
              refine g_iteB (fun h => by simp [cellV] at h) (fun _ => ?_)
              walk_at "run"
              refine g_add ?_
              walk_at "run"
              refine g_mc m hri hj ?_
              rw [partF_at, h3]
              refine g_lt ?_
              walk_at "run"
              refine g_iteB (fun h => ?_) (fun h => ?_)
              · walk_at "run"
                refine g_add ?_
                walk_at "run"
                refine g_setL (m.row _ _ hri) (by rw [row_len]; exact ixN_nat hj) (put ?_)
                unfold Dbm.st
                rw [hh, ht, h3]
                simp at h
                simp [oadd, omin]
                omega
              · walk_at "run"
                have := same (by
                  unfold Dbm.st
                  rw [hh, ht, h3]
                  simp at h
                  simp [oadd, omin]
                  omega)
                rw [ht] at this
                exact this
        · rintro σ' H7 ⟨⟨x6, x7, rfl⟩, m⟩
          rw [row_len] at m
          exact ⟨⟨_, _, _, _, rfl⟩, nxt N _ _ rfl (Or.inl rfl) m⟩
    · rintro σ' H5 ⟨⟨x2, x5, x6, x7, rfl⟩, m⟩
      rw [List.length_map, m0.len] at m
      refine ⟨⟨_, _, _, _, _, _, rfl⟩, m.congr fun i j hi hj => ?_⟩
      rw [stS]
      unfold partF
      rw [if_pos (Or.inl hi)]
  · rintro σ' H2 ⟨⟨x2, x3, x4, x5, x6, x7, rfl⟩, m⟩
    rw [List.length_map, m0.len] at m
    walk_at "run"
    refine g_enL (Evl.sq_of m.at_) ?_
    refine for_on walk_enum (fun k σ H' => (∃ x2 x6 : Option V, σ = [some (.ref f0), some (.ref fa), x2, x3, x4, x5, x6, x7]) ∧ MxH H H' fa rs N (stK F N)) ⟨⟨_, _, rfl⟩, m⟩ (fun _ _ H' _ p => Evl.sq_of p.2.at_) ?_ ?_
    · rintro k x σ H3 H4 hk ⟨⟨x2, x6, rfl⟩, m⟩ ⟨T, u, z, rfl, hT, rfl, hu, hz⟩
      cases hu
      rw [List.length_map, m0.len] at hk
      obtain ⟨rk, hrk⟩ := m.get hk
      have ez : z = .ref rk := by
        have h1 : (rs.map V.ref)[k]? = some z := hz
        rw [List.getElem?_map, hrk] at h1
        exact (Option.some.inj h1).symm
      subst ez
      refine g_pair (Evl.st_of upd_same) ?_
      replace m := m.up (Evl.Ex.new (o := .tup [.int (k : Nat), .ref rk]) hT)
      generalize upd H3 T (.tup [.int (k : Nat), .ref rk]) = H5 at m
      walk_at "run"
      refine g_mc m hrk hk ?_
      rw [stK_diag cX lX dF (Nat.le_refl _) hk]
      refine g_lt ?_
      walk_at "run"
      refine g_iteB (fun h => by simp at h) (fun _ => ?_)
      walk_at "run"
      exact ⟨⟨_, _, rfl⟩, m⟩
    · rintro σ' H3 ⟨⟨x2, x6, rfl⟩, m⟩
      walk_at "run"
      exact q _ _ _ m.ex m.dp (stK_clo cX lX dF)
/-! ### how small a bound may be -/
theorem stK_ge {F : Mx} {B : Int} (hB : 0 ≤ B) (h : ∀ i j c, F i j = some c → -B ≤ c) : ∀ (n i j : Nat) (c : Int), stK F n i j = some c → -(B * 2 ^ n) ≤ c
  | 0, i, j, c, hc => by rw [Int.pow_zero, Int.mul_one]; exact h i j c hc
  | n + 1, i, j, c, hc => by
    have e2 : B * 2 ^ (n + 1) = B * 2 ^ n + B * 2 ^ n := by rw [Int.pow_succ, ← Int.mul_assoc]; omega
    have hp : 0 ≤ B * 2 ^ n := Int.mul_nonneg hB (Int.pow_nonneg (by omega))
    rw [e2]
    have hc2 : omin (stK F n i j) (oadd (stK F n i n) (stK F n n j)) = some c := hc
    rcases omin_cases (stK F n i j) (oadd (stK F n i n) (stK F n n j)) with e | e
    · rw [e] at hc2
      have := stK_ge hB h n i j c hc2
      omega
    · rw [e] at hc2
      cases h1 : stK F n i n with
      | none => rw [h1] at hc2; cases hc2
      | some x =>
        cases h2 : stK F n n j with
        | none => rw [h1, h2] at hc2; cases hc2
        | some y =>
          rw [h1, h2] at hc2
          have q1 := stK_ge hB h n i n x h1
          have q2 := stK_ge hB h n n j y h2
          have : x + y = c := by cases hc2; rfl
          omega
theorem insAll_ge {B : Int} : ∀ (R : List Edge) (F : Mx), (∀ i j c, F i j = some c → -B ≤ c) → (∀ r ∈ R, -B ≤ r.2.2) → ∀ i j c, insAll F R i j = some c → -B ≤ c
  | [], F, h, _, i, j, c, hc => h i j c hc
  | r :: R, F, h, hr, i, j, c, hc => by
    refine insAll_ge R _ (fun i j c hc => ?_) (fun x hx => hr x (List.mem_cons_of_mem _ hx)) i j c hc
    have hc : ins F r.1 r.2.1 r.2.2 i j = some c := hc
    unfold ins at hc
    split at hc
    · rcases omin_cases (F r.1 r.2.1) (some r.2.2) with e | e
      · rw [e] at hc; exact h _ _ _ hc
      · rw [e] at hc; cases hc; exact hr r (List.mem_cons_self ..)
    · exact h _ _ _ hc
theorem clo_ge {N : Nat} {R : List Edge} {M : Mx} {B : Int} (h : IsClo N (cs R) M) (hd : ∀ r ∈ R, r.1 ≠ r.2.1) (hr : ∀ r ∈ R, r.1 < N ∧ r.2.1 < N) (hB : 0 ≤ B) (hw : ∀ r ∈ R, -B ≤ r.2.2) {i j : Nat} {c : Int} (hi : i < N) (hj : j < N) (hc : M i j = some c) : -(B * 2 ^ N) ≤ c := by
  have low : ∀ i j, i < N → j < N → ole (M i j) (insAll free R i j) := insAll_low R free ((free_clo N).top M ⟨h.md.cl, fun a b w q => h.md.le a b w (Or.inl q)⟩) fun a b w q => h.md.le a b w (Or.inr q)
  have hS := stK_clo h.md.cl low (fun i hi => by rw [insAll_diag R free hd i]; simp [free])
  have e : M i j = stK (insAll free R) N i j := by
    refine h.uniq (hS.swap fun X => ⟨fun m => ⟨m.cl, fun a b w q ha hb => ?_⟩, fun m => ⟨m.cl, fun a b w ⟨_, _, q⟩ ha hb => ?_⟩⟩) hi hj
    · have g : ole (insAll free R a b) (some w) := by
        rcases q with ⟨rfl, rfl⟩ | q
        · refine ole_trans (insAll_dec R free 0 b) ?_
          simp [free, ole]
        · exact insAll_row R free a b w q
      cases e : insAll free R a b with
      | none => rw [e] at g; simp [ole] at g
      | some v =>
        rw [e] at g
        exact ole_trans (m.le a b v ⟨ha, hb, e⟩ ha hb) g
    · rw [← q]
      exact insAll_low R free ((free_clo N).top X ⟨m.cl, fun a b w q => m.le a b w (Or.inl q)⟩) (fun a b w q => m.le a b w (Or.inr q)) a b ha hb
  rw [e] at hc
  exact stK_ge hB (insAll_ge R free (fun i j c hc => by unfold free at hc; split at hc <;> cases hc; omega) hw) N i j c hc
end Cm

set_option Elab.async false
set_option linter.all false
set_option maxRecDepth 100000
set_option maxHeartbeats 3000000
/-! Common part, 24: has, all pairs, widened. -/
namespace Cm
open L2 PySem PySem.Spec PyProof.Rows RZ StX Dbm
section
variable {K : Frag} {H : Hp} {σ : L2.St} {te : TE} {t : TA} {QA : List V → Hp → Prop}
def StarOn (K : Frag) (t : TA) (σ : L2.St) (QA : List V → Hp → Prop) (x : V) (H1 : Hp) : Prop := ∃ p xs, x = V.ref p ∧ (SqT K H1 p xs ∨ SqL K H1 p xs) ∧ t σ H1 fun ys H2 => QA (xs ++ ys) H2
theorem g_star (h : te σ H (StarOn K t σ QA)) : tStar K te t σ H QA := h
theorem g_onStar {p : Addr} {xs : List V} (h : SqT K H p xs ∨ SqL K H p xs) (q : t σ H fun ys H2 => QA (xs ++ ys) H2) : StarOn K t σ QA (.ref p) H := ⟨p, xs, rfl, h, q⟩
theorem g_len2 {Q : VK} {p : Addr} {xs : List V} (h : SqT K H p xs ∨ SqL K H p xs) (q : Q (.int (xs.length : Nat)) H) : rLn K [.ref p] H Q := by
  rcases h with h | h
  · exact g_lenT h q
  · exact g_lenL h q
theorem g_ix2 {Q : VK} {p : Addr} {xs : List V} {n : Int} {v : V} (h : SqT K H p xs ∨ SqL K H p xs) (hi : atI xs n = some v) (q : Q v H) : rIx K (.ref p) (.int n) H Q := by
  rcases h with h | h
  · exact g_ixT h hi q
  · exact g_ixL h hi q
theorem sq2_up {H' : Hp} {p : Addr} {xs : List V} (e : Ex H H') (h : SqT K H p xs ∨ SqL K H p xs) : SqT K H' p xs ∨ SqL K H' p xs := h.imp (Evl.ex_t e) (Evl.ex_l e)
end
def numAt (vals : List Int) (i : Nat) : Int := (0 :: vals).getD i 0
/-- the values keep what the matrix says -/
def hasM (N : Nat) (M : Mx) (vals : List Int) : Prop := ∀ i j, i < N → j < N → ole (some (numAt vals i - numAt vals j)) (M i j)
def sp_Bounds_has (K : Frag) : Sp := fun vs H Q _ => ∃ (s : V) (n : Nat) (far : V) (M : Mx) (S : Cs) (p : Addr) (vals : List Int), vs = [s, .ref p] ∧ BdO K H s n far ∧ n ≤ 12 ∧ Dp K H far (mxD (n + 1) M) ∧ IsClo (n + 1) S M ∧ (SqT K H p (vals.map V.int) ∨ SqL K H p (vals.map V.int)) ∧ vals.length = n ∧
  ∀ b H', Ex H H' → (b = true ↔ hasM (n + 1) M vals) → Q (.bl b) H'
def wide (M : Mx) (tops : List Int) : Mx := fun i j => match M i j with
  | none => none
  | some w => if i = j then some w else if 0 < i ∧ tops.getD (i - 1) 0 < w then none else if 0 < j ∧ w < -tops.getD (j - 1) 0 - 1 then some (-tops.getD (j - 1) 0 - 1) else some w
def sp_Bounds_widened (K : Frag) : Sp := fun vs H Q _ => ∃ (s : V) (n : Nat) (far : V) (M : Mx) (S : Cs) (p : Addr) (tops : List Int), vs = [s, .ref p] ∧ BdO K H s n far ∧ 1 ≤ n ∧ n ≤ 12 ∧ Dp K H far (mxD (n + 1) M) ∧ IsClo (n + 1) S M ∧ (SqT K H p (tops.map V.int) ∨ SqL K H p (tops.map V.int)) ∧ tops.length = n ∧
  ∀ v' H', Ex H H' → BdAt K H' v' n (entS (n + 1) (wide M tops)) → Q v' H'
def sp_law_all_pairs (K : Frag) : Sp := fun vs H Q _ => ∃ n : Nat, vs = [.int n] ∧ n ≤ 12 ∧ ∀ p ys H', Ex H H' → H' p = some (.lst ys) → ys.length = (n + 1) * (n + 1) → (∀ (k : Nat) (y : V), ys[k]? = some y → ∃ t, y = .ref t ∧ SqT K H' t [.int (k / (n + 1) : Nat), .int (k % (n + 1) : Nat)]) → Q (.ref p) H'
def t_Bounds_widened (K : Frag) : TS := (tSeq (tIfS (tTest (tOp (xNe K) (tCB (rLn K) (tCons (tVar 1) tNil)) (tFld K (tVar 0) "own_many"))) tNo tNext) (tSeq (tAsg (tLc (iList K (tFld K (tVar 0) "far")) (gName 3) tYes (tCB (rList K) (tCons (tVar 3) tNil)) [3]) (gName 2)) (tSeq (tFor (iList K (tMeth (He.ga K "Bounds") "rows" (sp_Bounds_rows K) [] E0 (tVar 0) tNil)) (gTup K 3 (gCons (gName 4) (gCons (gName 5) (gCons (gName 6) gNil)))) (tIfS (tAnd (tTest (tOp xGt (tVar 4) (tC (.int 0)))) (tTest (tOp xGt (tVar 6) (tOp (rIx K) (tVar 1) (tOp xSub (tVar 4) (tC (.int 1))))))) (tAsg (tC .non) (gSub (tOp (rIx K) (tVar 2) (tVar 4)) (tVar 5) rSetL)) (tIfS (tAnd (tTest (tOp xGt (tVar 5) (tC (.int 0)))) (tTest (tOp xLt (tVar 6) (tOp xSub (tUn (rU fun i => .int (-i)) (tOp (rIx K) (tVar 1) (tOp xSub (tVar 5) (tC (.int 1))))) (tC (.int 1)))))) (tAsg (tOp xSub (tUn (rU fun i => .int (-i)) (tOp (rIx K) (tVar 1) (tOp xSub (tVar 5) (tC (.int 1))))) (tC (.int 1))) (gSub (tOp (rIx K) (tVar 2) (tVar 4)) (tVar 5) rSetL)) tNext))) (tRet (tMeth (He.ga K "Bounds") "with_matrix" (sp_Bounds_with_matrix K) [] E0 (tVar 0) (tCons (tCall (sp_closed K) [] E0 (tCons (tVar 2) tNil)) tNil))))))
theorem num_at {vals : List Int} {i : Nat} (h : i < vals.length + 1) : atI (V.int 0 :: vals.map V.int) (i : Int) = some (.int (numAt vals i)) := atI_nat (by
  rw [show V.int 0 :: vals.map V.int = (0 :: vals).map V.int from rfl, List.getElem?_map, List.getElem?_eq_getElem (by simpa using h)]
  unfold numAt
  rw [List.getD_eq_getElem?_getD, List.getElem?_eq_getElem (by simpa using h)]
  rfl)
theorem pure_law_all_pairs {K : Frag} (vs : List V) (H : Hp) (Q : VK) (E : XK) (h : sp_law_all_pairs K vs H Q E) : t_law_all_pairs K ⟨fun _ H' => Q .non H', Q, fun _ _ => False, fun _ _ => False⟩ (start ["size", "k"] vs) H := by
  obtain ⟨n, rfl, hn, q⟩ := h
  show tRet _ _ [some (.int n), none] H
  walk_at "run"
  have e2 : ((n : Int) + 1) ^ (2 : Int).toNat = (((n + 1) * (n + 1) : Nat) : Int) := by
    rw [show (2 : Int).toNat = 2 from rfl, Int.pow_succ, Int.pow_succ, Int.pow_zero, Int.one_mul]
    push_cast
    rfl
  refine g_pow ⟨by decide, by decide, by omega⟩ ?_
  rw [e2]
  have hnn : (n + 1) * (n + 1) ≤ 13 * 13 := Nat.mul_le_mul (by omega) (by omega)
  refine g_rng (by omega) (by omega) ?_
  rw [show ((((n + 1) * (n + 1) : Nat) : Int)).toNat = (n + 1) * (n + 1) from Int.toNat_natCast _]
  refine lc_all walk_range (by omega) (fun _ _ => trivial) (fun D k y H' => ∃ t, y = .ref t ∧ t ≠ D ∧ H' t = some (.tup [.int (k / (n + 1) : Nat), .int (k % (n + 1) : Nat)])) (fun D k v H H' e ⟨t, e1, e2, e3⟩ => ⟨t, e1, e2, e t _ e2 e3⟩) ?_ ?_
  · rintro D k x H2 H3 _ ⟨ys, hy⟩ hk e2 ⟨rfl, rfl⟩ Nt hN
    walk_at "run"
    refine ⟨rfl, ?_⟩
    simp only [Int.zero_add]
    walk_at "run"
    refine g_div (by omega) (small_log (by omega) (by omega)) ?_
    walk_at "run"
    refine g_mod (by omega) ?_
    walk_at "run"
    have d1 : (k : Int) / ((n : Int) + 1) = ((k / (n + 1) : Nat) : Int) := by push_cast; rfl
    have d2 : (k : Int) % ((n : Int) + 1) = ((k % (n + 1) : Nat) : Int) := by push_cast; rfl
    rw [d1, d2]
    refine g_newT fun t H4 ht e4 h4 => ?_
    exact hN _ _ e4 ⟨t, rfl, Ne.symm (ne_of_none hy ht), h4⟩
  · intro D ys H' hD e h hl hr
    exact q D ys H' e h hl fun k y hy => by obtain ⟨t, e1, _, e3⟩ := hr k y hy; exact ⟨t, e1, Evl.st_of e3⟩
theorem pure_Bounds_has {K : Frag} (bk : BndK K) (vs : List V) (H : Hp) (Q : VK) (E : XK) (h : sp_Bounds_has K vs H Q E) : t_Bounds_has K ⟨fun _ H' => Q .non H', Q, fun _ _ => False, fun _ _ => False⟩ (start ["self", "values", "numbers", "one", "other", "most"] vs) H := by
  obtain ⟨s, n, far, M, S, p, vals, rfl, hb, n2, hM, hc, hp, hl, q⟩ := h
  have hb0 := hb
  obtain ⟨a, dx, rfl, ha⟩ := hb
  show tSeq _ _ _ [some (.ref a), some (.ref p), none, none, none, none] H
  walk_at "run"
  refine g_len2 hp ?_
  walk_at "run"
  refine g_onF ha bk.cls bk.n1 look1 ?_
  walk_at "run"
  refine g_iteB (fun h => by simp [hl] at h) (fun _ => ?_)
  walk_at "run"
  refine g_star ?_
  walk_at "run"
  refine g_onStar hp ?_
  walk_at "run"
  rw [List.append_nil]
  refine g_newL (fun pn H1 _ e1 h1 => ?_) (by simp; omega)
  walk_at "run"
  refine g_onM (e1 _ _ ha) look3 ?_
  walk_at "run"
  refine ⟨_, n, far, M, rfl, hb0.ex e1, n2, up e1 hM, fun pr ys H2 _ e2 h2 hd => ?_⟩
  refine g_onL (Evl.sq_of h2) ?_
  have e12 := e1.trans e2
  have diag0 : ∀ i, i < n + 1 → ole (some (numAt vals i - numAt vals i)) (M i i) := fun i hi => by
    rw [hc.md.cl.diag i hi]
    simp [ole]
  refine for_on walk_list (fun t σ H' => (∃ x3 x4 x5 : Option V, σ = [some (.ref a), some (.ref p), some (.ref pn), x3, x4, x5]) ∧ Ex H2 H' ∧ ∀ r ∈ (ents (n + 1) M (n + 1)).take t, numAt vals r.1 - numAt vals r.2.1 ≤ r.2.2) ⟨⟨_, _, _, rfl⟩, Evl.Ex.refl _, by simp⟩ (fun _ _ H' _ p => Evl.sq_of (p.2.1 _ _ h2)) ?_ ?_
  · rintro t x σ H3 H4 ht ⟨⟨x3, x4, x5, rfl⟩, e3, hok⟩ ⟨rfl, hx⟩
    obtain ⟨r, hr, hdr⟩ := row_of hd hx
    obtain ⟨T, rfl, hT⟩ := tr_open (up e3 hdr)
    obtain ⟨i, j, hi, hj, hne, w, hm, rfl⟩ := ents_mem.mp (List.mem_of_getElem? hr)
    refine g_trip hT ?_
    walk_at "run"
    have hpn := Evl.sq_of (K := K) ((e2.trans e3) _ _ h1)
    refine g_ixL hpn (num_at (by omega)) ?_
    walk_at "run"
    refine g_ixL hpn (num_at (by omega)) ?_
    walk_at "run"
    refine g_iteB (fun h => ?_) (fun h => ?_)
    · walk_at "run"
      simp at h
      refine q false _ (e12.trans e3) ⟨(fun h => by cases h), fun hh => ?_⟩
      have := hh i j hi hj
      rw [hm] at this
      simp [ole] at this
      omega
    · walk_at "run"
      simp at h
      refine ⟨⟨_, _, _, rfl⟩, e3, fun r hr' => ?_⟩
      rw [List.take_add_one, hr] at hr'
      rcases List.mem_append.mp hr' with hr' | hr'
      · exact hok r hr'
      · simp at hr'
        subst hr'
        exact h
  · rintro σ' H3 ⟨⟨x3, x4, x5, rfl⟩, e3, hok⟩
    walk_at "run"
    refine q true _ (e12.trans e3) ⟨fun _ i j hi hj => ?_, fun _ => rfl⟩
    have hlen : ys.length = (ents (n + 1) M (n + 1)).length := by rw [dpa_len hd, List.length_map]
    rw [hlen, List.take_length] at hok
    by_cases e : i = j
    · subst e
      exact diag0 i hi
    · cases hm : M i j with
      | none => simp [ole]
      | some w => exact hok (i, j, w) (ents_mem.mpr ⟨i, j, hi, hj, e, w, hm, rfl⟩)
/-! ### widened -/
def wideT (M : Mx) (tops : List Int) (L : List Edge) : Mx := fun i j => if (i, j) ∈ L.map (fun r => (r.1, r.2.1)) then wide M tops i j else M i j
theorem wideT_add {M : Mx} {tops : List Int} {L : List Edge} {r : Edge} : wideT M tops (L ++ [r]) = setM (wideT M tops L) r.1 r.2.1 (wide M tops r.1 r.2.1) := by
  funext i j
  unfold setM wideT
  rw [List.map_append]
  by_cases e : i = r.1 ∧ j = r.2.1
  · obtain ⟨rfl, rfl⟩ := e
    rw [if_pos (by simp), if_pos ⟨rfl, rfl⟩]
  · rw [if_neg e]
    have : (i, j) ∈ (L.map fun r => (r.1, r.2.1)) ++ ([r].map fun r => (r.1, r.2.1)) ↔ (i, j) ∈ L.map fun r => (r.1, r.2.1) := by
      rw [List.mem_append]
      constructor
      · rintro (h | h)
        · exact h
        · simp at h
          exact absurd h e
      · exact Or.inl
    by_cases h : (i, j) ∈ L.map fun r => (r.1, r.2.1)
    · rw [if_pos (this.mpr h), if_pos h]
    · rw [if_neg fun g => h (this.mp g), if_neg h]
theorem setM_self {F : Mx} {i j : Nat} {c : OI} (h : F i j = c) : setM F i j c = F := by
  funext i' j'
  unfold setM
  split
  · rename_i e
    obtain ⟨rfl, rfl⟩ := e
    exact h.symm
  · rfl
theorem wide_le (M : Mx) (tops : List Int) (i j : Nat) : ole (M i j) (wide M tops i j) := by
  unfold wide
  cases M i j with
  | none => exact ole_refl _
  | some w =>
    dsimp only
    split
    · exact ole_refl _
    · split
      · simp [ole]
      · split
        · rename_i h
          show w ≤ _
          omega
        · exact ole_refl _
theorem top_at {tops : List Int} {i : Nat} (h0 : 0 < i) (h : i ≤ tops.length) : atI (tops.map V.int) ((i : Int) - 1) = some (.int (tops.getD (i - 1) 0)) := by
  rw [show (i : Int) - 1 = ((i - 1 : Nat) : Int) by omega]
  refine atI_nat ?_
  rw [List.getElem?_map, List.getElem?_eq_getElem (by omega), List.getD_eq_getElem?_getD, List.getElem?_eq_getElem (by omega)]
  rfl
theorem pure_Bounds_widened {K : Frag} (bk : BndK K) (vs : List V) (H : Hp) (Q : VK) (E : XK) (h : sp_Bounds_widened K vs H Q E) : t_Bounds_widened K ⟨fun _ H' => Q .non H', Q, fun _ _ => False, fun _ _ => False⟩ (start ["self", "caps", "found", "row", "one", "other", "most"] vs) H := by
  obtain ⟨s, n, far, M, S, p, tops, rfl, hb, n1, n2, hM, hc, hp, hl, q⟩ := h
  have hb0 := hb
  obtain ⟨a, dx, rfl, ha⟩ := hb
  show tSeq _ _ _ [some (.ref a), some (.ref p), none, none, none, none, none] H
  walk_at "run"
  refine g_len2 hp ?_
  walk_at "run"
  refine g_onF ha bk.cls bk.n1 look1 ?_
  walk_at "run"
  refine g_iteB (fun h => by simp [hl] at h) (fun _ => ?_)
  walk_at "run"
  refine g_onF ha bk.cls bk.n2 look2 ?_
  obtain ⟨f0, xs, rfl, hfs, hfl, hfr⟩ := mx_open hM
  refine g_onL hfs ?_
  refine lc_copy (by omega) hfs hfl hfr (by simp) fun fa rs H1 m0 => ?_
  walk_at "run"
  refine g_onM (m0.ex _ _ ha) look3 ?_
  walk_at "run"
  refine ⟨_, n, _, M, rfl, hb0.ex m0.ex, n2, up m0.ex hM, fun pr ys H2 hpr e2 h2 hd => ?_⟩
  refine g_onL (Evl.sq_of h2) ?_
  have npr : ∀ (i : Nat) (r : Addr), rs[i]? = some r → pr ≠ r := fun i r hr z => by
    have h1 := m0.row i r hr
    rw [← z, hpr] at h1
    cases h1
  have hlen : ys.length = (ents (n + 1) M (n + 1)).length := by rw [dpa_len hd, List.length_map]
  have memL : ∀ r : Edge, r ∈ ents (n + 1) M (n + 1) ↔ ∃ i j, i < n + 1 ∧ j < n + 1 ∧ i ≠ j ∧ ∃ w, M i j = some w ∧ r = (i, j, w) := fun r => ents_mem
  generalize ents (n + 1) M (n + 1) = L at hd hlen memL
  have m2 := m0.up e2
  refine for_on walk_list (fun t σ H' => (∃ x3 x4 x5 x6 : Option V, σ = [some (.ref a), some (.ref p), some (.ref fa), x3, x4, x5, x6]) ∧ H' pr = some (.lst ys) ∧ DpAll K H' ys (L.map trD) ∧ MxH H H' fa rs (n + 1) (wideT M tops (L.take t))) ⟨⟨_, _, _, _, rfl⟩, h2, hd, m2.congr fun i j _ _ => by unfold wideT; simp⟩ (fun _ _ H' _ q => Evl.sq_of q.2.1) ?_ ?_
  · rintro t x σ H3 H4 ht ⟨⟨x3, x4, x5, x6, rfl⟩, h3, hd3, m⟩ ⟨rfl, hx⟩
    obtain ⟨r, hr, hdr⟩ := row_of hd3 hx
    obtain ⟨T, rfl, hT⟩ := tr_open hdr
    obtain ⟨i, j, hi, hj, hne, w, hm, rfl⟩ := (memL r).mp (List.mem_of_getElem? hr)
    refine g_trip hT ?_
    have eL : L.take (t + 1) = L.take t ++ [(i, j, w)] := by rw [List.take_add_one, hr]; rfl
    have hp4 := sq2_up m.ex hp
    have F1 : wideT M tops (L.take t) i j = some w ∨ wideT M tops (L.take t) i j = wide M tops i j := by
      unfold wideT
      split
      · exact Or.inr rfl
      · exact Or.inl hm
    -- the matrix is as it was
    have same : wide M tops i j = some w → (∃ x3' x4' x5' x6' : Option V, [some (V.ref a), some (.ref p), some (.ref fa), x3, some (.int (i : Nat)), some (.int (j : Nat)), some (.int w)] = [some (.ref a), some (.ref p), some (.ref fa), x3', x4', x5', x6']) ∧ H4 pr = some (.lst ys) ∧ DpAll K H4 ys (L.map trD) ∧ MxH H H4 fa rs (n + 1) (wideT M tops (L.take (t + 1))) := fun e => by
      refine ⟨⟨_, _, _, _, rfl⟩, h3, hd3, ?_⟩
      rw [eL, wideT_add]
      show MxH _ _ _ _ _ (setM (wideT M tops (L.take t)) i j (wide M tops i j))
      rw [setM_self]
      · exact m
      · rcases F1 with f | f
        · rw [f, e]
        · exact f
    have put : ∀ (ri : Addr) (c : OI), rs[i]? = some ri → wide M tops i j = c → (∃ x3' x4' x5' x6' : Option V, [some (V.ref a), some (.ref p), some (.ref fa), x3, some (.int (i : Nat)), some (.int (j : Nat)), some (.int w)] = [some (.ref a), some (.ref p), some (.ref fa), x3', x4', x5', x6']) ∧ (upd H4 ri (.lst ((rowV (n + 1) (wideT M tops (L.take t)) i).set j (cellV c)))) pr = some (.lst ys) ∧ DpAll K (upd H4 ri (.lst ((rowV (n + 1) (wideT M tops (L.take t)) i).set j (cellV c)))) ys (L.map trD) ∧ MxH H (upd H4 ri (.lst ((rowV (n + 1) (wideT M tops (L.take t)) i).set j (cellV c)))) fa rs (n + 1) (wideT M tops (L.take (t + 1))) := fun ri c hri e => by
      refine ⟨⟨_, _, _, _, rfl⟩, by rw [upd_ne (npr i ri hri)]; exact h3, trs_exl (m.row i ri hri) ExB.upd hd3, ?_⟩
      rw [eL, wideT_add]
      show MxH _ _ _ _ _ (setM (wideT M tops (L.take t)) i j (wide M tops i j))
      rw [e]
      exact m.set hri hj
    walk_at "run"
    have second : ¬ (0 < i ∧ tops.getD (i - 1) 0 < w) → tIfS (tAnd (tTest (tOp xGt (tVar 5) (tC (.int 0)))) (tTest (tOp xLt (tVar 6) (tOp xSub (tUn (rU fun i => .int (-i)) (tOp (rIx K) (tVar 1) (tOp xSub (tVar 5) (tC (.int 1))))) (tC (.int 1)))))) (tAsg (tOp xSub (tUn (rU fun i => .int (-i)) (tOp (rIx K) (tVar 1) (tOp xSub (tVar 5) (tC (.int 1))))) (tC (.int 1))) (gSub (tOp (rIx K) (tVar 2) (tVar 4)) (tVar 5) rSetL)) tNext
        ⟨fun σ H' => (∃ x3 x4 x5 x6 : Option V, σ = [some (V.ref a), some (.ref p), some (.ref fa), x3, x4, x5, x6]) ∧ H' pr = some (.lst ys) ∧ DpAll K H' ys (L.map trD) ∧ MxH H H' fa rs (n + 1) (wideT M tops (L.take (t + 1))), Q, fun _ _ => True, fun _ _ => True⟩
        [some (V.ref a), some (.ref p), some (.ref fa), x3, some (.int (i : Nat)), some (.int (j : Nat)), some (.int w)] H4 := fun hno => by
      walk_at "run"
      refine g_iteB (fun h => ?_) (fun h => ?_)
      · walk_at "run"
        simp at h
        refine g_ix2 hp4 (top_at (by omega) (by omega)) ?_
        walk_at "run"
        refine g_iteB (fun h5 => ?_) (fun h5 => ?_)
        · walk_at "run"
          refine g_ix2 hp4 (top_at (by omega) (by omega)) ?_
          walk_at "run"
          refine g_mr m hi fun ri hri => ?_
          walk_at "run"
          refine g_setL (m.row _ _ hri) (by rw [row_len]; exact ixN_nat hj) ?_
          simp at h5
          refine put ri (some (-tops.getD (j - 1) 0 - 1)) hri ?_
          unfold wide
          rw [hm]
          dsimp only
          rw [if_neg hne, if_neg hno, if_pos ⟨h, by simpa using h5⟩]
        · walk_at "run"
          simp at h5
          refine same ?_
          unfold wide
          rw [hm]
          dsimp only
          rw [if_neg hne, if_neg hno, if_neg fun g => by have := g.2; simp at this; omega]
      · walk_at "run"
        refine g_iteB (fun h => by cases h) (fun _ => ?_)
        walk_at "run"
        simp at h
        refine same ?_
        unfold wide
        rw [hm]
        dsimp only
        rw [if_neg hne, if_neg hno, if_neg fun g => by omega]
    refine g_iteB (fun h => ?_) (fun h => ?_)
    · walk_at "run"
      simp at h
      refine g_ix2 hp4 (top_at (by omega) (by omega)) ?_
      walk_at "run"
      refine g_iteB (fun h5 => ?_) (fun h5 => ?_)
      · walk_at "run"
        refine g_mr m hi fun ri hri => ?_
        walk_at "run"
        refine g_setL (m.row _ _ hri) (by rw [row_len]; exact ixN_nat hj) ?_
        simp at h5
        refine put ri none hri ?_
        unfold wide
        rw [hm]
        dsimp only
        rw [if_neg hne, if_pos ⟨h, by simpa using h5⟩]
      · simp at h5
        exact second fun g => by have := g.2; simp at this; omega
    · refine g_iteB (fun h => by cases h) (fun _ => ?_)
      simp at h
      exact second fun g => by omega
  · rintro σ' H3 ⟨⟨x3, x4, x5, x6, rfl⟩, h3, hd3, m⟩
    rw [hlen, List.take_length] at m
    have mw : MxH H H3 fa rs (n + 1) (wide M tops) := m.congr fun i j hi hj => by
      unfold wideT
      split
      · rfl
      · rename_i hno
        by_cases e : i = j
        · subst e
          unfold wide
          rw [hc.md.cl.diag i hi]
          simp
        · cases hm : M i j with
          | none => unfold wide; rw [hm]
          | some w => exact absurd (List.mem_map.mpr ⟨(i, j, w), (memL _).mpr ⟨i, j, hi, hj, e, w, hm, rfl⟩, rfl⟩) hno
    walk_at "run"
    refine g_onM (mw.ex _ _ ha) look3 ?_
    walk_at "run"
    refine ⟨_, n + 1, wide M tops, M, rfl, by omega, mw.dp, hc.md.cl, fun i j _ _ => wide_le M tops i j, fun i hi => ?_, fun v' M' H5 e5 hM' hc' => ?_⟩
    · unfold wide
      rw [hc.md.cl.diag i hi]
      simp
    · walk_at "run"
      refine ⟨_, n, _, v', rfl, hb0.ex (mw.ex.trans e5), n1, n2, Or.inr ⟨?_, fun v2 H6 e6 h6 => q v2 H6 ((mw.ex.trans e5).trans e6) ⟨⟨v', M', h6, up e6 hM', hc'⟩, n1, n2⟩⟩⟩
      obtain ⟨fb, _, rfl, _⟩ := mx_open hM'
      exact fun h => by cases h
end Cm

set_option Elab.async false
set_option linter.all false
set_option maxRecDepth 100000
set_option maxHeartbeats 3000000
/-! The layer of data, 1: data, what it is in the heap, environments, what a reading has to do with one over data. -/
namespace Dl
open L2 PySem PySem.Spec PyProof.Rows RZ StX Cm
inductive Dt where
  | non
  | bl (b : Bool)
  | int (i : Int)
  | str (s : Str)
  | ty (t : String)
  | cls (c : Str)
  | bag
  | py (d : PyData)
  | lst (l : List Dt)
  | tup (l : List Dt)
  | obj (c : Str) (fs : List (Str × Dt))
  | exc (c : Str) (fs : List (Str × Dt))
  | pin (a d : Addr) (c : Str) (fs : List (Str × Dt))
  | dct (kvs : List (Str × Dt))
  | hob (ψ : Hp → Addr → Prop)
def keyed (kvs : List (Str × V)) : List (Key × V) := kvs.map fun p => (.inr p.1, p.2)
section
variable (K : Frag) (H : Hp)
mutual
inductive Rp : V → Dt → Prop
  | non : Rp .non .non
  | bl (b : Bool) : Rp (.bl b) (.bl b)
  | int (i : Int) : Rp (.int i) (.int i)
  | str (s : Str) : Rp (.str s) (.str s)
  | ty (t : String) : Rp (.ty t) (.ty t)
  | cls (c : Str) : Rp (.ref (He.ga K c)) (.cls c)
  | bag {b : Addr} : Bag H b → Rp (.ref b) .bag
  | py {v : V} {d : PyData} : Dp K H v d → Rp v (.py d)
  | lst {a : Addr} {xs : List V} {l : List Dt} : H a = some (.lst xs) → Rps xs l → Rp (.ref a) (.lst l)
  | tup {a : Addr} {xs : List V} {l : List Dt} : SqT K H a xs → Rps xs l → Rp (.ref a) (.tup l)
  | obj {a dx : Addr} {c : Str} {fs : List (Str × V)} {l : List (Str × Dt)} : H a = some (.ins (He.ga K c) dx fs) → Rfs fs l → Rp (.ref a) (.obj c l)
  | exc {a dx : Addr} {c : Str} {fs : List (Str × V)} {l : List (Str × Dt)} : H a = some (exo a (He.ga K c) (some dx)) → H dx = some (exd dx fs) → Rfs fs l → Rp (.ref a) (.exc c l)
  | pin {a d : Addr} {c : Str} {fs : List (Str × V)} {l : List (Str × Dt)} : H d = some (.xd fs) → Rfs fs l → Rp (.ref a) (.pin a d c l)
  | dct {a : Addr} {fs : List (Str × V)} {l : List (Str × Dt)} : H a = some (.dK (keyed fs)) → Rfs fs l → Rp (.ref a) (.dct l)
  | hob {a : Addr} {ψ : Hp → Addr → Prop} : (∀ H', Ex H H' → ψ H' a) → Rp (.ref a) (.hob ψ)
inductive Rps : List V → List Dt → Prop
  | nil : Rps [] []
  | cons {v : V} {vs : List V} {d : Dt} {ds : List Dt} : Rp v d → Rps vs ds → Rps (v :: vs) (d :: ds)
inductive Rfs : List (Str × V) → List (Str × Dt) → Prop
  | nil : Rfs [] []
  | cons {f : Str} {v : V} {d : Dt} {vs : List (Str × V)} {ds : List (Str × Dt)} : Rp v d → Rfs vs ds → Rfs ((f, v) :: vs) ((f, d) :: ds)
end
end
section
variable {K : Frag} {H H' : Hp}
mutual
theorem rp_ex (e : Ex H H') : ∀ {v : V} {d : Dt}, Rp K H v d → Rp K H' v d
  | _, _, .non => .non
  | _, _, .bl b => .bl b
  | _, _, .int i => .int i
  | _, _, .str i => .str i
  | _, _, .ty i => .ty i
  | _, _, .cls c => .cls c
  | _, _, .bag h => .bag (h.ex e)
  | _, _, .py h => .py (Cm.up e h)
  | _, _, .lst h r => .lst (e _ _ h) (rps_ex e r)
  | _, _, .tup h r => .tup (Evl.ex_t e h) (rps_ex e r)
  | _, _, .obj h r => .obj (e _ _ h) (rfs_ex e r)
  | _, _, .exc h1 h2 r => .exc (e _ _ h1) (e _ _ h2) (rfs_ex e r)
  | _, _, .pin h r => .pin (e _ _ h) (rfs_ex e r)
  | _, _, .dct h r => .dct (e _ _ h) (rfs_ex e r)
  | _, _, .hob h => .hob fun H2 e2 => h H2 (e.trans e2)
theorem rps_ex (e : Ex H H') : ∀ {vs : List V} {ds : List Dt}, Rps K H vs ds → Rps K H' vs ds
  | _, _, .nil => .nil
  | _, _, .cons h r => .cons (rp_ex e h) (rps_ex e r)
theorem rfs_ex (e : Ex H H') : ∀ {vs : List (Str × V)} {ds : List (Str × Dt)}, Rfs K H vs ds → Rfs K H' vs ds
  | _, _, .nil => .nil
  | _, _, .cons h r => .cons (rp_ex e h) (rfs_ex e r)
end
theorem lst_extn {a : Addr} {xs : List V} (e : LamX.ExtN H H') (h : SqL K H a xs) : SqL K H' a xs := by
  rcases h with (h | ⟨o, h⟩) | h
  · exact .inl (.inl (e _ _ h (by intro ps z; cases z)))
  · exact .inl (.inr ⟨o, e _ _ h (by intro ps z; cases z)⟩)
  · exact .inr h
theorem tup_extn {a : Addr} {xs : List V} (e : LamX.ExtN H H') (h : SqT K H a xs) : SqT K H' a xs := by
  rcases h with (h | ⟨o, h⟩) | h
  · exact .inl (.inl (e _ _ h (by intro ps z; cases z)))
  · exact .inl (.inr ⟨o, e _ _ h (by intro ps z; cases z)⟩)
  · exact .inr h
mutual
theorem dp_extn (e : LamX.ExtN H H') : ∀ (d : PyData) (v : V), Dp K H v d → Dp K H' v d
  | .none, _, h => by cases h; exact .non
  | .bool b, _, h => by cases h; exact .bl b
  | .int i, _, h => by cases h; exact .int i
  | .str x, _, h => by cases h; exact .str x
  | .list ds, _, h => by
    cases h with
    | lst hs ha => exact .lst (lst_extn e hs) (dpa_extn e ds _ ha)
  | .tuple ds, _, h => by
    cases h with
    | tup hs ha => exact .tup (tup_extn e hs) (dpa_extn e ds _ ha)
  | .dict _, _, h => by cases h
theorem dpa_extn (e : LamX.ExtN H H') : ∀ (ds : List PyData) (vs : List V), DpAll K H vs ds → DpAll K H' vs ds
  | [], _, h => by cases h; exact .nil
  | d :: ds, _, h => by
    cases h with
    | cons h1 h2 => exact .cons (dp_extn e d _ h1) (dpa_extn e ds _ h2)
end
theorem rps_len : ∀ {vs : List V} {ds : List Dt}, Rps K H vs ds → vs.length = ds.length
  | _, _, .nil => rfl
  | _, _, .cons _ r => congrArg Nat.succ (rps_len r)
theorem rps_app : ∀ {vs ws : List V} {ds es : List Dt}, Rps K H vs ds → Rps K H ws es → Rps K H (vs ++ ws) (ds ++ es)
  | _, _, _, _, .nil, h => h
  | _, _, _, _, .cons a r, h => .cons a (rps_app r h)
theorem rps_get : ∀ {vs : List V} {ds : List Dt} {i : Nat} {v : V}, Rps K H vs ds → vs[i]? = some v → ∃ d, ds[i]? = some d ∧ Rp K H v d
  | _, _, _, _, .nil, e => by simp at e
  | _, _, 0, _, .cons h _, e => by
    simp at e
    subst e
    exact ⟨_, rfl, h⟩
  | _, _, i + 1, v, .cons _ t, e => by
    obtain ⟨d, h1, h2⟩ := rps_get (i := i) (v := v) t (by simpa using e)
    exact ⟨d, by simpa using h1, h2⟩
theorem rps_of : ∀ {vs : List V} {ds : List Dt} {i : Nat} {d : Dt}, Rps K H vs ds → ds[i]? = some d → ∃ v, vs[i]? = some v ∧ Rp K H v d
  | _, _, _, _, .nil, e => by simp at e
  | _, _, 0, _, .cons h _, e => by
    simp at e
    subst e
    exact ⟨_, rfl, h⟩
  | _, _, i + 1, v, .cons _ t, e => by
    obtain ⟨d, h1, h2⟩ := rps_of (i := i) (d := v) t (by simpa using e)
    exact ⟨d, by simpa using h1, h2⟩
theorem rps_drop : ∀ {vs : List V} {ds : List Dt} (k : Nat), Rps K H vs ds → Rps K H (vs.drop k) (ds.drop k)
  | _, _, 0, h => h
  | _, _, _ + 1, .nil => .nil
  | _, _, k + 1, .cons _ t => rps_drop k t
theorem rps_take : ∀ {vs : List V} {ds : List Dt} (k : Nat), Rps K H vs ds → Rps K H (vs.take k) (ds.take k)
  | _, _, 0, _ => .nil
  | _, _, _ + 1, .nil => .nil
  | _, _, k + 1, .cons a t => .cons a (rps_take k t)
theorem rps_set : ∀ {vs : List V} {ds : List Dt} (k : Nat) {v : V} {d : Dt}, Rps K H vs ds → Rp K H v d → Rps K H (vs.set k v) (ds.set k d)
  | _, _, _, _, _, .nil, _ => .nil
  | _, _, 0, _, _, .cons _ t, h => .cons h t
  | _, _, k + 1, _, _, .cons a t, h => .cons a (rps_set k t h)
theorem rps_reps {v : V} {d : Dt} (h : Rp K H v d) : ∀ n : Nat, Rps K H (List.replicate n v) (List.replicate n d)
  | 0 => .nil
  | n + 1 => .cons h (rps_reps h n)
theorem rfs_look : ∀ {vs : List (Str × V)} {ds : List (Str × Dt)} {f : Str} {d : Dt}, Rfs K H vs ds → ds.lookup f = some d → ∃ v, vs.lookup f = some v ∧ Rp K H v d
  | _, _, _, _, .nil, e => by cases e
  | _, _, f, d, .cons (f := g) (v := v) (d := e) h t, q => by
    rw [List.lookup_cons] at q ⊢
    cases hg : (f == g) with
    | true => rw [hg] at q; cases q; exact ⟨v, rfl, h⟩
    | false => rw [hg] at q; exact rfs_look t q
theorem rfs_none : ∀ {vs : List (Str × V)} {ds : List (Str × Dt)} {f : Str}, Rfs K H vs ds → ds.lookup f = none → vs.lookup f = none
  | _, _, _, .nil, _ => rfl
  | _, _, f, .cons (f := g) (v := v) (d := e) h t, q => by
    rw [List.lookup_cons] at q ⊢
    cases hg : (f == g) with
    | true => rw [hg] at q; cases q
    | false => rw [hg] at q; exact rfs_none t q
theorem rfs_len : ∀ {vs : List (Str × V)} {ds : List (Str × Dt)}, Rfs K H vs ds → vs.length = ds.length
  | _, _, .nil => rfl
  | _, _, .cons _ r => congrArg Nat.succ (rfs_len r)
/-- a field put in -/
def putD (f : Str) (y : Dt) : List (Str × Dt) → List (Str × Dt)
  | [] => [(f, y)]
  | (g, z) :: r => if g = f then (g, y) :: r else (g, z) :: putD f y r
theorem rfs_put {f : Str} {v : V} {d : Dt} (h : Rp K H v d) : ∀ {vs : List (Str × V)} {ds : List (Str × Dt)}, Rfs K H vs ds → Rfs K H (putF f v vs) (putD f d ds)
  | _, _, .nil => .cons h .nil
  | _, _, .cons (f := g) (v := w) (d := e) a t => by
    unfold putF putD
    by_cases e : g = f
    · rw [if_pos e, if_pos e]
      exact .cons h t
    · rw [if_neg e, if_neg e]
      exact .cons a (rfs_put h t)
end
/-! ### environments -/
inductive Cell where
  | v (d : Dt)
  | l (ds : List Dt)
  | o (c : Str) (fs : List (Str × Dt))
abbrev Env := List (Option Cell)
def own : Option Cell → Bool
  | some (.l _) => true
  | some (.o _ _) => true
  | _ => false
def SlotOk (K : Frag) (G H : Hp) (x : Option V) : Option Cell → Prop
  | none => True
  | some (.v d) => ∃ v, x = some v ∧ Rp K G v d
  | some (.l ds) => ∃ p xs, x = some (.ref p) ∧ G p = none ∧ H p = some (.lst xs) ∧ Rps K G xs ds
  | some (.o c fs) => ∃ p dx vs, x = some (.ref p) ∧ G p = none ∧ H p = some (.ins (He.ga K c) dx vs) ∧ Rfs K G vs fs
/-- nothing stands there, or a code table (no data tells of those) -/
def Free (H : Hp) (a : Addr) : Prop := H a = none ∨ ∃ ps, H a = some (.tbl ps)
theorem Free.no {H : Hp} {a : Addr} {o : HO} (f : Free H a) (h : H a = some o) (hn : ∀ ps, o ≠ .tbl ps) : False := by
  rcases f with f | ⟨ps, f⟩ <;> (rw [h] at f; cases f)
  exact hn ps rfl
theorem lst_tbl {xs : List V} : ∀ ps, HO.lst xs ≠ .tbl ps := fun ps z => by cases z
theorem ins_tbl {C dx : Addr} {fs : List (Str × V)} : ∀ ps, HO.ins C dx fs ≠ .tbl ps := fun ps z => by cases z
/-- all stands, but code tables -/
def Exh (H H' : Hp) : Prop := ∀ a o, H a = some o → H' a = some o ∨ ∃ ps, o = .tbl ps
theorem Exh.of {H H' : Hp} (e : Ex H H') : Exh H H' := fun a o h => .inl (e a o h)
theorem Exh.refl (H : Hp) : Exh H H := fun a o h => .inl h
theorem Exh.trans {H H1 H2 : Hp} (x : Exh H H1) (y : Exh H1 H2) : Exh H H2 := fun a o h => by
  rcases x a o h with h1 | h1
  · exact y a o h1
  · exact .inr h1
theorem Exh.back {H H' : Hp} (x : Exh H H') {p : Addr} (h : Free H' p) : Free H p := by
  cases e : H p with
  | none => exact .inl e
  | some o =>
    rcases x p o e with z | ⟨ps, rfl⟩
    · rcases h with h | ⟨ps, h⟩
      · rw [h] at z; cases z
      · rw [h] at z; cases z; exact .inr ⟨ps, e⟩
    · exact .inr ⟨ps, e⟩
theorem Exh.get {H H' : Hp} (x : Exh H H') {a : Addr} {o : HO} (h : H a = some o) (hn : ∀ ps, o ≠ .tbl ps) : H' a = some o := by
  rcases x a o h with z | ⟨ps, z⟩
  · exact z
  · exact absurd z (hn ps)
theorem Exh.mut {H H' : Hp} (x : Exh H H') {p : Addr} {o : HO} (h : Free H p) : Exh H (upd H' p o) := fun a u ha => by
  by_cases hne : a = p
  · subst hne
    rcases h with h | ⟨ps, h⟩
    · rw [h] at ha; cases ha
    · rw [h] at ha; cases ha; exact .inr ⟨ps, rfl⟩
  · rw [upd_ne hne]
    exact x a u ha
theorem tabs_ex {T : List (Addr × Str)} {H H' : Hp} (e : Ex H H') : LamX.Tabs T H → LamX.Tabs T H' := fun t => t.ext e
theorem tabs_mut {T : List (Addr × Str)} {H : Hp} {p : Addr} {o u : HO} (h : H p = some o) (hn : ∀ ps, o ≠ .tbl ps) (he : ∀ φ, o ≠ .ext φ) (t : LamX.Tabs T H) : LamX.Tabs T (upd H p u) := fun x hx => by
  obtain ⟨ps, h1, h2, h3⟩ := t x hx
  have n1 : x.1 ≠ p := fun z => by rw [z, h] at h1; cases h1; exact hn _ rfl
  refine ⟨ps, by rw [upd_ne n1]; exact h1, h2, fun pos cv hc => ?_⟩
  obtain ⟨c, e1, e2⟩ := h3 pos cv hc
  have n2 : c ≠ p := fun z => by
    rw [z, h] at e2
    unfold LamX.CodeO at e2
    cases e2
    exact he _ rfl
  exact ⟨c, e1, by rw [upd_ne n2]; exact e2⟩
/-- how a def is told of: p: what stood elsewhere may be told of, too; T: the tables of code objects -/
structure Md where
  p : Prop
  T : List (Addr × Str)
/-- without p -/
abbrev Md.np (m : Md) : Md := ⟨False, m.T⟩
/-- no table is told of anew -/
def NoTb (G G' : Hp) : Prop := ∀ a ps, G' a = some (.tbl ps) → G a = some (.tbl ps)
theorem NoTb.one {G G' : Hp} {p : Addr} {o : HO} (n : NoTb G G') (h : ∀ ps, o ≠ .tbl ps) : NoTb G (upd G' p o) := fun a ps e => by
  by_cases ea : a = p
  · subst ea; rw [upd_same] at e; cases e; exact absurd rfl (h ps)
  · rw [upd_ne ea] at e; exact n a ps e
theorem NoTb.refl (G : Hp) : NoTb G G := fun _ _ h => h
structure New (m : Md) (G H G' H' : Hp) : Prop where
  g : Ex G G'
  h : Exh H H'
  s : Ex G' H'
  n : ∀ a o, G' a = some o → G a = some o ∨ Free H a ∨ m.p
  t : LamX.Tabs m.T H → LamX.Tabs m.T H'
  q : NoTb G G'
section
variable {m : Md} {G H G1 H1 G2 H2 : Hp}
theorem New.refl (s : Ex G H) : New m G H G H := ⟨Evl.Ex.refl _, Exh.refl _, s, fun a o h => Or.inl h, id, NoTb.refl _⟩
theorem New.wk (a : New m.np G H G1 H1) : New m G H G1 H1 := ⟨a.g, a.h, a.s, fun x o h => (a.n x o h).imp_right fun h => h.elim Or.inl False.elim, a.t, a.q⟩
theorem New.wk2 {p : Prop} {T : List (Addr × Str)} (a : New ⟨False, T⟩ G H G1 H1) : New ⟨p, T⟩ G H G1 H1 := New.wk (m := ⟨p, T⟩) a
theorem New.trans (a : New m G H G1 H1) (b : New m G1 H1 G2 H2) : New m G H G2 H2 := by
  refine ⟨a.g.trans b.g, a.h.trans b.h, b.s, fun x o h => ?_, fun t => b.t (a.t t), fun x ps h => a.q x ps (b.q x ps h)⟩
  rcases b.n x o h with h | h | h
  · exact a.n x o h
  · exact Or.inr (Or.inl (a.h.back h))
  · exact Or.inr (Or.inr h)
theorem ex_upd {G H : Hp} (s : Ex G H) {a : Addr} {o : HO} : Ex (upd G a o) (upd H a o) := fun b u h => by
  by_cases e : b = a
  · subst e; rw [upd_same] at h ⊢; exact h
  · rw [upd_ne e] at h ⊢; exact s _ _ h
theorem New.one (s : Ex G H) {a : Addr} {o : HO} (ha : H a = none) (hn : ∀ ps, o ≠ .tbl ps := by intro ps z; cases z) : New m G H (upd G a o) (upd H a o) := by
  refine ⟨Evl.Ex.new (Evl.fresh_back s ha), .of (Evl.Ex.new ha), ex_upd s, fun x u h => ?_, tabs_ex (Evl.Ex.new ha), (NoTb.refl G).one hn⟩
  by_cases e : x = a
  · subst e; exact Or.inr (Or.inl (Or.inl ha))
  · rw [upd_ne e] at h; exact Or.inl h
/-- the heap alone grows -/
theorem New.grow (s : Ex G H) (e : Ex H H1) : New m G H G H1 := ⟨Evl.Ex.refl _, .of e, s.trans e, fun a o h => Or.inl h, tabs_ex e, NoTb.refl _⟩
end
abbrev ER := Str → List (Str × Dt) → Prop
/-- what a def's proof goes by: its heaps at the entry, the object that it makes, where its errors go -/
structure Lk extends Md where
  pb : Prop
  pp : p → pb
  w : Prop
  G0 : Hp
  H0 : Hp
  xo : Option Addr
  E : XK
  er : ER
abbrev Lk.m (lk : Lk) : Md := lk.toMd
/-- the same def, in a comprehension -/
abbrev Lk.nx (lk : Lk) : Lk := ⟨⟨False, lk.T⟩, lk.pb, False.elim, lk.w, lk.G0, lk.H0, lk.xo, C8.E0, fun _ _ => False⟩
structure Bas (lk : Lk) (G H : Hp) : Prop where
  gx : Ex lk.G0 G
  hb : ∀ a o, lk.xo ≠ some a → lk.H0 a = some o → H a = some o ∨ ∃ ps, o = .tbl ps
  gn : ∀ a o, G a = some o → lk.G0 a = some o ∨ Free lk.H0 a ∨ lk.xo = some a ∨ lk.pb
  tb : LamX.Tabs lk.T lk.H0 → LamX.Tabs lk.T H
  gq : NoTb lk.G0 G
theorem Bas.fr {lk : Lk} {G H : Hp} (b : Bas lk G H) {a : Addr} (h : Free H a) : Free lk.H0 a ∨ lk.xo = some a := by
  by_cases e : lk.xo = some a
  · exact Or.inr e
  · cases h0 : lk.H0 a with
    | none => exact Or.inl (Or.inl h0)
    | some o =>
      rcases b.hb a o e h0 with z | ⟨ps, rfl⟩
      · rcases h with h | ⟨ps, h⟩
        · rw [h] at z; cases z
        · rw [h] at z; cases z; exact Or.inl (Or.inr ⟨ps, h0⟩)
      · exact Or.inl (Or.inr ⟨ps, h0⟩)
theorem Bas.new {lk : Lk} {G H G' H' : Hp} (b : Bas lk G H) (n : New lk.m G H G' H') : Bas lk G' H' := by
  refine ⟨b.gx.trans n.g, fun a o e h => (by
    rcases b.hb a o e h with z | z
    · exact n.h a o z
    · exact .inr z), fun a o h => ?_, fun t => n.t (b.tb t), fun a ps h => b.gq a ps (n.q a ps h)⟩
  rcases n.n a o h with h | h | h
  · exact b.gn a o h
  · exact Or.inr ((b.fr h).imp_right Or.inl)
  · exact Or.inr (Or.inr (Or.inr (lk.pp h)))
/-- errors told of reach their place -/
def ErK (lk : Lk) (K : Frag) : Prop := ∀ (G' H' : Hp) (c : Str) (fs : List (Str × Dt)) (d : Addr) (us : List (Str × V)), Bas lk G' H' → Ex G' H' → G' d = some (.xd us) → Rfs K G' us fs → lk.er c fs → lk.E (.ref (He.ga K c)) (some d) H'
structure Rep0 (lk : Prop) (K : Frag) (G : Hp) (σ : L2.St) (H : Hp) (ρ : Env) : Prop where
  sub : Ex G H
  len : σ.length = ρ.length
  at_ : ∀ i, SlotOk K G H (σ.getD i none) (ρ.getD i none)
  dj : ∀ i j p, i ≠ j → own (ρ.getD i none) = true → own (ρ.getD j none) = true → σ.getD i none = some (.ref p) → σ.getD j none = some (.ref p) → False
  no : lk → ∀ i, own (ρ.getD i none) = false
section
variable {lk : Prop} {m : Md} {K : Frag} {G H G' H' : Hp} {σ : L2.St} {ρ : Env}
theorem SlotOk.new {x : Option V} {c : Option Cell} (n : New m G H G' H') (hl : m.p → own c = false) (h : SlotOk K G H x c) : SlotOk K G' H' x c := by
  have fr : own c = true → ∀ {p : Addr} {o : HO}, G p = none → H p = some o → (∀ ps, o ≠ .tbl ps) → G' p = none := fun ho {p o} h1 h2 hn => by
    cases e : G' p with
    | none => rfl
    | some u =>
      rcases n.n p u e with q | q | q
      · rw [h1] at q; cases q
      · exact (q.no h2 hn).elim
      · rw [hl q] at ho; cases ho
  match c, h with
  | none, _ => trivial
  | some (.v d), h => obtain ⟨v, h1, h2⟩ := h; exact ⟨v, h1, rp_ex n.g h2⟩
  | some (.l ds), h => obtain ⟨p, xs, h1, h2, h3, h4⟩ := h; exact ⟨p, xs, h1, fr rfl h2 h3 lst_tbl, n.h.get h3 lst_tbl, rps_ex n.g h4⟩
  | some (.o c fs), h => obtain ⟨p, dx, vs, h1, h2, h3, h4⟩ := h; exact ⟨p, dx, vs, h1, fr rfl h2 h3 ins_tbl, n.h.get h3 ins_tbl, rfs_ex n.g h4⟩
theorem Rep0.new (n : New m G H G' H') (hm : m.p → lk) (R : Rep0 lk K G σ H ρ) : Rep0 lk K G' σ H' ρ := ⟨n.s, R.len, fun i => (R.at_ i).new n (fun h => R.no (hm h) i), R.dj, R.no⟩
theorem Rep0.wk (R : Rep0 lk K G σ H ρ) : Rep0 False K G σ H ρ := ⟨R.sub, R.len, R.at_, R.dj, False.elim⟩
theorem getD_of {α : Type} {l : List (Option α)} {i : Nat} {x : α} (h : l[i]? = some (some x)) : l.getD i none = some x := by
  rw [List.getD_eq_getElem?_getD, h]
  rfl
theorem of_getD {α : Type} {l : List (Option α)} {i : Nat} {x : α} (h : l.getD i none = some x) : l[i]? = some (some x) := by
  rw [List.getD_eq_getElem?_getD] at h
  cases e : l[i]? with
  | none => rw [e] at h; cases h
  | some y => rw [e] at h; cases h; rfl
theorem Rep0.val (R : Rep0 lk K G σ H ρ) {i : Nat} {d : Dt} (h : ρ[i]? = some (some (.v d))) : ∃ v, σ[i]? = some (some v) ∧ Rp K G v d := by
  have := R.at_ i
  rw [getD_of h] at this
  obtain ⟨v, h1, h2⟩ := this
  exact ⟨v, of_getD h1, h2⟩
theorem Rep0.lst (R : Rep0 lk K G σ H ρ) {i : Nat} {ds : List Dt} (h : ρ[i]? = some (some (.l ds))) : ∃ p xs, σ[i]? = some (some (.ref p)) ∧ G p = none ∧ H p = some (.lst xs) ∧ Rps K G xs ds := by
  have := R.at_ i
  rw [getD_of h] at this
  obtain ⟨p, xs, h1, h2⟩ := this
  exact ⟨p, xs, of_getD h1, h2⟩
theorem Rep0.obj (R : Rep0 lk K G σ H ρ) {i : Nat} {c : Str} {fs : List (Str × Dt)} (h : ρ[i]? = some (some (.o c fs))) : ∃ p dx vs, σ[i]? = some (some (.ref p)) ∧ G p = none ∧ H p = some (.ins (He.ga K c) dx vs) ∧ Rfs K G vs fs := by
  have := R.at_ i
  rw [getD_of h] at this
  obtain ⟨p, dx, vs, h1, h2⟩ := this
  exact ⟨p, dx, vs, of_getD h1, h2⟩
theorem getD_set {α : Type} (l : List (Option α)) (i j : Nat) (x : Option α) : (l.set i x).getD j none = if i = j ∧ i < l.length then x else l.getD j none := by
  rw [List.getD_eq_getElem?_getD, List.getD_eq_getElem?_getD, List.getElem?_set]
  by_cases e : i = j
  · subst e
    by_cases h : i < l.length
    · simp [h]
    · simp [h]
  · simp [e]
/-- a slot gets a thing that stands still -/
theorem Rep0.setV (R : Rep0 lk K G σ H ρ) (i : Nat) {v : V} {d : Dt} (h : Rp K G v d) : Rep0 lk K G (σ.set i (some v)) H (ρ.set i (some (.v d))) := by
  refine ⟨R.sub, by rw [List.length_set, List.length_set, R.len], fun j => ?_, fun j k p hne h1 h2 h3 h4 => ?_, fun hl j => by rw [getD_set]; split; rfl; exact R.no hl j⟩
  · rw [getD_set, getD_set, R.len]
    by_cases e : i = j ∧ i < ρ.length
    · rw [if_pos e, if_pos e]
      exact ⟨v, rfl, h⟩
    · rw [if_neg e, if_neg e]
      exact R.at_ j
  · rw [getD_set] at h1 h2 h3 h4
    rw [R.len] at h3 h4
    by_cases e : i = j ∧ i < ρ.length
    · rw [if_pos e] at h1; cases h1
    · rw [if_neg e] at h1 h3
      by_cases e2 : i = k ∧ i < ρ.length
      · rw [if_pos e2] at h2; cases h2
      · rw [if_neg e2] at h2 h4
        exact R.dj j k p hne h1 h2 h3 h4
/-- a slot is forgotten -/
theorem Rep0.setN (R : Rep0 lk K G σ H ρ) (i : Nat) : Rep0 lk K G (σ.set i none) H (ρ.set i none) := by
  refine ⟨R.sub, by rw [List.length_set, List.length_set, R.len], fun j => ?_, fun j k p hne h1 h2 h3 h4 => ?_, fun hl j => by rw [getD_set]; split; rfl; exact R.no hl j⟩
  · rw [getD_set, getD_set, R.len]
    by_cases e : i = j ∧ i < ρ.length
    · rw [if_pos e, if_pos e]
      trivial
    · rw [if_neg e, if_neg e]
      exact R.at_ j
  · rw [getD_set] at h1 h2 h3 h4
    rw [R.len] at h3 h4
    by_cases e : i = j ∧ i < ρ.length
    · rw [if_pos e] at h1; cases h1
    · rw [if_neg e] at h1 h3
      by_cases e2 : i = k ∧ i < ρ.length
      · rw [if_pos e2] at h2; cases h2
      · rw [if_neg e2] at h2 h4
        exact R.dj j k p hne h1 h2 h3 h4
/-- what is mutable becomes a thing that stands still -/
def frzC : Option Cell → Option Cell
  | some (.l ds) => some (.v (.lst ds))
  | some (.o c fs) => some (.v (.obj c fs))
  | c => c
def frz (i : Nat) (ρ : Env) : Env := ρ.set i (frzC (ρ.getD i none))
theorem ex_upd_of {p : Addr} {o : HO} (s : Ex G H) (h : H p = some o) : Ex (upd G p o) H := fun b u e => by
  by_cases hb : b = p
  · subst hb; rw [upd_same] at e; cases e; exact h
  · rw [upd_ne hb] at e; exact s _ _ e
theorem Rep0.frz (R : Rep0 lk K G σ H ρ) (i : Nat) : ∃ G', Ex G G' ∧ (∀ a o, G' a = some o → G a = some o ∨ (own (ρ.getD i none) = true ∧ σ.getD i none = some (.ref a) ∧ G a = none)) ∧ Rep0 lk K G' σ H (frz i ρ) := by
  have h := R.at_ i
  have key : ∀ (p : Addr) (o : HO) (c : Option Cell), own (ρ.getD i none) = true → σ.getD i none = some (.ref p) → G p = none → H p = some o → own c = false → (∀ G', Ex G G' → G' p = some o → SlotOk K G' H (some (.ref p)) c) →
      ∃ G', Ex G G' ∧ (∀ a o, G' a = some o → G a = some o ∨ (own (ρ.getD i none) = true ∧ σ.getD i none = some (.ref a) ∧ G a = none)) ∧ Rep0 lk K G' σ H (ρ.set i c) := fun p o c ho hs hp hH hc hk => by
    refine ⟨upd G p o, Evl.Ex.new hp, fun a u e => ?_, ⟨ex_upd_of R.sub hH, by rw [List.length_set, R.len], fun j => ?_, fun j k q hne h1 h2 h3 h4 => ?_, fun hl j => by rw [getD_set]; split; exact hc; exact R.no hl j⟩⟩
    · by_cases ea : a = p
      · subst ea; exact Or.inr ⟨ho, hs, hp⟩
      · rw [upd_ne ea] at e; exact Or.inl e
    · rw [getD_set]
      by_cases e : i = j ∧ i < ρ.length
      · rw [if_pos e, ← e.1, hs]
        exact hk _ (Evl.Ex.new hp) upd_same
      · rw [if_neg e]
        have hj := R.at_ j
        have ne : i ≠ j ∨ ¬ i < ρ.length := by omega
        have nij : i ≠ j := by
          rcases ne with ne | ne
          · exact ne
          · intro z
            rw [List.getD_eq_getElem?_getD, List.getElem?_eq_none (by omega)] at ho
            cases ho
        have np : own (ρ.getD j none) = true → σ.getD j none ≠ some (.ref p) := fun h1 h2 => R.dj i j p nij ho h1 hs h2
        match hcj : ρ.getD j none, hj with
        | none, _ => trivial
        | some (.v d), hj => obtain ⟨v, q1, q2⟩ := hj; exact ⟨v, q1, rp_ex (Evl.Ex.new hp) q2⟩
        | some (.l ds), hj =>
          obtain ⟨q, xs, q1, q2, q3, q4⟩ := hj
          have nq : q ≠ p := fun z => np (by rw [hcj]; rfl) (by rw [q1, z])
          exact ⟨q, xs, q1, by rw [upd_ne nq]; exact q2, q3, rps_ex (Evl.Ex.new hp) q4⟩
        | some (.o c fs), hj =>
          obtain ⟨q, dx, xs, q1, q2, q3, q4⟩ := hj
          have nq : q ≠ p := fun z => np (by rw [hcj]; rfl) (by rw [q1, z])
          exact ⟨q, dx, xs, q1, by rw [upd_ne nq]; exact q2, q3, rfs_ex (Evl.Ex.new hp) q4⟩
    · rw [getD_set] at h1 h2
      by_cases e : i = j ∧ i < ρ.length
      · rw [if_pos e, hc] at h1; cases h1
      · rw [if_neg e] at h1
        by_cases e2 : i = k ∧ i < ρ.length
        · rw [if_pos e2, hc] at h2; cases h2
        · rw [if_neg e2] at h2
          exact R.dj j k q hne h1 h2 h3 h4
  have same : frzC (ρ.getD i none) = ρ.getD i none → ∃ G', Ex G G' ∧ (∀ a o, G' a = some o → G a = some o ∨ (own (ρ.getD i none) = true ∧ σ.getD i none = some (.ref a) ∧ G a = none)) ∧ Rep0 lk K G' σ H (Dl.frz i ρ) := fun e => by
    have e2 : Dl.frz i ρ = ρ := by
      unfold Dl.frz
      rw [e]
      refine List.ext_getElem? fun j => ?_
      rw [List.getElem?_set]
      by_cases hij : i = j
      · subst hij
        by_cases hl : i < ρ.length
        · rw [if_pos rfl, if_pos hl, List.getD_eq_getElem?_getD, List.getElem?_eq_getElem hl]; rfl
        · rw [if_pos rfl, if_neg hl, List.getElem?_eq_none (by omega)]
      · rw [if_neg hij]
    rw [e2]
    exact ⟨G, Evl.Ex.refl _, fun a o h => Or.inl h, R⟩
  match hc : ρ.getD i none, h with
  | none, _ => rw [hc] at same; exact same rfl
  | some (.v d), _ => rw [hc] at same; exact same rfl
  | some (.l ds), h =>
    obtain ⟨p, xs, q1, q2, q3, q4⟩ := h
    have := key p (.lst xs) (some (.v (.lst ds))) (by rw [hc]; rfl) q1 q2 q3 rfl fun G' e e' => ⟨_, rfl, .lst e' (rps_ex e q4)⟩
    unfold Dl.frz
    rw [hc] at this ⊢
    exact this
  | some (.o c fs), h =>
    obtain ⟨p, dx, vs, q1, q2, q3, q4⟩ := h
    have := key p (.ins (He.ga K c) dx vs) (some (.v (.obj c fs))) (by rw [hc]; rfl) q1 q2 q3 rfl fun G' e e' => ⟨_, rfl, .obj e' (rfs_ex e q4)⟩
    unfold Dl.frz
    rw [hc] at this ⊢
    exact this
/-- what is mutable is written -/
theorem Rep0.mut (R : Rep0 lk K G σ H ρ) {i : Nat} {p : Addr} {o : HO} {c : Option Cell} (ho : own (ρ.getD i none) = true) (hs : σ.getD i none = some (.ref p)) (hp : G p = none) (hc : own c = true) (hk : SlotOk K G (upd H p o) (some (.ref p)) c) : Rep0 lk K G σ (upd H p o) (ρ.set i c) := by
  have hi : i < ρ.length := by
    rw [List.getD_eq_getElem?_getD] at ho
    by_cases h : i < ρ.length
    · exact h
    · rw [List.getElem?_eq_none (by omega)] at ho; cases ho
  refine ⟨fun a u e => ?_, by rw [List.length_set, R.len], fun j => ?_, fun j k q hne h1 h2 h3 h4 => ?_, fun hl j => by have := R.no hl i; rw [ho] at this; cases this⟩
  · have : a ≠ p := fun z => by rw [z, hp] at e; cases e
    rw [upd_ne this]; exact R.sub _ _ e
  · rw [getD_set]
    by_cases e : i = j ∧ i < ρ.length
    · rw [if_pos e, ← e.1, hs]; exact hk
    · rw [if_neg e]
      have nij : i ≠ j := fun z => e ⟨z, hi⟩
      have hj := R.at_ j
      have np : own (ρ.getD j none) = true → σ.getD j none ≠ some (.ref p) := fun h1 h2 => R.dj i j p nij ho h1 hs h2
      match hcj : ρ.getD j none, hj with
      | none, _ => trivial
      | some (.v d), hj => exact hj
      | some (.l ds), hj =>
        obtain ⟨q, xs, q1, q2, q3, q4⟩ := hj
        have nq : q ≠ p := fun z => np (by rw [hcj]; rfl) (by rw [q1, z])
        exact ⟨q, xs, q1, q2, by rw [upd_ne nq]; exact q3, q4⟩
      | some (.o c fs), hj =>
        obtain ⟨q, dx, xs, q1, q2, q3, q4⟩ := hj
        have nq : q ≠ p := fun z => np (by rw [hcj]; rfl) (by rw [q1, z])
        exact ⟨q, dx, xs, q1, q2, by rw [upd_ne nq]; exact q3, q4⟩
  · rw [getD_set] at h1 h2
    have o1 : own (ρ.getD j none) = true := by
      by_cases e : i = j ∧ i < ρ.length
      · rw [← e.1]; exact ho
      · rw [if_neg e] at h1; exact h1
    have o2 : own (ρ.getD k none) = true := by
      by_cases e : i = k ∧ i < ρ.length
      · rw [← e.1]; exact ho
      · rw [if_neg e] at h2; exact h2
    exact R.dj j k q hne o1 o2 h3 h4
/-- a slot gets a new mutable thing -/
theorem Rep0.setO (hlk : ¬ lk) (R : Rep0 lk K G σ H ρ) (i : Nat) {p : Addr} {c : Option Cell} (hc : own c = true) (hk : SlotOk K G H (some (.ref p)) c) (hn : ∀ j, own (ρ.getD j none) = true → σ.getD j none ≠ some (.ref p)) : Rep0 lk K G (σ.set i (some (.ref p))) H (ρ.set i c) := by
  refine ⟨R.sub, by rw [List.length_set, List.length_set, R.len], fun j => ?_, fun j k q hne h1 h2 h3 h4 => ?_, fun hl => absurd hl hlk⟩
  · rw [getD_set, getD_set, R.len]
    by_cases e : i = j ∧ i < ρ.length
    · rw [if_pos e, if_pos e]; exact hk
    · rw [if_neg e, if_neg e]; exact R.at_ j
  · rw [getD_set] at h1 h2 h3 h4
    rw [R.len] at h3 h4
    by_cases e : i = j ∧ i < ρ.length
    · rw [if_pos e] at h1 h3
      by_cases e2 : i = k ∧ i < ρ.length
      · omega
      · rw [if_neg e2] at h2 h4
        cases h3
        exact hn k h2 h4
    · rw [if_neg e] at h1 h3
      by_cases e2 : i = k ∧ i < ρ.length
      · rw [if_pos e2] at h2 h4
        cases h4
        exact hn j h1 h3
      · rw [if_neg e2] at h2 h4
        exact R.dj j k q hne h1 h2 h3 h4
theorem Rep0.owned (R : Rep0 lk K G σ H ρ) {j : Nat} (h : own (ρ.getD j none) = true) {p : Addr} (hs : σ.getD j none = some (.ref p)) : G p = none ∧ ∃ o, H p = some o ∧ ∀ ps, o ≠ .tbl ps := by
  have hj := R.at_ j
  match hc : ρ.getD j none, hj with
  | none, _ => rw [hc] at h; cases h
  | some (.v d), _ => rw [hc] at h; cases h
  | some (.l ds), hj => obtain ⟨q, xs, q1, q2, q3, _⟩ := hj; rw [q1] at hs; cases hs; exact ⟨q2, _, q3, lst_tbl⟩
  | some (.o c fs), hj => obtain ⟨q, dx, xs, q1, q2, q3, _⟩ := hj; rw [q1] at hs; cases hs; exact ⟨q2, _, q3, ins_tbl⟩
end
/-! ### with what a def's proof goes by -/
def isO : Option Cell → Bool
  | some (.o _ _) => true
  | _ => false
theorem isO_own {c : Option Cell} (h : own c = false) : isO c = false := by
  cases c with
  | none => rfl
  | some c => cases c with
    | v _ => rfl
    | l _ => rfl
    | o _ _ => cases h
structure Rep (lk : Lk) (K : Frag) (G : Hp) (σ : L2.St) (H : Hp) (ρ : Env) : Prop where
  r : Rep0 lk.p K G σ H ρ
  bas : Bas lk G H
  ek : ErK lk K
  tw : lk.w → LamX.Tabs lk.T lk.H0 ∧ ∀ a ps, lk.G0 a ≠ some (.tbl ps)
  ow : ∀ i p, own (ρ.getD i none) = true → σ.getD i none = some (.ref p) → Free lk.H0 p ∨ lk.xo = some p
  ox : ∀ x, lk.xo = some x → ∀ p, isO (ρ.getD 0 none) = true → σ.getD 0 none = some (.ref p) → p = x
section
variable {lk : Lk} {K : Frag} {G H G' H' : Hp} {σ : L2.St} {ρ : Env}
theorem Rep.sub (R : Rep lk K G σ H ρ) : Ex G H := R.r.sub
theorem Rep.len (R : Rep lk K G σ H ρ) : σ.length = ρ.length := R.r.len
theorem Rep.tabs (R : Rep lk K G σ H ρ) (h : lk.w) : LamX.Tabs lk.T H := R.bas.tb (R.tw h).1
theorem Rep.notb (R : Rep lk K G σ H ρ) (h : lk.w) : ∀ a ps, G a ≠ some (.tbl ps) := fun a ps e => (R.tw h).2 a ps (R.bas.gq a ps e)
theorem Rep.val (R : Rep lk K G σ H ρ) {i : Nat} {d : Dt} (h : ρ[i]? = some (some (.v d))) : ∃ v, σ[i]? = some (some v) ∧ Rp K G v d := R.r.val h
theorem Rep.new (n : New lk.m G H G' H') (R : Rep lk K G σ H ρ) : Rep lk K G' σ H' ρ := ⟨R.r.new n id, R.bas.new n, R.ek, R.tw, R.ow, R.ox⟩
theorem Rep.nx (R : Rep lk K G σ H ρ) : Rep lk.nx K G σ H ρ := ⟨R.r.wk, ⟨R.bas.gx, R.bas.hb, R.bas.gn, R.bas.tb, R.bas.gq⟩, fun _ _ _ _ _ _ _ _ _ _ h => h.elim, R.tw, R.ow, R.ox⟩
theorem ow_set {own : Option Cell → Bool} {i : Nat} {x : Option V} {c : Option Cell} {P : Addr → Prop} (hl : σ.length = ρ.length) (hc : own c = false) (h : ∀ i p, own (ρ.getD i none) = true → σ.getD i none = some (.ref p) → P p) : ∀ j p, own ((ρ.set i c).getD j none) = true → (σ.set i x).getD j none = some (.ref p) → P p := fun j p h1 h2 => by
  rw [getD_set] at h1 h2
  rw [hl] at h2
  by_cases e : i = j ∧ i < ρ.length
  · rw [if_pos e, hc] at h1; cases h1
  · rw [if_neg e] at h1 h2; exact h j p h1 h2
theorem ox_set {i : Nat} {x : Option V} {c : Option Cell} {P : Addr → Prop} (hl : σ.length = ρ.length) (hc : isO c = false) (h : ∀ p, isO (ρ.getD 0 none) = true → σ.getD 0 none = some (.ref p) → P p) : ∀ p, isO ((ρ.set i c).getD 0 none) = true → (σ.set i x).getD 0 none = some (.ref p) → P p := fun p h1 h2 => by
  rw [getD_set] at h1 h2
  rw [hl] at h2
  by_cases e : i = 0 ∧ i < ρ.length
  · rw [if_pos e, hc] at h1; cases h1
  · rw [if_neg e] at h1 h2; exact h p h1 h2
theorem Rep.setV (R : Rep lk K G σ H ρ) (i : Nat) {v : V} {d : Dt} (h : Rp K G v d) : Rep lk K G (σ.set i (some v)) H (ρ.set i (some (.v d))) := ⟨R.r.setV i h, R.bas, R.ek, R.tw, ow_set R.len rfl R.ow, fun x hx => ox_set R.len rfl (R.ox x hx)⟩
theorem Rep.setN (R : Rep lk K G σ H ρ) (i : Nat) : Rep lk K G (σ.set i none) H (ρ.set i none) := ⟨R.r.setN i, R.bas, R.ek, R.tw, ow_set R.len rfl R.ow, fun x hx => ox_set R.len rfl (R.ox x hx)⟩
theorem Rep.frz (R : Rep lk K G σ H ρ) (i : Nat) : ∃ G', Ex G G' ∧ Rep lk K G' σ H (Dl.frz i ρ) := by
  obtain ⟨G1, e1, hn, R1⟩ := R.r.frz i
  refine ⟨G1, e1, R1, ⟨R.bas.gx.trans e1, R.bas.hb, fun a o h => ?_, R.bas.tb, fun a ps h => ?_⟩, R.ek, R.tw, fun j p h2 h3 => R.ow j p ?_ h3, fun x hx p h2 h3 => R.ox x hx p ?_ h3⟩
  rotate_right
  · unfold Dl.frz at h2
    rw [getD_set] at h2
    by_cases e : i = 0 ∧ i < ρ.length
    · rw [if_pos e] at h2
      cases hc : ρ.getD i none with
      | none => rw [hc] at h2; cases h2
      | some c => rw [hc] at h2; cases c <;> cases h2
    · rw [if_neg e] at h2; exact h2
  · rcases hn a o h with h | ⟨h1, h2, _⟩
    · exact R.bas.gn a o h
    · exact Or.inr ((R.ow i a h1 h2).imp_right Or.inl)
  · rcases hn a _ h with h' | ⟨h1, h2, _⟩
    · exact R.bas.gq a ps h'
    · obtain ⟨_, o, ho, ht⟩ := R.r.owned h1 h2
      have := R1.sub a _ h
      rw [ho] at this
      exact absurd (Option.some.inj this) (ht ps)
  · unfold Dl.frz at h2
    rw [getD_set] at h2
    by_cases e : i = j ∧ i < ρ.length
    · rw [if_pos e] at h2
      cases hc : ρ.getD i none with
      | none => rw [hc] at h2; cases h2
      | some c => rw [hc] at h2; cases c <;> cases h2
    · rw [if_neg e] at h2; exact h2
theorem Rep.owned (R : Rep lk K G σ H ρ) {j : Nat} (h : own (ρ.getD j none) = true) {p : Addr} (hs : σ.getD j none = some (.ref p)) : G p = none ∧ ∃ o, H p = some o ∧ ∀ ps, o ≠ .tbl ps := R.r.owned h hs
/-- what is mutable is written -/
theorem Rep.mut (R : Rep lk K G σ H ρ) {i : Nat} {p : Addr} {o u : HO} {c : Option Cell} (ho : own (ρ.getD i none) = true) (hs : σ.getD i none = some (.ref p)) (hp : G p = none) (hu : H p = some u) (hn : ∀ ps, u ≠ .tbl ps) (he : ∀ φ, u ≠ .ext φ) (hc : own c = true) (hO : isO c = true → isO (ρ.getD i none) = true) (hk : SlotOk K G (upd H p o) (some (.ref p)) c) : Rep lk K G σ (upd H p o) (ρ.set i c) := by
  have how := R.ow i p ho hs
  refine ⟨R.r.mut ho hs hp hc hk, ⟨R.bas.gx, fun a u e h => ?_, R.bas.gn, fun t => tabs_mut hu hn he (R.bas.tb t), R.bas.gq⟩, R.ek, R.tw, fun j q h5 h6 => ?_, fun x hx q h5 h6 => ?_⟩
  rotate_right
  · rw [getD_set] at h5
    by_cases e : i = 0 ∧ i < ρ.length
    · rw [if_pos e] at h5
      have h7 := hO h5
      rw [e.1] at h7
      exact R.ox x hx q h7 h6
    · rw [if_neg e] at h5
      exact R.ox x hx q h5 h6
  · by_cases this : a = p
    · subst this
      rcases how with (w | ⟨ps, w⟩) | w
      · rw [h] at w; cases w
      · rw [h] at w; cases w; exact Or.inr ⟨ps, rfl⟩
      · exact absurd w e
    · rw [upd_ne this]
      exact R.bas.hb a u e h
  · rw [getD_set] at h5
    by_cases e : i = j ∧ i < ρ.length
    · obtain ⟨rfl, _⟩ := e
      exact R.ow i q ho h6
    · rw [if_neg e] at h5
      exact R.ow j q h5 h6
/-- a slot gets a new mutable thing -/
theorem Rep.setO (hlk : ¬ lk.p) (R : Rep lk K G σ H ρ) (i : Nat) {p : Addr} {c : Option Cell} (hp : Free lk.H0 p ∨ lk.xo = some p) (hc : own c = true) (hO : isO c = false ∨ lk.xo = none) (hk : SlotOk K G H (some (.ref p)) c) (hn : ∀ j, own (ρ.getD j none) = true → σ.getD j none ≠ some (.ref p)) : Rep lk K G (σ.set i (some (.ref p))) H (ρ.set i c) := by
  refine ⟨R.r.setO hlk i hc hk hn, R.bas, R.ek, R.tw, fun j q h1 h2 => ?_, fun x hx q h1 h2 => ?_⟩
  rotate_right
  · rw [getD_set] at h1 h2
    rw [R.len] at h2
    by_cases e : i = 0 ∧ i < ρ.length
    · rw [if_pos e] at h1
      rcases hO with hO | hO
      · rw [hO] at h1; cases h1
      · rw [hO] at hx; cases hx
    · rw [if_neg e] at h1 h2
      exact R.ox x hx q h1 h2
  rw [getD_set] at h1 h2
  rw [R.len] at h2
  by_cases e : i = j ∧ i < ρ.length
  · rw [if_pos e] at h2
    cases h2
    exact hp
  · rw [if_neg e] at h1 h2
    exact R.ow j q h1 h2
end
end Dl

set_option Elab.async false
set_option linter.all false
set_option maxRecDepth 100000
set_option maxHeartbeats 3000000
/-! The layer of data, 2: expressions, tests, arguments over data. -/
namespace Dl
open L2 PySem PySem.Spec PyProof.Rows RZ StX Cm
abbrev DExp := Env → (Dt → Prop) → Prop
abbrev DTst := Env → (Bool → Prop) → Prop
abbrev DArg := Env → (List Dt → Prop) → Prop
abbrev DOpt := Env → (Option Int → Prop) → Prop
abbrev D1R := Dt → (Dt → Prop) → Prop
abbrev D2R := Dt → Dt → (Dt → Prop) → Prop
abbrev DFn := List Dt → (Dt → Prop) → Prop
section
variable (lk : Lk) (m : Md) (K : Frag)
def LiftE (te : TE) (de : DExp) : Prop := ∀ (G : Hp) (σ : L2.St) (H : Hp) (ρ : Env) (Qd : Dt → Prop) (Q : VK), Rep lk K G σ H ρ → de ρ Qd → (∀ v d G' H', New lk.m G H G' H' → Rp K G' v d → Qd d → Q v H') → te σ H Q
def LiftT (te : TT) (de : DTst) : Prop := ∀ (G : Hp) (σ : L2.St) (H : Hp) (ρ : Env) (Qd : Bool → Prop) (Q : Bool → Hp → Prop), Rep lk K G σ H ρ → de ρ Qd → (∀ b G' H', New lk.m G H G' H' → Qd b → Q b H') → te σ H Q
def LiftA (te : TA) (de : DArg) : Prop := ∀ (G : Hp) (σ : L2.St) (H : Hp) (ρ : Env) (Qd : List Dt → Prop) (Q : List V → Hp → Prop), Rep lk K G σ H ρ → de ρ Qd → (∀ vs ds G' H', New lk.m G H G' H' → Rps K G' vs ds → Qd ds → Q vs H') → te σ H Q
def LiftO (te : TO) (de : DOpt) : Prop := ∀ (G : Hp) (σ : L2.St) (H : Hp) (ρ : Env) (Qd : Option Int → Prop) (Q : Option Int → Hp → Prop), Rep lk K G σ H ρ → de ρ Qd → (∀ o G' H', New lk.m G H G' H' → Qd o → Q o H') → te σ H Q
def Op2 (r : R2) (dr : D2R) : Prop := ∀ (G H : Hp) (x y : V) (d e : Dt) (Qd : Dt → Prop) (Q : VK), Ex G H → Rp K G x d → Rp K G y e → dr d e Qd → (∀ v d' G' H', New m G H G' H' → Rp K G' v d' → Qd d' → Q v H') → r x y H Q
def Op1 (r : V → Hp → VK → Prop) (dr : D1R) : Prop := ∀ (G H : Hp) (x : V) (d : Dt) (Qd : Dt → Prop) (Q : VK), Ex G H → Rp K G x d → dr d Qd → (∀ v d' G' H', New m G H G' H' → Rp K G' v d' → Qd d' → Q v H') → r x H Q
def OpN (r : List V → Hp → VK → Prop) (dr : DFn) : Prop := ∀ (G H : Hp) (xs : List V) (ds : List Dt) (Qd : Dt → Prop) (Q : VK), Ex G H → Rps K G xs ds → dr ds Qd → (∀ v d' G' H', New m G H G' H' → Rp K G' v d' → Qd d' → Q v H') → r xs H Q
end
/-! ### the words over data -/
def dVar (i : Nat) : DExp := fun ρ Q => ∃ d, ρ[i]? = some (some (.v d)) ∧ Q d
def dC (d : Dt) : DExp := fun _ Q => Q d
def dOp (r : D2R) (a b : DExp) : DExp := fun ρ Q => a ρ fun x => b ρ fun y => r x y Q
def dUn (r : D1R) (a : DExp) : DExp := fun ρ Q => a ρ fun x => r x Q
def dTst (a : DExp) : DTst := fun ρ Q => a ρ fun x => ∃ k, x = .bl k ∧ Q k
def dNot (c : DTst) : DTst := fun ρ Q => c ρ fun b => Q (!b)
def dAnd (c e : DTst) : DTst := fun ρ Q => c ρ fun b => if b = true then e ρ Q else Q false
def dOr (c e : DTst) : DTst := fun ρ Q => c ρ fun b => if b = true then Q true else e ρ Q
def dAndV (a b : DExp) : DExp := fun ρ Q => a ρ fun x => ∃ k, x = .bl k ∧ if k = true then b ρ Q else Q (.bl false)
def dOrV (a b : DExp) : DExp := fun ρ Q => a ρ fun x => ∃ k, x = .bl k ∧ if k = true then Q (.bl true) else b ρ Q
def dNotV (a : DExp) : DExp := fun ρ Q => a ρ fun x => ∃ k, x = .bl k ∧ Q (.bl (!k))
def dIf (c : DTst) (a b : DExp) : DExp := fun ρ Q => c ρ fun k => if k = true then a ρ Q else b ρ Q
def dChain (r r' : D2R) (a b c : DExp) : DExp := fun ρ Q => a ρ fun x => b ρ fun y => r x y fun z => ∃ k, z = .bl k ∧ if k = true then c ρ fun w => r' y w Q else Q (.bl false)
def dNil : DArg := fun _ Q => Q []
def dCons (a : DExp) (r : DArg) : DArg := fun ρ Q => a ρ fun x => r ρ fun xs => Q (x :: xs)
def dTup (t : DArg) : DExp := fun ρ Q => t ρ fun xs => xs.length ≤ 100000 ∧ Q (.tup xs)
def dLst (t : DArg) : DExp := fun ρ Q => t ρ fun xs => xs.length ≤ 100000 ∧ Q (.lst xs)
/-- the items of a list, of a tuple -/
def items : Dt → Option (List Dt)
  | .lst l => some l
  | .tup l => some l
  | _ => none
def dStar (a : DExp) (r : DArg) : DArg := fun ρ Q => a ρ fun x => ∃ l, items x = some l ∧ r ρ fun ys => Q (l ++ ys)
def dCB (r : DFn) (t : DArg) : DExp := fun ρ Q => t ρ fun xs => r xs Q
def dNoPart : DOpt := fun _ Q => Q none
def dPart (a : DExp) : DOpt := fun ρ Q => a ρ fun x => ∃ i, x = .int i ∧ Q (some i)
def dSl (r : Dt → Option Int → Option Int → (Dt → Prop) → Prop) (a : DExp) (lo hi : DOpt) : DExp := fun ρ Q => a ρ fun x => lo ρ fun l => hi ρ fun u => r x l u Q
section
variable {lk : Lk} {K : Frag} {ta tb tc : TE} {da db dc : DExp} {ca cb : TT} {ea eb : DTst} {wa : TA} {aa : DArg} {ol oh : TO} {pl ph : DOpt} {r r' : R2} {dr dr' : D2R}
theorem l_var {i : Nat} : LiftE lk K (tVar i) (dVar i) := fun G σ H ρ Qd Q R h k => by
  obtain ⟨d, h1, h2⟩ := h
  obtain ⟨v, h3, h4⟩ := R.val h1
  exact ⟨v, h3, k v d G H (New.refl R.sub) h4 h2⟩
theorem l_c {v : V} {d : Dt} (hc : ∀ G : Hp, Rp K G v d) : LiftE lk K (tC v) (dC d) := fun G σ H ρ Qd Q R h k => k v d G H (New.refl R.sub) (hc G) h
theorem l_op (ha : LiftE lk K ta da) (hb : LiftE lk K tb db) (ho : Op2 lk.m K r dr) : LiftE lk K (tOp r ta tb) (dOp dr da db) := by
  intro G σ H ρ Qd Q R h k
  refine ha G σ H ρ _ _ R h fun x d G1 H1 n1 r1 h1 => ?_
  refine hb G1 σ H1 ρ _ _ (R.new n1) h1 fun y e G2 H2 n2 r2 h2 => ?_
  exact ho G2 H2 x y d e _ _ n2.s (rp_ex n2.g r1) r2 h2 fun v d' G3 H3 n3 r3 h3 => k v d' G3 H3 ((n1.trans n2).trans n3) r3 h3
theorem l_un {u : V → Hp → VK → Prop} {du : D1R} (ha : LiftE lk K ta da) (ho : Op1 lk.m K u du) : LiftE lk K (tUn u ta) (dUn du da) := by
  intro G σ H ρ Qd Q R h k
  refine ha G σ H ρ _ _ R h fun x d G1 H1 n1 r1 h1 => ?_
  exact ho G1 H1 x d _ _ n1.s r1 h1 fun v d' G3 H3 n3 r3 h3 => k v d' G3 H3 (n1.trans n3) r3 h3
theorem rp_bl {K : Frag} {G : Hp} {v : V} {b : Bool} (h : Rp K G v (.bl b)) : v = .bl b := by cases h; rfl
theorem rp_int {K : Frag} {G : Hp} {v : V} {b : Int} (h : Rp K G v (.int b)) : v = .int b := by cases h; rfl
theorem rp_str {K : Frag} {G : Hp} {v : V} {b : Str} (h : Rp K G v (.str b)) : v = .str b := by cases h; rfl
theorem l_test (ha : LiftE lk K ta da) : LiftT lk K (tTest ta) (dTst da) := by
  intro G σ H ρ Qd Q R h k
  refine ha G σ H ρ _ _ R h fun x d G1 H1 n1 r1 h1 => ?_
  obtain ⟨b, rfl, h2⟩ := h1
  exact ⟨b, rp_bl r1, k b G1 H1 n1 h2⟩
theorem l_tB (ha : LiftE lk K ta da) : LiftT lk K (tB ta) (dTst da) := by
  intro G σ H ρ Qd Q R h k
  refine ha G σ H ρ _ _ R h fun x d G1 H1 n1 r1 h1 => ?_
  obtain ⟨b, rfl, h2⟩ := h1
  exact ⟨b, rp_bl r1, k b G1 H1 n1 h2⟩
theorem l_not (ha : LiftT lk K ca ea) : LiftT lk K (tNot ca) (dNot ea) := by
  intro G σ H ρ Qd Q R h k
  exact ha G σ H ρ _ _ R h fun b G1 H1 n1 h1 => k _ G1 H1 n1 h1
theorem l_and (ha : LiftT lk K ca ea) (hb : LiftT lk K cb eb) : LiftT lk K (tAnd ca cb) (dAnd ea eb) := by
  intro G σ H ρ Qd Q R h k
  refine ha G σ H ρ _ _ R h fun b G1 H1 n1 h1 => ?_
  cases b with
  | true => exact iteT (hb G1 σ H1 ρ _ _ (R.new n1) (by simpa using h1) fun c G2 H2 n2 h2 => k c G2 H2 (n1.trans n2) h2)
  | false => exact iteF (k false G1 H1 n1 (by simpa using h1))
theorem l_or (ha : LiftT lk K ca ea) (hb : LiftT lk K cb eb) : LiftT lk K (tOr ca cb) (dOr ea eb) := by
  intro G σ H ρ Qd Q R h k
  refine ha G σ H ρ _ _ R h fun b G1 H1 n1 h1 => ?_
  cases b with
  | true => exact iteT (k true G1 H1 n1 (by simpa using h1))
  | false => exact iteF (hb G1 σ H1 ρ _ _ (R.new n1) (by simpa using h1) fun c G2 H2 n2 h2 => k c G2 H2 (n1.trans n2) h2)
theorem l_andV (ha : LiftE lk K ta da) (hb : LiftE lk K tb db) : LiftE lk K (tAndV ta tb) (dAndV da db) := by
  intro G σ H ρ Qd Q R h k
  refine ha G σ H ρ _ _ R h fun x d G1 H1 n1 r1 h1 => ?_
  obtain ⟨b, rfl, h2⟩ := h1
  refine ⟨b, rp_bl r1, ?_⟩
  cases b with
  | true => exact iteT (hb G1 σ H1 ρ _ _ (R.new n1) (by simpa using h2) fun v c G2 H2 n2 r2 h3 => k v c G2 H2 (n1.trans n2) r2 h3)
  | false => exact iteF (k _ _ G1 H1 n1 (.bl false) (by simpa using h2))
theorem l_orV (ha : LiftE lk K ta da) (hb : LiftE lk K tb db) : LiftE lk K (tOrV ta tb) (dOrV da db) := by
  intro G σ H ρ Qd Q R h k
  refine ha G σ H ρ _ _ R h fun x d G1 H1 n1 r1 h1 => ?_
  obtain ⟨b, rfl, h2⟩ := h1
  refine ⟨b, rp_bl r1, ?_⟩
  cases b with
  | true => exact iteT (k _ _ G1 H1 n1 (.bl true) (by simpa using h2))
  | false => exact iteF (hb G1 σ H1 ρ _ _ (R.new n1) (by simpa using h2) fun v c G2 H2 n2 r2 h3 => k v c G2 H2 (n1.trans n2) r2 h3)
theorem l_notV (ha : LiftE lk K ta da) : LiftE lk K (tNotV ta) (dNotV da) := by
  intro G σ H ρ Qd Q R h k
  refine ha G σ H ρ _ _ R h fun x d G1 H1 n1 r1 h1 => ?_
  obtain ⟨b, rfl, h2⟩ := h1
  exact ⟨b, rp_bl r1, k _ _ G1 H1 n1 (.bl _) h2⟩
theorem l_if (hc : LiftT lk K ca ea) (ha : LiftE lk K ta da) (hb : LiftE lk K tb db) : LiftE lk K (tIf ca ta tb) (dIf ea da db) := by
  intro G σ H ρ Qd Q R h k
  refine hc G σ H ρ _ _ R h fun b G1 H1 n1 h1 => ?_
  cases b with
  | true => exact iteT (ha G1 σ H1 ρ _ _ (R.new n1) (by simpa using h1) fun v c G2 H2 n2 r2 h3 => k v c G2 H2 (n1.trans n2) r2 h3)
  | false => exact iteF (hb G1 σ H1 ρ _ _ (R.new n1) (by simpa using h1) fun v c G2 H2 n2 r2 h3 => k v c G2 H2 (n1.trans n2) r2 h3)
theorem l_chain (ha : LiftE lk K ta da) (hb : LiftE lk K tb db) (hc : LiftE lk K tc dc) (ho : Op2 lk.m K r dr) (ho' : Op2 lk.m K r' dr') : LiftE lk K (tChain r r' ta tb tc) (dChain dr dr' da db dc) := by
  intro G σ H ρ Qd Q R h k
  refine ha G σ H ρ _ _ R h fun x d G1 H1 n1 r1 h1 => ?_
  refine hb G1 σ H1 ρ _ _ (R.new n1) h1 fun y e G2 H2 n2 r2 h2 => ?_
  refine ho G2 H2 x y d e _ _ n2.s (rp_ex n2.g r1) r2 h2 fun v d' G3 H3 n3 r3 h3 => ?_
  have n := (n1.trans n2).trans n3
  obtain ⟨b, rfl, h4⟩ := h3
  refine ⟨b, rp_bl r3, ?_⟩
  cases b with
  | true =>
    refine iteT (hc G3 σ H3 ρ _ _ (R.new n) (by simpa using h4) fun w f G4 H4 n4 r4 h5 => ?_)
    exact ho' G4 H4 y w e f _ _ n4.s (rp_ex n4.g (rp_ex n3.g r2)) r4 h5 fun v d' G5 H5 n5 r5 h6 => k v d' G5 H5 ((n.trans n4).trans n5) r5 h6
  | false => exact iteF (k _ _ G3 H3 n (.bl false) (by simpa using h4))
theorem l_nil : LiftA lk K tNil dNil := fun G σ H ρ Qd Q R h k => k [] [] G H (New.refl R.sub) .nil h
theorem l_cons (ha : LiftE lk K ta da) (hw : LiftA lk K wa aa) : LiftA lk K (tCons ta wa) (dCons da aa) := by
  intro G σ H ρ Qd Q R h k
  refine ha G σ H ρ _ _ R h fun x d G1 H1 n1 r1 h1 => ?_
  exact hw G1 σ H1 ρ _ _ (R.new n1) h1 fun vs ds G2 H2 n2 r2 h2 => k _ _ G2 H2 (n1.trans n2) (.cons (rp_ex n2.g r1) r2) h2
theorem items_up {G : Hp} {v : V} {d : Dt} {l : List Dt} (h : Rp K G v d) (e : items d = some l) : ∃ p xs, v = .ref p ∧ (SqT K G p xs ∨ SqL K G p xs) ∧ Rps K G xs l := by
  cases h with
  | lst h1 h2 => cases e; exact ⟨_, _, rfl, Or.inr (Evl.sq_of h1), h2⟩
  | tup h1 h2 => cases e; exact ⟨_, _, rfl, Or.inl h1, h2⟩
  | _ => cases e
theorem l_star (ha : LiftE lk K ta da) (hw : LiftA lk K wa aa) : LiftA lk K (tStar K ta wa) (dStar da aa) := by
  intro G σ H ρ Qd Q R h k
  refine ha G σ H ρ _ _ R h fun x d G1 H1 n1 r1 h1 => ?_
  obtain ⟨l, e, h2⟩ := h1
  obtain ⟨p, xs, rfl, hs, hr⟩ := items_up r1 e
  refine ⟨p, xs, rfl, sq2_up n1.s hs, ?_⟩
  exact hw G1 σ H1 ρ _ _ (R.new n1) h2 fun vs ds G2 H2 n2 r2 h3 => k _ _ G2 H2 (n1.trans n2) (rps_app (rps_ex n2.g hr) r2) h3
theorem l_tup (hw : LiftA lk K wa aa) : LiftE lk K (tTup wa) (dTup aa) := by
  intro G σ H ρ Qd Q R h k
  refine hw G σ H ρ _ _ R h fun vs ds G1 H1 n1 r1 h1 => ?_
  refine ⟨sz5 (by rw [rps_len r1]; exact h1.1), fun p hp => ?_⟩
  have n := New.one (m := lk.m) (o := .tup vs) n1.s hp
  exact k _ _ _ _ (n1.trans n) (.tup (Evl.st_of upd_same) (rps_ex n.g r1)) h1.2
theorem l_lst (hw : LiftA lk K wa aa) : LiftE lk K (tLst wa) (dLst aa) := by
  intro G σ H ρ Qd Q R h k
  refine hw G σ H ρ _ _ R h fun vs ds G1 H1 n1 r1 h1 => ?_
  refine ⟨sz5 (by rw [rps_len r1]; exact h1.1), fun p hp => ?_⟩
  have n := New.one (m := lk.m) (o := .lst vs) n1.s hp
  exact k _ _ _ _ (n1.trans n) (.lst upd_same (rps_ex n.g r1)) h1.2
theorem l_cb {f : List V → Hp → VK → Prop} {df : DFn} (hw : LiftA lk K wa aa) (ho : OpN lk.m K f df) : LiftE lk K (tCB f wa) (dCB df aa) := by
  intro G σ H ρ Qd Q R h k
  refine hw G σ H ρ _ _ R h fun vs ds G1 H1 n1 r1 h1 => ?_
  exact ho G1 H1 vs ds _ _ n1.s r1 h1 fun v d' G3 H3 n3 r3 h3 => k v d' G3 H3 (n1.trans n3) r3 h3
theorem l_noPart : LiftO lk K tNoPart dNoPart := fun G σ H ρ Qd Q R h k => k none G H (New.refl R.sub) h
theorem l_part (ha : LiftE lk K ta da) : LiftO lk K (tPart ta) (dPart da) := by
  intro G σ H ρ Qd Q R h k
  refine ha G σ H ρ _ _ R h fun x d G1 H1 n1 r1 h1 => ?_
  obtain ⟨i, rfl, h2⟩ := h1
  exact ⟨i, rp_int r1, k _ G1 H1 n1 h2⟩
def Sl3 (m : Md) (K : Frag) (r : V → Option Int → Option Int → Hp → VK → Prop) (dr : Dt → Option Int → Option Int → (Dt → Prop) → Prop) : Prop := ∀ (G H : Hp) (x : V) (d : Dt) (lo hi : Option Int) (Qd : Dt → Prop) (Q : VK), Ex G H → Rp K G x d → dr d lo hi Qd → (∀ v d' G' H', New m G H G' H' → Rp K G' v d' → Qd d' → Q v H') → r x lo hi H Q
theorem l_sl {f : V → Option Int → Option Int → Hp → VK → Prop} {df : Dt → Option Int → Option Int → (Dt → Prop) → Prop} (ha : LiftE lk K ta da) (hl : LiftO lk K ol pl) (hh : LiftO lk K oh ph) (ho : Sl3 lk.m K f df) : LiftE lk K (tSl f ta ol oh) (dSl df da pl ph) := by
  intro G σ H ρ Qd Q R h k
  refine ha G σ H ρ _ _ R h fun x d G1 H1 n1 r1 h1 => ?_
  refine hl G1 σ H1 ρ _ _ (R.new n1) h1 fun l G2 H2 n2 h2 => ?_
  refine hh G2 σ H2 ρ _ _ (R.new (n1.trans n2)) h2 fun u G3 H3 n3 h3 => ?_
  exact ho G3 H3 x d l u _ _ n3.s (rp_ex (n2.g.trans n3.g) r1) h3 fun v d' G4 H4 n4 r4 h4 => k v d' G4 H4 (((n1.trans n2).trans n3).trans n4) r4 h4
end
/-! ### operations over data -/
def dAdd : D2R
  | .int a, .int b, Q => Q (.int (a + b))
  | .str a, .str b, Q => a.length + b.length ≤ 100000 ∧ Q (.str (a ++ b))
  | .lst a, .lst b, Q => a.length + b.length ≤ 100000 ∧ Q (.lst (a ++ b))
  | .tup a, .tup b, Q => a.length + b.length ≤ 100000 ∧ Q (.tup (a ++ b))
  | _, _, _ => False
def dI2 (f : Int → Int → Dt) : D2R
  | .int a, .int b, Q => Q (f a b)
  | _, _, _ => False
def dSub : D2R := dI2 fun a b => .int (a - b)
def dLt : D2R := dI2 fun a b => .bl (decide (a < b))
def dLe : D2R := dI2 fun a b => .bl (decide (a ≤ b))
def dGt : D2R := dI2 fun a b => .bl (decide (b < a))
def dGe : D2R := dI2 fun a b => .bl (decide (b ≤ a))
def dMul : D2R
  | .int a, .int b, Q => CMul a b ∧ Q (.int (a * b))
  | .lst a, .int k, Q => 0 ≤ k ∧ k ≤ 100000 ∧ a.length ≤ 100 ∧ Q (.lst (List.replicate k.toNat a).flatten)
  | _, _, _ => False
def dDiv : D2R
  | .int a, .int b, Q => 0 < b ∧ b.natAbs.log2 < 9000 ∧ Q (.int (a / b))
  | _, _, _ => False
def dMod : D2R
  | .int a, .int b, Q => 0 < b ∧ Q (.int (a % b))
  | _, _, _ => False
def dPow : D2R
  | .int a, .int b, Q => CPow a b ∧ Q (.int (a ^ b.toNat))
  | _, _, _ => False
def dNeg : D1R
  | .int a, Q => Q (.int (-a))
  | _, _ => False
/-- the data that a thing is -/
def scalD : Dt → Bool
  | .non => true
  | .bl _ => true
  | .int _ => true
  | .str _ => true
  | _ => false
mutual
def pyd : Dt → Option PyData
  | .non => some .none
  | .bl b => some (.bool b)
  | .int i => some (.int i)
  | .str s => some (.str s)
  | .py d => some d
  | .lst l => (pyds l).map .list
  | .tup l => (pyds l).map .tuple
  | _ => none
def pyds : List Dt → Option (List PyData)
  | [] => some []
  | d :: ds => (pyd d).bind fun e => (pyds ds).map (e :: ·)
end
section
variable {lk : Md} {K : Frag} {H : Hp}
mutual
theorem dp_of : ∀ {v : V} {d : Dt} {e : PyData}, Rp K H v d → pyd d = some e → Dp K H v e
  | _, _, _, .non, q => by unfold pyd at q; cases q; exact .non
  | _, _, _, .bl b, q => by unfold pyd at q; cases q; exact .bl b
  | _, _, _, .int i, q => by unfold pyd at q; cases q; exact .int i
  | _, _, _, .str i, q => by unfold pyd at q; cases q; exact .str i
  | _, _, _, .ty i, q => by unfold pyd at q; cases q
  | _, _, _, .cls c, q => by unfold pyd at q; cases q
  | _, _, _, .bag h, q => by unfold pyd at q; cases q
  | _, _, _, .py h, q => by unfold pyd at q; cases q; exact h
  | _, _, _, .lst (l := l) h r, q => by
    unfold pyd at q
    cases e : pyds l with
    | none => rw [e] at q; cases q
    | some es => rw [e] at q; cases q; exact .lst (Evl.sq_of h) (dps_of r e)
  | _, _, _, .tup (l := l) h r, q => by
    unfold pyd at q
    cases e : pyds l with
    | none => rw [e] at q; cases q
    | some es => rw [e] at q; cases q; exact .tup h (dps_of r e)
  | _, _, _, .obj h r, q => by unfold pyd at q; cases q
theorem dps_of : ∀ {vs : List V} {ds : List Dt} {es : List PyData}, Rps K H vs ds → pyds ds = some es → DpAll K H vs es
  | _, _, _, .nil, q => by unfold pyds at q; cases q; exact .nil
  | _, _, _, .cons (d := d) (ds := ds) h r, q => by
    unfold pyds at q
    cases e : pyd d with
    | none => rw [e] at q; cases q
    | some x =>
      cases f : pyds ds with
      | none => rw [e, f] at q; cases q
      | some xs => rw [e, f] at q; cases q; exact .cons (dp_of h e) (dps_of r f)
end
end
/-- the scalars that == tells apart -/
def scals : Dt → Dt → Option Bool
  | .non, .non => some true
  | .non, .int _ => some false
  | .int _, .non => some false
  | .non, .bl _ => some false
  | .bl _, .non => some false
  | .non, .str _ => some false
  | .str _, .non => some false
  | .int a, .int b => some (decide (a = b))
  | .bl a, .bl b => some (decide (a = b))
  | .str a, .str b => some (decide (a = b))
  | .int _, .str _ => some false
  | .str _, .int _ => some false
  | .bl _, .str _ => some false
  | .str _, .bl _ => some false
  | _, _ => none
/-- what == of two things of data gives -/
def dEq (neg : Bool) : D2R := fun a b Q => match scals a b with
  | some k => Q (.bl (neg != k))
  | none => ∃ d e, pyd a = some d ∧ pyd b = some e ∧ SeqAt.shaped d = true ∧ SeqAt.shaped e = true ∧ Q (.bl (neg != PyData.eqv d e))
def nonD (d : Dt) : Bool := match d with
  | .non => true
  | .py .none => true
  | _ => false
def dIsN (neg : Bool) : D2R := fun x y Q => y = .non ∧ Q (.bl (neg != nonD x))
def unp : PyData → Dt
  | .none => .non
  | .bool b => .bl b
  | .int i => .int i
  | .str s => .str s
  | d => .py d
def dIx : D2R
  | .py (.list l), .int i, Q => ∃ d, atI l i = some d ∧ Q (unp d)
  | .lst l, .int i, Q => ∃ d, atI l i = some d ∧ Q d
  | .tup l, .int i, Q => ∃ d, atI l i = some d ∧ Q d
  | .str s, .int i, Q => s.length ≤ 100000 ∧ ∃ k, atI s.cps.toList i = some k ∧ Q (.str ⟨#[k]⟩)
  | _, _, _ => False
def cutD (xs : List Dt) (lo hi : Option Int) : List Dt := (xs.drop (HT.sIx xs.length 0 lo)).take (HT.sIx xs.length xs.length hi - HT.sIx xs.length 0 lo)
def dSlc (x : Dt) (lo hi : Option Int) (Q : Dt → Prop) : Prop := match x with
  | .lst l => Q (.lst (cutD l lo hi))
  | .tup l => Q (.tup (cutD l lo hi))
  | .str s => s.length ≤ 100000 ∧ Q (.str (cutS s lo hi))
  | _ => False
def dLen : DFn
  | [.lst l], Q => Q (.int (l.length : Nat))
  | [.tup l], Q => Q (.int (l.length : Nat))
  | [.str s], Q => s.length ≤ 100000 ∧ Q (.int (s.length : Nat))
  | _, _ => False
def dIntC : DFn
  | [.int i], Q => Q (.int i)
  | [.bl k], Q => Q (.int (if k then 1 else 0))
  | _, _ => False
def dListC : DFn := fun ds Q => ∃ x l, ds = [x] ∧ items x = some l ∧ Q (.lst l)
def dTupleC : DFn := fun ds Q => ∃ x l, ds = [x] ∧ items x = some l ∧ Q (.tup l)
def dIntsC (f : List Int → (Int → Prop) → Prop) : DFn := fun ds Q => ∃ is : List Int, ds = [.lst (is.map Dt.int)] ∧ is ≠ [] ∧ f is fun m => Q (.int m)
def dMinC : DFn := fun ds Q => ∃ is : List Int, ds = [.lst (is.map Dt.int)] ∧ is ≠ [] ∧ ∀ m, m ∈ is → (∀ y ∈ is, m ≤ y) → Q (.int m)
def dMaxC : DFn := fun ds Q => ∃ is : List Int, ds = [.lst (is.map Dt.int)] ∧ is ≠ [] ∧ ∀ m, m ∈ is → (∀ y ∈ is, y ≤ m) → Q (.int m)
def dAllC : DFn := fun ds Q => ∃ bs : List Bool, ds = [.lst (bs.map Dt.bl)] ∧ Q (.bl (bs.all id))
def dAnyC : DFn := fun ds Q => ∃ bs : List Bool, ds = [.lst (bs.map Dt.bl)] ∧ Q (.bl (bs.any id))
section
variable {lk : Md} {K : Frag}
theorem o_i2 {f : Int → Int → V} {g : Int → Int → Dt} (h : ∀ i j (G : Hp), Rp K G (f i j) (g i j)) : Op2 lk K (rI0 f) (dI2 g) := by
  intro G H x y d e Qd Q s rx ry q k
  unfold dI2 at q
  split at q
  · cases rx; cases ry
    exact ⟨_, _, rfl, rfl, k _ _ G H (New.refl s) (h _ _ G) q⟩
  · exact q.elim
theorem o_sub : Op2 lk K xSub dSub := o_i2 fun i j G => .int _
theorem o_lt : Op2 lk K xLt dLt := o_i2 fun i j G => .bl _
theorem o_le : Op2 lk K xLe dLe := o_i2 fun i j G => .bl _
theorem o_gt : Op2 lk K xGt dGt := o_i2 fun i j G => .bl _
theorem o_ge : Op2 lk K xGe dGe := o_i2 fun i j G => .bl _
theorem o_neg : Op1 lk K (rU fun i => .int (-i)) dNeg := by
  intro G H x d Qd Q s rx q k
  unfold dNeg at q
  split at q
  · cases rx
    exact ⟨_, rfl, k _ _ G H (New.refl s) (.int _) q⟩
  · exact q.elim
theorem o_add : Op2 lk K (xAdd K) dAdd := by
  intro G H x y d e Qd Q s rx ry q k
  unfold dAdd at q
  split at q
  · cases rx; cases ry
    exact Or.inl ⟨_, _, rfl, rfl, k _ _ G H (New.refl s) (.int _) q⟩
  · cases rx; cases ry
    exact Or.inr (Or.inl ⟨_, _, rfl, rfl, sz5 q.1, k _ _ G H (New.refl s) (.str _) q.2⟩)
  · cases rx with
    | @lst a xs l h1 r1 =>
      cases ry with
      | @lst b ys l2 h2 r2 =>
        refine Or.inr (Or.inr (Or.inl ⟨_, _, _, _, rfl, rfl, s _ _ h1, s _ _ h2, sz5 (by rw [rps_len r1, rps_len r2]; exact q.1), fun p hp => ?_⟩))
        have n := New.one (m := lk) (o := .lst (xs ++ ys)) s hp
        exact k _ _ _ _ n (.lst upd_same (rps_ex n.g (rps_app r1 r2))) q.2
  · cases rx with
    | @tup a xs l h1 r1 =>
      cases ry with
      | @tup b ys l2 h2 r2 =>
        refine Or.inr (Or.inr (Or.inr ⟨_, _, _, _, rfl, rfl, Evl.ex_t s h1, Evl.ex_t s h2, sz5 (by rw [rps_len r1, rps_len r2]; exact q.1), fun e => ?_, fun e1 e2 => ?_, fun e1 e2 p hp => ?_⟩))
        · subst e
          cases r1
          exact k _ _ G H (New.refl s) (.tup h2 r2) q.2
        · subst e2
          cases r2
          exact k _ _ G H (New.refl s) (.tup h1 (by rw [List.append_nil]; exact r1)) q.2
        · have n := New.one (m := lk) (o := .tup (xs ++ ys)) s hp
          exact k _ _ _ _ n (.tup (Evl.st_of upd_same) (rps_ex n.g (rps_app r1 r2))) q.2
  · exact q.elim
theorem rps_rep {G : Hp} {xs : List V} {l : List Dt} (h : Rps K G xs l) : ∀ n : Nat, Rps K G (List.replicate n xs).flatten (List.replicate n l).flatten
  | 0 => .nil
  | n + 1 => by rw [List.replicate_succ, List.replicate_succ, List.flatten_cons, List.flatten_cons]; exact rps_app h (rps_rep h n)
theorem o_mul : Op2 lk K xMul dMul := by
  intro G H x y d e Qd Q s rx ry q k
  unfold dMul at q
  split at q
  · cases rx; cases ry
    exact Or.inl ⟨_, _, rfl, rfl, q.1, k _ _ G H (New.refl s) (.int _) q.2⟩
  · cases rx with
    | lst h1 r1 =>
      cases ry
      obtain ⟨q1, q2, q3, q4⟩ := q
      refine g_rep (s _ _ h1) q1 q2 (by rw [rps_len r1]; exact q3) ?_
      intro p H1 hp e1 h2
      have e2 : Ex G H1 := s.trans e1
      have hpG := Evl.fresh_back s hp
      refine k _ _ (upd G p (.lst (List.replicate _ _).flatten)) H1 ⟨Evl.Ex.new hpG, .of e1, ex_upd_of e2 h2, fun a o h => ?_, tabs_ex e1, (NoTb.refl G).one lst_tbl⟩ (.lst upd_same (rps_ex (Evl.Ex.new hpG) (rps_rep r1 _))) q4
      by_cases ea : a = p
      · subst ea; exact Or.inr (Or.inl (Or.inl hp))
      · rw [upd_ne ea] at h; exact Or.inl h
  · exact q.elim
theorem o_div : Op2 lk K xDiv dDiv := by
  intro G H x y d e Qd Q s rx ry q k
  unfold dDiv at q
  split at q
  · cases rx; cases ry
    exact ⟨_, _, rfl, rfl, ⟨q.1, q.2.1⟩, k _ _ G H (New.refl s) (.int _) q.2.2⟩
  · exact q.elim
theorem o_mod : Op2 lk K xMod dMod := by
  intro G H x y d e Qd Q s rx ry q k
  unfold dMod at q
  split at q
  · cases rx; cases ry
    exact ⟨_, _, rfl, rfl, q.1, k _ _ G H (New.refl s) (.int _) q.2⟩
  · exact q.elim
theorem o_pow : Op2 lk K xPow dPow := by
  intro G H x y d e Qd Q s rx ry q k
  unfold dPow at q
  split at q
  · cases rx; cases ry
    exact ⟨_, _, rfl, rfl, q.1, k _ _ G H (New.refl s) (.int _) q.2⟩
  · exact q.elim
theorem scals_v {G : Hp} {x y : V} {d e : Dt} {b : Bool} (rx : Rp K G x d) (ry : Rp K G y e) (h : scals d e = some b) : scal x y = true ∧ decide (x = y) = b := by
  cases rx <;> cases ry <;> first | (cases h; done) | (cases h; exact ⟨rfl, by simp⟩)
theorem o_eq : Op2 lk K (xEq K) (dEq false) := by
  intro G H x y d e Qd Q s rx ry q k
  unfold dEq at q
  split at q
  · rename_i b hb
    obtain ⟨h1, h2⟩ := scals_v rx ry hb
    refine Or.inl ⟨h1, ?_⟩
    rw [h2]
    exact k _ _ G H (New.refl s) (.bl _) (by simpa using q)
  · obtain ⟨f, g, h1, h2, h3, h4, h5⟩ := q
    refine Or.inr ⟨f, g, Cm.up s (dp_of rx h1), Cm.up s (dp_of ry h2), h3, h4, k _ _ G H (New.refl s) (.bl _) (by simpa using h5)⟩
theorem o_ne : Op2 lk K (xNe K) (dEq true) := by
  intro G H x y d e Qd Q s rx ry q k
  unfold dEq at q
  split at q
  · rename_i b hb
    obtain ⟨h1, h2⟩ := scals_v rx ry hb
    refine Or.inl ⟨h1, ?_⟩
    rw [h2]
    exact k _ _ G H (New.refl s) (.bl _) (by simpa using q)
  · obtain ⟨f, g, h1, h2, h3, h4, h5⟩ := q
    refine Or.inr ⟨f, g, Cm.up s (dp_of rx h1), Cm.up s (dp_of ry h2), h3, h4, k _ _ G H (New.refl s) (.bl _) (by simpa using h5)⟩
theorem non_iff {G : Hp} {x : V} {d : Dt} (rx : Rp K G x d) : decide (x = .non) = nonD d := by
  cases rx with
  | py h => cases h <;> simp [nonD]
  | _ => simp [nonD]
theorem o_isN : Op2 lk K xIsN (dIsN false) := by
  intro G H x y d e Qd Q s rx ry q k
  obtain ⟨rfl, q⟩ := q
  cases ry
  refine ⟨rfl, ?_⟩
  rw [non_iff rx]
  exact k _ _ G H (New.refl s) (.bl _) (by simpa using q)
theorem o_notN : Op2 lk K xNotN (dIsN true) := by
  intro G H x y d e Qd Q s rx ry q k
  obtain ⟨rfl, q⟩ := q
  cases ry
  refine ⟨rfl, ?_⟩
  rw [non_iff rx]
  exact k _ _ G H (New.refl s) (.bl _) (by simpa using q)
theorem rps_at {G : Hp} {xs : List V} {l : List Dt} {i : Int} {d : Dt} (r : Rps K G xs l) (h : atI l i = some d) : ∃ v, atI xs i = some v ∧ Rp K G v d := by
  unfold atI at h ⊢
  rw [rps_len r]
  cases e : ixN l.length i with
  | none => rw [e] at h; cases h
  | some j => rw [e] at h; exact rps_of r h
theorem rp_unp {G : Hp} {v : V} {d : PyData} (h : Dp K G v d) : Rp K G v (unp d) := by
  cases h with
  | non => exact .non
  | bl b => exact .bl b
  | int i => exact .int i
  | str i => exact .str i
  | lst h1 h2 => exact .py (.lst h1 h2)
  | tup h1 h2 => exact .py (.tup h1 h2)
theorem dpa_of : ∀ {vs : List V} {ds : List PyData} {H : Hp} {i : Nat} {d : PyData}, DpAll K H vs ds → ds[i]? = some d → ∃ v, vs[i]? = some v ∧ Dp K H v d
  | _, _, _, _, _, .nil, e => by simp at e
  | _, _, _, 0, _, .cons h _, e => by
    simp at e
    subst e
    exact ⟨_, rfl, h⟩
  | _, _, _, i + 1, d, .cons _ t, e => by
    obtain ⟨v, h1, h2⟩ := dpa_of (i := i) (d := d) t (by simpa using e)
    exact ⟨v, by simpa using h1, h2⟩
theorem o_ix : Op2 lk K (rIx K) dIx := by
  intro G H x y d e Qd Q s rx ry q k
  unfold dIx at q
  split at q
  · rename_i l i
    cases rx with
    | py hd =>
      cases hd with
      | @lst a xs _ hs ha =>
        cases ry
        obtain ⟨d', q1, q2⟩ := q
        have e : ∃ v, atI xs i = some v ∧ Dp K G v d' := by
          unfold atI at q1 ⊢
          rw [dpa_len ha]
          cases ej : ixN l.length i with
          | none => rw [ej] at q1; cases q1
          | some j => rw [ej] at q1; exact dpa_of ha q1
        obtain ⟨v, h2, r2⟩ := e
        exact g_ixL (Evl.ex_l s hs) h2 (k _ _ G H (New.refl s) (rp_unp r2) q2)
  · cases rx with
    | lst h1 r1 =>
      cases ry
      obtain ⟨d', q1, q2⟩ := q
      obtain ⟨v, h2, r2⟩ := rps_at r1 q1
      exact g_ixL (Evl.sq_of (s _ _ h1)) h2 (k _ _ G H (New.refl s) r2 q2)
  · cases rx with
    | tup h1 r1 =>
      cases ry
      obtain ⟨d', q1, q2⟩ := q
      obtain ⟨v, h2, r2⟩ := rps_at r1 q1
      exact g_ixT (Evl.ex_t s h1) h2 (k _ _ G H (New.refl s) r2 q2)
  · cases rx; cases ry
    obtain ⟨h1, c, h2, q2⟩ := q
    exact g_ixS (sz5 h1) h2 (k _ _ G H (New.refl s) (.str _) q2)
  · exact q.elim
theorem rps_cut {G : Hp} {xs : List V} {l : List Dt} {lo hi : Option Int} (r : Rps K G xs l) : Rps K G (cutV xs lo hi) (cutD l lo hi) := by
  unfold cutV cutD
  rw [rps_len r]
  exact rps_take _ (rps_drop _ r)
theorem o_sl : Sl3 lk K (xSl K) dSlc := by
  intro G H x d lo hi Qd Q s rx q k
  unfold dSlc at q
  split at q
  · cases rx with
    | @lst a xs l h1 r1 =>
      refine Or.inl ⟨_, _, rfl, Evl.sq_of (s _ _ h1), fun p hp => ?_⟩
      have n := New.one (m := lk) (o := .lst (cutV xs lo hi)) s hp
      exact k _ _ _ _ n (.lst upd_same (rps_ex n.g (rps_cut r1))) q
  · cases rx with
    | @tup a xs l h1 r1 =>
      refine Or.inr (Or.inl ⟨_, _, rfl, Evl.ex_t s h1, fun e => ?_, fun e p hp => ?_⟩)
      · refine k _ _ G H (New.refl s) (.tup h1 ?_) q
        rw [rps_len r1] at e
        unfold cutD
        rw [e.1, e.2, Nat.sub_zero, List.drop_zero, List.take_length]
        exact r1
      · have n := New.one (m := lk) (o := .tup (cutV xs lo hi)) s hp
        exact k _ _ _ _ n (.tup (Evl.st_of upd_same) (rps_ex n.g (rps_cut r1))) q
  · cases rx
    exact Or.inr (Or.inr ⟨_, rfl, sz5 q.1, k _ _ G H (New.refl s) (.str _) q.2⟩)
  · exact q.elim
theorem flat_of {G : Hp} {x : V} {d : Dt} (rx : Rp K G x d) (h : scalD d = true) : flatV x = true := by
  cases rx <;> first | rfl | cases h
theorem eqV_of {G : Hp} {x y : V} {d e : Dt} {b : Bool} (rx : Rp K G x d) (ry : Rp K G y e) (h : scals d e = some b) : eqV x y = b := by
  cases rx <;> cases ry <;> first | (cases h; done) | (cases h; rfl) | (cases h; simp [eqV, Bool.beq_eq_decide_eq])
theorem inV_of {G : Hp} {x : V} {d : Dt} (rx : Rp K G x d) : ∀ {ys : List V} {l : List Dt}, Rps K G ys l → (∀ e ∈ l, (scals e d).isSome = true) → (inV x ys = true ↔ ∃ e ∈ l, scals e d = some true)
  | _, _, .nil, _ => by simp [inV]
  | _, _, .cons (v := v) (d := e) (ds := l) h r, hs => by
    have h1 := hs e (List.mem_cons_self ..)
    have h2 := inV_of rx r fun z hz => hs z (List.mem_cons_of_mem _ hz)
    cases hb : scals e d with
    | none => rw [hb] at h1; cases h1
    | some b =>
      have h3 := eqV_of h rx hb
      unfold inV at h2 ⊢
      rw [List.any_cons, h3]
      cases b with
      | true => simp [hb]
      | false =>
        rw [Bool.false_or, h2]
        constructor
        · rintro ⟨z, hz, q⟩; exact ⟨z, List.mem_cons_of_mem _ hz, q⟩
        · rintro ⟨z, hz, q⟩
          rcases List.mem_cons.mp hz with rfl | hz
          · rw [hb] at q; cases q
          · exact ⟨z, hz, q⟩
theorem flats_of {G : Hp} : ∀ {ys : List V} {l : List Dt}, Rps K G ys l → l.all scalD = true → ys.all flatV = true
  | _, _, .nil, _ => rfl
  | _, _, .cons h r, hs => by
    rw [List.all_cons, Bool.and_eq_true] at hs
    rw [List.all_cons, flat_of h hs.1, flats_of r hs.2]
    rfl
end
def dIn2 (x y : Dt) (Q : Dt → Prop) : Prop := match y with
  | .str z => ∃ k, x = .str ⟨#[k]⟩ ∧ Q (.bl (decide (k ∈ z.cps.toList)))
  | y => ∃ l, items y = some l ∧ ((scalD x = true ∧ l.all scalD = true ∧ (∀ d ∈ l, (scals d x).isSome = true) ∧ ∀ b, (b = true ↔ ∃ d ∈ l, scals d x = some true) → Q (.bl b)) ∨
    ∃ d es, (∃ l', y = .lst l') ∧ pyd x = some d ∧ pyds l = some es ∧ SeqAt.shaped d = true ∧ SeqAt.shaped (.list es) = true ∧ Q (.bl (es.any fun z => PyData.eqv z d)))
section
variable {lk : Md} {K : Frag}
theorem o_in : Op2 lk K (xIn K) dIn2 := by
  intro G H x y d e Qd Q s rx ry q k
  unfold dIn2 at q
  split at q
  · cases ry
    obtain ⟨c, rfl, q⟩ := q
    cases rx
    exact g_inS (k _ _ G H (New.refl s) (.bl _) q)
  · obtain ⟨l, hl, q⟩ := q
    obtain ⟨p, ys, rfl, hs, hr⟩ := items_up ry hl
    rcases q with ⟨q1, q2, hz, q3⟩ | ⟨f, es, ⟨l', rfl⟩, q1, q2, q3, q4, q5⟩
    · exact Or.inl ⟨p, ys, rfl, (sq2_up s hs).symm, flat_of rx q1, flats_of hr q2, k _ _ G H (New.refl s) (.bl _) (q3 _ (inV_of rx hr hz))⟩
    · cases hl
      cases ry with
      | lst h1 r1 => exact Or.inr (Or.inl ⟨f, es, Cm.up s (dp_of rx q1), .lst (Evl.sq_of (s _ _ h1)) (trs_up s (dps_of r1 q2)), q3, q4, k _ _ G H (New.refl s) (.bl _) q5⟩)
theorem o_len : OpN lk K (rLn K) dLen := by
  intro G H xs ds Qd Q s r q k
  unfold dLen at q
  split at q
  · cases r with
    | cons a r => cases r; cases a with
      | lst h1 r1 => exact g_lenL (Evl.sq_of (s _ _ h1)) (by rw [rps_len r1]; exact k _ _ G H (New.refl s) (.int _) q)
  · cases r with
    | cons a r => cases r; cases a with
      | tup h1 r1 => exact g_lenT (Evl.ex_t s h1) (by rw [rps_len r1]; exact k _ _ G H (New.refl s) (.int _) q)
  · cases r with
    | cons a r => cases r; cases a; exact g_lenS (sz5 q.1) (k _ _ G H (New.refl s) (.int _) q.2)
  · exact q.elim
theorem o_int : OpN lk K rInt dIntC := by
  intro G H xs ds Qd Q s r q k
  unfold dIntC at q
  split at q
  · cases r with
    | cons a r => cases r; cases a; exact Or.inl ⟨_, rfl, k _ _ G H (New.refl s) (.int _) q⟩
  · cases r with
    | cons a r => cases r; cases a; exact Or.inr ⟨_, rfl, k _ _ G H (New.refl s) (.int _) q⟩
  · exact q.elim
theorem o_list : OpN lk K (rList K) dListC := by
  intro G H xs ds Qd Q s r q k
  obtain ⟨x, l, rfl, hl, q⟩ := q
  cases r with
  | cons a r =>
    cases r
    obtain ⟨p, ys, rfl, hs, hr⟩ := items_up a hl
    refine ⟨p, ys, rfl, (sq2_up s hs).symm, fun t ht => ?_⟩
    have n := New.one (m := lk) (o := .lst ys) s ht
    exact k _ _ _ _ n (.lst upd_same (rps_ex n.g hr)) q
theorem o_tuple : OpN lk K (rTuple K) dTupleC := by
  intro G H xs ds Qd Q s r q k
  obtain ⟨x, l, rfl, hl, q⟩ := q
  cases r with
  | cons a r =>
    cases r
    obtain ⟨p, ys, rfl, hs, hr⟩ := items_up a hl
    rcases hs with hs | hs
    · exact ⟨p, ys, rfl, Or.inr ⟨Evl.ex_t s hs, k _ _ G H (New.refl s) (.tup hs hr) q⟩⟩
    · refine ⟨p, ys, rfl, Or.inl ⟨Evl.ex_l s hs, fun t ht => ?_⟩⟩
      have n := New.one (m := lk) (o := .tup ys) s ht
      exact k _ _ _ _ n (.tup (Evl.st_of upd_same) (rps_ex n.g hr)) q
theorem rps_ints {G : Hp} : ∀ {is : List Int} {xs : List V}, Rps K G xs (is.map Dt.int) → xs = is.map V.int
  | [], _, h => by cases h; rfl
  | i :: is, _, h => by cases h with | cons a r => cases a; rw [rps_ints r]; rfl
theorem rps_bls {G : Hp} : ∀ {is : List Bool} {xs : List V}, Rps K G xs (is.map Dt.bl) → xs = is.map V.bl
  | [], _, h => by cases h; rfl
  | i :: is, _, h => by cases h with | cons a r => cases a; rw [rps_bls r]; rfl
theorem o_min : OpN lk K (rMin K) dMinC := by
  intro G H xs ds Qd Q s r q k
  obtain ⟨is, rfl, hne, q⟩ := q
  cases r with
  | cons a r =>
    cases r
    cases a with
    | lst h1 r1 =>
      obtain rfl := rps_ints r1
      exact ⟨_, is, rfl, Evl.sq_of (s _ _ h1), List.length_pos_iff.mpr hne, fun m h1 h2 => k _ _ G H (New.refl s) (.int _) (q m h1 h2)⟩
theorem o_max : OpN lk K (rMax K) dMaxC := by
  intro G H xs ds Qd Q s r q k
  obtain ⟨is, rfl, hne, q⟩ := q
  cases r with
  | cons a r =>
    cases r
    cases a with
    | lst h1 r1 =>
      obtain rfl := rps_ints r1
      exact ⟨_, is, rfl, Evl.sq_of (s _ _ h1), List.length_pos_iff.mpr hne, fun m h1 h2 => k _ _ G H (New.refl s) (.int _) (q m h1 h2)⟩
theorem o_all : OpN lk K (rAll K) dAllC := by
  intro G H xs ds Qd Q s r q k
  obtain ⟨is, rfl, q⟩ := q
  cases r with
  | cons a r =>
    cases r
    cases a with
    | lst h1 r1 =>
      obtain rfl := rps_bls r1
      exact ⟨_, is, rfl, Evl.sq_of (s _ _ h1), k _ _ G H (New.refl s) (.bl _) q⟩
theorem o_any : OpN lk K (rAny K) dAnyC := by
  intro G H xs ds Qd Q s r q k
  obtain ⟨is, rfl, q⟩ := q
  cases r with
  | cons a r =>
    cases r
    cases a with
    | lst h1 r1 =>
      obtain rfl := rps_bls r1
      exact ⟨_, is, rfl, Evl.sq_of (s _ _ h1), k _ _ G H (New.refl s) (.bl _) q⟩
end
end Dl

set_option Elab.async false
set_option linter.all false
set_option maxRecDepth 100000
set_option maxHeartbeats 3000000
/-! The layer of data, 3: what is walked, targets, statements, comprehensions, calls. -/
namespace Dl
open L2 PySem PySem.Spec PyProof.Rows RZ StX Cm
abbrev DTgt := Dt → Env → (Env → Prop) → Prop
structure DEnds where
  nx : Env → Prop
  rt : Dt → Prop
  bk : Env → Prop
  ct : Env → Prop
  rl : List Dt → Prop := fun _ => False
abbrev DStm := DEnds → Env → Prop
section
def SameBut (ts : List Nat) (σ σ' : L2.St) : Prop := σ'.length = σ.length ∧ ∀ i, i ∉ ts → σ'[i]? = σ[i]?
variable {σ σ' σ'' : L2.St}
theorem same_set (i : Nat) (x : Option V) : SameBut [i] σ (σ.set i x) := ⟨List.length_set, fun j h => by
  rw [List.getElem?_set_ne]
  exact fun z => h (by rw [z]; exact List.mem_cons_self ..)⟩
theorem SameBut.trans {ts us : List Nat} (a : SameBut ts σ σ') (b : SameBut us σ' σ'') : SameBut (ts ++ us) σ σ'' := ⟨b.1.trans a.1, fun i h => by
  rw [List.mem_append] at h
  rw [b.2 i fun z => h (Or.inr z), a.2 i fun z => h (Or.inl z)]⟩
end
section
variable (lk : Lk) (K : Frag)
def LiftG (tg : TG) (dg : DTgt) (ts : List Nat) : Prop := ∀ (G : Hp) (σ : L2.St) (H : Hp) (ρ : Env) (v : V) (d : Dt) (Qd : Env → Prop) (Q : L2.St → Hp → Prop), Rep lk K G σ H ρ → Rp K G v d → dg d ρ Qd →
  (∀ σ' ρ', Rep lk K G σ' H ρ' → SameBut ts σ σ' → Qd ρ' → Q σ' H) → tg v σ H Q
def LiftGs (tg : TGs) (dg : List Dt → Env → (Env → Prop) → Prop) (ts : List Nat) : Prop := ∀ (G : Hp) (σ : L2.St) (H : Hp) (ρ : Env) (vs : List V) (ds : List Dt) (Qd : Env → Prop) (Q : L2.St → Hp → Prop), Rep lk K G σ H ρ → Rps K G vs ds → dg ds ρ Qd →
  (∀ σ' ρ', Rep lk K G σ' H ρ' → SameBut ts σ σ' → Qd ρ' → Q σ' H) → tg vs σ H Q
def WalkD (J : It) (G : Hp) (l : List Dt) : Prop := ∃ (Gd : Hp → Prop) (Y : Nat → Hp → V → Hp → Prop), Walk J l.length Gd Y ∧ (∀ H, Ex G H → Gd H) ∧
  ∀ (i : Nat) (G1 H : Hp) (x : V) (H' : Hp) (d : Dt), Ex G G1 → Ex G1 H → Y i H x H' → l[i]? = some d → ∃ G2, (∀ m : Md, New m G1 H G2 H') ∧ Rp K G2 x d
def LiftI (wi : TI) (di : DArg) : Prop := ∀ (G : Hp) (σ : L2.St) (H : Hp) (ρ : Env) (Qd : List Dt → Prop) (R : It → Hp → Prop), Rep lk K G σ H ρ → di ρ Qd → (∀ J l G' H', New lk.m G H G' H' → WalkD K J G' l → Qd l → R J H') → wi σ H R
end
structure EndsOk (lk : Lk) (K : Frag) (G : Hp) (Dd : DEnds) (D : Ends) : Prop where
  nx : ∀ G' σ' H' ρ', Ex G G' → Rep lk K G' σ' H' ρ' → Dd.nx ρ' → D.nx σ' H'
  rt : ∀ G' v d H', Ex G G' → Ex G' H' → Bas lk G' H' → Rp K G' v d → Dd.rt d → D.rt v H'
  bk : ∀ G' σ' H' ρ', Ex G G' → Rep lk K G' σ' H' ρ' → Dd.bk ρ' → D.bk σ' H'
  ct : ∀ G' σ' H' ρ', Ex G G' → Rep lk K G' σ' H' ρ' → Dd.ct ρ' → D.ct σ' H'
  rl : ∀ G' p xs ds H', Ex G G' → Ex G' H' → Bas lk G' H' → Free lk.H0 p → G' p = none → H' p = some (.lst xs) → Rps K G' xs ds → Dd.rl ds → D.rt (.ref p) H'
theorem EndsOk.up {lk : Lk} {K : Frag} {G G1 : Hp} {Dd : DEnds} {D : Ends} (k : EndsOk lk K G Dd D) (e : Ex G G1) : EndsOk lk K G1 Dd D :=
  ⟨fun G' σ' H' ρ' e' => k.nx G' σ' H' ρ' (e.trans e'), fun G' v d H' e' => k.rt G' v d H' (e.trans e'), fun G' σ' H' ρ' e' => k.bk G' σ' H' ρ' (e.trans e'), fun G' σ' H' ρ' e' => k.ct G' σ' H' ρ' (e.trans e'), fun G' p xs ds H' e' => k.rl G' p xs ds H' (e.trans e')⟩
def LiftS (lk : Lk) (K : Frag) (ts : TS) (ds : DStm) : Prop := ∀ (G : Hp) (σ : L2.St) (H : Hp) (ρ : Env) (Dd : DEnds) (D : Ends), Rep lk K G σ H ρ → ds Dd ρ → EndsOk lk K G Dd D → ts D σ H
/-- a new list, still mutable -/
def LiftEL (lk : Lk) (K : Frag) (te : TE) (de : DArg) : Prop := ∀ (G : Hp) (σ : L2.St) (H : Hp) (ρ : Env) (Qd : List Dt → Prop) (Q : VK), Rep lk K G σ H ρ → de ρ Qd →
  (∀ p xs ds G' H', New lk.m G H G' H' → Free H p → G' p = none → H' p = some (.lst xs) → Rps K G' xs ds → Qd ds → Q (.ref p) H') → te σ H Q
/-! ### words -/
def eName (i : Nat) : DTgt := fun d ρ Q => Q (ρ.set i (some (.v d)))
def esNil : List Dt → Env → (Env → Prop) → Prop := fun ds ρ Q => ds = [] ∧ Q ρ
def esCons (g : DTgt) (r : List Dt → Env → (Env → Prop) → Prop) : List Dt → Env → (Env → Prop) → Prop := fun ds ρ Q => ∃ d l, ds = d :: l ∧ g d ρ fun ρ' => r l ρ' Q
def eTup (n : Nat) (g : List Dt → Env → (Env → Prop) → Prop) : DTgt := fun d ρ Q => ∃ l, d = .tup l ∧ l.length = n ∧ g l ρ Q
def dSeq (t u : DStm) : DStm := fun D ρ => t { D with nx := u D } ρ
def dIfS (c : DTst) (t u : DStm) : DStm := fun D ρ => c ρ fun b => if b = true then t D ρ else u D ρ
def dRet (e : DExp) : DStm := fun D ρ => e ρ D.rt
def dRetN : DStm := fun D _ => D.rt .non
def dDrop (e : DExp) : DStm := fun D ρ => e ρ fun _ => D.nx ρ
def dNext : DStm := fun D ρ => D.nx ρ
def dNo : DStm := fun _ _ => False
def dAsg (e : DExp) (g : DTgt) : DStm := fun D ρ => e ρ fun d => g d ρ D.nx
def dAsgL (e : DArg) (i : Nat) : DStm := fun D ρ => e ρ fun ds => D.nx (ρ.set i (some (.l ds)))
def dPar (i j : Nat) (t : DArg) : DStm := fun D ρ => t ρ fun ds => ∃ d e, ds = [d, e] ∧ D.nx ((ρ.set i (some (.v d))).set j (some (.v e)))
def dFrz (i : Nat) (t : DStm) : DStm := fun D ρ => t D (frz i ρ)
def dCut (t u : DStm) : DStm := fun D ρ => ∃ W : Env → Prop, t { D with nx := W } ρ ∧ ∀ ρ', W ρ' → u D ρ'
def dApp (i : Nat) (e : DExp) : DStm := fun D ρ => ∃ ds, ρ[i]? = some (some (.l ds)) ∧ e ρ fun d => ds.length < 100000 ∧ D.nx (ρ.set i (some (.l (ds ++ [d]))))
def dLoop (g : DTgt) (body : DStm) (D : DEnds) : List Dt → Env → Prop
  | [], ρ => D.nx ρ
  | x :: r, ρ => g x ρ fun ρ1 => body { D with nx := dLoop g body D r, ct := dLoop g body D r, bk := D.nx } ρ1
def dFor (i : DArg) (g : DTgt) (body : DStm) : DStm := fun D ρ => i ρ fun l => dLoop g body D l ρ
def wipeD (ρ : Env) : List Nat → Env
  | [] => ρ
  | v :: vs => (wipeD ρ vs).set v none
def dMap (g : DTgt) (c : DTst) (e : DExp) (ρ : Env) : List Dt → (List Dt → Prop) → Prop
  | [], Q => Q []
  | x :: r, Q => g x ρ fun ρ1 => c ρ1 fun b => if b = true then e ρ1 fun y => dMap g c e ρ r fun ys => Q (y :: ys) else dMap g c e ρ r Q
def dLcL (i : DArg) (g : DTgt) (c : DTst) (e : DExp) (vs : List Nat) : DArg := fun ρ Q => i ρ fun l => l.length ≤ 100000 ∧ dMap g c e (wipeD ρ vs) l Q
def dYes : DTst := fun _ Q => Q true
def dLstL (a : DArg) : DArg := fun ρ Q => a ρ fun xs => xs.length ≤ 100000 ∧ Q xs
def dListL (a : DExp) : DArg := fun ρ Q => a ρ fun x => ∃ l, items x = some l ∧ Q l
/-- the new list stands still from now on -/
def dOfL (e : DArg) : DExp := fun ρ Q => e ρ fun ds => Q (.lst ds)
section
variable {lk : Lk} {K : Frag} {ta tb tc : TE} {da db dc : DExp} {ca cb : TT} {ea eb : DTst} {wa : TA} {aa : DArg} {g : TG} {dg : DTgt} {gs : TGs} {dgs : List Dt → Env → (Env → Prop) → Prop} {ts us : List Nat} {s t : TS} {ds dt : DStm} {wi : TI} {di : DArg}
theorem l_name (i : Nat) : LiftG lk K (gName i) (eName i) [i] := fun G σ H ρ v d Qd Q R r h k => k _ _ (R.setV i r) (same_set i _) h
theorem l_gnil : LiftGs lk K gNil esNil [] := fun G σ H ρ vs ds Qd Q R r h k => by
  obtain ⟨rfl, h⟩ := h
  cases r
  exact ⟨rfl, k σ ρ R ⟨rfl, fun _ _ => rfl⟩ h⟩
theorem l_gcons (h1 : LiftG lk K g dg ts) (h2 : LiftGs lk K gs dgs us) : LiftGs lk K (gCons g gs) (esCons dg dgs) (ts ++ us) := fun G σ H ρ vs ds Qd Q R r h k => by
  obtain ⟨d, l, rfl, h⟩ := h
  cases r with
  | cons a r =>
    refine ⟨_, _, rfl, h1 G σ H ρ _ _ _ _ R a h fun σ1 ρ1 R1 s1 q1 => ?_⟩
    exact h2 G σ1 H ρ1 _ _ _ _ R1 r q1 fun σ2 ρ2 R2 s2 q2 => k σ2 ρ2 R2 (s1.trans s2) q2
theorem l_gtup {n : Nat} (h : LiftGs lk K gs dgs ts) : LiftG lk K (gTup K n gs) (eTup n dgs) ts := fun G σ H ρ v d Qd Q R r q k => by
  obtain ⟨l, rfl, hl, q⟩ := q
  cases r with
  | tup h1 r1 => exact ⟨_, _, rfl, Evl.ex_t R.sub h1, by rw [rps_len r1]; exact hl, h G σ H ρ _ _ _ _ R r1 q k⟩
theorem l_seq (h1 : LiftS lk K s ds) (h2 : LiftS lk K t dt) : LiftS lk K (tSeq s t) (dSeq ds dt) := fun G σ H ρ Dd D S h k => by
  exact h1 G σ H ρ _ _ S h ⟨fun G' σ' H' ρ' e S' q => h2 G' σ' H' ρ' Dd D S' q (k.up e), k.rt, k.bk, k.ct, k.rl⟩
theorem l_cut (h1 : LiftS lk K s ds) (h2 : LiftS lk K t dt) : LiftS lk K (Evl.tCut s t) (dCut ds dt) := fun G σ H ρ Dd D S h k => by
  obtain ⟨W, h, hw⟩ := h
  refine ⟨fun σ' H' => ∃ G' ρ', Ex G G' ∧ Rep lk K G' σ' H' ρ' ∧ W ρ', h1 G σ H ρ _ _ S h ⟨fun G' σ' H' ρ' e S' q => ⟨G', ρ', e, S', q⟩, k.rt, k.bk, k.ct, k.rl⟩, ?_⟩
  rintro σ' H' ⟨G', ρ', e, S', q⟩
  exact h2 G' σ' H' ρ' Dd D S' (hw ρ' q) (k.up e)
theorem l_ifS (hc : LiftT lk K ca ea) (h1 : LiftS lk K s ds) (h2 : LiftS lk K t dt) : LiftS lk K (tIfS ca s t) (dIfS ea ds dt) := fun G σ H ρ Dd D S h k => by
  refine hc G σ H ρ _ _ S h fun b G1 H1 n1 q => ?_
  cases b with
  | true => exact iteT (h1 G1 σ H1 ρ Dd D (S.new n1) (by simpa using q) (k.up n1.g))
  | false => exact iteF (h2 G1 σ H1 ρ Dd D (S.new n1) (by simpa using q) (k.up n1.g))
theorem l_ret (ha : LiftE lk K ta da) : LiftS lk K (tRet ta) (dRet da) := fun G σ H ρ Dd D S h k => by
  exact ha G σ H ρ _ _ S h fun v d G1 H1 n1 r1 q => k.rt G1 v d H1 n1.g n1.s (S.bas.new n1) r1 q
theorem l_retN : LiftS lk K tRetN dRetN := fun G σ H ρ Dd D S h k => by
  exact k.rt G _ _ H (Evl.Ex.refl _) S.sub S.bas .non h
theorem l_drop (ha : LiftE lk K ta da) : LiftS lk K (tDrop ta) (dDrop da) := fun G σ H ρ Dd D S h k => by
  exact ha G σ H ρ _ _ S h fun v d G1 H1 n1 r1 q => k.nx G1 σ H1 ρ n1.g (S.new n1) q
theorem l_next : LiftS lk K tNext dNext := fun G σ H ρ Dd D S h k => by
  exact k.nx G σ H ρ (Evl.Ex.refl _) S h
theorem l_no : LiftS lk K tNo dNo := fun G σ H ρ Dd D S h k => by
  exact h
theorem l_asg (ha : LiftE lk K ta da) (hg : LiftG lk K g dg ts) : LiftS lk K (tAsg ta g) (dAsg da dg) := fun G σ H ρ Dd D S h k => by
  refine ha G σ H ρ _ _ S h fun v d G1 H1 n1 r1 q => ?_
  have S1 := S.new n1
  exact hg G1 σ H1 ρ v d _ _ S1 r1 q fun σ' ρ' R' _ q2 => k.nx G1 σ' H1 ρ' n1.g R' q2
theorem l_par {i j : Nat} (hw : LiftA lk K wa aa) : LiftS lk K (tPar i j wa) (dPar i j aa) := fun G σ H ρ Dd D S h k => by
  refine hw G σ H ρ _ _ S h fun vs ds G1 H1 n1 r1 q => ?_
  obtain ⟨d, e, rfl, q⟩ := q
  have S1 := S.new n1
  cases r1 with
  | cons a r => cases r with
    | cons b r =>
      cases r
      exact ⟨_, _, rfl, k.nx G1 _ H1 _ n1.g ((S1.setV i a).setV j b) q⟩
theorem l_asgL {i : Nat} (hlk : ¬ lk.p) (ha : LiftEL lk K ta di) : LiftS lk K (tAsg ta (gName i)) (dAsgL di i) := fun G σ H ρ Dd D S h k => by
  refine ha G σ H ρ _ _ S h fun p xs ds G1 H1 n1 hp hg hx r1 q => ?_
  have S1 := S.new n1
  have hk : SlotOk K G1 H1 (some (.ref p)) (some (.l ds)) := ⟨p, xs, rfl, hg, hx, r1⟩
  have hn : ∀ j, own (ρ.getD j none) = true → σ.getD j none ≠ some (.ref p) := fun j h1 h2 => by
    obtain ⟨_, o, e, ht⟩ := S.owned h1 h2
    exact hp.no e ht
  exact k.nx G1 _ H1 _ n1.g (S1.setO hlk i (S.bas.fr hp) rfl (.inl rfl) hk hn) q
theorem l_frz {i : Nat} (h1 : LiftS lk K s ds) : LiftS lk K s (dFrz i ds) := fun G σ H ρ Dd D S h k => by
  obtain ⟨G1, e1, R1⟩ := S.frz i
  exact h1 G1 σ H (frz i ρ) Dd D R1 h (k.up e1)
theorem free_of {lk : Lk} {G H : Hp} (b : Bas lk G H) {a : Addr} (hx : lk.xo ≠ some a) (h : Free H a) : Free lk.H0 a := (b.fr h).resolve_right hx
theorem new_none {m : Md} (hm : ¬ m.p) {G H G1 H1 : Hp} (n : New m G H G1 H1) {p : Addr} {o : HO} (h2 : G p = none) (h3 : H p = some o) (ht : ∀ ps, o ≠ .tbl ps) : G1 p = none := by
  cases e : G1 p with
  | none => rfl
  | some u =>
    rcases n.n p u e with z | z | z
    · rw [h2] at z; cases z
    · exact (z.no h3 ht).elim
    · exact absurd z hm
theorem lst_ext {xs : List V} : ∀ φ, HO.lst xs ≠ .ext φ := fun φ z => by cases z
theorem ins_ext {C dx : Addr} {fs : List (Str × V)} : ∀ φ, HO.ins C dx fs ≠ .ext φ := fun φ z => by cases z
theorem rep_p {G : Hp} {σ : L2.St} {H : Hp} {ρ : Env} (S : Rep lk K G σ H ρ) {i : Nat} {c : Cell} (hi : ρ[i]? = some (some c)) (hc : own (some c) = true) : ¬ lk.p := fun z => by
  have := S.r.no z i
  rw [getD_of hi, hc] at this
  cases this
theorem l_app {i : Nat} (ha : LiftE lk K ta da) : LiftS lk K (tDrop (tBM K "list" rAppend (tVar i) (tCons ta tNil))) (dApp i da) := fun G σ H ρ Dd D S h k => by
  obtain ⟨ds, hi, h⟩ := h
  obtain ⟨p, xs, h1, h2, h3, h4⟩ := S.r.lst hi
  refine ⟨.ref p, h1, Or.inl ⟨rfl, _, Evl.sq_of h3⟩, ?_⟩
  refine ha G σ H ρ _ _ S h fun v d G1 H1 n1 r1 q => ?_
  have S1 := S.new n1
  have hG1 : G1 p = none := new_none (rep_p S hi rfl) n1 h2 h3 lst_tbl
  have ho : own (ρ.getD i none) = true := by rw [getD_of hi]; rfl
  have hH1 := n1.h.get h3 lst_tbl
  refine ⟨p, xs, v, rfl, rfl, hH1, sz5lt (by rw [rps_len h4]; exact q.1), ?_⟩
  have hk : SlotOk K G1 (upd H1 p (.lst (xs ++ [v]))) (some (.ref p)) (some (.l (ds ++ [d]))) := ⟨p, _, rfl, hG1, upd_same, rps_app (rps_ex n1.g h4) (.cons r1 .nil)⟩
  exact k.nx G1 σ _ _ n1.g (S1.mut ho (getD_of h1) hG1 hH1 lst_tbl lst_ext rfl (by intro z; cases z) hk) q.2
theorem l_for (hi : LiftI lk K wi di) (hg : LiftG lk K g dg ts) (hb : LiftS lk K s ds) : LiftS lk K (tFor wi g s) (dFor di dg ds) := fun G σ H ρ Dd D S h k => by
  refine g_for (hi G σ H ρ _ _ S h fun J l G1 H1 n1 w h1 => ?_)
  obtain ⟨Gd, Y, w, hG, hY⟩ := w
  refine for_on w (fun i σ H => ∃ G ρ, Ex G1 G ∧ Rep lk K G σ H ρ ∧ dLoop dg ds Dd (l.drop i) ρ) ⟨G1, ρ, Evl.Ex.refl _, S.new n1, h1⟩ (fun i σ H _ ⟨G2, ρ2, e, S2, _⟩ => hG H (e.trans S2.sub)) ?_ ?_
  · rintro i x σ2 H2 H3 hi ⟨G2, ρ2, e, S2, hl⟩ hy
    obtain ⟨G3, n3, r3⟩ := hY i G2 H2 x H3 l[i] e S2.sub hy (List.getElem?_eq_getElem hi)
    rw [List.drop_eq_getElem_cons hi] at hl
    have S3 := S2.new (n3 _)
    have e3 := e.trans (n3 lk.m).g
    refine hg G3 σ2 H3 ρ2 x _ _ _ S3 r3 hl fun σ' ρ' R' _ q => ?_
    refine hb G3 σ' H3 ρ' _ _ R' q ⟨fun G' σ' H' ρ' e' S' q' => ⟨G', ρ', e3.trans e', S', q'⟩, fun G' v d H' e' => k.rt G' v d H' ((n1.g.trans e3).trans e'), fun G' σ' H' ρ' e' => k.nx G' σ' H' ρ' ((n1.g.trans e3).trans e'), fun G' σ' H' ρ' e' S' q' => ⟨G', ρ', e3.trans e', S', q'⟩, fun G' p xs ds H' e' => k.rl G' p xs ds H' ((n1.g.trans e3).trans e')⟩
  · rintro σ2 H2 ⟨G2, ρ2, e, S2, hl⟩
    rw [List.drop_length] at hl
    exact k.nx G2 σ2 H2 ρ2 (n1.g.trans e) S2 hl
theorem Rep.wipe {G H : Hp} {σ : L2.St} {ρ : Env} (R : Rep lk K G σ H ρ) : ∀ vs : List Nat, Rep lk K G (wipe σ vs) H (wipeD ρ vs)
  | [] => R
  | v :: vs => (Rep.wipe R vs).setN v
theorem wipe_at (σ : L2.St) : ∀ (vs : List Nat) (i : Nat), (wipe σ vs)[i]? = if i ∈ vs ∧ i < σ.length then some none else σ[i]?
  | [], i => by simp [wipe]
  | v :: vs, i => by
    show ((wipe σ vs).set v none)[i]? = _
    rw [List.getElem?_set, wipe_length]
    by_cases e : v = i
    · subst e
      by_cases h : v < σ.length
      · rw [if_pos rfl, if_pos h, if_pos ⟨List.mem_cons_self .., h⟩]
      · rw [if_pos rfl, if_neg h, if_neg fun z => h z.2, List.getElem?_eq_none (by omega)]
    · rw [if_neg e, wipe_at σ vs i]
      by_cases h : i ∈ vs ∧ i < σ.length
      · rw [if_pos h, if_pos ⟨List.mem_cons_of_mem _ h.1, h.2⟩]
      · rw [if_neg h, if_neg fun z => h ⟨(List.mem_cons.mp z.1).resolve_left (Ne.symm e), z.2⟩]
theorem wipe_same {σ σ2 : L2.St} {vs ts : List Nat} (h : SameBut ts (wipe σ vs) σ2) (hs : ∀ i ∈ ts, i ∈ vs) : wipe σ2 vs = wipe σ vs := by
  refine List.ext_getElem? fun i => ?_
  rw [wipe_at, h.1, wipe_length]
  by_cases e : i ∈ vs ∧ i < σ.length
  · rw [if_pos e, wipe_at, if_pos e]
  · rw [if_neg e]
    by_cases e2 : i ∈ vs
    · have hlt : ¬ i < σ.length := fun z => e ⟨e2, z⟩
      rw [List.getElem?_eq_none (by rw [h.1, wipe_length]; omega), List.getElem?_eq_none (by rw [wipe_length]; omega)]
    · exact h.2 i fun z => e2 (hs i z)
theorem l_lcL {vs : List Nat} (hi : LiftI lk K wi di) (hg : LiftG lk.nx K g dg ts) (hc : LiftT lk.nx K ca ea) (he : LiftE lk.nx K ta da) (hs : ∀ i ∈ ts, i ∈ vs) : LiftEL lk K (tLc wi g ca ta vs) (dLcL di dg ea da vs) := fun G σ H ρ Qd Q R h k => by
  refine g_lc (hi G σ H ρ _ _ R h fun J l G1 H1 n1 w h1 => ?_)
  obtain ⟨hlen, h1⟩ := h1
  obtain ⟨Gd, Y, w, hG, hY⟩ := w
  intro D hD
  have R1 := (R.new n1).nx.wipe vs
  have hDG : ∀ {G2 : Hp}, G1 D = none → True := fun _ => trivial
  refine lc_it w (Qd := fun H' => Q (.ref D) H') (fun i H => ∃ G2 acc ys, New lk.nx.m G1 H1 G2 H ∧ G2 D = none ∧ H D = some (.lst acc) ∧ Rps K G2 acc ys ∧ acc.length ≤ i ∧ dMap dg ea da (wipeD ρ vs) (l.drop i) fun zs => Qd (ys ++ zs))
    ⟨G1, [], [], New.grow n1.s (Evl.Ex.new hD), Evl.fresh_back n1.s hD, upd_same, .nil, Nat.zero_le _, h1⟩ (fun i H2 _ ⟨G2, _, _, n2, _⟩ => hG H2 (n2.g.trans n2.s)) ?_ ?_
  · rintro i x H2 H3 hi ⟨G2, acc, ys, n2, hD2, hacc, hr, hle, hm⟩ hy
    obtain ⟨G3, n3, r3⟩ := hY i G2 H2 x H3 l[i] n2.g n2.s hy (List.getElem?_eq_getElem hi)
    rw [List.drop_eq_getElem_cons hi] at hm
    have n3 := n3 lk.nx.m
    have n13 := n2.trans n3
    have keepD : ∀ {G4 H4 : Hp}, New lk.nx.m G2 H2 G4 H4 → G4 D = none ∧ H4 D = some (.lst acc) := fun {G4 H4} n => by
      refine ⟨?_, n.h.get hacc (by intro ps z; cases z)⟩
      cases e : G4 D with
      | none => rfl
      | some o =>
        rcases n.n D o e with z | z | z
        · rw [hD2] at z; cases z
        · exact (z.no hacc lst_tbl).elim
        · exact z.elim
    refine hg G3 _ H3 _ x _ _ _ (R1.new n13) r3 hm fun σ' ρ' R' sb q => ⟨wipe_same sb hs, ?_⟩
    refine hc G3 σ' H3 ρ' _ _ R' q fun b G4 H4 n4 q4 => ?_
    cases b with
    | true =>
      refine iteT (he G4 σ' H4 ρ' _ _ (R'.new n4) (by simpa using q4) fun v d G5 H5 n5 r5 q5 => ?_)
      have n25 := (n3.trans n4).trans n5
      obtain ⟨k1, k2⟩ := keepD n25
      have n15 := n2.trans n25
      refine ⟨acc, k2, sz5lt (by omega), G5, acc ++ [v], ys ++ [d], ⟨n15.g, Exh.mut n15.h (Or.inl hD), fun a o e => ?_, n15.n, fun t => tabs_mut k2 lst_tbl lst_ext (n15.t t), n15.q⟩, k1, upd_same, rps_app (rps_ex n25.g hr) (.cons r5 .nil), by rw [List.length_append]; exact Nat.succ_le_succ hle, ?_⟩
      · have : a ≠ D := fun z => by rw [z, k1] at e; cases e
        rw [upd_ne this]; exact n15.s _ _ e
      · simpa [List.append_assoc] using q5
    | false =>
      refine iteF ?_
      have n24 := n3.trans n4
      obtain ⟨k1, k2⟩ := keepD n24
      exact ⟨G4, acc, ys, n2.trans n24, k1, k2, rps_ex n24.g hr, Nat.le_succ_of_le hle, by simpa using q4⟩
  · rintro H2 ⟨G2, acc, ys, n2, hD2, hacc, hr, _, hm⟩
    rw [List.drop_length] at hm
    have hm : Qd (ys ++ []) := hm
    rw [List.append_nil] at hm
    exact k D acc ys G2 H2 (n1.trans (New.wk (m := lk.m) n2)) (n1.h.back (Or.inl hD)) hD2 hacc hr hm
/-- a new list that stands still -/
theorem l_ofL (h : LiftEL lk K ta di) : LiftE lk K ta (dOfL di) := fun G σ H ρ Qd Q R q k => by
  refine h G σ H ρ _ _ R q fun p xs ds G1 H1 n1 hp hg hx r1 q1 => ?_
  have e := Evl.Ex.new (o := .lst xs) hg
  refine k _ _ (upd G1 p (.lst xs)) H1 ⟨n1.g.trans e, n1.h, ex_upd_of n1.s hx, fun a o h => ?_, n1.t, n1.q.one lst_tbl⟩ (.lst upd_same (rps_ex e r1)) q1
  by_cases ea : a = p
  · subst ea; exact Or.inr (Or.inl hp)
  · rw [upd_ne ea] at h; exact n1.n a o h
theorem l_lstL (hw : LiftA lk K wa aa) : LiftEL lk K (tLst wa) (dLstL aa) := by
  intro G σ H ρ Qd Q R h k
  refine hw G σ H ρ _ _ R h fun vs ds G1 H1 n1 r1 h1 => ?_
  refine ⟨sz5 (by rw [rps_len r1]; exact h1.1), fun p hp => ?_⟩
  exact k p vs ds G1 _ (n1.trans (New.grow n1.s (Evl.Ex.new hp))) (n1.h.back (Or.inl hp)) (Evl.fresh_back n1.s hp) upd_same r1 h1.2
/-- a copy by list(..), still mutable -/
theorem l_listL (hw : LiftE lk K ta da) : LiftEL lk K (tCB (rList K) (tCons ta tNil)) (dListL da) := by
  intro G σ H ρ Qd Q R h k
  refine hw G σ H ρ _ _ R h fun v d G1 H1 n1 r1 h1 => ?_
  obtain ⟨l, hl, q⟩ := h1
  obtain ⟨a, ys, rfl, hs, hr⟩ := items_up r1 hl
  refine ⟨a, ys, rfl, (sq2_up n1.s hs).symm, fun p hp => ?_⟩
  exact k p ys l G1 _ (n1.trans (New.grow n1.s (Evl.Ex.new hp))) (n1.h.back (Or.inl hp)) (Evl.fresh_back n1.s hp) upd_same hr q
theorem l_yes : LiftT lk K tYes dYes := fun G σ H ρ Qd Q R h k => k true G H (New.refl R.sub) h
end
end Dl

set_option Elab.async false
set_option linter.all false
set_option maxRecDepth 100000
set_option maxHeartbeats 3000000
/-! The layer of data, 4: what is walked, kinds, calls, methods, fields, objects, what a def promises. -/
namespace Dl
open L2 PySem PySem.Spec PyProof.Rows RZ StX Cm
section
variable {lk : Lk} {m : Md} {T : List (Addr × Str)} {K : Frag} {ta tb : TE} {da db : DExp} {wa : TA} {aa : DArg}
/-! ### walks -/
theorem walkD_at {J : It} {G : Hp} {Gd : Hp → Prop} {xs : List V} {l : List Dt} (w : Walk J xs.length Gd (YAt xs)) (hG : ∀ H, Ex G H → Gd H) (r : Rps K G xs l) : WalkD K J G l := by
  rw [rps_len r] at w
  refine ⟨Gd, _, w, hG, fun i G1 H x H' d e1 e2 hy hd => ?_⟩
  obtain ⟨rfl, hx⟩ := hy
  obtain ⟨v, h1, h2⟩ := rps_of r hd
  rw [hx] at h1
  cases h1
  exact ⟨G1, fun _ => New.refl e2, rp_ex e1 h2⟩
def dItems (e : DExp) : DArg := fun ρ Q => e ρ fun x => ∃ l, x = .lst l ∧ Q l
def dItemsT (e : DExp) : DArg := fun ρ Q => e ρ fun x => ∃ l, x = .tup l ∧ Q l
theorem l_iList (ha : LiftE lk K ta da) : LiftI lk K (iList K ta) (dItems da) := fun G σ H ρ Qd R Rr h k => by
  refine g_ilist (ha G σ H ρ _ _ Rr h fun v d G1 H1 n1 r1 q => ?_)
  obtain ⟨l, rfl, q⟩ := q
  cases r1 with
  | @lst a xs _ h1 r => exact g_onL (Evl.sq_of (n1.s _ _ h1)) (k _ l G1 H1 n1 (walkD_at walk_list (fun H' e => Evl.sq_of (e _ _ h1)) r) q)
theorem l_iTup (ha : LiftE lk K ta da) : LiftI lk K (iTup K ta) (dItemsT da) := fun G σ H ρ Qd R Rr h k => by
  refine g_itup (ha G σ H ρ _ _ Rr h fun v d G1 H1 n1 r1 q => ?_)
  obtain ⟨l, rfl, q⟩ := q
  cases r1 with
  | @tup a xs _ h1 r => exact g_onT (Evl.ex_t n1.s h1) (k _ l G1 H1 n1 (walkD_at walk_tup (fun H' e => Evl.ex_t e h1) r) q)
def signs (s : Str) : List Dt := s.cps.toList.map fun c => .str ⟨#[c]⟩
def dSigns (e : DExp) : DArg := fun ρ Q => e ρ fun x => ∃ s, x = .str s ∧ Q (signs s)
theorem l_iStr (ha : LiftE lk K ta da) : LiftI lk K (iStr ta) (dSigns da) := fun G σ H ρ Qd R Rr h k => by
  refine g_istr (ha G σ H ρ _ _ Rr h fun v d G1 H1 n1 r1 q => ?_)
  obtain ⟨s, rfl, q⟩ := q
  cases r1
  refine g_onS (k _ (signs s) G1 H1 n1 ?_ q)
  have hl : (signs s).length = s.cps.size := by unfold signs; simp
  refine ⟨_, _, by rw [hl]; exact walk_str, fun _ _ => trivial, fun i G2 H2 x H' d e1 e2 hy hd => ?_⟩
  obtain ⟨rfl, c, hc, rfl⟩ := hy
  unfold signs at hd
  rw [List.getElem?_map, Array.getElem?_toList, hc] at hd
  cases hd
  exact ⟨G2, fun _ => New.refl e2, .str _⟩
def rng (lo : Int) (n : Nat) : List Dt := (List.range n).map fun i => .int (lo + (i : Nat))
theorem walkD_rng {G : Hp} {lo : Int} {n : Nat} : WalkD K (Itr lo n) G (rng lo n) := by
  have hl : (rng lo n).length = n := by unfold rng; simp
  refine ⟨_, _, by rw [hl]; exact walk_range, fun _ _ => trivial, fun i G1 H x H' d e1 e2 hy hd => ?_⟩
  obtain ⟨rfl, rfl⟩ := hy
  have hi : i < n := by
    have := (List.getElem?_eq_some_iff.mp hd).1
    rw [hl] at this
    exact this
  unfold rng at hd
  rw [List.getElem?_map, List.getElem?_range hi] at hd
  cases hd
  exact ⟨G1, fun _ => New.refl e2, .int _⟩
def dRng1 (a : DArg) : DArg := fun ρ Q => a ρ fun ds => ∃ n : Int, ds = [.int n] ∧ -100000 ≤ n ∧ n ≤ 100000 ∧ Q (rng 0 n.toNat)
def dRng2 (a : DArg) : DArg := fun ρ Q => a ρ fun ds => ∃ m n : Int, ds = [.int m, .int n] ∧ -100000 ≤ m ∧ m ≤ 100000 ∧ -100000 ≤ n ∧ n ≤ 100000 ∧ Q (rng m (n - m).toNat)
theorem l_iRng1 (hw : LiftA lk K wa aa) : LiftI lk K (iRng1 wa) (dRng1 aa) := fun G σ H ρ Qd R Rr h k => by
  refine hw G σ H ρ _ _ Rr h fun vs ds G1 H1 n1 r1 q => ?_
  obtain ⟨n, rfl, h1, h2, q⟩ := q
  cases r1 with
  | cons a r =>
    cases r; cases a
    exact ⟨n, rfl, by omega, by omega, k _ _ G1 H1 n1 walkD_rng q⟩
theorem l_iRng2 (hw : LiftA lk K wa aa) : LiftI lk K (iRng2 wa) (dRng2 aa) := fun G σ H ρ Qd R Rr h k => by
  refine hw G σ H ρ _ _ Rr h fun vs ds G1 H1 n1 r1 q => ?_
  obtain ⟨m, n, rfl, h1, h2, h3, h4, q⟩ := q
  cases r1 with
  | cons a r =>
    cases r with
    | cons b r =>
      cases r; cases a; cases b
      exact ⟨m, n, rfl, ⟨by omega, by omega, by omega, by omega⟩, k _ _ G1 H1 n1 walkD_rng q⟩
theorem walkD_pair {J : It} {G : Hp} {Gd : Hp → Prop} {f g : Nat → Option V} {l : List Dt} (w : Walk J l.length Gd (YPair f g)) (hG : ∀ H, Ex G H → Gd H) (hl : ∀ i d x y, l[i]? = some d → f i = some x → g i = some y → ∃ a b, d = Dt.tup [a, b] ∧ Rp K G x a ∧ Rp K G y b) : WalkD K J G l := by
  refine ⟨Gd, _, w, hG, fun i G1 H x H' d e1 e2 hy hd => ?_⟩
  obtain ⟨T, y, z, rfl, hT, rfl, hf, hg⟩ := hy
  obtain ⟨a, b, rfl, ra, rb⟩ := hl i d y z hd hf hg
  have n : ∀ m : Md, New m G1 H _ _ := fun m => New.one (m := m) (o := .tup [y, z]) e2 hT
  have g := (n ⟨False, []⟩).g
  exact ⟨_, n, .tup (Evl.st_of upd_same) (.cons (rp_ex (e1.trans g) ra) (.cons (rp_ex (e1.trans g) rb) .nil))⟩
def enumD (l : List Dt) : List Dt := l.mapIdx fun i d => Dt.tup [.int (i : Nat), d]
def dEnum (a : DArg) : DArg := fun ρ Q => a ρ fun ds => ∃ x l, ds = [x] ∧ items x = some l ∧ Q (enumD l)
theorem l_iEnum (hw : LiftA lk K wa aa) : LiftI lk K (iEnumA K wa) (dEnum aa) := fun G σ H ρ Qd R Rr h k => by
  refine g_ienu (hw G σ H ρ _ _ Rr h fun vs ds G1 H1 n1 r1 q => ?_)
  obtain ⟨x, l, rfl, hl, q⟩ := q
  cases r1 with
  | cons a r =>
    cases r
    obtain ⟨p, xs, rfl, hs, hr⟩ := items_up a hl
    have he : (enumD l).length = xs.length := by unfold enumD; rw [List.length_mapIdx, rps_len hr]
    have hp : ∀ i d x y, (enumD l)[i]? = some d → some (V.int (i : Nat)) = some x → xs[i]? = some y → ∃ a b, d = Dt.tup [a, b] ∧ Rp K G1 x a ∧ Rp K G1 y b := fun i d x y h1 h2 h3 => by
      obtain ⟨e, h4, h5⟩ := rps_get hr h3
      unfold enumD at h1
      rw [List.getElem?_mapIdx, h4] at h1
      cases h1; cases h2
      exact ⟨_, _, rfl, .int _, h5⟩
    rcases hs with hs | hs
    · exact g_enT (Evl.ex_t n1.s hs) (k _ _ G1 H1 n1 (walkD_pair (by rw [he]; exact walk_enT) (fun H' e => Evl.ex_t e hs) hp) q)
    · exact g_enL (Evl.ex_l n1.s hs) (k _ _ G1 H1 n1 (walkD_pair (by rw [he]; exact walk_enum) (fun H' e => Evl.ex_l e hs) hp) q)
def zipD (l m : List Dt) : List Dt := l.zipWith (fun a b => Dt.tup [a, b]) m
def dZip (a : DArg) : DArg := fun ρ Q => a ρ fun ds => (∃ l m, ds = [.lst l, .lst m] ∧ Q (zipD l m)) ∨ ∃ l m, ds = [.tup l, .tup m] ∧ Q (zipD l m)
theorem l_iZip (hw : LiftA lk K wa aa) : LiftI lk K (iZipA K wa) (dZip aa) := fun G σ H ρ Qd R Rr h k => by
  refine g_izip (hw G σ H ρ _ _ Rr h fun vs ds G1 H1 n1 r1 q => ?_)
  have key : ∀ {xs ys : List V} {l m : List Dt}, Rps K G1 xs l → Rps K G1 ys m → (zipD l m).length = min xs.length ys.length ∧ ∀ i d x y, (zipD l m)[i]? = some d → xs[i]? = some x → ys[i]? = some y → ∃ a b, d = Dt.tup [a, b] ∧ Rp K G1 x a ∧ Rp K G1 y b := fun {xs ys l m} r1 r2 => by
    refine ⟨by unfold zipD; rw [List.length_zipWith, rps_len r1, rps_len r2], fun i d x y h1 h2 h3 => ?_⟩
    obtain ⟨a, h4, h5⟩ := rps_get r1 h2
    obtain ⟨b, h6, h7⟩ := rps_get r2 h3
    unfold zipD at h1
    rw [List.getElem?_zipWith, h4, h6] at h1
    cases h1
    exact ⟨a, b, rfl, h5, h7⟩
  rcases q with ⟨l, m, rfl, q⟩ | ⟨l, m, rfl, q⟩
  · cases r1 with
    | cons a r => cases r with
      | cons b r =>
        cases r
        cases a with
        | @lst p xs _ h1 r1 =>
          cases b with
          | @lst p2 ys _ h2 r2 =>
            obtain ⟨k1, k2⟩ := key r1 r2
            exact g_zipL (Evl.sq_of (n1.s _ _ h1)) (Evl.sq_of (n1.s _ _ h2)) (k _ _ G1 H1 n1 (walkD_pair (Gd := fun H => SqL K H p xs ∧ SqL K H p2 ys) (by rw [k1]; exact walk_zip rfl) (fun H' e => ⟨Evl.sq_of (e _ _ h1), Evl.sq_of (e _ _ h2)⟩) k2) q)
  · cases r1 with
    | cons a r => cases r with
      | cons b r =>
        cases r
        cases a with
        | @tup p xs _ h1 r1 =>
          cases b with
          | @tup p2 ys _ h2 r2 =>
            obtain ⟨k1, k2⟩ := key r1 r2
            exact g_zipT (Evl.ex_t n1.s h1) (Evl.ex_t n1.s h2) (k _ _ G1 H1 n1 (walkD_pair (Gd := fun H => SqT K H p xs ∧ SqT K H p2 ys) (by rw [k1]; exact walk_zipT rfl) (fun H' e => ⟨Evl.ex_t e h1, Evl.ex_t e h2⟩) k2) q)
/-! ### kinds -/
def kdD : Dt → Option String
  | .non => some "NoneType"
  | .bl _ => some "bool"
  | .int _ => some "int"
  | .str _ => some "str"
  | .py d => some (tyD d)
  | .lst _ => some "list"
  | .tup _ => some "tuple"
  | _ => none
theorem tyx_kd {G : Hp} {v : V} {d : Dt} {t : String} (r : Rp K G v d) (h : kdD d = some t) : TyX K G v (.type t) := by
  cases r with
  | non => cases h; exact .base .non
  | bl b => cases h; exact .base (.bl b)
  | int b => cases h; exact .base (.int b)
  | str b => cases h; exact .base (.str b)
  | py hd => cases h; exact tyx_of hd
  | lst h1 _ => cases h; exact tyx_lst (Evl.sq_of h1)
  | tup h1 _ => cases h; exact tyx_tup h1
  | _ => cases h
def isK (t c : String) : Bool := t == c || (c == "int" && t == "bool")
theorem kit_k (K : Frag) (a c : String) (ha : a ∈ ["NoneType", "bool", "int", "str", "list", "tuple", "dict"]) (hc : c ∈ ["int", "bool", "str", "list", "tuple"]) : PySem.W.kitOne K (.type a) (.type c) = some (isK a c) := by
  unfold isK
  refine kit_ty ?_
  revert c
  revert a
  decide +kernel
theorem kd_mem {d : Dt} {t : String} (h : kdD d = some t) : t ∈ ["NoneType", "bool", "int", "str", "list", "tuple", "dict"] := by
  cases d with
  | py d => cases h; cases d <;> simp [tyD]
  | non => cases h; simp
  | bl _ => cases h; simp
  | int _ => cases h; simp
  | str _ => cases h; simp
  | lst _ => cases h; simp
  | tup _ => cases h; simp
  | _ => cases h
/-- isinstance of data, for the built-in classes -/
def dIsi : DFn
  | [d, .ty c], Q => ∃ t, kdD d = some t ∧ c ∈ ["int", "bool", "str", "list", "tuple"] ∧ Q (.bl (isK t c))
  | _, _ => False
theorem o_isi : OpN m K (rIsi K) dIsi := by
  intro G H xs ds Qd Q s r q k
  unfold dIsi at q
  split at q
  · obtain ⟨t, h1, h2, q⟩ := q
    cases r with
    | cons a r => cases r with
      | cons b r =>
        cases r; cases b
        refine ⟨_, _, .type t, .type _, isK t _, rfl, .ty _, ?_, kit_k K _ _ (kd_mem h1) h2, k _ _ G H (New.refl s) (.bl _) q⟩
        exact tyx_kd (rp_ex s a) h1
  · exact q.elim
/-! ### calls -/
def SpOk (m : Md) (K : Frag) (sp : Sp) (dsp : DFn) : Prop := ∀ (G H : Hp) (vs : List V) (ds : List Dt) (Qd : Dt → Prop) (Q : VK) (E : XK), Ex G H → Rps K G vs ds → dsp ds Qd → (∀ v d G' H', New m G H G' H' → Rp K G' v d → Qd d → Q v H') → sp vs H Q E
def spOf (m : Md) (K : Frag) (dsp : DFn) : Sp := fun vs H Q _ => ∃ G ds Qd, Ex G H ∧ Rps K G vs ds ∧ dsp ds Qd ∧ ∀ v d G' H', New m G H G' H' → Rp K G' v d → Qd d → Q v H'
theorem spOf_ok0 {dsp : DFn} (h : m.T = T) : SpOk m K (spOf ⟨False, T⟩ K dsp) dsp := fun G H vs ds Qd Q E s r q k => by subst h; exact ⟨G, ds, Qd, s, r, q, fun v d G' H' n => k v d G' H' n.wk⟩
theorem spOf_ok {dsp : DFn} : SpOk m K (spOf m K dsp) dsp := fun G H vs ds Qd Q E s r h k => ⟨G, ds, Qd, s, r, h, k⟩
/-- how a def may end: a thing, a new list, an error -/
structure Fin where
  rt : Dt → Prop
  rl : List Dt → Prop
  er : ER
abbrev DFx := List Dt → Fin → Prop
structure FinOk (m : Md) (K : Frag) (G H : Hp) (F : Fin) (Q : VK) (E : XK) : Prop where
  rt : ∀ v d G' H', New m G H G' H' → Rp K G' v d → F.rt d → Q v H'
  rl : ∀ p xs ds G' H', New m G H G' H' → Free H p → G' p = none → H' p = some (.lst xs) → Rps K G' xs ds → F.rl ds → Q (.ref p) H'
  er : ∀ c fs G' H' d us, New m G H G' H' → G' d = some (.xd us) → Rfs K G' us fs → F.er c fs → E (.ref (He.ga K c)) (some d) H'
def SpX (m : Md) (K : Frag) (sp : Sp) (dsp : DFx) : Prop := ∀ (G H : Hp) (vs : List V) (ds : List Dt) (F : Fin) (Q : VK) (E : XK), Ex G H → Rps K G vs ds → dsp ds F → FinOk m K G H F Q E → sp vs H Q E
def spX (m : Md) (K : Frag) (dsp : DFx) : Sp := fun vs H Q E => ∃ G ds F, Ex G H ∧ Rps K G vs ds ∧ dsp ds F ∧ FinOk m K G H F Q E
theorem FinOk.wk {p : Prop} {G H : Hp} {F : Fin} {Q : VK} {E : XK} (k : FinOk ⟨p, T⟩ K G H F Q E) : FinOk ⟨False, T⟩ K G H F Q E :=
  ⟨fun v d G' H' n => k.rt v d G' H' n.wk2, fun p xs ds G' H' n => k.rl p xs ds G' H' n.wk2, fun c fs G' H' d us n => k.er c fs G' H' d us n.wk2⟩
theorem spX_ok {dsp : DFx} (h : m.T = T) : SpX m K (spX ⟨False, T⟩ K dsp) dsp := fun G H vs ds F Q E s r q k => by subst h; exact ⟨G, ds, F, s, r, q, k.wk⟩
/-- a new list stands still from now on -/
theorem new_frz {G H G1 H1 : Hp} {p : Addr} {xs : List V} (n : New m G H G1 H1) (hp : Free H p) (hg : G1 p = none) (hx : H1 p = some (.lst xs)) : New m G H (upd G1 p (.lst xs)) H1 := by
  refine ⟨n.g.trans (Evl.Ex.new hg), n.h, ex_upd_of n.s hx, fun a o h => ?_, n.t, n.q.one lst_tbl⟩
  by_cases ea : a = p
  · subst ea; exact Or.inr (Or.inl hp)
  · rw [upd_ne ea] at h; exact n.n a o h
theorem Rep.err {G : Hp} {σ : L2.St} {H : Hp} {ρ : Env} (R : Rep lk K G σ H ρ) {G' H' : Hp} {c : Str} {fs : List (Str × Dt)} {d : Addr} {us : List (Str × V)} (n : New lk.m G H G' H') (h : G' d = some (.xd us)) (r : Rfs K G' us fs) (e : lk.er c fs) : lk.E (.ref (He.ga K c)) (some d) H' :=
  R.ek G' H' c fs d us (R.bas.new n) n.s h r e
/-- errors told by er go to E -/
def EOk (lk : Lk) (K : Frag) (E : XK) (er : ER) : Prop := ∀ {G : Hp} {σ : L2.St} {H : Hp} {ρ : Env}, Rep lk K G σ H ρ → ∀ c fs G' H' d us, New lk.m G H G' H' → G' d = some (.xd us) → Rfs K G' us fs → er c fs → E (.ref (He.ga K c)) (some d) H'
theorem eok : EOk lk K lk.E lk.er := fun R c fs G' H' d us n h r e => R.err n h r e
theorem eok0 {E : XK} : EOk lk K E (fun _ _ => False) := fun _ _ _ _ _ _ _ _ _ _ e => e.elim
/-- an end of a call, as an expression -/
theorem fin_e {E : XK} {er : ER} (hE : EOk lk K E er) {G : Hp} {σ : L2.St} {H : Hp} {ρ : Env} {Qd : Dt → Prop} {Q : VK} (R : Rep lk K G σ H ρ) (k : ∀ v d G' H', New lk.m G H G' H' → Rp K G' v d → Qd d → Q v H') : FinOk lk.m K G H ⟨Qd, fun l => Qd (.lst l), er⟩ Q E :=
  ⟨k, fun p xs ds G' H' n hp hg hx r q => k _ _ _ _ (new_frz n hp hg hx) (.lst upd_same (rps_ex (Evl.Ex.new hg) r)) q, fun c fs G' H' d us n h r e => hE R c fs G' H' d us n h r e⟩
theorem fin_l {E : XK} {er : ER} (hE : EOk lk K E er) {G : Hp} {σ : L2.St} {H : Hp} {ρ : Env} {Qd : List Dt → Prop} {Q : VK} (R : Rep lk K G σ H ρ) (k : ∀ p xs ds G' H', New lk.m G H G' H' → Free H p → G' p = none → H' p = some (.lst xs) → Rps K G' xs ds → Qd ds → Q (.ref p) H') : FinOk lk.m K G H ⟨fun _ => False, Qd, er⟩ Q E :=
  ⟨fun _ _ _ _ _ _ h => h.elim, k, fun c fs G' H' d us n h r e => hE R c fs G' H' d us n h r e⟩
theorem FinOk.new {G H G1 H1 : Hp} {F : Fin} {Q : VK} {E : XK} (k : FinOk m K G H F Q E) (n1 : New m G H G1 H1) : FinOk m K G1 H1 F Q E :=
  ⟨fun v d G' H' n => k.rt v d G' H' (n1.trans n), fun p xs ds G' H' n hp => k.rl p xs ds G' H' (n1.trans n) (n1.h.back hp), fun c fs G' H' d us n => k.er c fs G' H' d us (n1.trans n)⟩
abbrev finE (Q : Dt → Prop) (er : ER) : Fin := ⟨Q, fun l => Q (.lst l), er⟩
abbrev finL (Q : List Dt → Prop) (er : ER) : Fin := ⟨fun _ => False, Q, er⟩
def dCallX (dsp : DFx) (er : ER) (t : DArg) : DExp := fun ρ Q => t ρ fun ds => dsp ds (finE Q er)
def dCallXL (dsp : DFx) (er : ER) (t : DArg) : DArg := fun ρ Q => t ρ fun ds => dsp ds (finL Q er)
theorem l_callX {E : XK} {er : ER} (hE : EOk lk K E er) {sp : Sp} {dsp : DFx} (ho : SpX lk.m K sp dsp) (hw : LiftA lk K wa aa) : LiftE lk K (tCall sp [] E wa) (dCallX dsp er aa) := by
  intro G σ H ρ Qd Q R h k
  refine g_call (hw G σ H ρ _ _ R h fun vs ds G1 H1 n1 r1 h1 => ?_)
  exact ho G1 H1 vs ds _ _ _ n1.s r1 h1 ((fin_e hE R k).new n1)
theorem l_callXL {E : XK} {er : ER} (hE : EOk lk K E er) {sp : Sp} {dsp : DFx} (ho : SpX lk.m K sp dsp) (hw : LiftA lk K wa aa) : LiftEL lk K (tCall sp [] E wa) (dCallXL dsp er aa) := by
  intro G σ H ρ Qd Q R h k
  refine g_call (hw G σ H ρ _ _ R h fun vs ds G1 H1 n1 r1 h1 => ?_)
  exact ho G1 H1 vs ds _ _ _ n1.s r1 h1 ((fin_l hE R k).new n1)
def dCall (dsp : DFn) (t : DArg) : DExp := fun ρ Q => t ρ fun ds => dsp ds Q
theorem l_call {sp : Sp} {dsp : DFn} {E : XK} (ho : SpOk lk.m K sp dsp) (hw : LiftA lk K wa aa) : LiftE lk K (tCall sp [] E wa) (dCall dsp aa) := by
  intro G σ H ρ Qd Q R h k
  refine g_call (hw G σ H ρ _ _ R h fun vs ds G1 H1 n1 r1 h1 => ?_)
  exact ho G1 H1 vs ds _ _ _ n1.s r1 h1 fun v d' G3 H3 n3 r3 h3 => k v d' G3 H3 (n1.trans n3) r3 h3
def dCallN (n m : Nat) (dsp : DFn) (gd : List Dt → List Dt → List Dt) (t u : DArg) : DExp := fun ρ Q => t ρ fun ds => u ρ fun es => ds.length = n ∧ es.length = m ∧ dsp (gd ds es) Q
def GvOk (gv : List V → List V → List V) (gd : List Dt → List Dt → List Dt) : Prop := ∀ (K : Frag) (G : Hp) (vs zs : List V) (ds es : List Dt), Rps K G vs ds → Rps K G zs es → Rps K G (gv vs zs) (gd ds es)
theorem rps_getD {G : Hp} {vs : List V} {ds : List Dt} (r : Rps K G vs ds) (i : Nat) : Rp K G (vs.getD i .non) (ds.getD i .non) := by
  rw [List.getD_eq_getElem?_getD, List.getD_eq_getElem?_getD]
  cases h : vs[i]? with
  | none =>
    have : ds[i]? = none := by
      rw [List.getElem?_eq_none_iff] at h ⊢
      rw [← rps_len r]; exact h
    rw [this]
    exact .non
  | some v =>
    obtain ⟨d, h1, h2⟩ := rps_get r h
    rw [h1]
    exact h2
theorem l_callN {n m : Nat} {sp : Sp} {dsp : DFn} {E : XK} {gv : List V → List V → List V} {gd : List Dt → List Dt → List Dt} {wk : TA} {ak : DArg} (ho : SpOk lk.m K sp dsp) (hg : GvOk gv gd) (hw : LiftA lk K wa aa) (hk : LiftA lk K wk ak) : LiftE lk K (tCallN n m sp gv E wa wk) (dCallN n m dsp gd aa ak) := by
  intro G σ H ρ Qd Q R h k
  refine hw G σ H ρ _ _ R h fun vs ds G1 H1 n1 r1 h1 => ?_
  refine hk G1 σ H1 ρ _ _ (R.new n1) h1 fun zs es G2 H2 n2 r2 h2 => ?_
  obtain ⟨l1, l2, h2⟩ := h2
  refine ⟨by rw [rps_len r1]; exact l1, by rw [rps_len r2]; exact l2, ?_⟩
  exact ho G2 H2 _ _ _ _ _ n2.s (hg _ _ _ _ _ _ (rps_ex n2.g r1) r2) h2 fun v d' G3 H3 n3 r3 h3 => k v d' G3 H3 ((n1.trans n2).trans n3) r3 h3
def dMeth (c m : Str) (dsp : DFn) (a : DExp) (t : DArg) : DExp := fun ρ Q => a ρ fun x => ∃ fs, x = .obj c fs ∧ fs.lookup m = none ∧ t ρ fun ds => dsp (x :: ds) Q
theorem l_meth {c m : Str} {sp : Sp} {dsp : DFn} {E : XK} (ho : SpOk lk.m K sp dsp) (ha : LiftE lk K ta da) (hw : LiftA lk K wa aa) : LiftE lk K (tMeth (He.ga K c) m sp [] E ta wa) (dMeth c m dsp da aa) := by
  intro G σ H ρ Qd Q R h k
  refine g_meth (ha G σ H ρ _ _ R h fun x d G1 H1 n1 r1 h1 => ?_)
  obtain ⟨fs, rfl, hl, h1⟩ := h1
  cases r1 with
  | @obj a dx _ vs _ h2 r2 =>
    refine g_onM (n1.s _ _ h2) (rfs_none r2 hl) ?_
    refine hw G1 σ H1 ρ _ _ (R.new n1) h1 fun zs ds G2 H2 n2 r3 h3 => ?_
    exact ho G2 H2 _ _ _ _ _ n2.s (.cons (rp_ex n2.g (.obj h2 r2)) r3) h3 fun v d' G3 H3 n3 r4 h4 => k v d' G3 H3 ((n1.trans n2).trans n3) r4 h4
def dMethN (c m : Str) (j : Nat) (dsp : DFn) (gd : List Dt → List Dt → List Dt) (a : DExp) (t : DArg) : DExp := fun ρ Q => a ρ fun x => ∃ fs, x = .obj c fs ∧ fs.lookup m = none ∧ t ρ fun es => es.length = j ∧ dsp (gd [x] es) Q
theorem l_methN {c m : Str} {j : Nat} {sp : Sp} {dsp : DFn} {E : XK} {gv : List V → List V → List V} {gd : List Dt → List Dt → List Dt} (ho : SpOk lk.m K sp dsp) (hg : GvOk gv gd) (ha : LiftE lk K ta da) (hw : LiftA lk K wa aa) : LiftE lk K (tMethN (He.ga K c) m j sp gv E ta wa) (dMethN c m j dsp gd da aa) := by
  intro G σ H ρ Qd Q R h k
  refine g_methk (ha G σ H ρ _ _ R h fun x d G1 H1 n1 r1 h1 => ?_)
  obtain ⟨fs, rfl, hl, h1⟩ := h1
  cases r1 with
  | @obj a dx _ vs _ h2 r2 =>
    refine g_onMk (n1.s _ _ h2) (rfs_none r2 hl) ?_
    refine hw G1 σ H1 ρ _ _ (R.new n1) h1 fun zs ds G2 H2 n2 r3 h3 => ?_
    obtain ⟨l2, h3⟩ := h3
    refine ⟨by rw [rps_len r3]; exact l2, ?_⟩
    exact ho G2 H2 _ _ _ _ _ n2.s (hg _ _ _ _ _ _ (.cons (rp_ex n2.g (.obj h2 r2)) .nil) r3) h3 fun v d' G3 H3 n3 r4 h4 => k v d' G3 H3 ((n1.trans n2).trans n3) r4 h4
def dMethX (c m : Str) (dsp : DFx) (er : ER) (a : DExp) (t : DArg) : DExp := fun ρ Q => a ρ fun x => ∃ fs, x = .obj c fs ∧ fs.lookup m = none ∧ t ρ fun ds => dsp (x :: ds) (finE Q er)
def dMethXL (c m : Str) (dsp : DFx) (er : ER) (a : DExp) (t : DArg) : DArg := fun ρ Q => a ρ fun x => ∃ fs, x = .obj c fs ∧ fs.lookup m = none ∧ t ρ fun ds => dsp (x :: ds) (finL Q er)
theorem l_methX {E : XK} {er : ER} (hE : EOk lk K E er) {c m : Str} {sp : Sp} {dsp : DFx} (ho : SpX lk.m K sp dsp) (ha : LiftE lk K ta da) (hw : LiftA lk K wa aa) : LiftE lk K (tMeth (He.ga K c) m sp [] E ta wa) (dMethX c m dsp er da aa) := by
  intro G σ H ρ Qd Q R h k
  refine g_meth (ha G σ H ρ _ _ R h fun x d G1 H1 n1 r1 h1 => ?_)
  obtain ⟨fs, rfl, hl, h1⟩ := h1
  cases r1 with
  | @obj a dx _ vs _ h2 r2 =>
    refine g_onM (n1.s _ _ h2) (rfs_none r2 hl) ?_
    refine hw G1 σ H1 ρ _ _ (R.new n1) h1 fun zs ds G2 H2 n2 r3 h3 => ?_
    exact ho G2 H2 _ _ _ _ _ n2.s (.cons (rp_ex n2.g (.obj h2 r2)) r3) h3 ((fin_e hE R k).new (n1.trans n2))
theorem l_methXL {E : XK} {er : ER} (hE : EOk lk K E er) {c m : Str} {sp : Sp} {dsp : DFx} (ho : SpX lk.m K sp dsp) (ha : LiftE lk K ta da) (hw : LiftA lk K wa aa) : LiftEL lk K (tMeth (He.ga K c) m sp [] E ta wa) (dMethXL c m dsp er da aa) := by
  intro G σ H ρ Qd Q R h k
  refine g_meth (ha G σ H ρ _ _ R h fun x d G1 H1 n1 r1 h1 => ?_)
  obtain ⟨fs, rfl, hl, h1⟩ := h1
  cases r1 with
  | @obj a dx _ vs _ h2 r2 =>
    refine g_onM (n1.s _ _ h2) (rfs_none r2 hl) ?_
    refine hw G1 σ H1 ρ _ _ (R.new n1) h1 fun zs ds G2 H2 n2 r3 h3 => ?_
    exact ho G2 H2 _ _ _ _ _ n2.s (.cons (rp_ex n2.g (.obj h2 r2)) r3) h3 ((fin_l hE R k).new (n1.trans n2))
def dCallXN (n m : Nat) (dsp : DFx) (gd : List Dt → List Dt → List Dt) (er : ER) (t u : DArg) : DExp := fun ρ Q => t ρ fun ds => u ρ fun es => ds.length = n ∧ es.length = m ∧ dsp (gd ds es) (finE Q er)
theorem l_callXN {E : XK} {er : ER} (hE : EOk lk K E er) {n m : Nat} {sp : Sp} {dsp : DFx} {gv : List V → List V → List V} {gd : List Dt → List Dt → List Dt} {wk : TA} {ak : DArg} (ho : SpX lk.m K sp dsp) (hg : GvOk gv gd) (hw : LiftA lk K wa aa) (hk : LiftA lk K wk ak) : LiftE lk K (tCallN n m sp gv E wa wk) (dCallXN n m dsp gd er aa ak) := by
  intro G σ H ρ Qd Q R h k
  refine hw G σ H ρ _ _ R h fun vs ds G1 H1 n1 r1 h1 => ?_
  refine hk G1 σ H1 ρ _ _ (R.new n1) h1 fun zs es G2 H2 n2 r2 h2 => ?_
  obtain ⟨l1, l2, h2⟩ := h2
  refine ⟨by rw [rps_len r1]; exact l1, by rw [rps_len r2]; exact l2, ?_⟩
  exact ho G2 H2 _ _ _ _ _ n2.s (hg _ _ _ _ _ _ (rps_ex n2.g r1) r2) h2 ((fin_e hE R k).new (n1.trans n2))
def dMethXN (c m : Str) (j : Nat) (dsp : DFx) (gd : List Dt → List Dt → List Dt) (er : ER) (a : DExp) (t : DArg) : DExp := fun ρ Q => a ρ fun x => ∃ fs, x = .obj c fs ∧ fs.lookup m = none ∧ t ρ fun es => es.length = j ∧ dsp (gd [x] es) (finE Q er)
theorem l_methXN {E : XK} {er : ER} (hE : EOk lk K E er) {c m : Str} {j : Nat} {sp : Sp} {dsp : DFx} {gv : List V → List V → List V} {gd : List Dt → List Dt → List Dt} (ho : SpX lk.m K sp dsp) (hg : GvOk gv gd) (ha : LiftE lk K ta da) (hw : LiftA lk K wa aa) : LiftE lk K (tMethN (He.ga K c) m j sp gv E ta wa) (dMethXN c m j dsp gd er da aa) := by
  intro G σ H ρ Qd Q R h k
  refine g_methk (ha G σ H ρ _ _ R h fun x d G1 H1 n1 r1 h1 => ?_)
  obtain ⟨fs, rfl, hl, h1⟩ := h1
  cases r1 with
  | @obj a dx _ vs _ h2 r2 =>
    refine g_onMk (n1.s _ _ h2) (rfs_none r2 hl) ?_
    refine hw G1 σ H1 ρ _ _ (R.new n1) h1 fun zs ds G2 H2 n2 r3 h3 => ?_
    obtain ⟨l2, h3⟩ := h3
    refine ⟨by rw [rps_len r3]; exact l2, ?_⟩
    exact ho G2 H2 _ _ _ _ _ n2.s (hg _ _ _ _ _ _ (.cons (rp_ex n2.g (.obj h2 r2)) .nil) r3) h3 ((fin_e hE R k).new (n1.trans n2))
/-! statements -/
def dRetL (e : DArg) : DStm := fun D ρ => e ρ D.rl
theorem l_retL (ha : LiftEL lk K ta aa) (hx : lk.xo = none) : LiftS lk K (tRet ta) (dRetL aa) := fun G σ H ρ Dd D S h k => by
  exact ha G σ H ρ _ _ S h fun p xs ds G1 H1 n1 hp hg hx1 r q => k.rl G1 p xs ds H1 n1.g n1.s (S.bas.new n1) (free_of S.bas (by rw [hx]; intro z; cases z) hp) hg hx1 r q
/-- return of an own list -/
def dRetO (i : Nat) : DStm := fun D ρ => ∃ ds, ρ[i]? = some (some (.l ds)) ∧ D.rl ds
theorem l_retO {i : Nat} (hx : lk.xo = none) : LiftS lk K (tRet (tVar i)) (dRetO i) := fun G σ H ρ Dd D S h k => by
  obtain ⟨ds, hi, q⟩ := h
  obtain ⟨p, xs, h1, h2, h3, h4⟩ := S.r.lst hi
  refine ⟨.ref p, h1, k.rl G p xs ds H (Evl.Ex.refl _) S.sub S.bas ?_ h2 h3 h4 q⟩
  have := S.ow i p (by rw [getD_of hi]; rfl) (getD_of h1)
  rw [hx] at this
  exact this.resolve_right (by intro z; cases z)
/-- raise -/
def dRaise1 (er : ER) (c f code : Str) (w : DArg) : DStm := fun _ ρ => w ρ fun ds => ∃ d, ds = [d] ∧ er c [("code", .str code), (f, d)]
def dRaise0 (er : ER) (c code : Str) : DStm := fun _ _ => er c [("code", .str code)]
/-! ### fields -/
def FldOk (K : Frag) (c f : Str) : Prop := Cls K (He.ga K c) ∧ NoAttr K (He.ga K c) f
def dFld (cs : List Str) (a : DExp) (f : Str) : DExp := fun ρ Q => a ρ fun x => ∃ c fs d, x = .obj c fs ∧ c ∈ cs ∧ fs.lookup f = some d ∧ Q d
theorem l_fld {cs : List Str} {f : Str} (hc : ∀ c ∈ cs, FldOk K c f) (ha : LiftE lk K ta da) : LiftE lk K (tFld K ta f) (dFld cs da f) := by
  intro G σ H ρ Qd Q R h k
  refine g_fld (ha G σ H ρ _ _ R h fun x d G1 H1 n1 r1 h1 => ?_)
  obtain ⟨c, fs, e, rfl, hcs, hl, q⟩ := h1
  cases r1 with
  | @obj a dx _ vs _ h2 r2 =>
    obtain ⟨v, h3, h4⟩ := rfs_look r2 hl
    exact g_onF (n1.s _ _ h2) (hc c hcs).1 (hc c hcs).2 h3 (k v e G1 H1 n1 h4 q)
/-! ### what a def is worth -/
def startD (n : Nat) (ds : List Dt) : Env := ds.map (fun d => some (.v d)) ++ List.replicate (n - ds.length) none
theorem rep0_start {lk : Prop} {G H : Hp} {N : List Str} {vs : List V} {ds : List Dt} (s : Ex G H) (r : Rps K G vs ds) : Rep0 lk K G (L2.start N vs) H (startD N.length ds) := by
  have hno : ∀ i, own ((startD N.length ds).getD i none) = false := fun i => by
    unfold startD
    rw [List.getD_eq_getElem?_getD, List.getElem?_append]
    split
    · rw [List.getElem?_map]
      cases ds[i]? <;> rfl
    · rw [List.getElem?_replicate]
      split <;> rfl
  refine ⟨s, ?_, fun i => ?_, fun i j p _ h _ _ _ => (by rw [hno i] at h; cases h), fun _ => hno⟩
  · unfold L2.start startD
    simp only [List.length_append, List.length_map, List.length_replicate, rps_len r]
  · unfold L2.start startD
    rw [List.getD_eq_getElem?_getD, List.getD_eq_getElem?_getD, List.getElem?_append, List.getElem?_append, List.length_map, List.length_map, rps_len r]
    by_cases hi : i < ds.length
    · rw [if_pos hi, if_pos hi, List.getElem?_map, List.getElem?_map]
      obtain ⟨v, h1, h2⟩ := rps_of r (List.getElem?_eq_getElem hi)
      rw [h1, List.getElem?_eq_getElem hi]
      exact ⟨v, rfl, h2⟩
    · rw [if_neg hi, if_neg hi, List.getElem?_replicate, List.getElem?_replicate]
      by_cases h2 : i - ds.length < N.length - ds.length
      · rw [if_pos h2, if_pos h2]; trivial
      · rw [if_neg h2, if_neg h2]; trivial
theorem own_start (n : Nat) (ds : List Dt) (i : Nat) : own ((startD n ds).getD i none) = false := by
  unfold startD
  rw [List.getD_eq_getElem?_getD, List.getElem?_append]
  split
  · rw [List.getElem?_map]
    cases ds[i]? <;> rfl
  · rw [List.getElem?_replicate]
    split <;> rfl
theorem bas_start {lk : Lk} {G H : Hp} (h1 : lk.G0 = G) (h2 : lk.H0 = H) : Bas lk G H := by
  subst h1 h2
  exact ⟨Evl.Ex.refl _, fun a o _ h => Or.inl h, fun a o h => Or.inl h, id, NoTb.refl _⟩
theorem rep_start {G H : Hp} {N : List Str} {vs : List V} {ds : List Dt} (h1 : lk.G0 = G) (h2 : lk.H0 = H) (ek : ErK lk K) (tw : lk.w → LamX.Tabs lk.T lk.H0 ∧ ∀ a ps, lk.G0 a ≠ some (.tbl ps)) (s : Ex G H) (r : Rps K G vs ds) : Rep lk K G (L2.start N vs) H (startD N.length ds) :=
  ⟨rep0_start s r, bas_start h1 h2, ek, tw, (fun i p h => by rw [own_start] at h; cases h), (fun _ _ p h => by rw [isO_own (own_start _ _ _)] at h; cases h)⟩
theorem new_of {G H G' H' : Hp} (h1 : lk.G0 = G) (h2 : lk.H0 = H) (hx : lk.xo = none) (hp : lk.pb → lk.p) (e1 : Ex G G') (e2 : Ex G' H') (b : Bas lk G' H') : New lk.m G H G' H' := by
  subst h1 h2
  refine ⟨e1, fun a o h => b.hb a o (by rw [hx]; intro z; cases z) h, e2, fun a o h => ?_, b.tb, b.gq⟩
  rcases b.gn a o h with z | z | z | z
  · exact Or.inl z
  · exact Or.inr (Or.inl z)
  · rw [hx] at z; cases z
  · exact Or.inr (Or.inr (hp z))
abbrev lk0 (m : Md) (w : Prop) (G H : Hp) (E : XK) (er : ER) : Lk := ⟨m, m.p, id, w, G, H, none, E, er⟩
abbrev endsX (F : Fin) : DEnds := ⟨fun _ => F.rt .non, F.rt, fun _ => False, fun _ => False, F.rl⟩
/-- a def's promise from its word -/
theorem fnX {m : Md} {t : XK → TS} {d : ER → DStm} {dsp : DFx} {N : List Str} (l : ∀ lk : Lk, lk.m = m → lk.xo = none → lk.p = m.p → LiftS lk K (t lk.E) (d lk.er)) (hd : ∀ ds F, dsp ds F → d F.er (endsX F) (startD N.length ds)) (vs : List V) (H : Hp) (Q : VK) (E : XK) (h : spX m K dsp vs H Q E) :
    t E ⟨fun _ H' => Q .non H', Q, fun _ _ => False, fun _ _ => False⟩ (L2.start N vs) H := by
  obtain ⟨G, ds, F, s, r, h, k⟩ := h
  have nw : ∀ {G' H'}, Ex G G' → Ex G' H' → Bas (lk0 m False G H E F.er) G' H' → New m G H G' H' := fun e1 e2 b => new_of (lk := lk0 m False G H E F.er) rfl rfl rfl id e1 e2 b
  refine l (lk0 m False G H E F.er) rfl rfl rfl G _ H _ _ _ (rep_start rfl rfl (fun G' H' c fs d us b s h r e => k.er c fs G' H' d us (nw b.gx s b) h r e) False.elim s r) (hd ds F h)
    ⟨fun G' σ' H' ρ' e S q => k.rt _ _ G' H' (nw e S.sub S.bas) .non q, fun G' v d H' e1 e2 b r q => k.rt v d G' H' (nw e1 e2 b) r q, fun _ _ _ _ _ _ q => q, fun _ _ _ _ _ _ q => q, fun G' p xs ds H' e1 e2 b hp hg hx r q => k.rl p xs ds G' H' (nw e1 e2 b) hp hg hx r q⟩
/-- .. that lets no error out; w: the tables are known -/
theorem fn_of {m : Md} {t : TS} {d : DStm} {dsp : DFn} {N : List Str} (l : ∀ lk : Lk, lk.m = m → lk.p = m.p → lk.E = C8.E0 → lk.er = (fun _ _ => False) → LiftS lk K t d) (hd : ∀ ds Qd, dsp ds Qd → d ⟨fun _ => Qd .non, Qd, fun _ => False, fun _ => False, fun _ => False⟩ (startD N.length ds)) (vs : List V) (H : Hp) (Q : VK) (E : XK) (h : spOf m K dsp vs H Q E) :
    t ⟨fun _ H' => Q .non H', Q, fun _ _ => False, fun _ _ => False⟩ (L2.start N vs) H := by
  obtain ⟨G, ds, Qd, s, r, h, k⟩ := h
  have nw : ∀ {G' H'}, Ex G G' → Ex G' H' → Bas (lk0 m False G H C8.E0 (fun _ _ => False)) G' H' → New m G H G' H' := fun e1 e2 b => new_of (lk := lk0 m False G H C8.E0 (fun _ _ => False)) rfl rfl rfl id e1 e2 b
  refine l (lk0 m False G H C8.E0 fun _ _ => False) rfl rfl rfl rfl G _ H _ _ _ (rep_start rfl rfl (fun _ _ _ _ _ _ _ _ _ _ h => h.elim) False.elim s r) (hd ds Qd h)
    ⟨fun G' σ' H' ρ' e S q => k _ _ G' H' (nw e S.sub S.bas) .non q, fun G' v d H' e1 e2 b r q => k v d G' H' (nw e1 e2 b) r q, fun _ _ _ _ _ _ q => q, fun _ _ _ _ _ _ q => q, fun _ _ _ _ _ _ _ _ _ _ _ _ q => q.elim⟩
end
end Dl

set_option Elab.async false
set_option linter.all false
set_option maxRecDepth 100000
set_option maxHeartbeats 3000000
/-! The layer of data, 5: own ==, objects made, static methods, a law; one step at a time. -/
namespace Dl
open L2 PySem PySem.Spec PyProof.Rows RZ StX Cm
section
variable {lk : Lk} {m : Md} {K : Frag} {ta tb : TE} {da db : DExp} {wa : TA} {aa : DArg}
/-- all that stands, but the tables -/
def tell (G H : Hp) : Hp := fun a => match H a with
  | some (.tbl _) => G a
  | o => o
theorem tell_at {G H : Hp} {a : Addr} {o : HO} (h : H a = some o) (hn : ∀ ps, o ≠ .tbl ps) : tell G H a = some o := by
  unfold tell
  rw [h]
  cases o <;> first | rfl | exact absurd rfl (hn _)
theorem tell_extn {G H : Hp} : LamX.ExtN H (tell G H) := fun a o h hn => tell_at h hn
theorem tell_of {G H : Hp} {a : Addr} {o : HO} (h : tell G H a = some o) : H a = some o ∨ (G a = some o ∧ ∃ ps, H a = some (.tbl ps)) := by
  unfold tell at h
  cases e : H a with
  | none => rw [e] at h; cases h
  | some u =>
    rw [e] at h
    cases u <;> first | exact .inl h | exact .inr ⟨h, _, rfl⟩
theorem bag_extn {H H' : Hp} {b : Addr} (e : LamX.ExtN H H') (h : Bag H b) : Bag H' b := by
  obtain ⟨c, cs, h1, h2, h3⟩ := h
  exact ⟨c, cs, e _ _ h1 (by intro ps z; cases z), e _ _ h2 (by intro ps z; cases z), h3⟩
theorem new_top {T : List (Addr × Str)} {G H H' : Hp} (s : Ex G H) (e : Ex H H') : New ⟨True, T⟩ G H (tell G H') H' := by
  refine ⟨fun a o h => ?_, .of e, fun a o h => ?_, fun _ _ _ => Or.inr (Or.inr trivial), tabs_ex e, fun a ps h => ?_⟩
  · have h1 := e a o (s a o h)
    unfold tell
    rw [h1]
    cases o <;> first | rfl | exact h
  · rcases tell_of h with h | ⟨h, _⟩
    · exact h
    · exact e a o (s a o h)
  · unfold tell at h
    split at h
    · exact h
    · rename_i h2; exact absurd h (h2 ps)
/-! ### own == -/
def dOwn (neg : Bool) (c : Str) (dsp : DFn) : D2R := fun x y Q => ∃ fs, x = .obj c fs ∧ ((∃ gs, y = .obj c gs) ∨ ∃ e, pyd y = some e) ∧ dsp [x, y] fun z => ∃ b, z = .bl b ∧ Q (.bl (neg != b))
theorem beside_of {G H : Hp} {c : Str} {y : V} {e : Dt} (s : Ex G H) (ry : Rp K G y e) (h : (∃ gs, e = .obj c gs) ∨ ∃ f, pyd e = some f) : Beside K (He.ga K c) y H := by
  rcases h with ⟨gs, rfl⟩ | ⟨f, hf⟩
  · cases ry with
    | obj h1 _ => exact Or.inl ⟨_, _, _, rfl, s _ _ h1⟩
  · exact Or.inr ⟨f, Cm.up s (dp_of ry hf)⟩
theorem o_ownE {c : Str} {sp : Sp} {dsp : DFn} {E : XK} (ho : SpOk m K sp dsp) : Op2 m K (rOwnE K (He.ga K c) sp E) (dOwn false c dsp) := by
  intro G H x y d e Qd Q s rx ry q k
  obtain ⟨fs, rfl, hb, q⟩ := q
  have rx0 := rx
  cases rx with
  | @obj a dx _ vs _ h1 r1 =>
    refine ⟨a, dx, vs, rfl, s _ _ h1, beside_of s ry hb, ho G H _ _ _ _ _ s (.cons rx0 (.cons ry .nil)) q fun v d' G' H' n r q => ?_⟩
    obtain ⟨b, rfl, q⟩ := q
    refine ⟨b, rp_bl r, k _ _ G' H' n (.bl b) (by simpa using q)⟩
theorem o_ownN {c : Str} {sp : Sp} {dsp : DFn} {E : XK} (ho : SpOk m K sp dsp) : Op2 m K (rOwnN K (He.ga K c) sp E) (dOwn true c dsp) := by
  intro G H x y d e Qd Q s rx ry q k
  obtain ⟨fs, rfl, hb, q⟩ := q
  have rx0 := rx
  cases rx with
  | @obj a dx _ vs _ h1 r1 =>
    refine ⟨a, dx, vs, rfl, s _ _ h1, beside_of s ry hb, ho G H _ _ _ _ _ s (.cons rx0 (.cons ry .nil)) q fun v d' G' H' n r q => ?_⟩
    obtain ⟨b, rfl, q⟩ := q
    refine ⟨b, rp_bl r, k _ _ G' H' n (.bl _) (by simpa using q)⟩
/-! ### objects -/
def MkOk (lk : Md) (K : Frag) (c : Str) (sp : Sp) (dsp : DFn) : Prop := ∀ (G H : Hp) (vs : List V) (ds : List Dt) (Qd : Dt → Prop) (Q : VK), Ex G H → Rps K G vs ds → dsp ds Qd → (∀ v d G' H', New lk G H G' H' → Rp K G' v d → Qd d → Q v H') → MkOn (He.ga K c) sp E0 Q vs H
def dMake (dsp : DFn) (t : DArg) : DExp := fun ρ Q => t ρ fun ds => dsp ds Q
theorem l_make {c : Str} {sp : Sp} {dsp : DFn} (ho : MkOk lk.m K c sp dsp) (hw : LiftA lk K wa aa) : LiftE lk K (tMakeR (He.ga K c) sp E0 wa) (dMake dsp aa) := by
  intro G σ H ρ Qd Q R h k
  refine g_make (hw G σ H ρ _ _ R h fun vs ds G1 H1 n1 r1 h1 => ?_)
  exact ho G1 H1 vs ds _ _ n1.s r1 h1 fun v d' G3 H3 n3 r3 h3 => k v d' G3 H3 (n1.trans n3) r3 h3
/-! ### C.m(..), m a static method -/
structure Sta (P : Program) (w : World) (K : Frag) (mg : Str → Option Value) (base : Heap) (CX : CXT) (k : Nat) (C : Addr) (m : Str) (ps : List Str) (sp : Sp) : Prop where
  rd : ClX.CRead K C (.type "type")
  ex : ∃ (p f : Addr) (fd : FuncData) (rest : List Value), PySem.W.findCls K (.ref C) (.type "type") m = some (.get (.builtin "staticmethod.__get__") (.ref p) .none (.ref C)) ∧ PySem.W.recIn K p "staticmethod" = some (.ref f :: rest) ∧ FnOk P w K mg base CX k f fd ps sp ∧ PySem.W.keepIn K (.ref f) = true ∧ PySem.W.handedIn (.ref f) = true ∧ Binds K fd ps []
end
section
variable {X : Cx} {CX : CXT} {j k : Nat} {C : Addr} {m : Str} {ps : List Str} {sp : Sp} {E : XK} {pos apos : Pos} {o e : Expr} {es : List Expr} {t : TA}
theorem pe_smeth {pl : Sem Bool} (he : PE X o (tC (.ref C))) (M : Sta X.prog X.w X.K X.mg X.base CX k C m ps sp) (hr : Room j X.A) (hk : k ≤ j) (hx : Passes CX X E) (ha : PA X (e :: es) t)
    (hst : starEach (e :: es) X.env = (false, eval e X.env) :: starEach es X.env := by rfl) (hpl : (backTo pos (starEach es X.env)).any (·.1) = false := by rfl)
    (ht : eval (.Call (.Attribute o m apos) (e :: es) [] pos) X.env = (do
      let ov ← eval o X.env
      standAt apos.atName
      let (f, first) ← holding [ov] (getMethod ov m pl)
      callWith pos f first (backTo pos (starEach (e :: es) X.env)) (backToKw pos (keywordEach [] X.env))) := by rfl) :
    PE X (.Call (.Attribute o m apos) (e :: es) [] pos) (tCall sp [] E t) := by
  obtain ⟨p, f, fd, rest, hf, hrec, F, kp, hh, b⟩ := M.ex
  refine ⟨fun pins s σ H Q I h => ?_⟩
  refine PySem.W.methodCall_KW (pl := pl) (thn (he.run pins s σ H (fun x H1 => x = .ref C ∧ H1 = H) I ⟨rfl, rfl⟩) fun u s1 ⟨x, H1, I1, rx, ex, eH⟩ => ?_) ht
  subst ex
  subst eH
  obtain rfl : u = Value.ref C := rx
  refine PySem.W.method_cls I1.kIn M.rd.ga (PySem.W.cls_bind I1.kIn M.rd.rd hf (wpAny_call (PySem.W.sm_get (s := { s1 with toks := s1.toks + 1 }) I1.kIn hrec (PySem.W.handed_on hh ?_))))
  refine PySem.W.callWith_K (first := []) (h₀ := X.base) I.ok.mod.kin kp (thn (ha.run pos pins _ σ _ _ (I1.tok _) h) fun us s2 ⟨vs, H2, I2, r, q2⟩ => ⟨I2.kIn, ?_⟩) hst hpl
  replace q2 : sp (vs ++ []) H2 Q E := q2
  rw [List.append_nil] at q2
  show wpAny _ _ (call (.ref f) us) _ _ _
  have hl : us.length = ps.length := by rw [← r.length]; exact F.len _ _ _ _ q2
  have bb := b s2 us I2.kIn (by rw [List.append_nil]; exact hl)
  rw [List.append_nil] at bb
  refine wpAny_call (codeAny_mono (F.run X.A X.stack s2 H2 ⟨us, []⟩ us vs Q E (hr.mono hk) I2.env0 bb r q2) fun r s' hq => ?_)
  cases r with
  | error e => exact hx pins σ H2 s2 e s' I2 hq
  | ok fl =>
    cases fl with
    | ret w => exact I2.after hq
    | next => exact False.elim hq
    | brk => exact False.elim hq
    | cont => exact False.elim hq
end
section
variable {X : Cx} {CX : CXT} {j k : Nat} {C : Addr} {x : Str} {sp : Sp} {E : XK} {p pos : Pos} {e : Expr} {es : List Expr} {t : TA}
/-- C(e, .., *y) -/
theorem pe_newS (M : Mkr X.prog X.w X.K X.mg X.base CX k x C sp) (hr : Room j X.A) (hk : k + 1 ≤ j) (hg : Gl X x) (hx : Passes CX X E) (ha : PA X (e :: es) t) (hdb : (x == ("__debug__" : Str)) = false := by decide)
    (he : starEach (e :: es) X.env = (false, eval e X.env) :: starEach es X.env := by rfl) (hpl : (backTo pos (starEach es X.env)).any (·.1) = true := by rfl) : PE X (.Call (.Name x p) (e :: es) [] pos) (tMakeR C sp E t) := by
  obtain ⟨f, mk, F, hm⟩ := M.ex
  refine ⟨fun pins s σ H Q I h => ?_⟩
  refine wpAny_Call_Name_kw (ld_glob I hg hm ?_ hdb)
  refine PySem.W.callWith_S2 (h₀ := X.base) I.ok.mod.kin mk.kp (thn (ha.run pos pins s σ H _ I h) fun us s1 hu => ?_) he hpl
  obtain ⟨vs, H1, I1, r, q⟩ := hu
  exact ⟨I1.kIn, run_makeR mk F (hr.mono hk) hx I1 r q⟩
end
section
variable {lk : Md} {T : List (Addr × Str)} {K : Frag}
/-! ### a law -/
def dsp_law : DFn := fun ds Q => ∃ ns : List Int, ds = [.py (.list (ns.map PyData.int))] ∧ ns.length ≤ 63 ∧ Q (.bl true)
theorem ints_dpa {H : Hp} : ∀ ns : List Int, DpAll K H (ns.map V.int) (ns.map PyData.int)
  | [] => .nil
  | n :: ns => .cons (.int n) (ints_dpa ns)
theorem law_of (vs : List V) (H : Hp) (Q : VK) (E : XK) (h : sp_law K vs H Q E) : spOf lk K dsp_law vs H Q E := by
  obtain ⟨a, ns, rfl, hS, hl, q⟩ := h
  exact ⟨H, [.py (.list (ns.map PyData.int))], fun d => d = .bl true, Evl.Ex.refl _, .cons (.py (.lst hS (ints_dpa ns))) .nil, ⟨ns, rfl, hl, rfl⟩, fun v d G' H' n r e => by subst e; rw [rp_bl r]; exact q H'⟩
def dsp_law_start : DFn := fun ds Q => ∃ ns : List Int, ds = [.py (.list (ns.map PyData.int))] ∧ ns.length ≤ 63 ∧ Q .bag
theorem dpa_ints {H : Hp} : ∀ {ns : List Int} {xs : List V}, DpAll K H xs (ns.map PyData.int) → xs = ns.map V.int
  | [], _, h => by cases h; rfl
  | n :: ns, _, h => by cases h with | cons a r => cases a; rw [dpa_ints r]; rfl
theorem ok_start : SpOk ⟨True, T⟩ K (sp_law_start K) dsp_law_start := by
  intro G H vs ds Qd Q E s r q k
  obtain ⟨ns, rfl, hl, q⟩ := q
  cases r with
  | cons a r =>
    cases r
    cases a with
    | py h =>
      cases h with
      | @lst a xs _ h1 h2 =>
        obtain rfl := dpa_ints h2
        exact ⟨a, ns, rfl, Evl.ex_l s h1, hl, fun b H' e hb => k _ _ _ H' (new_top s e) (.bag (bag_extn tell_extn hb)) q⟩
def dsp_law_pull : DFn := fun ds Q => ∃ n : Int, ds = [.bag, .int n] ∧ 0 < n ∧ n.natAbs.log2 < 9000 ∧ ∀ d : Int, 0 ≤ d → d < n → Q (.int d)
theorem ok_pull : SpOk lk K (sp_law_pull K) dsp_law_pull := by
  intro G H vs ds Qd Q E s r q k
  obtain ⟨n, rfl, h0, h1, q⟩ := q
  cases r with
  | cons a r => cases r with
    | cons b r =>
      cases r
      cases b
      cases a with
      | bag hb => exact ⟨_, n, rfl, hb.ex s, h0, h1, fun d d0 d1 => k _ _ G H (New.refl s) (.int d) (q d d0 d1)⟩
theorem d_pull {n : Int} {Q : Dt → Prop} (h0 : 0 < n) (h1 : n < 2 ^ 40) (q : ∀ d : Int, 0 ≤ d → d < n → Q (.int d)) : dsp_law_pull [.bag, .int n] Q := ⟨n, rfl, h0, small_log h0 h1, q⟩
def dsp_law_pick : DFn := fun ds Q => ∃ y, ds = [.bag, y] ∧ ((∃ l, items y = some l ∧ l ≠ [] ∧ l.length ≤ 10000 ∧ ∀ x ∈ l, Q x) ∨ ∃ s : Str, y = .str s ∧ 0 < s.length ∧ s.length ≤ 10000 ∧ ∀ c ∈ s.cps.toList, Q (.str ⟨#[c]⟩))
def dsp_law_pickL : DFn := fun ds Q => ∃ l, ds = [.bag, .lst l] ∧ l ≠ [] ∧ l.length ≤ 10000 ∧ ∀ x ∈ l, Q x
theorem rps_mem {G : Hp} {xs : List V} {l : List Dt} (r : Rps K G xs l) {x : V} (h : x ∈ xs) : ∃ d ∈ l, Rp K G x d := by
  obtain ⟨i, hi⟩ := List.mem_iff_getElem?.mp h
  obtain ⟨d, h1, h2⟩ := rps_get r hi
  exact ⟨d, List.mem_of_getElem? h1, h2⟩
theorem ok_pickL : SpOk lk K (sp_law_pick K) dsp_law_pickL := by
  intro G H vs ds Qd Q E s r q k
  obtain ⟨l, rfl, h0, h1, q⟩ := q
  cases r with
  | cons a r => cases r with
    | cons b r =>
      cases r
      cases a with
      | bag hb =>
        cases b with
        | @lst p xs _ h2 r2 =>
          refine ⟨_, _, rfl, hb.ex s, Or.inl ⟨p, xs, rfl, Evl.sq_of (s _ _ h2), ?_, by rw [rps_len r2]; exact h1, fun x hx => ?_⟩⟩
          · intro e
            subst e
            cases r2
            exact h0 rfl
          · obtain ⟨d, hd, rd⟩ := rps_mem r2 hx
            exact k _ _ G H (New.refl s) rd (q d hd)
/-- no deeper than n -/
def dsp_law_same : DFn := fun ds Q => ∃ a b d, ds = [a, b] ∧ pyd a = some d ∧ pyd b = some d ∧ fit 8 d ∧ Q (.bl true)
theorem ok_same : SpOk lk K (sp_law_same K 9) dsp_law_same := by
  intro G H vs ds Qd Q E s r q k
  obtain ⟨x, y, d, rfl, h1, h2, h3, q⟩ := q
  cases r with
  | cons a r => cases r with
    | cons b r =>
      cases r
      exact ⟨_, _, d, rfl, Cm.up s (dp_of a h1), Cm.up s (dp_of b h2), h3, fun H' e => k _ _ G H' (New.grow s e) (.bl true) q⟩
end
/-! ### steps -/
section
variable {ρ : Env} {D : DEnds} {a b c' : DExp} {Q : Dt → Prop} {QB : Bool → Prop} {QA : List Dt → Prop} {t u : DStm} {c e : DTst} {g : DTgt} {w : DArg} {i : Nat} {x y : Dt} {r r' : D2R}
theorem d_seq (h : t { D with nx := u D } ρ) : dSeq t u D ρ := h
theorem d_asg (h : a ρ fun d => g d ρ D.nx) : dAsg a g D ρ := h
theorem d_asgL (h : w ρ fun ds => D.nx (ρ.set i (some (.l ds)))) : dAsgL w i D ρ := h
theorem d_name {P : Env → Prop} (q : P (ρ.set i (some (.v x)))) : eName i x ρ P := q
theorem d_ret (h : a ρ D.rt) : dRet a D ρ := h
theorem d_retN (h : D.rt .non) : dRetN D ρ := h
theorem d_drop (h : a ρ fun _ => D.nx ρ) : dDrop a D ρ := h
theorem d_ifS (h : c ρ fun k => if k = true then t D ρ else u D ρ) : dIfS c t u D ρ := h
theorem d_next (h : D.nx ρ) : dNext D ρ := h
theorem d_par {j : Nat} (h : a ρ fun d => b ρ fun z => D.nx ((ρ.set i (some (.v d))).set j (some (.v z)))) : dPar i j (dCons a (dCons b dNil)) D ρ := by
  show a ρ fun x => b ρ fun y => ∃ d e, [x, y] = [d, e] ∧ _
  have e : (fun x => b ρ fun y => D.nx ((ρ.set i (some (.v x))).set j (some (.v y)))) = (fun x => b ρ fun y => ∃ d e, [x, y] = [d, e] ∧ D.nx ((ρ.set i (some (.v d))).set j (some (.v e)))) := by
    funext x
    congr 1
    funext y
    refine propext ⟨fun h => ⟨x, y, rfl, h⟩, ?_⟩
    rintro ⟨d, f, e, h⟩
    simp only [List.cons.injEq, and_true] at e
    rw [e.1, e.2]
    exact h
  exact e ▸ h
theorem d_frz (h : t D (frz i ρ)) : dFrz i t D ρ := h
theorem d_app {ds : List Dt} (hi : ρ[i]? = some (some (.l ds))) (h : a ρ fun d => ds.length < 100000 ∧ D.nx (ρ.set i (some (.l (ds ++ [d]))))) : dApp i a D ρ := ⟨ds, hi, h⟩
theorem d_for (h : w ρ fun l => dLoop g t D l ρ) : dFor w g t D ρ := h
theorem d_var (h : ρ[i]? = some (some (.v x))) (q : Q x) : dVar i ρ Q := ⟨x, h, q⟩
theorem d_c (q : Q x) : dC x ρ Q := q
theorem d_op (h : a ρ fun x => b ρ fun y => r x y Q) : dOp r a b ρ Q := h
theorem d_un {f : D1R} (h : a ρ fun x => f x Q) : dUn f a ρ Q := h
theorem d_tst (h : a ρ fun x => ∃ k, x = .bl k ∧ QB k) : dTst a ρ QB := h
theorem d_k {k : Bool} {P : Bool → Prop} (q : P k) : ∃ k', Dt.bl k = .bl k' ∧ P k' := ⟨k, rfl, q⟩
theorem d_i {n : Int} {P : Int → Prop} (q : P n) : ∃ k', Dt.int n = .int k' ∧ P k' := ⟨n, rfl, q⟩
theorem d_not (h : c ρ fun k => QB (!k)) : dNot c ρ QB := h
theorem d_and (h : c ρ fun k => if k = true then e ρ QB else QB false) : dAnd c e ρ QB := h
theorem d_or (h : c ρ fun k => if k = true then QB true else e ρ QB) : dOr c e ρ QB := h
theorem d_andV (h : a ρ fun x => ∃ k, x = .bl k ∧ if k = true then b ρ Q else Q (.bl false)) : dAndV a b ρ Q := h
theorem d_orV (h : a ρ fun x => ∃ k, x = .bl k ∧ if k = true then Q (.bl true) else b ρ Q) : dOrV a b ρ Q := h
theorem d_notV (h : a ρ fun x => ∃ k, x = .bl k ∧ Q (.bl (!k))) : dNotV a ρ Q := h
theorem d_if (h : c ρ fun k => if k = true then a ρ Q else b ρ Q) : dIf c a b ρ Q := h
theorem d_chain (h : a ρ fun x => b ρ fun y => r x y fun z => ∃ k, z = .bl k ∧ if k = true then c' ρ fun w => r' y w Q else Q (.bl false)) : dChain r r' a b c' ρ Q := h
theorem d_nil (q : QA []) : dNil ρ QA := q
theorem d_cons (h : a ρ fun x => w ρ fun xs => QA (x :: xs)) : dCons a w ρ QA := h
def NewD (Q : Dt → Prop) (f : List Dt → Dt) (xs : List Dt) : Prop := xs.length ≤ 100000 ∧ Q (f xs)
theorem d_tup (h : w ρ (NewD Q .tup)) : dTup w ρ Q := h
theorem d_lst (h : w ρ (NewD Q .lst)) : dLst w ρ Q := h
theorem d_lstL {P : List Dt → Prop} (h : w ρ fun xs => xs.length ≤ 100000 ∧ P xs) : dLstL w ρ P := h
theorem d_new {f : List Dt → Dt} {xs : List Dt} (q : Q (f xs)) (h : xs.length ≤ 100000 := by simp) : NewD Q f xs := ⟨h, q⟩
theorem d_cb {f : DFn} (h : w ρ fun xs => f xs Q) : dCB f w ρ Q := h
theorem d_noPart {P : Option Int → Prop} (q : P none) : dNoPart ρ P := q
theorem d_part {P : Option Int → Prop} (h : a ρ fun x => ∃ i, x = .int i ∧ P (some i)) : dPart a ρ P := h
theorem d_sl {f : Dt → Option Int → Option Int → (Dt → Prop) → Prop} {lo hi : DOpt} (h : a ρ fun x => lo ρ fun l => hi ρ fun u => f x l u Q) : dSl f a lo hi ρ Q := h
theorem d_call {dsp : DFn} (h : w ρ fun ds => dsp ds Q) : dCall dsp w ρ Q := h
theorem d_make {dsp : DFn} (h : w ρ fun ds => dsp ds Q) : dMake dsp w ρ Q := h
theorem d_callN {n m : Nat} {dsp : DFn} {gd : List Dt → List Dt → List Dt} {v : DArg} (h : w ρ fun ds => v ρ fun es => ds.length = n ∧ es.length = m ∧ dsp (gd ds es) Q) : dCallN n m dsp gd w v ρ Q := h
def MOn (c m : Str) (dsp : DFn) (w : DArg) (ρ : Env) (Q : Dt → Prop) (x : Dt) : Prop := ∃ fs, x = .obj c fs ∧ fs.lookup m = none ∧ w ρ fun ds => dsp (x :: ds) Q
theorem d_meth {c m : Str} {dsp : DFn} (h : a ρ (MOn c m dsp w ρ Q)) : dMeth c m dsp a w ρ Q := h
theorem d_onM {c m : Str} {dsp : DFn} {fs : List (Str × Dt)} (hl : fs.lookup m = none) (h : w ρ fun ds => dsp (.obj c fs :: ds) Q) : MOn c m dsp w ρ Q (.obj c fs) := ⟨fs, rfl, hl, h⟩
def FOn (cs : List Str) (f : Str) (Q : Dt → Prop) (x : Dt) : Prop := ∃ c fs d, x = .obj c fs ∧ c ∈ cs ∧ fs.lookup f = some d ∧ Q d
theorem d_fld {cs : List Str} {f : Str} (h : a ρ (FOn cs f Q)) : dFld cs a f ρ Q := h
theorem d_ofL {w : DArg} (h : w ρ fun ds => Q (.lst ds)) : dOfL w ρ Q := h
def LcOn (g : DTgt) (c : DTst) (a : DExp) (ρ : Env) (vs : List Nat) (P : List Dt → Prop) (l : List Dt) : Prop := l.length ≤ 100000 ∧ dMap g c a (wipeD ρ vs) l P
theorem d_lcL {P : List Dt → Prop} {vs : List Nat} (h : w ρ (LcOn g c a ρ vs P)) : dLcL w g c a vs ρ P := h
theorem d_items {P : List Dt → Prop} (h : a ρ fun x => ∃ l, x = .lst l ∧ P l) : dItems a ρ P := h
theorem d_itemsT {P : List Dt → Prop} (h : a ρ fun x => ∃ l, x = .tup l ∧ P l) : dItemsT a ρ P := h
theorem d_l {l : List Dt} {P : List Dt → Prop} (q : P l) : ∃ l', Dt.lst l = .lst l' ∧ P l' := ⟨l, rfl, q⟩
theorem d_t {l : List Dt} {P : List Dt → Prop} (q : P l) : ∃ l', Dt.tup l = .tup l' ∧ P l' := ⟨l, rfl, q⟩
def RngOn (P : List Dt → Prop) (ds : List Dt) : Prop := ∃ n : Int, ds = [.int n] ∧ -100000 ≤ n ∧ n ≤ 100000 ∧ P (rng 0 n.toNat)
theorem d_rng1 {P : List Dt → Prop} (h : w ρ (RngOn P)) : dRng1 w ρ P := h
theorem d_onR {n : Int} {P : List Dt → Prop} (q : P (rng 0 n.toNat)) (h0 : -100000 ≤ n := by omega) (h1 : n ≤ 100000 := by omega) : RngOn P [.int n] := ⟨n, rfl, h0, h1, q⟩
def EnOn (P : List Dt → Prop) (ds : List Dt) : Prop := ∃ x l, ds = [x] ∧ items x = some l ∧ P (enumD l)
theorem d_enum {P : List Dt → Prop} (h : w ρ (EnOn P)) : dEnum w ρ P := h
theorem d_onE {l : List Dt} {P : List Dt → Prop} (h : items x = some l) (q : P (enumD l)) : EnOn P [x] := ⟨x, l, rfl, h, q⟩
theorem d_yes (q : QB true) : dYes ρ QB := q
theorem d_iteT {A B : Prop} (h : A) : if true = true then A else B := h
theorem d_iteF {A B : Prop} (h : B) : if false = true then A else B := by simpa using h
theorem d_addI {m n : Int} (q : Q (.int (m + n))) : dAdd (.int m) (.int n) Q := q
theorem d_subI {m n : Int} (q : Q (.int (m - n))) : dSub (.int m) (.int n) Q := q
theorem d_ltI {m n : Int} (q : Q (.bl (decide (m < n)))) : dLt (.int m) (.int n) Q := q
theorem d_leI {m n : Int} (q : Q (.bl (decide (m ≤ n)))) : dLe (.int m) (.int n) Q := q
theorem d_gtI {m n : Int} (q : Q (.bl (decide (n < m)))) : dGt (.int m) (.int n) Q := q
theorem d_geI {m n : Int} (q : Q (.bl (decide (n ≤ m)))) : dGe (.int m) (.int n) Q := q
theorem d_negI {m : Int} (q : Q (.int (-m))) : dNeg (.int m) Q := q
theorem d_eqI {m n : Int} (q : Q (.bl (decide (m = n)))) : dEq false (.int m) (.int n) Q := by simpa [dEq, scals] using q
theorem d_neI {m n : Int} (q : Q (.bl (!decide (m = n)))) : dEq true (.int m) (.int n) Q := by simpa [dEq, scals] using q
theorem d_eqB {m n : Bool} (q : Q (.bl (decide (m = n)))) : dEq false (.bl m) (.bl n) Q := by simpa [dEq, scals] using q
theorem d_neB {m n : Bool} (q : Q (.bl (!decide (m = n)))) : dEq true (.bl m) (.bl n) Q := by simpa [dEq, scals] using q
theorem d_eqS {m n : Str} (q : Q (.bl (decide (m = n)))) : dEq false (.str m) (.str n) Q := by simpa [dEq, scals] using q
theorem d_neS {m n : Str} (q : Q (.bl (!decide (m = n)))) : dEq true (.str m) (.str n) Q := by simpa [dEq, scals] using q
theorem d_isN (q : Q (.bl (nonD x))) : dIsN false x .non Q := ⟨rfl, by simpa using q⟩
theorem d_isnN (q : Q (.bl (!nonD x))) : dIsN true x .non Q := ⟨rfl, by simpa using q⟩
theorem d_lenL {l : List Dt} (q : Q (.int (l.length : Nat))) : dLen [.lst l] Q := q
theorem d_lenT {l : List Dt} (q : Q (.int (l.length : Nat))) : dLen [.tup l] Q := q
theorem d_ixL {l : List Dt} {n : Int} (h : atI l n = some x) (q : Q x) : dIx (.lst l) (.int n) Q := ⟨x, h, q⟩
theorem d_ixT {l : List Dt} {n : Int} (h : atI l n = some x) (q : Q x) : dIx (.tup l) (.int n) Q := ⟨x, h, q⟩
theorem d_ix0 {l : List Dt} (q : Q x) : dIx (.tup (x :: l)) (.int 0) Q := ⟨x, at0, q⟩
theorem d_ix1 {l : List Dt} (q : Q y) : dIx (.tup (x :: y :: l)) (.int 1) Q := ⟨y, at1, q⟩
theorem d_ix2 {z : Dt} {l : List Dt} (q : Q z) : dIx (.tup (x :: y :: z :: l)) (.int 2) Q := ⟨z, atI_nat (j := 2) rfl, q⟩
theorem d_ix3 {z v : Dt} {l : List Dt} (q : Q v) : dIx (.tup (x :: y :: z :: v :: l)) (.int 3) Q := ⟨v, atI_nat (j := 3) rfl, q⟩
theorem d_cat {l m : List Dt} (h : l.length + m.length ≤ 100000) (q : Q (.lst (l ++ m))) : dAdd (.lst l) (.lst m) Q := ⟨h, q⟩
theorem d_slL {l : List Dt} {lo hi : Option Int} (q : Q (.lst (cutD l lo hi))) : dSlc (.lst l) lo hi Q := q
theorem d_slT {l : List Dt} {lo hi : Option Int} (q : Q (.tup (cutD l lo hi))) : dSlc (.tup l) lo hi Q := q
theorem d_intI {n : Int} (q : Q (.int n)) : dIntC [.int n] Q := q
theorem d_listL {l : List Dt} (q : Q (.lst l)) : dListC [.lst l] Q := ⟨_, l, rfl, rfl, q⟩
theorem d_listT {l : List Dt} (q : Q (.lst l)) : dListC [.tup l] Q := ⟨_, l, rfl, rfl, q⟩
theorem d_tupleL {l : List Dt} (q : Q (.tup l)) : dTupleC [.lst l] Q := ⟨_, l, rfl, rfl, q⟩
theorem d_tupleT {l : List Dt} (q : Q (.tup l)) : dTupleC [.tup l] Q := ⟨_, l, rfl, rfl, q⟩
theorem d_etup2 {g1 g2 : DTgt} {P : Env → Prop} (h : g1 x ρ fun ρ' => g2 y ρ' P) : eTup 2 (esCons g1 (esCons g2 esNil)) (.tup [x, y]) ρ P := by
  refine ⟨_, rfl, rfl, x, [y], rfl, ?_⟩
  have e : (fun ρ' => g2 y ρ' P) = fun ρ' => esCons g2 esNil [y] ρ' P := by
    funext ρ'
    refine propext ⟨fun h => ⟨y, [], rfl, ?_⟩, ?_⟩
    · have : (fun ρ'' => esNil [] ρ'' P) = P := by funext z; exact propext ⟨fun h => h.2, fun h => ⟨rfl, h⟩⟩
      rw [this]; exact h
    · rintro ⟨d, l, e, h⟩
      cases e
      have : (fun ρ'' => esNil [] ρ'' P) = P := by funext z; exact propext ⟨fun h => h.2, fun h => ⟨rfl, h⟩⟩
      rw [this] at h; exact h
  rw [← e]
  exact h
/-! loops and maps by induction -/
theorem loop_ind {l : List Dt} (P : List Dt → Env → Prop) (h0 : P l ρ) (hd : ∀ ρ, P [] ρ → D.nx ρ) (hs : ∀ x r ρ, x ∈ l → P (x :: r) ρ → (∀ ρ', P r ρ' → dLoop g t D r ρ') → g x ρ fun ρ1 => t { D with nx := dLoop g t D r, ct := dLoop g t D r, bk := D.nx } ρ1) : dLoop g t D l ρ := by
  have key : ∀ (m : List Dt) (ρ : Env), (∀ x ∈ m, x ∈ l) → P m ρ → dLoop g t D m ρ := by
    intro m
    induction m with
    | nil => intro ρ _ h; exact hd ρ h
    | cons x r ih => intro ρ hm h; exact hs x r ρ (hm x (List.mem_cons_self ..)) h fun ρ' h' => ih ρ' (fun z hz => hm z (List.mem_cons_of_mem _ hz)) h'
  exact key l ρ (fun _ h => h) h0
theorem lc_fn {l : List Dt} {vs : List Nat} {P : List Dt → Prop} (f : Dt → Dt) (hl : l.length ≤ 100000) (hs : ∀ x ∈ l, ∀ N : Dt → Prop, N (f x) → g x (wipeD ρ vs) fun ρ1 => a ρ1 N) (q : P (l.map f)) : LcOn g dYes a ρ vs P l := by
  refine ⟨hl, ?_⟩
  clear hl
  induction l generalizing P with
  | nil => exact q
  | cons x l ih =>
    have hx := hs x (List.mem_cons_self ..) (fun y => dMap g dYes a (wipeD ρ vs) l fun ys => P (y :: ys)) (ih (fun z hz => hs z (List.mem_cons_of_mem _ hz)) q)
    simp only [dMap, dYes, if_true]
    exact hx
inductive All2 (R : Dt → Dt → Prop) : List Dt → List Dt → Prop
  | nil : All2 R [] []
  | cons {x y : Dt} {l m : List Dt} : R x y → All2 R l m → All2 R (x :: l) (y :: m)
theorem lc_rel {l : List Dt} {vs : List Nat} {P : List Dt → Prop} (R : Dt → Dt → Prop) (hl : l.length ≤ 100000) (hs : ∀ x ∈ l, ∀ N : Dt → Prop, (∀ y, R x y → N y) → g x (wipeD ρ vs) fun ρ1 => a ρ1 N) (q : ∀ ys, All2 R l ys → P ys) : LcOn g dYes a ρ vs P l := by
  refine ⟨hl, ?_⟩
  clear hl
  induction l generalizing P with
  | nil => exact q _ .nil
  | cons x l ih =>
    have hx := hs x (List.mem_cons_self ..) (fun y => dMap g dYes a (wipeD ρ vs) l fun ys => P (y :: ys)) fun y hy => ih (fun z hz => hs z (List.mem_cons_of_mem _ hz)) fun ys hys => q _ (.cons hy hys)
    simp only [dMap, dYes, if_true]
    exact hx
theorem lc_if {l : List Dt} {vs : List Nat} {P : List Dt → Prop} (p : Dt → Bool) (f : Dt → Dt) (hl : l.length ≤ 100000) (hs : ∀ x ∈ l, ∀ (N : Dt → Prop) (M : Prop), (p x = true → N (f x)) → (p x = false → M) → g x (wipeD ρ vs) fun ρ1 => c ρ1 fun k => if k = true then a ρ1 N else M) (q : P ((l.filter p).map f)) : LcOn g c a ρ vs P l := by
  refine ⟨hl, ?_⟩
  clear hl
  induction l generalizing P with
  | nil => exact q
  | cons x l ih =>
    refine hs x (List.mem_cons_self ..) _ _ (fun hp => ?_) (fun hp => ?_)
    · rw [List.filter_cons_of_pos hp] at q
      exact ih (fun z hz => hs z (List.mem_cons_of_mem _ hz)) q
    · rw [List.filter_cons_of_neg (by rw [hp]; decide)] at q
      exact ih (fun z hz => hs z (List.mem_cons_of_mem _ hz)) q
end
end Dl

set_option Elab.async false
set_option linter.all false
set_option maxRecDepth 100000
set_option maxHeartbeats 3000000
/-! The layer of data, 6n: is_number. -/
namespace Dl
open L2 PySem PySem.Spec PyProof.Rows RZ StX Cm
section
variable {lk : Md} {T : List (Addr × Str)} {K : Frag} {G H : Hp}
def dsp_is_number : DFn := fun ds Q => ∃ x d lo hi, ds = [x, .int lo, .int hi] ∧ pyd x = some d ∧ Q (.bl (isNumD d lo hi))
theorem ok_number : SpOk lk K (sp_is_number K) dsp_is_number := by
  intro G H vs ds Qd Q E s r q k
  obtain ⟨x, d, lo, hi, rfl, h1, q⟩ := q
  cases r with
  | cons a r => cases r with
    | cons b r => cases r with
      | cons c r =>
        cases r
        cases b; cases c
        exact ⟨_, d, lo, hi, rfl, Cm.up s (dp_of a h1), fun H' e => k _ _ G H' (New.grow s e) (.bl _) q⟩
theorem d_number {i lo hi : Int} {b : Bool} {Q : Dt → Prop} (h : (decide (lo ≤ i) && decide (i ≤ hi)) = b) (q : Q (.bl b)) : dsp_is_number [.int i, .int lo, .int hi] Q := ⟨_, .int i, lo, hi, rfl, rfl, by show Q (.bl (decide (lo ≤ i) && decide (i ≤ hi))); rw [h]; exact q⟩
end
end Dl

set_option Elab.async false
set_option linter.all false
set_option maxRecDepth 100000
set_option maxHeartbeats 3000000
/-! The layer of data, 7: the steps as one word; loops over lists that are images. -/
namespace Dl
open L2 PySem PySem.Spec PyProof.Rows RZ StX Cm
section
variable {ρ : Env} {Q : Dt → Prop} {QA : List Dt → Prop} {QB : Bool → Prop} {a : DExp} {w : DArg} {A B : Prop}
theorem d_iteD {b : Bool} (h : B) : if (!decide (b = b)) = true then A else B := by simpa using h
theorem d_iteNF (h : A) : if (!false) = true then A else B := by simpa using h
theorem d_iteNT (h : B) : if (!true) = true then A else B := by simpa using h
def Rng2On (P : List Dt → Prop) (ds : List Dt) : Prop := ∃ m n : Int, ds = [.int m, .int n] ∧ -100000 ≤ m ∧ m ≤ 100000 ∧ -100000 ≤ n ∧ n ≤ 100000 ∧ P (rng m (n - m).toNat)
theorem d_rng2 {P : List Dt → Prop} (h : w ρ (Rng2On P)) : dRng2 w ρ P := h
theorem d_onR2 {m n : Int} {P : List Dt → Prop} (q : P (rng m (n - m).toNat)) (h0 : -100000 ≤ m := by omega) (h1 : m ≤ 100000 := by omega) (h2 : -100000 ≤ n := by omega) (h3 : n ≤ 100000 := by omega) : Rng2On P [.int m, .int n] := ⟨m, n, rfl, h0, h1, h2, h3, q⟩
def StarOn (w : DArg) (ρ : Env) (QA : List Dt → Prop) (x : Dt) : Prop := ∃ l, items x = some l ∧ w ρ fun ys => QA (l ++ ys)
theorem d_star (h : a ρ (StarOn w ρ QA)) : dStar a w ρ QA := h
theorem d_onS {x : Dt} {l : List Dt} (h : items x = some l) (q : w ρ fun ys => QA (l ++ ys)) : StarOn w ρ QA x := ⟨l, h, q⟩
theorem d_ow {b c : Bool} (q : Q (.bl (b != c))) : ∃ b', Dt.bl c = .bl b' ∧ Q (.bl (b != b')) := ⟨c, rfl, q⟩
/-- `k and c`, the value -/
theorem d_andC {k c : Bool} {b : DExp} (h : ∀ P : Dt → Prop, P (.bl c) → b ρ P) (q : Q (.bl (k && c))) : if k = true then b ρ Q else Q (.bl false) := by
  cases k with
  | true => exact d_iteT (h Q q)
  | false => exact d_iteF q
end
section
variable {ρ : Env} {D : DEnds} {a : DExp} {t : DStm} {g : DTgt} {c : DTst}
theorem lc_map {α : Type} {vs : List Nat} {P : List Dt → Prop} (m : List α) (h f : α → Dt) (hl : m.length ≤ 100000) (hs : ∀ x ∈ m, ∀ N : Dt → Prop, N (f x) → g (h x) (wipeD ρ vs) fun ρ1 => a ρ1 N) (q : P (m.map f)) : LcOn g dYes a ρ vs P (m.map h) := by
  refine ⟨by rw [List.length_map]; exact hl, ?_⟩
  clear hl
  induction m generalizing P with
  | nil => exact q
  | cons x l ih =>
    have hx := hs x (List.mem_cons_self ..) (fun y => dMap g dYes a (wipeD ρ vs) (l.map h) fun ys => P (y :: ys)) (ih (fun z hz => hs z (List.mem_cons_of_mem _ hz)) q)
    simp only [List.map_cons, dMap, dYes, if_true]
    exact hx
theorem loop_map {α : Type} {m : List α} (h : α → Dt) (P : List α → Env → Prop) (h0 : P m ρ) (hd : ∀ ρ, P [] ρ → D.nx ρ) (hs : ∀ x r ρ, x ∈ m → P (x :: r) ρ → (∀ ρ', P r ρ' → dLoop g t D (r.map h) ρ') → g (h x) ρ fun ρ1 => t { D with nx := dLoop g t D (r.map h), ct := dLoop g t D (r.map h), bk := D.nx } ρ1) : dLoop g t D (m.map h) ρ := by
  have key : ∀ (l : List α) (ρ : Env), (∀ x ∈ l, x ∈ m) → P l ρ → dLoop g t D (l.map h) ρ := by
    intro l
    induction l with
    | nil => intro ρ _ h; exact hd ρ h
    | cons x r ih => intro ρ hm h; exact hs x r ρ (hm x (List.mem_cons_self ..)) h fun ρ' h' => ih ρ' (fun z hz => hm z (List.mem_cons_of_mem _ hz)) h'
  exact key m ρ (fun _ h => h) h0
theorem rng_map (lo : Int) (n : Nat) : rng lo n = (List.range n).map fun i => .int (lo + (i : Nat)) := rfl
end
end Dl

set_option Elab.async false
set_option linter.all false
set_option maxRecDepth 100000
set_option maxHeartbeats 4000000
/-! Own exceptions whose __init__ says super().__init__(text), self.f = f, self.code = text. -/
namespace PySem
namespace Xe
open PySem.W PySem.Calls PyProof.Rows PySem.HandSPX
open Builtin Builtin.ObjectAttr
/-- own classes, then tl -/
def refsT (tl : List Value) : List Value → Bool
  | .ref _ :: r => refsT tl r
  | l => l == tl
structure EB (B newId initId : String) (tl : List Value) : Prop where
  F : ExcBaseFacts B newId initId tl
  pass : ∀ self : Value, refuseLoop self "__setattr__" tl = pure ()
  obj : tl.contains (.type "object") = true
  ne : tl.isEmpty = false
  kx : KxsFacts B initId
abbrev leTail : List Value := [.type "LookupError", .type "Exception", .type "BaseException", .type "object"]
abbrev ieTail : List Value := [.type "IndexError", .type "LookupError", .type "Exception", .type "BaseException", .type "object"]
theorem eb_VE : EB "ValueError" "ValueError.__new__" "ValueError.__init__" veTail := ⟨F.excBase_ValueError, F.store_ValueError.passes, by decide +kernel, rfl, kxs_ValueError⟩
theorem eb_LE : EB "LookupError" "LookupError.__new__" "LookupError.__init__" leTail := ⟨F.excBase_LookupError, F.store_LookupError.passes, by decide +kernel, rfl, kxs_LookupError⟩
theorem eb_IE : EB "IndexError" "IndexError.__new__" "IndexError.__init__" ieTail := ⟨F.excBase_IndexError, F.store_IndexError.passes, by decide +kernel, rfl, kxs_IndexError⟩
section
variable {B newId initId : String} {tl : List Value}
theorem refsT_cases : ∀ l : List Value, refsT tl l = true → (∃ c r, l = .ref c :: r ∧ refsT tl r = true) ∨ l = tl
  | [], e => .inr (beq_iff_eq.mp e)
  | .ref c :: r, e => .inl ⟨c, r, rfl, e⟩
  | .none :: _, e => .inr (beq_iff_eq.mp e)
  | .ellipsis :: _, e => .inr (beq_iff_eq.mp e)
  | .notImplemented :: _, e => .inr (beq_iff_eq.mp e)
  | .bool _ :: _, e => .inr (beq_iff_eq.mp e)
  | .int _ _ :: _, e => .inr (beq_iff_eq.mp e)
  | .float _ _ :: _, e => .inr (beq_iff_eq.mp e)
  | .str _ _ :: _, e => .inr (beq_iff_eq.mp e)
  | .bytes _ _ :: _, e => .inr (beq_iff_eq.mp e)
  | .type _ :: _, e => .inr (beq_iff_eq.mp e)
  | .builtin _ :: _, e => .inr (beq_iff_eq.mp e)
theorem refsT_pass (b : EB B newId initId tl) (self : Value) : ∀ l : List Value, refsT tl l = true → refuseLoop self "__setattr__" l = pure () := by
  intro l
  induction l with
  | nil =>
    intro e
    rcases refsT_cases [] e with ⟨c, r', q, h⟩ | q
    · cases q
    · rw [q]; exact b.pass self
  | cons a r ih =>
    intro e
    rcases refsT_cases (a :: r) e with ⟨c, r', q, h⟩ | q
    · obtain ⟨rfl, rfl⟩ := List.cons.inj q
      rw [refuseLoop_ref]; exact ih h
    · rw [q]; exact b.pass self
theorem refsT_contains (X : String) : ∀ l : List Value, refsT tl l = true → l.contains (.type X) = tl.contains (.type X) := by
  intro l
  induction l with
  | nil =>
    intro e
    rcases refsT_cases [] e with ⟨c, r', q, h⟩ | q
    · cases q
    · rw [q]
  | cons a r ih =>
    intro e
    rcases refsT_cases (a :: r) e with ⟨c, r', q, h⟩ | q
    · obtain ⟨rfl, rfl⟩ := List.cons.inj q
      rw [List.contains_cons, ih h]; rfl
    · rw [q]
theorem refsT_ne (b : EB B newId initId tl) {l : List Value} (e : refsT tl l = true) : l.isEmpty = false := by
  rcases refsT_cases l e with ⟨c, r', q, h⟩ | q
  · rw [q]; rfl
  · rw [q]; exact b.ne
end
section
variable {prog : Program} {w : World} {A : Around} {E : Value → Shared → Prop} {R : Result → Shared → Prop} {hp : Heap} {g : Array GenState} {d : Drawn} {t : Nat} {os : OsState} {B newId initId : String} {tl : List Value}
theorem osa_exc (b : EB B newId initId tl) {K : Frag} {name : Str} {tk : Tok} {v : Value} {x C : Addr} {ox : Obj} {od : Option Obj} {cd : ClassData}
    (X : K.In hp) (I : InstAt hp x ox C od) (hcd : clsIn K C = some cd) (hm : refsT tl cd.mro = true) (ha : findIn K (.ref C) name = some none)
    (hq : wpAny (model prog w) A.in1 (storeInOwnDict (.ref x) (.ref C) (.str name tk) name v false)
      (fun fin s' => match fin with | .done f => R (.ok f) s' | .again c' => c'.quiet = true ∧ codeAny (model prog w) A c' R s') (fun e s' => R (.error e) s') ⟨hp, g, d, t, os⟩) :
    codeAny (model prog w) A (.call (.builtin "object.__setattr__") ⟨[.ref x, .str name tk, v], []⟩) R ⟨hp, g, d, t, os⟩ := by
  have SF := F.store_object
  have ne := refsT_ne b hm
  have hob : cd.mro.contains (.type "object") = true := (refsT_contains "object" _ hm).trans b.obj
  have sub : Looks (model prog w) hp (isInstance (.ref x) (.type "object")) true := I.type.andThen (looks_mroIn X (by unfold mroIn; rw [hcd, Option.bind_some, if_neg (by rw [ne]; decide), hob]))
  refine codeAny_call_builtin SF.slot.plain SF.entry (@check_slot (model prog w) _ _ ⟨hp, g, d, t, os⟩ "object.__setattr__" "object" "__setattr__" (.ref x) [.str name tk, v] [] _ SF.kind SF.split sub (SF.args (.ref x) (.str name tk) v) ?_)
  have hmr : Looks (model prog w) hp (mroOf (.ref C)) cd.mro := (looks_clsIn X hcd).andThen .now
  have L3 : Looks (model prog w) hp (storeTaker? none) none := .now
  rw [osa_eq, refuse_eq]
  refine wpAny_bind (wpAny_bind (I.type.at (wpAny_bind (hmr.at ?_))))
  rw [refsT_pass b _ _ hm]
  refine wpAny_pure (wpAny_bind (I.type.at (wpAny_bind ((looks_findIn X ha).at (wpAny_bind (L3.at ?_))))))
  exact hq
theorem osa_new (b : EB B newId initId tl) {K : Frag} {name : Str} {tk : Tok} {v : Value} {x C : Addr} {fv : Array Value} {cd : ClassData}
    (X : K.In hp) (hx : hp.get? x = some { cls := .ref C, data := .fields fv }) (hcd : clsIn K C = some cd) (hm : refsT tl cd.mro = true) (hh : cd.hasDict = true) (ha : findIn K (.ref C) name = some none)
    (hq : ∀ h' tk' dx, (∀ b o, b ≠ x → hp.get? b = some o → h'.get? b = some o) → hp.objs.size ≤ dx → dx ≠ x → h'.get? x = some { cls := .ref C, dict := some dx, data := .fields fv } →
      h'.Ns1 dx (fun y => if y = name then some v else none) → R (.ok (.ret .none)) ⟨h', g, d, tk', os⟩) :
    codeAny (model prog w) A (.call (.builtin "object.__setattr__") ⟨[.ref x, .str name tk, v], []⟩) R ⟨hp, g, d, t, os⟩ := by
  have I : InstAt hp x { cls := .ref C, data := .fields fv } C none := ⟨hx, rfl, rfl, trivial⟩
  have hxs : x ≠ hp.objs.size := Nat.ne_of_lt (Heap.lt_size hx)
  refine osa_exc b X I hcd hm ha ?_
  have hcls : Looks (model prog w) hp (classData C) cd := looks_clsIn X hcd
  obtain ⟨nm, bs, mro, ns, qn, hd, sn, sb, ab, col, del⟩ := cd
  dsimp only at hh
  subst hh
  unfold storeInOwnDict ownDictForStores
  repeat (first | with_reducible refine HandSPX.store_in_new ?_ ?_ | with_reducible refine wpAny_loadPart_at hx ?_ | with_reducible refine hcls.at ?_ | wp_step)
  · exact ⟨_, #[], _, (Heap.get?_update_ne _ _ _ _ hxs.symm).trans (Heap.get?_push_at rfl rfl), rfl, fun e he => absurd he (by simp), fun _ => rfl⟩
  · intro h' tk' hn' hs
    have hx₁ : (hp.push { cls := .type "dict", data := .dict #[] }).get? x = some { cls := .ref C, data := .fields fv } := Heap.get?_push_of_some _ hx
    refine hq h' tk' hp.objs.size (fun b o hb ho => ?_) (Nat.le_refl _) hxs.symm ?_ hn'
    · exact (hs.2 b (Nat.ne_of_lt (Heap.lt_size ho))).trans ((Heap.get?_update_ne _ _ _ _ hb).trans (Heap.get?_push_of_some _ ho))
    · exact (hs.2 x hxs).trans (Heap.get?_update_self _ hx₁ rfl)
theorem osa_old (b : EB B newId initId tl) {K : Frag} {name : Str} {tk : Tok} {v : Value} {x C dx : Addr} {fv : Array Value} {cd : ClassData} {m0 : Str → Option Value} {nl : List Str}
    (X : K.In hp) (hx : hp.get? x = some { cls := .ref C, dict := some dx, data := .fields fv }) (hns : hp.Ns1 dx m0) (hw : Within m0 nl) (hz : nl.length ≤ 1000) (hcd : clsIn K C = some cd) (hm : refsT tl cd.mro = true) (hh : cd.hasDict = true)
    (ha : findIn K (.ref C) name = some none)
    (hq : ∀ h' tk', (∀ b o, b ≠ dx → hp.get? b = some o → h'.get? b = some o) → h'.Ns1 dx (fun y => if y = name then some v else m0 y) → R (.ok (.ret .none)) ⟨h', g, d, tk', os⟩) :
    codeAny (model prog w) A (.call (.builtin "object.__setattr__") ⟨[.ref x, .str name tk, v], []⟩) R ⟨hp, g, d, t, os⟩ := by
  obtain ⟨oD, esD, epD, hoD, hdD, _⟩ := hns.count hw
  have I : InstAt hp x { cls := .ref C, dict := some dx, data := .fields fv } C (some oD) := ⟨hx, rfl, rfl, hoD⟩
  refine osa_exc b X I hcd hm ha ?_
  have hcls : Looks (model prog w) hp (classData C) cd := looks_clsIn X hcd
  obtain ⟨nm, bs, mro, ns, qn, hd, sn, sb, ab, col, del⟩ := cd
  dsimp only at hh
  subst hh
  unfold storeInOwnDict ownDictForStores
  repeat (first | with_reducible refine ESX.store_in_old hns hw hz ?_ | with_reducible refine wpAny_loadPart_at hx ?_ | with_reducible refine hcls.at ?_ | wp_step)
  intro h' tk' hn' hs
  exact hq h' tk' (fun b o hb ho => (hs.2 b hb).trans ho) hn'
end

section
variable {prog : Program} {w : World} {A : Around} {E : Value → Shared → Prop} {h : Heap} {g : Array GenState} {d : Drawn} {t : Nat} {os : OsState}
variable {nm q : Str} {C N : Addr} {bs bm bmB : List Value} {hdct : Bool} {sn : List Str} {sub : List Value} {ab : Bool} {col : Option Bool} {dd : Option Addr} {k0 k1 k2 k3 k5 : Option Value} {B newId initId : String}
theorem call_mw (F : ExcBaseFacts B newId initId bmB) {u e t0 : Addr} {rest : List Value} {Q : Value → Shared → Prop}
    (hC : h.get? C = some (excClassObj nm q C N bs bm hdct sn sub ab col dd k0 k1 k2 k3 k5 newId)) (he : h.get? e = some (HandSPX.excO C t0)) (hu : h.get? u = some (kxs_mw initId e)) (hrest : rest.length ≤ sizeLine)
    (hq : ∀ h' t1, (∀ b o, b ≠ e → h.get? b = some o → h'.get? b = some o) → h'.get? e = some (HandSPX.excO C t1) → Q .none ⟨h', g, d, t, os⟩) :
    wpAny (model prog w) A (call (.ref u) rest) Q E ⟨h, g, d, t, os⟩ := by
  refine wpAny_call (codeAny_of_tree ?_)
  show wpAny _ A.in1 (callAny (.ref u) ⟨rest, []⟩) _ _ _
  simp only [callAny]
  refine wpAny_bind (wpAny_load hu ?_)
  simp only [kxs_mw, show (Value.type "method-wrapper" == Value.type "method" || Value.type "method-wrapper" == Value.type "builtin_function_or_method" || Value.type "method-wrapper" == Value.type "method-wrapper") = true by decide, if_true]
  refine W.KFB.if_so (by decide) ?_
  refine wpAny_bind (ESX.check_bound F hC he rfl ?_)
  refine wpAny_bind (wpAny_pure (wpAny_pure ?_))
  refine ⟨plainId_quiet F.init.plain _, codeAny_builtin F.initEntry ?_⟩
  exact exc_init_tree (cls := .ref C) (t0 := t0) (dv := none) (c2 := .none) (c3 := .none) (b4 := .bool false) he hrest fun h' k e' _ => hq h' _ k e'
end
end Xe
end PySem

set_option Elab.async false
set_option linter.all false
set_option maxRecDepth 100000
set_option maxHeartbeats 4000000
/-! The walk of such an __init__. -/
namespace PySem
namespace Xe
open PySem.W PySem.Calls PyProof.Rows PySem.HandSPX
abbrev scN (ns : List (Str × NameKind)) : Scope := { kind := .function, names := ns, isGenerator := false, isCoroutine := false, more := [] }
/-- what the written part says of the class at C and of its __init__ at fI -/
structure ErrC (P : Program) (K : Frag) (C fI : Addr) (qual : Str) (params : Arguments) (body : List Stmt) (ns : List (Str × NameKind)) : Prop where
  cls : ∃ B newId initId tl nm q N bs bm sn sub ab col dd k0 k1 k2 k3 k5, EB B newId initId tl ∧ K.lookup C = some (excClassObj nm q C N bs bm true sn sub ab col dd k0 k1 k2 k3 k5 newId) ∧ refsT tl bm = true ∧
    ks_superIn K C C "__init__" = some (some (.builtin initId)) ∧ subIn K (.ref C) (.type B) = some true
  sa : findIn K (.ref C) "__setattr__" = some (some (.builtin "object.__setattr__"))
  iC : findIn K (.ref C) "__init__" = some (some (.ref fI))
  tC : typeIn K (.ref fI) = some (.type "function")
  kC : keepIn K (.ref C) = true
  exC : subIn K (.ref C) (.type "BaseException") = some true
  tyC : typeIn K (.ref C) = some (.type "type")
  me : mroIn K C (.ref C) = some true
  opq : nsIn K cStatics "thirdparty.any" = some none
  fn : ∃ oc od doc pm an cda ct cc osl ccl cdd vs ccs file tf cl cld csl, K.lookup fI = some ⟨oc, od, .func (ksFn "__init__" qual params body (scN ns) .none .none doc pm an (.ref cda) ct cc), osl⟩ ∧ codeIn K (.ref cda) qual = true ∧
    K.lookup cda = some ⟨ccl, cdd, .fields vs, ccs⟩ ∧ vs[2]? = some (.str file tf) ∧ ((P.main.file : Str) == file) = true ∧ K.lookup cc = some ⟨cl, cld, .cell (some (.ref C)), csl⟩
  top : (P.main.scope.names.lookup ("super" : Str)).isSome = false
  hks : ns.lookup ("super" : Str) = some .globalImplicit
  hkc : ns.lookup ("__class__" : Str) = some .free
  hka : ns.lookup ("self" : Str) = some .local
  hcell : ∀ x ∈ ns, x.2 ≠ .cell
  hp : ∃ ar : Arg, (params.posonlyargs ++ params.args).head? = some ar ∧ ar.arg = "self"
def initB (m : Str) (k5 : Nat) (p0 p1 p2 p3 p4 p5 : Pos) (rest : List Stmt) : List Stmt := .Expr (.Call (.Attribute (.Call (.Name "super" p0) [] [] p1) "__init__" p2) [.Constant (.str m) k5 p5] [] p3) p4 :: rest
def SupEv (qual : Str) (ns : List (Str × NameKind)) (fI : Addr) (msg : Str) (k5 : Nat) (p0 p1 p2 p3 p5 : Pos) : Prop := ∀ L cda cc : Addr, ∃ pl : Sem Bool, eval (.Call (.Attribute (.Call (.Name "super" p0) [] [] p1) "__init__" p2) [.Constant (.str msg) k5 p5] [] p3) (ksEnv qual (scN ns) L fI (.ref cda) cc) = (do
      let ov ← attributeBase (.Call (.Name "super" p0) [] [] p1) "__init__" (ksEnv qual (scN ns) L fI (.ref cda) cc) (eval (.Call (.Name "super" p0) [] [] p1) (ksEnv qual (scN ns) L fI (.ref cda) cc))
      standAt (Pos.atName p2)
      let (f, first) ← holding [ov] (getMethod ov "__init__" pl)
      callWith p3 f first (backTo p3 (starEach [.Constant (.str msg) k5 p5] (ksEnv qual (scN ns) L fI (.ref cda) cc))) [])
structure GlobT (h : Heap) (mg mb : Str → Option Value) : Prop where
  g : h.Ns mainGlobals mg
  no : mg "super" = none
  b : h.Ns builtinsNs mb
  su : mb "super" = some (.type "super")
theorem GlobT.keeps {h h' : Heap} {mg mb : Str → Option Value} (G : GlobT h mg mb) (k : ∀ b o, h.get? b = some o → h'.get? b = some o) : GlobT h' mg mb := ⟨G.g.keeps k, G.no, G.b.keeps k, G.su⟩
section
variable {prog : Program} {w : World} {A : Around} {E : Value → Shared → Prop} {R : Result → Shared → Prop} {hp : Heap} {g : Array GenState} {d : Drawn} {t : Nat} {os : OsState} {K : Frag} {C fI : Addr} {qual : Str} {params : Arguments} {body : List Stmt} {ns : List (Str × NameKind)} {mg mb m : Str → Option Value}
theorem super_step {cda cc L x t0 : Addr} {msg : Str} {k5 : Nat} {p0 p1 p2 p3 p4 p5 : Pos} {Q : Flow → Shared → Prop} (T : ErrC prog K C fI qual params body ns) (X : K.In hp) (G : GlobT hp mg mb) (hn : hp.Ns L m) (hv : m "self" = some (.ref x)) (hx : hp.get? x = some (excO C t0))
    {oc : Value} {od : Option Addr} {doc pm : Value} {an : Option Addr} {ct : Value} {osl : Array (Option Value)} {ccl : Value} {cdd : Option Addr} {vs : Array Value} {ccs : Array (Option Value)} {file : Str} {tf : Tok} {cl : Value} {cld : Option Addr} {csl : Array (Option Value)}
    (ho : K.lookup fI = some ⟨oc, od, .func (ksFn "__init__" qual params body (scN ns) .none .none doc pm an (.ref cda) ct cc), osl⟩) (hcode : K.lookup cda = some ⟨ccl, cdd, .fields vs, ccs⟩) (hvs : vs[2]? = some (.str file tf)) (hE : SupEv qual ns fI msg k5 p0 p1 p2 p3 p5) (hfile : ((prog.main.file : Str) == file) = true) (hcc : K.lookup cc = some ⟨cl, cld, .cell (some (.ref C)), csl⟩)
    (hq : ∀ h' tk t1, (∀ b o, b ≠ x → hp.get? b = some o → h'.get? b = some o) → h'.get? x = some (excO C t1) → Q .next ⟨h', g, d, tk, os⟩) :
    wpAt (model prog w) A (.func body (ksEnv qual (scN ns) L fI (.ref cda) cc)) (exec (.Expr (.Call (.Attribute (.Call (.Name "super" p0) [] [] p1) "__init__" p2) [.Constant (.str msg) k5 p5] [] p3) p4) (ksEnv qual (scN ns) L fI (.ref cda) cc)) Q E ⟨hp, g, d, t, os⟩ := by
  obtain ⟨B, newId, initId, tl, nm, q, N, bs, bm, sn, sub, ab, col, dd, k0, k1, k2, k3, kk5, eb, hC, hbm, hsup, hsubB⟩ := T.cls
  obtain ⟨ar, har, hself⟩ := T.hp
  have hcl : clsIn K C = some { name := nm, bases := bs, mro := .ref C :: bm, ns := N, qualname := q, hasDict := true, slotNames := sn, subclasses := sub, abstract := ab, collection := col, hasDel := false } := by unfold clsIn; rw [hC] <;> rfl
  obtain ⟨pl, he⟩ := hE L cda cc
  refine ks_wpAt_Expr_any (ks_wpAt_MethodCall (pl := pl) ?_ he)
  refine ks_wpAt_super_base (env := ksEnv qual (scN ns) L fI (.ref cda) cc) T.hks T.hkc (by decide) rfl (X _ _ ho) rfl har rfl (X _ _ hcode) rfl hvs hfile T.top ?_
  refine ks_loadName_global rfl T.hks (loadGlobal_builtin (env := ksEnv qual (scN ns) L fI (.ref cda) cc) G.g G.no G.b G.su ⟨rfl, ?_⟩)
  refine wpAny_loadName_free rfl T.hkc rfl ⟨_, X _ _ hcc, rfl⟩ ?_
  rw [hself]
  refine wpAny_loadName_local rfl T.hka hn hv ?_
  refine ks_wpAny_isType_cls (X _ _ hC) rfl ⟨rfl, ?_⟩
  have hxC : x ≠ C := fun z => by
    have := X _ _ hC
    rw [← z, hx] at this
    cases this
  refine ks_wpAny_call_super (X _ _ hC) rfl hx rfl (fun c e => by cases e) (looks_mroIn X T.me) (fun h1 e1 k1 => ?_)
  have X1 : K.In h1 := X.keeps k1
  have hx1 := k1 _ _ hx
  have I1 : InstAt h1 x (excO C t0) C none := ⟨hx1, rfl, rfl, trivial⟩
  have hm : alongIn K "__init__" (((Value.ref C :: bm).dropWhile (· != .ref C)).drop 1) = some (some (.builtin initId)) := by
    have := hsup
    unfold ks_superIn at this
    rw [hcl] at this
    exact this
  refine kxs_getMethod eb.kx e1 (looks_opaque X1 T.opq) (l₀ := .ref C :: bm) (fun A Q E s k q => wpAny_bind ((looks_clsIn X1 hcl) A _ E s k (wpAny_pure q))) rfl X1 hm (I1.type.andThen (looks_subIn X1 hsubB)) hxC (by decide) ?_
  have hu : (h1.push (kxs_mw initId x)).get? h1.objs.size = some (kxs_mw initId x) := Heap.get?_push_at rfl rfl
  have k2' : ∀ b o, hp.get? b = some o → (h1.push (kxs_mw initId x)).get? b = some o := fun b o e => Heap.get?_push_of_some _ (k1 b o e)
  refine kxs_callWith (i := initId) (x := x) (by rfl) (evalArgs_plain (spliced_more (wpAny_Constant_str (spliced_none ⟨hu, ?_⟩)) (by rfl)))
  refine call_mw eb.F (k2' _ _ (X _ _ hC)) (k2' _ _ hx) hu (by rw [sizeLine_eq]; show 1 ≤ _; decide) fun h' t1 k3 e3 => hq h' _ t1 (fun b o hb e => k3 b o hb (k2' b o e)) e3
end
end Xe
end PySem

set_option Elab.async false
set_option linter.all false
set_option maxRecDepth 100000
set_option maxHeartbeats 4000000
/-! The walk of such an __init__, whole. -/
namespace PySem
namespace Xe
open PySem.W PySem.Calls PyProof.Rows PySem.HandSPX
def body1 (msg f code : Str) (k5 k6 : Nat) (p0 p1 p2 p3 p4 p5 q1 q2 q3 q4 r1 r2 r3 r4 : Pos) : List Stmt := initB msg k5 p0 p1 p2 p3 p4 p5 [.Assign [.Attribute (.Name "self" q1) f q2] (.Name f q3) q4, .Assign [.Attribute (.Name "self" r1) "code" r2] (.Constant (.str code) k6 r3) r4]
def body0 (msg code : Str) (k5 k6 : Nat) (p0 p1 p2 p3 p4 p5 r1 r2 r3 r4 : Pos) : List Stmt := initB msg k5 p0 p1 p2 p3 p4 p5 [.Assign [.Attribute (.Name "self" r1) "code" r2] (.Constant (.str code) k6 r3) r4]
theorem kept_but {K : Frag} {h h' : Heap} {x : Addr} (X : K.In h) (hx : K.lookup x = none) (k : ∀ b o, b ≠ x → h.get? b = some o → h'.get? b = some o) : K.In h' := fun a o e =>
  k a o (fun z => by rw [z, hx] at e; cases e) (X a o e)
theorem ns_but {h h' : Heap} {L x : Addr} {m : Str → Option Value} (hn : h.Ns L m) (hne : L ≠ x) (k : ∀ b o, b ≠ x → h.get? b = some o → h'.get? b = some o) : h'.Ns L m := by
  obtain ⟨oL, es, ep, hL, r⟩ := hn
  exact ⟨oL, es, ep, k _ _ hne hL, r⟩
def SwEv (qual : Str) (ns : List (Str × NameKind)) (fI : Addr) (e : Expr) (tg : Expr) (l : Nat) : Prop := ∀ L cda cc : Addr, swapsWith e (some tg) l (ksEnv qual (scN ns) L fI (.ref cda) cc) = pure false
theorem ldK {M : Model} {A : Around} {E : Value → Shared → Prop} {s : Shared} {qual : Str} {ns : List (Str × NameKind)} {L fI cda cc : Addr} {m : Str → Option Value} {x : Str} {pos : Pos} {v : Value} {Q : Value → Shared → Prop} (hl : ns.lookup x = some .local) (hd : (x == ("__debug__" : Str)) = false) (hn : s.heap.Ns L m) (hv : m x = some v) (h : Q v s) :
    wpAny M A (eval (.Name x pos) (ksEnv qual (scN ns) L fI (.ref cda) cc)) Q E s := wpAny_Name (wpAny_loadName_local rfl hl hn hv h) hd
section
variable {prog : Program} {w : World} {A : Around} {E : Value → Shared → Prop} {R : Result → Shared → Prop} {hp : Heap} {g : Array GenState} {d : Drawn} {t : Nat} {os : OsState} {K : Frag} {C fI : Addr} {qual : Str} {params : Arguments} {ns : List (Str × NameKind)} {mg mb : Str → Option Value}
  {msg f code : Str} {k5 k6 : Nat} {p0 p1 p2 p3 p4 p5 q1 q2 q3 q4 r1 r2 r3 r4 : Pos} {args : Args} {x t0 : Addr} {v : Value}
theorem err_init1 (T : ErrC prog K C fI qual params (body1 msg f code k5 k6 p0 p1 p2 p3 p4 p5 q1 q2 q3 q4 r1 r2 r3 r4) ns) (hE : SupEv qual ns fI msg k5 p0 p1 p2 p3 p5)
    (hs1 : SwEv qual ns fI (.Name f q3) (.Attribute (.Name "self" q1) f q2) q4.line) (hs2 : SwEv qual ns fI (.Constant (.str code) k6 r3) (.Attribute (.Name "self" r1) "code" r2) r4.line)
    (hlf : ns.lookup f = some .local) (hdb : (f == ("__debug__" : Str)) = false) (hfs : f ≠ "self") (hno : findIn K (.ref C) f = some none) (hnc : findIn K (.ref C) "code" = some none)
    (X : K.In hp) (G : GlobT hp mg mb) (hlim : hp.NoLimit) (hx : hp.get? x = some (excO C t0)) (hnx : K.lookup x = none) (hroom : A.depth < recursionLimit)
    (hg : mainGlobals ≠ x) (hbl : builtinsNs ≠ x)
    (hbind : ∀ doc pm an cdv ct cc s, BindsTo s (ksFn "__init__" qual params (body1 msg f code k5 k6 p0 p1 p2 p3 p4 p5 q1 q2 q3 q4 r1 r2 r3 r4) (scN ns) .none .none doc pm an cdv ct cc) args [("self", .ref x), (f, v)])
    (hq : ∀ h' tk dx t1 tc, (∀ b o, b ≠ x → hp.get? b = some o → h'.get? b = some o) → h'.get? x = some { cls := .ref C, dict := some dx, data := .fields #[.ref t1, .none, .none, .none, .bool false, .none] } → hp.objs.size ≤ dx → dx ≠ x →
      h'.Ns1 dx (fun y => if y = "code" then some (.str code tc) else if y = f then some v else none) → R (.ok (.ret .none)) ⟨h', g, d, tk, os⟩) :
    codeAny (model prog w) A (.call (.ref fI) args) R ⟨hp, g, d, t, os⟩ := by
  obtain ⟨oc, od, doc, pm, an, cda, ct, cc, osl, ccl, cdd, vs, ccs, file, tf, cl, cld, csl, ho, hcd, hcode, hvs, hfile, hcc⟩ := T.fn
  obtain ⟨B, newId, initId, tl, nm, q, N, bs, bm, sn, sub, ab, col, dd, k0, k1, k2, k3, kk5, eb, hC, hbm, hsup, hsubB⟩ := T.cls
  have hcl : clsIn K C = some { name := nm, bases := bs, mro := .ref C :: bm, ns := N, qualname := q, hasDict := true, slotNames := sn, subclasses := sub, abstract := ab, collection := col, hasDel := false } := by unfold clsIn; rw [hC] <;> rfl
  refine ks_codeAny_call_defAt (fd := ksFn "__init__" qual params (body1 msg f code k5 k6 p0 p1 p2 p3 p4 p5 q1 q2 q3 q4 r1 r2 r3 r4) (scN ns) .none .none doc pm an (.ref cda) ct cc) (body := body1 msg f code k5 k6 p0 p1 p2 p3 p4 p5 q1 q2 q3 q4 r1 r2 r3 r4) (binds := [("self", .ref x), (f, v)]) hroom (X _ _ ho) rfl hlim (codeRec_of X hcd) rfl (hbind _ _ _ _ _ _ _) T.hcell (fun y hy => ?_) (fun h₁ hn₁ k₁ => ?_) rfl rfl rfl
  · rcases List.mem_cons.mp hy with rfl | hy
    · exact T.hka
    · rcases List.mem_cons.mp hy with rfl | hy
      · exact hlf
      · cases hy
  have hsf : ("self" : Str) ≠ f := fun e => hfs e.symm
  have lk1 : ([("self", Value.ref x), (f, v)] : List (Str × Value)).reverse.lookup ("self" : Str) = some (Value.ref x) := by
    show ([(f, v), ("self", Value.ref x)] : List (Str × Value)).lookup ("self" : Str) = _
    have e : (("self" : Str) == f) = false := by simpa using hsf
    simp [List.lookup, e]
  have lk2 : ([("self", Value.ref x), (f, v)] : List (Str × Value)).reverse.lookup f = some v := by
    show ([(f, v), ("self", Value.ref x)] : List (Str × Value)).lookup f = _
    simp [List.lookup]
  have X₁ : K.In h₁ := X.keeps k₁
  have hx₁ := k₁ _ _ hx
  have hxL : hp.objs.size ≠ x := Nat.ne_of_gt (Heap.lt_size hx)
  have hLs := hn₁.lt
  refine ks_wpAt_execs_cons (super_step T X₁ (G.keeps k₁) hn₁ lk1 hx₁ ho hcode hvs hE hfile hcc fun h₂ tk₂ t1 k₂ hx₂ => ?_)
  have X₂ := kept_but X₁ hnx k₂
  have hn₂ := ns_but hn₁ hxL k₂
  show wpAt _ _ _ (execs (_ :: _) _) _ _ _
  refine ks_wpAt_execs_cons (ks_wpAt_Assign_Attr ?_ (hs1 _ _ _))
  refine wpAt_of_wpAny ?_
  refine ldK (m := fun y => ([("self", Value.ref x), (f, v)] : List (Str × Value)).reverse.lookup y) hlf hdb hn₂ lk2 ?_
  refine ldK (m := fun y => ([("self", Value.ref x), (f, v)] : List (Str × Value)).reverse.lookup y) T.hka (by decide) hn₂ lk1 ?_
  refine set_plain X₂ (ox := excO C t1) (od := none) ⟨hx₂, rfl, rfl, trivial⟩ T.sa ?_
  refine osa_new eb X₂ hx₂ hcl (show refsT tl (.ref C :: bm) = true from hbm) rfl hno (fun h₃ tk₃ dx k₃ dn dne hx₃ hn₃ => ?_)
  have X₃ := kept_but X₂ hnx k₃
  have hL₃ := ns_but hn₂ hxL k₃
  show wpAt _ _ _ (execs (_ :: _) _) _ _ _
  refine ks_wpAt_execs_cons (ks_wpAt_Assign_Attr ?_ (hs2 _ _ _))
  refine wpAt_of_wpAny ?_
  refine wpAny_Constant_str ?_
  refine ldK (m := fun y => ([("self", Value.ref x), (f, v)] : List (Str × Value)).reverse.lookup y) T.hka (by decide) hL₃ lk1 ?_
  have hw : Within (fun y => if y = f then some v else none) [f] := fun y hy => by
    by_cases e : y = f
    · exact List.mem_singleton.mpr e
    · exact absurd (if_neg e) hy
  obtain ⟨oD, esD, epD, hoD, hdD, _⟩ := hn₃.count hw
  refine set_plain X₃ (ox := { cls := .ref C, dict := some dx, data := .fields #[.ref t1, .none, .none, .none, .bool false, .none] }) (od := some oD) ⟨hx₃, rfl, rfl, hoD⟩ T.sa ?_
  refine osa_old eb X₃ hx₃ hn₃ hw (by simp) hcl (show refsT tl (.ref C :: bm) = true from hbm) rfl hnc (fun h₄ tk₄ k₄ hn₄ => ?_)
  show wpAt _ _ _ (execs [] _) _ _ _
  refine wpAt_of_wpAny (wpAny_execs_nil (hq h₄ tk₄ dx t1 _ (fun b o hb e => ?_) (k₄ _ _ (Ne.symm dne) hx₃) ?_ dne hn₄))
  · have e3 := k₃ b o hb (k₂ b o hb (k₁ b o e))
    refine k₄ b o (fun z => ?_) e3
    have l1 := Heap.lt_size (k₂ b o hb (k₁ b o e))
    rw [z] at l1
    exact absurd (Nat.lt_of_lt_of_le l1 dn) (Nat.lt_irrefl _)
  · obtain ⟨oL, _, _, hL, _⟩ := hn₂
    exact Nat.le_of_lt (Nat.lt_of_lt_of_le (Heap.lt_size hL) dn)
theorem err_init0 (T : ErrC prog K C fI qual params (body0 msg code k5 k6 p0 p1 p2 p3 p4 p5 r1 r2 r3 r4) ns) (hE : SupEv qual ns fI msg k5 p0 p1 p2 p3 p5)
    (hs2 : SwEv qual ns fI (.Constant (.str code) k6 r3) (.Attribute (.Name "self" r1) "code" r2) r4.line)
    (hnc : findIn K (.ref C) "code" = some none)
    (X : K.In hp) (G : GlobT hp mg mb) (hlim : hp.NoLimit) (hx : hp.get? x = some (excO C t0)) (hnx : K.lookup x = none) (hroom : A.depth < recursionLimit)
    (hbind : ∀ doc pm an cdv ct cc s, BindsTo s (ksFn "__init__" qual params (body0 msg code k5 k6 p0 p1 p2 p3 p4 p5 r1 r2 r3 r4) (scN ns) .none .none doc pm an cdv ct cc) args [("self", .ref x)])
    (hq : ∀ h' tk dx t1 tc, (∀ b o, b ≠ x → hp.get? b = some o → h'.get? b = some o) → h'.get? x = some { cls := .ref C, dict := some dx, data := .fields #[.ref t1, .none, .none, .none, .bool false, .none] } → hp.objs.size ≤ dx → dx ≠ x →
      h'.Ns1 dx (fun y => if y = "code" then some (.str code tc) else none) → R (.ok (.ret .none)) ⟨h', g, d, tk, os⟩) :
    codeAny (model prog w) A (.call (.ref fI) args) R ⟨hp, g, d, t, os⟩ := by
  obtain ⟨oc, od, doc, pm, an, cda, ct, cc, osl, ccl, cdd, vs, ccs, file, tf, cl, cld, csl, ho, hcd, hcode, hvs, hfile, hcc⟩ := T.fn
  obtain ⟨B, newId, initId, tl, nm, q, N, bs, bm, sn, sub, ab, col, dd, k0, k1, k2, k3, kk5, eb, hC, hbm, hsup, hsubB⟩ := T.cls
  have hcl : clsIn K C = some { name := nm, bases := bs, mro := .ref C :: bm, ns := N, qualname := q, hasDict := true, slotNames := sn, subclasses := sub, abstract := ab, collection := col, hasDel := false } := by unfold clsIn; rw [hC] <;> rfl
  refine ks_codeAny_call_defAt (fd := ksFn "__init__" qual params (body0 msg code k5 k6 p0 p1 p2 p3 p4 p5 r1 r2 r3 r4) (scN ns) .none .none doc pm an (.ref cda) ct cc) (body := body0 msg code k5 k6 p0 p1 p2 p3 p4 p5 r1 r2 r3 r4) (binds := [("self", .ref x)]) hroom (X _ _ ho) rfl hlim (codeRec_of X hcd) rfl (hbind _ _ _ _ _ _ _) T.hcell (fun y hy => ?_) (fun h₁ hn₁ k₁ => ?_) rfl rfl rfl
  · rcases List.mem_cons.mp hy with rfl | hy
    · exact T.hka
    · cases hy
  have lk1 : ([("self", Value.ref x)] : List (Str × Value)).reverse.lookup ("self" : Str) = some (Value.ref x) := by
    show ([("self", Value.ref x)] : List (Str × Value)).lookup ("self" : Str) = _
    simp [List.lookup]
  have X₁ : K.In h₁ := X.keeps k₁
  have hx₁ := k₁ _ _ hx
  have hxL : hp.objs.size ≠ x := Nat.ne_of_gt (Heap.lt_size hx)
  refine ks_wpAt_execs_cons (super_step T X₁ (G.keeps k₁) hn₁ lk1 hx₁ ho hcode hvs hE hfile hcc fun h₂ tk₂ t1 k₂ hx₂ => ?_)
  have X₂ := kept_but X₁ hnx k₂
  have hn₂ := ns_but hn₁ hxL k₂
  show wpAt _ _ _ (execs (_ :: _) _) _ _ _
  refine ks_wpAt_execs_cons (ks_wpAt_Assign_Attr ?_ (hs2 _ _ _))
  refine wpAt_of_wpAny ?_
  refine wpAny_Constant_str ?_
  refine ldK (m := fun y => ([("self", Value.ref x)] : List (Str × Value)).reverse.lookup y) T.hka (by decide) hn₂ lk1 ?_
  refine set_plain X₂ (ox := excO C t1) (od := none) ⟨hx₂, rfl, rfl, trivial⟩ T.sa ?_
  refine osa_new eb X₂ hx₂ hcl (show refsT tl (.ref C :: bm) = true from hbm) rfl hnc (fun h₃ tk₃ dx k₃ dn dne hx₃ hn₃ => ?_)
  show wpAt _ _ _ (execs [] _) _ _ _
  refine wpAt_of_wpAny (wpAny_execs_nil (hq h₃ tk₃ dx t1 _ (fun b o hb e => k₃ b o hb (k₂ b o hb (k₁ b o e))) hx₃ ?_ dne hn₃))
  obtain ⟨oL, _, _, hL, _⟩ := hn₂
  exact Nat.le_of_lt (Nat.lt_of_lt_of_le (Heap.lt_size hL) dn)
end
end Xe
end PySem

set_option Elab.async false
set_option linter.all false
set_option maxRecDepth 100000
set_option maxHeartbeats 4000000
/-! Such a class called, with one keyword too. -/
namespace PySem
namespace Xe
open PySem.W PySem.Calls PyProof.Rows PySem.HandSPX
section
variable {prog : Program} {w : World} {A : Around} {E : Value → Shared → Prop} {R : Result → Shared → Prop} {h : Heap} {g : Array GenState} {d : Drawn} {t : Nat} {os : OsState} {M : Model}
variable {nm q : Str} {C N : Addr} {bs bm bmB : List Value} {hdct : Bool} {sn : List Str} {sub : List Value} {ab : Bool} {col : Option Bool} {dd : Option Addr} {k0 k1 k2 k3 k5 : Option Value} {B newId initId : String} {kf : Str} {kv : Value}
theorem check_new_kw (F : ExcBaseFacts B newId initId bmB) (hT : ∀ X : String, bm.contains (.type X) = bmB.contains (.type X)) {Q : Unit → Shared → Prop}
    (hC : h.get? C = some (excClassObj nm q C N bs bm hdct sn sub ab col dd k0 k1 k2 k3 k5 newId)) (hq : Q () ⟨h, g, d, t, os⟩) : wpAny M A (checkBuiltinCall newId ⟨[.ref C], [(kf, kv)]⟩) Q E ⟨h, g, d, t, os⟩ := by
  have hcont : (Value.ref C :: bm).contains (.type B) = true := by rw [List.contains_cons, hT, F.hasB, Bool.or_true]
  have hstar := F.noStar
  simp only [checkBuiltinCall, F.newKind, F.newSplit, F.newRow]
  repeat (first | refine wpAny_loadPart_at hC ?_ | (refine wpAny_isSubtype_exc hC ?_; rw [hcont]) | refine wpAny_staticBase_exc hC ?_ | refine wpAny_madeBy_exc hC ?_ | simp only [bne_self_eq_false, Bool.false_eq_true, if_false] | wp_step)
  exact hq
theorem new_kw (F : ExcBaseFacts B newId initId bmB) (hT : ∀ X : String, bm.contains (.type X) = bmB.contains (.type X))
    (hC : h.get? C = some (excClassObj nm q C N bs bm hdct sn sub ab col dd k0 k1 k2 k3 k5 newId))
    (hq : R (.ok (.ret (.ref (h.objs.size + 1)))) ⟨(h.push { cls := .type "tuple", data := .seq #[] }).push
      { cls := .ref C, data := .fields #[.ref h.objs.size, .none, .none, .none, .bool false, .none] }, g, d, t, os⟩) :
    codeAny (model prog w) A (.builtin newId ⟨[.ref C], [(kf, kv)]⟩) R ⟨h, g, d, t, os⟩ := by
  have hends := F.ends
  have hcB : (Value.ref C :: bm).contains (.type B) = true := by rw [List.contains_cons, hT, F.hasB, Bool.or_true]
  have hcA : (Value.ref C :: bm).contains (.type "AttributeError") = false := by rw [List.contains_cons, hT, F.noAttr]; rfl
  have hcN : (Value.ref C :: bm).contains (.type "NameError") = false := by rw [List.contains_cons, hT, F.noName]; rfl
  refine codeAny_builtinAt F.entry ?_
  unfold Builtin.«BaseException.__new__»
  refine wpAt_bind ?_
  show wpAt _ _ _ (stack >>= _) _ _ _
  refine wpAt_bind (wpAt_stack fun p below => wpAt_of_wpAny ?_)
  wp_walk
  refine wpAt_of_wpAny ?_
  rw [F.owner]
  repeat (first | with_reducible refine wpAny_madeHere_exc F.canon hC ?_ | with_reducible refine wpAny_loadPart_at hC ?_ | (with_reducible refine wpAny_isSubtype_exc hC ?_; first | rw [hcB] | rw [hcA] | rw [hcN]) | wp_step)
  show R _ _
  rw [Heap.size_push]
  exact hq
theorem type_call_kw (F : ExcBaseFacts B newId initId bmB) (hT : ∀ X : String, bm.contains (.type X) = bmB.contains (.type X)) {fI : Addr} {Q : Fin → Shared → Prop}
    (hC : h.get? C = some (excClassObj nm q C N bs bm hdct sn sub ab col dd k0 k1 k2 k3 k5 newId))
    (hi : Looks (model prog w) h (typeLookup (.ref C) "__init__") (some (.ref fI))) (hb : ∀ self, Looks (model prog w) h (bindSpecial (.ref fI) self) (.ref fI, [self]))
    (hq : codeAny (model prog w) A (.call (.ref fI) ⟨[.ref (h.objs.size + 1)], [(kf, kv)]⟩)
      (fun r s' => match r with | .ok (.ret v) => v = .none ∧ Q (.done (.ret (.ref (h.objs.size + 1)))) s' | .ok _ => False | .error e => E e s')
      ⟨(h.push (kdv_tup [])).push (excO C h.objs.size), g, d, t, os⟩) :
    wpAny (model prog w) A (Builtin.«type.__call__» ⟨[.ref C], [(kf, kv)]⟩) Q E ⟨h, g, d, t, os⟩ := by
  repeat (first | with_reducible refine wpAny_loadPart_at hC ?_ | with_reducible refine wpAny_madeBy_exc hC ?_ | wp_step)
  refine codeAny_call_builtin_code (Code.quiet_builtin _ F.quiet) (check_new_kw F hT hC ?_)
  refine new_kw F hT hC ?_
  show wpAny _ _ _ _ _ _
  have k : ∀ b o, h.get? b = some o → ((h.push (kdv_tup [])).push (excO C h.objs.size)).get? b = some o := fun b o e => Heap.get?_push_of_some _ (Heap.get?_push_of_some _ e)
  have hC₁ := k _ _ hC
  have hget : ((h.push (kdv_tup [])).push (excO C h.objs.size)).get? (h.objs.size + 1) = some (excO C h.objs.size) := by heap_get
  have hcC : (Value.ref C :: bm).contains (.ref C) = true := by simp
  have i1 := hi.keeps k
  have b1 := (hb (.ref (h.objs.size + 1))).keeps k
  unfold isInstance
  repeat (first | with_reducible refine wpAny_loadPart_at hget ?_ | (with_reducible refine wpAny_isSubtype_exc hC₁ ?_; rw [hcC]) | wp_step)
  show wpAny _ _ (typeLookup (.ref C) _) _ _ _
  refine i1.at ?_
  refine wpAny_holding (wpAny_bind (b1.at ?_))
  refine wpAny_bind (wpAny_call (codeAny_mono hq fun r s' z => ?_))
  rcases r with e | (v | _ | _ | _) <;> first | exact z | exact z.elim | skip
  obtain ⟨rfl, z⟩ := z
  first
    | exact wpAny_pure (wpAny_pure z)
    | (wp_walk; exact z)
theorem check_type_call_kw {Q : Unit → Shared → Prop} (hC : h.get? C = some (excClassObj nm q C N bs bm hdct sn sub ab col dd k0 k1 k2 k3 k5 newId))
    (hq : Q () ⟨h, g, d, t, os⟩) : wpAny M A (checkBuiltinCall "type.__call__" ⟨[.ref C], [(kf, kv)]⟩) Q E ⟨h, g, d, t, os⟩ := by
  have f3 := tc_sub
  have hT : (⟨h, g, d, t, os⟩ : Shared).TypeIs (.ref C) "type" := ⟨_, hC, rfl⟩
  simp only [checkBuiltinCall, tc_kind, tc_split]
  repeat (any_goals (first | assumption | with_reducible refine wpAny_loadPart_at hC ?_ | with_reducible refine wpAny_onRaise ?_ | with_reducible refine wpAny_map ?_ | wp_step))
theorem call_kw (F : ExcBaseFacts B newId initId bmB) (hT : ∀ X : String, bm.contains (.type X) = bmB.contains (.type X)) {fI : Addr}
    (hC : h.get? C = some (excClassObj nm q C N bs bm hdct sn sub ab col dd k0 k1 k2 k3 k5 newId))
    (hi : Looks (model prog w) h (typeLookup (.ref C) "__init__") (some (.ref fI))) (hb : ∀ self, Looks (model prog w) h (bindSpecial (.ref fI) self) (.ref fI, [self]))
    (hq : codeAny (model prog w) (A.under (.builtin "type.__call__" ⟨[.ref C], [(kf, kv)]⟩)) (.call (.ref fI) ⟨[.ref (h.objs.size + 1)], [(kf, kv)]⟩) (InitBack (h.objs.size + 1) R)
      ⟨(h.push (kdv_tup [])).push (excO C h.objs.size), g, d, t, os⟩) :
    codeAny (model prog w) A (.call (.ref C) ⟨[], [(kf, kv)]⟩) R ⟨h, g, d, t, os⟩ := by
  have f1 := tc_lookup
  have f2 := tc_bind (.ref C)
  have hTy : (⟨h, g, d, t, os⟩ : Shared).TypeIs (.ref C) "type" := ⟨_, hC, rfl⟩
  refine codeAny_of_tree ?_
  show wpAny _ _ (callAny (.ref C) _) _ _ _
  repeat (any_goals (first | assumption | with_reducible refine wpAny_loadPart_at hC ?_ | wp_step))
  refine ⟨rfl, ?_⟩
  refine codeAny_call_builtin_at (Code.quiet_builtin _ (by decide +kernel)) entry_typeCall (check_type_call_kw hC (type_call_kw F hT hC hi hb ?_))
  refine codeAny_mono hq fun r s' z => ?_
  rcases r with e | (v | _ | _ | _) <;> exact z
end
end Xe
end PySem

set_option Elab.async false
set_option linter.all false
set_option maxRecDepth 100000
set_option maxHeartbeats 4000000
/-! Own errors as values: made, their fields read, isinstance asked. -/
namespace L2
open PySem PySem.Spec PyProof.Rows
open PySem.W (ks_superIn ksFn)
section
variable {X : Cx} {pins : List (Addr × Obj)} {σ : St} {H : Hp} {hp h' : Heap} {g : Array GenState} {d : Drawn} {t t' : Nat} {os : OsState} {e dx C t1 : Addr} {mA : Str → Option Value} {fs : List (Str × V)}
theorem made_inv (I : Inv X pins σ H ⟨hp, g, d, t, os⟩) (k : ∀ b o, hp.get? b = some o → h'.get? b = some o) (he : hp.objs.size ≤ e) (hd : hp.objs.size ≤ dx) (hne : dx ≠ e)
    (hoe : h'.get? e = some ({ cls := .ref C, dict := some dx, data := .fields #[.ref t1, .none, .none, .none, .bool false, .none] } : Obj)) (hns : h'.Ns1 dx mA) (r : ∀ f, RelO (fs.lookup f) (mA f)) :
    Inv X pins σ (upd (upd H dx (exd dx fs)) e (exo e C (some dx))) ⟨h', g, d, t', os⟩ := by
  have hnd : H dx = none := I.hok.fresh hd
  have hn : H e = none := I.hok.fresh he
  have ne : ∀ {b : Addr} {o : Obj}, hp.get? b = some o → b ≠ e := fun {b o} q => Nat.ne_of_lt (Nat.lt_of_lt_of_le (Heap.lt_size q) he)
  have nd : ∀ {b : Addr} {o : Obj}, hp.get? b = some o → b ≠ dx := fun {b o} q => Nat.ne_of_lt (Nat.lt_of_lt_of_le (Heap.lt_size q) hd)
  have Un1 : Un X.fs [] H (upd (upd H dx (exd dx fs)) e (exo e C (some dx))) hp h' := {
    keep := fun b o q n _ _ => k b o q
    slot := fun b o q n _ _ => ⟨o.slots, k b o q⟩
    free := fun b o q n _ => by rw [upd_ne (ne q), upd_ne (nd q)]; exact n
    there := fun b o q _ => ⟨o, k b o q⟩
    tups := fun b xs q => by rw [upd_ne (ne_of_none q hn), upd_ne (ne_of_none q hnd)]; exact q
    frzs := fun b o v q => by rw [upd_ne (ne_of_none q hn), upd_ne (ne_of_none q hnd)]; exact q
    tbls := fun b ps q => ⟨#[], by rw [upd_ne (ne_of_none q hn), upd_ne (ne_of_none q hnd), q]; simp⟩ }
  refine I.un (t' := t') Un1 fun b o q => ?_
  by_cases hb : b = e
  · subst hb
    rw [upd_same] at q
    cases q
    exact exo_ok hoe
  · rw [upd_ne hb] at q
    by_cases hd2 : b = dx
    · subst hd2
      rw [upd_same] at q
      cases q
      exact exd_ok hns r
    · rw [upd_ne hd2] at q
      exact (I.hok b o q).stay (fun c v hc z => k c v z)
        (fun c hc => by rw [upd_ne (ne_of_none hc hn), upd_ne (ne_of_none hc hnd)]; exact hc) (fun c xs hc => by rw [upd_ne (ne_of_none hc hn), upd_ne (ne_of_none hc hnd)]; exact hc)
end
/-- the class at C, named x: C(v) has the field f and the code -/
structure Err1 (P : Program) (K : PySem.W.Frag) (mg : Str → Option Value) (x : Str) (C : Addr) (f code : Str) : Prop where
  gm : mg x = some (.ref C)
  ex : ∃ fI qual params ns msg k5 k6 p0 p1 p2 p3 p4 p5 q1 q2 q3 q4 r1 r2 r3 r4, Xe.ErrC P K C fI qual params (Xe.body1 msg f code k5 k6 p0 p1 p2 p3 p4 p5 q1 q2 q3 q4 r1 r2 r3 r4) ns ∧ Xe.SupEv qual ns fI msg k5 p0 p1 p2 p3 p5 ∧
    Xe.SwEv qual ns fI (.Name f q3) (.Attribute (.Name "self" q1) f q2) q4.line ∧ Xe.SwEv qual ns fI (.Constant (.str code) k6 r3) (.Attribute (.Name "self" r1) "code" r2) r4.line ∧
    ns.lookup f = some .local ∧ (f == ("__debug__" : Str)) = false ∧ f ≠ "self" ∧ f ≠ "code" ∧ PySem.W.findIn K (.ref C) f = some none ∧ PySem.W.findIn K (.ref C) "code" = some none ∧
    (∀ doc pm an cdv ct cc s z v, BindsTo s (ksFn "__init__" qual params (Xe.body1 msg f code k5 k6 p0 p1 p2 p3 p4 p5 q1 q2 q3 q4 r1 r2 r3 r4) (Xe.scN ns) .none .none doc pm an cdv ct cc) ⟨[.ref z, v], []⟩ [("self", .ref z), (f, v)]) ∧
    (∀ doc pm an cdv ct cc s z v, BindsTo s (ksFn "__init__" qual params (Xe.body1 msg f code k5 k6 p0 p1 p2 p3 p4 p5 q1 q2 q3 q4 r1 r2 r3 r4) (Xe.scN ns) .none .none doc pm an cdv ct cc) ⟨[.ref z], [(f, v)]⟩ [("self", .ref z), (f, v)])
structure Err0 (P : Program) (K : PySem.W.Frag) (mg : Str → Option Value) (x : Str) (C : Addr) (code : Str) : Prop where
  gm : mg x = some (.ref C)
  ex : ∃ fI qual params ns msg k5 k6 p0 p1 p2 p3 p4 p5 r1 r2 r3 r4, Xe.ErrC P K C fI qual params (Xe.body0 msg code k5 k6 p0 p1 p2 p3 p4 p5 r1 r2 r3 r4) ns ∧ Xe.SupEv qual ns fI msg k5 p0 p1 p2 p3 p5 ∧
    Xe.SwEv qual ns fI (.Constant (.str code) k6 r3) (.Attribute (.Name "self" r1) "code" r2) r4.line ∧ PySem.W.findIn K (.ref C) "code" = some none ∧
    (∀ doc pm an cdv ct cc s z, BindsTo s (ksFn "__init__" qual params (Xe.body0 msg code k5 k6 p0 p1 p2 p3 p4 p5 r1 r2 r3 r4) (Xe.scN ns) .none .none doc pm an cdv ct cc) ⟨[.ref z], []⟩ [("self", .ref z)])
def tMkX1 (C : Addr) (f code : Str) (ta : TA) : TE := fun σ H Q => ta σ H fun vs H1 => ∃ v, vs = [v] ∧ ∀ e dx, H1 e = none → H1 dx = none → dx ≠ e → Q (.ref e) (upd (upd H1 dx (exd dx [("code", .str code), (f, v)])) e (exo e C (some dx)))
def tMkX0 (C : Addr) (code : Str) : TE := fun σ H Q => ∀ e dx, H e = none → H dx = none → dx ≠ e → Q (.ref e) (upd (upd H dx (exd dx [("code", .str code)])) e (exo e C (some dx)))
theorem lookup2 {f c : Str} (hf : f ≠ c) (a b : V) (y : Str) : ([(c, a), (f, b)] : List (Str × V)).lookup y = if y = c then some a else if y = f then some b else none := by
  rw [lookup_put, lookup_put]
  rfl
section
variable {X : Cx} {x : Str} {C : Addr} {f code : Str} {p pos : Pos} {a : Expr} {ta : TA} {k : Nat}
theorem globT {pins : List (Addr × Obj)} {σ : St} {H : Hp} {s : Shared} (I : Inv X pins σ H s) (hsu : X.mg "super" = none) : ∃ mb, Xe.GlobT s.heap X.mg mb := by
  obtain ⟨mb, h1, h2⟩ := I.mod.blt
  exact ⟨mb, I.mod.glob.keeps I.bk, hsu, h1.keeps I.bk, (h2 "super" (by decide)).trans Boot.«super»⟩
theorem no_new {K : PySem.W.Frag} {hp : Heap} (X : K.In hp) {n : Nat} (h : hp.objs.size ≤ n) : K.lookup n = none := by
  cases e : K.lookup n with
  | none => rfl
  | some o => exact absurd (Nat.lt_of_lt_of_le (Heap.lt_size (X _ _ e)) h) (Nat.lt_irrefl _)
/-- the object made, behind the call -/
theorem made1 {pins : List (Addr × Obj)} {σ : St} {H1 : Hp} {s1 : Shared} {v : V} {u : Value} {Q : VK} {args : Args} {fI : Addr} (hsu : X.mg "super" = none) (hr : Room k X.A) (I1 : Inv X pins σ H1 s1) (rv : RelV v u) {A' : Around} (hA : A'.depth < recursionLimit)
    {qual : Str} {params : Arguments} {ns : List (Str × NameKind)} {msg : Str} {k5 k6 : Nat} {p0 p1 p2 p3 p4 p5 q1 q2 q3 q4 r1 r2 r3 r4 : Pos} {rest : List Value} {h2 : Heap} (hh2 : h2 = (s1.heap.push (PySem.W.kdv_tup rest)).push (PySem.HandSPX.excO C s1.heap.objs.size))
    (T : Xe.ErrC X.prog X.K C fI qual params (Xe.body1 msg f code k5 k6 p0 p1 p2 p3 p4 p5 q1 q2 q3 q4 r1 r2 r3 r4) ns) (hE : Xe.SupEv qual ns fI msg k5 p0 p1 p2 p3 p5)
    (hs1 : Xe.SwEv qual ns fI (.Name f q3) (.Attribute (.Name "self" q1) f q2) q4.line) (hs2 : Xe.SwEv qual ns fI (.Constant (.str code) k6 r3) (.Attribute (.Name "self" r1) "code" r2) r4.line)
    (hlf : ns.lookup f = some .local) (hdb : (f == ("__debug__" : Str)) = false) (hfs : f ≠ "self") (hfc : f ≠ "code") (hno : PySem.W.findIn X.K (.ref C) f = some none) (hnc : PySem.W.findIn X.K (.ref C) "code" = some none)
    (hbind : ∀ doc pm an cdv ct cc s, BindsTo s (ksFn "__init__" qual params (Xe.body1 msg f code k5 k6 p0 p1 p2 p3 p4 p5 q1 q2 q3 q4 r1 r2 r3 r4) (Xe.scN ns) .none .none doc pm an cdv ct cc) args [("self", .ref (s1.heap.objs.size + 1)), (f, u)])
    (q : ∀ e dx, H1 e = none → H1 dx = none → dx ≠ e → Q (.ref e) (upd (upd H1 dx (exd dx [("code", .str code), (f, v)])) e (exo e C (some dx)))) {R : Result → Shared → Prop} (hR : ∀ s', EP X pins σ Q (.ref (s1.heap.objs.size + 1)) s' → R (.ok (.ret .none)) s') :
    codeAny (model X.prog X.w) A' (.call (.ref fI) args) R { s1 with heap := h2 } := by
  subst hh2
  obtain ⟨mb, G⟩ := globT I1 hsu
  obtain ⟨hp, g, dr, tk, os⟩ := s1
  have kk : ∀ b o, hp.get? b = some o → ((hp.push (PySem.W.kdv_tup rest)).push (PySem.HandSPX.excO C hp.objs.size)).get? b = some o := fun b o e => Heap.get?_push_of_some _ (Heap.get?_push_of_some _ e)
  have hget : ((hp.push (PySem.W.kdv_tup rest)).push (PySem.HandSPX.excO C hp.objs.size)).get? (hp.objs.size + 1) = some (PySem.HandSPX.excO C hp.objs.size) := by heap_get
  have hsz : hp.objs.size ≤ hp.objs.size + 1 := Nat.le_succ _
  have hlt : ∀ {b : Addr} {m : Str → Option Value}, hp.Ns b m → b ≠ hp.objs.size + 1 := fun {b m} z => Nat.ne_of_lt (Nat.lt_succ_of_lt z.lt)
  refine Xe.err_init1 (mg := X.mg) (mb := mb) T hE hs1 hs2 hlf hdb hfs hno hnc (I1.kIn.keeps kk) (G.keeps kk) (I1.nolimit.keeps kk) hget (no_new I1.kIn hsz) hA (hlt G.g) (hlt G.b) hbind fun h' tk' dx t1 tc k' hx dn dne hns => hR _ ?_
  have k2 : ∀ b o, hp.get? b = some o → h'.get? b = some o := fun b o e => k' b o (Nat.ne_of_lt (Nat.lt_succ_of_lt (Heap.lt_size e))) (kk b o e)
  have z : hp.objs.size + 1 + 1 ≤ dx := by
    first
      | (simpa only [Heap.size_push] using dn)
      | exact dn
      | (have q := dn; rw [Heap.size_push, Heap.size_push] at q; exact q)
  have dn2 : hp.objs.size ≤ dx := Nat.le_trans (Nat.le_trans (Nat.le_succ _) (Nat.le_succ _)) z
  refine ⟨.ref (hp.objs.size + 1), _, made_inv (t' := tk') (fs := [("code", .str code), (f, v)]) I1 k2 hsz dn2 dne hx hns fun y => ?_, rfl, q _ _ (I1.hok.fresh hsz) (I1.hok.fresh dn2) dne⟩
  rw [lookup2 hfc]
  by_cases h1 : y = "code"
  · rw [if_pos h1, if_pos h1]; first | exact rfl | exact ⟨_, rfl⟩
  · rw [if_neg h1, if_neg h1]
    by_cases h2 : y = f
    · rw [if_pos h2, if_pos h2]; exact rv
    · rw [if_neg h2, if_neg h2]; trivial
theorem made0 {pins : List (Addr × Obj)} {σ : St} {H1 : Hp} {s1 : Shared} {Q : VK} {args : Args} {fI : Addr} (hsu : X.mg "super" = none) (I1 : Inv X pins σ H1 s1) {A' : Around} (hA : A'.depth < recursionLimit)
    {qual : Str} {params : Arguments} {ns : List (Str × NameKind)} {msg : Str} {k5 k6 : Nat} {p0 p1 p2 p3 p4 p5 r1 r2 r3 r4 : Pos} {rest : List Value} {h2 : Heap} (hh2 : h2 = (s1.heap.push (PySem.W.kdv_tup rest)).push (PySem.HandSPX.excO C s1.heap.objs.size))
    (T : Xe.ErrC X.prog X.K C fI qual params (Xe.body0 msg code k5 k6 p0 p1 p2 p3 p4 p5 r1 r2 r3 r4) ns) (hE : Xe.SupEv qual ns fI msg k5 p0 p1 p2 p3 p5)
    (hs2 : Xe.SwEv qual ns fI (.Constant (.str code) k6 r3) (.Attribute (.Name "self" r1) "code" r2) r4.line) (hnc : PySem.W.findIn X.K (.ref C) "code" = some none)
    (hbind : ∀ doc pm an cdv ct cc s, BindsTo s (ksFn "__init__" qual params (Xe.body0 msg code k5 k6 p0 p1 p2 p3 p4 p5 r1 r2 r3 r4) (Xe.scN ns) .none .none doc pm an cdv ct cc) args [("self", .ref (s1.heap.objs.size + 1))])
    (q : ∀ e dx, H1 e = none → H1 dx = none → dx ≠ e → Q (.ref e) (upd (upd H1 dx (exd dx [("code", .str code)])) e (exo e C (some dx)))) {R : Result → Shared → Prop} (hR : ∀ s', EP X pins σ Q (.ref (s1.heap.objs.size + 1)) s' → R (.ok (.ret .none)) s') :
    codeAny (model X.prog X.w) A' (.call (.ref fI) args) R { s1 with heap := h2 } := by
  subst hh2
  obtain ⟨mb, G⟩ := globT I1 hsu
  obtain ⟨hp, g, dr, tk, os⟩ := s1
  have kk : ∀ b o, hp.get? b = some o → ((hp.push (PySem.W.kdv_tup rest)).push (PySem.HandSPX.excO C hp.objs.size)).get? b = some o := fun b o e => Heap.get?_push_of_some _ (Heap.get?_push_of_some _ e)
  have hget : ((hp.push (PySem.W.kdv_tup rest)).push (PySem.HandSPX.excO C hp.objs.size)).get? (hp.objs.size + 1) = some (PySem.HandSPX.excO C hp.objs.size) := by heap_get
  have hsz : hp.objs.size ≤ hp.objs.size + 1 := Nat.le_succ _
  refine Xe.err_init0 (mg := X.mg) (mb := mb) T hE hs2 hnc (I1.kIn.keeps kk) (G.keeps kk) (I1.nolimit.keeps kk) hget (no_new I1.kIn hsz) hA hbind fun h' tk' dx t1 tc k' hx dn dne hns => hR _ ?_
  have k2 : ∀ b o, hp.get? b = some o → h'.get? b = some o := fun b o e => k' b o (Nat.ne_of_lt (Nat.lt_succ_of_lt (Heap.lt_size e))) (kk b o e)
  have z : hp.objs.size + 1 + 1 ≤ dx := by
    first
      | (simpa only [Heap.size_push] using dn)
      | exact dn
      | (have q := dn; rw [Heap.size_push, Heap.size_push] at q; exact q)
  have dn2 : hp.objs.size ≤ dx := Nat.le_trans (Nat.le_trans (Nat.le_succ _) (Nat.le_succ _)) z
  refine ⟨.ref (hp.objs.size + 1), _, made_inv (t' := tk') (fs := [("code", .str code)]) I1 k2 hsz dn2 dne hx hns fun y => ?_, rfl, q _ _ (I1.hok.fresh hsz) (I1.hok.fresh dn2) dne⟩
  rw [lookup_put]
  by_cases h1 : y = "code"
  · rw [if_pos h1, if_pos h1]; first | exact rfl | exact ⟨_, rfl⟩
  · rw [if_neg h1, if_neg h1]; trivial
theorem one_size (v : Value) : [v].length ≤ PySem.sizeLine := by
  rw [sizeLine_eq]
  exact (by decide : 1 ≤ 16777216)
/-- C(e) -/
theorem pe_mkX1 (T : Err1 X.prog X.K X.mg x C f code) (hr : Room k X.A) (hg : Gl X x) (hsu : X.mg "super" = none) (ha : PA X (a :: []) ta) (hdb : (x == ("__debug__" : Str)) = false := by decide)
    (he : starEach (a :: []) X.env = (false, eval a X.env) :: starEach [] X.env := by rfl) (hpl : (backTo pos (starEach [] X.env)).any (·.1) = false := by rfl) : PE X (.Call (.Name x p) (a :: []) [] pos) (tMkX1 C f code ta) := by
  refine ⟨fun pins s σ H Q I h => ?_⟩
  obtain ⟨fI, qual, params, ns, msg, k5, k6, p0, p1, p2, p3, p4, p5, q1, q2, q3, q4, r1, r2, r3, r4, TC, hE, hs1, hs2, hlf, hdf, hfs, hfc, hno, hnc, hb1, hb2⟩ := T.ex
  obtain ⟨B, newId, initId, tl, nm, q, N, bs, bm, sn, sub, ab, col, dd, k0, k1, k2, k3, kk5, eb, hC, hbm, hsup, hsubB⟩ := TC.cls
  refine wpAny_Call_Name_kw (ld_glob I hg T.gm ?_ hdb)
  refine PySem.W.callWith_K (h₀ := X.base) I.ok.mod.kin TC.kC (thn (ha.run pos pins s σ H _ I h) fun us s1 ⟨vs, H1, I1, rr, v, ev, q1⟩ => ⟨I1.kIn, ?_⟩) he hpl
  subst ev
  cases rr with
  | @cons _ v' _ us' rv rn =>
    cases rn
    show wpAny _ _ (call (.ref C) [v']) _ _ _
    have hI1 := I1
    obtain ⟨hp, g, dr, tk, os⟩ := s1
    refine wpAny_call (PySem.HandSPX.call_own eb.F (fun Y => Xe.refsT_contains Y bm hbm) (I1.kIn _ _ hC) (PySem.W.looks_findIn I1.kIn TC.iC) (fun self => PySem.W.bind_fn I1.kIn self TC.tC) (one_size v') ?_)
    exact made1 hsu hr hI1 rv (by have := hr.dp; show X.A.depth + 1 < _; omega) rfl TC hE hs1 hs2 hlf hdf hfs hfc hno hnc (fun doc pm an cdv ct cc s => hb1 _ _ _ _ _ _ _ _ _) q1 fun s' z => ⟨rfl, z⟩
/-- C() -/
theorem pe_mkX0 (T : Err0 X.prog X.K X.mg x C code) (hr : Room k X.A) (hg : Gl X x) (hsu : X.mg "super" = none) (hdb : (x == ("__debug__" : Str)) = false := by decide) : PE X (.Call (.Name x p) [] [] pos) (tMkX0 C code) := by
  refine ⟨fun pins s σ H Q I h => ?_⟩
  obtain ⟨fI, qual, params, ns, msg, k5, k6, p0, p1, p2, p3, p4, p5, r1, r2, r3, r4, TC, hE, hs2, hnc, hb1⟩ := T.ex
  obtain ⟨B, newId, initId, tl, nm, q, N, bs, bm, sn, sub, ab, col, dd, k0, k1, k2, k3, kk5, eb, hC, hbm, hsup, hsubB⟩ := TC.cls
  refine wpAny_Call_Name_kw (ld_glob I hg T.gm ?_ hdb)
  refine PySem.W.callWith_K0 I.kIn TC.kC ?_
  show wpAny _ _ (call (.ref C) []) _ _ _
  have hI1 := I
  obtain ⟨hp, g, dr, tk, os⟩ := s
  refine wpAny_call (PySem.HandSPX.call_own eb.F (fun Y => Xe.refsT_contains Y bm hbm) (I.kIn _ _ hC) (PySem.W.looks_findIn I.kIn TC.iC) (fun self => PySem.W.bind_fn I.kIn self TC.tC) (Nat.zero_le _) ?_)
  exact made0 hsu hI1 (by have := hr.dp; show X.A.depth + 1 < _; omega) rfl TC hE hs2 hnc (fun doc pm an cdv ct cc s => hb1 _ _ _ _ _ _ _ _) h fun s' z => ⟨rfl, z⟩
/-- C(f=e) -/
theorem pe_mkXk {kws : List Keyword} {tk : TA} (T : Err1 X.prog X.K X.mg x C f code) (hr : Room k X.A) (hg : Gl X x) (hsu : X.mg "super" = none) (hkw : PK X kws tk)
    (hall : (backToKw pos (keywordEach kws X.env)).all (·.1.isSome) = true := by rfl) (hks : (backToKw pos (keywordEach kws X.env)).filterMap (·.1) = [f] := by rfl)
    (hdb : (x == ("__debug__" : Str)) = false := by decide) (hpl : ((backTo pos (starEach [] X.env)).any (·.1) || (backToKw pos (keywordEach kws X.env)).any (·.1.isNone)) = false := by rfl) : PE X (.Call (.Name x p) [] kws pos) (tMkX1 C f code tk) := by
  refine ⟨fun pins s σ H Q I h => ?_⟩
  obtain ⟨fI, qual, params, ns, msg, k5, k6, p0, p1, p2, p3, p4, p5, q1, q2, q3, q4, r1, r2, r3, r4, TC, hE, hs1, hs2, hlf, hdf, hfs, hfc, hno, hnc, hb1, hb2⟩ := T.ex
  obtain ⟨B, newId, initId, tl, nm, q, N, bs, bm, sn, sub, ab, col, dd, k0, k1, k2, k3, kk5, eb, hC, hbm, hsup, hsubB⟩ := TC.cls
  refine wpAny_Call_Name_kw (ld_glob I hg T.gm ?_ hdb)
  refine PySem.W.callWith_KW0 (h₀ := X.base) I.mod.kin TC.kC hall (thn (hkw.run pos pins s σ H _ I h) ?_) hpl
  rintro ws s1 ⟨vs, H1, I1, rr, v, ev, q1⟩
  subst ev
  refine ⟨I1.kIn, ?_⟩
  rw [hks]
  cases rr with
  | @cons _ v' _ us' rv rn =>
    cases rn
    show wpAny _ _ (call (.ref C) [] [(f, v')]) _ _ _
    have hI1 := I1
    obtain ⟨hp, g, dr, tk, os⟩ := s1
    refine wpAny_call (Xe.call_kw eb.F (fun Y => Xe.refsT_contains Y bm hbm) (I1.kIn _ _ hC) (PySem.W.looks_findIn I1.kIn TC.iC) (fun self => PySem.W.bind_fn I1.kIn self TC.tC) ?_)
    exact made1 hsu hr hI1 rv (by have := hr.dp; show X.A.depth + 1 < _; omega) rfl TC hE hs1 hs2 hlf hdf hfs hfc hno hnc (fun doc pm an cdv ct cc s => hb2 _ _ _ _ _ _ _ _ _) q1 fun s' z => ⟨rfl, z⟩
/-- e.n, e an own error -/
def tXfv (K : PySem.W.Frag) (n : Str) (te : TE) : TE := fun σ H Q => te σ H fun x H1 => ∃ (a C dx : Addr) (fs : List (Str × V)) (v : V), x = .ref a ∧ H1 a = some (exo a C (some dx)) ∧ H1 dx = some (exd dx fs) ∧ XfC K C ∧ PySem.W.findIn K (.ref C) n = some none ∧ fs.lookup n = some v ∧ Q v H1
theorem pe_xfv {e : Expr} {te : TE} {n : Str} (he : PE X e te) (hb : attributeBase e n X.env (eval e X.env) = eval e X.env := by rfl) : PE X (.Attribute e n pos) (tXfv X.K n te) := by
  refine ⟨fun pins s σ H Q I h => ?_⟩
  refine attr_of hb (thn (he.run pins s σ H _ I h) fun u s1 hh => ?_)
  obtain ⟨x, H1, I1, rx, a, C, dx, fs, v, ex, ea, ed, T, hno, l, q⟩ := hh
  subst ex
  obtain rfl : u = Value.ref a := rx
  obtain ⟨t1, ho⟩ := exo_at I1.hok ea
  obtain ⟨mA, hns, hr⟩ := exd_at I1.hok ed
  obtain ⟨od, hod, hl⟩ := lookIn_ns hns
  obtain ⟨u, hu, ru⟩ := RelO.some_of (v := v) (o := mA n) (by rw [← l]; exact hr n)
  have J : PySem.W.InstAt s1.heap a { cls := .ref C, dict := some dx, data := .fields #[.ref t1, .none, .none, .none, .bool false, .none] } C (some od) := ⟨ho, rfl, rfl, hod⟩
  exact HandSPX.exc_get I1.kIn J T.ga T.gg T.exC (PySem.W.findObj_own T.hdC hno rfl (by rw [hl, hu])) (handed_of ru) ⟨v, H1, I1.tok _, ru, q⟩
end
end L2

set_option Elab.async false
set_option linter.all false
set_option maxRecDepth 100000
set_option maxHeartbeats 4000000
/-! isinstance of an own error; the lifts. -/
namespace PySem.W
open PySem PySem.Spec PySem.Calls PyProof.Rows
section
variable {prog : Program} {w : World} {A : Around} {E : Value → Shared → Prop} {s : Shared} {K : Frag} {x D : Addr} {ox : Obj} {od : Option Obj}
theorem findObj_dataX {C : Addr} {name : Str} {a g : Value} (hc : (clsIn K C).isSome = true) (ha : findIn K (.ref C) name = some (some a)) (hg : specialIn K a "__get__" = some (some g)) (ht : takesIn K a = some true) : findObj K C od name = some (.bind g a) := by
  obtain ⟨cd, hc⟩ := Option.isSome_iff_exists.mp hc
  unfold findObj
  rw [hc, Option.bind_some, ha, Option.bind_some]
  simp [hg, ht]
theorem kin_classX {Q : Option Value → Shared → Prop} (hga : findIn K (.ref D) "__getattribute__" = some (some (.builtin "BaseException.__getattribute__"))) (hgt : findIn K (.ref D) "__getattr__" = some none) (hsub : subIn K (.ref D) (.type "BaseException") = some true)
    (hdct : hasDictIn K D = true) (ha : findIn K (.ref D) "__class__" = some (some (.builtin "object.__class__")))
    (hn : specialIn K (.builtin "object.__class__") "__get__" = some (some (.builtin "getset_descriptor.__get__"))) (htk : takesIn K (.builtin "object.__class__") = some true) (hm : mroIn K D (.type "object") = some true)
    (X : K.In s.heap) (I : InstAt s.heap x ox D od) (h : Q (some (.ref D)) { s with toks := s.toks + 1 }) : wpAny (model prog w) A (getAttr? (.ref x) "__class__") Q E s := by
  have hf : findObj K D od "__class__" = some (.bind (.builtin "getset_descriptor.__get__") (.builtin "object.__class__")) := findObj_dataX (by obtain ⟨cd, hc, _⟩ := any_some hdct; rw [hc]; rfl) ha hn htk
  obtain ⟨hp, g, d, t, os⟩ := s
  have L0 := I.type (M := model prog w)
  have L1 := looks_findIn (M := model prog w) X hga
  have L2 := looks_findIn (M := model prog w) X hgt
  have L3 := looks_find (M := model prog w) X I hf
  have sub : Looks (model prog w) hp (isInstance (.ref x) (.type "BaseException")) true := L0.andThen (looks_subIn X hsub)
  have hx0 : (false && onTheHeap (Value.builtin "BaseException.__getattribute__")) = false := rfl
  have hx2 : (Value.builtin "BaseException.__getattribute__" == Value.builtin "object.__getattribute__") = false := by decide +kernel
  have hx1 : (onTheHeap (Value.ref D) && Value.builtin "BaseException.__getattribute__" == Value.builtin "object.__getattribute__") = false := by rw [hx2]; rfl
  unfold getAttr? getAttrBy? getAttrBy
  refine wpAny_bind (wpAny_mkText (wpAny_bind (wpAny_attempt (wpAny_holding (wpAny_bind (L0.at (wpAny_bind (L1.at ?_))))))))
  show wpAny _ _ (if (onTheHeap (Value.ref D) && Value.builtin "BaseException.__getattribute__" == Value.builtin "object.__getattribute__") = true then _ else _) _ _ _
  rw [hx1, if_neg Bool.false_ne_true]
  unfold getAttrByItsOwn hookBefore
  refine wpAny_bind ?_
  rw [if_pos (show onTheHeap (Value.ref D) = true from rfl)]
  refine L2.at ?_
  refine wpAny_bind (wpAny_attempt (wpAny_holding ?_))
  unfold callGetattribute
  rw [hx0, if_neg Bool.false_ne_true]
  unfold boundAndCalled
  rw [PySem.F.excAttr_ValueError.ga.bind (.ref x)]
  refine wpAny_bind (wpAny_pure ?_)
  show wpAny _ _ (call (.builtin "BaseException.__getattribute__") [.ref x, .str "__class__" t]) _ _ _
  refine wpAny_call (codeAny_call_builtin PySem.F.excAttr_ValueError.ga.plain PySem.F.entry_bexc_ga ?_)
  refine @check_slot (model prog w) _ _ ⟨hp, g, d, t + 1, os⟩ "BaseException.__getattribute__" "BaseException" "__getattribute__" (.ref x) [.str "__class__" t] [] _ (by decide +kernel) (by decide +kernel) sub (PySem.F.args_bexc_ga (.ref x) (.str "__class__" t)) ?_
  unfold Builtin.«object.__getattribute__»
  refine wpAny_bind (wpAny_of_eq (a := ((Value.ref x : Value), [Value.str "__class__" t])) (by first | rfl | (simp only [slotArgs]; rfl)) ?_)
  refine wpAny_bind (wpAny_pure (wpAny_bind (L0.at (wpAny_bind (L3.at ?_)))))
  show wpAny _ _ (holding [Value.builtin "object.__class__"] (call (.builtin "getset_descriptor.__get__") [.builtin "object.__class__", .ref x, .ref D]) >>= ret) _ _ _
  refine wpAny_bind (wpAny_holding (wpAny_call (class_get (s := ⟨hp, g, d, t + 1, os⟩) (ox := ox) (od := od) X I hm ?_)))
  refine wpAny_pure ?_
  show wpAny _ _ (handedOut (.ref D)) _ _ _
  rw [handedOut_of (v := .ref D) rfl]
  first
    | exact wpAny_pure (wpAny_pure h)
    | exact wpAny_pure h
    | exact wpAny_pure (wpAny_bind (wpAny_pure (wpAny_pure h)))
theorem kitx_excX (hga : findIn K (.ref D) "__getattribute__" = some (some (.builtin "BaseException.__getattribute__"))) (hgt : findIn K (.ref D) "__getattr__" = some none) (hsub : subIn K (.ref D) (.type "BaseException") = some true) (hdct : hasDictIn K D = true) (ha : findIn K (.ref D) "__class__" = some (some (.builtin "object.__class__")))
    (hn : specialIn K (.builtin "object.__class__") "__get__" = some (some (.builtin "getset_descriptor.__get__"))) (htk : takesIn K (.builtin "object.__class__") = some true) (hm : mroIn K D (.type "object") = some true) :
    KitX K (.ref x) (.ref D) (fun h => InstAt h x ox D od) where
  ty := fun _ _ _ I => I.type
  it := fun _ _ X _ => by
    obtain ⟨cdD, hcD, _⟩ := any_some hdct
    unfold clsIn at hcD
    split at hcD
    · rename_i c' d' cd' sl' ho
      intro A' Q' E' s' k q
      unfold isType loadHead
      exact wpAny_bind (wpAny_loadPart (k _ _ (X _ _ ho)) (wpAny_pure q))
    · cases hcD
  ne := fun h tp dd its n sl X htp => by
    obtain ⟨cdD, hcD, _⟩ := any_some hdct
    refine Bool.eq_false_iff.mpr fun q => ?_
    have e : D = tp := Value.ref.inj (beq_iff_eq.mp q)
    subst e
    unfold clsIn at hcD
    split at hcD
    · rename_i c' d' cd' sl' ho
      have z := (X _ _ ho).symm.trans htp
      cases z
    · cases hcD
  ca := fun X I k => kin_classX hga hgt hsub hdct ha hn htk hm X I k
end
end PySem.W
namespace L2
open PySem PySem.Spec PyProof.Rows
def rIsX (K : PySem.W.Frag) : List V → Hp → VK → Prop := fun xs H Q => ∃ (a C dx : Addr) (fs : List (Str × V)) (c : V) (cv : Value) (b : Bool), xs = [.ref a, c] ∧ H a = some (exo a C (some dx)) ∧ H dx = some (exd dx fs) ∧ ExcC K C ∧ (∀ u, RelV c u → u = cv) ∧ PySem.W.kitOne K (.ref C) cv = some b ∧ Q (.bl b) H
theorem call_isX {X : Cx} : CallR X (.builtin "isinstance") (rIsX X.K) := by
  intro pins s σ H xs us Q I r h
  obtain ⟨a, D, dx, fs, c, cv, b, rfl, ea, ed, C, hcv, e, q⟩ := h
  cases r with
  | cons rx rr =>
    cases rr with
    | cons rt rr =>
      cases rr
      cases rx
      have ec := hcv _ rt
      subst ec
      obtain ⟨t1, ho⟩ := exo_at I.hok ea
      obtain ⟨mA, hns, hr⟩ := exd_at I.hok ed
      obtain ⟨od, hod, hl⟩ := lookIn_ns hns
      have J : PySem.W.InstAt s.heap a { cls := .ref D, dict := some dx, data := .fields #[.ref t1, .none, .none, .none, .bool false, .none] } D (some od) := ⟨ho, rfl, rfl, hod⟩
      exact PySem.W.kia_one (PySem.W.kitx_excX C.hg C.hk C.hs C.hd C.ha C.hn C.ht C.hm) I.kIn J e (fun z => nomatch z) fun tk => ⟨.bl b, H, I.kept (t' := tk) fun _ _ z => z, rfl, q⟩
end L2
namespace Dl
open L2 PySem PySem.Spec PyProof.Rows RZ StX Cm
section
variable {lk : Lk} {m : Md} {K : Frag} {ta : TE} {da : DExp} {wa : TA} {aa : DArg}
/-! ### isinstance -/
abbrev XT := Str → Dt → Option Bool
def XOk (K : Frag) (tab : XT) : Prop := ∀ c D b, tab c D = some b → ExcC K (He.ga K c) ∧ ∃ cv, (∀ (G : Hp) (v : V) (u : Value), Rp K G v D → RelV v u → u = cv) ∧ PySem.W.kitOne K (.ref (He.ga K c)) cv = some b
def dIsx (tab : XT) : DFn := fun ds Q => ∃ c fs D b, ds = [.exc c fs, D] ∧ tab c D = some b ∧ Q (.bl b)
theorem o_isx {tab : XT} (hx : XOk K tab) : OpN m K (rIsX K) (dIsx tab) := by
  intro G H xs ds Qd Q s r q k
  obtain ⟨c, fs, D, b, rfl, hb, q⟩ := q
  obtain ⟨hE, cv, hcv, hk⟩ := hx c D b hb
  cases r with
  | cons a r => cases r with
    | cons e r =>
      cases r
      cases a with
      | @exc a dx _ vs _ h1 h2 hr => exact ⟨a, He.ga K c, dx, vs, _, cv, b, rfl, s _ _ h1, s _ _ h2, hE, fun u => hcv G _ u e, hk, k _ _ G H (New.refl s) (.bl b) q⟩
/-! ### fields -/
def XfOk (K : Frag) (cs : List (Str × Str)) : Prop := ∀ p ∈ cs, XfC K (He.ga K p.1) ∧ PySem.W.findIn K (.ref (He.ga K p.1)) p.2 = some none
def dXfv (cs : List (Str × Str)) (a : DExp) (n : Str) : DExp := fun ρ Q => a ρ fun x => ∃ c fs d, x = .exc c fs ∧ (c, n) ∈ cs ∧ fs.lookup n = some d ∧ Q d
theorem l_xfv {cs : List (Str × Str)} {n : Str} (hc : XfOk K cs) (ha : LiftE lk K ta da) : LiftE lk K (tXfv K n ta) (dXfv cs da n) := by
  intro G σ H ρ Qd Q R h k
  refine ha G σ H ρ _ _ R h fun x d G1 H1 n1 r1 h1 => ?_
  obtain ⟨c, fs, e, rfl, hcs, hl, q⟩ := h1
  cases r1 with
  | @exc a dx _ vs _ h2 h3 hr =>
    obtain ⟨v, h4, h5⟩ := rfs_look hr hl
    exact ⟨a, _, dx, vs, v, rfl, n1.s _ _ h2, n1.s _ _ h3, (hc _ hcs).1, (hc _ hcs).2, h4, k v e G1 H1 n1 h5 q⟩
/-! ### made -/
def dMkX1 (c f code : Str) (w : DArg) : DExp := fun ρ Q => w ρ fun ds => ∃ d, ds = [d] ∧ Q (.exc c [("code", .str code), (f, d)])
def dMkX0 (c code : Str) : DExp := fun ρ Q => Q (.exc c [("code", .str code)])
theorem exd_tbl {d : Addr} {fs : List (Str × V)} : ∀ ps, exd d fs ≠ .tbl ps := fun ps z => by unfold exd at z; cases z
theorem exo_tbl {a C : Addr} {d : Option Addr} : ∀ ps, exo a C d ≠ .tbl ps := fun ps z => by unfold exo at z; cases z
theorem new2 {G H : Hp} {e dx : Addr} {o u : HO} (s : Ex G H) (he : H e = none) (hd : H dx = none) (hne : dx ≠ e) (ho : ∀ ps, o ≠ .tbl ps) (hu : ∀ ps, u ≠ .tbl ps) : New m G H (upd (upd G dx o) e u) (upd (upd H dx o) e u) := by
  have n1 := New.one (m := m) (o := o) s hd ho
  have n2 := New.one (m := m) (o := u) n1.s (show (upd H dx o) e = none by rw [upd_ne (Ne.symm hne)]; exact he) hu
  exact n1.trans n2
theorem l_mkX1 {c f code : Str} (hw : LiftA lk K wa aa) : LiftE lk K (tMkX1 (He.ga K c) f code wa) (dMkX1 c f code aa) := by
  intro G σ H ρ Qd Q R h k
  refine hw G σ H ρ _ _ R h fun vs ds G1 H1 n1 r1 h1 => ?_
  obtain ⟨d, rfl, q⟩ := h1
  cases r1 with
  | @cons v _ _ _ a r =>
    cases r
    refine ⟨v, rfl, fun e dx he hd hne => ?_⟩
    have n2 := new2 (m := lk.m) (o := exd dx [("code", .str code), (f, v)]) (u := exo e (He.ga K c) (some dx)) n1.s he hd hne exd_tbl exo_tbl
    exact k _ _ _ _ (n1.trans n2) (.exc upd_same (by rw [upd_ne hne]; exact upd_same) (.cons (.str _) (.cons (rp_ex n2.g a) .nil))) q
theorem l_mkX0 {c code : Str} : LiftE lk K (tMkX0 (He.ga K c) code) (dMkX0 c code) := by
  intro G σ H ρ Qd Q R h k
  intro e dx he hd hne
  have n2 := new2 (m := lk.m) (o := exd dx [("code", .str code)]) (u := exo e (He.ga K c) (some dx)) R.sub he hd hne exd_tbl exo_tbl
  exact k _ _ _ _ n2 (.exc upd_same (by rw [upd_ne hne]; exact upd_same) (.cons (.str _) .nil)) h
/-! ### a list joined, still mutable -/
def dCatL (a b : DExp) : DArg := fun ρ Q => a ρ fun x => b ρ fun y => ∃ l m, x = .lst l ∧ y = .lst m ∧ l.length + m.length ≤ 100000 ∧ Q (l ++ m)
theorem l_catL {tb : TE} {db : DExp} (ha : LiftE lk K ta da) (hb : LiftE lk K tb db) : LiftEL lk K (tOp (xAdd K) ta tb) (dCatL da db) := by
  intro G σ H ρ Qd Q R h k
  refine ha G σ H ρ _ _ R h fun x d G1 H1 n1 r1 h1 => ?_
  refine hb G1 σ H1 ρ _ _ (R.new n1) h1 fun y e G2 H2 n2 r2 h2 => ?_
  obtain ⟨l, m, rfl, rfl, hl, q⟩ := h2
  cases r1 with
  | @lst a xs _ g1 ra =>
    cases r2 with
    | @lst b ys _ g2 rb =>
      refine Or.inr (Or.inr (Or.inl ⟨_, _, _, _, rfl, rfl, n2.s _ _ (n2.g _ _ g1), n2.s _ _ g2, sz5 (by rw [rps_len ra, rps_len rb]; exact hl), fun p hp => ?_⟩))
      have n := n1.trans n2
      exact k p _ _ G2 _ (n.trans (New.grow n2.s (Evl.Ex.new hp))) (n.h.back (Or.inl hp)) (Evl.fresh_back n2.s hp) upd_same (rps_app (rps_ex n2.g ra) rb) q
end
end Dl

set_option Elab.async false
set_option linter.all false
set_option maxRecDepth 100000
set_option maxHeartbeats 4000000
/-! try .. except (X, Y, Z) as n. -/
namespace L2
open PySem PySem.Spec PyProof.Rows
/-- what such a clause wishes of an exception of the body: slot i is n's -/
def wAs3 (K : PySem.W.Frag) (cs : List Value) (i : Nat) (ts : Addr → Value → Option Addr → TS) (Wout : WX) (D : Ends) : WX := fun cls d σ H =>
  ∃ b, PySem.W.exmAny K cls cs = some b ∧ (b = true → ∀ a, H a = none → ts a cls d { nx := fun σ' H' => D.nx (σ'.set i none) H', rt := D.rt, bk := fun σ' H' => D.bk (σ'.set i none) H', ct := fun σ' H' => D.ct (σ'.set i none) H' } (σ.set i (some (.ref a))) H) ∧
    (b = false → Wout cls d σ H)
theorem flying_kept {B : Heap} {l : List Env} {e : Addr} {Z : Obj → Prop} {h h' : Heap} (fl : HandSPX.FlyingZ B l e Z h) (k : ∀ b o, h.get? b = some o → h'.get? b = some o) : HandSPX.FlyingZ B l e Z h' := by
  obtain ⟨k1, k2, k3, oe, vs, T, oT, ts, he, hz, hd, h1, hb, hne, hT, hdT, h3⟩ := fl
  exact ⟨fun b o z => k b o (k1 b o z), k2, Heap.FunFrames.of_keeps (fun b o z _ => ⟨o, k b o z, rfl⟩) k3, oe, vs, T, oT, ts, k _ _ he, hz, hd, h1, hb, hne, k _ _ hT, hdT, h3⟩
section
variable {X : Cx} {x1 x2 x3 n : Str} {c1 c2 c3 : Value} {i kk : Nat} {body suite : List Stmt} {b₀ : Stmt} {n1 n2 n3 tpos pos pos' : Pos} {tb : WX → TS} {ts : Addr → Value → Option Addr → TS} {Wout : WX}
theorem ps_try_as3 (hs : X.stack = X.env :: X.outer) (hf : X.env.frame = some X.env.locals) (hN : X.N.Nodup) (hi : X.N[i]? = some n) (hln : X.env.kindOf n = some .local) (hc1 : Names X x1 c1) (hc2 : Names X x2 c2) (hc3 : Names X x3 c3) (tk : Takes X Wout)
    (hb : ∀ (W : WX) (pn : List (Addr × Obj)) (xe : Value → Shared → Prop), Takes (X.tr pn xe) W → PassesOwn (model X.prog X.w) X.A X.env xe → PSs (X.tr pn xe) body (tb W))
    (hsu : ∀ (a : Addr) (oe : Obj) (cls : Value) (d : Option Addr) (pn : List (Addr × Obj)), Zc cls d oe → (∃ vs, oe.data = .fields vs) → PSs (X.suite a ((a, oe) :: pn)) (b₀ :: suite) (ts a cls d)) :
    PS X (.Try body [.ExceptHandler (some (.Tuple [.Name x1 n1, .Name x2 n2, .Name x3 n3] kk tpos)) (some n) (b₀ :: suite) pos'] [] [] pos) (fun D σ H => tb (wAs3 X.K [c1, c2, c3] i ts Wout D) D σ H) := by
  refine ⟨fun pins s σ H D I h => ?_⟩
  have ok := I.ok
  have hfr : X.A.frames = some (X.env :: X.outer) := by rw [ok.frames, hs]
  have hloc : Loc X.env.scope n := .inl hln
  refine wpAny_Try_except ?_
  refine wpAny_mono ((hb (wAs3 X.K [c1, c2, c3] i ts Wout D) (X.pn ++ pins) (fun e s₁ => wpAny (model X.prog X.w) X.A (noteFrame e X.env) (fun _ s₂ => wpAny (model X.prog X.w) X.A (setFlight e none) (fun _ s₃ =>
    wpAny (model X.prog X.w) X.A (handleBy e X.env [.ExceptHandler (some (.Tuple [.Name x1 n1, .Name x2 n2, .Name x3 n3] kk tpos)) (some n) (b₀ :: suite) pos']) (SP X pins D) X.xe s₃) X.xe s₂) X.xe s₁) (fun u s' xx => ?_) PassesOwn.looking).run [] s σ H D (I.toTry _) h) (fun f s1 hsp => ?_) (fun e s1 he => he)
  · obtain ⟨a, B, sI, pins', σ', H', cls, d, rfl, J', nb, up, sky, na, os, ag, b, hb1, hyes, hno⟩ := xx
    have J : Inv X pins σ' H' sI := J'.ofTry ok
    have sky' : Sky B (X.env :: X.outer) a (Zc cls d) X.env.locals s'.heap := by rw [← hs]; exact sky
    show wpAny (model X.prog X.w) X.A (noteFrame (.ref a) X.env) _ _ _
    refine Sky.land Zc.steady hfr hf sky' fun h3 fl3 up3 => ?_
    have J3 : Inv X pins σ' H' { s' with heap := h3 } := J.landed nb fl3.1 (up.trans up3) os ag
    obtain ⟨oe3, vs3, he3, hz3, hd3⟩ := fl3.there
    have notFr : ∀ {h : Heap} {o : Obj} {vs : Array Value}, h.FunFrames B (X.env :: X.outer) → h.get? a = some o → o.data = .fields vs → a ∉ frs (X.env :: X.outer) := fun {h o vs} ff e dd hm => by
      obtain ⟨_, o', e', hnf⟩ := ff.mem hm
      rw [e] at e'; cases e'
      exact hnf _ dd
    have nfr := notFr fl3.2.2.1 he3 hd3
    have nL : a ≠ X.env.locals := fun z => nfr (List.mem_filterMap.mpr ⟨X.env, List.mem_cons_self, by rw [hf, z]⟩)
    have nF : a ∉ X.fs := fun hm => by
      obtain ⟨e, he, q⟩ := List.mem_filterMap.mp hm
      exact nfr (List.mem_filterMap.mpr ⟨e, List.mem_cons_of_mem _ he, q⟩)
    have S3 := J3.suite he3 hd3 na nL nF
    refine wpAny_handleBy_cons (codeAny_handlers_test ?_) (by intro q; cases q)
    have ld : ∀ {x : Str} {c : Value} {np : Pos} {Q : Value → Shared → Prop} {E : Value → Shared → Prop}, Names X x c → Q c { s' with heap := h3 } → wpAny (model X.prog X.w) (X.A.mark (some (.ref a))) (eval (.Name x np) X.env) Q E { s' with heap := h3 } := fun {x c np Q E} hc q => by
      obtain ⟨hg, hdbg, hm | ⟨hm, hv, hnn⟩⟩ := hc
      · exact ld_glob (X := X.suite a ((a, oe3) :: (X.pn ++ pins))) S3 hg hm q hdbg
      · exact ld_blt (X := X.suite a ((a, oe3) :: (X.pn ++ pins))) S3 hg hm hv q hnn hdbg
    refine wpAny_Tuple (wpAny_items_cons (ld hc1 (wpAny_items_cons (ld hc2 (wpAny_items_cons (ld hc3 (wpAny_items_nil ⟨by size_fits, ?_⟩)))))))
    have kp : ∀ q o, h3.get? q = some o → (h3.push { cls := .type "tuple", data := .seq [c1, c2, c3].toArray }).get? q = some o := fun _ _ z => Heap.get?_push_of_some _ z
    have LT : PySem.W.Looks (model X.prog X.w) h3 (typeOf (.ref a)) cls := fun A Q E s k q => wpAny_typeOf_ref (k _ _ he3) (by rw [hz3.1]; exact q)
    have LM := PySem.W.exm_tup3 (M := model X.prog X.w) (J3.kIn.keeps kp) (LT.keeps kp) (Heap.get?_push_size h3 rfl) hb1
    have fl3 := flying_kept fl3 kp
    have up3 := up3.trans (Heap.UpToSlots.of_keeps kp)
    refine LM.here ?_
    cases b with
    | true =>
      refine codeAny_handlers_suite_as ?_
      refine HandSPX.lands_againZ fl3 fun h4 fl4 up4 => ?_
      have J4 : Inv X pins σ' H' { s' with heap := h4 } := J.landed nb fl4.1 ((up.trans up3).trans up4) os ag
      obtain ⟨oe4, vs4, he4, hz4, hd4⟩ := fl4.there
      have S4 := J4.suite he4 hd4 na nL nF
      refine store_ok (X := X.suite a ((a, oe4) :: (X.pn ++ pins))) (v := .ref a) S4 hN hi hloc rfl (fun s5 S5 => ?_) (.inr hln)
      refine wpAny_mono ((hsu a oe4 cls d (X.pn ++ pins) hz4 ⟨_, hd4⟩).run [] s5 _ H' _ S5 (hyes rfl a na)) (fun f s6 hsp => ?_) (fun _ _ z => False.elim z)
      have end_ : ∀ {σ6 : St} {H6 : Hp} {Q : Shared → Prop}, Inv (X.suite a ((a, oe4) :: (X.pn ++ pins))) [] σ6 H6 s6 → (∀ s7, Inv X pins (σ6.set i none) H6 s7 → Q s7) →
          wpAny (model X.prog X.w) X.A (do bindName X.env n .none; unbindBehindTheSuite X.env n pos') (fun _ s7 => Q s7) X.xe s6 := fun {σ6 H6 Q} S6 hq => gone_ok (S6.unsuite ok) hN hi hln hq
      cases f with
      | next =>
        obtain ⟨σ6, H6, S6, q6⟩ := hsp
        exact end_ S6 fun s7 J7 => ⟨_, _, J7, q6⟩
      | brk =>
        obtain ⟨σ6, H6, S6, q6⟩ := hsp
        exact end_ S6 fun s7 J7 => ⟨_, _, J7, q6⟩
      | cont =>
        obtain ⟨σ6, H6, S6, q6⟩ := hsp
        exact end_ S6 fun s7 J7 => ⟨_, _, J7, q6⟩
      | ret u =>
        obtain ⟨v6, σ6, H6, S6, r6, q6⟩ := hsp
        exact end_ S6 fun s7 J7 => ⟨_, _, _, J7, r6, q6⟩
    | false =>
      show wpAny _ X.A (handleBy (.ref a) X.env []) _ _ _
      refine wpAny_handleBy_nil ?_
      obtain ⟨k1, k2, k3, oe, vs, T, oT, ts', he, hz, hd, h1, hr⟩ := id fl3
      unfold PySem.passOn
      refine wpAny_bind (wpAny_field he hd h1 ?_)
      rw [if_neg (show ¬ ((Value.ref T == Value.none) = true) from by simp)]
      have fin : wpAny (model X.prog X.w) X.A (setFlight (.ref a) X.env.frame) (fun _ s4 => wpAny (model X.prog X.w) X.A (throw (.ref a) : Sem Flow) (SP X pins D) X.xe s4) X.xe { s' with heap := h3.push { cls := .type "tuple", data := .seq [c1, c2, c3].toArray } } := by
        rw [hf]
        refine HandSPX.setFlight_upZ fl3 fun h4 hh4 up4 => wpAny_throw (tk _ _ ?_)
        exact ⟨a, B, sI, pins, σ', H', cls, d, rfl, J, nb, (up.trans up3).trans up4, .inr (.inr (by rw [hs]; exact hh4)), na, os, ag, hno rfl⟩
      first
        | exact wpAny_bind (wpAny_pure (wpAny_bind fin))
        | exact wpAny_bind fin
  · cases f with
    | next =>
      obtain ⟨σ', H', J', q⟩ := hsp
      exact wpAny_execs_nil ⟨σ', H', J'.ofTry ok, q⟩
    | brk =>
      obtain ⟨σ', H', J', q⟩ := hsp
      exact ⟨σ', H', J'.ofTry ok, q⟩
    | cont =>
      obtain ⟨σ', H', J', q⟩ := hsp
      exact ⟨σ', H', J'.ofTry ok, q⟩
    | ret u =>
      obtain ⟨v, σ', H', J', r, q⟩ := hsp
      exact ⟨v, σ', H', J'.ofTry ok, r, q⟩
/-- err.f, the error pinned in the context -/
theorem pe_xfp {a C : Addr} {oe : Obj} {cls : Value} {d : Option Addr} {e : Expr} {te : TE} {p : Pos} {m : Str} (hp : (a, oe) ∈ X.pn) (T : XfC X.K C) (hno : PySem.W.findIn X.K (.ref C) m = some none)
    (hz : Zc cls d oe) (hf : ∃ vs, oe.data = .fields vs) (he : PE X e te) (hb : attributeBase e m X.env (eval e X.env) = eval e X.env := by rfl) : PE X (.Attribute e m p) (tXf a cls d C m te) := by
  refine ⟨fun pins s σ H Q I h => ?_⟩
  refine attr_of hb (thn (he.run pins s σ H _ I h) fun u s1 hh => ?_)
  obtain ⟨x, H1, I1, rx, ex, ec, dd, fs, v, ed, ea, l, q⟩ := hh
  subst ex
  obtain rfl : u = Value.ref a := rx
  subst ec
  subst ed
  obtain ⟨ha, _⟩ := I1.pin (a, oe) (List.mem_append_left _ hp)
  obtain ⟨vs, hd⟩ := hf
  have hx : ObjOk X.prog X.w H1 s1.heap dd (.xd fs) := I1.hok dd _ ea
  obtain ⟨mA, hns, hr⟩ := hx
  obtain ⟨od, ho, hl⟩ := lookIn_ns hns
  obtain ⟨u, hu, ru⟩ := RelO.some_of (v := v) (o := mA m) (by rw [← l]; exact hr m)
  have J : PySem.W.InstAt s1.heap a oe C (some od) := ⟨ha, hz.1, by unfold PySem.W.notCls; rw [hd] <;> rfl, by rw [hz.2]; exact ho⟩
  exact HandSPX.exc_get I1.kIn J T.ga T.gg T.exC (PySem.W.findObj_own T.hdC hno rfl (by rw [hl, hu])) (handed_of ru) ⟨v, H1, I1.tok _, ru, q⟩
end
end L2

set_option Elab.async false
set_option linter.all false
set_option maxRecDepth 100000
set_option maxHeartbeats 4000000
/-! raise C(e), raise C(). -/
namespace L2
open PySem PySem.Spec PyProof.Rows
open PySem.W (ks_superIn ksFn)
def tRx1 (C : Addr) (f code : Str) (ta : TA) : St → Hp → XK → Prop := fun σ H Q => ta σ H fun vs H1 => ∃ v, vs = [v] ∧ ∀ d, H1 d = none → Q (.ref C) (some d) (upd H1 d (.xd [("code", .str code), (f, v)]))
def tRx0 (C : Addr) (code : Str) : St → Hp → XK → Prop := fun σ H Q => ∀ d, H d = none → Q (.ref C) (some d) (upd H d (.xd [("code", .str code)]))
section
variable {X : Cx} {x : Str} {C : Addr} {f code : Str} {p pos : Pos} {a : Expr} {ta : TA} {k : Nat}
/-- the error made, on its way to be raised -/
theorem mk_up {pins : List (Addr × Obj)} {σ : St} {H1 : Hp} {hp h' : Heap} {g : Array GenState} {dr : Drawn} {t tk' : Nat} {os : OsState} {e d t1 : Addr} {mA : Str → Option Value} {fs : List (Str × V)} {Q : XK} (exC : PySem.W.subIn X.K (.ref C) (.type "BaseException") = some true) (tyC : PySem.W.typeIn X.K (.ref C) = some (.type "type"))
    (I1 : Inv X pins σ H1 ⟨hp, g, dr, t, os⟩) (k : ∀ b o, hp.get? b = some o → h'.get? b = some o) (he : hp.objs.size ≤ e) (hd : hp.objs.size ≤ d) (hne : d ≠ e)
    (hoe : h'.get? e = some ({ cls := .ref C, dict := some d, data := .fields #[.ref t1, .none, .none, .none, .bool false, .none] } : Obj)) (hns : h'.Ns1 d mA) (r : ∀ f, RelO (fs.lookup f) (mA f)) (q : Q (.ref C) (some d) (upd H1 d (.xd fs))) : MkP X pins σ Q (.ref e) ⟨h', g, dr, tk', os⟩ := by
  obtain ⟨G', g1, g2⟩ := restrict h' fun b => decide (b ≠ e)
  have gk : ∀ b, b ≠ e → G'.get? b = h'.get? b := fun b hb => g1 b (decide_eq_true hb)
  have ge : G'.get? e = none := g2 e (by simp)
  have old : ∀ b o, hp.get? b = some o → G'.get? b = some o := fun b o q => (gk b (Nat.ne_of_lt (Nat.lt_of_lt_of_le (Heap.lt_size q) he))).trans (k b o q)
  have ob : ObjOk X.prog X.w (upd H1 d (.xd fs)) G' d (.xd fs) := ⟨_, hns.at (fun o q => (gk d hne).trans q), r⟩
  have J : Inv X pins σ (upd H1 d (.xd fs)) ⟨G', g, dr, tk', os⟩ := I1.laid (t' := tk') old hd ob
  refine ⟨e, _, _, ⟨G', g, dr, tk', os⟩, _, .ref C, some d, rfl, J, fun b o q => ?_, ge, hoe, ⟨rfl, rfl⟩, rfl, rfl, ?_, rfl, I1.bare, raises_own exC tyC, q⟩
  · by_cases hb : b = e
    · have q' : G'.get? b = some o := q
      rw [hb, ge] at q'; cases q'
    · exact (gk b hb).symm.trans q
  · rw [upd_ne (Ne.symm hne)]
    exact I1.hok.fresh he
theorem pmk_err1 (T : Err1 X.prog X.K X.mg x C f code) (hr : Room k X.A) (hg : Gl X x) (hsu : X.mg "super" = none) (ha : PA X (a :: []) ta) (hdb : (x == ("__debug__" : Str)) = false := by decide)
    (he : starEach (a :: []) X.env = (false, eval a X.env) :: starEach [] X.env := by rfl) (hpl : (backTo pos (starEach [] X.env)).any (·.1) = false := by rfl) : PMk X (.Call (.Name x p) (a :: []) [] pos) (tRx1 C f code ta) := by
  intro pins s σ H Q I h
  obtain ⟨fI, qual, params, ns, msg, k5, k6, p0, p1, p2, p3, p4, p5, q1, q2, q3, q4, r1, r2, r3, r4, TC, hE, hs1, hs2, hlf, hdf, hfs, hfc, hno, hnc, hb1, hb2⟩ := T.ex
  obtain ⟨B, newId, initId, tl, nm, q, N, bs, bm, sn, sub, ab, col, dd, k0, k1, k2, k3, kk5, eb, hC, hbm, hsup, hsubB⟩ := TC.cls
  refine wpAny_Call_Name_kw (ld_glob I hg T.gm ?_ hdb)
  refine PySem.W.callWith_K (h₀ := X.base) I.ok.mod.kin TC.kC (thn (ha.run pos pins s σ H _ I h) fun us s1 ⟨vs, H1, I1, rr, v, ev, q1⟩ => ⟨I1.kIn, ?_⟩) he hpl
  subst ev
  cases rr with
  | @cons _ v' _ us' rv rn =>
    cases rn
    show wpAny _ _ (call (.ref C) [v']) _ _ _
    obtain ⟨mb, G⟩ := globT I1 hsu
    obtain ⟨hp, g, dr, tk, os⟩ := s1
    have kk : ∀ b o, hp.get? b = some o → ((hp.push (PySem.W.kdv_tup [v'])).push (PySem.HandSPX.excO C hp.objs.size)).get? b = some o := fun b o e => Heap.get?_push_of_some _ (Heap.get?_push_of_some _ e)
    have hget : ((hp.push (PySem.W.kdv_tup [v'])).push (PySem.HandSPX.excO C hp.objs.size)).get? (hp.objs.size + 1) = some (PySem.HandSPX.excO C hp.objs.size) := by heap_get
    have hsz : hp.objs.size ≤ hp.objs.size + 1 := Nat.le_succ _
    have hlt : ∀ {b : Addr} {m : Str → Option Value}, hp.Ns b m → b ≠ hp.objs.size + 1 := fun {b m} z => Nat.ne_of_lt (Nat.lt_succ_of_lt z.lt)
    refine wpAny_call (PySem.HandSPX.call_own eb.F (fun Y => Xe.refsT_contains Y bm hbm) (I1.kIn _ _ hC) (PySem.W.looks_findIn I1.kIn TC.iC) (fun self => PySem.W.bind_fn I1.kIn self TC.tC) (one_size v') ?_)
    refine Xe.err_init1 (mg := X.mg) (mb := mb) TC hE hs1 hs2 hlf hdf hfs hno hnc (I1.kIn.keeps kk) (G.keeps kk) (I1.nolimit.keeps kk) hget (no_new I1.kIn hsz) (by have := hr.dp; show X.A.depth + 1 < _; omega) (hlt G.g) (hlt G.b) (fun doc pm an cdv ct cc s => hb1 _ _ _ _ _ _ _ _ _) fun h' tk' dx t1 tc k' hx dn dne hns => ⟨rfl, ?_⟩
    have k2 : ∀ b o, hp.get? b = some o → h'.get? b = some o := fun b o e => k' b o (Nat.ne_of_lt (Nat.lt_succ_of_lt (Heap.lt_size e))) (kk b o e)
    have z : hp.objs.size + 1 + 1 ≤ dx := by
      first
        | (simpa only [Heap.size_push] using dn)
        | exact dn
        | (have q := dn; rw [Heap.size_push, Heap.size_push] at q; exact q)
    have dn2 : hp.objs.size ≤ dx := Nat.le_trans (Nat.le_trans (Nat.le_succ _) (Nat.le_succ _)) z
    refine mk_up (fs := [("code", .str code), (f, v)]) TC.exC TC.tyC I1 k2 hsz dn2 dne hx hns (fun y => ?_) (q1 _ (I1.hok.fresh dn2))
    rw [lookup2 hfc]
    by_cases h1 : y = "code"
    · rw [if_pos h1, if_pos h1]; first | exact rfl | exact ⟨_, rfl⟩
    · rw [if_neg h1, if_neg h1]
      by_cases h2 : y = f
      · rw [if_pos h2, if_pos h2]; exact rv
      · rw [if_neg h2, if_neg h2]; trivial
theorem pmk_err0 (T : Err0 X.prog X.K X.mg x C code) (hr : Room k X.A) (hg : Gl X x) (hsu : X.mg "super" = none) (hdb : (x == ("__debug__" : Str)) = false := by decide) : PMk X (.Call (.Name x p) [] [] pos) (tRx0 C code) := by
  intro pins s σ H Q I h
  obtain ⟨fI, qual, params, ns, msg, k5, k6, p0, p1, p2, p3, p4, p5, r1, r2, r3, r4, TC, hE, hs2, hnc, hb1⟩ := T.ex
  obtain ⟨B, newId, initId, tl, nm, q, N, bs, bm, sn, sub, ab, col, dd, k0, k1, k2, k3, kk5, eb, hC, hbm, hsup, hsubB⟩ := TC.cls
  refine wpAny_Call_Name_kw (ld_glob I hg T.gm ?_ hdb)
  refine PySem.W.callWith_K0 I.kIn TC.kC ?_
  show wpAny _ _ (call (.ref C) []) _ _ _
  obtain ⟨mb, G⟩ := globT I hsu
  obtain ⟨hp, g, dr, tk, os⟩ := s
  have kk : ∀ b o, hp.get? b = some o → ((hp.push (PySem.W.kdv_tup [])).push (PySem.HandSPX.excO C hp.objs.size)).get? b = some o := fun b o e => Heap.get?_push_of_some _ (Heap.get?_push_of_some _ e)
  have hget : ((hp.push (PySem.W.kdv_tup [])).push (PySem.HandSPX.excO C hp.objs.size)).get? (hp.objs.size + 1) = some (PySem.HandSPX.excO C hp.objs.size) := by heap_get
  have hsz : hp.objs.size ≤ hp.objs.size + 1 := Nat.le_succ _
  refine wpAny_call (PySem.HandSPX.call_own eb.F (fun Y => Xe.refsT_contains Y bm hbm) (I.kIn _ _ hC) (PySem.W.looks_findIn I.kIn TC.iC) (fun self => PySem.W.bind_fn I.kIn self TC.tC) (Nat.zero_le _) ?_)
  refine Xe.err_init0 (mg := X.mg) (mb := mb) TC hE hs2 hnc (I.kIn.keeps kk) (G.keeps kk) (I.nolimit.keeps kk) hget (no_new I.kIn hsz) (by have := hr.dp; show X.A.depth + 1 < _; omega) (fun doc pm an cdv ct cc s => hb1 _ _ _ _ _ _ _ _) fun h' tk' dx t1 tc k' hx dn dne hns => ⟨rfl, ?_⟩
  have k2 : ∀ b o, hp.get? b = some o → h'.get? b = some o := fun b o e => k' b o (Nat.ne_of_lt (Nat.lt_succ_of_lt (Heap.lt_size e))) (kk b o e)
  have z : hp.objs.size + 1 + 1 ≤ dx := by
    first
      | (simpa only [Heap.size_push] using dn)
      | exact dn
      | (have q := dn; rw [Heap.size_push, Heap.size_push] at q; exact q)
  have dn2 : hp.objs.size ≤ dx := Nat.le_trans (Nat.le_trans (Nat.le_succ _) (Nat.le_succ _)) z
  refine mk_up (fs := [("code", .str code)]) TC.exC TC.tyC I k2 hsz dn2 dne hx hns (fun y => ?_) (h _ (I.hok.fresh dn2))
  rw [lookup_put]
  by_cases h1 : y = "code"
  · rw [if_pos h1, if_pos h1]; first | exact rfl | exact ⟨_, rfl⟩
  · rw [if_neg h1, if_neg h1]; trivial
end
end L2

set_option Elab.async false
set_option linter.all false
set_option maxRecDepth 100000
set_option maxHeartbeats 4000000
/-! A def that is handed the error that an except suite holds: its promise may speak of the error's object. -/
namespace L2
open PySem PySem.Spec PyProof.Rows L2H HotX
structure FnP (P : Program) (w : World) (K : PySem.W.Frag) (mg : Str → Option Value) (base : Heap) (CX : CXT) (k : Nat) (f : Addr) (fd : FuncData) (ps : List Str) (sp : Addr × Obj → Sp) : Prop where
  len : ∀ p vs H Q E, sp p vs H Q E → vs.length = ps.length
  run : ∀ (A : Around) (outer : List Env) (s : Shared) (H : Hp) (args : Args) (us : List Value) (vs : List V) (Q : VK) (E : XK) (p : Addr × Obj), RoomH k A → PinOk outer H s p → Env0 P w K mg base A outer s H → BindsTo s fd args (ps.zip us) → Vals vs us → sp p vs H Q E →
    codeAny (model P w) A (.call (.ref f) args) (CR CX outer P w H s Q E) s
theorem fnP_of {CX : CXT} {P : Program} {w : World} {K : PySem.W.Frag} {mg : Str → Option Value} {base : Heap} {k : Nat} {f : Addr} {name qual : Str} {params : Arguments} {body : List Stmt} {scope : Scope} {dV kV doc pm cdv ct oc : Value} {an od : Option Addr}
    {osl : Array (Option Value)} {N ps : List Str} {sp : Addr × Obj → Sp} (lk : K.lookup f = some ⟨oc, od, .func (PySem.W.fnOf name qual params body scope dV kV doc pm an cdv ct), osl⟩) (hcd : PySem.W.codeIn K cdv qual = true) (S : FnScope N ps scope)
    (len : ∀ p vs H Q E, sp p vs H Q E → vs.length = ps.length)
    (hbody : ∀ (A : Around) (outer : List Env) (s : Shared) (H : Hp) (vs : List V) (Q : VK) (E : XK) (p : Addr × Obj), RoomH k (A.deeper (envOfC qual scope s.heap.objs.size f cdv)) → sp p vs H Q E →
      ∃ t, PSs (cxH CX P w K mg base N qual scope f cdv A outer s H E p) body t ∧ t { nx := fun _ H' => Q .non H', rt := Q } (L2.start N vs) H) :
    FnP P w K mg base CX (k + 1) f (PySem.W.fnOf name qual params body scope dV kV doc pm an cdv ct) ps sp := by
  refine ⟨len, fun A outer s H args us vs Q E p hr hpin e0 hb r hsp => ?_⟩
  have hl := len _ _ _ _ _ hsp
  have KX : K.In s.heap := e0.mod.kin.keeps fun b o e => (e0.bs b o e).1
  have lim : s.heap.NoLimit := e0.mod.nolimit.keeps fun b o e => (e0.bs b o e).1
  have hkind : ∀ y ∈ ps.zip us, scope.names.lookup y.1 = some .local ∨ (scope.names.lookup y.1 = some .cell ∧ ((cellsFrom (s.heap.objs.size + 1) scope.names []).lookup y.1).isSome = true) := fun ⟨n, v⟩ hy => by
    rcases S.par n (List.of_mem_zip hy).1 with q | q
    · exact .inl q
    · exact .inr ⟨q, PySem.W.cellsFrom_some _ _ _ (.inl q)⟩
  refine codeAny_call_function hr.depth (KX _ _ lk) rfl S.co S.gen rfl (PySem.W.codeRec_of KX hcd) (hb _ _ _ _ ?_)
  refine wpAny_newFunctionEnv_cells S.kind hkind fun env he s1 x => ?_
  subst he
  refine ⟨lim.keeps x.toInCall.keep, codeAny_func ?_⟩
  obtain ⟨t, ht, hq⟩ := hbody A outer s H vs Q E p (hr.deeper _) hsp
  have I : Inv (cxH CX P w K mg base N qual scope f cdv A outer s H E p) [] (L2.start N vs) H s1 := inv_startH S hpin e0 hl r x
  refine wpAny_mono (ht.run [] s1 (L2.start N vs) H _ I hq) (fun fl s' hs => ?_) fun e s' hs => hs
  have fin : ∀ {σ' : L2.St} {H' : Hp} {v : V} {u : Value}, Inv (cxH CX P w K mg base N qual scope f cdv A outer s H E p) [] σ' H' s' → RelV v u → Q v H' → CE outer P w H s Q u s' :=
    fun {σ' H' v u} J rv q => ⟨v, H', J.os, J.bare, J.base, J.hok, rv, q⟩
  cases fl with
  | ret u =>
    obtain ⟨v, σ', H', J, rv, q⟩ := hs
    exact fin J rv q
  | next =>
    obtain ⟨σ', H', J, q⟩ := hs
    exact fin (v := V.non) (u := Value.none) J rfl q
  | brk =>
    obtain ⟨_, _, _, q⟩ := hs
    exact False.elim q
  | cont =>
    obtain ⟨_, _, _, q⟩ := hs
    exact False.elim q
section
variable {X : Cx} {CX : CXT} {k : Nat} {f : Addr} {fd : FuncData} {ps : List Str} {sp : Addr × Obj → Sp} {E : XK} {x : Str} {q pos : Pos} {e : Expr} {es : List Expr} {t : TA} {p : Addr × Obj}
theorem pe_callP (hp : p ∈ X.pn) (F : FnP X.prog X.w X.K X.mg X.base CX k f fd ps sp) (hr : RoomH k X.A) (hg : Gl X x) (hm : X.mg x = some (.ref f)) (hk : PySem.W.keepIn X.K (.ref f) = true) (hb : Binds X.K fd ps []) (hx : Passes CX X E)
    (ha : PA X (e :: es) t) (hdb : (x == ("__debug__" : Str)) = false := by decide) (he : starEach (e :: es) X.env = (false, eval e X.env) :: starEach es X.env := by rfl) (hpl : (backTo pos (starEach es X.env)).any (·.1) = false := by rfl) :
    PE X (.Call (.Name x q) (e :: es) [] pos) (fun σ H Q => t σ H fun vs H1 => sp p vs H1 Q E) := by
  refine ⟨fun pins s σ H Q I h => ?_⟩
  refine wpAny_Call_Name_kw (ld_glob I hg hm ?_ hdb)
  refine PySem.W.callWith_K (h₀ := X.base) I.ok.mod.kin hk (thn (ha.run pos pins s σ H _ I h) fun us s1 ⟨vs, H1, I1, r, q⟩ => ⟨I1.kIn, ?_⟩) he hpl
  show wpAny _ _ (call (.ref f) us) _ _ _
  have hl : us.length = ps.length := by rw [← r.length]; exact F.len _ _ _ _ _ q
  have b := hb s1 us I1.kIn (by rw [List.append_nil]; exact hl)
  rw [List.append_nil] at b
  have P1 := I1.pin p (List.mem_append_left _ hp)
  have hpin : PinOk X.stack H1 s1 p := ⟨P1.1, P1.2.1, fun hm => (List.mem_cons.mp (I1.stkSub p.1 hm)).elim P1.2.2.1 P1.2.2.2.1, P1.2.2.2.2⟩
  refine wpAny_call (codeAny_mono (F.run X.A X.stack s1 H1 ⟨us, []⟩ us vs Q E p hr hpin I1.env0 b r q) fun r s' hq => ?_)
  cases r with
  | error e => exact hx pins σ H1 s1 e s' I1 hq
  | ok fl =>
    cases fl with
    | ret u => exact I1.after hq
    | next => exact False.elim hq
    | brk => exact False.elim hq
    | cont => exact False.elim hq
end
end L2

set_option Elab.async false
set_option linter.all false
set_option maxRecDepth 100000
set_option maxHeartbeats 4000000
/-! try: return ('', ask()) / except (X, Y, Z) as e: return (e.code, field(e)), handed a lambda. -/
namespace LamX
open PySem PySem.Spec PyProof.Rows L2 L2H HotX
theorem pe_imp {X : Cx} {e : Expr} {t u : TE} (h : PE X e t) (i : ∀ σ H Q, u σ H Q → t σ H Q) : PE X e u := ⟨fun pins s σ H Q I hu => h.run pins s σ H Q I (i σ H Q hu)⟩
/-- what the suite makes of the error: (its code, what field gives of it) -/
def GotS (K : PySem.W.Frag) (spF : Addr × Obj → Sp) (a : Addr) (cls : Value) (d : Option Addr) (Q : VK) (H : Hp) : Prop := ∃ (C dd : Addr) (fs : List (Str × V)) (code : V), cls = .ref C ∧ XfC K C ∧ PySem.W.findIn K (.ref C) "code" = some none ∧ d = some dd ∧ H dd = some (.xd fs) ∧ fs.lookup ("code" : Str) = some code ∧
  ∀ oe : Obj, Zc cls d oe → (∃ vs, oe.data = .fields vs) → spF (a, oe) [.ref a] H (fun v H2 => [code, v].length ≤ sizeLine ∧ ∀ T, H2 T = none → Q (.ref T) (upd H2 T (.tup [code, v]))) C8.E0
def tGotS (K : PySem.W.Frag) (spF : Addr × Obj → Sp) (a : Addr) (cls : Value) (d : Option Addr) : TS := fun D σ H => (∃ σ0 : L2.St, σ = σ0.set 1 (some (.ref a))) ∧ GotS K spF a cls d D.rt H
def TGot (K : PySem.W.Frag) (cs : List Value) (spF : Addr × Obj → Sp) : (XK → Hp → VK → Prop) → Hp → VK → Prop := fun tl H Q =>
  tl (fun cls d H' => PySem.W.exmAny K cls cs = some true ∧ ∀ a, H' a = none → GotS K spF a cls d Q H') H
    (fun v H' => [V.str "", v].length ≤ sizeLine ∧ ∀ T, H' T = none → Q (.ref T) (upd H' T (.tup [.str "", v])))
section
variable {X : Cx}
theorem got_gives {a e q fn x : Str} {sg : Scope} {g ff : Addr} {fdF : FuncData} {cdg : Value} {c1 c2 c3 : Value} {x1 x2 x3 : Str} {spF : Addr × Obj → Sp} {k j0 kk k1 k2 : Nat} {psF : List Str} {p1 p2 p3 p4 p5 p6 p7 p8 p9 n1 n2 n3 r1 r2 r3 r4 r5 r6 r7 : Pos}
    (F : FnP X.prog X.w X.K X.mg X.base C8.CX0 k ff fdF psF spF) (hr : RoomH (k + 1) X.A) (hbF : Binds X.K fdF psF []) (hmF : X.mg fn = some (.ref ff)) (hkF : PySem.W.keepIn X.K (.ref ff) = true) (hgF : sg.names.lookup fn = some .globalImplicit) (hdF : (fn == ("__debug__" : Str)) = false)
    (g1 : sg.names.lookup x1 = some .globalImplicit) (g2 : sg.names.lookup x2 = some .globalImplicit) (g3 : sg.names.lookup x3 = some .globalImplicit) (d1 : (x1 == ("__debug__" : Str)) = false) (d2 : (x2 == ("__debug__" : Str)) = false) (d3 : (x3 == ("__debug__" : Str)) = false)
    (m1 : X.mg x1 = some c1) (m2 : X.mg x2 = some c2) (m3 : X.mg x3 = some c3) (hae : a ≠ e) (hle : sg.names.lookup e = some .local) (hde : (e == ("__debug__" : Str)) = false) (hve : Vis sg e) (hce : (e == ("__classdict__" : Str)) = false) :
    ∀ (f c' : Addr) (s : Shared) (H : Hp) (Q : VK) (tl : XK → Hp → VK → Prop),
    (∀ (W : WX) (pn : List (Addr × Obj)) (xe : Value → Shared → Prop) (E : XK) (p1 p2 : Pos), Takes ((cxOf C8.CX0 X.prog X.w X.K X.mg X.base [a, e] x sg g cdg X.A X.stack s H C8.E0).tr pn xe) W → (∀ cls d σ' H', E cls d H' → W cls d σ' H') →
      PE ((cxOf C8.CX0 X.prog X.w X.K X.mg X.base [a, e] x sg g cdg X.A X.stack s H C8.E0).tr pn xe) (.Call (.Name a p1) [] [] p2) (fun σZ HZ Q => σZ[0]? = some (some (.ref f)) ∧ HZ c' = some (CodeO c' q) ∧ tl E HZ Q)) →
    H c' = some (CodeO c' q) → TGot X.K [c1, c2, c3] spF tl H Q →
    ∃ t, PSs (cxOf C8.CX0 X.prog X.w X.K X.mg X.base [a, e] x sg g cdg X.A X.stack s H C8.E0).nox [.Try [.Return (some (.Tuple [.Constant (.str "") j0 p5, .Call (.Name a p1) [] [] p2] k1 p4)) p3]
      [.ExceptHandler (some (.Tuple [.Name x1 n1, .Name x2 n2, .Name x3 n3] kk p9)) (some e) [.Return (some (.Tuple [.Attribute (.Name e r1) "code" r2, .Call (.Name fn r3) [.Name e r4] [] r5] k2 r6)) r7] p7] [] [] p8] t ∧ t { nx := fun _ H' => Q .non H', rt := Q } (L2.start [a, e] [.ref f]) H := by
  intro f c' s H Q tl act hc h
  refine ⟨_, pss_one (ps_try_as3 (X := (cxOf C8.CX0 X.prog X.w X.K X.mg X.base [a, e] x sg g cdg X.A X.stack s H C8.E0).nox) (c1 := c1) (c2 := c2) (c3 := c3) (i := 1)
      (tb := fun W D σ H => ∃ Ech : XK, (∀ cls d σ' H', Ech cls d H' → W cls d σ' H') ∧ σ[0]? = some (some (.ref f)) ∧ H c' = some (CodeO c' q) ∧ tl Ech H fun v H' => [V.str "", v].length ≤ sizeLine ∧ ∀ T, H' T = none → D.rt (.ref T) (upd H' T (.tup [.str "", v])))
      (ts := tGotS X.K spF)
      rfl rfl (show ([a, e] : List Str).Nodup from by simp [hae]) rfl hle ⟨g1, d1, .inl m1⟩ ⟨g2, d2, .inl m2⟩ ⟨g3, d3, .inl m3⟩ takes0 (fun W pn xe tk _ => ?_) (fun b oe cls d pn hz hf => ?_)), ?_⟩
  · refine ⟨fun pins s' σ H' D I h' => ?_⟩
    obtain ⟨Ech, hW, h1, h2, h3⟩ := h'
    have hp := act W pn xe Ech p1 p2 tk hW
    have hq := pss_one (ps_ret (pos := p3) (pe_tup (pos := p4) (x1 := k1) (pa_cons (show PE _ (.Constant (.str "") j0 p5) (tC (.str "")) from pe_str) (pa_cons hp pa_nil))))
    exact hq.run pins s' σ H' D I ⟨h1, h2, h3⟩
  · refine ⟨fun pins s' σ H' D I h' => ?_⟩
    obtain ⟨⟨σ0, hσ⟩, C, dd, fs, code, hC, T, hno, hd, hx, hcode, hk⟩ := h'
    have hlen : σ.length = 2 := I.len
    have h1 : σ[1]? = some (some (V.ref b)) := by
      subst hσ
      rw [List.length_set] at hlen
      rw [List.getElem?_set_self (by omega)]
    have gl : Gl ((cxOf C8.CX0 X.prog X.w X.K X.mg X.base [a, e] x sg g cdg X.A X.stack s H C8.E0).nox.suite b ((b, oe) :: pn)) fn := hgF
    have pv1 : ∀ (r : Pos), PE ((cxOf C8.CX0 X.prog X.w X.K X.mg X.base [a, e] x sg g cdg X.A X.stack s H C8.E0).nox.suite b ((b, oe) :: pn)) (.Name e r) (tVar 1) := fun r => pe_var (i := 1) rfl hve hde hce
    have pc := pe_callP (q := r3) (pos := r5) (p := (b, oe)) (X := (cxOf C8.CX0 X.prog X.w X.K X.mg X.base [a, e] x sg g cdg X.A X.stack s H C8.E0).nox.suite b ((b, oe) :: pn)) (E := C8.E0) List.mem_cons_self F (by have z := hr.deeper (envOfC x sg s.heap.objs.size g cdg); exact ⟨z.dp, z.un⟩) gl hmF hkF hbF (fun _ _ _ _ _ _ _ z => z) (pa_cons (pv1 r4) pa_nil) hdF
    have px := pe_xfp (X := (cxOf C8.CX0 X.prog X.w X.K X.mg X.base [a, e] x sg g cdg X.A X.stack s H C8.E0).nox.suite b ((b, oe) :: pn)) (p := r2) (m := "code") List.mem_cons_self T hno hz hf (pv1 r1)
    have hq := pss_one (ps_ret (pos := r7) (pe_tup (pos := r6) (x1 := k2) (pa_cons px (pa_cons (pe_imp (u := fun σ H Q => tCons (tVar 1) tNil σ H fun vs H1 => ∀ oe : Obj, Zc cls d oe → (∃ vs, oe.data = .fields vs) → spF (b, oe) vs H1 Q C8.E0) pc fun σ H Q hu => (by obtain ⟨v, hv, hk⟩ := hu; exact ⟨v, hv, hk oe hz hf⟩)) pa_nil))))
    exact hq.run pins s' σ H' D I ⟨.ref b, h1, rfl, hC, dd, fs, code, hd, hx, hcode, .ref b, h1, hk⟩
  · exact ⟨fun cls d H' => PySem.W.exmAny X.K cls [c1, c2, c3] = some true ∧ ∀ a, H' a = none → GotS X.K spF a cls d Q H', fun cls d σ' H' z => ⟨true, z.1, fun _ b hb => ⟨⟨σ', rfl⟩, z.2 b hb⟩, fun z => by cases z⟩, rfl, hc, h⟩
end
end LamX

set_option Elab.async false
set_option linter.all false
set_option maxRecDepth 100000
set_option maxHeartbeats 4000000
/-! The error that a suite holds, over data. -/
namespace Dl
open L2 PySem PySem.Spec PyProof.Rows RZ StX Cm
section
variable {lk : Lk} {m : Md} {T : List (Addr × Str)} {K : Frag} {ta : TE} {da : DExp}
def dXfp (a d : Addr) (c : Str) (da : DExp) (n : Str) : DExp := fun ρ Q => da ρ fun x => ∃ fs v, x = .pin a d c fs ∧ fs.lookup n = some v ∧ Q v
theorem l_xfp {a d : Addr} {c n : Str} (ha : LiftE lk K ta da) : LiftE lk K (tXf a (.ref (He.ga K c)) (some d) (He.ga K c) n ta) (dXfp a d c da n) := by
  intro G σ H ρ Qd Q R h k
  refine ha G σ H ρ _ _ R h fun x e G1 H1 n1 r1 h1 => ?_
  obtain ⟨fs, v, rfl, hl, q⟩ := h1
  cases r1 with
  | @pin _ _ _ vs _ h2 hr =>
    obtain ⟨u, h4, h5⟩ := rfs_look hr hl
    exact ⟨rfl, rfl, d, vs, u, rfl, n1.s _ _ h2, h4, k u v G1 H1 n1 h5 q⟩
def XPOn (n : Str) (a d : Addr) (c : Str) (Q : Dt → Prop) (x : Dt) : Prop := ∃ fs v, x = .pin a d c fs ∧ fs.lookup n = some v ∧ Q v
theorem d_xfp {ρ : Env} {a d : Addr} {c n : Str} {Q : Dt → Prop} (h : da ρ (XPOn n a d c Q)) : dXfp a d c da n ρ Q := h
theorem d_xpon {n c : Str} {a d : Addr} {fs : List (Str × Dt)} {v : Dt} {Q : Dt → Prop} (h : fs.lookup n = some v) (q : Q v) : XPOn n a d c Q (.pin a d c fs) := ⟨fs, v, rfl, h, q⟩
end
/-- what a def promises of the error that a suite holds -/
def spPin (T : List (Addr × Str)) (K : Frag) (cs ns : List Str) (dsp : Addr → Addr → Str → DFn) : Addr × Obj → Sp := fun p vs H Q _ => ∃ (G : Hp) (d : Addr) (c : Str) (fs : List (Str × Dt)) (Qd : Dt → Prop), vs = [.ref p.1] ∧ Zc (.ref (He.ga K c)) (some d) p.2 ∧ (∃ us, p.2.data = .fields us) ∧ c ∈ cs ∧ Ex G H ∧ Rp K G (.ref p.1) (.pin p.1 d c fs) ∧ dsp p.1 d c [.pin p.1 d c fs] Qd ∧
  ∀ v dv G' H', New ⟨False, T⟩ G H G' H' → Rp K G' v dv → Qd dv → Q v H'
def XAll (K : Frag) (cs ns : List Str) : Prop := ∀ c ∈ cs, XfC K (He.ga K c) ∧ ∀ n ∈ ns, PySem.W.findIn K (.ref (He.ga K c)) n = some none
def xallB (K : Frag) (cs ns : List Str) : Bool := cs.all fun c => xfB K (He.ga K c) && ns.all fun n => decide (PySem.W.findIn K (.ref (He.ga K c)) n = some none)
theorem xallB_ok {K : Frag} {cs ns : List Str} (h : xallB K cs ns = true) : XAll K cs ns := fun c hc => by
  have h1 := List.all_eq_true.mp h c hc
  rw [Bool.and_eq_true] at h1
  exact ⟨xfB_ok h1.1, fun n hn => of_decide_eq_true (List.all_eq_true.mp h1.2 n hn)⟩
/-- such a def, its body's derivation and its word given -/
theorem fnP_pin {P : Program} {w : World} {K : Frag} {mg : Str → Option Value} {base : Heap} {k : Nat} {f : Addr} {fd : FuncData} {name qual x : Str} {N : List Str} {params : Arguments} {body : List Stmt} {scope : Scope} {cs ns : List Str} {dsp : Addr → Addr → Str → DFn} {dw : Addr → Addr → Str → DStm} {tw : Addr → Addr → Str → TS} {T : List (Addr × Str)}
    (F : FunD K name qual params body scope [] [] f fd) (sc : FnScope N [x] scope) (hX : XAll K cs ns) (li : ∀ (lk : Lk) a d c, LiftS lk K (tw a d c) (dw a d c)) (pf : ∀ a d c ds Qd, dsp a d c ds Qd → dw a d c ⟨fun _ => Qd .non, Qd, fun _ => False, fun _ => False, fun _ => False⟩ (startD N.length ds))
    (der : ∀ (cdv : Value) (A : Around) (outer : List PySem.Env) (s : Shared) (H : Hp) (E : XK) (p : Addr × Obj) (d : Addr) (c : Str), Zc (.ref (He.ga K c)) (some d) p.2 → (∃ us, p.2.data = .fields us) → XfC K (He.ga K c) → (∀ n ∈ ns, PySem.W.findIn K (.ref (He.ga K c)) n = some none) →
      L2H.RoomH k (A.deeper (envOfC qual scope s.heap.objs.size f cdv)) → PSs (L2H.cxH C8.CX0 P w K mg base N qual scope f cdv A outer s H E p) body (tw p.1 d c)) :
    FnP P w K mg base C8.CX0 (k + 1) f fd [x] (spPin T K cs ns dsp) := by
  obtain ⟨oc, od, dV, kV, doc, pm, an, cdv, ct, osl, rfl, lk, hcd, hD, _⟩ := F.ex
  refine fnP_of lk hcd sc (fun p vs H Q E h => by obtain ⟨_, _, _, _, _, rfl, _⟩ := h; rfl) fun A outer s H vs Q E p hr h => ?_
  obtain ⟨G, d, c, fs, Qd, rfl, hz, hf, hc, s1, r1, hq, kk⟩ := h
  refine ⟨tw p.1 d c, der cdv A outer s H E p d c hz hf (hX c hc).1 (hX c hc).2 hr, ?_⟩
  exact Dl.fn_of (m := ⟨False, T⟩) (dsp := fun ds Q => dsp p.1 d c ds Q) (fun lk _ _ _ _ => li lk p.1 d c) (fun ds Qd h => pf p.1 d c ds Qd h) [.ref p.1] H Q E ⟨G, [.pin p.1 d c fs], Qd, s1, .cons r1 .nil, hq, kk⟩
end Dl

set_option Elab.async false
set_option linter.all false
set_option maxRecDepth 100000
set_option maxHeartbeats 3000000
/-! The layer of data, 8: raise; __init__; fields of the object that is made; own special methods; properties; f-strings. -/
namespace Dl
open L2 PySem PySem.Spec PyProof.Rows RZ StX Cm
/-! ### raise -/
def tRaise1 (C : Addr) (f code : Str) (ta : TA) (E : XK) : TS := fun _ σ H => tRx1 C f code ta σ H E
def tRaise0 (C : Addr) (code : Str) (E : XK) : TS := fun _ σ H => tRx0 C code σ H E
theorem ps_rs1 {X : Cx} {C : Addr} {f code : Str} {ta : TA} {E : XK} {e : Expr} {pos : Pos} (hc : X.calm = true) (tk : Takes X fun cls d _ H => E cls d H) (h : PMk X e (tRx1 C f code ta)) : PS X (.Raise (some e) none pos) (tRaise1 C f code ta E) := ps_raise hc tk h
theorem ps_rs0 {X : Cx} {C : Addr} {code : Str} {E : XK} {e : Expr} {pos : Pos} (hc : X.calm = true) (tk : Takes X fun cls d _ H => E cls d H) (h : PMk X e (tRx0 C code)) : PS X (.Raise (some e) none pos) (tRaise0 C code E) := ps_raise hc tk h
theorem takesX {P : Program} {w : World} {K : Frag} {mg : Str → Option Value} {base : Heap} {N : List Str} {qual : Str} {scope : Scope} {f : Addr} {cd : Value} {A : Around} {outer : List PySem.Env} {s : Shared} {H : Hp} {E : XK} : Takes (cxOf (L2.CX P w) P w K mg base N qual scope f cd A outer s H E) (fun cls d _ H => E cls d H) := takes_of rfl rfl rfl rfl
theorem passX {P : Program} {w : World} {K : Frag} {mg : Str → Option Value} {base : Heap} {N : List Str} {qual : Str} {scope : Scope} {f : Addr} {cd : Value} {A : Around} {outer : List PySem.Env} {s : Shared} {H : Hp} {E : XK} : Passes (L2.CX P w) (cxOf (L2.CX P w) P w K mg base N qual scope f cd A outer s H E) E := passes_call takesX fun _ _ _ _ h => h
theorem passOwnX {P : Program} {w : World} {K : Frag} {mg : Str → Option Value} {base : Heap} {N : List Str} {qual : Str} {scope : Scope} {f : Addr} {cd : Value} {A : Around} {outer : List PySem.Env} {s : Shared} {H : Hp} {E : XK} : PassesOwn (model P w) (cxOf (L2.CX P w) P w K mg base N qual scope f cd A outer s H E).A (cxOf (L2.CX P w) P w K mg base N qual scope f cd A outer s H E).env (cxOf (L2.CX P w) P w K mg base N qual scope f cd A outer s H E).xe := passes_of rfl
section
variable {lk : Lk} {m : Md} {T : List (Addr × Str)} {K : Frag} {ta tb : TE} {da db : DExp} {wa : TA} {aa : DArg}
theorem l_raise1 {c f code : Str} (hw : LiftA lk K wa aa) : LiftS lk K (tRaise1 (He.ga K c) f code wa lk.E) (dRaise1 lk.er c f code aa) := fun G σ H ρ Dd D S h k => by
  refine hw G σ H ρ _ _ S h fun vs ds G1 H1 n1 r1 h1 => ?_
  obtain ⟨d, rfl, q⟩ := h1
  cases r1 with
  | @cons v _ _ _ a r =>
    cases r
    refine ⟨v, rfl, fun dd hd => ?_⟩
    have n2 := New.one (m := lk.m) (o := .xd [("code", .str code), (f, v)]) n1.s hd
    exact S.err (n1.trans n2) upd_same (.cons (.str _) (.cons (rp_ex n2.g a) .nil)) q
theorem l_raise0 {c code : Str} : LiftS lk K (tRaise0 (He.ga K c) code lk.E) (dRaise0 lk.er c code) := fun G σ H ρ Dd D S h k => by
  intro dd hd
  have n2 := New.one (m := lk.m) (o := .xd [("code", .str code)]) S.sub hd
  exact S.err n2 upd_same (.cons (.str _) .nil) h
/-! ### __init__ -/
structure NewX (m : Md) (x : Addr) (G H G' H' : Hp) : Prop where
  g : Ex G G'
  h : ∀ a o, a ≠ x → H a = some o → H' a = some o ∨ ∃ ps, o = .tbl ps
  s : Ex G' H'
  n : ∀ a o, G' a = some o → a = x ∨ G a = some o ∨ Free H a ∨ m.p
  t : LamX.Tabs m.T H → LamX.Tabs m.T H'
  q : NoTb G G'
/-- class, fields at the entry, arguments, fields at the end, errors -/
abbrev DFi := Str → List (Str × Dt) → List Dt → (List (Str × Dt) → Prop) → ER → Prop
structure FinI (m : Md) (K : Frag) (c : Str) (x : Addr) (G H : Hp) (Qf : List (Str × Dt) → Prop) (er : ER) (Q : VK) (E : XK) : Prop where
  nx : ∀ fs us dx G' H', NewX m x G H G' H' → G' x = none → H' x = some (.ins (He.ga K c) dx us) → Rfs K G' us fs → Qf fs → Q .non H'
  er : ∀ c fs G' H' d us, NewX m x G H G' H' → G' d = some (.xd us) → Rfs K G' us fs → er c fs → E (.ref (He.ga K c)) (some d) H'
def spI (m : Md) (K : Frag) (dsp : DFi) : Sp := fun vs H Q E => ∃ x dx c ws fs0 G ds0 ds Qf er, vs = .ref x :: ws ∧ H x = some (.ins (He.ga K c) dx fs0) ∧ G x = none ∧ Ex G H ∧ Rfs K G fs0 ds0 ∧ Rps K G ws ds ∧ dsp c ds0 ds Qf er ∧ FinI m K c x G H Qf er Q E
def MkX (m : Md) (K : Frag) (c : Str) (sp : Sp) (dsp : DFx) : Prop := ∀ (G H : Hp) (vs : List V) (ds : List Dt) (F : Fin) (Q : VK) (E : XK), Ex G H → Rps K G vs ds → dsp ds F → FinOk m K G H F Q E → MkOn (He.ga K c) sp E Q vs H
def dspMk (c : Str) (dsp : DFi) : DFx := fun ds F => dsp c [] ds (fun fs => F.rt (.obj c fs)) F.er
theorem free_up {H : Hp} {x dx a : Addr} {o u : HO} (hx : H x = none) (hdx : H dx = none) (h : Free (upd (upd H dx o) x u) a) : Free H a := by
  by_cases e : a = x
  · subst e; exact .inl hx
  · by_cases e2 : a = dx
    · subst e2; exact .inl hdx
    · rcases h with h | ⟨ps, h⟩
      · rw [upd_ne e, upd_ne e2] at h; exact .inl h
      · rw [upd_ne e, upd_ne e2] at h; exact .inr ⟨ps, h⟩
theorem newx_new {G H H1 G' H' : Hp} {x : Addr} {o : HO} (hm : ¬ m.p) (e1 : Ex H H1) (hx : H x = none) (fr : ∀ a, Free H1 a → Free H a) (s : Ex G H) (n : NewX m x G H1 G' H') (hg : G' x = none) (ho : H' x = some o) (hn : ∀ ps, o ≠ .tbl ps := by intro ps z; cases z) : New m G H (upd G' x o) H' := by
  refine ⟨n.g.trans (Evl.Ex.new hg), fun a u h => n.h a u (fun z => by rw [z, hx] at h; cases h) (e1 a u h), ex_upd_of n.s ho, fun a u h => ?_, fun t => n.t (tabs_ex e1 t), n.q.one hn⟩
  by_cases e : a = x
  · subst e; exact .inr (.inl (.inl hx))
  · rw [upd_ne e] at h
    rcases n.n a u h with z | z | z | z
    · exact absurd z e
    · exact .inl z
    · exact .inr (.inl (fr a z))
    · exact absurd z hm
theorem newx_new' {G H H1 G' H' : Hp} {x : Addr} (hm : ¬ m.p) (e1 : Ex H H1) (hx : H x = none) (fr : ∀ a, Free H1 a → Free H a) (s : Ex G H) (n : NewX m x G H1 G' H') : New m G H G' H' := by
  refine ⟨n.g, fun a u h => n.h a u (fun z => by rw [z, hx] at h; cases h) (e1 a u h), n.s, fun a u h => ?_, fun t => n.t (tabs_ex e1 t), n.q⟩
  rcases n.n a u h with z | z | z | z
  · subst z; exact .inr (.inl (.inl hx))
  · exact .inl z
  · exact .inr (.inl (fr a z))
  · exact absurd z hm
theorem ex_make {H : Hp} {x dx : Addr} {o u : HO} (hx : H x = none) (hdx : H dx = none) (hne : dx ≠ x) : Ex H (upd (upd H dx o) x u) := (Evl.Ex.new hdx).trans (Evl.Ex.new (by rw [upd_ne (Ne.symm hne)]; exact hx))
theorem mkX_of {c : Str} {dsp : DFi} (h : m.T = T) : MkX m K c (spI ⟨False, T⟩ K dsp) (dspMk c dsp) := by
  subst h
  intro G H vs ds F Q E s r q k x dx hx hdx hne
  have e1 : Ex H (upd (upd H dx (.own x)) x (.ins (He.ga K c) dx [])) := ex_make hx hdx hne
  have gx : G x = none := Evl.fresh_back s hx
  refine ⟨x, dx, c, vs, [], G, [], ds, _, _, rfl, upd_same, gx, s.trans e1, .nil, r, q, ⟨fun fs us dx' G' H' n g1 h1 rf q => ⟨rfl, ?_⟩, fun c' fs G' H' d us n h1 rf q => ?_⟩⟩
  · have n2 := (newx_new (m := m.np) id e1 hx (fun a => free_up hx hdx) s n g1 h1).wk
    exact k.rt _ _ _ _ n2 (.obj upd_same (rfs_ex (Evl.Ex.new g1) rf)) q
  · have n2 := (newx_new' (m := m.np) id e1 hx (fun a => free_up hx hdx) s n).wk
    exact k.er _ _ _ _ _ _ n2 h1 rf q
/-- with a star parameter behind n values -/
def dspMkS (c : Str) (n : Nat) (dsp : DFi) : DFx := fun ds F => ∃ a r, ds = a ++ r ∧ a.length = n ∧ r.length ≤ 100000 ∧ dsp c [] (a ++ [.tup r]) (fun fs => F.rt (.obj c fs)) F.er
theorem rps_split : ∀ {a r : List Dt} {G : Hp} {vs : List V}, Rps K G vs (a ++ r) → ∃ us ws, vs = us ++ ws ∧ Rps K G us a ∧ Rps K G ws r
  | [], r, G, vs, h => ⟨[], vs, rfl, .nil, h⟩
  | d :: a, r, G, vs, h => by
    cases h with
    | cons x t =>
      obtain ⟨us, ws, rfl, h1, h2⟩ := rps_split (a := a) t
      exact ⟨_, _, rfl, .cons x h1, h2⟩
theorem notb_up {G : Hp} {p a : Addr} {o : HO} {ps : Array Value} (hn : ∀ ps, o ≠ .tbl ps) (h : upd G p o a = some (.tbl ps)) : G a = some (.tbl ps) := ((NoTb.refl G).one hn) a ps h
theorem mkXS_of {c : Str} {n : Nat} {dsp : DFi} (h : m.T = T) : MkX m K c (starSp (n + 1) (spI ⟨False, T⟩ K dsp)) (dspMkS c n dsp) := by
  subst h
  intro G H vs ds F Q E s r q k x dx hx hdx hne
  obtain ⟨a, rr, rfl, hl, hr, q⟩ := q
  obtain ⟨us, ws, rfl, r1, r2⟩ := rps_split r
  refine ⟨.ref x :: us, ws, rfl, by rw [List.length_cons, rps_len r1, hl], sz5 (by rw [rps_len r2]; exact hr), fun p hp => ?_⟩
  have e0 : Ex H (upd (upd H dx (.own x)) x (.ins (He.ga K c) dx [])) := ex_make hx hdx hne
  have e2 := Evl.Ex.new (o := .tup ws) hp
  have e1 := e0.trans e2
  have hpH : H p = none := Evl.fresh_back e0 hp
  have npx : p ≠ x := fun z => by rw [z, upd_same] at hp; cases hp
  have hpn : ∀ ps, HO.tup ws ≠ .tbl ps := fun ps z => by cases z
  have gx : G x = none := Evl.fresh_back s hx
  have gp : G p = none := Evl.fresh_back s hpH
  have eG := Evl.Ex.new (o := HO.tup ws) gp
  have s2 : Ex (upd G p (.tup ws)) (upd (upd (upd H dx (.own x)) x (.ins (He.ga K c) dx [])) p (.tup ws)) := ex_upd (s.trans e0)
  have fr : ∀ a, Free (upd (upd (upd H dx (.own x)) x (.ins (He.ga K c) dx [])) p (.tup ws)) a → Free H a := fun a h => by
    by_cases e : a = p
    · subst e; exact .inl hpH
    · refine free_up (o := .own x) (u := .ins (He.ga K c) dx []) hx hdx ?_
      rcases h with h | ⟨ps, h⟩
      · rw [upd_ne e] at h; exact .inl h
      · rw [upd_ne e] at h; exact .inr ⟨ps, h⟩
  refine ⟨x, dx, c, us ++ [.ref p], [], upd G p (.tup ws), [], a ++ [.tup rr], _, _, rfl, by rw [upd_ne (Ne.symm npx)]; exact upd_same, by rw [upd_ne (Ne.symm npx)]; exact gx, s2, .nil, rps_app (rps_ex eG r1) (.cons (.tup (Evl.st_of upd_same) (rps_ex eG r2)) .nil), q, ⟨fun fs vs' dx' G' H' n g1 h1 rf q => ⟨rfl, ?_⟩, fun c' fs G' H' d vs' n h1 rf q => ?_⟩⟩
  · have n2 : New m.np G H (upd G' x (.ins (He.ga K c) dx' vs')) H' := by
      refine ⟨(eG.trans n.g).trans (Evl.Ex.new g1), fun b u hb => n.h b u (fun z => by rw [z, hx] at hb; cases hb) (e1 b u hb), ex_upd_of n.s h1, fun b u hb => ?_, fun t => n.t (tabs_ex e1 t), NoTb.one (fun b ps hb => notb_up hpn (n.q b ps hb)) ins_tbl⟩
      by_cases e : b = x
      · subst e; exact .inr (.inl (.inl hx))
      · rw [upd_ne e] at hb
        rcases n.n b u hb with z | z | z | z
        · exact absurd z e
        · by_cases e3 : b = p
          · subst e3; exact .inr (.inl (.inl hpH))
          · rw [upd_ne e3] at z; exact .inl z
        · exact .inr (.inl (fr b z))
        · exact z.elim
    exact k.rt _ _ _ _ n2.wk (.obj upd_same (rfs_ex (Evl.Ex.new g1) rf)) q
  · have n2 : New m.np G H G' H' := by
      refine ⟨eG.trans n.g, fun b u hb => n.h b u (fun z => by rw [z, hx] at hb; cases hb) (e1 b u hb), n.s, fun b u hb => ?_, fun t => n.t (tabs_ex e1 t), fun b ps hb => notb_up hpn (n.q b ps hb)⟩
      rcases n.n b u hb with z | z | z | z
      · subst z; exact .inr (.inl (.inl hx))
      · by_cases e3 : b = p
        · subst e3; exact .inr (.inl (.inl hpH))
        · rw [upd_ne e3] at z; exact .inl z
      · exact .inr (.inl (fr b z))
      · exact z.elim
    exact k.er _ _ _ _ _ _ n2.wk h1 rf q
def dMakeX (dsp : DFx) (er : ER) (t : DArg) : DExp := fun ρ Q => t ρ fun ds => dsp ds (finE Q er)
theorem l_makeX {E : XK} {er : ER} (hE : EOk lk K E er) {c : Str} {sp : Sp} {dsp : DFx} (ho : MkX lk.m K c sp dsp) (hw : LiftA lk K wa aa) : LiftE lk K (tMakeR (He.ga K c) sp E wa) (dMakeX dsp er aa) := by
  intro G σ H ρ Qd Q R h k
  refine g_make (hw G σ H ρ _ _ R h fun vs ds G1 H1 n1 r1 h1 => ?_)
  exact ho G1 H1 vs ds _ _ _ n1.s r1 h1 ((fin_e hE R k).new n1)
/-- an __init__'s promise from its word -/
abbrev endsI (c : Str) (Qf : List (Str × Dt) → Prop) : DEnds := ⟨fun ρ => ∃ fs, ρ[0]? = some (some (.o c fs)) ∧ Qf fs, fun _ => False, fun _ => False, fun _ => False, fun _ => False⟩
abbrev lkI (T : List (Addr × Str)) (G H : Hp) (x : Addr) (E : XK) (er : ER) : Lk := ⟨⟨False, T⟩, False, id, False, G, H, some x, E, er⟩
theorem startD_cons (n : Nat) (d : Dt) (ds : List Dt) : startD n (d :: ds) = some (.v d) :: startD (n - 1) ds := by
  unfold startD
  rw [List.map_cons, List.cons_append, List.length_cons]
  congr 3
  omega
theorem fnI {t : XK → TS} {d : ER → DStm} {dsp : DFi} {N : List Str} (l : ∀ lk : Lk, lk.T = T → ¬ lk.p → LiftS lk K (t lk.E) (d lk.er)) (hd : ∀ c ds0 ds Qf er, dsp c ds0 ds Qf er → d er (endsI c Qf) (some (.o c ds0) :: startD (N.length - 1) ds)) (vs : List V) (H : Hp) (Q : VK) (E : XK) (h : spI ⟨False, T⟩ K dsp vs H Q E) :
    t E ⟨fun _ H' => Q .non H', Q, fun _ _ => False, fun _ _ => False⟩ (L2.start N vs) H := by
  obtain ⟨x, dx, c, ws, fs0, G, ds0, ds, Qf, er, rfl, hx, gx, s, rf, r, h, k⟩ := h
  have nw : ∀ {G' H'}, Ex G' H' → Bas (lkI T G H x E er) G' H' → NewX ⟨False, T⟩ x G H G' H' := fun {G' H'} s b => ⟨b.gx, fun a o ha h => b.hb a o (fun z => ha (Option.some.inj z).symm) h, s, fun a o h => by
    rcases b.gn a o h with z | z | z | z
    · exact .inr (.inl z)
    · exact .inr (.inr (.inl z))
    · exact .inl (Option.some.inj z).symm
    · exact z.elim, b.tb, b.gq⟩
  have R1 : Rep0 False K G (L2.start N (.ref x :: ws)) H (some (.o c ds0) :: startD (N.length - 1) ds) := by
    have R2 : Rep0 False K G (L2.start N (.non :: ws)) H (startD N.length (.non :: ds)) := rep0_start s (.cons .non r)
    rw [startD_cons] at R2
    have hno : ∀ j, j ≠ 0 → own ((some (.o c ds0) :: startD (N.length - 1) ds).getD j none) = false := fun j hj => by
      cases j with
      | zero => exact absurd rfl hj
      | succ j => exact own_start _ _ j
    refine ⟨s, by have := R2.len; unfold L2.start at this ⊢; simpa using this, fun i => ?_, fun i j p hne h1 h2 _ _ => ?_, False.elim⟩
    · cases i with
      | zero => exact ⟨x, dx, fs0, by unfold L2.start; rfl, gx, hx, rf⟩
      | succ i =>
        have := R2.at_ (i + 1)
        unfold L2.start at this ⊢
        exact this
    · by_cases e : i = 0
      · subst e
        rw [hno j (Ne.symm hne)] at h2; cases h2
      · rw [hno i e] at h1; cases h1
  have hz : ∀ i p, own ((some (.o c ds0) :: startD (N.length - 1) ds).getD i none) = true → (L2.start N (.ref x :: ws)).getD i none = some (.ref p) → some x = some p := fun i p h1 h2 => by
    cases i with
    | zero =>
      have hσ : (L2.start N (.ref x :: ws)).getD 0 none = some (.ref x) := by unfold L2.start; rfl
      rw [hσ] at h2
      cases h2
      rfl
    | succ i =>
      have := own_start (N.length - 1) ds i
      have h1 : own ((startD (N.length - 1) ds).getD i none) = true := h1
      rw [this] at h1; cases h1
  refine l (lkI T G H x E er) rfl id G _ H _ (endsI c Qf) _ ⟨R1, bas_start rfl rfl, fun G' H' c' fs d us b s h r e => k.er c' fs G' H' d us (nw s b) h r e, False.elim, fun i p h1 h2 => .inr (hz i p h1 h2), fun y hy p h1 h2 => by
      have e : some x = some p := hz 0 p rfl h2
      cases e
      exact Option.some.inj hy⟩ (hd c ds0 ds Qf er h)
    ⟨fun G' σ' H' ρ' e S q => ?_, fun _ _ _ _ _ _ _ _ q => q.elim, fun _ _ _ _ _ _ q => q, fun _ _ _ _ _ _ q => q, fun _ _ _ _ _ _ _ _ _ _ _ _ q => q.elim⟩
  obtain ⟨fs, h0, q⟩ := q
  obtain ⟨p, dx', us, h1, h2, h3, h4⟩ := S.r.obj h0
  have hp : p = x := S.ox x rfl p (by rw [getD_of h0]; rfl) (getD_of h1)
  subst hp
  exact k.nx fs us dx' G' H' (nw S.sub S.bas) h2 h3 h4 q
end
end Dl

set_option Elab.async false
set_option linter.all false
set_option maxRecDepth 100000
set_option maxHeartbeats 3000000
/-! The layer of data, 9: fields of the object that is made, own lists written, new lists dropped, own special methods, properties, f-strings. -/
namespace Dl
open L2 PySem PySem.Spec PyProof.Rows RZ StX Cm
section
variable {lk : Lk} {m : Md} {T : List (Addr × Str)} {K : Frag} {ta tb : TE} {da db : DExp} {wa : TA} {aa : DArg}
/-! ### self.f = e, self.f, in __init__ -/
def dPutF (i : Nat) (cs : List Str) (f : Str) (e : DExp) : DStm := fun D ρ => e ρ fun d => ∃ c fs, ρ[i]? = some (some (.o c fs)) ∧ c ∈ cs ∧ fs.length < 1000 ∧ D.nx (ρ.set i (some (.o c (putD f d fs))))
theorem l_putF {i : Nat} {cs : List Str} {f : Str} (hc : ∀ c ∈ cs, FldOk K c f) (ha : LiftE lk K ta da) : LiftS lk K (sFld K (tVar i) ta f) (dPutF i cs f da) := fun G σ H ρ Dd D S h k => by
  refine ha G σ H ρ _ _ S h fun v d G1 H1 n1 r1 q => ?_
  obtain ⟨c, fs, hi, hcs, hl, q⟩ := q
  have S1 := S.new n1
  obtain ⟨p, dx, us, h1, h2, h3, h4⟩ := S1.r.obj hi
  refine ⟨.ref p, h1, p, _, dx, us, rfl, h3, (hc c hcs).1, (hc c hcs).2, by rw [rfs_len h4]; exact hl, ?_⟩
  have ho : own (ρ.getD i none) = true := by rw [getD_of hi]; rfl
  have hk : SlotOk K G1 (upd H1 p (.ins (He.ga K c) dx (putF f v us))) (some (.ref p)) (some (.o c (putD f d fs))) := ⟨p, dx, _, rfl, h2, upd_same, rfs_put r1 h4⟩
  exact k.nx G1 σ _ _ n1.g (S1.mut ho (getD_of h1) h2 h3 ins_tbl ins_ext rfl (fun _ => by rw [getD_of hi]; rfl) hk) q
def dFldO (i : Nat) (cs : List Str) (f : Str) : DExp := fun ρ Q => ∃ c fs d, ρ[i]? = some (some (.o c fs)) ∧ c ∈ cs ∧ fs.lookup f = some d ∧ Q d
theorem l_fldO {i : Nat} {cs : List Str} {f : Str} (hc : ∀ c ∈ cs, FldOk K c f) : LiftE lk K (tFld K (tVar i) f) (dFldO i cs f) := by
  intro G σ H ρ Qd Q R h k
  obtain ⟨c, fs, d, hi, hcs, hl, q⟩ := h
  obtain ⟨p, dx, us, h1, h2, h3, h4⟩ := R.r.obj hi
  obtain ⟨v, h5, h6⟩ := rfs_look h4 hl
  exact ⟨.ref p, h1, p, _, dx, us, v, rfl, h3, (hc c hcs).1, (hc c hcs).2, h5, k v d G H (New.refl R.sub) h6 q⟩
/-! ### x[i] = e, x an own list -/
def dSetI (i : Nat) (x e : DExp) : DStm := fun D ρ => ∃ ds, ρ[i]? = some (some (.l ds)) ∧ e ρ fun d => x ρ fun n => ∃ k j, n = .int k ∧ ixN ds.length k = some j ∧ D.nx (ρ.set i (some (.l (ds.set j d))))
theorem l_setI {i : Nat} (hx : LiftE lk K tb db) (ha : LiftE lk K ta da) : LiftS lk K (tAsg ta (gSub (tVar i) tb rSetL)) (dSetI i db da) := fun G σ H ρ Dd D S h k => by
  obtain ⟨ds, hi, h⟩ := h
  obtain ⟨p, xs, h1, h2, h3, h4⟩ := S.r.lst hi
  refine ha G σ H ρ _ _ S h fun v d G1 H1 n1 r1 q => ?_
  have S1 := S.new n1
  refine ⟨.ref p, h1, hx G1 σ H1 ρ _ _ S1 q fun n z G2 H2 n2 r2 q2 => ?_⟩
  obtain ⟨k', j, rfl, hj, q2⟩ := q2
  have S2 := S1.new n2
  have n12 := n1.trans n2
  have hG2 : G2 p = none := new_none (rep_p S hi rfl) n12 h2 h3 lst_tbl
  have hH2 := n12.h.get h3 lst_tbl
  cases r2
  refine ⟨p, xs, k', j, rfl, rfl, hH2, by rw [rps_len h4]; exact hj, ?_⟩
  have ho : own (ρ.getD i none) = true := by rw [getD_of hi]; rfl
  have hk : SlotOk K G2 (upd H2 p (.lst (xs.set j v))) (some (.ref p)) (some (.l (ds.set j d))) := ⟨p, _, rfl, hG2, upd_same, rps_set j (rps_ex n12.g h4) (rp_ex n2.g r1)⟩
  exact k.nx G2 σ _ _ n12.g (S2.mut ho (getD_of h1) hG2 hH2 lst_tbl lst_ext rfl (by intro z; cases z) hk) q2
/-! ### a new list, written and dropped -/
theorem new_drop {G H G1 H1 : Hp} {p : Addr} {xs ys : List V} (n : New m G H G1 H1) (hp : Free H p) (hg : G1 p = none) (hx : H1 p = some (.lst xs)) : New m G H G1 (upd H1 p (.lst ys)) := by
  refine ⟨n.g, Exh.mut n.h hp, fun a o h => ?_, n.n, fun t => tabs_mut hx lst_tbl lst_ext (n.t t), n.q⟩
  have : a ≠ p := fun z => by rw [z, hg] at h; cases h
  rw [upd_ne this]; exact n.s _ _ h
def dDropL (e : DArg) : DStm := fun D ρ => e ρ fun _ => D.nx ρ
theorem l_clearL (ha : LiftEL lk K ta aa) : LiftS lk K (tDrop (tBM0 K "list" rClear ta)) (dDropL aa) := fun G σ H ρ Dd D S h k => by
  refine ha G σ H ρ _ _ S h fun p xs ds G1 H1 n1 hp hg hx r q => ?_
  have n2 := new_drop (ys := []) n1 hp hg hx
  exact ⟨Or.inl ⟨rfl, _, Evl.sq_of hx⟩, p, xs, rfl, rfl, hx, k.nx G1 σ _ ρ n1.g (S.new n2) q⟩
/-! ### own special methods -/
structure OwnSp (P : Program) (w : World) (K : Frag) (mg : Str → Option Value) (base : Heap) (CX : CXT) (k : Nat) (C : Addr) (m : Str) (sp : Sp) : Prop where
  ex : ∃ f : Addr, FnR P w K mg base CX k f sp ∧ PySem.W.findIn K (.ref C) m = some (some (.ref f)) ∧ PySem.W.isFn K (.ref f) = true
def rOwn1 (C : Addr) (sp : Sp) (E : XK) (R : V → Hp → VK → Prop) : List V → Hp → VK → Prop := fun xs H Q => ∃ a dx fs, xs = [.ref a] ∧ H a = some (.ins C dx fs) ∧ sp [.ref a] H (fun v H' => R v H' Q) E
def rNat : V → Hp → VK → Prop := fun v H Q => ∃ n : Nat, v = .int n ∧ n < 100000000 ∧ Q (.int n) H
def rTxt : V → Hp → VK → Prop := fun v H Q => ∃ x : Str, v = .str x ∧ Q (.str x) H
def rBol (neg : Bool) : V → Hp → VK → Prop := fun v H Q => ∃ b : Bool, v = .bl b ∧ Q (.bl (neg != b)) H
section
variable {X : Cx} {CX : CXT} {k : Nat} {C : Addr} {sp : Sp} {E : XK}
theorem env_in1 {pins : List (Addr × Obj)} {σ : L2.St} {H : Hp} {s : Shared} (I : Inv X pins σ H s) : Env0 X.prog X.w X.K X.mg X.base X.A.in1 X.stack s H := by
  have e := I.env0
  exact ⟨e.frames, e.mod, e.bs, e.bsz, e.funs, e.frf, e.hok, e.bare⟩
theorem call_lenO (M : OwnSp X.prog X.w X.K X.mg X.base CX k C "__len__" sp) (hr : Room (k + 1) X.A) (hx : Passes CX X E) : CallR X (.builtin "len") (rOwn1 C sp E rNat) := by
  intro pins s σ H xs us Q I r h
  obtain ⟨f, F, h1, h2⟩ := M.ex
  obtain ⟨a, dx, fs, rfl, ha, hsp⟩ := h
  cases r with
  | cons ra r =>
    cases r
    cases ra
    obtain ⟨mA, J, _⟩ := ins_get I.hok ha
    obtain ⟨od, J, _⟩ := J.look
    obtain ⟨m, hF⟩ := I.fr
    refine PySem.W.len_K hF I.ok.mod.kin J h1 h2 ?_
    refine wpAny_call (codeAny_mono (F X.A.in1 X.stack s H [.ref a] [.ref a] _ E hr.in1 (env_in1 I) (.cons rfl .nil) hsp) fun r s' hq => ?_)
    cases r with
    | error e => exact hx pins σ H s e s' I hq
    | ok fl =>
      cases fl with
      | ret w =>
        obtain ⟨z, H', I', rz, n, ez, hn, q⟩ := I.after hq
        subst ez
        obtain ⟨t, rfl⟩ := rz
        exact ⟨⟨Int.natCast_nonneg _, by omega⟩, .int n, H', I'.tok _, ⟨_, rfl⟩, q⟩
      | next => exact False.elim hq
      | brk => exact False.elim hq
      | cont => exact False.elim hq
theorem call_reprO (M : OwnSp X.prog X.w X.K X.mg X.base CX k C "__repr__" sp) (hr : Room (k + 1) X.A) (hx : Passes CX X E) : CallR X (.builtin "repr") (rOwn1 C sp E rTxt) := by
  intro pins s σ H xs us Q I r h
  obtain ⟨f, F, h1, h2⟩ := M.ex
  obtain ⟨a, dx, fs, rfl, ha, hsp⟩ := h
  cases r with
  | cons ra r =>
    cases r
    cases ra
    obtain ⟨mA, J, _⟩ := ins_get I.hok ha
    obtain ⟨od, J, _⟩ := J.look
    obtain ⟨m, hF⟩ := I.fr
    have hu : X.A.in1.units < cLine := hr.in1.units0
    refine PySem.W.repr_K hu hF I.ok.mod.kin J h1 h2 ?_
    refine wpAny_call (codeAny_mono (F X.A.in1 X.stack s H [.ref a] [.ref a] _ E hr.in1 (env_in1 I) (.cons rfl .nil) hsp) fun r s' hq => ?_)
    cases r with
    | error e => exact hx pins σ H s e s' I hq
    | ok fl =>
      cases fl with
      | ret w =>
        obtain ⟨z, H', I', rz, x, ez, q⟩ := I.after hq
        subst ez
        obtain ⟨t, rfl⟩ := rz
        exact ⟨.str x, H', I', ⟨_, rfl⟩, q⟩
      | next => exact False.elim hq
      | brk => exact False.elim hq
      | cont => exact False.elim hq
def rOwnIn (neg : Bool) (C : Addr) (sp : Sp) (E : XK) : R2 := fun x y H Q => ∃ a dx fs, y = .ref a ∧ H a = some (.ins C dx fs) ∧ sp [.ref a, x] H (fun v H' => rBol neg v H' Q) E
theorem op_inO (M : OwnSp X.prog X.w X.K X.mg X.base CX k C "__contains__" sp) (hr : Room k X.A) (hx : Passes CX X E) : OpR X (compareOp .In) (rOwnIn false C sp E) := by
  intro pins s σ H x y v u Q I rx ry h
  obtain ⟨f, F, h1, h2⟩ := M.ex
  obtain ⟨a, dx, fs, rfl, ha, hsp⟩ := h
  cases ry
  obtain ⟨mA, J, _⟩ := ins_get I.hok ha
  obtain ⟨od, J, _⟩ := J.look
  obtain ⟨m, hF⟩ := I.fr
  refine PySem.W.in_K hF I.ok.mod.kin J h1 h2 ?_
  refine wpAny_call (codeAny_mono (F X.A X.stack s H [.ref a, v] [.ref a, x] _ E hr I.env0 (.cons rfl (.cons rx .nil)) hsp) fun r s' hq => ?_)
  cases r with
  | error e => exact hx pins σ H s e s' I hq
  | ok fl =>
    cases fl with
    | ret w =>
      obtain ⟨z, H', I', rz, b, ez, q⟩ := I.after hq
      subst ez
      cases rz
      refine wpAny_truthy_bool ⟨.bl b, H', I', rfl, by simpa using q⟩
    | next => exact False.elim hq
    | brk => exact False.elim hq
    | cont => exact False.elim hq
theorem op_notInO (M : OwnSp X.prog X.w X.K X.mg X.base CX k C "__contains__" sp) (hr : Room k X.A) (hx : Passes CX X E) : OpR X (compareOp .NotIn) (rOwnIn true C sp E) := by
  intro pins s σ H x y v u Q I rx ry h
  obtain ⟨f, F, h1, h2⟩ := M.ex
  obtain ⟨a, dx, fs, rfl, ha, hsp⟩ := h
  cases ry
  obtain ⟨mA, J, _⟩ := ins_get I.hok ha
  obtain ⟨od, J, _⟩ := J.look
  obtain ⟨m, hF⟩ := I.fr
  refine PySem.W.notIn_K hF I.ok.mod.kin J h1 h2 ?_
  refine wpAny_call (codeAny_mono (F X.A X.stack s H [.ref a, v] [.ref a, x] _ E hr I.env0 (.cons rfl (.cons rx .nil)) hsp) fun r s' hq => ?_)
  cases r with
  | error e => exact hx pins σ H s e s' I hq
  | ok fl =>
    cases fl with
    | ret w =>
      obtain ⟨z, H', I', rz, b, ez, q⟩ := I.after hq
      subst ez
      cases rz
      refine wpAny_truthy_bool ⟨.bl (!b), H', I', rfl, by simpa using q⟩
    | next => exact False.elim hq
    | brk => exact False.elim hq
    | cont => exact False.elim hq
end
/-- without an error -/
abbrev no : ER := fun _ _ => False
theorem fin_no {G H : Hp} {Qd : Dt → Prop} {Q : VK} {E : XK} (k : ∀ v d G' H', New m G H G' H' → Rp K G' v d → Qd d → Q v H') : FinOk m K G H (finE Qd no) Q E :=
  ⟨k, fun p xs ds G' H' n hp hg hx r q => k _ _ _ _ (new_frz n hp hg hx) (.lst upd_same (rps_ex (Evl.Ex.new hg) r)) q, fun c fs G' H' d us n h r e => e.elim⟩
def dOwn1 (c : Str) (dsp : DFx) (R : Dt → (Dt → Prop) → Prop) : DFn := fun ds Q => ∃ fs, ds = [.obj c fs] ∧ dsp ds (finE (fun z => R z Q) no)
def dNat (z : Dt) (Q : Dt → Prop) : Prop := ∃ n : Nat, z = .int n ∧ n < 100000000 ∧ Q (.int n)
def dTxt (z : Dt) (Q : Dt → Prop) : Prop := ∃ x : Str, z = .str x ∧ Q (.str x)
theorem o_own1 {c : Str} {sp : Sp} {dsp : DFx} {R : V → Hp → VK → Prop} {Rd : Dt → (Dt → Prop) → Prop} (ho : SpX m K sp dsp) (hR : ∀ (G H : Hp) (v : V) (d : Dt) (Qd : Dt → Prop) (Q : VK), Ex G H → Rp K G v d → Rd d Qd → (∀ v d, Rp K G v d → Qd d → Q v H) → R v H Q) : OpN m K (rOwn1 (He.ga K c) sp C8.E0 R) (dOwn1 c dsp Rd) := by
  intro G H xs ds Qd Q s r q k
  obtain ⟨fs, rfl, q⟩ := q
  have r0 := r
  cases r with
  | cons a r =>
    cases r
    cases a with
    | @obj a dx _ vs _ h1 r1 =>
      refine ⟨a, dx, vs, rfl, s _ _ h1, ho G H _ _ _ _ _ s r0 q (fin_no fun v d G' H' n r q => ?_)⟩
      exact hR G' H' v d Qd Q n.s r q fun v d r q => k v d G' H' n r q
theorem hR_nat (G H : Hp) (v : V) (d : Dt) (Qd : Dt → Prop) (Q : VK) (s : Ex G H) (r : Rp K G v d) (q : dNat d Qd) (k : ∀ v d, Rp K G v d → Qd d → Q v H) : rNat v H Q := by
  obtain ⟨n, rfl, hn, q⟩ := q
  cases r
  exact ⟨n, rfl, hn, k _ _ (.int _) q⟩
theorem hR_txt (G H : Hp) (v : V) (d : Dt) (Qd : Dt → Prop) (Q : VK) (s : Ex G H) (r : Rp K G v d) (q : dTxt d Qd) (k : ∀ v d, Rp K G v d → Qd d → Q v H) : rTxt v H Q := by
  obtain ⟨x, rfl, q⟩ := q
  cases r
  exact ⟨x, rfl, k _ _ (.str _) q⟩
def dOwnIn (neg : Bool) (c : Str) (dsp : DFx) : D2R := fun x y Q => ∃ fs, y = .obj c fs ∧ dsp [y, x] (finE (fun z => ∃ b, z = .bl b ∧ Q (.bl (neg != b))) no)
theorem o_ownIn {neg : Bool} {c : Str} {sp : Sp} {dsp : DFx} (ho : SpX m K sp dsp) : Op2 m K (rOwnIn neg (He.ga K c) sp C8.E0) (dOwnIn neg c dsp) := by
  intro G H x y d e Qd Q s rx ry q k
  obtain ⟨fs, rfl, q⟩ := q
  have ry0 := ry
  cases ry with
  | @obj a dx _ vs _ h1 r1 =>
    refine ⟨a, dx, vs, rfl, s _ _ h1, ho G H _ _ _ _ _ s (.cons ry0 (.cons rx .nil)) q (fin_no fun v d G' H' n r q => ?_)⟩
    obtain ⟨b, rfl, q⟩ := q
    exact ⟨b, rp_bl r, k _ _ G' H' n (.bl _) q⟩
/-- own ==, a def with ends -/
def dOwnX (neg : Bool) (c : Str) (dsp : DFx) : D2R := fun x y Q => ∃ fs, x = .obj c fs ∧ ((∃ gs, y = .obj c gs) ∨ ∃ e, pyd y = some e) ∧ dsp [x, y] (finE (fun z => ∃ b, z = .bl b ∧ Q (.bl (neg != b))) no)
theorem o_ownXE {c : Str} {sp : Sp} {dsp : DFx} (ho : SpX m K sp dsp) : Op2 m K (rOwnE K (He.ga K c) sp C8.E0) (dOwnX false c dsp) := by
  intro G H x y d e Qd Q s rx ry q k
  obtain ⟨fs, rfl, hb, q⟩ := q
  have rx0 := rx
  cases rx with
  | @obj a dx _ vs _ h1 r1 =>
    refine ⟨a, dx, vs, rfl, s _ _ h1, beside_of s ry hb, ho G H _ _ _ _ _ s (.cons rx0 (.cons ry .nil)) q (fin_no fun v d' G' H' n r q => ?_)⟩
    obtain ⟨b, rfl, q⟩ := q
    refine ⟨b, rp_bl r, k _ _ G' H' n (.bl b) (by simpa using q)⟩
theorem o_ownXN {c : Str} {sp : Sp} {dsp : DFx} (ho : SpX m K sp dsp) : Op2 m K (rOwnN K (He.ga K c) sp C8.E0) (dOwnX true c dsp) := by
  intro G H x y d e Qd Q s rx ry q k
  obtain ⟨fs, rfl, hb, q⟩ := q
  have rx0 := rx
  cases rx with
  | @obj a dx _ vs _ h1 r1 =>
    refine ⟨a, dx, vs, rfl, s _ _ h1, beside_of s ry hb, ho G H _ _ _ _ _ s (.cons rx0 (.cons ry .nil)) q (fin_no fun v d' G' H' n r q => ?_)⟩
    obtain ⟨b, rfl, q⟩ := q
    refine ⟨b, rp_bl r, k _ _ G' H' n (.bl _) (by simpa using q)⟩
/-! ### properties -/
def dProp (c : Str) (dsp : DFx) (a : DExp) : DExp := fun ρ Q => a ρ fun x => ∃ fs, x = .obj c fs ∧ dsp [x] (finE Q no)
theorem l_prop {c : Str} {sp : Sp} {dsp : DFx} (ho : SpX lk.m K sp dsp) (ha : LiftE lk K ta da) : LiftE lk K (tProp (He.ga K c) sp [] C8.E0 ta) (dProp c dsp da) := by
  intro G σ H ρ Qd Q R h k
  refine ha G σ H ρ _ _ R h fun x d G1 H1 n1 r1 h1 => ?_
  obtain ⟨fs, rfl, q⟩ := h1
  have r0 := r1
  cases r1 with
  | @obj a dx _ vs _ h2 r2 =>
    exact ⟨a, dx, vs, rfl, n1.s _ _ h2, ho G1 H1 _ _ _ _ _ n1.s (.cons r0 .nil) q (fin_no fun v d' G' H' n r q => k v d' G' H' (n1.trans n) r q)⟩
/-- the class has the name as a property -/
structure Prp (P : Program) (w : World) (K : Frag) (mg : Str → Option Value) (base : Heap) (CX : CXT) (k : Nat) (C : Addr) (f : Str) (sp : Sp) : Prop where
  ex : ∃ (p g : Addr) (fd : FuncData), PropOf K C f p g ∧ FnOk P w K mg base CX k g fd ["self"] sp ∧ Binds K fd ["self"] []
theorem pe_prp {X : Cx} {CX : CXT} {k j : Nat} {C : Addr} {f : Str} {sp : Sp} {E : XK} {e : Expr} {pos : Pos} {ta : TE} (he : PE X e ta) (c : Cls X.K C) (M : Prp X.prog X.w X.K X.mg X.base CX k C f sp) (hr : Room j X.A) (hk : k + 1 ≤ j) (hx : Passes CX X.nox E) (hab : attributeBase e f X.env (eval e X.env) = eval e X.env := by rfl) : PE X (.Attribute e f pos) (tProp C sp [] E ta) := by
  obtain ⟨p, g, fd, hp, F, b⟩ := M.ex
  exact pe_prop he c hp F (hr.mono hk) b .nil hx hab
/-! ### texts -/
def dFmt (a : DExp) : DExp := fun ρ Q => a ρ fun x => (∃ y : Str, x = .str y ∧ y.length ≤ 100000 ∧ Q (.str y)) ∨ ∃ i : Int, x = .int i ∧ i.natAbs.log2 < 1920 ∧ Q (.str (toString i))
theorem l_fmt (ha : LiftE lk K ta da) : LiftE lk K (tFmt ta) (dFmt da) := by
  intro G σ H ρ Qd Q R h k
  refine ha G σ H ρ _ _ R h fun x d G1 H1 n1 r1 h1 => ?_
  rcases h1 with ⟨y, rfl, hl, q⟩ | ⟨i, rfl, hl, q⟩
  · cases r1
    exact Or.inl ⟨y, rfl, sz5 hl, k _ _ G1 H1 n1 (.str _) q⟩
  · cases r1
    exact Or.inr ⟨i, rfl, hl, k _ _ G1 H1 n1 (.str _) q⟩
def dJs : List DExp → Str → Env → (Str → Prop) → Prop
  | [], acc, _, Q => Q acc
  | t :: ts, acc, ρ, Q => t ρ fun x => ∃ y : Str, x = .str y ∧ (acc ++ y).length ≤ 100000 ∧ dJs ts (acc ++ y) ρ Q
def dJoin (ts : List DExp) : DExp := fun ρ Q => dJs ts Str.empty ρ fun x => Q (.str x)
inductive LiftJ (lk : Lk) (K : Frag) : List TE → List DExp → Prop
  | nil : LiftJ lk K [] []
  | cons {t : TE} {d : DExp} {ts : List TE} {ds : List DExp} : LiftE lk K t d → LiftJ lk K ts ds → LiftJ lk K (t :: ts) (d :: ds)
theorem js_run {ts : List TE} {ds : List DExp} (l : LiftJ lk K ts ds) : ∀ (acc : Str) (G : Hp) (σ : L2.St) (H : Hp) (ρ : Env) (Qd : Str → Prop) (Q : Str → Hp → Prop), Rep lk K G σ H ρ → dJs ds acc ρ Qd → (∀ x G' H', New lk.m G H G' H' → Qd x → Q x H') → tJs ts acc σ H Q := by
  induction l with
  | nil => intro acc G σ H ρ Qd Q R h k; exact k acc G H (New.refl R.sub) h
  | @cons t d ts ds h1 _ ih =>
    intro acc G σ H ρ Qd Q R h k
    refine h1 G σ H ρ _ _ R h fun x e G1 H1 n1 r1 q => ?_
    obtain ⟨y, rfl, hl, q⟩ := q
    cases r1
    exact ⟨y, rfl, sz5 hl, ih _ G1 σ H1 ρ _ _ (R.new n1) q fun x G' H' n q => k x G' H' (n1.trans n) q⟩
abbrev tJoin (ts : List TE) : TE := fun σ H Q => tJs ts Str.empty σ H fun out H1 => Q (.str out) H1
theorem l_join {ts : List TE} {ds : List DExp} (l : LiftJ lk K ts ds) : LiftE lk K (tJoin ts) (dJoin ds) := by
  intro G σ H ρ Qd Q R h k
  exact js_run l _ G σ H ρ _ _ R h fun x G' H' n q => k _ _ G' H' n (.str x) q
def rStrI : List V → Hp → VK → Prop := fun xs H Q => ∃ i, xs = [.int i] ∧ i.natAbs.log2 < 1920 ∧ Q (.str (toString i)) H
def dStrI : DFn := fun ds Q => ∃ i : Int, ds = [.int i] ∧ i.natAbs.log2 < 1920 ∧ Q (.str (toString i))
theorem o_strI : OpN m K rStrI dStrI := by
  intro G H xs ds Qd Q s r q k
  obtain ⟨i, rfl, hl, q⟩ := q
  cases r with
  | cons a r => cases r; cases a; exact ⟨i, rfl, hl, k _ _ G H (New.refl s) (.str _) q⟩
theorem cr_strI {X : Cx} : CallR X (.type "str") rStrI := call_str_int
/-! ### x[::-1] -/
def dRevL (a : DExp) : DExp := fun ρ Q => a ρ fun x => ∃ l, x = .lst l ∧ Q (.lst l.reverse)
theorem rps_rev {G : Hp} : ∀ {vs : List V} {ds : List Dt}, Rps K G vs ds → Rps K G vs.reverse ds.reverse
  | _, _, .nil => .nil
  | _, _, .cons a t => by rw [List.reverse_cons, List.reverse_cons]; exact rps_app (rps_rev t) (.cons a .nil)
theorem l_revL (ha : LiftE lk K ta da) : LiftE lk K (tRevL K ta) (dRevL da) := by
  intro G σ H ρ Qd Q R h k
  refine ha G σ H ρ _ _ R h fun x d G1 H1 n1 r1 h1 => ?_
  obtain ⟨l, rfl, q⟩ := h1
  cases r1 with
  | @lst a xs _ h2 r2 =>
    refine ⟨a, xs, rfl, Evl.sq_of (n1.s _ _ h2), fun p hp => ?_⟩
    have n2 := New.one (m := lk.m) (o := .lst xs.reverse) n1.s hp
    exact k _ _ _ _ (n1.trans n2) (.lst upd_same (rps_ex n2.g (rps_rev r2))) q
end
end Dl

set_option Elab.async false
set_option linter.all false
set_option maxRecDepth 100000
set_option maxHeartbeats 9000000
/-! The program's errors over data. -/
namespace Dl
open L2 PySem PySem.Spec PyProof.Rows RZ StX Cm
def errs : List (Str × Option Str) := [("InvalidName", some "given"), ("InvalidNumber", some "given"), ("InvalidPlace", some "given"), ("InvalidCount", some "given"), ("InvalidWatch", some "at"), ("InvalidSight", some "at"), ("InvalidBelt", some "given"), ("InvalidBody", some "at"), ("InvalidStanding", some "at"), ("InvalidRow", some "at"), ("InvalidHushLimit", none), ("InvalidMove", some "given"), ("InvalidHarm", some "given"), ("InvalidFault", some "given"), ("InvalidText", some "line"), ("InvalidDeed", some "index"), ("DuplicateName", some "name"), ("NoValues", none), ("NotPossible", some "given"), ("Ended", none), ("TooMany", some "most"), ("UnknownName", some "name"), ("UnknownClock", some "given"), ("NothingLeft", none)]
def fsD (a : Dt) (p : Str × Option Str) : List (Str × Dt) := ("code", .str p.1) :: (match p.2 with | some f => [(f, a)] | none => [])
@[reducible] def excD (a : Dt) (p : Str × Option Str) : Dt := .exc p.1 (fsD a p)
def fldD (a : Dt) (p : Str × Option Str) : Dt := match p.2 with
  | some _ => a
  | none => .non
theorem d_in {x : Dt} {l : List Dt} {k : Bool} {Q : Dt → Prop} (h0 : scalD x = true) (h1 : l.all scalD = true) (h2 : (l.all fun d => (scals d x).isSome) = true) (h3 : (l.any fun d => scals d x == some true) = k) (q : Q (.bl k)) : dIn2 x (.lst l) Q := by
  refine ⟨l, rfl, Or.inl ⟨h0, h1, fun d hd => List.all_eq_true.mp h2 d hd, fun b hb => ?_⟩⟩
  have e : b = k := by
    rw [← h3, Bool.eq_iff_iff, hb, List.any_eq_true]
    simp only [beq_iff_eq]
  rw [e]; exact q
end Dl

set_option Elab.async false
set_option linter.all false
set_option maxRecDepth 100000
set_option maxHeartbeats 9000000
/-! law_field, handed the error that a suite holds. -/
local macro_rules | `(tactic| walk_at "d1") => `(tactic| with_reducible (first | refine Dl.d_seq ?_ | refine Dl.d_asg ?_ | refine Dl.d_name ?_ | refine Dl.d_cons ?_ | refine Dl.d_nil ?_ | refine Dl.d_c ?_ | refine Dl.d_op ?_ | refine Dl.d_call ?_ | refine Dl.d_meth ?_ | refine Dl.d_ret ?_ | refine Dl.d_next ?_ | refine Dl.d_ifS ?_ | refine Dl.d_tst ?_ | refine Dl.d_cb ?_ | refine Dl.d_un ?_ | refine Dl.d_k ?_ | refine Dl.d_i ?_ | refine Dl.d_l ?_ | refine Dl.d_t ?_ | refine Dl.d_iteT ?_ | refine Dl.d_iteF ?_ | refine Dl.d_not ?_ | refine Dl.d_and ?_ | refine Dl.d_or ?_ | refine Dl.d_andV ?_ | refine Dl.d_orV ?_ | refine Dl.d_notV ?_ | refine Dl.d_if ?_ | refine Dl.d_chain ?_ | refine Dl.d_lst ?_ | refine Dl.d_tup ?_ | refine Dl.d_new ?_ | refine Dl.d_for ?_ | refine Dl.d_items ?_ | refine Dl.d_itemsT ?_ | refine Dl.d_rng1 ?_ | refine Dl.d_enum ?_ | refine Dl.d_yes ?_ | refine Dl.d_addI ?_ | refine Dl.d_subI ?_ | refine Dl.d_ltI ?_ | refine Dl.d_leI ?_ | refine Dl.d_gtI ?_ | refine Dl.d_geI ?_ | refine Dl.d_negI ?_ | refine Dl.d_eqI ?_ | refine Dl.d_neI ?_ | refine Dl.d_eqB ?_ | refine Dl.d_neB ?_ | refine Dl.d_eqS ?_ | refine Dl.d_neS ?_ | refine Dl.d_isN ?_ | refine Dl.d_isnN ?_ | refine Dl.d_lenL ?_ | refine Dl.d_lenT ?_ | refine Dl.d_ix0 ?_ | refine Dl.d_ix1 ?_ | refine Dl.d_ix2 ?_ | refine Dl.d_ix3 ?_ | refine Dl.d_sl ?_ | refine Dl.d_slL ?_ | refine Dl.d_slT ?_ | refine Dl.d_intI ?_ | refine Dl.d_listL ?_ | refine Dl.d_listT ?_ | refine Dl.d_tupleL ?_ | refine Dl.d_tupleT ?_ | refine Dl.d_noPart ?_ | refine Dl.d_part ?_ | refine Dl.d_ofL ?_ | refine Dl.d_lcL ?_ | refine Dl.d_make ?_ | refine Dl.d_fld ?_ | refine Dl.d_drop ?_ | refine Dl.d_retN ?_ | refine Dl.d_par ?_ | refine Dl.d_frz ?_ | refine Dl.d_asgL ?_ | refine Dl.d_lstL ?_ | refine Dl.d_etup2 ?_ | refine Dl.d_callN ?_ | refine Dl.d_iteD ?_ | refine Dl.d_iteNF ?_ | refine Dl.d_iteNT ?_ | refine Dl.d_rng2 ?_ | refine Dl.d_star ?_ | refine Dl.d_ow ?_))
local macro_rules | `(tactic| walk_at "dz") => `(tactic| dsimp only [List.set_cons_zero, List.set_cons_succ, Dl.wipeD])
local macro_rules | `(tactic| walk_at "dr") => `(tactic| (try walk_at "dz") <;> repeat (first | ((walk_at "d1"); try walk_at "dz") | ((with_reducible apply Dl.d_var); focus exact rfl) | ((with_reducible refine Dl.d_onM ?_ ?_); focus exact rfl)))
namespace Dl
open L2 PySem PySem.Spec PyProof.Rows RZ StX Cm
def dh_law_field (a d : Addr) (c : Str) : DStm := (dSeq (dIfS (dTst (dOp dIn2 (dXfp a d c (dVar 0) "code") (dLst (dCons (dC (.str "InvalidName")) (dCons (dC (.str "InvalidNumber")) (dCons (dC (.str "InvalidPlace")) (dCons (dC (.str "InvalidCount")) (dCons (dC (.str "InvalidBelt")) (dCons (dC (.str "InvalidMove")) (dCons (dC (.str "InvalidHarm")) (dCons (dC (.str "InvalidFault")) (dCons (dC (.str "NotPossible")) (dCons (dC (.str "UnknownClock")) dNil))))))))))))) (dRet (dXfp a d c (dVar 0) "given")) dNext) (dSeq (dIfS (dTst (dOp dIn2 (dXfp a d c (dVar 0) "code") (dLst (dCons (dC (.str "InvalidWatch")) (dCons (dC (.str "InvalidSight")) (dCons (dC (.str "InvalidBody")) (dCons (dC (.str "InvalidStanding")) (dCons (dC (.str "InvalidRow")) dNil)))))))) (dRet (dXfp a d c (dVar 0) "at")) dNext) (dSeq (dIfS (dTst (dOp dIn2 (dXfp a d c (dVar 0) "code") (dLst (dCons (dC (.str "DuplicateName")) (dCons (dC (.str "UnknownName")) dNil))))) (dRet (dXfp a d c (dVar 0) "name")) dNext) (dSeq (dIfS (dTst (dOp (dEq false) (dXfp a d c (dVar 0) "code") (dC (.str "TooMany")))) (dRet (dXfp a d c (dVar 0) "most")) dNext) (dSeq (dIfS (dTst (dOp (dEq false) (dXfp a d c (dVar 0) "code") (dC (.str "InvalidDeed")))) (dRet (dXfp a d c (dVar 0) "index")) dNext) (dRet (dIf (dTst (dOp (dEq false) (dXfp a d c (dVar 0) "code") (dC (.str "InvalidText")))) (dXfp a d c (dVar 0) "line") (dC .non))))))))
def th_law_field (K : Frag) (a d : Addr) (c : Str) : TS := (tSeq (tIfS (tTest (tOp (xIn K) (tXf a (.ref (He.ga K c)) (some d) (He.ga K c) "code" (tVar 0)) (tLst (tCons (tC (.str "InvalidName")) (tCons (tC (.str "InvalidNumber")) (tCons (tC (.str "InvalidPlace")) (tCons (tC (.str "InvalidCount")) (tCons (tC (.str "InvalidBelt")) (tCons (tC (.str "InvalidMove")) (tCons (tC (.str "InvalidHarm")) (tCons (tC (.str "InvalidFault")) (tCons (tC (.str "NotPossible")) (tCons (tC (.str "UnknownClock")) tNil))))))))))))) (tRet (tXf a (.ref (He.ga K c)) (some d) (He.ga K c) "given" (tVar 0))) tNext) (tSeq (tIfS (tTest (tOp (xIn K) (tXf a (.ref (He.ga K c)) (some d) (He.ga K c) "code" (tVar 0)) (tLst (tCons (tC (.str "InvalidWatch")) (tCons (tC (.str "InvalidSight")) (tCons (tC (.str "InvalidBody")) (tCons (tC (.str "InvalidStanding")) (tCons (tC (.str "InvalidRow")) tNil)))))))) (tRet (tXf a (.ref (He.ga K c)) (some d) (He.ga K c) "at" (tVar 0))) tNext) (tSeq (tIfS (tTest (tOp (xIn K) (tXf a (.ref (He.ga K c)) (some d) (He.ga K c) "code" (tVar 0)) (tLst (tCons (tC (.str "DuplicateName")) (tCons (tC (.str "UnknownName")) tNil))))) (tRet (tXf a (.ref (He.ga K c)) (some d) (He.ga K c) "name" (tVar 0))) tNext) (tSeq (tIfS (tTest (tOp (xEq K) (tXf a (.ref (He.ga K c)) (some d) (He.ga K c) "code" (tVar 0)) (tC (.str "TooMany")))) (tRet (tXf a (.ref (He.ga K c)) (some d) (He.ga K c) "most" (tVar 0))) tNext) (tSeq (tIfS (tTest (tOp (xEq K) (tXf a (.ref (He.ga K c)) (some d) (He.ga K c) "code" (tVar 0)) (tC (.str "InvalidDeed")))) (tRet (tXf a (.ref (He.ga K c)) (some d) (He.ga K c) "index" (tVar 0))) tNext) (tRet (tIf (tTest (tOp (xEq K) (tXf a (.ref (He.ga K c)) (some d) (He.ga K c) "code" (tVar 0)) (tC (.str "InvalidText")))) (tXf a (.ref (He.ga K c)) (some d) (He.ga K c) "line" (tVar 0)) (tC .non))))))))
theorem lih_law_field {lk : Lk} {K : Frag} (a d : Addr) (c : Str) : LiftS lk K (th_law_field K a d c) (dh_law_field a d c) := (l_seq (l_ifS (l_test (l_op (l_xfp l_var) (l_lst (l_cons (l_c fun _ => .str _) (l_cons (l_c fun _ => .str _) (l_cons (l_c fun _ => .str _) (l_cons (l_c fun _ => .str _) (l_cons (l_c fun _ => .str _) (l_cons (l_c fun _ => .str _) (l_cons (l_c fun _ => .str _) (l_cons (l_c fun _ => .str _) (l_cons (l_c fun _ => .str _) (l_cons (l_c fun _ => .str _) l_nil))))))))))) o_in)) (l_ret (l_xfp l_var)) l_next) (l_seq (l_ifS (l_test (l_op (l_xfp l_var) (l_lst (l_cons (l_c fun _ => .str _) (l_cons (l_c fun _ => .str _) (l_cons (l_c fun _ => .str _) (l_cons (l_c fun _ => .str _) (l_cons (l_c fun _ => .str _) l_nil)))))) o_in)) (l_ret (l_xfp l_var)) l_next) (l_seq (l_ifS (l_test (l_op (l_xfp l_var) (l_lst (l_cons (l_c fun _ => .str _) (l_cons (l_c fun _ => .str _) l_nil))) o_in)) (l_ret (l_xfp l_var)) l_next) (l_seq (l_ifS (l_test (l_op (l_xfp l_var) (l_c fun _ => .str _) o_eq)) (l_ret (l_xfp l_var)) l_next) (l_seq (l_ifS (l_test (l_op (l_xfp l_var) (l_c fun _ => .str _) o_eq)) (l_ret (l_xfp l_var)) l_next) (l_ret (l_if (l_test (l_op (l_xfp l_var) (l_c fun _ => .str _) o_eq)) (l_xfp l_var) (l_c fun _ => .non))))))))
def dsph_law_field (a d : Addr) (c : Str) : DFn := fun ds Q => ∃ x p, ds = [.pin a d c (fsD x p)] ∧ c = p.1 ∧ p ∈ errs ∧ Q (fldD x p)
theorem ph_law_field (a d : Addr) (c : Str) : ∀ ds Qd, dsph_law_field a d c ds Qd → dh_law_field a d c ⟨fun _ => Qd .non, Qd, fun _ => False, fun _ => False, fun _ => False⟩ (startD 1 ds) := by
  intro ds Qd h
  obtain ⟨x, p, rfl, rfl, hp, q⟩ := h
  unfold errs at hp
  simp only [List.mem_cons, List.not_mem_nil, or_false] at hp
  rcases hp with rfl | rfl | rfl | rfl | rfl | rfl | rfl | rfl | rfl | rfl | rfl | rfl | rfl | rfl | rfl | rfl | rfl | rfl | rfl | rfl | rfl | rfl | rfl | rfl
  all_goals (unfold dh_law_field; show dSeq _ _ _ [some (.v (.pin _ _ _ (fsD x _)))])
  all_goals (
    repeat (first | walk_at "d1" | (walk_at "dz") | ((with_reducible apply d_var); focus exact rfl) | with_reducible refine d_xfp ?_ | (refine d_xpon rfl ?_) | (refine d_in (k := true) rfl rfl rfl (by decide +kernel) ?_) | (refine d_in (k := false) rfl rfl rfl (by decide +kernel) ?_) | (rw [if_pos (by decide +kernel)]) | (rw [if_neg (by decide +kernel)])))
  all_goals exact q
end Dl

set_option Elab.async false
set_option linter.all false
set_option maxRecDepth 100000
set_option maxHeartbeats 3000000
/-! The layer of data, 10: law_got(lambda: ..). -/
namespace Dl
open L2 PySem PySem.Spec PyProof.Rows RZ StX Cm
def erGot (es : List (Str × Option Str)) (Q : Dt → Prop) : ER := fun c fs => ∃ x p, p ∈ es ∧ c = p.1 ∧ fs = fsD x p ∧ Q (.tup [.str p.1, fldD x p])
def dGot (es : List (Str × Option Str)) (e : ER → DExp) : DExp := fun ρ Q => ρ.all (fun c => !own c) = true ∧ e (erGot es Q) ρ (fun d => Q (.tup [.str "", d]))
theorem own_none {ρ : Env} (h : ρ.all (fun c => !own c) = true) (i : Nat) : own (ρ.getD i none) = false := by
  rw [List.getD_eq_getElem?_getD]
  cases e : ρ[i]? with
  | none => rfl
  | some c =>
    have := List.all_eq_true.mp h c (List.mem_of_getElem? e)
    simpa using this
def fldNs : List Str := ["code", "given", "at", "name", "most", "index", "line"]
def errNs (es : List (Str × Option Str)) : List Str := es.map (·.1)
theorem errNs_mem {es : List (Str × Option Str)} {p : Str × Option Str} (h : p ∈ es) : p.1 ∈ errNs es := List.mem_map_of_mem h
def exmB (K : Frag) (es : List (Str × Option Str)) (cs : List Value) : Bool := (errNs es).all fun c => decide (PySem.W.exmAny K (.ref (He.ga K c)) cs = some true)
section
variable {es : List (Str × Option Str)} {lk : Lk} {K : Frag} {T : List (Addr × Str)} {cs : List Value} {t : XK → TE} {e : ER → DExp}
theorem l_got (hw : lk.w) (hT : lk.T = T) (hsub : ∀ p ∈ es, p ∈ errs) (hx : XAll K (errNs es) fldNs) (hm : exmB K es cs = true) (l : ∀ lk' : Lk, lk'.T = lk.T → lk'.p = lk.p → lk'.w → LiftE lk' K (t lk'.E) (e lk'.er)) :
    LiftE lk K (LamX.tLam T (LamX.TGot K cs (spPin T K (errNs es) fldNs dsph_law_field)) t) (dGot es e) := by
  subst hT
  intro G σ H ρ Qd Q R h k
  obtain ⟨hno, h⟩ := h
  refine ⟨R.tabs hw, fun H1 eN T1 => ?_⟩
  have s1 : Ex G H1 := fun a o h => eN a o (R.sub a o h) fun ps z => R.notb hw a ps (z ▸ h)
  have n1 : New lk.m G H G H1 := ⟨Evl.Ex.refl _, fun a o h => by
    by_cases z : ∃ ps, o = .tbl ps
    · exact .inr z
    · exact .inl (eN a o h fun ps e => z ⟨ps, e⟩), s1, fun a o h => .inl h, fun _ => T1, NoTb.refl _⟩
  have sz : ∀ x y : V, [x, y].length ≤ sizeLine := fun x y => sz5 (by simp)
  show t _ σ H1 _
  have key : ∀ E1 : XK, ErK ⟨lk.toMd, lk.p, id, lk.w, G, H1, none, E1, erGot es Qd⟩ K → t E1 σ H1 (fun v H' => [V.str "", v].length ≤ sizeLine ∧ ∀ T, H' T = none → Q (.ref T) (upd H' T (.tup [.str "", v]))) := fun E1 ek => by
    refine l ⟨lk.toMd, lk.p, id, lk.w, G, H1, none, E1, erGot es Qd⟩ rfl rfl hw G σ H1 ρ _ _ ⟨(R.new n1).r, bas_start rfl rfl, ek, fun _ => ⟨T1, R.notb hw⟩, fun i p h => (by rw [own_none hno i] at h; cases h), fun _ _ p h => (by rw [isO_own (own_none hno 0)] at h; cases h)⟩ h fun v d G' H' n r q => ⟨sz _ _, fun Tp hTp => ?_⟩
    have n2 := New.one (m := lk.m) (o := .tup [.str "", v]) n.s hTp
    exact k _ _ _ _ (n1.trans (New.trans (m := lk.m) n n2)) (.tup (Evl.st_of upd_same) (.cons (.str _) (.cons (rp_ex n2.g r) .nil))) q
  refine key _ fun G' H' c fs d us b s hd r hq => ?_
  obtain ⟨x, p, hp, rfl, rfl, q⟩ := hq
  have n2 : New lk.m G H1 G' H' := new_of (lk := ⟨lk.toMd, lk.p, id, lk.w, G, H1, none, _, erGot es Qd⟩) rfl rfl rfl id b.gx s b
  have hc := hx p.1 (errNs_mem hp)
  obtain ⟨v, hv, rv⟩ := rfs_look r (show (fsD x p).lookup ("code" : Str) = some (.str p.1) from rfl)
  cases rv
  refine ⟨of_decide_eq_true (List.all_eq_true.mp hm p.1 (errNs_mem hp)), fun a ha => ⟨_, d, us, .str p.1, rfl, hc.1, hc.2 "code" (by decide), rfl, s _ _ hd, hv, fun oe hz hf => ?_⟩⟩
  refine ⟨G', d, p.1, fsD x p, fun z => z = fldD x p, rfl, hz, hf, errNs_mem hp, s, .pin hd r, ⟨x, p, rfl, rfl, hsub p hp, rfl⟩, fun v dv G3 H3 n3 rv e => ⟨sz _ _, fun Tp hTp => ?_⟩⟩
  subst e
  have n3 : New lk.m G' H' G3 H3 := New.wk (m := lk.m) n3
  have n4 := New.one (m := lk.m) (o := .tup [.str p.1, v]) n3.s hTp
  exact k _ _ _ _ (((n1.trans n2).trans n3).trans n4) (.tup (Evl.st_of upd_same) (.cons (.str _) (.cons (rp_ex n4.g rv) .nil))) q
end
end Dl

set_option Elab.async false
set_option linter.all false
set_option maxRecDepth 100000
set_option maxHeartbeats 3000000
/-! The layer of data, 11: law_got and its lambda in a derivation. -/
namespace Dl
open L2 PySem PySem.Spec PyProof.Rows RZ StX Cm L2H
def GotBody (a e fn x1 x2 x3 : Str) (b : List Stmt) : Prop := ∃ (j0 kk k1 k2 : Nat) (p1 p2 p3 p4 p5 p6 p7 p8 p9 n1 n2 n3 r1 r2 r3 r4 r5 r6 r7 : Pos), b = [.Try [.Return (some (.Tuple [.Constant (.str "") j0 p5, .Call (.Name a p1) [] [] p2] k1 p4)) p3]
      [.ExceptHandler (some (.Tuple [.Name x1 n1, .Name x2 n2, .Name x3 n3] kk p9)) (some e) [.Return (some (.Tuple [.Attribute (.Name e r1) "code" r2, .Call (.Name fn r3) [.Name e r4] [] r5] k2 r6)) r7] p7] [] [] p8]
structure GotSc (a e fn x1 x2 x3 : Str) (sg : Scope) : Prop where
  sc : FnScope [a, e] [a] sg
  va : Vis sg a
  fn_ : sg.names.lookup fn = some .globalImplicit
  g1 : sg.names.lookup x1 = some .globalImplicit
  g2 : sg.names.lookup x2 = some .globalImplicit
  g3 : sg.names.lookup x3 = some .globalImplicit
  le : sg.names.lookup e = some .local
  ve : Vis sg e
  da : (a == ("__debug__" : Str)) = false
  ca : (a == ("__classdict__" : Str)) = false
  de : (e == ("__debug__" : Str)) = false
  ce : (e == ("__classdict__" : Str)) = false
  df : (fn == ("__debug__" : Str)) = false
  d1 : (x1 == ("__debug__" : Str)) = false
  d2 : (x2 == ("__debug__" : Str)) = false
  d3 : (x3 == ("__debug__" : Str)) = false
  ne : a ≠ e
structure Got (P : Program) (w : World) (K : Frag) (mg : Str → Option Value) (base : Heap) (k : Nat) (x : Str) (cs : List Value) (spF : Addr × Obj → Sp) : Prop where
  ex : ∃ (g ff : Addr) (fd fdF : FuncData) (pg : Arguments) (bg : List Stmt) (sg : Scope) (a e fn x1 x2 x3 : Str) (c1 c2 c3 : Value) (psF : List Str), FunD K x x pg bg sg [] [] g fd ∧ mg x = some (.ref g) ∧ Binds K fd [a] [] ∧ GotSc a e fn x1 x2 x3 sg ∧ GotBody a e fn x1 x2 x3 bg ∧
    FnP P w K mg base C8.CX0 k ff fdF psF spF ∧ Binds K fdF psF [] ∧ mg fn = some (.ref ff) ∧ PySem.W.keepIn K (.ref ff) = true ∧ mg x1 = some c1 ∧ mg x2 = some c2 ∧ mg x3 = some c3 ∧ cs = [c1, c2, c3]
/-- the lambda's binding: no parameter -/
def NoPar (params : Arguments) (body : Expr) (scope : Scope) : Prop := ∀ (q : Str) (cl : List (Str × Addr)) (pm cv ctv : Value), bindArgs (PySem.W.kla_fn "<lambda>" q params body scope cl pm cv ctv) ⟨[], []⟩ = pure []
section
variable {X : Cx}
theorem pe_got {k j kk : Nat} {x : Str} {cs : List Value} {spF : Addr × Obj → Sp} {T : List (Addr × Str)} {c P : Addr} {params : Arguments} {body : Expr} {scope : Scope} {t : XK → TE} {p lpos pos : Pos} (M : Got X.prog X.w X.K X.mg X.base k x cs spF) (hr : Room j X.A) (hk : k + 1 ≤ j) (hkk : kk + 2 ≤ j) (hg : Gl X x)
    (TB : LamX.TabB X.base X.mg c P) (hcode : X.env.code = .ref c) (hmT : (P, X.env.qual ++ "<lambda>") ∈ T) (hu : ∀ p ∈ T, p.1 = P → p.2 = X.env.qual ++ "<lambda>") (L : LamX.LamS X.env.scope scope) (hdef : defaultsOf params X.env = ([], [])) (hbind : NoPar params body scope)
    (hbody : ∀ (A : Around) (outer : List PySem.Env) (s : Shared) (H : Hp) (E : XK) (f c' : Addr), Room kk (A.deeper (LamX.lamEnv X scope s.heap.objs.size f c')) → PE (LamX.lamCx X A outer s H E scope f c') body (t E))
    (hdb : (x == ("__debug__" : Str)) = false := by decide) : PE X (.Call (.Name x p) [.Lambda params body scope lpos] [] pos) (LamX.tLam T (LamX.TGot X.K cs spF) t) := by
  obtain ⟨g, ff, fd, fdF, pg, bg, sg, a, e, fn, x1, x2, x3, c1, c2, c3, psF, F, hm, hb, S, ⟨j0, kk2, k1, k2, p1, p2, p3, p4, p5, p6, p7, p8, p9, n1, n2, n3, r1, r2, r3, r4, r5, r6, r7, rfl⟩, FF, hbF, hmF, hkF, m1, m2, m3, rfl⟩ := M.ex
  obtain ⟨oc, od, dV, kV, doc, pm, an, cdv, ct, osl, rfl, lk, hcd, _, _⟩ := F.ex
  exact LamX.pe_lamcall (k := kk) (Ng := [a, e]) hg hm F.kp lk hcd hb S.sc rfl S.va
    (fun f c' s H Q tl => LamX.got_gives (p6 := p6) FF (roomH_of (hr.mono hk)) hbF hmF hkF S.fn_ S.df S.g1 S.g2 S.g3 S.d1 S.d2 S.d3 m1 m2 m3 S.ne S.le S.de S.ve S.ce f c' s H Q tl)
    TB hcode hmT hu (hr.mono hkk) L hdef hbind hbody hdb S.da S.ca
theorem takesL {A : Around} {outer : List PySem.Env} {s : Shared} {H : Hp} {E : XK} {scope : Scope} {f c' : Addr} : Takes (LamX.lamCx X A outer s H E scope f c') (fun cls d _ H => E cls d H) := takes_of rfl rfl rfl rfl
theorem passLm {A : Around} {outer : List PySem.Env} {s : Shared} {H : Hp} {E : XK} {scope : Scope} {f c' : Addr} : Passes (L2.CX X.prog X.w) (LamX.lamCx X A outer s H E scope f c') E := passes_call takesL fun _ _ _ _ h => h
end
/-- a def whose code object is asked for -/
theorem FunD.okC {P : Program} {w : World} {K : Frag} {mg : Str → Option Value} {base : Heap} {x qual : Str} {params : Arguments} {body : List Stmt} {scope : Scope} {dvs : List V} {kws : List (Str × V)} {p : He.Defn} {fd : FuncData} {CX : CXT} {N ps : List Str} {k : Nat} {sp : Sp} (F : FunD K x qual params body scope dvs kws (He.fAd K p) fd) (S : FnScope N ps scope) (len : ∀ vs H Q E, sp vs H Q E → vs.length = ps.length)
    (hbody : ∀ (A : Around) (outer : List PySem.Env) (s : Shared) (H : Hp) (vs : List V) (Q : VK) (E : XK), Room k (A.deeper (envOfC qual scope s.heap.objs.size (He.fAd K p) (.ref (He.codeOf K p)))) → sp vs H Q E →
      ∃ t, PSs (cxOf CX P w K mg base N qual scope (He.fAd K p) (.ref (He.codeOf K p)) A outer s H E) body t ∧ t { nx := fun _ H' => Q .non H', rt := Q } (L2.start N vs) H) : FnOk P w K mg base CX (k + 1) (He.fAd K p) fd ps sp := by
  obtain ⟨oc, od, dV, kV, doc, pm, an, cdv, ct, osl, rfl, lk, hcd, _, _⟩ := F.ex
  obtain ⟨c, rfl⟩ := He.codeIn_ref hcd
  have e := He.codeOf_eq lk rfl
  subst e
  exact L2.fn_of lk hcd S len fun A outer s H vs Q E hr hsp => hbody A outer s H vs Q E hr hsp
/-! the end of a law that makes lambdas -/
def dspLaw : DFn := dsp_law
def sp_lawT (T : List (Addr × Str)) (K : Frag) : Sp := fun vs H Q _ => ∃ (a : Addr) (ns : List Int), vs = [.ref a] ∧ SqL K H a (ns.map V.int) ∧ ns.length ≤ 63 ∧ LamX.Tabs T H ∧ ∀ H', Q (.bl true) H'
theorem fn_lawT {m : Md} {K : Frag} {t : TS} {d : DStm} {N : List Str} (l : ∀ lk : Lk, lk.m = m → lk.p = m.p → lk.w → lk.E = C8.E0 → lk.er = (fun _ _ => False) → LiftS lk K t d) (hd : ∀ ds Qd, dsp_law ds Qd → d ⟨fun _ => Qd .non, Qd, fun _ => False, fun _ => False, fun _ => False⟩ (startD N.length ds)) (vs : List V) (H : Hp) (Q : VK) (E : XK) (h : sp_lawT m.T K vs H Q E) :
    t ⟨fun _ H' => Q .non H', Q, fun _ _ => False, fun _ _ => False⟩ (L2.start N vs) H := by
  obtain ⟨a, ns, rfl, hS, hl, ht, q⟩ := h
  have s : Ex (tell (fun _ => none) H) H := fun a o h => (tell_of h).elim id fun z => (by have := z.1; cases this)
  have r : Rps K (tell (fun _ => none) H) [.ref a] [.py (.list (ns.map PyData.int))] := .cons (.py (.lst (lst_extn tell_extn hS) (ints_dpa ns))) .nil
  have ng : ∀ a ps, tell (fun _ => none) H a ≠ some (.tbl ps) := fun a ps h => by
    unfold tell at h
    split at h
    · cases h
    · rename_i h2; exact h2 ps h
  refine l (lk0 m True (tell (fun _ => none) H) H C8.E0 fun _ _ => False) rfl rfl trivial rfl rfl _ _ H _ _ _ (rep_start rfl rfl (fun _ _ _ _ _ _ _ _ _ _ h => h.elim) (fun _ => ⟨ht, ng⟩) s r) (hd _ (fun d => d = .bl true) ⟨ns, rfl, hl, rfl⟩)
    ⟨fun G' σ' H' ρ' e S q => (by cases q), fun G' v d H' e1 e2 b r e => (by subst e; rw [rp_bl r]; exact q H'), fun _ _ _ _ _ _ q => q, fun _ _ _ _ _ _ q => q, fun _ _ _ _ _ _ _ _ _ _ _ _ q => q.elim⟩
end Dl

set_option Elab.async false
set_option linter.all false
set_option maxRecDepth 100000
set_option maxHeartbeats 3000000
/-! The layer of data, 12: own lists read. -/
namespace Dl
open L2 PySem PySem.Spec PyProof.Rows RZ StX Cm
section
variable {lk : Lk} {m : Md} {T : List (Addr × Str)} {K : Frag} {ta tb : TE} {da db : DExp} {ca : TT} {ea : DTst} {wa : TA} {aa : DArg}
theorem new_back {G G1 H G2 H2 : Hp} (e : Ex G G1) (n : New m G1 H G2 H2) : New m G H G H2 := ⟨Evl.Ex.refl _, n.h, (e.trans n.g).trans n.s, fun _ _ h => .inl h, n.t, NoTb.refl _⟩
theorem rp_scal {G G' : Hp} {v : V} {d : Dt} (r : Rp K G v d) (h : scalD d = true) : Rp K G' v d := by
  cases r <;> first | exact .non | exact .bl _ | exact .int _ | exact .str _ | cases h
/-- an own list is read, a plain value comes out -/
def dTmp (i : Nat) (e : DExp) : DExp := fun ρ Q => e (frz i ρ) fun d => scalD d = true ∧ Q d
theorem l_tmp {i : Nat} (ha : LiftE lk K ta da) : LiftE lk K ta (dTmp i da) := by
  intro G σ H ρ Qd Q R h k
  obtain ⟨G1, e1, R1⟩ := R.frz i
  exact ha G1 σ H (frz i ρ) _ _ R1 h fun v d G2 H2 n r q => k v d G H2 (new_back e1 n) (rp_scal r q.1) q.2
def dTmpT (i : Nat) (e : DTst) : DTst := fun ρ Q => e (frz i ρ) Q
theorem l_tmpT {i : Nat} (ha : LiftT lk K ca ea) : LiftT lk K ca (dTmpT i ea) := by
  intro G σ H ρ Qd Q R h k
  obtain ⟨G1, e1, R1⟩ := R.frz i
  exact ha G1 σ H (frz i ρ) _ _ R1 h fun b G2 H2 n q => k b G H2 (new_back e1 n) q
/-- x[e], x an own list -/
def dIxO (i : Nat) (e : DExp) : DExp := fun ρ Q => ∃ ds, ρ[i]? = some (some (.l ds)) ∧ e ρ fun n => ∃ k x, n = .int k ∧ atI ds k = some x ∧ Q x
theorem l_ixO {i : Nat} (ha : LiftE lk K ta da) : LiftE lk K (tOp (rIx K) (tVar i) ta) (dIxO i da) := by
  intro G σ H ρ Qd Q R h k
  obtain ⟨ds, hi, h⟩ := h
  obtain ⟨p, xs, h1, h2, h3, h4⟩ := R.r.lst hi
  refine ⟨.ref p, h1, ha G σ H ρ _ _ R h fun v d G1 H1 n1 r1 q => ?_⟩
  obtain ⟨k', x, rfl, hx, q⟩ := q
  cases r1
  obtain ⟨v, h5, h6⟩ := rps_at h4 hx
  exact g_ixL (Evl.sq_of (n1.h.get h3 lst_tbl)) h5 (k v x G1 H1 n1 (rp_ex n1.g h6) q)
end
section
variable {ρ : Env} {D : DEnds} {a b : DExp} {Q : Dt → Prop} {QB : Bool → Prop} {w : DArg} {t : DStm} {c : DTst} {er : ER} {i : Nat}
/-! steps -/
theorem d_callX {dsp : DFx} (h : w ρ fun ds => dsp ds (finE Q er)) : dCallX dsp er w ρ Q := h
theorem d_callXL {dsp : DFx} {P : List Dt → Prop} (h : w ρ fun ds => dsp ds (finL P er)) : dCallXL dsp er w ρ P := h
theorem d_callXN {n k : Nat} {dsp : DFx} {gd : List Dt → List Dt → List Dt} {v : DArg} (h : w ρ fun ds => v ρ fun es => ds.length = n ∧ es.length = k ∧ dsp (gd ds es) (finE Q er)) : dCallXN n k dsp gd er w v ρ Q := h
theorem d_makeX {dsp : DFx} (h : w ρ fun ds => dsp ds (finE Q er)) : dMakeX dsp er w ρ Q := h
def MXOn (c m : Str) (dsp : DFx) (w : DArg) (ρ : Env) (F : Fin) (x : Dt) : Prop := ∃ fs, x = .obj c fs ∧ fs.lookup m = none ∧ w ρ fun ds => dsp (x :: ds) F
theorem d_methX {c m : Str} {dsp : DFx} (h : a ρ (MXOn c m dsp w ρ (finE Q er))) : dMethX c m dsp er a w ρ Q := h
theorem d_methXL {c m : Str} {dsp : DFx} {P : List Dt → Prop} (h : a ρ (MXOn c m dsp w ρ (finL P er))) : dMethXL c m dsp er a w ρ P := h
theorem d_onMX {c m : Str} {dsp : DFx} {fs : List (Str × Dt)} {F : Fin} (hl : fs.lookup m = none) (h : w ρ fun ds => dsp (.obj c fs :: ds) F) : MXOn c m dsp w ρ F (.obj c fs) := ⟨fs, rfl, hl, h⟩
def MXNOn (c m : Str) (j : Nat) (dsp : DFx) (gd : List Dt → List Dt → List Dt) (w : DArg) (ρ : Env) (F : Fin) (x : Dt) : Prop := ∃ fs, x = .obj c fs ∧ fs.lookup m = none ∧ w ρ fun es => es.length = j ∧ dsp (gd [x] es) F
theorem d_methXN {c m : Str} {j : Nat} {dsp : DFx} {gd : List Dt → List Dt → List Dt} (h : a ρ (MXNOn c m j dsp gd w ρ (finE Q er))) : dMethXN c m j dsp gd er a w ρ Q := h
theorem d_onMXN {c m : Str} {j : Nat} {dsp : DFx} {gd : List Dt → List Dt → List Dt} {fs : List (Str × Dt)} {F : Fin} (hl : fs.lookup m = none) (h : w ρ fun es => es.length = j ∧ dsp (gd [.obj c fs] es) F) : MXNOn c m j dsp gd w ρ F (.obj c fs) := ⟨fs, rfl, hl, h⟩
def POn (c : Str) (dsp : DFx) (Q : Dt → Prop) (x : Dt) : Prop := ∃ fs, x = .obj c fs ∧ dsp [x] (finE Q no)
theorem d_prop {c : Str} {dsp : DFx} (h : a ρ (POn c dsp Q)) : dProp c dsp a ρ Q := h
theorem d_onP {c : Str} {dsp : DFx} {fs : List (Str × Dt)} (h : dsp [.obj c fs] (finE Q no)) : POn c dsp Q (.obj c fs) := ⟨fs, rfl, h⟩
theorem d_retL (h : w ρ D.rl) : dRetL w D ρ := h
theorem d_retO {ds : List Dt} (h : ρ[i]? = some (some (.l ds))) (q : D.rl ds) : dRetO i D ρ := ⟨ds, h, q⟩
def RsOn (er : ER) (c f code : Str) (ds : List Dt) : Prop := ∃ d, ds = [d] ∧ er c [("code", .str code), (f, d)]
theorem d_raise1 {c f code : Str} (h : w ρ (RsOn er c f code)) : dRaise1 er c f code w D ρ := h
theorem d_rs {c f code : Str} {d : Dt} (h : er c [("code", .str code), (f, d)]) : RsOn er c f code [d] := ⟨d, rfl, h⟩
theorem d_raise0 {c code : Str} (h : er c [("code", .str code)]) : dRaise0 er c code D ρ := h
theorem d_putF {cs : List Str} {f : Str} (h : a ρ fun d => ∃ c fs, ρ[i]? = some (some (.o c fs)) ∧ c ∈ cs ∧ fs.length < 1000 ∧ D.nx (ρ.set i (some (.o c (putD f d fs))))) : dPutF i cs f a D ρ := h
theorem d_setI {ds : List Dt} (hi : ρ[i]? = some (some (.l ds))) (h : a ρ fun d => b ρ fun n => ∃ k j, n = .int k ∧ ixN ds.length k = some j ∧ D.nx (ρ.set i (some (.l (ds.set j d))))) : dSetI i b a D ρ := ⟨ds, hi, h⟩
theorem d_dropL (h : w ρ fun _ => D.nx ρ) : dDropL w D ρ := h
theorem d_tmp (h : a (frz i ρ) fun d => scalD d = true ∧ Q d) : dTmp i a ρ Q := h
theorem d_tmpT (h : c (frz i ρ) QB) : dTmpT i c ρ QB := h
theorem d_ixO {ds : List Dt} (hi : ρ[i]? = some (some (.l ds))) (h : a ρ fun n => ∃ k x, n = .int k ∧ atI ds k = some x ∧ Q x) : dIxO i a ρ Q := ⟨ds, hi, h⟩
theorem d_got {es : List (Str × Option Str)} {e : ER → DExp} (h0 : ρ.all (fun c => !own c) = true) (h : e (erGot es Q) ρ (fun d => Q (.tup [.str "", d]))) : dGot es e ρ Q := ⟨h0, h⟩
theorem d_revL (h : a ρ fun x => ∃ l, x = .lst l ∧ Q (.lst l.reverse)) : dRevL a ρ Q := h
theorem d_fmt (h : a ρ fun x => (∃ y : Str, x = .str y ∧ y.length ≤ 100000 ∧ Q (.str y)) ∨ ∃ i : Int, x = .int i ∧ i.natAbs.log2 < 1920 ∧ Q (.str (toString i))) : dFmt a ρ Q := h
end
end Dl

set_option Elab.async false
set_option linter.all false
set_option maxRecDepth 100000
set_option maxHeartbeats 3000000
/-! The layer of data, 13: not in; a, b = e, list(..); an object made and written before it is returned. -/
namespace Dl
open L2 PySem PySem.Spec PyProof.Rows RZ StX Cm
def xNotIn (K : Frag) : R2 := fun x y H Q => rIn K true x y H Q ∨ (rNotInD K x y H Q ∨ rNotInS x y H Q)
theorem op_xNotIn {X : Cx} (hu : X.A.units + 65 < cLine) : OpR X (compareOp .NotIn) (xNotIn X.K) := OpR.or op_notIn_seq (OpR.or (op_notInD hu) op_notInS)
def dNotIn2 : D2R := fun x y Q => dIn2 x y fun z => ∃ b, z = .bl b ∧ Q (.bl (!b))
section
variable {lk : Lk} {m : Md} {T : List (Addr × Str)} {K : Frag} {ta tb : TE} {da db : DExp} {wa : TA} {aa : DArg}
theorem o_notin : Op2 m K (xNotIn K) dNotIn2 := by
  intro G H x y d e Qd Q s rx ry q k
  unfold dNotIn2 dIn2 at q
  split at q
  · cases ry
    obtain ⟨c, rfl, b, hb, q⟩ := q
    cases rx
    cases hb
    exact Or.inr (Or.inr ⟨c, _, rfl, rfl, k _ _ G H (New.refl s) (.bl _) q⟩)
  · obtain ⟨l, hl, q⟩ := q
    obtain ⟨p, ys, rfl, hs, hr⟩ := items_up ry hl
    rcases q with ⟨q1, q2, hz, q3⟩ | ⟨f, es, ⟨l', rfl⟩, q1, q2, q3, q4, b, hb, q5⟩
    · refine Or.inl ⟨p, ys, rfl, (sq2_up s hs).symm, flat_of rx q1, flats_of hr q2, ?_⟩
      obtain ⟨b, hb, q⟩ := q3 _ (inV_of rx hr hz)
      cases hb
      exact k _ _ G H (New.refl s) (.bl _) q
    · cases hl
      cases hb
      cases ry with
      | lst h1 r1 => exact Or.inr (Or.inl ⟨f, es, Cm.up s (dp_of rx q1), .lst (Evl.sq_of (s _ _ h1)) (trs_up s (dps_of r1 q2)), q3, q4, k _ _ G H (New.refl s) (.bl _) q5⟩)
/-- a, b = e, a new list -/
def dParVL (i j : Nat) (a : DExp) (w : DArg) : DStm := fun D ρ => a ρ fun d => w ρ fun ds => D.nx ((ρ.set i (some (.v d))).set j (some (.l ds)))
theorem l_parVL {i j : Nat} (hlk : ¬ lk.p) (ha : LiftE lk K ta da) (hb : LiftEL lk K tb aa) : LiftS lk K (tPar i j (tCons ta (tCons tb tNil))) (dParVL i j da aa) := fun G σ H ρ Dd D S h k => by
  refine ha G σ H ρ _ _ S h fun v d G1 H1 n1 r1 q => ?_
  have S1 := S.new n1
  refine hb G1 σ H1 ρ _ _ S1 q fun p xs ds G2 H2 n2 hp hg hx r2 q => ?_
  have S2 := S1.new n2
  have S3 := S2.setV i (rp_ex n2.g r1)
  have hk : SlotOk K G2 H2 (some (.ref p)) (some (.l ds)) := ⟨p, xs, rfl, hg, hx, r2⟩
  have hn : ∀ l, own ((ρ.set i (some (.v d))).getD l none) = true → (σ.set i (some v)).getD l none ≠ some (.ref p) := fun l h1 h2 => by
    rw [getD_set] at h1 h2
    rw [S.len] at h2
    by_cases e : i = l ∧ i < ρ.length
    · rw [if_pos e] at h1; cases h1
    · rw [if_neg e] at h1 h2
      obtain ⟨_, o, ho, ht⟩ := S1.owned h1 h2
      exact hp.no ho ht
  exact ⟨v, .ref p, rfl, k.nx G2 _ H2 _ (n1.g.trans n2.g) (S3.setO hlk j (S1.bas.fr hp) rfl (.inl rfl) hk hn) q⟩
/-! ### a new object, still mutable -/
abbrev DObj := Env → (List (Str × Dt) → Prop) → Prop
def LiftEO (lk : Lk) (K : Frag) (c : Str) (te : TE) (de : DObj) : Prop := ∀ (G : Hp) (σ : L2.St) (H : Hp) (ρ : Env) (Qd : List (Str × Dt) → Prop) (Q : VK), Rep lk K G σ H ρ → de ρ Qd →
  (∀ p dx us fs G' H', New lk.m G H G' H' → Free H p → G' p = none → H' p = some (.ins (He.ga K c) dx us) → Rfs K G' us fs → Qd fs → Q (.ref p) H') → te σ H Q
/-- what a constructor does, told of the object itself -/
def MkXO (m : Md) (K : Frag) (c : Str) (sp : Sp) (dsp : List Dt → (List (Str × Dt) → Prop) → ER → Prop) : Prop := ∀ (G H : Hp) (vs : List V) (ds : List Dt) (Qf : List (Str × Dt) → Prop) (er : ER) (Q : VK) (E : XK), Ex G H → Rps K G vs ds → dsp ds Qf er →
  (∀ p dx us fs G' H', New m G H G' H' → Free H p → G' p = none → H' p = some (.ins (He.ga K c) dx us) → Rfs K G' us fs → Qf fs → Q (.ref p) H') → (∀ c fs G' H' d us, New m G H G' H' → G' d = some (.xd us) → Rfs K G' us fs → er c fs → E (.ref (He.ga K c)) (some d) H') → MkOn (He.ga K c) sp E Q vs H
theorem mkXO_of {c : Str} {dsp : DFi} (h : m.T = T) : MkXO m K c (spI ⟨False, T⟩ K dsp) (dsp c []) := by
  subst h
  intro G H vs ds Qf er Q E s r q k ke x dx hx hdx hne
  have e1 : Ex H (upd (upd H dx (.own x)) x (.ins (He.ga K c) dx [])) := ex_make hx hdx hne
  have gx : G x = none := Evl.fresh_back s hx
  refine ⟨x, dx, c, vs, [], G, [], ds, _, _, rfl, upd_same, gx, s.trans e1, .nil, r, q, ⟨fun fs us dx' G' H' n g1 h1 rf q => ⟨rfl, ?_⟩, fun c' fs G' H' d us n h1 rf q => ?_⟩⟩
  · have n2 := (newx_new' (m := m.np) id e1 hx (fun a => free_up hx hdx) s n).wk
    exact k _ _ _ _ _ _ n2 (.inl hx) g1 h1 rf q
  · have n2 := (newx_new' (m := m.np) id e1 hx (fun a => free_up hx hdx) s n).wk
    exact ke _ _ _ _ _ _ n2 h1 rf q
def dspMkSO (c : Str) (n : Nat) (dsp : DFi) : List Dt → (List (Str × Dt) → Prop) → ER → Prop := fun ds Qf er => ∃ a r, ds = a ++ r ∧ a.length = n ∧ r.length ≤ 100000 ∧ dsp c [] (a ++ [.tup r]) Qf er
theorem mkXSO_of {c : Str} {n : Nat} {dsp : DFi} (h : m.T = T) : MkXO m K c (starSp (n + 1) (spI ⟨False, T⟩ K dsp)) (dspMkSO c n dsp) := by
  subst h
  intro G H vs ds Qf er Q E s r q k ke x dx hx hdx hne
  obtain ⟨a, rr, rfl, hl, hr, q⟩ := q
  obtain ⟨us, ws, rfl, r1, r2⟩ := rps_split r
  refine ⟨.ref x :: us, ws, rfl, by rw [List.length_cons, rps_len r1, hl], sz5 (by rw [rps_len r2]; exact hr), fun p hp => ?_⟩
  have e0 : Ex H (upd (upd H dx (.own x)) x (.ins (He.ga K c) dx [])) := ex_make hx hdx hne
  have e2 := Evl.Ex.new (o := .tup ws) hp
  have e1 := e0.trans e2
  have hpH : H p = none := Evl.fresh_back e0 hp
  have npx : p ≠ x := fun z => by rw [z, upd_same] at hp; cases hp
  have hpn : ∀ ps, HO.tup ws ≠ .tbl ps := fun ps z => by cases z
  have gx : G x = none := Evl.fresh_back s hx
  have gp : G p = none := Evl.fresh_back s hpH
  have eG := Evl.Ex.new (o := HO.tup ws) gp
  have s2 : Ex (upd G p (.tup ws)) (upd (upd (upd H dx (.own x)) x (.ins (He.ga K c) dx [])) p (.tup ws)) := ex_upd (s.trans e0)
  have fr : ∀ a, Free (upd (upd (upd H dx (.own x)) x (.ins (He.ga K c) dx [])) p (.tup ws)) a → Free H a := fun a h => by
    by_cases e : a = p
    · subst e; exact .inl hpH
    · refine free_up (o := .own x) (u := .ins (He.ga K c) dx []) hx hdx ?_
      rcases h with h | ⟨ps, h⟩
      · rw [upd_ne e] at h; exact .inl h
      · rw [upd_ne e] at h; exact .inr ⟨ps, h⟩
  have n2 : ∀ {G' H' : Hp}, NewX ⟨False, m.T⟩ x (upd G p (.tup ws)) (upd (upd (upd H dx (.own x)) x (.ins (He.ga K c) dx [])) p (.tup ws)) G' H' → New m G H G' H' := fun {G' H'} n => New.wk (m := m) (by
    refine ⟨eG.trans n.g, fun b u hb => n.h b u (fun z => by rw [z, hx] at hb; cases hb) (e1 b u hb), n.s, fun b u hb => ?_, fun t => n.t (tabs_ex e1 t), fun b ps hb => notb_up hpn (n.q b ps hb)⟩
    rcases n.n b u hb with z | z | z | z
    · subst z; exact .inr (.inl (.inl hx))
    · by_cases e3 : b = p
      · subst e3; exact .inr (.inl (.inl hpH))
      · rw [upd_ne e3] at z; exact .inl z
    · exact .inr (.inl (fr b z))
    · exact z.elim)
  refine ⟨x, dx, c, us ++ [.ref p], [], upd G p (.tup ws), [], a ++ [.tup rr], _, _, rfl, by rw [upd_ne (Ne.symm npx)]; exact upd_same, by rw [upd_ne (Ne.symm npx)]; exact gx, s2, .nil, rps_app (rps_ex eG r1) (.cons (.tup (Evl.st_of upd_same) (rps_ex eG r2)) .nil), q, ⟨fun fs vs' dx' G' H' n g1 h1 rf q => ⟨rfl, k _ _ _ _ _ _ (n2 n) (.inl hx) g1 h1 rf q⟩, fun c' fs G' H' d vs' n h1 rf q => ke _ _ _ _ _ _ (n2 n) h1 rf q⟩⟩
def dMakeXO (dsp : List Dt → (List (Str × Dt) → Prop) → ER → Prop) (er : ER) (t : DArg) : DObj := fun ρ Q => t ρ fun ds => dsp ds Q er
theorem l_makeXO {E : XK} {er : ER} (hE : EOk lk K E er) {c : Str} {sp : Sp} {dsp : List Dt → (List (Str × Dt) → Prop) → ER → Prop} (ho : MkXO lk.m K c sp dsp) (hw : LiftA lk K wa aa) : LiftEO lk K c (tMakeR (He.ga K c) sp E wa) (dMakeXO dsp er aa) := by
  intro G σ H ρ Qd Q R h k
  refine g_make (hw G σ H ρ _ _ R h fun vs ds G1 H1 n1 r1 h1 => ?_)
  exact ho G1 H1 vs ds _ _ _ _ n1.s r1 h1 (fun p dx us fs G' H' n hp hg hx rf q => k p dx us fs G' H' (n1.trans n) (n1.h.back hp) hg hx rf q) fun c fs G' H' d us n h r e => hE R c fs G' H' d us (n1.trans n) h r e
def dAsgO (c : Str) (e : DObj) (i : Nat) : DStm := fun D ρ => e ρ fun fs => D.nx (ρ.set i (some (.o c fs)))
theorem l_asgO {c : Str} {i : Nat} {de : DObj} (hlk : ¬ lk.p) (hx : lk.xo = none) (ha : LiftEO lk K c ta de) : LiftS lk K (tAsg ta (gName i)) (dAsgO c de i) := fun G σ H ρ Dd D S h k => by
  refine ha G σ H ρ _ _ S h fun p dx us fs G1 H1 n1 hp hg hH rf q => ?_
  have S1 := S.new n1
  have hk : SlotOk K G1 H1 (some (.ref p)) (some (.o c fs)) := ⟨p, dx, us, rfl, hg, hH, rf⟩
  have hn : ∀ j, own (ρ.getD j none) = true → σ.getD j none ≠ some (.ref p) := fun j h1 h2 => by
    obtain ⟨_, o, e, ht⟩ := S.owned h1 h2
    exact hp.no e ht
  exact k.nx G1 _ H1 _ n1.g (S1.setO hlk i (S.bas.fr hp) rfl (.inr hx) hk hn) q
end
section
variable {ρ : Env} {D : DEnds} {a b : DExp} {w : DArg} {i j : Nat} {er : ER}
theorem d_parVL (h : a ρ fun d => w ρ fun ds => D.nx ((ρ.set i (some (.v d))).set j (some (.l ds)))) : dParVL i j a w D ρ := h
theorem d_asgO {c : Str} {e : DObj} (h : e ρ fun fs => D.nx (ρ.set i (some (.o c fs)))) : dAsgO c e i D ρ := h
theorem d_makeXO {dsp : List Dt → (List (Str × Dt) → Prop) → ER → Prop} {P : List (Str × Dt) → Prop} (h : w ρ fun ds => dsp ds P er) : dMakeXO dsp er w ρ P := h
end
theorem top_ok {m m' : Md} {K : Frag} {sp : Sp} {dsp : DFn} (h : m = m') (ok : SpOk m' K sp dsp) : SpOk m K sp dsp := h ▸ ok
end Dl

set_option Elab.async false
set_option linter.all false
set_option maxRecDepth 100000
set_option maxHeartbeats 3000000
/-! The head: what stands in the heap after the module's run, with static methods. -/
namespace Dl
open L2 PySem PySem.Spec PyProof.Rows RZ StX Cm
abbrev AlZ : Type := He.AlT × Bool × List He.FnW
def frZ (g : Addr → Option Obj) (n : Nat) : Frag := He.frT g (He.asD g n ++ [cStatics])
def exZ (fz : List He5.DefA) (ex : Frag → Bool) (K : Frag) : Bool := (fz.all fun d => d.ok K) && ex K
def obsZ (n : Nat) (fa : List He.Fa) (fn : List He.DefD) (ts : List He.Tab) (fz : List He5.DefA) (ex : Frag → Bool) (g : Addr → Option Obj) : AlZ := (He.obsT fa fn ts (frZ g n), exZ fz ex (frZ g n), fz.map fun d => He5.fnA (frZ g n) (d.at_ (frZ g n)))
def valZ (fn : List He.DefD) (ts : List He.Tab) (fz : List He5.DefA) (w : World) : AlZ := (He.valT fn ts w, true, fz.map He5.DefA.val)
structure SaysZ (fa : List He.Fa) (fn : List He.DefD) (ts : List He.Tab) (fz : List He5.DefA) (ex : Frag → Bool) (w : World) (h : Heap) (K : Frag) : Prop where
  t : He.SaysT fa fn ts w K
  more0 : exZ fz ex K = true
  z : (fz.map fun d => He5.fnA K (d.at_ K)) = fz.map He5.DefA.val
def hookZ (n : Nat) (fa : List He.Fa) (fn : List He.DefD) (ts : List He.Tab) (fz : List He5.DefA) (ex : Frag → Bool) : PySem.W.Hook where
  α := AlZ
  obs := fun s => obsZ n fa fn ts fz ex s.heap.get?
  val := fun w => valZ fn ts fz w
  says := fun w h => ∃ K : Frag, K.In h ∧ SaysZ fa fn ts fz ex w h K
  of := fun w h e => ⟨_, He.frT_in, congrArg (fun z : AlZ => z.1) e, congrArg (fun z : AlZ => z.2.1) e, congrArg (fun z : AlZ => z.2.2) e⟩
  keeps := fun _ _ _ ⟨K, hK, c⟩ k => ⟨K, PySem.W.Frag.In.keeps hK k, ⟨c.t, c.more0, c.z⟩⟩
theorem obsZ_eq {n : Nat} {fa : List He.Fa} {fn : List He.DefD} {ts : List He.Tab} {fz : List He5.DefA} {ex : Frag → Bool} {g : Addr → Option Obj} {s : Shared} (h : ∀ a, g a = s.heap.get? a) : obsZ n fa fn ts fz ex g = (hookZ n fa fn ts fz ex).obs s := by
  have e : g = s.heap.get? := funext h
  rw [e] <;> rfl
section
variable {fa : List He.Fa} {fn : List He.DefD} {ts : List He.Tab} {fz : List He5.DefA} {ex : Frag → Bool} {w : World} {h : Heap} {K : Frag}
theorem SaysZ.more (c : SaysZ fa fn ts fz ex w h K) : ex K = true := by
  have := c.more0
  unfold exZ at this
  rw [Bool.and_eq_true] at this
  exact this.2
theorem SaysZ.def_ (c : SaysZ fa fn ts fz ex w h K) (i : Nat) {d : He5.DefA} (hi : fz[i]? = some d := by rfl) : ∃ fd, L2.FunD K d.name d.qual d.params d.body d.scope (d.dvs K) (d.kws K) (d.at_ K) fd := by
  have h0 := c.more0
  unfold exZ at h0
  rw [Bool.and_eq_true] at h0
  have e2 : (fz.map fun d => He5.fnA K (d.at_ K))[i]? = (fz.map He5.DefA.val)[i]? := by rw [c.z]
  rw [List.getElem?_map, List.getElem?_map, hi] at e2
  exact He5.DefA.funD (Option.some.inj e2) (List.all_eq_true.mp h0.1 d (List.mem_of_getElem? hi))
end
section
variable {P : Program} {w : World} {K : Frag} {mg : Str → Option Value} {base : Heap} {CX : CXT} {k : Nat} {C : Addr} {m : Str} {ps : List Str} {sp : Sp} {fd : FuncData}
theorem cread (h : PySem.W.readsIn K C (.type "type") = true) : ClX.CRead K C (.type "type") := by
  refine ⟨h, ?_⟩
  unfold PySem.W.readsIn at h
  simp only [Bool.and_eq_true, beq_iff_eq] at h
  obtain ⟨⟨⟨⟨a, b⟩, c⟩, d⟩, f⟩ := h
  unfold PySem.W.specialIn
  rw [b, Option.bind_some]
  exact c
theorem sta_of (hr : PySem.W.readsIn K C (.type "type") = true) (hw : He5.wrapB K C "staticmethod" "staticmethod.__get__" m = true) (F : FnOk P w K mg base CX k (He5.wf K C "staticmethod" m) fd ps sp) (kp : PySem.W.keepIn K (.ref (He5.wf K C "staticmethod" m)) = true) (b : Binds K fd ps []) : Sta P w K mg base CX k C m ps sp := by
  obtain ⟨h1, rest, h2⟩ := He5.wrapB_ok hw
  exact ⟨cread hr, _, _, fd, rest, h1, h2, F, kp, rfl, b⟩
end
end Dl

set_option Elab.async false
set_option linter.all false
set_option maxRecDepth 100000
set_option maxHeartbeats 3000000
/-! The head: error classes. -/
namespace Dl
open L2 PySem PySem.Spec PyProof.Rows RZ StX Cm
open PySem.W (findIn typeIn keepIn subIn mroIn nsIn codeIn ks_superIn ksFn)
/-- an error class's __init__ -/
structure DefX where
  cls : Str
  qual : Str
  params : Arguments
  body : List Stmt
  ns : List (Str × NameKind)
abbrev FnX : Type := Option (Str × Str × Arguments × FuncBody × Scope × Addr × List Str × Addr)
def fI (K : Frag) (c : Str) : Addr := He.ma K (He.ga K c) "__init__"
def fnXA (K : Frag) (a : Addr) : FnX := match K.lookup a with
  | some ⟨_, _, .func fd, _⟩ => some (fd.name, fd.qualname, fd.params, fd.body, fd.scope, fd.globals, fd.closure.map (·.1), fd.builtins)
  | _ => none
def DefX.val (d : DefX) : FnX := some ("__init__", d.qual, d.params, .stmts d.body, Xe.scN d.ns, mainGlobals, ["__class__"], builtinsNs)
def isNone (v : Value) : Bool := match v with
  | .none => true
  | _ => false
def fileIs (K : Frag) (v : Value) (file : Str) : Bool := match v with
  | .ref c => (match K.lookup c with
    | some ⟨_, _, .fields vs, _⟩ => (match (vs[2]? : Option Value) with
      | some (.str f _) => file == f
      | _ => false)
    | _ => false)
  | _ => false
def cellIs (K : Frag) (l : List (Str × Addr)) (C : Addr) : Bool := match l with
  | [(_, cc)] => (match K.lookup cc with
    | some ⟨_, _, .cell (some (.ref D)), _⟩ => decide (D = C)
    | _ => false)
  | _ => false
def fnXB (K : Frag) (d : DefX) (file : Str) : Bool := match K.lookup (fI K d.cls) with
  | some ⟨_, _, .func fd, _⟩ => isNone fd.defaults && isNone fd.kwdefaults && codeIn K fd.code d.qual && fileIs K fd.code file && cellIs K fd.closure (He.ga K d.cls)
  | _ => false
def baseB (K : Frag) (C : Addr) (B newId initId : String) (tl : List Value) : Bool := (match K.lookup C with
  | some ⟨.type "type", _, .cls cd, sl⟩ => (match cd.mro, sl.toList with
    | .ref C' :: bm, [_, _, _, _, some (.builtin n), _] => decide (C' = C) && decide (n = newId) && !cd.hasDel && cd.hasDict && Xe.refsT tl bm
    | _, _ => false)
  | _ => false) && decide (ks_superIn K C C "__init__" = some (some (.builtin initId))) && decide (subIn K (.ref C) (.type B) = some true)
def anyBase (K : Frag) (C : Addr) : Bool := baseB K C "ValueError" "ValueError.__new__" "ValueError.__init__" PySem.HandSPX.veTail || baseB K C "LookupError" "LookupError.__new__" "LookupError.__init__" Xe.leTail || baseB K C "IndexError" "IndexError.__new__" "IndexError.__init__" Xe.ieTail
def clsXB (K : Frag) (c : Str) : Bool :=
  let C := He.ga K c
  anyBase K C && decide (findIn K (.ref C) "__setattr__" = some (some (.builtin "object.__setattr__"))) && decide (findIn K (.ref C) "__init__" = some (some (.ref (fI K c)))) && decide (typeIn K (.ref (fI K c)) = some (.type "function")) && keepIn K (.ref C) &&
  decide (subIn K (.ref C) (.type "BaseException") = some true) && decide (typeIn K (.ref C) = some (.type "type")) && decide (mroIn K C (.ref C) = some true) && decide (nsIn K cStatics "thirdparty.any" = some none)
def noB (K : Frag) (c f : Str) : Bool := decide (findIn K (.ref (He.ga K c)) f = some none)
theorem base_of {K : Frag} {C : Addr} {B newId initId : String} {tl : List Value} (eb : Xe.EB B newId initId tl) (h : baseB K C B newId initId tl = true) : ∃ B newId initId tl nm q N bs bm sn sub ab col dd k0 k1 k2 k3 k5, Xe.EB B newId initId tl ∧ K.lookup C = some (excClassObj nm q C N bs bm true sn sub ab col dd k0 k1 k2 k3 k5 newId) ∧ Xe.refsT tl bm = true ∧
    ks_superIn K C C "__init__" = some (some (.builtin initId)) ∧ subIn K (.ref C) (.type B) = some true := by
  unfold baseB at h
  rw [Bool.and_eq_true, Bool.and_eq_true, decide_eq_true_iff, decide_eq_true_iff] at h
  obtain ⟨⟨h, h1⟩, h2⟩ := h
  split at h
  · rename_i dd cd sl ho
    split at h
    · rename_i C' bm k0 k1 k2 k3 n k5 hm hs
      simp only [Bool.and_eq_true, decide_eq_true_eq, Bool.not_eq_true'] at h
      obtain ⟨⟨⟨⟨rfl, rfl⟩, hdel⟩, hdict⟩, ht⟩ := h
      obtain ⟨nm, bs, mro, ns, qn, hd, sn, sub, ab, col, del⟩ := cd
      dsimp only at hm hdel hdict
      subst hm hdel hdict
      have hsl : sl = #[k0, k1, k2, k3, some (.builtin n), k5] := by
        rw [← Array.toList_inj, hs]
      subst hsl
      exact ⟨B, n, initId, tl, nm, qn, ns, bs, bm, sn, sub, ab, col, dd, k0, k1, k2, k3, k5, eb, ho, ht, h1, h2⟩
    · cases h
  · cases h
theorem any_of {K : Frag} {C : Addr} (h : anyBase K C = true) : ∃ B newId initId tl nm q N bs bm sn sub ab col dd k0 k1 k2 k3 k5, Xe.EB B newId initId tl ∧ K.lookup C = some (excClassObj nm q C N bs bm true sn sub ab col dd k0 k1 k2 k3 k5 newId) ∧ Xe.refsT tl bm = true ∧
    ks_superIn K C C "__init__" = some (some (.builtin initId)) ∧ subIn K (.ref C) (.type B) = some true := by
  unfold anyBase at h
  rw [Bool.or_eq_true, Bool.or_eq_true] at h
  rcases h with (h | h) | h
  · exact base_of Xe.eb_VE h
  · exact base_of Xe.eb_LE h
  · exact base_of Xe.eb_IE h
theorem errC_of {P : Program} {K : Frag} {d : DefX} {file : Str} (hf : ((P.main.file : Str) == file) = true) (ht : (P.main.scope.names.lookup ("super" : Str)).isSome = false) (e : fnXA K (fI K d.cls) = d.val) (hb : fnXB K d file = true) (hc : clsXB K d.cls = true)
    (hks : d.ns.lookup ("super" : Str) = some .globalImplicit) (hkc : d.ns.lookup ("__class__" : Str) = some .free) (hka : d.ns.lookup ("self" : Str) = some .local) (hcell : ∀ x ∈ d.ns, x.2 ≠ .cell) (hp : ∃ ar : Arg, (d.params.posonlyargs ++ d.params.args).head? = some ar ∧ ar.arg = "self") :
    Xe.ErrC P K (He.ga K d.cls) (fI K d.cls) d.qual d.params d.body d.ns := by
  unfold clsXB at hc
  simp only [Bool.and_eq_true, decide_eq_true_eq] at hc
  obtain ⟨⟨⟨⟨⟨⟨⟨⟨c1, c2⟩, c3⟩, c4⟩, c5⟩, c6⟩, c7⟩, c8⟩, c9⟩ := hc
  refine ⟨any_of c1, c2, c3, c4, c5, c6, c7, c8, c9, ?_, ht, hks, hkc, hka, hcell, hp⟩
  unfold fnXA at e
  unfold fnXB at hb
  cases q : K.lookup (fI K d.cls) with
  | none => rw [q] at hb; cases hb
  | some o =>
    obtain ⟨oc, od, dt, osl⟩ := o
    rw [q] at hb e
    cases dt with
    | func fd =>
      obtain ⟨n1, n2, n3, n4, n5, n6, n7, n8, n9, n10, n11, n12, n13, n14, n15⟩ := fd
      have e2 : (some (n1, n2, n3, n4, n5, n6, n7.map (·.1), n15) : FnX) = some (("__init__" : Str), d.qual, d.params, FuncBody.stmts d.body, Xe.scN d.ns, mainGlobals, [("__class__" : Str)], builtinsNs) := e
      simp only [Option.some.injEq, Prod.mk.injEq] at e2
      obtain ⟨h1, h2, h3, h4, h5, h6, h7, h8⟩ := e2
      subst h1 h2 h3 h4 h5 h6 h8
      have hb2 : (isNone n8 && isNone n9 && codeIn K n13 d.qual && fileIs K n13 file && cellIs K n7 (He.ga K d.cls)) = true := hb
      simp only [Bool.and_eq_true] at hb2
      obtain ⟨⟨⟨⟨b1, b2⟩, b3⟩, b4⟩, b5⟩ := hb2
      have z8 : n8 = .none := by unfold isNone at b1; split at b1 <;> first | rfl | cases b1
      have z9 : n9 = .none := by unfold isNone at b2; split at b2 <;> first | rfl | cases b2
      subst z8 z9
      unfold fileIs at b4
      split at b4
      · rename_i cda
        split at b4
        · rename_i ccl cdd vs ccs hcode
          split at b4
          · rename_i fl tf hvs
            unfold cellIs at b5
            split at b5
            · rename_i nm cc
              split at b5
              · rename_i cl cld D csl hcc
                have hD := of_decide_eq_true b5
                subst hD
                simp only [List.map_cons, List.map_nil, List.cons.injEq, and_true] at h7
                subst h7
                have e3 : file = fl := by simpa using b4
                exact ⟨oc, od, n10, n11, n12, cda, n14, cc, osl, ccl, cdd, vs, ccs, fl, tf, cl, cld, csl, rfl, b3, hcode, hvs, by rw [← e3]; exact hf, hcc⟩
              · cases b5
            · cases b5
          · cases b4
        · cases b4
      · cases b4
    | _ => cases hb
end Dl

set_option Elab.async false
set_option linter.all false
set_option maxRecDepth 100000
set_option maxHeartbeats 3000000
/-! The head with static methods and error classes. -/
namespace Dl
open L2 PySem PySem.Spec PyProof.Rows RZ StX Cm
abbrev AlW : Type := AlZ × List FnX
def exW (fx : List DefX) (file : Str) (ex : Frag → Bool) (K : Frag) : Bool := (fx.all fun d => fnXB K d file && clsXB K d.cls && noB K d.cls "code") && ex K
def obsW (n : Nat) (fa : List He.Fa) (fn : List He.DefD) (ts : List He.Tab) (fz : List He5.DefA) (fx : List DefX) (file : Str) (ex : Frag → Bool) (g : Addr → Option Obj) : AlW := (obsZ n fa fn ts fz (exW fx file ex) g, fx.map fun d => fnXA (frZ g n) (fI (frZ g n) d.cls))
def valW (fn : List He.DefD) (ts : List He.Tab) (fz : List He5.DefA) (fx : List DefX) (w : World) : AlW := (valZ fn ts fz w, fx.map DefX.val)
structure SaysW (fa : List He.Fa) (fn : List He.DefD) (ts : List He.Tab) (fz : List He5.DefA) (fx : List DefX) (file : Str) (ex : Frag → Bool) (w : World) (h : Heap) (K : Frag) : Prop where
  z : SaysZ fa fn ts fz (exW fx file ex) w h K
  x : (fx.map fun d => fnXA K (fI K d.cls)) = fx.map DefX.val
def hookW (n : Nat) (fa : List He.Fa) (fn : List He.DefD) (ts : List He.Tab) (fz : List He5.DefA) (fx : List DefX) (file : Str) (ex : Frag → Bool) : PySem.W.Hook where
  α := AlW
  obs := fun s => obsW n fa fn ts fz fx file ex s.heap.get?
  val := fun w => valW fn ts fz fx w
  says := fun w h => ∃ K : Frag, K.In h ∧ SaysW fa fn ts fz fx file ex w h K
  of := fun w h e => ⟨_, He.frT_in, ⟨congrArg (fun z : AlW => z.1.1) e, congrArg (fun z : AlW => z.1.2.1) e, congrArg (fun z : AlW => z.1.2.2) e⟩, congrArg (fun z : AlW => z.2) e⟩
  keeps := fun _ _ _ ⟨K, hK, c⟩ k => ⟨K, PySem.W.Frag.In.keeps hK k, ⟨⟨c.z.t, c.z.more0, c.z.z⟩, c.x⟩⟩
theorem obsW_eq {n : Nat} {fa : List He.Fa} {fn : List He.DefD} {ts : List He.Tab} {fz : List He5.DefA} {fx : List DefX} {file : Str} {ex : Frag → Bool} {g : Addr → Option Obj} {s : Shared} (h : ∀ a, g a = s.heap.get? a) : obsW n fa fn ts fz fx file ex g = (hookW n fa fn ts fz fx file ex).obs s := by
  have e : g = s.heap.get? := funext h
  rw [e] <;> rfl
section
variable {fa : List He.Fa} {fn : List He.DefD} {ts : List He.Tab} {fz : List He5.DefA} {fx : List DefX} {file : Str} {ex : Frag → Bool} {w : World} {h : Heap} {K : Frag}
theorem SaysW.t (c : SaysW fa fn ts fz fx file ex w h K) : He.SaysT fa fn ts w K := c.z.t
theorem SaysW.more (c : SaysW fa fn ts fz fx file ex w h K) : ex K = true := by
  have := c.z.more
  unfold exW at this
  rw [Bool.and_eq_true] at this
  exact this.2
theorem SaysW.def_ (c : SaysW fa fn ts fz fx file ex w h K) (i : Nat) {d : He5.DefA} (hi : fz[i]? = some d := by rfl) : ∃ fd, L2.FunD K d.name d.qual d.params d.body d.scope (d.dvs K) (d.kws K) (d.at_ K) fd := c.z.def_ i hi
theorem SaysW.err (c : SaysW fa fn ts fz fx file ex w h K) (i : Nat) {d : DefX} (hi : fx[i]? = some d := by rfl) : fnXA K (fI K d.cls) = d.val ∧ fnXB K d file = true ∧ clsXB K d.cls = true ∧ PySem.W.findIn K (.ref (He.ga K d.cls)) "code" = some none := by
  have h0 := c.z.more
  unfold exW at h0
  rw [Bool.and_eq_true] at h0
  have e2 : (fx.map fun d => fnXA K (fI K d.cls))[i]? = (fx.map DefX.val)[i]? := by rw [c.x]
  rw [List.getElem?_map, List.getElem?_map, hi] at e2
  have h1 := List.all_eq_true.mp h0.1 d (List.mem_of_getElem? hi)
  simp only [Bool.and_eq_true, noB, decide_eq_true_eq] at h1
  exact ⟨Option.some.inj e2, h1.1.1, h1.1.2, h1.2⟩
end
/-! tables over the error classes -/
def excCB (K : Frag) (D : Addr) : Bool := decide (PySem.W.findIn K (.ref D) "__getattribute__" = some (some (.builtin "BaseException.__getattribute__"))) && decide (PySem.W.findIn K (.ref D) "__getattr__" = some none) && decide (PySem.W.subIn K (.ref D) (.type "BaseException") = some true) && PySem.W.hasDictIn K D &&
  decide (PySem.W.findIn K (.ref D) "__class__" = some (some (.builtin "object.__class__"))) && decide (PySem.W.specialIn K (.builtin "object.__class__") "__get__" = some (some (.builtin "getset_descriptor.__get__"))) && decide (PySem.W.takesIn K (.builtin "object.__class__") = some true) && decide (PySem.W.mroIn K D (.type "object") = some true)
theorem excCB_ok {K : Frag} {D : Addr} (h : excCB K D = true) : ExcC K D := by
  unfold excCB at h
  simp only [Bool.and_eq_true, decide_eq_true_eq] at h
  obtain ⟨⟨⟨⟨⟨⟨⟨h1, h2⟩, h3⟩, h4⟩, h5⟩, h6⟩, h7⟩, h8⟩ := h
  exact ⟨h1, h2, h3, h4, h5, h6, h7, h8⟩
def xfsB (K : Frag) (cs : List (Str × Str)) : Bool := cs.all fun p => xfB K (He.ga K p.1) && noB K p.1 p.2
theorem xfsB_ok {K : Frag} {cs : List (Str × Str)} (h : xfsB K cs = true) : XfOk K cs := fun p hp => by
  have h1 := List.all_eq_true.mp h p hp
  simp only [Bool.and_eq_true, noB, decide_eq_true_eq] at h1
  exact ⟨xfB_ok h1.1, h1.2⟩
/-- isinstance asked of each error class in cs with each class in Ds, each built-in class in Ts -/
def xtabB (K : Frag) (cs Ds : List Str) (Ts : List String) (f : Str → Dt → Bool) : Bool := cs.all fun c => excCB K (He.ga K c) && (Ds.all fun d => decide (PySem.W.kitOne K (.ref (He.ga K c)) (.ref (He.ga K d)) = some (f c (.cls d)))) && Ts.all fun t => decide (PySem.W.kitOne K (.ref (He.ga K c)) (.type t) = some (f c (.ty t)))
theorem xtab_ok {K : Frag} {cs Ds : List Str} {Ts : List String} {f : Str → Dt → Bool} {tab : XT} (h : xtabB K cs Ds Ts f = true) (ht : ∀ c D b, tab c D = some b → c ∈ cs ∧ b = f c D ∧ ((∃ d, D = .cls d ∧ d ∈ Ds) ∨ ∃ t, D = .ty t ∧ t ∈ Ts)) : XOk K tab := fun c D b hb => by
  obtain ⟨hc, rfl, hD⟩ := ht c D b hb
  have h1 := List.all_eq_true.mp h c hc
  rw [Bool.and_eq_true, Bool.and_eq_true] at h1
  obtain ⟨⟨h1, h2⟩, h3⟩ := h1
  refine ⟨excCB_ok h1, ?_⟩
  rcases hD with ⟨d, rfl, hd⟩ | ⟨t, rfl, hd⟩
  · refine ⟨_, fun G v u r hr => ?_, of_decide_eq_true (List.all_eq_true.mp h2 d hd)⟩
    cases r
    exact hr
  · refine ⟨_, fun G v u r hr => ?_, of_decide_eq_true (List.all_eq_true.mp h3 t hd)⟩
    cases r
    exact hr
end Dl

set_option Elab.async false
set_option linter.all false
set_option maxRecDepth 100000
set_option maxHeartbeats 3000000
/-! The head with static methods, error classes and the tables of code objects. -/
namespace Dl
open L2 PySem PySem.Spec PyProof.Rows RZ StX Cm
abbrev AlV : Type := AlW × Bool
def obsV (n : Nat) (fa : List He.Fa) (fn : List He.DefD) (ts : List He.Tab) (tf : List He.Defn) (fz : List He5.DefA) (fx : List DefX) (file : Str) (ex : Frag → Bool) (g : Addr → Option Obj) : AlV := (obsW n fa fn ts fz fx file ex g, He.tabsB g tf (frZ g n))
def valV (fn : List He.DefD) (ts : List He.Tab) (fz : List He5.DefA) (fx : List DefX) (w : World) : AlV := (valW fn ts fz fx w, true)
structure SaysV (fa : List He.Fa) (fn : List He.DefD) (ts : List He.Tab) (tf : List He.Defn) (fz : List He5.DefA) (fx : List DefX) (file : Str) (ex : Frag → Bool) (w : World) (h : Heap) (K : Frag) : Prop where
  w : SaysW fa fn ts fz fx file ex w h K
  hd : ∀ p ∈ tf, PySem.W.codeHdIn K (He.cT K p).1 (He.cT K p).2 = true
  out : ∀ p ∈ tf, K.lookup (He.cT K p).2 = none
  empty : ∀ p ∈ tf, h.get? (He.cT K p).2 = some { cls := .none, data := .fields #[] }
theorem saysV_of {n : Nat} {fa : List He.Fa} {fn : List He.DefD} {ts : List He.Tab} {tf : List He.Defn} {fz : List He5.DefA} {fx : List DefX} {file : Str} {ex : Frag → Bool} {w : World} {h : Heap} (e : obsV n fa fn ts tf fz fx file ex h.get? = valV fn ts fz fx w) : SaysV fa fn ts tf fz fx file ex w h (frZ h.get? n) := by
  have e1 : obsW n fa fn ts fz fx file ex h.get? = valW fn ts fz fx w := congrArg (fun z : AlV => z.1) e
  have h2 : He.tabsB h.get? tf (frZ h.get? n) = true := congrArg (fun z : AlV => z.2) e
  have key : ∀ p ∈ tf, PySem.W.codeHdIn (frZ h.get? n) (He.cT (frZ h.get? n) p).1 (He.cT (frZ h.get? n) p).2 = true ∧ ∃ o, h.get? (He.cT (frZ h.get? n) p).2 = some o ∧ He.emptyTab o = true := fun p hp => by
    obtain ⟨h3, h4⟩ := Bool.and_eq_true_iff.mp (List.all_eq_true.mp h2 p hp)
    refine ⟨h3, ?_⟩
    cases q : h.get? (He.cT (frZ h.get? n) p).2 with
    | none => rw [q] at h4; cases h4
    | some o => rw [q] at h4; exact ⟨o, rfl, h4⟩
  refine ⟨⟨⟨congrArg (fun z : AlW => z.1.1) e1, congrArg (fun z : AlW => z.1.2.1) e1, congrArg (fun z : AlW => z.1.2.2) e1⟩, congrArg (fun z : AlW => z.2) e1⟩, fun p hp => (key p hp).1, fun p hp => ?_, fun p hp => ?_⟩
  · obtain ⟨_, o, q, z⟩ := key p hp
    exact He.frT_none q z
  · obtain ⟨_, o, q, z⟩ := key p hp
    rw [q, He.emptyTab_eq z]
def hookV (n : Nat) (fa : List He.Fa) (fn : List He.DefD) (ts : List He.Tab) (tf : List He.Defn) (fz : List He5.DefA) (fx : List DefX) (file : Str) (ex : Frag → Bool) : PySem.W.Hook where
  α := AlV
  obs := fun s => obsV n fa fn ts tf fz fx file ex s.heap.get?
  val := fun w => valV fn ts fz fx w
  says := fun w h => ∃ K : Frag, K.In h ∧ SaysV fa fn ts tf fz fx file ex w h K
  of := fun w h e => ⟨_, He.frT_in, saysV_of e⟩
  keeps := fun _ _ _ ⟨K, hK, c⟩ k => ⟨K, PySem.W.Frag.In.keeps hK k, ⟨⟨⟨c.w.z.t, c.w.z.more0, c.w.z.z⟩, c.w.x⟩, c.hd, c.out, fun p hp => k _ _ (c.empty p hp)⟩⟩
theorem obsV_eq {n : Nat} {fa : List He.Fa} {fn : List He.DefD} {ts : List He.Tab} {tf : List He.Defn} {fz : List He5.DefA} {fx : List DefX} {file : Str} {ex : Frag → Bool} {g : Addr → Option Obj} {s : Shared} (h : ∀ a, g a = s.heap.get? a) : obsV n fa fn ts tf fz fx file ex g = (hookV n fa fn ts tf fz fx file ex).obs s := by
  have e : g = s.heap.get? := funext h
  rw [e] <;> rfl
end Dl

set_option Elab.async false
set_option linter.all false
set_option maxRecDepth 100000
set_option maxHeartbeats 3000000
/-! The layer of data, 14: isinstance of own classes; what a head tells of properties, law_got. -/
namespace Dl
open L2 PySem PySem.Spec PyProof.Rows RZ StX Cm L2H
/-- (class of the thing, class asked, answer) -/
abbrev IsaL := List (Str × Str × Bool)
def dIsa (L : IsaL) : DFn := fun ds Q => ∃ x C, ds = [x, .cls C] ∧ ((∃ c fs b, x = .obj c fs ∧ (c, C, b) ∈ L ∧ Q (.bl b)) ∨ ∃ t, kdD x = some t ∧ C ∈ L.map (·.2.1) ∧ Q (.bl false))
def tys : List String := ["NoneType", "bool", "int", "str", "list", "tuple", "dict"]
structure IsaOk (K : Frag) (L : IsaL) : Prop where
  obj : ∀ p ∈ L, C8.InsC K (He.ga K p.1) ∧ PySem.W.kitOne K (.ref (He.ga K p.1)) (.ref (He.ga K p.2.1)) = some p.2.2
  ty : ∀ p ∈ L, ∀ t ∈ tys, PySem.W.kitOne K (.type t) (.ref (He.ga K p.2.1)) = some false
def isaB (K : Frag) (L : IsaL) : Bool := L.all fun p => insCB K (He.ga K p.1) && (decide (PySem.W.kitOne K (.ref (He.ga K p.1)) (.ref (He.ga K p.2.1)) = some p.2.2) && tys.all fun t => decide (PySem.W.kitOne K (.type t) (.ref (He.ga K p.2.1)) = some false))
theorem isaB_ok {K : Frag} {L : IsaL} (hc : ∀ p ∈ L, Cls K (He.ga K p.1)) (h : isaB K L = true) : IsaOk K L := by
  refine ⟨fun p hp => ?_, fun p hp t ht => ?_⟩
  · have h1 := List.all_eq_true.mp h p hp
    rw [Bool.and_eq_true, Bool.and_eq_true] at h1
    have hi := insCB_ok (hc p hp) h1.1
    exact ⟨⟨hi.cl, hi.ha, hi.hn, hi.htk, hi.hm, hi.me⟩, of_decide_eq_true h1.2.1⟩
  · have h1 := List.all_eq_true.mp h p hp
    rw [Bool.and_eq_true, Bool.and_eq_true] at h1
    exact of_decide_eq_true (List.all_eq_true.mp h1.2.2 t ht)
theorem o_isa {m : Md} {K : Frag} {L : IsaL} (hL : IsaOk K L) : OpN m K (rIsi K) (dIsa L) := by
  intro G H xs ds Qd Q s r q k
  obtain ⟨x, C, rfl, q⟩ := q
  cases r with
  | cons a r => cases r with
    | cons b r =>
      cases r; cases b
      rcases q with ⟨c, fs, b, rfl, hm, q⟩ | ⟨t, ht, hC, q⟩
      · obtain ⟨hi, hk⟩ := hL.obj _ hm
        cases a with
        | @obj a dx _ vs _ h1 r1 => exact ⟨_, _, _, _, b, rfl, .own _, .base (TyOf.ins (s _ _ h1) hi.cl hi.ha hi.hn hi.htk hi.hm), hk, k _ _ G H (New.refl s) (.bl _) q⟩
      · obtain ⟨p, hp, rfl⟩ := List.mem_map.mp hC
        exact ⟨_, _, .type t, _, false, rfl, .own _, tyx_kd (rp_ex s a) ht, hL.ty p hp t (kd_mem ht), k _ _ G H (New.refl s) (.bl _) q⟩
section
variable {ρ : Env} {Q : Dt → Prop}
theorem d_isaO {L : IsaL} {c C : Str} {fs : List (Str × Dt)} {b : Bool} (h : (c, C, b) ∈ L) (q : Q (.bl b)) : dIsa L [.obj c fs, .cls C] Q := ⟨_, C, rfl, .inl ⟨c, fs, b, rfl, h, q⟩⟩
theorem d_isaD {L : IsaL} {x : Dt} {C : Str} {t : String} (h : kdD x = some t) (hC : C ∈ L.map (·.2.1)) (q : Q (.bl false)) : dIsa L [x, .cls C] Q := ⟨x, C, rfl, .inr ⟨t, h, hC, q⟩⟩
end
/-! ### properties in a head -/
def prpB (K : Frag) (C D : Addr) (f : Str) : Bool := decide (PySem.W.findIn K (.ref C) f = some (some (.ref (He.ma K D f)))) && (decide (PySem.W.specialIn K (.ref (He.ma K D f)) "__get__" = some (some (.builtin "property.__get__"))) && (decide (PySem.W.takesIn K (.ref (He.ma K D f)) = some true) && (match PySem.W.recIn K (He.ma K D f) "property" with
  | some (.ref _ :: _) => true
  | _ => false)))
theorem prpB_ok {K : Frag} {C D : Addr} {f : Str} (h : prpB K C D f = true) : PropOf K C f (He.ma K D f) (He5.wf K D "property" f) := by
  unfold prpB at h
  rw [Bool.and_eq_true, Bool.and_eq_true, Bool.and_eq_true] at h
  obtain ⟨h1, h2, h3, h4⟩ := h
  refine ⟨of_decide_eq_true h1, of_decide_eq_true h2, of_decide_eq_true h3, ?_⟩
  split at h4
  · rename_i g rest e
    exact ⟨rest, by unfold He5.wf; rw [e]⟩
  · cases h4
theorem prp_of {P : Program} {w : World} {K : Frag} {mg : Str → Option Value} {base : Heap} {CX : CXT} {k : Nat} {C D : Addr} {f : Str} {sp : Sp} {fd : FuncData} (h : prpB K C D f = true) (F : FnOk P w K mg base CX k (He5.wf K D "property" f) fd ["self"] sp) (b : Binds K fd ["self"] []) : Prp P w K mg base CX k C f sp := ⟨_, _, fd, prpB_ok h, F, b⟩
end Dl
namespace Dl
theorem tf_all {K : Cm.Frag} {tf : List He.Defn} {Pr : PySem.Addr × PySem.Addr → Prop} (h : ∀ p ∈ tf, Pr (He.cT K p)) : ∀ p ∈ tf.map (He.cT K), Pr p := fun p hp => by
  obtain ⟨q, hq, rfl⟩ := List.mem_map.mp hp
  exact h q hq
end Dl

set_option Elab.async false
set_option linter.all false
set_option maxRecDepth 100000
set_option maxHeartbeats 3000000
/-! The layer of data, 15: more steps, plain data. -/
namespace Dl
open L2 PySem PySem.Spec PyProof.Rows RZ StX Cm
/-- the plain answers -/
def isI : Dt → Bool
  | .int _ => true
  | _ => false
def isN (x : Dt) (lo hi : Int) : Bool := match x with
  | .int i => decide (lo ≤ i) && decide (i ≤ hi)
  | _ => false
def nopy : Dt → Bool
  | .py _ => false
  | _ => true
theorem isN_of {x : Dt} {d : PyData} {lo hi : Int} (h : pyd x = some d) (hn : nopy x = true) : isNumD d lo hi = isN x lo hi := by
  cases x <;> simp_all [nopy, pyd, isN] <;> first | (subst h; rfl) | (obtain ⟨_, _, rfl⟩ := h; rfl)
theorem isI_of {x : Dt} {d : PyData} (h : pyd x = some d) (hn : nopy x = true) : isIntD d = isI x := by
  cases x <;> simp_all [nopy, pyd, isI] <;> first | (subst h; rfl) | (obtain ⟨_, _, rfl⟩ := h; rfl)
/-- plain data, told in full -/
def plain (x : Dt) : Prop := nopy x = true ∧ (pyd x).isSome = true
section
variable {ρ : Env} {D : DEnds} {a b : DExp} {Q : Dt → Prop} {QB : Bool → Prop} {w : DArg} {t : DStm} {c : DTst} {er : ER} {i : Nat}
theorem d_lsl {P : List Dt → Prop} (h : a ρ fun x => ∃ l, items x = some l ∧ P l) : dListL a ρ P := h
theorem d_isN0 (q : Q (.bl true)) : dIsN false .non .non Q := ⟨rfl, q⟩
theorem d_isN1 (q : Q (.bl false)) : dIsN true .non .non Q := ⟨rfl, q⟩
theorem d_isI0 {n : Int} (q : Q (.bl false)) : dIsN false (.int n) .non Q := ⟨rfl, q⟩
theorem d_isI1 {n : Int} (q : Q (.bl true)) : dIsN true (.int n) .non Q := ⟨rfl, q⟩
theorem d_isS0 {z : Str} (q : Q (.bl false)) : dIsN false (.str z) .non Q := ⟨rfl, q⟩
theorem d_isS1 {z : Str} (q : Q (.bl true)) : dIsN true (.str z) .non Q := ⟨rfl, q⟩
theorem d_isL0 {l : List Dt} (q : Q (.bl false)) : dIsN false (.lst l) .non Q := ⟨rfl, q⟩
theorem d_isL1 {l : List Dt} (q : Q (.bl true)) : dIsN true (.lst l) .non Q := ⟨rfl, q⟩
theorem d_isT0 {l : List Dt} (q : Q (.bl false)) : dIsN false (.tup l) .non Q := ⟨rfl, q⟩
theorem d_isT1 {l : List Dt} (q : Q (.bl true)) : dIsN true (.tup l) .non Q := ⟨rfl, q⟩
theorem d_isO0 {cc : Str} {fs : List (Str × Dt)} (q : Q (.bl false)) : dIsN false (.obj cc fs) .non Q := ⟨rfl, q⟩
theorem d_isO1 {cc : Str} {fs : List (Str × Dt)} (q : Q (.bl true)) : dIsN true (.obj cc fs) .non Q := ⟨rfl, q⟩
theorem d_isB0 {bb : Bool} (q : Q (.bl false)) : dIsN false (.bl bb) .non Q := ⟨rfl, q⟩
theorem d_isB1 {bb : Bool} (q : Q (.bl true)) : dIsN true (.bl bb) .non Q := ⟨rfl, q⟩
theorem d_isD0 {fs : List (Str × Dt)} (q : Q (.bl false)) : dIsN false (.dct fs) .non Q := ⟨rfl, q⟩
theorem d_isD1 {fs : List (Str × Dt)} (q : Q (.bl true)) : dIsN true (.dct fs) .non Q := ⟨rfl, q⟩
theorem d_isT {l : List Dt} (q : Q (.bl true)) : dIsi [.tup l, .ty "tuple"] Q := ⟨"tuple", rfl, by decide, q⟩
theorem d_isTn {x : Dt} (h : plain x) (hn : ∀ l, x ≠ .tup l) (q : Q (.bl false)) : dIsi [x, .ty "tuple"] Q := by
  obtain ⟨h1, h2⟩ := h
  cases x <;> first | exact absurd rfl (hn _) | (cases h1; done) | (exfalso; simp [pyd] at h2; done) | exact ⟨_, rfl, by decide, q⟩
theorem d_lstL0 {P : List Dt → Prop} (q : P []) : dLstL dNil ρ P := ⟨Nat.zero_le _, q⟩
theorem d_itm {P : List Dt → Prop} {l : List Dt} (q : P l) : ∃ l', items (.lst l) = some l' ∧ P l' := ⟨l, rfl, q⟩
theorem d_itmT {P : List Dt → Prop} {l : List Dt} (q : P l) : ∃ l', items (.tup l) = some l' ∧ P l' := ⟨l, rfl, q⟩
def NotOn (Q : Dt → Prop) : Dt → Prop := fun z => ∃ b, z = .bl b ∧ Q (.bl (!b))
theorem d_notin {x y : Dt} (h : dIn2 x y (NotOn Q)) : dNotIn2 x y Q := h
theorem d_notk {b : Bool} (q : Q (.bl (!b))) : NotOn Q (.bl b) := ⟨b, rfl, q⟩
theorem d_catL {l m : List Dt} {P : List Dt → Prop} (h : a ρ fun x => b ρ fun y => ∃ l m, x = .lst l ∧ y = .lst m ∧ l.length + m.length ≤ 100000 ∧ P (l ++ m)) : dCatL a b ρ P := h
theorem d_ifS_tt {u : DStm} (h : t D ρ) : (if true = true then t D ρ else u D ρ) := by simpa using h
theorem d_num {x : Dt} {lo hi : Int} (h : plain x) (q : Q (.bl (isN x lo hi))) : dsp_is_number [x, .int lo, .int hi] Q := by
  obtain ⟨d, hd⟩ := Option.isSome_iff_exists.mp h.2
  exact ⟨x, d, lo, hi, rfl, hd, by rw [isN_of hd h.1]; exact q⟩
def dsp_is_integer : DFn := fun ds Q => ∃ x d, ds = [x] ∧ pyd x = some d ∧ Q (.bl (isIntD d))
theorem ok_integer {m : Md} {K : Frag} : SpOk m K (sp_is_integer K) dsp_is_integer := by
  intro G H vs ds Qd Q E s r q k
  obtain ⟨x, d, rfl, h1, q⟩ := q
  cases r with
  | cons a r =>
    cases r
    exact ⟨_, d, rfl, Cm.up s (dp_of a h1), fun H' e => k _ _ G H' (New.grow s e) (.bl _) q⟩
theorem d_int {x : Dt} (h : plain x) (q : Q (.bl (isI x))) : dsp_is_integer [x] Q := by
  obtain ⟨d, hd⟩ := Option.isSome_iff_exists.mp h.2
  exact ⟨x, d, rfl, hd, by rw [isI_of hd h.1]; exact q⟩
theorem plain_int {i : Int} : plain (.int i) := ⟨rfl, rfl⟩
theorem plain_bl {i : Bool} : plain (.bl i) := ⟨rfl, rfl⟩
theorem plain_non : plain .non := ⟨rfl, rfl⟩
theorem plain_str {i : Str} : plain (.str i) := ⟨rfl, rfl⟩
end
/-- told in full, and its items too -/
def plainT (x : Dt) : Prop := plain x ∧ ∀ l, items x = some l → ∀ y ∈ l, plain y
def xe (code f : Str) (x : Dt) : List (Str × Dt) := [("code", .str code), (f, x)]
end Dl

set_option Elab.async false
set_option linter.all false
set_option maxRecDepth 100000
set_option maxHeartbeats 4000000
/-! Lambdas as values: made, kept in a list, called far down. -/
namespace LamY
open PySem PySem.Spec PyProof.Rows L2 L2H HotX LamX
/-! ### a bigger base: the caller's things that nobody tracks -/
theorem funs_base {h B B' : Heap} : ∀ {l : List Env}, h.FunFrames B l → (∀ b ∈ frs l, B'.get? b = none) → h.FunFrames B' l
  | [], _, _ => trivial
  | env :: rest, ⟨h1, ⟨L, o, hf, h2, h3, h4⟩, h5⟩, k =>
    have hL : L ∈ frs (env :: rest) := List.mem_filterMap.mpr ⟨env, List.mem_cons_self, hf⟩
    ⟨h1, ⟨L, o, hf, k L hL, h3, h4⟩, funs_base h5 fun b hb => k b (by
      obtain ⟨e, he, q⟩ := List.mem_filterMap.mp hb
      exact List.mem_filterMap.mpr ⟨e, List.mem_cons_of_mem _ he, q⟩)⟩
theorem mod_up {K : PySem.W.Frag} {mg : Str → Option Value} {b B : Heap} (m : Mod K mg b) (k : ∀ a o, b.get? a = some o → B.get? a = some o) (n : B.NoLimit) : Mod K mg B :=
  ⟨m.kin.keeps k, m.glob.keeps k, let ⟨mb, h1, h2⟩ := m.blt; ⟨mb, h1.keeps k, h2⟩, n⟩
theorem bigger {X : Cx} {pins : List (Addr × Obj)} {σ : L2.St} {H : Hp} {s : Shared} (I : Inv X pins σ H s) (hfn : ∀ x, X.fn x = true) :
    ∃ B : Heap, (∀ b o, X.base.get? b = some o → B.get? b = some o) ∧ X.base.objs.size ≤ B.objs.size ∧ Env0 X.prog X.w X.K X.mg B X.A X.stack s H ∧ (∀ x c o, X.env.cells.lookup x = some c → s.heap.get? c = some o → B.get? c = some o) := by
  obtain ⟨l, hl⟩ : ∃ l : List Addr, l = (List.range s.heap.objs.size).filter fun b => (H b).isSome || decide (b ∈ frs X.stack) := ⟨_, rfl⟩
  have mem : ∀ b, b ∈ l ↔ b < s.heap.objs.size ∧ ((H b).isSome = true ∨ b ∈ frs X.stack) := fun b => by
    rw [hl, List.mem_filter, List.mem_range, Bool.or_eq_true, decide_eq_true_iff]
  have e0 := I.env0
  have kp : ∀ b o, X.base.get? b = some o → (PySem.W.hideAll s.heap l).get? b = some o := fun b o e => by
    refine PySem.W.hideAll_get l (e0.bs b o e).1 fun hb => ?_
    rcases ((mem b).mp hb).2 with z | z
    · rw [(e0.bs b o e).2] at z; cases z
    · rw [(I.stack.mem z).1] at e; cases e
  refine ⟨PySem.W.hideAll s.heap l, kp, by rw [PySem.W.hideAll_size]; exact e0.bsz, ⟨e0.frames, mod_up e0.mod kp (e0.mod.nolimit.keeps kp), fun b o e => ⟨PySem.W.of_hideAll l e, ?_⟩, Nat.le_of_eq (PySem.W.hideAll_size _ _), ?_, e0.frf, e0.hok, e0.bare⟩, fun x c o hx e => ?_⟩
  · cases z : H b with
    | none => rfl
    | some u =>
      have : b ∈ l := (mem b).mpr ⟨Heap.lt_size (PySem.W.of_hideAll l e), Or.inl (by rw [z]; rfl)⟩
      rw [PySem.W.hideAll_none l this] at e; cases e
  · refine funs_base e0.funs fun b hb => ?_
    obtain ⟨_, o, ho, _⟩ := I.stack.mem hb
    exact PySem.W.hideAll_none l ((mem b).mpr ⟨Heap.lt_size ho, Or.inr hb⟩)
  · refine PySem.W.hideAll_get l e fun hb => ?_
    rcases ((mem c).mp hb).2 with z | z
    · rw [I.freeC x c hx] at z; cases z
    · rcases List.mem_cons.mp (I.stkSub c z) with q | q
      · exact I.cne x c hx q
      · obtain ⟨_, o', ho', _⟩ := I.ok.funs.mem q
        exact absurd (Nat.lt_of_lt_of_le (Heap.lt_size ho') (I.ok.cab x c (hfn x) hx)) (Nat.lt_irrefl _)
theorem not_there {b B : Heap} {a : Addr} (h : B.get? a = none) (k : ∀ o, b.get? a = some o → B.get? a = some o) : b.get? a = none := by
  cases q : b.get? a with
  | none => rfl
  | some o => rw [k o q] at h; cases h
theorem env0_sub {P : Program} {w : World} {K : PySem.W.Frag} {mg : Str → Option Value} {b B : Heap} {A : Around} {outer : List Env} {s : Shared} {H : Hp} (e : Env0 P w K mg B A outer s H) (m : Mod K mg b) (k : ∀ a o, b.get? a = some o → B.get? a = some o) (hz : b.objs.size ≤ B.objs.size) :
    Env0 P w K mg b A outer s H :=
  ⟨e.frames, m, fun a o q => e.bs a o (k a o q), Nat.le_trans hz e.bsz, funs_base e.funs (fun a ha => not_there (e.funs.mem ha).1 (k a)), e.frf, e.hok, e.bare⟩
/-! ### the lambda's names: captured ones, globals, a parameter of its own that nothing reads -/
structure LamS3 (sc : Scope) (N : List Str) (scope : Scope) : Prop where
  kind : scope.kind = .function
  co : scope.isCoroutine = false
  gen : scope.isGenerator = false
  nc : ∀ y ∈ scope.names, y.2 ≠ .cell
  own : ∀ y ∈ scope.names, y.2 = .local → y.1 ∉ N
  free : ∀ y ∈ scope.names, y.2 = .free → sc.names.lookup y.1 = some .cell ∨ sc.names.lookup y.1 = some .free
def lamS3B (sc : Scope) (N : List Str) (scope : Scope) : Bool :=
  decide (scope.kind = .function) && !scope.isCoroutine && !scope.isGenerator && scope.names.all fun y => !decide (y.2 = .cell) && (!decide (y.2 = .local) || !decide (y.1 ∈ N)) && (!decide (y.2 = .free) || decide (sc.names.lookup y.1 = some .cell) || decide (sc.names.lookup y.1 = some .free))
theorem lamS3_by {sc : Scope} {N : List Str} {scope : Scope} (h : lamS3B sc N scope = true) : LamS3 sc N scope := by
  unfold lamS3B at h
  simp only [Bool.and_eq_true, Bool.or_eq_true, Bool.not_eq_true', decide_eq_true_eq, decide_eq_false_iff_not, List.all_eq_true] at h
  obtain ⟨⟨⟨h1, h2⟩, h3⟩, h4⟩ := h
  refine ⟨h1, h2, h3, fun y hy => (h4 y hy).1.1, fun y hy e => ?_, fun y hy e => ?_⟩
  · rcases (h4 y hy).1.2 with z | z
    · exact absurd e z
    · exact z
  · rcases (h4 y hy).2 with (z | z) | z
    · exact absurd e z
    · exact .inl z
    · exact .inr z
/-- what a lambda captures is a cell of its maker -/
theorem clo_of {cells : List (Str × Addr)} {names : List (Str × NameKind)} {y : Str} {c : Addr} (has : ∀ y, names.lookup y = some .free ∨ (y, NameKind.free) ∈ names → ∃ c, cells.lookup y = some c) (e : (cloFrom cells names []).lookup y = some c) : cells.lookup y = some c := by
  cases cloFrom_mem (PySem.mem_of_lookup e) with
  | inl hm => exact absurd hm (by simp)
  | inr q =>
    obtain ⟨d, hd⟩ := has y (.inr q.1)
    have := q.2
    rw [hd] at this
    rw [hd, this]; rfl
theorem clo_has {cells : List (Str × Addr)} {names : List (Str × NameKind)} {y : Str} (hl : names.lookup y = some .free) : ∃ c, (cloFrom cells names []).lookup y = some c := mem_lookup (cloFrom_has (PySem.mem_of_lookup hl))
/-- the maker of a lambda: its cells stand as they stood -/
structure Held (X : Cx) (σ : L2.St) (s1 : Shared) (HZ : Hp) : Prop where
  cell : ∀ x c, X.env.cells.lookup x = some c → (∃ v, s1.heap.IsCell c v) ∧ HZ c = none
  val : ∀ (i : Nat) (x : Str) (v : V) (c : Addr), X.N[i]? = some x → σ[i]? = some (some v) → X.env.cells.lookup x = some c → (X.env.kindOf x = some .cell ∨ X.env.kindOf x = some .free) → ∃ u, RelV v u ∧ s1.heap.IsCell c (some u)
section
variable {X : Cx} {pins : List (Addr × Obj)} {σ : L2.St} {H HZ : Hp} {s s1 : Shared}
theorem Held.of (I : Inv X pins σ H s) (hc : ∀ x c o, X.env.cells.lookup x = some c → s.heap.get? c = some o → s1.heap.get? c = some o ∧ HZ c = none) : Held X σ s1 HZ := by
  constructor
  · intro x c e
    obtain ⟨v, o, ho, hd⟩ := I.cell x c e
    exact ⟨⟨v, o, (hc x c o e ho).1, hd⟩, (hc x c o e ho).2⟩
  · intro i x v c e1 e2 e3 k
    obtain ⟨m, _, hl⟩ := I.loc
    obtain ⟨u, r, q⟩ := hl i x v e1 e2 (k.elim (fun k => .inr (.inl k)) fun k => .inr (.inr k))
    refine ⟨u, r, ?_⟩
    rcases q with ⟨k', _⟩ | ⟨_, c3, e4, o, ho, hd⟩
    · rcases k with k | k <;> rw [k] at k' <;> cases k'
    · rw [e3] at e4; cases e4
      exact ⟨o, (hc x c o e3 ho).1, hd⟩
theorem LamS3.has {scope : Scope} (L : LamS3 X.env.scope X.N scope) (ok : X.Ok) (y : Str) (h : scope.names.lookup y = some .free ∨ (y, NameKind.free) ∈ scope.names) : ∃ c, X.env.cells.lookup y = some c :=
  have m : (y, NameKind.free) ∈ scope.names := h.elim (fun z => PySem.mem_of_lookup z) id
  ok.has _ ((L.free _ m rfl).elim .inl .inr)
theorem lam_ok {A : Around} {outer : List Env} {E : XK} {scope : Scope} {f c' : Addr} (ok : X.Ok) (L : LamS3 X.env.scope X.N scope) (e0 : Env0 X.prog X.w X.K X.mg X.base A outer s1 HZ) (hd : A.handled = none) : (lamCx X A outer s1 HZ E scope f c').Ok where
  mod := e0.mod
  kind := L.kind
  glob := rfl
  blt := rfl
  above := Nat.le_refl _
  inj y z c e1 e2 := ok.inj y z c (clo_of (L.has ok) e1) (clo_of (L.has ok) e2)
  has y hy := by
    have hy : scope.names.lookup y = some .cell ∨ scope.names.lookup y = some .free := hy
    exact hy.elim (fun z => absurd rfl (L.nc _ (PySem.mem_of_lookup z))) clo_has
  cab y c z := by have z : false = true := z; cases z
  hd _ := hd
  frames := Around.frames_deeper e0.frames
  stk := .inr ⟨rfl, rfl⟩
  exf b hb := by have hb : b ∈ ([] : List Addr) := hb; cases hb
  bs := e0.bs
  bsz := e0.bsz
  noex b _ _ hb := by have hb : b ∈ ([] : List Addr) := hb; cases hb
  exfs b hb := by have hb : b ∈ ([] : List Addr) := hb; cases hb
  funs := e0.funs
  frf := e0.frf
theorem lam_start3 {A : Around} {outer : List Env} {E : XK} {scope : Scope} {f c' : Addr} {h₁ : Heap} {tk : Nat} {m : Str → Option Value} (ok : X.Ok) (hlen : σ.length = X.N.length) (C : Held X σ s1 HZ) (L : LamS3 X.env.scope X.N scope) (e0 : Env0 X.prog X.w X.K X.mg X.base A outer s1 HZ) (hd : A.handled = none)
    (hns : h₁.Ns s1.heap.objs.size m) (kp : ∀ b o, s1.heap.get? b = some o → h₁.get? b = some o) :
    Inv (lamCx X A outer s1 HZ E scope f c') [] σ HZ { s1 with heap := h₁, toks := tk } := by
  have kc : ∀ {c v}, s1.heap.IsCell c v → h₁.IsCell c v := fun {c v} ⟨o, ho, hd⟩ => ⟨o, kp _ _ ho, hd⟩
  exact {
    ok := lam_ok ok L e0 hd
    os := rfl
    bare := e0.bare
    base := Un.kept kp
    free := e0.hok.fresh (Nat.le_refl _)
    hok := e0.hok.kept kp
    len := hlen
    pin := fun q hq => by have hq : q ∈ ([] : List (Addr × Obj)) ++ [] := hq; cases hq
    cell := fun y c e => (C.cell y c (clo_of (L.has ok) e)).1.imp fun _ z => kc z
    freeC := fun y c e => (C.cell y c (clo_of (L.has ok) e)).2
    loc := ⟨m, hns, fun i y v e1 e2 e3 => by
      have e3 : Vis scope y := e3
      rcases e3 with k | k | k
      · exact absurd (List.mem_of_getElem? (show X.N[i]? = some y from e1)) (L.own _ (PySem.mem_of_lookup k) rfl)
      · exact absurd rfl (L.nc _ (PySem.mem_of_lookup k))
      · obtain ⟨c, hc⟩ := clo_has (cells := X.env.cells) k
        have hk : X.env.kindOf y = some .cell ∨ X.env.kindOf y = some .free := L.free _ (PySem.mem_of_lookup k) rfl
        obtain ⟨u, r, z⟩ := C.val i y v c e1 e2 (clo_of (L.has ok) hc) hk
        exact ⟨u, r, .inr ⟨.inr k, c, hc, kc z⟩⟩⟩ }
end
end LamY

set_option Elab.async false
set_option linter.all false
set_option maxRecDepth 100000
set_option maxHeartbeats 4000000
/-! Lambdas as values, 2: their objects; called in the def that got one. -/
namespace LamY
open PySem PySem.Spec PyProof.Rows L2 L2H HotX LamX
open PySem.W (kdv_fn kdv_obj kdv_tup)
def LamO (q : Str) (params : Arguments) (body : Expr) (scope : Scope) (clo : List (Str × Addr)) (dV : Value) (c' f : Addr) : HO := .ext fun h => ∃ doc pm ctv : Value, h.get? f = some (kdv_obj "<lambda>" q params (.expr body) scope clo dV doc pm c' ctv)
def TupO (u : Value) (T : Addr) : HO := .ext fun h => h.get? T = some (kdv_tup [u])
/-- the default of its one parameter, if it has one -/
def DfAt (H : Hp) (dV : Value) : Option (Str × Value) → Prop
  | none => dV = .none
  | some p => ∃ T, dV = .ref T ∧ H T = some (TupO p.2 T)
def BindL (params : Arguments) (body : Expr) (scope : Scope) : Option (Str × Value) → Prop
  | none => ∀ (q : Str) (cl : List (Str × Addr)) (doc pm cv ctv : Value), bindArgs (kdv_fn "<lambda>" q params (.expr body) scope cl .none doc pm cv ctv) ⟨[], []⟩ = pure []
  | some p => ∀ (q : Str) (cl : List (Str × Addr)) (T : Addr) (doc pm cv ctv : Value), ∃ k, bindArgs (kdv_fn "<lambda>" q params (.expr body) scope cl (.ref T) doc pm cv ctv) ⟨[], []⟩ = seqItems? (.ref T) >>= k ∧ k (some #[p.2]) = pure [p]
theorem bind_lam {P : Program} {w : World} {params : Arguments} {body : Expr} {scope : Scope} {d : Option (Str × Value)} {H : Hp} {s : Shared} {dV : Value} (b : BindL params body scope d) (h : DfAt H dV d) (hok : HOk P w H s.heap) (q : Str) (cl : List (Str × Addr)) (doc pm cv ctv : Value) :
    BindsTo s (kdv_fn "<lambda>" q params (.expr body) scope cl dV doc pm cv ctv) ⟨[], []⟩ d.toList := by
  cases d with
  | none =>
    have h : dV = .none := h
    subst h
    exact BindsTo.of_eq (b q cl doc pm cv ctv)
  | some p =>
    obtain ⟨T, rfl, hT⟩ := h
    obtain ⟨k, h1, h2⟩ := b q cl T doc pm cv ctv
    have z : s.heap.get? T = some (kdv_tup [p.2]) := (hok T _ hT).1
    exact BindsTo.of_defaults rfl z rfl h1 h2
/-- what holds of a lambda of the def that X runs, before any run: t reads its body -/
structure LamC (X : Cx) (k : Nat) (t : XK → TE) (params : Arguments) (body : Expr) (scope : Scope) (d : Option (Str × Value)) : Prop where
  S : LamS3 X.env.scope X.N scope
  b : BindL params body scope d
  dl : ∀ p ∈ d.toList, scope.names.lookup p.1 = some .local
  run : ∀ (A : Around) (outer : List Env) (s : Shared) (H : Hp) (E : XK) (f c' : Addr), Room k (A.deeper (lamEnv X scope s.heap.objs.size f c')) → PE (lamCx X A outer s H E scope f c') body (t E)
/-- the object at f is such a lambda -/
def LamIs (X : Cx) (k : Nat) (H : Hp) (f : Addr) (t : XK → TE) : Prop := ∃ (params : Arguments) (body : Expr) (scope : Scope) (d : Option (Str × Value)) (dV : Value) (c' : Addr), LamC X k t params body scope d ∧
  H f = some (LamO (X.env.qual ++ "<lambda>") params body scope (cloFrom X.env.cells scope.names []) dV c' f) ∧ H c' = some (CodeO c' (X.env.qual ++ "<lambda>")) ∧ DfAt H dV d
theorem LamIs.ext {X : Cx} {k : Nat} {H H' : Hp} {f : Addr} {t : XK → TE} (e : ∀ b o, H b = some o → H' b = some o) : LamIs X k H f t → LamIs X k H' f t := by
  rintro ⟨params, body, scope, d, dV, c', h1, h2, h3, h4⟩
  refine ⟨params, body, scope, d, dV, c', h1, e _ _ h2, e _ _ h3, ?_⟩
  cases d with
  | none => exact h4
  | some p => obtain ⟨T, e1, e2⟩ := h4; exact ⟨T, e1, e _ _ e2⟩
section
variable {X : Cx} {pins : List (Addr × Obj)} {σ : L2.St} {H : Hp} {s : Shared}
/-- a(), in a def that was handed the lambda: the lambda's def stands still at (σ, H, s), B keeps its cells -/
theorem pe_act3 {B : Heap} {CXg : CXT} {Eg : XK} {Ng : List Str} {qg : Str} {sg : Scope} {g f c' : Addr} {cdg dV : Value} {params : Arguments} {body : Expr} {scope : Scope} {d : Option (Str × Value)} {k i : Nat} {a : Str} {pn : List (Addr × Obj)} {xe : Value → Shared → Prop} {W : WX} {E : XK} {t : XK → TE} {p1 p2 : Pos} {A : Around} {outer : List Env} {sE : Shared} {HE : Hp}
    (I : Inv X pins σ H s) (hB : ∀ b o, X.base.get? b = some o → B.get? b = some o) (hz : X.base.objs.size ≤ B.objs.size) (hc : ∀ x c o, X.env.cells.lookup x = some c → s.heap.get? c = some o → B.get? c = some o) (C : LamC X k t params body scope d)
    (tk : Takes ((cxOf CXg X.prog X.w X.K X.mg B Ng qg sg g cdg A outer sE HE Eg).tr pn xe) W) (hW : ∀ cls d σ' H', E cls d H' → W cls d σ' H') (hr : Room (k + 1) (A.deeper (envOfC qg sg sE.heap.objs.size g cdg)))
    (hN : Ng[i]? = some a) (hv : Vis sg a) (hd : (a == ("__debug__" : Str)) = false) (hcd : (a == ("__classdict__" : Str)) = false) :
    PE ((cxOf CXg X.prog X.w X.K X.mg B Ng qg sg g cdg A outer sE HE Eg).tr pn xe) (.Call (.Name a p1) [] [] p2)
      (fun σZ HZ Q => σZ[i]? = some (some (.ref f)) ∧ HZ c' = some (CodeO c' (X.env.qual ++ "<lambda>")) ∧ HZ f = some (LamO (X.env.qual ++ "<lambda>") params body scope (cloFrom X.env.cells scope.names []) dV c' f) ∧ DfAt HZ dV d ∧ t E σ HZ Q) := by
  refine ⟨fun pinsZ sZ σZ HZ Q IZ h => ?_⟩
  obtain ⟨hs, hco, hf, hdf, ht⟩ := h
  refine wpAny_Call_Name_kw (thn ((pe_var (pos := p1) (i := i) hN hv hd hcd).run pinsZ sZ σZ HZ (fun v H1 => v = .ref f ∧ H1 = HZ) IZ ⟨.ref f, hs, rfl, rfl⟩) fun u s1 ⟨v, H1, I1, r1, q1⟩ => ?_)
  obtain ⟨rfl, rfl⟩ := q1
  cases r1
  obtain ⟨⟨doc, pm, ctv, of1⟩, _, _⟩ := I1.hok f _ hf
  obtain ⟨⟨oc, vs, tq, hoc, hdc, hvc⟩, _, _⟩ := I1.hok c' _ hco
  refine PySem.W.callWith_F0 ⟨_, _, _, _, of1⟩ ?_
  have bs : ∀ b o, B.get? b = some o → s1.heap.get? b = some o ∧ H1 b = none := I1.bs
  have hh : Held X σ s1 H1 := Held.of I fun x c o e1 e2 => bs c o (hc x c o e1 e2)
  have e0 : Env0 X.prog X.w X.K X.mg X.base (A.deeper (envOfC qg sg sE.heap.objs.size g cdg)) (envOfC qg sg sE.heap.objs.size g cdg :: outer) s1 H1 := env0_sub I1.env0 I.mod hB hz
  have rc : codeAny (model X.prog X.w) (A.deeper (envOfC qg sg sE.heap.objs.size g cdg)) (.call (.ref f) ⟨[], []⟩) (CR (L2.CX X.prog X.w) (envOfC qg sg sE.heap.objs.size g cdg :: outer) X.prog X.w H1 s1 Q E) s1 := by
    refine PySem.W.kla_callFunE hr.depth of1 rfl C.S.co C.S.gen rfl ⟨c', oc, vs, tq, rfl, hoc, hdc, hvc⟩ (bind_lam C.b hdf I1.hok _ _ _ _ _ _ _ _ _ _ ?_)
    refine wpAny_newFunctionEnv C.S.nc C.dl (fun h₁ hns hsb => ⟨I1.nolimit.fresh _ hsb, ?_⟩) C.S.kind
    show codeAny _ _ (.expr body (lamEnv X scope s1.heap.objs.size f c')) _ _
    have kp : ∀ b o, s1.heap.get? b = some o → h₁.get? b = some o := fun b o e => hsb.extBut b o (Nat.ne_of_lt (Heap.lt_size e)) (Heap.get?_push_of_some _ e)
    have J : Inv (lamCx X (A.deeper (envOfC qg sg sE.heap.objs.size g cdg)) (envOfC qg sg sE.heap.objs.size g cdg :: outer) s1 H1 E scope f c') [] σ H1 { s1 with heap := h₁, toks := s1.toks + d.toList.length } :=
      lam_start3 I.ok I.len hh C.S e0 hr.hd hns kp
    refine PySem.W.kla_codeExpr (wpAny_mono ((C.run _ _ s1 H1 E f c' (hr.deeper _)).run [] _ _ H1 Q J ht) (fun v s' hq => ?_) fun e s' hq => hq)
    obtain ⟨w', H', J', rv, q⟩ := hq
    exact ⟨w', H', J'.os, J'.bare, J'.base, J'.hok, rv, q⟩
  refine wpAny_call (codeAny_mono rc fun r s' hq => ?_)
  match r, hq with
  | .error e, hq => exact passes_call tk hW pinsZ σZ H1 s1 e s' I1 hq
  | .ok (.ret u), hq => exact I1.after hq
end
end LamY

set_option Elab.async false
set_option linter.all false
set_option maxRecDepth 100000
set_option maxHeartbeats 4000000
/-! Lambdas as values, 3: made. -/
namespace LamY
open PySem PySem.Spec PyProof.Rows L2 L2H HotX LamX
open PySem.W (kdv_fn kdv_obj kdv_tup)
/-- a lambda made, as a value -/
def tLamV (T : List (Addr × Str)) (Λ : Hp → Addr → (XK → TE) → Prop) (t : XK → TE) : TE := fun _ H Q => Tabs T H ∧ ∀ f H1, ExtN H H1 → Tabs T H1 → H f = none → Λ H1 f t → Q (.ref f) H1
theorem dfAt_ext {H H' : Hp} {dV : Value} (e : ∀ T u, H T = some (TupO u T) → H' T = some (TupO u T)) : ∀ {d : Option (Str × Value)}, DfAt H dV d → DfAt H' dV d
  | none, h => h
  | some _, ⟨T, h1, h2⟩ => ⟨T, h1, e _ _ h2⟩
section
variable {X : Cx} {pins : List (Addr × Obj)} {σ : L2.St} {H : Hp} {s : Shared}
theorem lam_tail {T : List (Addr × Str)} {c P : Addr} {params : Arguments} {body : Expr} {scope : Scope} {pos : Pos} {d : Option (Str × Value)} {dV : Value} {k : Nat} {t : XK → TE} {E : Value → Shared → Prop} {Q : Value → Shared → Prop} (I : Inv X pins σ H s) (TB : TabB X.base X.mg c P) (hcode : X.env.code = .ref c)
    (hm : (P, X.env.qual ++ "<lambda>") ∈ T) (hu : ∀ p ∈ T, p.1 = P → p.2 = X.env.qual ++ "<lambda>") (hT : Tabs T H) (C : LamC X k t params body scope d) (hd : DfAt H dV d)
    (h : ∀ (f : Addr) (H1 : Hp) (s' : Shared), Inv X pins σ H1 s' → ExtN H H1 → Tabs T H1 → s.heap.objs.size ≤ f → LamIs X k H1 f t → Q (.ref f) s') :
    wpAny (model X.prog X.w) X.A (makeTail "<lambda>" (X.env.qual ++ "<lambda>") params (.expr body) scope X.env dV .none none pos pos.line) Q E s := by
  obtain ⟨ps, hP, ht, ha⟩ := hT _ hm
  have bP : s.heap.BuiltinsAt X.mg P := TB.bm.keeps I.bk
  have hP' : s.heap.get? P = some { cls := .none, data := .fields ps } := I.hok P _ hP
  have hcl := closure_ok (env := X.env) (scope := scope) fun y hy e => C.S.has I.ok y.1 (.inr (by rw [← e]; exact hy))
  -- the function object laid down behind all
  have fin : ∀ (H1 : Hp) (h' : Heap) (tk : Nat) (doc pm ctv : Value) (c' : Addr), Inv X pins σ H1 { s with heap := h', toks := tk } → ExtN H H1 → Tabs T H1 → s.heap.objs.size ≤ h'.objs.size → H1 c' = some (CodeO c' (X.env.qual ++ "<lambda>")) → DfAt H1 dV d →
      ∀ tk2 : Nat, Q (.ref h'.objs.size) { s with heap := h'.push (kdv_obj "<lambda>" (X.env.qual ++ "<lambda>") params (.expr body) scope (cloFrom X.env.cells scope.names []) dV doc pm c' ctv), toks := tk2 } := fun H1 h' tk doc pm ctv c' I1 e1 T1 hs hc hd1 tk2 => by
    have hn : H1 h'.objs.size = none := I1.hok.fresh (Nat.le_refl _)
    have J := I1.laid (t' := tk2) (o := LamO (X.env.qual ++ "<lambda>") params body scope (cloFrom X.env.cells scope.names []) dV c' h'.objs.size) (fun b u e => Heap.get?_push_of_some _ e) (Nat.le_refl _)
      ⟨⟨doc, pm, ctv, Heap.get?_push_size _ rfl⟩, ⟨_, Heap.get?_push_size _ rfl⟩, fun h1 h2 ⟨doc, pm, ctv, z⟩ st => ⟨doc, pm, ctv, st _ z⟩⟩
    have up : ∀ b o, H1 b = some o → upd H1 h'.objs.size (LamO (X.env.qual ++ "<lambda>") params body scope (cloFrom X.env.cells scope.names []) dV c' h'.objs.size) b = some o := fun b o e => by rw [upd_ne (ne_of_none e hn)]; exact e
    exact h _ _ _ J (e1.trans (ExtN.of up)) (T1.ext up) hs ⟨params, body, scope, d, dV, c', C, upd_same, up _ _ hc, dfAt_ext (fun T u e => up _ _ e) hd1⟩
  cases hc : codeAmong pos ps.toList with
  | none =>
    refine PySem.W.kdv_makeTail (mg := X.mg) (c := c) (P := P) (ps := ps) hcl I.ok.glob (I.mod.glob.keeps I.bk) hcode (TB.code.keeps I.bk) hP' ht hc TB.gP bP fun c' ctv doc h' tk hx hge hlt hrec htb => ?_
    obtain ⟨c2, oc, vs, tq, e2, hoc, hdd, hv⟩ := hrec
    cases e2
    have nC : H c' = none := I.hok.fresh hge
    have I1 := inv_table (t' := tk) (more := #[rawInt pos.line, rawInt pos.col, .ref c']) (h' := h') I hP hx htb hge ⟨oc, vs, tq, hoc, hdd, hv⟩
    have hE : ExtN H (upd (upd H P (.tbl (ps ++ #[rawInt pos.line, rawInt pos.col, .ref c']))) c' (CodeO c' (X.env.qual ++ "<lambda>"))) := fun b o e n => by
      have hb : b ≠ P := fun z => by
        subst z
        rw [hP] at e; cases e
        exact n _ rfl
      rw [upd_ne (ne_of_none e nC), upd_ne hb]
      exact e
    have eL : (ps ++ #[rawInt pos.line, rawInt pos.col, .ref c']).toList = ps.toList ++ [rawInt pos.line, rawInt pos.col, .ref c'] := by simp
    have hT1 : Tabs T (upd (upd H P (.tbl (ps ++ #[rawInt pos.line, rawInt pos.col, .ref c']))) c' (CodeO c' (X.env.qual ++ "<lambda>"))) := fun p hp => by
      by_cases hb : p.1 = P
      · refine ⟨_, by rw [hb, upd_ne (ne_of_none hP nC), upd_same], by rw [eL]; exact PySem.TriplesOk_snoc _ _ _ _ ht, fun p' cv hcv => ?_⟩
        rw [hu p hp hb]
        rw [eL] at hcv
        cases among_app _ ht hcv with
        | inl z => obtain ⟨c0, e1, e2⟩ := ha p' cv z; exact ⟨c0, e1, hE _ _ e2 codeO_ne⟩
        | inr z => exact ⟨c', z, upd_same⟩
      · obtain ⟨ps', a1, a2, a3⟩ := hT p hp
        refine ⟨ps', by rw [upd_ne (ne_of_none a1 nC), upd_ne hb]; exact a1, a2, fun p' cv hcv => ?_⟩
        obtain ⟨c0, e1, e2⟩ := a3 p' cv hcv
        exact ⟨c0, e1, hE _ _ e2 codeO_ne⟩
    exact fin _ h' tk doc _ ctv c' I1 hE hT1 (Nat.le_trans hge (Nat.le_of_lt hlt)) upd_same (dfAt_ext (fun T u e => hE _ _ e (fun ps z => by unfold TupO at z; cases z)) hd) tk
  | some cv =>
    obtain ⟨c', rfl, hco⟩ := ha pos cv hc
    refine PySem.W.kdv_makeTailHit (mg := X.mg) (c := c) (P := P) (ps := ps) hcl I.ok.glob (I.mod.glob.keeps I.bk) hcode (TB.code.keeps I.bk) hP' ht hc bP fun ctv doc h' tk hx hsz => ?_
    exact fin H h' tk doc _ ctv c' (I.kept fun b o e => hx b o e) (ExtN.refl H) hT hsz hco hd tk
/-- lambda: e -/
theorem pe_lamV0 {T : List (Addr × Str)} {c P : Addr} {params : Arguments} {body : Expr} {scope : Scope} {pos : Pos} {k : Nat} {t : XK → TE} (TB : TabB X.base X.mg c P) (hcode : X.env.code = .ref c)
    (hm : (P, X.env.qual ++ "<lambda>") ∈ T) (hu : ∀ p ∈ T, p.1 = P → p.2 = X.env.qual ++ "<lambda>") (C : LamC X k t params body scope none) (hdef : defaultsOf params X.env = ([], [])) :
    PE X (.Lambda params body scope pos) (tLamV T (LamIs X k) t) := by
  refine ⟨fun pins s σ H Q I h => ?_⟩
  obtain ⟨hT, h⟩ := h
  refine PySem.W.kla_eval hdef ?_
  rw [makeFunction_eq]
  simp only [List.zip_nil_right, List.filterMap_nil, List.isEmpty_nil, if_true, pure_bind]
  exact lam_tail I TB hcode hm hu hT C rfl fun f H1 s' I1 e1 T1 hs hl => ⟨.ref f, H1, I1, rfl, h f H1 e1 T1 (I.hok.fresh hs) hl⟩
/-- lambda a=v: e -/
theorem pe_lamV1 {T : List (Addr × Str)} {c P : Addr} {params : Arguments} {body e : Expr} {scope : Scope} {pos : Pos} {k : Nat} {t : XK → TE} {a : Str} {v : V} (TB : TabB X.base X.mg c P) (hcode : X.env.code = .ref c)
    (hm : (P, X.env.qual ++ "<lambda>") ∈ T) (hu : ∀ p ∈ T, p.1 = P → p.2 = X.env.qual ++ "<lambda>") (C : ∀ u, LamC X k t params body scope (some (a, u))) (hdef : params.defaults = [e]) (hkw : params.kw_defaults = []) (he : PE X e (tC v)) :
    PE X (.Lambda params body scope pos) (tLamV T (LamIs X k) t) := by
  refine ⟨fun pins s σ H Q I h => ?_⟩
  obtain ⟨hT, h⟩ := h
  refine PySem.W.kdv_lam (by rw [hdef]; rfl) hkw ?_
  rw [hdef]
  refine PySem.W.kdv_all1 (thn (he.run pins s σ H (fun _ H1 => H1 = H) I rfl) fun u s1 ⟨w', H1, I1, r1, q1⟩ => PySem.W.kdv_all0 ?_)
  subst q1
  rw [makeFunction_eq]
  simp only [List.zip_nil_right, List.filterMap_nil, List.isEmpty_nil, if_true, pure_bind, List.isEmpty_cons, Bool.false_eq_true, if_false]
  refine wpAny_bind (wpAny_newTextTuple ?_)
  have hn : H1 s1.heap.objs.size = none := I1.hok.fresh (Nat.le_refl _)
  have J := I1.laid (t' := s1.toks) (o := TupO u s1.heap.objs.size) (h' := s1.heap.push (kdv_tup [u])) (fun b o e => Heap.get?_push_of_some _ e) (Nat.le_refl _) ⟨Heap.get?_push_size _ rfl, ⟨_, Heap.get?_push_size _ rfl⟩, fun h1 h2 z st => st _ z⟩
  have up : ∀ b o, H1 b = some o → upd H1 s1.heap.objs.size (TupO u s1.heap.objs.size) b = some o := fun b o e => by rw [upd_ne (ne_of_none e hn)]; exact e
  refine lam_tail (d := some (a, u)) J TB hcode hm hu (hT.ext up) (C u) ⟨_, rfl, upd_same⟩ fun f H2 s' I2 e2 T2 hs hl => ⟨.ref f, H2, I2, rfl, h f H2 ((ExtN.of up).trans e2) T2 ?_ hl⟩
  exact I1.hok.fresh (Nat.le_trans (by rw [Heap.size_push]; omega) hs)
end
end LamY

set_option Elab.async false
set_option linter.all false
set_option maxRecDepth 100000
set_option maxHeartbeats 400000
/-! Lambdas as values, 4: law_got and law_all_got of them. -/
namespace LamY
open PySem PySem.Spec PyProof.Rows L2 L2H HotX LamX Dl
/-- x(v), x being law_got, v holding a lambda: σ is where the lambda's maker stands still -/
def tGotV (K : PySem.W.Frag) (cs : List Value) (spF : Addr × Obj → Sp) (Λ : Hp → Addr → (XK → TE) → Prop) (σ : L2.St) (j : Nat) : TE := fun σY HY Q => ∃ (f : Addr) (t : XK → TE), σY[j]? = some (some (.ref f)) ∧ Λ HY f t ∧ TGot K cs spF (fun E H' Q' => t E σ H' Q') HY Q
theorem tl_mono {K : PySem.W.Frag} {cs : List Value} {spF : Addr × Obj → Sp} {tl tl' : XK → Hp → VK → Prop} {H : Hp} {Q : VK} (h : ∀ E Q, tl E H Q → tl' E H Q) (g : TGot K cs spF tl H Q) : TGot K cs spF tl' H Q := h _ _ g
section
variable {X : Cx} {pins : List (Addr × Obj)} {σ : L2.St} {H : Hp} {s : Shared}
theorem pe_gotvar {B : Heap} {Y : Cx} {k kg j : Nat} {x v : Str} {cs : List Value} {spF : Addr × Obj → Sp} {p1 p2 p3 : Pos} (I : Inv X pins σ H s) (hB : ∀ b o, X.base.get? b = some o → B.get? b = some o) (hz : X.base.objs.size ≤ B.objs.size)
    (hc : ∀ x c o, X.env.cells.lookup x = some c → s.heap.get? c = some o → B.get? c = some o) (M : ∀ base, Got X.prog X.w X.K X.mg base kg x cs spF)
    (e1 : Y.prog = X.prog) (e2 : Y.w = X.w) (e3 : Y.K = X.K) (e4 : Y.mg = X.mg) (e5 : Y.base = B) (hr : Room (k + 2) Y.A) (hkg : kg + 1 ≤ k + 2) (hg : Gl Y x) (hv : PE Y (.Name v p2) (tVar j)) (hdb : (x == ("__debug__" : Str)) = false) :
    PE Y (.Call (.Name x p1) [.Name v p2] [] p3) (tGotV X.K cs spF (LamIs X k) σ j) := by
  obtain ⟨prog, w, K, mg, base, A, N, s_0, H_0, env, outer, stack, ex, fn, calm, pn, xe⟩ := Y
  dsimp only at e1 e2 e3 e4 e5 hr
  subst e1 e2 e3 e4 e5
  obtain ⟨g, ff, fd, fdF, pg, bg, sg, a, e, fnm, x1, x2, x3, c1, c2, c3, psF, F, hm, hb, S, ⟨j0, kk2, k1, k2, q1, q2, q3, q4, q5, q6, q7, q8, q9, n1, n2, n3, r1, r2, r3, r4, r5, r6, r7, rfl⟩, FF, hbF, hmF, hkF, m1, m2, m3, rfl⟩ := (M base).ex
  obtain ⟨oc, od, dV0, kV, doc, pm, an, cdv, ct, osl, rfl, lk, hcd, _, _⟩ := F.ex
  refine ⟨fun pinsY sY σY HY Q IY h => ?_⟩
  obtain ⟨f, t, hvar, ⟨params, body, scope, d, dV, c', C, hf, hc', hdf⟩, hT⟩ := h
  have ha := pa_cons hv (pa_nil (X := ⟨X.prog, X.w, X.K, X.mg, base, A, N, s_0, H_0, env, outer, stack, ex, fn, calm, pn, xe⟩))
  refine wpAny_Call_Name_kw (ld_glob IY hg hm ?_ hdb)
  refine PySem.W.callWith_K (h₀ := base) IY.ok.mod.kin F.kp (thn (ha.run p3 pinsY sY σY HY (fun vs H1 => vs = [.ref f] ∧ H1 = HY) IY ⟨.ref f, hvar, rfl, rfl⟩) fun us s1 ⟨vs, H1, I1, rr, q⟩ => ⟨I1.kIn, ?_⟩) (by rfl) (by rfl)
  obtain ⟨rfl, rfl⟩ := q
  cases rr with
  | @cons _ u _ us' rv rn =>
  cases rn
  cases rv
  show wpAny _ _ (call (.ref g) [.ref f]) _ _ _
  have rc : codeAny (model X.prog X.w) A (.call (.ref g) ⟨[.ref f], []⟩) (CR C8.CX0 stack X.prog X.w H1 s1 Q C8.E0) s1 := by
    refine run_ofS (N := [a, e]) (ps := [a]) (us := [.ref f]) (vs := [.ref f]) lk hcd S.sc hr I1.env0 (hb s1 [.ref f] I1.kIn rfl) (.cons rfl .nil) rfl fun hr' => ?_
    obtain ⟨t', ht', hq'⟩ := got_gives (X := ⟨X.prog, X.w, X.K, X.mg, base, A, N, s_0, H_0, env, outer, stack, ex, fn, calm, pn, xe⟩) (p6 := q6) (p1 := q1) (p2 := q2) (p3 := q3) (p4 := q4) (p5 := q5) (p7 := q7) (p8 := q8) (p9 := q9) (x := x) (q := X.env.qual ++ "<lambda>") (g := g) (cdg := cdv) (k1 := k1) (k2 := k2) (kk := kk2) (j0 := j0) (n1 := n1) (n2 := n2) (n3 := n3) (r1 := r1) (r2 := r2) (r3 := r3) (r4 := r4) (r5 := r5) (r6 := r6) (r7 := r7)
      FF (roomH_of (hr.mono hkg)) hbF hmF hkF S.fn_ S.df S.g1 S.g2 S.g3 S.d1 S.d2 S.d3 m1 m2 m3 S.ne S.le S.de S.ve S.ce f c' s1 H1 Q
      (fun E HZ Q => HZ f = some (LamO (X.env.qual ++ "<lambda>") params body scope (cloFrom X.env.cells scope.names []) dV c' f) ∧ DfAt HZ dV d ∧ t E σ HZ Q)
      (fun W pn xe E p1 p2 tk hW => pe_act3 (i := 0) (a := a) I hB hz hc C tk hW hr' rfl S.va S.da S.ca) hc' (tl_mono (fun E Q q => ⟨hf, hdf, q⟩) hT)
    exact ⟨t', ht'.nox, hq'⟩
  refine wpAny_call (codeAny_mono rc fun r s2 hq => ?_)
  match r, hq with
  | .ok (.ret u), hq => exact I1.after hq
end
/-- law_all_got: [law_got(v) for v in a] -/
structure AllG (P : Program) (w : World) (K : PySem.W.Frag) (mg : Str → Option Value) (x y : Str) : Prop where
  ex : ∃ (g : Addr) (fd : FuncData) (pg : Arguments) (bg : List Stmt) (sg : Scope) (a v : Str), FunD K x x pg bg sg [] [] g fd ∧ mg x = some (.ref g) ∧ L2.Binds K fd [a] [] ∧ FnScope [a, v] [a] sg ∧
    ∀ (base : Heap) (A : Around) (outer : List PySem.Env) (s : Shared) (H : Hp) (cd : Value) (te : TE),
      (∀ (Y : Cx) (p1 p2 p3 : Pos), Y.prog = P → Y.w = w → Y.K = K → Y.mg = mg → Y.base = base → Y.A = A.deeper (envOfC x sg s.heap.objs.size g cd) → Gl Y y → PE Y (.Name v p2) (tVar 1) → PE Y (.Call (.Name y p1) [.Name v p2] [] p3) te) →
      PSs (cxOf C8.CX0 P w K mg base [a, v] x sg g cd A outer s H C8.E0).nox bg (tRet (tLc (iList K (tVar 0)) (gName 1) tYes te [1]))
def tAllGot (K : PySem.W.Frag) (cs : List Value) (spF : Addr × Obj → Sp) (Λ : Hp → Addr → (XK → TE) → Prop) (ta : TE) : TE := fun σ H Q => tCons ta tNil σ H fun vs H1 => ∃ v, vs = [v] ∧ tLc (iList K (tVar 0)) (gName 1) tYes (tGotV K cs spF Λ σ 1) [1] [some v, none] H1 Q
theorem pe_allgot {X : Cx} {k kg : Nat} {x y : Str} {cs : List Value} {spF : Addr × Obj → Sp} {e : Expr} {ta : TE} {p pos : Pos} (G : AllG X.prog X.w X.K X.mg x y) (M : ∀ base, Got X.prog X.w X.K X.mg base kg y cs spF) (hr : Room (k + 3) X.A) (hkg : kg + 1 ≤ k + 2) (hg : Gl X x) (hfn : ∀ x, X.fn x = true) (he : PE X e ta)
    (hdb : (x == ("__debug__" : Str)) = false := by decide) (hdy : (y == ("__debug__" : Str)) = false := by decide) (hst : starEach [e] X.env = (false, eval e X.env) :: starEach [] X.env := by rfl) (hpl : (backTo pos (starEach [] X.env)).any (·.1) = false := by rfl) :
    PE X (.Call (.Name x p) [e] [] pos) (tAllGot X.K cs spF (LamIs X k) ta) := by
  obtain ⟨g, fd, pg, bg, sg, a, v, F, hm, hb, S, hbody⟩ := G.ex
  obtain ⟨oc, od, dV0, kV, doc, pm, an, cdv, ct, osl, rfl, lk, hcd, _, _⟩ := F.ex
  refine ⟨fun pins s σ H Q I h => ?_⟩
  have ha := pa_cons he (pa_nil (X := X)) hst
  refine wpAny_Call_Name_kw (ld_glob I hg hm ?_ hdb)
  refine PySem.W.callWith_K (h₀ := X.base) I.ok.mod.kin F.kp (thn (ha.run pos pins s σ H _ I h) fun us s1 ⟨vs, H1, I1, rr, q⟩ => ⟨I1.kIn, ?_⟩) hst hpl
  obtain ⟨w1, rfl, q⟩ := q
  cases rr with
  | @cons _ u _ us' rv rn =>
  cases rn
  show wpAny _ _ (call (.ref g) [u]) _ _ _
  obtain ⟨B, hB, hz, eB, hc⟩ := bigger I1 hfn
  have rc : codeAny (model X.prog X.w) X.A (.call (.ref g) ⟨[u], []⟩) (CR C8.CX0 X.stack X.prog X.w H1 s1 Q C8.E0) s1 := by
    refine run_ofS (N := [a, v]) (ps := [a]) (us := [u]) (vs := [w1]) lk hcd S hr eB (hb s1 [u] I1.kIn rfl) (.cons rv .nil) rfl fun hr' => ?_
    have z := hbody B X.A X.stack s1 H1 cdv (tGotV X.K cs spF (LamIs X k) σ 1) fun Y p1 p2 p3 e1 e2 e3 e4 e5 e6 hg hv => pe_gotvar I1 hB hz hc M e1 e2 e3 e4 e5 (by rw [e6]; exact hr') hkg hg hv hdy
    exact ⟨_, z.nox, q⟩
  refine wpAny_call (codeAny_mono rc fun r s2 hq => ?_)
  match r, hq with
  | .ok (.ret u), hq => exact I1.after hq
end LamY

set_option Elab.async false
set_option linter.all false
set_option maxRecDepth 100000
set_option maxHeartbeats 400000
/-! The layer of data, 16: lambdas as values; law_all_got of a list of them. -/
namespace Dl
open L2 PySem PySem.Spec PyProof.Rows RZ StX Cm LamY
abbrev Lms := Nat → (Hp → Addr → Prop) → Prop
/-- a lambda made: the i-th of its def -/
def dLamV (Lm : Lms) (i : Nat) : DExp := fun _ Q => ∀ ψ, Lm i ψ → Q (.hob ψ)
def dBad : ER → DExp := fun _ _ _ => False
def LmAll (Lm : Lms) : List Dt → List Nat → Prop
  | [], [] => True
  | d :: ds, i :: is => (∃ ψ, d = .hob ψ ∧ Lm i ψ) ∧ LmAll Lm ds is
  | _, _ => False
def dRuns (es : List (Str × Option Str)) (bs : List (ER → DExp)) : List Nat → Env → (List Dt → Prop) → Prop
  | [], _, P => P []
  | i :: is, ρ, P => dGot es (bs.getD i dBad) ρ fun y => dRuns es bs is ρ fun ys => P (y :: ys)
def dAllGot (es : List (Str × Option Str)) (Lm : Lms) (bs : List (ER → DExp)) (a : DExp) : DExp := fun ρ Q => a ρ fun x => ∃ l is, x = .lst l ∧ l.length ≤ 100000 ∧ LmAll Lm l is ∧ dRuns es bs is ρ fun ys => Q (.lst ys)
section
variable {lk : Lk} {K : Frag} {T : List (Addr × Str)} {Λ : Hp → Addr → (XK → TE) → Prop} {Lm : Lms}
theorem l_lamV {t : XK → TE} {i : Nat} (hΛ : ∀ H H' f t, Ex H H' → Λ H f t → Λ H' f t) (hΛt : ∀ G H f t, Λ H f t → Λ (tell G H) f t) (hw : lk.w) (hT : lk.T = T) (hp : lk.p) (hL : Lm i fun H f => Λ H f t) : LiftE lk K (tLamV T Λ t) (dLamV Lm i) := by
  subst hT
  intro G σ H ρ Qd Q R h k
  refine ⟨R.tabs hw, fun f H1 eN T1 hf hl => ?_⟩
  have s1 : Ex G H1 := fun a o h => eN a o (R.sub a o h) fun ps z => R.notb hw a ps (z ▸ h)
  have ng : ∀ a ps, G a ≠ some (.tbl ps) := fun a ps z => R.notb hw a ps z
  have g1 : Ex G (tell G H1) := fun a o h => by
    by_cases z : ∃ ps, o = .tbl ps
    · obtain ⟨ps, rfl⟩ := z; exact absurd h (ng a ps)
    · exact tell_at (s1 a o h) fun ps e => z ⟨ps, e⟩
  have n1 : New lk.m G H (tell G H1) H1 := ⟨g1, fun a o h => by
    by_cases z : ∃ ps, o = .tbl ps
    · exact .inr z
    · exact .inl (eN a o h fun ps e => z ⟨ps, e⟩), fun a o h => (tell_of h).elim id fun z => s1 a o z.1, fun a o h => .inr (.inr hp), fun _ => T1, fun a ps h => by
      rcases tell_of h with z | z
      · exact absurd h (by unfold tell; rw [z]; exact fun q => ng a ps q)
      · exact z.1⟩
  exact k _ _ _ _ n1 (.hob fun H' e => hΛ _ _ _ _ e (hΛt G H1 f t hl)) (h _ hL)
theorem l_allGot {ts : List (XK → TE)} {bs : List (ER → DExp)} {es : List (Str × Option Str)} {cs : List Value} {ta : TE} {da : DExp} (hLm : ∀ i ψ, Lm i ψ → ∃ t, ts[i]? = some t ∧ ψ = fun H f => Λ H f t)
    (hw : lk.w) (hT : lk.T = T) (hsub : ∀ p ∈ es, p ∈ errs) (hx : XAll K (errNs es) fldNs) (hm : exmB K es cs = true) (hb : ∀ i t, ts[i]? = some t → ∀ lk' : Lk, lk'.T = lk.T → lk'.w → LiftE lk' K (t lk'.E) ((bs.getD i dBad) lk'.er))
    (ha : LiftE lk K ta da) : LiftE lk K (tAllGot K cs (spPin T K (errNs es) fldNs dsph_law_field) Λ ta) (dAllGot es Lm bs da) := by
  intro G σ H ρ Qd Q R h k
  refine ha G σ H ρ _ _ R h fun x d G1 H1 n1 r1 h1 => ⟨x, rfl, ?_⟩
  obtain ⟨l, is, rfl, hlen, hall, h2⟩ := h1
  cases r1 with
  | @lst a xs _ hxs hrs =>
  have hxl : xs.length = l.length := rps_len hrs
  refine g_lc ⟨.ref a, rfl, a, rfl, ⟨xs, Evl.sq_of (n1.s _ _ hxs)⟩, ?_⟩
  intro D hD
  have R1 := (R.new n1).nx
  refine lc_it (walk_list (K := K) (a := a) (xs := xs)) (Qd := fun H' => Q (.ref D) H') (fun i H => ∃ G2 acc ys, New lk.nx.m G1 H1 G2 H ∧ G2 D = none ∧ H D = some (.lst acc) ∧ Rps K G2 acc ys ∧ acc.length ≤ i ∧ LmAll Lm (l.drop i) (is.drop i) ∧ dRuns es bs (is.drop i) ρ fun zs => Qd (.lst (ys ++ zs)))
    ⟨G1, [], [], New.grow n1.s (Evl.Ex.new hD), Evl.fresh_back n1.s hD, upd_same, .nil, Nat.zero_le _, hall, h2⟩ (fun i H2 _ ⟨G2, _, _, n2, _⟩ => Evl.sq_of (n2.s _ _ (n2.g _ _ hxs))) ?_ ?_
  · rintro i x H2 H3 hi ⟨G2, acc, ys, n2, hD2, hacc, hr, hle, hal, hm2⟩ hy
    obtain ⟨rfl, hxi⟩ := hy
    have hli : i < l.length := by omega
    rw [List.drop_eq_getElem_cons hli] at hal
    have hdd : is.drop (i + 1) = (is.drop i).drop 1 := by rw [List.drop_drop]
    rw [hdd]
    cases hq : is.drop i with
    | nil => rw [hq] at hal; exact hal.elim
    | cons i0 r =>
      rw [hq] at hal hm2
      obtain ⟨⟨ψ, hd, hψ⟩, hal⟩ := hal
      obtain ⟨t, ht, rfl⟩ := hLm i0 ψ hψ
      obtain ⟨v, hv, rv⟩ := rps_of hrs (List.getElem?_eq_getElem hli)
      rw [hxi] at hv
      cases hv
      rw [hd] at rv
      cases rv with
      | @hob f _ hf =>
        refine ⟨rfl, ?_⟩
        unfold tYes
        dsimp only
        refine iteT ⟨f, t, rfl, hf H3 (n2.g.trans n2.s), ?_⟩
        have L := l_got (lk := lk.nx) hw hT hsub hx hm (fun lk' e1 _ hw' => hb i0 t ht lk' e1 hw')
        have z := L G2 σ H3 ρ _ (fun y H4 => ∃ acc, H4 D = some (.lst acc) ∧ acc.length < sizeLine ∧ ∃ G2 acc2 ys, New lk.nx.m G1 H1 G2 (upd H4 D (.lst (acc ++ [y]))) ∧ G2 D = none ∧ upd H4 D (.lst (acc ++ [y])) D = some (.lst acc2) ∧ Rps K G2 acc2 ys ∧ acc2.length ≤ i + 1 ∧ LmAll Lm (l.drop (i + 1)) ((i0 :: r).drop 1) ∧ dRuns es bs ((i0 :: r).drop 1) ρ fun zs => Qd (.lst (ys ++ zs)))
          (R1.new n2) hm2 fun y d G5 H5 n5 r5 q5 => by
            have k2 : H5 D = some (.lst acc) := n5.h.get hacc (by intro ps z; cases z)
            have k1 : G5 D = none := by
              cases e : G5 D with
              | none => rfl
              | some o =>
                rcases n5.n D o e with z | z | z
                · rw [hD2] at z; cases z
                · exact (z.no hacc lst_tbl).elim
                · exact z.elim
            have n15 := n2.trans n5
            refine ⟨acc, k2, sz5lt (by omega), G5, acc ++ [y], ys ++ [d], ⟨n15.g, Exh.mut n15.h (Or.inl hD), fun b o e => ?_, n15.n, fun t => tabs_mut k2 lst_tbl lst_ext (n15.t t), n15.q⟩, k1, upd_same, rps_app (rps_ex n5.g hr) (.cons r5 .nil), by rw [List.length_append]; exact Nat.succ_le_succ hle, hal, ?_⟩
            · have : b ≠ D := fun z => by rw [z, k1] at e; cases e
              rw [upd_ne this]; exact n15.s _ _ e
            · simpa [List.append_assoc] using q5
        exact z.2 H3 (LamX.ExtN.refl H3) z.1
  · rintro H2 ⟨G2, acc, ys, n2, hD2, hacc, hr, hle, hal, hm2⟩
    rw [hxl, List.drop_length] at hal
    have he : is.drop xs.length = [] := by
      rw [hxl]
      cases hq : is.drop l.length with
      | nil => rfl
      | cons i0 r => rw [hq] at hal; exact hal.elim
    rw [he] at hm2
    have hm2 : Qd (.lst (ys ++ [])) := hm2
    rw [List.append_nil] at hm2
    have e := Evl.Ex.new (o := .lst acc) hD2
    have nf : New lk.nx.m G1 H1 (upd G2 D (.lst acc)) H2 := new_frz n2 (Or.inl hD) hD2 hacc
    exact k _ _ _ _ (n1.trans (New.wk (m := lk.m) nf)) (.lst upd_same (rps_ex e hr)) hm2
end
theorem lamIs_tell {X : Cx} {k : Nat} (G H : Hp) (f : Addr) (t : XK → TE) : LamIs X k H f t → LamIs X k (tell G H) f t := by
  rintro ⟨params, body, scope, d, dV, c', h1, h2, h3, h4⟩
  refine ⟨params, body, scope, d, dV, c', h1, tell_at h2 (fun ps z => by unfold LamO at z; cases z), tell_at h3 LamX.codeO_ne, ?_⟩
  cases d with
  | none => exact h4
  | some p => obtain ⟨T, e1, e2⟩ := h4; exact ⟨T, e1, tell_at e2 (fun ps z => by unfold TupO at z; cases z)⟩
/-- what stands for the i-th lambda of a def, t its reading -/
def LmOf (Λ : Hp → Addr → (XK → TE) → Prop) (ts : List (XK → TE)) : Lms := fun i ψ => ∃ t, ts[i]? = some t ∧ ψ = fun H f => Λ H f t
theorem lm_ok {Λ : Hp → Addr → (XK → TE) → Prop} {ts : List (XK → TE)} (i : Nat) (t : XK → TE) (h : ts[i]? = some t) : LmOf Λ ts i fun H f => Λ H f t := ⟨t, h, rfl⟩
end Dl

set_option Elab.async false
set_option linter.all false
set_option maxRecDepth 100000
set_option maxHeartbeats 400000
/-! The layer of data, 17: statements that are never reached; a static method called by keywords. -/
namespace Dl
open L2 PySem PySem.Spec PyProof.Rows RZ StX Cm
theorem pss_no {X : Cx} {l : List Stmt} : PSs X l tNo := ⟨fun _ _ _ _ _ _ h => h.elim⟩
structure StaK (P : Program) (w : World) (K : Frag) (mg : Str → Option Value) (base : Heap) (CX : CXT) (k : Nat) (C : Addr) (m : Str) (ks : List Str) (gV : List V → List V → List V) (sp : Sp) : Prop where
  rd : ClX.CRead K C (.type "type")
  ex : ∃ (p f : Addr) (fd : FuncData) (rest : List Value) (ps : List Str) (g : List Value → List Value → List Value), PySem.W.findCls K (.ref C) (.type "type") m = some (.get (.builtin "staticmethod.__get__") (.ref p) .none (.ref C)) ∧ PySem.W.recIn K p "staticmethod" = some (.ref f :: rest) ∧ FnOk P w K mg base CX k f fd ps sp ∧ PySem.W.keepIn K (.ref f) = true ∧ PySem.W.handedIn (.ref f) = true ∧ KBn K fd ps 0 ks g gV
section
variable {X : Cx} {CX : CXT} {j k : Nat} {C : Addr} {m : Str} {sp : Sp} {E : XK} {pos apos : Pos} {o : Expr} {kws : List Keyword} {tk : TA} {ks : List Str} {gV : List V → List V → List V}
theorem pe_smethk0 {pl : Sem Bool} {i : Nat} (he : PE X o (tC (.ref C))) (M : StaK X.prog X.w X.K X.mg X.base CX k C m ks gV sp) (hr : Room j X.A) (hk : k ≤ j) (hx : Passes CX X E) (hkw : PK X kws tk)
    (hall : (backToKw pos (keywordEach kws X.env)).all (·.1.isSome) = true := by rfl) (hks : (backToKw pos (keywordEach kws X.env)).filterMap (·.1) = ks := by rfl)
    (hpl : ((backTo pos (starEach [] X.env)).any (·.1) || (backToKw pos (keywordEach kws X.env)).any (·.1.isNone)) = false := by rfl) (hmm : ks.length = i := by rfl)
    (ht : eval (.Call (.Attribute o m apos) [] kws pos) X.env = (do
      let ov ← eval o X.env
      standAt apos.atName
      let (f, first) ← holding [ov] (getMethod ov m pl)
      callWith pos f first (backTo pos (starEach [] X.env)) (backToKw pos (keywordEach kws X.env))) := by rfl) : PE X (.Call (.Attribute o m apos) [] kws pos) (tCallN 0 i sp gV E tNil tk) := by
  obtain ⟨p, f, fd, rest, ps, g, hf, hrec, F, kp, hh, b⟩ := M.ex
  subst hmm
  refine ⟨fun pins s σ H Q I h => ?_⟩
  refine PySem.W.methodCall_KW (pl := pl) (thn (he.run pins s σ H (fun x H1 => x = .ref C ∧ H1 = H) I ⟨rfl, rfl⟩) fun u s1 ⟨x, H1, I1, rx, ex, eH⟩ => ?_) ht
  subst ex
  subst eH
  cases rx
  refine PySem.W.method_cls I1.kIn M.rd.ga (PySem.W.cls_bind I1.kIn M.rd.rd hf (wpAny_call (PySem.W.sm_get (s := { s1 with toks := s1.toks + 1 }) I1.kIn hrec (PySem.W.handed_on hh ?_))))
  refine PySem.W.callWith_KW0 (first := []) (h₀ := X.base) I1.mod.kin kp hall (thn (hkw.run pos pins _ σ _ _ (I1.tok _) h) ?_) hpl
  rintro ws s2 ⟨zs, H2, I2, rz, l1, l2, q2⟩
  refine ⟨I2.kIn, ?_⟩
  rw [hks]
  exact run_fnN (us := []) (vs := []) F (hr.mono hk) b hx I2 .nil rz rfl l2 q2
end
theorem stak_of {P : Program} {w : World} {K : Frag} {mg : Str → Option Value} {base : Heap} {CX : CXT} {k : Nat} {C : Addr} {m : Str} {ps ks : List Str} {sp : Sp} {fd : FuncData} {gV : List V → List V → List V} {g : List Value → List Value → List Value} (hr : PySem.W.readsIn K C (.type "type") = true) (hw : He5.wrapB K C "staticmethod" "staticmethod.__get__" m = true)
    (F : FnOk P w K mg base CX k (He5.wf K C "staticmethod" m) fd ps sp) (kp : PySem.W.keepIn K (.ref (He5.wf K C "staticmethod" m)) = true) (b : KBn K fd ps 0 ks g gV) : StaK P w K mg base CX k C m ks gV sp := by
  obtain ⟨h1, rest, h2⟩ := He5.wrapB_ok hw
  exact ⟨cread hr, _, _, fd, rest, ps, g, h1, h2, F, kp, rfl, b⟩
end Dl

set_option Elab.async false
set_option linter.all false
set_option maxRecDepth 100000
set_option maxHeartbeats 1000000
/-! sorted by a key that is a lambda, 1: the sort by calls that keep a property of the state. -/
namespace Skey
open PySem PySem.Calls PyProof.Rows PySem.W
/-- u stands for the key k in any heap -/
def KeyU (u : Value) (k : PyData) : Prop := ∀ h : Heap, Reads h u k []
theorem KeyU.int (n : Int) (t : Tok) : KeyU (.int n t) (.int n) := fun _ => .int n t
theorem KeyU.str (x : Str) (t : Tok) : KeyU (.str x t) (.str x) := fun _ => .str x t
section
variable {prog : Program} {w : World} {A : Around} {E : Value → Shared → Prop} {s : Shared} {a kS : Addr} {b : Bool} {vs : List Value} {e1 : Nat} {P : PySem.Fin → Shared → Prop} {kz : List PyData} {J : Shared → Prop}
theorem keyJ_rest {f : Value} (hJ : J s) (nk : s.heap.get? kS = some (seqObj "list" #[] 0)) (na : s.heap.get? a = some (seqObj "list" #[] e1)) (hka : kS ≠ a)
    (hlen : kz.length = vs.length) (hZ : vs.length ≤ sizeLine) (hal : AllAlike kz) (hsk : Sortable kz) (hu : ∀ d, d ∈ kz → A.units + d.depth < cLine)
    (up : ∀ (s' : Shared) (g : Obj → Obj), J s' → J { s' with heap := s'.heap.update kS g })
    (turn : ∀ (i : Nat) (v : Value) (k : PyData), vs[i]? = some v → kz[i]? = some k → ∀ (s' : Shared) (kA : Array Value) (e : Nat), J s' → s'.heap.get? kS = some (seqObj "list" kA e) → s'.heap.get? a = some (seqObj "list" #[] e1) →
      wpAny (model prog w) A (call f [v]) (fun u s2 => J s2 ∧ s2.heap.get? kS = some (seqObj "list" kA e) ∧ s2.heap.get? a = some (seqObj "list" #[] e1) ∧ KeyU u k) (fun _ _ => False) s')
    (h : ∀ (s' : Shared) (h' : Heap) (tk : Nat) (out : List Value) (c : Nat), J s' → (∀ b o, b ≠ a → b ≠ kS → s'.heap.get? b = some o → h'.get? b = some o) → h'.get? a = some (seqObj "list" (List.toArray out) c) → KeyedOut b kz vs out → P (.done (.ret .none)) { s' with heap := h', toks := tk }) :
    wpAny (model prog w) A (ksk_rest a f b vs.toArray e1 (.ref kS)) P E s := by
  unfold ksk_rest
  refine wpAny_bind (wpAny_rule ?_)
  first
    | rw [List.forIn_toArray]
    | (rw [← Array.forIn_toList]; simp only [List.toList_toArray])
    | rw [← Array.forIn_toList]
  refine wpAny_bind (ksk_fold (fun i s' => ∃ kA e, J s' ∧ s'.heap.get? kS = some (seqObj "list" kA e) ∧ s'.heap.get? a = some (seqObj "list" #[] e1) ∧ EachIs (fun v k => KeyU v k) kA.toList (kz.take i)) vs 0 s
    ⟨#[], 0, hJ, nk, na, by rw [List.take_zero]; exact EachIs.nil⟩ ?step ?done)
  case step =>
    rintro j x s' hx ⟨kA, e, hJ', nk', na', hk⟩
    simp only [Nat.zero_add] at hk ⊢
    have hj : j < vs.length := (List.getElem?_eq_some_iff.mp hx).1
    obtain ⟨k, hkj⟩ : ∃ k, kz[j]? = some k := ⟨_, List.getElem?_eq_getElem (by omega)⟩
    have hz : kA.size ≤ vs.length := by
      have h1 := hk.length
      rw [Array.length_toList, List.length_take] at h1
      omega
    refine wpAny_bind (wpAny_attempt (wpAny_mono (turn j x k hx hkj s' kA e hJ' nk' na') (fun v s'' he => ?_) fun _ _ hF => hF.elim))
    obtain ⟨hJ2, nk2, na2, hr⟩ := he
    try dsimp only
    have s1 := Heap.SameBut.update s''.heap kS (Obj.mapSeq (·.push v))
    obtain ⟨c2, hc2⟩ : ∃ c2, (s''.heap.update kS (Obj.mapSeq (·.push v))).get? kS = some (seqObj "list" (kA.push v) c2) := ⟨_, get?_update_seq nk2 (·.push v)⟩
    have ek : kz.take (j + 1) = kz.take j ++ [k] := by rw [List.take_add_one, hkj]; simp
    have ea : (kA.push v).toList = kA.toList ++ [v] := by simp
    refine wpAny_bind (listUpdate_at nk2 rfl ?_ (Nat.le_trans hz hZ) (Nat.le_trans (Nat.le_of_eq (Array.size_push ..)) (Nat.succ_le_succ (Nat.le_trans hz hZ))))
    refine wpAny_pure ⟨rfl, kA.push v, c2, up _ _ hJ2, hc2, (s1.2 a hka.symm).trans na2, ?_⟩
    rw [ea, ek]
    exact each_snoc hr hk
  case done =>
    rintro s' ⟨kA, e, hJ', nk', na', hk⟩
    have hk' : EachIs (fun v k => ∃ as, Reads s'.heap v k as) kA.toList kz := by
      have e3 : kz.take (0 + vs.length) = kz := List.take_of_length_le (by omega)
      rw [e3] at hk
      exact hk.mono fun v k q => ⟨[], q _⟩
    have hsz : kA.size = vs.length := by
      have h1 := hk'.length
      rw [Array.length_toList] at h1
      omega
    try dsimp only
    refine wpAny_bind (listItems_at nk' rfl ?_)
    refine keyH_end (κ := dataKind s'.heap kz) (h₁ := PySem.W.hideAll s'.heap [kS]) (s := s') (fun b o _ e => PySem.W.of_hideAll _ e) (PySem.W.hideAll_none _ (by simp)) nk' na' hka (SortsAt.data hk' hal hsk hu) hsz hZ fun h3 tk3 c k3 n3 =>
      h s' h3 tk3 _ c hJ' (fun b o h1 h2 e => k3 b o h1 (PySem.W.hideAll_get _ e (by simp [h2]))) n3 ⟨s'.heap, kA.toList, hal, rfl, hk'⟩
end
section
variable {prog : Program} {w : World} {A : Around} {E : Value → Shared → Prop} {s : Shared} {vs : List Value} {kz : List PyData} {J : Addr → Addr → Shared → Prop}
/-- sorted(xs, key=f): f's calls keep J, which the sort's own lists (at a and kS) are no matter of -/
theorem sorted_key_J {l g : Addr} {Q : Value → Shared → Prop} (hl : s.heap.IsList l vs.toArray) (hlen : kz.length = vs.length) (hZ : vs.length ≤ sizeLine) (hal : AllAlike kz) (hk : Sortable kz)
    (hu : ∀ d, d ∈ kz → A.units + 2 + d.depth < cLine)
    (start : ∀ (a kS : Addr) (h' : Heap) (tk : Nat), s.heap.objs.size ≤ a → s.heap.objs.size ≤ kS → (∀ b o, s.heap.get? b = some o → h'.get? b = some o) → a < h'.objs.size → kS < h'.objs.size → J a kS { s with heap := h', toks := tk })
    (up : ∀ (a kS : Addr) (s' : Shared) (g : Obj → Obj), J a kS s' → J a kS { s' with heap := s'.heap.update kS g })
    (turn : ∀ (a kS : Addr) (i : Nat) (v : Value) (k : PyData), vs[i]? = some v → kz[i]? = some k → ∀ (s' : Shared) (kA aA : Array Value) (e e1 : Nat), J a kS s' → s'.heap.get? kS = some (seqObj "list" kA e) → s'.heap.get? a = some (seqObj "list" aA e1) →
      wpAny (model prog w) A.in1.in1 (call (.ref g) [v]) (fun u s2 => J a kS s2 ∧ s2.heap.get? kS = some (seqObj "list" kA e) ∧ s2.heap.get? a = some (seqObj "list" aA e1) ∧ KeyU u k) (fun _ _ => False) s')
    (h : ∀ (a kS : Addr) (s' : Shared) (h' : Heap) (tk : Nat) (out : List Value) (c : Nat), s.heap.objs.size ≤ a → J a kS s' → (∀ b o, b ≠ a → b ≠ kS → s'.heap.get? b = some o → h'.get? b = some o) → h'.get? a = some (seqObj "list" (List.toArray out) c) → KeyedOut false kz vs out → Q (.ref a) { s' with heap := h', toks := tk }) :
    wpAny (model prog w) A (call (.builtin "sorted") [.ref l] [(Str.ofString "key", .ref g)]) Q E s := by
  refine sorted_of_sort hl hZ (ksk_s1 _ _) (fun _ => ksk_l1 _ _) fun E' => ?_
  rw [ksk_t1]
  obtain ⟨a, ha⟩ : ∃ a, a = s.heap.objs.size + 1 := ⟨_, rfl⟩
  have ho : (copyHeap s.heap vs).get? a = some (seqObj "list" vs.toArray 0) := by rw [ha]; exact copyHeap_at s.heap vs
  rw [← ha]
  have hal' : a < (copyHeap s.heap vs).objs.size := Heap.lt_size ho
  obtain ⟨e1, ho1⟩ : ∃ e1, ((copyHeap s.heap vs).update a (Obj.mapSeq fun _ => (#[] : Array Value))).get? a = some (seqObj "list" #[] e1) := ⟨_, get?_update_seq ho fun _ => #[]⟩
  have hkS : (((copyHeap s.heap vs).update a (Obj.mapSeq fun _ => (#[] : Array Value))).push (seqObj "tuple" vs.toArray 0)).objs.size = (copyHeap s.heap vs).objs.size + 1 := by rw [size_push', Heap.size_update]
  unfold ksk_tree
  refine wpAny_bind (listItems_at ho rfl ?_)
  refine wpAny_bind (listUpdate_at ho rfl ?_ (by rw [List.size_toArray]; exact hZ) (Nat.zero_le _))
  refine wpAny_bind (seqEpoch_at ho1 rfl ?_)
  refine wpAny_bind (wpAny_newTuple ?_ (by show vs.length ≤ _; exact hZ))
  refine wpAny_bind (wpAny_newList ?_ (Nat.zero_le _))
  refine wpAny_holding ?_
  have hsa : s.heap.objs.size ≤ a := by rw [ha]; exact Nat.le_succ _
  have sz : s.heap.objs.size ≤ (copyHeap s.heap vs).objs.size := Nat.le_trans hsa (Nat.le_of_lt hal')
  refine keyJ_rest (J := J a (((copyHeap s.heap vs).update a (Obj.mapSeq fun _ => (#[] : Array Value))).push (seqObj "tuple" vs.toArray 0)).objs.size) (kz := kz)
    (s := { s with heap := (((copyHeap s.heap vs).update a (Obj.mapSeq fun _ => (#[] : Array Value))).push (seqObj "tuple" vs.toArray 0)).push (seqObj "list" #[] 0) }) (kS := (((copyHeap s.heap vs).update a (Obj.mapSeq fun _ => (#[] : Array Value))).push (seqObj "tuple" vs.toArray 0)).objs.size)
    (start a _ _ s.toks hsa (by rw [hkS]; exact Nat.le_succ_of_le sz) (fun b o q => ?_) (by rw [size_push', hkS]; exact Nat.lt_succ_of_lt (Nat.lt_succ_of_lt hal')) (Heap.lt_size (Heap.get?_push_size _ rfl))) (Heap.get?_push_size _ rfl) (Heap.get?_push_of_some _ (Heap.get?_push_of_some _ ho1)) (by rw [hkS]; exact Nat.ne_of_gt (Nat.lt_succ_of_lt hal')) hlen hZ hal hk hu (up _ _)
    (fun i v k e1' e2 s' kA e j1 j2 j3 => turn _ _ i v k e1' e2 s' kA #[] e e1 j1 j2 j3) fun s' h' tk out c j1 j2 j3 j4 => ⟨rfl, h a _ s' h' tk out c hsa j1 j2 j3 j4⟩
  refine Heap.get?_push_of_some _ (Heap.get?_push_of_some _ ?_)
  rw [Heap.get?_update_ne _ _ _ _ (by rw [ha]; exact Nat.ne_of_lt (Nat.lt_succ_of_lt (Heap.lt_size q)))]
  exact copyHeap_old q
end
end Skey

set_option Elab.async false
set_option linter.all false
set_option maxRecDepth 100000
set_option maxHeartbeats 1000000
/-! sorted by a key that is a lambda, 2: lambdas of one parameter, that read nothing else. -/
namespace Skey
open PySem PySem.Spec PyProof.Rows L2 L2H HotX LamX LamY
open PySem.W (kdv_fn kdv_obj kdv_tup Alike AllAlike Sortable KeyedOut EachIs dataLe)
theorem clo_nil {cells : List (Str × Addr)} : ∀ {names : List (Str × NameKind)}, (∀ y ∈ names, y.2 ≠ .free) → cloFrom cells names [] = []
  | [], _ => rfl
  | (n, k) :: r, h => by
    have hk : k ≠ .free := h _ (List.mem_cons_self)
    have e : (k == NameKind.free) = false := by
      cases k <;> first | rfl | exact absurd rfl hk
    show (if (k == NameKind.free) = true then _ else cloFrom cells r []) = []
    rw [e]
    exact clo_nil fun y hy => h y (List.mem_cons_of_mem _ hy)
/-- what holds of a lambda of one parameter, before any run: t reads its body -/
structure LamC1 (X : Cx) (k : Nat) (t : TE) (params : Arguments) (body : Expr) (scope : Scope) (a : Str) : Prop where
  S : FnScope [a] [a] scope
  b : ∀ (q : Str) (doc pm cv ctv u : Value), bindArgs (kdv_fn "<lambda>" q params (.expr body) scope [] .none doc pm cv ctv) ⟨[u], []⟩ = pure [(a, u)]
  run : ∀ (A : Around) (outer : List Env) (s : Shared) (H : Hp) (f c' : Addr), Room k (A.deeper (envOfC (X.env.qual ++ "<lambda>") scope s.heap.objs.size f (.ref c'))) →
    PE (cxOf C8.CX0 X.prog X.w X.K X.mg X.base [a] (X.env.qual ++ "<lambda>") scope f (.ref c') A outer s H C8.E0) body t
/-- the object at f is such a lambda -/
def LamIs1 (X : Cx) (k : Nat) (H : Hp) (f : Addr) (t : TE) : Prop := ∃ (params : Arguments) (body : Expr) (scope : Scope) (a : Str) (c' : Addr), LamC1 X k t params body scope a ∧
  H f = some (LamO (X.env.qual ++ "<lambda>") params body scope [] .none c' f) ∧ H c' = some (CodeO c' (X.env.qual ++ "<lambda>"))
theorem lamO_ne {q : Str} {params : Arguments} {body : Expr} {scope : Scope} {clo : List (Str × Addr)} {dV : Value} {c' f : Addr} (ps : Array Value) : LamO q params body scope clo dV c' f ≠ .tbl ps := fun z => by
  unfold LamO at z; cases z
theorem LamIs1.ext {X : Cx} {k : Nat} {H H' : Hp} {f : Addr} {t : TE} (e : ExtN H H') : LamIs1 X k H f t → LamIs1 X k H' f t := by
  rintro ⟨params, body, scope, a, c', h1, h2, h3⟩
  exact ⟨params, body, scope, a, c', h1, e _ _ h2 lamO_ne, e _ _ h3 codeO_ne⟩
section
variable {X : Cx} {pins : List (Addr × Obj)} {σ : L2.St} {H : Hp} {s : Shared}
/-- called -/
theorem lam1_run {A : Around} {outer : List Env} {k : Nat} {t : TE} {params : Arguments} {body : Expr} {scope : Scope} {a : Str} {f c' : Addr} {v : V} {u : Value} {Q : VK} (C : LamC1 X k t params body scope a) (hr : Room (k + 1) A) (e0 : Env0 X.prog X.w X.K X.mg X.base A outer s H)
    (hf : H f = some (LamO (X.env.qual ++ "<lambda>") params body scope [] .none c' f)) (hc : H c' = some (CodeO c' (X.env.qual ++ "<lambda>"))) (r : RelV v u) (ht : t [some v] H Q) :
    codeAny (model X.prog X.w) A (.call (.ref f) ⟨[u], []⟩) (CR C8.CX0 outer X.prog X.w H s Q C8.E0) s := by
  obtain ⟨⟨doc, pm, ctv, of1⟩, _, _⟩ := e0.hok f _ hf
  obtain ⟨⟨oc, vs, tq, hoc, hdc, hvc⟩, _, _⟩ := e0.hok c' _ hc
  have lim : s.heap.NoLimit := e0.mod.nolimit.keeps fun b o e => (e0.bs b o e).1
  have hkind : ∀ y ∈ [(a, u)], scope.names.lookup y.1 = some .local ∨ (scope.names.lookup y.1 = some .cell ∧ ((cellsFrom (s.heap.objs.size + 1) scope.names []).lookup y.1).isSome = true) := fun y hy => by
    have e : y = (a, u) := by simpa using hy
    subst e
    rcases C.S.par a (by simp) with q | q
    · exact .inl q
    · exact .inr ⟨q, PySem.W.cellsFrom_some _ _ _ (.inl q)⟩
  refine PySem.W.kla_callFunE hr.depth of1 rfl C.S.co C.S.gen rfl ⟨c', oc, vs, tq, rfl, hoc, hdc, hvc⟩ ((BindsTo.of_eq (C.b _ doc pm (.ref c') ctv u)) _ _ _ _ ?_)
  refine wpAny_newFunctionEnv_cells C.S.kind hkind fun env he s1 x => ?_
  subst he
  refine ⟨lim.keeps x.toInCall.keep, ?_⟩
  have I : Inv (cxOf C8.CX0 X.prog X.w X.K X.mg X.base [a] (X.env.qual ++ "<lambda>") scope f (.ref c') A outer s H C8.E0) [] (start [a] [v]) H s1 := inv_start (ps := [a]) (us := [u]) C.S hr.hd e0 rfl (.cons r .nil) x
  refine PySem.W.kla_codeExpr (wpAny_mono ((C.run A outer s H f c' (hr.deeper _)).run [] s1 _ H Q I ht) (fun w' s' hq => ?_) fun e s' hq => hq)
  obtain ⟨v', H', J, rv, q⟩ := hq
  exact ⟨v', H', J.os, J.bare, J.base, J.hok, rv, q⟩
/-- made: the function object laid down behind all -/
theorem lam_tail1 {T : List (Addr × Str)} {c P : Addr} {params : Arguments} {body : Expr} {scope : Scope} {pos : Pos} {E : Value → Shared → Prop} {Q : Value → Shared → Prop} (I : Inv X pins σ H s) (TB : TabB X.base X.mg c P) (hcode : X.env.code = .ref c)
    (hm : (P, X.env.qual ++ "<lambda>") ∈ T) (hu : ∀ p ∈ T, p.1 = P → p.2 = X.env.qual ++ "<lambda>") (hT : Tabs T H) (hfree : ∀ y ∈ scope.names, y.2 ≠ .free)
    (h : ∀ (f c' : Addr) (H1 : Hp) (s' : Shared), Inv X pins σ H1 s' → ExtN H H1 → Tabs T H1 → s.heap.objs.size ≤ f → H1 f = some (LamO (X.env.qual ++ "<lambda>") params body scope [] .none c' f) → H1 c' = some (CodeO c' (X.env.qual ++ "<lambda>")) → Q (.ref f) s') :
    wpAny (model X.prog X.w) X.A (makeTail "<lambda>" (X.env.qual ++ "<lambda>") params (.expr body) scope X.env .none .none none pos pos.line) Q E s := by
  obtain ⟨ps, hP, ht, ha⟩ := hT _ hm
  have bP : s.heap.BuiltinsAt X.mg P := TB.bm.keeps I.bk
  have hP' : s.heap.get? P = some { cls := .none, data := .fields ps } := I.hok P _ hP
  have hcl := closure_ok (env := X.env) (scope := scope) fun y hy e => absurd e (hfree y hy)
  rw [clo_nil hfree] at hcl
  have fin : ∀ (H1 : Hp) (h' : Heap) (tk : Nat) (doc pm ctv : Value) (c' : Addr), Inv X pins σ H1 { s with heap := h', toks := tk } → ExtN H H1 → Tabs T H1 → s.heap.objs.size ≤ h'.objs.size → H1 c' = some (CodeO c' (X.env.qual ++ "<lambda>")) →
      ∀ tk2 : Nat, Q (.ref h'.objs.size) { s with heap := h'.push (kdv_obj "<lambda>" (X.env.qual ++ "<lambda>") params (.expr body) scope [] .none doc pm c' ctv), toks := tk2 } := fun H1 h' tk doc pm ctv c' I1 e1 T1 hs hc tk2 => by
    have hn : H1 h'.objs.size = none := I1.hok.fresh (Nat.le_refl _)
    have J := I1.laid (t' := tk2) (o := LamO (X.env.qual ++ "<lambda>") params body scope [] .none c' h'.objs.size) (fun b u e => Heap.get?_push_of_some _ e) (Nat.le_refl _)
      ⟨⟨doc, pm, ctv, Heap.get?_push_size _ rfl⟩, ⟨_, Heap.get?_push_size _ rfl⟩, fun h1 h2 ⟨doc, pm, ctv, z⟩ st => ⟨doc, pm, ctv, st _ z⟩⟩
    have up : ∀ b o, H1 b = some o → upd H1 h'.objs.size (LamO (X.env.qual ++ "<lambda>") params body scope [] .none c' h'.objs.size) b = some o := fun b o e => by rw [upd_ne (ne_of_none e hn)]; exact e
    exact h _ c' _ _ J (e1.trans (ExtN.of up)) (T1.ext up) hs upd_same (up _ _ hc)
  cases hc : codeAmong pos ps.toList with
  | none =>
    refine PySem.W.kdv_makeTail (mg := X.mg) (c := c) (P := P) (ps := ps) hcl I.ok.glob (I.mod.glob.keeps I.bk) hcode (TB.code.keeps I.bk) hP' ht hc TB.gP bP fun c' ctv doc h' tk hx hge hlt hrec htb => ?_
    obtain ⟨c2, oc, vs, tq, e2, hoc, hdd, hv⟩ := hrec
    cases e2
    have nC : H c' = none := I.hok.fresh hge
    have I1 := inv_table (t' := tk) (more := #[rawInt pos.line, rawInt pos.col, .ref c']) (h' := h') I hP hx htb hge ⟨oc, vs, tq, hoc, hdd, hv⟩
    have hE : ExtN H (upd (upd H P (.tbl (ps ++ #[rawInt pos.line, rawInt pos.col, .ref c']))) c' (CodeO c' (X.env.qual ++ "<lambda>"))) := fun b o e n => by
      have hb : b ≠ P := fun z => by
        subst z
        rw [hP] at e; cases e
        exact n _ rfl
      rw [upd_ne (ne_of_none e nC), upd_ne hb]
      exact e
    have eL : (ps ++ #[rawInt pos.line, rawInt pos.col, .ref c']).toList = ps.toList ++ [rawInt pos.line, rawInt pos.col, .ref c'] := by simp
    have hT1 : Tabs T (upd (upd H P (.tbl (ps ++ #[rawInt pos.line, rawInt pos.col, .ref c']))) c' (CodeO c' (X.env.qual ++ "<lambda>"))) := fun p hp => by
      by_cases hb : p.1 = P
      · refine ⟨_, by rw [hb, upd_ne (ne_of_none hP nC), upd_same], by rw [eL]; exact PySem.TriplesOk_snoc _ _ _ _ ht, fun p' cv hcv => ?_⟩
        rw [hu p hp hb]
        rw [eL] at hcv
        cases among_app _ ht hcv with
        | inl z => obtain ⟨c0, e1, e2⟩ := ha p' cv z; exact ⟨c0, e1, hE _ _ e2 codeO_ne⟩
        | inr z => exact ⟨c', z, upd_same⟩
      · obtain ⟨ps', a1, a2, a3⟩ := hT p hp
        refine ⟨ps', by rw [upd_ne (ne_of_none a1 nC), upd_ne hb]; exact a1, a2, fun p' cv hcv => ?_⟩
        obtain ⟨c0, e1, e2⟩ := a3 p' cv hcv
        exact ⟨c0, e1, hE _ _ e2 codeO_ne⟩
    exact fin _ h' tk doc _ ctv c' I1 hE hT1 (Nat.le_trans hge (Nat.le_of_lt hlt)) upd_same tk
  | some cv =>
    obtain ⟨c', rfl, hco⟩ := ha pos cv hc
    refine PySem.W.kdv_makeTailHit (mg := X.mg) (c := c) (P := P) (ps := ps) hcl I.ok.glob (I.mod.glob.keeps I.bk) hcode (TB.code.keeps I.bk) hP' ht hc bP fun ctv doc h' tk hx hsz => ?_
    exact fin H h' tk doc _ ctv c' (I.kept fun b o e => hx b o e) (ExtN.refl H) hT hsz hco tk
/-- lambda a: e, as a value -/
theorem pe_lam1 {T : List (Addr × Str)} {c P : Addr} {params : Arguments} {body : Expr} {scope : Scope} {pos : Pos} {k : Nat} {t : TE} {a : Str} (TB : TabB X.base X.mg c P) (hcode : X.env.code = .ref c)
    (hm : (P, X.env.qual ++ "<lambda>") ∈ T) (hu : ∀ p ∈ T, p.1 = P → p.2 = X.env.qual ++ "<lambda>") (C : LamC1 X k t params body scope a) (hdef : defaultsOf params X.env = ([], []) := by rfl) :
    PE X (.Lambda params body scope pos) (tLamV T (fun H f t => LamIs1 X k H f (t C8.E0)) fun _ => t) := by
  refine ⟨fun pins s σ H Q I h => ?_⟩
  obtain ⟨hT, h⟩ := h
  refine PySem.W.kla_eval hdef ?_
  rw [makeFunction_eq]
  simp only [List.zip_nil_right, List.filterMap_nil, List.isEmpty_nil, if_true, pure_bind]
  exact lam_tail1 I TB hcode hm hu hT C.S.nofree fun f c' H1 s' I1 e1 T1 hs h1 h2 => ⟨.ref f, H1, I1, rfl, h f H1 e1 T1 (I.hok.fresh hs) ⟨params, body, scope, a, c', C, h1, h2⟩⟩
end
/-- a key's value -/
inductive KeyV : V → PyData → Prop
  | int (n : Int) : KeyV (.int n) (.int n)
  | str (x : Str) : KeyV (.str x) (.str x)
theorem KeyV.u {y : V} {k : PyData} {u : Value} (h : KeyV y k) (r : RelV y u) : KeyU u k := by
  cases h with
  | int n => obtain ⟨t, rfl⟩ := r; exact KeyU.int n t
  | str x => obtain ⟨t, rfl⟩ := r; exact KeyU.str x t
/-- sorted by the keys beside -/
def srt {α : Type} (xs : List α) (ks : List PyData) : List α := ((xs.zip ks).mergeSort (dataLe false (·.2))).map (·.1)
def rSortK (K : PySem.W.Frag) (Λ : Hp → Addr → (XK → TE) → Prop) : List V → List V → Hp → VK → Prop := fun vs zs H Q => ∃ (a f : Addr) (xs : List V) (ks : List PyData) (t : XK → TE) (W : Hp → Prop), vs = [V.ref a] ∧ zs = [V.ref f] ∧ SqL K H a xs ∧ ks.length = xs.length ∧ AllAlike ks ∧ Sortable ks ∧
  (∀ d ∈ ks, d.depth = 0) ∧ Λ H f t ∧ W H ∧ (∀ H2, W H2 → ExtN H H2) ∧ (∀ (i : Nat) (x : V) (k : PyData) (H2 : Hp), xs[i]? = some x → ks[i]? = some k → W H2 → t C8.E0 [some x] H2 fun y H3 => KeyV y k ∧ W H3) ∧
  ∀ H2 p, W H2 → H2 p = none → Q (.ref p) (upd H2 p (.lst (srt xs ks)))
def tSortK (K : PySem.W.Frag) (T : List (Addr × Str)) (Λ : Hp → Addr → (XK → TE) → Prop) (te : TE) (t : TE) : TE := tCKw (rSortK K Λ) (tCons te tNil) (tCons (tLamV T Λ fun _ => t) tNil)
theorem vals_each : ∀ {xs : List V} {us : List Value} (ks : List PyData), ks.length = xs.length → Vals xs us → EachIs (fun (v : Value) (p : V × PyData) => RelV p.1 v) us (xs.zip ks)
  | [], _, _, _, .nil => .nil
  | _ :: _, _, [], h, _ => by simp at h
  | _ :: _, _, _ :: ks, h, .cons a t => .cons a (vals_each ks (by simpa using h) t)
theorem each_vals : ∀ {us : List Value} {ps : List (V × PyData)}, EachIs (fun (v : Value) (p : V × PyData) => RelV p.1 v) us ps → Vals (ps.map (·.1)) us
  | _, _, .nil => .nil
  | _, _, .cons h t => .cons h (each_vals t)
theorem snd_zip : ∀ {α : Type} (xs : List α) (ks : List PyData), ks.length = xs.length → (xs.zip ks).map (·.2) = ks
  | _, [], [], _ => rfl
  | _, x :: xs, k :: ks, h => congrArg (k :: ·) (snd_zip xs ks (by simpa using h))
theorem srt_len {α : Type} (xs : List α) (ks : List PyData) (h : ks.length = xs.length) : (srt xs ks).length = xs.length := by
  unfold srt
  rw [List.length_map, List.length_mergeSort, List.length_zip, h, Nat.min_self]
section
variable {X : Cx}
theorem cr_sortK {k : Nat} (hr : Room (k + 3) X.A) : CallRK X (.builtin "sorted") [Str.ofString "key"] (rSortK X.K fun H f t => LamIs1 X k H f (t C8.E0)) := by
  intro pins s σ H vs zs us ws Q I r rz h
  obtain ⟨a, f, xs, ks, t, W, rfl, rfl, hs, hlen, hal, hso, hdep, ⟨params, body, scope, nm, c', C, hf, hc⟩, hW, hExt, hturn, q⟩ := h
  obtain ⟨its, rv, hl, hz⟩ := I.list hs
  obtain ⟨u, rfl, ru⟩ := vals1 r
  obtain rfl : u = Value.ref a := ru
  obtain ⟨u2, rfl, ru2⟩ := vals1 rz
  obtain rfl : u2 = Value.ref f := ru2
  have hil : its.length = xs.length := rv.length.symm
  show wpAny _ _ (call (.builtin "sorted") [.ref a] [(Str.ofString "key", .ref f)]) _ _ _
  refine sorted_key_J (kz := ks) (J := fun a kS s' => ∃ H', Inv X pins σ H' s' ∧ FpOk X pins H' a ∧ FpOk X pins H' kS ∧ W H' ∧ a < s'.heap.objs.size ∧ kS < s'.heap.objs.size) hl.isList (by rw [hil]; exact hlen) (by rw [hil]; exact hz) hal hso (fun d hd => by have := hr.un; rw [hdep d hd]; omega)
    (fun a kS h' tk ha hk kp l1 l2 => ?_) (fun a kS s' g hJ => ?_) ?_ ?_
  · have I1 : Inv X pins σ H { s with heap := h', toks := tk } := I.kept kp
    exact ⟨H, I1, I.fpOk ha (I.hok.fresh ha), I.fpOk hk (I.hok.fresh hk), hW, l1, l2⟩
  · obtain ⟨H', I', fa, fk, w', l1, l2⟩ := hJ
    refine ⟨H', I'.turned (t' := s'.toks) (h' := s'.heap.update kS g) (fun b o hb e => (Heap.get?_update_ne _ _ _ _ hb).trans e) fk.1 fk.2.1 fk.2.2.2.1 fk.2.2.2.2.1 fk.2.2.2.2.2, fa, fk, w', by rw [Heap.size_update]; exact l1, by rw [Heap.size_update]; exact l2⟩
  · intro a kS i v kd hv hk s' kA aA e e1 hJ gk ga
    obtain ⟨H', I', fa, fk, w', l1, l2⟩ := hJ
    have hi : i < xs.length := by rw [← hil]; exact (List.getElem?_eq_some_iff.mp hv).1
    obtain ⟨v', hv', rx⟩ := rv.get (List.getElem?_eq_getElem hi)
    rw [hv] at hv'
    cases hv'
    have I2 := I'.pinned (fp := [a, kS]) (fun b hb => by
      rcases List.mem_cons.mp hb with rfl | hb
      · exact fa
      · rw [List.mem_singleton.mp hb]; exact fk) (fun b hb => by
      rcases List.mem_cons.mp hb with rfl | hb
      · exact ⟨_, ga, fun v z => by cases z⟩
      · rw [List.mem_singleton.mp hb]; exact ⟨_, gk, fun v z => by cases z⟩)
    have eN := hExt _ w'
    have rc := lam1_run (Q := fun y H3 => KeyV y kd ∧ W H3) C hr.in1.in1 I2.env0.in1.in1 (eN _ _ hf lamO_ne) (eN _ _ hc codeO_ne) rx (hturn i _ kd H' (List.getElem?_eq_getElem hi) hk w')
    refine wpAny_call (codeAny_mono rc fun r s2 hq => ?_)
    match r, hq with
    | .ok (.ret u), hq =>
      obtain ⟨y, H3, I3, ry, hy, hw3⟩ := I2.after hq
      have pa := I3.pin (a, seqObj "list" aA e1) (List.mem_append_right _ (List.mem_append_right _ (mem_pinsAt (by simp) ga)))
      have pk := I3.pin (kS, seqObj "list" kA e) (List.mem_append_right _ (List.mem_append_right _ (mem_pinsAt (by simp) gk)))
      exact ⟨⟨H3, I3.unpinned, ⟨pa.2.1, fa.2⟩, ⟨pk.2.1, fk.2⟩, hw3, Heap.lt_size pa.1, Heap.lt_size pk.1⟩, pk.1, pa.1, hy.u ry⟩
  · intro a kS s' h' tk out c ha hJ keep hga hout
    obtain ⟨H', I', fa, fk, w', l1, l2⟩ := hJ
    have I3 := I'.turnedL (t' := tk) (ch := [a, kS]) (h' := h') (fun b o hb e => keep b o (fun z => hb (by simp [z])) (fun z => hb (by simp [z])) e) (fun b hb => by
      rcases List.mem_cons.mp hb with rfl | hb
      · exact fa
      · rw [List.mem_singleton.mp hb]; exact fk)
    have hE := PySem.W.keyedOut_each (bs := xs.zip ks) (R := fun (v : Value) (p : V × PyData) => RelV p.1 v) (·.2) (by rw [snd_zip _ _ hlen]; exact hout) (vals_each ks hlen rv)
    have hv := each_vals hE
    have hl2 : (srt xs ks).length ≤ sizeLine := by rw [srt_len _ _ hlen]; exact hz
    have I4 := I3.take (it := a) (t' := tk) (h' := h') (o := .lst (srt xs ks)) (fun b ob _ e => e) fa ⟨hl2, out, c, hv, hga⟩
    exact ⟨.ref a, _, I4, rfl, q H' a w' fa.1⟩
/-- sorted(e, key=lambda a: b) -/
theorem pe_sortK {T : List (Addr × Str)} {c P : Addr} {params : Arguments} {body e : Expr} {scope : Scope} {pos lp kp p : Pos} {k : Nat} {te t : TE} {a : Str} (hr : Room (k + 3) X.A) (hg : Gl X "sorted") (hmg : X.mg "sorted" = none) (hb : bootBuiltins "sorted" = some (.builtin "sorted")) (he : PA X [e] (tCons te tNil))
    (TB : TabB X.base X.mg c P) (hcode : X.env.code = .ref c) (hm : (P, X.env.qual ++ "<lambda>") ∈ T) (hu : ∀ p ∈ T, p.1 = P → p.2 = X.env.qual ++ "<lambda>") (C : LamC1 X k t params body scope a) (hdef : defaultsOf params X.env = ([], []) := by rfl)
    (hst : backTo pos (starEach [e] X.env) = (false, eval e X.env) :: backTo pos (starEach [] X.env) := by rfl) (hpl : (backTo pos (starEach [e] X.env)).any (·.1) = false := by rfl) :
    PE X (.Call (.Name "sorted" p) [e] [⟨some "key", .Lambda params body scope lp, kp⟩] pos) (tSortK X.K T (fun H f t => LamIs1 X k H f (t C8.E0)) te t) :=
  pe_callBK (ks := [Str.ofString "key"]) (cr_sortK hr) hg hmg hb he (pk_cons (pe_lam1 TB hcode hm hu C hdef) pk_nil) (by decide) (by decide) hst hpl
end
end Skey

set_option Elab.async false
set_option linter.all false
set_option maxRecDepth 100000
set_option maxHeartbeats 400000
/-! The layer of data, 18: sorted by a key. -/
namespace Dl
open L2 PySem PySem.Spec PyProof.Rows RZ StX Cm LamY Skey
open PySem.W (AllAlike Sortable dataLe)
def KeyD (y : Dt) (k : PyData) : Prop := (∃ n, y = .int n ∧ k = .int n) ∨ ∃ s, y = .str s ∧ k = .str s
def dSortK (kb : DExp) (e : DExp) : DArg := fun ρ Q => e ρ fun x => ∃ (l : List Dt) (f : Dt → PyData), x = .lst l ∧ AllAlike (l.map f) ∧ Sortable (l.map f) ∧ (∀ d ∈ l, (f d).depth = 0 ∧ kb [some (.v d)] fun y => KeyD y (f d)) ∧ Q (l.mergeSort (dataLe false f))
theorem rps_zip {K : Frag} {G : Hp} : ∀ {xs : List V} {l : List Dt}, Rps K G xs l → ∀ p ∈ xs.zip l, Rp K G p.1 p.2
  | _, _, .nil, p, h => by simp at h
  | _, _, .cons a t, p, h => by
    rcases List.mem_cons.mp h with rfl | h
    · exact a
    · exact rps_zip t p h
theorem rps_of_zip {K : Frag} {G : Hp} : ∀ {z : List (V × Dt)}, (∀ p ∈ z, Rp K G p.1 p.2) → Rps K G (z.map (·.1)) (z.map (·.2))
  | [], _ => .nil
  | p :: z, h => .cons (h p (List.mem_cons_self)) (rps_of_zip fun q hq => h q (List.mem_cons_of_mem _ hq))
theorem zip_mapR {α β γ : Type} (f : β → γ) : ∀ (xs : List α) (l : List β), xs.zip (l.map f) = (xs.zip l).map fun p => (p.1, f p.2)
  | [], _ => by simp
  | _ :: _, [] => rfl
  | x :: xs, y :: l => congrArg ((x, f y) :: ·) (zip_mapR f xs l)
theorem zip_snd {α β : Type} : ∀ (xs : List α) (l : List β), xs.length = l.length → (xs.zip l).map (·.2) = l
  | [], [], _ => rfl
  | x :: xs, y :: l, h => congrArg (y :: ·) (zip_snd xs l (by simpa using h))
theorem rps_srt {K : Frag} {G : Hp} {xs : List V} {l : List Dt} (f : Dt → PyData) (h : Rps K G xs l) : Rps K G (srt xs (l.map f)) (l.mergeSort (dataLe false f)) := by
  have hz := rps_zip h
  have e1 : srt xs (l.map f) = ((xs.zip l).mergeSort fun p q => dataLe false f p.2 q.2).map (·.1) := by
    unfold srt
    rw [zip_mapR, ← List.map_mergeSort (r := fun p q : V × Dt => dataLe false f p.2 q.2) (s := dataLe false fun p : V × PyData => p.2) (f := fun p : V × Dt => (p.1, f p.2)) (fun a _ b _ => rfl), List.map_map]
    rfl
  have e2 : l.mergeSort (dataLe false f) = ((xs.zip l).mergeSort fun p q => dataLe false f p.2 q.2).map (·.2) := by
    rw [List.map_mergeSort (s := dataLe false f) (fun a _ b _ => rfl), zip_snd _ _ (rps_len h)]
  rw [e1, e2]
  exact rps_of_zip fun p hp => hz p (List.mem_mergeSort.mp hp)
section
variable {lk : Lk} {K : Frag} {T : List (Addr × Str)} {Λ : Hp → Addr → (XK → TE) → Prop} {G H : Hp} {σ : L2.St} {ρ : Env}
theorem Rep.one (R : Rep lk K G σ H ρ) {v : V} {d : Dt} (h : Rp K G v d) : Rep lk K G [some v] H [some (.v d)] := by
  have no : ∀ i, own (([some (Cell.v d)] : Env).getD i none) = false := fun i => by
    cases i with
    | zero => rfl
    | succ i => simp [own]
  refine ⟨⟨R.r.sub, rfl, fun i => ?_, (fun i j p _ h1 => (by rw [no i] at h1; cases h1)), fun _ i => no i⟩, R.bas, R.ek, R.tw, (fun i p h1 => (by rw [no i] at h1; cases h1)), (fun x _ p h1 => (by cases h1))⟩
  cases i with
  | zero => exact ⟨v, rfl, h⟩
  | succ i => simp [SlotOk]
theorem l_sortK {ta t : TE} {da kb : DExp} (hw : lk.w) (hT : lk.T = T) (ha : LiftE lk K ta da) (hk : LiftE lk.nx K t kb) : LiftEL lk K (tSortK K T Λ ta t) (dSortK kb da) := by
  subst hT
  intro G σ H ρ Qd Q R h k
  refine ha G σ H ρ _ _ R h fun x d G1 H1 n1 r1 h1 => ?_
  obtain ⟨l, f, rfl, hal, hso, hkey, hq⟩ := h1
  cases r1 with
  | @lst a xs _ hxs hrs =>
  have R1 := R.new n1
  refine ⟨R1.tabs hw, fun fa H2 eN T2 hf hl => ?_⟩
  have s2 : Ex G1 H2 := fun a o h => eN a o (n1.s a o h) fun ps z => R1.notb hw a ps (z ▸ h)
  have n2 : New lk.m G1 H1 G1 H2 := ⟨Evl.Ex.refl _, fun a o h => by
    by_cases z : ∃ ps, o = .tbl ps
    · exact .inr z
    · exact .inl (eN a o h fun ps e => z ⟨ps, e⟩), s2, fun a o h => .inl h, fun _ => T2, NoTb.refl _⟩
  have n12 := n1.trans n2
  refine ⟨a, fa, xs, l.map f, fun _ => t, fun H' => ∃ G', New lk.nx.m G1 H2 G' H', rfl, rfl, Evl.sq_of (s2 _ _ hxs), by rw [List.length_map, rps_len hrs], hal, hso, fun d hd => ?_, hl, ⟨G1, New.refl s2⟩, fun H3 ⟨G3, n3⟩ b o hb hn => n3.h.get hb hn, ?_, ?_⟩
  · obtain ⟨d0, h0, rfl⟩ := List.mem_map.mp hd
    exact (hkey d0 h0).1
  · rintro i x kd H3 hx hkd ⟨G3, n3⟩
    rw [List.getElem?_map] at hkd
    obtain ⟨d0, hd0, rp0⟩ := rps_get hrs hx
    rw [hd0] at hkd
    have hkd : f d0 = kd := Option.some.inj hkd
    subst hkd
    have R3 : Rep lk.nx K G3 [some x] H3 [some (.v d0)] := ((R.new n12).nx.new n3).one (rp_ex n3.g rp0)
    refine hk G3 _ H3 _ (fun y => KeyD y (f d0)) _ R3 (hkey d0 (List.mem_of_getElem? hd0)).2 fun v d' G4 H4 n4 r4 q4 => ⟨?_, G4, n3.trans n4⟩
    rcases q4 with ⟨n, rfl, e⟩ | ⟨s, rfl, e⟩
    · rw [e, rp_int r4]; exact .int n
    · rw [e, rp_str r4]; exact .str s
  · rintro H3 p ⟨G3, n3⟩ hp
    have n3' := New.wk (m := lk.m) n3
    have n13 := n12.trans n3'
    exact k p _ _ G3 _ (n13.trans (New.grow n3.s (Evl.Ex.new hp))) (n13.h.back (Or.inl hp)) (Evl.fresh_back n3.s hp) upd_same (rps_srt f (rps_ex n3.g hrs)) hq
end
end Dl

set_option Elab.async false
set_option linter.all false
set_option maxRecDepth 100000
set_option maxHeartbeats 400000
/-! The layer of data, 19: dicts by comprehension, read; join; constants of a class; things made with keywords. -/
namespace Dl
open L2 PySem PySem.Spec PyProof.Rows RZ StX Cm LamY Skey
/-! ### dicts -/
def putS {α : Type} (kvs : List (Str × α)) (k : Str) (v : α) : List (Str × α) :=
  if (kvs.any fun p => decide (p.1 = k)) = true then kvs.map (fun p => if p.1 = k then (p.1, v) else p) else kvs ++ [(k, v)]
theorem keyed_put (kvs : List (Str × V)) (k : Str) (v : V) : putK (keyed kvs) (.inr k) v = keyed (putS kvs k v) := by
  have e : ((keyed kvs).any fun kv => decide (kv.1 = Sum.inr k)) = (kvs.any fun p => decide (p.1 = k)) := by
    unfold keyed
    rw [List.any_map]
    congr 1
    funext p
    simp
  unfold putK putS
  rw [e]
  split
  · unfold keyed
    rw [List.map_map, List.map_map]
    refine List.map_congr_left fun p _ => ?_
    by_cases h : p.1 = k
    · simp [h]
    · simp [h]
  · unfold keyed
    simp
theorem keyed_val (k : Str) : ∀ kvs : List (Str × V), L2.valV (keyed kvs) (.inr k) = kvs.lookup k
  | [] => rfl
  | p :: r => by
    have hr := keyed_val k r
    rw [List.lookup_cons]
    by_cases h : p.1 = k
    · rw [show keyed (p :: r) = (Sum.inr p.1, p.2) :: keyed r from rfl, L2.valV_pos (by simp [h]), show (k == p.1) = true by simp [h]]
    · rw [show keyed (p :: r) = (Sum.inr p.1, p.2) :: keyed r from rfl, L2.valV_neg (by simp [h]), show (k == p.1) = false by simp; exact fun z => h z.symm]
      exact hr
theorem keyed_len (kvs : List (Str × V)) : (keyed kvs).length = kvs.length := List.length_map _
section
variable {K : Frag} {G : Hp}
theorem rfs_any {k : Str} : ∀ {vs : List (Str × V)} {ds : List (Str × Dt)}, Rfs K G vs ds → (vs.any fun p => decide (p.1 = k)) = (ds.any fun p => decide (p.1 = k))
  | _, _, .nil => rfl
  | _, _, .cons _ t => by rw [List.any_cons, List.any_cons, rfs_any t]
theorem rfs_mapS {k : Str} {v : V} {d : Dt} (h : Rp K G v d) : ∀ {vs : List (Str × V)} {ds : List (Str × Dt)}, Rfs K G vs ds → Rfs K G (vs.map fun p => if p.1 = k then (p.1, v) else p) (ds.map fun p => if p.1 = k then (p.1, d) else p)
  | _, _, .nil => .nil
  | _, _, .cons (f := f) a t => by
    rw [List.map_cons, List.map_cons]
    by_cases e : f = k
    · rw [if_pos e, if_pos e]; exact .cons h (rfs_mapS h t)
    · rw [if_neg e, if_neg e]; exact .cons a (rfs_mapS h t)
theorem rfs_snoc {k : Str} {v : V} {d : Dt} (h : Rp K G v d) : ∀ {vs : List (Str × V)} {ds : List (Str × Dt)}, Rfs K G vs ds → Rfs K G (vs ++ [(k, v)]) (ds ++ [(k, d)])
  | _, _, .nil => .cons h .nil
  | _, _, .cons a t => .cons a (rfs_snoc h t)
theorem rfs_putS {k : Str} {v : V} {d : Dt} (h : Rp K G v d) {vs : List (Str × V)} {ds : List (Str × Dt)} (r : Rfs K G vs ds) : Rfs K G (putS vs k v) (putS ds k d) := by
  unfold putS
  rw [rfs_any r]
  split
  · exact rfs_mapS h r
  · exact rfs_snoc h r
end
theorem putS_len {α : Type} (kvs : List (Str × α)) (k : Str) (v : α) : (putS kvs k v).length ≤ kvs.length + 1 := by
  unfold putS
  split
  · rw [List.length_map]; omega
  · simp
/-- k in d, d holding texts as keys -/
def xInDk : R2 := fun y x H Q => ∃ a kvs k, x = .ref a ∧ y = .str k ∧ H a = some (.dK kvs) ∧ Q (.bl (L2.valV kvs (.inr k)).isSome) H
def xNotInDk : R2 := fun y x H Q => ∃ a kvs k, x = .ref a ∧ y = .str k ∧ H a = some (.dK kvs) ∧ Q (.bl (!(L2.valV kvs (.inr k)).isSome)) H
section
variable {X : Cx}
theorem op_inDk (hu : X.A.units + 65 < cLine) : OpR X (compareOp .In) xInDk := by
  intro pins s σ H x y v u Q I rx ry h
  obtain ⟨a, kvs, k, rfl, rfl, ha, q⟩ := h
  obtain rfl : u = Value.ref a := ry
  exact L2.d_in (by omega) I (DGet.k (k := .inr k) ha) rx fun s' I' => ⟨.bl _, H, I', rfl, q⟩
theorem op_notInDk (hu : X.A.units + 65 < cLine) : OpR X (compareOp .NotIn) xNotInDk := by
  intro pins s σ H x y v u Q I rx ry h
  obtain ⟨a, kvs, k, rfl, rfl, ha, q⟩ := h
  obtain rfl : u = Value.ref a := ry
  exact L2.d_notIn (by omega) I (DGet.k (k := .inr k) ha) rx fun s' I' => ⟨.bl _, H, I', rfl, q⟩
end
def dInDk (neg : Bool) : D2R := fun x y Q => ∃ kvs k, y = .dct kvs ∧ x = .str k ∧ Q (.bl (neg != (kvs.lookup k).isSome))
theorem rfs_isSome {K : Frag} {G : Hp} {k : Str} : ∀ {vs : List (Str × V)} {ds : List (Str × Dt)}, Rfs K G vs ds → (vs.lookup k).isSome = (ds.lookup k).isSome
  | _, _, .nil => rfl
  | _, _, .cons (f := f) a t => by
    rw [List.lookup_cons, List.lookup_cons]
    cases k == f with
    | true => rfl
    | false => exact rfs_isSome t
section
variable {m : Md} {lk : Lk} {K : Frag}
theorem o_inDk : Op2 m K xInDk (dInDk false) := by
  intro G H x y d e Qd Q s rx ry q k
  obtain ⟨kvs, key, rfl, rfl, q⟩ := q
  cases rx
  cases ry with
  | dct h r => exact ⟨_, _, _, rfl, rfl, s _ _ h, by rw [keyed_val, rfs_isSome r]; exact k _ _ G H (New.refl s) (.bl _) (by simpa using q)⟩
theorem o_notInDk : Op2 m K xNotInDk (dInDk true) := by
  intro G H x y d e Qd Q s rx ry q k
  obtain ⟨kvs, key, rfl, rfl, q⟩ := q
  cases rx
  cases ry with
  | dct h r => exact ⟨_, _, _, rfl, rfl, s _ _ h, by rw [keyed_val, rfs_isSome r]; exact k _ _ G H (New.refl s) (.bl _) (by simpa using q)⟩
/-- d[k], there -/
def dGetDk (a b : DExp) : DExp := fun ρ Q => a ρ fun x => b ρ fun y => ∃ kvs k d, x = .dct kvs ∧ y = .str k ∧ kvs.lookup k = some d ∧ Q d
theorem l_getDk {ta tb : TE} {da db : DExp} (ha : LiftE lk K ta da) (hb : LiftE lk K tb db) : LiftE lk K (tDGet ta tb) (dGetDk da db) := by
  intro G σ H ρ Qd Q R h k
  refine ha G σ H ρ _ _ R h fun x d G1 H1 n1 r1 h1 => ?_
  refine hb G1 σ H1 ρ _ _ (R.new n1) h1 fun y e G2 H2 n2 r2 h2 => ?_
  obtain ⟨kvs, key, d', rfl, rfl, hl, q⟩ := h2
  cases r2
  cases r1 with
  | dct h r =>
    obtain ⟨v, hv, rv⟩ := rfs_look r hl
    have hH := n2.s _ _ (n2.g _ _ h)
    have z := DGet.k (H := H2) (k := .inr key) hH
    rw [keyed_val, hv] at z
    exact ⟨_, v, rfl, z, k v d' G2 H2 (n1.trans n2) (rp_ex n2.g rv) q⟩
/-! ### a dict comprehension -/
def dDMap (g : DTgt) (c : DTst) (ek ev : DExp) (ρ : Env) : List Dt → List (Str × Dt) → (List (Str × Dt) → Prop) → Prop
  | [], acc, Q => Q acc
  | x :: r, acc, Q => g x ρ fun ρ1 => c ρ1 fun b => if b = true then ek ρ1 fun y => ∃ s, y = .str s ∧ ev ρ1 fun z => dDMap g c ek ev ρ r (putS acc s z) Q else dDMap g c ek ev ρ r acc Q
def dDc (i : DArg) (g : DTgt) (c : DTst) (ek ev : DExp) (vs : List Nat) : DExp := fun ρ Q => i ρ fun l => l.length ≤ 100000 ∧ dDMap g c ek ev (wipeD ρ vs) l [] fun kvs => Q (.dct kvs)
theorem dK_tbl {kvs : List (Key × V)} : ∀ ps, HO.dK kvs ≠ .tbl ps := fun ps z => by cases z
theorem dK_ext {kvs : List (Key × V)} : ∀ φ, HO.dK kvs ≠ .ext φ := fun ps z => by cases z
end
theorem dc_it {J : It} {n : Nat} {G : Hp → Prop} {Y : Nat → Hp → V → Hp → Prop} (w : Walk J n G Y) {g : TG} {tt : TT} {tk tv : TE} {vs : List Nat} {σ : L2.St} {H1 : Hp} {D : Addr} {Qd : Hp → Prop} (Pv : Nat → Hp → Prop) (h0 : Pv 0 (upd H1 D (.dK []))) (hG : ∀ i H, i ≤ n → Pv i H → G H)
    (hs : ∀ i x H H', i < n → Pv i H → Y i H x H' → g x (wipe σ vs) H' fun σ2 H2 => wipe σ2 vs = wipe σ vs ∧ tt σ2 H2 fun b H3 =>
      if b = true then tk σ2 H3 fun y H4 => tv σ2 H4 fun z H5 => ∃ kvs k, y = kV k ∧ H5 D = some (.dK kvs) ∧ kvs.length < sizeLine ∧ Pv (i + 1) (upd H5 D (.dK (putK kvs k z))) else Pv (i + 1) H3) (hd : ∀ H, Pv n H → Qd H) :
    ∃ W : Nat → Nat → Hp → Prop, (∃ m, W 0 m (upd H1 D (.dK []))) ∧ ∀ i m H, W i m H →
      (J.stop i H ∧ Qd H) ∨ (J.go i H ∧ ∃ Nx : Hp → Prop, (∀ H', Nx H' → ∃ m', m' < m ∧ W (i + 1) m' H') ∧ ∀ x H', J.yld i H x H' → g x (wipe σ vs) H' fun σ2 H2 => wipe σ2 vs = wipe σ vs ∧ tt σ2 H2 fun b H3 =>
        if b = true then tk σ2 H3 fun y H4 => tv σ2 H4 fun z H5 => ∃ kvs k, y = kV k ∧ H5 D = some (.dK kvs) ∧ kvs.length < sizeLine ∧ Nx (upd H5 D (.dK (putK kvs k z))) else Nx H3) := by
  refine ⟨fun i m H => m = n - i ∧ i ≤ n ∧ Pv i H, ⟨n, by simp, Nat.zero_le _, h0⟩, ?_⟩
  rintro i m H ⟨rfl, hi, p⟩
  have q := hG i H hi p
  by_cases hlt : i < n
  · refine .inr ⟨w.goes i H hlt q, Pv (i + 1), fun H' p' => ⟨n - (i + 1), by omega, rfl, hlt, p'⟩, fun x H' y => hs i x H H' hlt p (w.yields i H x H' hlt q y)⟩
  · have e : i = n := by omega
    subst e
    exact .inl ⟨w.stops H q, hd H p⟩
section
variable {lk : Lk} {K : Frag} {wi : TI} {di : DArg} {g : TG} {dg : DTgt} {ts : List Nat} {ca : TT} {ea : DTst} {tk tv : TE} {dk dv : DExp}
theorem l_dc {vs : List Nat} (hi : LiftI lk K wi di) (hg : LiftG lk.nx K g dg ts) (hc : LiftT lk.nx K ca ea) (hk : LiftE lk.nx K tk dk) (hv : LiftE lk.nx K tv dv) (hs : ∀ i ∈ ts, i ∈ vs) : LiftE lk K (tDc wi g ca tk tv vs) (dDc di dg ea dk dv vs) := fun G σ H ρ Qd Q R h k => by
  refine hi G σ H ρ _ _ R h fun J l G1 H1 n1 w h1 => ?_
  obtain ⟨hlen, h1⟩ := h1
  obtain ⟨Gd, Y, w, hG, hY⟩ := w
  intro D hD
  have R1 := (R.new n1).nx.wipe vs
  refine dc_it w (Qd := fun H' => Q (.ref D) H') (fun i H => ∃ G2 acc ys, New lk.nx.m G1 H1 G2 H ∧ G2 D = none ∧ H D = some (.dK (keyed acc)) ∧ Rfs K G2 acc ys ∧ acc.length ≤ i ∧ dDMap dg ea dk dv (wipeD ρ vs) (l.drop i) ys fun zs => Qd (.dct zs))
    ⟨G1, [], [], New.grow n1.s (Evl.Ex.new hD), Evl.fresh_back n1.s hD, upd_same, .nil, Nat.zero_le _, h1⟩ (fun i H2 _ ⟨G2, _, _, n2, _⟩ => hG H2 (n2.g.trans n2.s)) ?_ ?_
  · rintro i x H2 H3 hi ⟨G2, acc, ys, n2, hD2, hacc, hr, hle, hm⟩ hy
    obtain ⟨G3, n3, r3⟩ := hY i G2 H2 x H3 l[i] n2.g n2.s hy (List.getElem?_eq_getElem hi)
    rw [List.drop_eq_getElem_cons hi] at hm
    have n3 := n3 lk.nx.m
    have n13 := n2.trans n3
    have keepD : ∀ {G4 H4 : Hp}, New lk.nx.m G2 H2 G4 H4 → G4 D = none ∧ H4 D = some (.dK (keyed acc)) := fun {G4 H4} n => by
      refine ⟨?_, n.h.get hacc (by intro ps z; cases z)⟩
      cases e : G4 D with
      | none => rfl
      | some o =>
        rcases n.n D o e with z | z | z
        · rw [hD2] at z; cases z
        · exact (z.no hacc dK_tbl).elim
        · exact z.elim
    refine hg G3 _ H3 _ x _ _ _ (R1.new n13) r3 hm fun σ' ρ' R' sb q => ⟨wipe_same sb hs, ?_⟩
    refine hc G3 σ' H3 ρ' _ _ R' q fun b G4 H4 n4 q4 => ?_
    cases b with
    | true =>
      refine iteT (hk G4 σ' H4 ρ' _ _ (R'.new n4) (by simpa using q4) fun y d G5 H5 n5 r5 q5 => ?_)
      obtain ⟨s, rfl, q5⟩ := q5
      cases r5
      refine hv G5 σ' H5 ρ' _ _ (R'.new (n4.trans n5)) q5 fun v d G6 H6 n6 r6 q6 => ?_
      have n26 := ((n3.trans n4).trans n5).trans n6
      obtain ⟨k1, k2⟩ := keepD n26
      have n16 := n2.trans n26
      refine ⟨keyed acc, .inr s, rfl, k2, by rw [keyed_len]; exact sz5lt (by omega), G6, putS acc s v, putS ys s d, ⟨n16.g, ?_, fun a o e => ?_, n16.n, fun t => ?_, n16.q⟩, k1, by rw [upd_same, keyed_put], rfs_putS r6 (rfs_ex n26.g hr), Nat.le_trans (putS_len _ _ _) (Nat.succ_le_succ hle), q6⟩
      · exact Exh.mut n16.h (Or.inl hD)
      · have : a ≠ D := fun z => by rw [z, k1] at e; cases e
        rw [upd_ne this]; exact n16.s _ _ e
      · exact tabs_mut k2 dK_tbl dK_ext (n16.t t)
    | false =>
      refine iteF ?_
      have n24 := n3.trans n4
      obtain ⟨k1, k2⟩ := keepD n24
      exact ⟨G4, acc, ys, n2.trans n24, k1, k2, rfs_ex n24.g hr, Nat.le_succ_of_le hle, by simpa using q4⟩
  · rintro H2 ⟨G2, acc, ys, n2, hD2, hacc, hr, _, hm⟩
    rw [List.drop_length] at hm
    have n2' := New.wk (m := lk.m) n2
    have e := Evl.Ex.new (o := .dK (keyed acc)) hD2
    refine k _ _ (upd G2 D (.dK (keyed acc))) H2 ⟨(n1.g.trans n2.g).trans e, n1.h.trans n2.h, ex_upd_of n2.s hacc, fun a o h => ?_, fun t => n2.t (n1.t t), (n1.trans n2').q.one dK_tbl⟩ (.dct upd_same (rfs_ex e hr)) hm
    by_cases ea : a = D
    · subst ea; exact Or.inr (Or.inl (n1.h.back (Or.inl hD)))
    · rw [upd_ne ea] at h; exact (n1.trans n2').n a o h
/-! ### join -/
def tJn (K : Frag) (ta tb : TE) : TE := tM1 (fun x xs H Q => ∃ a p, ∃ ys : List Str, x = .str a ∧ xs = [.ref p] ∧ (SqL K H p (ys.map V.str) ∨ SqT K H p (ys.map V.str)) ∧ (ys.map (·.length)).sum + ys.length * a.length ≤ 16777216 ∧ Q (.str (Txt.join a ys)) H) ta tb
def dJn (a b : DExp) : DExp := fun ρ Q => a ρ fun x => ∃ s : Str, x = .str s ∧ b ρ fun y => ∃ ys : List Str, y = .lst (ys.map Dt.str) ∧ (ys.map (·.length)).sum + ys.length * s.length ≤ 16777216 ∧ Q (.str (Txt.join s ys))
theorem rps_strs {G : Hp} : ∀ {vs : List V} (ys : List Str), Rps K G vs (ys.map Dt.str) → vs = ys.map V.str
  | _, [], .nil => rfl
  | _, y :: ys, .cons a t => by cases a; rw [rps_strs ys t]; rfl
theorem l_jn {ta tb : TE} {da db : DExp} (ha : LiftE lk K ta da) (hb : LiftE lk K tb db) : LiftE lk K (tJn K ta tb) (dJn da db) := by
  intro G σ H ρ Qd Q R h k
  refine ha G σ H ρ _ _ R h fun x d G1 H1 n1 r1 h1 => ?_
  obtain ⟨s, rfl, h1⟩ := h1
  cases r1
  refine ⟨⟨_, rfl⟩, hb G1 σ H1 ρ _ _ (R.new n1) h1 fun y e G2 H2 n2 r2 h2 => ?_⟩
  obtain ⟨ys, rfl, hz, q⟩ := h2
  cases r2 with
  | @lst a xs _ hxs hrs =>
    have e := rps_strs ys hrs
    subst e
    exact ⟨s, a, ys, rfl, rfl, .inl (Evl.sq_of (n2.s _ _ hxs)), hz, k _ _ G2 H2 (n1.trans n2) (.str _) q⟩
/-! ### constants of a class -/
/-- C.f is v -/
structure CcOk (K : Frag) (c f : Str) (v : V) : Prop where
  r : ClX.CRead K (He.ga K c) (.type "type")
  v : ∃ u, ClX.CVal K (He.ga K c) (.type "type") f v u
theorem l_cc {c f : Str} {v : V} {d : Dt} (h : CcOk K c f v) (hv : ∀ G : Hp, Rp K G v d) : LiftE lk K (ClX.tCVal K (tC (.ref (He.ga K c))) f) (dC d) := fun G σ H ρ Qd Q R q k => by
  obtain ⟨r, u, cv⟩ := h
  exact ⟨_, _, v, u, rfl, r, cv, k v d G H (New.refl R.sub) (hv G) q⟩
/-- o.f, a constant of o's class -/
structure CiOk (K : Frag) (c f : Str) (v : V) : Prop where
  cl : Cls K (He.ga K c)
  co : ∃ u, Con K (He.ga K c) f v u
def dCi (tab : List (Str × Dt)) (a : DExp) (f : Str) : DExp := fun ρ Q => a ρ fun x => ∃ c fs d, x = .obj c fs ∧ tab.lookup c = some d ∧ fs.lookup f = none ∧ Q d
theorem l_ci {ta : TE} {da : DExp} {f : Str} {tab : List (Str × Dt)} (h : ∀ c d, tab.lookup c = some d → ∃ v, CiOk K c f v ∧ ∀ G : Hp, Rp K G v d) (ha : LiftE lk K ta da) : LiftE lk K (tCon K ta f) (dCi tab da f) := by
  intro G σ H ρ Qd Q R q k
  refine ha G σ H ρ _ _ R q fun x d G1 H1 n1 r1 h1 => ?_
  obtain ⟨c, fs, d, rfl, ht, hf, q⟩ := h1
  obtain ⟨v, ⟨hc, u, cv⟩, hv⟩ := h c d ht
  cases r1 with
  | @obj a dx _ vs _ h2 r2 => exact ⟨a, _, dx, vs, v, u, rfl, n1.s _ _ h2, hc, cv, rfs_none r2 hf, k v d G1 H1 n1 (hv G1) q⟩
/-! ### things made with keywords -/
structure MkrK (P : Program) (w : World) (K : Frag) (mg : Str → Option Value) (base : Heap) (CX : CXT) (k : Nat) (x : Str) (C : Addr) (n : Nat) (ks : List Str) (gV : List V → List V → List V) (sp : Sp) : Prop where
  ex : ∃ (f : Addr) (fd : FuncData) (ps : List Str) (g : List Value → List Value → List Value), Mk K C f ∧ FnOk P w K mg base CX k f fd ps sp ∧ mg x = some (.ref C) ∧ KBn K fd ps (n + 1) ks g gV
end
section
variable {X : Cx} {CX : CXT} {j k n : Nat} {C : Addr} {ks : List Str} {sp : Sp} {E : XK} {x : Str} {p pos : Pos} {e : Expr} {es : List Expr} {kws : List Keyword} {t tk : TA} {gV : List V → List V → List V}
theorem pe_newK {i : Nat} (M : MkrK X.prog X.w X.K X.mg X.base CX k x C n ks gV sp) (hr : Room j X.A) (hk : k + 1 ≤ j) (hg : Gl X x) (hx : Passes CX X E) (ha : PA X (e :: es) t) (hkw : PK X kws tk) (hi : ks.length = i := by rfl)
    (hall : (backToKw pos (keywordEach kws X.env)).all (·.1.isSome) = true := by rfl) (hks : (backToKw pos (keywordEach kws X.env)).filterMap (·.1) = ks := by rfl) (hdb : (x == ("__debug__" : Str)) = false := by decide)
    (he : starEach (e :: es) X.env = (false, eval e X.env) :: starEach es X.env := by rfl) (hpl : ((backTo pos (starEach (e :: es) X.env)).any (·.1) || (backToKw pos (keywordEach kws X.env)).any (·.1.isNone)) = false := by rfl) :
    PE X (.Call (.Name x p) (e :: es) kws pos) (tMakeK C n i sp gV E t tk) := by
  obtain ⟨f, fd, ps, g, mk, F, hm, hb⟩ := M.ex
  subst hi
  exact pe_makeK mk F (hr.mono hk) hg hm hb hx ha hkw hall hks hdb he hpl
theorem pe_newK0 {i : Nat} (M : MkrK X.prog X.w X.K X.mg X.base CX k x C 0 ks gV sp) (hr : Room j X.A) (hk : k + 1 ≤ j) (hg : Gl X x) (hx : Passes CX X E) (hkw : PK X kws tk) (hi : ks.length = i := by rfl)
    (hall : (backToKw pos (keywordEach kws X.env)).all (·.1.isSome) = true := by rfl) (hks : (backToKw pos (keywordEach kws X.env)).filterMap (·.1) = ks := by rfl) (hdb : (x == ("__debug__" : Str)) = false := by decide)
    (hpl : ((backTo pos (starEach [] X.env)).any (·.1) || (backToKw pos (keywordEach kws X.env)).any (·.1.isNone)) = false := by rfl) :
    PE X (.Call (.Name x p) [] kws pos) (tMakeK C 0 i sp gV E tNil tk) := by
  obtain ⟨f, fd, ps, g, mk, F, hm, hb⟩ := M.ex
  subst hi
  exact pe_makeK0 mk F (hr.mono hk) hg hm hb hx hkw hall hks hdb hpl
end
section
variable {lk : Lk} {K : Frag} {wa wk : TA} {aa ak : DArg}
def dMakeK (n m : Nat) (dsp : DFx) (gd : List Dt → List Dt → List Dt) (er : ER) (t u : DArg) : DExp := fun ρ Q => t ρ fun ds => u ρ fun es => ds.length = n ∧ es.length = m ∧ dsp (gd ds es) (finE Q er)
theorem l_makeK {E : XK} {er : ER} (hE : EOk lk K E er) {c : Str} {n m : Nat} {sp : Sp} {dsp : DFx} {gV gv : List V → List V → List V} {gd : List Dt → List Dt → List Dt} (ho : MkX lk.m K c sp dsp) (hg : GvOk gv gd) (hw : LiftA lk K wa aa) (hk : LiftA lk K wk ak) (hgs : ∀ x vs zs, gV (x :: vs) zs = x :: gv vs zs := by intros; rfl) :
    LiftE lk K (tMakeK (He.ga K c) n m sp gV E wa wk) (dMakeK n m dsp gd er aa ak) := by
  intro G σ H ρ Qd Q R h k
  refine hw G σ H ρ _ _ R h fun vs ds G1 H1 n1 r1 h1 => ?_
  refine hk G1 σ H1 ρ _ _ (R.new n1) h1 fun zs es G2 H2 n2 r2 h2 => ?_
  obtain ⟨l1, l2, h2⟩ := h2
  refine ⟨by rw [rps_len r1]; exact l1, by rw [rps_len r2]; exact l2, fun x dx hx hdx hne => ?_⟩
  rw [hgs]
  exact ho G2 H2 _ _ _ _ _ n2.s (hg _ _ _ _ _ _ (rps_ex n2.g r1) r2) h2 ((fin_e hE R k).new (n1.trans n2)) x dx hx hdx hne
end
end Dl

set_option Elab.async false
set_option linter.all false
set_option maxRecDepth 100000
set_option maxHeartbeats 400000
/-! The layer of data, 20: defs that need the code tables (they make a lambda, or call such defs). -/
namespace Dl
open L2 PySem PySem.Spec PyProof.Rows RZ StX Cm LamY Skey
def NoT (G : Hp) : Prop := ∀ a ps, G a ≠ some (.tbl ps)
def SpXw (m : Md) (K : Frag) (sp : Sp) (dsp : DFx) : Prop := ∀ (G H : Hp) (vs : List V) (ds : List Dt) (F : Fin) (Q : VK) (E : XK), Ex G H → LamX.Tabs m.T H → NoT G → Rps K G vs ds → dsp ds F → FinOk m K G H F Q E → sp vs H Q E
def spXw (m : Md) (K : Frag) (dsp : DFx) : Sp := fun vs H Q E => ∃ G ds F, Ex G H ∧ Rps K G vs ds ∧ dsp ds F ∧ FinOk m K G H F Q E ∧ LamX.Tabs m.T H ∧ NoT G
section
variable {m : Md} {K : Frag} {T : List (Addr × Str)}
theorem spXw_ok {dsp : DFx} (h : m.T = T) : SpXw m K (spXw ⟨False, T⟩ K dsp) dsp := fun G H vs ds F Q E s t n r q k => by subst h; exact ⟨G, ds, F, s, r, q, k.wk, t, n⟩
theorem fnXw {m : Md} {t : XK → TS} {d : ER → DStm} {dsp : DFx} {N : List Str} (l : ∀ lk : Lk, lk.m = m → lk.xo = none → lk.p = m.p → lk.w → LiftS lk K (t lk.E) (d lk.er)) (hd : ∀ ds F, dsp ds F → d F.er (endsX F) (startD N.length ds)) (vs : List V) (H : Hp) (Q : VK) (E : XK) (h : spXw m K dsp vs H Q E) :
    t E ⟨fun _ H' => Q .non H', Q, fun _ _ => False, fun _ _ => False⟩ (L2.start N vs) H := by
  obtain ⟨G, ds, F, s, r, h, k, ht, hn⟩ := h
  have nw : ∀ {G' H'}, Ex G G' → Ex G' H' → Bas (lk0 m True G H E F.er) G' H' → New m G H G' H' := fun e1 e2 b => new_of (lk := lk0 m True G H E F.er) rfl rfl rfl id e1 e2 b
  refine l (lk0 m True G H E F.er) rfl rfl rfl trivial G _ H _ _ _ (rep_start rfl rfl (fun G' H' c fs d us b s h r e => k.er c fs G' H' d us (nw b.gx s b) h r e) (fun _ => ⟨ht, hn⟩) s r) (hd ds F h)
    ⟨fun G' σ' H' ρ' e S q => k.rt _ _ G' H' (nw e S.sub S.bas) .non q, fun G' v d H' e1 e2 b r q => k.rt v d G' H' (nw e1 e2 b) r q, fun _ _ _ _ _ _ q => q, fun _ _ _ _ _ _ q => q, fun G' p xs ds H' e1 e2 b hp hg hx r q => k.rl p xs ds G' H' (nw e1 e2 b) hp hg hx r q⟩
/-! things made -/
def spIw (m : Md) (K : Frag) (dsp : DFi) : Sp := fun vs H Q E => ∃ x dx c ws fs0 G ds0 ds Qf er, vs = .ref x :: ws ∧ H x = some (.ins (He.ga K c) dx fs0) ∧ G x = none ∧ Ex G H ∧ Rfs K G fs0 ds0 ∧ Rps K G ws ds ∧ dsp c ds0 ds Qf er ∧ FinI m K c x G H Qf er Q E ∧ LamX.Tabs m.T H ∧ NoT G
def MkXw (m : Md) (K : Frag) (c : Str) (sp : Sp) (dsp : DFx) : Prop := ∀ (G H : Hp) (vs : List V) (ds : List Dt) (F : Fin) (Q : VK) (E : XK), Ex G H → LamX.Tabs m.T H → NoT G → Rps K G vs ds → dsp ds F → FinOk m K G H F Q E → ∀ x dx, H x = none → H dx = none → dx ≠ x →
  sp (.ref x :: vs) (upd (upd H dx (.own x)) x (.ins (He.ga K c) dx [])) (fun v H' => v = .non ∧ Q (.ref x) H') E
theorem mkXw_of {c : Str} {dsp : DFi} (h : m.T = T) : MkXw m K c (spIw ⟨False, T⟩ K dsp) (dspMk c dsp) := by
  subst h
  intro G H vs ds F Q E s ht hn r q k x dx hx hdx hne
  have e1 : Ex H (upd (upd H dx (.own x)) x (.ins (He.ga K c) dx [])) := ex_make hx hdx hne
  have gx : G x = none := Evl.fresh_back s hx
  refine ⟨x, dx, c, vs, [], G, [], ds, _, _, rfl, upd_same, gx, s.trans e1, .nil, r, q, ⟨fun fs us dx' G' H' n g1 h1 rf q => ⟨rfl, ?_⟩, fun c' fs G' H' d us n h1 rf q => ?_⟩, tabs_ex e1 ht, hn⟩
  · have n2 := (newx_new (m := m.np) id e1 hx (fun a => free_up hx hdx) s n g1 h1).wk
    exact k.rt _ _ _ _ n2 (.obj upd_same (rfs_ex (Evl.Ex.new g1) rf)) q
  · have n2 := (newx_new' (m := m.np) id e1 hx (fun a => free_up hx hdx) s n).wk
    exact k.er _ _ _ _ _ _ n2 h1 rf q
abbrev lkIw (T : List (Addr × Str)) (G H : Hp) (x : Addr) (E : XK) (er : ER) : Lk := ⟨⟨False, T⟩, False, id, True, G, H, some x, E, er⟩
theorem fnIw {t : XK → TS} {d : ER → DStm} {dsp : DFi} {N : List Str} (l : ∀ lk : Lk, lk.T = T → ¬ lk.p → lk.w → LiftS lk K (t lk.E) (d lk.er)) (hd : ∀ c ds0 ds Qf er, dsp c ds0 ds Qf er → d er (endsI c Qf) (some (.o c ds0) :: startD (N.length - 1) ds)) (vs : List V) (H : Hp) (Q : VK) (E : XK) (h : spIw ⟨False, T⟩ K dsp vs H Q E) :
    t E ⟨fun _ H' => Q .non H', Q, fun _ _ => False, fun _ _ => False⟩ (L2.start N vs) H := by
  obtain ⟨x, dx, c, ws, fs0, G, ds0, ds, Qf, er, rfl, hx, gx, s, rf, r, h, k, ht, hn⟩ := h
  have nw : ∀ {G' H'}, Ex G' H' → Bas (lkIw T G H x E er) G' H' → NewX ⟨False, T⟩ x G H G' H' := fun {G' H'} s b => ⟨b.gx, fun a o ha h => b.hb a o (fun z => ha (Option.some.inj z).symm) h, s, fun a o h => by
    rcases b.gn a o h with z | z | z | z
    · exact .inr (.inl z)
    · exact .inr (.inr (.inl z))
    · exact .inl (Option.some.inj z).symm
    · exact z.elim, b.tb, b.gq⟩
  have R1 : Rep0 False K G (L2.start N (.ref x :: ws)) H (some (.o c ds0) :: startD (N.length - 1) ds) := by
    have R2 : Rep0 False K G (L2.start N (.non :: ws)) H (startD N.length (.non :: ds)) := rep0_start s (.cons .non r)
    rw [startD_cons] at R2
    have hno : ∀ j, j ≠ 0 → own ((some (.o c ds0) :: startD (N.length - 1) ds).getD j none) = false := fun j hj => by
      cases j with
      | zero => exact absurd rfl hj
      | succ j => exact own_start _ _ j
    refine ⟨s, by have := R2.len; unfold L2.start at this ⊢; simpa using this, fun i => ?_, fun i j p hne h1 h2 _ _ => ?_, False.elim⟩
    · cases i with
      | zero => exact ⟨x, dx, fs0, by unfold L2.start; rfl, gx, hx, rf⟩
      | succ i =>
        have := R2.at_ (i + 1)
        unfold L2.start at this ⊢
        exact this
    · by_cases e : i = 0
      · subst e
        rw [hno j (Ne.symm hne)] at h2; cases h2
      · rw [hno i e] at h1; cases h1
  have hz : ∀ i p, own ((some (.o c ds0) :: startD (N.length - 1) ds).getD i none) = true → (L2.start N (.ref x :: ws)).getD i none = some (.ref p) → some x = some p := fun i p h1 h2 => by
    cases i with
    | zero =>
      have hσ : (L2.start N (.ref x :: ws)).getD 0 none = some (.ref x) := by unfold L2.start; rfl
      rw [hσ] at h2
      cases h2
      rfl
    | succ i =>
      have := own_start (N.length - 1) ds i
      have h1 : own ((startD (N.length - 1) ds).getD i none) = true := h1
      rw [this] at h1; cases h1
  refine l (lkIw T G H x E er) rfl id trivial G _ H _ (endsI c Qf) _ ⟨R1, bas_start rfl rfl, fun G' H' c' fs d us b s h r e => k.er c' fs G' H' d us (nw s b) h r e, fun _ => ⟨ht, hn⟩, fun i p h1 h2 => .inr (hz i p h1 h2), fun y hy p h1 h2 => by
      have e : some x = some p := hz 0 p rfl h2
      cases e
      exact Option.some.inj hy⟩ (hd c ds0 ds Qf er h)
    ⟨fun G' σ' H' ρ' e S q => ?_, fun _ _ _ _ _ _ _ _ q => q.elim, fun _ _ _ _ _ _ q => q, fun _ _ _ _ _ _ q => q, fun _ _ _ _ _ _ _ _ _ _ _ _ q => q.elim⟩
  obtain ⟨fs, h0, q⟩ := q
  obtain ⟨p, dx', us, h1, h2, h3, h4⟩ := S.r.obj h0
  have hp : p = x := S.ox x rfl p (by rw [getD_of h0]; rfl) (getD_of h1)
  subst hp
  exact k.nx fs us dx' G' H' (nw S.sub S.bas) h2 h3 h4 q
end
/-! calls -/
section
variable {lk : Lk} {K : Frag} {ta : TE} {da : DExp} {wa wk : TA} {aa ak : DArg}
theorem Rep.nt {G H : Hp} {σ : L2.St} {ρ : Env} (R : Rep lk K G σ H ρ) (hw : lk.w) : NoT G := R.notb hw
theorem l_callXw (hw : lk.w) {E : XK} {er : ER} (hE : EOk lk K E er) {sp : Sp} {dsp : DFx} (ho : SpXw lk.m K sp dsp) (hwa : LiftA lk K wa aa) : LiftE lk K (tCall sp [] E wa) (dCallX dsp er aa) := by
  intro G σ H ρ Qd Q R h k
  refine g_call (hwa G σ H ρ _ _ R h fun vs ds G1 H1 n1 r1 h1 => ?_)
  exact ho G1 H1 vs ds _ _ _ n1.s ((R.new n1).tabs hw) ((R.new n1).nt hw) r1 h1 ((fin_e hE R k).new n1)
theorem l_callXNw (hw : lk.w) {E : XK} {er : ER} (hE : EOk lk K E er) {n m : Nat} {sp : Sp} {dsp : DFx} {gv : List V → List V → List V} {gd : List Dt → List Dt → List Dt} (ho : SpXw lk.m K sp dsp) (hg : GvOk gv gd) (hwa : LiftA lk K wa aa) (hk : LiftA lk K wk ak) : LiftE lk K (tCallN n m sp gv E wa wk) (dCallXN n m dsp gd er aa ak) := by
  intro G σ H ρ Qd Q R h k
  refine hwa G σ H ρ _ _ R h fun vs ds G1 H1 n1 r1 h1 => ?_
  refine hk G1 σ H1 ρ _ _ (R.new n1) h1 fun zs es G2 H2 n2 r2 h2 => ?_
  obtain ⟨l1, l2, h2⟩ := h2
  refine ⟨by rw [rps_len r1]; exact l1, by rw [rps_len r2]; exact l2, ?_⟩
  have R2 := R.new (n1.trans n2)
  exact ho G2 H2 _ _ _ _ _ n2.s (R2.tabs hw) (R2.nt hw) (hg _ _ _ _ _ _ (rps_ex n2.g r1) r2) h2 ((fin_e hE R k).new (n1.trans n2))
theorem l_methXw (hw : lk.w) {E : XK} {er : ER} (hE : EOk lk K E er) {c m : Str} {sp : Sp} {dsp : DFx} (ho : SpXw lk.m K sp dsp) (ha : LiftE lk K ta da) (hwa : LiftA lk K wa aa) : LiftE lk K (tMeth (He.ga K c) m sp [] E ta wa) (dMethX c m dsp er da aa) := by
  intro G σ H ρ Qd Q R h k
  refine g_meth (ha G σ H ρ _ _ R h fun x d G1 H1 n1 r1 h1 => ?_)
  obtain ⟨fs, rfl, hl, h1⟩ := h1
  cases r1 with
  | @obj a dx _ vs _ h2 r2 =>
    refine g_onM (n1.s _ _ h2) (rfs_none r2 hl) ?_
    refine hwa G1 σ H1 ρ _ _ (R.new n1) h1 fun zs ds G2 H2 n2 r3 h3 => ?_
    have R2 := R.new (n1.trans n2)
    exact ho G2 H2 _ _ _ _ _ n2.s (R2.tabs hw) (R2.nt hw) (.cons (rp_ex n2.g (.obj h2 r2)) r3) h3 ((fin_e hE R k).new (n1.trans n2))
theorem l_methXNw (hw : lk.w) {E : XK} {er : ER} (hE : EOk lk K E er) {c m : Str} {j : Nat} {sp : Sp} {dsp : DFx} {gv : List V → List V → List V} {gd : List Dt → List Dt → List Dt} (ho : SpXw lk.m K sp dsp) (hg : GvOk gv gd) (ha : LiftE lk K ta da) (hwa : LiftA lk K wa aa) : LiftE lk K (tMethN (He.ga K c) m j sp gv E ta wa) (dMethXN c m j dsp gd er da aa) := by
  intro G σ H ρ Qd Q R h k
  refine g_methk (ha G σ H ρ _ _ R h fun x d G1 H1 n1 r1 h1 => ?_)
  obtain ⟨fs, rfl, hl, h1⟩ := h1
  cases r1 with
  | @obj a dx _ vs _ h2 r2 =>
    refine g_onMk (n1.s _ _ h2) (rfs_none r2 hl) ?_
    refine hwa G1 σ H1 ρ _ _ (R.new n1) h1 fun zs ds G2 H2 n2 r3 h3 => ?_
    obtain ⟨l2, h3⟩ := h3
    refine ⟨by rw [rps_len r3]; exact l2, ?_⟩
    have R2 := R.new (n1.trans n2)
    exact ho G2 H2 _ _ _ _ _ n2.s (R2.tabs hw) (R2.nt hw) (hg _ _ _ _ _ _ (.cons (rp_ex n2.g (.obj h2 r2)) .nil) r3) h3 ((fin_e hE R k).new (n1.trans n2))
theorem l_makeXw (hw : lk.w) {E : XK} {er : ER} (hE : EOk lk K E er) {c : Str} {sp : Sp} {dsp : DFx} (ho : MkXw lk.m K c sp dsp) (hwa : LiftA lk K wa aa) : LiftE lk K (tMakeR (He.ga K c) sp E wa) (dMakeX dsp er aa) := by
  intro G σ H ρ Qd Q R h k
  refine g_make (hwa G σ H ρ _ _ R h fun vs ds G1 H1 n1 r1 h1 => ?_)
  exact ho G1 H1 vs ds _ _ _ n1.s ((R.new n1).tabs hw) ((R.new n1).nt hw) r1 h1 ((fin_e hE R k).new n1)
theorem l_makeKw (hw : lk.w) {E : XK} {er : ER} (hE : EOk lk K E er) {c : Str} {n m : Nat} {sp : Sp} {dsp : DFx} {gV gv : List V → List V → List V} {gd : List Dt → List Dt → List Dt} (ho : MkXw lk.m K c sp dsp) (hg : GvOk gv gd) (hwa : LiftA lk K wa aa) (hk : LiftA lk K wk ak) (hgs : ∀ x vs zs, gV (x :: vs) zs = x :: gv vs zs := by intros; rfl) :
    LiftE lk K (tMakeK (He.ga K c) n m sp gV E wa wk) (dMakeK n m dsp gd er aa ak) := by
  intro G σ H ρ Qd Q R h k
  refine hwa G σ H ρ _ _ R h fun vs ds G1 H1 n1 r1 h1 => ?_
  refine hk G1 σ H1 ρ _ _ (R.new n1) h1 fun zs es G2 H2 n2 r2 h2 => ?_
  obtain ⟨l1, l2, h2⟩ := h2
  have R2 := R.new (n1.trans n2)
  refine ⟨by rw [rps_len r1]; exact l1, by rw [rps_len r2]; exact l2, fun x dx hx hdx hne => ?_⟩
  rw [hgs]
  exact ho G2 H2 _ _ _ _ _ n2.s (R2.tabs hw) (R2.nt hw) (hg _ _ _ _ _ _ (rps_ex n2.g r1) r2) h2 ((fin_e hE R k).new (n1.trans n2)) x dx hx hdx hne
end
/-! tables of several defs -/
def TabU (T : List (Addr × Str)) : Prop := ∀ p ∈ T, ∀ q ∈ T, p.1 = q.1 → p.2 = q.2
def tabUB (T : List (Addr × Str)) : Bool := T.all fun p => T.all fun q => !(decide (p.1 = q.1)) || decide (p.2 = q.2)
theorem tabU_of {T : List (Addr × Str)} (h : tabUB T = true) : TabU T := fun p hp q hq e => by
  unfold tabUB at h
  have := List.all_eq_true.mp (List.all_eq_true.mp h p hp) q hq
  rw [decide_eq_true e] at this
  simpa using this
theorem tab_u {T : List (Addr × Str)} (h : TabU T) {P : Addr} {q : Str} (hm : (P, q) ∈ T) : ∀ p ∈ T, p.1 = P → p.2 = q := fun p hp e => h p hp _ hm e
/-! sorted by a key, whatever tells its lambda -/
def tSortA (K : Frag) (T : List (Addr × Str)) (te t : TE) : TE := fun σ H Q => ∀ Λ : Hp → Addr → (XK → TE) → Prop, tSortK K T Λ te t σ H Q
theorem pe_sortA {X : Cx} {T : List (Addr × Str)} {c P : Addr} {params : Arguments} {body e : Expr} {scope : Scope} {pos lp kp p : Pos} {k : Nat} {te t : TE} {a : Str} (hr : Room (k + 3) X.A) (hg : Gl X "sorted") (hmg : X.mg "sorted" = none) (hb : bootBuiltins "sorted" = some (.builtin "sorted")) (he : PA X [e] (tCons te tNil))
    (TB : LamX.TabB X.base X.mg c P) (hcode : X.env.code = .ref c) (hm : (P, X.env.qual ++ "<lambda>") ∈ T) (hu : ∀ p ∈ T, p.1 = P → p.2 = X.env.qual ++ "<lambda>") (C : LamC1 X k t params body scope a) (hdef : defaultsOf params X.env = ([], []) := by rfl)
    (hst : backTo pos (starEach [e] X.env) = (false, eval e X.env) :: backTo pos (starEach [] X.env) := by rfl) (hpl : (backTo pos (starEach [e] X.env)).any (·.1) = false := by rfl) :
    PE X (.Call (.Name "sorted" p) [e] [⟨some "key", .Lambda params body scope lp, kp⟩] pos) (tSortA X.K T te t) :=
  ⟨fun pins s σ H Q I h => (pe_sortK hr hg hmg hb he TB hcode hm hu C hdef hst hpl).run pins s σ H Q I (h _)⟩
theorem l_sortA {lk : Lk} {K : Frag} {T : List (Addr × Str)} {ta t : TE} {da kb : DExp} (hw : lk.w) (hT : lk.T = T) (ha : LiftE lk K ta da) (hk : LiftE lk.nx K t kb) : LiftEL lk K (tSortA K T ta t) (dSortK kb da) := fun G σ H ρ Qd Q R h k Λ => l_sortK hw hT ha hk G σ H ρ Qd Q R h k
/-! constants of a class, looked up -/
def ccIntB (K : Frag) (c f : Str) (n : Int) : Bool := PySem.W.readsIn K (He.ga K c) (.type "type") && (match PySem.W.findCls K (.ref (He.ga K c)) (.type "type") f with
  | some (.val (.int m _)) => decide (m = n)
  | _ => false)
theorem ccInt_ok {K : Frag} {c f : Str} {n : Int} (h : ccIntB K c f n = true) : CcOk K c f (.int n) := by
  unfold ccIntB at h
  rw [Bool.and_eq_true] at h
  refine ⟨cread h.1, ?_⟩
  have h2 := h.2
  split at h2
  · rename_i m t e
    obtain rfl : m = n := of_decide_eq_true h2
    exact ⟨_, e, t, rfl⟩
  · cases h2
end Dl

set_option Elab.async false
set_option linter.all false
set_option maxRecDepth 100000
set_option maxHeartbeats 9000000
/-! Loops over ranges, over lists place by place. -/
local macro_rules | `(tactic| walk_at "x1") => `(tactic| with_reducible (first | refine Dl.d_lstL0 ?_ | refine Dl.d_seq ?_ | refine Dl.d_asg ?_ | refine Dl.d_name ?_ | refine Dl.d_cons ?_ | refine Dl.d_nil ?_ | refine Dl.d_c ?_ | refine Dl.d_op ?_ | refine Dl.d_call ?_ | refine Dl.d_meth ?_ | refine Dl.d_ret ?_ | refine Dl.d_next ?_ | refine Dl.d_ifS ?_ | refine Dl.d_tst ?_ | refine Dl.d_cb ?_ | refine Dl.d_un ?_ | refine Dl.d_k ?_ | refine Dl.d_i ?_ | refine Dl.d_l ?_ | refine Dl.d_t ?_ | refine Dl.d_iteT ?_ | refine Dl.d_iteF ?_ | refine Dl.d_not ?_ | refine Dl.d_and ?_ | refine Dl.d_or ?_ | refine Dl.d_andV ?_ | refine Dl.d_orV ?_ | refine Dl.d_notV ?_ | refine Dl.d_if ?_ | refine Dl.d_chain ?_ | refine Dl.d_lst ?_ | refine Dl.d_tup ?_ | refine Dl.d_new ?_ | refine Dl.d_for ?_ | refine Dl.d_items ?_ | refine Dl.d_itemsT ?_ | refine Dl.d_rng1 ?_ | refine Dl.d_enum ?_ | refine Dl.d_yes ?_ | refine Dl.d_addI ?_ | refine Dl.d_subI ?_ | refine Dl.d_ltI ?_ | refine Dl.d_leI ?_ | refine Dl.d_gtI ?_ | refine Dl.d_geI ?_ | refine Dl.d_negI ?_ | refine Dl.d_eqI ?_ | refine Dl.d_neI ?_ | refine Dl.d_eqB ?_ | refine Dl.d_neB ?_ | refine Dl.d_eqS ?_ | refine Dl.d_neS ?_ | refine Dl.d_isN0 ?_ | refine Dl.d_isN1 ?_ | refine Dl.d_isI0 ?_ | refine Dl.d_isI1 ?_ | refine Dl.d_isS0 ?_ | refine Dl.d_isS1 ?_ | refine Dl.d_isL0 ?_ | refine Dl.d_isL1 ?_ | refine Dl.d_isT0 ?_ | refine Dl.d_isT1 ?_ | refine Dl.d_isO0 ?_ | refine Dl.d_isO1 ?_ | refine Dl.d_isB0 ?_ | refine Dl.d_isB1 ?_ | refine Dl.d_isD0 ?_ | refine Dl.d_isD1 ?_ | refine Dl.d_isN ?_ | refine Dl.d_isnN ?_ | refine Dl.d_lenL ?_ | refine Dl.d_lenT ?_ | refine Dl.d_ix0 ?_ | refine Dl.d_ix1 ?_ | refine Dl.d_ix2 ?_ | refine Dl.d_ix3 ?_ | refine Dl.d_sl ?_ | refine Dl.d_slL ?_ | refine Dl.d_slT ?_ | refine Dl.d_intI ?_ | refine Dl.d_listL ?_ | refine Dl.d_listT ?_ | refine Dl.d_tupleL ?_ | refine Dl.d_tupleT ?_ | refine Dl.d_noPart ?_ | refine Dl.d_part ?_ | refine Dl.d_ofL ?_ | refine Dl.d_lcL ?_ | refine Dl.d_make ?_ | refine Dl.d_fld ?_ | refine Dl.d_drop ?_ | refine Dl.d_retN ?_ | refine Dl.d_par ?_ | refine Dl.d_frz ?_ | refine Dl.d_asgL ?_ | refine Dl.d_lstL ?_ | refine Dl.d_etup2 ?_ | refine Dl.d_callN ?_ | refine Dl.d_iteD ?_ | refine Dl.d_iteNF ?_ | refine Dl.d_iteNT ?_ | refine Dl.d_rng2 ?_ | refine Dl.d_star ?_ | refine Dl.d_ow ?_ | refine Dl.d_callX ?_ | refine Dl.d_callXL ?_ | refine Dl.d_callXN ?_ | refine Dl.d_makeX ?_ | refine Dl.d_methX ?_ | refine Dl.d_methXL ?_ | refine Dl.d_methXN ?_ | refine Dl.d_prop ?_ | refine Dl.d_retL ?_ | refine Dl.d_raise1 ?_ | refine Dl.d_rs ?_ | refine Dl.d_raise0 ?_ | refine Dl.d_putF ?_ | refine Dl.d_dropL ?_ | refine Dl.d_tmp ?_ | refine Dl.d_tmpT ?_ | refine Dl.d_revL ?_ | refine Dl.d_fmt ?_ | refine Dl.d_parVL ?_ | refine Dl.d_asgO ?_ | refine Dl.d_makeXO ?_ | refine Dl.d_onP ?_ | refine Dl.d_lsl ?_ | refine Dl.d_itm ?_ | refine Dl.d_itmT ?_ | refine Dl.d_notin ?_ | refine Dl.d_notk ?_))
local macro_rules | `(tactic| walk_at "xz") => `(tactic| dsimp only [List.set_cons_zero, List.set_cons_succ, Dl.wipeD, Dl.frz, List.getD_cons_zero, List.getD_cons_succ, Dl.frzC])
local macro_rules | `(tactic| walk_at "xr") => `(tactic| (try walk_at "xz") <;> repeat (first | ((walk_at "x1"); try walk_at "xz") | ((with_reducible apply Dl.d_var); focus exact rfl) | ((with_reducible apply Dl.d_retO); focus exact rfl) | ((with_reducible apply Dl.d_ixO); focus exact rfl) | ((with_reducible apply Dl.d_app); focus exact rfl) | ((with_reducible apply Dl.d_setI); focus exact rfl) | ((with_reducible refine Dl.d_onMX ?_ ?_); focus exact rfl) | ((with_reducible refine Dl.d_onMXN ?_ ?_); focus exact rfl) | ((with_reducible refine Dl.d_onM ?_ ?_); focus exact rfl)))
namespace Dl
open L2 PySem PySem.Spec PyProof.Rows RZ StX Cm
/-! ### loops over a row of places -/
section
variable {ρ : Env} {D : DEnds} {a : DExp} {t : DStm} {g : DTgt}
theorem range_cons {N k x : Nat} {r : List Nat} (h : (List.range N).drop k = x :: r) : x = k ∧ k < N ∧ r = (List.range N).drop (k + 1) := by
  have hk : k < N := by
    rcases Nat.lt_or_ge k N with z | z
    · exact z
    · rw [List.drop_eq_nil_of_le (by rw [List.length_range]; exact z)] at h; cases h
  rw [List.drop_eq_getElem_cons (by rw [List.length_range]; exact hk), List.getElem_range] at h
  simp only [List.cons.injEq] at h
  exact ⟨h.1.symm, hk, h.2.symm⟩
theorem loop_rng {N : Nat} {h : Nat → Dt} (P : Nat → Env → Prop) (h0 : P 0 ρ) (hd : ∀ ρ, P N ρ → D.nx ρ) (hs : ∀ k ρ, k < N → P k ρ → ∀ (C : Env → Prop), (∀ ρ', P (k + 1) ρ' → C ρ') → g (h k) ρ fun ρ1 => t { D with nx := C, ct := C, bk := D.nx } ρ1) : dLoop g t D ((List.range N).map h) ρ := by
  refine loop_map h (fun l ρ => ∃ k, k ≤ N ∧ l = (List.range N).drop k ∧ P k ρ) ⟨0, Nat.zero_le _, rfl, h0⟩ ?_ ?_
  · rintro ρ ⟨k, hk, e, hp⟩
    have e2 : k = N := by
      rcases Nat.lt_or_ge k N with z | z
      · have := congrArg List.length e
        rw [List.length_drop, List.length_range] at this
        simp at this; omega
      · omega
    subst e2
    exact hd ρ hp
  · rintro x r ρ _ ⟨k, hk, e, hp⟩ cont
    obtain ⟨rfl, hk2, rfl⟩ := range_cons e.symm
    exact hs x ρ hk2 hp _ fun ρ' h' => cont ρ' ⟨x + 1, hk2, rfl, h'⟩
/-- over any list, the place told -/
theorem loop_at {l : List Dt} (P : Nat → Env → Prop) (h0 : P 0 ρ) (hd : ∀ ρ, P l.length ρ → D.nx ρ) (hs : ∀ k x ρ, l[k]? = some x → P k ρ → ∀ (C : Env → Prop), (∀ ρ', P (k + 1) ρ' → C ρ') → g x ρ fun ρ1 => t { D with nx := C, ct := C, bk := D.nx } ρ1) : dLoop g t D l ρ := by
  have e : l = (List.range l.length).map fun k => l.getD k .non := by
    refine List.ext_getElem? fun k => ?_
    rw [List.getElem?_map]
    rcases Nat.lt_or_ge k l.length with z | z
    · rw [List.getElem?_range z, Option.map_some, List.getD_eq_getElem?_getD, List.getElem?_eq_getElem z]; rfl
    · rw [List.getElem?_eq_none z, List.getElem?_eq_none (by rw [List.length_range]; exact z)]; rfl
  rw [e]
  refine loop_rng P h0 hd fun k ρ hk hp C hC => ?_
  refine hs k _ ρ ?_ hp C hC
  rw [List.getD_eq_getElem?_getD, List.getElem?_eq_getElem hk]; rfl
end
theorem enum_rng (N : Nat) (f : Nat → Dt) : enumD ((List.range N).map f) = (List.range N).map fun j => Dt.tup [.int (j : Nat), f j] := by
  unfold enumD
  refine List.ext_getElem? fun k => ?_
  rw [List.getElem?_mapIdx, List.getElem?_map, List.getElem?_map]
  rcases Nat.lt_or_ge k N with z | z
  · rw [List.getElem?_range z]; rfl
  · rw [List.getElem?_eq_none (by rw [List.length_range]; exact z)]; rfl
theorem atI_rng {N j : Nat} {f : Nat → Dt} (h : j < N) : atI ((List.range N).map f) ((j : Nat) : Int) = some (f j) := atI_nat (by rw [List.getElem?_map, List.getElem?_range h]; rfl)
theorem ixN_nat {n j : Nat} (h : j < n) : ixN n ((j : Nat) : Int) = some j := by
  unfold ixN
  rw [if_pos (by omega), if_pos (by omega)]; simp
theorem set_rng {N j : Nat} {f : Nat → Dt} {v : Dt} : ((List.range N).map f).set j v = (List.range N).map fun i => if i = j then v else f i := by
  refine List.ext_getElem? fun k => ?_
  rw [List.getElem?_set, List.getElem?_map, List.getElem?_map, List.length_map, List.length_range]
  by_cases e : j = k
  · subst e
    by_cases h : j < N
    · rw [if_pos rfl, if_pos h, List.getElem?_range h]; simp
    · rw [if_pos rfl, if_neg h, List.getElem?_eq_none (by rw [List.length_range]; omega)]; rfl
  · rw [if_neg e]
    rcases Nat.lt_or_ge k N with z | z
    · rw [List.getElem?_range z]; simp [Ne.symm e]
    · rw [List.getElem?_eq_none (by rw [List.length_range]; exact z)]; rfl
end Dl

set_option Elab.async false
set_option linter.all false
set_option maxRecDepth 100000
set_option maxHeartbeats 400000
/-! The layer of data, 21: steps for the newer words. -/
namespace Dl
open L2 PySem PySem.Spec PyProof.Rows RZ StX Cm
open PySem.W (AllAlike Sortable dataLe)
section
variable {ρ : Env} {Q : Dt → Prop} {a b : DExp} {w v : DArg}
theorem d_makeK {n m : Nat} {dsp : DFx} {gd : List Dt → List Dt → List Dt} {er : ER} (h : w ρ fun ds => v ρ fun es => ds.length = n ∧ es.length = m ∧ dsp (gd ds es) (finE Q er)) : dMakeK n m dsp gd er w v ρ Q := h
theorem d_jn (h : a ρ fun x => ∃ s : Str, x = .str s ∧ b ρ fun y => ∃ ys : List Str, y = .lst (ys.map Dt.str) ∧ (ys.map (·.length)).sum + ys.length * s.length ≤ 16777216 ∧ Q (.str (Txt.join s ys))) : dJn a b ρ Q := h
theorem d_slS {s : Str} {lo hi : Option Int} (h : s.length ≤ 100000 ∧ Q (.str (cutS s lo hi))) : dSlc (.str s) lo hi Q := h
theorem d_lenS {s : Str} (h : s.length ≤ 100000 ∧ Q (.int (s.length : Nat))) : dLen [.str s] Q := h
theorem d_getDk (h : a ρ fun x => b ρ fun y => ∃ kvs k d, x = .dct kvs ∧ y = .str k ∧ kvs.lookup k = some d ∧ Q d) : dGetDk a b ρ Q := h
theorem d_inDk {neg : Bool} {kvs : List (Str × Dt)} {k : Str} (q : Q (.bl (neg != (kvs.lookup k).isSome))) : dInDk neg (.str k) (.dct kvs) Q := ⟨kvs, k, rfl, rfl, q⟩
theorem d_dc {g : DTgt} {c : DTst} {ek ev : DExp} {vs : List Nat} (h : w ρ fun l => l.length ≤ 100000 ∧ dDMap g c ek ev (wipeD ρ vs) l [] fun kvs => Q (.dct kvs)) : dDc w g c ek ev vs ρ Q := h
theorem d_sortK {P : List Dt → Prop} (h : b ρ fun x => ∃ (l : List Dt) (f : Dt → PyData), x = .lst l ∧ AllAlike (l.map f) ∧ Sortable (l.map f) ∧ (∀ d ∈ l, (f d).depth = 0 ∧ a [some (.v d)] fun y => KeyD y (f d)) ∧ P (l.mergeSort (dataLe false f))) : dSortK a b ρ P := h
end
/-! a list or a tuple walked -/
def iSeq (K : Frag) (tl : TE) : TI := fun σ H R => tl σ H fun x H1 => ∃ a, x = .ref a ∧ ((∃ xs, SqL K H1 a xs) ∧ R (Itl K a) H1 ∨ (∃ xs, SqT K H1 a xs) ∧ R (Itt K a) H1)
theorem pi_seq {X : Cx} {tg l : Expr} {tl : TE} (hl : PE X l tl) : PI X tg l (iSeq X.K tl) := by
  refine ⟨fun pins s σ H R I h => ?_⟩
  refine thn (hl.run pins s σ H _ I h) fun v s1 ⟨x, H1, I1, r1, q1⟩ => ?_
  obtain ⟨a, e, q⟩ := q1
  subst e
  have rx : RelV (V.ref a) v := r1
  rcases q with ⟨hq, q⟩ | ⟨hq, q⟩
  · cases r1
    obtain ⟨xs, hq⟩ := hq
    obtain ⟨its, rv, p, hz⟩ := I1.list hq
    refine wpAny_pyIter_list p.isList ?_
    refine ⟨s1.heap.objs.size, [s1.heap.objs.size], _, _, H1, rfl, I1.kept (t' := s1.toks) fun b o e => Heap.get?_push_of_some _ e, turn_list a _, ⟨_, Heap.get?_push_size _ rfl, rfl, rfl⟩, fun b hb => ?_, q⟩
    have e : b = s1.heap.objs.size := by simpa using hb
    subst e
    exact I1.fpOk (Nat.le_refl _) (I1.hok.fresh (Nat.le_refl _))
  · cases r1
    obtain ⟨xs, hq⟩ := hq
    obtain ⟨its, rv, p, hz⟩ := I1.tuple hq
    refine wpAny_pyIter_tuple (show s1.heap.IsTuple a its.toArray from p) ?_
    refine ⟨s1.heap.objs.size, [s1.heap.objs.size], _, _, H1, rfl, I1.kept (t' := s1.toks) fun b o e => Heap.get?_push_of_some _ e, turn_tuple a _, ⟨_, Heap.get?_push_size _ rfl, rfl, rfl⟩, fun b hb => ?_, q⟩
    have e : b = s1.heap.objs.size := by simpa using hb
    subst e
    exact I1.fpOk (Nat.le_refl _) (I1.hok.fresh (Nat.le_refl _))
def dItemsA (e : DExp) : DArg := fun ρ Q => e ρ fun x => ∃ l, items x = some l ∧ Q l
theorem l_iSeq {lk : Lk} {K : Frag} {ta : TE} {da : DExp} (ha : LiftE lk K ta da) : LiftI lk K (iSeq K ta) (dItemsA da) := fun G σ H ρ Qd R Rr h k => by
  refine ha G σ H ρ _ _ Rr h fun v d G1 H1 n1 r1 q => ?_
  obtain ⟨l, hl, q⟩ := q
  cases r1 with
  | @lst a xs _ h1 r =>
    cases hl
    exact ⟨a, rfl, .inl ⟨⟨xs, Evl.sq_of (n1.s _ _ h1)⟩, k _ l G1 H1 n1 (walkD_at walk_list (fun H' e => Evl.sq_of (e _ _ h1)) r) q⟩⟩
  | @tup a xs _ h1 r =>
    cases hl
    exact ⟨a, rfl, .inr ⟨⟨xs, Evl.ex_t n1.s h1⟩, k _ l G1 H1 n1 (walkD_at walk_tup (fun H' e => Evl.ex_t e h1) r) q⟩⟩
  | _ => cases hl
theorem d_itemsA {ρ : Env} {a : DExp} {P : List Dt → Prop} (h : a ρ fun x => ∃ l, items x = some l ∧ P l) : dItemsA a ρ P := h
theorem d_lenW {W : Dt} {l : List Dt} {Q : Dt → Prop} (h : items W = some l) (q : Q (.int (l.length : Nat))) : dLen [W] Q := by
  cases W <;> first | (cases h; done) | (cases h; exact q)
theorem d_listW {W : Dt} {l : List Dt} {Q : Dt → Prop} (h : items W = some l) (q : Q (.lst l)) : dListC [W] Q := ⟨W, l, rfl, h, q⟩
theorem d_slW {W : Dt} {l : List Dt} {lo hi : Option Int} {Q : Dt → Prop} (h : items W = some l) (q : ∀ W', items W' = some (cutD l lo hi) → Q W') : dSlc W lo hi Q := by
  cases W <;> first | (cases h; done) | (cases h; exact q _ rfl)
/-! a pick of a list or of a text -/
def dsp_law_pickS : DFn := fun ds Q => ∃ s : Str, ds = [.bag, .str s] ∧ 0 < s.length ∧ s.length ≤ 10000 ∧ ∀ c ∈ s.cps.toList, Q (.str ⟨#[c]⟩)
def dsp_law_pickA : DFn := fun ds Q => dsp_law_pickL ds Q ∨ dsp_law_pickS ds Q
theorem ok_pickA {m : Md} {K : Frag} : SpOk m K (sp_law_pick K) dsp_law_pickA := by
  intro G H vs ds Qd Q E s r q k
  rcases q with q | ⟨z, rfl, h0, h1, q⟩
  · exact ok_pickL G H vs ds Qd Q E s r q k
  · cases r with
    | cons a r => cases r with
      | cons b r =>
        cases r
        cases a with
        | bag hb =>
          cases b
          exact ⟨_, _, rfl, hb.ex s, Or.inr ⟨z, rfl, h0, h1, fun c hc => k _ _ G H (New.refl s) (.str _) (q c hc)⟩⟩
end Dl

set_option Elab.async false
set_option linter.all false
set_option maxRecDepth 100000
set_option maxHeartbeats 400000
/-! The layer of data, 22: what many laws' plain parts need. -/
namespace Dl
open L2 PySem PySem.Spec PyProof.Rows RZ StX Cm
theorem d_powI {m n : Int} {Q : Dt → Prop} (h : CPow m n) (q : Q (.int (m ^ n.toNat))) : dPow (.int m) (.int n) Q := ⟨h, q⟩
theorem d_addS {a b : Str} {Q : Dt → Prop} (h : a.length + b.length ≤ 100000) (q : Q (.str (a ++ b))) : dAdd (.str a) (.str b) Q := ⟨h, q⟩
theorem fit_str (k : Nat) (s : Str) : fit k (.str s) := by cases k <;> exact trivial
theorem fit_int (k : Nat) (i : Int) : fit k (.int i) := by cases k <;> exact trivial
theorem fit_bool (k : Nat) (i : Bool) : fit k (.bool i) := by cases k <;> exact trivial
theorem fit_none (k : Nat) : fit k .none := by cases k <;> exact trivial
/-- told in full, not too deep -/
def Fit (k : Nat) (x : Dt) : Prop := ∃ d, pyd x = some d ∧ fit k d
theorem Fit.int {k : Nat} {i : Int} : Fit k (.int i) := ⟨_, rfl, fit_int _ _⟩
theorem Fit.str {k : Nat} {i : Str} : Fit k (.str i) := ⟨_, rfl, fit_str _ _⟩
theorem Fit.bl {k : Nat} {i : Bool} : Fit k (.bl i) := ⟨_, rfl, fit_bool _ _⟩
theorem Fit.non {k : Nat} : Fit k .non := ⟨_, rfl, fit_none _⟩
theorem fit_pyds : ∀ {l : List Dt} {k : Nat}, (∀ x ∈ l, Fit k x) → ∃ ps, pyds l = some ps ∧ ps.length = l.length ∧ ∀ d ∈ ps, fit k d
  | [], _, _ => ⟨[], rfl, rfl, by intro d h; cases h⟩
  | x :: l, k, h => by
    obtain ⟨d, h1, h2⟩ := h x (List.mem_cons_self ..)
    obtain ⟨ps, h3, h4, h5⟩ := fit_pyds fun y hy => h y (List.mem_cons_of_mem _ hy)
    refine ⟨d :: ps, by rw [pyds, h1, h3]; rfl, by rw [List.length_cons, List.length_cons, h4], fun y hy => ?_⟩
    rcases List.mem_cons.mp hy with rfl | hy
    · exact h2
    · exact h5 y hy
theorem Fit.lst {k : Nat} {l : List Dt} (h : ∀ x ∈ l, Fit k x) (hl : l.length ≤ 100000 := by simp) : Fit (k + 1) (.lst l) := by
  obtain ⟨ps, h1, h2, h3⟩ := fit_pyds h
  exact ⟨.list ps, by rw [pyd, h1]; rfl, by rw [h2]; exact hl, h3⟩
theorem Fit.tup {k : Nat} {l : List Dt} (h : ∀ x ∈ l, Fit k x) (hl : l.length ≤ 100000 := by simp) : Fit (k + 1) (.tup l) := by
  obtain ⟨ps, h1, h2, h3⟩ := fit_pyds h
  exact ⟨.tuple ps, by rw [pyd, h1]; rfl, by rw [h2]; exact hl, h3⟩
theorem fit_all1 {k : Nat} {x : Dt} (h : Fit k x) : ∀ y ∈ [x], Fit k y := fun y hy => by rw [List.mem_singleton.mp hy]; exact h
theorem fit_cons {k : Nat} {x : Dt} {l : List Dt} (h : Fit k x) (t : ∀ y ∈ l, Fit k y) : ∀ y ∈ x :: l, Fit k y := fun y hy => by
  rcases List.mem_cons.mp hy with rfl | hy
  · exact h
  · exact t y hy
theorem fit_nil {k : Nat} : ∀ y ∈ ([] : List Dt), Fit k y := fun y hy => (by cases hy)
theorem fit_pr {x : Dt} {s : Str} {k : Nat} (h : Fit k x) : Fit (k + 1) (.tup [.str s, x]) := .tup (fit_cons .str (fit_all1 h))
theorem d_sameF {l : List Dt} {Q : Dt → Prop} (h : ∀ x ∈ l, Fit 7 x) (hl : l.length ≤ 100000) (q : Q (.bl true)) : dsp_law_same [.lst l, .lst l] Q := by
  obtain ⟨ps, h1, h2, h3⟩ := fit_pyds h
  exact ⟨_, _, .list ps, rfl, by rw [pyd, h1]; rfl, by rw [pyd, h1]; rfl, ⟨by rw [h2]; exact hl, h3⟩, q⟩
theorem d_sameX {x : Dt} {Q : Dt → Prop} (h : Fit 8 x) (q : Q (.bl true)) : dsp_law_same [x, x] Q := by
  obtain ⟨d, h1, h2⟩ := h
  exact ⟨_, _, d, rfl, h1, h1, h2, q⟩
theorem er_at {es : List (Str × Option Str)} {c f : Str} {x : Dt} {Q : Dt → Prop} (h : (c, some f) ∈ es) (q : Q (.tup [.str c, x])) : erGot es Q c (xe c f x) := ⟨x, (c, some f), h, rfl, rfl, q⟩
theorem er_no {es : List (Str × Option Str)} {c : Str} {Q : Dt → Prop} (h : (c, none) ∈ es) (q : Q (.tup [.str c, .non])) : erGot es Q c [("code", .str c)] := ⟨.non, (c, none), h, rfl, rfl, q⟩
theorem runs_cons {es : List (Str × Option Str)} {bs : List (ER → DExp)} {i : Nat} {is : List Nat} {ρ : Env} {P : List Dt → Prop} (h0 : ρ.all (fun c => !own c) = true) (h : (bs.getD i dBad) (erGot es (fun y => dRuns es bs is ρ fun ys => P (y :: ys))) ρ (fun d => dRuns es bs is ρ fun ys => P (.tup [.str "", d] :: ys))) : dRuns es bs (i :: is) ρ P := ⟨h0, h⟩
theorem runs_nil {es : List (Str × Option Str)} {bs : List (ER → DExp)} {ρ : Env} {P : List Dt → Prop} (h : P []) : dRuns es bs [] ρ P := h
theorem d_lamV {Lm : Lms} {i : Nat} {ρ : Env} {Q : Dt → Prop} (h : ∀ ψ, Lm i ψ → Q (.hob ψ)) : dLamV Lm i ρ Q := h
theorem plain_all {l : List Dt} (h : (l.all fun y => nopy y && (pyd y).isSome) = true) (y : Dt) (hy : y ∈ l) : plain y := by
  have z := List.all_eq_true.mp h y hy
  rw [Bool.and_eq_true] at z
  exact z
theorem plain_lst {l : List Dt} (h : ∀ y ∈ l, plain y) : plain (.lst l) := by
  refine ⟨rfl, ?_⟩
  have : (pyds l).isSome = true := by
    induction l with
    | nil => rfl
    | cons x r ih =>
      obtain ⟨d, hd⟩ := Option.isSome_iff_exists.mp (h x (List.mem_cons_self ..)).2
      obtain ⟨ds, hds⟩ := Option.isSome_iff_exists.mp (ih fun y hy => h y (List.mem_cons_of_mem _ hy))
      rw [pyds, hd, hds]; rfl
  rw [pyd, Option.isSome_map]; exact this
theorem plain_tup {l : List Dt} (h : ∀ y ∈ l, plain y) : plain (.tup l) := by
  have z := (plain_lst h).2
  rw [pyd, Option.isSome_map] at z
  exact ⟨rfl, by rw [pyd, Option.isSome_map]; exact z⟩
theorem rng0 (n : Nat) : rng 0 ((n : Int)).toNat = (List.range n).map fun i => Dt.int (i : Nat) := by rw [rng_map]; simp
end Dl

set_option Elab.async false
set_option linter.all false
set_option maxRecDepth 100000
set_option maxHeartbeats 1000000
/-! Names and lanes over data. -/
local macro_rules | `(tactic| walk_at "x1") => `(tactic| with_reducible (first | refine Dl.d_lstL0 ?_ | refine Dl.d_makeK ?_ | refine Dl.d_itemsA ?_ | refine Dl.d_jn ?_ | refine Dl.d_slS ?_ | refine Dl.d_lenS ?_ | refine Dl.d_getDk ?_ | refine Dl.d_inDk ?_ | refine Dl.d_dc ?_ | refine Dl.d_sortK ?_ | refine Dl.d_seq ?_ | refine Dl.d_asg ?_ | refine Dl.d_name ?_ | refine Dl.d_cons ?_ | refine Dl.d_nil ?_ | refine Dl.d_c ?_ | refine Dl.d_op ?_ | refine Dl.d_call ?_ | refine Dl.d_meth ?_ | refine Dl.d_ret ?_ | refine Dl.d_next ?_ | refine Dl.d_ifS ?_ | refine Dl.d_tst ?_ | refine Dl.d_cb ?_ | refine Dl.d_un ?_ | refine Dl.d_k ?_ | refine Dl.d_i ?_ | refine Dl.d_l ?_ | refine Dl.d_t ?_ | refine Dl.d_iteT ?_ | refine Dl.d_iteF ?_ | refine Dl.d_not ?_ | refine Dl.d_and ?_ | refine Dl.d_or ?_ | refine Dl.d_andV ?_ | refine Dl.d_orV ?_ | refine Dl.d_notV ?_ | refine Dl.d_if ?_ | refine Dl.d_chain ?_ | refine Dl.d_lst ?_ | refine Dl.d_tup ?_ | refine Dl.d_new ?_ (by first | (simp; done) | (simp; omega)) | refine Dl.d_for ?_ | refine Dl.d_items ?_ | refine Dl.d_itemsT ?_ | refine Dl.d_rng1 ?_ | refine Dl.d_enum ?_ | refine Dl.d_yes ?_ | refine Dl.d_addI ?_ | refine Dl.d_subI ?_ | refine Dl.d_ltI ?_ | refine Dl.d_leI ?_ | refine Dl.d_gtI ?_ | refine Dl.d_geI ?_ | refine Dl.d_negI ?_ | refine Dl.d_eqI ?_ | refine Dl.d_neI ?_ | refine Dl.d_eqB ?_ | refine Dl.d_neB ?_ | refine Dl.d_eqS ?_ | refine Dl.d_neS ?_ | refine Dl.d_isN0 ?_ | refine Dl.d_isN1 ?_ | refine Dl.d_isI0 ?_ | refine Dl.d_isI1 ?_ | refine Dl.d_isS0 ?_ | refine Dl.d_isS1 ?_ | refine Dl.d_isL0 ?_ | refine Dl.d_isL1 ?_ | refine Dl.d_isT0 ?_ | refine Dl.d_isT1 ?_ | refine Dl.d_isO0 ?_ | refine Dl.d_isO1 ?_ | refine Dl.d_isB0 ?_ | refine Dl.d_isB1 ?_ | refine Dl.d_isD0 ?_ | refine Dl.d_isD1 ?_ | refine Dl.d_isN ?_ | refine Dl.d_isnN ?_ | refine Dl.d_lenL ?_ | refine Dl.d_lenT ?_ | refine Dl.d_ix0 ?_ | refine Dl.d_ix1 ?_ | refine Dl.d_ix2 ?_ | refine Dl.d_ix3 ?_ | refine Dl.d_sl ?_ | refine Dl.d_slL ?_ | refine Dl.d_slT ?_ | refine Dl.d_intI ?_ | refine Dl.d_listL ?_ | refine Dl.d_listT ?_ | refine Dl.d_tupleL ?_ | refine Dl.d_tupleT ?_ | refine Dl.d_noPart ?_ | refine Dl.d_part ?_ | refine Dl.d_ofL ?_ | refine Dl.d_lcL ?_ | refine Dl.d_make ?_ | refine Dl.d_fld ?_ | refine Dl.d_drop ?_ | refine Dl.d_retN ?_ | refine Dl.d_par ?_ | refine Dl.d_frz ?_ | refine Dl.d_asgL ?_ | refine Dl.d_lstL ?_ | refine Dl.d_etup2 ?_ | refine Dl.d_callN ?_ | refine Dl.d_iteD ?_ | refine Dl.d_iteNF ?_ | refine Dl.d_iteNT ?_ | refine Dl.d_rng2 ?_ | refine Dl.d_star ?_ | refine Dl.d_ow ?_ | refine Dl.d_callX ?_ | refine Dl.d_callXL ?_ | refine Dl.d_callXN ?_ | refine Dl.d_makeX ?_ | refine Dl.d_methX ?_ | refine Dl.d_methXL ?_ | refine Dl.d_methXN ?_ | refine Dl.d_prop ?_ | refine Dl.d_retL ?_ | refine Dl.d_raise1 ?_ | refine Dl.d_rs ?_ | refine Dl.d_raise0 ?_ | refine Dl.d_putF ?_ | refine Dl.d_dropL ?_ | refine Dl.d_tmp ?_ | refine Dl.d_tmpT ?_ | refine Dl.d_revL ?_ | refine Dl.d_fmt ?_ | refine Dl.d_parVL ?_ | refine Dl.d_asgO ?_ | refine Dl.d_makeXO ?_ | refine Dl.d_onP ?_ | refine Dl.d_lsl ?_ | refine Dl.d_itm ?_ | refine Dl.d_itmT ?_ | refine Dl.d_notin ?_ | refine Dl.d_notk ?_))
local macro_rules | `(tactic| walk_at "oo") => `(tactic| (simp only [List.all_cons, List.all_nil, Bool.and_true, Bool.and_eq_true]; repeat' (first | rfl | assumption | apply And.intro)))
namespace Dl
open L2 PySem PySem.Spec PyProof.Rows RZ StX Cm
open PySem.W (AllAlike Sortable dataLe)
def isNm (s : Str) : Bool := decide (1 ≤ s.length ∧ s.length ≤ 8) && s.cps.toList.all fun c => decide (97 ≤ c ∧ c ≤ 122)
def isName (x : Dt) : Bool := match x with
  | .str s => isNm s
  | _ => false
abbrev Wt := Str × Int
@[reducible] def wD (p : Wt) : Dt := .tup [.str p.1, .int p.2]
def isWatch (x : Dt) : Bool := match x with
  | .tup [a, b] => isName a && isN b 0 1000000
  | _ => false
def okW (ws : List Wt) : Prop := (∀ p ∈ ws, isNm p.1 = true ∧ 0 ≤ p.2 ∧ p.2 ≤ 1000000) ∧ ws.Pairwise fun p q => p.1 ≠ q.1 ∧ p.2 ≠ q.2
def sortW (ws : List Wt) : List Wt := ws.mergeSort fun p q => decide (p.2 ≤ q.2)
def plcD (ws : List Wt) : List (Str × Dt) := ws.map fun p => (p.1, .int p.2)
@[reducible] def laneF (ws : List Wt) (g : Str) : List (Str × Dt) := [("own_watches", .lst (ws.map wD)), ("places", .dct (plcD ws)), ("own_guard", .str g)]
@[reducible] def laneX (ws : List Wt) (g : Str) : Dt := .obj "Lane" (laneF ws g)
/-- told in full, no long text; and its items too -/
def plainS (x : Dt) : Prop := plain x ∧ ∀ s, x = .str s → s.length ≤ 1000
def plainW (x : Dt) : Prop := plain x ∧ ∀ l, items x = some l → ∀ y ∈ l, plainS y
def dsp_is_name : DFn := fun ds Q => ∃ x, ds = [x] ∧ plainS x ∧ Q (.bl (isName x))
def dsp_is_watch : DFn := fun ds Q => ∃ x, ds = [x] ∧ plainW x ∧ Q (.bl (isWatch x))
def dsp_Lane_init : DFi := fun c ds0 ds Qf er => c = "Lane" ∧ ds0 = [] ∧ ∃ (W g : Dt) (l : List Dt), ds = [W, g] ∧ items W = some l ∧ l.length ≤ 1000 ∧ (∀ x ∈ l, plainW x) ∧ plain g ∧
  ((¬ (1 ≤ l.length ∧ l.length ≤ 5) ∧ er "InvalidCount" (xe "InvalidCount" "given" (.int l.length))) ∨
  (1 ≤ l.length ∧ l.length ≤ 5 ∧ ∃ (ws : List Wt) (x : Dt) (r : List Dt), l = ws.map wD ++ x :: r ∧ okW ws ∧ (isWatch x = false ∨ ∃ p : Wt, x = wD p ∧ ∃ q ∈ ws, q.1 = p.1 ∨ q.2 = p.2) ∧ er "InvalidWatch" (xe "InvalidWatch" "at" (.int ws.length))) ∨
  (1 ≤ l.length ∧ l.length ≤ 5 ∧ ∃ ws : List Wt, l = ws.map wD ∧ okW ws ∧ (∀ s, g = .str s → ∀ p ∈ ws, p.1 ≠ s) ∧ er "UnknownName" (xe "UnknownName" "name" g)) ∨
  (1 ≤ l.length ∧ l.length ≤ 5 ∧ ∃ (ws : List Wt) (s : Str), l = ws.map wD ∧ okW ws ∧ g = .str s ∧ (∃ p ∈ ws, p.1 = s) ∧ Qf (laneF (sortW ws) s)))
def dsp_Lane_len : DFx := fun ds F => ∃ (ws : List Wt) (g : Str), ds = [laneX ws g] ∧ F.rt (.int (ws.length : Nat))
def d_is_name : DStm := (dSeq (dIfS (dOr (dNot (dTst (dCB dIsi (dCons (dVar 0) (dCons (dC (.ty "str")) dNil))))) (dNot (dTst (dChain dLe dLe (dC (.int 1)) (dCB dLen (dCons (dVar 0) dNil)) (dC (.int 8)))))) (dRet (dC (.bl false))) dNext) (dRet (dCB dAllC (dCons (dOfL (dLcL (dSigns (dVar 0)) (eName 1) dYes (dOp dIn2 (dVar 1) (dC (.str "abcdefghijklmnopqrstuvwxyz"))) [1])) dNil))))
def d_is_watch : DStm := (dSeq (dIfS (dOr (dNot (dTst (dCB dIsi (dCons (dVar 0) (dCons (dC (.ty "tuple")) dNil))))) (dTst (dOp (dEq true) (dCB dLen (dCons (dVar 0) dNil)) (dC (.int 2))))) (dRet (dC (.bl false))) dNext) (dRet (dAndV (dCall dsp_is_name (dCons (dOp dIx (dVar 0) (dC (.int 0))) dNil)) (dCall dsp_is_number (dCons (dOp dIx (dVar 0) (dC (.int 1))) (dCons (dC (.int 0)) (dCons (dC (.int 1000000)) dNil)))))))
def d_Lane_init (er : ER) : DStm := (dSeq (dIfS (dNot (dTst (dChain dLe dLe (dC (.int 1)) (dCB dLen (dCons (dVar 1) dNil)) (dC (.int 5))))) (dRaise1 er "InvalidCount" "given" "InvalidCount" (dCons (dCB dLen (dCons (dVar 1) dNil)) dNil)) dNext) (dSeq (dFor (dEnum (dCons (dVar 1) dNil)) (eTup 2 (esCons (eName 3) (esCons (eName 4) esNil))) (dSeq (dIfS (dNot (dTst (dCall dsp_is_watch (dCons (dVar 4) dNil)))) (dRaise1 er "InvalidWatch" "at" "InvalidWatch" (dCons (dVar 3) dNil)) dNext) (dIfS (dTst (dCB dAnyC (dCons (dOfL (dLcL (dItemsA (dSl dSlc (dVar 1) dNoPart (dPart (dVar 3)))) (eName 5) dYes (dOrV (dOp (dEq false) (dOp dIx (dVar 4) (dC (.int 0))) (dOp dIx (dVar 5) (dC (.int 0)))) (dOp (dEq false) (dOp dIx (dVar 4) (dC (.int 1))) (dOp dIx (dVar 5) (dC (.int 1))))) [5])) dNil))) (dRaise1 er "InvalidWatch" "at" "InvalidWatch" (dCons (dVar 3) dNil)) dNext))) (dSeq (dPutF 0 ["Lane"] "own_watches" (dOfL (dSortK (dOp dIx (dVar 0) (dC (.int 1))) (dCB dListC (dCons (dVar 1) dNil))))) (dSeq (dPutF 0 ["Lane"] "places" (dDc (dItems (dFldO 0 ["Lane"] "own_watches")) (eTup 2 (esCons (eName 6) (esCons (eName 7) esNil))) dYes (dVar 6) (dVar 7) [6, 7])) (dSeq (dIfS (dOr (dNot (dTst (dCB dIsi (dCons (dVar 2) (dCons (dC (.ty "str")) dNil))))) (dTst (dOp (dInDk true) (dVar 2) (dFldO 0 ["Lane"] "places")))) (dRaise1 er "UnknownName" "name" "UnknownName" (dCons (dVar 2) dNil)) dNext) (dPutF 0 ["Lane"] "own_guard" (dVar 2)))))))
def d_Lane_len (er : ER) : DStm := (dRet (dCB dLen (dCons (dFld ["Lane"] (dVar 0) "own_watches") dNil)))
abbrev d_Lane_turn (er : ER) : DStm := (dSeq (dIfS (dNot (dTst (dCall dsp_is_watch (dCons (dVar 4) dNil)))) (dRaise1 er "InvalidWatch" "at" "InvalidWatch" (dCons (dVar 3) dNil)) dNext) (dIfS (dTst (dCB dAnyC (dCons (dOfL (dLcL (dItemsA (dSl dSlc (dVar 1) dNoPart (dPart (dVar 3)))) (eName 5) dYes (dOrV (dOp (dEq false) (dOp dIx (dVar 4) (dC (.int 0))) (dOp dIx (dVar 5) (dC (.int 0)))) (dOp (dEq false) (dOp dIx (dVar 4) (dC (.int 1))) (dOp dIx (dVar 5) (dC (.int 1))))) [5])) dNil))) (dRaise1 er "InvalidWatch" "at" "InvalidWatch" (dCons (dVar 3) dNil)) dNext))
def isSt : Dt → Bool
  | .str _ => true
  | _ => false
theorem d_isSt {x : Dt} {Q : Dt → Prop} (h : plain x) (q : Q (.bl (isSt x))) : dIsi [x, .ty "str"] Q := by
  obtain ⟨h1, h2⟩ := h
  cases x <;> first | (cases h1; done) | (exfalso; simp [pyd] at h2; done) | exact ⟨_, rfl, by decide, q⟩
def isTp : Dt → Bool
  | .tup _ => true
  | _ => false
theorem d_isTp {x : Dt} {Q : Dt → Prop} (h : plain x) (q : Q (.bl (isTp x))) : dIsi [x, .ty "tuple"] Q := by
  obtain ⟨h1, h2⟩ := h
  cases x <;> first | (cases h1; done) | (exfalso; simp [pyd] at h2; done) | exact ⟨_, rfl, by decide, q⟩
theorem letters_mem (k : Nat) : decide (k ∈ (Str.ofString "abcdefghijklmnopqrstuvwxyz").cps.toList) = decide (97 ≤ k ∧ k ≤ 122) := by
  rw [show (Str.ofString "abcdefghijklmnopqrstuvwxyz").cps.toList = [97, 98, 99, 100, 101, 102, 103, 104, 105, 106, 107, 108, 109, 110, 111, 112, 113, 114, 115, 116, 117, 118, 119, 120, 121, 122] from by decide +kernel]
  simp only [List.mem_cons, List.not_mem_nil, or_false]
  exact decide_eq_decide.mpr ⟨fun h => by omega, fun h => by omega⟩
theorem p_is_name : ∀ ds Qd, dsp_is_name ds Qd → d_is_name ⟨fun _ => Qd .non, Qd, fun _ => False, fun _ => False, fun _ => False⟩ (startD 2 ds) := by
  rintro ds Qd ⟨x, rfl, ⟨hp, hs⟩, q⟩
  show dSeq _ _ _ [some (.v x), none]
  walk_at "xr"
  refine d_isSt hp ?_
  by_cases hx : ∃ s, x = .str s
  · obtain ⟨s, rfl⟩ := hx
    have h1 := hs s rfl
    show ∃ k, Dt.bl true = .bl k ∧ _
    walk_at "xr"
    refine ⟨by omega, ?_⟩
    walk_at "xr"
    have q : Qd (.bl (isNm s)) := q
    unfold isNm at q
    by_cases h2 : 1 ≤ s.length
    · rw [show decide ((1 : Int) ≤ (s.length : Nat)) = true from decide_eq_true (by omega)]
      walk_at "xr"
      by_cases h3 : s.length ≤ 8
      · rw [show decide (((s.length : Nat) : Int) ≤ 8) = true from decide_eq_true (by omega)]
        walk_at "xr"
        refine ⟨.str s, rfl, s, rfl, ?_⟩
        rw [show signs s = s.cps.toList.map fun c => Dt.str ⟨#[c]⟩ from rfl]
        refine lc_map s.cps.toList _ (fun c => Dt.bl (decide (97 ≤ c ∧ c ≤ 122))) ?_ (fun c _ N hN => ?_) ?_
        · have : s.cps.toList.length = s.length := by simp [Str.length]
          omega
        · walk_at "xr"
          refine ⟨c, rfl, ?_⟩
          rw [letters_mem]
          exact hN
        · refine ⟨s.cps.toList.map fun c => decide (97 ≤ c ∧ c ≤ 122), by rw [List.map_map]; rfl, ?_⟩
          rw [List.all_map]
          rw [show decide (1 ≤ s.length ∧ s.length ≤ 8) = true from decide_eq_true ⟨h2, h3⟩, Bool.true_and] at q
          exact q
      · rw [show decide (((s.length : Nat) : Int) ≤ 8) = false from decide_eq_false (by omega)]
        walk_at "xr"
        rw [show decide (1 ≤ s.length ∧ s.length ≤ 8) = false from decide_eq_false (fun z => h3 z.2)] at q
        exact q
    · rw [show decide ((1 : Int) ≤ (s.length : Nat)) = false from decide_eq_false (by omega)]
      walk_at "xr"
      rw [show decide (1 ≤ s.length ∧ s.length ≤ 8) = false from decide_eq_false (fun z => h2 z.1)] at q
      exact q
  · have e1 : isSt x = false := by cases x <;> first | rfl | exact absurd ⟨_, rfl⟩ hx
    have e2 : isName x = false := by cases x <;> first | rfl | exact absurd ⟨_, rfl⟩ hx
    rw [e1]
    rw [e2] at q
    walk_at "xr"
    exact q
theorem plainS_of {x : Dt} (h : plainW x) {l : List Dt} (e : items x = some l) {y : Dt} (hy : y ∈ l) : plainS y := h.2 l e y hy
theorem p_is_watch : ∀ ds Qd, dsp_is_watch ds Qd → d_is_watch ⟨fun _ => Qd .non, Qd, fun _ => False, fun _ => False, fun _ => False⟩ (startD 1 ds) := by
  rintro ds Qd ⟨x, rfl, hp, q⟩
  show dSeq _ _ _ [some (.v x)]
  walk_at "xr"
  refine d_isTp hp.1 ?_
  by_cases hx : ∃ l, x = .tup l
  · obtain ⟨l, rfl⟩ := hx
    show ∃ k, Dt.bl true = .bl k ∧ _
    walk_at "xr"
    by_cases hl : l.length = 2
    · rw [show decide (((l.length : Nat) : Int) = 2) = true from decide_eq_true (by omega)]
      match l, hl with
      | [a, b], _ =>
        walk_at "xr"
        refine ⟨a, rfl, plainS_of hp rfl (by simp), ?_⟩
        have q : Qd (.bl (isName a && isN b 0 1000000)) := q
        refine ⟨_, rfl, d_andC (c := isN b 0 1000000) (fun P hP => ?_) q⟩
        walk_at "xr"
        exact d_num (plainS_of hp rfl (by simp)).1 hP
    · rw [show decide (((l.length : Nat) : Int) = 2) = false from decide_eq_false (by omega)]
      walk_at "xr"
      have e2 : isWatch (.tup l) = false := by
        match l, hl with
        | [], _ => rfl
        | [_], _ => rfl
        | [_, _], hl => exact absurd rfl hl
        | _ :: _ :: _ :: _, _ => rfl
      rw [e2] at q
      exact q
  · have e1 : isTp x = false := by cases x <;> first | rfl | exact absurd ⟨_, rfl⟩ hx
    have e2 : isWatch x = false := by cases x <;> first | rfl | exact absurd ⟨_, rfl⟩ hx
    rw [e1]
    rw [e2] at q
    walk_at "xr"
    exact q
theorem p_Lane_len : ∀ ds F, dsp_Lane_len ds F → d_Lane_len F.er (endsX F) (startD 1 ds) := by
  rintro ds F ⟨ws, g, rfl, q⟩
  show dRet _ _ [some (.v (laneX ws g))]
  walk_at "xr"
  refine ⟨_, _, _, rfl, by simp, rfl, ?_⟩
  walk_at "xr"
  rw [List.length_map]
  exact q
theorem cut_take (l : List Dt) (k : Nat) : cutD l none (some (k : Int)) = l.take k := by
  unfold cutD
  rw [HT.sIx_none, HT.sIx_nat, List.drop_zero, Nat.sub_zero]
  rcases Nat.le_total k l.length with h | h
  · rw [Nat.min_eq_left h]
  · rw [Nat.min_eq_right h, List.take_of_length_le (Nat.le_refl _), List.take_of_length_le h]
theorem cut_drop (l : List Dt) (k : Nat) : cutD l (some (k : Int)) none = l.drop k := by
  unfold cutD
  rw [HT.sIx_none, HT.sIx_nat]
  rcases Nat.le_total k l.length with h | h
  · rw [Nat.min_eq_left h, List.take_of_length_le (by rw [List.length_drop]; omega)]
  · rw [Nat.min_eq_right h, List.drop_length, List.drop_of_length_le h, List.take_nil]
theorem enumD_get {l : List Dt} {k : Nat} {x : Dt} (h : (enumD l)[k]? = some x) : ∃ y, l[k]? = some y ∧ x = .tup [.int (k : Nat), y] := by
  unfold enumD at h
  rw [List.getElem?_mapIdx] at h
  cases e : l[k]? with
  | none => rw [e] at h; cases h
  | some y => rw [e] at h; cases h; exact ⟨y, rfl, rfl⟩
theorem enumD_len (l : List Dt) : (enumD l).length = l.length := by unfold enumD; rw [List.length_mapIdx]
theorem isWatch_w {p : Wt} (h : isNm p.1 = true ∧ 0 ≤ p.2 ∧ p.2 ≤ 1000000) : isWatch (wD p) = true := by
  show (isNm p.1 && (decide (0 ≤ p.2) && decide (p.2 ≤ 1000000))) = true
  rw [h.1, decide_eq_true h.2.1, decide_eq_true h.2.2]; rfl
def hits (p q : Wt) : Bool := decide (p.1 = q.1) || decide (p.2 = q.2)
theorem lane_loop {er : ER} {D : DEnds} {o : Option Cell} {W g : Dt} {l : List Dt} {ws : List Wt} {rest : List Dt} (hW : items W = some l) (hl : l = ws.map wD ++ rest) (hn : l.length ≤ 1000) (ok : okW ws) (hx : ∀ x ∈ l, plainW x)
    (hc : (rest = [] ∧ ∀ x3 x4, D.nx [o, some (.v W), some (.v g), x3, x4, none, none, none]) ∨ ∃ x r, rest = x :: r ∧ (isWatch x = false ∨ ∃ p : Wt, x = wD p ∧ ∃ q ∈ ws, q.1 = p.1 ∨ q.2 = p.2) ∧ er "InvalidWatch" (xe "InvalidWatch" "at" (.int ws.length))) :
    dLoop (eTup 2 (esCons (eName 3) (esCons (eName 4) esNil))) (d_Lane_turn er) D (enumD l) [o, some (.v W), some (.v g), none, none, none, none, none] := by
  refine loop_at (fun k ρ => k ≤ ws.length ∧ ∃ x3 x4, ρ = [o, some (.v W), some (.v g), x3, x4, none, none, none]) ⟨Nat.zero_le _, _, _, rfl⟩ ?_ ?_
  · rintro ρ ⟨hk, x3, x4, rfl⟩
    rw [enumD_len] at hk
    rcases hc with ⟨_, h⟩ | ⟨x, r, rfl, _⟩
    · exact h x3 x4
    · rw [hl, List.length_append, List.length_map, List.length_cons] at hk; omega
  · rintro k x ρ hkx ⟨hk, x3, x4, rfl⟩ C hC
    obtain ⟨y, hy, rfl⟩ := enumD_get hkx
    have hyl : y ∈ l := List.mem_of_getElem? hy
    walk_at "xr"
    refine ⟨y, rfl, hx y hyl, ?_⟩
    walk_at "xr"
    -- a watch against those before it
    have any : ∀ (p : Wt) (R : Dt → Prop), y = wD p → k ≤ ws.length → R (.bl ((ws.take k).any (hits p))) →
        dSlc W none (some (k : Int)) fun x => ∃ l, items x = some l ∧ LcOn (eName 5) dYes (dOrV (dOp (dEq false) (dOp dIx (dVar 4) (dC (.int 0))) (dOp dIx (dVar 5) (dC (.int 0)))) (dOp (dEq false) (dOp dIx (dVar 4) (dC (.int 1))) (dOp dIx (dVar 5) (dC (.int 1)))))
          [o, some (.v W), some (.v g), some (.v (.int (k : Nat))), some (.v y), none, none, none] [5] (fun ds => dNil [o, some (.v W), some (.v g), some (.v (.int (k : Nat))), some (.v y), none, none, none] fun xs => dAnyC (.lst ds :: xs) R) l := by
      intro p R hp hk2 hR
      subst hp
      refine d_slW hW fun W' hW' => ⟨_, hW', ?_⟩
      rw [cut_take, hl, List.take_append_of_le_length (by rw [List.length_map]; exact hk2), ← List.map_take]
      refine lc_map (ws.take k) wD (fun q => Dt.bl (hits p q)) ?_ (fun q _ N hN => ?_) ?_
      · rw [List.length_take]; rw [hl, List.length_append, List.length_map] at hn; omega
      · walk_at "xr"
        unfold hits at hN
        cases h1 : decide (p.1 = q.1) with
        | true => rw [h1] at hN; walk_at "xr"; exact hN
        | false => rw [h1] at hN; walk_at "xr"; exact hN
      · show dAnyC [.lst _] R
        refine ⟨(ws.take k).map (hits p), by rw [List.map_map]; rfl, ?_⟩
        rw [List.any_map]
        exact hR
    rcases Nat.lt_or_ge k ws.length with hlt | hge
    · have ey : y = wD ws[k] := by
        rw [hl, List.getElem?_append_left (by rw [List.length_map]; exact hlt), List.getElem?_map, List.getElem?_eq_getElem hlt] at hy
        exact (Option.some.inj hy).symm
      have hm : ws[k] ∈ ws := List.getElem_mem hlt
      rw [show isWatch y = true by rw [ey]; exact isWatch_w (ok.1 _ hm)]
      walk_at "xr"
      refine any ws[k] _ ey hk ?_
      have hno : (ws.take k).any (hits ws[k]) = false := by
        rw [List.any_eq_false]
        intro q hq
        obtain ⟨j, hj, rfl⟩ := List.mem_take_iff_getElem.mp hq
        have := (List.pairwise_iff_getElem.mp ok.2) j k (by omega) hlt (by omega)
        unfold hits
        rw [decide_eq_false (fun z => this.1 z.symm), decide_eq_false (fun z => this.2 z.symm)]
        simp
      rw [hno]
      refine ⟨_, rfl, ?_⟩
      walk_at "xr"
      exact hC _ ⟨by omega, _, _, rfl⟩
    · have ek : k = ws.length := by omega
      rcases hc with ⟨rfl, _⟩ | ⟨x, r, rfl, hb, he⟩
      · rw [hl, List.append_nil, List.getElem?_eq_none (by rw [List.length_map]; exact hge)] at hy; cases hy
      · have ey : y = x := by
          rw [hl, List.getElem?_append_right (by rw [List.length_map]; omega), List.length_map, ek, Nat.sub_self] at hy
          exact (Option.some.inj hy).symm
        subst ey
        subst ek
        cases hw : isWatch y with
        | false =>
          walk_at "xr"
          exact he
        | true =>
          rcases hb with hb | ⟨p, hp, q, hq, hpq⟩
          · rw [hb] at hw; cases hw
          · walk_at "xr"
            refine any p _ hp (Nat.le_refl _) ?_
            have hyes : (ws.take ws.length).any (hits p) = true := by
              rw [List.take_length, List.any_eq_true]
              refine ⟨q, hq, ?_⟩
              unfold hits
              rcases hpq with h | h
              · rw [decide_eq_true h.symm]; rfl
              · rw [decide_eq_true h.symm]; simp
            rw [hyes]
            refine ⟨_, rfl, ?_⟩
            walk_at "xr"
            exact he
def keyW : Dt → PyData
  | .tup [_, .int k] => .int k
  | _ => .int 0
theorem sort_w (ws : List Wt) : (ws.map wD).mergeSort (dataLe false keyW) = (sortW ws).map wD := by
  unfold sortW
  rw [List.map_mergeSort (s := dataLe false keyW) (fun a _ b _ => ?_)]
  exact (congrFun (congrFun (PySem.W.dataLe_int fun p : Wt => p.2) a) b).symm
theorem key_w {ws : List Wt} {d : PyData} (h : d ∈ (ws.map wD).map keyW) : ∃ k, d = .int k := by
  rw [List.map_map] at h
  obtain ⟨p, _, rfl⟩ := List.mem_map.mp h
  exact ⟨p.2, rfl⟩
theorem alike_w (ws : List Wt) : AllAlike ((ws.map wD).map keyW) := fun d h d' h' => by
  obtain ⟨k, rfl⟩ := key_w h
  obtain ⟨k', rfl⟩ := key_w h'
  simp [PySem.W.alike]
theorem sortable_w (ws : List Wt) : Sortable ((ws.map wD).map keyW) := .inr fun d h => by
  obtain ⟨k, rfl⟩ := key_w h
  exact ⟨fun z => (by cases z), fun xs z => (by cases z)⟩
theorem putS_new {kvs : List (Str × Dt)} {k : Str} {v : Dt} (h : ∀ p ∈ kvs, p.1 ≠ k) : putS kvs k v = kvs ++ [(k, v)] := by
  unfold putS
  rw [if_neg]
  intro z
  obtain ⟨p, hp, e⟩ := List.any_eq_true.mp z
  exact h p hp (of_decide_eq_true e)
theorem dd_plc {c0 c1 c2 x3 x4 : Option Cell} {Q : List (Str × Dt) → Prop} : ∀ (m : List Wt) (acc : List (Str × Dt)), (m.map (·.1)).Nodup → (∀ p ∈ m, ∀ q ∈ acc, q.1 ≠ p.1) → Q (acc ++ plcD m) →
    dDMap (eTup 2 (esCons (eName 6) (esCons (eName 7) esNil))) dYes (dVar 6) (dVar 7) [c0, c1, c2, x3, x4, none, none, none] (m.map wD) acc Q
  | [], acc, _, _, q => by
    show Q acc
    simpa [plcD] using q
  | p :: m, acc, hn, hd, q => by
    show eTup 2 (esCons (eName 6) (esCons (eName 7) esNil)) (wD p) [c0, c1, c2, x3, x4, none, none, none] fun ρ1 => dYes ρ1 fun b => if b = true then dVar 6 ρ1 fun y => ∃ s, y = .str s ∧ dVar 7 ρ1 fun z => dDMap _ dYes (dVar 6) (dVar 7) [c0, c1, c2, x3, x4, none, none, none] (m.map wD) (putS acc s z) Q else _
    walk_at "xr"
    refine ⟨p.1, rfl, ?_⟩
    walk_at "xr"
    rw [putS_new (hd p (List.mem_cons_self))]
    have hn2 := List.nodup_cons.mp hn
    refine dd_plc m _ hn2.2 (fun r hr q hq => ?_) ?_
    · rcases List.mem_append.mp hq with hq | hq
      · exact hd r (List.mem_cons_of_mem _ hr) q hq
      · rw [List.mem_singleton.mp hq]
        intro z
        have z : p.1 = r.1 := z
        have h3 : p.1 ∈ m.map (·.1) := by rw [z]; exact List.mem_map_of_mem hr
        exact hn2.1 h3
    · simpa [plcD] using q
theorem putD_len (f : Str) (y : Dt) : ∀ l : List (Str × Dt), (putD f y l).length ≤ l.length + 1
  | [] => Nat.le_refl _
  | (g, z) :: r => by
    unfold putD
    split
    · simp
    · have := putD_len f y r
      simp only [List.length_cons]
      omega
theorem sortW_perm (ws : List Wt) : (sortW ws).Perm ws := List.mergeSort_perm ..
theorem okW_nodup {ws : List Wt} (h : okW ws) : (ws.map (·.1)).Nodup := by
  rw [List.Nodup, List.pairwise_map]
  exact h.2.imp fun z => z.1
theorem plc_look {ws : List Wt} {s : Str} : ((plcD ws).lookup s).isSome = true ↔ ∃ p ∈ ws, p.1 = s := by
  induction ws with
  | nil => simp [plcD]
  | cons p ws ih =>
    show (List.lookup s ((p.1, Dt.int p.2) :: plcD ws)).isSome = true ↔ _
    rw [List.lookup_cons]
    by_cases h : s = p.1
    · subst h
      simp
    · rw [show (s == p.1) = false by simpa using h]
      rw [ih]
      simp only [List.mem_cons, exists_eq_or_imp]
      exact ⟨Or.inr, fun z => z.resolve_left fun e => h e.symm⟩
theorem p_Lane_init : ∀ c ds0 ds Qf er, dsp_Lane_init c ds0 ds Qf er → d_Lane_init er (endsI c Qf) (some (.o c ds0) :: startD (8 - 1) ds) := by
  rintro c ds0 ds Qf er ⟨rfl, rfl, W, g, l, rfl, hW, hn, hx, hg, hc⟩
  show dSeq _ _ _ [some (.o "Lane" []), some (.v W), some (.v g), none, none, none, none, none]
  walk_at "xr"
  refine d_lenW hW ?_
  walk_at "xr"
  rcases hc with ⟨h1, he⟩ | hc
  · rcases Nat.lt_or_ge l.length 1 with h2 | h2
    · rw [decide_eq_false (by omega)]
      walk_at "xr"
      refine d_lenW hW ?_
      walk_at "xr"
      exact he
    · rw [decide_eq_true (by omega)]
      walk_at "xr"
      rw [decide_eq_false (by omega)]
      walk_at "xr"
      refine d_lenW hW ?_
      walk_at "xr"
      exact he
  have h12 : 1 ≤ l.length ∧ l.length ≤ 5 := by
    rcases hc with ⟨a, b, _⟩ | ⟨a, b, _⟩ | ⟨a, b, _⟩ <;> exact ⟨a, b⟩
  rw [decide_eq_true (by omega)]
  walk_at "xr"
  rw [decide_eq_true (by omega)]
  walk_at "xr"
  refine d_onE hW ?_
  have done : ∀ (ws : List Wt) (x3 x4 : Option Cell), l = ws.map wD → okW ws → ((∀ s, g = .str s → ∀ p ∈ ws, p.1 ≠ s) ∧ er "UnknownName" (xe "UnknownName" "name" g) ∨ ∃ s, g = .str s ∧ (∃ p ∈ ws, p.1 = s) ∧ Qf (laneF (sortW ws) s)) →
      dSeq (dPutF 0 ["Lane"] "own_watches" (dOfL (dSortK (dOp dIx (dVar 0) (dC (.int 1))) (dCB dListC (dCons (dVar 1) dNil))))) (dSeq (dPutF 0 ["Lane"] "places" (dDc (dItems (dFldO 0 ["Lane"] "own_watches")) (eTup 2 (esCons (eName 6) (esCons (eName 7) esNil))) dYes (dVar 6) (dVar 7) [6, 7])) (dSeq (dIfS (dOr (dNot (dTst (dCB dIsi (dCons (dVar 2) (dCons (dC (.ty "str")) dNil))))) (dTst (dOp (dInDk true) (dVar 2) (dFldO 0 ["Lane"] "places")))) (dRaise1 er "UnknownName" "name" "UnknownName" (dCons (dVar 2) dNil)) dNext) (dPutF 0 ["Lane"] "own_guard" (dVar 2))))
        (endsI "Lane" Qf) [some (.o "Lane" []), some (.v W), some (.v g), x3, x4, none, none, none] := by
    intro ws x3 x4 hl ok hc
    walk_at "xr"
    refine d_listW hW ?_
    refine ⟨l, keyW, rfl, by rw [hl]; exact alike_w ws, by rw [hl]; exact sortable_w ws, fun d hd => ?_, ?_⟩
    · rw [hl] at hd
      obtain ⟨p, _, rfl⟩ := List.mem_map.mp hd
      refine ⟨by simp [keyW, PyData.depth], ?_⟩
      walk_at "xr"
      exact Or.inl ⟨_, rfl, rfl⟩
    · rw [hl, sort_w]
      refine ⟨_, _, rfl, by simp, by decide, ?_⟩
      walk_at "xr"
      refine ⟨_, _, _, rfl, by simp, rfl, ?_⟩
      walk_at "xr"
      have hp := sortW_perm ws
      refine ⟨by rw [List.length_map, hp.length_eq]; rw [hl, List.length_map] at hn; omega, ?_⟩
      refine dd_plc (sortW ws) [] ((hp.map (·.1)).nodup_iff.mpr (okW_nodup ok)) (fun _ _ q hq => (by cases hq)) ?_
      refine ⟨_, _, rfl, by simp, Nat.lt_of_le_of_lt (putD_len _ _ _) (by decide), ?_⟩
      walk_at "xr"
      refine d_isSt hg ?_
      walk_at "xr"
      by_cases hs : ∃ s, g = .str s
      · obtain ⟨s, rfl⟩ := hs
        show (if (!true) = true then _ else _)
        walk_at "xr"
        refine ⟨_, _, _, rfl, by simp, rfl, ?_⟩
        walk_at "xr"
        rcases hc with ⟨hno, he⟩ | ⟨s', e, hyes, q⟩
        · have h0 : ((plcD (sortW ws)).lookup s).isSome = false := by
            rw [Bool.eq_false_iff]
            intro z
            obtain ⟨p, hp1, hp2⟩ := plc_look.mp z
            exact hno s rfl p (hp.mem_iff.mp hp1) hp2
          rw [List.nil_append, h0, show (true != false) = true from rfl]
          walk_at "xr"
          exact he
        · cases e
          have h0 : ((plcD (sortW ws)).lookup s).isSome = true := by
            obtain ⟨p, hp1, hp2⟩ := hyes
            exact plc_look.mpr ⟨p, hp.mem_iff.mpr hp1, hp2⟩
          rw [List.nil_append, h0, show (true != true) = false from rfl]
          walk_at "xr"
          refine ⟨_, _, rfl, by simp, Nat.lt_of_le_of_lt (putD_len _ _ _) (Nat.lt_of_le_of_lt (Nat.succ_le_succ (putD_len _ _ _)) (by decide)), ?_⟩
          exact ⟨_, rfl, q⟩
      · have e1 : isSt g = false := by cases g <;> first | rfl | exact absurd ⟨_, rfl⟩ hs
        rw [e1]
        walk_at "xr"
        rcases hc with ⟨_, he⟩ | ⟨s', e, _⟩
        · exact he
        · exact absurd ⟨s', e⟩ hs
  rcases hc with ⟨_, _, ws, x, r, hl, ok, hb, he⟩ | ⟨_, _, ws, hl, ok, hno, he⟩ | ⟨_, _, ws, s, hl, ok, hs, hp, q⟩
  · exact lane_loop hW hl hn ok hx (Or.inr ⟨x, r, rfl, hb, he⟩)
  · exact lane_loop (ws := ws) (rest := []) hW (by rw [List.append_nil]; exact hl) hn ok hx (Or.inl ⟨rfl, fun x3 x4 => done ws x3 x4 hl ok (Or.inl ⟨hno, he⟩)⟩)
  · exact lane_loop (ws := ws) (rest := []) hW (by rw [List.append_nil]; exact hl) hn ok hx (Or.inl ⟨rfl, fun x3 x4 => done ws x3 x4 hl ok (Or.inr ⟨s, hs, hp, q⟩)⟩)
/-! ### things made -/
theorem isNm_len {s : Str} (h : isNm s = true) : 1 ≤ s.length ∧ s.length ≤ 8 := by
  unfold isNm at h
  rw [Bool.and_eq_true] at h
  exact of_decide_eq_true h.1
theorem plainS_str {s : Str} (h : s.length ≤ 1000) : plainS (.str s) := ⟨plain_str, fun t e => by cases e; exact h⟩
theorem plainS_int {i : Int} : plainS (.int i) := ⟨plain_int, fun t e => by cases e⟩
theorem plainW_w {p : Wt} (h : isNm p.1 = true) : plainW (wD p) := by
  refine ⟨⟨rfl, rfl⟩, fun l hl y hy => ?_⟩
  cases hl
  simp only [List.mem_cons, List.not_mem_nil, or_false] at hy
  rcases hy with rfl | rfl
  · exact plainS_str (by have := isNm_len h; omega)
  · exact plainS_int
theorem okW_plain {ws : List Wt} (ok : okW ws) : ∀ x ∈ ws.map wD, plainW x := fun x hx => by
  obtain ⟨p, hp, rfl⟩ := List.mem_map.mp hx
  exact plainW_w (ok.1 p hp).1
theorem okW_sub {ws vs : List Wt} (ok : okW ws) (h : vs.Sublist ws) : okW vs := ⟨fun p hp => ok.1 p (h.subset hp), ok.2.sublist h⟩
theorem okW_of {ws : List Wt} (h1 : ∀ p ∈ ws, isNm p.1 = true ∧ 0 ≤ p.2 ∧ p.2 ≤ 7000) (h2 : (ws.map (·.1)).Nodup) (h3 : ws.Pairwise fun p q => p.2 < q.2) : okW ws := by
  refine ⟨fun p hp => ⟨(h1 p hp).1, (h1 p hp).2.1, by have := (h1 p hp).2.2; omega⟩, ?_⟩
  rw [List.Nodup, List.pairwise_map] at h2
  exact h2.and h3 |>.imp fun z => ⟨z.1, by have := z.2; omega⟩
theorem sortW_of {ws : List Wt} (h : ws.Pairwise fun p q => p.2 < q.2) : sortW ws = ws := List.mergeSort_of_pairwise (h.imp fun z => decide_eq_true (by omega))
section
variable {W g x : Dt} {r l : List Dt} {ws : List Wt} {F : Fin}
theorem mk_lane_count (hW : items W = some l) (hl : l.length ≤ 1000) (h5 : ¬ (1 ≤ l.length ∧ l.length ≤ 5)) (hx : ∀ x ∈ l, plainW x) (hg : plain g) (q : F.er "InvalidCount" (xe "InvalidCount" "given" (.int l.length))) : dspMk "Lane" dsp_Lane_init [W, g] F :=
  ⟨rfl, rfl, W, g, l, rfl, hW, hl, hx, hg, Or.inl ⟨h5, q⟩⟩
theorem mk_lane_bad (hW : items W = some l) (hl : l = ws.map wD ++ x :: r) (h5 : l.length ≤ 5) (ok : okW ws) (hx : ∀ y ∈ x :: r, plainW y) (hg : plain g) (hb : isWatch x = false ∨ ∃ p : Wt, x = wD p ∧ ∃ q ∈ ws, q.1 = p.1 ∨ q.2 = p.2)
    (q : F.er "InvalidWatch" (xe "InvalidWatch" "at" (.int ws.length))) : dspMk "Lane" dsp_Lane_init [W, g] F :=
  ⟨rfl, rfl, W, g, l, rfl, hW, by omega, fun y hy => (by
    rw [hl] at hy
    rcases List.mem_append.mp hy with h | h
    · exact okW_plain ok y h
    · exact hx y h), hg, Or.inr (Or.inl ⟨by rw [hl]; simp; omega, h5, ws, x, r, hl, ok, hb, q⟩)⟩
theorem mk_lane_unk (hW : items W = some (ws.map wD)) (h1 : 1 ≤ ws.length) (h5 : ws.length ≤ 5) (ok : okW ws) (hg : plain g) (hn : ∀ s, g = .str s → ∀ p ∈ ws, p.1 ≠ s) (q : F.er "UnknownName" (xe "UnknownName" "name" g)) : dspMk "Lane" dsp_Lane_init [W, g] F :=
  ⟨rfl, rfl, W, g, _, rfl, hW, by rw [List.length_map]; omega, okW_plain ok, hg, Or.inr (Or.inr (Or.inl ⟨by rw [List.length_map]; exact h1, by rw [List.length_map]; exact h5, ws, rfl, ok, hn, q⟩))⟩
theorem mk_lane_ok {s : Str} (hW : items W = some (ws.map wD)) (h1 : 1 ≤ ws.length) (h5 : ws.length ≤ 5) (ok : okW ws) (hs : ∃ p ∈ ws, p.1 = s) (q : F.rt (laneX (sortW ws) s)) : dspMk "Lane" dsp_Lane_init [W, .str s] F :=
  ⟨rfl, rfl, W, .str s, _, rfl, hW, by rw [List.length_map]; omega, okW_plain ok, plain_str, Or.inr (Or.inr (Or.inr ⟨by rw [List.length_map]; exact h1, by rw [List.length_map]; exact h5, ws, s, rfl, ok, rfl, hs, q⟩))⟩
end
theorem d_laneLen {ws : List Wt} {g : Str} {Q : Dt → Prop} (h : ws.length ≤ 1000) (q : Q (.int (ws.length : Nat))) : dOwn1 "Lane" dsp_Lane_len dNat [laneX ws g] Q := ⟨_, rfl, ws, g, rfl, ws.length, rfl, by omega, q⟩
end Dl

set_option Elab.async false
set_option linter.all false
set_option maxRecDepth 100000
set_option maxHeartbeats 1000000
/-! Words and lanes drawn. -/
namespace Dl
open L2 PySem PySem.Spec PyProof.Rows RZ StX Cm
def oddL : List Dt := [.non, .bl true, .bl false, .str "", .str "A", .int (-1), .tup [.int 1, .str "a"], .lst [.int 1], .tup [], .int (10 ^ 17)]
def dsp_law_odd : DFn := fun ds Q => ∃ l : List Dt, ds = [.bag, .lst l] ∧ l.length ≤ 100 ∧ ∀ x ∈ oddL ++ l, Q x
/-- n different names -/
def dsp_law_words : DFn := fun ds Q => ∃ n : Nat, ds = [.bag, .int n] ∧ n ≤ 20 ∧ ∀ ss : List Str, ss.length = n → ss.Nodup → (∀ s ∈ ss, isNm s = true) → Q (.lst (ss.map Dt.str))
/-- a lane drawn: its watches in order, the guard -/
def dsp_law_lane : DFn := fun ds Q => ∃ (n : Nat) (wide : Int), ds = [.bag, .int n, .int wide] ∧ 1 ≤ n ∧ n ≤ 5 ∧ 0 < wide ∧ wide ≤ 1000 ∧ ∀ (ws : List Wt) (g : Str), ws.length = n → (∀ p ∈ ws, isNm p.1 = true ∧ 0 ≤ p.2 ∧ p.2 ≤ 7000) → (ws.map (·.1)).Nodup → ws.Pairwise (fun p q => p.2 < q.2) → (∃ p ∈ ws, p.1 = g) → Q (.tup [.lst (ws.map wD), .str g])
def d_law_odd : DStm := (dRet (dCall dsp_law_pickL (dCons (dVar 0) (dCons (dOp dAdd (dLst (dCons (dC .non) (dCons (dC (.bl true)) (dCons (dC (.bl false)) (dCons (dC (.str "")) (dCons (dC (.str "A")) (dCons (dUn dNeg (dC (.int 1))) (dCons (dTup (dCons (dC (.int 1)) (dCons (dC (.str "a")) dNil))) (dCons (dLst (dCons (dC (.int 1)) dNil)) (dCons (dTup dNil) (dCons (dOp dPow (dC (.int 10)) (dC (.int 17))) dNil))))))))))) (dVar 1)) dNil))))
def d_law_words : DStm := (dSeq (dAsg (dC (.str "abcdefghijklmnopqrstuvwxyz")) (eName 2)) (dSeq (dAsg (dJn (dC (.str "")) (dOfL (dLcL (dRng1 (dCons (dCall dsp_law_pickA (dCons (dVar 0) (dCons (dLst (dCons (dC (.int 0)) (dCons (dC (.int 1)) (dCons (dC (.int 2)) (dCons (dC (.int 7)) dNil))))) dNil))) dNil)) (eName 4) dYes (dCall dsp_law_pickA (dCons (dVar 0) (dCons (dVar 2) dNil))) [4]))) (eName 3)) (dSeq (dAsg (dTup (dCons (dCall dsp_law_pull (dCons (dVar 0) (dCons (dOp dAdd (dCB dLen (dCons (dVar 3) dNil)) (dC (.int 1))) dNil))) (dCons (dCall dsp_law_pull (dCons (dVar 0) (dCons (dC (.int 26)) dNil))) dNil))) (eTup 2 (esCons (eName 5) (esCons (eName 6) esNil)))) (dRet (dOfL (dLcL (dRng1 (dCons (dVar 1) dNil)) (eName 4) dYes (dOp dAdd (dOp dAdd (dSl dSlc (dVar 3) dNoPart (dPart (dVar 5))) (dOp dIx (dVar 2) (dOp dMod (dCB dIntC (dCons (dOp dAdd (dVar 6) (dOp dMul (dC (.int 7)) (dVar 4))) dNil)) (dC (.int 26))))) (dSl dSlc (dVar 3) (dPart (dVar 5)) dNoPart)) [4]))))))
def d_law_lane : DStm := (dSeq (dParVL 3 4 (dCall dsp_law_words (dCons (dVar 0) (dCons (dVar 1) dNil))) (dLstL dNil)) (dSeq (dAsg (dCall dsp_law_pickL (dCons (dVar 0) (dCons (dLst (dCons (dC (.int 0)) (dCons (dC (.int 0)) (dCons (dC (.int 3)) (dCons (dCall dsp_law_pull (dCons (dVar 0) (dCons (dC (.int 1000)) dNil))) dNil))))) dNil))) (eName 5)) (dSeq (dFor (dItems (dVar 3)) (eName 6) (dSeq (dApp 4 (dTup (dCons (dVar 6) (dCons (dVar 5) dNil)))) (dAsg (dOp dAdd (dOp dAdd (dVar 5) (dC (.int 1))) (dCall dsp_law_pull (dCons (dVar 0) (dCons (dVar 2) dNil)))) (eName 5)))) (dFrz 4 (dRet (dTup (dCons (dVar 4) (dCons (dCall dsp_law_pickL (dCons (dVar 0) (dCons (dVar 3) dNil))) dNil))))))))
theorem p_law_odd : ∀ ds Qd, dsp_law_odd ds Qd → d_law_odd ⟨fun _ => Qd .non, Qd, fun _ => False, fun _ => False, fun _ => False⟩ (startD 2 ds) := by
  rintro ds Qd ⟨l, rfl, hl, q⟩
  show dRet _ _ [some (.v .bag), some (.v (.lst l))]
  walk_at "xr"
  refine ⟨⟨by decide, by decide, by decide⟩, ?_⟩
  walk_at "xr"
  refine d_cat (by simp; omega) ?_
  refine ⟨_, rfl, by simp, by simp; omega, fun x hx => q x ?_⟩
  exact hx
/-! ### words -/
abbrev lettersS : Str := "abcdefghijklmnopqrstuvwxyz"
theorem letters_cps : lettersS.cps.toList = [97, 98, 99, 100, 101, 102, 103, 104, 105, 106, 107, 108, 109, 110, 111, 112, 113, 114, 115, 116, 117, 118, 119, 120, 121, 122] := by decide +kernel
theorem letters_at {i : Int} (h0 : 0 ≤ i) (h1 : i < 26) : atI lettersS.cps.toList i = some (97 + i.toNat) := by
  obtain ⟨n, rfl⟩ := Int.eq_ofNat_of_zero_le h0
  have hn : n < 26 := by omega
  rw [letters_cps]
  refine atI_nat ?_
  have : ∀ n, n < 26 → ([97, 98, 99, 100, 101, 102, 103, 104, 105, 106, 107, 108, 109, 110, 111, 112, 113, 114, 115, 116, 117, 118, 119, 120, 121, 122] : List Nat)[n]? = some (97 + n) := by decide
  rw [this n hn]; rfl
theorem chars_of : ∀ {l ys : List Dt}, All2 (fun _ y => ∃ c : Nat, 97 ≤ c ∧ c ≤ 122 ∧ y = Dt.str ⟨#[c]⟩) l ys → ∃ cs : List Nat, cs.length = l.length ∧ (∀ c ∈ cs, 97 ≤ c ∧ c ≤ 122) ∧ ys = (cs.map fun c => (SX.S [c])).map Dt.str
  | _, _, .nil => ⟨[], rfl, fun c h => (by cases h), rfl⟩
  | _, _, .cons h t => by
    obtain ⟨c, h1, h2, rfl⟩ := h
    obtain ⟨cs, e, hc, rfl⟩ := chars_of t
    refine ⟨c :: cs, by rw [List.length_cons, List.length_cons, e], fun d hd => ?_, rfl⟩
    rcases List.mem_cons.mp hd with rfl | hd
    · exact ⟨h1, h2⟩
    · exact hc d hd
theorem joinL_nil : ∀ cs : List Nat, TL.joinL [] (cs.map fun c => [c]) = cs
  | [] => rfl
  | [c] => rfl
  | c :: d :: r => by
    show [c] ++ ([] ++ TL.joinL [] ((d :: r).map fun c => [c])) = _
    rw [joinL_nil (d :: r)]; rfl
theorem sum_ones : ∀ cs : List Nat, ((cs.map fun c => SX.S [c]).map (·.length)).sum = cs.length
  | [] => rfl
  | c :: r => by
    rw [List.map_cons, List.map_cons, List.sum_cons, sum_ones r, List.length_cons]
    show 1 + _ = _
    omega
theorem join_chars (cs : List Nat) : Txt.join ("" : Str) (cs.map fun c => SX.S [c]) = SX.S cs := by
  have e : (cs.map fun c => SX.S [c]) = (cs.map fun c => [c]).map SX.S := by rw [List.map_map]; rfl
  rw [show ("" : Str) = SX.S [] by decide +kernel, e, SX.join_S, joinL_nil]
theorem cutS_take (cs : List Nat) (k : Nat) : cutS (SX.S cs) none (some (k : Int)) = SX.S (cs.take k) := by
  unfold cutS
  rw [HT.sIx_none, HT.sIx_nat, SX.S_len, Nat.sub_zero]
  show SX.S ((cs.drop 0).take _) = _
  rw [List.drop_zero]
  rcases Nat.le_total k cs.length with h | h
  · rw [Nat.min_eq_left h]
  · rw [Nat.min_eq_right h, List.take_of_length_le (Nat.le_refl _), List.take_of_length_le h]
theorem cutS_drop (cs : List Nat) (k : Nat) : cutS (SX.S cs) (some (k : Int)) none = SX.S (cs.drop k) := by
  unfold cutS
  rw [HT.sIx_none, HT.sIx_nat, SX.S_len]
  show SX.S ((cs.drop _).take _) = _
  rcases Nat.le_total k cs.length with h | h
  · rw [Nat.min_eq_left h, List.take_of_length_le (by rw [List.length_drop]; omega)]
  · rw [Nat.min_eq_right h, List.drop_length, List.drop_of_length_le h, List.take_nil]
theorem str_len_cat (a b : Str) : (a ++ b).length = a.length + b.length := by
  rw [← SX.S_tl a, ← SX.S_tl b, SX.S_cat, SX.S_len, SX.S_len, SX.S_len, List.length_append]
/-- the k-th word -/
def wordN (cs : List Nat) (at_ first k : Nat) : Str := SX.S (cs.take at_ ++ [97 + (first + 7 * k) % 26] ++ cs.drop at_)
theorem wordN_nm {cs : List Nat} {a f k : Nat} (hl : cs.length ≤ 7) (hc : ∀ c ∈ cs, 97 ≤ c ∧ c ≤ 122) : isNm (wordN cs a f k) = true := by
  unfold isNm wordN
  rw [SX.S_len, Bool.and_eq_true]
  have e : (cs.take a ++ [97 + (f + 7 * k) % 26] ++ cs.drop a).length = cs.length + 1 := by
    simp only [List.length_append, List.length_take, List.length_drop, List.length_cons, List.length_nil]
    omega
  refine ⟨decide_eq_true (by omega), ?_⟩
  show (cs.take a ++ [97 + (f + 7 * k) % 26] ++ cs.drop a).all _ = true
  rw [List.all_eq_true]
  intro c hcm
  refine decide_eq_true ?_
  rcases List.mem_append.mp hcm with h | h
  · rcases List.mem_append.mp h with h | h
    · exact hc c (List.mem_of_mem_take h)
    · rw [List.mem_singleton.mp h]; omega
  · exact hc c (List.mem_of_mem_drop h)
theorem wordN_inj {cs : List Nat} {a f j k : Nat} (hj : j < 26) (hk : k < 26) (h : wordN cs a f j = wordN cs a f k) : j = k := by
  have e := SX.S_inj h
  have e2 := List.append_cancel_left (List.append_cancel_right e)
  have e3 : 97 + (f + 7 * j) % 26 = 97 + (f + 7 * k) % 26 := by simpa using e2
  omega
theorem p_law_words : ∀ ds Qd, dsp_law_words ds Qd → d_law_words ⟨fun _ => Qd .non, Qd, fun _ => False, fun _ => False, fun _ => False⟩ (startD 7 ds) := by
  rintro ds Qd ⟨n, rfl, hn, q⟩
  show dSeq _ _ _ [some (.v .bag), some (.v (.int n)), none, none, none, none, none]
  walk_at "xr"
  refine ⟨_, rfl, ?_⟩
  walk_at "xr"
  refine Or.inl ⟨_, rfl, by simp, by simp, fun x hx => ?_⟩
  have hx : ∃ m : Nat, m ≤ 7 ∧ x = .int m := by
    simp only [List.mem_cons, List.not_mem_nil, or_false] at hx
    rcases hx with rfl | rfl | rfl | rfl
    · exact ⟨0, by omega, rfl⟩
    · exact ⟨1, by omega, rfl⟩
    · exact ⟨2, by omega, rfl⟩
    · exact ⟨7, by omega, rfl⟩
  obtain ⟨m, hm, rfl⟩ := hx
  refine d_onR ?_
  rw [rng_map]
  refine lc_rel (fun _ y => ∃ c : Nat, 97 ≤ c ∧ c ≤ 122 ∧ y = Dt.str ⟨#[c]⟩) (by simp; omega) (fun x _ N hN => ?_) fun ys hys => ?_
  · walk_at "xr"
    refine Or.inr ⟨_, rfl, by decide +kernel, by decide +kernel, fun c hc => hN _ ⟨c, ?_, ?_, rfl⟩⟩
    · rw [letters_cps] at hc; simp only [List.mem_cons, List.not_mem_nil, or_false] at hc; omega
    · rw [letters_cps] at hc; simp only [List.mem_cons, List.not_mem_nil, or_false] at hc; omega
  · obtain ⟨cs, hlen, hc, rfl⟩ := chars_of hys
    have hlen : cs.length = m := by rw [hlen]; simp
    refine ⟨_, rfl, ?_, ?_⟩
    · rw [sum_ones, show ("" : Str).length = 0 by decide +kernel]
      omega
    rw [join_chars]
    have hS : (SX.S cs).length = cs.length := SX.S_len cs
    walk_at "xr"
    refine ⟨by omega, ?_⟩
    walk_at "xr"
    refine d_pull (by omega) (by omega) fun a h0 h1 => ?_
    walk_at "xr"
    refine d_pull (by omega) (by omega) fun f h2 h3 => ?_
    walk_at "xr"
    obtain ⟨a, rfl⟩ := Int.eq_ofNat_of_zero_le h0
    obtain ⟨f, rfl⟩ := Int.eq_ofNat_of_zero_le h2
    refine d_onR ?_
    rw [rng_map, show ((n : Int)).toNat = n from rfl]
    refine lc_map (List.range n) _ (fun k => Dt.str (wordN cs a f k)) (by rw [List.length_range]; omega) (fun k hk N hN => ?_) ?_
    · have hk := List.mem_range.mp hk
      walk_at "xr"
      refine ⟨by omega, ?_⟩
      walk_at "xr"
      refine ⟨.inl ⟨by decide, by decide⟩, ?_⟩
      walk_at "xr"
      refine ⟨by decide, ?_⟩
      walk_at "xr"
      refine ⟨by decide +kernel, _, letters_at (Int.emod_nonneg _ (by decide)) (Int.emod_lt_of_pos _ (by decide)), ?_⟩
      rw [cutS_take]
      have e1 : ((f : Int) + 7 * (0 + (k : Int))) % 26 = ((f + 7 * k) % 26 : Nat) := by omega
      rw [e1, Int.toNat_natCast]
      have l1 : (SX.S (cs.take a)).length ≤ 7 := by rw [SX.S_len, List.length_take]; omega
      have l2 : (SX.S (cs.drop a)).length ≤ 7 := by rw [SX.S_len, List.length_drop]; omega
      have l3 : (SX.S [97 + (f + 7 * k) % 26]).length = 1 := SX.S_len _
      refine ⟨?_, ?_⟩
      · show (SX.S (cs.take a)).length + (SX.S [97 + (f + 7 * k) % 26]).length ≤ 100000
        omega
      walk_at "xr"
      refine ⟨by omega, ?_⟩
      rw [cutS_drop]
      have e2 : SX.S (cs.take a) ++ (⟨#[97 + (f + 7 * k) % 26]⟩ : Str) ++ SX.S (cs.drop a) = wordN cs a f k := by
        show SX.S (cs.take a) ++ SX.S [97 + (f + 7 * k) % 26] ++ SX.S (cs.drop a) = _
        rw [SX.S_cat, SX.S_cat]; rfl
      refine ⟨?_, ?_⟩
      · show (SX.S (cs.take a) ++ SX.S [97 + (f + 7 * k) % 26]).length + (SX.S (cs.drop a)).length ≤ 100000
        rw [SX.S_cat, SX.S_len, List.length_append, ← SX.S_len, ← SX.S_len [97 + (f + 7 * k) % 26]]
        omega
      · rw [e2]; exact hN
    · have e : (List.range n).map (fun k => Dt.str (wordN cs a f k)) = ((List.range n).map (wordN cs a f)).map Dt.str := by rw [List.map_map]; rfl
      rw [e]
      refine q _ (by simp) ?_ fun s hs => ?_
      · rw [List.Nodup, List.pairwise_map]
        refine (List.nodup_range (n := n)).imp_of_mem fun {i j} hi hj hne h => hne (wordN_inj ?_ ?_ h)
        · have := List.mem_range.mp hi; omega
        · have := List.mem_range.mp hj; omega
      · obtain ⟨k, _, rfl⟩ := List.mem_map.mp hs
        exact wordN_nm (by omega) hc
theorem p_law_lane : ∀ ds Qd, dsp_law_lane ds Qd → d_law_lane ⟨fun _ => Qd .non, Qd, fun _ => False, fun _ => False, fun _ => False⟩ (startD 7 ds) := by
  rintro ds Qd ⟨n, wide, rfl, hn1, hn5, hw0, hw1, q⟩
  show dSeq _ _ _ [some (.v .bag), some (.v (.int n)), some (.v (.int wide)), none, none, none, none]
  walk_at "xr"
  refine ⟨n, rfl, by omega, fun ss hl hnd hnm => ?_⟩
  walk_at "xr"
  refine d_pull (by omega) (by omega) fun z h0 h1 => ?_
  walk_at "xr"
  refine ⟨_, rfl, by simp, by simp, fun x hx => ?_⟩
  have hx : ∃ m : Int, 0 ≤ m ∧ m < 1000 ∧ x = .int m := by
    simp only [List.mem_cons, List.not_mem_nil, or_false] at hx
    rcases hx with rfl | rfl | rfl | rfl
    · exact ⟨0, by omega, by omega, rfl⟩
    · exact ⟨0, by omega, by omega, rfl⟩
    · exact ⟨3, by omega, by omega, rfl⟩
    · exact ⟨z, h0, h1, rfl⟩
  obtain ⟨m, hm0, hm1, rfl⟩ := hx
  walk_at "xr"
  refine loop_map Dt.str (fun rest ρ => ∃ (ws : List Wt) (spot : Int) (x6 : Option Cell), ss = ws.map (·.1) ++ rest ∧ ws.Pairwise (fun p q => p.2 < q.2) ∧ (∀ p ∈ ws, 0 ≤ p.2 ∧ p.2 < spot) ∧ 0 ≤ spot ∧ spot ≤ 999 + (ws.length : Int) * 1000 ∧
      ρ = [some (.v .bag), some (.v (.int n)), some (.v (.int wide)), some (.v (.lst (ss.map Dt.str))), some (.l (ws.map wD)), some (.v (.int spot)), x6]) ⟨[], m, _, rfl, .nil, fun p hp => (by cases hp), hm0, (by show m ≤ 999 + (0 : Int) * 1000; omega), rfl⟩ ?_ ?_
  · rintro ρ ⟨ws, spot, x6, hs, hp, hb, hs0, hs1, rfl⟩
    rw [List.append_nil] at hs
    have hlen : ws.length = n := by rw [← hl, hs, List.length_map]
    walk_at "xr"
    refine ⟨_, rfl, (fun z => (by have := congrArg List.length z; rw [List.length_map, hl] at this; simp at this; omega)), by rw [List.length_map, hl]; omega, fun x hx => ?_⟩
    obtain ⟨g, hg, rfl⟩ := List.mem_map.mp hx
    walk_at "xr"
    have hnm2 : ∀ p ∈ ws, isNm p.1 = true := fun p hp => hnm p.1 (by rw [hs]; exact List.mem_map_of_mem hp)
    refine q ws g hlen (fun p hp => ⟨hnm2 p hp, (hb p hp).1, ?_⟩) (by rw [← hs]; exact hnd) hp ?_
    · have := (hb p hp).2; rw [hlen] at hs1; omega
    · rw [hs] at hg
      obtain ⟨p, hp, e⟩ := List.mem_map.mp hg
      exact ⟨p, hp, e⟩
  · rintro s r ρ hsm ⟨ws, spot, x6, hs, hp, hb, hs0, hs1, rfl⟩ hC
    have hlen : ws.length < n := by rw [← hl, hs]; simp
    walk_at "xr"
    refine ⟨by rw [List.length_map]; omega, ?_⟩
    walk_at "xr"
    refine d_pull hw0 (by omega) fun d hd0 hd1 => ?_
    walk_at "xr"
    refine hC _ ?_
    refine ⟨ws ++ [(s, spot)], spot + 1 + d, some (.v (.str s)), (by rw [hs]; simp), ?_, ?_, by omega, ?_, ?_⟩
    · rw [List.pairwise_append]
      refine ⟨hp, List.pairwise_singleton _ _, fun a ha b hb' => ?_⟩
      rw [List.mem_singleton.mp hb']
      exact (hb a ha).2
    · intro p hpm
      rcases List.mem_append.mp hpm with h | h
      · have := hb p h; omega
      · rw [List.mem_singleton.mp h]; show 0 ≤ spot ∧ spot < _; omega
    · rw [List.length_append, List.length_singleton]
      push_cast
      omega
    · rw [List.map_append]; rfl
end Dl

set_option Elab.async false
set_option linter.all false
set_option maxRecDepth 100000
set_option maxHeartbeats 400000
/-! The layer of data, 23: sorted of data. -/
namespace Dl
open L2 PySem PySem.Spec PyProof.Rows RZ StX Cm LamY Skey
open PySem.W (AllAlike Sortable dataLe EachIs)
def rSortD (K : Frag) : List V → Hp → VK → Prop := fun vs H Q => ∃ (a : Addr) (xs : List V) (ps : List PyData), vs = [V.ref a] ∧ SqL K H a xs ∧ DpAll K H xs ps ∧ AllAlike ps ∧ Sortable ps ∧ (∀ d ∈ ps, d.depth ≤ 100) ∧ ∀ p, H p = none → Q (.ref p) (upd H p (.lst (srt xs ps)))
theorem dpa_len {K : Frag} {H : Hp} : ∀ {xs : List V} {ps : List PyData}, DpAll K H xs ps → ps.length = xs.length
  | [], ps, h => by cases h; rfl
  | x :: xs, ps, h => by
    cases h with
    | cons _ t => rw [List.length_cons, List.length_cons, dpa_len t]
section
variable {X : Cx} {pins : List (Addr × Obj)} {σ : L2.St} {H : Hp} {s : Shared}
theorem each_reads (I : Inv X pins σ H s) : ∀ {xs : List V} {ps : List PyData} {us : List Value}, DpAll X.K H xs ps → Vals xs us → EachIs (fun (v : Value) (p : V × PyData) => ∃ as, Reads s.heap v p.2 as) us (xs.zip ps)
  | [], _, _, h, r => by
    cases h; cases r
    exact .nil
  | x :: xs, _, _, h, r => by
    cases h with
    | cons h1 h2 =>
      cases r with
      | cons r1 r2 => exact .cons (Dp.reads I _ _ _ h1 r1) (each_reads I h2 r2)
theorem cr_sortD {k : Nat} (hr : Room k X.A) : CallR X (.builtin "sorted") (rSortD X.K) := by
  intro pins s σ H vs us Q I r h
  obtain ⟨a, xs, ps, rfl, hs, hd, hal, hso, hdep, q⟩ := h
  obtain ⟨its, rv, hl, hz⟩ := I.list hs
  obtain ⟨u, rfl, ru⟩ := vals1 r
  obtain rfl : u = Value.ref a := ru
  have hlen := dpa_len hd
  have hzl : (xs.zip ps).length = xs.length := by rw [List.length_zip, hlen, Nat.min_self]
  have hmap : (xs.zip ps).map (·.2) = ps := snd_zip xs ps hlen
  refine PySem.W.sorted_data (bs := xs.zip ps) (enc := fun p : V × PyData => p.2) (R := fun (v : Value) (p : V × PyData) => RelV p.1 v) hl.isList (vals_each ps hlen rv) (each_reads I hd rv) (by rw [hmap]; exact hal) (by rw [hmap]; exact hso) (by rw [hzl]; exact hz) (fun b hb => ?_) fun out ho eo => ?_
  · have h1 := hdep b.2 (by rw [← hmap]; exact List.mem_map_of_mem hb)
    have := hr.un
    omega
  · obtain ⟨ep, he⟩ := PyProof.Rows.sortedAll_at s.heap its (List.toArray out)
    have hv := each_vals eo
    have hlen2 : (srt xs ps).length ≤ sizeLine := by rw [srt_len _ _ hlen]; exact hz
    exact ⟨.ref _, upd H (s.heap.objs.size + 1) (.lst (srt xs ps)), I.laid (t' := s.toks) (fun _ _ => PyProof.Rows.sortedAll_old) (Nat.le_succ _) ⟨hlen2, out, ep, hv, he⟩, rfl, q _ (I.hok.fresh (Nat.le_succ _))⟩
end
/-- sorted(e), e's items alike data -/
def dSortD (e : DExp) : DArg := fun ρ Q => e ρ fun x => ∃ (l : List Dt) (f : Dt → PyData), x = .lst l ∧ (∀ d ∈ l, pyd d = some (f d)) ∧ AllAlike (l.map f) ∧ Sortable (l.map f) ∧ (∀ d ∈ l, (f d).depth ≤ 100) ∧ Q (l.mergeSort (dataLe false f))
theorem pyds_of {f : Dt → PyData} : ∀ {l : List Dt}, (∀ d ∈ l, pyd d = some (f d)) → pyds l = some (l.map f)
  | [], _ => rfl
  | d :: l, h => by rw [pyds, h d (List.mem_cons_self ..), pyds_of fun x hx => h x (List.mem_cons_of_mem _ hx)]; rfl
theorem l_sortD {lk : Lk} {K : Frag} {ta : TE} {da : DExp} (ha : LiftE lk K ta da) : LiftEL lk K (tCB (rSortD K) (tCons ta tNil)) (dSortD da) := by
  intro G σ H ρ Qd Q R h k
  refine ha G σ H ρ _ _ R h fun x d G1 H1 n1 r1 h1 => ?_
  obtain ⟨l, f, rfl, hp, hal, hso, hdep, hq⟩ := h1
  cases r1 with
  | @lst a xs _ hxs hrs =>
  refine ⟨a, xs, l.map f, rfl, Evl.sq_of (n1.s _ _ hxs), trs_up n1.s (dps_of hrs (pyds_of hp)), hal, hso, fun d hd => ?_, fun p hp => ?_⟩
  · obtain ⟨d0, h0, rfl⟩ := List.mem_map.mp hd
    exact hdep d0 h0
  · exact k p _ _ G1 _ (n1.trans (New.grow n1.s (Evl.Ex.new hp))) (n1.h.back (Or.inl hp)) (Evl.fresh_back n1.s hp) upd_same (rps_srt f hrs) hq
theorem d_sortD {ρ : Env} {a : DExp} {P : List Dt → Prop} (h : a ρ fun x => ∃ (l : List Dt) (f : Dt → PyData), x = .lst l ∧ (∀ d ∈ l, pyd d = some (f d)) ∧ AllAlike (l.map f) ∧ Sortable (l.map f) ∧ (∀ d ∈ l, (f d).depth ≤ 100) ∧ P (l.mergeSort (dataLe false f))) : dSortD a ρ P := h
theorem lc_mapIf {α : Type} {g : DTgt} {c : DTst} {a : DExp} {ρ : Env} {vs : List Nat} {P : List Dt → Prop} (m : List α) (h f : α → Dt) (p : α → Bool) (hl : m.length ≤ 100000) (hs : ∀ x ∈ m, ∀ (N : Dt → Prop) (M : Prop), (p x = true → N (f x)) → (p x = false → M) → g (h x) (wipeD ρ vs) fun ρ1 => c ρ1 fun k => if k = true then a ρ1 N else M) (q : P ((m.filter p).map f)) : LcOn g c a ρ vs P (m.map h) := by
  refine ⟨by rw [List.length_map]; exact hl, ?_⟩
  clear hl
  induction m generalizing P with
  | nil => exact q
  | cons x l ih =>
    refine hs x (List.mem_cons_self ..) _ _ (fun hp => ?_) (fun hp => ?_)
    · rw [List.filter_cons_of_pos hp] at q
      exact ih (fun z hz => hs z (List.mem_cons_of_mem _ hz)) q
    · rw [List.filter_cons_of_neg (by rw [hp]; decide)] at q
      exact ih (fun z hz => hs z (List.mem_cons_of_mem _ hz)) q
theorem via {e : DExp} {ρ : Env} {Q : Dt → Prop} (V : Dt) (h : ∀ R : Dt → Prop, R V → e ρ R) (q : Q V) : e ρ Q := h Q q
theorem viaT {e : DTst} {ρ : Env} {Q : Bool → Prop} (V : Bool) (h : ∀ R : Bool → Prop, R V → e ρ R) (q : Q V) : e ρ Q := h Q q
theorem lt65 {a c : Nat} (h : a + 65 < c) : a + 1 < c := by omega
end Dl

set_option Elab.async false
set_option linter.all false
set_option maxRecDepth 100000
set_option maxHeartbeats 1000000
/-! Lanes over data, 2. -/
namespace Dl
open L2 PySem PySem.Spec PyProof.Rows RZ StX Cm
@[reducible] def isa_Lane : IsaL := [("Lane", "Lane", true)]
/-- a lane: its watches in order, a guard -/
def laneOk (ws : List Wt) (g : Str) : Prop := 1 ≤ ws.length ∧ ws.length ≤ 5 ∧ okW ws ∧ ws.Pairwise (fun p q => p.2 < q.2) ∧ ∃ p ∈ ws, p.1 = g
def dsp_Lane_place : DFx := fun ds F => ∃ (ws : List Wt) (g : Str) (x : Dt), ds = [laneX ws g, x] ∧ plain x ∧ (((∀ s, x = .str s → ∀ p ∈ ws, p.1 ≠ s) ∧ F.er "UnknownName" (xe "UnknownName" "name" x)) ∨ ∃ p : Wt, x = .str p.1 ∧ (plcD ws).lookup p.1 = some (.int p.2) ∧ F.rt (.int p.2))
def dsp_Lane_watches : DFx := fun ds F => ∃ (ws : List Wt) (g : Str), ds = [laneX ws g] ∧ F.rl (ws.map wD)
def dsp_Lane_guard : DFx := fun ds F => ∃ (ws : List Wt) (g : Str), ds = [laneX ws g] ∧ F.rt (.str g)
def movW (ws : List Wt) (s : Str) (k : Int) : List Wt := sortW (ws.filter (fun p => !decide (p.1 = s)) ++ [(s, k)])
def dsp_Lane_moved : DFx := fun ds F => ∃ (ws : List Wt) (g : Str) (x y : Dt), ds = [laneX ws g, x, y] ∧ laneOk ws g ∧ plain x ∧ plain y ∧
  (((∀ s, x = .str s → ∀ p ∈ ws, p.1 ≠ s) ∧ F.er "UnknownName" (xe "UnknownName" "name" x)) ∨
  (∃ p ∈ ws, x = .str p.1 ∧ ((isN y 0 1000000 = false ∨ ∃ q ∈ ws, q.1 ≠ p.1 ∧ y = .int q.2) ∧ F.er "InvalidPlace" (xe "InvalidPlace" "given" y))) ∨
  (∃ p ∈ ws, ∃ k : Int, x = .str p.1 ∧ y = .int k ∧ 0 ≤ k ∧ k ≤ 1000000 ∧ (∀ q ∈ ws, q.1 ≠ p.1 → q.2 ≠ k) ∧ F.rt (laneX (movW ws p.1 k) g)))
def dsp_Lane_eq : DFx := fun ds F => ∃ (ws : List Wt) (g : Str) (y : Dt), ds = [laneX ws g, y] ∧ ws.length ≤ 5 ∧ (∀ p ∈ ws, isNm p.1 = true) ∧ ((∃ (vs : List Wt) (h : Str), y = laneX vs h ∧ vs.length ≤ 5 ∧ (∀ p ∈ vs, isNm p.1 = true) ∧ F.rt (.bl (decide (ws = vs) && decide (g = h)))) ∨ (plain y ∧ F.rt (.bl false)))
def dsp_law_made_lane : DFx := fun ds F => ∃ (ws : List Wt) (g : Str), ds = [.tup [.lst (ws.map wD), .str g]] ∧ laneOk ws g ∧ F.rt (laneX ws g)
def d_Lane_place (er : ER) : DStm := (dSeq (dIfS (dOr (dNot (dTst (dCB dIsi (dCons (dVar 1) (dCons (dC (.ty "str")) dNil))))) (dTst (dOp (dInDk true) (dVar 1) (dFld ["Lane"] (dVar 0) "places")))) (dRaise1 er "UnknownName" "name" "UnknownName" (dCons (dVar 1) dNil)) dNext) (dRet (dGetDk (dFld ["Lane"] (dVar 0) "places") (dVar 1))))
def d_Lane_watches (er : ER) : DStm := (dRetL (dListL (dFld ["Lane"] (dVar 0) "own_watches")))
def d_Lane_guard (er : ER) : DStm := (dRet (dFld ["Lane"] (dVar 0) "own_guard"))
def d_Lane_moved (er : ER) : DStm := (dSeq (dDrop (dMethX "Lane" "place" dsp_Lane_place er (dVar 0) (dCons (dVar 1) dNil))) (dSeq (dAsg (dOfL (dLcL (dItems (dFld ["Lane"] (dVar 0) "own_watches")) (eName 4) (dTst (dOp (dEq true) (dOp dIx (dVar 4) (dC (.int 0))) (dVar 1))) (dVar 4) [4])) (eName 3)) (dSeq (dIfS (dOr (dNot (dTst (dCall dsp_is_number (dCons (dVar 2) (dCons (dC (.int 0)) (dCons (dC (.int 1000000)) dNil)))))) (dTst (dCB dAnyC (dCons (dOfL (dLcL (dItems (dVar 3)) (eName 4) dYes (dOp (dEq false) (dOp dIx (dVar 4) (dC (.int 1))) (dVar 2)) [4])) dNil)))) (dRaise1 er "InvalidPlace" "given" "InvalidPlace" (dCons (dVar 2) dNil)) dNext) (dRet (dMakeK 1 1 (dspMk "Lane" dsp_Lane_init) (fun vs zs => [vs.getD 0 .non, zs.getD 0 .non]) er (dCons (dLst (dStar (dVar 3) (dCons (dTup (dCons (dVar 1) (dCons (dVar 2) dNil))) dNil))) dNil) (dCons (dFld ["Lane"] (dVar 0) "own_guard") dNil))))))
def d_Lane_eq (er : ER) : DStm := (dRet (dAndV (dCB (dIsa isa_Lane) (dCons (dVar 1) (dCons (dC (.cls "Lane")) dNil))) (dAndV (dOp (dEq false) (dFld ["Lane"] (dVar 0) "own_watches") (dFld ["Lane"] (dVar 1) "own_watches")) (dOp (dEq false) (dFld ["Lane"] (dVar 0) "own_guard") (dFld ["Lane"] (dVar 1) "own_guard")))))
def d_law_made_lane (er : ER) : DStm := (dRet (dMakeK 1 1 (dspMk "Lane" dsp_Lane_init) (fun vs zs => [vs.getD 0 .non, zs.getD 0 .non]) er (dCons (dCB dListC (dCons (dOp dIx (dVar 0) (dC (.int 0))) dNil)) dNil) (dCons (dOp dIx (dVar 0) (dC (.int 1))) dNil)))
theorem lane_fit {ws : List Wt} (h : ws.length ≤ 5) : Fit 4 (.lst (ws.map wD)) := .lst (fun y hy => (by
  obtain ⟨p, _, rfl⟩ := List.mem_map.mp hy
  exact .tup (fit_cons .str (fit_all1 .int)))) (by rw [List.length_map]; omega)
theorem p_law_made_lane : ∀ ds F, dsp_law_made_lane ds F → d_law_made_lane F.er (endsX F) (startD 1 ds) := by
  rintro ds F ⟨ws, g, rfl, ⟨h1, h5, ok, hp, hg⟩, q⟩
  show dRet _ _ [some (.v (.tup [.lst (ws.map wD), .str g]))]
  walk_at "xr"
  refine ⟨rfl, rfl, ?_⟩
  refine mk_lane_ok (ws := ws) (s := g) rfl h1 h5 ok hg ?_
  rw [sortW_of hp]
  exact q
theorem p_Lane_watches : ∀ ds F, dsp_Lane_watches ds F → d_Lane_watches F.er (endsX F) (startD 1 ds) := by
  rintro ds F ⟨ws, g, rfl, q⟩
  show dRetL _ _ [some (.v (laneX ws g))]
  walk_at "xr"
  refine ⟨_, _, _, rfl, by simp, rfl, ?_⟩
  exact ⟨_, rfl, q⟩
theorem p_Lane_guard : ∀ ds F, dsp_Lane_guard ds F → d_Lane_guard F.er (endsX F) (startD 1 ds) := by
  rintro ds F ⟨ws, g, rfl, q⟩
  show dRet _ _ [some (.v (laneX ws g))]
  walk_at "xr"
  exact ⟨_, _, _, rfl, by simp, rfl, q⟩
theorem plc_lookN {ws : List Wt} {s : Str} (h : ∀ p ∈ ws, p.1 ≠ s) : (plcD ws).lookup s = none := by
  cases e : (plcD ws).lookup s with
  | none => rfl
  | some d =>
    obtain ⟨p, hp, e2⟩ := plc_look.mp (by rw [e]; rfl : ((plcD ws).lookup s).isSome = true)
    exact absurd e2 (h p hp)
theorem plc_lookS : ∀ {ws : List Wt} {p : Wt}, (ws.map (·.1)).Nodup → p ∈ ws → (plcD ws).lookup p.1 = some (.int p.2)
  | [], _, _, h => (by cases h)
  | q :: ws, p, hn, hp => by
    show List.lookup p.1 ((q.1, Dt.int q.2) :: plcD ws) = _
    rw [List.lookup_cons]
    have hn2 := List.nodup_cons.mp hn
    rcases List.mem_cons.mp hp with rfl | hp
    · simp
    · have hne : p.1 ≠ q.1 := fun e => hn2.1 (by
        have : p.1 ∈ ws.map (·.1) := List.mem_map_of_mem hp
        rw [e] at this; exact this)
      rw [show (p.1 == q.1) = false by simpa using hne]
      exact plc_lookS hn2.2 hp
theorem p_Lane_place : ∀ ds F, dsp_Lane_place ds F → d_Lane_place F.er (endsX F) (startD 2 ds) := by
  rintro ds F ⟨ws, g, x, rfl, hx, hc⟩
  show dSeq _ _ _ [some (.v (laneX ws g)), some (.v x)]
  walk_at "xr"
  refine d_isSt hx ?_
  walk_at "xr"
  by_cases hs : ∃ s, x = .str s
  · obtain ⟨s, rfl⟩ := hs
    show (if (!true) = true then _ else _)
    walk_at "xr"
    refine ⟨_, _, _, rfl, by simp, rfl, ?_⟩
    walk_at "xr"
    rcases hc with ⟨hn, q⟩ | ⟨p, e, hl, q⟩
    · rw [plc_lookN (hn s rfl), show (true != (none : Option Dt).isSome) = true from rfl]
      walk_at "xr"
      exact q
    · cases e
      rw [hl, show (true != (some (Dt.int p.2)).isSome) = false from rfl]
      walk_at "xr"
      refine ⟨_, _, _, rfl, by simp, rfl, ?_⟩
      walk_at "xr"
      exact ⟨_, _, _, rfl, rfl, hl, q⟩
  · have e1 : isSt x = false := by cases x <;> first | rfl | exact absurd ⟨_, rfl⟩ hs
    rw [e1]
    walk_at "xr"
    rcases hc with ⟨_, q⟩ | ⟨p, e, _, _⟩
    · exact q
    · exact absurd ⟨_, e⟩ hs
theorem pyds_w : ∀ ws : List Wt, pyds (ws.map wD) = some (ws.map fun p => PyData.tuple [.str p.1, .int p.2])
  | [] => rfl
  | p :: ws => by
    show (pyd (wD p)).bind _ = _
    rw [show pyd (wD p) = some (.tuple [.str p.1, .int p.2]) from rfl]
    show (pyds (ws.map wD)).map _ = _
    rw [pyds_w ws]; rfl
theorem strOk_nm {s : Str} (h : isNm s = true) : PyData.strOk s = true := by
  unfold isNm at h
  rw [Bool.and_eq_true] at h
  have h2 := List.all_eq_true.mp h.2
  unfold PyData.strOk
  rw [← Array.all_toList, List.all_eq_true]
  intro c hc
  have := of_decide_eq_true (h2 c hc)
  exact decide_eq_true (by omega)
theorem eqv_w (p q : Wt) : PyData.eqv (.tuple [.str p.1, .int p.2]) (.tuple [.str q.1, .int q.2]) = decide (p = q) := by
  have e : decide (p = q) = (decide (p.1 = q.1) && decide (p.2 = q.2)) := by
    rw [← Bool.decide_and]
    exact decide_eq_decide.mpr Prod.ext_iff
  rw [e]
  show ((p.1 == q.1) && ((p.2 == q.2) && true)) = _
  rw [Bool.and_true]
  rw [show ∀ {α : Type} [DecidableEq α] (a b : α), (a == b) = decide (a = b) from fun _ _ => rfl]
  rfl
theorem eqv_ws : ∀ ws vs : List Wt, PyData.eqvAll (ws.map fun p => PyData.tuple [.str p.1, .int p.2]) (vs.map fun p => PyData.tuple [.str p.1, .int p.2]) = decide (ws = vs)
  | [], [] => rfl
  | [], _ :: _ => rfl
  | _ :: _, [] => rfl
  | p :: ws, q :: vs => by
    show (PyData.eqv _ _ && PyData.eqvAll _ _) = _
    rw [eqv_w, eqv_ws ws vs, ← Bool.decide_and]
    exact decide_eq_decide.mpr List.cons_eq_cons.symm
theorem ok_ws {ws : List Wt} (h : ws.length ≤ 1000) (hn : ∀ p ∈ ws, isNm p.1 = true) : okD 2 (.list (ws.map fun p => PyData.tuple [.str p.1, .int p.2])) := by
  refine ok_lst (by rw [List.length_map]; omega) fun d hd => ?_
  obtain ⟨p, hp, rfl⟩ := List.mem_map.mp hd
  refine ok_tup (by simp) fun d hd => ?_
  simp only [List.mem_cons, List.not_mem_nil, or_false] at hd
  rcases hd with rfl | rfl
  · exact ok_str (strOk_nm (hn p hp))
  · exact ok_int
theorem pyd_ws (ws : List Wt) : pyd (.lst (ws.map wD)) = some (.list (ws.map fun p => PyData.tuple [.str p.1, .int p.2])) := by
  rw [pyd, pyds_w]; rfl
theorem d_eqWs {neg : Bool} {ws vs : List Wt} {Q : Dt → Prop} (h1 : ws.length ≤ 1000) (h2 : vs.length ≤ 1000) (n1 : ∀ p ∈ ws, isNm p.1 = true) (n2 : ∀ p ∈ vs, isNm p.1 = true) (q : Q (.bl (neg != decide (ws = vs)))) : dEq neg (.lst (ws.map wD)) (.lst (vs.map wD)) Q := by
  unfold dEq
  rw [show scals (.lst (ws.map wD)) (.lst (vs.map wD)) = none from rfl]
  refine ⟨_, _, pyd_ws ws, pyd_ws vs, (ok_ws h1 n1).shaped (by decide), (ok_ws h2 n2).shaped (by decide), ?_⟩
  rw [show PyData.eqv (.list _) (.list _) = PyData.eqvAll _ _ from rfl, eqv_ws]
  exact q
theorem d_eqW {neg : Bool} {p r : Wt} {Q : Dt → Prop} (n1 : isNm p.1 = true) (n2 : isNm r.1 = true) (q : Q (.bl (neg != decide (p = r)))) : dEq neg (wD p) (wD r) Q := by
  unfold dEq
  rw [show scals (wD p) (wD r) = none from rfl]
  have ok : ∀ p : Wt, isNm p.1 = true → okD 1 (.tuple [.str p.1, .int p.2]) := fun p hn => ok_tup (by simp) fun d hd => by
    simp only [List.mem_cons, List.not_mem_nil, or_false] at hd
    rcases hd with rfl | rfl
    · exact ok_str (strOk_nm hn)
    · exact ok_int
  refine ⟨_, _, rfl, rfl, (ok p n1).shaped (by decide), (ok r n2).shaped (by decide), ?_⟩
  rw [eqv_w]
  exact q
theorem plain_kd {x : Dt} (h : plain x) : ∃ t, kdD x = some t := by
  obtain ⟨h1, h2⟩ := h
  cases x <;> first | (cases h1; done) | (exfalso; simp [pyd] at h2; done) | exact ⟨_, rfl⟩
theorem p_Lane_eq : ∀ ds F, dsp_Lane_eq ds F → d_Lane_eq F.er (endsX F) (startD 2 ds) := by
  rintro ds F ⟨ws, g, y, rfl, h5, hn1, hc⟩
  show dRet _ _ [some (.v (laneX ws g)), some (.v y)]
  walk_at "xr"
  rcases hc with ⟨vs, h, rfl, h5', hn2, q⟩ | ⟨hy, q⟩
  · refine ⟨_, _, rfl, Or.inl ⟨_, _, true, rfl, by simp, ?_⟩⟩
    walk_at "xr"
    refine ⟨_, _, _, rfl, by simp, rfl, ?_⟩
    walk_at "xr"
    refine ⟨_, _, _, rfl, by simp, rfl, ?_⟩
    refine d_eqWs (by omega) (by omega) hn1 hn2 ?_
    rw [show (false != decide (ws = vs)) = decide (ws = vs) by simp]
    refine ⟨_, rfl, d_andC (c := decide (g = h)) (fun P hP => ?_) q⟩
    walk_at "xr"
    refine ⟨_, _, _, rfl, by simp, rfl, ?_⟩
    walk_at "xr"
    refine ⟨_, _, _, rfl, by simp, rfl, ?_⟩
    walk_at "xr"
    exact hP
  · obtain ⟨t, ht⟩ := plain_kd hy
    refine ⟨_, _, rfl, Or.inr ⟨t, ht, by simp, ?_⟩⟩
    walk_at "xr"
    exact q
theorem not_nm {ws : List Wt} {s : Str} (h : ∀ p ∈ ws, isNm p.1 = true) (hs : isNm s = false) : ∀ p ∈ ws, p.1 ≠ s := fun p hp e => by
  have := h p hp
  rw [e, hs] at this; cases this
theorem mov_ok {ws : List Wt} {g : Str} (ok : laneOk ws g) {p : Wt} (hp : p ∈ ws) {k : Int} (h0 : 0 ≤ k) (h1 : k ≤ 1000000) (hk : ∀ q ∈ ws, q.1 ≠ p.1 → q.2 ≠ k) :
    let vs := ws.filter (fun q => !decide (q.1 = p.1)) ++ [(p.1, k)]
    okW vs ∧ vs.length = ws.length ∧ ∃ q ∈ vs, q.1 = g := by
  obtain ⟨l1, l5, okw, hpw, q, hq, hg⟩ := ok
  have hmem : ∀ q ∈ ws.filter (fun q => !decide (q.1 = p.1)), q ∈ ws ∧ q.1 ≠ p.1 := fun q hq => by
    have := List.mem_filter.mp hq
    exact ⟨this.1, by simpa using this.2⟩
  refine ⟨⟨fun r hr => ?_, ?_⟩, ?_, ?_⟩
  · rcases List.mem_append.mp hr with h | h
    · exact okw.1 r (hmem r h).1
    · rw [List.mem_singleton.mp h]
      exact ⟨(okw.1 p hp).1, h0, h1⟩
  · rw [List.pairwise_append]
    refine ⟨okw.2.sublist List.filter_sublist, List.pairwise_singleton _ _, fun a ha b hb => ?_⟩
    rw [List.mem_singleton.mp hb]
    exact ⟨(hmem a ha).2, hk a (hmem a ha).1 (hmem a ha).2⟩
  · rw [List.length_append, List.length_singleton]
    have hnd := okW_nodup okw
    clear hmem hk hg hq hpw l1 l5 q
    induction ws with
    | nil => cases hp
    | cons r ws ih =>
      have hn2 := List.nodup_cons.mp hnd
      have okw2 : okW ws := okW_sub okw (List.sublist_cons_self _ _)
      rcases List.mem_cons.mp hp with rfl | hp
      · rw [List.filter_cons_of_neg (by simp), List.length_cons]
        have e : ws.filter (fun q => !decide (q.1 = p.1)) = ws := List.filter_eq_self.mpr fun q hq => by
          have : q.1 ≠ p.1 := fun e => hn2.1 (by
            have : q.1 ∈ ws.map (·.1) := List.mem_map_of_mem hq
            rw [e] at this; exact this)
          simpa using this
        rw [e]
      · have : r.1 ≠ p.1 := fun e => hn2.1 (by
          have : p.1 ∈ ws.map (·.1) := List.mem_map_of_mem hp
          rw [← e] at this; exact this)
        rw [List.filter_cons_of_pos (by simpa using this), List.length_cons, List.length_cons, ih hp okw2 hn2.2]
  · by_cases e : q.1 = p.1
    · exact ⟨(p.1, k), by simp, by rw [← e]; exact hg⟩
    · exact ⟨q, List.mem_append.mpr (.inl (List.mem_filter.mpr ⟨hq, by simpa using e⟩)), hg⟩
theorem p_Lane_moved : ∀ ds F, dsp_Lane_moved ds F → d_Lane_moved F.er (endsX F) (startD 5 ds) := by
  rintro ds F ⟨ws, g, x, y, rfl, ok, hx, hy, hc⟩
  obtain ⟨l1, l5, okw, hpw, hgm⟩ := id ok
  show dSeq _ _ _ [some (.v (laneX ws g)), some (.v x), some (.v y), none, none]
  walk_at "xr"
  rcases hc with ⟨hn, q⟩ | hc
  · exact ⟨ws, g, x, rfl, hx, Or.inl ⟨hn, q⟩⟩
  obtain ⟨p, hp, rfl⟩ : ∃ p ∈ ws, x = .str p.1 := by
    rcases hc with ⟨p, hp, e, _⟩ | ⟨p, hp, k, e, _⟩ <;> exact ⟨p, hp, e⟩
  refine ⟨ws, g, _, rfl, hx, Or.inr ⟨p, rfl, plc_lookS (okW_nodup okw) hp, ?_⟩⟩
  dsimp only [finE]
  walk_at "xr"
  refine ⟨_, _, _, rfl, by simp, rfl, ?_⟩
  walk_at "xr"
  have hmem : ∀ q ∈ ws.filter (fun q => !decide (q.1 = p.1)), q ∈ ws ∧ q.1 ≠ p.1 := fun q hq => by
    have := List.mem_filter.mp hq
    exact ⟨this.1, by simpa using this.2⟩
  refine lc_mapIf ws wD wD (fun q => !decide (q.1 = p.1)) (by omega) (fun r hr N M h1 h2 => ?_) ?_
  · walk_at "xr"
    cases e : (!decide (r.1 = p.1)) with
    | true => walk_at "xr"; exact h1 e
    | false => walk_at "xr"; exact h2 e
  walk_at "xr"
  refine d_num hy ?_
  walk_at "xr"
  have any : ∀ (k : Int) (R : Dt → Prop), y = .int k → R (.bl ((ws.filter fun q => !decide (q.1 = p.1)).any fun q => decide (q.2 = k))) →
      LcOn (eName 4) dYes (dOp (dEq false) (dOp dIx (dVar 4) (dC (.int 1))) (dVar 2)) [some (.v (laneX ws g)), some (.v (.str p.1)), some (.v y), some (.v (.lst ((ws.filter fun q => !decide (q.1 = p.1)).map wD))), none] [4] (fun ds => dNil [some (.v (laneX ws g)), some (.v (.str p.1)), some (.v y), some (.v (.lst ((ws.filter fun q => !decide (q.1 = p.1)).map wD))), none] fun xs => dAnyC (.lst ds :: xs) R) ((ws.filter fun q => !decide (q.1 = p.1)).map wD) := by
    intro k R hk hR
    subst hk
    refine lc_map (ws.filter fun q => !decide (q.1 = p.1)) wD (fun q => Dt.bl (decide (q.2 = k))) (by have := List.length_filter_le (fun q : Wt => !decide (q.1 = p.1)) ws; omega) (fun q _ N hN => ?_) ?_
    · walk_at "xr"
      exact hN
    · show dAnyC [.lst _] R
      refine ⟨(ws.filter fun q => !decide (q.1 = p.1)).map fun q => decide (q.2 = k), by rw [List.map_map]; rfl, ?_⟩
      rw [List.any_map]
      exact hR
  rcases hc with ⟨p', hp', e, hb, he⟩ | ⟨p', hp', k, e, rfl, h0, h1, hk, q⟩
  · have e : p.1 = p'.1 := by injection e
    cases hn : isN y 0 1000000 with
    | false =>
      walk_at "xr"
      exact he
    | true =>
      walk_at "xr"
      rcases hb with hb | ⟨q, hq, hqp, rfl⟩
      · rw [hb] at hn; cases hn
      · refine any q.2 _ rfl ?_
        have : ((ws.filter fun r => !decide (r.1 = p.1)).any fun r => decide (r.2 = q.2)) = true := List.any_eq_true.mpr ⟨q, List.mem_filter.mpr ⟨hq, by rw [e]; simpa using hqp⟩, decide_eq_true rfl⟩
        rw [this]
        refine ⟨_, rfl, ?_⟩
        walk_at "xr"
        exact he
  · have e : p.1 = p'.1 := by injection e
    rw [show isN (.int k) 0 1000000 = true by show (decide (0 ≤ k) && decide (k ≤ 1000000)) = true; rw [decide_eq_true h0, decide_eq_true h1]; rfl]
    walk_at "xr"
    refine any k _ rfl ?_
    have hno : ((ws.filter fun r => !decide (r.1 = p.1)).any fun r => decide (r.2 = k)) = false := by
      rw [List.any_eq_false]
      intro r hr
      have := hk r (hmem r hr).1 (by rw [← e]; exact (hmem r hr).2)
      simpa using this
    rw [hno]
    refine ⟨_, rfl, ?_⟩
    walk_at "xr"
    have hfl := List.length_filter_le (fun q : Wt => !decide (q.1 = p.1)) ws
    refine d_onS rfl ?_
    walk_at "xr"
    refine ⟨_, _, _, rfl, by simp, rfl, ?_⟩
    walk_at "xr"
    refine ⟨rfl, rfl, ?_⟩
    obtain ⟨m1, m2, m3⟩ := mov_ok ok hp h0 h1 (fun q hq hne => hk q hq (by rw [← e]; exact hne))
    refine mk_lane_ok (ws := ws.filter (fun q => !decide (q.1 = p.1)) ++ [(p.1, k)]) (s := g) (by rw [List.map_append]; rfl) (by rw [m2]; exact l1) (by rw [m2]; exact l5) m1 m3 ?_
    rw [← e] at q
    exact q
end Dl

set_option Elab.async false
set_option linter.all false
set_option maxRecDepth 100000
set_option maxHeartbeats 1000000
/-! Law k05 over data. -/
namespace Dl
open L2 PySem PySem.Spec PyProof.Rows RZ StX Cm
def esL : List (Str × Option Str) := [("InvalidCount", some "given"), ("InvalidPlace", some "given"), ("InvalidWatch", some "at"), ("UnknownName", some "name")]
theorem esSub : ∀ p ∈ esL, p ∈ errs := by decide +kernel
def dlams_law : List (ER → DExp) := [fun er => (dMethX "Lane" "moved" dsp_Lane_moved er (dVar 4) (dCons (dOp dIx (dVar 5) (dC (.int 0))) (dCons (dVar 13) dNil))), fun er => (dMethX "Lane" "moved" dsp_Lane_moved er (dVar 4) (dCons (dVar 14) (dCons (dVar 13) dNil)))]
def d_law_k05 (Lm : Lms) : DStm := (dSeq (dAsg (dCall dsp_law_start (dCons (dVar 0) dNil)) (eName 1)) (dSeq (dFor (dRng1 (dCons (dC (.int 5)) dNil)) (eName 2) (dSeq (dAsg (dCall dsp_law_lane (dCons (dVar 1) (dCons (dOp dAdd (dC (.int 1)) (dCall dsp_law_pull (dCons (dVar 1) (dCons (dC (.int 5)) dNil)))) (dCons (dC (.int 5)) dNil)))) (eName 3)) (dSeq (dAsg (dTup (dCons (dCallX dsp_law_made_lane no (dCons (dVar 3) dNil)) (dCons (dCall dsp_law_pickL (dCons (dVar 1) (dCons (dOp dIx (dVar 3) (dC (.int 0))) dNil))) dNil))) (eTup 2 (esCons (eName 4) (esCons (eName 5) esNil)))) (dSeq (dAsg (dCall dsp_law_pickL (dCons (dVar 1) (dCons (dLst (dCons (dC (.int 0)) (dCons (dC (.int 1000000)) (dCons (dOp dIx (dVar 5) (dC (.int 1))) (dCons (dOp dIx (dCall dsp_law_pickL (dCons (dVar 1) (dCons (dOp dIx (dVar 3) (dC (.int 0))) dNil))) (dC (.int 1))) (dCons (dOp dAdd (dOp dIx (dVar 5) (dC (.int 1))) (dCall dsp_law_pull (dCons (dVar 1) (dCons (dC (.int 12)) dNil)))) dNil)))))) dNil))) (eName 6)) (dSeq (dAsg (dOfL (dLcL (dItems (dOp dIx (dVar 3) (dC (.int 0)))) (eName 8) (dTst (dOp (dEq true) (dVar 8) (dVar 5))) (dVar 8) [8])) (eName 7)) (dSeq (dAsg (dOp dIn2 (dVar 6) (dOfL (dLcL (dItems (dVar 7)) (eName 8) dYes (dOp dIx (dVar 8) (dC (.int 1))) [8]))) (eName 9)) (dSeq (dAsg (dGot esL (fun er => (dMethX "Lane" "watches" dsp_Lane_watches er (dMethX "Lane" "moved" dsp_Lane_moved er (dVar 4) (dCons (dOp dIx (dVar 5) (dC (.int 0))) (dCons (dVar 6) dNil))) dNil))) (eName 10)) (dSeq (dAsg (dOfL (dSortD (dOp dAdd (dOfL (dLcL (dItems (dVar 7)) (eName 8) dYes (dTup (dCons (dOp dIx (dVar 8) (dC (.int 1))) (dCons (dOp dIx (dVar 8) (dC (.int 0))) dNil))) [8])) (dLst (dCons (dTup (dCons (dVar 6) (dCons (dOp dIx (dVar 5) (dC (.int 0))) dNil))) dNil))))) (eName 11)) (dSeq (dAsg (dIf (dTst (dVar 9)) (dTup (dCons (dC (.str "InvalidPlace")) (dCons (dVar 6) dNil))) (dTup (dCons (dC (.str "")) (dCons (dOfL (dLcL (dItems (dVar 11)) (eName 8) dYes (dTup (dCons (dOp dIx (dVar 8) (dC (.int 1))) (dCons (dOp dIx (dVar 8) (dC (.int 0))) dNil))) [8])) dNil)))) (eName 12)) (dSeq (dIfS (dOr (dNot (dTst (dCall dsp_law_same (dCons (dVar 10) (dCons (dVar 12) dNil))))) (dTst (dOp (dOwnX true "Lane" dsp_Lane_eq) (dVar 4) (dCallX dsp_law_made_lane no (dCons (dVar 3) dNil))))) (dRet (dC (.bl false))) dNext) (dSeq (dIfS (dAnd (dNot (dTst (dVar 9))) (dNot (dTst (dCall dsp_law_same (dCons (dLst (dCons (dProp "Lane" dsp_Lane_guard (dMethXN "Lane" "moved" 2 dsp_Lane_moved (fun vs zs => [vs.getD 0 .non, zs.getD 1 .non, zs.getD 0 .non]) no (dVar 4) (dCons (dVar 6) (dCons (dOp dIx (dVar 5) (dC (.int 0))) dNil)))) (dCons (dCB (dOwn1 "Lane" dsp_Lane_len dNat) (dCons (dMethX "Lane" "moved" dsp_Lane_moved no (dVar 4) (dCons (dOp dIx (dVar 5) (dC (.int 0))) (dCons (dVar 6) dNil))) dNil)) dNil))) (dCons (dLst (dCons (dOp dIx (dVar 3) (dC (.int 1))) (dCons (dCB dLen (dCons (dOp dIx (dVar 3) (dC (.int 0))) dNil)) dNil))) dNil)))))) (dRet (dC (.bl false))) dNext) (dSeq (dAsg (dCall dsp_law_pickL (dCons (dVar 1) (dCons (dLst (dCons (dUn dNeg (dC (.int 1))) (dCons (dC (.int 1000001)) (dCons (dC .non) (dCons (dC (.bl true)) (dCons (dC (.str "0")) (dCons (dTup (dCons (dC (.int 1)) dNil)) (dCons (dOp dPow (dC (.int 10)) (dC (.int 20))) dNil)))))))) dNil))) (eName 13)) (dSeq (dAsg (dCall dsp_law_odd (dCons (dVar 1) (dCons (dLst (dCons (dOp dAdd (dOp dIx (dVar 5) (dC (.int 0))) (dC (.str "zzzzzzzz"))) dNil)) dNil))) (eName 14)) (dSeq (dAsg (dLst (dCons (dLamV Lm 1) (dCons (dLamV Lm 0) dNil))) (eName 15)) (dIfS (dNot (dTst (dCall dsp_law_same (dCons (dAllGot esL Lm dlams_law (dVar 15)) (dCons (dLst (dCons (dTup (dCons (dC (.str "UnknownName")) (dCons (dVar 14) dNil))) (dCons (dTup (dCons (dC (.str "InvalidPlace")) (dCons (dVar 13) dNil))) dNil))) dNil))))) (dRet (dC (.bl false))) dNext))))))))))))))) (dRet (dC (.bl true)))))
theorem lam_0 : dlams_law.getD 0 dBad = fun er => (dMethX "Lane" "moved" dsp_Lane_moved er (dVar 4) (dCons (dOp dIx (dVar 5) (dC (.int 0))) (dCons (dVar 13) dNil))) := rfl
theorem lam_1 : dlams_law.getD 1 dBad = fun er => (dMethX "Lane" "moved" dsp_Lane_moved er (dVar 4) (dCons (dVar 14) (dCons (dVar 13) dNil))) := rfl
def swD (p : Wt) : Dt := .tup [.int p.2, .str p.1]
def fD (d : Dt) : PyData := (pyd d).getD .none
theorem fD_sw (p : Wt) : fD (swD p) = .tuple [.int p.2, .str p.1] := rfl
theorem key_sw {ws : List Wt} {d : PyData} (h : d ∈ (ws.map swD).map fD) : ∃ p : Wt, d = .tuple [.int p.2, .str p.1] := by
  rw [List.map_map] at h
  obtain ⟨p, _, rfl⟩ := List.mem_map.mp h
  exact ⟨p, rfl⟩
theorem sort_sw {vs : List Wt} (h : vs.Pairwise fun p q => p.2 ≠ q.2) : (vs.map swD).mergeSort (PySem.W.dataLe false fD) = (sortW vs).map swD := by
  have e : sortW vs = vs.mergeSort fun p q => PySem.W.dataLe false fD (swD p) (swD q) := by
    unfold sortW
    have key : ∀ a ∈ vs, ∀ b ∈ vs, decide (a.2 ≤ b.2) = PySem.W.dataLe false fD (swD (id a)) (swD (id b)) := fun a ha b hb => by
      rw [PySem.W.dataLe_eq]
      show decide (a.2 ≤ b.2) = !PySem.W.dataLt (.tuple [.int b.2, .str b.1]) (.tuple [.int a.2, .str a.1])
      rw [PySem.W.dataLt_pair (by simp [PySem.W.alike]) (by simp [PySem.W.alike])]
      have e1 : PyData.eqv (.int b.2) (.int a.2) = decide (b.2 = a.2) := rfl
      rw [e1, PySem.W.dataLt_int]
      by_cases hab : b.2 = a.2
      · have : a = b := by
          by_cases hne : a = b
          · exact hne
          · exfalso
            obtain ⟨i, hi, rfl⟩ := List.mem_iff_getElem.mp ha
            obtain ⟨j, hj, rfl⟩ := List.mem_iff_getElem.mp hb
            have hp := List.pairwise_iff_getElem.mp h
            rcases Nat.lt_trichotomy i j with z | z | z
            · exact hp i j hi hj z hab.symm
            · subst z; exact hne rfl
            · exact hp j i hj hi z hab
        subst this
        rw [decide_eq_true rfl, decide_eq_true (Int.le_refl _)]
        have e2 : PyData.eqv (.str a.1) (.str a.1) = true := by show (a.1 == a.1) = true; simp
        rw [e2]; rfl
      · rw [decide_eq_false hab]
        by_cases hle : a.2 ≤ b.2
        · rw [decide_eq_true hle, decide_eq_false (by omega)]; rfl
        · rw [decide_eq_false hle, decide_eq_true (by omega)]; rfl
    have z := List.map_mergeSort (r := fun p q : Wt => decide (p.2 ≤ q.2)) (s := fun p q : Wt => PySem.W.dataLe false fD (swD p) (swD q)) (f := id) (l := vs) key
    simpa using z
  rw [e, List.map_mergeSort (s := PySem.W.dataLe false fD) (fun a _ b _ => rfl)]
theorem odd5 {odd : Dt} (h : odd ∈ ([.int (-1), .int 1000001, .non, .bl true, .str "0", .tup [.int 1], .int (10 ^ 20)] : List Dt)) : plain odd ∧ isN odd 0 1000000 = false ∧ Fit 6 odd := by
  simp only [List.mem_cons, List.not_mem_nil, or_false] at h
  rcases h with rfl | rfl | rfl | rfl | rfl | rfl | rfl
  · exact ⟨plain_int, by decide, .int⟩
  · exact ⟨plain_int, by decide, .int⟩
  · exact ⟨plain_non, rfl, .non⟩
  · exact ⟨plain_bl, rfl, .bl⟩
  · exact ⟨plain_str, rfl, .str⟩
  · exact ⟨⟨rfl, rfl⟩, rfl, .tup (fit_all1 .int)⟩
  · exact ⟨plain_int, by decide, .int⟩
theorem strange_no {strange : Dt} {old : Str} (hold : isNm old = true) (h : strange ∈ oddL ++ [.str (old ++ "zzzzzzzz")]) : plain strange ∧ Fit 6 strange ∧ ∀ s, strange = .str s → isNm s = false := by
  have hl : (old ++ ("zzzzzzzz" : Str)).length = old.length + 8 := by
    rw [str_len_cat, show ("zzzzzzzz" : Str).length = 8 by decide +kernel]
  simp only [oddL, List.cons_append, List.nil_append, List.mem_cons, List.not_mem_nil, or_false] at h
  rcases h with rfl | rfl | rfl | rfl | rfl | rfl | rfl | rfl | rfl | rfl | rfl
  · exact ⟨plain_non, .non, fun s e => by cases e⟩
  · exact ⟨plain_bl, .bl, fun s e => by cases e⟩
  · exact ⟨plain_bl, .bl, fun s e => by cases e⟩
  · exact ⟨plain_str, .str, fun s e => by cases e; decide +kernel⟩
  · exact ⟨plain_str, .str, fun s e => by cases e; decide +kernel⟩
  · exact ⟨plain_int, .int, fun s e => by cases e⟩
  · exact ⟨⟨rfl, rfl⟩, .tup (fit_cons .int (fit_all1 .str)), fun s e => by cases e⟩
  · exact ⟨⟨rfl, rfl⟩, .lst (fit_all1 .int), fun s e => by cases e⟩
  · exact ⟨⟨rfl, rfl⟩, .tup fit_nil, fun s e => by cases e⟩
  · exact ⟨plain_int, .int, fun s e => by cases e⟩
  · refine ⟨plain_str, .str, fun s e => ?_⟩
    cases e
    have := isNm_len hold
    unfold isNm
    rw [decide_eq_false (by rw [hl]; omega)]; rfl
theorem viaB {c : Bool} {x : DTst} {ρ : Env} {Q : Bool → Prop} (h : ∀ R : Bool → Prop, R false → if c = true then x ρ R else R false) (q : Q false) : if c = true then x ρ Q else Q false := h Q q
theorem viaI {b : Bool} {x y : DExp} {ρ : Env} {Q : Dt → Prop} (V : Dt) (h : ∀ R : Dt → Prop, R V → if b = true then x ρ R else y ρ R) (q : Q V) : if b = true then x ρ Q else y ρ Q := h Q q
theorem p_law : ∀ Lm ds Qd, dsp_law ds Qd → d_law_k05 Lm ⟨fun _ => Qd .non, Qd, fun _ => False, fun _ => False, fun _ => False⟩ (startD 16 ds) := by
  rintro Lm ds Qd ⟨ns, rfl, hns, q⟩
  show dSeq _ _ _ [some (.v (.py (.list (ns.map PyData.int)))), none, none, none, none, none, none, none, none, none, none, none, none, none, none, none]
  walk_at "xr"
  refine ⟨ns, rfl, hns, ?_⟩
  walk_at "xr"
  refine d_onR ?_
  rw [show rng 0 (5 : Int).toNat = (List.range 5).map fun i => Dt.int (i : Nat) from by rw [rng_map]; simp]
  refine loop_rng (fun k ρ => ∃ c2 c3 c4 c5 c6 c7 c8 c9 c10 c11 c12 c13 c14 c15 : Option Cell, ρ = [some (.v (.py (.list (ns.map PyData.int)))), some (.v .bag), c2, c3, c4, c5, c6, c7, c8, c9, c10, c11, c12, c13, c14, c15] ∧ ρ.all (fun c => !own c) = true) ⟨none, none, none, none, none, none, none, none, none, none, none, none, none, none, rfl, rfl⟩ ?_ ?_
  · rintro ρ ⟨c2, c3, c4, c5, c6, c7, c8, c9, c10, c11, c12, c13, c14, c15, rfl, ho⟩
    walk_at "xr"
    exact q
  · rintro k ρ hk ⟨c2, c3, c4, c5, c6, c7, c8, c9, c10, c11, c12, c13, c14, c15, rfl, ho⟩ C hC
    simp only [List.all_cons, List.all_nil, Bool.and_true, Bool.and_eq_true] at ho
    obtain ⟨o0, o1, o2, o3, o4, o5, o6, o7, o8, o9, o10, o11, o12, o13, o14, o15⟩ := ho
    walk_at "xr"
    refine d_pull (by decide) (by decide) fun d d0 d1 => ?_
    walk_at "xr"
    obtain ⟨n, hn⟩ : ∃ n : Nat, (1 + d : Int) = n := ⟨(1 + d).toNat, by omega⟩
    rw [hn]
    refine ⟨n, 5, rfl, by omega, by omega, by decide, by decide, fun ws g hlen hb hnd hp hg => ?_⟩
    have ok : okW ws := okW_of hb hnd hp
    have lok : laneOk ws g := ⟨by omega, by omega, ok, hp, hg⟩
    have hnm : ∀ p ∈ ws, isNm p.1 = true := fun p hp => (ok.1 p hp).1
    walk_at "xr"
    refine ⟨ws, g, rfl, lok, ?_⟩
    dsimp only [finE]
    walk_at "xr"
    refine ⟨_, rfl, fun z => (by have := congrArg List.length z; simp [hlen] at this; omega), by rw [List.length_map]; omega, fun oldD holdD => ?_⟩
    obtain ⟨old, hold, rfl⟩ := List.mem_map.mp holdD
    walk_at "xr"
    refine ⟨_, rfl, fun z => (by have := congrArg List.length z; simp [hlen] at this; omega), by rw [List.length_map]; omega, fun otD hotD => ?_⟩
    obtain ⟨ot, hot, rfl⟩ := List.mem_map.mp hotD
    walk_at "xr"
    refine d_pull (by decide) (by decide) fun e e0 e1 => ?_
    walk_at "xr"
    refine ⟨_, rfl, by simp, by simp, fun spD hspD => ?_⟩
    obtain ⟨sp, hsp0, hsp1, rfl⟩ : ∃ sp : Int, 0 ≤ sp ∧ sp ≤ 1000000 ∧ spD = .int sp := by
      have h1 := hb old hold
      have h2 := hb ot hot
      simp only [List.mem_cons, List.not_mem_nil, or_false] at hspD
      rcases hspD with rfl | rfl | rfl | rfl | rfl
      · exact ⟨0, by omega, by omega, rfl⟩
      · exact ⟨1000000, by omega, by omega, rfl⟩
      · exact ⟨old.2, by omega, by omega, rfl⟩
      · exact ⟨ot.2, by omega, by omega, rfl⟩
      · exact ⟨old.2 + e, by omega, by omega, rfl⟩
    walk_at "xr"
    have holdm := hnm old hold
    refine lc_mapIf ws wD wD (fun r => !decide (r.1 = old.1)) (by omega) (fun r hr N M h1 h2 => ?_) ?_
    · walk_at "xr"
      refine d_eqW (hnm r hr) holdm ?_
      have hro : decide (r = old) = decide (r.1 = old.1) := by
        refine decide_eq_decide.mpr ⟨fun h => by rw [h], fun h => ?_⟩
        by_cases hne : r = old
        · exact hne
        · exfalso
          obtain ⟨i, hi, rfl⟩ := List.mem_iff_getElem.mp hr
          obtain ⟨j, hj, rfl⟩ := List.mem_iff_getElem.mp hold
          have hpp := List.pairwise_iff_getElem.mp ok.2
          rcases Nat.lt_trichotomy i j with z | z | z
          · exact (hpp i j hi hj z).1 h
          · subst z; exact hne rfl
          · exact (hpp j i hj hi z).1 h.symm
      rw [hro, show (true != decide (r.1 = old.1)) = !decide (r.1 = old.1) by simp]
      cases e : (!decide (r.1 = old.1)) with
      | true => walk_at "xr"; exact h1 e
      | false => walk_at "xr"; exact h2 e
    have hfl := List.length_filter_le (fun q : Wt => !decide (q.1 = old.1)) ws
    obtain ⟨fs, hfs⟩ : ∃ fs, fs = ws.filter fun r => !decide (r.1 = old.1) := ⟨_, rfl⟩
    rw [← hfs] at hfl ⊢
    have hmem : ∀ r ∈ fs, r ∈ ws ∧ r.1 ≠ old.1 := fun r hr => by
      rw [hfs] at hr
      have := List.mem_filter.mp hr
      exact ⟨this.1, by simpa using this.2⟩
    walk_at "xr"
    refine lc_map fs wD (fun r => Dt.int r.2) (by omega) (fun r hr N hN => ?_) ?_
    · walk_at "xr"
      exact hN
    obtain ⟨tk, htk⟩ : ∃ tk : Bool, (tk = true ↔ ∃ r ∈ fs, r.2 = sp) := ⟨decide (∃ r ∈ fs, r.2 = sp), decide_eq_true_iff⟩
    refine ⟨_, rfl, Or.inl ⟨rfl, by simp [scalD], fun d hd => ?_, fun b hb2 => ?_⟩⟩
    · obtain ⟨r, _, rfl⟩ := List.mem_map.mp hd
      rfl
    have eb : b = tk := by
      rw [Bool.eq_iff_iff, hb2, htk]
      constructor
      · rintro ⟨d, hd, h⟩
        obtain ⟨r, hr, rfl⟩ := List.mem_map.mp hd
        exact ⟨r, hr, by simpa [scals] using h⟩
      · rintro ⟨r, hr, h⟩
        exact ⟨_, List.mem_map_of_mem hr, by simp [scals, h]⟩
    subst eb
    walk_at "xr"
    have hm := fun hb : b = false => (mov_ok lok hold hsp0 hsp1 (fun r hr hne e => by
      have : b = true := htk.mpr ⟨r, by rw [hfs]; exact List.mem_filter.mpr ⟨hr, by simpa using hne⟩, e⟩
      rw [hb] at this; cases this))
    have hmv : ∀ F : Fin, b = false → F.rt (laneX (movW ws old.1 sp) g) → dsp_Lane_moved [laneX ws g, .str old.1, .int sp] F := fun F hb h =>
      ⟨ws, g, _, _, rfl, lok, plain_str, plain_int, Or.inr (Or.inr ⟨old, hold, sp, rfl, rfl, hsp0, hsp1, (fun r hr hne e => (by
        have : b = true := htk.mpr ⟨r, by rw [hfs]; exact List.mem_filter.mpr ⟨hr, by simpa using hne⟩, e⟩
        rw [hb] at this; cases this)), h⟩)⟩
    obtain ⟨gotV, hgv⟩ : ∃ V, V = if b = true then Dt.tup [.str "InvalidPlace", .int sp] else Dt.tup [.str "", .lst ((movW ws old.1 sp).map wD)] := ⟨_, rfl⟩
    have hmlen : (movW ws old.1 sp).length ≤ 6 := by
      unfold movW
      rw [(sortW_perm _).length_eq, List.length_append, ← hfs]
      simp; omega
    have hgf : Fit 8 gotV := by
      subst hgv
      cases b with
      | true => exact .tup (fit_cons .str (fit_all1 .int))
      | false => exact .tup (fit_cons .str (fit_all1 (.lst (fun y hy => (by
          obtain ⟨p, _, rfl⟩ := List.mem_map.mp hy
          exact .tup (fit_cons .str (fit_all1 .int)))) (by rw [List.length_map]; omega))))
    refine via gotV (fun R hR => ?_) ?_
    · refine d_got (by walk_at "oo") ?_
      walk_at "xr"
      subst hgv
      cases hbb : b with
      | true =>
        rw [hbb] at hR
        obtain ⟨r, hr, hrs⟩ := htk.mp hbb
        refine ⟨ws, g, _, _, rfl, lok, plain_str, plain_int, Or.inr (Or.inl ⟨old, hold, rfl, Or.inr ⟨r, (hmem r hr).1, (hmem r hr).2, by rw [hrs]⟩, ?_⟩)⟩
        dsimp only [finE]
        exact er_at (by decide +kernel) hR
      | false =>
        rw [hbb] at hR
        refine hmv _ hbb ?_
        dsimp only [finE]
        walk_at "xr"
        refine ⟨_, g, rfl, ?_⟩
        exact hR
    walk_at "xr"
    refine d_sortD ?_
    walk_at "xr"
    refine lc_map fs wD swD (by omega) (fun r hr N hN => ?_) ?_
    · walk_at "xr"
      exact hN
    walk_at "xr"
    refine d_cat (by simp; omega) ?_
    have el : fs.map swD ++ [.tup [.int sp, .str old.1]] = (fs ++ [(old.1, sp)]).map swD := by rw [List.map_append]; rfl
    rw [el]
    obtain ⟨rowsL, hrw⟩ : ∃ l, l = ((fs ++ [(old.1, sp)]).map swD).mergeSort (PySem.W.dataLe false fD) := ⟨_, rfl⟩
    refine ⟨_, fD, rfl, fun d hd => ?_, fun d h d' h' => ?_, .inl fun d h => ?_, fun d hd => ?_, ?_⟩
    · obtain ⟨p, _, rfl⟩ := List.mem_map.mp hd
      rfl
    · obtain ⟨p, rfl⟩ := key_sw h
      obtain ⟨p', rfl⟩ := key_sw h'
      simp [PySem.W.alike, PySem.W.alikeAll]
    · obtain ⟨p, rfl⟩ := key_sw h
      exact ⟨_, _, rfl⟩
    · obtain ⟨p, _, rfl⟩ := List.mem_map.mp hd
      rw [fD_sw]; simp [PyData.depth, PyData.depthAll]
    rw [← hrw]
    walk_at "xr"
    have hrl : b = false → rowsL = (movW ws old.1 sp).map swD := fun hb => by
      rw [hrw]
      unfold movW
      rw [← hfs]
      refine sort_sw ?_
      have := (hm hb).1.2
      rw [← hfs] at this
      exact this.imp fun z => z.2
    refine viaI gotV (fun R hR => ?_) ?_
    · walk_at "xr"
      subst hgv
      cases hbb : b with
      | true =>
        rw [hbb] at hR
        walk_at "xr"
        exact hR
      | false =>
        rw [hbb] at hR
        walk_at "xr"
        rw [hrl hbb]
        refine lc_map (movW ws old.1 sp) swD wD (by omega) (fun r hr N hN => ?_) ?_
        · walk_at "xr"
          refine ⟨_, rfl, ?_⟩
          walk_at "xr"
          refine ⟨_, rfl, ?_⟩
          walk_at "xr"
          exact hN
        walk_at "xr"
        exact hR
    walk_at "xr"
    refine d_sameX hgf ?_
    walk_at "xr"
    refine ⟨ws, g, rfl, lok, ?_⟩
    dsimp only [finE]
    refine ⟨_, rfl, Or.inl ⟨_, rfl⟩, ws, g, _, rfl, by omega, hnm, Or.inl ⟨ws, g, rfl, by omega, hnm, ?_⟩⟩
    dsimp only [finE]
    refine ⟨_, rfl, ?_⟩
    rw [show (true != (decide (ws = ws) && decide (g = g))) = false by simp]
    walk_at "xr"
    refine viaB (fun R hR => ?_) ?_
    · cases hbb : b with
      | true => walk_at "xr"; exact hR
      | false =>
        have hml2 : (movW ws old.1 sp).length = ws.length := by
          unfold movW
          rw [(sortW_perm _).length_eq]
          exact (hm hbb).2.1
        walk_at "xr"
        refine ⟨rfl, ?_⟩
        refine hmv _ hbb ?_
        dsimp only [finE]
        walk_at "xr"
        refine ⟨_, g, rfl, ?_⟩
        dsimp only [finE]
        walk_at "xr"
        refine hmv _ hbb ?_
        dsimp only [finE]
        walk_at "xr"
        refine d_laneLen (by omega) ?_
        walk_at "xr"
        rw [hml2, List.length_map]
        refine d_sameF (fun x hx => ?_) (by simp) ?_
        · simp only [List.mem_cons, List.not_mem_nil, or_false] at hx
          rcases hx with rfl | rfl
          · exact .str
          · exact .int
        walk_at "xr"
        exact hR
    walk_at "xr"
    refine d_powI ⟨by decide, by decide, by decide⟩ ?_
    walk_at "xr"
    rw [show (10 : Int) ^ Int.toNat 20 = 10 ^ 20 from rfl]
    refine ⟨_, rfl, by simp, by simp, fun odd hodd => ?_⟩
    obtain ⟨po, no, fo⟩ := odd5 hodd
    walk_at "xr"
    refine d_addS (by have := isNm_len holdm; rw [show ("zzzzzzzz" : Str).length = 8 by decide +kernel]; omega) ?_
    walk_at "xr"
    refine ⟨_, rfl, by simp, fun strange hstr => ?_⟩
    obtain ⟨ps, fs2, sn⟩ := strange_no holdm hstr
    walk_at "xr"
    refine d_lamV fun ψ1 l1 => ?_
    walk_at "xr"
    refine d_lamV fun ψ0 l0 => ?_
    walk_at "xr"
    refine ⟨_, rfl, _, [1, 0], rfl, by simp, ⟨⟨_, rfl, l1⟩, ⟨_, rfl, l0⟩, trivial⟩, ?_⟩
    refine runs_cons (by walk_at "oo") ?_
    rw [lam_1]
    walk_at "xr"
    refine ⟨ws, g, _, _, rfl, lok, ps, po, Or.inl ⟨fun s hs p hp e => (by
      have h1 := sn s hs
      rw [← e, hnm p hp] at h1; cases h1), ?_⟩⟩
    dsimp only [finE]
    refine er_at (by decide +kernel) ?_
    refine runs_cons (by walk_at "oo") ?_
    rw [lam_0]
    walk_at "xr"
    refine ⟨ws, g, _, _, rfl, lok, plain_str, po, Or.inr (Or.inl ⟨old, hold, rfl, Or.inl no, ?_⟩)⟩
    dsimp only [finE]
    refine er_at (by decide +kernel) ?_
    refine runs_nil ?_
    walk_at "xr"
    refine d_sameF (l := [.tup [.str "UnknownName", strange], .tup [.str "InvalidPlace", odd]]) (fun x hx => ?_) (by simp) ?_
    · simp only [List.mem_cons, List.not_mem_nil, or_false] at hx
      rcases hx with rfl | rfl
      · exact fit_pr fs2
      · exact fit_pr fo
    walk_at "xr"
    refine hC _ ?_
    exact ⟨_, _, _, _, _, _, _, _, _, _, _, _, _, _, rfl, by walk_at "oo"⟩
end Dl

set_option Elab.async false
set_option linter.all false
set_option maxRecDepth 100000
set_option maxHeartbeats 1000000
namespace K05
open L2 PySem PySem.Spec PyProof.Rows RZ StX Cm Dl
open C8 (pe_gc)

theorem rp_getD {K : Frag} {G : Hp} : ∀ {vs : List V} {ds : List Dt}, Rps K G vs ds → ∀ i : Nat, Rp K G (vs.getD i .non) (ds.getD i .non)
  | [], _, h, i => by cases h; exact .non
  | v :: vs, _, h, i => by
    cases h with
    | cons a t => cases i with
      | zero => exact a
      | succ i => exact rp_getD t i
def top (i : Nat) : Stmt := PySem.Challenge.pw_hushlane_k05_lanes_changed.main.body.getD i (.Pass ⟨0, 0, 0, 0⟩)
def inClass (s : Stmt) (i : Nat) : Stmt := match s with
  | .ClassDef _ _ _ b _ _ _ _ _ _ _ => b.getD i (.Pass ⟨0, 0, 0, 0⟩)
  | _ => .Pass ⟨0, 0, 0, 0⟩
abbrev s_law_start : Stmt := top 19
abbrev N_law_start : List Str := ["script"]
abbrev S_law_start : Scope := defScope s_law_start
abbrev s_law_pull : Stmt := top 20
abbrev N_law_pull : List Str := ["bag", "size", "cell", "digit", "seed"]
abbrev S_law_pull : Scope := defScope s_law_pull
abbrev s_law_pick : Stmt := top 21
abbrev N_law_pick : List Str := ["bag", "some"]
abbrev S_law_pick : Scope := defScope s_law_pick
abbrev s_law_words : Stmt := top 22
abbrev N_law_words : List Str := ["bag", "count", "letters", "stem", "k", "at", "first"]
abbrev S_law_words : Scope := defScope s_law_words
abbrev s_law_lane : Stmt := top 23
abbrev N_law_lane : List Str := ["bag", "count", "wide", "words", "rows", "spot", "word"]
abbrev S_law_lane : Scope := defScope s_law_lane
abbrev s_is_name : Stmt := top 15
abbrev N_is_name : List Str := ["value", "letter"]
abbrev S_is_name : Scope := defScope s_is_name
abbrev s_is_integer : Stmt := top 13
abbrev N_is_integer : List Str := ["value"]
abbrev S_is_integer : Scope := defScope s_is_integer
abbrev s_is_number : Stmt := top 14
abbrev N_is_number : List Str := ["value", "low", "high"]
abbrev S_is_number : Scope := defScope s_is_number
abbrev s_is_watch : Stmt := top 16
abbrev N_is_watch : List Str := ["value"]
abbrev S_is_watch : Scope := defScope s_is_watch
abbrev s_Lane_init : Stmt := inClass (top 17) 1
abbrev N_Lane_init : List Str := ["self", "watches", "guard", "at", "watch", "other", "name", "place"]
abbrev S_Lane_init : Scope := defScope s_Lane_init
abbrev s_law_made_lane : Stmt := top 24
abbrev N_law_made_lane : List Str := ["lane_z"]
abbrev S_law_made_lane : Scope := defScope s_law_made_lane
abbrev s_law_kind : Stmt := top 25
abbrev N_law_kind : List Str := ["thing", "marks"]
abbrev S_law_kind : Scope := defScope s_law_kind
abbrev s_law_same : Stmt := top 26
abbrev N_law_same : List Str := ["found", "due", "a", "b"]
abbrev S_law_same : Scope := defScope s_law_same
abbrev s_law_odd : Stmt := top 30
abbrev N_law_odd : List Str := ["bag", "more"]
abbrev S_law_odd : Scope := defScope s_law_odd
abbrev s_Lane_place : Stmt := inClass (top 17) 5
abbrev N_Lane_place : List Str := ["self", "name"]
abbrev S_Lane_place : Scope := defScope s_Lane_place
abbrev s_Lane_moved : Stmt := inClass (top 17) 6
abbrev N_Lane_moved : List Str := ["self", "name", "place", "others", "watch"]
abbrev S_Lane_moved : Scope := defScope s_Lane_moved
abbrev s_Lane_watches : Stmt := inClass (top 17) 3
abbrev N_Lane_watches : List Str := ["self"]
abbrev S_Lane_watches : Scope := defScope s_Lane_watches
abbrev s_Lane_eq : Stmt := inClass (top 17) 9
abbrev N_Lane_eq : List Str := ["self", "other"]
abbrev S_Lane_eq : Scope := defScope s_Lane_eq
abbrev s_Lane_len : Stmt := inClass (top 17) 10
abbrev N_Lane_len : List Str := ["self"]
abbrev S_Lane_len : Scope := defScope s_Lane_len
abbrev s_Lane_guard : Stmt := inClass (top 17) 2
abbrev N_Lane_guard : List Str := ["self"]
abbrev S_Lane_guard : Scope := defScope s_Lane_guard
abbrev s_law_field : Stmt := top 27
abbrev N_law_field : List Str := ["e"]
abbrev S_law_field : Scope := defScope s_law_field
abbrev s_law : Stmt := top 31
abbrev N_law : List Str := ["script", "bag", "turn_k", "lane_z", "made", "old", "spot", "others", "row", "taken", "got", "rows", "due", "odd", "strange", "asks"]
abbrev S_law : Scope := defScope s_law
abbrev lv_law_start : Nat := 1
abbrev lv_law_pull : Nat := 1
abbrev lv_law_pick : Nat := 2
abbrev lv_law_words : Nat := 3
abbrev lv_law_lane : Nat := 4
abbrev lv_is_name : Nat := 1
abbrev lv_is_integer : Nat := 1
abbrev lv_is_number : Nat := 2
abbrev lv_is_watch : Nat := 3
abbrev lv_Lane_init : Nat := 4
abbrev lv_law_made_lane : Nat := 7
abbrev lv_law_kind : Nat := 1
abbrev lv_law_same : Nat := 11
abbrev lv_law_odd : Nat := 3
abbrev lv_Lane_place : Nat := 1
abbrev lv_Lane_moved : Nat := 7
abbrev lv_Lane_watches : Nat := 1
abbrev lv_Lane_eq : Nat := 1
abbrev lv_Lane_len : Nat := 1
abbrev lv_Lane_guard : Nat := 1
abbrev lv_law_field : Nat := 1
abbrev lv_law : Nat := 15
abbrev s_law_all_got : Stmt := top 29
abbrev N_law_all_got : List Str := ["asks", "ask"]
abbrev S_law_all_got : Scope := defScope s_law_all_got
abbrev s_law_got : Stmt := top 28
abbrev N_law_got : List Str := ["ask", "e"]
abbrev S_law_got : Scope := defScope s_law_got
abbrev T (K : Frag) : List (Addr × Str) := [((He.cT K ("law", none)).2, (PyProof.Rows.envOfC "law" S_law 0 0 .none).qual ++ "<lambda>"), ((He.cT K ("Lane", some "__init__")).2, (PyProof.Rows.envOfC "Lane.__init__" S_Lane_init 0 0 .none).qual ++ "<lambda>")]
abbrev mF (K : Frag) : Dl.Md := ⟨False, T K⟩
def gotCs (K : Frag) : List Value := [.ref (He.ga K "HushError"), .ref (He.ga K "Missing"), .ref (He.ga K "NothingLeft")]
abbrev s_InvalidPlace_init : Stmt := inClass (top 4) 0
abbrev s_InvalidCount_init : Stmt := inClass (top 5) 0
abbrev s_InvalidWatch_init : Stmt := inClass (top 6) 0
abbrev s_UnknownName_init : Stmt := inClass (top 7) 0
local macro_rules | `(tactic| walk_at "kv") => `(tactic| (repeat (first | exact .nil | refine .cons (vals_getD (by assumption)) ?_)))
section
variable {P : Program} {w : World} {K : Frag} {mg : Str → Option Value} {base : Heap} {f : Addr} {fd : FuncData} {es : Array DictEntry} {en : Nat}
theorem sc_law_start : FnScope N_law_start ["script"] S_law_start := ⟨rfl, rfl, rfl, by decide +kernel, rfl, by decide +kernel, by decide +kernel⟩
theorem ok_law_start (F : FunD K "_law_start" "_law_start" (defArgs s_law_start) (defBody s_law_start) S_law_start [] [] f fd) (b_len : mg "len" = none) (b_list : mg "list" = none) : FnOk P w K mg base CX0 (1) f fd ["script"] (sp_law_start K) := by
  refine F.ok sc_law_start (fun vs H Q E h => by (repeat (first | (obtain ⟨rfl, _⟩ := h; rfl) | (obtain ⟨_, h⟩ := h)))) (fun cdv A outer s H vs Q E hr h => ⟨t_law_start K, PSs.nox ?_, pure_law_start vs H Q E h⟩)
  exact (pss_seal (pss_one (ps_ret (pe_lst (pa_cons (pe_callTy cr_list (by rfl) b_list boot_list' (pa_cons (pe_slice sl_x (pv 0) po_none (po_some pe_int)) pa_nil)) (pa_cons pe_int (pa_cons pe_int (pa_cons (pe_op op_xAdd pe_int (pe_callB cr_len (by rfl) b_len boot_ln (pa_cons (pv 0) pa_nil))) (pa_cons pe_int pa_nil)))))))))
theorem sc_law_pull : FnScope N_law_pull ["bag", "size"] S_law_pull := ⟨rfl, rfl, rfl, by decide +kernel, rfl, by decide +kernel, by decide +kernel⟩
theorem ok_law_pull (F : FunD K "_law_pull" "_law_pull" (defArgs s_law_pull) (defBody s_law_pull) S_law_pull [] [] f fd) (b_int : mg "int" = none) (b_len : mg "len" = none) : FnOk P w K mg base CX0 (1) f fd ["bag", "size"] (sp_law_pull K) := by
  refine F.ok sc_law_pull (fun vs H Q E h => by (repeat (first | (obtain ⟨rfl, _⟩ := h; rfl) | (obtain ⟨_, h⟩ := h)))) (fun cdv A outer s H vs Q E hr h => ⟨t_law_pull K, PSs.nox ?_, pure_law_pull vs H Q E h⟩)
  exact (pss_look (Evl.pss_cut (ps_if (PW.pt (pw_and (pt_cmpR (op_xEq hr.units) (pe_ix ix_seq (pv 0) pe_int (fun _ _ => rfl)) pe_int (nomark _)) (pw_and1 (pt_cmpR op_xLt (pe_ix ix_seq (pv 0) pe_int (fun _ _ => rfl)) (pe_callB cr_len (by rfl) b_len boot_ln (pa_cons (pe_ix ix_seq (pv 0) pe_int (fun _ _ => rfl)) pa_nil)) (nomark _))))) (pss_cons (ps_set (i := 2) sc_law_pull.nd rfl (by first | exact Or.inl rfl | exact Or.inr rfl) (pe_ix ix_seq (pe_ix ix_seq (pv 0) pe_int (fun _ _ => rfl)) (pe_ix ix_seq (pv 0) pe_int (fun _ _ => rfl)) (fun _ _ => rfl))) (pss_cons (ps_asg (pe_op op_xAdd (pe_ix ix_seq (pv 0) pe_int (fun _ _ => rfl)) pe_int) (pg_sub (pv 0) pe_int set_list)) (pss_one (ps_if (pt_cmpR op_xGe (pv 2) (pe_op op_xPow pe_int pe_int) (nomark _)) (pss_one (ps_asg (pv 2) (pg_sub (pv 0) pe_int set_list))) (pss_one (ps_asg (pe_op op_xMod (pe_callTy cr_int (by rfl) b_int boot_int' (pa_cons (pe_op op_xAdd (pe_op op_xAdd (pe_op op_xMul (pe_ix ix_seq (pv 0) pe_int (fun _ _ => rfl)) pe_int) (pe_op op_xMul (pe_op op_xMod (pe_callTy cr_int (by rfl) b_int boot_int' (pa_cons (pv 2) pa_nil)) pe_int) pe_int)) pe_int) pa_nil)) pe_int) (pg_sub (pv 0) pe_int set_list))))))) pss_nil) (pss_cons (ps_if (pt_cmpR op_xGt (pe_ix ix_seq (pv 0) pe_int (fun _ _ => rfl)) pe_int (nomark _)) (pss_cons (ps_set (i := 3) sc_law_pull.nd rfl (by first | exact Or.inl rfl | exact Or.inr rfl) (pe_op op_xMod (pe_callTy cr_int (by rfl) b_int boot_int' (pa_cons (pe_ix ix_seq (pv 0) pe_int (fun _ _ => rfl)) pa_nil)) (pv 1))) (pss_cons (ps_asg (pe_op op_xDiv (pe_ix ix_seq (pv 0) pe_int (fun _ _ => rfl)) (pv 1)) (pg_sub (pv 0) pe_int set_list)) (pss_one (ps_ret (pv 3))))) pss_nil) (pss_cons (ps_asg (pe_op op_xAdd (pe_ix ix_seq (pv 0) pe_int (fun _ _ => rfl)) pe_int) (pg_sub (pv 0) pe_int set_list)) (pss_cons (ps_set (i := 4) sc_law_pull.nd rfl (by first | exact Or.inl rfl | exact Or.inr rfl) (pe_ix ix_seq (pv 0) pe_int (fun _ _ => rfl))) (pss_cons (ps_asg (pe_op op_xMod (pe_callTy cr_int (by rfl) b_int boot_int' (pa_cons (pe_op op_xAdd (pe_op op_xAdd (pe_op op_xAdd (pe_op op_xMul (pv 4) (pv 4)) (pe_op op_xMul (pv 4) pe_int)) (pe_op op_xMul (pe_ix ix_seq (pv 0) pe_int (fun _ _ => rfl)) pe_int)) pe_int) pa_nil)) pe_int) (pg_sub (pv 0) pe_int set_list)) (pss_one (ps_ret (pe_op op_xMod (pe_callTy cr_int (by rfl) b_int boot_int' (pa_cons (pe_op op_xAdd (pe_op op_xDiv (pe_ix ix_seq (pv 0) pe_int (fun _ _ => rfl)) pe_int) (pe_op op_xMul (pe_op op_xMod (pe_callTy cr_int (by rfl) b_int boot_int' (pa_cons (pe_ix ix_seq (pv 0) pe_int (fun _ _ => rfl)) pa_nil)) pe_int) pe_int)) pa_nil)) (pv 1))))))))))
theorem sc_law_pick : FnScope N_law_pick ["bag", "some"] S_law_pick := ⟨rfl, rfl, rfl, by decide +kernel, rfl, by decide +kernel, by decide +kernel⟩
theorem ok_law_pick (F : FunD K "_law_pick" "_law_pick" (defArgs s_law_pick) (defBody s_law_pick) S_law_pick [] [] f fd) (f_law_pull : Fn P w K mg base CX0 1 "_law_pull" ["bag", "size"] (sp_law_pull K)) (b_len : mg "len" = none) : FnOk P w K mg base CX0 (2) f fd ["bag", "some"] (sp_law_pick K) := by
  refine F.ok sc_law_pick (fun vs H Q E h => by (repeat (first | (obtain ⟨rfl, _⟩ := h; rfl) | (obtain ⟨_, h⟩ := h)))) (fun cdv A outer s H vs Q E hr h => ⟨t_law_pick K, PSs.nox ?_, pure_law_pick vs H Q E h⟩)
  exact (pss_one (ps_ret (pe_ix ix_seq (pv 1) (pe_fn f_law_pull hr (by omega) (by rfl) pass0 (pa_cons (pv 0) (pa_cons (pe_callB cr_len (by rfl) b_len boot_ln (pa_cons (pv 1) pa_nil)) pa_nil))) (fun _ _ => rfl))))
theorem sc_law_words : FnScope N_law_words ["bag", "count"] S_law_words := ⟨rfl, rfl, rfl, by decide +kernel, rfl, by decide +kernel, by decide +kernel⟩
def tn_law_words (K : Frag) : TS := (tSeq (tAsg (tC (.str "abcdefghijklmnopqrstuvwxyz")) (gName 2)) (tSeq (tAsg (tJn K (tC (.str "")) (tLc (iRng1 (tCons (tCall (sp_law_pick K) [] E0 (tCons (tVar 0) (tCons (tLst (tCons (tC (.int 0)) (tCons (tC (.int 1)) (tCons (tC (.int 2)) (tCons (tC (.int 7)) tNil))))) tNil))) tNil)) (gName 4) tYes (tCall (sp_law_pick K) [] E0 (tCons (tVar 0) (tCons (tVar 2) tNil))) [4])) (gName 3)) (tSeq (tAsg (tTup (tCons (tCall (sp_law_pull K) [] E0 (tCons (tVar 0) (tCons (tOp (xAdd K) (tCB (rLn K) (tCons (tVar 3) tNil)) (tC (.int 1))) tNil))) (tCons (tCall (sp_law_pull K) [] E0 (tCons (tVar 0) (tCons (tC (.int 26)) tNil))) tNil))) (gTup K 2 (gCons (gName 5) (gCons (gName 6) gNil)))) (tRet (tLc (iRng1 (tCons (tVar 1) tNil)) (gName 4) tYes (tOp (xAdd K) (tOp (xAdd K) (tSl (xSl K) (tVar 3) tNoPart (tPart (tVar 5))) (tOp (rIx K) (tVar 2) (tOp xMod (tCB rInt (tCons (tOp (xAdd K) (tVar 6) (tOp xMul (tC (.int 7)) (tVar 4))) tNil)) (tC (.int 26))))) (tSl (xSl K) (tVar 3) (tPart (tVar 5)) tNoPart)) [4])))))
theorem li_law_words {lk : Lk} {K : Frag} (hT : lk.T = T K) (hp : ¬ lk.p)  : LiftS lk K (tn_law_words K) d_law_words := (l_seq (l_asg (l_c fun _ => .str _) (l_name 2)) (l_seq (l_asg (l_jn (l_c fun _ => .str _) (l_ofL (l_lcL (l_iRng1 (l_cons (l_call ok_pickA (l_cons l_var (l_cons (l_lst (l_cons (l_c fun _ => .int _) (l_cons (l_c fun _ => .int _) (l_cons (l_c fun _ => .int _) (l_cons (l_c fun _ => .int _) l_nil))))) l_nil))) l_nil)) (l_name 4) l_yes (l_call ok_pickA (l_cons l_var (l_cons l_var l_nil))) (by decide)))) (l_name 3)) (l_seq (l_asg (l_tup (l_cons (l_call ok_pull (l_cons l_var (l_cons (l_op (l_cb (l_cons l_var l_nil) o_len) (l_c fun _ => .int _) o_add) l_nil))) (l_cons (l_call ok_pull (l_cons l_var (l_cons (l_c fun _ => .int _) l_nil))) l_nil))) (l_gtup (l_gcons (l_name 5) (l_gcons (l_name 6) l_gnil)))) (l_ret (l_ofL (l_lcL (l_iRng1 (l_cons l_var l_nil)) (l_name 4) l_yes (l_op (l_op (l_sl l_var l_noPart (l_part l_var) o_sl) (l_op l_var (l_op (l_cb (l_cons (l_op l_var (l_op (l_c fun _ => .int _) l_var o_mul) o_add) l_nil) o_int) (l_c fun _ => .int _) o_mod) o_ix) o_add) (l_sl l_var (l_part l_var) l_noPart o_sl) o_add) (by decide)))))))
theorem ok_law_words (F : FunD K "_law_words" "_law_words" (defArgs s_law_words) (defBody s_law_words) S_law_words [] [] f fd) (f_law_pick : Fn P w K mg base CX0 2 "_law_pick" ["bag", "some"] (sp_law_pick K)) (f_law_pull : Fn P w K mg base CX0 1 "_law_pull" ["bag", "size"] (sp_law_pull K)) (b_int : mg "int" = none) (b_len : mg "len" = none) (b_range : mg "range" = none) : FnOk P w K mg base CX0 (3) f fd ["bag", "count"] (spOf (mF K) K dsp_law_words) := by
  refine F.ok sc_law_words (fun vs H Q E h => by obtain ⟨G, ds, Qd, s, r, h, k⟩ := h; rw [rps_len r]; (repeat (first | (obtain ⟨rfl, _⟩ := h; rfl) | (obtain ⟨_, h⟩ := h)))) (fun cdv A outer s H vs Q E hr h => ⟨_, PSs.nox ?_, Dl.fn_of (m := mF K) (fun lk h1 h2 _ _ => li_law_words (K := K) (congrArg Dl.Md.T h1) (by rw [h2]; exact id)) p_law_words vs H Q E h⟩)
  exact (pss_cons (ps_set (i := 2) sc_law_words.nd rfl (by first | exact Or.inl rfl | exact Or.inr rfl) pe_str) (pss_cons (ps_set (i := 3) sc_law_words.nd rfl (by first | exact Or.inl rfl | exact Or.inr rfl) (pe_join pe_str (pe_lc (own := [("k", 4)]) (g := (gName 4)) (tt := tYes) rfl sc_law_words.nd (pi_range1 (by rfl) b_range (pa_cons (pe_fn f_law_pick hr (by omega) (by rfl) pass0 (pa_cons (pv 0) (pa_cons (pe_lst (pa_cons pe_int (pa_cons pe_int (pa_cons pe_int (pa_cons pe_int pa_nil))))) pa_nil))) pa_nil)) (blkOk_by (own := [("k", 4)]) (N := N_law_words) (sc := S_law_words) (by decide +kernel)) (fun _ _ _ _ _ => (pg_name (i := 4) sc_law_words.nd rfl (by first | exact Or.inl rfl | exact Or.inr rfl))) (fun _ _ _ _ _ => pts_nil) (fun _ _ _ _ _ => (pe_fn f_law_pick hr (by omega) (by rfl) pass0 (pa_cons (pv 0) (pa_cons (pv 2) pa_nil))))) (by rfl) (by rfl) (by rfl))) (pss_cons (ps_asg (pe_tup (pa_cons (pe_fn f_law_pull hr (by omega) (by rfl) pass0 (pa_cons (pv 0) (pa_cons (pe_op op_xAdd (pe_callB cr_len (by rfl) b_len boot_ln (pa_cons (pv 3) pa_nil)) pe_int) pa_nil))) (pa_cons (pe_fn f_law_pull hr (by omega) (by rfl) pass0 (pa_cons (pv 0) (pa_cons pe_int pa_nil))) pa_nil))) (pg_tup rfl (pgs_cons (pg_name (i := 5) sc_law_words.nd rfl (by first | exact Or.inl rfl | exact Or.inr rfl)) (pgs_cons (pg_name (i := 6) sc_law_words.nd rfl (by first | exact Or.inl rfl | exact Or.inr rfl)) pgs_nil)))) (pss_one (ps_ret (pe_lc (own := [("k", 4)]) (g := (gName 4)) (tt := tYes) rfl sc_law_words.nd (pi_range1 (by rfl) b_range (pa_cons (pv 1) pa_nil)) (blkOk_by (own := [("k", 4)]) (N := N_law_words) (sc := S_law_words) (by decide +kernel)) (fun _ _ _ _ _ => (pg_name (i := 4) sc_law_words.nd rfl (by first | exact Or.inl rfl | exact Or.inr rfl))) (fun _ _ _ _ _ => pts_nil) (fun _ _ _ _ _ => (pe_op op_xAdd (pe_op op_xAdd (pe_slice sl_x (pv 3) po_none (po_some (pv 5))) (pe_ix ix_seq (pv 2) (pe_op op_xMod (pe_callTy cr_int (by rfl) b_int boot_int' (pa_cons (pe_op op_xAdd (pv 6) (pe_op op_xMul pe_int (pv 4))) pa_nil)) pe_int) (fun _ _ => rfl))) (pe_slice sl_x (pv 3) (po_some (pv 5)) po_none)))))))))
theorem sc_law_lane : FnScope N_law_lane ["bag", "count", "wide"] S_law_lane := ⟨rfl, rfl, rfl, by decide +kernel, rfl, by decide +kernel, by decide +kernel⟩
def tn_law_lane (K : Frag) : TS := (tSeq (tPar 3 4 (tCons (tCall (spOf (mF K) K dsp_law_words) [] E0 (tCons (tVar 0) (tCons (tVar 1) tNil))) (tCons (tLst tNil) tNil))) (tSeq (tAsg (tCall (sp_law_pick K) [] E0 (tCons (tVar 0) (tCons (tLst (tCons (tC (.int 0)) (tCons (tC (.int 0)) (tCons (tC (.int 3)) (tCons (tCall (sp_law_pull K) [] E0 (tCons (tVar 0) (tCons (tC (.int 1000)) tNil))) tNil))))) tNil))) (gName 5)) (tSeq (tFor (iList K (tVar 3)) (gName 6) (tSeq (tDrop (tBM K "list" rAppend (tVar 4) (tCons (tTup (tCons (tVar 6) (tCons (tVar 5) tNil))) tNil))) (tAsg (tOp (xAdd K) (tOp (xAdd K) (tVar 5) (tC (.int 1))) (tCall (sp_law_pull K) [] E0 (tCons (tVar 0) (tCons (tVar 2) tNil)))) (gName 5)))) (tRet (tTup (tCons (tVar 4) (tCons (tCall (sp_law_pick K) [] E0 (tCons (tVar 0) (tCons (tVar 3) tNil))) tNil)))))))
theorem li_law_lane {lk : Lk} {K : Frag} (hT : lk.T = T K) (hp : ¬ lk.p)  : LiftS lk K (tn_law_lane K) d_law_lane := (l_seq (l_parVL hp (l_call (spOf_ok0 hT) (l_cons l_var (l_cons l_var l_nil))) (l_lstL l_nil)) (l_seq (l_asg (l_call ok_pickL (l_cons l_var (l_cons (l_lst (l_cons (l_c fun _ => .int _) (l_cons (l_c fun _ => .int _) (l_cons (l_c fun _ => .int _) (l_cons (l_call ok_pull (l_cons l_var (l_cons (l_c fun _ => .int _) l_nil))) l_nil))))) l_nil))) (l_name 5)) (l_seq (l_for (l_iList l_var) (l_name 6) (l_seq (l_app (l_tup (l_cons l_var (l_cons l_var l_nil)))) (l_asg (l_op (l_op l_var (l_c fun _ => .int _) o_add) (l_call ok_pull (l_cons l_var (l_cons l_var l_nil))) o_add) (l_name 5)))) (l_frz (l_ret (l_tup (l_cons l_var (l_cons (l_call ok_pickL (l_cons l_var (l_cons l_var l_nil))) l_nil))))))))
theorem ok_law_lane (F : FunD K "_law_lane" "_law_lane" (defArgs s_law_lane) (defBody s_law_lane) S_law_lane [] [] f fd) (f_law_words : Fn P w K mg base CX0 3 "_law_words" ["bag", "count"] (spOf (mF K) K dsp_law_words)) (f_law_pick : Fn P w K mg base CX0 2 "_law_pick" ["bag", "some"] (sp_law_pick K)) (f_law_pull : Fn P w K mg base CX0 1 "_law_pull" ["bag", "size"] (sp_law_pull K)) : FnOk P w K mg base CX0 (4) f fd ["bag", "count", "wide"] (spOf (mF K) K dsp_law_lane) := by
  refine F.ok sc_law_lane (fun vs H Q E h => by obtain ⟨G, ds, Qd, s, r, h, k⟩ := h; rw [rps_len r]; (repeat (first | (obtain ⟨rfl, _⟩ := h; rfl) | (obtain ⟨_, h⟩ := h)))) (fun cdv A outer s H vs Q E hr h => ⟨_, PSs.nox ?_, Dl.fn_of (m := mF K) (fun lk h1 h2 _ _ => li_law_lane (K := K) (congrArg Dl.Md.T h1) (by rw [h2]; exact id)) p_law_lane vs H Q E h⟩)
  exact (pss_cons (ps_par (i := 3) (j := 4) rfl sc_law_lane.nd rfl rfl (by decide) rfl rfl (pa_cons (pe_fn f_law_words hr (by omega) (by rfl) pass0 (pa_cons (pv 0) (pa_cons (pv 1) pa_nil))) (pa_cons (pe_lst pa_nil) pa_nil)) (by rfl)) (pss_cons (ps_set (i := 5) sc_law_lane.nd rfl (by first | exact Or.inl rfl | exact Or.inr rfl) (pe_fn f_law_pick hr (by omega) (by rfl) pass0 (pa_cons (pv 0) (pa_cons (pe_lst (pa_cons pe_int (pa_cons pe_int (pa_cons pe_int (pa_cons (pe_fn f_law_pull hr (by omega) (by rfl) pass0 (pa_cons (pv 0) (pa_cons pe_int pa_nil))) pa_nil))))) pa_nil)))) (pss_cons (ps_for PassesOwn.never rfl (pi_list (pv 3)) (pg_name (i := 6) sc_law_lane.nd rfl (by first | exact Or.inl rfl | exact Or.inr rfl)) (pss_cons (ps_expr (pe_bm PySem.F.plainAttrs_list PySem.F.slot_list_append PySem.F.type_list_append mt_append (pv 4) (pa_cons (pe_tup (pa_cons (pv 6) (pa_cons (pv 5) pa_nil))) pa_nil))) (pss_one (ps_set (i := 5) sc_law_lane.nd rfl (by first | exact Or.inl rfl | exact Or.inr rfl) (pe_op op_xAdd (pe_op op_xAdd (pv 5) pe_int) (pe_fn f_law_pull hr (by omega) (by rfl) pass0 (pa_cons (pv 0) (pa_cons (pv 2) pa_nil)))))))) (pss_one (ps_ret (pe_tup (pa_cons (pv 4) (pa_cons (pe_fn f_law_pick hr (by omega) (by rfl) pass0 (pa_cons (pv 0) (pa_cons (pv 3) pa_nil))) pa_nil))))))))
theorem sc_is_name : FnScope N_is_name ["value"] S_is_name := ⟨rfl, rfl, rfl, by decide +kernel, rfl, by decide +kernel, by decide +kernel⟩
def tn_is_name (K : Frag) : TS := (tSeq (tIfS (tOr (tNot (tB (tCB (rIsi K) (tCons (tVar 0) (tCons (tC (.ty "str")) tNil))))) (tNot (tTest (tChain xLe xLe (tC (.int 1)) (tCB (rLn K) (tCons (tVar 0) tNil)) (tC (.int 8)))))) (tRet (tC (.bl false))) tNext) (tRet (tCB (rAll K) (tCons (tLc (iStr (tVar 0)) (gName 1) tYes (tOp (xIn K) (tVar 1) (tC (.str "abcdefghijklmnopqrstuvwxyz"))) [1]) tNil))))
theorem li_is_name {lk : Lk} {K : Frag} (hT : lk.T = T K) (hp : ¬ lk.p)  : LiftS lk K (tn_is_name K) d_is_name := (l_seq (l_ifS (l_or (l_not (l_tB (l_cb (l_cons l_var (l_cons (l_c fun _ => .ty _) l_nil)) o_isi))) (l_not (l_test (l_chain (l_c fun _ => .int _) (l_cb (l_cons l_var l_nil) o_len) (l_c fun _ => .int _) o_le o_le)))) (l_ret (l_c fun _ => .bl _)) l_next) (l_ret (l_cb (l_cons (l_ofL (l_lcL (l_iStr l_var) (l_name 1) l_yes (l_op l_var (l_c fun _ => .str _) o_in) (by decide))) l_nil) o_all)))
theorem ok_is_name (F : FunD K "is_name" "is_name" (defArgs s_is_name) (defBody s_is_name) S_is_name [] [] f fd) (b_all : mg "all" = none) (b_isinstance : mg "isinstance" = none) (b_len : mg "len" = none) (b_str : mg "str" = none) (c_LETTERS : ∃ u, mg "LETTERS" = some u ∧ RelV (.str "abcdefghijklmnopqrstuvwxyz") u) (c_MOST_LETTERS : ∃ u, mg "MOST_LETTERS" = some u ∧ RelV (.int 8) u) : FnOk P w K mg base CX0 (1) f fd ["value"] (spOf (mF K) K dsp_is_name) := by
  refine F.ok sc_is_name (fun vs H Q E h => by obtain ⟨G, ds, Qd, s, r, h, k⟩ := h; rw [rps_len r]; (repeat (first | (obtain ⟨rfl, _⟩ := h; rfl) | (obtain ⟨_, h⟩ := h)))) (fun cdv A outer s H vs Q E hr h => ⟨_, PSs.nox ?_, Dl.fn_of (m := mF K) (fun lk h1 h2 _ _ => li_is_name (K := K) (congrArg Dl.Md.T h1) (by rw [h2]; exact id)) p_is_name vs H Q E h⟩)
  have hu65 : (Around.deeper A (PyProof.Rows.envOfC "is_name" S_is_name s.heap.objs.size f cdv)).units + 65 < cLine := by have := hr.un; omega
  exact (pss_cons (ps_if (PW.pt (pw_or (pt_not (pt_val (pe_callB call_isi (by rfl) b_isinstance boot_isinst (pa_cons (pv 0) (pa_cons (pe_bltn (by rfl) b_str boot_str' rfl) pa_nil))))) (pw_or1 (pt_not (pt_chain op_xLe op_xLe pe_int (pe_callB cr_len (by rfl) b_len boot_ln (pa_cons (pv 0) pa_nil)) (pe_gc (by rfl) c_MOST_LETTERS)))))) (pss_one (ps_ret pe_bl)) pss_nil) (pss_one (ps_ret (pe_callB (cr_all rfl) (by rfl) b_all boot_all' (pa_cons (pe_lc (own := [("letter", 1)]) (g := (gName 1)) (tt := tYes) rfl sc_is_name.nd (pi_str (pv 0)) (blkOk_by (own := [("letter", 1)]) (N := N_is_name) (sc := S_is_name) (by decide +kernel)) (fun _ _ _ _ _ => (pg_name (i := 1) sc_is_name.nd rfl (by first | exact Or.inl rfl | exact Or.inr rfl))) (fun _ _ _ _ _ => pts_nil) (fun _ _ _ _ _ => (pe_cmpR (op_xIn hu65) (pv 1) (pe_gc (by rfl) c_LETTERS) rfl))) pa_nil)))))
theorem sc_is_integer : FnScope N_is_integer ["value"] S_is_integer := ⟨rfl, rfl, rfl, by decide +kernel, rfl, by decide +kernel, by decide +kernel⟩
theorem ok_is_integer (F : FunD K "is_integer" "is_integer" (defArgs s_is_integer) (defBody s_is_integer) S_is_integer [] [] f fd) (b_bool : mg "bool" = none) (b_int : mg "int" = none) (b_isinstance : mg "isinstance" = none) : FnOk P w K mg base CX0 (1) f fd ["value"] (sp_is_integer K) := by
  refine F.ok sc_is_integer (fun vs H Q E h => by (repeat (first | (obtain ⟨rfl, _⟩ := h; rfl) | (obtain ⟨_, h⟩ := h)))) (fun cdv A outer s H vs Q E hr h => ⟨t_is_integer K, PSs.nox ?_, pure_is_integer vs H Q E h⟩)
  exact (pss_one (ps_ret (pe_and (pe_callB call_isi (by rfl) b_isinstance boot_isinst (pa_cons (pv 0) (pa_cons (pe_bltn (by rfl) b_int boot_int' rfl) pa_nil))) (pe_one (pe_not (pe_callB call_isi (by rfl) b_isinstance boot_isinst (pa_cons (pv 0) (pa_cons (pe_bltn (by rfl) b_bool boot_bool' rfl) pa_nil))))))))
theorem sc_is_number : FnScope N_is_number ["value", "low", "high"] S_is_number := ⟨rfl, rfl, rfl, by decide +kernel, rfl, by decide +kernel, by decide +kernel⟩
theorem ok_is_number (F : FunD K "is_number" "is_number" (defArgs s_is_number) (defBody s_is_number) S_is_number [] [] f fd) (f_is_integer : Fn P w K mg base CX0 1 "is_integer" ["value"] (sp_is_integer K)) : FnOk P w K mg base CX0 (2) f fd ["value", "low", "high"] (sp_is_number K) := by
  refine F.ok sc_is_number (fun vs H Q E h => by (repeat (first | (obtain ⟨rfl, _⟩ := h; rfl) | (obtain ⟨_, h⟩ := h)))) (fun cdv A outer s H vs Q E hr h => ⟨t_is_number K, PSs.nox ?_, pure_is_number vs H Q E h⟩)
  exact (pss_one (ps_ret (pe_and (pe_fn f_is_integer hr (by omega) (by rfl) pass0 (pa_cons (pv 0) pa_nil)) (pe_one (pe_chain op_xLe op_xLe (pv 1) (pv 0) (pv 2))))))
theorem sc_is_watch : FnScope N_is_watch ["value"] S_is_watch := ⟨rfl, rfl, rfl, by decide +kernel, rfl, by decide +kernel, by decide +kernel⟩
def tn_is_watch (K : Frag) : TS := (tSeq (tIfS (tOr (tNot (tB (tCB (rIsi K) (tCons (tVar 0) (tCons (tC (.ty "tuple")) tNil))))) (tTest (tOp (xNe K) (tCB (rLn K) (tCons (tVar 0) tNil)) (tC (.int 2))))) (tRet (tC (.bl false))) tNext) (tRet (tAndV (tCall (spOf (mF K) K dsp_is_name) [] E0 (tCons (tOp (rIx K) (tVar 0) (tC (.int 0))) tNil)) (tCall (sp_is_number K) [] E0 (tCons (tOp (rIx K) (tVar 0) (tC (.int 1))) (tCons (tC (.int 0)) (tCons (tC (.int 1000000)) tNil)))))))
theorem li_is_watch {lk : Lk} {K : Frag} (hT : lk.T = T K) (hp : ¬ lk.p)  : LiftS lk K (tn_is_watch K) d_is_watch := (l_seq (l_ifS (l_or (l_not (l_tB (l_cb (l_cons l_var (l_cons (l_c fun _ => .ty _) l_nil)) o_isi))) (l_test (l_op (l_cb (l_cons l_var l_nil) o_len) (l_c fun _ => .int _) o_ne))) (l_ret (l_c fun _ => .bl _)) l_next) (l_ret (l_andV (l_call (spOf_ok0 hT) (l_cons (l_op l_var (l_c fun _ => .int _) o_ix) l_nil)) (l_call ok_number (l_cons (l_op l_var (l_c fun _ => .int _) o_ix) (l_cons (l_c fun _ => .int _) (l_cons (l_c fun _ => .int _) l_nil)))))))
theorem ok_is_watch (F : FunD K "is_watch" "is_watch" (defArgs s_is_watch) (defBody s_is_watch) S_is_watch [] [] f fd) (f_is_name : Fn P w K mg base CX0 1 "is_name" ["value"] (spOf (mF K) K dsp_is_name)) (f_is_number : Fn P w K mg base CX0 2 "is_number" ["value", "low", "high"] (sp_is_number K)) (b_isinstance : mg "isinstance" = none) (b_len : mg "len" = none) (b_tuple : mg "tuple" = none) (c_MOST_NUMBER : ∃ u, mg "MOST_NUMBER" = some u ∧ RelV (.int 1000000) u) : FnOk P w K mg base CX0 (3) f fd ["value"] (spOf (mF K) K dsp_is_watch) := by
  refine F.ok sc_is_watch (fun vs H Q E h => by obtain ⟨G, ds, Qd, s, r, h, k⟩ := h; rw [rps_len r]; (repeat (first | (obtain ⟨rfl, _⟩ := h; rfl) | (obtain ⟨_, h⟩ := h)))) (fun cdv A outer s H vs Q E hr h => ⟨_, PSs.nox ?_, Dl.fn_of (m := mF K) (fun lk h1 h2 _ _ => li_is_watch (K := K) (congrArg Dl.Md.T h1) (by rw [h2]; exact id)) p_is_watch vs H Q E h⟩)
  exact (pss_cons (ps_if (PW.pt (pw_or (pt_not (pt_val (pe_callB call_isi (by rfl) b_isinstance boot_isinst (pa_cons (pv 0) (pa_cons (pe_bltn (by rfl) b_tuple boot_tuple' rfl) pa_nil))))) (pw_or1 (pt_cmpR (op_xNe hr.units) (pe_callB cr_len (by rfl) b_len boot_ln (pa_cons (pv 0) pa_nil)) pe_int (nomark _))))) (pss_one (ps_ret pe_bl)) pss_nil) (pss_one (ps_ret (pe_and (pe_fn f_is_name hr (by omega) (by rfl) pass0 (pa_cons (pe_ix ix_seq (pv 0) pe_int (fun _ _ => rfl)) pa_nil)) (pe_one (pe_fn f_is_number hr (by omega) (by rfl) pass0 (pa_cons (pe_ix ix_seq (pv 0) pe_int (fun _ _ => rfl)) (pa_cons pe_int (pa_cons (pe_gc (by rfl) c_MOST_NUMBER) pa_nil)))))))))
theorem sc_Lane_init : FnScope N_Lane_init ["self", "watches", "guard"] S_Lane_init := ⟨rfl, rfl, rfl, by decide +kernel, rfl, by decide +kernel, by decide +kernel⟩
def tn_Lane_init (K : Frag) (E : XK) : TS := (tSeq (tIfS (tNot (tTest (tChain xLe xLe (tC (.int 1)) (tCB (rLn K) (tCons (tVar 1) tNil)) (ClX.tCVal K (tC (.ref (He.ga K "Lane"))) "MOST")))) (tRaise1 (He.ga K "InvalidCount") "given" "InvalidCount" (tCons (tCB (rLn K) (tCons (tVar 1) tNil)) tNil) E) tNext) (tSeq (tFor (iEnumA K (tCons (tVar 1) tNil)) (gTup K 2 (gCons (gName 3) (gCons (gName 4) gNil))) (tSeq (tIfS (tNot (tB (tCall (spOf (mF K) K dsp_is_watch) [] E0 (tCons (tVar 4) tNil)))) (tRaise1 (He.ga K "InvalidWatch") "at" "InvalidWatch" (tCons (tVar 3) tNil) E) tNext) (tIfS (tB (tCB (rAny K) (tCons (tLc (iSeq K (tSl (xSl K) (tVar 1) tNoPart (tPart (tVar 3)))) (gName 5) tYes (tOrV (tOp (xEq K) (tOp (rIx K) (tVar 4) (tC (.int 0))) (tOp (rIx K) (tVar 5) (tC (.int 0)))) (tOp (xEq K) (tOp (rIx K) (tVar 4) (tC (.int 1))) (tOp (rIx K) (tVar 5) (tC (.int 1))))) [5]) tNil))) (tRaise1 (He.ga K "InvalidWatch") "at" "InvalidWatch" (tCons (tVar 3) tNil) E) tNext))) (tSeq (sFld K (tVar 0) (tSortA K (T K) (tCB (rList K) (tCons (tVar 1) tNil)) (tOp (rIx K) (tVar 0) (tC (.int 1)))) "own_watches") (tSeq (sFld K (tVar 0) (tDc (iList K (tFld K (tVar 0) "own_watches")) (gTup K 2 (gCons (gName 6) (gCons (gName 7) gNil))) tYes (tVar 6) (tVar 7) [6, 7]) "places") (tSeq (tIfS (tOr (tNot (tB (tCB (rIsi K) (tCons (tVar 2) (tCons (tC (.ty "str")) tNil))))) (tTest (tOp xNotInDk (tVar 2) (tFld K (tVar 0) "places")))) (tRaise1 (He.ga K "UnknownName") "name" "UnknownName" (tCons (tVar 2) tNil) E) tNext) (sFld K (tVar 0) (tVar 2) "own_guard"))))))
theorem li_Lane_init {lk : Lk} {K : Frag} (hT : lk.T = T K) (hp : ¬ lk.p) (hw : lk.w) (a_Lane_own_guard : FldOk K "Lane" "own_guard") (a_Lane_own_watches : FldOk K "Lane" "own_watches") (a_Lane_places : FldOk K "Lane" "places") (cc_Lane_MOST : CcOk K "Lane" "MOST" (.int 5)) : LiftS lk K (tn_Lane_init K lk.E) (d_Lane_init lk.er) := (l_seq (l_ifS (l_not (l_test (l_chain (l_c fun _ => .int _) (l_cb (l_cons l_var l_nil) o_len) (l_cc cc_Lane_MOST fun _ => .int _) o_le o_le))) (l_raise1 (l_cons (l_cb (l_cons l_var l_nil) o_len) l_nil)) l_next) (l_seq (l_for (l_iEnum (l_cons l_var l_nil)) (l_gtup (l_gcons (l_name 3) (l_gcons (l_name 4) l_gnil))) (l_seq (l_ifS (l_not (l_tB (l_call (spOf_ok0 hT) (l_cons l_var l_nil)))) (l_raise1 (l_cons l_var l_nil)) l_next) (l_ifS (l_tB (l_cb (l_cons (l_ofL (l_lcL (l_iSeq (l_sl l_var l_noPart (l_part l_var) o_sl)) (l_name 5) l_yes (l_orV (l_op (l_op l_var (l_c fun _ => .int _) o_ix) (l_op l_var (l_c fun _ => .int _) o_ix) o_eq) (l_op (l_op l_var (l_c fun _ => .int _) o_ix) (l_op l_var (l_c fun _ => .int _) o_ix) o_eq)) (by decide))) l_nil) o_any)) (l_raise1 (l_cons l_var l_nil)) l_next))) (l_seq (l_putF (List.forall_mem_cons.mpr ⟨a_Lane_own_watches, (List.forall_mem_nil _)⟩) (l_ofL (l_sortA hw hT (l_cb (l_cons l_var l_nil) o_list) (l_op l_var (l_c fun _ => .int _) o_ix)))) (l_seq (l_putF (List.forall_mem_cons.mpr ⟨a_Lane_places, (List.forall_mem_nil _)⟩) (l_dc (l_iList (l_fldO (List.forall_mem_cons.mpr ⟨a_Lane_own_watches, (List.forall_mem_nil _)⟩))) (l_gtup (l_gcons (l_name 6) (l_gcons (l_name 7) l_gnil))) l_yes l_var l_var (by decide))) (l_seq (l_ifS (l_or (l_not (l_tB (l_cb (l_cons l_var (l_cons (l_c fun _ => .ty _) l_nil)) o_isi))) (l_test (l_op l_var (l_fldO (List.forall_mem_cons.mpr ⟨a_Lane_places, (List.forall_mem_nil _)⟩)) o_notInDk))) (l_raise1 (l_cons l_var l_nil)) l_next) (l_putF (List.forall_mem_cons.mpr ⟨a_Lane_own_guard, (List.forall_mem_nil _)⟩) l_var))))))
theorem ok_Lane_init (F : FunD K "__init__" "Lane.__init__" (defArgs s_Lane_init) (defBody s_Lane_init) S_Lane_init [] [] (He.fAd K ("Lane", some "__init__")) fd) (f_is_watch : Fn P w K mg base CX0 3 "is_watch" ["value"] (spOf (mF K) K dsp_is_watch)) (TB : LamX.TabB base mg (He.cT K ("Lane", some "__init__")).1 (He.cT K ("Lane", some "__init__")).2) (hTu : TabU (T K)) (b_any : mg "any" = none) (b_enumerate : mg "enumerate" = none) (b_isinstance : mg "isinstance" = none) (b_len : mg "len" = none) (b_list : mg "list" = none) (b_sorted : mg "sorted" = none) (b_str : mg "str" = none) (b_super : mg "super" = none) (c_Lane : ∃ u, mg "Lane" = some u ∧ RelV (.ref (He.ga K "Lane")) u) (cc_Lane_MOST : CcOk K "Lane" "MOST" (.int 5)) (E_InvalidCount : Err1 P K mg "InvalidCount" (He.ga K "InvalidCount") "given" "InvalidCount") (E_InvalidWatch : Err1 P K mg "InvalidWatch" (He.ga K "InvalidWatch") "at" "InvalidWatch") (E_UnknownName : Err1 P K mg "UnknownName" (He.ga K "UnknownName") "name" "UnknownName") (a_Lane_own_guard : FldOk K "Lane" "own_guard") (a_Lane_own_watches : FldOk K "Lane" "own_watches") (a_Lane_places : FldOk K "Lane" "places") : FnOk P w K mg base (L2.CX P w) (4) (He.fAd K ("Lane", some "__init__")) fd ["self", "watches", "guard"] (spIw (mF K) K dsp_Lane_init) := by
  refine Dl.FunD.okC F sc_Lane_init (fun vs H Q E h => by obtain ⟨x, dx, c, ws, fs0, G, ds0, ds, Qf, er, rfl, _, _, _, _, r, h, _⟩ := h; rw [List.length_cons, rps_len r]; (repeat (first | (obtain ⟨rfl, _⟩ := h; rfl) | (obtain ⟨_, h⟩ := h)))) (fun A outer s H vs Q E hr h => ⟨_, ?_, Dl.fnIw (T := T K) (t := tn_Lane_init K) (fun lk h1 h2 h4 => li_Lane_init h1 h2 h4 a_Lane_own_guard a_Lane_own_watches a_Lane_places cc_Lane_MOST) p_Lane_init vs H Q E h⟩)
  have hu65 : (Around.deeper A (PyProof.Rows.envOfC "Lane.__init__" S_Lane_init s.heap.objs.size (He.fAd K ("Lane", some "__init__")) (.ref (He.codeOf K ("Lane", some "__init__"))))).units + 65 < cLine := by have := hr.un; omega
  exact (pss_cons (ps_if (pt_not (pt_chain op_xLe op_xLe pe_int (pe_callB cr_len (by rfl) b_len boot_ln (pa_cons (pv 1) pa_nil)) (ClX.pe_cval (pe_gc (by rfl) c_Lane)))) (pss_one (ps_rs1 rfl takesX (pmk_err1 E_InvalidCount hr (by rfl) b_super (pa_cons (pe_callB cr_len (by rfl) b_len boot_ln (pa_cons (pv 1) pa_nil)) pa_nil)))) pss_nil) (pss_cons (ps_for passOwnX rfl (pi_enumA (by rfl) b_enumerate (pa_cons (pv 1) pa_nil)) (pg_tup rfl (pgs_cons (pg_name (i := 3) sc_Lane_init.nd rfl (by first | exact Or.inl rfl | exact Or.inr rfl)) (pgs_cons (pg_name (i := 4) sc_Lane_init.nd rfl (by first | exact Or.inl rfl | exact Or.inr rfl)) pgs_nil))) (pss_cons (ps_if (pt_not (pt_val (pe_fn f_is_watch hr (by omega) (by rfl) pass0 (pa_cons (pv 4) pa_nil)))) (pss_one (ps_rs1 rfl takesX (pmk_err1 E_InvalidWatch hr (by rfl) b_super (pa_cons (pv 3) pa_nil)))) pss_nil) (pss_one (ps_if (pt_val (pe_callB (cr_any rfl) (by rfl) b_any boot_any' (pa_cons (pe_lc (own := [("other", 5)]) (g := (gName 5)) (tt := tYes) rfl sc_Lane_init.nd (pi_seq (pe_slice sl_x (pv 1) po_none (po_some (pv 3)))) (blkOk_by (own := [("other", 5)]) (N := N_Lane_init) (sc := S_Lane_init) (by decide +kernel)) (fun _ _ _ _ _ => (pg_name (i := 5) sc_Lane_init.nd rfl (by first | exact Or.inl rfl | exact Or.inr rfl))) (fun _ _ _ _ _ => pts_nil) (fun _ _ _ _ _ => (pe_or (pe_cmpR (op_xEq hr.units) (pe_ix ix_seq (pv 4) pe_int (fun _ _ => rfl)) (pe_ix ix_seq (pv 5) pe_int (fun _ _ => rfl)) (nomark _)) (pe_one (pe_cmpR (op_xEq hr.units) (pe_ix ix_seq (pv 4) pe_int (fun _ _ => rfl)) (pe_ix ix_seq (pv 5) pe_int (fun _ _ => rfl)) (nomark _)))))) pa_nil))) (pss_one (ps_rs1 rfl takesX (pmk_err1 E_InvalidWatch hr (by rfl) b_super (pa_cons (pv 3) pa_nil)))) pss_nil)))) (pss_cons (ps_fld (pv 0) (pe_sortA (k := 0) (a := "watch") (hr.mono (by decide)) (by rfl) b_sorted PyProof.Rows.boot_sorted (pa_cons (pe_callTy cr_list (by rfl) b_list boot_list' (pa_cons (pv 1) pa_nil)) pa_nil) TB rfl (List.mem_cons_of_mem _ List.mem_cons_self) (tab_u hTu (List.mem_cons_of_mem _ List.mem_cons_self)) ⟨⟨rfl, rfl, rfl, by decide +kernel, rfl, by decide +kernel, by decide +kernel⟩, (fun _ _ _ _ _ _ => rfl), (fun A outer s H f c1 hr => by exact (pe_ix ix_seq (pv 0) pe_int (fun _ _ => rfl)))⟩) (by rfl)) (pss_cons (ps_fld (pv 0) (pe_dc (own := [("name", 6), ("place", 7)]) (g := (gTup K 2 (gCons (gName 6) (gCons (gName 7) gNil)))) (tt := tYes) rfl sc_Lane_init.nd (pi_list (pe_fld (pv 0) (by rfl))) (blkOk_by (own := [("name", 6), ("place", 7)]) (N := N_Lane_init) (sc := S_Lane_init) (by decide +kernel)) (fun _ _ _ _ _ => (pg_tup rfl (pgs_cons (pg_name (i := 6) sc_Lane_init.nd rfl (by first | exact Or.inl rfl | exact Or.inr rfl)) (pgs_cons (pg_name (i := 7) sc_Lane_init.nd rfl (by first | exact Or.inl rfl | exact Or.inr rfl)) pgs_nil)))) (fun _ _ _ _ _ => pts_nil) (fun _ _ _ _ _ => (pv 6)) (fun _ _ _ _ _ => (pv 7))) (by rfl)) (pss_cons (ps_if (PW.pt (pw_or (pt_not (pt_val (pe_callB call_isi (by rfl) b_isinstance boot_isinst (pa_cons (pv 2) (pa_cons (pe_bltn (by rfl) b_str boot_str' rfl) pa_nil))))) (pw_or1 (pt_cmpR (op_notInDk hu65) (pv 2) (pe_fld (pv 0) (by rfl)) rfl)))) (pss_one (ps_rs1 rfl takesX (pmk_err1 E_UnknownName hr (by rfl) b_super (pa_cons (pv 2) pa_nil)))) pss_nil) (pss_one (ps_fld (pv 0) (pv 2) (by rfl))))))))
theorem sc_law_made_lane : FnScope N_law_made_lane ["lane_z"] S_law_made_lane := ⟨rfl, rfl, rfl, by decide +kernel, rfl, by decide +kernel, by decide +kernel⟩
def tn_law_made_lane (K : Frag) (E : XK) : TS := (tRet (tMakeK (He.ga K "Lane") 1 1 (spIw (mF K) K dsp_Lane_init) (fun vs zs => [vs.getD 0 .non, vs.getD 1 .non, zs.getD 0 .non]) E (tCons (tCB (rList K) (tCons (tOp (rIx K) (tVar 0) (tC (.int 0))) tNil)) tNil) (tCons (tOp (rIx K) (tVar 0) (tC (.int 1))) tNil)))
theorem li_law_made_lane {lk : Lk} {K : Frag} (hT : lk.T = T K) (hp : ¬ lk.p) (hxo : lk.xo = none) (hw : lk.w)  : LiftS lk K (tn_law_made_lane K lk.E) (d_law_made_lane lk.er) := (l_ret (l_makeKw hw (gV := (fun vs zs => [vs.getD 0 .non, vs.getD 1 .non, zs.getD 0 .non])) (gv := (fun vs zs => [vs.getD 0 .non, zs.getD 0 .non])) (gd := (fun vs zs => [vs.getD 0 .non, zs.getD 0 .non])) eok (mkXw_of hT) (fun _ _ _ _ _ _ r1 r2 => by repeat (first | exact .nil | refine .cons (rp_getD r1 _) ?_ | refine .cons (rp_getD r2 _) ?_)) (l_cons (l_cb (l_cons (l_op l_var (l_c fun _ => .int _) o_ix) l_nil) o_list) l_nil) (l_cons (l_op l_var (l_c fun _ => .int _) o_ix) l_nil)))
theorem ok_law_made_lane (F : FunD K "_law_made_lane" "_law_made_lane" (defArgs s_law_made_lane) (defBody s_law_made_lane) S_law_made_lane [] [] f fd) (n_Lane_k1_guard : MkrK P w K mg base (L2.CX P w) 4 "Lane" (He.ga K "Lane") 1 ["guard"] (fun vs zs => [vs.getD 0 .non, vs.getD 1 .non, zs.getD 0 .non]) (spIw (mF K) K dsp_Lane_init)) (b_list : mg "list" = none) : FnOk P w K mg base (L2.CX P w) (7) f fd ["lane_z"] (spXw (mF K) K dsp_law_made_lane) := by
  refine F.ok sc_law_made_lane (fun vs H Q E h => by obtain ⟨G, ds, F, s, r, h, k⟩ := h; rw [rps_len r]; (repeat (first | (obtain ⟨rfl, _⟩ := h; rfl) | (obtain ⟨_, h⟩ := h)))) (fun cdv A outer s H vs Q E hr h => ⟨_, ?_, Dl.fnXw (m := mF K) (t := tn_law_made_lane K) (fun lk h1 h2 h3 h4 => li_law_made_lane (congrArg Dl.Md.T h1) (by rw [h3]; exact id) h2 h4) p_law_made_lane vs H Q E h⟩)
  exact (pss_one (ps_ret (pe_newK n_Lane_k1_guard hr (by omega) (by rfl) passX (pa_cons (pe_callTy cr_list (by rfl) b_list boot_list' (pa_cons (pe_ix ix_seq (pv 0) pe_int (fun _ _ => rfl)) pa_nil)) pa_nil) (pk_cons (pe_ix ix_seq (pv 0) pe_int (fun _ _ => rfl)) pk_nil))))
theorem sc_law_kind : FnScope N_law_kind ["thing"] S_law_kind := ⟨rfl, rfl, rfl, by decide +kernel, rfl, by decide +kernel, by decide +kernel⟩
theorem ok_law_kind (F : FunD K "_law_kind" "_law_kind" (defArgs s_law_kind) (defBody s_law_kind) S_law_kind [] [] f fd) (b_bool : mg "bool" = none) (b_int : mg "int" = none) (b_isinstance : mg "isinstance" = none) (b_list : mg "list" = none) (b_str : mg "str" = none) (b_tuple : mg "tuple" = none) : FnOk P w K mg base CX0 (1) f fd ["thing"] (sp_law_kind K) := by
  refine F.ok sc_law_kind (fun vs H Q E h => by (repeat (first | (obtain ⟨rfl, _⟩ := h; rfl) | (obtain ⟨_, h⟩ := h)))) (fun cdv A outer s H vs Q E hr h => ⟨t_law_kind K, PSs.nox ?_, pure_law_kind vs H Q E h⟩)
  exact (pss_cons (ps_set (i := 1) sc_law_kind.nd rfl (by first | exact Or.inl rfl | exact Or.inr rfl) (pe_lst (pa_cons (pe_cmpR op_xIsN (pv 0) pe_non (nomark _)) (pa_cons (pe_callB call_isi (by rfl) b_isinstance boot_isinst (pa_cons (pv 0) (pa_cons (pe_bltn (by rfl) b_bool boot_bool' rfl) pa_nil))) (pa_cons (pe_callB call_isi (by rfl) b_isinstance boot_isinst (pa_cons (pv 0) (pa_cons (pe_bltn (by rfl) b_int boot_int' rfl) pa_nil))) (pa_cons (pe_callB call_isi (by rfl) b_isinstance boot_isinst (pa_cons (pv 0) (pa_cons (pe_bltn (by rfl) b_str boot_str' rfl) pa_nil))) pa_nil)))))) (pss_cons (ps_set (i := 1) sc_law_kind.nd rfl (by first | exact Or.inl rfl | exact Or.inr rfl) (pe_op op_xAdd (pv 1) (pe_lst (pa_cons (pe_callB call_isi (by rfl) b_isinstance boot_isinst (pa_cons (pv 0) (pa_cons (pe_bltn (by rfl) b_list boot_list' rfl) pa_nil))) (pa_cons (pe_callB call_isi (by rfl) b_isinstance boot_isinst (pa_cons (pv 0) (pa_cons (pe_bltn (by rfl) b_tuple boot_tuple' rfl) pa_nil))) (pa_cons pe_bl pa_nil)))))) (pss_one (ps_ret (pe_bm PySem.F.plainAttrs_list PySem.F.slot_list_index PySem.F.type_list_index mt_index (pv 1) (pa_cons pe_bl pa_nil))))))
theorem sc_law_same : FnScope N_law_same ["found", "due"] S_law_same := ⟨rfl, rfl, rfl, by decide +kernel, rfl, by decide +kernel, by decide +kernel⟩
theorem ok_law_same (n : Nat) (F : FunD K "_law_same" "_law_same" (defArgs s_law_same) (defBody s_law_same) S_law_same [] [] f fd) (f_law_kind : Fn P w K mg base CX0 1 "_law_kind" ["thing"] (sp_law_kind K)) (f_law_same : Fn P w K mg base CX0 (n + 2) "_law_same" ["found", "due"] (sp_law_same K n)) (b_all : mg "all" = none) (b_len : mg "len" = none) (b_zip : mg "zip" = none) : FnOk P w K mg base CX0 (n + 3) f fd ["found", "due"] (sp_law_same K (n + 1)) := by
  refine F.ok sc_law_same (fun vs H Q E h => by (repeat (first | (obtain ⟨rfl, _⟩ := h; rfl) | (obtain ⟨_, h⟩ := h)))) (fun cdv A outer s H vs Q E hr h => ⟨t_law_same K n, PSs.nox ?_, pure_law_same n vs H Q E h⟩)
  have hu65 : (Around.deeper A (PyProof.Rows.envOfC "_law_same" S_law_same s.heap.objs.size f cdv)).units + 65 < cLine := by have := hr.un; omega
  exact (pss_cons (ps_if (pt_cmpR (op_xNe hr.units) (pe_fn f_law_kind hr (by omega) (by rfl) pass0 (pa_cons (pv 0) pa_nil)) (pe_fn f_law_kind hr (by omega) (by rfl) pass0 (pa_cons (pv 1) pa_nil)) (nomark _)) (pss_one (ps_ret pe_bl)) pss_nil) (pss_cons (ps_if (pt_cmpR (op_xIn hu65) (pe_fn f_law_kind hr (by omega) (by rfl) pass0 (pa_cons (pv 1) pa_nil)) (pe_tup (pa_cons pe_int (pa_cons pe_int pa_nil))) rfl) (pss_one (ps_ret (pe_and (pe_cmpR (op_xEq hr.units) (pe_callB cr_len (by rfl) b_len boot_ln (pa_cons (pv 0) pa_nil)) (pe_callB cr_len (by rfl) b_len boot_ln (pa_cons (pv 1) pa_nil)) (nomark _)) (pe_one (pe_callB (cr_all rfl) (by rfl) b_all boot_all' (pa_cons (pe_lc (own := [("a", 2), ("b", 3)]) (g := (gTup K 2 (gCons (gName 2) (gCons (gName 3) gNil)))) (tt := tYes) rfl sc_law_same.nd (pi_zipA (by rfl) b_zip (pa_cons (pv 0) (pa_cons (pv 1) pa_nil))) (blkOk_by (own := [("a", 2), ("b", 3)]) (N := N_law_same) (sc := S_law_same) (by decide +kernel)) (fun _ _ _ _ _ => (pg_tup rfl (pgs_cons (pg_name (i := 2) sc_law_same.nd rfl (by first | exact Or.inl rfl | exact Or.inr rfl)) (pgs_cons (pg_name (i := 3) sc_law_same.nd rfl (by first | exact Or.inl rfl | exact Or.inr rfl)) pgs_nil)))) (fun _ _ _ _ _ => pts_nil) (fun _ _ _ _ _ => (pe_fn f_law_same hr (by omega) (by rfl) pass0 (pa_cons (pv 2) (pa_cons (pv 3) pa_nil))))) pa_nil)))))) pss_nil) (pss_one (ps_ret (pe_cmpR (op_xEq hr.units) (pv 0) (pv 1) (nomark _))))))
theorem sc_law_odd : FnScope N_law_odd ["bag", "more"] S_law_odd := ⟨rfl, rfl, rfl, by decide +kernel, rfl, by decide +kernel, by decide +kernel⟩
def tn_law_odd (K : Frag) : TS := (tRet (tCall (sp_law_pick K) [] E0 (tCons (tVar 0) (tCons (tOp (xAdd K) (tLst (tCons (tC .non) (tCons (tC (.bl true)) (tCons (tC (.bl false)) (tCons (tC (.str "")) (tCons (tC (.str "A")) (tCons (tUn (rU fun i => .int (-i)) (tC (.int 1))) (tCons (tTup (tCons (tC (.int 1)) (tCons (tC (.str "a")) tNil))) (tCons (tLst (tCons (tC (.int 1)) tNil)) (tCons (tTup tNil) (tCons (tOp xPow (tC (.int 10)) (tC (.int 17))) tNil))))))))))) (tVar 1)) tNil))))
theorem li_law_odd {lk : Lk} {K : Frag} (hT : lk.T = T K) (hp : ¬ lk.p)  : LiftS lk K (tn_law_odd K) d_law_odd := (l_ret (l_call ok_pickL (l_cons l_var (l_cons (l_op (l_lst (l_cons (l_c fun _ => .non) (l_cons (l_c fun _ => .bl _) (l_cons (l_c fun _ => .bl _) (l_cons (l_c fun _ => .str _) (l_cons (l_c fun _ => .str _) (l_cons (l_un (l_c fun _ => .int _) o_neg) (l_cons (l_tup (l_cons (l_c fun _ => .int _) (l_cons (l_c fun _ => .str _) l_nil))) (l_cons (l_lst (l_cons (l_c fun _ => .int _) l_nil)) (l_cons (l_tup l_nil) (l_cons (l_op (l_c fun _ => .int _) (l_c fun _ => .int _) o_pow) l_nil))))))))))) l_var o_add) l_nil))))
theorem ok_law_odd (F : FunD K "_law_odd" "_law_odd" (defArgs s_law_odd) (defBody s_law_odd) S_law_odd [] [] f fd) (f_law_pick : Fn P w K mg base CX0 2 "_law_pick" ["bag", "some"] (sp_law_pick K)) : FnOk P w K mg base CX0 (3) f fd ["bag", "more"] (spOf (mF K) K dsp_law_odd) := by
  refine F.ok sc_law_odd (fun vs H Q E h => by obtain ⟨G, ds, Qd, s, r, h, k⟩ := h; rw [rps_len r]; (repeat (first | (obtain ⟨rfl, _⟩ := h; rfl) | (obtain ⟨_, h⟩ := h)))) (fun cdv A outer s H vs Q E hr h => ⟨_, PSs.nox ?_, Dl.fn_of (m := mF K) (fun lk h1 h2 _ _ => li_law_odd (K := K) (congrArg Dl.Md.T h1) (by rw [h2]; exact id)) p_law_odd vs H Q E h⟩)
  exact (pss_one (ps_ret (pe_fn f_law_pick hr (by omega) (by rfl) pass0 (pa_cons (pv 0) (pa_cons (pe_op op_xAdd (pe_lst (pa_cons pe_non (pa_cons pe_bl (pa_cons pe_bl (pa_cons pe_str (pa_cons pe_str (pa_cons (pe_un un_neg pe_int) (pa_cons (pe_tup (pa_cons pe_int (pa_cons pe_str pa_nil))) (pa_cons (pe_lst (pa_cons pe_int pa_nil)) (pa_cons (pe_tup pa_nil) (pa_cons (pe_op op_xPow pe_int pe_int) pa_nil))))))))))) (pv 1)) pa_nil)))))
theorem sc_Lane_place : FnScope N_Lane_place ["self", "name"] S_Lane_place := ⟨rfl, rfl, rfl, by decide +kernel, rfl, by decide +kernel, by decide +kernel⟩
def tn_Lane_place (K : Frag) (E : XK) : TS := (tSeq (tIfS (tOr (tNot (tB (tCB (rIsi K) (tCons (tVar 1) (tCons (tC (.ty "str")) tNil))))) (tTest (tOp xNotInDk (tVar 1) (tFld K (tVar 0) "places")))) (tRaise1 (He.ga K "UnknownName") "name" "UnknownName" (tCons (tVar 1) tNil) E) tNext) (tRet (tDGet (tFld K (tVar 0) "places") (tVar 1))))
theorem li_Lane_place {lk : Lk} {K : Frag} (hT : lk.T = T K) (hp : ¬ lk.p) (hxo : lk.xo = none) (a_Lane_places : FldOk K "Lane" "places") : LiftS lk K (tn_Lane_place K lk.E) (d_Lane_place lk.er) := (l_seq (l_ifS (l_or (l_not (l_tB (l_cb (l_cons l_var (l_cons (l_c fun _ => .ty _) l_nil)) o_isi))) (l_test (l_op l_var (l_fld (List.forall_mem_cons.mpr ⟨a_Lane_places, (List.forall_mem_nil _)⟩) l_var) o_notInDk))) (l_raise1 (l_cons l_var l_nil)) l_next) (l_ret (l_getDk (l_fld (List.forall_mem_cons.mpr ⟨a_Lane_places, (List.forall_mem_nil _)⟩) l_var) l_var)))
theorem ok_Lane_place (F : FunD K "place" "Lane.place" (defArgs s_Lane_place) (defBody s_Lane_place) S_Lane_place [] [] f fd) (b_isinstance : mg "isinstance" = none) (b_str : mg "str" = none) (b_super : mg "super" = none) (E_UnknownName : Err1 P K mg "UnknownName" (He.ga K "UnknownName") "name" "UnknownName") (a_Lane_places : FldOk K "Lane" "places") : FnOk P w K mg base (L2.CX P w) (1) f fd ["self", "name"] (spX (mF K) K dsp_Lane_place) := by
  refine F.ok sc_Lane_place (fun vs H Q E h => by obtain ⟨G, ds, F, s, r, h, k⟩ := h; rw [rps_len r]; (repeat (first | (obtain ⟨rfl, _⟩ := h; rfl) | (obtain ⟨_, h⟩ := h)))) (fun cdv A outer s H vs Q E hr h => ⟨_, ?_, Dl.fnX (m := mF K) (t := tn_Lane_place K) (fun lk h1 h2 h3 => li_Lane_place (congrArg Dl.Md.T h1) (by rw [h3]; exact id) h2 a_Lane_places) p_Lane_place vs H Q E h⟩)
  have hu65 : (Around.deeper A (PyProof.Rows.envOfC "Lane.place" S_Lane_place s.heap.objs.size f cdv)).units + 65 < cLine := by have := hr.un; omega
  exact (pss_cons (ps_if (PW.pt (pw_or (pt_not (pt_val (pe_callB call_isi (by rfl) b_isinstance boot_isinst (pa_cons (pv 1) (pa_cons (pe_bltn (by rfl) b_str boot_str' rfl) pa_nil))))) (pw_or1 (pt_cmpR (op_notInDk hu65) (pv 1) (pe_fld (pv 0) (by rfl)) rfl)))) (pss_one (ps_rs1 rfl takesX (pmk_err1 E_UnknownName hr (by rfl) b_super (pa_cons (pv 1) pa_nil)))) pss_nil) (pss_one (ps_ret (pe_dget (lt65 hu65) (pe_fld (pv 0) (by rfl)) (pv 1) (fun _ _ => rfl)))))
theorem sc_Lane_moved : FnScope N_Lane_moved ["self", "name", "place"] S_Lane_moved := ⟨rfl, rfl, rfl, by decide +kernel, rfl, by decide +kernel, by decide +kernel⟩
def tn_Lane_moved (K : Frag) (E : XK) : TS := (tSeq (tDrop (tMeth (He.ga K "Lane") "place" (spX (mF K) K dsp_Lane_place) [] E (tVar 0) (tCons (tVar 1) tNil))) (tSeq (tAsg (tLc (iList K (tFld K (tVar 0) "own_watches")) (gName 4) (tTest (tOp (xNe K) (tOp (rIx K) (tVar 4) (tC (.int 0))) (tVar 1))) (tVar 4) [4]) (gName 3)) (tSeq (tIfS (tOr (tNot (tB (tCall (sp_is_number K) [] E0 (tCons (tVar 2) (tCons (tC (.int 0)) (tCons (tC (.int 1000000)) tNil)))))) (tB (tCB (rAny K) (tCons (tLc (iList K (tVar 3)) (gName 4) tYes (tOp (xEq K) (tOp (rIx K) (tVar 4) (tC (.int 1))) (tVar 2)) [4]) tNil)))) (tRaise1 (He.ga K "InvalidPlace") "given" "InvalidPlace" (tCons (tVar 2) tNil) E) tNext) (tRet (tMakeK (He.ga K "Lane") 1 1 (spIw (mF K) K dsp_Lane_init) (fun vs zs => [vs.getD 0 .non, vs.getD 1 .non, zs.getD 0 .non]) E (tCons (tLst (tStar K (tVar 3) (tCons (tTup (tCons (tVar 1) (tCons (tVar 2) tNil))) tNil))) tNil) (tCons (tFld K (tVar 0) "own_guard") tNil))))))
theorem li_Lane_moved {lk : Lk} {K : Frag} (hT : lk.T = T K) (hp : ¬ lk.p) (hxo : lk.xo = none) (hw : lk.w) (a_Lane_own_guard : FldOk K "Lane" "own_guard") (a_Lane_own_watches : FldOk K "Lane" "own_watches") : LiftS lk K (tn_Lane_moved K lk.E) (d_Lane_moved lk.er) := (l_seq (l_drop (l_methX eok (spX_ok hT) l_var (l_cons l_var l_nil))) (l_seq (l_asg (l_ofL (l_lcL (l_iList (l_fld (List.forall_mem_cons.mpr ⟨a_Lane_own_watches, (List.forall_mem_nil _)⟩) l_var)) (l_name 4) (l_test (l_op (l_op l_var (l_c fun _ => .int _) o_ix) l_var o_ne)) l_var (by decide))) (l_name 3)) (l_seq (l_ifS (l_or (l_not (l_tB (l_call ok_number (l_cons l_var (l_cons (l_c fun _ => .int _) (l_cons (l_c fun _ => .int _) l_nil)))))) (l_tB (l_cb (l_cons (l_ofL (l_lcL (l_iList l_var) (l_name 4) l_yes (l_op (l_op l_var (l_c fun _ => .int _) o_ix) l_var o_eq) (by decide))) l_nil) o_any))) (l_raise1 (l_cons l_var l_nil)) l_next) (l_ret (l_makeKw hw (gV := (fun vs zs => [vs.getD 0 .non, vs.getD 1 .non, zs.getD 0 .non])) (gv := (fun vs zs => [vs.getD 0 .non, zs.getD 0 .non])) (gd := (fun vs zs => [vs.getD 0 .non, zs.getD 0 .non])) eok (mkXw_of hT) (fun _ _ _ _ _ _ r1 r2 => by repeat (first | exact .nil | refine .cons (rp_getD r1 _) ?_ | refine .cons (rp_getD r2 _) ?_)) (l_cons (l_lst (l_star l_var (l_cons (l_tup (l_cons l_var (l_cons l_var l_nil))) l_nil))) l_nil) (l_cons (l_fld (List.forall_mem_cons.mpr ⟨a_Lane_own_guard, (List.forall_mem_nil _)⟩) l_var) l_nil))))))
theorem ok_Lane_moved (F : FunD K "moved" "Lane.moved" (defArgs s_Lane_moved) (defBody s_Lane_moved) S_Lane_moved [] [] f fd) (k_Lane : Cls K (He.ga K "Lane")) (m_Lane_place : Mth P w K mg base (L2.CX P w) 1 (He.ga K "Lane") "place" ["self", "name"] (spX (mF K) K dsp_Lane_place)) (n_Lane_k1_guard : MkrK P w K mg base (L2.CX P w) 4 "Lane" (He.ga K "Lane") 1 ["guard"] (fun vs zs => [vs.getD 0 .non, vs.getD 1 .non, zs.getD 0 .non]) (spIw (mF K) K dsp_Lane_init)) (f_is_number : Fn P w K mg base CX0 2 "is_number" ["value", "low", "high"] (sp_is_number K)) (b_any : mg "any" = none) (b_super : mg "super" = none) (c_MOST_NUMBER : ∃ u, mg "MOST_NUMBER" = some u ∧ RelV (.int 1000000) u) (E_InvalidPlace : Err1 P K mg "InvalidPlace" (He.ga K "InvalidPlace") "given" "InvalidPlace") (a_Lane_own_guard : FldOk K "Lane" "own_guard") (a_Lane_own_watches : FldOk K "Lane" "own_watches") : FnOk P w K mg base (L2.CX P w) (7) f fd ["self", "name", "place"] (spXw (mF K) K dsp_Lane_moved) := by
  refine F.ok sc_Lane_moved (fun vs H Q E h => by obtain ⟨G, ds, F, s, r, h, k⟩ := h; rw [rps_len r]; (repeat (first | (obtain ⟨rfl, _⟩ := h; rfl) | (obtain ⟨_, h⟩ := h)))) (fun cdv A outer s H vs Q E hr h => ⟨_, ?_, Dl.fnXw (m := mF K) (t := tn_Lane_moved K) (fun lk h1 h2 h3 h4 => li_Lane_moved (congrArg Dl.Md.T h1) (by rw [h3]; exact id) h2 h4 a_Lane_own_guard a_Lane_own_watches) p_Lane_moved vs H Q E h⟩)
  exact (pss_cons (ps_expr (pe_mth (pv 0) k_Lane m_Lane_place hr (by omega) passX (pa_cons (pv 1) pa_nil))) (pss_cons (ps_setLc (i := 3) (own := [("watch", 4)]) (g := (gName 4)) (tt := (tTest (tOp (xNe K) (tOp (rIx K) (tVar 4) (tC (.int 0))) (tVar 1)))) rfl sc_Lane_moved.nd rfl rfl (sw_true rfl rfl rfl (by decide +kernel)) (pi_list (pe_fld (pv 0) (by rfl))) (blkOk_by (own := [("watch", 4)]) (N := N_Lane_moved) (sc := S_Lane_moved) (by decide +kernel)) (fun _ _ _ _ _ => (pg_name (i := 4) sc_Lane_moved.nd rfl (by first | exact Or.inl rfl | exact Or.inr rfl))) (fun _ _ _ _ _ => (pts_one (pt_cmpR (op_xNe hr.units) (pe_ix ix_seq (pv 4) pe_int (fun _ _ => rfl)) (pv 1) (nomark _)))) (fun _ _ _ _ _ => (pv 4))) (pss_cons (ps_if (PW.pt (pw_or (pt_not (pt_val (pe_fn f_is_number hr (by omega) (by rfl) pass0 (pa_cons (pv 2) (pa_cons pe_int (pa_cons (pe_gc (by rfl) c_MOST_NUMBER) pa_nil)))))) (pw_or1 (pt_val (pe_callB (cr_any rfl) (by rfl) b_any boot_any' (pa_cons (pe_lc (own := [("watch", 4)]) (g := (gName 4)) (tt := tYes) rfl sc_Lane_moved.nd (pi_list (pv 3)) (blkOk_by (own := [("watch", 4)]) (N := N_Lane_moved) (sc := S_Lane_moved) (by decide +kernel)) (fun _ _ _ _ _ => (pg_name (i := 4) sc_Lane_moved.nd rfl (by first | exact Or.inl rfl | exact Or.inr rfl))) (fun _ _ _ _ _ => pts_nil) (fun _ _ _ _ _ => (pe_cmpR (op_xEq hr.units) (pe_ix ix_seq (pv 4) pe_int (fun _ _ => rfl)) (pv 2) (nomark _)))) pa_nil)))))) (pss_one (ps_rs1 rfl takesX (pmk_err1 E_InvalidPlace hr (by rfl) b_super (pa_cons (pv 2) pa_nil)))) pss_nil) (pss_one (ps_ret (pe_newK n_Lane_k1_guard hr (by omega) (by rfl) passX (pa_cons (pe_lst (pa_star (pv 3) (pa_cons (pe_tup (pa_cons (pv 1) (pa_cons (pv 2) pa_nil))) pa_nil))) pa_nil) (pk_cons (pe_fld (pv 0) (by rfl)) pk_nil)))))))
theorem sc_Lane_watches : FnScope N_Lane_watches ["self"] S_Lane_watches := ⟨rfl, rfl, rfl, by decide +kernel, rfl, by decide +kernel, by decide +kernel⟩
def tn_Lane_watches (K : Frag) (E : XK) : TS := (tRet (tCB (rList K) (tCons (tFld K (tVar 0) "own_watches") tNil)))
theorem li_Lane_watches {lk : Lk} {K : Frag} (hT : lk.T = T K) (hp : ¬ lk.p) (hxo : lk.xo = none) (a_Lane_own_watches : FldOk K "Lane" "own_watches") : LiftS lk K (tn_Lane_watches K lk.E) (d_Lane_watches lk.er) := (l_retL (l_listL (l_fld (List.forall_mem_cons.mpr ⟨a_Lane_own_watches, (List.forall_mem_nil _)⟩) l_var)) hxo)
theorem ok_Lane_watches (F : FunD K "watches" "Lane.watches" (defArgs s_Lane_watches) (defBody s_Lane_watches) S_Lane_watches [] [] f fd) (b_list : mg "list" = none) (a_Lane_own_watches : FldOk K "Lane" "own_watches") : FnOk P w K mg base (L2.CX P w) (1) f fd ["self"] (spX (mF K) K dsp_Lane_watches) := by
  refine F.ok sc_Lane_watches (fun vs H Q E h => by obtain ⟨G, ds, F, s, r, h, k⟩ := h; rw [rps_len r]; (repeat (first | (obtain ⟨rfl, _⟩ := h; rfl) | (obtain ⟨_, h⟩ := h)))) (fun cdv A outer s H vs Q E hr h => ⟨_, ?_, Dl.fnX (m := mF K) (t := tn_Lane_watches K) (fun lk h1 h2 h3 => li_Lane_watches (congrArg Dl.Md.T h1) (by rw [h3]; exact id) h2 a_Lane_own_watches) p_Lane_watches vs H Q E h⟩)
  exact (pss_one (ps_ret (pe_callTy cr_list (by rfl) b_list boot_list' (pa_cons (pe_fld (pv 0) (by rfl)) pa_nil))))
theorem sc_Lane_eq : FnScope N_Lane_eq ["self", "other"] S_Lane_eq := ⟨rfl, rfl, rfl, by decide +kernel, rfl, by decide +kernel, by decide +kernel⟩
def tn_Lane_eq (K : Frag) (E : XK) : TS := (tRet (tAndV (tCB (rIsi K) (tCons (tVar 1) (tCons (tC (.ref (He.ga K "Lane"))) tNil))) (tAndV (tOp (xEq K) (tFld K (tVar 0) "own_watches") (tFld K (tVar 1) "own_watches")) (tOp (xEq K) (tFld K (tVar 0) "own_guard") (tFld K (tVar 1) "own_guard")))))
theorem li_Lane_eq {lk : Lk} {K : Frag} (hT : lk.T = T K) (hp : ¬ lk.p) (hxo : lk.xo = none) (hIsa_Lane : IsaOk K isa_Lane) (a_Lane_own_guard : FldOk K "Lane" "own_guard") (a_Lane_own_watches : FldOk K "Lane" "own_watches") : LiftS lk K (tn_Lane_eq K lk.E) (d_Lane_eq lk.er) := (l_ret (l_andV (l_cb (l_cons l_var (l_cons (l_c fun _ => .cls _) l_nil)) (o_isa hIsa_Lane)) (l_andV (l_op (l_fld (List.forall_mem_cons.mpr ⟨a_Lane_own_watches, (List.forall_mem_nil _)⟩) l_var) (l_fld (List.forall_mem_cons.mpr ⟨a_Lane_own_watches, (List.forall_mem_nil _)⟩) l_var) o_eq) (l_op (l_fld (List.forall_mem_cons.mpr ⟨a_Lane_own_guard, (List.forall_mem_nil _)⟩) l_var) (l_fld (List.forall_mem_cons.mpr ⟨a_Lane_own_guard, (List.forall_mem_nil _)⟩) l_var) o_eq))))
theorem ok_Lane_eq (F : FunD K "__eq__" "Lane.__eq__" (defArgs s_Lane_eq) (defBody s_Lane_eq) S_Lane_eq [] [] f fd) (b_isinstance : mg "isinstance" = none) (c_Lane : ∃ u, mg "Lane" = some u ∧ RelV (.ref (He.ga K "Lane")) u) (hIsa_Lane : IsaOk K isa_Lane) (a_Lane_own_guard : FldOk K "Lane" "own_guard") (a_Lane_own_watches : FldOk K "Lane" "own_watches") : FnOk P w K mg base (L2.CX P w) (1) f fd ["self", "other"] (spX (mF K) K dsp_Lane_eq) := by
  refine F.ok sc_Lane_eq (fun vs H Q E h => by obtain ⟨G, ds, F, s, r, h, k⟩ := h; rw [rps_len r]; (repeat (first | (obtain ⟨rfl, _⟩ := h; rfl) | (obtain ⟨_, h⟩ := h)))) (fun cdv A outer s H vs Q E hr h => ⟨_, ?_, Dl.fnX (m := mF K) (t := tn_Lane_eq K) (fun lk h1 h2 h3 => li_Lane_eq (congrArg Dl.Md.T h1) (by rw [h3]; exact id) h2 hIsa_Lane a_Lane_own_guard a_Lane_own_watches) p_Lane_eq vs H Q E h⟩)
  exact (pss_one (ps_ret (pe_and (pe_callB call_isi (by rfl) b_isinstance boot_isinst (pa_cons (pv 1) (pa_cons (pe_gc (by rfl) c_Lane) pa_nil))) (pe_and (pe_cmpR (op_xEq hr.units) (pe_fld (pv 0) (by rfl)) (pe_fld (pv 1) (by rfl)) (nomark _)) (pe_one (pe_cmpR (op_xEq hr.units) (pe_fld (pv 0) (by rfl)) (pe_fld (pv 1) (by rfl)) (nomark _)))))))
theorem sc_Lane_len : FnScope N_Lane_len ["self"] S_Lane_len := ⟨rfl, rfl, rfl, by decide +kernel, rfl, by decide +kernel, by decide +kernel⟩
def tn_Lane_len (K : Frag) (E : XK) : TS := (tRet (tCB (rLn K) (tCons (tFld K (tVar 0) "own_watches") tNil)))
theorem li_Lane_len {lk : Lk} {K : Frag} (hT : lk.T = T K) (hp : ¬ lk.p) (hxo : lk.xo = none) (a_Lane_own_watches : FldOk K "Lane" "own_watches") : LiftS lk K (tn_Lane_len K lk.E) (d_Lane_len lk.er) := (l_ret (l_cb (l_cons (l_fld (List.forall_mem_cons.mpr ⟨a_Lane_own_watches, (List.forall_mem_nil _)⟩) l_var) l_nil) o_len))
theorem ok_Lane_len (F : FunD K "__len__" "Lane.__len__" (defArgs s_Lane_len) (defBody s_Lane_len) S_Lane_len [] [] f fd) (b_len : mg "len" = none) (a_Lane_own_watches : FldOk K "Lane" "own_watches") : FnOk P w K mg base (L2.CX P w) (1) f fd ["self"] (spX (mF K) K dsp_Lane_len) := by
  refine F.ok sc_Lane_len (fun vs H Q E h => by obtain ⟨G, ds, F, s, r, h, k⟩ := h; rw [rps_len r]; (repeat (first | (obtain ⟨rfl, _⟩ := h; rfl) | (obtain ⟨_, h⟩ := h)))) (fun cdv A outer s H vs Q E hr h => ⟨_, ?_, Dl.fnX (m := mF K) (t := tn_Lane_len K) (fun lk h1 h2 h3 => li_Lane_len (congrArg Dl.Md.T h1) (by rw [h3]; exact id) h2 a_Lane_own_watches) p_Lane_len vs H Q E h⟩)
  exact (pss_one (ps_ret (pe_callB cr_len (by rfl) b_len boot_ln (pa_cons (pe_fld (pv 0) (by rfl)) pa_nil))))
theorem sc_Lane_guard : FnScope N_Lane_guard ["self"] S_Lane_guard := ⟨rfl, rfl, rfl, by decide +kernel, rfl, by decide +kernel, by decide +kernel⟩
def tn_Lane_guard (K : Frag) (E : XK) : TS := (tRet (tFld K (tVar 0) "own_guard"))
theorem li_Lane_guard {lk : Lk} {K : Frag} (hT : lk.T = T K) (hp : ¬ lk.p) (hxo : lk.xo = none) (a_Lane_own_guard : FldOk K "Lane" "own_guard") : LiftS lk K (tn_Lane_guard K lk.E) (d_Lane_guard lk.er) := (l_ret (l_fld (List.forall_mem_cons.mpr ⟨a_Lane_own_guard, (List.forall_mem_nil _)⟩) l_var))
theorem ok_Lane_guard (F : FunD K "guard" "Lane.guard" (defArgs s_Lane_guard) (defBody s_Lane_guard) S_Lane_guard [] [] f fd) (a_Lane_own_guard : FldOk K "Lane" "own_guard") : FnOk P w K mg base (L2.CX P w) (1) f fd ["self"] (spX (mF K) K dsp_Lane_guard) := by
  refine F.ok sc_Lane_guard (fun vs H Q E h => by obtain ⟨G, ds, F, s, r, h, k⟩ := h; rw [rps_len r]; (repeat (first | (obtain ⟨rfl, _⟩ := h; rfl) | (obtain ⟨_, h⟩ := h)))) (fun cdv A outer s H vs Q E hr h => ⟨_, ?_, Dl.fnX (m := mF K) (t := tn_Lane_guard K) (fun lk h1 h2 h3 => li_Lane_guard (congrArg Dl.Md.T h1) (by rw [h3]; exact id) h2 a_Lane_own_guard) p_Lane_guard vs H Q E h⟩)
  exact (pss_one (ps_ret (pe_fld (pv 0) (by rfl))))
theorem sc_law : FnScope N_law ["script"] S_law := ⟨rfl, rfl, rfl, by decide +kernel, rfl, by decide +kernel, by decide +kernel⟩
def tn_law (K : Frag) (Λ : Hp → Addr → (XK → TE) → Prop) : TS := (tSeq (tAsg (tCall (sp_law_start K) [] E0 (tCons (tVar 0) tNil)) (gName 1)) (tSeq (tFor (iRng1 (tCons (tC (.int 5)) tNil)) (gName 2) (tSeq (tAsg (tCall (spOf (mF K) K dsp_law_lane) [] E0 (tCons (tVar 1) (tCons (tOp (xAdd K) (tC (.int 1)) (tCall (sp_law_pull K) [] E0 (tCons (tVar 1) (tCons (tC (.int 5)) tNil)))) (tCons (tC (.int 5)) tNil)))) (gName 3)) (tSeq (tAsg (tTup (tCons (tCall (spXw (mF K) K dsp_law_made_lane) [] C8.E0 (tCons (tVar 3) tNil)) (tCons (tCall (sp_law_pick K) [] E0 (tCons (tVar 1) (tCons (tOp (rIx K) (tVar 3) (tC (.int 0))) tNil))) tNil))) (gTup K 2 (gCons (gName 4) (gCons (gName 5) gNil)))) (tSeq (tAsg (tCall (sp_law_pick K) [] E0 (tCons (tVar 1) (tCons (tLst (tCons (tC (.int 0)) (tCons (tC (.int 1000000)) (tCons (tOp (rIx K) (tVar 5) (tC (.int 1))) (tCons (tOp (rIx K) (tCall (sp_law_pick K) [] E0 (tCons (tVar 1) (tCons (tOp (rIx K) (tVar 3) (tC (.int 0))) tNil))) (tC (.int 1))) (tCons (tOp (xAdd K) (tOp (rIx K) (tVar 5) (tC (.int 1))) (tCall (sp_law_pull K) [] E0 (tCons (tVar 1) (tCons (tC (.int 12)) tNil)))) tNil)))))) tNil))) (gName 6)) (tSeq (tAsg (tLc (iList K (tOp (rIx K) (tVar 3) (tC (.int 0)))) (gName 8) (tTest (tOp (xNe K) (tVar 8) (tVar 5))) (tVar 8) [8]) (gName 7)) (tSeq (tAsg (tOp (xIn K) (tVar 6) (tLc (iList K (tVar 7)) (gName 8) tYes (tOp (rIx K) (tVar 8) (tC (.int 1))) [8])) (gName 9)) (tSeq (tAsg (LamX.tLam (T K) (LamX.TGot K (gotCs K) (spPin (T K) K (errNs esL) fldNs dsph_law_field)) (fun E => (tMeth (He.ga K "Lane") "watches" (spX (mF K) K dsp_Lane_watches) [] E (tMeth (He.ga K "Lane") "moved" (spXw (mF K) K dsp_Lane_moved) [] E (tVar 4) (tCons (tOp (rIx K) (tVar 5) (tC (.int 0))) (tCons (tVar 6) tNil))) tNil))) (gName 10)) (tSeq (tAsg (tCB (rSortD K) (tCons (tOp (xAdd K) (tLc (iList K (tVar 7)) (gName 8) tYes (tTup (tCons (tOp (rIx K) (tVar 8) (tC (.int 1))) (tCons (tOp (rIx K) (tVar 8) (tC (.int 0))) tNil))) [8]) (tLst (tCons (tTup (tCons (tVar 6) (tCons (tOp (rIx K) (tVar 5) (tC (.int 0))) tNil))) tNil))) tNil)) (gName 11)) (tSeq (tAsg (tIf (tB (tVar 9)) (tTup (tCons (tC (.str "InvalidPlace")) (tCons (tVar 6) tNil))) (tTup (tCons (tC (.str "")) (tCons (tLc (iList K (tVar 11)) (gName 8) tYes (tTup (tCons (tOp (rIx K) (tVar 8) (tC (.int 1))) (tCons (tOp (rIx K) (tVar 8) (tC (.int 0))) tNil))) [8]) tNil)))) (gName 12)) (tSeq (tIfS (tOr (tNot (tB (tCall (sp_law_same K 9) [] E0 (tCons (tVar 10) (tCons (tVar 12) tNil))))) (tTest (tOp (rOwnN K (He.ga K "Lane") (spX (mF K) K dsp_Lane_eq) C8.E0) (tVar 4) (tCall (spXw (mF K) K dsp_law_made_lane) [] C8.E0 (tCons (tVar 3) tNil))))) (tRet (tC (.bl false))) tNext) (tSeq (tIfS (tAnd (tNot (tB (tVar 9))) (tNot (tB (tCall (sp_law_same K 9) [] E0 (tCons (tLst (tCons (tProp (He.ga K "Lane") (spX (mF K) K dsp_Lane_guard) [] C8.E0 (tMethN (He.ga K "Lane") "moved" 2 (spXw (mF K) K dsp_Lane_moved) (fun vs zs => [vs.getD 0 .non, zs.getD 1 .non, zs.getD 0 .non]) C8.E0 (tVar 4) (tCons (tVar 6) (tCons (tOp (rIx K) (tVar 5) (tC (.int 0))) tNil)))) (tCons (tCB (rOwn1 (He.ga K "Lane") (spX (mF K) K dsp_Lane_len) C8.E0 rNat) (tCons (tMeth (He.ga K "Lane") "moved" (spXw (mF K) K dsp_Lane_moved) [] C8.E0 (tVar 4) (tCons (tOp (rIx K) (tVar 5) (tC (.int 0))) (tCons (tVar 6) tNil))) tNil)) tNil))) (tCons (tLst (tCons (tOp (rIx K) (tVar 3) (tC (.int 1))) (tCons (tCB (rLn K) (tCons (tOp (rIx K) (tVar 3) (tC (.int 0))) tNil)) tNil))) tNil)))))) (tRet (tC (.bl false))) tNext) (tSeq (tAsg (tCall (sp_law_pick K) [] E0 (tCons (tVar 1) (tCons (tLst (tCons (tUn (rU fun i => .int (-i)) (tC (.int 1))) (tCons (tC (.int 1000001)) (tCons (tC .non) (tCons (tC (.bl true)) (tCons (tC (.str "0")) (tCons (tTup (tCons (tC (.int 1)) tNil)) (tCons (tOp xPow (tC (.int 10)) (tC (.int 20))) tNil)))))))) tNil))) (gName 13)) (tSeq (tAsg (tCall (spOf (mF K) K dsp_law_odd) [] E0 (tCons (tVar 1) (tCons (tLst (tCons (tOp (xAdd K) (tOp (rIx K) (tVar 5) (tC (.int 0))) (tC (.str "zzzzzzzz"))) tNil)) tNil))) (gName 14)) (tSeq (tAsg (tLst (tCons (LamY.tLamV (T K) Λ (fun E => (tMeth (He.ga K "Lane") "moved" (spXw (mF K) K dsp_Lane_moved) [] E (tVar 4) (tCons (tVar 14) (tCons (tVar 13) tNil))))) (tCons (LamY.tLamV (T K) Λ (fun E => (tMeth (He.ga K "Lane") "moved" (spXw (mF K) K dsp_Lane_moved) [] E (tVar 4) (tCons (tOp (rIx K) (tVar 5) (tC (.int 0))) (tCons (tVar 13) tNil))))) tNil))) (gName 15)) (tIfS (tNot (tB (tCall (sp_law_same K 9) [] E0 (tCons (LamY.tAllGot K (gotCs K) (spPin (T K) K (errNs esL) fldNs dsph_law_field) Λ (tVar 15)) (tCons (tLst (tCons (tTup (tCons (tC (.str "UnknownName")) (tCons (tVar 14) tNil))) (tCons (tTup (tCons (tC (.str "InvalidPlace")) (tCons (tVar 13) tNil))) tNil))) tNil))))) (tRet (tC (.bl false))) tNext))))))))))))))) (tRet (tC (.bl true)))))
def tlams_law (K : Frag) : List (XK → TE) := [fun E => (tMeth (He.ga K "Lane") "moved" (spXw (mF K) K dsp_Lane_moved) [] E (tVar 4) (tCons (tOp (rIx K) (tVar 5) (tC (.int 0))) (tCons (tVar 13) tNil))), fun E => (tMeth (He.ga K "Lane") "moved" (spXw (mF K) K dsp_Lane_moved) [] E (tVar 4) (tCons (tVar 14) (tCons (tVar 13) tNil)))]
theorem li_lams {K : Frag}  : ∀ (i : Nat) (t : XK → TE), (tlams_law K)[i]? = some t → ∀ lk : Lk, lk.T = T K → lk.w → LiftE lk K (t lk.E) ((dlams_law.getD i dBad) lk.er)
  | 0, _, h, lk, hT, hw => by obtain rfl := Option.some.inj h; exact (l_methXw hw eok (spXw_ok hT) l_var (l_cons (l_op l_var (l_c fun _ => .int _) o_ix) (l_cons l_var l_nil)))
  | 1, _, h, lk, hT, hw => by obtain rfl := Option.some.inj h; exact (l_methXw hw eok (spXw_ok hT) l_var (l_cons l_var (l_cons l_var l_nil)))
  | n + 2, _, h, _, _, _ => by simp [tlams_law] at h
theorem li_law {lk : Lk} {K : Frag} (Λ : Hp → Addr → (XK → TE) → Prop) (hΛ : ∀ H H' f t, Ex H H' → Λ H f t → Λ H' f t) (hΛt : ∀ G H f t, Λ H f t → Λ (tell G H) f t) (hm : lk.m = ⟨True, T K⟩) (hw : lk.w) (hXA : XAll K (errNs esL) fldNs) (hEx : exmB K esL (gotCs K) = true)  : LiftS lk K (tn_law K Λ) (d_law_k05 (LmOf Λ (tlams_law K))) := by
  have hT : lk.T = T K := congrArg Dl.Md.T hm
  have hpT : lk.p := of_eq_true (congrArg Dl.Md.p hm)
  have hL := fun i t h => lm_ok (Λ := Λ) (ts := tlams_law K) i t h
  have hLm : ∀ i ψ, LmOf Λ (tlams_law K) i ψ → ∃ t, (tlams_law K)[i]? = some t ∧ ψ = fun H f => Λ H f t := fun _ _ h => h
  exact (l_seq (l_asg (l_call (top_ok hm ok_start) (l_cons l_var l_nil)) (l_name 1)) (l_seq (l_for (l_iRng1 (l_cons (l_c fun _ => .int _) l_nil)) (l_name 2) (l_seq (l_asg (l_call (spOf_ok0 hT) (l_cons l_var (l_cons (l_op (l_c fun _ => .int _) (l_call ok_pull (l_cons l_var (l_cons (l_c fun _ => .int _) l_nil))) o_add) (l_cons (l_c fun _ => .int _) l_nil)))) (l_name 3)) (l_seq (l_asg (l_tup (l_cons (l_callXw hw eok0 (spXw_ok hT) (l_cons l_var l_nil)) (l_cons (l_call ok_pickL (l_cons l_var (l_cons (l_op l_var (l_c fun _ => .int _) o_ix) l_nil))) l_nil))) (l_gtup (l_gcons (l_name 4) (l_gcons (l_name 5) l_gnil)))) (l_seq (l_asg (l_call ok_pickL (l_cons l_var (l_cons (l_lst (l_cons (l_c fun _ => .int _) (l_cons (l_c fun _ => .int _) (l_cons (l_op l_var (l_c fun _ => .int _) o_ix) (l_cons (l_op (l_call ok_pickL (l_cons l_var (l_cons (l_op l_var (l_c fun _ => .int _) o_ix) l_nil))) (l_c fun _ => .int _) o_ix) (l_cons (l_op (l_op l_var (l_c fun _ => .int _) o_ix) (l_call ok_pull (l_cons l_var (l_cons (l_c fun _ => .int _) l_nil))) o_add) l_nil)))))) l_nil))) (l_name 6)) (l_seq (l_asg (l_ofL (l_lcL (l_iList (l_op l_var (l_c fun _ => .int _) o_ix)) (l_name 8) (l_test (l_op l_var l_var o_ne)) l_var (by decide))) (l_name 7)) (l_seq (l_asg (l_op l_var (l_ofL (l_lcL (l_iList l_var) (l_name 8) l_yes (l_op l_var (l_c fun _ => .int _) o_ix) (by decide))) o_in) (l_name 9)) (l_seq (l_asg (l_got hw hT esSub hXA hEx (fun lk hT0 hp0 hw => (fun hT => (l_methX eok (spX_ok hT) (l_methXw hw eok (spXw_ok hT) l_var (l_cons (l_op l_var (l_c fun _ => .int _) o_ix) (l_cons l_var l_nil))) l_nil)) (hT0.trans hT))) (l_name 10)) (l_seq (l_asg (l_ofL (l_sortD (l_op (l_ofL (l_lcL (l_iList l_var) (l_name 8) l_yes (l_tup (l_cons (l_op l_var (l_c fun _ => .int _) o_ix) (l_cons (l_op l_var (l_c fun _ => .int _) o_ix) l_nil))) (by decide))) (l_lst (l_cons (l_tup (l_cons l_var (l_cons (l_op l_var (l_c fun _ => .int _) o_ix) l_nil))) l_nil)) o_add))) (l_name 11)) (l_seq (l_asg (l_if (l_tB l_var) (l_tup (l_cons (l_c fun _ => .str _) (l_cons l_var l_nil))) (l_tup (l_cons (l_c fun _ => .str _) (l_cons (l_ofL (l_lcL (l_iList l_var) (l_name 8) l_yes (l_tup (l_cons (l_op l_var (l_c fun _ => .int _) o_ix) (l_cons (l_op l_var (l_c fun _ => .int _) o_ix) l_nil))) (by decide))) l_nil)))) (l_name 12)) (l_seq (l_ifS (l_or (l_not (l_tB (l_call ok_same (l_cons l_var (l_cons l_var l_nil))))) (l_test (l_op l_var (l_callXw hw eok0 (spXw_ok hT) (l_cons l_var l_nil)) (o_ownXN (spX_ok hT))))) (l_ret (l_c fun _ => .bl _)) l_next) (l_seq (l_ifS (l_and (l_not (l_tB l_var)) (l_not (l_tB (l_call ok_same (l_cons (l_lst (l_cons (l_prop (spX_ok hT) (l_methXNw hw (gv := (fun vs zs => [vs.getD 0 .non, zs.getD 1 .non, zs.getD 0 .non])) (gd := (fun vs zs => [vs.getD 0 .non, zs.getD 1 .non, zs.getD 0 .non])) eok0 (spXw_ok hT) (fun _ _ _ _ _ _ r1 r2 => by repeat (first | exact .nil | refine .cons (rp_getD r1 _) ?_ | refine .cons (rp_getD r2 _) ?_)) l_var (l_cons l_var (l_cons (l_op l_var (l_c fun _ => .int _) o_ix) l_nil)))) (l_cons (l_cb (l_cons (l_methXw hw eok0 (spXw_ok hT) l_var (l_cons (l_op l_var (l_c fun _ => .int _) o_ix) (l_cons l_var l_nil))) l_nil) (o_own1 (spX_ok hT) hR_nat)) l_nil))) (l_cons (l_lst (l_cons (l_op l_var (l_c fun _ => .int _) o_ix) (l_cons (l_cb (l_cons (l_op l_var (l_c fun _ => .int _) o_ix) l_nil) o_len) l_nil))) l_nil)))))) (l_ret (l_c fun _ => .bl _)) l_next) (l_seq (l_asg (l_call ok_pickL (l_cons l_var (l_cons (l_lst (l_cons (l_un (l_c fun _ => .int _) o_neg) (l_cons (l_c fun _ => .int _) (l_cons (l_c fun _ => .non) (l_cons (l_c fun _ => .bl _) (l_cons (l_c fun _ => .str _) (l_cons (l_tup (l_cons (l_c fun _ => .int _) l_nil)) (l_cons (l_op (l_c fun _ => .int _) (l_c fun _ => .int _) o_pow) l_nil)))))))) l_nil))) (l_name 13)) (l_seq (l_asg (l_call (spOf_ok0 hT) (l_cons l_var (l_cons (l_lst (l_cons (l_op (l_op l_var (l_c fun _ => .int _) o_ix) (l_c fun _ => .str _) o_add) l_nil)) l_nil))) (l_name 14)) (l_seq (l_asg (l_lst (l_cons (l_lamV hΛ hΛt hw hT hpT (hL 1 _ rfl)) (l_cons (l_lamV hΛ hΛt hw hT hpT (hL 0 _ rfl)) l_nil))) (l_name 15)) (l_ifS (l_not (l_tB (l_call ok_same (l_cons (l_allGot (ts := tlams_law K) hLm hw hT esSub hXA hEx (fun i t h lk e hw => li_lams i t h lk (e.trans hT) hw) l_var) (l_cons (l_lst (l_cons (l_tup (l_cons (l_c fun _ => .str _) (l_cons l_var l_nil))) (l_cons (l_tup (l_cons (l_c fun _ => .str _) (l_cons l_var l_nil))) l_nil))) l_nil))))) (l_ret (l_c fun _ => .bl _)) l_next))))))))))))))) (l_ret (l_c fun _ => .bl _))))
theorem ok_law (F : FunD K "law" "law" (defArgs s_law) (defBody s_law) S_law [] [] (He.fAd K ("law", none)) fd) (k_Lane : Cls K (He.ga K "Lane")) (m_Lane_moved : Mth P w K mg base (L2.CX P w) 7 (He.ga K "Lane") "moved" ["self", "name", "place"] (spXw (mF K) K dsp_Lane_moved)) (m_Lane_watches : Mth P w K mg base (L2.CX P w) 1 (He.ga K "Lane") "watches" ["self"] (spX (mF K) K dsp_Lane_watches)) (m_Lane_moved_k_place_name : MthK P w K mg base (L2.CX P w) 7 (He.ga K "Lane") "moved" 1 ["place", "name"] (fun vs zs => [vs.getD 0 .non, zs.getD 1 .non, zs.getD 0 .non]) (spXw (mF K) K dsp_Lane_moved)) (q_Lane : OwnQ P w K mg base (L2.CX P w) 1 (He.ga K "Lane") (spX (mF K) K dsp_Lane_eq)) (f_law_start : Fn P w K mg base CX0 1 "_law_start" ["script"] (sp_law_start K)) (f_law_lane : Fn P w K mg base CX0 4 "_law_lane" ["bag", "count", "wide"] (spOf (mF K) K dsp_law_lane)) (f_law_pull : Fn P w K mg base CX0 1 "_law_pull" ["bag", "size"] (sp_law_pull K)) (f_law_pick : Fn P w K mg base CX0 2 "_law_pick" ["bag", "some"] (sp_law_pick K)) (f_law_made_lane : Fn P w K mg base (L2.CX P w) 7 "_law_made_lane" ["lane_z"] (spXw (mF K) K dsp_law_made_lane)) (f_law_same : Fn P w K mg base CX0 11 "_law_same" ["found", "due"] (sp_law_same K 9)) (f_law_odd : Fn P w K mg base CX0 3 "_law_odd" ["bag", "more"] (spOf (mF K) K dsp_law_odd)) (o_Lane_len : OwnSp P w K mg base (L2.CX P w) 1 (He.ga K "Lane") "__len__" (spX (mF K) K dsp_Lane_len)) (pr_Lane_guard : Prp P w K mg base (L2.CX P w) 1 (He.ga K "Lane") "guard" (spX (mF K) K dsp_Lane_guard)) (got : Got P w K mg base 1 "_law_got" (gotCs K) (spPin (T K) K (errNs esL) fldNs dsph_law_field)) (hXA : XAll K (errNs esL) fldNs) (hEx : exmB K esL (gotCs K) = true) (TB : LamX.TabB base mg (He.cT K ("law", none)).1 (He.cT K ("law", none)).2) (hTu : TabU (T K)) (AG : LamY.AllG P w K mg "_law_all_got" "_law_got") (MG : ∀ b : Heap, Got P w K mg b 1 "_law_got" (gotCs K) (spPin (T K) K (errNs esL) fldNs dsph_law_field)) (b_len : mg "len" = none) (b_range : mg "range" = none) (b_sorted : mg "sorted" = none) : FnOk P w K mg base CX0 (15) (He.fAd K ("law", none)) fd ["script"] (sp_lawT (T K) K) := by
  refine Dl.FunD.okC F sc_law (fun vs H Q E h => by (repeat (first | (obtain ⟨rfl, _⟩ := h; rfl) | (obtain ⟨_, h⟩ := h)))) (fun A outer s H vs Q E hr h => ⟨tn_law K (LamY.LamIs (cxOf CX0 P w K mg base N_law "law" S_law (He.fAd K ("law", none)) (.ref (He.codeOf K ("law", none))) A outer s H E).nox (11)), PSs.nox ?_, Dl.fn_lawT (N := N_law) (m := ⟨True, T K⟩) (fun lk h1 _ h3 _ _ => li_law (K := K) (LamY.LamIs (cxOf CX0 P w K mg base N_law "law" S_law (He.fAd K ("law", none)) (.ref (He.codeOf K ("law", none))) A outer s H E).nox (11)) (fun H H' f t e h => LamY.LamIs.ext e h) lamIs_tell h1 h3 hXA hEx) (p_law (LmOf (LamY.LamIs (cxOf CX0 P w K mg base N_law "law" S_law (He.fAd K ("law", none)) (.ref (He.codeOf K ("law", none))) A outer s H E).nox (11)) (tlams_law K))) vs H Q E h⟩)
  have hu65 : (Around.deeper A (PyProof.Rows.envOfC "law" S_law s.heap.objs.size (He.fAd K ("law", none)) (.ref (He.codeOf K ("law", none))))).units + 65 < cLine := by have := hr.un; omega
  exact (pss_cons (ps_set (i := 1) sc_law.nd rfl (by first | exact Or.inl rfl | exact Or.inr rfl) (pe_fn f_law_start hr (by omega) (by rfl) pass0 (pa_cons (pv 0) pa_nil))) (pss_cons (ps_for PassesOwn.never rfl (pi_range1 (by rfl) b_range (pa_cons pe_int pa_nil)) (pg_name (i := 2) sc_law.nd rfl (by first | exact Or.inl rfl | exact Or.inr rfl)) (pss_cons (ps_set (i := 3) sc_law.nd rfl (by first | exact Or.inl rfl | exact Or.inr rfl) (pe_fn f_law_lane hr (by omega) (by rfl) pass0 (pa_cons (pv 1) (pa_cons (pe_op op_xAdd pe_int (pe_fn f_law_pull hr (by omega) (by rfl) pass0 (pa_cons (pv 1) (pa_cons pe_int pa_nil)))) (pa_cons pe_int pa_nil))))) (pss_cons (ps_asg (pe_tup (pa_cons (pe_fn f_law_made_lane hr (by omega) (by rfl) passL (pa_cons (pv 3) pa_nil)) (pa_cons (pe_fn f_law_pick hr (by omega) (by rfl) pass0 (pa_cons (pv 1) (pa_cons (pe_ix ix_seq (pv 3) pe_int (fun _ _ => rfl)) pa_nil))) pa_nil))) (pg_tup rfl (pgs_cons (pg_name (i := 4) sc_law.nd rfl (by first | exact Or.inl rfl | exact Or.inr rfl)) (pgs_cons (pg_name (i := 5) sc_law.nd rfl (by first | exact Or.inl rfl | exact Or.inr rfl)) pgs_nil)))) (pss_cons (ps_set (i := 6) sc_law.nd rfl (by first | exact Or.inl rfl | exact Or.inr rfl) (pe_fn f_law_pick hr (by omega) (by rfl) pass0 (pa_cons (pv 1) (pa_cons (pe_lst (pa_cons pe_int (pa_cons pe_int (pa_cons (pe_ix ix_seq (pv 5) pe_int (fun _ _ => rfl)) (pa_cons (pe_ix ix_seq (pe_fn f_law_pick hr (by omega) (by rfl) pass0 (pa_cons (pv 1) (pa_cons (pe_ix ix_seq (pv 3) pe_int (fun _ _ => rfl)) pa_nil))) pe_int (fun _ _ => rfl)) (pa_cons (pe_op op_xAdd (pe_ix ix_seq (pv 5) pe_int (fun _ _ => rfl)) (pe_fn f_law_pull hr (by omega) (by rfl) pass0 (pa_cons (pv 1) (pa_cons pe_int pa_nil)))) pa_nil)))))) pa_nil)))) (pss_cons (ps_setLc (i := 7) (own := [("row", 8)]) (g := (gName 8)) (tt := (tTest (tOp (xNe K) (tVar 8) (tVar 5)))) rfl sc_law.nd rfl rfl (sw_true rfl rfl rfl (by decide +kernel)) (pi_list (pe_ix ix_seq (pv 3) pe_int (fun _ _ => rfl))) (blkOk_by (own := [("row", 8)]) (N := N_law) (sc := S_law) (by decide +kernel)) (fun _ _ _ _ _ => (pg_name (i := 8) sc_law.nd rfl (by first | exact Or.inl rfl | exact Or.inr rfl))) (fun _ _ _ _ _ => (pts_one (pt_cmpR (op_xNe hr.units) (pv 8) (pv 5) (nomark _)))) (fun _ _ _ _ _ => (pv 8))) (pss_cons (ps_set (i := 9) sc_law.nd rfl (by first | exact Or.inl rfl | exact Or.inr rfl) (pe_cmpR (op_xIn hu65) (pv 6) (pe_lc (own := [("row", 8)]) (g := (gName 8)) (tt := tYes) rfl sc_law.nd (pi_list (pv 7)) (blkOk_by (own := [("row", 8)]) (N := N_law) (sc := S_law) (by decide +kernel)) (fun _ _ _ _ _ => (pg_name (i := 8) sc_law.nd rfl (by first | exact Or.inl rfl | exact Or.inr rfl))) (fun _ _ _ _ _ => pts_nil) (fun _ _ _ _ _ => (pe_ix ix_seq (pv 8) pe_int (fun _ _ => rfl)))) rfl)) (pss_cons (ps_set (i := 10) sc_law.nd rfl (by first | exact Or.inl rfl | exact Or.inr rfl) (pe_got (kk := 11) got hr (by omega) (by decide) (by rfl) TB rfl List.mem_cons_self (tab_u hTu List.mem_cons_self) (LamX.lamS_by (show LamX.lamSB S_law _ = true by decide +kernel)) (by rfl) (fun _ _ _ _ _ => rfl) (fun A outer s H E f c1 hr => by exact (pe_mth0 (pe_mth (pv 4) k_Lane m_Lane_moved hr (by omega) passLm (pa_cons (pe_ix ix_seq (pv 5) pe_int (fun _ _ => rfl)) (pa_cons (pv 6) pa_nil))) k_Lane m_Lane_watches hr (by omega) passLm)))) (pss_cons (ps_set (i := 11) sc_law.nd rfl (by first | exact Or.inl rfl | exact Or.inr rfl) (pe_callB (cr_sortD hr) (by rfl) b_sorted PyProof.Rows.boot_sorted (pa_cons (pe_op op_xAdd (pe_lc (own := [("row", 8)]) (g := (gName 8)) (tt := tYes) rfl sc_law.nd (pi_list (pv 7)) (blkOk_by (own := [("row", 8)]) (N := N_law) (sc := S_law) (by decide +kernel)) (fun _ _ _ _ _ => (pg_name (i := 8) sc_law.nd rfl (by first | exact Or.inl rfl | exact Or.inr rfl))) (fun _ _ _ _ _ => pts_nil) (fun _ _ _ _ _ => (pe_tup (pa_cons (pe_ix ix_seq (pv 8) pe_int (fun _ _ => rfl)) (pa_cons (pe_ix ix_seq (pv 8) pe_int (fun _ _ => rfl)) pa_nil))))) (pe_lst (pa_cons (pe_tup (pa_cons (pv 6) (pa_cons (pe_ix ix_seq (pv 5) pe_int (fun _ _ => rfl)) pa_nil))) pa_nil))) pa_nil))) (pss_cons (ps_set (i := 12) sc_law.nd rfl (by first | exact Or.inl rfl | exact Or.inr rfl) (pe_ifExp (pt_val (pv 9)) (pe_tup (pa_cons pe_str (pa_cons (pv 6) pa_nil))) (pe_tup (pa_cons pe_str (pa_cons (pe_lc (own := [("row", 8)]) (g := (gName 8)) (tt := tYes) rfl sc_law.nd (pi_list (pv 11)) (blkOk_by (own := [("row", 8)]) (N := N_law) (sc := S_law) (by decide +kernel)) (fun _ _ _ _ _ => (pg_name (i := 8) sc_law.nd rfl (by first | exact Or.inl rfl | exact Or.inr rfl))) (fun _ _ _ _ _ => pts_nil) (fun _ _ _ _ _ => (pe_tup (pa_cons (pe_ix ix_seq (pv 8) pe_int (fun _ _ => rfl)) (pa_cons (pe_ix ix_seq (pv 8) pe_int (fun _ _ => rfl)) pa_nil))))) pa_nil))))) (pss_cons (ps_if (PW.pt (pw_or (pt_not (pt_val (pe_fn f_law_same hr (by omega) (by rfl) pass0 (pa_cons (pv 10) (pa_cons (pv 12) pa_nil))))) (pw_or1 (pt_cmpR (op_qN q_Lane hr (by omega) passL) (pv 4) (pe_fn f_law_made_lane hr (by omega) (by rfl) passL (pa_cons (pv 3) pa_nil)) (nomark _))))) (pss_one (ps_ret pe_bl)) pss_nil) (pss_cons (ps_if (PW.pt (pw_and (pt_not (pt_val (pv 9))) (pw_and1 (pt_not (pt_val (pe_fn f_law_same hr (by omega) (by rfl) pass0 (pa_cons (pe_lst (pa_cons (pe_prp (pe_mthk0 (pv 4) k_Lane m_Lane_moved_k_place_name hr (by omega) passL (pk_cons (pv 6) (pk_cons (pe_ix ix_seq (pv 5) pe_int (fun _ _ => rfl)) pk_nil))) k_Lane pr_Lane_guard hr (by omega) passL) (pa_cons (pe_callB (call_lenO (k := lv_Lane_len) o_Lane_len (hr.mono (by decide)) passL) (by rfl) b_len boot_ln (pa_cons (pe_mth (pv 4) k_Lane m_Lane_moved hr (by omega) passL (pa_cons (pe_ix ix_seq (pv 5) pe_int (fun _ _ => rfl)) (pa_cons (pv 6) pa_nil))) pa_nil)) pa_nil))) (pa_cons (pe_lst (pa_cons (pe_ix ix_seq (pv 3) pe_int (fun _ _ => rfl)) (pa_cons (pe_callB cr_len (by rfl) b_len boot_ln (pa_cons (pe_ix ix_seq (pv 3) pe_int (fun _ _ => rfl)) pa_nil)) pa_nil))) pa_nil)))))))) (pss_one (ps_ret pe_bl)) pss_nil) (pss_cons (ps_set (i := 13) sc_law.nd rfl (by first | exact Or.inl rfl | exact Or.inr rfl) (pe_fn f_law_pick hr (by omega) (by rfl) pass0 (pa_cons (pv 1) (pa_cons (pe_lst (pa_cons (pe_un un_neg pe_int) (pa_cons pe_int (pa_cons pe_non (pa_cons pe_bl (pa_cons pe_str (pa_cons (pe_tup (pa_cons pe_int pa_nil)) (pa_cons (pe_op op_xPow pe_int pe_int) pa_nil)))))))) pa_nil)))) (pss_cons (ps_set (i := 14) sc_law.nd rfl (by first | exact Or.inl rfl | exact Or.inr rfl) (pe_fn f_law_odd hr (by omega) (by rfl) pass0 (pa_cons (pv 1) (pa_cons (pe_lst (pa_cons (pe_op op_xAdd (pe_ix ix_seq (pv 5) pe_int (fun _ _ => rfl)) pe_str) pa_nil)) pa_nil)))) (pss_cons (ps_set (i := 15) sc_law.nd rfl (by first | exact Or.inl rfl | exact Or.inr rfl) (pe_lst (pa_cons (LamY.pe_lamV0 (k := 11) TB rfl List.mem_cons_self (tab_u hTu List.mem_cons_self) ⟨LamY.lamS3_by (show LamY.lamS3B S_law N_law _ = true by decide +kernel), fun _ _ _ _ _ _ => rfl, fun p hp => (by cases hp), (fun A outer s H E f c1 hr => by exact (pe_mth (pv 4) k_Lane m_Lane_moved hr (by omega) passLm (pa_cons (pv 14) (pa_cons (pv 13) pa_nil))))⟩ (by rfl)) (pa_cons (LamY.pe_lamV1 (k := 11) (a := "a") TB rfl List.mem_cons_self (tab_u hTu List.mem_cons_self) (fun u => ⟨LamY.lamS3_by (show LamY.lamS3B S_law N_law _ = true by decide +kernel), fun _ _ _ _ _ _ _ => ⟨_, rfl, rfl⟩, fun p hp => (by cases hp with | head => rfl | tail _ h => cases h), (fun A outer s H E f c1 hr => by exact (pe_mth (pv 4) k_Lane m_Lane_moved hr (by omega) passLm (pa_cons (pe_ix ix_seq (pv 5) pe_int (fun _ _ => rfl)) (pa_cons (pv 13) pa_nil))))⟩) rfl rfl pe_int) pa_nil)))) (pss_one (ps_if (pt_not (pt_val (pe_fn f_law_same hr (by omega) (by rfl) pass0 (pa_cons (LamY.pe_allgot (k := 11) AG MG (hr.mono (by decide)) (by decide) (by rfl) (fun _ => rfl) (pv 15)) (pa_cons (pe_lst (pa_cons (pe_tup (pa_cons pe_str (pa_cons (pv 14) pa_nil))) (pa_cons (pe_tup (pa_cons pe_str (pa_cons (pv 13) pa_nil))) pa_nil))) pa_nil))))) (pss_one (ps_ret pe_bl)) pss_nil)))))))))))))))) (pss_one (ps_ret pe_bl))))
end
def d_law_start : He.DefD := ⟨("_law_start", none), "_law_start", "_law_start", defArgs s_law_start, defBody s_law_start, defScope s_law_start, [], []⟩
def d_law_pull : He.DefD := ⟨("_law_pull", none), "_law_pull", "_law_pull", defArgs s_law_pull, defBody s_law_pull, defScope s_law_pull, [], []⟩
def d_law_pick : He.DefD := ⟨("_law_pick", none), "_law_pick", "_law_pick", defArgs s_law_pick, defBody s_law_pick, defScope s_law_pick, [], []⟩
def d_law_words : He.DefD := ⟨("_law_words", none), "_law_words", "_law_words", defArgs s_law_words, defBody s_law_words, defScope s_law_words, [], []⟩
def d_law_lane : He.DefD := ⟨("_law_lane", none), "_law_lane", "_law_lane", defArgs s_law_lane, defBody s_law_lane, defScope s_law_lane, [], []⟩
def d_is_name : He.DefD := ⟨("is_name", none), "is_name", "is_name", defArgs s_is_name, defBody s_is_name, defScope s_is_name, [], []⟩
def d_is_integer : He.DefD := ⟨("is_integer", none), "is_integer", "is_integer", defArgs s_is_integer, defBody s_is_integer, defScope s_is_integer, [], []⟩
def d_is_number : He.DefD := ⟨("is_number", none), "is_number", "is_number", defArgs s_is_number, defBody s_is_number, defScope s_is_number, [], []⟩
def d_is_watch : He.DefD := ⟨("is_watch", none), "is_watch", "is_watch", defArgs s_is_watch, defBody s_is_watch, defScope s_is_watch, [], []⟩
def d_Lane_init : He.DefD := ⟨("Lane", some "__init__"), "__init__", "Lane.__init__", defArgs s_Lane_init, defBody s_Lane_init, defScope s_Lane_init, [], []⟩
def d_law_made_lane : He.DefD := ⟨("_law_made_lane", none), "_law_made_lane", "_law_made_lane", defArgs s_law_made_lane, defBody s_law_made_lane, defScope s_law_made_lane, [], []⟩
def d_law_kind : He.DefD := ⟨("_law_kind", none), "_law_kind", "_law_kind", defArgs s_law_kind, defBody s_law_kind, defScope s_law_kind, [], []⟩
def d_law_same : He.DefD := ⟨("_law_same", none), "_law_same", "_law_same", defArgs s_law_same, defBody s_law_same, defScope s_law_same, [], []⟩
def d_law_odd : He.DefD := ⟨("_law_odd", none), "_law_odd", "_law_odd", defArgs s_law_odd, defBody s_law_odd, defScope s_law_odd, [], []⟩
def d_Lane_place : He.DefD := ⟨("Lane", some "place"), "place", "Lane.place", defArgs s_Lane_place, defBody s_Lane_place, defScope s_Lane_place, [], []⟩
def d_Lane_moved : He.DefD := ⟨("Lane", some "moved"), "moved", "Lane.moved", defArgs s_Lane_moved, defBody s_Lane_moved, defScope s_Lane_moved, [], []⟩
def d_Lane_watches : He.DefD := ⟨("Lane", some "watches"), "watches", "Lane.watches", defArgs s_Lane_watches, defBody s_Lane_watches, defScope s_Lane_watches, [], []⟩
def d_Lane_eq : He.DefD := ⟨("Lane", some "__eq__"), "__eq__", "Lane.__eq__", defArgs s_Lane_eq, defBody s_Lane_eq, defScope s_Lane_eq, [], []⟩
def d_Lane_len : He.DefD := ⟨("Lane", some "__len__"), "__len__", "Lane.__len__", defArgs s_Lane_len, defBody s_Lane_len, defScope s_Lane_len, [], []⟩
def d_Lane_guard : He5.DefA := ⟨fun K => He5.wf K (He.ga K "Lane") "property" "guard", "guard", "Lane.guard", defArgs s_Lane_guard, defBody s_Lane_guard, defScope s_Lane_guard, [], []⟩
def d_law_field : He.DefD := ⟨("_law_field", none), "_law_field", "_law_field", defArgs s_law_field, defBody s_law_field, defScope s_law_field, [], []⟩
def d_law : He.DefD := ⟨("law", none), "law", "law", defArgs s_law, defBody s_law, defScope s_law, [], []⟩
def d_law_got : He.DefD := ⟨("_law_got", none), "_law_got", "_law_got", defArgs s_law_got, defBody s_law_got, defScope s_law_got, [], []⟩
def d_law_all_got : He.DefD := ⟨("_law_all_got", none), "_law_all_got", "_law_all_got", defArgs s_law_all_got, defBody s_law_all_got, defScope s_law_all_got, [], []⟩
def x_InvalidPlace : DefX := ⟨"InvalidPlace", "InvalidPlace.__init__", defArgs s_InvalidPlace_init, Xe.body1 "the place is not valid" "given" "InvalidPlace" 0 0 ⟨12, 8, 12, 13⟩ ⟨12, 8, 12, 15⟩ ⟨12, 8, 12, 24⟩ ⟨12, 8, 12, 50⟩ ⟨12, 8, 12, 50⟩ ⟨12, 25, 12, 49⟩ ⟨13, 8, 13, 12⟩ ⟨13, 8, 13, 18⟩ ⟨13, 21, 13, 26⟩ ⟨13, 8, 13, 26⟩ ⟨14, 8, 14, 12⟩ ⟨14, 8, 14, 17⟩ ⟨14, 20, 14, 34⟩ ⟨14, 8, 14, 34⟩, [("self", .local), ("given", .local), ("__class__", .free), ("super", .globalImplicit)]⟩
def x_InvalidCount : DefX := ⟨"InvalidCount", "InvalidCount.__init__", defArgs s_InvalidCount_init, Xe.body1 "the count is not valid" "given" "InvalidCount" 0 0 ⟨18, 8, 18, 13⟩ ⟨18, 8, 18, 15⟩ ⟨18, 8, 18, 24⟩ ⟨18, 8, 18, 50⟩ ⟨18, 8, 18, 50⟩ ⟨18, 25, 18, 49⟩ ⟨19, 8, 19, 12⟩ ⟨19, 8, 19, 18⟩ ⟨19, 21, 19, 26⟩ ⟨19, 8, 19, 26⟩ ⟨20, 8, 20, 12⟩ ⟨20, 8, 20, 17⟩ ⟨20, 20, 20, 34⟩ ⟨20, 8, 20, 34⟩, [("self", .local), ("given", .local), ("__class__", .free), ("super", .globalImplicit)]⟩
def x_InvalidWatch : DefX := ⟨"InvalidWatch", "InvalidWatch.__init__", defArgs s_InvalidWatch_init, Xe.body1 "a watch is not valid" "at" "InvalidWatch" 0 0 ⟨24, 8, 24, 13⟩ ⟨24, 8, 24, 15⟩ ⟨24, 8, 24, 24⟩ ⟨24, 8, 24, 48⟩ ⟨24, 8, 24, 48⟩ ⟨24, 25, 24, 47⟩ ⟨25, 8, 25, 12⟩ ⟨25, 8, 25, 15⟩ ⟨25, 18, 25, 20⟩ ⟨25, 8, 25, 20⟩ ⟨26, 8, 26, 12⟩ ⟨26, 8, 26, 17⟩ ⟨26, 20, 26, 34⟩ ⟨26, 8, 26, 34⟩, [("self", .local), ("at", .local), ("__class__", .free), ("super", .globalImplicit)]⟩
def x_UnknownName : DefX := ⟨"UnknownName", "UnknownName.__init__", defArgs s_UnknownName_init, Xe.body1 "the name is unknown" "name" "UnknownName" 0 0 ⟨30, 8, 30, 13⟩ ⟨30, 8, 30, 15⟩ ⟨30, 8, 30, 24⟩ ⟨30, 8, 30, 47⟩ ⟨30, 8, 30, 47⟩ ⟨30, 25, 30, 46⟩ ⟨31, 8, 31, 12⟩ ⟨31, 8, 31, 17⟩ ⟨31, 20, 31, 24⟩ ⟨31, 8, 31, 24⟩ ⟨32, 8, 32, 12⟩ ⟨32, 8, 32, 17⟩ ⟨32, 20, 32, 33⟩ ⟨32, 8, 32, 33⟩, [("self", .local), ("name", .local), ("__class__", .free), ("super", .globalImplicit)]⟩
def fx : List DefX := [x_InvalidPlace, x_InvalidCount, x_InvalidWatch, x_UnknownName]
def fn : List He.DefD := [d_law_start, d_law_pull, d_law_pick, d_law_words, d_law_lane, d_is_name, d_is_integer, d_is_number, d_is_watch, d_Lane_init, d_law_made_lane, d_law_kind, d_law_same, d_law_odd, d_Lane_place, d_Lane_moved, d_Lane_watches, d_Lane_eq, d_Lane_len, d_law_field, d_law, d_law_got, d_law_all_got]
def fz : List He5.DefA := [d_Lane_guard]
def tf : List He.Defn := [("law", none), ("Lane", some "__init__")]
def fa : List He.Fa := [.glo "_law_start", .glo "_law_pull", .glo "_law_pick", .glo "_law_words", .glo "_law_lane", .glo "is_name", .glo "is_integer", .glo "is_number", .glo "is_watch", .glo "_law_made_lane", .glo "_law_kind", .glo "_law_same", .glo "_law_odd", .glo "_law_field", .glo "law", .glo "_law_got", .glo "_law_all_got", .free "all", .free "any", .free "bool", .free "enumerate", .free "int", .free "isinstance", .free "len", .free "list", .free "range", .free "sorted", .free "str", .free "super", .free "tuple", .free "zip", .str "LETTERS" "abcdefghijklmnopqrstuvwxyz", .glo "Lane", .int "MOST_LETTERS" 8, .int "MOST_NUMBER" 1000000, .glo "HushError", .glo "Missing", .glo "NothingLeft", .glo "InvalidPlace", .glo "InvalidCount", .glo "InvalidWatch", .glo "UnknownName", .cls "Lane", .noat "Lane" "own_watches", .noat "Lane" "own_guard", .noat "Lane" "places", .meth "Lane" "__eq__", .meth "Lane" "__len__", .meth "Lane" "moved", .meth "Lane" "place", .meth "Lane" "watches", .mkr "Lane", .glo "Lane"]
def ts : List He.Tab := []
def ex : Frag → Bool := fun K => (ownB K (He.ga K "Lane")) && (prpB K (He.ga K "Lane") (He.ga K "Lane") "guard") && (noB K "InvalidPlace" "given") && (noB K "InvalidCount" "given") && (noB K "InvalidWatch" "at") && (noB K "UnknownName" "name") && (isaB K isa_Lane) && (tabUB (T K)) && (ccIntB K "Lane" "MOST" 5) && (xallB K (errNs esL) fldNs) && (exmB K esL (gotCs K)) && (insCB K (He.ga K "Lane")) && true
abbrev R : PySem.W.OpenRow := PySem.W.OpenLaw.row PySem.Challenge.rw_hushlane_k05_lanes_changed
abbrev hk : PySem.W.Hook := hookV 5 fa fn ts tf fz fx ("/claim/cut.py" : Str) ex
def ob (s : PySem.W.SharedT) : AlV := obsV 5 fa fn ts tf fz fx ("/claim/cut.py" : Str) ex (HandSHeadRun.getT s)
theorem ob_eq (s : PySem.W.SharedT) : ob s = hk.obs s.abs := obsV_eq (HandSHeadRun.getT_eq s)
def loose0 : List Str := ["_wall", "HushError", "Missing", "InvalidPlace", "InvalidCount", "InvalidWatch", "UnknownName", "NothingLeft", "LETTERS", "MOST_LETTERS", "MOST_NUMBER", "is_integer", "is_number", "is_name", "is_watch", "Lane", "_law_start", "_law_pull", "_law_pick", "_law_words"]
def loose1 : List Str := ["_law_lane", "_law_made_lane", "_law_kind", "_law_same", "_law_field", "_law_got", "_law_all_got", "_law_odd"]
abbrev loose : List Str := loose0 ++ loose1
theorem run2t (w : World) : HandSHeadRun.RunEq R (PySem.W.view R.prog [31]) hk ob 20000 loose (w.withFollow "special-get-raises" true) := by
  intro os
  kernel_rfl
theorem run2f (w : World) : HandSHeadRun.RunEq R (PySem.W.view R.prog [31]) hk ob 20000 loose (w.withFollow "special-get-raises" false) := by
  intro os
  kernel_rfl
theorem run2 (b : Bool) (w : World) : HandSHeadRun.RunEq R (PySem.W.view R.prog [31]) hk ob 20000 loose (w.withFollow "special-get-raises" b) := by
  cases b
  · exact run2f w
  · exact run2t w
theorem run (w : World) : HandSHeadRun.RunEq R (PySem.W.view R.prog [31]) hk ob 20000 loose w := by
  have h := run2 (w.params.followText "special-get-raises") w
  rwa [World.withFollow_self] at h
theorem sc_law_field : FnScope N_law_field ["e"] S_law_field := ⟨rfl, rfl, rfl, by decide +kernel, rfl, by decide +kernel, by decide +kernel⟩
theorem sc_law_all_got : FnScope N_law_all_got ["asks"] S_law_all_got := ⟨rfl, rfl, rfl, by decide +kernel, rfl, by decide +kernel, by decide +kernel⟩
theorem gsc : GotSc "ask" "e" "_law_field" "HushError" "Missing" "NothingLeft" S_law_got := ⟨⟨rfl, rfl, rfl, by decide +kernel, rfl, by decide +kernel, by decide +kernel⟩, .inl rfl, rfl, rfl, rfl, rfl, rfl, .inl rfl, by decide, by decide, by decide, by decide, by decide, by decide, by decide, by decide, by decide⟩
theorem gbody : GotBody "ask" "e" "_law_field" "HushError" "Missing" "NothingLeft" (defBody s_law_got) := ⟨_, _, _, _, _, _, _, _, _, (⟨0, 0, 0, 0⟩ : Pos), _, _, _, _, _, _, _, _, _, _, _, _, _, rfl⟩
theorem okp_law_field {P : Program} {w : World} {K : Frag} {mg : Str → Option Value} {base : Heap} {f : Addr} {fd : FuncData} (F : FunD K "_law_field" "_law_field" (defArgs s_law_field) (defBody s_law_field) S_law_field [] [] f fd) (hX : XAll K (errNs esL) fldNs) : FnP P w K mg base C8.CX0 1 f fd ["e"] (spPin (T K) K (errNs esL) fldNs dsph_law_field) := by
  refine fnP_pin F sc_law_field hX (fun lk a d c => lih_law_field a d c) ph_law_field (fun cdv A outer s H E p d c hz hf T hno hr => ?_)
  have hp : (p.1, p.2) ∈ [p] := List.mem_cons_self
  have hun : (A.deeper (envOfC "_law_field" S_law_field s.heap.objs.size f cdv)).units + 64 < cLine := by have := hr.un; omega
  have hu65 : (Around.deeper A (PyProof.Rows.envOfC "_law_field" S_law_field s.heap.objs.size f cdv)).units + 65 < cLine := by have := hr.un; omega
  exact (pss_cons (ps_if (pt_cmpR (op_xIn hu65) (pe_xfp hp T (hno "code" (by decide)) hz hf (pv 0) (by rfl)) (pe_lst (pa_cons pe_str (pa_cons pe_str (pa_cons pe_str (pa_cons pe_str (pa_cons pe_str (pa_cons pe_str (pa_cons pe_str (pa_cons pe_str (pa_cons pe_str (pa_cons pe_str pa_nil))))))))))) rfl) (pss_one (ps_ret (pe_xfp hp T (hno "given" (by decide)) hz hf (pv 0) (by rfl)))) pss_nil) (pss_cons (ps_if (pt_cmpR (op_xIn hu65) (pe_xfp hp T (hno "code" (by decide)) hz hf (pv 0) (by rfl)) (pe_lst (pa_cons pe_str (pa_cons pe_str (pa_cons pe_str (pa_cons pe_str (pa_cons pe_str pa_nil)))))) rfl) (pss_one (ps_ret (pe_xfp hp T (hno "at" (by decide)) hz hf (pv 0) (by rfl)))) pss_nil) (pss_cons (ps_if (pt_cmpR (op_xIn hu65) (pe_xfp hp T (hno "code" (by decide)) hz hf (pv 0) (by rfl)) (pe_lst (pa_cons pe_str (pa_cons pe_str pa_nil))) rfl) (pss_one (ps_ret (pe_xfp hp T (hno "name" (by decide)) hz hf (pv 0) (by rfl)))) pss_nil) (pss_cons (ps_if (pt_cmpR (op_xEq hun) (pe_xfp hp T (hno "code" (by decide)) hz hf (pv 0) (by rfl)) pe_str (nomark _)) (pss_one (ps_ret (pe_xfp hp T (hno "most" (by decide)) hz hf (pv 0) (by rfl)))) pss_nil) (pss_cons (ps_if (pt_cmpR (op_xEq hun) (pe_xfp hp T (hno "code" (by decide)) hz hf (pv 0) (by rfl)) pe_str (nomark _)) (pss_one (ps_ret (pe_xfp hp T (hno "index" (by decide)) hz hf (pv 0) (by rfl)))) pss_nil) (pss_one (ps_ret (pe_ifExp (pt_cmpR (op_xEq hun) (pe_xfp hp T (hno "code" (by decide)) hz hf (pv 0) (by rfl)) pe_str (nomark _)) (pe_xfp hp T (hno "line" (by decide)) hz hf (pv 0) (by rfl)) pe_non))))))))
theorem facts {P : Program} {w : World} {K : Frag} {h h0 : Heap} {mg : Str → Option Value} {f : Addr} (hfile : ((P.main.file : Str) == ("/claim/cut.py" : Str)) = true) (htop : (P.main.scope.names.lookup ("super" : Str)).isSome = false) (X : K.In h) (G : h.Ns mainGlobals mg) (hfa : mg ("law" : Str) = some (.ref f)) (cx : SaysV fa fn ts tf fz fx ("/claim/cut.py" : Str) ex w h0 K) :
    ∃ fd : FuncData, f = He.fAd K ("law", none) ∧ (∀ (s : Shared) (v : Value), BindsTo s fd ⟨[v], []⟩ [("script", v)]) ∧ ∀ base : Heap, K.In base → base.Ns mainGlobals mg → (∀ p ∈ tf.map (He.cT K), LamX.TabB base mg p.1 p.2) → FnOk P w K mg base CX0 15 f fd ["script"] (sp_lawT (T K) K) := by
  have cw := cx.w
  have c := cw.t.d
  have more0 := cw.more
  unfold ex at more0
  simp only [Bool.and_true, Bool.and_eq_true] at more0
  obtain ⟨⟨⟨⟨⟨⟨⟨⟨⟨⟨⟨own_Lane, pb_Lane_guard⟩, nb_InvalidPlace⟩, nb_InvalidCount⟩, nb_InvalidWatch⟩, nb_UnknownName⟩, isab_Lane⟩, tu_⟩, cb_Lane_MOST⟩, xa_⟩, exm_⟩, ins_Lane⟩ := more0
  obtain ⟨ne_Lane, ob_Lane⟩ := ownB_ok own_Lane
  obtain ⟨fd_law_start, F_law_start⟩ := c.def_ 0 (d := d_law_start) rfl
  obtain ⟨fd_law_pull, F_law_pull⟩ := c.def_ 1 (d := d_law_pull) rfl
  obtain ⟨fd_law_pick, F_law_pick⟩ := c.def_ 2 (d := d_law_pick) rfl
  obtain ⟨fd_law_words, F_law_words⟩ := c.def_ 3 (d := d_law_words) rfl
  obtain ⟨fd_law_lane, F_law_lane⟩ := c.def_ 4 (d := d_law_lane) rfl
  obtain ⟨fd_is_name, F_is_name⟩ := c.def_ 5 (d := d_is_name) rfl
  obtain ⟨fd_is_integer, F_is_integer⟩ := c.def_ 6 (d := d_is_integer) rfl
  obtain ⟨fd_is_number, F_is_number⟩ := c.def_ 7 (d := d_is_number) rfl
  obtain ⟨fd_is_watch, F_is_watch⟩ := c.def_ 8 (d := d_is_watch) rfl
  obtain ⟨fd_Lane_init, F_Lane_init⟩ := c.def_ 9 (d := d_Lane_init) rfl
  obtain ⟨fd_law_made_lane, F_law_made_lane⟩ := c.def_ 10 (d := d_law_made_lane) rfl
  obtain ⟨fd_law_kind, F_law_kind⟩ := c.def_ 11 (d := d_law_kind) rfl
  obtain ⟨fd_law_same, F_law_same⟩ := c.def_ 12 (d := d_law_same) rfl
  obtain ⟨fd_law_odd, F_law_odd⟩ := c.def_ 13 (d := d_law_odd) rfl
  obtain ⟨fd_Lane_place, F_Lane_place⟩ := c.def_ 14 (d := d_Lane_place) rfl
  obtain ⟨fd_Lane_moved, F_Lane_moved⟩ := c.def_ 15 (d := d_Lane_moved) rfl
  obtain ⟨fd_Lane_watches, F_Lane_watches⟩ := c.def_ 16 (d := d_Lane_watches) rfl
  obtain ⟨fd_Lane_eq, F_Lane_eq⟩ := c.def_ 17 (d := d_Lane_eq) rfl
  obtain ⟨fd_Lane_len, F_Lane_len⟩ := c.def_ 18 (d := d_Lane_len) rfl
  obtain ⟨fd_law_field, F_law_field⟩ := c.def_ 19 (d := d_law_field) rfl
  obtain ⟨fd_law, F_law⟩ := c.def_ 20 (d := d_law) rfl
  obtain ⟨fd_law_got, F_law_got⟩ := c.def_ 21 (d := d_law_got) rfl
  obtain ⟨fd_law_all_got, F_law_all_got⟩ := c.def_ 22 (d := d_law_all_got) rfl
  obtain ⟨fd_Lane_guard, F_Lane_guard⟩ := cw.z.def_ 0 (d := d_Lane_guard) rfl
  have g_law_start := He.glo_ok X G (c.fact 0 (f := .glo "_law_start") rfl)
  have g_law_pull := He.glo_ok X G (c.fact 1 (f := .glo "_law_pull") rfl)
  have g_law_pick := He.glo_ok X G (c.fact 2 (f := .glo "_law_pick") rfl)
  have g_law_words := He.glo_ok X G (c.fact 3 (f := .glo "_law_words") rfl)
  have g_law_lane := He.glo_ok X G (c.fact 4 (f := .glo "_law_lane") rfl)
  have g_is_name := He.glo_ok X G (c.fact 5 (f := .glo "is_name") rfl)
  have g_is_integer := He.glo_ok X G (c.fact 6 (f := .glo "is_integer") rfl)
  have g_is_number := He.glo_ok X G (c.fact 7 (f := .glo "is_number") rfl)
  have g_is_watch := He.glo_ok X G (c.fact 8 (f := .glo "is_watch") rfl)
  have g_law_made_lane := He.glo_ok X G (c.fact 9 (f := .glo "_law_made_lane") rfl)
  have g_law_kind := He.glo_ok X G (c.fact 10 (f := .glo "_law_kind") rfl)
  have g_law_same := He.glo_ok X G (c.fact 11 (f := .glo "_law_same") rfl)
  have g_law_odd := He.glo_ok X G (c.fact 12 (f := .glo "_law_odd") rfl)
  have g_law_field := He.glo_ok X G (c.fact 13 (f := .glo "_law_field") rfl)
  have g_law := He.glo_ok X G (c.fact 14 (f := .glo "law") rfl)
  have g_law_got := He.glo_ok X G (c.fact 15 (f := .glo "_law_got") rfl)
  have g_law_all_got := He.glo_ok X G (c.fact 16 (f := .glo "_law_all_got") rfl)
  have b_all := He.free_ok X G (c.fact 17 (f := .free "all") rfl)
  have b_any := He.free_ok X G (c.fact 18 (f := .free "any") rfl)
  have b_bool := He.free_ok X G (c.fact 19 (f := .free "bool") rfl)
  have b_enumerate := He.free_ok X G (c.fact 20 (f := .free "enumerate") rfl)
  have b_int := He.free_ok X G (c.fact 21 (f := .free "int") rfl)
  have b_isinstance := He.free_ok X G (c.fact 22 (f := .free "isinstance") rfl)
  have b_len := He.free_ok X G (c.fact 23 (f := .free "len") rfl)
  have b_list := He.free_ok X G (c.fact 24 (f := .free "list") rfl)
  have b_range := He.free_ok X G (c.fact 25 (f := .free "range") rfl)
  have b_sorted := He.free_ok X G (c.fact 26 (f := .free "sorted") rfl)
  have b_str := He.free_ok X G (c.fact 27 (f := .free "str") rfl)
  have b_super := He.free_ok X G (c.fact 28 (f := .free "super") rfl)
  have b_tuple := He.free_ok X G (c.fact 29 (f := .free "tuple") rfl)
  have b_zip := He.free_ok X G (c.fact 30 (f := .free "zip") rfl)
  have c_LETTERS : ∃ u, mg "LETTERS" = some u ∧ RelV (.str "abcdefghijklmnopqrstuvwxyz") u := let ⟨t, e⟩ := He.str_ok X G (c.fact 31 (f := .str "LETTERS" "abcdefghijklmnopqrstuvwxyz") rfl); ⟨_, e, t, rfl⟩
  have c_Lane : ∃ u, mg "Lane" = some u ∧ RelV (.ref (He.ga K "Lane")) u := ⟨_, He.glo_ok X G (c.fact 32 (f := .glo "Lane") rfl), rfl⟩
  have c_MOST_LETTERS : ∃ u, mg "MOST_LETTERS" = some u ∧ RelV (.int 8) u := let ⟨t, e⟩ := He.int_ok X G (c.fact 33 (f := .int "MOST_LETTERS" 8) rfl); ⟨_, e, t, rfl⟩
  have c_MOST_NUMBER : ∃ u, mg "MOST_NUMBER" = some u ∧ RelV (.int 1000000) u := let ⟨t, e⟩ := He.int_ok X G (c.fact 34 (f := .int "MOST_NUMBER" 1000000) rfl); ⟨_, e, t, rfl⟩
  have m_HushError := He.glo_ok X G (c.fact 35 (f := .glo "HushError") rfl)
  have m_Missing := He.glo_ok X G (c.fact 36 (f := .glo "Missing") rfl)
  have m_NothingLeft := He.glo_ok X G (c.fact 37 (f := .glo "NothingLeft") rfl)
  have k_Lane : Cls K (He.ga K "Lane") := He.cls_ok (c.fact 42 (f := .cls "Lane") rfl)
  have is_Lane := insCB_ok k_Lane ins_Lane
  have a_Lane_own_watches : NoAttr K (He.ga K "Lane") "own_watches" := He.noat_ok (c.fact 43 (f := .noat "Lane" "own_watches") rfl)
  have a_Lane_own_guard : NoAttr K (He.ga K "Lane") "own_guard" := He.noat_ok (c.fact 44 (f := .noat "Lane" "own_guard") rfl)
  have a_Lane_places : NoAttr K (He.ga K "Lane") "places" := He.noat_ok (c.fact 45 (f := .noat "Lane" "places") rfl)
  have hIsa_Lane : IsaOk K isa_Lane := isaB_ok (by unfold isa_Lane; first | exact List.forall_mem_nil _ | exact (List.forall_mem_cons.mpr ⟨k_Lane, (List.forall_mem_nil _)⟩)) isab_Lane
  have hTu : TabU (T K) := tabU_of tu_
  have cc_Lane_MOST : CcOk K "Lane" "MOST" (.int 5) := ccInt_ok cb_Lane_MOST
  have hXA : XAll K (errNs esL) fldNs := xallB_ok xa_
  have hEx : exmB K esL (gotCs K) = true := exm_
  obtain ⟨e1_InvalidPlace, e2_InvalidPlace, e3_InvalidPlace, e4_InvalidPlace⟩ := cw.err 0 (d := x_InvalidPlace) rfl
  have ec_InvalidPlace := errC_of (P := P) (d := x_InvalidPlace) hfile htop e1_InvalidPlace e2_InvalidPlace e3_InvalidPlace rfl rfl rfl (by decide) ⟨_, rfl, rfl⟩
  have E_InvalidPlace : Err1 P K mg "InvalidPlace" (He.ga K "InvalidPlace") "given" "InvalidPlace" := ⟨He.glo_ok X G (c.fact 38 (f := .glo "InvalidPlace") rfl), _, _, _, _, _, _, _, _, _, _, _, _, _, _, _, _, _, _, _, _, _, ec_InvalidPlace, fun _ _ _ => ⟨_, rfl⟩, fun _ _ _ => rfl, fun _ _ _ => rfl, rfl, by decide, by decide, by decide, of_decide_eq_true nb_InvalidPlace, e4_InvalidPlace, (fun _ _ _ _ _ _ _ _ _ => BindsTo.of_eq (by first | rfl | with_unfolding_all rfl)), (fun _ _ _ _ _ _ _ _ _ => BindsTo.of_eq (by first | rfl | with_unfolding_all rfl))⟩
  obtain ⟨e1_InvalidCount, e2_InvalidCount, e3_InvalidCount, e4_InvalidCount⟩ := cw.err 1 (d := x_InvalidCount) rfl
  have ec_InvalidCount := errC_of (P := P) (d := x_InvalidCount) hfile htop e1_InvalidCount e2_InvalidCount e3_InvalidCount rfl rfl rfl (by decide) ⟨_, rfl, rfl⟩
  have E_InvalidCount : Err1 P K mg "InvalidCount" (He.ga K "InvalidCount") "given" "InvalidCount" := ⟨He.glo_ok X G (c.fact 39 (f := .glo "InvalidCount") rfl), _, _, _, _, _, _, _, _, _, _, _, _, _, _, _, _, _, _, _, _, _, ec_InvalidCount, fun _ _ _ => ⟨_, rfl⟩, fun _ _ _ => rfl, fun _ _ _ => rfl, rfl, by decide, by decide, by decide, of_decide_eq_true nb_InvalidCount, e4_InvalidCount, (fun _ _ _ _ _ _ _ _ _ => BindsTo.of_eq (by first | rfl | with_unfolding_all rfl)), (fun _ _ _ _ _ _ _ _ _ => BindsTo.of_eq (by first | rfl | with_unfolding_all rfl))⟩
  obtain ⟨e1_InvalidWatch, e2_InvalidWatch, e3_InvalidWatch, e4_InvalidWatch⟩ := cw.err 2 (d := x_InvalidWatch) rfl
  have ec_InvalidWatch := errC_of (P := P) (d := x_InvalidWatch) hfile htop e1_InvalidWatch e2_InvalidWatch e3_InvalidWatch rfl rfl rfl (by decide) ⟨_, rfl, rfl⟩
  have E_InvalidWatch : Err1 P K mg "InvalidWatch" (He.ga K "InvalidWatch") "at" "InvalidWatch" := ⟨He.glo_ok X G (c.fact 40 (f := .glo "InvalidWatch") rfl), _, _, _, _, _, _, _, _, _, _, _, _, _, _, _, _, _, _, _, _, _, ec_InvalidWatch, fun _ _ _ => ⟨_, rfl⟩, fun _ _ _ => rfl, fun _ _ _ => rfl, rfl, by decide, by decide, by decide, of_decide_eq_true nb_InvalidWatch, e4_InvalidWatch, (fun _ _ _ _ _ _ _ _ _ => BindsTo.of_eq (by first | rfl | with_unfolding_all rfl)), (fun _ _ _ _ _ _ _ _ _ => BindsTo.of_eq (by first | rfl | with_unfolding_all rfl))⟩
  obtain ⟨e1_UnknownName, e2_UnknownName, e3_UnknownName, e4_UnknownName⟩ := cw.err 3 (d := x_UnknownName) rfl
  have ec_UnknownName := errC_of (P := P) (d := x_UnknownName) hfile htop e1_UnknownName e2_UnknownName e3_UnknownName rfl rfl rfl (by decide) ⟨_, rfl, rfl⟩
  have E_UnknownName : Err1 P K mg "UnknownName" (He.ga K "UnknownName") "name" "UnknownName" := ⟨He.glo_ok X G (c.fact 41 (f := .glo "UnknownName") rfl), _, _, _, _, _, _, _, _, _, _, _, _, _, _, _, _, _, _, _, _, _, ec_UnknownName, fun _ _ _ => ⟨_, rfl⟩, fun _ _ _ => rfl, fun _ _ _ => rfl, rfl, by decide, by decide, by decide, of_decide_eq_true nb_UnknownName, e4_UnknownName, (fun _ _ _ _ _ _ _ _ _ => BindsTo.of_eq (by first | rfl | with_unfolding_all rfl)), (fun _ _ _ _ _ _ _ _ _ => BindsTo.of_eq (by first | rfl | with_unfolding_all rfl))⟩
  have e := hfa.symm.trans g_law
  cases e
  have bL := FunD.bindsA (ps := ["script"]) F_law fun _ _ _ _ _ _ us hl => match us, hl with | [_], _ => rfl
  refine ⟨fd_law, rfl, fun s v => bL s [v] rfl, fun base _ _ hTB => ?_⟩
  have bd_law_start : Binds K fd_law_start ["script"] [] := F_law_start.bindsN fun _ _ _ _ _ _ us hl => match us, hl with | [_], _ => rfl
  have ok_law_start := ok_law_start (P := P) (w := w) (mg := mg) (base := base) F_law_start b_len b_list
  have f_law_start : Fn P w K mg base CX0 1 "_law_start" ["script"] (sp_law_start K) := ⟨_, _, ok_law_start, g_law_start, F_law_start.kp, bd_law_start⟩
  have bd_law_pull : Binds K fd_law_pull ["bag", "size"] [] := F_law_pull.bindsN fun _ _ _ _ _ _ us hl => match us, hl with | [_, _], _ => rfl
  have ok_law_pull := ok_law_pull (P := P) (w := w) (mg := mg) (base := base) F_law_pull b_int b_len
  have f_law_pull : Fn P w K mg base CX0 1 "_law_pull" ["bag", "size"] (sp_law_pull K) := ⟨_, _, ok_law_pull, g_law_pull, F_law_pull.kp, bd_law_pull⟩
  have bd_law_pick : Binds K fd_law_pick ["bag", "some"] [] := F_law_pick.bindsN fun _ _ _ _ _ _ us hl => match us, hl with | [_, _], _ => rfl
  have ok_law_pick := ok_law_pick (P := P) (w := w) (mg := mg) (base := base) F_law_pick f_law_pull b_len
  have f_law_pick : Fn P w K mg base CX0 2 "_law_pick" ["bag", "some"] (sp_law_pick K) := ⟨_, _, ok_law_pick, g_law_pick, F_law_pick.kp, bd_law_pick⟩
  have bd_law_words : Binds K fd_law_words ["bag", "count"] [] := F_law_words.bindsN fun _ _ _ _ _ _ us hl => match us, hl with | [_, _], _ => rfl
  have ok_law_words := ok_law_words (P := P) (w := w) (mg := mg) (base := base) F_law_words f_law_pick f_law_pull b_int b_len b_range
  have f_law_words : Fn P w K mg base CX0 3 "_law_words" ["bag", "count"] (spOf (mF K) K dsp_law_words) := ⟨_, _, ok_law_words, g_law_words, F_law_words.kp, bd_law_words⟩
  have bd_law_lane : Binds K fd_law_lane ["bag", "count", "wide"] [] := F_law_lane.bindsN fun _ _ _ _ _ _ us hl => match us, hl with | [_, _, _], _ => rfl
  have ok_law_lane := ok_law_lane (P := P) (w := w) (mg := mg) (base := base) F_law_lane f_law_words f_law_pick f_law_pull
  have f_law_lane : Fn P w K mg base CX0 4 "_law_lane" ["bag", "count", "wide"] (spOf (mF K) K dsp_law_lane) := ⟨_, _, ok_law_lane, g_law_lane, F_law_lane.kp, bd_law_lane⟩
  have bd_is_name : Binds K fd_is_name ["value"] [] := F_is_name.bindsN fun _ _ _ _ _ _ us hl => match us, hl with | [_], _ => rfl
  have ok_is_name := ok_is_name (P := P) (w := w) (mg := mg) (base := base) F_is_name b_all b_isinstance b_len b_str c_LETTERS c_MOST_LETTERS
  have f_is_name : Fn P w K mg base CX0 1 "is_name" ["value"] (spOf (mF K) K dsp_is_name) := ⟨_, _, ok_is_name, g_is_name, F_is_name.kp, bd_is_name⟩
  have bd_is_integer : Binds K fd_is_integer ["value"] [] := F_is_integer.bindsN fun _ _ _ _ _ _ us hl => match us, hl with | [_], _ => rfl
  have ok_is_integer := ok_is_integer (P := P) (w := w) (mg := mg) (base := base) F_is_integer b_bool b_int b_isinstance
  have f_is_integer : Fn P w K mg base CX0 1 "is_integer" ["value"] (sp_is_integer K) := ⟨_, _, ok_is_integer, g_is_integer, F_is_integer.kp, bd_is_integer⟩
  have bd_is_number : Binds K fd_is_number ["value", "low", "high"] [] := F_is_number.bindsN fun _ _ _ _ _ _ us hl => match us, hl with | [_, _, _], _ => rfl
  have ok_is_number := ok_is_number (P := P) (w := w) (mg := mg) (base := base) F_is_number f_is_integer
  have f_is_number : Fn P w K mg base CX0 2 "is_number" ["value", "low", "high"] (sp_is_number K) := ⟨_, _, ok_is_number, g_is_number, F_is_number.kp, bd_is_number⟩
  have bd_is_watch : Binds K fd_is_watch ["value"] [] := F_is_watch.bindsN fun _ _ _ _ _ _ us hl => match us, hl with | [_], _ => rfl
  have ok_is_watch := ok_is_watch (P := P) (w := w) (mg := mg) (base := base) F_is_watch f_is_name f_is_number b_isinstance b_len b_tuple c_MOST_NUMBER
  have f_is_watch : Fn P w K mg base CX0 3 "is_watch" ["value"] (spOf (mF K) K dsp_is_watch) := ⟨_, _, ok_is_watch, g_is_watch, F_is_watch.kp, bd_is_watch⟩
  have ok_Lane_init := ok_Lane_init (P := P) (w := w) (mg := mg) (base := base) F_Lane_init f_is_watch (hTB (He.cT K ("Lane", some "__init__")) (List.mem_map_of_mem (by unfold tf; simp))) hTu b_any b_enumerate b_isinstance b_len b_list b_sorted b_str b_super c_Lane cc_Lane_MOST E_InvalidCount E_InvalidWatch E_UnknownName ⟨k_Lane, a_Lane_own_guard⟩ ⟨k_Lane, a_Lane_own_watches⟩ ⟨k_Lane, a_Lane_places⟩
  have n_Lane_k1_guard : MkrK P w K mg base (L2.CX P w) 4 "Lane" (He.ga K "Lane") 1 ["guard"] (fun vs zs => [vs.getD 0 .non, vs.getD 1 .non, zs.getD 0 .non]) (spIw (mF K) K dsp_Lane_init) := ⟨_, _, _, (fun vs zs => [vs.getD 0 .none, vs.getD 1 .none, zs.getD 0 .none]), He.mkr_ok (c.fact 51 (f := .mkr "Lane") rfl), ok_Lane_init, He.glo_ok X G (c.fact 52 (f := .glo "Lane") rfl), kbn_of F_Lane_init rfl (fun _ _ _ _ _ _ us ws h1 h2 => match us, ws, h1, h2 with | [_, _], [_], _, _ => rfl) (fun r1 r2 => by walk_at "kv")⟩
  have bd_law_made_lane : Binds K fd_law_made_lane ["lane_z"] [] := F_law_made_lane.bindsN fun _ _ _ _ _ _ us hl => match us, hl with | [_], _ => rfl
  have ok_law_made_lane := ok_law_made_lane (P := P) (w := w) (mg := mg) (base := base) F_law_made_lane n_Lane_k1_guard b_list
  have f_law_made_lane : Fn P w K mg base (L2.CX P w) 7 "_law_made_lane" ["lane_z"] (spXw (mF K) K dsp_law_made_lane) := ⟨_, _, ok_law_made_lane, g_law_made_lane, F_law_made_lane.kp, bd_law_made_lane⟩
  have bd_law_kind : Binds K fd_law_kind ["thing"] [] := F_law_kind.bindsN fun _ _ _ _ _ _ us hl => match us, hl with | [_], _ => rfl
  have ok_law_kind := ok_law_kind (P := P) (w := w) (mg := mg) (base := base) F_law_kind b_bool b_int b_isinstance b_list b_str b_tuple
  have f_law_kind : Fn P w K mg base CX0 1 "_law_kind" ["thing"] (sp_law_kind K) := ⟨_, _, ok_law_kind, g_law_kind, F_law_kind.kp, bd_law_kind⟩
  have bd_law_same : Binds K fd_law_same ["found", "due"] [] := F_law_same.bindsN fun _ _ _ _ _ _ us hl => match us, hl with | [_, _], _ => rfl
  have hS : ∀ n : Nat, FnOk P w K mg base CX0 (n + 2) (He.fAd K d_law_same.at_) fd_law_same ["found", "due"] (sp_law_same K n) := by
    intro n
    induction n with
    | zero => exact ⟨fun vs H Q E h => by obtain ⟨_, _, _, _, _, _, h, _⟩ := h; exact h.elim, fun _ _ _ _ _ _ _ _ _ _ _ _ _ h => by obtain ⟨_, _, _, _, _, _, h, _⟩ := h; exact h.elim⟩
    | succ n ih => exact ok_law_same n F_law_same f_law_kind ⟨_, _, ih, g_law_same, F_law_same.kp, bd_law_same⟩ b_all b_len b_zip
  have ok_law_same := hS 9
  have f_law_same : Fn P w K mg base CX0 11 "_law_same" ["found", "due"] (sp_law_same K 9) := ⟨_, _, ok_law_same, g_law_same, F_law_same.kp, bd_law_same⟩
  have bd_law_odd : Binds K fd_law_odd ["bag", "more"] [] := F_law_odd.bindsN fun _ _ _ _ _ _ us hl => match us, hl with | [_, _], _ => rfl
  have ok_law_odd := ok_law_odd (P := P) (w := w) (mg := mg) (base := base) F_law_odd f_law_pick
  have f_law_odd : Fn P w K mg base CX0 3 "_law_odd" ["bag", "more"] (spOf (mF K) K dsp_law_odd) := ⟨_, _, ok_law_odd, g_law_odd, F_law_odd.kp, bd_law_odd⟩
  have bd_Lane_place : Binds K fd_Lane_place ["self", "name"] [] := F_Lane_place.bindsN fun _ _ _ _ _ _ us hl => match us, hl with | [_, _], _ => rfl
  have ok_Lane_place := ok_Lane_place (P := P) (w := w) (mg := mg) (base := base) F_Lane_place b_isinstance b_str b_super E_UnknownName ⟨k_Lane, a_Lane_places⟩
  have h_Lane_place := He.meth_ok (c.fact 49 (f := .meth "Lane" "place") rfl)
  have m_Lane_place : Mth P w K mg base (L2.CX P w) 1 (He.ga K "Lane") "place" ["self", "name"] (spX (mF K) K dsp_Lane_place) := ⟨_, _, ok_Lane_place, h_Lane_place, bd_Lane_place⟩
  have bd_Lane_moved : Binds K fd_Lane_moved ["self", "name", "place"] [] := F_Lane_moved.bindsN fun _ _ _ _ _ _ us hl => match us, hl with | [_, _, _], _ => rfl
  have ok_Lane_moved := ok_Lane_moved (P := P) (w := w) (mg := mg) (base := base) F_Lane_moved k_Lane m_Lane_place n_Lane_k1_guard f_is_number b_any b_super c_MOST_NUMBER E_InvalidPlace ⟨k_Lane, a_Lane_own_guard⟩ ⟨k_Lane, a_Lane_own_watches⟩
  have h_Lane_moved := He.meth_ok (c.fact 48 (f := .meth "Lane" "moved") rfl)
  have m_Lane_moved : Mth P w K mg base (L2.CX P w) 7 (He.ga K "Lane") "moved" ["self", "name", "place"] (spXw (mF K) K dsp_Lane_moved) := ⟨_, _, ok_Lane_moved, h_Lane_moved, bd_Lane_moved⟩
  have m_Lane_moved_k_place_name : MthK P w K mg base (L2.CX P w) 7 (He.ga K "Lane") "moved" 1 ["place", "name"] (fun vs zs => [vs.getD 0 .non, zs.getD 1 .non, zs.getD 0 .non]) (spXw (mF K) K dsp_Lane_moved) := by
    refine ⟨_, _, _, (fun vs zs => [vs.getD 0 .none, zs.getD 1 .none, zs.getD 0 .none]), ok_Lane_moved, h_Lane_moved, ?_⟩
    exact kbn_of F_Lane_moved rfl (fun _ _ _ _ _ _ us ws h1 h2 => match us, ws, h1, h2 with | [_], [_, _], _, _ => rfl) (fun r1 r2 => by walk_at "kv")
  have bd_Lane_watches : Binds K fd_Lane_watches ["self"] [] := F_Lane_watches.bindsN fun _ _ _ _ _ _ us hl => match us, hl with | [_], _ => rfl
  have ok_Lane_watches := ok_Lane_watches (P := P) (w := w) (mg := mg) (base := base) F_Lane_watches b_list ⟨k_Lane, a_Lane_own_watches⟩
  have h_Lane_watches := He.meth_ok (c.fact 50 (f := .meth "Lane" "watches") rfl)
  have m_Lane_watches : Mth P w K mg base (L2.CX P w) 1 (He.ga K "Lane") "watches" ["self"] (spX (mF K) K dsp_Lane_watches) := ⟨_, _, ok_Lane_watches, h_Lane_watches, bd_Lane_watches⟩
  have bd_Lane_eq : Binds K fd_Lane_eq ["self", "other"] [] := F_Lane_eq.bindsN fun _ _ _ _ _ _ us hl => match us, hl with | [_, _], _ => rfl
  have ok_Lane_eq := ok_Lane_eq (P := P) (w := w) (mg := mg) (base := base) F_Lane_eq b_isinstance c_Lane hIsa_Lane ⟨k_Lane, a_Lane_own_guard⟩ ⟨k_Lane, a_Lane_own_watches⟩
  have h_Lane_eq := He.meth_ok (c.fact 46 (f := .meth "Lane" "__eq__") rfl)
  have q_Lane : OwnQ P w K mg base (L2.CX P w) 1 (He.ga K "Lane") (spX (mF K) K dsp_Lane_eq) := ⟨⟨_, (ok_Lane_eq.raw bd_Lane_eq .nil).imp (fun vs H Q E h => by rw [List.append_nil]; exact h), h_Lane_eq.at_, h_Lane_eq.fn⟩, ne_Lane, ob_Lane⟩
  have bd_Lane_len : Binds K fd_Lane_len ["self"] [] := F_Lane_len.bindsN fun _ _ _ _ _ _ us hl => match us, hl with | [_], _ => rfl
  have ok_Lane_len := ok_Lane_len (P := P) (w := w) (mg := mg) (base := base) F_Lane_len b_len ⟨k_Lane, a_Lane_own_watches⟩
  have h_Lane_len := He.meth_ok (c.fact 47 (f := .meth "Lane" "__len__") rfl)
  have o_Lane_len : OwnSp P w K mg base (L2.CX P w) 1 (He.ga K "Lane") "__len__" (spX (mF K) K dsp_Lane_len) := ⟨_, (ok_Lane_len.raw bd_Lane_len .nil).imp (fun vs H Q E h => by rw [List.append_nil]; exact h), h_Lane_len.at_, h_Lane_len.fn⟩
  have bd_Lane_guard : Binds K fd_Lane_guard ["self"] [] := F_Lane_guard.bindsN fun _ _ _ _ _ _ us hl => match us, hl with | [_], _ => rfl
  have ok_Lane_guard := ok_Lane_guard (P := P) (w := w) (mg := mg) (base := base) F_Lane_guard ⟨k_Lane, a_Lane_own_guard⟩
  have pr_Lane_guard : Prp P w K mg base (L2.CX P w) 1 (He.ga K "Lane") "guard" (spX (mF K) K dsp_Lane_guard) := prp_of pb_Lane_guard ok_Lane_guard bd_Lane_guard
  have FF := okp_law_field (P := P) (w := w) (mg := mg) (base := base) F_law_field hXA
  have bd_law_field : Binds K fd_law_field ["e"] [] := F_law_field.bindsN fun _ _ _ _ _ _ us hl => match us, hl with | [_], _ => rfl
  have bd_law_got : Binds K fd_law_got ["ask"] [] := F_law_got.bindsN fun _ _ _ _ _ _ us hl => match us, hl with | [_], _ => rfl
  have got : Got P w K mg base 1 "_law_got" (gotCs K) (spPin (T K) K (errNs esL) fldNs dsph_law_field) := ⟨_, _, _, _, _, _, _, "ask", "e", "_law_field", "HushError", "Missing", "NothingLeft", _, _, _, _, F_law_got, g_law_got, bd_law_got, gsc, gbody, FF, bd_law_field, g_law_field, F_law_field.kp, m_HushError, m_Missing, m_NothingLeft, rfl⟩
  have MG : ∀ b : Heap, Got P w K mg b 1 "_law_got" (gotCs K) (spPin (T K) K (errNs esL) fldNs dsph_law_field) := fun b => ⟨_, _, _, _, _, _, _, "ask", "e", "_law_field", "HushError", "Missing", "NothingLeft", _, _, _, _, F_law_got, g_law_got, bd_law_got, gsc, gbody, okp_law_field (P := P) (w := w) (mg := mg) (base := b) F_law_field hXA, bd_law_field, g_law_field, F_law_field.kp, m_HushError, m_Missing, m_NothingLeft, rfl⟩
  have bd_law_all_got : Binds K fd_law_all_got ["asks"] [] := F_law_all_got.bindsN fun _ _ _ _ _ _ us hl => match us, hl with | [_], _ => rfl
  have AG : LamY.AllG P w K mg "_law_all_got" "_law_got" := ⟨_, _, _, _, _, "asks", "ask", F_law_all_got, g_law_all_got, bd_law_all_got, sc_law_all_got, fun b A outer s H cd te hel => pss_one (ps_ret (pe_lc (own := [("ask", 1)]) (g := (gName 1)) (tt := tYes) rfl sc_law_all_got.nd (pi_list (pv 0)) (blkOk_by (own := [("ask", 1)]) (N := N_law_all_got) (sc := S_law_all_got) (by decide +kernel)) (fun _ _ _ _ _ => (pg_name (i := 1) sc_law_all_got.nd rfl (by first | exact Or.inl rfl | exact Or.inr rfl))) (fun _ _ _ _ _ => pts_nil) (fun _ _ _ _ _ => hel _ _ _ _ rfl rfl rfl rfl rfl rfl (by rfl) (pv 1))))⟩
  exact ok_law F_law k_Lane m_Lane_moved m_Lane_watches m_Lane_moved_k_place_name q_Lane f_law_start f_law_lane f_law_pull f_law_pick f_law_made_lane f_law_same f_law_odd o_Lane_len pr_Lane_guard got hXA hEx (hTB (He.cT K ("law", none)) (List.mem_map_of_mem (by unfold tf; simp))) hTu AG MG b_len b_range b_sorted
end K05
open PySem PySem.W PySem.Calls PyProof.Rows
theorem PySem.Challenge.cw_hushlane_k05_lanes_changed_holds : PySem.Challenge.rw_hushlane_k05_lanes_changed.Holds := by
  w_on; o_law
  refine HandSHeadRun.head_any (r := OpenLaw.row PySem.Challenge.rw_hushlane_k05_lanes_changed) (q := view (OpenLaw.row PySem.Challenge.rw_hushlane_k05_lanes_changed).prog [31]) (H := K05.hk) (ob := K05.ob) (M := 20000) (loose := K05.loose) (d := HandSHeadRun.topDef (OpenLaw.row PySem.Challenge.rw_hushlane_k05_lanes_changed).prog 31) (kwd := []) K05.ob_eq
    (by kernel_rfl) (fun s => by kernel_rfl) K05.run (by kernel_rfl) (by kernel_rfl) (by kernel_rfl) (by rfl) (by first | assumption | decide +kernel) (by decide +kernel) ⟨rfl, rfl, rfl, rfl, rfl, by decide +kernel⟩ ?hw ?hc
  case hw => w_witness2
  case hc =>
    refine LamX.walk_ofTsE (l := PySem.Challenge.rw_hushlane_k05_lanes_changed) (n := 63) (k := 15) (x := "script") (CX := fun _ => L2.CX0) rfl (by decide) (by kernel_rfl) ⟨rfl, by decide, by decide⟩ ?F (fun _ _ _ _ _ z => z)
    intro w mg fa h Y G hmg0
    obtain ⟨K, KX, c⟩ := Y
    have hmg : mg ("law" : PySem.Str) = some (.ref fa) := by
      have e : (HandSHeadRun.topDef (OpenLaw.row PySem.Challenge.rw_hushlane_k05_lanes_changed).prog 31).name = ("law" : PySem.Str) := by kernel_rfl
      rw [← e]
      exact hmg0
    obtain ⟨fd, ef, hb, hF⟩ := K05.facts (P := (PySem.Challenge.rw_hushlane_k05_lanes_changed).prog) (w := w) (by kernel_rfl) (by kernel_rfl) KX G hmg c
    subst ef
    refine ⟨K, KX, fd, K05.tf.map (He.cT K), Dl.sp_lawT (K05.T K) K, Dl.tf_all c.empty, Dl.tf_all c.out, fun p hp => ?_, hb, fun H a ns hl _ hT hS => ⟨a, ns, rfl, hS, hl, fun p hp => by
      simp only [K05.T, List.mem_cons, List.not_mem_nil, or_false] at hp
      rcases hp with rfl | rfl <;> exact LamX.TabS.nil (hT _ (List.mem_map_of_mem (by unfold K05.tf; simp))), fun _ => rfl⟩, hF⟩
    obtain ⟨q, hq, rfl⟩ := List.mem_map.mp hp
    exact PySem.W.codeHd_of_K KX (c.hd q hq)
