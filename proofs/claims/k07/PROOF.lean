import PyProof.Rows.All
import Wide.All
import OpenK.AllK
import Wide.FinOn
import KE.KStateDown
import KE.KExcIs
import Lean
import HandS.ForMost
import HandS.Exc
import HandS.ExcOwn
import HandS.ExcInit
import HandS.ExcCtx
import HandS.ExcIs
import HandS.ExcField
import HandS.TryMany
import HandS.HotCalls
import HandS.ExcInitHot
import HandS.IsInst
import HandS.Wide
import HandS.WideBits
import HandS.Defaults
import HandS.Codes
import HandS.WordsExc
import HandS.EndBits
import HandS.Head0
import HandS.Head1
import HandS.Head2
import HandS.HeadEnd
import HandS.HeadHook1
import HandS.HeadHook2
import HandS.HeadHook3
import HandS.HeadHook4
import HandS.Evl
import PySem.Challenge.RW_formkin_k07_kinds
import HandS.Replace
import HandS.Conv
import HandS.RevTup
import HandS.Rev
import HandS.Iter
import HandS.MapObj
import HandS.RaiseMore
set_option Elab.async false
set_option linter.all false
set_option maxRecDepth 100000
set_option maxHeartbeats 4000000
namespace Z
open PySem PySem.Spec PyProof.Rows L2
abbrev St := L2.St
/-! ### a piece of the text, walked from a state to a wish -/
structure wE (X : Cx) (e : Expr) (σ : St) (H : Hp) (Q : VK) : Prop where
  run : ∀ (pins : List (Addr × Obj)) (s : Shared), Inv X pins σ H s → wpAny (model X.prog X.w) X.A (eval e X.env) (EP X pins σ Q) X.xe s
structure wT (X : Cx) (e : Expr) (σ : St) (H : Hp) (Q : Bool → Hp → Prop) : Prop where
  run : ∀ (pins : List (Addr × Obj)) (s : Shared), Inv X pins σ H s → wpAny (model X.prog X.w) X.A (isTrue e X.env (eval e X.env)) (TP X pins σ Q) X.xe s
structure wW (X : Cx) (e : Expr) (σ : St) (H : Hp) (Q : Bool → Hp → Prop) : Prop where
  run : ∀ (whole : Sem Value) (pins : List (Addr × Obj)) (s : Shared), Inv X pins σ H s → wpAny (model X.prog X.w) X.A (isTrue e X.env whole) (TP X pins σ Q) X.xe s
structure wA (X : Cx) (es : List Expr) (σ : St) (H : Hp) (Q : List V → Hp → Prop) : Prop where
  run : ∀ (pos : Pos) (pins : List (Addr × Obj)) (s : Shared), Inv X pins σ H s → wpAny (model X.prog X.w) X.A (spliced (backTo pos (starEach es X.env))) (AP X pins σ Q) X.xe s
structure wS (X : Cx) (st : Stmt) (D : Ends) (σ : St) (H : Hp) : Prop where
  run : ∀ (pins : List (Addr × Obj)) (s : Shared), Inv X pins σ H s → wpAny (model X.prog X.w) X.A (exec st X.env) (SP X pins D) X.xe s
structure wB (X : Cx) (sts : List Stmt) (D : Ends) (σ : St) (H : Hp) : Prop where
  run : ∀ (pins : List (Addr × Obj)) (s : Shared), Inv X pins σ H s → wpAny (model X.prog X.w) X.A (execs sts X.env) (SP X pins D) X.xe s
structure wG (X : Cx) (tg : Expr) (v : V) (σ : St) (H : Hp) (Q : St → Hp → Prop) : Prop where
  run : ∀ (pins : List (Addr × Obj)) (s : Shared) (u : Value), Inv X pins σ H s → RelV v u → wpAny (model X.prog X.w) X.A (assign tg X.env u) (fun _ s' => ∃ σ' H', Inv X pins σ' H' s' ∧ Q σ' H') X.xe s
structure wGs (X : Cx) (ts : List Expr) (vs : List V) (σ : St) (H : Hp) (Q : St → Hp → Prop) : Prop where
  run : ∀ (pins : List (Addr × Obj)) (s : Shared) (us : List Value), Inv X pins σ H s → Vals vs us → wpAny (model X.prog X.w) X.A (assignInOrder ((assignEach ts X.env).map (·.2)) us) (fun _ s' => ∃ σ' H', Inv X pins σ' H' s' ∧ Q σ' H') X.xe s
/-- an operation on two values -/
structure wO (X : Cx) (f : Value → Value → Sem Value) (x y : V) (H : Hp) (Q : VK) : Prop where
  run : ∀ (pins : List (Addr × Obj)) (s : Shared) (σ : St) (v u : Value), Inv X pins σ H s → RelV x v → RelV y u → wpAny (model X.prog X.w) X.A (f v u) (EP X pins σ Q) X.xe s
/-- a call of a known value -/
structure wK (X : Cx) (f : Value) (xs : List V) (H : Hp) (Q : VK) : Prop where
  run : ∀ (pins : List (Addr × Obj)) (s : Shared) (σ : St) (us : List Value), Inv X pins σ H s → Vals xs us → wpAny (model X.prog X.w) X.A (call f us) (EP X pins σ Q) X.xe s
structure wIx (X : Cx) (x y : V) (H : Hp) (Q : VK) : Prop where
  run : ∀ (value slice : Expr) (pins : List (Addr × Obj)) (s : Shared) (σ : St) (v u : Value), Inv X pins σ H s → RelV x v → RelV y u → subscripted slice false v u = operate [v, u] (getItem v u) → wpAny (model X.prog X.w) X.A (subscriptTail value slice v u) (EP X pins σ Q) X.xe s
section
variable {X : Cx}
theorem sE {e : Expr} : PE X e (wE X e) := ⟨fun pins s σ H Q I h => h.run pins s I⟩
theorem sT {e : Expr} : PT X e (wT X e) := ⟨fun pins s σ H Q I h => h.run pins s I⟩
theorem sW {e : Expr} : PW X e (wW X e) := ⟨fun wh pins s σ H Q I h => h.run wh pins s I⟩
theorem sA {es : List Expr} : PA X es (wA X es) := ⟨fun pos pins s σ H Q I h => h.run pos pins s I⟩
theorem sS {st : Stmt} : PS X st (wS X st) := ⟨fun pins s σ H D I h => h.run pins s I⟩
theorem sB {sts : List Stmt} : PSs X sts (wB X sts) := ⟨fun pins s σ H D I h => h.run pins s I⟩
theorem sG {tg : Expr} : PG X tg (wG X tg) := ⟨fun pins s σ H v u Q I r h => h.run pins s u I r⟩
theorem sGs {ts : List Expr} : PGs X ts (wGs X ts) := ⟨fun pins s σ H vs us Q I r h => h.run pins s us I r⟩
theorem sO {f : Value → Value → Sem Value} : OpR X f (wO X f) := fun pins s σ H x y v u Q I rx ry h => h.run pins s σ v u I rx ry
theorem sK {f : Value} : CallR X f (wK X f) := fun pins s σ H xs us Q I r h => h.run pins s σ us I r
variable {σ : St} {H : Hp} {e a b c : Expr} {es : List Expr} {st : Stmt} {sts : List Stmt} {pos pos' p p1 p2 : Pos} {Q : VK} {D : Ends}
theorem ofE {t : TE} (h : PE X e t) (q : t σ H Q) : wE X e σ H Q := ⟨fun pins s I => h.run pins s σ H Q I q⟩
theorem ofT {t : TT} {Q : Bool → Hp → Prop} (h : PT X e t) (q : t σ H Q) : wT X e σ H Q := ⟨fun pins s I => h.run pins s σ H Q I q⟩
theorem ofW {t : TT} {Q : Bool → Hp → Prop} (h : PW X e t) (q : t σ H Q) : wW X e σ H Q := ⟨fun wh pins s I => h.run wh pins s σ H Q I q⟩
theorem ofA {t : TA} {Q : List V → Hp → Prop} (h : PA X es t) (q : t σ H Q) : wA X es σ H Q := ⟨fun pos pins s I => h.run pos pins s σ H Q I q⟩
theorem ofS {t : TS} (h : PS X st t) (q : t D σ H) : wS X st D σ H := ⟨fun pins s I => h.run pins s σ H D I q⟩
theorem ofB {t : TS} (h : PSs X sts t) (q : t D σ H) : wB X sts D σ H := ⟨fun pins s I => h.run pins s σ H D I q⟩
theorem ofG {tg : Expr} {t : TG} {v : V} {Q : St → Hp → Prop} (h : PG X tg t) (q : t v σ H Q) : wG X tg v σ H Q := ⟨fun pins s u I r => h.run pins s σ H v u Q I r q⟩
theorem ofO {f : Value → Value → Sem Value} {r : R2} {x y : V} (h : OpR X f r) (q : r x y H Q) : wO X f x y H Q := ⟨fun pins s σ v u I rx ry => h pins s σ H x y v u Q I rx ry q⟩
theorem ofK {f : Value} {r : List V → Hp → VK → Prop} {xs : List V} (h : CallR X f r) (q : r xs H Q) : wK X f xs H Q := ⟨fun pins s σ us I rr => h pins s σ H xs us Q I rr q⟩
theorem ofIx {r : R2} {x y : V} (h : IxR X r) (q : r x y H Q) : wIx X x y H Q := ⟨fun va sl pins s σ v u I rx ry z => h va sl pins s σ H x y v u Q I rx ry q z⟩
theorem sIx : IxR X (wIx X) := fun va sl pins s σ H x y v u Q I rx ry h z => h.run va sl pins s σ v u I rx ry z
/-! ### weaker wishes -/
theorem wE.imp {Q' : VK} (h : wE X e σ H Q) (q : ∀ v H', Q v H' → Q' v H') : wE X e σ H Q' := ⟨fun pins s I => thn (h.run pins s I) fun u s' ⟨v, H', J, r, x⟩ => ⟨v, H', J, r, q v H' x⟩⟩
theorem wT.imp {Q Q' : Bool → Hp → Prop} (h : wT X e σ H Q) (q : ∀ v H', Q v H' → Q' v H') : wT X e σ H Q' := ⟨fun pins s I => thn (h.run pins s I) fun u s' ⟨H', J, x⟩ => ⟨H', J, q u H' x⟩⟩
theorem wS.imp {D D' : Ends} (h : wS X st D σ H) (n : ∀ σ H, D.nx σ H → D'.nx σ H) (r : ∀ v H, D.rt v H → D'.rt v H) (k : ∀ σ H, D.bk σ H → D'.bk σ H) (c : ∀ σ H, D.ct σ H → D'.ct σ H) : wS X st D' σ H := by
  refine ⟨fun pins s I => thn (h.run pins s I) fun f s' q => ?_⟩
  cases f with
  | next => obtain ⟨σ', H', J, x⟩ := q; exact ⟨σ', H', J, n _ _ x⟩
  | brk => obtain ⟨σ', H', J, x⟩ := q; exact ⟨σ', H', J, k _ _ x⟩
  | cont => obtain ⟨σ', H', J, x⟩ := q; exact ⟨σ', H', J, c _ _ x⟩
  | ret u => obtain ⟨v, σ', H', J, rv, x⟩ := q; exact ⟨v, σ', H', J, rv, r _ _ x⟩
/-! ### names, constants -/
theorem zv (i : Nat) {x : Str} {v : V} (h : Q v H) (hs : σ[i]? = some (some v) := by rfl) (hN : X.N[i]? = some x := by rfl) (hv : Vis X.env.scope x := by first | exact Or.inl rfl | exact Or.inr (Or.inl rfl) | exact Or.inr (Or.inr rfl)) (hd : (x == ("__debug__" : Str)) = false := by decide)
    (hcd : (x == ("__classdict__" : Str)) = false := by decide) : wE X (.Name x pos) σ H Q := ofE (pe_var hN hv hd hcd) ⟨v, hs, h⟩
def slotOf (N : List Str) (x : Str) : Nat := N.findIdx (fun y => decide (y = x))
theorem zn {x : Str} {v : V} (hN : X.N[slotOf X.N x]? = some x) (hv : Vis X.env.scope x) (hs : σ[slotOf X.N x]? = some (some v)) (h : Q v H) (hd : (x == ("__debug__" : Str)) = false := by decide)
    (hcd : (x == ("__classdict__" : Str)) = false := by decide) : wE X (.Name x pos) σ H Q := ofE (pe_var hN hv hd hcd) ⟨v, hs, h⟩
theorem zint {i j} (h : Q (.int i) H) : wE X (.Constant (.int i) j pos) σ H Q := ofE pe_int h
theorem zbl {i j} (h : Q (.bl i) H) : wE X (.Constant (.bool i) j pos) σ H Q := ofE pe_bl h
theorem zstr {i j} (h : Q (.str i) H) : wE X (.Constant (.str i) j pos) σ H Q := ofE pe_str h
theorem znon {j} (h : Q .non H) : wE X (.Constant .none j pos) σ H Q := ofE pe_non h
/-- a constant of the module -/
theorem zglob {x : Str} {v : V} (hm : ∃ u, X.mg x = some u ∧ RelV v u) (hg : Gl X x) (h : Q v H) (hd : (x == ("__debug__" : Str)) = false := by decide) : wE X (.Name x pos) σ H Q := by
  obtain ⟨u, e, r⟩ := hm
  exact ofE (pe_glob hg e r hd) h
/-- a built-in's name as a value -/
theorem zblt {x : Str} {v : V} {u : Value} (hm : X.mg x = none) (hv : bootBuiltins x = some u) (r : RelV v u) (hg : Gl X x) (h : Q v H) (hn : x ≠ "__name__" := by decide) (hd : (x == ("__debug__" : Str)) = false := by decide) : wE X (.Name x pos) σ H Q := ofE (pe_bltn hg hm hv r hn hd) h
/-! ### operators -/
theorem zbin {op : Operator} (h : wE X a σ H fun x H1 => wE X b σ H1 fun y H2 => wO X (binaryOp op) x y H2 Q) : wE X (.BinOp a op b pos) σ H Q := ofE (pe_op sO sE sE) h
theorem zcmp {op : CmpOp} (hm : behindInMarks op b = false) (h : wE X a σ H fun x H1 => wE X b σ H1 fun y H2 => wO X (compareOp op) x y H2 Q) : wE X (.Compare a [op] [b] pos) σ H Q := ofE (pe_cmpR sO sE sE hm) h
theorem zcmpT {op : CmpOp} {Q : Bool → Hp → Prop} (hm : behindInMarks op b = false) (h : wE X a σ H fun x H1 => wE X b σ H1 fun y H2 => wO X (compareOp op) x y H2 fun z H3 => ∃ k, z = .bl k ∧ Q k H3) : wT X (.Compare a [op] [b] pos) σ H Q := ofT (pt_cmpR sO sE sE hm) h
theorem oadd {i j : Int} (h : Q (.int (i + j)) H) : wO X (binaryOp .Add) (.int i) (.int j) H Q := ofO op_add ⟨i, j, rfl, rfl, h⟩
theorem osub {i j : Int} (h : Q (.int (i - j)) H) : wO X (binaryOp .Sub) (.int i) (.int j) H Q := ofO op_sub ⟨i, j, rfl, rfl, h⟩
theorem omul {i j : Int} (c : IntMulOk i j) (h : Q (.int (i * j)) H) : wO X (binaryOp .Mult) (.int i) (.int j) H Q := by
  refine ⟨fun pins s σ v u I rx ry => ?_⟩
  obtain ⟨t, rfl⟩ := rx
  obtain ⟨t', rfl⟩ := ry
  exact mul_int ⟨.int _, H, I.tok _, ⟨_, rfl⟩, h⟩ c
theorem omod {i j : Int} (c : 0 < j) (h : Q (.int (i % j)) H) : wO X (binaryOp .Mod) (.int i) (.int j) H Q := ofO op_mod ⟨i, j, rfl, rfl, c, h⟩
theorem ofdiv {i j : Int} (c : CDivW i j) (h : Q (.int (i / j)) H) : wO X (binaryOp .FloorDiv) (.int i) (.int j) H Q := ofO op_fdivW ⟨i, j, rfl, rfl, c, h⟩
theorem oand {i j : Int} (h : Q (.int (Builtin.bitAnd i j)) H) : wO X (binaryOp .BitAnd) (.int i) (.int j) H Q := ofO op_and ⟨i, j, rfl, rfl, h⟩
theorem oor {i j : Int} (h : Q (.int (Builtin.bitOr i j)) H) : wO X (binaryOp .BitOr) (.int i) (.int j) H Q := ofO op_or ⟨i, j, rfl, rfl, h⟩
theorem oxor {i j : Int} (h : Q (.int (Builtin.bitXor i j)) H) : wO X (binaryOp .BitXor) (.int i) (.int j) H Q := ofO op_xor ⟨i, j, rfl, rfl, h⟩
theorem oshl {i j : Int} (c : CShl i j) (h : Q (.int (i * 2 ^ j.toNat)) H) : wO X (binaryOp .LShift) (.int i) (.int j) H Q := ofO op_shlW ⟨i, j, rfl, rfl, c, h⟩
theorem oshr {i j : Int} (c : 0 ≤ j) (h : Q (.int (i / 2 ^ j.toNat)) H) : wO X (binaryOp .RShift) (.int i) (.int j) H Q := ofO op_shr ⟨i, j, rfl, rfl, c, h⟩
theorem opow {i j : Int} (c0 : 0 ≤ j) (c : (Builtin.Int.intBits i : Int) * j ≤ 2 ^ 27) (h : Q (.int (i ^ j.toNat)) H) : wO X (binaryOp .Pow) (.int i) (.int j) H Q := by
  refine ⟨fun pins s σ v u I rx ry => ?_⟩
  obtain ⟨t, rfl⟩ := rx
  obtain ⟨t', rfl⟩ := ry
  exact pow_int c0 c ⟨.int _, H, I.tok _, ⟨_, rfl⟩, h⟩
theorem oadds {i j : Str} (c : i.length + j.length ≤ sizeLine) (h : Q (.str (i ++ j)) H) : wO X (binaryOp .Add) (.str i) (.str j) H Q := ofO op_add_str ⟨i, j, rfl, rfl, c, h⟩
theorem olt {i j : Int} (h : Q (.bl (decide (i < j))) H) : wO X (compareOp .Lt) (.int i) (.int j) H Q := ofO op_lt ⟨i, j, rfl, rfl, h⟩
theorem ole {i j : Int} (h : Q (.bl (decide (i ≤ j))) H) : wO X (compareOp .LtE) (.int i) (.int j) H Q := ofO op_le ⟨i, j, rfl, rfl, h⟩
theorem ogt {i j : Int} (h : Q (.bl (decide (j < i))) H) : wO X (compareOp .Gt) (.int i) (.int j) H Q := ofO op_gt ⟨i, j, rfl, rfl, h⟩
theorem oge {i j : Int} (h : Q (.bl (decide (j ≤ i))) H) : wO X (compareOp .GtE) (.int i) (.int j) H Q := ofO op_ge ⟨i, j, rfl, rfl, h⟩
theorem oeq {x y : V} (s : scal x y = true) (h : Q (.bl (decide (x = y))) H) : wO X (compareOp .Eq) x y H Q := ofO op_eq ⟨s, h⟩
theorem one {x y : V} (s : scal x y = true) (h : Q (.bl (!decide (x = y))) H) : wO X (compareOp .NotEq) x y H Q := ofO op_ne ⟨s, h⟩
theorem oeqi {i j : Int} (h : Q (.bl (decide (i = j))) H) : wO X (compareOp .Eq) (.int i) (.int j) H Q := oeq rfl (by simp only [V.int.injEq]; exact h)
theorem onei {i j : Int} (h : Q (.bl (!decide (i = j))) H) : wO X (compareOp .NotEq) (.int i) (.int j) H Q := one rfl (by simp only [V.int.injEq]; exact h)
theorem oeqD {k : Nat} {x y : V} {d e : PyData} (hr : Room k X.A) (hx : Dp X.K H x d) (hy : Dp X.K H y e) (s1 : SeqAt.shaped d = true) (s2 : SeqAt.shaped e = true) (h : Q (.bl (PyData.eqv d e)) H) : wO X (compareOp .Eq) x y H Q := ofO (op_eqD hr.units) ⟨d, e, hx, hy, s1, s2, h⟩
theorem oneD {k : Nat} {x y : V} {d e : PyData} (hr : Room k X.A) (hx : Dp X.K H x d) (hy : Dp X.K H y e) (s1 : SeqAt.shaped d = true) (s2 : SeqAt.shaped e = true) (h : Q (.bl (!PyData.eqv d e)) H) : wO X (compareOp .NotEq) x y H Q := ofO (op_neD hr.units) ⟨d, e, hx, hy, s1, s2, h⟩
theorem ois {x : V} (h : Q (.bl (decide (x = .non))) H) : wO X (compareOp .Is) x .non H Q := ofO op_isN ⟨rfl, h⟩
theorem onot {x : V} (h : Q (.bl (!decide (x = .non))) H) : wO X (compareOp .IsNot) x .non H Q := ofO op_notN ⟨rfl, h⟩
theorem ocat {l m : Addr} {xs zs : List V} (hl : H l = some (.lst xs)) (hm : H m = some (.lst zs)) (c : xs.length + zs.length ≤ sizeLine) (h : ∀ p, H p = none → Q (.ref p) (upd H p (.lst (xs ++ zs)))) : wO X (binaryOp .Add) (.ref l) (.ref m) H Q := ofO op_cat ⟨l, m, xs, zs, rfl, rfl, hl, hm, c, h⟩
end
end Z

set_option maxRecDepth 100000
set_option maxHeartbeats 4000000
namespace Z
open PySem PySem.Spec PyProof.Rows L2
open Evl (Ex)
section
variable {X : Cx} {σ : St} {H : Hp} {e a b c o : Expr} {es : List Expr} {st : Stmt} {sts : List Stmt} {pos pos' p p1 p2 apos : Pos} {Q : VK} {D : Ends} {W : WX}
/-! ### argument lists, displays -/
theorem anil {Q : List V → Hp → Prop} (h : Q [] H) : wA X [] σ H Q := ofA pa_nil h
theorem acons {Q : List V → Hp → Prop} (h : wE X e σ H fun x H1 => wA X es σ H1 fun xs H2 => Q (x :: xs) H2) (hs : starEach (e :: es) X.env = (false, eval e X.env) :: starEach es X.env := by rfl) : wA X (e :: es) σ H Q := ofA (pa_cons sE sA hs) h
theorem zlst (h : wA X es σ H fun vs H1 => vs.length ≤ sizeLine ∧ ∀ p H2, H1 p = none → Ex H1 H2 → H2 p = some (.lst vs) → Q (.ref p) H2) : wE X (.List es pos) σ H Q :=
  ofE (pe_lst sA) ⟨fun pos pins s I => thn (h.run pos pins s I) fun us s' ⟨vs, H1, J, r, l, q⟩ => ⟨vs, H1, J, r, l, fun p hp => q p _ hp (Ex.new hp) upd_same⟩⟩
theorem ztup {k} (h : wA X es σ H fun vs H1 => vs.length ≤ sizeLine ∧ ∀ p H2, H1 p = none → Ex H1 H2 → H2 p = some (.tup vs) → Q (.ref p) H2) : wE X (.Tuple es k pos) σ H Q :=
  ofE (pe_tup sA) ⟨fun pos pins s I => thn (h.run pos pins s I) fun us s' ⟨vs, H1, J, r, l, q⟩ => ⟨vs, H1, J, r, l, fun p hp => q p _ hp (Ex.new hp) upd_same⟩⟩
theorem ocatE {l m : Addr} {xs zs : List V} (hl : H l = some (.lst xs)) (hm : H m = some (.lst zs)) (c : xs.length + zs.length ≤ sizeLine) (h : ∀ p H2, H p = none → Ex H H2 → H2 p = some (.lst (xs ++ zs)) → Q (.ref p) H2) : wO X (binaryOp .Add) (.ref l) (.ref m) H Q :=
  ocat hl hm c fun p hp => h p _ hp (Ex.new hp) upd_same
/-! ### tests -/
theorem zand {Q : Bool → Hp → Prop} (h : wT X a σ H fun k H1 => if k = true then wW X (.BoolOp .And (b :: es) pos) σ H1 Q else Q false H1) : wW X (.BoolOp .And (a :: b :: es) pos) σ H Q := ofW (pw_and sT sW) h
theorem zand1 {Q : Bool → Hp → Prop} (h : wT X a σ H Q) : wW X (.BoolOp .And [a] pos) σ H Q := ofW (pw_and1 sT) h
theorem zor {Q : Bool → Hp → Prop} (h : wT X a σ H fun k H1 => if k = true then Q true H1 else wW X (.BoolOp .Or (b :: es) pos) σ H1 Q) : wW X (.BoolOp .Or (a :: b :: es) pos) σ H Q := ofW (pw_or sT sW) h
theorem zor1 {Q : Bool → Hp → Prop} (h : wT X a σ H Q) : wW X (.BoolOp .Or [a] pos) σ H Q := ofW (pw_or1 sT) h
theorem zW {Q : Bool → Hp → Prop} {op} (h : wW X (.BoolOp op es pos) σ H Q) : wT X (.BoolOp op es pos) σ H Q := ⟨fun pins s I => h.run _ pins s I⟩
theorem znotT {Q : Bool → Hp → Prop} (h : wT X a σ H fun k H1 => Q (!k) H1) : wT X (.UnaryOp .Not a pos) σ H Q := ofT (pt_not sT) h
theorem zval {Q : Bool → Hp → Prop} (h : wE X e σ H fun x H1 => ∃ k, x = .bl k ∧ Q k H1) (he : ∀ whole, isTrue e X.env whole = (do let v ← whole; standAt e.pos; holding [v] (truthy v)) := by intro _; rfl) : wT X e σ H Q := ofT (pt_val sE he) h
theorem ztru {Q : Bool → Hp → Prop} (h : wE X e σ H fun x H1 => ∃ k, TruV X.K x H1 k ∧ Q k H1) (he : ∀ whole, isTrue e X.env whole = (do let v ← whole; standAt e.pos; holding [v] (truthy v)) := by intro _; rfl) : wT X e σ H Q := ofT (pt_truth sE he) h
theorem zif (h : wT X c σ H fun k H1 => if k = true then wE X a σ H1 Q else wE X b σ H1 Q) : wE X (.IfExp c a b pos) σ H Q := ofE (pe_ifExp sT sE sE) h
/-- as values: and, or of truths, not -/
theorem zandV (h : wE X a σ H fun x H1 => ∃ k, x = .bl k ∧ if k = true then wE X (.BoolOp .And (b :: es) pos) σ H1 Q else Q (.bl false) H1) : wE X (.BoolOp .And (a :: b :: es) pos) σ H Q := ofE (pe_and sE sE) h
theorem zorV (h : wE X a σ H fun x H1 => ∃ k, x = .bl k ∧ if k = true then Q (.bl true) H1 else wE X (.BoolOp .Or (b :: es) pos) σ H1 Q) : wE X (.BoolOp .Or (a :: b :: es) pos) σ H Q := ofE (pe_or sE sE) h
theorem zoneV {op} (h : wE X a σ H Q) : wE X (.BoolOp op [a] pos) σ H Q := ofE (pe_one sE) h
theorem znotV (h : wE X a σ H fun x H1 => ∃ k, x = .bl k ∧ Q (.bl (!k)) H1) : wE X (.UnaryOp .Not a pos) σ H Q := ofE (pe_not sE) h
/-! ### statements -/
theorem bnil (h : D.nx σ H) : wB X [] D σ H := ofB pss_nil h
theorem bcons (h : wS X st { D with nx := fun σ' H' => wB X sts D σ' H' } σ H) : wB X (st :: sts) D σ H := ofB (pss_cons sS sB) h
theorem bone (h : wS X st D σ H) : wB X [st] D σ H := ofB (pss_one sS) h
theorem sset {x : Str} (i : Nat) (hN : X.N.Nodup) (h : wE X e σ H fun v H1 => D.nx (σ.set i (some v)) H1) (hi : X.N[i]? = some x := by rfl) (hx : Loc X.env.scope x := by first | exact Or.inl rfl | exact Or.inr rfl) (hs : swapsWith e (some (.Name x pos')) pos.line X.env = pure false := by rfl)
    (hf : X.fn x = true ∨ X.env.scope.names.lookup x = some .local := by first | exact .inl rfl | exact .inr rfl | assumption) : wS X (.Assign [.Name x pos'] e pos) D σ H := ofS (ps_set hN hi hx sE hs hf) h
theorem sret (h : wE X e σ H D.rt) : wS X (.Return (some e) pos) D σ H := ofS (ps_ret sE) h
theorem sretN (h : D.rt .non H) : wS X (.Return none pos) D σ H := ofS ps_retN h
theorem sif {x y : List Stmt} (h : wT X c σ H fun k H1 => if k = true then wB X x D σ H1 else wB X y D σ H1) : wS X (.If c x y pos) D σ H := ofS (ps_if sT sB sB) h
theorem sexp (h : wE X e σ H fun _ H1 => D.nx σ H1) (hs : swapsWith e none pos.line X.env = pure false := by rfl) : wS X (.Expr e pos) D σ H := ofS (ps_expr sE hs) h
theorem spass (h : D.nx σ H) : wS X (.Pass pos) D σ H := ofS ps_pass h
theorem sbrk (h : D.bk σ H) : wS X (.Break pos) D σ H := ofS ps_break h
theorem scont (h : D.ct σ H) : wS X (.Continue pos) D σ H := ofS ps_continue h
/-- name op= e -/
theorem saug {x : Str} {op : Operator} (i : Nat) (hN : X.N.Nodup) {v : V} (hv : σ[i]? = some (some v)) (h : wE X e σ H fun y H1 => wO X (inplaceOp op) v y H1 fun z H2 => D.nx (σ.set i (some z)) H2) (hi : X.N[i]? = some x := by rfl) (hx : Loc X.env.scope x := by first | exact Or.inl rfl | exact Or.inr rfl)
    (hf : X.fn x = true ∨ X.env.scope.names.lookup x = some .local := by first | exact .inl rfl | exact .inr rfl | assumption) : wS X (.AugAssign (.Name x pos') op e pos) D σ H := ofS (ps_aug (ti := wO X (inplaceOp op)) hN hi hx sE sO hf) ⟨v, hv, h⟩
theorem ior {i j : Int} (h : Q (.int (Builtin.bitOr i j)) H) : wO X (inplaceOp .BitOr) (.int i) (.int j) H Q := ofO iop_or ⟨i, j, rfl, rfl, h⟩
theorem ixor {i j : Int} (h : Q (.int (Builtin.bitXor i j)) H) : wO X (inplaceOp .BitXor) (.int i) (.int j) H Q := ofO iop_xor ⟨i, j, rfl, rfl, h⟩
theorem ishr {i j : Int} (c : 0 ≤ j) (h : Q (.int (i / 2 ^ j.toNat)) H) : wO X (inplaceOp .RShift) (.int i) (.int j) H Q := ofO iop_shr ⟨i, j, rfl, rfl, c, h⟩
theorem iadd {i j : Int} (h : Q (.int (i + j)) H) : wO X (inplaceOp .Add) (.int i) (.int j) H Q := ofO iop_add ⟨i, j, rfl, rfl, h⟩
/-! ### targets -/
theorem gname {x : Str} {v : V} {Q : St → Hp → Prop} (i : Nat) (hN : X.N.Nodup) (h : Q (σ.set i (some v)) H) (hi : X.N[i]? = some x := by rfl) (hx : Loc X.env.scope x := by first | exact Or.inl rfl | exact Or.inr rfl)
    (hf : X.fn x = true ∨ X.env.scope.names.lookup x = some .local := by first | exact .inl rfl | exact .inr rfl | assumption) : wG X (.Name x pos) v σ H Q := ofG (pg_name hN hi hx hf) h
theorem gsnil {Q : St → Hp → Prop} (h : Q σ H) : wGs X [] [] σ H Q := ⟨fun pins s us I r => pgs_nil.run pins s σ H [] us Q I r ⟨rfl, h⟩⟩
theorem gscons {tg : Expr} {ts : List Expr} {v : V} {vs : List V} {Q : St → Hp → Prop} (h : wG X tg v σ H fun σ' H' => wGs X ts vs σ' H' Q) (hs : (assignEach (tg :: ts) X.env).map (·.2) = assign tg X.env :: (assignEach ts X.env).map (·.2) := by rfl) : wGs X (tg :: ts) (v :: vs) σ H Q :=
  ⟨fun pins s us I r => (pgs_cons sG sGs hs).run pins s σ H (v :: vs) us Q I r ⟨v, vs, rfl, h⟩⟩
theorem gtup {ts : List Expr} {k : Nat} {p : Addr} {xs : List V} {Q : St → Hp → Prop} (hc : X.calm = true) (hp : SqT X.K H p xs) (hl : xs.length = ts.length) (h : wGs X ts xs σ H Q) (hn : (assignEach ts X.env).length = ts.length := by rfl) (hst : (assignEach ts X.env).findIdx? (·.1) = none := by rfl) : wG X (.Tuple ts k pos) (.ref p) σ H Q :=
  ofG (pg_tup hc sGs hn hst) ⟨p, xs, rfl, hp, hl, h⟩
theorem sasg {tg : Expr} (h : wE X e σ H fun v H1 => wG X tg v σ H1 D.nx) (hs : swapsWithSole [tg] e pos.line X.env = pure false := by rfl) (hw : swappedStores [tg] e X.env = pure none := by rfl)
    (h1 : (assignEach [tg] X.env).map (·.2) = [assign tg X.env] := by rfl) : wS X (.Assign [tg] e pos) D σ H := ofS (ps_asg sE sG hs hw h1) h
/-! ### calls of defs -/
/-- a def of the module: where it stands, how it binds, what it promises -/
def Gf (P : Program) (w : World) (K : PySem.W.Frag) (mg : Str → Option Value) (base : Heap) (k : Nat) (x : Str) (dvs : List V) (sp : Sp) : Prop :=
  ∃ (f : Addr) (fd : FuncData) (ps : List Str) (ds : List Value), mg x = some (.ref f) ∧ PySem.W.keepIn K (.ref f) = true ∧ Binds K fd ps ds ∧ Vals dvs ds ∧ FnOk P w K mg base (L2N.CX P w) k f fd ps sp
theorem Gf.mono {P : Program} {w : World} {K : PySem.W.Frag} {mg : Str → Option Value} {base : Heap} {k j : Nat} {x : Str} {dvs : List V} {sp : Sp} (h : Gf P w K mg base k x dvs sp) (hk : k ≤ j) : Gf P w K mg base j x dvs sp := by
  obtain ⟨f, fd, ps, ds, h1, h2, h3, h4, h5⟩ := h
  exact ⟨f, fd, ps, ds, h1, h2, h3, h4, h5.mono hk⟩
theorem run_gf {pins : List (Addr × Obj)} {s : Shared} {k : Nat} {f : Addr} {fd : FuncData} {ps : List Str} {sp : Sp} {dvs : List V} {ds us : List Value} {vs : List V} (F : FnOk X.prog X.w X.K X.mg X.base (L2N.CX X.prog X.w) k f fd ps sp) (hr : Room k X.A) (hb : Binds X.K fd ps ds) (hd : Vals dvs ds) (tk : L2N.Takes X W)
    (I : Inv X pins σ H s) (r : Vals vs us) (h : sp (vs ++ dvs) H Q fun cls d H' => W cls d σ H') : wpAny (model X.prog X.w) X.A (call (.ref f) us) (EP X pins σ Q) X.xe s := by
  have r2 : Vals (vs ++ dvs) (us ++ ds) := r.append hd
  have hl : (us ++ ds).length = ps.length := r2.length.symm.trans (F.len _ _ _ _ h)
  refine wpAny_call (codeAny_mono (F.run X.A X.stack s H ⟨us, []⟩ (us ++ ds) (vs ++ dvs) Q (fun cls d H' => W cls d σ H') hr I.env0 (hb s us I.kIn hl) r2 h) fun z s' hq => ?_)
  cases z with
  | error er => exact tk er s' (L2N.XE.of_call I (fun _ _ _ q => q) hq)
  | ok fl =>
    cases fl with
    | ret u => exact I.after hq
    | next => exact hq.elim
    | brk => exact hq.elim
    | cont => exact hq.elim
theorem zcall {x : Str} {k j : Nat} {dvs : List V} {sp : Sp} (F : Gf X.prog X.w X.K X.mg X.base k x dvs sp) (hr : Room j X.A) (hk : k ≤ j) (tk : L2N.Takes X W) (hg : Gl X x) (h : wA X (e :: es) σ H fun vs H1 => sp (vs ++ dvs) H1 Q fun cls d H' => W cls d σ H')
    (hdb : (x == ("__debug__" : Str)) = false := by decide) (he : starEach (e :: es) X.env = (false, eval e X.env) :: starEach es X.env := by rfl) (hpl : (backTo pos (starEach es X.env)).any (·.1) = false := by rfl) : wE X (.Call (.Name x p) (e :: es) [] pos) σ H Q := by
  refine ⟨fun pins s I => ?_⟩
  obtain ⟨f, fd, ps, ds, hm, kp, hb, hd, FF⟩ := F
  refine wpAny_Call_Name_kw (ld_glob I hg hm ?_ hdb)
  refine PySem.W.callWith_K (h₀ := X.base) I.ok.mod.kin kp (thn (h.run pos pins s I) fun us s1 ⟨vs, H1, I1, r, q⟩ => ⟨I1.kIn, ?_⟩) he hpl
  exact run_gf FF (hr.mono hk) hb hd tk I1 r q
theorem zcall0 {x : Str} {k j : Nat} {dvs : List V} {sp : Sp} (F : Gf X.prog X.w X.K X.mg X.base k x dvs sp) (hr : Room j X.A) (hk : k ≤ j) (tk : L2N.Takes X W) (hg : Gl X x) (h : sp dvs H Q fun cls d H' => W cls d σ H')
    (hdb : (x == ("__debug__" : Str)) = false := by decide) : wE X (.Call (.Name x p) [] [] pos) σ H Q := by
  refine ⟨fun pins s I => ?_⟩
  obtain ⟨f, fd, ps, ds, hm, kp, hb, hd, FF⟩ := F
  refine wpAny_Call_Name_kw (ld_glob I hg hm ?_ hdb)
  exact PySem.W.callWith_K0 I.kIn kp (run_gf (us := []) (vs := []) FF (hr.mono hk) hb hd tk I .nil h)
/-! ### built-ins -/
theorem zbfn {x : Str} {id : String} (hm : X.mg x = none) (hv : bootBuiltins x = some (.builtin id)) (hg : Gl X x) (h : wA X (e :: es) σ H fun vs H1 => wK X (.builtin id) vs H1 Q) (hn : x ≠ "__name__" := by decide) (hdb : (x == ("__debug__" : Str)) = false := by decide)
    (he : starEach (e :: es) X.env = (false, eval e X.env) :: starEach es X.env := by rfl) (hpl : (backTo pos (starEach es X.env)).any (·.1) = false := by rfl) : wE X (.Call (.Name x p) (e :: es) [] pos) σ H Q := ofE (pe_callB sK hg hm hv sA hn hdb he hpl) h
theorem zbty {x : Str} {T : String} (hm : X.mg x = none) (hv : bootBuiltins x = some (.type T)) (hg : Gl X x) (h : wA X (e :: es) σ H fun vs H1 => wK X (.type T) vs H1 Q) (hn : x ≠ "__name__" := by decide) (hdb : (x == ("__debug__" : Str)) = false := by decide)
    (he : starEach (e :: es) X.env = (false, eval e X.env) :: starEach es X.env := by rfl) (hpl : (backTo pos (starEach es X.env)).any (·.1) = false := by rfl) : wE X (.Call (.Name x p) (e :: es) [] pos) σ H Q := ofE (pe_callTy sK hg hm hv sA hn hdb he hpl) h
theorem klenL {p : Addr} {xs : List V} (hp : SqL X.K H p xs) (h : Q (.int xs.length) H) : wK X (.builtin "len") [.ref p] H Q := ofK call_len_seq ⟨p, xs, rfl, .inl hp, h⟩
theorem klenT {p : Addr} {xs : List V} (hp : SqT X.K H p xs) (h : Q (.int xs.length) H) : wK X (.builtin "len") [.ref p] H Q := ofK call_len_seq ⟨p, xs, rfl, .inr hp, h⟩
theorem klenS {z : Str} (c : z.length ≤ sizeLine) (h : Q (.int z.length) H) : wK X (.builtin "len") [.str z] H Q := ofK call_len_str ⟨z, rfl, c, h⟩
theorem kmax {i j : Int} (hc : X.calm = true) (h : Q (.int (max i j)) H) : wK X (.builtin "max") [.int i, .int j] H Q := ofK (call_max2 hc) ⟨i, j, rfl, by rw [show (if j > i then j else i) = max i j from by omega]; exact h⟩
theorem kmin {i j : Int} (hc : X.calm = true) (h : Q (.int (min i j)) H) : wK X (.builtin "min") [.int i, .int j] H Q := ofK (call_min2 hc) ⟨i, j, rfl, by rw [show (if j < i then j else i) = min i j from by omega]; exact h⟩
theorem klistL {p : Addr} {xs : List V} (hp : SqL X.K H p xs) (h : ∀ q H2, H q = none → Ex H H2 → H2 q = some (.lst xs) → Q (.ref q) H2) : wK X (.type "list") [.ref p] H Q := ofK call_list_of ⟨p, xs, rfl, .inl hp, fun q hq => h q _ hq (Ex.new hq) upd_same⟩
theorem klistT {p : Addr} {xs : List V} (hp : SqT X.K H p xs) (h : ∀ q H2, H q = none → Ex H H2 → H2 q = some (.lst xs) → Q (.ref q) H2) : wK X (.type "list") [.ref p] H Q := ofK call_list_of ⟨p, xs, rfl, .inr hp, fun q hq => h q _ hq (Ex.new hq) upd_same⟩
theorem ktupL {p : Addr} {xs : List V} (hp : SqL X.K H p xs) (h : ∀ q H2, H q = none → Ex H H2 → H2 q = some (.tup xs) → Q (.ref q) H2) : wK X (.type "tuple") [.ref p] H Q := ofK call_tuple_of ⟨p, xs, rfl, .inl ⟨hp, fun q hq => h q _ hq (Ex.new hq) upd_same⟩⟩
theorem kisi {x c : V} {t u : Value} {k : Bool} (hc : ClsV c u) (ty : TyX X.K H x t) (hk : PySem.W.kitOne X.K t u = some k) (h : Q (.bl k) H) : wK X (.builtin "isinstance") [x, c] H Q := ofK call_isi ⟨x, c, t, u, k, rfl, hc, ty, hk, h⟩
/-! ### items, slices, methods -/
theorem zix (h : wE X a σ H fun x H1 => wE X b σ H1 fun y H2 => wIx X x y H2 Q) (hs : PlainIx b := by intro _ _; rfl) : wE X (.Subscript a b pos) σ H Q := ofE (pe_ix sIx sE sE hs) h
theorem ixL {p : Addr} {xs : List V} {i : Int} {v : V} (hp : SqL X.K H p xs) (hi : atI xs i = some v) (h : Q v H) : wIx X (.ref p) (.int i) H Q := ofIx ix_list ⟨p, xs, i, v, rfl, rfl, hp, hi, h⟩
theorem ixT {p : Addr} {xs : List V} {i : Int} {v : V} (hp : SqT X.K H p xs) (hi : atI xs i = some v) (h : Q v H) : wIx X (.ref p) (.int i) H Q := ofIx ix_tup ⟨p, xs, i, v, rfl, rfl, hp, hi, h⟩
theorem ixS {z : Str} {i : Int} {c : Nat} (hz : z.length ≤ sizeLine) (hi : atI z.cps.toList i = some c) (h : Q (.str ⟨#[c]⟩) H) : wIx X (.str z) (.int i) H Q := ofIx ix_str ⟨z, i, c, rfl, rfl, hz, hi, h⟩
/-- l.append(e) -/
theorem zapp (h : wE X o σ H fun x H1 => ∃ l xs0, x = .ref l ∧ H1 l = some (.lst xs0) ∧ wE X e σ H1 fun y H2 => ∃ xs, H2 l = some (.lst xs) ∧ xs.length < sizeLine ∧ Q .non (upd H2 l (.lst (xs ++ [y])))) (hsa : starEach [e] X.env = (false, eval e X.env) :: starEach [] X.env := by rfl)
    (he : ∀ t : TA, PA X [e] t → PE X (.Call (.Attribute o "append" apos) [e] [] pos) (tBM X.K "list" rAppend (wE X o) t) := by intro t ht; exact pe_bm PySem.F.plainAttrs_list PySem.F.slot_list_append PySem.F.type_list_append mt_append sE ht) :
    wE X (.Call (.Attribute o "append" apos) [e] [] pos) σ H Q := by
  refine ofE (he _ (pa_cons sE pa_nil hsa)) ⟨fun pins s I => thn (h.run pins s I) fun u s1 ⟨x, H1, I1, r1, l, xs0, ex, hl, q⟩ => ⟨x, H1, I1, r1, ?_⟩⟩
  subst ex
  refine ⟨.inl ⟨rfl, xs0, SqL.of hl⟩, ⟨fun pins2 s2 J => thn (q.run pins2 s2 J) fun u2 s3 ⟨y, H2, I2, r2, xs, h2, hz, q2⟩ => ⟨y, H2, I2, r2, ?_⟩⟩⟩
  exact ⟨l, xs, y, rfl, rfl, h2, hz, q2⟩
/-! ### loops -/
variable {tg l : Expr} {body : List Stmt}
theorem lfor {wi : TI} (hp : PassesOwn (model X.prog X.w) X.A X.env X.xe) (hc : X.calm = true) (hi : PI X tg l wi) (h : tFor wi (wG X tg) (wB X body) D σ H) (hs : ∀ x, foldedSetIterable l X.env x = pure x := by intro _; rfl) : wS X (.For tg l body [] pos) D σ H := ofS (ps_for hp hc hi sG sB hs) h
/-- over a list that the body leaves as it is -/
theorem lforL {xs : List V} (hp : PassesOwn (model X.prog X.w) X.A X.env X.xe) (hc : X.calm = true) (Pv : Nat → St → Hp → Prop)
    (h : wE X l σ H fun x H1 => ∃ a, x = .ref a ∧ SqL X.K H1 a xs ∧ Pv 0 σ H1 ∧ (∀ i σ H, i ≤ xs.length → Pv i σ H → SqL X.K H a xs) ∧
      (∀ i x σ H, xs[i]? = some x → Pv i σ H → wG X tg x σ H fun σ2 H2 => wB X body { D with nx := Pv (i + 1), ct := Pv (i + 1), bk := D.nx } σ2 H2) ∧ ∀ σ H, Pv xs.length σ H → D.nx σ H)
    (hs : ∀ x, foldedSetIterable l X.env x = pure x := by intro _; rfl) : wS X (.For tg l body [] pos) D σ H :=
  lfor hp hc (pi_list sE) ⟨fun pins s I => thn (h.run pins s I) fun u s1 ⟨x, H1, I1, r, a, ex, hq, h0, hl, ht, hd⟩ => ⟨x, H1, I1, r, a, ex, ⟨xs, hq⟩, for_list Pv h0 hl ht hd⟩⟩ hs
theorem lforT {xs : List V} (hp : PassesOwn (model X.prog X.w) X.A X.env X.xe) (hc : X.calm = true) (Pv : Nat → St → Hp → Prop)
    (h : wE X l σ H fun x H1 => ∃ a, x = .ref a ∧ SqT X.K H1 a xs ∧ Pv 0 σ H1 ∧ (∀ i σ H, i ≤ xs.length → Pv i σ H → SqT X.K H a xs) ∧
      (∀ i x σ H, xs[i]? = some x → Pv i σ H → wG X tg x σ H fun σ2 H2 => wB X body { D with nx := Pv (i + 1), ct := Pv (i + 1), bk := D.nx } σ2 H2) ∧ ∀ σ H, Pv xs.length σ H → D.nx σ H)
    (hs : ∀ x, foldedSetIterable l X.env x = pure x := by intro _; rfl) : wS X (.For tg l body [] pos) D σ H :=
  lfor hp hc (pi_tup sE) ⟨fun pins s I => thn (h.run pins s I) fun u s1 ⟨x, H1, I1, r, a, ex, hq, h0, hl, ht, hd⟩ => ⟨x, H1, I1, r, a, ex, ⟨xs, hq⟩, for_tup Pv h0 hl ht hd⟩⟩ hs
theorem lfor1 {n : Int} (hm : X.mg "range" = none) (hp : PassesOwn (model X.prog X.w) X.A X.env X.xe) (hc : X.calm = true) (Pv : Nat → St → Hp → Prop) (hg : Gl X "range")
    (h : wE X a σ H fun x H1 => x = .int n ∧ n < 2 ^ 62 ∧ -(2 ^ 62) ≤ n ∧ Pv 0 σ H1 ∧ (∀ (i : Nat) σ H, (i : Int) < n → Pv i σ H → wG X tg (.int (i : Int)) σ H fun σ2 H2 => wB X body { D with nx := Pv (i + 1), ct := Pv (i + 1), bk := D.nx } σ2 H2) ∧ ∀ σ H, Pv n.toNat σ H → D.nx σ H)
    (hs : ∀ x, foldedSetIterable (.Call (.Name "range" p) [a] [] pos') X.env x = pure x := by intro _; rfl) (hsa : starEach [a] X.env = [(false, eval a X.env)] := by rfl) : wS X (.For tg (.Call (.Name "range" p) [a] [] pos') body [] pos) D σ H :=
  lfor hp hc (pi_range1 hg hm (pa_cons sE pa_nil hsa) hsa) ⟨fun pins s I => thn (h.run pins s I) fun u s1 ⟨x, H1, I1, r, ex, n1, n2, h0, ht, hd⟩ => ⟨x, H1, I1, r, n, by rw [ex], n2, n1, for_range Pv h0 (fun i σ H hi hP => by rw [Int.zero_add]; exact ht i σ H (by omega) hP) hd⟩⟩ hs
theorem lfor2 {lo n : Int} (hm : X.mg "range" = none) (hp : PassesOwn (model X.prog X.w) X.A X.env X.xe) (hc : X.calm = true) (Pv : Nat → St → Hp → Prop) (hg : Gl X "range")
    (h : wE X a σ H fun x H1 => x = .int lo ∧ wE X b σ H1 fun y H2 => y = .int n ∧ (-(2 ^ 62) ≤ lo ∧ lo < 2 ^ 62 ∧ -(2 ^ 62) ≤ n ∧ n < 2 ^ 62) ∧ Pv 0 σ H2 ∧ (∀ (i : Nat) σ H, lo + (i : Int) < n → Pv i σ H → wG X tg (.int (lo + (i : Int))) σ H fun σ2 H2 => wB X body { D with nx := Pv (i + 1), ct := Pv (i + 1), bk := D.nx } σ2 H2) ∧ ∀ σ H, Pv (n - lo).toNat σ H → D.nx σ H)
    (hs : ∀ x, foldedSetIterable (.Call (.Name "range" p) [a, b] [] pos') X.env x = pure x := by intro _; rfl) (hsa : starEach [a, b] X.env = [(false, eval a X.env), (false, eval b X.env)] := by rfl) (hsb : starEach [b] X.env = [(false, eval b X.env)] := by rfl) : wS X (.For tg (.Call (.Name "range" p) [a, b] [] pos') body [] pos) D σ H :=
  lfor hp hc (pi_range2 hg hm (pa_cons sE (pa_cons sE pa_nil hsb) (by rw [hsa, hsb])) hsa hsb) ⟨fun pins s I => thn (h.run pins s I) fun u s1 ⟨x, H1, I1, r, ex, h2⟩ => ⟨x, H1, I1, r, ⟨fun pins2 s2 J => thn (h2.run pins2 s2 J) fun u2 s3 ⟨y, H2, I2, r2, ey, hb, h0, ht, hd⟩ => ⟨y, H2, I2, r2, lo, n, by rw [ex, ey], hb, for_range Pv h0 (fun i σ H hi hP => ht i σ H (by omega) hP) hd⟩⟩⟩⟩ hs
theorem lwhile (hp : PassesOwn (model X.prog X.w) X.A X.env X.xe) (Pv : St → Hp → Prop) (μ : St → Hp → Nat) (h0 : Pv σ H)
    (h : ∀ σ H, Pv σ H → wT X c σ H fun k H1 => if k = true then wB X body { D with nx := fun σ' H' => Pv σ' H' ∧ μ σ' H' < μ σ H, ct := fun σ' H' => Pv σ' H' ∧ μ σ' H' < μ σ H, bk := D.nx } σ H1 else D.nx σ H1) : wS X (.While c body [] pos) D σ H :=
  ofS (ps_while hp sT sB) (while_by Pv μ h0 h fun σ H Q Q' q z => z.imp q)
/-! ### exceptions -/
structure wM (X : Cx) (e : Expr) (σ : St) (H : Hp) (Q : XK) : Prop where
  run : ∀ (pins : List (Addr × Obj)) (s : Shared), Inv X pins σ H s → wpAny (model X.prog X.w) X.A (eval e X.env) (L2N.MkP X pins σ Q) X.xe s
theorem sM : L2N.PMk X e (wM X e) := fun pins s σ H Q I h => h.run pins s I
theorem sraise (hc : X.calm = true) (tk : L2N.Takes X W) (h : wM X e σ H fun cls d H' => W cls d σ H') : wS X (.Raise (some e) none pos) D σ H := ofS (L2N.ps_raise hc tk sM) h
/-- a class without an own __init__, made with a text -/
theorem mown {x m : Str} {j : Nat} {C : Addr} {bmB : List Value} {B newId initId : String} (F : ExcBaseFacts B newId initId bmB) (q : PySem.W.excIn X.K C bmB newId = true) (gC : X.mg x = some (.ref C)) (kC : PySem.W.keepIn X.K (.ref C) = true) (r : Raises X (.ref C)) (hg : Gl X x) {Q : XK} (h : Q (.ref C) none H)
    (hdb : (x == ("__debug__" : Str)) = false := by decide) : wM X (.Call (.Name x p) [.Constant (.str m) j p2] [] pos) σ H Q := ⟨fun pins s I => L2N.pmk_own F q gC kC r hg hdb pins s σ H Q I h⟩
/-- try: body, except x as n: suite -/
theorem stry {x n : Str} {cl : Value} {np : Pos} {suite : List Stmt} {b₀ : Stmt} (i : Nat) (hN : X.N.Nodup) (tk : L2N.Takes X W) (hc : Names X x cl) (hs : X.stack = X.env :: X.outer) (hf : X.env.frame = some X.env.locals) (hi : X.N[i]? = some n) (hln : X.env.kindOf n = some .local)
    (h : ∀ (pn : List (Addr × Obj)) (xe : Value → Shared → Prop), PassesOwn (model X.prog X.w) X.A X.env xe → L2N.Takes (X.tr pn xe) (fun cls d σ1 H1 => ∃ k, PySem.W.exmOne X.K cls cl = some k ∧
        (k = true → ∀ a oe pn, H1 a = none → L2N.Zn cls d oe → (∃ vs, oe.data = .fields vs) → wB (X.suite a ((a, oe) :: pn)) (b₀ :: suite) { nx := fun σ' H' => D.nx (σ'.set i none) H', rt := D.rt, bk := fun σ' H' => D.bk (σ'.set i none) H', ct := fun σ' H' => D.ct (σ'.set i none) H' } (σ1.set i (some (.ref a))) H1) ∧
        (k = false → W cls d σ1 H1)) → wB (X.tr pn xe) body D σ H) : wS X (.Try body [.ExceptHandler (some (.Name x np)) (some n) (b₀ :: suite) pos'] [] [] pos) D σ H := by
  refine ofS (L2N.ps_try_as (tb := fun W' => fun D σ H => ∀ (pn : List (Addr × Obj)) (xe : Value → Shared → Prop), PassesOwn (model X.prog X.w) X.A X.env xe → L2N.Takes (X.tr pn xe) W' → wB (X.tr pn xe) body D σ H)
    (ts := fun a cls d => fun D σ H => ∀ oe pn, L2N.Zn cls d oe → (∃ vs, oe.data = .fields vs) → wB (X.suite a ((a, oe) :: pn)) (b₀ :: suite) D σ H) hs hf hN hi hln hc tk (fun W' pn xe tk' po => ⟨fun pins s σ H D I q => (q pn xe po tk').run pins s I⟩) (fun a oe cls d pn hz hd => ⟨fun pins s σ H D I q => (q oe pn hz hd).run pins s I⟩)) ?_
  intro pn xe po tk'
  refine h pn xe po (tk'.imp fun cls d σ1 H1 q => ?_)
  obtain ⟨k, h1, h2, h3⟩ := q
  exact ⟨k, h1, fun hk a ha oe pn hz hd => h2 hk a oe pn ha hz hd, h3⟩
end
end Z

set_option maxRecDepth 100000
set_option maxHeartbeats 4000000
namespace Z
open PySem PySem.Spec PyProof.Rows L2
open Evl (Ex)
/-! ### where an exception is handled: what is known of it -/
structure HX (X : Cx) (p : Addr × Obj) (cls : Value) (d : Option Addr) : Prop where
  hot : L2H.Hot1 X.A p
  mem : p ∈ X.pn
  zn : L2N.Zn cls d p.2
  fl : ∃ vs, p.2.data = .fields vs
theorem hx_suite {X : Cx} {a : Addr} {oe : Obj} {pn : List (Addr × Obj)} {cls : Value} {d : Option Addr} (hz : L2N.Zn cls d oe) (hf : ∃ vs, oe.data = .fields vs) : HX (X.suite a ((a, oe) :: pn)) (a, oe) cls d :=
  ⟨⟨rfl, by obtain ⟨vs, e⟩ := hf; exact ⟨vs, e, hz.2.2 vs e⟩⟩, List.mem_cons_self, hz, hf⟩
theorem HX.hotC {X : Cx} {p : Addr × Obj} {cls : Value} {d : Option Addr} (h : HX X p cls d) : L2H.HotC X := ⟨p, h.hot, h.mem⟩
section
variable {prog : Program} {w : World} {A : Around} {E : Value → Shared → Prop} {s : Shared}
/-- the last step of an iterator's end where an exception is handled: StopIteration is made, bears the handled one, is caught -/
theorem stop_hot {h0 h1 : Heap} {it x1 : Addr} {A' : Around} {g : Array GenState} {d : Drawn} {t : Nat} {os : OsState} (hot : HotX.HotAt A' x1 h1)
    (k : ∀ b o, b ≠ it → h0.get? b = some o → h1.get? b = some o)
    (hQ : ∀ (h' : Heap) (a : Addr), (∀ b o, b ≠ it → h0.get? b = some o → h'.get? b = some o) → (∃ o : Obj, h'.get? a = some o ∧ o.cls = .type "StopIteration") → E (.ref a) ⟨h', g, d, t, os⟩) {Q' : PySem.Fin → Shared → Prop} :
    wpAny (model prog w) A' Builtin.SmallTypes.stopIteration Q' E ⟨h1, g, d, t, os⟩ := by
  obtain ⟨hh, o1, vs1, g1, d1, c1⟩ := hot
  show wpAny _ _ (newExc (Value.type "StopIteration") [] >>= _) Q' E _; refine wpAny_bind ?_
  simp only [newExc, newTuple]
  refine wpAny_bind (wpAny_newObj_type ?_ (by size_fits)); refine wpAny_bind (m := firstArgMember _ _) (wpAny_of_eq (a := Value.none) (by first | rfl | (simp only [firstArgMember]; rfl)) ?_)
  refine wpAny_newObj_type (HotX.raiseNew_hot ⟨hh, o1, vs1, Heap.get?_push_of_some _ (Heap.get?_push_of_some _ g1), d1, c1⟩ (Nat.ne_of_lt (Heap.lt_size (Heap.get?_push_of_some _ g1))) (Heap.get?_push_size _ rfl) rfl (by first | (simp; done) | (simp; omega) | (simp only [Array.size_append]; simp; omega)) ?_) (by size_fits)
  refine hQ _ _ (fun b o hb e => ?_) ⟨_, Heap.get?_update_self _ (Heap.get?_push_size _ rfl) rfl, rfl⟩
  have q := Heap.get?_push_of_some { cls := Value.type "tuple", data := Data.seq ([] : List Value).toArray } (k b o hb e)
  rw [Heap.get?_update_other _ _ (Nat.ne_of_gt (Heap.lt_size q))]
  exact Heap.get?_push_of_some _ q
theorem list_end_hot {it l x1 : Addr} {i : Nat} {items} {Q : Option Value → Shared → Prop} (hot : HotX.HotAt A x1 s.heap) (ne : x1 ≠ it) (hit : s.heap.IsListIter it l i) (hl : s.heap.IsList l items) (hx : items[i]? = none)
    (hQ : ∀ h', (∀ b o, b ≠ it → s.heap.get? b = some o → h'.get? b = some o) → Q none { s with heap := h' }) : wpAny (model prog w) A (pyNext (.ref it)) Q E s := by
  obtain ⟨o, ho, hc, hd⟩ := id hit; obtain ⟨ol, hol, _, nl, hdl⟩ := hl; obtain ⟨hh, o1, vs1, g1, d1, c1⟩ := hot
  unfold pyNext
  refine wpAny_bind (wpAny_attempt (wpAny_callSpecial?_slot (name := Str.ofString "__next__") hit.typeIs slot_listiter_next (wpAny_call_entry slot_listiter_next hit.typeIs entry_listiter_next ?_ (args_listiter_next _))))
  show wpAny _ _ (field (.ref it) 0 >>= _) _ _ s; refine wpAny_bind (wpAny_field ho hd (x := .ref l) rfl ?_)
  show wpAny _ _ (if (Value.ref l == Value.none) = true then _ else _) _ _ s; rw [if_neg (show ¬ ((Value.ref l == Value.none) = true) from Bool.false_ne_true)]
  show wpAny _ _ (field (.ref it) 1 >>= _) _ _ s; refine wpAny_bind (wpAny_field ho hd (x := .int i 0) rfl ?_)
  show wpAny _ _ (seqItems? (.ref l) >>= _) _ _ s; refine wpAny_bind (wpAny_seqItems hol hdl ?_); simp only [Int.toNat_natCast, hx]
  refine wpAny_bind (wpAny_rule (wpAny_bind (wpAny_setField ho hd (by simp) ?_)))
  refine stop_hot (A' := A.in1) (h0 := s.heap) (it := it) ⟨hh, o1, vs1, (Heap.get?_update_other _ _ (Ne.symm ne)).trans g1, d1, c1⟩ (fun b o hb e => (Heap.get?_update_other _ _ (Ne.symm hb)).trans e) (fun h' a k ⟨oe, ge, ce⟩ => ?_)
  exact wpAny_bind (wpAny_isInstance (T := "StopIteration") (b := true) ⟨oe, ge, ce⟩ isSubtype_stop (wpAny_pure (hQ _ k)))
theorem tuple_end_hot {it t x1 : Addr} {i : Nat} {items} {Q : Option Value → Shared → Prop} (hot : HotX.HotAt A x1 s.heap) (ne : x1 ≠ it) (hit : IsTupIter s.heap it t i) (hl : IsTup s.heap t items) (hx : items[i]? = none)
    (hQ : ∀ h', (∀ b o, b ≠ it → s.heap.get? b = some o → h'.get? b = some o) → Q none { s with heap := h' }) : wpAny (model prog w) A (pyNext (.ref it)) Q E s := by
  obtain ⟨o, ho, hc, hd⟩ := id hit; obtain ⟨ol, hol, _, nl, hdl⟩ := hl; obtain ⟨hh, o1, vs1, g1, d1, c1⟩ := hot
  unfold pyNext
  refine wpAny_bind (wpAny_attempt (wpAny_callSpecial?_slot (name := Str.ofString "__next__") hit.typeIs slot_tupleiter_next (wpAny_call_entry slot_tupleiter_next hit.typeIs entry_tupleiter_next ?_ (args_tupleiter_next _))))
  show wpAny _ _ (field (.ref it) 0 >>= _) _ _ s; refine wpAny_bind (wpAny_field ho hd (x := .ref t) rfl ?_)
  show wpAny _ _ (if (Value.ref t == Value.none) = true then _ else _) _ _ s; rw [if_neg (show ¬ ((Value.ref t == Value.none) = true) from Bool.false_ne_true)]
  show wpAny _ _ (field (.ref it) 1 >>= _) _ _ s; refine wpAny_bind (wpAny_field ho hd (x := .int i 0) rfl ?_)
  show wpAny _ _ (seqItems? (.ref t) >>= _) _ _ s; refine wpAny_bind (wpAny_seqItems hol hdl ?_); simp only [Int.toNat_natCast, hx]
  refine wpAny_bind (wpAny_rule (wpAny_bind (wpAny_setField ho hd (by simp) ?_)))
  refine stop_hot (A' := A.in1) (h0 := s.heap) (it := it) ⟨hh, o1, vs1, (Heap.get?_update_other _ _ (Ne.symm ne)).trans g1, d1, c1⟩ (fun b o hb e => (Heap.get?_update_other _ _ (Ne.symm hb)).trans e) (fun h' a k ⟨oe, ge, ce⟩ => ?_)
  exact wpAny_bind (wpAny_isInstance (T := "StopIteration") (b := true) ⟨oe, ge, ce⟩ isSubtype_stop (wpAny_pure (hQ _ k)))
/-- a tuple unpacked where an exception is handled -/
theorem unpack_hot {t x1 : Addr} {items : Array Value} {Q : List Value → Shared → Prop} (hot : HotX.HotAt A x1 s.heap) (ht : IsTup s.heap t items)
    (hQ : ∀ h', (∀ b o, s.heap.get? b = some o → h'.get? b = some o) → Q items.toList { s with heap := h' }) : wpAny (model prog w) A (unpackItems (.ref t) items.size none) Q E s := by
  have hlt : t ≠ s.heap.objs.size := by obtain ⟨o, ho, _⟩ := ht; exact Nat.ne_of_lt (Heap.lt_size ho)
  obtain ⟨hh, o1, vs1, g1, d1, c1⟩ := hot
  unfold unpackItems
  refine wpAny_bind ?_
  unfold notIterableAtAll
  refine wpAny_bind (wpAny_specialOf ht.typeIs slot_tuple_iter.lookup (wpAny_pure ?_)); simp only [Bool.false_eq_true, if_false]
  refine wpAny_bind (wpAny_holding (iter_tuple ht ?_))
  refine wpAny_bind (wpAny_holding (draw_tuple hlt items.size 0 _ _ ⟨_, Heap.get?_push_size _ rfl, rfl, rfl⟩ (ht.push _) (by omega) fun ha hita hsa => ?_))
  rw [show List.take items.size (List.drop 0 items.toList) = items.toList from by rw [List.drop_zero]; exact List.take_of_length_le (by simp), if_neg (by simp)]
  have n1 : x1 ≠ s.heap.objs.size := Nat.ne_of_lt (Heap.lt_size g1)
  refine wpAny_bind (wpAny_holding (tuple_end_hot ⟨hh, o1, vs1, (hsa.2 x1 n1).trans (Heap.get?_push_of_some _ g1), d1, c1⟩ n1 hita ((ht.push _).extBut hsa.extBut hlt) (by simp) fun hb kb => ?_))
  simp only [Option.isSome_none, Bool.false_eq_true, if_false]
  refine wpAny_pure (hQ hb fun b o e => kb b o (Nat.ne_of_lt (Heap.lt_size e)) ((hsa.2 b (Nat.ne_of_lt (Heap.lt_size e))).trans (Heap.get?_push_of_some _ e)))
end
end Z
namespace Z
open PySem PySem.Spec PyProof.Rows L2
open Evl (Ex)
/-! ### a comprehension over a list where an exception is handled -/
/-- the block's context, with the pins of the def's -/
abbrev blkH (X : Cx) (s : Shared) (H : Hp) (scope : Scope) (ce : Env) (fp : List Addr) : Cx := { X.blk s H scope ce fp with pn := X.pn }
theorem Inv.toH {X : Cx} {s0 s : Shared} {H0 H : Hp} {scope : Scope} {ce : Env} {fp : List Addr} {σ : St} {pins : List (Addr × Obj)} (I : Inv (X.blk s0 H0 scope ce fp) [] σ H s)
    (h : ∀ p ∈ X.pn ++ pins, s.heap.get? p.1 = some p.2 ∧ H p.1 = none ∧ p.1 ≠ ce.locals ∧ p.1 ∉ frs X.stack ∧ ∀ v, p.2.data ≠ .cell v) : Inv (blkH X s0 H0 scope ce fp) pins σ H s :=
  ⟨⟨I.ok.mod, I.ok.kind, I.ok.glob, I.ok.blt, I.ok.above, I.ok.inj, I.ok.has, I.ok.cab, I.ok.hd, I.ok.frames, I.ok.stk, I.ok.exf, I.ok.bs, I.ok.bsz, I.ok.noex, I.ok.exfs, I.ok.funs, I.ok.frf⟩, I.os, I.bare, I.base, I.loc, I.cell, I.free, I.freeC, h, I.hok, I.len⟩
theorem Inv.fromH {X : Cx} {s0 s : Shared} {H0 H : Hp} {scope : Scope} {ce : Env} {fp : List Addr} {σ : St} {pins : List (Addr × Obj)} (I : Inv (blkH X s0 H0 scope ce fp) pins σ H s) : Inv (X.blk s0 H0 scope ce fp) pins σ H s :=
  ⟨⟨I.ok.mod, I.ok.kind, I.ok.glob, I.ok.blt, I.ok.above, I.ok.inj, I.ok.has, I.ok.cab, I.ok.hd, I.ok.frames, I.ok.stk, I.ok.exf, I.ok.bs, I.ok.bsz, I.ok.noex, I.ok.exfs, I.ok.funs, I.ok.frf⟩, I.os, I.bare, I.base, I.loc, I.cell, I.free, I.freeC, fun p hp => I.pin p (List.mem_append_right _ hp), I.hok, I.len⟩

/-- a list's iterator there -/
theorem turn_listH {P : Program} {w : World} {K : PySem.W.Frag} {tg : Expr} (a it : Addr) : L2H.TurnH P w K tg (Itl K a) [it] it (fun i h => h.IsListIter it a i) where
  mem := List.mem_singleton.mpr rfl
  obj := fun i h ⟨o, e, c, dd⟩ b hb => by obtain rfl := List.mem_singleton.mp hb; exact ⟨o, e, fun v z => by rw [dd] at z; cases z⟩
  keep := fun i h h' st k => st.at fun o e => k it (List.mem_singleton.mpr rfl) o e
  item := fun X hP hw hK hc i pins s σ H E I hf st hg => by
    subst hP hw hK
    obtain ⟨xs, x, hq, hx⟩ := hg; obtain ⟨its, rv, p, hz⟩ := I.list hq; obtain ⟨u, hu, ru⟩ := rv.get hx; obtain ⟨f0, f1, f2, f3, f4, f5⟩ := hf it (List.mem_singleton.mpr rfl)
    refine wpAny_pyNext_list_item st p.isList (x := u) (by simpa using hu) fun h' st' sb => ⟨u, rfl, ?_⟩
    obtain ⟨o, e, c, dd⟩ := id st'
    exact go_of (s := { s with heap := h' }) e c dd (by decide) ⟨x, H, I.turned (t' := s.toks) (fun b o hb z => (sb.2 b hb).trans z) f0 f1 f3 f4 f5, ru, ⟨rfl, fun ys hy => by rw [I.list_inj hy hq]; exact hx⟩, st', fun b hb => (hf b hb).1⟩
  done := fun X hP hw hK hc i pins s σ H E I hf st hg => by
    subst hP hw hK
    obtain ⟨xs, hq, hx⟩ := hg; obtain ⟨its, rv, p, hz⟩ := I.list hq; obtain ⟨f0, f1, f2, f3, f4, f5⟩ := hf it (List.mem_singleton.mpr rfl)
    obtain ⟨p1, hot, hm⟩ := hc
    have P1 := I.pin p1 (List.mem_append_left _ hm); obtain ⟨hh, vs, e1, c1⟩ := hot
    have hl := rv.length
    exact list_end_hot ⟨hh, _, vs, P1.1, e1, c1⟩ (f5 p1 (List.mem_append_left _ hm)) st p.isList (by simp; omega) fun h' k => ⟨rfl, I.turned (t' := s.toks) k f0 f1 f3 f4 f5⟩
  self := fun _ _ _ _ _ st h => wpAny_pyIter_listiter st h
theorem pi_listH {X : Cx} {tg l : Expr} : L2H.PIH X tg l (iList X.K (wE X l)) := by
  refine ⟨fun pins s σ H R I h => thn (h.run pins s I) fun v s1 ⟨x, H1, I1, r1, a, ex, ⟨xs, hq⟩, q⟩ => ?_⟩
  subst ex; obtain rfl : v = Value.ref a := r1
  obtain ⟨its, rv, p, hz⟩ := I1.list hq
  refine wpAny_pyIter_list p.isList ⟨s1.heap.objs.size, [s1.heap.objs.size], _, _, H1, rfl, I1.kept (t' := s1.toks) fun b o e => Heap.get?_push_of_some _ e, turn_listH a _, ⟨_, Heap.get?_push_size _ rfl, rfl, rfl⟩, fun b hb => ?_, q⟩
  obtain rfl := List.mem_singleton.mp hb
  exact I1.fpOk (Nat.le_refl _) (I1.hok.fresh (Nat.le_refl _))
section
variable {X : Cx} {σ : St} {H : Hp}
/-- the block of a comprehension, its last piece hRR as the library's -/
theorem lcH {pins : List (Addr × Obj)} {s : Shared} {Q : VK} {elt tg l : Expr} {ifs : List Expr} {scope : Scope} {own : List (Str × Nat)} {pos pos' : Pos} {wi : TI} {use : Option (Value → Sem Unit)} {Qf : Value → Shared → Prop} {p : Addr × Obj} {cls : Value} {d : Option Addr} {g : TG} {tt : TT} {te : TE} (hx : HX X p cls d)
    (hN : X.N.Nodup) (I : Inv X pins σ H s) (hi : L2H.PIH X tg l wi) (ok : BlkOk X.N X.env.scope scope own) (hs : ∀ x, foldedSetIterable l X.env x = pure x)
    (hg : ∀ (s : Shared) (H : Hp) (C : Addr) (cl : List (Str × Addr)) (fp : List Addr), PG (blkH X s H scope (compEnvC scope cl C X.env) fp) tg g ∧ PTs (blkH X s H scope (compEnvC scope cl C X.env) fp) ifs tt ∧ PE (blkH X s H scope (compEnvC scope cl C X.env) fp) elt te)
    (h : tLc wi g tt te (own.map (·.2)) σ H Q)
    (fin : ∀ L C s' m H', Inv X pins σ H' s' → Q (.ref L) H' → s'.heap.Ns C m → FpOk X pins H' C → compPost (model X.prog X.w) X.A X.xe use Qf (.ref L) C (.ok .next) s') :
    wpAny (model X.prog X.w) X.A (comprehension (.ListComp elt [⟨tg, l, ifs, 0⟩] scope pos) scope X.env pos' (newList []) false (eval l X.env) use) Qf X.xe s := by
  have hfr : ∀ y ∈ scope.names, y.2 = .free → ∃ c, X.env.cells.lookup y.1 = some c := fun z hz e => (ok.free z hz e).elim (fun k => I.ok.has _ (.inl k)) fun k => I.ok.has _ (.inr k)
  refine wpAny_comprehension_free (use := use) rfl hs (closure_ok hfr) ok.kind (fun z hz e => by rw [ok.uniq z hz, e]) (thn (hi.run pins s σ H _ I h) fun xv s1 hxv => thn hxv fun itv s2 hit => ?_)
  obtain ⟨it, fp, tn, J, H2, rfl, I2, T, st2, f2, q⟩ := hit
  refine wpAny_newObj_type (newEnv_comp ?_) (by show 0 ≤ sizeLine; decide)
  have hLn : H2 s2.heap.objs.size = none := I2.hok.fresh (Nat.le_refl _)
  obtain ⟨W, ⟨m0, w0⟩, turn⟩ := q _ hLn
  have I3 : Inv X pins σ (upd H2 s2.heap.objs.size (.lst [])) { s2 with heap := s2.heap.push { cls := .type "list", data := .seq ([] : List Value).toArray } } :=
    I2.laid (t' := s2.toks) (fun b o e => Heap.get?_push_of_some _ e) (Nat.le_refl _) ⟨Nat.zero_le _, [], 0, .nil, Heap.get?_push_size _ rfl⟩
  have szp : ∀ b ∈ fp, b < s2.heap.objs.size := fun b hb => by obtain ⟨o, e, _⟩ := T.obj _ _ st2 b hb; exact Heap.lt_size e
  have st3 : tn 0 (s2.heap.push { cls := .type "list", data := .seq ([] : List Value).toArray }) := T.keep _ _ _ st2 fun b _ o e => Heap.get?_push_of_some _ e
  generalize hL : s2.heap.objs.size = L at *
  generalize hs3 : ({ s2 with heap := s2.heap.push { cls := .type "list", data := .seq ([] : List Value).toArray } } : Shared) = s3 at I3
  have h3 : s2.heap.push { cls := .type "list", data := .seq ([] : List Value).toArray } = s3.heap := by rw [← hs3]
  have sz3 : s3.heap.objs.size = L + 1 := by rw [← hs3, ← hL]; exact Heap.size_push ..
  rw [h3] at st3
  have f3 : ∀ b ∈ fp, FpOk X pins (upd H2 L (.lst [])) b ∧ b < s3.heap.objs.size := fun b hb => ⟨⟨by rw [upd_ne (Nat.ne_of_lt (szp b hb))]; exact (f2 b hb).1, (f2 b hb).2⟩, by rw [sz3]; exact Nat.lt_succ_of_lt (szp b hb)⟩
  have I4 := block_start I3 ok hN f3
  obtain ⟨pg, pt, pe⟩ := hg s3 (upd H2 L (.lst [])) s3.heap.objs.size (cellsFrom (s3.heap.objs.size + 1) scope.names (cloFrom X.env.cells scope.names [])) fp
  show codeAny _ _ (.compStart _ 0 (.ref it) (.ref L) (compEnvC scope (cellsFrom (s3.heap.objs.size + 1) scope.names (cloFrom X.env.cells scope.names [])) s3.heap.objs.size X.env)) (compPost (model X.prog X.w) X.A X.xe use Qf (.ref L) s3.heap.objs.size) { s3 with heap := pushCells (s3.heap.push { cls := .type "dict", data := .dict #[] }) scope.names }
  generalize hce : compEnvC scope (cellsFrom (s3.heap.objs.size + 1) scope.names (cloFrom X.env.cells scope.names [])) s3.heap.objs.size X.env = ce at I4 pg pt pe ⊢
  have cL : ce.locals = s3.heap.objs.size := by subst hce; rfl
  generalize hH3 : upd H2 L (.lst []) = H3 at I3 I4 pg pt pe w0 f3
  have kp4 : ∀ b o, s3.heap.get? b = some o → (pushCells (s3.heap.push { cls := .type "dict", data := .dict #[] }) scope.names).get? b = some o := fun b o e => pushCells_keeps _ _ _ _ (Heap.get?_push_of_some _ e)
  generalize hs4 : ({ s3 with heap := pushCells (s3.heap.push { cls := .type "dict", data := .dict #[] }) scope.names } : Shared) = s4 at I4 ⊢
  have h4 : pushCells (s3.heap.push { cls := .type "dict", data := .dict #[] }) scope.names = s4.heap := by rw [← hs4]
  rw [h4] at kp4
  have st4 : tn 0 s4.heap := T.keep _ _ _ st3 fun b _ o e => kp4 b o e
  have pinB : ∀ p ∈ X.pn ++ [], s4.heap.get? p.1 = some p.2 ∧ H3 p.1 = none ∧ p.1 ≠ ce.locals ∧ p.1 ∉ frs X.stack ∧ ∀ v, p.2.data ≠ .cell v := fun p hp => by
    obtain ⟨e1, e2, e3, e4, e5⟩ := I3.pin p (List.mem_append_left _ (by rw [List.append_nil] at hp; exact hp))
    exact ⟨kp4 _ _ e1, e2, by rw [cL]; exact Nat.ne_of_lt (Heap.lt_size e1), fun hm => (List.mem_cons.mp (I3.stkSub _ hm)).elim e3 e4, e5⟩
  have I5 := Inv.toH I4 pinB
  have hxB : HX (blkH X s3 H3 scope ce fp) p cls d := ⟨hx.hot, hx.mem, hx.zn, hx.fl⟩
  have stat : ∀ {σ' : St} {H' : Hp} {s' : Shared}, Inv (blkH X s3 H3 scope ce fp) [] σ' H' s' → (∀ b ∈ fp, H' b = none) → ∀ b ∈ fp, FpOk (blkH X s3 H3 scope ce fp) [] H' b := fun {σ' H' s'} I' hn b hb =>
    ⟨hn b hb, (I'.ok.exf b hb).1, I'.ok.exfs b hb, .inl hb, fun x c e => (I'.ok.exf b hb).2 x c e, fun p hp => (f3 b hb).1.2.2.2.2.2 p (by rw [List.append_nil] at hp; exact List.mem_append_left _ hp)⟩
  have nfp : ∀ b ∈ fp, H3 b = none := fun b hb => (f3 b hb).1.1
  have loop : codeAny (model X.prog X.w) X.A (.compLoop (.ListComp elt [⟨tg, l, ifs, 0⟩] scope pos) 0 (.ref it) (.ref L) ce) (compPost (model X.prog X.w) X.A X.xe use Qf (.ref L) s3.heap.objs.size) s4 := by
    refine compLoop_any (fun n s' => ∃ i H', Inv (blkH X s3 H3 scope ce fp) [] (wipe σ (own.map (·.2))) H' s' ∧ (tn i s'.heap ∧ ∀ b ∈ fp, H' b = none) ∧ W i n H') (fun n s5 ⟨i, H5, J5, ⟨st5, n5⟩, w5⟩ => ?_) m0 ⟨0, H3, I5, ⟨st4, nfp⟩, w0⟩
    rcases turn i n H5 w5 with ⟨stop, qq⟩ | ⟨go, Nx, hNx, step⟩
    · refine thnF (T.done (blkH X s3 H3 scope ce fp) rfl rfl rfl hxB.hotC i [] s5 _ H5 (fun _ _ => False) J5 (stat J5 n5) st5 stop) fun r s6 ⟨hr, I6⟩ => ?_
      subst hr
      have I7 : Inv X pins σ H5 s6 := I3.call' (ch := fp) I6.os I6.base I6.hok I6.bare fun b hb => ⟨(f3 b hb).1.2.2.2.1, (f3 b hb).1.2.1, (f3 b hb).1.2.2.2.2.1, (f3 b hb).1.2.2.2.2.2⟩
      obtain ⟨m, hn, _⟩ := I6.loc; have nC : H5 ce.locals = none := I6.free
      rw [show (blkH X s3 H3 scope ce fp).env.locals = s3.heap.objs.size from cL] at hn; rw [cL] at nC
      exact fin L s3.heap.objs.size s6 m H5 I7 qq hn (I3.fpOk (Nat.le_refl _) nC)
    · refine thnF (T.item (blkH X s3 H3 scope ce fp) rfl rfl rfl hxB.hotC i [] s5 _ H5 (fun _ _ => False) J5 (stat J5 n5) st5 go) fun r s6 ⟨u, hr, h6⟩ => ?_
      subst hr
      refine thnF h6 fun _ s7 ⟨x, H7, I7, r7, y7, st7, n7⟩ => ?_
      refine thnF (pg.run _ s7 _ H7 x u _ (I7.pinned (stat I7 n7) (T.obj _ _ st7)) r7 (step x H7 y7)) fun _ s8 ⟨σ8, H8, I8, hw8, q8⟩ => thnF (pt.run _ s8 σ8 H8 _ I8 q8) fun b s9 ⟨H9, I9, q9⟩ => ?_
      have again : ∀ {s' : Shared} {H' : Hp}, Inv (blkH X s3 H3 scope ce fp) ([] ++ pinsAt fp s7.heap) σ8 H' s' → Nx H' → ∃ m, m < n ∧ ∃ i H', Inv (blkH X s3 H3 scope ce fp) [] (wipe σ (own.map (·.2))) H' s' ∧ (tn i s'.heap ∧ ∀ b ∈ fp, H' b = none) ∧ W i m H' := fun {s' H'} I' nx => by
        obtain ⟨m', hm, w'⟩ := hNx H' nx
        have pin' : ∀ b ∈ fp, ∀ o, s7.heap.get? b = some o → s'.heap.get? b = some o ∧ H' b = none := fun b hb o e => by have z := I'.pin (b, o) (List.mem_append_right _ (List.mem_append_right _ (mem_pinsAt hb e))); exact ⟨z.1, z.2.1⟩
        refine ⟨m', hm, i + 1, H', (I'.unpinned (pins := [])).weak (by rw [← hw8, wipe_length]) (fun j v e => by rw [← hw8] at e; exact (wipe_some e).1), ⟨T.keep _ _ _ st7 fun b hb o e => (pin' b hb o e).1, fun b hb => ?_⟩, w'⟩
        obtain ⟨o, e, _⟩ := T.obj _ _ st7 b hb; exact (pin' b hb o e).2
      cases b with
      | false => simp only [Bool.false_eq_true, if_false] at q9 ⊢; exact again I9 q9
      | true =>
        simp only [if_true] at q9 ⊢
        exact thnF (pe.run _ s9 σ8 H9 _ I9 q9) fun z s10 ⟨yv, H10, I10, r10, acc, hD10, hz10, nx⟩ => app_ok (X := blkH X s3 H3 scope ce fp) I10 hD10 hz10 r10 fun s11 I11 => again I11 nx
  exact codeAny_compStart_list loop (T.self X.A 0 _ _ _ st4 loop)
/-- name = [elt for tg in l if ..] there, on one row of the text -/
theorem slcH {i : Nat} {y : Str} {py : Pos} {elt tg l : Expr} {ifs : List Expr} {scope : Scope} {own : List (Str × Nat)} {pos spos : Pos} {D : Ends} {wi : TI} {p : Addr × Obj} {cls : Value} {d : Option Addr} {g : TG} {tt : TT} {te : TE} (hx : HX X p cls d) (hN : X.N.Nodup) (hy : X.N[i]? = some y) (hyl : X.env.scope.names.lookup y = some .local)
    (hsw : swapsWith (.ListComp elt [⟨tg, l, ifs, 0⟩] scope pos) (some (.Name y py)) spos.line X.env = pure true) (ok : BlkOk X.N X.env.scope scope own) (hi : L2H.PIH X tg l wi)
    (hg : ∀ (s : Shared) (H : Hp) (C : Addr) (cl : List (Str × Addr)) (fp : List Addr), PG (blkH X s H scope (compEnvC scope cl C X.env) fp) tg g ∧ PTs (blkH X s H scope (compEnvC scope cl C X.env) fp) ifs tt ∧ PE (blkH X s H scope (compEnvC scope cl C X.env) fp) elt te)
    (h2 : tLc wi g tt te (own.map (·.2)) σ H (fun x H1 => D.nx (σ.set i (some x)) H1))
    (hs : ∀ x, foldedSetIterable l X.env x = pure x := by intro _; rfl) : wS X (.Assign [.Name y py] (.ListComp elt [⟨tg, l, ifs, 0⟩] scope pos) spos) D σ H := by
  refine ⟨fun pins s I => ?_⟩
  rw [exec_Assign_Name_used _ _ _ _ hsw]; refine wpAny_bind (wpAny_standAt (wpAny_bind ?_))
  show wpAny _ X.A (do let _ ← comprehension (.ListComp elt [⟨tg, l, ifs, 0⟩] scope pos) scope X.env (firstIterPos [⟨tg, l, ifs, 0⟩] pos) (newList []) false (eval l X.env) (some (assign (.Name y py) X.env))) _ _ s
  refine wpAny_bind (thn (lcH (Qf := fun _ s' => SP X pins D .next s') hx hN I hi ok hs hg h2 fun L C s' m H' I' q hn f => ?_) fun _ s' hq => wpAny_pure (wpAny_pure hq))
  show wpAny _ _ (assign (.Name y py) X.env (.ref L)) _ _ _
  refine wpAny_assign_Name (store_ok2 (v := V.ref L) I' hN hy (.inl hyl) rfl (fun s2 I2 ⟨a, sb, ha⟩ => ?_) (.inr hyl))
  obtain ⟨f0, f1, f2, f3, f4, f5⟩ := f
  have haC : C ≠ a := ha.elim (fun z => by rw [z]; exact f1) fun z => fun e => f4 y a z e.symm
  exact ⟨m, hn.sameBut sb haC, fun h3 sb3 => ⟨_, H', I2.turned (t' := s2.toks) (fun b o hb e => (sb3.2 b hb).trans e) f0 f1 f3 f4 f5, q⟩⟩
end
end Z

set_option maxRecDepth 100000
set_option maxHeartbeats 4000000
namespace Z
open PySem PySem.Spec PyProof.Rows L2
open Evl (Ex)
section
variable {X : Cx} {σ : St} {H : Hp} {e a b c o : Expr} {es : List Expr} {st : Stmt} {sts : List Stmt} {pos pos' p p1 p2 apos : Pos} {Q : VK} {D : Ends} {W : WX} {q : Addr × Obj} {cls : Value} {dd : Option Addr}
/-! ### where an exception is handled: targets, isinstance, its fields, defs that take it -/
theorem gtupH {ts : List Expr} {k : Nat} {t : Addr} {xs : List V} {Q : St → Hp → Prop} (hx : HX X q cls dd) (hp : SqT X.K H t xs) (hl : xs.length = ts.length) (h : wGs X ts xs σ H Q) (hn : (assignEach ts X.env).length = ts.length := by rfl) (hst : (assignEach ts X.env).findIdx? (·.1) = none := by rfl) : wG X (.Tuple ts k pos) (.ref t) σ H Q := by
  refine ⟨fun pins s u I r => ?_⟩
  obtain rfl : u = Value.ref t := r
  obtain ⟨its, rv, ht, hz⟩ := I.tuple hp
  obtain ⟨x1, hot⟩ := hx.hotC.at I
  rw [assign_Tuple]; refine wpAny_bind (wpAny_standAt ?_)
  have hN : (assignEach ts X.env).length = its.toArray.size := by rw [hn, ← hl, rv.length]; simp
  unfold unpack; rw [hN, hst]
  exact wpAny_bind (wpAny_holding (unpack_hot hot ht fun h' k => h.run pins _ _ (I.kept (t' := s.toks) k) (by simpa using rv)))
/-- what a class must say so that isinstance asks its instances rightly, and their fields are read -/
structure XcC (K : PySem.W.Frag) (C : Addr) : Prop where
  is : ExcC K C
  fl : XfC K C
/-- its dict stands -/
def Xd (dd : Option Addr) (H : Hp) : Prop := ∀ d, dd = some d → ∃ fs, H d = some (.xd fs)
theorem kisE {c : V} {cv : Value} {C : Addr} {k : Bool} (hx : HX X q (.ref C) dd) (T : XcC X.K C) (hd : Xd dd H) (hc : ClsV c cv) (hk : PySem.W.kitOne X.K (.ref C) cv = some k) (h : Q (.bl k) H) : wK X (.builtin "isinstance") [.ref q.1, c] H Q := by
  refine ⟨fun pins s σ us I r => ?_⟩
  cases r with
  | cons rx rr =>
    cases rr with
    | cons rt rr =>
      cases rr; cases rx
      obtain rfl := hc.eq rt
      obtain ⟨hget, _⟩ := I.pin q (List.mem_append_left _ hx.mem)
      obtain ⟨vs, hv⟩ := hx.fl
      have hz := hx.zn
      cases dd with
      | none => exact PySem.W.kia_one (PySem.W.kitx_exc (od := none) (ox := q.2) (by obtain ⟨cd, hcd, _⟩ := PySem.W.any_some T.is.hd; rw [hcd]; rfl) T.is.hg T.is.hk T.is.hs T.is.ha T.is.hn T.is.ht T.is.hm) I.kIn ⟨hget, hz.1, by unfold PySem.W.notCls; rw [hv] <;> rfl, by rw [hz.2.1]; trivial⟩ hk (fun z => nomatch z) fun tk => ⟨.bl k, H, I.kept (t' := tk) fun _ _ z => z, rfl, h⟩
      | some d =>
        obtain ⟨fs, hfs⟩ := hd d rfl
        obtain ⟨mA, ⟨od, _, _, ho, _⟩, _⟩ : ObjOk X.prog X.w H s.heap d (.xd fs) := I.hok d _ hfs
        exact PySem.W.kia_one (PySem.W.kitx_exc (od := some od) (ox := q.2) (by obtain ⟨cd, hcd, _⟩ := PySem.W.any_some T.is.hd; rw [hcd]; rfl) T.is.hg T.is.hk T.is.hs T.is.ha T.is.hn T.is.ht T.is.hm) I.kIn ⟨hget, hz.1, by unfold PySem.W.notCls; rw [hv] <;> rfl, by rw [hz.2.1]; exact ho⟩ hk (fun z => nomatch z) fun tk => ⟨.bl k, H, I.kept (t' := tk) fun _ _ z => z, rfl, h⟩
/-- a field of the exception that is handled -/
theorem zfldE {C d : Addr} {f : Str} (hx : HX X q (.ref C) (some d)) (T : XcC X.K C) (hno : PySem.W.findIn X.K (.ref C) f = some none) (h : wE X e σ H fun x H1 => x = .ref q.1 ∧ ∃ fs v, H1 d = some (.xd fs) ∧ fs.lookup f = some v ∧ Q v H1)
    (hb : attributeBase e f X.env (eval e X.env) = eval e X.env := by rfl) : wE X (.Attribute e f pos) σ H Q := by
  refine ⟨fun pins s  I => ?_⟩
  refine attr_of hb (thn (h.run pins s I) fun u s1 ⟨x, H1, I1, rx, ex, fs, v, ea, l, qq⟩ => ?_)
  subst ex; obtain rfl : u = Value.ref q.1 := rx
  obtain ⟨vs, hv⟩ := hx.fl
  obtain ⟨mA, hns, hr⟩ : ObjOk X.prog X.w H1 s1.heap d (.xd fs) := I1.hok d _ ea
  obtain ⟨od, ho, hl⟩ := lookIn_ns hns
  obtain ⟨z, hz, rz⟩ := RelO.some_of (v := v) (o := mA f) (by rw [← l]; exact hr f)
  exact HandSPX.exc_get I1.kIn (od := some od) (ox := q.2) ⟨(I1.pin q (List.mem_append_left _ hx.mem)).1, hx.zn.1, by unfold PySem.W.notCls; rw [hv] <;> rfl, by rw [hx.zn.2.1]; exact ho⟩ T.fl.ga T.fl.gg T.fl.exC (PySem.W.findObj_own T.fl.hdC hno rfl (by rw [hl, hz])) (handed_of rz) ⟨v, H1, I1.tok _, rz, qq⟩
/-! ### a def that takes the handled exception -/
abbrev SpE := Value → Option Addr → Addr → List V → Hp → VK → Prop
structure FnE (P : Program) (w : World) (K : PySem.W.Frag) (mg : Str → Option Value) (base : Heap) (k : Nat) (f : Addr) (fd : FuncData) (ps : List Str) (sp : SpE) : Prop where
  len : ∀ cls d a vs H Q, sp cls d a vs H Q → vs.length = ps.length
  run : ∀ (A : Around) (outer : List Env) (s : Shared) (H : Hp) (args : Args) (us : List Value) (vs : List V) (Q : VK) (p : Addr × Obj) (cls : Value) (d : Option Addr), L2H.RoomH k A → L2H.Hot1 A p → L2N.Zn cls d p.2 → L2H.PinOk outer H s p → Env0 P w K mg base A outer s H → BindsTo s fd args (ps.zip us) → Vals vs us → sp cls d p.1 vs H Q →
    codeAny (model P w) A (.call (.ref f) args) (CR CX0 outer P w H s Q fun _ _ _ => False) s
theorem fnE_of {P : Program} {w : World} {K : PySem.W.Frag} {mg : Str → Option Value} {base : Heap} {k : Nat} {f : Addr} {fd : FuncData} {x qual : Str} {params : Arguments} {body : List Stmt} {scope : Scope} {dvs : List V} {kws : List (Str × V)} {N ps : List Str} {sp : SpE}
    (F : FunD K x qual params body scope dvs kws f fd) (S : FnScope N ps scope) (len : ∀ cls d a vs H Q, sp cls d a vs H Q → vs.length = ps.length)
    (hb : ∀ (cdv : Value) (A : Around) (outer : List Env) (s : Shared) (H : Hp) (vs : List V) (Q : VK) (p : Addr × Obj) (cls : Value) (d : Option Addr), HX (L2H.cxH CX0 P w K mg base N qual scope f cdv A outer s H (fun _ _ _ => False) p) p cls d → L2H.RoomH k (A.deeper (envOfC qual scope s.heap.objs.size f cdv)) → sp cls d p.1 vs H Q →
      wB (L2H.cxH CX0 P w K mg base N qual scope f cdv A outer s H (fun _ _ _ => False) p) body { nx := fun _ H' => Q .non H', rt := Q } (start N vs) H) : FnE P w K mg base (k + 1) f fd ps sp := by
  obtain ⟨oc, od, dV, kV, doc, pm, an, cdv, ct, osl, rfl, lk, hcd, _, _⟩ := F.ex
  refine ⟨len, fun A outer s H args us vs Q p cls d hr hot hz hpin e0 hbd r hsp => ?_⟩
  have KX : K.In s.heap := e0.mod.kin.keeps fun b o e => (e0.bs b o e).1
  have kinds : ∀ y ∈ ps.zip us, scope.names.lookup y.1 = some .local ∨ (scope.names.lookup y.1 = some .cell ∧ ((cellsFrom (s.heap.objs.size + 1) scope.names []).lookup y.1).isSome = true) := fun y hy =>
    (S.par y.1 (List.of_mem_zip (a := y.1) (b := y.2) hy).1).elim .inl fun z => .inr ⟨z, PySem.W.cellsFrom_some _ _ _ (.inl z)⟩
  refine codeAny_call_function hr.depth (KX _ _ lk) rfl S.co S.gen rfl (PySem.W.codeRec_of KX hcd) (hbd _ _ _ _ (wpAny_newFunctionEnv_cells S.kind kinds fun env he s1 xx => ?_))
  subst he
  refine ⟨(e0.mod.nolimit.keeps fun b o e => (e0.bs b o e).1).keeps xx.toInCall.keep, codeAny_func ?_⟩
  have hxx : HX (L2H.cxH CX0 P w K mg base N qual scope f cdv A outer s H (fun _ _ _ => False) p) p cls d := ⟨hot, List.mem_singleton.mpr rfl, hz, by obtain ⟨_, vs, e, _⟩ := hot; exact ⟨vs, e⟩⟩
  refine wpAny_mono ((hb cdv A outer s H vs Q p cls d hxx (hr.deeper _) hsp).run [] s1 (L2H.inv_startH S hpin e0 (len _ _ _ _ _ _ hsp) r xx)) (fun fl s' hs => ?_) fun er s' hs => hs
  cases fl with
  | ret u => obtain ⟨v, σ', H', J, rv, qq⟩ := hs; exact ⟨v, H', J.os, J.bare, J.base, J.hok, rv, qq⟩
  | next => obtain ⟨σ', H', J, qq⟩ := hs; exact ⟨V.non, H', J.os, J.bare, J.base, J.hok, rfl, qq⟩
  | brk => obtain ⟨_, _, _, z⟩ := hs; exact z.elim
  | cont => obtain ⟨_, _, _, z⟩ := hs; exact z.elim
def Ge (P : Program) (w : World) (K : PySem.W.Frag) (mg : Str → Option Value) (base : Heap) (k : Nat) (x : Str) (sp : SpE) : Prop :=
  ∃ (f : Addr) (fd : FuncData) (ps : List Str), mg x = some (.ref f) ∧ PySem.W.keepIn K (.ref f) = true ∧ Binds K fd ps [] ∧ FnE P w K mg base k f fd ps sp
theorem zcallE {x : Str} {k j : Nat} {sp : SpE} (F : Ge X.prog X.w X.K X.mg X.base k x sp) (hx : HX X q cls dd) (hr : L2H.RoomH j X.A) (hk : k ≤ j) (hg : Gl X x) (h : wA X (e :: es) σ H fun vs H1 => sp cls dd q.1 vs H1 Q)
    (hdb : (x == ("__debug__" : Str)) = false := by decide) (he : starEach (e :: es) X.env = (false, eval e X.env) :: starEach es X.env := by rfl) (hpl : (backTo pos (starEach es X.env)).any (·.1) = false := by rfl) : wE X (.Call (.Name x p) (e :: es) [] pos) σ H Q := by
  refine ⟨fun pins s  I => ?_⟩
  obtain ⟨f, fd, ps, hm, kp, hb, FF⟩ := F
  refine wpAny_Call_Name_kw (ld_glob I hg hm ?_ hdb)
  refine PySem.W.callWith_K (h₀ := X.base) I.ok.mod.kin kp (thn (h.run pos pins s I) fun us s1 ⟨vs, H1, I1, r, qq⟩ => ⟨I1.kIn, ?_⟩) he hpl
  have hl : (us ++ []).length = ps.length := by rw [List.append_nil]; exact r.length.symm.trans (FF.len _ _ _ _ _ _ qq)
  have b := hb s1 us I1.kIn hl
  rw [List.append_nil] at b
  have P1 := I1.pin q (List.mem_append_left _ hx.mem)
  refine wpAny_call (codeAny_mono (FF.run X.A X.stack s1 H1 ⟨us, []⟩ us vs Q q cls dd (hr.mono hk) hx.hot hx.zn ⟨P1.1, P1.2.1, fun hm => (List.mem_cons.mp (I1.stkSub q.1 hm)).elim P1.2.2.1 P1.2.2.2.1, P1.2.2.2.2⟩ I1.env0 b r qq) fun z s' hq => ?_)
  cases z with
  | error er => exact hq.elim
  | ok fl =>
    cases fl with
    | ret u => exact I1.after hq
    | next => exact hq.elim
    | brk => exact hq.elim
    | cont => exact hq.elim
/-! ### an own exception class with an __init__ -/
theorem sost {f : Str} (h : wE X e σ H fun y H1 => wE X o σ H1 fun x H2 => ∃ a C : Addr, x = .ref a ∧ OexC X.K C ∧ PySem.W.findIn X.K (.ref C) f = some none ∧
      ((H2 a = some (exo a C none) ∧ ∀ dx, H2 dx = none → dx ≠ a → D.nx σ (upd (upd H2 dx (exd dx [(f, y)])) a (exo a C (some dx)))) ∨
        ∃ (dx : Addr) (fs : List (Str × V)), H2 a = some (exo a C (some dx)) ∧ H2 dx = some (exd dx fs) ∧ fs.length ≤ 900 ∧ D.nx σ (upd H2 dx (exd dx ((f, y) :: fs)))))
    (hs : swapsWith e (some (.Attribute o f p')) pos.line X.env = pure false := by rfl) : wS X (.Assign [.Attribute o f p'] e pos) D σ H := ofS (ps_ost sE sE hs) h
/-- C(e, ..) -/
theorem moex {x : Str} {C fI : Addr} {k j : Nat} {fd : FuncData} {ps : List Str} {sp : Sp} {Q : XK} (T : OexC X.K C) (iC : PySem.W.findIn X.K (.ref C) "__init__" = some (some (.ref fI))) (tI : PySem.W.typeIn X.K (.ref fI) = some (.type "function"))
    (F1 : FnOk X.prog X.w X.K X.mg X.base CX0 k fI fd ps sp) (hb : Binds X.K fd ps []) (hr : Room j X.A) (hk : k + 1 ≤ j) (hg : Gl X x) (hm : X.mg x = some (.ref C)) (h : tMkO C sp [] (wA X (e :: es)) σ H Q)
    (hdb : (x == ("__debug__" : Str)) = false := by decide) (he : starEach (e :: es) X.env = (false, eval e X.env) :: starEach es X.env := by rfl) (hpl : (backTo pos (starEach es X.env)).any (·.1) = false := by rfl) : wM X (.Call (.Name x p) (e :: es) [] pos) σ H Q := by
  refine ⟨fun pins s  I => ?_⟩
  obtain ⟨nm, qn, N, bs, bm, sn, sub, ab, col, dd', k0, k1, k2, k3, k5, hC, hbm⟩ := T.cls
  refine wpAny_Call_Name_kw (ld_glob I hg hm ?_ hdb)
  refine PySem.W.callWith_K (h₀ := X.base) I.ok.mod.kin T.kC (thn (h.run pos pins s I) fun us s1 ⟨vs, H1, I1, r1, hz, q1⟩ => ⟨I1.kIn, ?_⟩) he hpl
  show wpAny _ _ (call (.ref C) us) _ _ _
  obtain ⟨hp, g, dr, tk, os⟩ := s1
  have hsz : hp.objs.size ≤ hp.objs.size + 1 := Nat.le_succ _
  have hq := q1 (hp.objs.size + 1) (I1.hok.fresh hsz)
  rw [List.append_nil] at hq
  generalize hup : (hp.push (PySem.W.kdv_tup us)).push (PySem.HandSPX.excO C hp.objs.size) = hp2
  have kk : ∀ b o, hp.get? b = some o → hp2.get? b = some o := fun b o e => by rw [← hup]; exact Heap.get?_push_of_some _ (Heap.get?_push_of_some _ e)
  have hget : hp2.get? (hp.objs.size + 1) = some (PySem.HandSPX.excO C hp.objs.size) := by rw [← hup]; heap_get
  have I2 : Inv X pins σ (upd H1 (hp.objs.size + 1) (exo (hp.objs.size + 1) C none)) ⟨hp2, g, dr, tk, os⟩ := I1.laid (t' := tk) (a := hp.objs.size + 1) (o := exo (hp.objs.size + 1) C none) (h' := hp2) kk hsz (exo_ok hget)
  have r2 : Vals (V.ref (hp.objs.size + 1) :: vs) (Value.ref (hp.objs.size + 1) :: us) := .cons rfl r1
  have hl : ((Value.ref (hp.objs.size + 1) :: us) ++ []).length = ps.length := by rw [List.append_nil, ← r2.length]; exact F1.len _ _ _ _ hq
  have b2 := hb _ (Value.ref (hp.objs.size + 1) :: us) I2.kIn hl
  rw [List.append_nil] at b2
  have hus : us.length ≤ sizeLine := by rw [← Paired.length r1, sizeLine_eq]; omega
  refine wpAny_call (PySem.HandSPX.call_own F.excBase_ValueError (fun Y => PySem.HandSPX.refsVE_contains Y bm hbm) (I1.kIn _ _ hC) (PySem.W.looks_findIn I1.kIn iC) (fun self => PySem.W.bind_fn I1.kIn self tI) hus ?_)
  rw [hup]
  refine codeAny_mono (F1.run _ X.stack _ _ ⟨Value.ref (hp.objs.size + 1) :: us, []⟩ (Value.ref (hp.objs.size + 1) :: us) _ _ (fun _ _ _ => False) ((hr.mono hk).make C us []) (I2.env0.make C us []) b2 r2 hq) fun z s' hq' => ?_
  cases z with
  | error er => exact hq'.elim
  | ok fl =>
    cases fl with
    | ret u =>
      obtain ⟨v, H2, os2, bare2, un2, hok2, rv, ev, d, fs, ea, ed, hd1, q2⟩ := hq'
      subst ev
      obtain ⟨h2, g2, d2, t2, os'⟩ := s'
      obtain ⟨t0, G, J, kG, ge, hoe, na⟩ := mk_end0 (d2 := d2) (t2 := t2) I1 hsz kk un2 hok2 os2 bare2 ea ed hd1
      exact ⟨rv, hp.objs.size + 1, _, _, ⟨G, g2, d2, t2, os'⟩, _, .ref C, some d, rfl, J, kG, ge, hoe, ⟨rfl, rfl, fun vs hv => by cases hv; rfl⟩, rfl, rfl, na, rfl, bare2, raises_own T.exC T.tyC, q2⟩
    | next => exact hq'.elim
    | brk => exact hq'.elim
    | cont => exact hq'.elim
end
end Z

set_option maxRecDepth 100000
set_option maxHeartbeats 4000000
namespace Z
open PySem PySem.Spec PyProof.Rows L2
open Evl (Ex)
/-! ### facts of the written part, by names -/
def oexB (K : PySem.W.Frag) (C : Addr) : Bool := match K.lookup C with
  | some ⟨.type "type", _, .cls cd, sl⟩ => (match cd.mro, sl.toList with
    | .ref C' :: bm, [_, _, _, _, some (.builtin n), _] => decide (C' = C) && (decide (n = "ValueError.__new__") && (!cd.hasDel && (cd.hasDict && PySem.HandSPX.refsVE bm)))
    | _, _ => false)
  | _ => false
theorem oexB_ok {K : PySem.W.Frag} {C : Addr} (h : oexB K C = true) : ∃ nm q N bs bm sn sub ab col dd k0 k1 k2 k3 k5, K.lookup C = some (excClassObj nm q C N bs bm true sn sub ab col dd k0 k1 k2 k3 k5 "ValueError.__new__") ∧ PySem.HandSPX.refsVE bm = true := by
  unfold oexB at h
  split at h
  · rename_i dd cd sl ho
    split at h
    · rename_i C' bm k0 k1 k2 k3 n k5 hm hs
      simp only [Bool.and_eq_true, decide_eq_true_eq, Bool.not_eq_true'] at h
      obtain ⟨rfl, rfl, hdel, hdict, hb⟩ := h
      obtain ⟨nm, bs, mro, ns, qn, hd, sn, sub, ab, col, del⟩ := cd
      dsimp only at hm hdel hdict; subst hm hdel hdict
      obtain ⟨l⟩ := sl; dsimp only at hs; subst hs
      exact ⟨nm, qn, ns, bs, bm, sn, sub, ab, col, dd, k0, k1, k2, k3, k5, ho, hb⟩
    · cases h
  · cases h
/-- what may be asked of classes: their kin (isinstance, except), an exception with fields, one without, what isinstance and reads of it ask -/
inductive Fz where
  | kit (x y : Str) (b : Bool)
  | kitT (x : Str) (t : String) (b : Bool)
  | kTO (t : String) (y : Str) (b : Bool)
  | oex (x : Str)
  | noa (x f : Str)
  | xc (x : Str)
  | cls (x : Str)
  | fnd (x m : Str) (p : Str × Option Str)
  | ins (x : Str)
  | mk (x : Str) (p : Str × Option Str)
  | mk0 (x : Str)
def Fz.ok (K : PySem.W.Frag) : Fz → Bool
  | .kit x y b => decide (PySem.W.kitOne K (.ref (He.ga K x)) (.ref (He.ga K y)) = some b)
  | .kitT x t b => decide (PySem.W.kitOne K (.ref (He.ga K x)) (.type t) = some b)
  | .kTO t y b => decide (PySem.W.kitOne K (.type t) (.ref (He.ga K y)) = some b)
  | .oex x => oexB K (He.ga K x) && (He.eqO (PySem.W.findIn K (.ref (He.ga K x)) "__setattr__") (some (some (.builtin "object.__setattr__"))) && (decide (PySem.W.subIn K (.ref (He.ga K x)) (.type "BaseException") = some true) && (decide (PySem.W.typeIn K (.ref (He.ga K x)) = some (.type "type")) &&
      (PySem.W.keepIn K (.ref (He.ga K x)) && (He.eqO (PySem.W.findIn K (.ref (He.ga K x)) "__init__") (some (some (.ref (He.ma K (He.ga K x) "__init__")))) && decide (PySem.W.typeIn K (.ref (He.ma K (He.ga K x) "__init__")) = some (.type "function")))))))
  | .noa x f => He.eqO (PySem.W.findIn K (.ref (He.ga K x)) f) (some none)
  | .xc x => xfB K (He.ga K x) && (He.eqO (PySem.W.findIn K (.ref (He.ga K x)) "__class__") (some (some (.builtin "object.__class__"))) && (decide (PySem.W.specialIn K (.builtin "object.__class__") "__get__" = some (some (.builtin "getset_descriptor.__get__"))) &&
      (decide (PySem.W.takesIn K (.builtin "object.__class__") = some true) && decide (PySem.W.mroIn K (He.ga K x) (.type "object") = some true))))
  | .cls x => (match PySem.W.typeIn K (.ref (He.ga K x)) with | some (.type "type") => true | _ => false)
  | .fnd x m p => He.eqO (PySem.W.findIn K (.ref (He.ga K x)) m) (some (some (.ref (He.fAd K p)))) && (PySem.W.isFn K (.ref (He.fAd K p)) && PySem.W.keepIn K (.ref (He.fAd K p)))
  | .ins x => PySem.W.plainGet K (He.ga K x) Str.empty && (PySem.W.hasDictIn K (He.ga K x) && (PySem.W.plainOver K (He.ga K x) && (He.eqO (PySem.W.findIn K (.ref (He.ga K x)) "__setattr__") (some (some (.builtin "object.__setattr__"))) &&
      (He.eqO (PySem.W.findIn K (.ref (He.ga K x)) "__class__") (some (some (.builtin "object.__class__"))) && (decide (PySem.W.specialIn K (.builtin "object.__class__") "__get__" = some (some (.builtin "getset_descriptor.__get__"))) &&
      (decide (PySem.W.takesIn K (.builtin "object.__class__") = some true) && decide (PySem.W.mroIn K (He.ga K x) (.type "object") = some true)))))))
  | .mk x p => PySem.W.makesIn K (He.ga K x) && (He.eqO (PySem.W.findIn K (.ref (He.ga K x)) "__init__") (some (some (.ref (He.fAd K p)))) && (PySem.W.isFn K (.ref (He.fAd K p)) && PySem.W.keepIn K (.ref (He.ga K x))))
  | .mk0 x => PySem.W.makesIn K (He.ga K x) && (He.eqO (PySem.W.findIn K (.ref (He.ga K x)) "__init__") (some (some (.builtin "object.__init__"))) && PySem.W.keepIn K (.ref (He.ga K x)))
/-- an own class of plain instances -/
structure InsK (K : PySem.W.Frag) (C : Addr) : Prop where
  cl : Cls K C
  ha : PySem.W.findIn K (.ref C) "__class__" = some (some (.builtin "object.__class__"))
  hn : PySem.W.specialIn K (.builtin "object.__class__") "__get__" = some (some (.builtin "getset_descriptor.__get__"))
  ht : PySem.W.takesIn K (.builtin "object.__class__") = some true
  hm : PySem.W.mroIn K C (.type "object") = some true
theorem InsK.ty {K : PySem.W.Frag} {C a dx : Addr} {fs : List (Str × V)} {H : Hp} (h : InsK K C) (e : H a = some (.ins C dx fs)) : TyX K H (.ref a) (.ref C) := .base (.ins e h.cl h.ha h.hn h.ht h.hm)
/-- a class without an own __init__ -/
structure Mk0 (K : PySem.W.Frag) (C : Addr) : Prop where
  makes : PySem.W.makesIn K C = true
  init : PySem.W.findIn K (.ref C) "__init__" = some (some (.builtin "object.__init__"))
  kp : PySem.W.keepIn K (.ref C) = true
section
variable {K : PySem.W.Frag} {x : Str}
theorem kit_ok {y : Str} {b : Bool} (h : (Fz.kit x y b).ok K = true) : PySem.W.kitOne K (.ref (He.ga K x)) (.ref (He.ga K y)) = some b := of_decide_eq_true h
theorem kitT_ok {t : String} {b : Bool} (h : (Fz.kitT x t b).ok K = true) : PySem.W.kitOne K (.ref (He.ga K x)) (.type t) = some b := of_decide_eq_true h
theorem kTO_ok {y : Str} {t : String} {b : Bool} (h : (Fz.kTO t y b).ok K = true) : PySem.W.kitOne K (.type t) (.ref (He.ga K y)) = some b := of_decide_eq_true h
theorem noa_ok {f : Str} (h : (Fz.noa x f).ok K = true) : PySem.W.findIn K (.ref (He.ga K x)) f = some none := He.eqO_ok h
theorem fnd_ok {m : Str} {p : Str × Option Str} (h : (Fz.fnd x m p).ok K = true) : Meth K (He.ga K x) m (He.fAd K p) := by
  obtain ⟨h1, h⟩ := He.ba h; obtain ⟨h2, h3⟩ := He.ba h
  exact ⟨He.eqO_ok h1, h2, h3⟩
theorem ins_ok (h : (Fz.ins x).ok K = true) : InsK K (He.ga K x) := by
  obtain ⟨h1, h⟩ := He.ba h; obtain ⟨h2, h⟩ := He.ba h; obtain ⟨h3, h⟩ := He.ba h; obtain ⟨h4, h⟩ := He.ba h; obtain ⟨h5, h⟩ := He.ba h; obtain ⟨h6, h⟩ := He.ba h; obtain ⟨h7, h8⟩ := He.ba h
  exact ⟨⟨h1, h2, h3, He.eqO_ok h4⟩, He.eqO_ok h5, of_decide_eq_true h6, of_decide_eq_true h7, of_decide_eq_true h8⟩
theorem mk_ok {p : Str × Option Str} (h : (Fz.mk x p).ok K = true) : Mk K (He.ga K x) (He.fAd K p) := by
  obtain ⟨h1, h⟩ := He.ba h; obtain ⟨h2, h⟩ := He.ba h; obtain ⟨h3, h4⟩ := He.ba h
  exact ⟨h1, He.eqO_ok h2, h3, h4⟩
theorem mk0_ok (h : (Fz.mk0 x).ok K = true) : Mk0 K (He.ga K x) := by
  obtain ⟨h1, h⟩ := He.ba h; obtain ⟨h2, h3⟩ := He.ba h
  exact ⟨h1, He.eqO_ok h2, h3⟩
/-- an own exception class with an __init__ -/
structure OxC (K : PySem.W.Frag) (C fI : Addr) : Prop where
  o : OexC K C
  i : PySem.W.findIn K (.ref C) "__init__" = some (some (.ref fI))
  t : PySem.W.typeIn K (.ref fI) = some (.type "function")
theorem oex_ok (h : (Fz.oex x).ok K = true) : OxC K (He.ga K x) (He.ma K (He.ga K x) "__init__") := by
  obtain ⟨h1, h⟩ := He.ba h; obtain ⟨h2, h⟩ := He.ba h; obtain ⟨h3, h⟩ := He.ba h; obtain ⟨h4, h⟩ := He.ba h; obtain ⟨h5, h⟩ := He.ba h; obtain ⟨h6, h7⟩ := He.ba h
  exact ⟨⟨oexB_ok h1, He.eqO_ok h2, of_decide_eq_true h3, of_decide_eq_true h4, h5⟩, He.eqO_ok h6, of_decide_eq_true h7⟩
theorem xc_ok (h : (Fz.xc x).ok K = true) : XcC K (He.ga K x) := by
  obtain ⟨h1, h⟩ := He.ba h; obtain ⟨h2, h⟩ := He.ba h; obtain ⟨h3, h⟩ := He.ba h; obtain ⟨h4, h5⟩ := He.ba h
  have T := xfB_ok h1
  exact ⟨⟨T.ga, T.gg, T.exC, T.hdC, He.eqO_ok h2, of_decide_eq_true h3, of_decide_eq_true h4, of_decide_eq_true h5⟩, T⟩
end
theorem more_of {K : PySem.W.Frag} {fz : List Fz} (h : (fz.all fun f => f.ok K) = true) (i : Nat) {f : Fz} (e : fz[i]? = some f := by rfl) : f.ok K = true := List.all_eq_true.mp h f (List.mem_of_getElem? e)
/-! ### a def of the text keeps its promise -/
section
variable {P : Program} {w : World} {K : PySem.W.Frag} {mg : Str → Option Value} {base : Heap}
/-- the context of a def's body -/
abbrev cx (P : Program) (w : World) (K : PySem.W.Frag) (mg : Str → Option Value) (base : Heap) (N : List Str) (qual : Str) (scope : Scope) (f : Addr) (cd : Value) (A : Around) (outer : List Env) (s : Shared) (H : Hp) (E : XK) : Cx := cxOf (L2N.CX P w) P w K mg base N qual scope f cd A outer s H E
theorem fn_mk {x qual : Str} {params : Arguments} {body : List Stmt} {scope : Scope} {dvs : List V} {kws : List (Str × V)} {f : Addr} {fd : FuncData} {N ps : List Str} {k : Nat} {sp : Sp} (F : FunD K x qual params body scope dvs kws f fd) (S : FnScope N ps scope) (len : ∀ vs H Q E, sp vs H Q E → vs.length = ps.length)
    (hb : ∀ (cd : Value) (A : Around) (outer : List Env) (s : Shared) (H : Hp) (vs : List V) (Q : VK) (E : XK), Room k (cx P w K mg base N qual scope f cd A outer s H E).A → L2N.Takes (cx P w K mg base N qual scope f cd A outer s H E) (fun cls d _ H' => E cls d H') →
      PassesOwn (model P w) (cx P w K mg base N qual scope f cd A outer s H E).A (cx P w K mg base N qual scope f cd A outer s H E).env (cx P w K mg base N qual scope f cd A outer s H E).xe → sp vs H Q E →
      wB (cx P w K mg base N qual scope f cd A outer s H E) body { nx := fun _ H' => Q .non H', rt := Q } (start N vs) H) : FnOk P w K mg base (L2N.CX P w) (k + 1) f fd ps sp :=
  F.ok S len fun cd A outer s H vs Q E hr h => ⟨_, sB, hb cd A outer s H vs Q E hr (L2N.takes_of rfl rfl rfl rfl) (passes_of rfl) h⟩
/-- .. a def from which nothing is let out (an __init__ of an exception) -/
theorem fn_mk0 {x qual : Str} {params : Arguments} {body : List Stmt} {scope : Scope} {dvs : List V} {kws : List (Str × V)} {f : Addr} {fd : FuncData} {N ps : List Str} {k : Nat} {sp : Sp} (F : FunD K x qual params body scope dvs kws f fd) (S : FnScope N ps scope) (len : ∀ vs H Q E, sp vs H Q E → vs.length = ps.length)
    (hb : ∀ (cd : Value) (A : Around) (outer : List Env) (s : Shared) (H : Hp) (vs : List V) (Q : VK) (E : XK), Room k (cxOf CX0 P w K mg base N qual scope f cd A outer s H E).A → sp vs H Q E →
      wB (cxOf CX0 P w K mg base N qual scope f cd A outer s H E) body { nx := fun _ H' => Q .non H', rt := Q } (start N vs) H) : FnOk P w K mg base CX0 (k + 1) f fd ps sp :=
  F.ok S len fun cd A outer s H vs Q E hr h => ⟨_, sB, hb cd A outer s H vs Q E hr h⟩
theorem gf_mk {x : Str} {params : Arguments} {body : List Stmt} {scope : Scope} {f : Addr} {ps : List Str} {k : Nat} {sp : Sp} (hF : ∃ fd, FunD K x x params body scope [] [] f fd) (hm : mg x = some (.ref f))
    (hbind : ∀ (kV doc pm : Value) (an : Option Addr) (cdv ct : Value) (us : List Value), us.length = ps.length → bindArgs (PySem.W.fnOf x x params body scope .none kV doc pm an cdv ct) ⟨us, []⟩ = pure (ps.zip us))
    (ok : ∀ fd, FunD K x x params body scope [] [] f fd → FnOk P w K mg base (L2N.CX P w) k f fd ps sp) : Gf P w K mg base k x [] sp := by
  obtain ⟨fd, F⟩ := hF
  exact ⟨f, fd, ps, [], hm, F.kp, F.bindsN hbind, .nil, ok fd F⟩
theorem ge_mk {x : Str} {params : Arguments} {body : List Stmt} {scope : Scope} {f : Addr} {ps : List Str} {k : Nat} {sp : SpE} (hF : ∃ fd, FunD K x x params body scope [] [] f fd) (hm : mg x = some (.ref f))
    (hbind : ∀ (kV doc pm : Value) (an : Option Addr) (cdv ct : Value) (us : List Value), us.length = ps.length → bindArgs (PySem.W.fnOf x x params body scope .none kV doc pm an cdv ct) ⟨us, []⟩ = pure (ps.zip us))
    (ok : ∀ fd, FunD K x x params body scope [] [] f fd → FnE P w K mg base k f fd ps sp) : Ge P w K mg base k x sp := by
  obtain ⟨fd, F⟩ := hF
  exact ⟨f, fd, ps, hm, F.kp, F.bindsN hbind, ok fd F⟩
end
/-! ### an exception of an own class with fields -/
/-- __init__(self, a): self.f = a -/
def spI1 (C : Addr) (f : Str) : Sp := fun vs H Q _ => ∃ (a : Addr) (y : V), vs = [.ref a, y] ∧ H a = some (exo a C none) ∧ ∀ dx, H dx = none → dx ≠ a → Q .non (upd (upd H dx (exd dx [(f, y)])) a (exo a C (some dx)))
/-- __init__(self, a, b): self.f = a; self.g = b -/
def spI2 (C : Addr) (f g : Str) : Sp := fun vs H Q _ => ∃ (a : Addr) (y z : V), vs = [.ref a, y, z] ∧ H a = some (exo a C none) ∧ ∀ dx, H dx = none → dx ≠ a → Q .non (upd (upd (upd H dx (exd dx [(f, y)])) a (exo a C (some dx))) dx (exd dx [(g, z), (f, y)]))
section
variable {X : Cx} {σ : St} {H : Hp} {e : Expr} {es : List Expr} {p pos : Pos}
theorem Xd.ex {H1 H2 : Hp} {a d : Addr} {fs : List (Str × V)} {o1 : HO} (ha : H1 a = none) (hd : H1 d = none) (k : ∀ b, b ≠ a → b ≠ d → H2 b = H1 b) : Ex H1 (upd (del H2 a) d (.xd fs)) := fun b o e => by
  have n1 : b ≠ a := fun z => by rw [z, ha] at e; cases e
  have n2 : b ≠ d := fun z => by rw [z, hd] at e; cases e
  rw [upd_ne n2, del_ne n1, k b n1 n2]; exact e
theorem moex1 {x f : Str} {C fI : Addr} {k j : Nat} {fd : FuncData} {ps : List Str} {Q : XK} (T : OxC X.K C fI) (F1 : FnOk X.prog X.w X.K X.mg X.base CX0 k fI fd ps (spI1 C f)) (hb : Binds X.K fd ps []) (hm : X.mg x = some (.ref C)) (hr : Room j X.A) (hk : k + 1 ≤ j) (hg : Gl X x)
    (h : wA X (e :: es) σ H fun vs H1 => ∃ y, vs = [y] ∧ ∀ d H', H1 d = none → Ex H1 H' → H' d = some (.xd [(f, y)]) → Q (.ref C) (some d) H')
    (hdb : (x == ("__debug__" : Str)) = false := by decide) (he : starEach (e :: es) X.env = (false, eval e X.env) :: starEach es X.env := by rfl) (hpl : (backTo pos (starEach es X.env)).any (·.1) = false := by rfl) : wM X (.Call (.Name x p) (e :: es) [] pos) σ H Q := by
  refine moex T.o T.i T.t F1 hb hr hk hg hm ?_ hdb he hpl
  refine ⟨fun ps' pins s I => thn (h.run ps' pins s I) fun us s' ⟨vs, H1, J, r, y, ev, q⟩ => ⟨vs, H1, J, r, by rw [ev]; simp, fun a ha => ?_⟩⟩
  subst ev
  refine ⟨a, y, rfl, upd_same, fun dx hd hda => ⟨rfl, dx, [(f, y)], upd_same, by rw [upd_ne hda, upd_same], ?_, ?_⟩⟩
  · rw [upd_ne hda] at hd; exact hd
  · rw [upd_ne hda] at hd
    refine q dx _ hd (Xd.ex (o1 := .lst []) ha hd fun b n1 n2 => ?_) upd_same
    rw [upd_ne n1, upd_ne n2, upd_ne n1]
theorem moex2 {x f g : Str} {C fI : Addr} {k j : Nat} {fd : FuncData} {ps : List Str} {Q : XK} (T : OxC X.K C fI) (F1 : FnOk X.prog X.w X.K X.mg X.base CX0 k fI fd ps (spI2 C f g)) (hb : Binds X.K fd ps []) (hm : X.mg x = some (.ref C)) (hr : Room j X.A) (hk : k + 1 ≤ j) (hg : Gl X x)
    (h : wA X (e :: es) σ H fun vs H1 => ∃ y z, vs = [y, z] ∧ ∀ d H', H1 d = none → Ex H1 H' → H' d = some (.xd [(g, z), (f, y)]) → Q (.ref C) (some d) H')
    (hdb : (x == ("__debug__" : Str)) = false := by decide) (he : starEach (e :: es) X.env = (false, eval e X.env) :: starEach es X.env := by rfl) (hpl : (backTo pos (starEach es X.env)).any (·.1) = false := by rfl) : wM X (.Call (.Name x p) (e :: es) [] pos) σ H Q := by
  refine moex T.o T.i T.t F1 hb hr hk hg hm ?_ hdb he hpl
  refine ⟨fun ps' pins s I => thn (h.run ps' pins s I) fun us s' ⟨vs, H1, J, r, y, z, ev, q⟩ => ⟨vs, H1, J, r, by rw [ev]; simp, fun a ha => ?_⟩⟩
  subst ev
  refine ⟨a, y, z, rfl, upd_same, fun dx hd hda => ⟨rfl, dx, [(g, z), (f, y)], by rw [upd_ne (Ne.symm hda), upd_same], upd_same, ?_, ?_⟩⟩
  · rw [upd_ne hda] at hd; exact hd
  · rw [upd_ne hda] at hd
    refine q dx _ hd (Xd.ex (o1 := .lst []) ha hd fun b n1 n2 => ?_) upd_same
    rw [upd_ne n2, upd_ne n1, upd_ne n2, upd_ne n1]
end
end Z

set_option maxRecDepth 100000
set_option maxHeartbeats 4000000
namespace K07
open PySem PySem.Spec PyProof.Rows L2 Z
/-! ### the text by places -/
def top (i : Nat) : Stmt := PySem.Challenge.pw_formkin_k07_kinds.main.body.getD i (.Pass ⟨0, 0, 0, 0⟩)
abbrev s_is_whole : Stmt := top 1
abbrev N_is_whole : List Str := ["thing"]
theorem sc_is_whole : FnScope N_is_whole ["thing"] (defScope s_is_whole) := ⟨rfl, rfl, rfl, by decide +kernel, rfl, by decide +kernel, by decide +kernel⟩
abbrev s_is_among : Stmt := top 2
abbrev N_is_among : List Str := ["thing", "least", "most"]
theorem sc_is_among : FnScope N_is_among ["thing", "least", "most"] (defScope s_is_among) := ⟨rfl, rfl, rfl, by decide +kernel, rfl, by decide +kernel, by decide +kernel⟩
abbrev s_number_text : Stmt := top 3
abbrev N_number_text : List Str := ["number"]
theorem sc_number_text : FnScope N_number_text ["number"] (defScope s_number_text) := ⟨rfl, rfl, rfl, by decide +kernel, rfl, by decide +kernel, by decide +kernel⟩
abbrev s_is_sign : Stmt := top 10
abbrev N_is_sign : List Str := ["sign"]
theorem sc_is_sign : FnScope N_is_sign ["sign"] (defScope s_is_sign) := ⟨rfl, rfl, rfl, by decide +kernel, rfl, by decide +kernel, by decide +kernel⟩
abbrev s_Kind_word : Stmt := inClass (top 11) 0
abbrev N_Kind_word : List Str := ["self"]
theorem sc_Kind_word : FnScope N_Kind_word ["self"] (defScope s_Kind_word) := ⟨rfl, rfl, rfl, by decide +kernel, rfl, by decide +kernel, by decide +kernel⟩
abbrev s_Kind_words : Stmt := inClass (top 11) 1
abbrev N_Kind_words : List Str := ["self"]
theorem sc_Kind_words : FnScope N_Kind_words ["self"] (defScope s_Kind_words) := ⟨rfl, rfl, rfl, by decide +kernel, rfl, by decide +kernel, by decide +kernel⟩
abbrev s_Kind_is_plain : Stmt := inClass (top 11) 2
abbrev N_Kind_is_plain : List Str := ["self"]
theorem sc_Kind_is_plain : FnScope N_Kind_is_plain ["self"] (defScope s_Kind_is_plain) := ⟨rfl, rfl, rfl, by decide +kernel, rfl, by decide +kernel, by decide +kernel⟩
abbrev s_Kind_shape : Stmt := inClass (top 11) 3
abbrev N_Kind_shape : List Str := ["self"]
theorem sc_Kind_shape : FnScope N_Kind_shape ["self"] (defScope s_Kind_shape) := ⟨rfl, rfl, rfl, by decide +kernel, rfl, by decide +kernel, by decide +kernel⟩
abbrev s_Kind_width : Stmt := inClass (top 11) 4
abbrev N_Kind_width : List Str := ["self"]
theorem sc_Kind_width : FnScope N_Kind_width ["self"] (defScope s_Kind_width) := ⟨rfl, rfl, rfl, by decide +kernel, rfl, by decide +kernel, by decide +kernel⟩
abbrev s_Kind_suits : Stmt := inClass (top 11) 5
abbrev N_Kind_suits : List Str := ["self", "value"]
theorem sc_Kind_suits : FnScope N_Kind_suits ["self", "value"] (defScope s_Kind_suits) := ⟨rfl, rfl, rfl, by decide +kernel, rfl, by decide +kernel, by decide +kernel⟩
abbrev s_Kind_blank : Stmt := inClass (top 11) 6
abbrev N_Kind_blank : List Str := ["self"]
theorem sc_Kind_blank : FnScope N_Kind_blank ["self"] (defScope s_Kind_blank) := ⟨rfl, rfl, rfl, by decide +kernel, rfl, by decide +kernel, by decide +kernel⟩
abbrev s_Truth_word : Stmt := inClass (top 12) 0
abbrev N_Truth_word : List Str := ["self"]
theorem sc_Truth_word : FnScope N_Truth_word ["self"] (defScope s_Truth_word) := ⟨rfl, rfl, rfl, by decide +kernel, rfl, by decide +kernel, by decide +kernel⟩
abbrev s_Truth_width : Stmt := inClass (top 12) 1
abbrev N_Truth_width : List Str := ["self"]
theorem sc_Truth_width : FnScope N_Truth_width ["self"] (defScope s_Truth_width) := ⟨rfl, rfl, rfl, by decide +kernel, rfl, by decide +kernel, by decide +kernel⟩
abbrev s_Truth_suits : Stmt := inClass (top 12) 2
abbrev N_Truth_suits : List Str := ["self", "value"]
theorem sc_Truth_suits : FnScope N_Truth_suits ["self", "value"] (defScope s_Truth_suits) := ⟨rfl, rfl, rfl, by decide +kernel, rfl, by decide +kernel, by decide +kernel⟩
abbrev s_Truth_blank : Stmt := inClass (top 12) 3
abbrev N_Truth_blank : List Str := ["self"]
theorem sc_Truth_blank : FnScope N_Truth_blank ["self"] (defScope s_Truth_blank) := ⟨rfl, rfl, rfl, by decide +kernel, rfl, by decide +kernel, by decide +kernel⟩
abbrev s_Count_word : Stmt := inClass (top 13) 0
abbrev N_Count_word : List Str := ["self"]
theorem sc_Count_word : FnScope N_Count_word ["self"] (defScope s_Count_word) := ⟨rfl, rfl, rfl, by decide +kernel, rfl, by decide +kernel, by decide +kernel⟩
abbrev s_Count_suits : Stmt := inClass (top 13) 1
abbrev N_Count_suits : List Str := ["self", "value"]
theorem sc_Count_suits : FnScope N_Count_suits ["self", "value"] (defScope s_Count_suits) := ⟨rfl, rfl, rfl, by decide +kernel, rfl, by decide +kernel, by decide +kernel⟩
abbrev s_Whole_word : Stmt := inClass (top 14) 0
abbrev N_Whole_word : List Str := ["self"]
theorem sc_Whole_word : FnScope N_Whole_word ["self"] (defScope s_Whole_word) := ⟨rfl, rfl, rfl, by decide +kernel, rfl, by decide +kernel, by decide +kernel⟩
abbrev s_Whole_suits : Stmt := inClass (top 14) 1
abbrev N_Whole_suits : List Str := ["self", "value"]
theorem sc_Whole_suits : FnScope N_Whole_suits ["self", "value"] (defScope s_Whole_suits) := ⟨rfl, rfl, rfl, by decide +kernel, rfl, by decide +kernel, by decide +kernel⟩
abbrev s_Upto_init : Stmt := inClass (top 15) 0
abbrev N_Upto_init : List Str := ["self", "most"]
theorem sc_Upto_init : FnScope N_Upto_init ["self", "most"] (defScope s_Upto_init) := ⟨rfl, rfl, rfl, by decide +kernel, rfl, by decide +kernel, by decide +kernel⟩
abbrev s_Upto_word : Stmt := inClass (top 15) 1
abbrev N_Upto_word : List Str := ["self"]
theorem sc_Upto_word : FnScope N_Upto_word ["self"] (defScope s_Upto_word) := ⟨rfl, rfl, rfl, by decide +kernel, rfl, by decide +kernel, by decide +kernel⟩
abbrev s_Upto_words : Stmt := inClass (top 15) 2
abbrev N_Upto_words : List Str := ["self"]
theorem sc_Upto_words : FnScope N_Upto_words ["self"] (defScope s_Upto_words) := ⟨rfl, rfl, rfl, by decide +kernel, rfl, by decide +kernel, by decide +kernel⟩
abbrev s_Upto_width : Stmt := inClass (top 15) 3
abbrev N_Upto_width : List Str := ["self"]
theorem sc_Upto_width : FnScope N_Upto_width ["self"] (defScope s_Upto_width) := ⟨rfl, rfl, rfl, by decide +kernel, rfl, by decide +kernel, by decide +kernel⟩
abbrev s_Upto_suits : Stmt := inClass (top 15) 4
abbrev N_Upto_suits : List Str := ["self", "value"]
theorem sc_Upto_suits : FnScope N_Upto_suits ["self", "value"] (defScope s_Upto_suits) := ⟨rfl, rfl, rfl, by decide +kernel, rfl, by decide +kernel, by decide +kernel⟩
abbrev s_Text_init : Stmt := inClass (top 16) 0
abbrev N_Text_init : List Str := ["self", "most"]
theorem sc_Text_init : FnScope N_Text_init ["self", "most"] (defScope s_Text_init) := ⟨rfl, rfl, rfl, by decide +kernel, rfl, by decide +kernel, by decide +kernel⟩
abbrev s_Text_word : Stmt := inClass (top 16) 1
abbrev N_Text_word : List Str := ["self"]
theorem sc_Text_word : FnScope N_Text_word ["self"] (defScope s_Text_word) := ⟨rfl, rfl, rfl, by decide +kernel, rfl, by decide +kernel, by decide +kernel⟩
abbrev s_Text_words : Stmt := inClass (top 16) 2
abbrev N_Text_words : List Str := ["self"]
theorem sc_Text_words : FnScope N_Text_words ["self"] (defScope s_Text_words) := ⟨rfl, rfl, rfl, by decide +kernel, rfl, by decide +kernel, by decide +kernel⟩
abbrev s_Text_shape : Stmt := inClass (top 16) 3
abbrev N_Text_shape : List Str := ["self"]
theorem sc_Text_shape : FnScope N_Text_shape ["self"] (defScope s_Text_shape) := ⟨rfl, rfl, rfl, by decide +kernel, rfl, by decide +kernel, by decide +kernel⟩
abbrev s_Text_suits : Stmt := inClass (top 16) 4
abbrev N_Text_suits : List Str := ["self", "value", "sign"]
theorem sc_Text_suits : FnScope N_Text_suits ["self", "value"] (defScope s_Text_suits) := ⟨rfl, rfl, rfl, by decide +kernel, rfl, by decide +kernel, by decide +kernel⟩
abbrev s_Text_blank : Stmt := inClass (top 16) 5
abbrev N_Text_blank : List Str := ["self"]
theorem sc_Text_blank : FnScope N_Text_blank ["self"] (defScope s_Text_blank) := ⟨rfl, rfl, rfl, by decide +kernel, rfl, by decide +kernel, by decide +kernel⟩
abbrev s_List_init : Stmt := inClass (top 17) 0
abbrev N_List_init : List Str := ["self", "item"]
theorem sc_List_init : FnScope N_List_init ["self", "item"] (defScope s_List_init) := ⟨rfl, rfl, rfl, by decide +kernel, rfl, by decide +kernel, by decide +kernel⟩
abbrev s_List_word : Stmt := inClass (top 17) 1
abbrev N_List_word : List Str := ["self"]
theorem sc_List_word : FnScope N_List_word ["self"] (defScope s_List_word) := ⟨rfl, rfl, rfl, by decide +kernel, rfl, by decide +kernel, by decide +kernel⟩
abbrev s_List_words : Stmt := inClass (top 17) 2
abbrev N_List_words : List Str := ["self"]
theorem sc_List_words : FnScope N_List_words ["self"] (defScope s_List_words) := ⟨rfl, rfl, rfl, by decide +kernel, rfl, by decide +kernel, by decide +kernel⟩
abbrev s_List_is_plain : Stmt := inClass (top 17) 3
abbrev N_List_is_plain : List Str := ["self"]
theorem sc_List_is_plain : FnScope N_List_is_plain ["self"] (defScope s_List_is_plain) := ⟨rfl, rfl, rfl, by decide +kernel, rfl, by decide +kernel, by decide +kernel⟩
abbrev s_List_shape : Stmt := inClass (top 17) 4
abbrev N_List_shape : List Str := ["self"]
theorem sc_List_shape : FnScope N_List_shape ["self"] (defScope s_List_shape) := ⟨rfl, rfl, rfl, by decide +kernel, rfl, by decide +kernel, by decide +kernel⟩
abbrev s_List_suits : Stmt := inClass (top 17) 5
abbrev N_List_suits : List Str := ["self", "value", "thing"]
theorem sc_List_suits : FnScope N_List_suits ["self", "value"] (defScope s_List_suits) := ⟨rfl, rfl, rfl, by decide +kernel, rfl, by decide +kernel, by decide +kernel⟩
abbrev s_List_blank : Stmt := inClass (top 17) 6
abbrev N_List_blank : List Str := ["self"]
theorem sc_List_blank : FnScope N_List_blank ["self"] (defScope s_List_blank) := ⟨rfl, rfl, rfl, by decide +kernel, rfl, by decide +kernel, by decide +kernel⟩
abbrev s_Nested_init : Stmt := inClass (top 18) 0
abbrev N_Nested_init : List Str := ["self", "name"]
theorem sc_Nested_init : FnScope N_Nested_init ["self", "name"] (defScope s_Nested_init) := ⟨rfl, rfl, rfl, by decide +kernel, rfl, by decide +kernel, by decide +kernel⟩
abbrev s_Nested_word : Stmt := inClass (top 18) 1
abbrev N_Nested_word : List Str := ["self"]
theorem sc_Nested_word : FnScope N_Nested_word ["self"] (defScope s_Nested_word) := ⟨rfl, rfl, rfl, by decide +kernel, rfl, by decide +kernel, by decide +kernel⟩
abbrev s_Nested_words : Stmt := inClass (top 18) 2
abbrev N_Nested_words : List Str := ["self"]
theorem sc_Nested_words : FnScope N_Nested_words ["self"] (defScope s_Nested_words) := ⟨rfl, rfl, rfl, by decide +kernel, rfl, by decide +kernel, by decide +kernel⟩
abbrev s_Nested_is_plain : Stmt := inClass (top 18) 3
abbrev N_Nested_is_plain : List Str := ["self"]
theorem sc_Nested_is_plain : FnScope N_Nested_is_plain ["self"] (defScope s_Nested_is_plain) := ⟨rfl, rfl, rfl, by decide +kernel, rfl, by decide +kernel, by decide +kernel⟩
abbrev s_Nested_shape : Stmt := inClass (top 18) 4
abbrev N_Nested_shape : List Str := ["self"]
theorem sc_Nested_shape : FnScope N_Nested_shape ["self"] (defScope s_Nested_shape) := ⟨rfl, rfl, rfl, by decide +kernel, rfl, by decide +kernel, by decide +kernel⟩
abbrev s_Nested_suits : Stmt := inClass (top 18) 5
abbrev N_Nested_suits : List Str := ["self", "value"]
theorem sc_Nested_suits : FnScope N_Nested_suits ["self", "value"] (defScope s_Nested_suits) := ⟨rfl, rfl, rfl, by decide +kernel, rfl, by decide +kernel, by decide +kernel⟩
abbrev s_Nested_blank : Stmt := inClass (top 18) 6
abbrev N_Nested_blank : List Str := ["self"]
theorem sc_Nested_blank : FnScope N_Nested_blank ["self"] (defScope s_Nested_blank) := ⟨rfl, rfl, rfl, by decide +kernel, rfl, by decide +kernel, by decide +kernel⟩
abbrev s__law_number : Stmt := top 20
abbrev N__law_number : List Str := ["_law_script", "_law_k", "_law_cell", "_law_more"]
theorem sc__law_number : FnScope N__law_number ["_law_script", "_law_k"] (defScope s__law_number) := ⟨rfl, rfl, rfl, by decide +kernel, rfl, by decide +kernel, by decide +kernel⟩
abbrev s__law_mixed : Stmt := top 21
abbrev N__law_mixed : List Str := ["_law_number_here", "_law_k"]
theorem sc__law_mixed : FnScope N__law_mixed ["_law_number_here", "_law_k"] (defScope s__law_mixed) := ⟨rfl, rfl, rfl, by decide +kernel, rfl, by decide +kernel, by decide +kernel⟩
abbrev s__law_names : Stmt := top 22
abbrev N__law_names : List Str := ["_law_number_here", "_law_many", "_law_letters", "_law_step", "_law_base", "_law_border", "_law_at", "_law_signs", "_law_j", "_law_k", "_law_sign"]
theorem sc__law_names : FnScope N__law_names ["_law_number_here", "_law_many"] (defScope s__law_names) := ⟨rfl, rfl, rfl, by decide +kernel, rfl, by decide +kernel, by decide +kernel⟩
abbrev s__law_bound : Stmt := top 23
abbrev N__law_bound : List Str := ["_law_number_here", "_law_top", "_law_some"]
theorem sc__law_bound : FnScope N__law_bound ["_law_number_here"] (defScope s__law_bound) := ⟨rfl, rfl, rfl, by decide +kernel, rfl, by decide +kernel, by decide +kernel⟩
abbrev s__law_drawn : Stmt := top 24
abbrev N__law_drawn : List Str := ["_law_number_here", "_law_kind"]
theorem sc__law_drawn : FnScope N__law_drawn ["_law_number_here"] (defScope s__law_drawn) := ⟨rfl, rfl, rfl, by decide +kernel, rfl, by decide +kernel, by decide +kernel⟩
abbrev s__law_made_of : Stmt := top 25
abbrev N__law_made_of : List Str := ["_law_kind"]
theorem sc__law_made_of : FnScope N__law_made_of ["_law_kind"] (defScope s__law_made_of) := ⟨rfl, rfl, rfl, by decide +kernel, rfl, by decide +kernel, by decide +kernel⟩
abbrev s__law_words : Stmt := top 26
abbrev N__law_words : List Str := ["_law_kind", "_law_part"]
theorem sc__law_words : FnScope N__law_words ["_law_kind"] (defScope s__law_words) := ⟨rfl, rfl, rfl, by decide +kernel, rfl, by decide +kernel, by decide +kernel⟩
abbrev s__law_width : Stmt := top 27
abbrev N__law_width : List Str := ["_law_kind", "_law_width_here", "_law_left"]
theorem sc__law_width : FnScope N__law_width ["_law_kind"] (defScope s__law_width) := ⟨rfl, rfl, rfl, by decide +kernel, rfl, by decide +kernel, by decide +kernel⟩
abbrev s__law_suits : Stmt := top 28
abbrev N__law_suits : List Str := ["_law_kind", "_law_value", "_law_half", "_law_sign", "_law_thing"]
theorem sc__law_suits : FnScope N__law_suits ["_law_kind", "_law_value"] (defScope s__law_suits) := ⟨rfl, rfl, rfl, by decide +kernel, rfl, by decide +kernel, by decide +kernel⟩
abbrev s__law_asked_of : Stmt := top 29
abbrev N__law_asked_of : List Str := ["_law_kind", "_law_number_here", "_law_half", "_law_many", "_law_found", "_law_size", "_law_text", "_law_most", "_law_odd", "_law_edge", "_law_j"]
theorem sc__law_asked_of : FnScope N__law_asked_of ["_law_kind", "_law_number_here"] (defScope s__law_asked_of) := ⟨rfl, rfl, rfl, by decide +kernel, rfl, by decide +kernel, by decide +kernel⟩
abbrev s__law_right : Stmt := top 30
abbrev N__law_right : List Str := ["_law_one", "_law_kind", "_law_way", "_law_number_here", "_law_found", "_law_good", "_law_due", "_law_told", "_law_shape", "_law_value"]
theorem sc__law_right : FnScope N__law_right ["_law_one", "_law_kind", "_law_way", "_law_number_here"] (defScope s__law_right) := ⟨rfl, rfl, rfl, by decide +kernel, rfl, by decide +kernel, by decide +kernel⟩
abbrev s__law_held : Stmt := top 31
abbrev N__law_held : List Str := ["_law_one", "_law_kind"]
theorem sc__law_held : FnScope N__law_held ["_law_one", "_law_kind"] (defScope s__law_held) := ⟨rfl, rfl, rfl, by decide +kernel, rfl, by decide +kernel, by decide +kernel⟩
abbrev s_law : Stmt := top 32
abbrev N_law : List Str := ["_law_script", "_law_kinds", "_law_made", "_law_k", "_law_number_here", "_law_which", "_law_kind", "_law_one"]
theorem sc_law : FnScope N_law ["_law_script"] (defScope s_law) := ⟨rfl, rfl, rfl, by decide +kernel, rfl, by decide +kernel, by decide +kernel⟩
/-! ### facts of the written part -/
def fa_0 : List He.Fa := [.free "all",
  .free "bool",
  .free "int",
  .free "isinstance",
  .free "len",
  .free "list",
  .free "max",
  .free "ord",
  .free "range",
  .free "str",
  .free "zip",
  .int "MOST_NUMBER" 115792089237316195423570985008687907853269984665640564039457584007913129639935,
  .int "MOST_SIGNS" 100,
  .int "MOST_THINGS" 20,
  .int "WIDEST" 255,
  .int "NO_SIGN" 37,
  .glo "is_whole",
  .glo "is_among",
  .glo "number_text",
  .glo "is_sign",
  .glo "_law_number",
  .glo "_law_mixed",
  .glo "_law_names",
  .glo "_law_bound",
  .glo "_law_drawn",
  .glo "_law_made_of",
  .glo "_law_words",
  .glo "_law_width",
  .glo "_law_suits",
  .glo "_law_asked_of"]
def fa_1 : List He.Fa := [.glo "_law_right",
  .glo "_law_held",
  .glo "law",
  .glo "Kind",
  .glo "Truth",
  .glo "Count",
  .glo "Whole",
  .glo "Upto",
  .glo "Text",
  .glo "List",
  .glo "Nested"]
abbrev fa : List He.Fa := fa_0 ++ fa_1
def fn_0 : List He.DefD := [⟨("is_whole", none), "is_whole", "is_whole", defArgs s_is_whole, defBody s_is_whole, defScope s_is_whole, [], []⟩,
  ⟨("is_among", none), "is_among", "is_among", defArgs s_is_among, defBody s_is_among, defScope s_is_among, [], []⟩,
  ⟨("number_text", none), "number_text", "number_text", defArgs s_number_text, defBody s_number_text, defScope s_number_text, [], []⟩,
  ⟨("is_sign", none), "is_sign", "is_sign", defArgs s_is_sign, defBody s_is_sign, defScope s_is_sign, [], []⟩,
  ⟨("Kind", some "word"), "word", "Kind.word", defArgs s_Kind_word, defBody s_Kind_word, defScope s_Kind_word, [], []⟩,
  ⟨("Kind", some "words"), "words", "Kind.words", defArgs s_Kind_words, defBody s_Kind_words, defScope s_Kind_words, [], []⟩,
  ⟨("Kind", some "is_plain"), "is_plain", "Kind.is_plain", defArgs s_Kind_is_plain, defBody s_Kind_is_plain, defScope s_Kind_is_plain, [], []⟩,
  ⟨("Kind", some "shape"), "shape", "Kind.shape", defArgs s_Kind_shape, defBody s_Kind_shape, defScope s_Kind_shape, [], []⟩,
  ⟨("Kind", some "width"), "width", "Kind.width", defArgs s_Kind_width, defBody s_Kind_width, defScope s_Kind_width, [], []⟩,
  ⟨("Kind", some "suits"), "suits", "Kind.suits", defArgs s_Kind_suits, defBody s_Kind_suits, defScope s_Kind_suits, [], []⟩,
  ⟨("Kind", some "blank"), "blank", "Kind.blank", defArgs s_Kind_blank, defBody s_Kind_blank, defScope s_Kind_blank, [], []⟩,
  ⟨("Truth", some "word"), "word", "Truth.word", defArgs s_Truth_word, defBody s_Truth_word, defScope s_Truth_word, [], []⟩,
  ⟨("Truth", some "width"), "width", "Truth.width", defArgs s_Truth_width, defBody s_Truth_width, defScope s_Truth_width, [], []⟩,
  ⟨("Truth", some "suits"), "suits", "Truth.suits", defArgs s_Truth_suits, defBody s_Truth_suits, defScope s_Truth_suits, [], []⟩,
  ⟨("Truth", some "blank"), "blank", "Truth.blank", defArgs s_Truth_blank, defBody s_Truth_blank, defScope s_Truth_blank, [], []⟩,
  ⟨("Count", some "word"), "word", "Count.word", defArgs s_Count_word, defBody s_Count_word, defScope s_Count_word, [], []⟩,
  ⟨("Count", some "suits"), "suits", "Count.suits", defArgs s_Count_suits, defBody s_Count_suits, defScope s_Count_suits, [], []⟩,
  ⟨("Whole", some "word"), "word", "Whole.word", defArgs s_Whole_word, defBody s_Whole_word, defScope s_Whole_word, [], []⟩,
  ⟨("Whole", some "suits"), "suits", "Whole.suits", defArgs s_Whole_suits, defBody s_Whole_suits, defScope s_Whole_suits, [], []⟩,
  ⟨("Upto", some "__init__"), "__init__", "Upto.__init__", defArgs s_Upto_init, defBody s_Upto_init, defScope s_Upto_init, [], []⟩,
  ⟨("Upto", some "word"), "word", "Upto.word", defArgs s_Upto_word, defBody s_Upto_word, defScope s_Upto_word, [], []⟩,
  ⟨("Upto", some "words"), "words", "Upto.words", defArgs s_Upto_words, defBody s_Upto_words, defScope s_Upto_words, [], []⟩,
  ⟨("Upto", some "width"), "width", "Upto.width", defArgs s_Upto_width, defBody s_Upto_width, defScope s_Upto_width, [], []⟩,
  ⟨("Upto", some "suits"), "suits", "Upto.suits", defArgs s_Upto_suits, defBody s_Upto_suits, defScope s_Upto_suits, [], []⟩,
  ⟨("Text", some "__init__"), "__init__", "Text.__init__", defArgs s_Text_init, defBody s_Text_init, defScope s_Text_init, [.int (100)], []⟩,
  ⟨("Text", some "word"), "word", "Text.word", defArgs s_Text_word, defBody s_Text_word, defScope s_Text_word, [], []⟩,
  ⟨("Text", some "words"), "words", "Text.words", defArgs s_Text_words, defBody s_Text_words, defScope s_Text_words, [], []⟩,
  ⟨("Text", some "shape"), "shape", "Text.shape", defArgs s_Text_shape, defBody s_Text_shape, defScope s_Text_shape, [], []⟩,
  ⟨("Text", some "suits"), "suits", "Text.suits", defArgs s_Text_suits, defBody s_Text_suits, defScope s_Text_suits, [], []⟩,
  ⟨("Text", some "blank"), "blank", "Text.blank", defArgs s_Text_blank, defBody s_Text_blank, defScope s_Text_blank, [], []⟩]
def fn_1 : List He.DefD := [⟨("List", some "__init__"), "__init__", "List.__init__", defArgs s_List_init, defBody s_List_init, defScope s_List_init, [], []⟩,
  ⟨("List", some "word"), "word", "List.word", defArgs s_List_word, defBody s_List_word, defScope s_List_word, [], []⟩,
  ⟨("List", some "words"), "words", "List.words", defArgs s_List_words, defBody s_List_words, defScope s_List_words, [], []⟩,
  ⟨("List", some "is_plain"), "is_plain", "List.is_plain", defArgs s_List_is_plain, defBody s_List_is_plain, defScope s_List_is_plain, [], []⟩,
  ⟨("List", some "shape"), "shape", "List.shape", defArgs s_List_shape, defBody s_List_shape, defScope s_List_shape, [], []⟩,
  ⟨("List", some "suits"), "suits", "List.suits", defArgs s_List_suits, defBody s_List_suits, defScope s_List_suits, [], []⟩,
  ⟨("List", some "blank"), "blank", "List.blank", defArgs s_List_blank, defBody s_List_blank, defScope s_List_blank, [], []⟩,
  ⟨("Nested", some "__init__"), "__init__", "Nested.__init__", defArgs s_Nested_init, defBody s_Nested_init, defScope s_Nested_init, [], []⟩,
  ⟨("Nested", some "word"), "word", "Nested.word", defArgs s_Nested_word, defBody s_Nested_word, defScope s_Nested_word, [], []⟩,
  ⟨("Nested", some "words"), "words", "Nested.words", defArgs s_Nested_words, defBody s_Nested_words, defScope s_Nested_words, [], []⟩,
  ⟨("Nested", some "is_plain"), "is_plain", "Nested.is_plain", defArgs s_Nested_is_plain, defBody s_Nested_is_plain, defScope s_Nested_is_plain, [], []⟩,
  ⟨("Nested", some "shape"), "shape", "Nested.shape", defArgs s_Nested_shape, defBody s_Nested_shape, defScope s_Nested_shape, [], []⟩,
  ⟨("Nested", some "suits"), "suits", "Nested.suits", defArgs s_Nested_suits, defBody s_Nested_suits, defScope s_Nested_suits, [], []⟩,
  ⟨("Nested", some "blank"), "blank", "Nested.blank", defArgs s_Nested_blank, defBody s_Nested_blank, defScope s_Nested_blank, [], []⟩,
  ⟨("_law_number", none), "_law_number", "_law_number", defArgs s__law_number, defBody s__law_number, defScope s__law_number, [], []⟩,
  ⟨("_law_mixed", none), "_law_mixed", "_law_mixed", defArgs s__law_mixed, defBody s__law_mixed, defScope s__law_mixed, [], []⟩,
  ⟨("_law_names", none), "_law_names", "_law_names", defArgs s__law_names, defBody s__law_names, defScope s__law_names, [], []⟩,
  ⟨("_law_bound", none), "_law_bound", "_law_bound", defArgs s__law_bound, defBody s__law_bound, defScope s__law_bound, [], []⟩,
  ⟨("_law_drawn", none), "_law_drawn", "_law_drawn", defArgs s__law_drawn, defBody s__law_drawn, defScope s__law_drawn, [], []⟩,
  ⟨("_law_made_of", none), "_law_made_of", "_law_made_of", defArgs s__law_made_of, defBody s__law_made_of, defScope s__law_made_of, [], []⟩,
  ⟨("_law_words", none), "_law_words", "_law_words", defArgs s__law_words, defBody s__law_words, defScope s__law_words, [], []⟩,
  ⟨("_law_width", none), "_law_width", "_law_width", defArgs s__law_width, defBody s__law_width, defScope s__law_width, [], []⟩,
  ⟨("_law_suits", none), "_law_suits", "_law_suits", defArgs s__law_suits, defBody s__law_suits, defScope s__law_suits, [], []⟩,
  ⟨("_law_asked_of", none), "_law_asked_of", "_law_asked_of", defArgs s__law_asked_of, defBody s__law_asked_of, defScope s__law_asked_of, [], []⟩,
  ⟨("_law_right", none), "_law_right", "_law_right", defArgs s__law_right, defBody s__law_right, defScope s__law_right, [], []⟩,
  ⟨("_law_held", none), "_law_held", "_law_held", defArgs s__law_held, defBody s__law_held, defScope s__law_held, [], []⟩,
  ⟨("law", none), "law", "law", defArgs s_law, defBody s_law, defScope s_law, [], []⟩]
abbrev fn : List He.DefD := fn_0 ++ fn_1
def fz_0 : List Fz := [.ins "Kind",
  .mk0 "Kind",
  .fnd "Kind" "word" ("Kind", some "word"),
  .fnd "Kind" "words" ("Kind", some "words"),
  .fnd "Kind" "is_plain" ("Kind", some "is_plain"),
  .fnd "Kind" "shape" ("Kind", some "shape"),
  .fnd "Kind" "width" ("Kind", some "width"),
  .fnd "Kind" "suits" ("Kind", some "suits"),
  .fnd "Kind" "blank" ("Kind", some "blank"),
  .kit "Kind" "Kind" true,
  .kit "Kind" "List" false,
  .kitT "Kind" "bool" false,
  .kitT "Kind" "int" false,
  .kitT "Kind" "list" false,
  .kitT "Kind" "str" false,
  .ins "Truth",
  .mk0 "Truth",
  .fnd "Truth" "word" ("Truth", some "word"),
  .fnd "Truth" "width" ("Truth", some "width"),
  .fnd "Truth" "suits" ("Truth", some "suits"),
  .fnd "Truth" "blank" ("Truth", some "blank"),
  .fnd "Truth" "words" ("Kind", some "words"),
  .fnd "Truth" "is_plain" ("Kind", some "is_plain"),
  .fnd "Truth" "shape" ("Kind", some "shape"),
  .kit "Truth" "Kind" true,
  .kit "Truth" "List" false,
  .kitT "Truth" "bool" false,
  .kitT "Truth" "int" false,
  .kitT "Truth" "list" false,
  .kitT "Truth" "str" false]
def fz_1 : List Fz := [.ins "Count",
  .mk0 "Count",
  .fnd "Count" "word" ("Count", some "word"),
  .fnd "Count" "suits" ("Count", some "suits"),
  .fnd "Count" "words" ("Kind", some "words"),
  .fnd "Count" "is_plain" ("Kind", some "is_plain"),
  .fnd "Count" "shape" ("Kind", some "shape"),
  .fnd "Count" "width" ("Kind", some "width"),
  .fnd "Count" "blank" ("Kind", some "blank"),
  .kit "Count" "Kind" true,
  .kit "Count" "List" false,
  .kitT "Count" "bool" false,
  .kitT "Count" "int" false,
  .kitT "Count" "list" false,
  .kitT "Count" "str" false,
  .ins "Whole",
  .mk0 "Whole",
  .fnd "Whole" "word" ("Whole", some "word"),
  .fnd "Whole" "suits" ("Whole", some "suits"),
  .fnd "Whole" "words" ("Kind", some "words"),
  .fnd "Whole" "is_plain" ("Kind", some "is_plain"),
  .fnd "Whole" "shape" ("Kind", some "shape"),
  .fnd "Whole" "width" ("Kind", some "width"),
  .fnd "Whole" "blank" ("Kind", some "blank"),
  .kit "Whole" "Kind" true,
  .kit "Whole" "List" false,
  .kitT "Whole" "bool" false,
  .kitT "Whole" "int" false,
  .kitT "Whole" "list" false,
  .kitT "Whole" "str" false]
def fz_2 : List Fz := [.ins "Upto",
  .mk "Upto" ("Upto", some "__init__"),
  .fnd "Upto" "word" ("Upto", some "word"),
  .fnd "Upto" "words" ("Upto", some "words"),
  .fnd "Upto" "width" ("Upto", some "width"),
  .fnd "Upto" "suits" ("Upto", some "suits"),
  .fnd "Upto" "is_plain" ("Kind", some "is_plain"),
  .fnd "Upto" "shape" ("Kind", some "shape"),
  .fnd "Upto" "blank" ("Kind", some "blank"),
  .noa "Upto" "most",
  .kit "Upto" "Kind" true,
  .kit "Upto" "List" false,
  .kitT "Upto" "bool" false,
  .kitT "Upto" "int" false,
  .kitT "Upto" "list" false,
  .kitT "Upto" "str" false,
  .ins "Text",
  .mk "Text" ("Text", some "__init__"),
  .fnd "Text" "word" ("Text", some "word"),
  .fnd "Text" "words" ("Text", some "words"),
  .fnd "Text" "shape" ("Text", some "shape"),
  .fnd "Text" "suits" ("Text", some "suits"),
  .fnd "Text" "blank" ("Text", some "blank"),
  .fnd "Text" "is_plain" ("Kind", some "is_plain"),
  .fnd "Text" "width" ("Kind", some "width"),
  .noa "Text" "most",
  .kit "Text" "Kind" true,
  .kit "Text" "List" false,
  .kitT "Text" "bool" false,
  .kitT "Text" "int" false]
def fz_3 : List Fz := [.kitT "Text" "list" false,
  .kitT "Text" "str" false,
  .ins "List",
  .mk "List" ("List", some "__init__"),
  .fnd "List" "word" ("List", some "word"),
  .fnd "List" "words" ("List", some "words"),
  .fnd "List" "is_plain" ("List", some "is_plain"),
  .fnd "List" "shape" ("List", some "shape"),
  .fnd "List" "suits" ("List", some "suits"),
  .fnd "List" "blank" ("List", some "blank"),
  .fnd "List" "width" ("Kind", some "width"),
  .noa "List" "item",
  .kit "List" "Kind" true,
  .kit "List" "List" true,
  .kitT "List" "bool" false,
  .kitT "List" "int" false,
  .kitT "List" "list" false,
  .kitT "List" "str" false,
  .ins "Nested",
  .mk "Nested" ("Nested", some "__init__"),
  .fnd "Nested" "word" ("Nested", some "word"),
  .fnd "Nested" "words" ("Nested", some "words"),
  .fnd "Nested" "is_plain" ("Nested", some "is_plain"),
  .fnd "Nested" "shape" ("Nested", some "shape"),
  .fnd "Nested" "suits" ("Nested", some "suits"),
  .fnd "Nested" "blank" ("Nested", some "blank"),
  .fnd "Nested" "width" ("Kind", some "width"),
  .noa "Nested" "name",
  .kit "Nested" "Kind" true,
  .kit "Nested" "List" false]
def fz_4 : List Fz := [.kitT "Nested" "bool" false,
  .kitT "Nested" "int" false,
  .kitT "Nested" "list" false,
  .kitT "Nested" "str" false,
  .kTO "NoneType" "Kind" false,
  .kTO "NoneType" "List" false,
  .kTO "int" "Kind" false,
  .kTO "int" "List" false,
  .kTO "bool" "Kind" false,
  .kTO "bool" "List" false,
  .kTO "str" "Kind" false,
  .kTO "str" "List" false,
  .kTO "list" "Kind" false,
  .kTO "list" "List" false,
  .kTO "tuple" "Kind" false,
  .kTO "tuple" "List" false,
  .kTO "dict" "Kind" false,
  .kTO "dict" "List" false]
abbrev fz : List Fz := fz_0 ++ fz_1 ++ fz_2 ++ fz_3 ++ fz_4
abbrev exB (K : PySem.W.Frag) : Bool := fz.all fun f => f.ok K
structure Txt (K : PySem.W.Frag) (mg : Str → Option Value) : Prop where
  n_all : mg "all" = none
  n_bool : mg "bool" = none
  n_int : mg "int" = none
  n_isinstance : mg "isinstance" = none
  n_len : mg "len" = none
  n_list : mg "list" = none
  n_max : mg "max" = none
  n_ord : mg "ord" = none
  n_range : mg "range" = none
  n_str : mg "str" = none
  n_zip : mg "zip" = none
  g_MOST_NUMBER : ∃ u, mg "MOST_NUMBER" = some u ∧ RelV (.int 115792089237316195423570985008687907853269984665640564039457584007913129639935) u
  g_MOST_SIGNS : ∃ u, mg "MOST_SIGNS" = some u ∧ RelV (.int 100) u
  g_MOST_THINGS : ∃ u, mg "MOST_THINGS" = some u ∧ RelV (.int 20) u
  g_WIDEST : ∃ u, mg "WIDEST" = some u ∧ RelV (.int 255) u
  g_NO_SIGN : ∃ u, mg "NO_SIGN" = some u ∧ RelV (.int 37) u
  f_is_whole : ∃ fd, FunD K "is_whole" "is_whole" (defArgs s_is_whole) (defBody s_is_whole) (defScope s_is_whole) [] [] (He.fAd K ("is_whole", none)) fd
  m_is_whole : mg "is_whole" = some (.ref (He.fAd K ("is_whole", none)))
  f_is_among : ∃ fd, FunD K "is_among" "is_among" (defArgs s_is_among) (defBody s_is_among) (defScope s_is_among) [] [] (He.fAd K ("is_among", none)) fd
  m_is_among : mg "is_among" = some (.ref (He.fAd K ("is_among", none)))
  f_number_text : ∃ fd, FunD K "number_text" "number_text" (defArgs s_number_text) (defBody s_number_text) (defScope s_number_text) [] [] (He.fAd K ("number_text", none)) fd
  m_number_text : mg "number_text" = some (.ref (He.fAd K ("number_text", none)))
  f_is_sign : ∃ fd, FunD K "is_sign" "is_sign" (defArgs s_is_sign) (defBody s_is_sign) (defScope s_is_sign) [] [] (He.fAd K ("is_sign", none)) fd
  m_is_sign : mg "is_sign" = some (.ref (He.fAd K ("is_sign", none)))
  f_Kind_word : ∃ fd, FunD K "word" "Kind.word" (defArgs s_Kind_word) (defBody s_Kind_word) (defScope s_Kind_word) [] [] (He.fAd K ("Kind", some "word")) fd
  f_Kind_words : ∃ fd, FunD K "words" "Kind.words" (defArgs s_Kind_words) (defBody s_Kind_words) (defScope s_Kind_words) [] [] (He.fAd K ("Kind", some "words")) fd
  f_Kind_is_plain : ∃ fd, FunD K "is_plain" "Kind.is_plain" (defArgs s_Kind_is_plain) (defBody s_Kind_is_plain) (defScope s_Kind_is_plain) [] [] (He.fAd K ("Kind", some "is_plain")) fd
  f_Kind_shape : ∃ fd, FunD K "shape" "Kind.shape" (defArgs s_Kind_shape) (defBody s_Kind_shape) (defScope s_Kind_shape) [] [] (He.fAd K ("Kind", some "shape")) fd
  f_Kind_width : ∃ fd, FunD K "width" "Kind.width" (defArgs s_Kind_width) (defBody s_Kind_width) (defScope s_Kind_width) [] [] (He.fAd K ("Kind", some "width")) fd
  f_Kind_suits : ∃ fd, FunD K "suits" "Kind.suits" (defArgs s_Kind_suits) (defBody s_Kind_suits) (defScope s_Kind_suits) [] [] (He.fAd K ("Kind", some "suits")) fd
  f_Kind_blank : ∃ fd, FunD K "blank" "Kind.blank" (defArgs s_Kind_blank) (defBody s_Kind_blank) (defScope s_Kind_blank) [] [] (He.fAd K ("Kind", some "blank")) fd
  f_Truth_word : ∃ fd, FunD K "word" "Truth.word" (defArgs s_Truth_word) (defBody s_Truth_word) (defScope s_Truth_word) [] [] (He.fAd K ("Truth", some "word")) fd
  f_Truth_width : ∃ fd, FunD K "width" "Truth.width" (defArgs s_Truth_width) (defBody s_Truth_width) (defScope s_Truth_width) [] [] (He.fAd K ("Truth", some "width")) fd
  f_Truth_suits : ∃ fd, FunD K "suits" "Truth.suits" (defArgs s_Truth_suits) (defBody s_Truth_suits) (defScope s_Truth_suits) [] [] (He.fAd K ("Truth", some "suits")) fd
  f_Truth_blank : ∃ fd, FunD K "blank" "Truth.blank" (defArgs s_Truth_blank) (defBody s_Truth_blank) (defScope s_Truth_blank) [] [] (He.fAd K ("Truth", some "blank")) fd
  f_Count_word : ∃ fd, FunD K "word" "Count.word" (defArgs s_Count_word) (defBody s_Count_word) (defScope s_Count_word) [] [] (He.fAd K ("Count", some "word")) fd
  f_Count_suits : ∃ fd, FunD K "suits" "Count.suits" (defArgs s_Count_suits) (defBody s_Count_suits) (defScope s_Count_suits) [] [] (He.fAd K ("Count", some "suits")) fd
  f_Whole_word : ∃ fd, FunD K "word" "Whole.word" (defArgs s_Whole_word) (defBody s_Whole_word) (defScope s_Whole_word) [] [] (He.fAd K ("Whole", some "word")) fd
  f_Whole_suits : ∃ fd, FunD K "suits" "Whole.suits" (defArgs s_Whole_suits) (defBody s_Whole_suits) (defScope s_Whole_suits) [] [] (He.fAd K ("Whole", some "suits")) fd
  f_Upto_init : ∃ fd, FunD K "__init__" "Upto.__init__" (defArgs s_Upto_init) (defBody s_Upto_init) (defScope s_Upto_init) [] [] (He.fAd K ("Upto", some "__init__")) fd
  f_Upto_word : ∃ fd, FunD K "word" "Upto.word" (defArgs s_Upto_word) (defBody s_Upto_word) (defScope s_Upto_word) [] [] (He.fAd K ("Upto", some "word")) fd
  f_Upto_words : ∃ fd, FunD K "words" "Upto.words" (defArgs s_Upto_words) (defBody s_Upto_words) (defScope s_Upto_words) [] [] (He.fAd K ("Upto", some "words")) fd
  f_Upto_width : ∃ fd, FunD K "width" "Upto.width" (defArgs s_Upto_width) (defBody s_Upto_width) (defScope s_Upto_width) [] [] (He.fAd K ("Upto", some "width")) fd
  f_Upto_suits : ∃ fd, FunD K "suits" "Upto.suits" (defArgs s_Upto_suits) (defBody s_Upto_suits) (defScope s_Upto_suits) [] [] (He.fAd K ("Upto", some "suits")) fd
  f_Text_init : ∃ fd, FunD K "__init__" "Text.__init__" (defArgs s_Text_init) (defBody s_Text_init) (defScope s_Text_init) [.int (100)] [] (He.fAd K ("Text", some "__init__")) fd
  f_Text_word : ∃ fd, FunD K "word" "Text.word" (defArgs s_Text_word) (defBody s_Text_word) (defScope s_Text_word) [] [] (He.fAd K ("Text", some "word")) fd
  f_Text_words : ∃ fd, FunD K "words" "Text.words" (defArgs s_Text_words) (defBody s_Text_words) (defScope s_Text_words) [] [] (He.fAd K ("Text", some "words")) fd
  f_Text_shape : ∃ fd, FunD K "shape" "Text.shape" (defArgs s_Text_shape) (defBody s_Text_shape) (defScope s_Text_shape) [] [] (He.fAd K ("Text", some "shape")) fd
  f_Text_suits : ∃ fd, FunD K "suits" "Text.suits" (defArgs s_Text_suits) (defBody s_Text_suits) (defScope s_Text_suits) [] [] (He.fAd K ("Text", some "suits")) fd
  f_Text_blank : ∃ fd, FunD K "blank" "Text.blank" (defArgs s_Text_blank) (defBody s_Text_blank) (defScope s_Text_blank) [] [] (He.fAd K ("Text", some "blank")) fd
  f_List_init : ∃ fd, FunD K "__init__" "List.__init__" (defArgs s_List_init) (defBody s_List_init) (defScope s_List_init) [] [] (He.fAd K ("List", some "__init__")) fd
  f_List_word : ∃ fd, FunD K "word" "List.word" (defArgs s_List_word) (defBody s_List_word) (defScope s_List_word) [] [] (He.fAd K ("List", some "word")) fd
  f_List_words : ∃ fd, FunD K "words" "List.words" (defArgs s_List_words) (defBody s_List_words) (defScope s_List_words) [] [] (He.fAd K ("List", some "words")) fd
  f_List_is_plain : ∃ fd, FunD K "is_plain" "List.is_plain" (defArgs s_List_is_plain) (defBody s_List_is_plain) (defScope s_List_is_plain) [] [] (He.fAd K ("List", some "is_plain")) fd
  f_List_shape : ∃ fd, FunD K "shape" "List.shape" (defArgs s_List_shape) (defBody s_List_shape) (defScope s_List_shape) [] [] (He.fAd K ("List", some "shape")) fd
  f_List_suits : ∃ fd, FunD K "suits" "List.suits" (defArgs s_List_suits) (defBody s_List_suits) (defScope s_List_suits) [] [] (He.fAd K ("List", some "suits")) fd
  f_List_blank : ∃ fd, FunD K "blank" "List.blank" (defArgs s_List_blank) (defBody s_List_blank) (defScope s_List_blank) [] [] (He.fAd K ("List", some "blank")) fd
  f_Nested_init : ∃ fd, FunD K "__init__" "Nested.__init__" (defArgs s_Nested_init) (defBody s_Nested_init) (defScope s_Nested_init) [] [] (He.fAd K ("Nested", some "__init__")) fd
  f_Nested_word : ∃ fd, FunD K "word" "Nested.word" (defArgs s_Nested_word) (defBody s_Nested_word) (defScope s_Nested_word) [] [] (He.fAd K ("Nested", some "word")) fd
  f_Nested_words : ∃ fd, FunD K "words" "Nested.words" (defArgs s_Nested_words) (defBody s_Nested_words) (defScope s_Nested_words) [] [] (He.fAd K ("Nested", some "words")) fd
  f_Nested_is_plain : ∃ fd, FunD K "is_plain" "Nested.is_plain" (defArgs s_Nested_is_plain) (defBody s_Nested_is_plain) (defScope s_Nested_is_plain) [] [] (He.fAd K ("Nested", some "is_plain")) fd
  f_Nested_shape : ∃ fd, FunD K "shape" "Nested.shape" (defArgs s_Nested_shape) (defBody s_Nested_shape) (defScope s_Nested_shape) [] [] (He.fAd K ("Nested", some "shape")) fd
  f_Nested_suits : ∃ fd, FunD K "suits" "Nested.suits" (defArgs s_Nested_suits) (defBody s_Nested_suits) (defScope s_Nested_suits) [] [] (He.fAd K ("Nested", some "suits")) fd
  f_Nested_blank : ∃ fd, FunD K "blank" "Nested.blank" (defArgs s_Nested_blank) (defBody s_Nested_blank) (defScope s_Nested_blank) [] [] (He.fAd K ("Nested", some "blank")) fd
  f__law_number : ∃ fd, FunD K "_law_number" "_law_number" (defArgs s__law_number) (defBody s__law_number) (defScope s__law_number) [] [] (He.fAd K ("_law_number", none)) fd
  m__law_number : mg "_law_number" = some (.ref (He.fAd K ("_law_number", none)))
  f__law_mixed : ∃ fd, FunD K "_law_mixed" "_law_mixed" (defArgs s__law_mixed) (defBody s__law_mixed) (defScope s__law_mixed) [] [] (He.fAd K ("_law_mixed", none)) fd
  m__law_mixed : mg "_law_mixed" = some (.ref (He.fAd K ("_law_mixed", none)))
  f__law_names : ∃ fd, FunD K "_law_names" "_law_names" (defArgs s__law_names) (defBody s__law_names) (defScope s__law_names) [] [] (He.fAd K ("_law_names", none)) fd
  m__law_names : mg "_law_names" = some (.ref (He.fAd K ("_law_names", none)))
  f__law_bound : ∃ fd, FunD K "_law_bound" "_law_bound" (defArgs s__law_bound) (defBody s__law_bound) (defScope s__law_bound) [] [] (He.fAd K ("_law_bound", none)) fd
  m__law_bound : mg "_law_bound" = some (.ref (He.fAd K ("_law_bound", none)))
  f__law_drawn : ∃ fd, FunD K "_law_drawn" "_law_drawn" (defArgs s__law_drawn) (defBody s__law_drawn) (defScope s__law_drawn) [] [] (He.fAd K ("_law_drawn", none)) fd
  m__law_drawn : mg "_law_drawn" = some (.ref (He.fAd K ("_law_drawn", none)))
  f__law_made_of : ∃ fd, FunD K "_law_made_of" "_law_made_of" (defArgs s__law_made_of) (defBody s__law_made_of) (defScope s__law_made_of) [] [] (He.fAd K ("_law_made_of", none)) fd
  m__law_made_of : mg "_law_made_of" = some (.ref (He.fAd K ("_law_made_of", none)))
  f__law_words : ∃ fd, FunD K "_law_words" "_law_words" (defArgs s__law_words) (defBody s__law_words) (defScope s__law_words) [] [] (He.fAd K ("_law_words", none)) fd
  m__law_words : mg "_law_words" = some (.ref (He.fAd K ("_law_words", none)))
  f__law_width : ∃ fd, FunD K "_law_width" "_law_width" (defArgs s__law_width) (defBody s__law_width) (defScope s__law_width) [] [] (He.fAd K ("_law_width", none)) fd
  m__law_width : mg "_law_width" = some (.ref (He.fAd K ("_law_width", none)))
  f__law_suits : ∃ fd, FunD K "_law_suits" "_law_suits" (defArgs s__law_suits) (defBody s__law_suits) (defScope s__law_suits) [] [] (He.fAd K ("_law_suits", none)) fd
  m__law_suits : mg "_law_suits" = some (.ref (He.fAd K ("_law_suits", none)))
  f__law_asked_of : ∃ fd, FunD K "_law_asked_of" "_law_asked_of" (defArgs s__law_asked_of) (defBody s__law_asked_of) (defScope s__law_asked_of) [] [] (He.fAd K ("_law_asked_of", none)) fd
  m__law_asked_of : mg "_law_asked_of" = some (.ref (He.fAd K ("_law_asked_of", none)))
  f__law_right : ∃ fd, FunD K "_law_right" "_law_right" (defArgs s__law_right) (defBody s__law_right) (defScope s__law_right) [] [] (He.fAd K ("_law_right", none)) fd
  m__law_right : mg "_law_right" = some (.ref (He.fAd K ("_law_right", none)))
  f__law_held : ∃ fd, FunD K "_law_held" "_law_held" (defArgs s__law_held) (defBody s__law_held) (defScope s__law_held) [] [] (He.fAd K ("_law_held", none)) fd
  m__law_held : mg "_law_held" = some (.ref (He.fAd K ("_law_held", none)))
  f_law : ∃ fd, FunD K "law" "law" (defArgs s_law) (defBody s_law) (defScope s_law) [] [] (He.fAd K ("law", none)) fd
  m_law : mg "law" = some (.ref (He.fAd K ("law", none)))
  m_Kind : mg "Kind" = some (.ref (He.ga K "Kind"))
  c_Kind : InsK K (He.ga K "Kind")
  mk_Kind : Mk0 K (He.ga K "Kind")
  h_Kind_word : Meth K (He.ga K "Kind") "word" (He.fAd K ("Kind", some "word"))
  h_Kind_words : Meth K (He.ga K "Kind") "words" (He.fAd K ("Kind", some "words"))
  h_Kind_is_plain : Meth K (He.ga K "Kind") "is_plain" (He.fAd K ("Kind", some "is_plain"))
  h_Kind_shape : Meth K (He.ga K "Kind") "shape" (He.fAd K ("Kind", some "shape"))
  h_Kind_width : Meth K (He.ga K "Kind") "width" (He.fAd K ("Kind", some "width"))
  h_Kind_suits : Meth K (He.ga K "Kind") "suits" (He.fAd K ("Kind", some "suits"))
  h_Kind_blank : Meth K (He.ga K "Kind") "blank" (He.fAd K ("Kind", some "blank"))
  k_Kind_Kind : PySem.W.kitOne K (.ref (He.ga K "Kind")) (.ref (He.ga K "Kind")) = some true
  k_Kind_List : PySem.W.kitOne K (.ref (He.ga K "Kind")) (.ref (He.ga K "List")) = some false
  k_Kind_bool : PySem.W.kitOne K (.ref (He.ga K "Kind")) (.type "bool") = some false
  k_Kind_int : PySem.W.kitOne K (.ref (He.ga K "Kind")) (.type "int") = some false
  k_Kind_list : PySem.W.kitOne K (.ref (He.ga K "Kind")) (.type "list") = some false
  k_Kind_str : PySem.W.kitOne K (.ref (He.ga K "Kind")) (.type "str") = some false
  m_Truth : mg "Truth" = some (.ref (He.ga K "Truth"))
  c_Truth : InsK K (He.ga K "Truth")
  mk_Truth : Mk0 K (He.ga K "Truth")
  h_Truth_word : Meth K (He.ga K "Truth") "word" (He.fAd K ("Truth", some "word"))
  h_Truth_width : Meth K (He.ga K "Truth") "width" (He.fAd K ("Truth", some "width"))
  h_Truth_suits : Meth K (He.ga K "Truth") "suits" (He.fAd K ("Truth", some "suits"))
  h_Truth_blank : Meth K (He.ga K "Truth") "blank" (He.fAd K ("Truth", some "blank"))
  h_Truth_words : Meth K (He.ga K "Truth") "words" (He.fAd K ("Kind", some "words"))
  h_Truth_is_plain : Meth K (He.ga K "Truth") "is_plain" (He.fAd K ("Kind", some "is_plain"))
  h_Truth_shape : Meth K (He.ga K "Truth") "shape" (He.fAd K ("Kind", some "shape"))
  k_Truth_Kind : PySem.W.kitOne K (.ref (He.ga K "Truth")) (.ref (He.ga K "Kind")) = some true
  k_Truth_List : PySem.W.kitOne K (.ref (He.ga K "Truth")) (.ref (He.ga K "List")) = some false
  k_Truth_bool : PySem.W.kitOne K (.ref (He.ga K "Truth")) (.type "bool") = some false
  k_Truth_int : PySem.W.kitOne K (.ref (He.ga K "Truth")) (.type "int") = some false
  k_Truth_list : PySem.W.kitOne K (.ref (He.ga K "Truth")) (.type "list") = some false
  k_Truth_str : PySem.W.kitOne K (.ref (He.ga K "Truth")) (.type "str") = some false
  m_Count : mg "Count" = some (.ref (He.ga K "Count"))
  c_Count : InsK K (He.ga K "Count")
  mk_Count : Mk0 K (He.ga K "Count")
  h_Count_word : Meth K (He.ga K "Count") "word" (He.fAd K ("Count", some "word"))
  h_Count_suits : Meth K (He.ga K "Count") "suits" (He.fAd K ("Count", some "suits"))
  h_Count_words : Meth K (He.ga K "Count") "words" (He.fAd K ("Kind", some "words"))
  h_Count_is_plain : Meth K (He.ga K "Count") "is_plain" (He.fAd K ("Kind", some "is_plain"))
  h_Count_shape : Meth K (He.ga K "Count") "shape" (He.fAd K ("Kind", some "shape"))
  h_Count_width : Meth K (He.ga K "Count") "width" (He.fAd K ("Kind", some "width"))
  h_Count_blank : Meth K (He.ga K "Count") "blank" (He.fAd K ("Kind", some "blank"))
  k_Count_Kind : PySem.W.kitOne K (.ref (He.ga K "Count")) (.ref (He.ga K "Kind")) = some true
  k_Count_List : PySem.W.kitOne K (.ref (He.ga K "Count")) (.ref (He.ga K "List")) = some false
  k_Count_bool : PySem.W.kitOne K (.ref (He.ga K "Count")) (.type "bool") = some false
  k_Count_int : PySem.W.kitOne K (.ref (He.ga K "Count")) (.type "int") = some false
  k_Count_list : PySem.W.kitOne K (.ref (He.ga K "Count")) (.type "list") = some false
  k_Count_str : PySem.W.kitOne K (.ref (He.ga K "Count")) (.type "str") = some false
  m_Whole : mg "Whole" = some (.ref (He.ga K "Whole"))
  c_Whole : InsK K (He.ga K "Whole")
  mk_Whole : Mk0 K (He.ga K "Whole")
  h_Whole_word : Meth K (He.ga K "Whole") "word" (He.fAd K ("Whole", some "word"))
  h_Whole_suits : Meth K (He.ga K "Whole") "suits" (He.fAd K ("Whole", some "suits"))
  h_Whole_words : Meth K (He.ga K "Whole") "words" (He.fAd K ("Kind", some "words"))
  h_Whole_is_plain : Meth K (He.ga K "Whole") "is_plain" (He.fAd K ("Kind", some "is_plain"))
  h_Whole_shape : Meth K (He.ga K "Whole") "shape" (He.fAd K ("Kind", some "shape"))
  h_Whole_width : Meth K (He.ga K "Whole") "width" (He.fAd K ("Kind", some "width"))
  h_Whole_blank : Meth K (He.ga K "Whole") "blank" (He.fAd K ("Kind", some "blank"))
  k_Whole_Kind : PySem.W.kitOne K (.ref (He.ga K "Whole")) (.ref (He.ga K "Kind")) = some true
  k_Whole_List : PySem.W.kitOne K (.ref (He.ga K "Whole")) (.ref (He.ga K "List")) = some false
  k_Whole_bool : PySem.W.kitOne K (.ref (He.ga K "Whole")) (.type "bool") = some false
  k_Whole_int : PySem.W.kitOne K (.ref (He.ga K "Whole")) (.type "int") = some false
  k_Whole_list : PySem.W.kitOne K (.ref (He.ga K "Whole")) (.type "list") = some false
  k_Whole_str : PySem.W.kitOne K (.ref (He.ga K "Whole")) (.type "str") = some false
  m_Upto : mg "Upto" = some (.ref (He.ga K "Upto"))
  c_Upto : InsK K (He.ga K "Upto")
  mk_Upto : Mk K (He.ga K "Upto") (He.fAd K ("Upto", some "__init__"))
  h_Upto_word : Meth K (He.ga K "Upto") "word" (He.fAd K ("Upto", some "word"))
  h_Upto_words : Meth K (He.ga K "Upto") "words" (He.fAd K ("Upto", some "words"))
  h_Upto_width : Meth K (He.ga K "Upto") "width" (He.fAd K ("Upto", some "width"))
  h_Upto_suits : Meth K (He.ga K "Upto") "suits" (He.fAd K ("Upto", some "suits"))
  h_Upto_is_plain : Meth K (He.ga K "Upto") "is_plain" (He.fAd K ("Kind", some "is_plain"))
  h_Upto_shape : Meth K (He.ga K "Upto") "shape" (He.fAd K ("Kind", some "shape"))
  h_Upto_blank : Meth K (He.ga K "Upto") "blank" (He.fAd K ("Kind", some "blank"))
  a_Upto_most : NoAttr K (He.ga K "Upto") "most"
  k_Upto_Kind : PySem.W.kitOne K (.ref (He.ga K "Upto")) (.ref (He.ga K "Kind")) = some true
  k_Upto_List : PySem.W.kitOne K (.ref (He.ga K "Upto")) (.ref (He.ga K "List")) = some false
  k_Upto_bool : PySem.W.kitOne K (.ref (He.ga K "Upto")) (.type "bool") = some false
  k_Upto_int : PySem.W.kitOne K (.ref (He.ga K "Upto")) (.type "int") = some false
  k_Upto_list : PySem.W.kitOne K (.ref (He.ga K "Upto")) (.type "list") = some false
  k_Upto_str : PySem.W.kitOne K (.ref (He.ga K "Upto")) (.type "str") = some false
  m_Text : mg "Text" = some (.ref (He.ga K "Text"))
  c_Text : InsK K (He.ga K "Text")
  mk_Text : Mk K (He.ga K "Text") (He.fAd K ("Text", some "__init__"))
  h_Text_word : Meth K (He.ga K "Text") "word" (He.fAd K ("Text", some "word"))
  h_Text_words : Meth K (He.ga K "Text") "words" (He.fAd K ("Text", some "words"))
  h_Text_shape : Meth K (He.ga K "Text") "shape" (He.fAd K ("Text", some "shape"))
  h_Text_suits : Meth K (He.ga K "Text") "suits" (He.fAd K ("Text", some "suits"))
  h_Text_blank : Meth K (He.ga K "Text") "blank" (He.fAd K ("Text", some "blank"))
  h_Text_is_plain : Meth K (He.ga K "Text") "is_plain" (He.fAd K ("Kind", some "is_plain"))
  h_Text_width : Meth K (He.ga K "Text") "width" (He.fAd K ("Kind", some "width"))
  a_Text_most : NoAttr K (He.ga K "Text") "most"
  k_Text_Kind : PySem.W.kitOne K (.ref (He.ga K "Text")) (.ref (He.ga K "Kind")) = some true
  k_Text_List : PySem.W.kitOne K (.ref (He.ga K "Text")) (.ref (He.ga K "List")) = some false
  k_Text_bool : PySem.W.kitOne K (.ref (He.ga K "Text")) (.type "bool") = some false
  k_Text_int : PySem.W.kitOne K (.ref (He.ga K "Text")) (.type "int") = some false
  k_Text_list : PySem.W.kitOne K (.ref (He.ga K "Text")) (.type "list") = some false
  k_Text_str : PySem.W.kitOne K (.ref (He.ga K "Text")) (.type "str") = some false
  m_List : mg "List" = some (.ref (He.ga K "List"))
  c_List : InsK K (He.ga K "List")
  mk_List : Mk K (He.ga K "List") (He.fAd K ("List", some "__init__"))
  h_List_word : Meth K (He.ga K "List") "word" (He.fAd K ("List", some "word"))
  h_List_words : Meth K (He.ga K "List") "words" (He.fAd K ("List", some "words"))
  h_List_is_plain : Meth K (He.ga K "List") "is_plain" (He.fAd K ("List", some "is_plain"))
  h_List_shape : Meth K (He.ga K "List") "shape" (He.fAd K ("List", some "shape"))
  h_List_suits : Meth K (He.ga K "List") "suits" (He.fAd K ("List", some "suits"))
  h_List_blank : Meth K (He.ga K "List") "blank" (He.fAd K ("List", some "blank"))
  h_List_width : Meth K (He.ga K "List") "width" (He.fAd K ("Kind", some "width"))
  a_List_item : NoAttr K (He.ga K "List") "item"
  k_List_Kind : PySem.W.kitOne K (.ref (He.ga K "List")) (.ref (He.ga K "Kind")) = some true
  k_List_List : PySem.W.kitOne K (.ref (He.ga K "List")) (.ref (He.ga K "List")) = some true
  k_List_bool : PySem.W.kitOne K (.ref (He.ga K "List")) (.type "bool") = some false
  k_List_int : PySem.W.kitOne K (.ref (He.ga K "List")) (.type "int") = some false
  k_List_list : PySem.W.kitOne K (.ref (He.ga K "List")) (.type "list") = some false
  k_List_str : PySem.W.kitOne K (.ref (He.ga K "List")) (.type "str") = some false
  m_Nested : mg "Nested" = some (.ref (He.ga K "Nested"))
  c_Nested : InsK K (He.ga K "Nested")
  mk_Nested : Mk K (He.ga K "Nested") (He.fAd K ("Nested", some "__init__"))
  h_Nested_word : Meth K (He.ga K "Nested") "word" (He.fAd K ("Nested", some "word"))
  h_Nested_words : Meth K (He.ga K "Nested") "words" (He.fAd K ("Nested", some "words"))
  h_Nested_is_plain : Meth K (He.ga K "Nested") "is_plain" (He.fAd K ("Nested", some "is_plain"))
  h_Nested_shape : Meth K (He.ga K "Nested") "shape" (He.fAd K ("Nested", some "shape"))
  h_Nested_suits : Meth K (He.ga K "Nested") "suits" (He.fAd K ("Nested", some "suits"))
  h_Nested_blank : Meth K (He.ga K "Nested") "blank" (He.fAd K ("Nested", some "blank"))
  h_Nested_width : Meth K (He.ga K "Nested") "width" (He.fAd K ("Kind", some "width"))
  a_Nested_name : NoAttr K (He.ga K "Nested") "name"
  k_Nested_Kind : PySem.W.kitOne K (.ref (He.ga K "Nested")) (.ref (He.ga K "Kind")) = some true
  k_Nested_List : PySem.W.kitOne K (.ref (He.ga K "Nested")) (.ref (He.ga K "List")) = some false
  k_Nested_bool : PySem.W.kitOne K (.ref (He.ga K "Nested")) (.type "bool") = some false
  k_Nested_int : PySem.W.kitOne K (.ref (He.ga K "Nested")) (.type "int") = some false
  k_Nested_list : PySem.W.kitOne K (.ref (He.ga K "Nested")) (.type "list") = some false
  k_Nested_str : PySem.W.kitOne K (.ref (He.ga K "Nested")) (.type "str") = some false
  kt_NoneType_Kind : PySem.W.kitOne K (.type "NoneType") (.ref (He.ga K "Kind")) = some false
  kt_NoneType_List : PySem.W.kitOne K (.type "NoneType") (.ref (He.ga K "List")) = some false
  kt_int_Kind : PySem.W.kitOne K (.type "int") (.ref (He.ga K "Kind")) = some false
  kt_int_List : PySem.W.kitOne K (.type "int") (.ref (He.ga K "List")) = some false
  kt_bool_Kind : PySem.W.kitOne K (.type "bool") (.ref (He.ga K "Kind")) = some false
  kt_bool_List : PySem.W.kitOne K (.type "bool") (.ref (He.ga K "List")) = some false
  kt_str_Kind : PySem.W.kitOne K (.type "str") (.ref (He.ga K "Kind")) = some false
  kt_str_List : PySem.W.kitOne K (.type "str") (.ref (He.ga K "List")) = some false
  kt_list_Kind : PySem.W.kitOne K (.type "list") (.ref (He.ga K "Kind")) = some false
  kt_list_List : PySem.W.kitOne K (.type "list") (.ref (He.ga K "List")) = some false
  kt_tuple_Kind : PySem.W.kitOne K (.type "tuple") (.ref (He.ga K "Kind")) = some false
  kt_tuple_List : PySem.W.kitOne K (.type "tuple") (.ref (He.ga K "List")) = some false
  kt_dict_Kind : PySem.W.kitOne K (.type "dict") (.ref (He.ga K "Kind")) = some false
  kt_dict_List : PySem.W.kitOne K (.type "dict") (.ref (He.ga K "List")) = some false
theorem txt_of {w : World} {h : Heap} {K : PySem.W.Frag} {mg : Str → Option Value} (X : K.In h) (G : h.Ns mainGlobals mg) (c : He.SaysX fa fn [] [] exB w h K) : Txt K mg where
  n_all := He.free_ok X G (c.t.d.fact 0 (f := .free "all") rfl)
  n_bool := He.free_ok X G (c.t.d.fact 1 (f := .free "bool") rfl)
  n_int := He.free_ok X G (c.t.d.fact 2 (f := .free "int") rfl)
  n_isinstance := He.free_ok X G (c.t.d.fact 3 (f := .free "isinstance") rfl)
  n_len := He.free_ok X G (c.t.d.fact 4 (f := .free "len") rfl)
  n_list := He.free_ok X G (c.t.d.fact 5 (f := .free "list") rfl)
  n_max := He.free_ok X G (c.t.d.fact 6 (f := .free "max") rfl)
  n_ord := He.free_ok X G (c.t.d.fact 7 (f := .free "ord") rfl)
  n_range := He.free_ok X G (c.t.d.fact 8 (f := .free "range") rfl)
  n_str := He.free_ok X G (c.t.d.fact 9 (f := .free "str") rfl)
  n_zip := He.free_ok X G (c.t.d.fact 10 (f := .free "zip") rfl)
  g_MOST_NUMBER := (by obtain ⟨t, e⟩ := He.int_ok X G (c.t.d.fact 11 (f := .int "MOST_NUMBER" 115792089237316195423570985008687907853269984665640564039457584007913129639935) rfl); exact ⟨_, e, t, rfl⟩)
  g_MOST_SIGNS := (by obtain ⟨t, e⟩ := He.int_ok X G (c.t.d.fact 12 (f := .int "MOST_SIGNS" 100) rfl); exact ⟨_, e, t, rfl⟩)
  g_MOST_THINGS := (by obtain ⟨t, e⟩ := He.int_ok X G (c.t.d.fact 13 (f := .int "MOST_THINGS" 20) rfl); exact ⟨_, e, t, rfl⟩)
  g_WIDEST := (by obtain ⟨t, e⟩ := He.int_ok X G (c.t.d.fact 14 (f := .int "WIDEST" 255) rfl); exact ⟨_, e, t, rfl⟩)
  g_NO_SIGN := (by obtain ⟨t, e⟩ := He.int_ok X G (c.t.d.fact 15 (f := .int "NO_SIGN" 37) rfl); exact ⟨_, e, t, rfl⟩)
  f_is_whole := c.t.d.def_ 0 rfl
  m_is_whole := He.glo_ok X G (c.t.d.fact 16 (f := .glo "is_whole") rfl)
  f_is_among := c.t.d.def_ 1 rfl
  m_is_among := He.glo_ok X G (c.t.d.fact 17 (f := .glo "is_among") rfl)
  f_number_text := c.t.d.def_ 2 rfl
  m_number_text := He.glo_ok X G (c.t.d.fact 18 (f := .glo "number_text") rfl)
  f_is_sign := c.t.d.def_ 3 rfl
  m_is_sign := He.glo_ok X G (c.t.d.fact 19 (f := .glo "is_sign") rfl)
  f_Kind_word := c.t.d.def_ 4 rfl
  f_Kind_words := c.t.d.def_ 5 rfl
  f_Kind_is_plain := c.t.d.def_ 6 rfl
  f_Kind_shape := c.t.d.def_ 7 rfl
  f_Kind_width := c.t.d.def_ 8 rfl
  f_Kind_suits := c.t.d.def_ 9 rfl
  f_Kind_blank := c.t.d.def_ 10 rfl
  f_Truth_word := c.t.d.def_ 11 rfl
  f_Truth_width := c.t.d.def_ 12 rfl
  f_Truth_suits := c.t.d.def_ 13 rfl
  f_Truth_blank := c.t.d.def_ 14 rfl
  f_Count_word := c.t.d.def_ 15 rfl
  f_Count_suits := c.t.d.def_ 16 rfl
  f_Whole_word := c.t.d.def_ 17 rfl
  f_Whole_suits := c.t.d.def_ 18 rfl
  f_Upto_init := c.t.d.def_ 19 rfl
  f_Upto_word := c.t.d.def_ 20 rfl
  f_Upto_words := c.t.d.def_ 21 rfl
  f_Upto_width := c.t.d.def_ 22 rfl
  f_Upto_suits := c.t.d.def_ 23 rfl
  f_Text_init := c.t.d.def_ 24 rfl
  f_Text_word := c.t.d.def_ 25 rfl
  f_Text_words := c.t.d.def_ 26 rfl
  f_Text_shape := c.t.d.def_ 27 rfl
  f_Text_suits := c.t.d.def_ 28 rfl
  f_Text_blank := c.t.d.def_ 29 rfl
  f_List_init := c.t.d.def_ 30 rfl
  f_List_word := c.t.d.def_ 31 rfl
  f_List_words := c.t.d.def_ 32 rfl
  f_List_is_plain := c.t.d.def_ 33 rfl
  f_List_shape := c.t.d.def_ 34 rfl
  f_List_suits := c.t.d.def_ 35 rfl
  f_List_blank := c.t.d.def_ 36 rfl
  f_Nested_init := c.t.d.def_ 37 rfl
  f_Nested_word := c.t.d.def_ 38 rfl
  f_Nested_words := c.t.d.def_ 39 rfl
  f_Nested_is_plain := c.t.d.def_ 40 rfl
  f_Nested_shape := c.t.d.def_ 41 rfl
  f_Nested_suits := c.t.d.def_ 42 rfl
  f_Nested_blank := c.t.d.def_ 43 rfl
  f__law_number := c.t.d.def_ 44 rfl
  m__law_number := He.glo_ok X G (c.t.d.fact 20 (f := .glo "_law_number") rfl)
  f__law_mixed := c.t.d.def_ 45 rfl
  m__law_mixed := He.glo_ok X G (c.t.d.fact 21 (f := .glo "_law_mixed") rfl)
  f__law_names := c.t.d.def_ 46 rfl
  m__law_names := He.glo_ok X G (c.t.d.fact 22 (f := .glo "_law_names") rfl)
  f__law_bound := c.t.d.def_ 47 rfl
  m__law_bound := He.glo_ok X G (c.t.d.fact 23 (f := .glo "_law_bound") rfl)
  f__law_drawn := c.t.d.def_ 48 rfl
  m__law_drawn := He.glo_ok X G (c.t.d.fact 24 (f := .glo "_law_drawn") rfl)
  f__law_made_of := c.t.d.def_ 49 rfl
  m__law_made_of := He.glo_ok X G (c.t.d.fact 25 (f := .glo "_law_made_of") rfl)
  f__law_words := c.t.d.def_ 50 rfl
  m__law_words := He.glo_ok X G (c.t.d.fact 26 (f := .glo "_law_words") rfl)
  f__law_width := c.t.d.def_ 51 rfl
  m__law_width := He.glo_ok X G (c.t.d.fact 27 (f := .glo "_law_width") rfl)
  f__law_suits := c.t.d.def_ 52 rfl
  m__law_suits := He.glo_ok X G (c.t.d.fact 28 (f := .glo "_law_suits") rfl)
  f__law_asked_of := c.t.d.def_ 53 rfl
  m__law_asked_of := He.glo_ok X G (c.t.d.fact 29 (f := .glo "_law_asked_of") rfl)
  f__law_right := c.t.d.def_ 54 rfl
  m__law_right := He.glo_ok X G (c.t.d.fact 30 (f := .glo "_law_right") rfl)
  f__law_held := c.t.d.def_ 55 rfl
  m__law_held := He.glo_ok X G (c.t.d.fact 31 (f := .glo "_law_held") rfl)
  f_law := c.t.d.def_ 56 rfl
  m_law := He.glo_ok X G (c.t.d.fact 32 (f := .glo "law") rfl)
  m_Kind := He.glo_ok X G (c.t.d.fact 33 (f := .glo "Kind") rfl)
  c_Kind := Z.ins_ok (more_of c.more 0 (f := .ins "Kind") rfl)
  mk_Kind := Z.mk0_ok (more_of c.more 1 (f := .mk0 "Kind") rfl)
  h_Kind_word := Z.fnd_ok (more_of c.more 2 (f := .fnd "Kind" "word" ("Kind", some "word")) rfl)
  h_Kind_words := Z.fnd_ok (more_of c.more 3 (f := .fnd "Kind" "words" ("Kind", some "words")) rfl)
  h_Kind_is_plain := Z.fnd_ok (more_of c.more 4 (f := .fnd "Kind" "is_plain" ("Kind", some "is_plain")) rfl)
  h_Kind_shape := Z.fnd_ok (more_of c.more 5 (f := .fnd "Kind" "shape" ("Kind", some "shape")) rfl)
  h_Kind_width := Z.fnd_ok (more_of c.more 6 (f := .fnd "Kind" "width" ("Kind", some "width")) rfl)
  h_Kind_suits := Z.fnd_ok (more_of c.more 7 (f := .fnd "Kind" "suits" ("Kind", some "suits")) rfl)
  h_Kind_blank := Z.fnd_ok (more_of c.more 8 (f := .fnd "Kind" "blank" ("Kind", some "blank")) rfl)
  k_Kind_Kind := kit_ok (more_of c.more 9 (f := .kit "Kind" "Kind" true) rfl)
  k_Kind_List := kit_ok (more_of c.more 10 (f := .kit "Kind" "List" false) rfl)
  k_Kind_bool := kitT_ok (more_of c.more 11 (f := .kitT "Kind" "bool" false) rfl)
  k_Kind_int := kitT_ok (more_of c.more 12 (f := .kitT "Kind" "int" false) rfl)
  k_Kind_list := kitT_ok (more_of c.more 13 (f := .kitT "Kind" "list" false) rfl)
  k_Kind_str := kitT_ok (more_of c.more 14 (f := .kitT "Kind" "str" false) rfl)
  m_Truth := He.glo_ok X G (c.t.d.fact 34 (f := .glo "Truth") rfl)
  c_Truth := Z.ins_ok (more_of c.more 15 (f := .ins "Truth") rfl)
  mk_Truth := Z.mk0_ok (more_of c.more 16 (f := .mk0 "Truth") rfl)
  h_Truth_word := Z.fnd_ok (more_of c.more 17 (f := .fnd "Truth" "word" ("Truth", some "word")) rfl)
  h_Truth_width := Z.fnd_ok (more_of c.more 18 (f := .fnd "Truth" "width" ("Truth", some "width")) rfl)
  h_Truth_suits := Z.fnd_ok (more_of c.more 19 (f := .fnd "Truth" "suits" ("Truth", some "suits")) rfl)
  h_Truth_blank := Z.fnd_ok (more_of c.more 20 (f := .fnd "Truth" "blank" ("Truth", some "blank")) rfl)
  h_Truth_words := Z.fnd_ok (more_of c.more 21 (f := .fnd "Truth" "words" ("Kind", some "words")) rfl)
  h_Truth_is_plain := Z.fnd_ok (more_of c.more 22 (f := .fnd "Truth" "is_plain" ("Kind", some "is_plain")) rfl)
  h_Truth_shape := Z.fnd_ok (more_of c.more 23 (f := .fnd "Truth" "shape" ("Kind", some "shape")) rfl)
  k_Truth_Kind := kit_ok (more_of c.more 24 (f := .kit "Truth" "Kind" true) rfl)
  k_Truth_List := kit_ok (more_of c.more 25 (f := .kit "Truth" "List" false) rfl)
  k_Truth_bool := kitT_ok (more_of c.more 26 (f := .kitT "Truth" "bool" false) rfl)
  k_Truth_int := kitT_ok (more_of c.more 27 (f := .kitT "Truth" "int" false) rfl)
  k_Truth_list := kitT_ok (more_of c.more 28 (f := .kitT "Truth" "list" false) rfl)
  k_Truth_str := kitT_ok (more_of c.more 29 (f := .kitT "Truth" "str" false) rfl)
  m_Count := He.glo_ok X G (c.t.d.fact 35 (f := .glo "Count") rfl)
  c_Count := Z.ins_ok (more_of c.more 30 (f := .ins "Count") rfl)
  mk_Count := Z.mk0_ok (more_of c.more 31 (f := .mk0 "Count") rfl)
  h_Count_word := Z.fnd_ok (more_of c.more 32 (f := .fnd "Count" "word" ("Count", some "word")) rfl)
  h_Count_suits := Z.fnd_ok (more_of c.more 33 (f := .fnd "Count" "suits" ("Count", some "suits")) rfl)
  h_Count_words := Z.fnd_ok (more_of c.more 34 (f := .fnd "Count" "words" ("Kind", some "words")) rfl)
  h_Count_is_plain := Z.fnd_ok (more_of c.more 35 (f := .fnd "Count" "is_plain" ("Kind", some "is_plain")) rfl)
  h_Count_shape := Z.fnd_ok (more_of c.more 36 (f := .fnd "Count" "shape" ("Kind", some "shape")) rfl)
  h_Count_width := Z.fnd_ok (more_of c.more 37 (f := .fnd "Count" "width" ("Kind", some "width")) rfl)
  h_Count_blank := Z.fnd_ok (more_of c.more 38 (f := .fnd "Count" "blank" ("Kind", some "blank")) rfl)
  k_Count_Kind := kit_ok (more_of c.more 39 (f := .kit "Count" "Kind" true) rfl)
  k_Count_List := kit_ok (more_of c.more 40 (f := .kit "Count" "List" false) rfl)
  k_Count_bool := kitT_ok (more_of c.more 41 (f := .kitT "Count" "bool" false) rfl)
  k_Count_int := kitT_ok (more_of c.more 42 (f := .kitT "Count" "int" false) rfl)
  k_Count_list := kitT_ok (more_of c.more 43 (f := .kitT "Count" "list" false) rfl)
  k_Count_str := kitT_ok (more_of c.more 44 (f := .kitT "Count" "str" false) rfl)
  m_Whole := He.glo_ok X G (c.t.d.fact 36 (f := .glo "Whole") rfl)
  c_Whole := Z.ins_ok (more_of c.more 45 (f := .ins "Whole") rfl)
  mk_Whole := Z.mk0_ok (more_of c.more 46 (f := .mk0 "Whole") rfl)
  h_Whole_word := Z.fnd_ok (more_of c.more 47 (f := .fnd "Whole" "word" ("Whole", some "word")) rfl)
  h_Whole_suits := Z.fnd_ok (more_of c.more 48 (f := .fnd "Whole" "suits" ("Whole", some "suits")) rfl)
  h_Whole_words := Z.fnd_ok (more_of c.more 49 (f := .fnd "Whole" "words" ("Kind", some "words")) rfl)
  h_Whole_is_plain := Z.fnd_ok (more_of c.more 50 (f := .fnd "Whole" "is_plain" ("Kind", some "is_plain")) rfl)
  h_Whole_shape := Z.fnd_ok (more_of c.more 51 (f := .fnd "Whole" "shape" ("Kind", some "shape")) rfl)
  h_Whole_width := Z.fnd_ok (more_of c.more 52 (f := .fnd "Whole" "width" ("Kind", some "width")) rfl)
  h_Whole_blank := Z.fnd_ok (more_of c.more 53 (f := .fnd "Whole" "blank" ("Kind", some "blank")) rfl)
  k_Whole_Kind := kit_ok (more_of c.more 54 (f := .kit "Whole" "Kind" true) rfl)
  k_Whole_List := kit_ok (more_of c.more 55 (f := .kit "Whole" "List" false) rfl)
  k_Whole_bool := kitT_ok (more_of c.more 56 (f := .kitT "Whole" "bool" false) rfl)
  k_Whole_int := kitT_ok (more_of c.more 57 (f := .kitT "Whole" "int" false) rfl)
  k_Whole_list := kitT_ok (more_of c.more 58 (f := .kitT "Whole" "list" false) rfl)
  k_Whole_str := kitT_ok (more_of c.more 59 (f := .kitT "Whole" "str" false) rfl)
  m_Upto := He.glo_ok X G (c.t.d.fact 37 (f := .glo "Upto") rfl)
  c_Upto := Z.ins_ok (more_of c.more 60 (f := .ins "Upto") rfl)
  mk_Upto := Z.mk_ok (more_of c.more 61 (f := .mk "Upto" ("Upto", some "__init__")) rfl)
  h_Upto_word := Z.fnd_ok (more_of c.more 62 (f := .fnd "Upto" "word" ("Upto", some "word")) rfl)
  h_Upto_words := Z.fnd_ok (more_of c.more 63 (f := .fnd "Upto" "words" ("Upto", some "words")) rfl)
  h_Upto_width := Z.fnd_ok (more_of c.more 64 (f := .fnd "Upto" "width" ("Upto", some "width")) rfl)
  h_Upto_suits := Z.fnd_ok (more_of c.more 65 (f := .fnd "Upto" "suits" ("Upto", some "suits")) rfl)
  h_Upto_is_plain := Z.fnd_ok (more_of c.more 66 (f := .fnd "Upto" "is_plain" ("Kind", some "is_plain")) rfl)
  h_Upto_shape := Z.fnd_ok (more_of c.more 67 (f := .fnd "Upto" "shape" ("Kind", some "shape")) rfl)
  h_Upto_blank := Z.fnd_ok (more_of c.more 68 (f := .fnd "Upto" "blank" ("Kind", some "blank")) rfl)
  a_Upto_most := Z.noa_ok (more_of c.more 69 (f := .noa "Upto" "most") rfl)
  k_Upto_Kind := kit_ok (more_of c.more 70 (f := .kit "Upto" "Kind" true) rfl)
  k_Upto_List := kit_ok (more_of c.more 71 (f := .kit "Upto" "List" false) rfl)
  k_Upto_bool := kitT_ok (more_of c.more 72 (f := .kitT "Upto" "bool" false) rfl)
  k_Upto_int := kitT_ok (more_of c.more 73 (f := .kitT "Upto" "int" false) rfl)
  k_Upto_list := kitT_ok (more_of c.more 74 (f := .kitT "Upto" "list" false) rfl)
  k_Upto_str := kitT_ok (more_of c.more 75 (f := .kitT "Upto" "str" false) rfl)
  m_Text := He.glo_ok X G (c.t.d.fact 38 (f := .glo "Text") rfl)
  c_Text := Z.ins_ok (more_of c.more 76 (f := .ins "Text") rfl)
  mk_Text := Z.mk_ok (more_of c.more 77 (f := .mk "Text" ("Text", some "__init__")) rfl)
  h_Text_word := Z.fnd_ok (more_of c.more 78 (f := .fnd "Text" "word" ("Text", some "word")) rfl)
  h_Text_words := Z.fnd_ok (more_of c.more 79 (f := .fnd "Text" "words" ("Text", some "words")) rfl)
  h_Text_shape := Z.fnd_ok (more_of c.more 80 (f := .fnd "Text" "shape" ("Text", some "shape")) rfl)
  h_Text_suits := Z.fnd_ok (more_of c.more 81 (f := .fnd "Text" "suits" ("Text", some "suits")) rfl)
  h_Text_blank := Z.fnd_ok (more_of c.more 82 (f := .fnd "Text" "blank" ("Text", some "blank")) rfl)
  h_Text_is_plain := Z.fnd_ok (more_of c.more 83 (f := .fnd "Text" "is_plain" ("Kind", some "is_plain")) rfl)
  h_Text_width := Z.fnd_ok (more_of c.more 84 (f := .fnd "Text" "width" ("Kind", some "width")) rfl)
  a_Text_most := Z.noa_ok (more_of c.more 85 (f := .noa "Text" "most") rfl)
  k_Text_Kind := kit_ok (more_of c.more 86 (f := .kit "Text" "Kind" true) rfl)
  k_Text_List := kit_ok (more_of c.more 87 (f := .kit "Text" "List" false) rfl)
  k_Text_bool := kitT_ok (more_of c.more 88 (f := .kitT "Text" "bool" false) rfl)
  k_Text_int := kitT_ok (more_of c.more 89 (f := .kitT "Text" "int" false) rfl)
  k_Text_list := kitT_ok (more_of c.more 90 (f := .kitT "Text" "list" false) rfl)
  k_Text_str := kitT_ok (more_of c.more 91 (f := .kitT "Text" "str" false) rfl)
  m_List := He.glo_ok X G (c.t.d.fact 39 (f := .glo "List") rfl)
  c_List := Z.ins_ok (more_of c.more 92 (f := .ins "List") rfl)
  mk_List := Z.mk_ok (more_of c.more 93 (f := .mk "List" ("List", some "__init__")) rfl)
  h_List_word := Z.fnd_ok (more_of c.more 94 (f := .fnd "List" "word" ("List", some "word")) rfl)
  h_List_words := Z.fnd_ok (more_of c.more 95 (f := .fnd "List" "words" ("List", some "words")) rfl)
  h_List_is_plain := Z.fnd_ok (more_of c.more 96 (f := .fnd "List" "is_plain" ("List", some "is_plain")) rfl)
  h_List_shape := Z.fnd_ok (more_of c.more 97 (f := .fnd "List" "shape" ("List", some "shape")) rfl)
  h_List_suits := Z.fnd_ok (more_of c.more 98 (f := .fnd "List" "suits" ("List", some "suits")) rfl)
  h_List_blank := Z.fnd_ok (more_of c.more 99 (f := .fnd "List" "blank" ("List", some "blank")) rfl)
  h_List_width := Z.fnd_ok (more_of c.more 100 (f := .fnd "List" "width" ("Kind", some "width")) rfl)
  a_List_item := Z.noa_ok (more_of c.more 101 (f := .noa "List" "item") rfl)
  k_List_Kind := kit_ok (more_of c.more 102 (f := .kit "List" "Kind" true) rfl)
  k_List_List := kit_ok (more_of c.more 103 (f := .kit "List" "List" true) rfl)
  k_List_bool := kitT_ok (more_of c.more 104 (f := .kitT "List" "bool" false) rfl)
  k_List_int := kitT_ok (more_of c.more 105 (f := .kitT "List" "int" false) rfl)
  k_List_list := kitT_ok (more_of c.more 106 (f := .kitT "List" "list" false) rfl)
  k_List_str := kitT_ok (more_of c.more 107 (f := .kitT "List" "str" false) rfl)
  m_Nested := He.glo_ok X G (c.t.d.fact 40 (f := .glo "Nested") rfl)
  c_Nested := Z.ins_ok (more_of c.more 108 (f := .ins "Nested") rfl)
  mk_Nested := Z.mk_ok (more_of c.more 109 (f := .mk "Nested" ("Nested", some "__init__")) rfl)
  h_Nested_word := Z.fnd_ok (more_of c.more 110 (f := .fnd "Nested" "word" ("Nested", some "word")) rfl)
  h_Nested_words := Z.fnd_ok (more_of c.more 111 (f := .fnd "Nested" "words" ("Nested", some "words")) rfl)
  h_Nested_is_plain := Z.fnd_ok (more_of c.more 112 (f := .fnd "Nested" "is_plain" ("Nested", some "is_plain")) rfl)
  h_Nested_shape := Z.fnd_ok (more_of c.more 113 (f := .fnd "Nested" "shape" ("Nested", some "shape")) rfl)
  h_Nested_suits := Z.fnd_ok (more_of c.more 114 (f := .fnd "Nested" "suits" ("Nested", some "suits")) rfl)
  h_Nested_blank := Z.fnd_ok (more_of c.more 115 (f := .fnd "Nested" "blank" ("Nested", some "blank")) rfl)
  h_Nested_width := Z.fnd_ok (more_of c.more 116 (f := .fnd "Nested" "width" ("Kind", some "width")) rfl)
  a_Nested_name := Z.noa_ok (more_of c.more 117 (f := .noa "Nested" "name") rfl)
  k_Nested_Kind := kit_ok (more_of c.more 118 (f := .kit "Nested" "Kind" true) rfl)
  k_Nested_List := kit_ok (more_of c.more 119 (f := .kit "Nested" "List" false) rfl)
  k_Nested_bool := kitT_ok (more_of c.more 120 (f := .kitT "Nested" "bool" false) rfl)
  k_Nested_int := kitT_ok (more_of c.more 121 (f := .kitT "Nested" "int" false) rfl)
  k_Nested_list := kitT_ok (more_of c.more 122 (f := .kitT "Nested" "list" false) rfl)
  k_Nested_str := kitT_ok (more_of c.more 123 (f := .kitT "Nested" "str" false) rfl)
  kt_NoneType_Kind := kTO_ok (more_of c.more 124 (f := .kTO "NoneType" "Kind" false) rfl)
  kt_NoneType_List := kTO_ok (more_of c.more 125 (f := .kTO "NoneType" "List" false) rfl)
  kt_int_Kind := kTO_ok (more_of c.more 126 (f := .kTO "int" "Kind" false) rfl)
  kt_int_List := kTO_ok (more_of c.more 127 (f := .kTO "int" "List" false) rfl)
  kt_bool_Kind := kTO_ok (more_of c.more 128 (f := .kTO "bool" "Kind" false) rfl)
  kt_bool_List := kTO_ok (more_of c.more 129 (f := .kTO "bool" "List" false) rfl)
  kt_str_Kind := kTO_ok (more_of c.more 130 (f := .kTO "str" "Kind" false) rfl)
  kt_str_List := kTO_ok (more_of c.more 131 (f := .kTO "str" "List" false) rfl)
  kt_list_Kind := kTO_ok (more_of c.more 132 (f := .kTO "list" "Kind" false) rfl)
  kt_list_List := kTO_ok (more_of c.more 133 (f := .kTO "list" "List" false) rfl)
  kt_tuple_Kind := kTO_ok (more_of c.more 134 (f := .kTO "tuple" "Kind" false) rfl)
  kt_tuple_List := kTO_ok (more_of c.more 135 (f := .kTO "tuple" "List" false) rfl)
  kt_dict_Kind := kTO_ok (more_of c.more 136 (f := .kTO "dict" "Kind" false) rfl)
  kt_dict_List := kTO_ok (more_of c.more 137 (f := .kTO "dict" "List" false) rfl)
end K07

set_option maxRecDepth 100000
set_option maxHeartbeats 0
namespace K07
open PySem PySem.Spec PyProof.Rows L2 Z
abbrev R : PySem.W.OpenRow := PySem.W.OpenLaw.row PySem.Challenge.rw_formkin_k07_kinds
abbrev hk : PySem.W.Hook := He.hookX 5 fa fn [] [] exB
def ob (s : PySem.W.SharedT) : He.AlX := He.obsX 5 fa fn [] [] exB (HandSHeadRun.getT s)
theorem ob_eq (s : PySem.W.SharedT) : ob s = hk.obs s.abs := He.obsX_eq (HandSHeadRun.getT_eq s)
def loose_0 : List PySem.Str := ["is_whole", "is_among", "number_text", "MOST_NUMBER", "MOST_SIGNS", "MOST_THINGS", "WIDEST", "NO_SIGN", "is_sign", "Kind", "Truth", "Count", "Whole", "Upto", "Text", "List", "Nested", "_law_number", "_law_mixed", "_law_names", "_law_bound", "_law_drawn", "_law_made_of", "_law_words", "_law_width", "_law_suits", "_law_asked_of", "_law_right", "_law_held"]
abbrev loose : List PySem.Str := loose_0
theorem run (w : World) : HandSHeadRun.RunEq R (PySem.W.view R.prog [32]) hk ob 6000 loose w := by
  intro os
  kernel_rfl
end K07

set_option maxRecDepth 100000
set_option maxHeartbeats 4000000
namespace Z
open PySem PySem.Spec PyProof.Rows L2
open Evl (Ex)
theorem ifd {p : Prop} [Decidable p] {A B : Prop} (h1 : p → A) (h2 : ¬ p → B) : if decide p = true then A else B := by
  by_cases h : p
  · rw [if_pos (decide_eq_true h)]; exact h1 h
  · rw [if_neg (by rw [decide_eq_false h]; exact Bool.false_ne_true)]; exact h2 h
theorem ifnd {p : Prop} [Decidable p] {A B : Prop} (h1 : ¬ p → A) (h2 : p → B) : if (!decide p) = true then A else B := by
  by_cases h : p
  · rw [if_neg (by rw [decide_eq_true h]; exact Bool.false_ne_true)]; exact h2 h
  · rw [if_pos (by rw [decide_eq_false h]; rfl)]; exact h1 h
theorem ifb {k : Bool} {A B : Prop} (h1 : k = true → A) (h2 : k = false → B) : if k = true then A else B := by
  cases k with
  | true => rw [if_pos rfl]; exact h1 rfl
  | false => rw [if_neg Bool.false_ne_true]; exact h2 rfl
theorem ifT {A B : Prop} (h : A) : if true = true then A else B := by rw [if_pos rfl]; exact h
theorem ifF {A B : Prop} (h : B) : if false = true then A else B := by rw [if_neg Bool.false_ne_true]; exact h
section
variable {X : Cx} {σ : St} {H : Hp} {e : Expr} {Q : VK}
/-- a test whose answer is told ahead -/
theorem tcut {Q : Bool → Hp → Prop} (k : Bool) (h : wT X e σ H fun k' H' => k' = k ∧ H' = H) (q : Q k H) : wT X e σ H Q := h.imp fun v H' ⟨a, b⟩ => by rw [a, b]; exact q
theorem ecut (v : V) (h : wE X e σ H fun v' H' => v' = v ∧ H' = H) (q : Q v H) : wE X e σ H Q := h.imp fun v' H' ⟨a, b⟩ => by rw [a, b]; exact q
end
/-! ### built-ins by name -/
theorem bt_len : bootBuiltins "len" = some (.builtin "len") := by decide +kernel
theorem bt_isi : bootBuiltins "isinstance" = some (.builtin "isinstance") := by decide +kernel
theorem bt_min : bootBuiltins "min" = some (.builtin "min") := by decide +kernel
theorem bt_max : bootBuiltins "max" = some (.builtin "max") := by decide +kernel
theorem bt_abs : bootBuiltins "abs" = some (.builtin "abs") := by decide +kernel
theorem bt_all : bootBuiltins "all" = some (.builtin "all") := by decide +kernel
theorem bt_sum : bootBuiltins "sum" = some (.builtin "sum") := by decide +kernel
theorem bt_ord : bootBuiltins "ord" = some (.builtin "ord") := by decide +kernel
theorem bt_divmod : bootBuiltins "divmod" = some (.builtin "divmod") := by decide +kernel
theorem bt_sorted : bootBuiltins "sorted" = some (.builtin "sorted") := by decide +kernel
theorem bt_list : bootBuiltins "list" = some (.type "list") := by decide +kernel
theorem bt_tuple : bootBuiltins "tuple" = some (.type "tuple") := by decide +kernel
theorem bt_int : bootBuiltins "int" = some (.type "int") := by decide +kernel
theorem bt_bool : bootBuiltins "bool" = some (.type "bool") := by decide +kernel
theorem bt_str : bootBuiltins "str" = some (.type "str") := by decide +kernel
theorem bt_dict : bootBuiltins "dict" = some (.type "dict") := by decide +kernel
theorem bt_ValueError : bootBuiltins "ValueError" = some (.type "ValueError") := by decide +kernel
/-! ### heaps -/
theorem exl {K : PySem.W.Frag} {H H' : Hp} {a : Addr} {xs : List V} (h : SqL K H a xs) (e : Ex H H') : SqL K H' a xs := Evl.ex_l e h
theorem ext {K : PySem.W.Frag} {H H' : Hp} {a : Addr} {xs : List V} (h : SqT K H a xs) (e : Ex H H') : SqT K H' a xs := Evl.ex_t e h
theorem exa {H H' : Hp} {a : Addr} {o : HO} (h : H a = some o) (e : Ex H H') : H' a = some o := e a o h
theorem Ex.lst {H H' : Hp} (e : Ex H H') {a : Addr} {o : HO} (h : H a = some o) : H' a = some o := e a o h
theorem Ex.sq {K : PySem.W.Frag} {H H' : Hp} (e : Ex H H') {a : Addr} {xs : List V} (h : SqL K H a xs ∨ SqT K H a xs) : SqL K H' a xs ∨ SqT K H' a xs := h.elim (fun h => .inl (Evl.ex_l e h)) fun h => .inr (Evl.ex_t e h)
mutual
theorem Dp.ex {K : PySem.W.Frag} {H H' : Hp} (e : Ex H H') : ∀ {v : V} {d : PyData}, Dp K H v d → Dp K H' v d
  | _, _, .non => .non
  | _, _, .bl b => .bl b
  | _, _, .int i => .int i
  | _, _, .str x => .str x
  | _, _, .lst h a => .lst (Evl.ex_l e h) (DpAll.ex e a)
  | _, _, .tup h a => .tup (Evl.ex_t e h) (DpAll.ex e a)
theorem DpAll.ex {K : PySem.W.Frag} {H H' : Hp} (e : Ex H H') : ∀ {vs : List V} {ds : List PyData}, DpAll K H vs ds → DpAll K H' vs ds
  | _, _, .nil => .nil
  | _, _, .cons a b => .cons (Dp.ex e a) (DpAll.ex e b)
end
theorem DpAll.ints {K : PySem.W.Frag} {H : Hp} : ∀ ns : List Int, DpAll K H (ns.map V.int) (ns.map PyData.int)
  | [] => .nil
  | _ :: ns => .cons (.int _) (DpAll.ints ns)
theorem Dp.ints {K : PySem.W.Frag} {H : Hp} {a : Addr} {ns : List Int} (h : SqL K H a (ns.map V.int)) : Dp K H (.ref a) (.list (ns.map PyData.int)) := .lst h (DpAll.ints ns)
section
variable {X : Cx} {σ : St} {H : Hp} {e : Expr} {Q : VK} {D : Ends} {pos pos' : Pos}
/-- a class of the module as a value -/
theorem zcls {x : Str} {C : Addr} (hm : X.mg x = some (.ref C)) (hg : Gl X x) (h : Q (.ref C) H) (hd : (x == ("__debug__" : Str)) = false := by decide) : wE X (.Name x pos) σ H Q := ofE (pe_glob (v := .ref C) hg hm rfl hd) h
theorem zty {x : Str} {T : String} (hm : X.mg x = none) (hv : bootBuiltins x = some (.type T)) (hg : Gl X x) (h : Q (.ty T) H) (hn : x ≠ "__name__" := by decide) (hd : (x == ("__debug__" : Str)) = false := by decide) : wE X (.Name x pos) σ H Q := ofE (pe_bltn (v := .ty T) hg hm hv rfl hn hd) h
/-- name = e, the slot reckoned -/
theorem sset' {x : Str} (hN : X.N.Nodup) (hi : X.N[slotOf X.N x]? = some x) (hx : Loc X.env.scope x) (hs : swapsWith e (some (.Name x pos')) pos.line X.env = pure false) (hf : X.fn x = true ∨ X.env.scope.names.lookup x = some .local) (h : wE X e σ H fun v H1 => D.nx (σ.set (slotOf X.N x) (some v)) H1) : wS X (.Assign [.Name x pos'] e pos) D σ H :=
  sset (slotOf X.N x) hN h hi hx hs hf
theorem saug' {x : Str} {op : Operator} {v : V} (hN : X.N.Nodup) (hi : X.N[slotOf X.N x]? = some x) (hx : Loc X.env.scope x) (hf : X.fn x = true ∨ X.env.scope.names.lookup x = some .local) (hv : σ[slotOf X.N x]? = some (some v)) (h : wE X e σ H fun y H1 => wO X (inplaceOp op) v y H1 fun z H2 => D.nx (σ.set (slotOf X.N x) (some z)) H2) : wS X (.AugAssign (.Name x pos') op e pos) D σ H :=
  saug (slotOf X.N x) hN hv h hi hx hf
theorem gname' {x : Str} {v : V} {Q : St → Hp → Prop} (hN : X.N.Nodup) (hi : X.N[slotOf X.N x]? = some x) (hx : Loc X.env.scope x) (hf : X.fn x = true ∨ X.env.scope.names.lookup x = some .local) (h : Q (σ.set (slotOf X.N x) (some v)) H) : wG X (.Name x pos) v σ H Q := gname (slotOf X.N x) hN h hi hx hf
end
theorem Xd.exx {H H' : Hp} {dd : Option Addr} (h : Xd dd H) (e : Ex H H') : Xd dd H' := fun d q => by obtain ⟨fs, hf⟩ := h d q; exact ⟨fs, e d _ hf⟩
/-- tuples of a word and a truth each -/
inductive TupsAt (H : Hp) : List V → List (Str × Bool) → Prop
  | nil : TupsAt H [] []
  | cons {t : Addr} {w : Str} {b : Bool} {xs : List V} {ps : List (Str × Bool)} : H t = some (.tup [.str w, .bl b]) → TupsAt H xs ps → TupsAt H (.ref t :: xs) ((w, b) :: ps)
theorem TupsAt.length {H : Hp} : ∀ {xs : List V} {ps : List (Str × Bool)}, TupsAt H xs ps → xs.length = ps.length
  | _, _, .nil => rfl
  | _, _, .cons _ t => by rw [List.length_cons, List.length_cons, t.length]
theorem TupsAt.get {H : Hp} : ∀ {xs : List V} {ps : List (Str × Bool)} {i : Nat} {x : V}, TupsAt H xs ps → xs[i]? = some x → ∃ t p, x = .ref t ∧ ps[i]? = some p ∧ H t = some (.tup [.str p.1, .bl p.2])
  | _, _, _, _, .nil, h => by simp at h
  | _, _, 0, _, .cons r _, h => by simp at h; exact ⟨_, _, h.symm, rfl, r⟩
  | _, _, i + 1, _, .cons _ t, h => by obtain ⟨a, p, e1, e2, e3⟩ := t.get (i := i) (by simpa using h); exact ⟨a, p, e1, by simpa using e2, e3⟩
/-- the words whose truth is so -/
def kept (ps : List (Str × Bool)) : List V := (ps.filter (·.2)).map fun p => V.str p.1
theorem kept_succ {ps : List (Str × Bool)} {i : Nat} {p : Str × Bool} (h : ps[i]? = some p) : kept (ps.take (i + 1)) = kept (ps.take i) ++ (if p.2 = true then [V.str p.1] else []) := by
  obtain ⟨hl, rfl⟩ := List.getElem?_eq_some_iff.mp h
  rw [List.take_add_one, List.getElem?_eq_getElem hl]
  unfold kept
  rw [List.filter_append, List.map_append]
  cases e : (ps[i]).2 with
  | true => simp [e]
  | false => simp [e]
/-! ### the end of a law row: its promise, the bits of its script told -/
theorem walk_bits {l : PySem.W.OpenLaw} {n k : Nat} {q : Program} {loose : List Str} {XP : (Str → Option Value) → Heap → Prop} {YP : World → Heap → Prop} {d : DefRec} {x : Str} (hn : l.most = some n) (hn2 : n ≤ sizeLine) (hdf : d.params.defaults = []) (hr : Room k callerA)
    (F : ∀ (w : World) (mg : Str → Option Value) (fa : Addr) (h : Heap), YP w h → h.Ns mainGlobals mg → mg d.name = some (.ref fa) →
      ∃ (K : PySem.W.Frag) (fd : FuncData) (sp : Sp), K.In h ∧ (∀ (s : Shared) (u : Value), BindsTo s fd ⟨[u], []⟩ [(x, u)]) ∧
        (∀ (H : Hp) (a : Addr) (ns : List Int), ns.length ≤ n → (∀ z ∈ ns, Builtin.Int.intBits z ≤ 1048576) → Only H → SqL K H a (ns.map V.int) → sp [.ref a] H (fun v _ => v = .bl true) fun _ _ _ => False) ∧
        ∀ base : Heap, K.In base → base.Ns mainGlobals mg → FnOk l.prog w K mg base (L2N.CX l.prog w) k fa fd [x] sp) : PySem.W.WalkO q loose XP YP l.row.toRowW d [] (fun f vs => PySem.call f vs) := by
  refine Att.attach_callB hn hdf fun w s₀ s₁ mg mb fa o pm cd doc a vs ns G Y ho hd hcd hmg hobj hints hlen hbits hg => ?_
  obtain ⟨K, fd, sp, KX, hb, hsp, hF⟩ := F w mg fa _ Y G.T.g hmg
  refine law_call KX G.T.g G.T.b G.T.builtins G.T.nolimit hg hobj hints (Nat.le_trans hlen hn2) hr hF hb (fun H hO hS => hsp H a ns hlen hbits hO hS) fun H e s' hc => ?_
  obtain ⟨_, _, _, _, _, _, _, _, _, _, _, _, z⟩ := hc
  exact z
end Z

set_option maxRecDepth 100000
set_option maxHeartbeats 4000000
namespace Z
open PySem PySem.Spec PyProof.Rows L2
open Evl (Ex)
/-- a statement, then the rest, from what the statement leaves -/
theorem bcut {X : Cx} {st : Stmt} {sts : List Stmt} {D : Ends} {σ : St} {H : Hp} (R : St → Hp → Prop) (h : wS X st { D with nx := R } σ H) (q : ∀ σ' H', R σ' H' → wB X sts D σ' H') : wB X (st :: sts) D σ H :=
  bcons (h.imp q (fun _ _ z => z) (fun _ _ z => z) fun _ _ z => z)
theorem takesF {X : Cx} : L2N.Takes X (fun _ _ _ _ => False) := fun _ _ ⟨_, _, _, _, _, _, _, _, _, _, _, _, _, _, _, _, z⟩ => z.elim
/-! ### comprehensions -/
theorem wipe_get {σ : St} {k : Nat} : ∀ {vs : List Nat}, (wipe σ vs)[k]? = if k ∈ vs then (σ[k]?).map (fun _ => none) else σ[k]?
  | [] => by simp [wipe]
  | v :: vs => by
    unfold wipe
    rw [List.getElem?_set]
    by_cases e : v = k
    · subst e
      simp only [if_true, List.mem_cons, true_or, wipe_length]
      by_cases hl : v < σ.length
      · rw [if_pos hl, List.getElem?_eq_getElem hl]; rfl
      · rw [if_neg hl, List.getElem?_eq_none (by omega)]; rfl
    · rw [if_neg e, wipe_get]
      simp only [List.mem_cons, show ¬ k = v from fun z => e z.symm, false_or]
theorem wipe_set {σ : St} {i : Nat} {x : Option V} {vs : List Nat} (hi : i ∈ vs) : wipe ((wipe σ vs).set i x) vs = wipe σ vs := by
  refine List.ext_getElem? fun k => ?_
  rw [wipe_get]
  by_cases hk : k ∈ vs
  · rw [if_pos hk, List.getElem?_set]
    by_cases e : i = k
    · subst e
      rw [if_pos rfl, wipe_length, wipe_get, if_pos hk]
      by_cases hl : i < σ.length
      · rw [if_pos hl, List.getElem?_eq_getElem hl]; rfl
      · rw [if_neg hl, List.getElem?_eq_none (by omega)]
    · rw [if_neg e, wipe_get, if_pos hk]
      cases σ[k]? <;> rfl
  · rw [if_neg hk, List.getElem?_set, if_neg (fun e => hk (by rw [← e]; exact hi)), wipe_get, if_neg hk]
/-- tests of a clause -/
structure wTs (X : Cx) (ifs : List Expr) (σ : St) (H : Hp) (Q : Bool → Hp → Prop) : Prop where
  run : ∃ t : TT, PTs X ifs t ∧ t σ H Q
theorem sTs {X : Cx} {ifs : List Expr} : PTs X ifs (wTs X ifs) := ⟨fun pins s σ H Q I ⟨t, h, q⟩ => h.run pins s σ H Q I q⟩
section
variable {X : Cx} {σ : St} {H : Hp} {c : Expr} {Q : Bool → Hp → Prop}
theorem tsnil (h : Q true H) : wTs X [] σ H Q := ⟨_, pts_nil, h⟩
theorem tsone (h : wT X c σ H Q) : wTs X [c] σ H Q := ⟨_, pts_one sT, h⟩
end
/-- pieces of a block, in whatever block it is -/
structure bG (X : Cx) (scope : Scope) (tg : Expr) (v : V) (σ : St) (H : Hp) (Q : St → Hp → Prop) : Prop where
  run : ∀ (s : Shared) (H0 : Hp) (C : Addr) (cl : List (Str × Addr)) (fp : List Addr), wG (X.blk s H0 scope (compEnvC scope cl C X.env) fp) tg v σ H Q
structure bTs (X : Cx) (scope : Scope) (ifs : List Expr) (σ : St) (H : Hp) (Q : Bool → Hp → Prop) : Prop where
  run : ∀ (s : Shared) (H0 : Hp) (C : Addr) (cl : List (Str × Addr)) (fp : List Addr), wTs (X.blk s H0 scope (compEnvC scope cl C X.env) fp) ifs σ H Q
structure bE (X : Cx) (scope : Scope) (e : Expr) (σ : St) (H : Hp) (Q : VK) : Prop where
  run : ∀ (s : Shared) (H0 : Hp) (C : Addr) (cl : List (Str × Addr)) (fp : List Addr), wE (X.blk s H0 scope (compEnvC scope cl C X.env) fp) e σ H Q
structure hG (X : Cx) (scope : Scope) (tg : Expr) (v : V) (σ : St) (H : Hp) (Q : St → Hp → Prop) : Prop where
  run : ∀ (s : Shared) (H0 : Hp) (C : Addr) (cl : List (Str × Addr)) (fp : List Addr), wG (blkH X s H0 scope (compEnvC scope cl C X.env) fp) tg v σ H Q
structure hTs (X : Cx) (scope : Scope) (ifs : List Expr) (σ : St) (H : Hp) (Q : Bool → Hp → Prop) : Prop where
  run : ∀ (s : Shared) (H0 : Hp) (C : Addr) (cl : List (Str × Addr)) (fp : List Addr), wTs (blkH X s H0 scope (compEnvC scope cl C X.env) fp) ifs σ H Q
structure hE (X : Cx) (scope : Scope) (e : Expr) (σ : St) (H : Hp) (Q : VK) : Prop where
  run : ∀ (s : Shared) (H0 : Hp) (C : Addr) (cl : List (Str × Addr)) (fp : List Addr), wE (blkH X s H0 scope (compEnvC scope cl C X.env) fp) e σ H Q
section
variable {X : Cx} {σ : St} {H : Hp} {elt tg l a b : Expr} {ifs : List Expr} {scope : Scope} {own : List (Str × Nat)} {pos pos' spos p : Pos} {Q : VK} {wi : TI} {D : Ends}
theorem zlc (hc : X.calm = true) (hN : X.N.Nodup) (own : List (Str × Nat)) (ok : BlkOk X.N X.env.scope scope own) (hi : PI X tg l wi)
    (h : tLc wi (bG X scope tg) (bTs X scope ifs) (bE X scope elt) (own.map (·.2)) σ H Q) (hs : ∀ x, foldedSetIterable l X.env x = pure x := by intro _; rfl) : wE X (.ListComp elt [⟨tg, l, ifs, 0⟩] scope pos) σ H Q :=
  ofE (pe_lc hc hN hi ok (fun s H C cl fp => ⟨fun pins s' σ H' v u Q I r h => (h.run s H C cl fp).run pins s' u I r⟩) (fun s H C cl fp => ⟨fun pins s' σ H' Q I h => sTs.run pins s' σ H' Q I (h.run s H C cl fp)⟩) (fun s H C cl fp => ⟨fun pins s' σ H' Q I h => (h.run s H C cl fp).run pins s' I⟩) hs) h
theorem slc {i : Nat} {y : Str} {py : Pos} (hc : X.calm = true) (hN : X.N.Nodup) (hy : X.N[i]? = some y) (hyl : X.env.scope.names.lookup y = some .local) (own : List (Str × Nat)) (ok : BlkOk X.N X.env.scope scope own) (hi : PI X tg l wi)
    (hsw : swapsWith (.ListComp elt [⟨tg, l, ifs, 0⟩] scope pos) (some (.Name y py)) spos.line X.env = pure true)
    (h : tLc wi (bG X scope tg) (bTs X scope ifs) (bE X scope elt) (own.map (·.2)) σ H (fun x H1 => D.nx (σ.set i (some x)) H1)) (hs : ∀ x, foldedSetIterable l X.env x = pure x := by intro _; rfl) : wS X (.Assign [.Name y py] (.ListComp elt [⟨tg, l, ifs, 0⟩] scope pos) spos) D σ H :=
  ofS (ps_setLc hc hN hy hyl hsw hi ok (fun s H C cl fp => ⟨fun pins s' σ H' v u Q I r h => (h.run s H C cl fp).run pins s' u I r⟩) (fun s H C cl fp => ⟨fun pins s' σ H' Q I h => sTs.run pins s' σ H' Q I (h.run s H C cl fp)⟩) (fun s H C cl fp => ⟨fun pins s' σ H' Q I h => (h.run s H C cl fp).run pins s' I⟩) hs) h
/-- the last clause of a comprehension's turn: L the new list, Nx what the turn is to reach -/
abbrev turnB (X : Cx) (scope : Scope) (tg : Expr) (ifs : List Expr) (elt : Expr) (vs : List Nat) (L : Addr) (x : V) (σ : St) (H : Hp) (Nx : Hp → Prop) : Prop :=
  bG X scope tg x (wipe σ vs) H fun σ2 H2 => wipe σ2 vs = wipe σ vs ∧ bTs X scope ifs σ2 H2 fun b H3 => if b = true then bE X scope elt σ2 H3 fun y H4 => ∃ acc, H4 L = some (.lst acc) ∧ acc.length < sizeLine ∧ Nx (upd H4 L (.lst (acc ++ [y]))) else Nx H3
theorem piR1 (hm : X.mg "range" = none) (hg : Gl X "range") (hsa : starEach [a] X.env = [(false, eval a X.env)] := by rfl) : PI X tg (.Call (.Name "range" p) [a] [] pos) (iRng1 (wA X [a])) := pi_range1 hg hm sA hsa
theorem piR2 (hm : X.mg "range" = none) (hg : Gl X "range") (hsa : starEach [a, b] X.env = [(false, eval a X.env), (false, eval b X.env)] := by rfl) (hsb : starEach [b] X.env = [(false, eval b X.env)] := by rfl) : PI X tg (.Call (.Name "range" p) [a, b] [] pos) (iRng2 (wA X [a, b])) := pi_range2 hg hm sA hsa hsb
theorem piL : PI X tg l (iList X.K (wE X l)) := pi_list sE
theorem piT : PI X tg l (iTup X.K (wE X l)) := pi_tup sE
theorem tlR1 {n : Int} {vs : List Nat} (Pv : Addr → Nat → Hp → Prop)
    (h : wA X [a] σ H fun x H1 => x = [.int n] ∧ n < 2 ^ 62 ∧ -(2 ^ 62) ≤ n ∧ ∀ L, H1 L = none → Pv L 0 (upd H1 L (.lst [])) ∧ (∀ (j : Nat) H', (j : Int) < n → Pv L j H' → turnB X scope tg ifs elt vs L (.int (j : Int)) σ H' (Pv L (j + 1))) ∧ ∀ H', Pv L n.toNat H' → Q (.ref L) H') :
    tLc (iRng1 (wA X [a])) (bG X scope tg) (bTs X scope ifs) (bE X scope elt) vs σ H Q :=
  ⟨fun ps pins s I => thn (h.run ps pins s I) fun us s' ⟨x, H1, J, r, e, h1, h2, q⟩ => ⟨x, H1, J, r, n, e, h2, h1, fun L hL => by
    obtain ⟨q1, q2, q3⟩ := q L hL
    exact lc_range (Pv L) q1 (fun i H' hi hP => by rw [Int.zero_add]; exact q2 i H' (by omega) hP) q3⟩⟩
theorem tlR2 {m n : Int} {vs : List Nat} (Pv : Addr → Nat → Hp → Prop)
    (h : wA X [a, b] σ H fun x H1 => x = [.int m, .int n] ∧ (-(2 ^ 62) ≤ m ∧ m < 2 ^ 62 ∧ -(2 ^ 62) ≤ n ∧ n < 2 ^ 62) ∧ ∀ L, H1 L = none → Pv L 0 (upd H1 L (.lst [])) ∧ (∀ (j : Nat) H', m + (j : Int) < n → Pv L j H' → turnB X scope tg ifs elt vs L (.int (m + (j : Int))) σ H' (Pv L (j + 1))) ∧ ∀ H', Pv L (n - m).toNat H' → Q (.ref L) H') :
    tLc (iRng2 (wA X [a, b])) (bG X scope tg) (bTs X scope ifs) (bE X scope elt) vs σ H Q :=
  ⟨fun ps pins s I => thn (h.run ps pins s I) fun us s' ⟨x, H1, J, r, e, h1, q⟩ => ⟨x, H1, J, r, m, n, e, h1, fun L hL => by
    obtain ⟨q1, q2, q3⟩ := q L hL
    exact lc_range (Pv L) q1 (fun i H' hi hP => q2 i H' (by omega) hP) q3⟩⟩
theorem tlL {xs : List V} {vs : List Nat} (Pv : Addr → Nat → Hp → Prop)
    (h : wE X l σ H fun x H1 => ∃ r, x = .ref r ∧ SqL X.K H1 r xs ∧ ∀ L, H1 L = none → Pv L 0 (upd H1 L (.lst [])) ∧ (∀ j H', j ≤ xs.length → Pv L j H' → SqL X.K H' r xs) ∧ (∀ j x H', xs[j]? = some x → Pv L j H' → turnB X scope tg ifs elt vs L x σ H' (Pv L (j + 1))) ∧ ∀ H', Pv L xs.length H' → Q (.ref L) H') :
    tLc (iList X.K (wE X l)) (bG X scope tg) (bTs X scope ifs) (bE X scope elt) vs σ H Q :=
  ⟨fun pins s I => thn (h.run pins s I) fun u s1 ⟨x, H1, I1, r, a, ex, hq, k⟩ => ⟨x, H1, I1, r, a, ex, ⟨xs, hq⟩, fun L hL => by
    obtain ⟨k0, k1, k2, k3⟩ := k L hL
    exact lc_list (Pv L) k0 k1 k2 k3⟩⟩
theorem tlT {xs : List V} {vs : List Nat} (Pv : Addr → Nat → Hp → Prop)
    (h : wE X l σ H fun x H1 => ∃ r, x = .ref r ∧ SqT X.K H1 r xs ∧ ∀ L, H1 L = none → Pv L 0 (upd H1 L (.lst [])) ∧ (∀ j H', j ≤ xs.length → Pv L j H' → SqT X.K H' r xs) ∧ (∀ j x H', xs[j]? = some x → Pv L j H' → turnB X scope tg ifs elt vs L x σ H' (Pv L (j + 1))) ∧ ∀ H', Pv L xs.length H' → Q (.ref L) H') :
    tLc (iTup X.K (wE X l)) (bG X scope tg) (bTs X scope ifs) (bE X scope elt) vs σ H Q :=
  ⟨fun pins s I => thn (h.run pins s I) fun u s1 ⟨x, H1, I1, r, a, ex, hq, k⟩ => ⟨x, H1, I1, r, a, ex, ⟨xs, hq⟩, fun L hL => by
    obtain ⟨k0, k1, k2, k3⟩ := k L hL
    exact lc_tup (Pv L) k0 k1 k2 k3⟩⟩
/-- what a turn must show where the list is told ahead: acc j after j turns -/
abbrev turnA (X : Cx) (scope : Scope) (tg : Expr) (ifs : List Expr) (elt : Expr) (vs : List Nat) (acc : Nat → List V) (j : Nat) (x : V) (σ : St) (H : Hp) : Prop :=
  bG X scope tg x (wipe σ vs) H fun σ2 H2 => wipe σ2 vs = wipe σ vs ∧ Ex H H2 ∧ bTs X scope ifs σ2 H2 fun b H3 => if b = true then bE X scope elt σ2 H3 fun y H4 => acc (j + 1) = acc j ++ [y] ∧ (acc j).length < sizeLine ∧ Ex H H4 else acc (j + 1) = acc j ∧ Ex H H3
theorem bG.imp {v : V} {Q Q' : St → Hp → Prop} (h : bG X scope tg v σ H Q) (q : ∀ σ' H', Q σ' H' → Q' σ' H') : bG X scope tg v σ H Q' :=
  ⟨fun s H0 C cl fp => ⟨fun pins s' u I r => thn ((h.run s H0 C cl fp).run pins s' u I r) fun _ s'' ⟨σ', H', J, z⟩ => ⟨σ', H', J, q _ _ z⟩⟩⟩
theorem bE.imp {Q Q' : VK} (h : bE X scope elt σ H Q) (q : ∀ σ' H', Q σ' H' → Q' σ' H') : bE X scope elt σ H Q' := ⟨fun s H0 C cl fp => (h.run s H0 C cl fp).imp q⟩
theorem bTs.imp {Q Q' : Bool → Hp → Prop} (h : bTs X scope ifs σ H Q) (q : ∀ σ' H', Q σ' H' → Q' σ' H') : bTs X scope ifs σ H Q' :=
  ⟨fun s H0 C cl fp => ⟨_, ⟨fun pins s' σ0 H1 R I (h2 : ∃ (_ : σ0 = σ) (_ : H1 = H), ∀ a b, Q' a b → R a b) => by
    obtain ⟨rfl, rfl, h2⟩ := h2
    exact thn (sTs.run pins s' _ _ Q I (h.run s H0 C cl fp)) fun u s'' ⟨H', J, z⟩ => ⟨H', J, h2 _ _ (q _ _ z)⟩⟩, rfl, rfl, fun _ _ z => z⟩⟩
theorem turn_of {acc : Nat → List V} {j : Nat} {x : V} {vs : List Nat} {L : Addr} {H1 : Hp} (hL : H1 L = none) (hd : Ex H1 H) (hacc : H L = some (.lst (acc j))) (h : turnA X scope tg ifs elt vs acc j x σ H) :
    turnB X scope tg ifs elt vs L x σ H fun H' => Ex H1 H' ∧ H' L = some (.lst (acc (j + 1))) := by
  refine bG.imp h fun σ2 H2 ⟨w, e2, q⟩ => ⟨w, q.imp fun b H3 q3 => ?_⟩
  cases b with
  | false =>
    rw [if_neg Bool.false_ne_true] at q3 ⊢
    exact ⟨hd.trans q3.2, by rw [q3.1]; exact q3.2 _ _ hacc⟩
  | true =>
    rw [if_pos rfl] at q3 ⊢
    refine q3.imp fun y H4 ⟨ea, hs, e4⟩ => ⟨acc j, e4 _ _ hacc, hs, fun b o e => ?_, by rw [ea]; exact upd_same⟩
    have n : b ≠ L := fun z => by rw [z, hL] at e; cases e
    rw [upd_ne n]
    exact e4 _ _ (hd _ _ e)
theorem tmR1 {n : Int} {vs : List Nat} (acc : Nat → List V) (h0 : acc 0 = [])
    (h : wA X [a] σ H fun x H1 => x = [.int n] ∧ n < 2 ^ 62 ∧ -(2 ^ 62) ≤ n ∧ (∀ (j : Nat) H', (j : Int) < n → Ex H1 H' → turnA X scope tg ifs elt vs acc j (.int (j : Int)) σ H') ∧ ∀ L H', H1 L = none → Ex H1 H' → H' L = some (.lst (acc n.toNat)) → Q (.ref L) H') :
    tLc (iRng1 (wA X [a])) (bG X scope tg) (bTs X scope ifs) (bE X scope elt) vs σ H Q :=
  ⟨fun ps pins s I => thn (h.run ps pins s I) fun us s' ⟨x, H1, J, r, e, h1, h2, q2, q3⟩ => ⟨x, H1, J, r, n, e, h2, h1, fun L hL =>
    lc_range (fun j H' => Ex H1 H' ∧ H' L = some (.lst (acc j))) ⟨Ex.new hL, by rw [h0]; exact upd_same⟩ (fun i H' hi hP => by rw [Int.zero_add]; exact turn_of hL hP.1 hP.2 (q2 i H' (by omega) hP.1)) fun H' z => q3 L H' hL z.1 z.2⟩⟩
theorem tmR2 {m n : Int} {vs : List Nat} (acc : Nat → List V) (h0 : acc 0 = [])
    (h : wA X [a, b] σ H fun x H1 => x = [.int m, .int n] ∧ (-(2 ^ 62) ≤ m ∧ m < 2 ^ 62 ∧ -(2 ^ 62) ≤ n ∧ n < 2 ^ 62) ∧ (∀ (j : Nat) H', m + (j : Int) < n → Ex H1 H' → turnA X scope tg ifs elt vs acc j (.int (m + (j : Int))) σ H') ∧ ∀ L H', H1 L = none → Ex H1 H' → H' L = some (.lst (acc (n - m).toNat)) → Q (.ref L) H') :
    tLc (iRng2 (wA X [a, b])) (bG X scope tg) (bTs X scope ifs) (bE X scope elt) vs σ H Q :=
  ⟨fun ps pins s I => thn (h.run ps pins s I) fun us s' ⟨x, H1, J, r, e, h1, q2, q3⟩ => ⟨x, H1, J, r, m, n, e, h1, fun L hL =>
    lc_range (fun j H' => Ex H1 H' ∧ H' L = some (.lst (acc j))) ⟨Ex.new hL, by rw [h0]; exact upd_same⟩ (fun i H' hi hP => turn_of hL hP.1 hP.2 (q2 i H' (by omega) hP.1)) fun H' z => q3 L H' hL z.1 z.2⟩⟩
theorem tmL {xs : List V} {vs : List Nat} (acc : Nat → List V) (h0 : acc 0 = [])
    (h : wE X l σ H fun x H1 => ∃ r, x = .ref r ∧ SqL X.K H1 r xs ∧ (∀ j x H', xs[j]? = some x → Ex H1 H' → turnA X scope tg ifs elt vs acc j x σ H') ∧ ∀ L H', H1 L = none → Ex H1 H' → H' L = some (.lst (acc xs.length)) → Q (.ref L) H') :
    tLc (iList X.K (wE X l)) (bG X scope tg) (bTs X scope ifs) (bE X scope elt) vs σ H Q :=
  ⟨fun pins s I => thn (h.run pins s I) fun u s1 ⟨x, H1, I1, r, p, ex, hq, q2, q3⟩ => ⟨x, H1, I1, r, p, ex, ⟨xs, hq⟩, fun L hL =>
    lc_list (fun j H' => Ex H1 H' ∧ H' L = some (.lst (acc j))) ⟨Ex.new hL, by rw [h0]; exact upd_same⟩ (fun i H' _ z => Evl.ex_l z.1 hq) (fun i x H' hx hP => turn_of hL hP.1 hP.2 (q2 i x H' hx hP.1)) fun H' z => q3 L H' hL z.1 z.2⟩⟩
theorem tmT {xs : List V} {vs : List Nat} (acc : Nat → List V) (h0 : acc 0 = [])
    (h : wE X l σ H fun x H1 => ∃ r, x = .ref r ∧ SqT X.K H1 r xs ∧ (∀ j x H', xs[j]? = some x → Ex H1 H' → turnA X scope tg ifs elt vs acc j x σ H') ∧ ∀ L H', H1 L = none → Ex H1 H' → H' L = some (.lst (acc xs.length)) → Q (.ref L) H') :
    tLc (iTup X.K (wE X l)) (bG X scope tg) (bTs X scope ifs) (bE X scope elt) vs σ H Q :=
  ⟨fun pins s I => thn (h.run pins s I) fun u s1 ⟨x, H1, I1, r, p, ex, hq, q2, q3⟩ => ⟨x, H1, I1, r, p, ex, ⟨xs, hq⟩, fun L hL =>
    lc_tup (fun j H' => Ex H1 H' ∧ H' L = some (.lst (acc j))) ⟨Ex.new hL, by rw [h0]; exact upd_same⟩ (fun i H' _ z => Evl.ex_t z.1 hq) (fun i x H' hx hP => turn_of hL hP.1 hP.2 (q2 i x H' hx hP.1)) fun H' z => q3 L H' hL z.1 z.2⟩⟩
/-! ### where an exception is handled -/
abbrev turnH (X : Cx) (scope : Scope) (tg : Expr) (ifs : List Expr) (elt : Expr) (vs : List Nat) (acc : Nat → List V) (j : Nat) (x : V) (σ : St) (H : Hp) : Prop :=
  hG X scope tg x (wipe σ vs) H fun σ2 H2 => wipe σ2 vs = wipe σ vs ∧ Ex H H2 ∧ hTs X scope ifs σ2 H2 fun b H3 => if b = true then hE X scope elt σ2 H3 fun y H4 => acc (j + 1) = acc j ++ [y] ∧ (acc j).length < sizeLine ∧ Ex H H4 else acc (j + 1) = acc j ∧ Ex H H3
theorem hG.imp {v : V} {Q Q' : St → Hp → Prop} (h : hG X scope tg v σ H Q) (q : ∀ σ' H', Q σ' H' → Q' σ' H') : hG X scope tg v σ H Q' :=
  ⟨fun s H0 C cl fp => ⟨fun pins s' u I r => thn ((h.run s H0 C cl fp).run pins s' u I r) fun _ s'' ⟨σ', H', J, z⟩ => ⟨σ', H', J, q _ _ z⟩⟩⟩
theorem hE.imp {Q Q' : VK} (h : hE X scope elt σ H Q) (q : ∀ σ' H', Q σ' H' → Q' σ' H') : hE X scope elt σ H Q' := ⟨fun s H0 C cl fp => (h.run s H0 C cl fp).imp q⟩
theorem hTs.imp {Q Q' : Bool → Hp → Prop} (h : hTs X scope ifs σ H Q) (q : ∀ σ' H', Q σ' H' → Q' σ' H') : hTs X scope ifs σ H Q' :=
  ⟨fun s H0 C cl fp => ⟨_, ⟨fun pins s' σ0 H1 R I (h2 : ∃ (_ : σ0 = σ) (_ : H1 = H), ∀ a b, Q' a b → R a b) => by
    obtain ⟨rfl, rfl, h2⟩ := h2
    exact thn (sTs.run pins s' _ _ Q I (h.run s H0 C cl fp)) fun u s'' ⟨H', J, z⟩ => ⟨H', J, h2 _ _ (q _ _ z)⟩⟩, rfl, rfl, fun _ _ z => z⟩⟩
theorem turn_ofH {acc : Nat → List V} {j : Nat} {x : V} {vs : List Nat} {L : Addr} {H1 : Hp} (hL : H1 L = none) (hd : Ex H1 H) (hacc : H L = some (.lst (acc j))) (h : turnH X scope tg ifs elt vs acc j x σ H) :
    hG X scope tg x (wipe σ vs) H fun σ2 H2 => wipe σ2 vs = wipe σ vs ∧ hTs X scope ifs σ2 H2 fun b H3 => if b = true then hE X scope elt σ2 H3 fun y H4 => ∃ acc', H4 L = some (.lst acc') ∧ acc'.length < sizeLine ∧ (Ex H1 (upd H4 L (.lst (acc' ++ [y]))) ∧ upd H4 L (.lst (acc' ++ [y])) L = some (.lst (acc (j + 1)))) else Ex H1 H3 ∧ H3 L = some (.lst (acc (j + 1))) := by
  refine hG.imp h fun σ2 H2 ⟨w, e2, q⟩ => ⟨w, q.imp fun b H3 q3 => ?_⟩
  cases b with
  | false =>
    rw [if_neg Bool.false_ne_true] at q3 ⊢
    exact ⟨hd.trans q3.2, by rw [q3.1]; exact q3.2 _ _ hacc⟩
  | true =>
    rw [if_pos rfl] at q3 ⊢
    refine q3.imp fun y H4 ⟨ea, hs, e4⟩ => ⟨acc j, e4 _ _ hacc, hs, fun b o e => ?_, by rw [ea]; exact upd_same⟩
    have n : b ≠ L := fun z => by rw [z, hL] at e; cases e
    rw [upd_ne n]
    exact e4 _ _ (hd _ _ e)
theorem slcA {i : Nat} {y : Str} {py : Pos} {xs : List V} {q : Addr × Obj} {cls : Value} {d : Option Addr} (hx : HX X q cls d) (hN : X.N.Nodup) (hy : X.N[i]? = some y) (hyl : X.env.scope.names.lookup y = some .local) (own : List (Str × Nat))
    (ok : BlkOk X.N X.env.scope scope own) (hsw : swapsWith (.ListComp elt [⟨tg, l, ifs, 0⟩] scope pos) (some (.Name y py)) spos.line X.env = pure true) (acc : Nat → List V) (h0 : acc 0 = [])
    (h : wE X l σ H fun x H1 => ∃ r, x = .ref r ∧ SqL X.K H1 r xs ∧ (∀ j x H', xs[j]? = some x → Ex H1 H' → turnH X scope tg ifs elt (own.map (·.2)) acc j x σ H') ∧ ∀ L H', H1 L = none → Ex H1 H' → H' L = some (.lst (acc xs.length)) → D.nx (σ.set i (some (.ref L))) H')
    (hs : ∀ x, foldedSetIterable l X.env x = pure x := by intro _; rfl) : wS X (.Assign [.Name y py] (.ListComp elt [⟨tg, l, ifs, 0⟩] scope pos) spos) D σ H := by
  refine slcH (g := hG X scope tg) (tt := hTs X scope ifs) (te := hE X scope elt) hx hN hy hyl hsw ok pi_listH (fun s H C cl fp => ⟨⟨fun pins s' σ H' v u Q I r h => (h.run s H C cl fp).run pins s' u I r⟩, ⟨fun pins s' σ H' Q I h => sTs.run pins s' σ H' Q I (h.run s H C cl fp)⟩, ⟨fun pins s' σ H' Q I h => (h.run s H C cl fp).run pins s' I⟩⟩) ?_ hs
  refine ⟨fun pins s I => thn (h.run pins s I) fun u s1 ⟨x, H1, I1, r, p, ex, hq, q2, q3⟩ => ⟨x, H1, I1, r, p, ex, ⟨xs, hq⟩, fun L hL =>
    lc_list (fun j H' => Ex H1 H' ∧ H' L = some (.lst (acc j))) ⟨Ex.new hL, by rw [h0]; exact upd_same⟩ (fun i H' _ z => Evl.ex_l z.1 hq) (fun i x H' hx hP => turn_ofH hL hP.1 hP.2 (q2 i x H' hx hP.1)) fun H' z => q3 L H' hL z.1 z.2⟩⟩
end
end Z

set_option maxRecDepth 100000
set_option maxHeartbeats 4000000
namespace Z
open PySem PySem.Spec PyProof.Rows L2
open Evl (Ex)
section
variable {X : Cx} {σ : St} {H : Hp} {a b c : Expr} {pos : Pos} {Q : VK}
/-! ### more steps -/
theorem zchain {op op' : CmpOp} (h : wE X a σ H fun x H1 => wE X b σ H1 fun y H2 => wO X (compareOp op) x y H2 fun z H3 => ∃ k, z = .bl k ∧ (if k = true then wE X c σ H3 fun v H4 => wO X (compareOp op') y v H4 Q else Q (.bl false) H3))
    (hm : lastMarks [op, op'] [b, c] = false := by with_unfolding_all rfl) : wE X (.Compare a [op, op'] [b, c] pos) σ H Q := ofE (pe_chain sO sO sE sE sE hm) h
theorem zchainT {op op' : CmpOp} {Q : Bool → Hp → Prop} (h : wE X a σ H fun x H1 => wE X b σ H1 fun y H2 => wO X (compareOp op) x y H2 fun z H3 => ∃ k, z = .bl k ∧ (if k = true then wE X c σ H3 fun v H4 => wO X (compareOp op') y v H4 fun u H5 => ∃ k, u = .bl k ∧ Q k H5 else ∃ k', V.bl false = .bl k' ∧ Q k' H3))
    (hm : lastMarks [op, op'] [b, c] = false := by with_unfolding_all rfl) : wT X (.Compare a [op, op'] [b, c] pos) σ H Q := ofT (pt_chain sO sO sE sE sE hm) h
theorem zneg (h : wE X a σ H fun x H1 => ∃ i, x = .int i ∧ Q (.int (-i)) H1) : wE X (.UnaryOp .USub a pos) σ H Q := ofE (pe_un un_neg sE) h
/-- {} -/
theorem zdnew (h : ∀ p H2, H p = none → Ex H H2 → H2 p = some (.dK []) → Q (.ref p) H2) : wE X (.Dict [] [] pos) σ H Q := ofE pe_dnewK fun p hp => h p _ hp (Ex.new hp) upd_same
end
/-- an exception of a class without an own __init__, made with a text -/
theorem mplain {X : Cx} {σ : St} {H : Hp} {x m : Str} {j : Nat} {C : Addr} {p p2 pos : Pos} {Q : XK} (e : PySem.W.excIn X.K C He.veBase "ValueError.__new__" = true ∧ PySem.W.keepIn X.K (.ref C) = true ∧ PySem.W.subIn X.K (.ref C) (.type "BaseException") = some true ∧ PySem.W.typeIn X.K (.ref C) = some (.type "type"))
    (gC : X.mg x = some (.ref C)) (hg : Gl X x) (h : Q (.ref C) none H) (hdb : (x == ("__debug__" : Str)) = false := by decide) : wM X (.Call (.Name x p) [.Constant (.str m) j p2] [] pos) σ H Q :=
  mown F.excBase_ValueError e.1 gC e.2.1 (raises_own e.2.2.1 e.2.2.2) hg h hdb
theorem Ex.past {H H' : Hp} {L : Addr} {o : HO} (h : Ex H H') (hL : H L = none) : Ex H (upd H' L o) := fun b z e => by
  rw [upd_ne (fun q => by rw [q, hL] at e; cases e)]
  exact h b z e
/-- an item of a display of numbers -/
theorem atN {ns : List Int} {k : Int} (h0 : 0 ≤ k) (h : k < (ns.length : Int)) : ∃ v ∈ ns, atI (ns.map V.int) k = some (.int v) := by
  obtain ⟨j, rfl⟩ : ∃ j : Nat, k = (j : Int) := ⟨k.toNat, by omega⟩
  have hl : j < ns.length := by omega
  exact ⟨ns[j], List.getElem_mem _, atI_nat (by rw [List.getElem?_map, List.getElem?_eq_getElem hl]; rfl)⟩
/-- a list of numbers put together by turns -/
def accM (f : Nat → Int) (j : Nat) : List V := ((List.range j).map f).map V.int
theorem accM_succ (f : Nat → Int) (j : Nat) : accM f (j + 1) = accM f j ++ [.int (f j)] := by unfold accM; rw [List.range_succ]; simp
theorem accM_len (f : Nat → Int) (j : Nat) : (accM f j).length = j := by unfold accM; simp
/-- two lists of the same numbers are not unlike -/
theorem same_ne {X : Cx} {H : Hp} {Q : VK} {j : Nat} {t u : Addr} {xs : List Int} (hr : Room j X.A) (ht : SqL X.K H t (xs.map V.int)) (hu : SqL X.K H u (xs.map V.int)) (q : Q (.bl false) H) : wO X (compareOp .NotEq) (.ref t) (.ref u) H Q :=
  oneD hr (Dp.ints ht) (Dp.ints hu) (PySem.W.ke_shaped_ints xs) (PySem.W.ke_shaped_ints xs) (by rw [SeqAt.eqv_refl _ (SeqAt.canLay_of_shaped (PySem.W.ke_shaped_ints xs))]; exact q)
/-- .. data of any shape -/
theorem data_ne {X : Cx} {H : Hp} {Q : VK} {j : Nat} {t u : V} {d : PyData} (hr : Room j X.A) (ht : Dp X.K H t d) (hu : Dp X.K H u d) (hs : SeqAt.shaped d = true) (q : Q (.bl false) H) : wO X (compareOp .NotEq) t u H Q :=
  oneD hr ht hu hs hs (by rw [SeqAt.eqv_refl _ (SeqAt.canLay_of_shaped hs)]; exact q)
theorem data_eq {X : Cx} {H : Hp} {Q : VK} {j : Nat} {t u : V} {d : PyData} (hr : Room j X.A) (ht : Dp X.K H t d) (hu : Dp X.K H u d) (hs : SeqAt.shaped d = true) (q : Q (.bl true) H) : wO X (compareOp .Eq) t u H Q :=
  oeqD hr ht hu hs hs (by rw [SeqAt.eqv_refl _ (SeqAt.canLay_of_shaped hs)]; exact q)
/-- for over a list that the body leaves as it is, the invariant told behind the list -/
theorem lforE {X : Cx} {σ : St} {H : Hp} {tg l : Expr} {body : List Stmt} {pos : Pos} {D : Ends} (hp : PassesOwn (model X.prog X.w) X.A X.env X.xe) (hc : X.calm = true)
    (h : wE X l σ H fun x H1 => ∃ (a : Addr) (xs : List V), x = .ref a ∧ (SqL X.K H1 a xs ∧ True) ∧ ∃ Pv : Nat → St → Hp → Prop, Pv 0 σ H1 ∧ (∀ i σ H, i ≤ xs.length → Pv i σ H → SqL X.K H a xs) ∧
      (∀ i x σ H, xs[i]? = some x → Pv i σ H → wG X tg x σ H fun σ2 H2 => wB X body { D with nx := Pv (i + 1), ct := Pv (i + 1), bk := D.nx } σ2 H2) ∧ ∀ σ H, Pv xs.length σ H → D.nx σ H)
    (hs : ∀ x, foldedSetIterable l X.env x = pure x := by intro _; rfl) : wS X (.For tg l body [] pos) D σ H :=
  lfor hp hc (pi_list sE) ⟨fun pins s I => thn (h.run pins s I) fun u s1 ⟨x, H1, I1, r, a, xs, ex, ⟨hq, _⟩, Pv, h0, hl, ht, hd⟩ => ⟨x, H1, I1, r, a, ex, ⟨xs, hq⟩, for_list Pv h0 hl ht hd⟩⟩ hs
/-! ### kinds -/
/-- a thing of no whole number's kind (bool among them) -/
def NotWhole (K : PySem.W.Frag) (H : Hp) (v : V) : Prop := ∃ (t : Value) (k1 k2 : Bool), TyX K H v t ∧ PySem.W.kitOne K t (.type "int") = some k1 ∧ PySem.W.kitOne K t (.type "bool") = some k2 ∧ (k1 && !k2) = false
theorem nw_bl {K : PySem.W.Frag} {H : Hp} (b : Bool) : NotWhole K H (.bl b) := ⟨_, true, true, .base (.bl b), kit_ty rfl, kit_ty rfl, rfl⟩
theorem nw_non {K : PySem.W.Frag} {H : Hp} : NotWhole K H .non := ⟨_, false, false, .base .non, kit_ty rfl, kit_ty rfl, rfl⟩
theorem nw_str {K : PySem.W.Frag} {H : Hp} (x : Str) : NotWhole K H (.str x) := ⟨_, false, false, .base (.str x), kit_ty rfl, kit_ty rfl, rfl⟩
theorem nw_lst {K : PySem.W.Frag} {H : Hp} {a : Addr} {xs : List V} (h : H a = some (.lst xs)) : NotWhole K H (.ref a) := ⟨_, false, false, .base (.lst h), kit_ty rfl, kit_ty rfl, rfl⟩
theorem nw_tup {K : PySem.W.Frag} {H : Hp} {a : Addr} {xs : List V} (h : H a = some (.tup xs)) : NotWhole K H (.ref a) := ⟨_, false, false, .base (.tup h), kit_ty rfl, kit_ty rfl, rfl⟩
theorem nw_dK {K : PySem.W.Frag} {H : Hp} {a : Addr} {kvs : List (Key × V)} (h : H a = some (.dK kvs)) : NotWhole K H (.ref a) := ⟨_, false, false, .base (.dK h), kit_ty rfl, kit_ty rfl, rfl⟩
/-- whether a thing is a whole number from lo to hi -/
inductive Asked (K : PySem.W.Frag) (H : Hp) (lo hi : Int) : V → Bool → Prop
  | int (n : Int) : Asked K H lo hi (.int n) (decide (lo ≤ n ∧ n ≤ hi))
  | odd {v : V} (h : NotWhole K H v) : Asked K H lo hi v false
end Z

set_option maxRecDepth 100000
set_option maxHeartbeats 4000000
namespace Z
open PySem PySem.Spec PyProof.Rows L2
open Evl (Ex)
/-! ### enumerate of a text -/
def Ites (x : Str) : It :=
  ⟨fun i _ => i < x.cps.size, fun i H v H' => ∃ T c, x.cps[i]? = some c ∧ v = .ref T ∧ H T = none ∧ H' = upd H T (.tup [.int (i : Nat), .str ⟨#[c]⟩]), fun i _ => i = x.cps.size⟩
theorem turn_enumS {P : Program} {w : World} {K : PySem.W.Frag} {elts : List Expr} {kk : Nat} {tpos : Pos} (x : Str) (t : Tok) (ty : String) (hty : ty = "str_ascii_iterator" ∨ ty = "str_iterator") (e it : Addr) :
    Turn P w K (.Tuple elts kk tpos) (Ites x) [e, it] e (fun i h => (∃ old, IsEnum h e it ((i : Nat) : Int) old) ∧ h.IsStrIter it ty x t i ∧ e ≠ it) where
  mem := List.mem_cons_self
  obj := fun i h ⟨⟨old, he⟩, ⟨o, ho, hc, hd⟩, _⟩ b hb => by
    rcases List.mem_cons.mp hb with rfl | z
    · exact ⟨_, he, fun v q => nomatch q⟩
    · rw [List.mem_singleton.mp z]; exact ⟨o, ho, fun v q => by rw [hd] at q; cases q⟩
  keep := fun i h h' ⟨⟨old, he⟩, ⟨o, ho, r⟩, hne⟩ k => ⟨⟨old, k e List.mem_cons_self _ he⟩, ⟨o, k it (List.mem_cons_of_mem _ List.mem_cons_self) o ho, r⟩, hne⟩
  item := fun X hP hw hK hc i pins s σ H E I hf st hg => by
    subst hP hw hK
    obtain ⟨⟨old, he⟩, hit, hne⟩ := st
    have D : Draws X.prog X.w X.A.in1 it [it] x.cps.size (SignAt x) (fun i h => h.IsStrIter it ty x t i) := by
      rcases hty with q | q
      · rw [q]; exact Draws.strAscii (A := X.A.in1) (I.ok.hd hc) it x t
      · rw [q]; exact Draws.strWide (A := X.A.in1) (I.ok.hd hc) it x t
    have hel : e < s.heap.objs.size := Heap.lt_size he
    have hil : it < s.heap.objs.size := by obtain ⟨_, q, _⟩ := hit; exact Heap.lt_size q
    refine wpAny_pyNext_enum_itemD D he hit hg hne (by simpa using hne) fun y h' tk hy ho hit' hT hsz hk => ?_
    obtain ⟨c, u, hcx, rfl⟩ := hy
    refine ⟨_, rfl, wpAny_letOwnedTupleGo_enum (s := { s with heap := h', toks := tk + 1 }) ho fun h'' he' sb => ?_⟩
    have hT2 : h''.get? s.heap.objs.size = some { cls := .type "tuple", data := .seq #[.int i tk, .str ⟨#[c]⟩ u] } := (sb.2 _ (Nat.ne_of_gt hel)).trans hT
    have new : ObjOk X.prog X.w (upd H s.heap.objs.size (.tup [.int (i : Nat), .str ⟨#[c]⟩])) h'' s.heap.objs.size (.tup [.int (i : Nat), .str ⟨#[c]⟩]) :=
      ⟨by show 2 ≤ sizeLine; decide, [.int i tk, .str ⟨#[c]⟩ u], .cons ⟨_, rfl⟩ (.cons ⟨_, rfl⟩ .nil), ⟨_, hT2, rfl, _, rfl⟩⟩
    have I1 : Inv X pins σ (upd H s.heap.objs.size (.tup [.int (i : Nat), .str ⟨#[c]⟩])) { s with heap := h'', toks := tk + 1 } :=
      I.turnedNew (ch := [e, it]) (fun b ob hb q => (sb.2 b (fun z => hb (by simp [z]))).trans (hk b ob (fun z => hb (by simp [z])) (fun z => hb (by simp [z])) q)) hf (Nat.le_refl _) new
    refine ⟨.ref s.heap.objs.size, _, I1, rfl, ⟨_, c, hcx, rfl, I.hok.fresh (Nat.le_refl _), rfl⟩, ⟨⟨.str ⟨#[c]⟩ u, ?_⟩, ?_, hne⟩, fun b hb => ?_⟩
    · rw [show ((i + 1 : Nat) : Int) = (i : Int) + 1 from by omega]; exact he'
    · obtain ⟨o, q, r⟩ := hit'
      exact ⟨o, (sb.2 it (Ne.symm hne)).trans q, r⟩
    · have hb' : b < s.heap.objs.size := by
        rcases List.mem_cons.mp hb with rfl | z
        · exact hel
        · rw [List.mem_singleton.mp z]; exact hil
      rw [upd_ne (Nat.ne_of_lt hb')]
      exact (hf b hb).1
  done := fun X hP hw hK hc i pins s σ H E I hf st hg => by
    subst hP hw hK
    obtain ⟨⟨old, he⟩, hit, hne⟩ := st
    obtain ⟨f0, f1, f2, f3, f4, f5⟩ := hf it (List.mem_cons_of_mem _ List.mem_cons_self)
    have D : Draws X.prog X.w X.A.in1 it [it] x.cps.size (SignAt x) (fun i h => h.IsStrIter it ty x t i) := by
      rcases hty with q | q
      · rw [q]; exact Draws.strAscii (A := X.A.in1) (I.ok.hd hc) it x t
      · rw [q]; exact Draws.strWide (A := X.A.in1) (I.ok.hd hc) it x t
    have hi : i = x.cps.size := hg
    subst hi
    exact wpAny_pyNext_enum_endD D he hit fun h' eb => ⟨rfl, I.turned (t' := s.toks) (fun b o hb q => eb b o hb q) f0 f1 f3 f4 f5⟩
  self := fun A i s Q E ⟨⟨_, he⟩, _⟩ h => wpAny_pyIter_enum he h
def iEnumS (ta : TA) : TI := fun σ H R => ta σ H fun vs H1 => ∃ x, vs = [.str x] ∧ R (Ites x) H1
section
variable {X : Cx} {σ : St} {H : Hp} {e o : Expr} {es : List Expr} {pos p apos p2 tpos : Pos} {Q : VK} {D : Ends} {kk : Nat} {elts : List Expr}
theorem pi_enumS (hm : X.mg "enumerate" = none) (hg : Gl X "enumerate") (hs : starEach [e] X.env = [(false, eval e X.env)] := by rfl) : PI X (.Tuple elts kk tpos) (.Call (.Name "enumerate" p) [e] [] pos) (iEnumS (wA X [e])) := by
  refine ⟨fun pins s σ H R I h => ?_⟩
  refine Call_ (ld_blt I hg hm boot_enumerate (PyProof.Rows.callWith_type1 (thn (h.run pos pins s I) fun us s1 ⟨vs, H1, I1, r1, x, ex, q⟩ => ?_) hs rfl))
  subst ex
  cases r1 with
  | cons r rr =>
    cases rr
    obtain ⟨t, rfl⟩ := r
    refine call_enumerate_str fun h' he hit hsz hk => wpAny_pyIter_enum he ?_
    have I2 : Inv X pins σ H1 { s1 with heap := h' } := I1.kept (t' := s1.toks) hk
    refine ⟨s1.heap.objs.size + 1, [s1.heap.objs.size + 1, s1.heap.objs.size], _, _, H1, rfl, I2, turn_enumS x t (strIterType x) (by unfold strIterType; split <;> simp) (s1.heap.objs.size + 1) s1.heap.objs.size, ⟨⟨.none, he⟩, hit, Nat.succ_ne_self _⟩, fun b hb => ?_, q⟩
    have hle : s1.heap.objs.size ≤ b := by
      rcases List.mem_cons.mp hb with z | z
      · rw [z]; exact Nat.le_add_right _ _
      · rw [List.mem_singleton.mp z]; exact Nat.le_refl _
    exact I1.fpOk hle (I1.hok.fresh hle)
end
end Z

set_option maxRecDepth 100000
set_option maxHeartbeats 4000000
namespace Z
open PySem PySem.Spec PyProof.Rows L2
open Evl (Ex)
section
variable {X : Cx} {σ : St} {H : Hp} {a b c e o i tg l : Expr} {es : List Expr} {st : Stmt} {body : List Stmt} {pos pos' p p1 p2 apos tpos : Pos} {Q : VK} {D : Ends} {kk : Nat} {elts : List Expr}
/-! ### built-ins -/
theorem kisiT {x : V} {tp : Addr} {cs : List V} {t : Value} {us : List Value} {b : Bool} (hT : H tp = some (.tup cs)) (hp : Paired ClsV cs us) (ty : TyX X.K H x t) (hk : PySem.W.kitAny X.K t us = some b) (h : Q (.bl b) H) : wK X (.builtin "isinstance") [x, .ref tp] H Q :=
  ofK call_isiT ⟨x, tp, cs, t, us, b, rfl, hT, hp, ty, hk, h⟩
theorem kall {p : Addr} {bs : List Bool} (hc : X.calm = true) (hp : SqL X.K H p (bs.map V.bl)) (h : Q (.bl (bs.all id)) H) : wK X (.builtin "all") [.ref p] H Q := ofK (cr_all hc) ⟨p, bs, rfl, hp, h⟩
theorem ksum {p : Addr} {ns : List Int} (hc : X.calm = true) (hp : SqL X.K H p (ns.map V.int)) (h : Q (.int ns.sum) H) : wK X (.builtin "sum") [.ref p] H Q := ofK (cr_sum hc) ⟨p, ns, rfl, hp, h⟩
theorem kdivmod {m n : Int} (hc : CDiv m n) (h : ∀ p H2, H p = none → Ex H H2 → H2 p = some (.tup [.int (m / n), .int (m % n)]) → Q (.ref p) H2) : wK X (.builtin "divmod") [.int m, .int n] H Q :=
  ofK call_divmod ⟨m, n, rfl, hc, fun p hp => h p _ hp (Ex.new hp) upd_same⟩
theorem kabs {m : Int} (h : Q (.int (if m < 0 then -m else m)) H) : wK X (.builtin "abs") [.int m] H Q := ofK call_abs ⟨m, rfl, h⟩
theorem kord {x : Str} (hx : x.length = 1) (h : Q (.int (x.cps.getD 0 0 : Nat)) H) : wK X (.builtin "ord") [.str x] H Q := ofK call_ord ⟨x, rfl, hx, h⟩
theorem orep {p : Addr} {xs : List V} {k : Int} (hp : H p = some (.lst xs)) (h0 : -(2 ^ 63) ≤ k) (h1 : k < 2 ^ 63) (hz : xs.length * k.toNat ≤ sizeLine) (h : ∀ q H2, H q = none → Ex H H2 → H2 q = some (.lst (List.replicate k.toNat xs).flatten) → Q (.ref q) H2) : wO X (binaryOp .Mult) (.ref p) (.int k) H Q :=
  ofO op_rep ⟨p, k, xs, rfl, rfl, hp, h0, h1, hz, fun q hq => h q _ hq (Ex.new hq) upd_same⟩
theorem oin {n : Nat} {z : Str} (h : Q (.bl (decide (n ∈ z.cps.toList))) H) : wO X (compareOp .In) (.str ⟨#[n]⟩) (.str z) H Q := ofO op_in_sign ⟨n, z, rfl, rfl, h⟩
theorem onin {n : Nat} {z : Str} (h : Q (.bl (!decide (n ∈ z.cps.toList))) H) : wO X (compareOp .NotIn) (.str ⟨#[n]⟩) (.str z) H Q := ofO op_notIn_sign ⟨n, z, rfl, rfl, h⟩
/-! ### methods of a text -/
theorem zjoin (h : wE X o σ H fun x H1 => (∃ a, x = .str a) ∧ wE X e σ H1 fun y H2 => ∃ a p, ∃ ys : List Str, x = .str a ∧ y = .ref p ∧ (SqL X.K H2 p (ys.map V.str) ∨ SqT X.K H2 p (ys.map V.str)) ∧ (ys.map (·.length)).sum + ys.length * a.length ≤ 16777216 ∧ Q (.str (Txt.join a ys)) H2)
    (hs : starEach [e] X.env = [(false, eval e X.env)] := by rfl) (hbase : attributeBase o "join" X.env (eval o X.env) = eval o X.env := by rfl) (hline : (apos.endLine == pos.line) = true := by rfl) : wE X (.Call (.Attribute o "join" apos) [e] [] pos) σ H Q := by
  refine ofE (pe_join sE sE hs hbase hline) ⟨fun pins s I => thn (h.run pins s I) fun u s1 ⟨x, H1, I1, r1, hx, q⟩ => ⟨x, H1, I1, r1, hx, ⟨fun pins2 s2 J => thn (q.run pins2 s2 J) fun u2 s3 ⟨y, H2, I2, r2, a, p, ys, e1, e2, q2⟩ => ⟨y, H2, I2, r2, a, p, ys, e1, by rw [e2], q2⟩⟩⟩⟩
theorem zsindex (h : wE X o σ H fun x H1 => (∃ a, x = .str a) ∧ wE X e σ H1 fun y H2 => ∃ a b i rest, x = .str a ∧ y = .str b ∧ Builtin.Str.occurrences a b 0 a.length 1 = i :: rest ∧ Q (.int (i : Nat)) H2)
    (hs : starEach [e] X.env = [(false, eval e X.env)] := by rfl) (hbase : attributeBase o "index" X.env (eval o X.env) = eval o X.env := by rfl) (hline : (apos.endLine == pos.line) = true := by rfl) : wE X (.Call (.Attribute o "index" apos) [e] [] pos) σ H Q := by
  refine ofE (pe_m1 PySem.F.slot_str_index PySem.F.type_str_index mt_sindex sE sE hs hbase hline) ⟨fun pins s I => thn (h.run pins s I) fun u s1 ⟨x, H1, I1, r1, hx, q⟩ => ⟨x, H1, I1, r1, hx, ⟨fun pins2 s2 J => thn (q.run pins2 s2 J) fun u2 s3 ⟨y, H2, I2, r2, a, b, i, rest, e1, e2, q2⟩ => ⟨y, H2, I2, r2, a, b, i, rest, e1, by rw [e2], q2⟩⟩⟩⟩
/-! ### slices -/
structure wP (X : Cx) (e : Option Expr) (σ : St) (H : Hp) (Q : Option Int → Hp → Prop) : Prop where
  run : ∃ t : TO, PO X e t ∧ t σ H Q
structure wSl (X : Cx) (x : V) (lo hi : Option Int) (H : Hp) (Q : VK) : Prop where
  run : ∃ r : V → Option Int → Option Int → Hp → VK → Prop, SlR X r ∧ r x lo hi H Q
theorem sP {e : Option Expr} : PO X e (wP X e) := ⟨fun pins s σ H Q I ⟨t, h, q⟩ => h.run pins s σ H Q I q⟩
theorem pnon {Q : Option Int → Hp → Prop} (h : Q none H) : wP X none σ H Q := ⟨_, po_none, h⟩
theorem psom {Q : Option Int → Hp → Prop} (h : wE X e σ H fun x H1 => ∃ i, x = .int i ∧ Q (some i) H1) : wP X (some e) σ H Q := ⟨_, po_some sE, h⟩
theorem sSl : SlR X (wSl X) := fun pins s σ H x v vl vu lo hi sl Q I rx hs pl pu ⟨r, h, q⟩ => h pins s σ H x v vl vu lo hi sl Q I rx hs pl pu q
theorem zsl {lo hi : Option Expr} (h : wE X e σ H fun x H1 => wP X lo σ H1 fun l H2 => wP X hi σ H2 fun u H3 => wSl X x l u H3 Q) : wE X (.Subscript e (.Slice lo hi none p2) pos) σ H Q := ofE (pe_slice sSl sE sP sP) h
theorem slL {q : Addr} {xs : List V} {lo hi : Option Int} (hq : SqL X.K H q xs) (h : ∀ p H2, H p = none → Ex H H2 → H2 p = some (.lst (cutV xs lo hi)) → Q (.ref p) H2) : wSl X (.ref q) lo hi H Q := ⟨_, sl_list, q, xs, rfl, hq, fun p hp => h p _ hp (Ex.new hp) upd_same⟩
theorem slT {q : Addr} {xs : List V} {lo hi : Option Int} (hq : SqT X.K H q xs) (hw : ¬ (HT.sIx xs.length 0 lo = 0 ∧ HT.sIx xs.length xs.length hi = xs.length)) (h : ∀ p H2, H p = none → Ex H H2 → H2 p = some (.tup (cutV xs lo hi)) → Q (.ref p) H2) : wSl X (.ref q) lo hi H Q := ⟨_, sl_tup, q, xs, rfl, hq, hw, fun p hp => h p _ hp (Ex.new hp) upd_same⟩
theorem slS {z : Str} {lo hi : Option Int} (hz : z.length ≤ sizeLine) (h : Q (.str (cutS z lo hi)) H) : wSl X (.str z) lo hi H Q := ⟨_, sl_str, z, rfl, hz, h⟩
/-! ### o[i] = .. -/
structure wSe (X : Cx) (o i v : V) (H : Hp) (Q : Hp → Prop) : Prop where
  run : ∃ t : TSet, PSet X t ∧ t o i v H Q
theorem sSe : PSet X (wSe X) := fun pins s σ H o i v ov iv u Q I ro ri rv ⟨t, h, q⟩ => h pins s σ H o i v ov iv u Q I ro ri rv q
theorem gsub {v : V} {Q : St → Hp → Prop} (h : wE X o σ H fun x H1 => wE X i σ H1 fun y H2 => wSe X x y v H2 fun H3 => Q σ H3)
    (ha : ∀ v, assign (.Subscript o i pos) X.env v = (do
      let ov ← holding [v] (eval o X.env)
      let iv ← holding [v, ov] (eval i X.env)
      standAt pos
      holding [v, ov, iv] (setItem ov iv v)
      release [v, ov, iv] []) := by intro _; rfl) : wG X (.Subscript o i pos) v σ H Q := ofG (pg_sub sE sE sSe ha) h
theorem seL {q : Addr} {xs : List V} {k : Int} {j : Nat} {v : V} {Q : Hp → Prop} (hq : H q = some (.lst xs)) (hj : ixN xs.length k = some j) (h : Q (upd H q (.lst (xs.set j v)))) : wSe X (.ref q) (.int k) v H Q := ⟨_, set_list, q, xs, k, j, rfl, rfl, hq, hj, h⟩
/-! ### for over enumerate -/
theorem lforEn (hm : X.mg "enumerate" = none) (hp : PassesOwn (model X.prog X.w) X.A X.env X.xe) (hc : X.calm = true) (hg : Gl X "enumerate")
    (h : wA X [e] σ H fun vs H1 => ∃ (a : Addr) (xs : List V), vs = [.ref a] ∧ (SqL X.K H1 a xs ∧ True) ∧ ∃ Pv : Nat → St → Hp → Prop, Pv 0 σ H1 ∧ (∀ i σ H, i ≤ xs.length → Pv i σ H → SqL X.K H a xs) ∧
      (∀ i x σ H T H2, xs[i]? = some x → Pv i σ H → H T = none → Ex H H2 → H2 T = some (.tup [.int ((i : Nat) : Int), x]) → wG X (.Tuple elts kk tpos) (.ref T) σ H2 fun σ2 H2 => wB X body { D with nx := Pv (i + 1), ct := Pv (i + 1), bk := D.nx } σ2 H2) ∧ ∀ σ H, Pv xs.length σ H → D.nx σ H)
    (hs : ∀ x, foldedSetIterable (.Call (.Name "enumerate" p) [e] [] pos') X.env x = pure x := by intro _; rfl) (hsa : starEach [e] X.env = [(false, eval e X.env)] := by rfl) : wS X (.For (.Tuple elts kk tpos) (.Call (.Name "enumerate" p) [e] [] pos') body [] pos) D σ H := by
  refine lfor hp hc (pi_enum hg hm sA hsa) ⟨fun ps pins s I => thn (h.run ps pins s I) fun u s1 ⟨vs, H1, I1, r, a, xs, ex, ⟨hq, _⟩, Pv, h0, hl, ht, hd⟩ => ⟨vs, H1, I1, r, a, xs, ex, hq, ?_⟩⟩ hs
  refine ⟨fun i m σ H => m = xs.length - i ∧ i ≤ xs.length ∧ Pv i σ H, ⟨xs.length, by simp, Nat.zero_le _, h0⟩, ?_⟩
  rintro i m σ H ⟨rfl, hi, z⟩
  have q := hl i σ H hi z
  by_cases hlt : i < xs.length
  · refine .inr ⟨⟨xs, xs[i], q, by simp [hlt]⟩, Pv (i + 1), fun σ' H' p' => ⟨xs.length - (i + 1), by omega, rfl, hlt, p'⟩, ?_⟩
    rintro v H' ⟨T, x, rfl, hT, rfl, hx⟩
    exact ht i x σ H T _ (hx xs q) z hT (Ex.new hT) upd_same
  · have e : i = xs.length := by omega
    subst e
    exact .inl ⟨⟨xs, q, Nat.le_refl _⟩, hd σ H z⟩
theorem lforEnS (hm : X.mg "enumerate" = none) (hp : PassesOwn (model X.prog X.w) X.A X.env X.xe) (hc : X.calm = true) (hg : Gl X "enumerate") (Pv : Nat → St → Hp → Prop)
    (h : wA X [e] σ H fun vs H1 => ∃ x : Str, vs = [.str x] ∧ (True ∧ Pv 0 σ H1) ∧
      (∀ i c σ H T H2, x.cps[i]? = some c → Pv i σ H → H T = none → Ex H H2 → H2 T = some (.tup [.int ((i : Nat) : Int), .str ⟨#[c]⟩]) → wG X (.Tuple elts kk tpos) (.ref T) σ H2 fun σ2 H2 => wB X body { D with nx := Pv (i + 1), ct := Pv (i + 1), bk := D.nx } σ2 H2) ∧ ∀ σ H, Pv x.cps.size σ H → D.nx σ H)
    (hs : ∀ x, foldedSetIterable (.Call (.Name "enumerate" p) [e] [] pos') X.env x = pure x := by intro _; rfl) (hsa : starEach [e] X.env = [(false, eval e X.env)] := by rfl) : wS X (.For (.Tuple elts kk tpos) (.Call (.Name "enumerate" p) [e] [] pos') body [] pos) D σ H := by
  refine lfor hp hc (pi_enumS hm hg hsa) ⟨fun ps pins s I => thn (h.run ps pins s I) fun u s1 ⟨vs, H1, I1, r, x, ex, ⟨_, h0⟩, ht, hd⟩ => ⟨vs, H1, I1, r, x, ex, ?_⟩⟩ hs
  refine ⟨fun i m σ H => m = x.cps.size - i ∧ i ≤ x.cps.size ∧ Pv i σ H, ⟨x.cps.size, by simp, Nat.zero_le _, h0⟩, ?_⟩
  rintro i m σ H ⟨rfl, hi, z⟩
  by_cases hlt : i < x.cps.size
  · refine .inr ⟨hlt, Pv (i + 1), fun σ' H' p' => ⟨x.cps.size - (i + 1), by omega, rfl, hlt, p'⟩, ?_⟩
    rintro v H' ⟨T, c, hx, rfl, hT, rfl⟩
    exact ht i c σ H T _ hx z hT (Ex.new hT) upd_same
  · have e : i = x.cps.size := by omega
    subst e
    exact .inl ⟨rfl, hd σ H z⟩
/-! ### comprehensions over a range by steps, over a text -/
theorem piR3 (hm : X.mg "range" = none) (hg : Gl X "range") (hs : starEach [a, b, c] X.env = (false, eval a X.env) :: starEach [b, c] X.env := by rfl) (hpl : (backTo pos (starEach [b, c] X.env)).any (·.1) = false := by rfl) : PI X tg (.Call (.Name "range" p) [a, b, c] [] pos) (iRng3 (wA X [a, b, c])) := pi_range3 hg hm sA hs hpl
theorem piS : PI X tg l (iStr (wE X l)) := pi_str sE
variable {elt : Expr} {ifs : List Expr} {scope : Scope} {vs : List Nat}
theorem tmR3 {m n k : Int} {z : Nat} (acc : Nat → List V) (h0 : acc 0 = [])
    (h : wA X [a, b, c] σ H fun x H1 => x = [.int m, .int n, .int k] ∧ RgC m n k z ∧ (∀ (j : Nat) H', j < z → Ex H1 H' → turnA X scope tg ifs elt vs acc j (.int (m + (j : Int) * k)) σ H') ∧ ∀ L H', H1 L = none → Ex H1 H' → H' L = some (.lst (acc z)) → Q (.ref L) H') :
    tLc (iRng3 (wA X [a, b, c])) (bG X scope tg) (bTs X scope ifs) (bE X scope elt) vs σ H Q := by
  refine ⟨fun ps pins s I => thn (h.run ps pins s I) fun us s' ⟨x, H1, J, r, e, h1, q2, q3⟩ => ⟨x, H1, J, r, m, n, k, z, e, h1, fun L hL => ?_⟩⟩
  refine ⟨fun j d H' => d = z - j ∧ j ≤ z ∧ (Ex H1 H' ∧ H' L = some (.lst (acc j))), ⟨z, by simp, Nat.zero_le _, Ex.new hL, by rw [h0]; exact upd_same⟩, ?_⟩
  rintro j d H' ⟨rfl, hj, e1, e2⟩
  by_cases hlt : j < z
  · refine .inr ⟨hlt, fun H' => Ex H1 H' ∧ H' L = some (.lst (acc (j + 1))), fun H' p' => ⟨z - (j + 1), by omega, rfl, hlt, p'⟩, ?_⟩
    rintro x H2 ⟨rfl, rfl⟩
    exact turn_of hL e1 e2 (q2 j _ hlt e1)
  · have e : j = z := by omega
    subst e
    exact .inl ⟨Nat.le_refl _, q3 L H' hL e1 e2⟩
theorem tmS {x : Str} (acc : Nat → List V) (h0 : acc 0 = [])
    (h : wE X l σ H fun y H1 => y = .str x ∧ (∀ (j : Nat) c H', x.cps[j]? = some c → Ex H1 H' → turnA X scope tg ifs elt vs acc j (.str ⟨#[c]⟩) σ H') ∧ ∀ L H', H1 L = none → Ex H1 H' → H' L = some (.lst (acc x.cps.size)) → Q (.ref L) H') :
    tLc (iStr (wE X l)) (bG X scope tg) (bTs X scope ifs) (bE X scope elt) vs σ H Q := by
  refine ⟨fun pins s I => thn (h.run pins s I) fun us s' ⟨y, H1, J, r, e, q2, q3⟩ => ⟨y, H1, J, r, x, e, fun L hL => ?_⟩⟩
  refine ⟨fun j d H' => d = x.cps.size - j ∧ j ≤ x.cps.size ∧ (Ex H1 H' ∧ H' L = some (.lst (acc j))), ⟨x.cps.size, by simp, Nat.zero_le _, Ex.new hL, by rw [h0]; exact upd_same⟩, ?_⟩
  rintro j d H' ⟨rfl, hj, e1, e2⟩
  by_cases hlt : j < x.cps.size
  · refine .inr ⟨hlt, fun H' => Ex H1 H' ∧ H' L = some (.lst (acc (j + 1))), fun H' p' => ⟨x.cps.size - (j + 1), by omega, rfl, hlt, p'⟩, ?_⟩
    rintro y H2 ⟨rfl, c, hc, rfl⟩
    exact turn_of hL e1 e2 (q2 j c _ hc e1)
  · have e : j = x.cps.size := by omega
    subst e
    exact .inl ⟨Nat.le_refl _, q3 L H' hL e1 e2⟩
end
end Z

set_option maxRecDepth 100000
set_option maxHeartbeats 4000000
namespace Z
open PySem PySem.Spec PyProof.Rows L2
/-! ### the check of sixteen bits, byte by byte and bit by bit -/
/-- a turn of the program's -/
def pStep (f : Nat) : Nat := if f / 32768 = 1 then (f * 2 % 65536) ^^^ 4129 else f * 2 % 65536
/-- a turn of the law's: the k-th bit of b from above -/
def lStep (b f k : Nat) : Nat := if (f / 32768 + b / 2 ^ (7 - k)) % 2 = 1 then (f * 2 % 65536) ^^^ 4129 else f * 2 % 65536
def pTurns (f : Nat) : Nat → Nat
  | 0 => f
  | i + 1 => pStep (pTurns f i)
def lTurns (b f : Nat) : Nat → Nat
  | 0 => f
  | i + 1 => lStep b (lTurns b f i) i
theorem pStep_lt (f : Nat) : pStep f < 65536 := by
  unfold pStep
  have h : f * 2 % 65536 < 2 ^ 16 := Nat.mod_lt _ (by decide)
  split
  · exact Nat.xor_lt_two_pow h (by decide)
  · exact h
theorem lStep_lt (b f k : Nat) : lStep b f k < 65536 := by
  unfold lStep
  have h : f * 2 % 65536 < 2 ^ 16 := Nat.mod_lt _ (by decide)
  split
  · exact Nat.xor_lt_two_pow h (by decide)
  · exact h
theorem pTurns_lt {f : Nat} (h : f < 65536) : ∀ i, pTurns f i < 65536
  | 0 => h
  | i + 1 => pStep_lt _
theorem lTurns_lt {b f : Nat} (h : f < 65536) : ∀ i, lTurns b f i < 65536
  | 0 => h
  | i + 1 => lStep_lt _ _ _
theorem turns_eq {b f : Nat} (hb : b < 256) (hf : f < 65536) : ∀ i, i ≤ 8 → pTurns (f ^^^ (b * 256)) i = lTurns b f i ^^^ (b * 2 ^ (8 + i) % 65536)
  | 0, _ => by
    show f ^^^ (b * 256) = f ^^^ (b * 256 % 65536)
    rw [Nat.mod_eq_of_lt (by omega)]
  | i + 1, hi => by
    have ih := turns_eq hb hf i (by omega)
    have hL := lTurns_lt (b := b) hf i
    show pStep (pTurns (f ^^^ (b * 256)) i) = lStep b (lTurns b f i) i ^^^ _
    rw [ih]
    generalize hl : lTurns b f i = L at hL ⊢
    have hB : b * 2 ^ (8 + i) % 65536 < 65536 := Nat.mod_lt _ (by decide)
    have e1 : (b * 2 ^ (8 + i) % 65536) / 32768 = b / 2 ^ (7 - i) % 2 := by
      have : i = 0 ∨ i = 1 ∨ i = 2 ∨ i = 3 ∨ i = 4 ∨ i = 5 ∨ i = 6 ∨ i = 7 := by omega
      rcases this with rfl | rfl | rfl | rfl | rfl | rfl | rfl | rfl <;> simp only [Nat.reduceAdd, Nat.reduceSub, Nat.reducePow] <;> omega
    have e2 : (b * 2 ^ (8 + i) % 65536) * 2 % 65536 = b * 2 ^ (8 + (i + 1)) % 65536 := by
      rw [show 8 + (i + 1) = (8 + i) + 1 from by omega, Nat.pow_succ, ← Nat.mul_assoc]
      omega
    generalize b * 2 ^ (8 + i) % 65536 = B at hB e1 e2 ⊢
    have d : (L ^^^ B) / 32768 = (L / 32768) ^^^ (B / 32768) := by
      have := Nat.shiftRight_xor_distrib (a := L) (b := B) (i := 15)
      simpa [Nat.shiftRight_eq_div_pow] using this
    have m : (L ^^^ B) * 2 % 65536 = (L * 2 % 65536) ^^^ (B * 2 % 65536) := by
      have h1 := Nat.shiftLeft_xor_distrib (a := L) (b := B) (i := 1)
      have h2 := Nat.xor_mod_two_pow (a := L * 2) (b := B * 2) (n := 16)
      simp only [Nat.shiftLeft_eq, Nat.pow_one] at h1
      rw [h1]
      exact h2
    have c1 : L / 32768 = 0 ∨ L / 32768 = 1 := by omega
    have c2 : B / 32768 = 0 ∨ B / 32768 = 1 := by omega
    unfold pStep lStep
    rw [d, m, e2, Nat.add_mod, ← e1]
    rcases c1 with c1 | c1 <;> rcases c2 with c2 | c2 <;> rw [c1, c2]
    · rfl
    · show (_ ^^^ _) ^^^ 4129 = (_ ^^^ 4129) ^^^ _
      rw [Nat.xor_assoc, Nat.xor_comm _ 4129, ← Nat.xor_assoc]
    · show (_ ^^^ _) ^^^ 4129 = (_ ^^^ 4129) ^^^ _
      rw [Nat.xor_assoc, Nat.xor_comm _ 4129, ← Nat.xor_assoc]
    · rfl
/-- a byte taken in -/
def crcB (f b : Nat) : Nat := pTurns (f ^^^ (b * 256)) 8
theorem crcB_law {b f : Nat} (hb : b < 256) (hf : f < 65536) : lTurns b f 8 = crcB f b := by
  unfold crcB
  rw [turns_eq hb hf 8 (Nat.le_refl _)]
  rw [show b * 2 ^ (8 + 8) % 65536 = 0 from by omega, Nat.xor_zero]
theorem crcB_lt (f b : Nat) : crcB f b < 65536 := pStep_lt _
/-- the check of a row from f on -/
def crc (f : Nat) : List Int → Nat
  | [] => f
  | b :: r => crc (crcB f b.toNat) r
theorem crc_lt {f : Nat} (h : f < 65536) : ∀ xs : List Int, crc f xs < 65536
  | [] => h
  | b :: r => crc_lt (crcB_lt _ _) r
theorem crc_take {f : Nat} : ∀ {xs : List Int} {i : Nat} {b : Int}, xs[i]? = some b → crc f (xs.take (i + 1)) = crcB (crc f (xs.take i)) b.toNat
  | x :: xs, 0, b, h => by simp at h; subst h; rfl
  | x :: xs, i + 1, b, h => by
    have := crc_take (f := crcB f x.toNat) (xs := xs) (i := i) (b := b) (by simpa using h)
    exact this
theorem crc_app (f : Nat) : ∀ xs ys : List Int, crc f (xs ++ ys) = crc (crc f xs) ys
  | [], _ => rfl
  | x :: xs, ys => crc_app (crcB f x.toNat) xs ys
end Z
namespace Z
open PySem PySem.Spec PyProof.Rows L2
open Evl (Ex)
/-- a test whose answer is told ahead, the heap grown -/
theorem tcutE {X : Cx} {c : Expr} {σ : Z.St} {H : Hp} {Q : Bool → Hp → Prop} (k : Bool) (h : wT X c σ H fun k' H' => k' = k ∧ Ex H H') (q : ∀ H', Ex H H' → Q k H') : wT X c σ H Q := h.imp fun v H' ⟨a, b⟩ => by rw [a]; exact q H' b
theorem ecutE {X : Cx} {c : Expr} {σ : Z.St} {H : Hp} {Q : VK} (v : V) (h : wE X c σ H fun v' H' => v' = v ∧ Ex H H') (q : ∀ H', Ex H H' → Q v H') : wE X c σ H Q := h.imp fun v' H' ⟨a, b⟩ => by rw [a]; exact q H' b
/-! ### kinds stay -/
theorem TyOf.ex {K : PySem.W.Frag} {H H' : Hp} (e : Ex H H') {v : V} {t : Value} (h : TyOf K H v t) : TyOf K H' v t := by
  cases h with
  | non => exact .non
  | bl x => exact .bl x
  | int i => exact .int i
  | str x => exact .str x
  | flt x => exact .flt x
  | lst q => exact .lst (e _ _ q)
  | frz q => exact .frz (e _ _ q)
  | tup q => exact .tup (e _ _ q)
  | dK q => exact .dK (e _ _ q)
  | dT q => exact .dT (e _ _ q)
  | ins q c a b d f => exact .ins (e _ _ q) c a b d f
theorem TyX.ex {K : PySem.W.Frag} {H H' : Hp} (e : Ex H H') {v : V} {t : Value} (h : TyX K H v t) : TyX K H' v t := by
  cases h with
  | base q => exact .base (TyOf.ex e q)
  | byt b => exact .byt b
  | set q => exact .set (e _ _ q)
  | kList q c => exact .kList q c
  | kTuple q c => exact .kTuple q c
  | kDict q c => exact .kDict q c
  | fTuple q => exact .fTuple (e _ _ q)
  | fDict q => exact .fDict (e _ _ q)
theorem NotWhole.ex {K : PySem.W.Frag} {H H' : Hp} (e : Ex H H') {v : V} (h : NotWhole K H v) : NotWhole K H' v := by
  obtain ⟨t, k1, k2, a, b, c, d⟩ := h
  exact ⟨t, k1, k2, TyX.ex e a, b, c, d⟩
theorem Asked.ex {K : PySem.W.Frag} {H H' : Hp} (e : Ex H H') {lo hi : Int} {v : V} {b : Bool} (h : Asked K H lo hi v b) : Asked K H' lo hi v b := by
  cases h with
  | int n => exact .int n
  | odd q => exact .odd (NotWhole.ex e q)
/-- things asked one by one -/
inductive AskedAll (K : PySem.W.Frag) (H : Hp) (lo hi : Int) : List V → List Bool → Prop
  | nil : AskedAll K H lo hi [] []
  | cons {v : V} {b : Bool} {vs : List V} {bs : List Bool} : Asked K H lo hi v b → AskedAll K H lo hi vs bs → AskedAll K H lo hi (v :: vs) (b :: bs)
theorem AskedAll.length {K : PySem.W.Frag} {H : Hp} {lo hi : Int} : ∀ {vs : List V} {bs : List Bool}, AskedAll K H lo hi vs bs → vs.length = bs.length
  | _, _, .nil => rfl
  | _, _, .cons _ t => by rw [List.length_cons, List.length_cons, t.length]
theorem AskedAll.get {K : PySem.W.Frag} {H : Hp} {lo hi : Int} : ∀ {vs : List V} {bs : List Bool} {i : Nat} {v : V}, AskedAll K H lo hi vs bs → vs[i]? = some v → ∃ b, bs[i]? = some b ∧ Asked K H lo hi v b
  | _, _, 0, _, .cons a _, h => by simp at h; subst h; exact ⟨_, rfl, a⟩
  | _, _, i + 1, _, .cons _ t, h => by obtain ⟨b, h1, h2⟩ := t.get (i := i) (by simpa using h); exact ⟨b, by simpa using h1, h2⟩
theorem AskedAll.ints {K : PySem.W.Frag} {H : Hp} {lo hi : Int} : ∀ {ns : List Int}, (∀ n ∈ ns, lo ≤ n ∧ n ≤ hi) → AskedAll K H lo hi (ns.map V.int) (ns.map fun _ => true)
  | [], _ => .nil
  | n :: ns, h => .cons (by have := Asked.int (K := K) (H := H) (lo := lo) (hi := hi) n; rwa [decide_eq_true (h n List.mem_cons_self)] at this) (AskedAll.ints fun m hm => h m (List.mem_cons_of_mem _ hm))
/-- whether a thing is a row of bytes: a list or tuple, each of its items a whole number from 0 to 255 -/
inductive RowAsk (K : PySem.W.Frag) (H : Hp) : V → Bool → Prop
  | lst {l : Addr} {xs : List V} {bs : List Bool} (h : H l = some (.lst xs)) (a : AskedAll K H 0 255 xs bs) (hz : xs.length ≤ sizeLine) : RowAsk K H (.ref l) (bs.all id)
  | tup {l : Addr} {xs : List V} {bs : List Bool} (h : H l = some (.tup xs)) (a : AskedAll K H 0 255 xs bs) (hz : xs.length ≤ sizeLine) : RowAsk K H (.ref l) (bs.all id)
  | not {v : V} {t : Value} (ty : TyX K H v t) (k : PySem.W.kitAny K t [.type "list", .type "tuple"] = some false) : RowAsk K H v false
end Z

set_option maxRecDepth 100000
set_option maxHeartbeats 4000000
namespace Z
open PySem PySem.Spec PyProof.Rows L2
open Evl (Ex)
section
variable {X : Cx} {σ : Z.St} {H : Hp} {a b e o : Expr} {st : Stmt} {D : Ends} {p p1 p2 p3 pos apos : Pos} {Q : VK}
/-- a statement cut behind top_name -/
theorem scut (R : Z.St → Hp → Prop) (h : wS X st { D with nx := R } σ H) (q : ∀ σ' H', R σ' H' → D.nx σ' H') : wS X st D σ H :=
  h.imp q (fun _ _ z => z) (fun _ _ z => z) fun _ _ z => z
theorem vcut (R : VK) (h : wE X e σ H R) (q : ∀ v H', R v H' → Q v H') : wE X e σ H Q := h.imp q
/-! ### list(range(..)), l.clear(), x in a tuple or list -/
theorem zlrg1 (hc : X.calm = true) (hg1 : Gl X "list") (hm1 : X.mg "list" = none) (hg2 : Gl X "range") (hm2 : X.mg "range" = none)
    (h : wE X a σ H fun x H1 => ∃ n, x = .int n ∧ RgOk 0 n ∧ ∀ q H2, H1 q = none → Ex H1 H2 → H2 q = some (.lst (rgV 0 n)) → Q (.ref q) H2)
    (na : starEach [.Call (.Name "range" p1) [a] [] p2] X.env = (false, eval (.Call (.Name "range" p1) [a] [] p2) X.env) :: starEach [] X.env := by rfl) (nb : starEach [a] X.env = (false, eval a X.env) :: starEach [] X.env := by rfl) :
    wE X (.Call (.Name "list" p) [.Call (.Name "range" p1) [a] [] p2] [] pos) σ H Q := by
  refine ofE (pe_listRg hc hg1 hm1 (prg_1 hg2 hm2 sE nb) na) ?_
  exact h.imp fun x H1 ⟨n, e, ok, q⟩ => ⟨n, e, ok, fun l hl => q l _ hl (Ex.new hl) upd_same⟩
theorem zclr (h : wE X o σ H fun x H1 => ∃ l xs, x = .ref l ∧ H1 l = some (.lst xs) ∧ Q .non (upd H1 l (.lst [])))
    (he : ∀ t : TE, PE X o t → PE X (.Call (.Attribute o "clear" apos) [] [] pos) (tBM0 X.K "list" rClear t) := by intro t ht; exact pe_bm0 PySem.F.plainAttrs_list PySem.F.slot_list_clear PySem.F.type_list_clear mt_clear ht) : wE X (.Call (.Attribute o "clear" apos) [] [] pos) σ H Q := by
  refine ofE (he _ sE) ⟨fun pins s I => thn (h.run pins s I) fun u s1 ⟨x, H1, I1, r1, l, xs, ex, hl, q⟩ => ⟨x, H1, I1, r1, ?_⟩⟩
  subst ex
  exact ⟨.inl ⟨rfl, xs, SqL.of hl⟩, l, xs, rfl, rfl, hl, q⟩
theorem oinF {x : V} {l : Addr} {xs : List V} (hp : SqL X.K H l xs ∨ SqT X.K H l xs) (fx : flatV x = true) (fs : xs.all flatV = true) (h : Q (.bl (inV x xs)) H) : wO X (compareOp .In) x (.ref l) H Q := ofO op_in_seq ⟨l, xs, rfl, hp, fx, fs, h⟩
theorem oninF {x : V} {l : Addr} {xs : List V} (hp : SqL X.K H l xs ∨ SqT X.K H l xs) (fx : flatV x = true) (fs : xs.all flatV = true) (h : Q (.bl (!inV x xs)) H) : wO X (compareOp .NotIn) x (.ref l) H Q := ofO op_notIn_seq ⟨l, xs, rfl, hp, fx, fs, h⟩
/-- x in a tuple of data -/
theorem oninT {k : Nat} {x y : V} {d : PyData} {ds : List PyData} (hr : Room k X.A) (hx : Dp X.K H x d) (hy : Dp X.K H y (.tuple ds)) (s1 : SeqAt.shaped d = true) (s2 : SeqAt.shaped (.tuple ds) = true) (hd : PyData.depthAll ds ≤ 60) (h : Q (.bl (!ds.any fun z => PyData.eqv z d)) H) : wO X (compareOp .NotIn) x y H Q := by
  refine ⟨fun pins s σ v u I rx ry => ?_⟩
  obtain ⟨as, r1⟩ := Dp.reads I d x v hx rx
  obtain ⟨bs, r2⟩ := Dp.reads I (.tuple ds) y u hy ry
  exact SeqAt.notIn_tuple_reads r2 r1 (SeqAt.canLay_of_shaped s2) (SeqAt.canLay_of_shaped s1) (by have := hr.units; have := Nat.min_le_left (PyData.depthAll ds) d.depth; omega) ⟨.bl _, H, I, rfl, h⟩
end
end Z

set_option maxRecDepth 100000
set_option maxHeartbeats 4000000
namespace Z
open PySem PySem.Spec PyProof.Rows L2
open Evl (Ex)
/-! ### comprehensions whose items are made anew: G j ws: what is known of the items ws after j turns -/
theorem del_ex (H : Hp) (L : Addr) : Ex (del H L) H := fun b o e => by
  by_cases h : b = L
  · subst h; rw [del_same] at e; cases e
  · rw [del_ne h] at e; exact e
theorem del_mono {H H' : Hp} {L : Addr} (h : ∀ b o, b ≠ L → H b = some o → H' b = some o) : Ex (del H L) (del H' L) := fun b o e => by
  by_cases hb : b = L
  · subst hb; rw [del_same] at e; cases e
  · rw [del_ne hb] at e ⊢; exact h b o hb e
theorem del_at {H : Hp} {L b : Addr} {o : HO} (h : H b = some o) (n : b ≠ L) : del H L b = some o := by rw [del_ne n]; exact h
theorem ne_new {H : Hp} {L b : Addr} {o : HO} (h : H L = some o) (n : H b = none) : b ≠ L := fun e => by rw [e, h] at n; cases n
section
variable {X : Cx} {σ : Z.St} {H : Hp} {elt tg l a b : Expr} {ifs : List Expr} {scope : Scope} {Q : VK}
abbrev turnG (X : Cx) (scope : Scope) (tg : Expr) (ifs : List Expr) (elt : Expr) (vs : List Nat) (G : Nat → List V → Hp → Prop) (L : Addr) (ws : List V) (j : Nat) (x : V) (σ : Z.St) (H : Hp) : Prop :=
  bG X scope tg x (wipe σ vs) H fun σ2 H2 => wipe σ2 vs = wipe σ vs ∧ Ex H H2 ∧ bTs X scope ifs σ2 H2 fun b H3 => if b = true then bE X scope elt σ2 H3 fun y H4 => ws.length < sizeLine ∧ Ex H H4 ∧ G (j + 1) (ws ++ [y]) (del H4 L) else Ex H H3 ∧ G (j + 1) ws (del H3 L)
theorem turnG_of {G : Nat → List V → Hp → Prop} (hG : ∀ j ws H H', G j ws H → Ex H H' → G j ws H') {j : Nat} {x : V} {vs : List Nat} {L : Addr} {ws : List V} {H1 : Hp} (hL : H1 L = none) (hd : Ex H1 H) (hacc : H L = some (.lst ws)) (h : turnG X scope tg ifs elt vs G L ws j x σ H) :
    turnB X scope tg ifs elt vs L x σ H fun H' => Ex H1 H' ∧ ∃ ws, H' L = some (.lst ws) ∧ G (j + 1) ws (del H' L) := by
  refine bG.imp h fun σ2 H2 ⟨w, e2, q⟩ => ⟨w, q.imp fun b H3 q3 => ?_⟩
  cases b with
  | false =>
    rw [if_neg Bool.false_ne_true] at q3 ⊢
    exact ⟨hd.trans q3.1, ws, q3.1 _ _ hacc, q3.2⟩
  | true =>
    rw [if_pos rfl] at q3 ⊢
    refine q3.imp fun y H4 ⟨hs, e4, g⟩ => ⟨ws, e4 _ _ hacc, hs, fun b o e => ?_, _, upd_same, hG _ _ _ _ g (del_mono fun b o n e => by rw [upd_ne n]; exact e)⟩
    have n : b ≠ L := fun z => by rw [z, hL] at e; cases e
    rw [upd_ne n]
    exact e4 _ _ (hd _ _ e)
theorem tnL {xs : List V} {vs : List Nat} (G : Nat → List V → Hp → Prop) (hG : ∀ j ws H H', G j ws H → Ex H H' → G j ws H') (h0 : ∀ H, G 0 [] H)
    (h : wE X l σ H fun x H1 => ∃ r, x = .ref r ∧ SqL X.K H1 r xs ∧ (∀ j x H' L ws, xs[j]? = some x → Ex H1 H' → H1 L = none → H' L = some (.lst ws) → G j ws (del H' L) → turnG X scope tg ifs elt vs G L ws j x σ H') ∧ ∀ L H' ws, H1 L = none → Ex H1 H' → H' L = some (.lst ws) → G xs.length ws H' → Q (.ref L) H') :
    tLc (iList X.K (wE X l)) (bG X scope tg) (bTs X scope ifs) (bE X scope elt) vs σ H Q :=
  ⟨fun pins s I => thn (h.run pins s I) fun u s1 ⟨x, H1, I1, r, p, ex, hq, q2, q3⟩ => ⟨x, H1, I1, r, p, ex, ⟨xs, hq⟩, fun L hL =>
    lc_list (fun j H' => Ex H1 H' ∧ ∃ ws, H' L = some (.lst ws) ∧ G j ws (del H' L)) ⟨Ex.new hL, [], upd_same, h0 _⟩ (fun i H' _ z => Evl.ex_l z.1 hq) (fun i x H' hx ⟨e, ws, hw, g⟩ => turnG_of (G := G) hG hL e hw (q2 i x H' L ws hx e hL hw g)) fun H' ⟨e, ws, hw, g⟩ => q3 L H' ws hL e hw (hG _ _ _ _ g (del_ex _ _))⟩⟩
theorem tnT {xs : List V} {vs : List Nat} (G : Nat → List V → Hp → Prop) (hG : ∀ j ws H H', G j ws H → Ex H H' → G j ws H') (h0 : ∀ H, G 0 [] H)
    (h : wE X l σ H fun x H1 => ∃ r, x = .ref r ∧ SqT X.K H1 r xs ∧ (∀ j x H' L ws, xs[j]? = some x → Ex H1 H' → H1 L = none → H' L = some (.lst ws) → G j ws (del H' L) → turnG X scope tg ifs elt vs G L ws j x σ H') ∧ ∀ L H' ws, H1 L = none → Ex H1 H' → H' L = some (.lst ws) → G xs.length ws H' → Q (.ref L) H') :
    tLc (iTup X.K (wE X l)) (bG X scope tg) (bTs X scope ifs) (bE X scope elt) vs σ H Q :=
  ⟨fun pins s I => thn (h.run pins s I) fun u s1 ⟨x, H1, I1, r, p, ex, hq, q2, q3⟩ => ⟨x, H1, I1, r, p, ex, ⟨xs, hq⟩, fun L hL =>
    lc_tup (fun j H' => Ex H1 H' ∧ ∃ ws, H' L = some (.lst ws) ∧ G j ws (del H' L)) ⟨Ex.new hL, [], upd_same, h0 _⟩ (fun i H' _ z => Evl.ex_t z.1 hq) (fun i x H' hx ⟨e, ws, hw, g⟩ => turnG_of (G := G) hG hL e hw (q2 i x H' L ws hx e hL hw g)) fun H' ⟨e, ws, hw, g⟩ => q3 L H' ws hL e hw (hG _ _ _ _ g (del_ex _ _))⟩⟩
theorem tnR1 {n : Int} {vs : List Nat} (G : Nat → List V → Hp → Prop) (hG : ∀ j ws H H', G j ws H → Ex H H' → G j ws H') (h0 : ∀ H, G 0 [] H)
    (h : wA X [a] σ H fun x H1 => x = [.int n] ∧ n < 2 ^ 62 ∧ -(2 ^ 62) ≤ n ∧ (∀ (j : Nat) H' L ws, (j : Int) < n → Ex H1 H' → H1 L = none → H' L = some (.lst ws) → G j ws (del H' L) → turnG X scope tg ifs elt vs G L ws j (.int (j : Int)) σ H') ∧ ∀ L H' ws, H1 L = none → Ex H1 H' → H' L = some (.lst ws) → G n.toNat ws H' → Q (.ref L) H') :
    tLc (iRng1 (wA X [a])) (bG X scope tg) (bTs X scope ifs) (bE X scope elt) vs σ H Q :=
  ⟨fun ps pins s I => thn (h.run ps pins s I) fun us s' ⟨x, H1, J, r, e, h1, h2, q2, q3⟩ => ⟨x, H1, J, r, n, e, h2, h1, fun L hL =>
    lc_range (fun j H' => Ex H1 H' ∧ ∃ ws, H' L = some (.lst ws) ∧ G j ws (del H' L)) ⟨Ex.new hL, [], upd_same, h0 _⟩ (fun i H' hi ⟨e, ws, hw, g⟩ => by rw [Int.zero_add]; exact turnG_of (G := G) hG hL e hw (q2 i H' L ws (by omega) e hL hw g)) fun H' ⟨e, ws, hw, g⟩ => q3 L H' ws hL e hw (hG _ _ _ _ g (del_ex _ _))⟩⟩
end
/-! ### lists of rows -/
inductive RowsAt (H : Hp) : List V → List (List Int) → Prop
  | nil : RowsAt H [] []
  | cons {l : Addr} {xs : List Int} {vs : List V} {ls : List (List Int)} : H l = some (.lst (xs.map V.int)) → RowsAt H vs ls → RowsAt H (.ref l :: vs) (xs :: ls)
theorem RowsAt.ex {H H' : Hp} (e : Ex H H') : ∀ {vs : List V} {ls : List (List Int)}, RowsAt H vs ls → RowsAt H' vs ls
  | _, _, .nil => .nil
  | _, _, .cons h t => .cons (e _ _ h) (t.ex e)
theorem RowsAt.length {H : Hp} : ∀ {vs : List V} {ls : List (List Int)}, RowsAt H vs ls → vs.length = ls.length
  | _, _, .nil => rfl
  | _, _, .cons _ t => by rw [List.length_cons, List.length_cons, t.length]
theorem RowsAt.get {H : Hp} : ∀ {vs : List V} {ls : List (List Int)} {i : Nat} {v : V}, RowsAt H vs ls → vs[i]? = some v → ∃ l xs, v = .ref l ∧ ls[i]? = some xs ∧ H l = some (.lst (xs.map V.int))
  | _, _, 0, _, .cons h _, e => by simp at e; exact ⟨_, _, e.symm, rfl, h⟩
  | _, _, i + 1, _, .cons _ t, e => by obtain ⟨l, xs, e1, e2, e3⟩ := t.get (i := i) (by simpa using e); exact ⟨l, xs, e1, by simpa using e2, e3⟩
theorem RowsAt.app {H : Hp} : ∀ {vs us : List V} {ls ms : List (List Int)}, RowsAt H vs ls → RowsAt H us ms → RowsAt H (vs ++ us) (ls ++ ms)
  | _, _, _, _, .nil, g => g
  | _, _, _, _, .cons h t, g => .cons h (t.app g)
theorem RowsAt.one {H : Hp} {vs : List V} {ls : List (List Int)} {l : Addr} {xs : List Int} (h : RowsAt H vs ls) (g : H l = some (.lst (xs.map V.int))) : RowsAt H (vs ++ [.ref l]) (ls ++ [xs]) := h.app (.cons g .nil)
theorem take_map_succ {α β : Type} {f : α → β} {ks : List α} {j : Nat} {k : α} (h : ks[j]? = some k) : (ks.take (j + 1)).map f = (ks.take j).map f ++ [f k] := by
  rw [List.take_add_one, h, List.map_append]
  rfl
end Z

set_option maxRecDepth 100000
set_option maxHeartbeats 4000000
namespace Z
open PySem PySem.Spec PyProof.Rows L2
open Evl (Ex)
/-! ### texts: times a number, made of a number, read as one, methods -/
section
variable {X : Cx} {σ : Z.St} {H : Hp} {a b e e2 o : Expr} {st : Stmt} {D : Ends} {p p1 p2 p3 pos pos2 apos tpos : Pos} {Q : VK} {elts : List Expr} {kk : Nat} {body : List Stmt}
theorem osmul {x : Str} {n : Int} (hok : MulOk x n) (h : Q (.str (Txt.mul x n)) H) : wO X (binaryOp .Mult) (.str x) (.int n) H Q := by
  refine ⟨fun pins s σ v u I rx ry => ?_⟩
  obtain ⟨t, rfl⟩ := rx
  obtain ⟨t', rfl⟩ := ry
  exact SB.mul hok fun t' k => ⟨.str _, H, I.tok k, ⟨_, rfl⟩, h⟩
theorem kintI {i : Int} (h : Q (.int i) H) : wK X (.type "int") [.int i] H Q := ofK call_int1 (.inl ⟨i, rfl, h⟩)
theorem kintB {k : Bool} (h : Q (.int (if k then 1 else 0)) H) : wK X (.type "int") [.bl k] H Q := ofK call_int1 (.inr ⟨k, rfl, h⟩)
theorem kintS {x : Str} {n : Int} (hn : PySem.intText? x = some n) (hl : x.length ≤ 640) (h : Q (.int n) H) : wK X (.type "int") [.str x] H Q := ofK call_int_str ⟨x, n, rfl, hn, hl, h⟩
theorem kstrI {i : Int} (hl : i.natAbs.log2 < 1920) (h : Q (.str (toString i)) H) : wK X (.type "str") [.int i] H Q := ofK call_str_int ⟨i, rfl, hl, h⟩
theorem zstarts (h : wE X o σ H fun x H1 => (∃ a, x = .str a) ∧ wE X e σ H1 fun y H2 => ∃ a b, x = .str a ∧ y = .str b ∧ Q (.bl (Txt.startswith a b)) H2)
    (hs : starEach [e] X.env = [(false, eval e X.env)] := by rfl) (hbase : attributeBase o "startswith" X.env (eval o X.env) = eval o X.env := by rfl) (hline : (apos.endLine == pos.line) = true := by rfl) : wE X (.Call (.Attribute o "startswith" apos) [e] [] pos) σ H Q := by
  refine ofE (pe_m1 PySem.F.slot_str_startswith PySem.F.type_str_startswith mt_startswith sE sE hs hbase hline) ⟨fun pins s I => thn (h.run pins s I) fun u s1 ⟨x, H1, I1, r1, hx, q⟩ => ⟨x, H1, I1, r1, hx, ⟨fun pins2 s2 J => thn (q.run pins2 s2 J) fun u2 s3 ⟨y, H2, I2, r2, a, b, e1, e2, q2⟩ => ⟨y, H2, I2, r2, a, b, e1, by rw [e2], q2⟩⟩⟩⟩
theorem zsplit (h : wE X o σ H fun x H1 => (∃ a, x = .str a) ∧ wE X e σ H1 fun y H2 => ∃ a b, x = .str a ∧ y = .str b ∧ (b.length == 0) = false ∧ a.length + 2 ≤ sizeLine ∧ ∀ p H3, H2 p = none → Ex H2 H3 → H3 p = some (.lst ((Txt.split a b).map V.str)) → Q (.ref p) H3)
    (hs : starEach [e] X.env = [(false, eval e X.env)] := by rfl) (hbase : attributeBase o "split" X.env (eval o X.env) = eval o X.env := by rfl) (hline : (apos.endLine == pos.line) = true := by rfl) : wE X (.Call (.Attribute o "split" apos) [e] [] pos) σ H Q := by
  refine ofE (pe_m1 PySem.F.slot_str_split PySem.F.type_str_split mt_split sE sE hs hbase hline) ⟨fun pins s I => thn (h.run pins s I) fun u s1 ⟨x, H1, I1, r1, hx, q⟩ => ⟨x, H1, I1, r1, hx, ⟨fun pins2 s2 J => thn (q.run pins2 s2 J) fun u2 s3 ⟨y, H2, I2, r2, a, b, e1, e2, c1, c2, q2⟩ => ⟨y, H2, I2, r2, a, b, e1, by rw [e2], c1, c2, fun p hp => q2 p _ hp (Ex.new hp) upd_same⟩⟩⟩⟩
end
/-! ### x.join(reversed(l)) -/
section
variable {prog : Program} {w : World} {A : Around} {E : Value → Shared → Prop} {s : Shared}
theorem join_rev {it l : Addr} {items : Array Value} {x : Str} {t : Tok} {ys : List Str} {Q : Value → Shared → Prop} (hh : A.handled = none) (hit : s.heap.IsRevIter it l ((items.size : Int) - 1)) (hl : s.heap.IsList l items) (hne : l ≠ it) (hn : items.size ≤ sizeLine)
    (hP : ∀ acc : Array Value, ItemsOf (fun i v => items[items.size - 1 - i]? = some v) acc items.size → StrsAre acc.toList ys) (hok : (ys.map (·.length)).sum + ys.length * x.length ≤ 16777216)
    (hq : ∀ (h' : Heap), (∀ b o, b ≠ it → s.heap.get? b = some o → h'.get? b = some o) → ∀ t' k, Q (.str (Txt.join x ys) t') { s with heap := h', toks := k }) :
    wpAny (model prog w) A (call (.builtin "str.join") [.str x t, .ref it]) Q E s := by
  have hT : s.TypeIs (.ref it) "list_reverseiterator" := hit.typeIs
  refine wpAny_call (codeAny_call_builtin F.slot_str_join.plain F.entry_str_join (F.slot_str_join.check _ _ _ _ _ _ _ _ (typeIs_str _ _ _) (F.args_str_join_2 _ _) ?_))
  rw [join_tree_other]
  refine wpAny_bind (wpAny_typeOf hT ?_)
  show wpAny _ A.in1 ((pyIter (.ref it)).tryCatch _ >>= fun it => collect it >>= fun items => joinTail x items) _ _ s
  refine wpAny_bind (wpAny_tryCatch (wpAny_pyIter_revIter hit ?_))
  have hh1 : A.in1.handled = none := hh
  refine wpAny_bind (RT.collect_rev hh1 hit hl hne hn (fun h' tk acc hk hacc => ?_))
  obtain ⟨l, hl, ht⟩ := strsAre_values (hP acc hacc)
  subst ht
  rw [hl]
  have hok' := joinOk_of hok
  unfold JoinOk at hok'
  rw [Bool.not_eq_true'] at hok'
  have g : Gives (joinTail x (strValues l)) (joinMade x l) := by
    have g0 := gives_joinTail x l hok'
    cases l with
    | nil => exact g0
    | cons p r => cases r with
      | nil => exact g0
      | cons q r' => exact g0
  exact g prog w A (wants Q E) _ (post_join l ⟨joinFit_length hok', fun t' k => hq h' hk t' k⟩)
end
section
variable {X : Cx} {σ : Z.St} {H : Hp} {a b e e2 o : Expr} {st : Stmt} {D : Ends} {p p1 p2 p3 pos pos2 apos tpos : Pos} {Q : VK} {elts : List Expr} {kk : Nat} {body : List Stmt}
theorem vals_strs : ∀ {ys : List Str} {us : List Value}, Vals (ys.map V.str) us → StrsAre us ys
  | [], _, h => by cases h; exact .nil
  | y :: ys, _, h => by
    cases h with
    | cons r t =>
      obtain ⟨u, rfl⟩ := r
      exact .cons _ _ (vals_strs t)
theorem zjoinRev (hc : X.calm = true) (hg : Gl X "reversed") (hm : X.mg "reversed" = none) (h : wE X o σ H fun x H1 => (∃ a, x = .str a) ∧ wE X e σ H1 fun y H2 => ∃ a q, ∃ ys : List Str, x = .str a ∧ y = .ref q ∧ SqL X.K H2 q (ys.map V.str) ∧ (ys.reverse.map (·.length)).sum + ys.reverse.length * a.length ≤ 16777216 ∧ Q (.str (Txt.join a ys.reverse)) H2)
    (hs1 : starEach [.Call (.Name "reversed" p) [e] [] pos2] X.env = [(false, eval (.Call (.Name "reversed" p) [e] [] pos2) X.env)] := by rfl)
    (hs : starEach [e] X.env = (false, eval e X.env) :: starEach [] X.env := by rfl)
    (hbase : attributeBase o "join" X.env (eval o X.env) = eval o X.env := by rfl) (hline : (apos.endLine == pos.line) = true := by rfl) :
    wE X (.Call (.Attribute o "join" apos) [.Call (.Name "reversed" p) [e] [] pos2] [] pos) σ H Q := by
  refine ⟨fun pins s I => ?_⟩
  refine PySem.Call_method1 hbase hs1 hline (thn (h.run pins s I) fun v s1 ⟨x, H1, I1, r1, q1⟩ => ?_)
  obtain ⟨⟨a, rfl⟩, q1⟩ := q1
  obtain ⟨t, rfl⟩ := _root_.id r1
  refine ⟨"str", _, PySem.F.plainAttrs_str, PySem.F.slot_str_join, PySem.F.type_str_join, typeIs_str _ _ _, (fun _ e => nomatch e), Calls.callWith_builtin rfl (Calls.evalArgs_plain (Calls.spliced_cons ?_))⟩
  refine Call_ (ld_blt I1 hg hm PyProof.Rows.boot_reversed (PyProof.Rows.callWith_type1 (args_cons (thn (q1.run pins s1 I1) fun u s2 ⟨y, H2, I2, r2, q2⟩ => args_nil ?_) hs) hs rfl))
  obtain ⟨a', l, ys, ea, ey, hq, hz, q2⟩ := q2
  cases ea
  subst ey
  obtain rfl : u = Value.ref l := r2
  obtain ⟨its, rv, pl, hsz⟩ := I2.list hq
  obtain ⟨f0, f1, f2, f3, f4, f5⟩ := I2.fpOk (H' := H2) (b := s2.heap.objs.size) (Nat.le_refl _) (I2.hok.fresh (Nat.le_refl _))
  have hl := pl.isList
  obtain ⟨ol, hol, _⟩ := id hl
  have hne : l ≠ s2.heap.objs.size := Nat.ne_of_lt (Heap.lt_size hol)
  have hn : its.toArray.size ≤ sizeLine := by rw [List.size_toArray, ← rv.length]; exact hsz
  refine call_reversed_list hl ?_
  have k0 : ∀ b o, s2.heap.get? b = some o → (s2.heap.push (revObj l ((its.toArray.size : Int) - 1))).get? b = some o := fun b o e => Heap.get?_push_of_some _ e
  have I3 : Inv X pins σ H2 { s2 with heap := s2.heap.push (revObj l ((its.toArray.size : Int) - 1)) } := I2.kept (t' := s2.toks) k0
  refine Calls.spliced_nil (join_rev (s := { s2 with heap := s2.heap.push (revObj l ((its.toArray.size : Int) - 1)) }) (ys := ys.reverse) (I2.ok.hd hc) ⟨_, Heap.get?_push_size _ rfl, rfl, rfl⟩ (hl.push _) hne hn (fun acc hacc => ?_) hz fun h' hk t' tk => ?_)
  · have := RT.vals_rev rv hacc
    rw [← List.map_reverse] at this
    exact vals_strs this
  · exact ⟨.str _, H2, I3.turned (t' := tk) (fun b o hb e => hk b o hb e) f0 f1 f3 f4 f5, ⟨t', rfl⟩, q2⟩
/-! ### for over a text -/
theorem lforS {tg l : Expr} {x : Str} (hp : PassesOwn (model X.prog X.w) X.A X.env X.xe) (hc : X.calm = true) (Pv : Nat → Z.St → Hp → Prop)
    (h : wE X l σ H fun y H1 => y = .str x ∧ Pv 0 σ H1 ∧
      (∀ i c σ H, x.cps[i]? = some c → Pv i σ H → wG X tg (.str ⟨#[c]⟩) σ H fun σ2 H2 => wB X body { D with nx := Pv (i + 1), ct := Pv (i + 1), bk := D.nx } σ2 H2) ∧ ∀ σ H, Pv x.cps.size σ H → D.nx σ H)
    (hs : ∀ x, foldedSetIterable l X.env x = pure x := by intro _; rfl) : wS X (.For tg l body [] pos) D σ H := by
  refine lfor hp hc (pi_str sE) ⟨fun pins s I => thn (h.run pins s I) fun u s1 ⟨y, H1, I1, r, e, h0, ht, hd⟩ => ⟨y, H1, I1, r, x, e, ?_⟩⟩ hs
  refine ⟨fun i m σ H => m = x.cps.size - i ∧ i ≤ x.cps.size ∧ Pv i σ H, ⟨x.cps.size, by simp, Nat.zero_le _, h0⟩, ?_⟩
  rintro i m σ H ⟨rfl, hi, z⟩
  by_cases hlt : i < x.cps.size
  · refine .inr ⟨hlt, Pv (i + 1), fun σ' H' p' => ⟨x.cps.size - (i + 1), by omega, rfl, hlt, p'⟩, ?_⟩
    rintro v H' ⟨rfl, c, hx, rfl⟩
    exact ht i c σ _ hx z
  · have e : i = x.cps.size := by omega
    subst e
    exact .inl ⟨Nat.le_refl _, hd σ H z⟩
/-! ### for (x, y) in zip(a, b) -/
theorem lforZip (hm : X.mg "zip" = none) (hp : PassesOwn (model X.prog X.w) X.A X.env X.xe) (hc : X.calm = true) (hg : Gl X "zip")
    (h : wA X [e, e2] σ H fun vs H1 => ∃ (a b : Addr) (xs ys : List V), vs = [.ref a, .ref b] ∧ (SqL X.K H1 a xs ∧ SqL X.K H1 b ys ∧ xs.length = ys.length) ∧ ∃ Pv : Nat → Z.St → Hp → Prop, Pv 0 σ H1 ∧ (∀ i σ H, i ≤ xs.length → Pv i σ H → SqL X.K H a xs ∧ SqL X.K H b ys) ∧
      (∀ i x y σ H T H2, xs[i]? = some x → ys[i]? = some y → Pv i σ H → H T = none → Ex H H2 → H2 T = some (.tup [x, y]) → wG X (.Tuple elts kk tpos) (.ref T) σ H2 fun σ2 H2 => wB X body { D with nx := Pv (i + 1), ct := Pv (i + 1), bk := D.nx } σ2 H2) ∧ ∀ σ H, Pv xs.length σ H → D.nx σ H)
    (hs : ∀ x, foldedSetIterable (.Call (.Name "zip" p) [e, e2] [] pos2) X.env x = pure x := by intro _; rfl) (hsa : starEach [e, e2] X.env = (false, eval e X.env) :: starEach [e2] X.env := by rfl) (hpl : (backTo pos2 (starEach [e2] X.env)).any (·.1) = false := by rfl) : wS X (.For (.Tuple elts kk tpos) (.Call (.Name "zip" p) [e, e2] [] pos2) body [] pos) D σ H := by
  refine lfor hp hc (pi_zip hg hm sA hsa hpl) ⟨fun ps pins s I => thn (h.run ps pins s I) fun u s1 ⟨vs, H1, I1, r, a, b, xs, ys, ex, ⟨hx, hy, hl⟩, Pv, h0, hk, ht, hd⟩ => ⟨vs, H1, I1, r, a, b, xs, ys, ex, hx, hy, ?_⟩⟩ hs
  refine ⟨fun i m σ H => m = xs.length - i ∧ i ≤ xs.length ∧ Pv i σ H, ⟨xs.length, by simp, Nat.zero_le _, h0⟩, ?_⟩
  rintro i m σ H ⟨rfl, hi, z⟩
  obtain ⟨q1, q2⟩ := hk i σ H hi z
  by_cases hlt : i < xs.length
  · refine .inr ⟨⟨xs, ys, xs[i], ys[i]'(by omega), q1, q2, by simp [hlt], List.getElem?_eq_getElem _⟩, Pv (i + 1), fun σ' H' p' => ⟨xs.length - (i + 1), by omega, rfl, hlt, p'⟩, ?_⟩
    rintro v H' ⟨T, x, y, rfl, hT, rfl, hx', hy'⟩
    exact ht i x y σ H T _ (hx' xs q1) (hy' ys q2) z hT (Ex.new hT) upd_same
  · have e : i = xs.length := by omega
    subst e
    exact .inl ⟨⟨xs, ys, q1, q2, .inl (Nat.le_refl _)⟩, hd σ H z⟩
end
end Z

set_option maxRecDepth 100000
set_option maxHeartbeats 4000000
namespace Z
open PySem PySem.Spec PyProof.Rows L2
open Evl (Ex)
/-! ### == and != of nested lists and tuples, of texts of any signs -/
section
variable {X : Cx} {σ : Z.St} {H : Hp} {pins : List (Addr × Obj)} {s : Shared}
theorem list_tup (I : Inv X pins σ H s) {a : Addr} {xs ys : List V} (h : SqL X.K H a xs) (h' : SqT X.K H a ys) : False := by
  obtain ⟨_, _, p1, _⟩ := I.list h
  obtain ⟨_, _, p2, _⟩ := I.tuple h'
  exact SeqAt.ne_of_list_tuple p1.isList p2 rfl
theorem dpAll_len {K : PySem.W.Frag} {H : Hp} : ∀ {xs : List V} {ds : List PyData}, DpAll K H xs ds → xs.length = ds.length
  | _, _, .nil => rfl
  | _, _, .cons _ t => by rw [List.length_cons, List.length_cons, dpAll_len t]
mutual
theorem dp_same (I : Inv X pins σ H s) : ∀ {x : V} {d e : PyData}, Dp X.K H x d → Dp X.K H x e → PyData.eqv d e = true
  | _, _, _, .non, h => by cases h; rfl
  | _, _, _, .bl b, h => by cases h; simp [PyData.eqv]
  | _, _, _, .int i, h => by cases h; simp [PyData.eqv]
  | _, _, _, .str x, h => by cases h; simp [PyData.eqv]
  | _, _, _, .lst q a, h => by
    cases h with
    | lst q2 a2 =>
      have e := I.list_inj q2 q
      subst e
      rw [PyData.eqv]
      exact dp_sameAll I a a2
    | tup q2 a2 => exact (list_tup I q q2).elim
  | _, _, _, .tup q a, h => by
    cases h with
    | tup q2 a2 =>
      have e := I.tuple_inj q2 q
      subst e
      rw [PyData.eqv]
      exact dp_sameAll I a a2
    | lst q2 a2 => exact (list_tup I q2 q).elim
theorem dp_sameAll (I : Inv X pins σ H s) : ∀ {xs : List V} {ds es : List PyData}, DpAll X.K H xs ds → DpAll X.K H xs es → PyData.eqvAll ds es = true
  | _, _, _, .nil, h => by cases h; rfl
  | _, _, _, .cons a b, h => by
    cases h with
    | cons c d =>
      rw [PyData.eqvAll, dp_same I a c, dp_sameAll I b d]
      rfl
end

/-- the room that two things take -/
theorem roomL {A : Around} {d : PyData} {xs : List PyData} (h : A.units + min (PyData.depthAll xs + 1) (d.depth) < cLine) : A.units < cLine := by omega
mutual
theorem eqAt_dp (I : Inv X pins σ H s) : ∀ {x y : V} {d e : PyData} {v u : Value} (A : Around), Dp X.K H x d → Dp X.K H y e → RelV x v → RelV y u → A.units + min d.depth e.depth < cLine → SeqAt.EqAt A s v u (PyData.eqv d e)
  | _, _, _, _, v, u, A, .non, hy, rx, ry, hu => by
    cases rx
    cases hy with
    | non => cases ry; exact SeqAt.EqAt.same _
    | bl y => cases ry; exact SeqAt.EqAt.none_bool y
    | int y => obtain ⟨u, rfl⟩ := ry; exact SeqAt.EqAt.none_int y u
    | str y => obtain ⟨u, rfl⟩ := ry; exact SeqAt.EqAt.none_str y u
    | lst q _ => obtain ⟨_, _, p, _⟩ := I.list q; cases ry; exact SeqAt.EqAt.none_list  p.isList (SeqAt.room_here hu)
    | tup q _ => obtain ⟨_, _, p, _⟩ := I.tuple q; cases ry; exact SeqAt.EqAt.none_tuple  p (SeqAt.room_here hu)
  | _, _, _, _, v, u, A, .bl b, hy, rx, ry, hu => by
    cases rx
    cases hy with
    | non => cases ry; exact SeqAt.EqAt.bool_none b
    | bl y => cases ry; exact SeqAt.EqAt.bool_bool b y
    | int y => obtain ⟨u, rfl⟩ := ry; exact SeqAt.EqAt.bool_int b y u
    | str y => obtain ⟨u, rfl⟩ := ry; exact SeqAt.EqAt.bool_str b y u
    | lst q _ => obtain ⟨_, _, p, _⟩ := I.list q; cases ry; exact SeqAt.EqAt.bool_list b p.isList (SeqAt.room_here hu)
    | tup q _ => obtain ⟨_, _, p, _⟩ := I.tuple q; cases ry; exact SeqAt.EqAt.bool_tuple b p (SeqAt.room_here hu)
  | _, _, _, _, v, u, A, .int i, hy, rx, ry, hu => by
    obtain ⟨t, rfl⟩ := rx
    cases hy with
    | non => cases ry; exact SeqAt.EqAt.int_none i t
    | bl y => cases ry; exact SeqAt.EqAt.int_bool i t y
    | int y => obtain ⟨u, rfl⟩ := ry; exact SeqAt.EqAt.int_int i t y u
    | str y => obtain ⟨u, rfl⟩ := ry; exact SeqAt.EqAt.int_str i t y u
    | lst q _ => obtain ⟨_, _, p, _⟩ := I.list q; cases ry; exact SeqAt.EqAt.int_list i t p.isList (SeqAt.room_here hu)
    | tup q _ => obtain ⟨_, _, p, _⟩ := I.tuple q; cases ry; exact SeqAt.EqAt.int_tuple i t p (SeqAt.room_here hu)
  | _, _, _, _, v, u, A, .str x, hy, rx, ry, hu => by
    obtain ⟨t, rfl⟩ := rx
    cases hy with
    | non => cases ry; exact SeqAt.EqAt.str_none x t
    | bl y => cases ry; exact SeqAt.EqAt.str_bool x t y
    | int y => obtain ⟨u, rfl⟩ := ry; exact SeqAt.EqAt.str_int x t y u
    | str y => obtain ⟨u, rfl⟩ := ry; exact SeqAt.EqAt.str_str x t y u
    | lst q _ => obtain ⟨_, _, p, _⟩ := I.list q; cases ry; exact SeqAt.EqAt.str_list x t p.isList (SeqAt.room_here hu)
    | tup q _ => obtain ⟨_, _, p, _⟩ := I.tuple q; cases ry; exact SeqAt.EqAt.str_tuple x t p (SeqAt.room_here hu)
  | _, _, _, _, v, u, A, .lst (a := l1) (ds := ds) q a, hy, rx, ry, hu => by
    cases rx
    obtain ⟨us, r1, p1, _⟩ := I.list q
    cases hy with
    | non => cases ry; exact SeqAt.EqAt.list_none p1.isList (SeqAt.room_here hu)
    | bl y => cases ry; exact SeqAt.EqAt.list_bool y p1.isList (SeqAt.room_here hu)
    | int y => obtain ⟨u, rfl⟩ := ry; exact SeqAt.EqAt.list_int y u p1.isList (SeqAt.room_here hu)
    | str y => obtain ⟨u, rfl⟩ := ry; exact SeqAt.EqAt.list_str y u p1.isList (SeqAt.room_here hu)
    | tup q2 _ => obtain ⟨_, _, p2, _⟩ := I.tuple q2; cases ry; exact SeqAt.EqAt.list_tuple p1.isList p2 (SeqAt.room_here hu)
    | @lst l2 ys es q2 b =>
      obtain ⟨ws, r2, p2, _⟩ := I.list q2
      cases ry
      show SeqAt.EqAt A s _ _ (PyData.eqvAll ds es)
      have n1 : us.toArray.size = ds.length := by rw [List.size_toArray, ← r1.length, dpAll_len a]
      have n2 : ws.toArray.size = es.length := by rw [List.size_toArray, ← r2.length, dpAll_len b]
      by_cases hll : l1 = l2
      · subst hll
        have e := I.list_inj q2 q
        subst e
        rw [dp_sameAll I a b]
        exact SeqAt.EqAt.same _
      · by_cases hsz : us.toArray.size = ws.toArray.size
        · rw [← SeqAt.eqvAll_same_length (by omega : ds.length = es.length), ← n1]
          refine SeqAt.EqAt.of_refs hll (SeqAt.RcAt.lists p1.isList p2.isList hsz (SeqAt.room_here hu) fun j j1 j2 => ?_)
          have := eqAt_dpAll I A.in1 a b r1 r2 (SeqAt.room_in hu) j (by simpa using j1) (by simpa using j2)
          simpa using this
        · rw [SeqAt.eqvAll_other_length (by omega : ds.length ≠ es.length)]
          exact SeqAt.EqAt.of_refs hll (SeqAt.RcAt.lists_lengths p1.isList p2.isList (by simpa using hsz) (SeqAt.room_here hu))
  | _, _, _, _, v, u, A, .tup (a := l1) (ds := ds) q a, hy, rx, ry, hu => by
    cases rx
    obtain ⟨us, r1, p1, _⟩ := I.tuple q
    cases hy with
    | non => cases ry; exact SeqAt.EqAt.tuple_none p1 (SeqAt.room_here hu)
    | bl y => cases ry; exact SeqAt.EqAt.tuple_bool y p1 (SeqAt.room_here hu)
    | int y => obtain ⟨u, rfl⟩ := ry; exact SeqAt.EqAt.tuple_int y u p1 (SeqAt.room_here hu)
    | str y => obtain ⟨u, rfl⟩ := ry; exact SeqAt.EqAt.tuple_str y u p1 (SeqAt.room_here hu)
    | lst q2 _ => obtain ⟨_, _, p2, _⟩ := I.list q2; cases ry; exact SeqAt.EqAt.tuple_list p1 p2.isList (SeqAt.room_here hu)
    | @tup l2 ys es q2 b =>
      obtain ⟨ws, r2, p2, _⟩ := I.tuple q2
      cases ry
      show SeqAt.EqAt A s _ _ (PyData.eqvAll ds es)
      have n1 : us.toArray.size = ds.length := by rw [List.size_toArray, ← r1.length, dpAll_len a]
      have n2 : ws.toArray.size = es.length := by rw [List.size_toArray, ← r2.length, dpAll_len b]
      by_cases hll : l1 = l2
      · subst hll
        have e := I.tuple_inj q2 q
        subst e
        rw [dp_sameAll I a b]
        exact SeqAt.EqAt.same _
      · rw [← SeqAt.eqvAll_eq ds es, ← n1, ← n2]
        refine SeqAt.EqAt.of_refs hll (SeqAt.RcAt.tuples p1 p2 (SeqAt.room_here hu) fun j j1 j2 => ?_)
        have := eqAt_dpAll I A.in1 a b r1 r2 (SeqAt.room_in hu) j (by simpa using j1) (by simpa using j2)
        simpa using this
theorem eqAt_dpAll (I : Inv X pins σ H s) : ∀ {xs ys : List V} {ds es : List PyData} {us ws : List Value} (A : Around), DpAll X.K H xs ds → DpAll X.K H ys es → Vals xs us → Vals ys ws → A.units + min (PyData.depthAll ds) (PyData.depthAll es) < cLine →
    ∀ j (h1 : j < us.length) (h2 : j < ws.length), SeqAt.EqAt A s us[j] ws[j] (SeqAt.pairEq ds es j)
  | _, _, _, _, _, _, _, .nil, _, r1, _, _, j, h1, _ => by cases r1; exact absurd h1 (Nat.not_lt_zero _)
  | _, _, _, _, _, _, _, .cons _ _, .nil, _, r2, _, j, _, h2 => by cases r2; exact absurd h2 (Nat.not_lt_zero _)
  | _, _, _, _, _, _, A, .cons a as, .cons b bs, r1, r2, hu, j, h1, h2 => by
    cases r1 with
    | cons c1 t1 =>
      cases r2 with
      | cons c2 t2 =>
        cases j with
        | zero => exact eqAt_dp I A a b c1 c2 (SeqAt.room_head hu)
        | succ j => exact eqAt_dpAll I A as bs t1 t2 (SeqAt.room_tail hu) j (Nat.lt_of_succ_lt_succ h1) (Nat.lt_of_succ_lt_succ h2)
end
/-- two lists -/
theorem oeqDL {k : Nat} {a b : Addr} {ds es : List PyData} {Q : VK} (hr : Room k X.A) (hx : Dp X.K H (.ref a) (.list ds)) (hy : Dp X.K H (.ref b) (.list es)) (hd : min (PyData.depthAll ds) (PyData.depthAll es) ≤ 60) (h : Q (.bl (PyData.eqvAll ds es)) H) : wO X (compareOp .Eq) (.ref a) (.ref b) H Q := by
  refine ⟨fun pins s σ v u I rx ry => ?_⟩
  have hu := hr.units
  cases hx with
  | lst q1 a1 =>
    cases hy with
    | lst q2 a2 =>
      cases rx
      cases ry
      obtain ⟨us, r1, p1, _⟩ := I.list q1
      obtain ⟨ws, r2, p2, _⟩ := I.list q2
      have n1 : us.toArray.size = ds.length := by rw [List.size_toArray, ← r1.length, dpAll_len a1]
      have n2 : ws.toArray.size = es.length := by rw [List.size_toArray, ← r2.length, dpAll_len a2]
      by_cases hsz : us.toArray.size = ws.toArray.size
      · rw [← SeqAt.eqvAll_same_length (by omega : ds.length = es.length), ← n1] at h
        refine SeqAt.RcAt.lists p1.isList p2.isList hsz (by omega) (fun j j1 j2 => ?_) _ _ _ _ ⟨.bl _, H, I, rfl, h⟩
        have := eqAt_dpAll I X.A.in1 a1 a2 r1 r2 (by show X.A.units + 1 + _ < cLine; omega) j (by simpa using j1) (by simpa using j2)
        simpa using this
      · rw [SeqAt.eqvAll_other_length (by omega : ds.length ≠ es.length)] at h
        exact SeqAt.RcAt.lists_lengths p1.isList p2.isList (by simpa using hsz) (by omega) _ _ _ _ ⟨.bl _, H, I, rfl, h⟩
theorem oneDL {k : Nat} {a b : Addr} {ds es : List PyData} {Q : VK} (hr : Room k X.A) (hx : Dp X.K H (.ref a) (.list ds)) (hy : Dp X.K H (.ref b) (.list es)) (hd : min (PyData.depthAll ds) (PyData.depthAll es) ≤ 60) (h : Q (.bl (!PyData.eqvAll ds es)) H) : wO X (compareOp .NotEq) (.ref a) (.ref b) H Q := by
  refine ⟨fun pins s σ v u I rx ry => ?_⟩
  have hu := hr.units
  cases hx with
  | lst q1 a1 =>
    cases hy with
    | lst q2 a2 =>
      cases rx
      cases ry
      obtain ⟨us, r1, p1, _⟩ := I.list q1
      obtain ⟨ws, r2, p2, _⟩ := I.list q2
      have n1 : us.toArray.size = ds.length := by rw [List.size_toArray, ← r1.length, dpAll_len a1]
      have n2 : ws.toArray.size = es.length := by rw [List.size_toArray, ← r2.length, dpAll_len a2]
      by_cases hsz : us.toArray.size = ws.toArray.size
      · rw [← SeqAt.eqvAll_same_length (by omega : ds.length = es.length), ← n1] at h
        refine SeqAt.RcNeAt.lists p1.isList p2.isList hsz (by omega) (fun j j1 j2 => ?_) _ _ _ _ ⟨.bl _, H, I, rfl, h⟩
        have := eqAt_dpAll I X.A.in1 a1 a2 r1 r2 (by show X.A.units + 1 + _ < cLine; omega) j (by simpa using j1) (by simpa using j2)
        simpa using this
      · rw [SeqAt.eqvAll_other_length (by omega : ds.length ≠ es.length)] at h
        exact SeqAt.RcNeAt.lists_lengths p1.isList p2.isList (by simpa using hsz) (by omega) _ _ _ _ ⟨.bl _, H, I, rfl, h⟩
/-! ### lists of texts -/
theorem dpStrs {K : PySem.W.Frag} {H : Hp} : ∀ ys : List Str, DpAll K H (ys.map V.str) (ys.map PyData.str)
  | [] => .nil
  | _ :: ys => .cons (.str _) (dpStrs ys)
theorem depthStrs : ∀ ys : List Str, PyData.depthAll (ys.map PyData.str) ≤ 1
  | [] => by decide
  | y :: ys => by
    have := depthStrs ys
    simp only [List.map_cons, PyData.depthAll, PyData.depth]
    omega
theorem eqvStrs : ∀ ys zs : List Str, PyData.eqvAll (ys.map PyData.str) (zs.map PyData.str) = decide (ys = zs)
  | [], [] => rfl
  | [], _ :: _ => rfl
  | _ :: _, [] => rfl
  | y :: ys, z :: zs => by
    rw [List.map_cons, List.map_cons, PyData.eqvAll, eqvStrs ys zs]
    simp only [PyData.eqv]
    by_cases h1 : y = z
    · subst h1
      by_cases h2 : ys = zs
      · subst h2; simp
      · simp [h2]
    · simp [h1]
theorem oeqStrs {k : Nat} {a b : Addr} {ys zs : List Str} {Q : VK} (hr : Room k X.A) (hx : SqL X.K H a (ys.map V.str)) (hy : SqL X.K H b (zs.map V.str)) (h : Q (.bl (decide (ys = zs))) H) : wO X (compareOp .Eq) (.ref a) (.ref b) H Q :=
  oeqDL hr (.lst hx (dpStrs ys)) (.lst hy (dpStrs zs)) (by have := depthStrs ys; omega) (by rw [eqvStrs]; exact h)
theorem oneStrs {k : Nat} {a b : Addr} {ys zs : List Str} {Q : VK} (hr : Room k X.A) (hx : SqL X.K H a (ys.map V.str)) (hy : SqL X.K H b (zs.map V.str)) (h : Q (.bl (!decide (ys = zs))) H) : wO X (compareOp .NotEq) (.ref a) (.ref b) H Q :=
  oneDL hr (.lst hx (dpStrs ys)) (.lst hy (dpStrs zs)) (by have := depthStrs ys; omega) (by rw [eqvStrs]; exact h)
end
end Z

set_option maxRecDepth 100000
set_option maxHeartbeats 4000000
namespace Z
open PySem PySem.Spec PyProof.Rows L2
open Evl (Ex)
/-! ### instances: fields, methods, making -/
/-- a method of the class at C: how it binds, what it promises -/
def Mf (P : Program) (w : World) (K : PySem.W.Frag) (mg : Str → Option Value) (base : Heap) (k : Nat) (C : Addr) (m : Str) (dvs : List V) (sp : Sp) : Prop :=
  ∃ (f : Addr) (fd : FuncData) (ps : List Str) (ds : List Value), Cls K C ∧ Meth K C m f ∧ Binds K fd ps ds ∧ Vals dvs ds ∧ FnOk P w K mg base (L2N.CX P w) k f fd ps sp
theorem Mf.mono {P : Program} {w : World} {K : PySem.W.Frag} {mg : Str → Option Value} {base : Heap} {k j : Nat} {C : Addr} {m : Str} {dvs : List V} {sp : Sp} (h : Mf P w K mg base k C m dvs sp) (hk : k ≤ j) : Mf P w K mg base j C m dvs sp := by
  obtain ⟨f, fd, ps, ds, h0, h1, h3, h4, h5⟩ := h
  exact ⟨f, fd, ps, ds, h0, h1, h3, h4, h5.mono hk⟩
section
variable {X : Cx} {σ : Z.St} {H : Hp} {e o : Expr} {es : List Expr} {D : Ends} {W : WX} {p pos pos' apos : Pos} {Q : VK} {f : Str}
theorem zfld (h : wE X o σ H fun x H1 => ∃ a C dx fs v, x = .ref a ∧ H1 a = some (.ins C dx fs) ∧ Cls X.K C ∧ NoAttr X.K C f ∧ fs.lookup f = some v ∧ Q v H1)
    (hb : attributeBase o f X.env (eval o X.env) = eval o X.env := by rfl) : wE X (.Attribute o f pos) σ H Q := ofE (pe_fld sE hb) h
theorem sfld (h : wE X e σ H fun y H1 => wE X o σ H1 fun x H2 => ∃ a C dx fs, x = .ref a ∧ H2 a = some (.ins C dx fs) ∧ Cls X.K C ∧ NoAttr X.K C f ∧ fs.length < 1000 ∧ D.nx σ (upd H2 a (.ins C dx (putF f y fs))))
    (hs : swapsWith e (some (.Attribute o f pos')) pos.line X.env = pure false := by rfl) : wS X (.Assign [.Attribute o f pos'] e pos) D σ H := ofS (ps_fld sE sE hs) h
theorem zmeth {m : Str} {j : Nat} {pl : Sem Bool} (hr : Room j X.A) (tk : L2N.Takes X W)
    (h : wE X o σ H fun x H1 => ∃ a C dx fs k dvs sp, x = .ref a ∧ H1 a = some (.ins C dx fs) ∧ fs.lookup m = none ∧ Mf X.prog X.w X.K X.mg X.base k C m dvs sp ∧ k ≤ j ∧ wA X (e :: es) σ H1 fun vs H2 => sp (x :: (vs ++ dvs)) H2 Q fun cls d H' => W cls d σ H')
    (hst : starEach (e :: es) X.env = (false, eval e X.env) :: starEach es X.env := by rfl) (hpl : (backTo pos (starEach es X.env)).any (·.1) = false := by rfl)
    (ht : eval (.Call (.Attribute o m apos) (e :: es) [] pos) X.env = (do
      let ov ← eval o X.env
      standAt apos.atName
      let (f, first) ← holding [ov] (getMethod ov m pl)
      callWith pos f first (backTo pos (starEach (e :: es) X.env)) (backToKw pos (keywordEach [] X.env))) := by rfl) : wE X (.Call (.Attribute o m apos) (e :: es) [] pos) σ H Q := by
  refine ⟨fun pins s I => ?_⟩
  refine PySem.W.methodCall_KW (pl := pl) (thn (h.run pins s I) fun u s1 ⟨x, H1, I1, rx, a, C, dx, fs, k, dvs, sp, ex, ea, l, F, hk, q⟩ => ?_) ht
  subst ex
  obtain rfl : u = Value.ref a := rx
  obtain ⟨fa, fd, ps, ds, hc, hm, hb, hd, FF⟩ := F
  refine getmeth_ok I1 ea hc hm l ?_
  refine PySem.W.callWith_K (first := [.ref a]) (h₀ := X.base) I.ok.mod.kin hm.kp (thn (q.run pos pins s1 I1) fun us s2 ⟨vs, H2, I2, r, q2⟩ => ⟨I2.kIn, ?_⟩) hst hpl
  exact run_gf (us := .ref a :: us) (vs := .ref a :: vs) FF (hr.mono hk) hb hd tk I2 (.cons rfl r) q2
theorem zmeth0 {m : Str} {j : Nat} {pl : Sem Bool} (hr : Room j X.A) (tk : L2N.Takes X W)
    (h : wE X o σ H fun x H1 => ∃ a C dx fs k dvs sp, x = .ref a ∧ H1 a = some (.ins C dx fs) ∧ fs.lookup m = none ∧ Mf X.prog X.w X.K X.mg X.base k C m dvs sp ∧ k ≤ j ∧ sp (x :: dvs) H1 Q fun cls d H' => W cls d σ H')
    (ht : eval (.Call (.Attribute o m apos) [] [] pos) X.env = (do
      let ov ← eval o X.env
      standAt apos.atName
      let (f, first) ← holding [ov] (getMethod ov m pl)
      callWith pos f first (backTo pos (starEach [] X.env)) (backToKw pos (keywordEach [] X.env))) := by rfl) : wE X (.Call (.Attribute o m apos) [] [] pos) σ H Q := by
  refine ⟨fun pins s I => ?_⟩
  refine PySem.W.methodCall_KW (pl := pl) (thn (h.run pins s I) fun u s1 ⟨x, H1, I1, rx, a, C, dx, fs, k, dvs, sp, ex, ea, l, F, hk, q⟩ => ?_) ht
  subst ex
  obtain rfl : u = Value.ref a := rx
  obtain ⟨fa, fd, ps, ds, hc, hm, hb, hd, FF⟩ := F
  refine getmeth_ok I1 ea hc hm l ?_
  exact PySem.W.callWith_K0 (first := [.ref a]) I1.kIn hm.kp (run_gf (us := [.ref a]) (vs := [.ref a]) FF (hr.mono hk) hb hd tk I1 (.cons rfl .nil) q)
/-! ### making -/
theorem own_ex {H : Hp} {x dx : Addr} {o1 o2 : HO} (hx : H x = none) (hd : H dx = none) : Ex H (upd (upd H dx o1) x o2) := fun b o e => by
  have n1 : b ≠ x := fun z => by rw [z, hx] at e; cases e
  have n2 : b ≠ dx := fun z => by rw [z, hd] at e; cases e
  rw [upd_ne n1, upd_ne n2]; exact e
theorem run_mk {pins : List (Addr × Obj)} {s : Shared} {k : Nat} {C fa : Addr} {fd : FuncData} {ps : List Str} {sp : Sp} {dvs : List V} {ds us : List Value} {vs : List V} (M : Mk X.K C fa) (F : FnOk X.prog X.w X.K X.mg X.base (L2N.CX X.prog X.w) k fa fd ps sp) (hr : Room (k + 1) X.A) (hb : Binds X.K fd ps ds) (hd : Vals dvs ds) (tk : L2N.Takes X W)
    (I : L2.Inv X pins σ H s) (r : Vals vs us)
    (h : ∀ x dx, H x = none → H dx = none → dx ≠ x → sp (.ref x :: (vs ++ dvs)) (upd (upd H dx (.own x)) x (.ins C dx [])) (fun v H2 => v = .non ∧ Q (.ref x) H2) fun cls d H' => W cls d σ H') :
    wpAny (model X.prog X.w) X.A (call (.ref C) us) (EP X pins σ Q) X.xe s := by
  have hq := h (s.heap.objs.size + 1) s.heap.objs.size (I.hok.fresh (Nat.le_succ _)) (I.hok.fresh (Nat.le_refl _)) (Nat.ne_of_lt (Nat.lt_succ_self _))
  have I2 := Inv.made (C := C) I
  have r2 : Vals (V.ref (s.heap.objs.size + 1) :: (vs ++ dvs)) (Value.ref (s.heap.objs.size + 1) :: (us ++ ds)) := .cons rfl (r.append hd)
  have hl : (Value.ref (s.heap.objs.size + 1) :: us ++ ds).length = ps.length := by
    have e := r2.length
    rw [F.len _ _ _ _ hq] at e
    exact e.symm
  refine wpAny_call (make_map (f := fa) I.kIn M.makes M.init (beq_iff_eq.mp M.fn) (codeAny_mono (F.run _ X.stack _ _ ⟨Value.ref (s.heap.objs.size + 1) :: us, []⟩ (Value.ref (s.heap.objs.size + 1) :: (us ++ ds)) _ _ (fun cls d H' => W cls d σ H') (hr.make C us [])
    (I2.env0.make C us []) (hb _ (Value.ref (s.heap.objs.size + 1) :: us) I2.kIn hl) r2 hq) fun r s' hq' => ?_))
  cases r with
  | error er => exact tk er s' (L2N.XE.of_call I2 (fun _ _ _ q => q) hq')
  | ok fl =>
    cases fl with
    | ret u =>
      obtain ⟨v, H', I3, rv, ev, q3⟩ := I2.after hq'
      subst ev
      exact ⟨rv, ⟨V.ref (s.heap.objs.size + 1), H', I3, rfl, q3⟩⟩
    | next => exact False.elim hq'
    | brk => exact False.elim hq'
    | cont => exact False.elim hq'
/-- a class and its __init__ -/
def Nf (P : Program) (w : World) (K : PySem.W.Frag) (mg : Str → Option Value) (base : Heap) (k : Nat) (x : Str) (C : Addr) (dvs : List V) (sp : Sp) : Prop :=
  ∃ (f : Addr) (fd : FuncData) (ps : List Str) (ds : List Value), mg x = some (.ref C) ∧ Mk K C f ∧ Binds K fd ps ds ∧ Vals dvs ds ∧ FnOk P w K mg base (L2N.CX P w) k f fd ps sp
theorem zmk {x : Str} {k j : Nat} {C : Addr} {dvs : List V} {sp : Sp} (F : Nf X.prog X.w X.K X.mg X.base k x C dvs sp) (hr : Room j X.A) (hk : k + 1 ≤ j) (tk : L2N.Takes X W) (hg : Gl X x)
    (h : wA X (e :: es) σ H fun vs H1 => ∀ a dx, H1 a = none → H1 dx = none → dx ≠ a → sp (.ref a :: (vs ++ dvs)) (upd (upd H1 dx (.own a)) a (.ins C dx [])) (fun v H2 => v = .non ∧ Q (.ref a) H2) fun cls d H' => W cls d σ H')
    (hdb : (x == ("__debug__" : Str)) = false := by decide) (he : starEach (e :: es) X.env = (false, eval e X.env) :: starEach es X.env := by rfl) (hpl : (backTo pos (starEach es X.env)).any (·.1) = false := by rfl) : wE X (.Call (.Name x p) (e :: es) [] pos) σ H Q := by
  refine ⟨fun pins s I => ?_⟩
  obtain ⟨fa, fd, ps, ds, hm, M, hb, hd, FF⟩ := F
  refine wpAny_Call_Name_kw (ld_glob I hg hm ?_ hdb)
  refine PySem.W.callWith_K (h₀ := X.base) I.ok.mod.kin M.kp (thn (h.run pos pins s I) fun us s1 ⟨vs, H1, I1, r, q⟩ => ⟨I1.kIn, ?_⟩) he hpl
  exact run_mk M FF (hr.mono hk) hb hd tk I1 r q
theorem zmk0 {x : Str} {k j : Nat} {C : Addr} {dvs : List V} {sp : Sp} (F : Nf X.prog X.w X.K X.mg X.base k x C dvs sp) (hr : Room j X.A) (hk : k + 1 ≤ j) (tk : L2N.Takes X W) (hg : Gl X x)
    (h : ∀ a dx, H a = none → H dx = none → dx ≠ a → sp (.ref a :: dvs) (upd (upd H dx (.own a)) a (.ins C dx [])) (fun v H2 => v = .non ∧ Q (.ref a) H2) fun cls d H' => W cls d σ H')
    (hdb : (x == ("__debug__" : Str)) = false := by decide) : wE X (.Call (.Name x p) [] [] pos) σ H Q := by
  refine ⟨fun pins s I => ?_⟩
  obtain ⟨fa, fd, ps, ds, hm, M, hb, hd, FF⟩ := F
  refine wpAny_Call_Name_kw (ld_glob I hg hm ?_ hdb)
  exact PySem.W.callWith_K0 I.kIn M.kp (run_mk (us := []) (vs := []) M FF (hr.mono hk) hb hd tk I .nil h)
/-- C() of a class without an own __init__ -/
theorem zmkP {x : Str} {C : Addr} (M : Mk0 X.K C) (top : PySem.W.mroIn X.K C (.type "object") = some true) (hm : X.mg x = some (.ref C)) (hg : Gl X x)
    (h : ∀ a dx H2, H a = none → Ex H H2 → H2 a = some (.ins C dx []) → Q (.ref a) H2)
    (hdb : (x == ("__debug__" : Str)) = false := by decide) : wE X (.Call (.Name x p) [] [] pos) σ H Q := by
  refine ⟨fun pins s I => ?_⟩
  refine wpAny_Call_Name_kw (ld_glob I hg hm ?_ hdb)
  refine PySem.W.callWith_K0 I.kIn M.kp ?_
  have I2 := Inv.made (C := C) I
  have hx := I.hok.fresh (Nat.le_succ s.heap.objs.size)
  have hd := I.hok.fresh (Nat.le_refl s.heap.objs.size)
  refine wpAny_call (make_map0 I.kIn M.makes M.init (fun self => PySem.W.Looks.of_pure (PySem.W.oi_bind self)) ?_)
  have Y := PySem.W.makes_of (M := model X.prog X.w) I.kIn M.makes
  have hget : ((s.heap.push PySem.W.emptyDict).push (PySem.W.instObj C s.heap.objs.size)).get? (s.heap.objs.size + 1) = some (PySem.W.instObj C s.heap.objs.size) := by heap_get
  have t1 : PySem.W.Looks (model X.prog X.w) ((s.heap.push PySem.W.emptyDict).push (PySem.W.instObj C s.heap.objs.size)) (typeOf (.ref (s.heap.objs.size + 1))) (.ref C) := (PySem.W.Looks.ld hget).andThen .now
  have t2 : PySem.W.Looks (model X.prog X.w) ((s.heap.push PySem.W.emptyDict).push (PySem.W.instObj C s.heap.objs.size)) (isInstance (.ref (s.heap.objs.size + 1)) (.type "object")) true := t1.andThen (Y.top.keeps fun b o e => Heap.get?_push_of_some _ (Heap.get?_push_of_some _ e))
  refine codeAny_call_builtin PySem.W.oi_plain PySem.W.entry_oi (@PySem.W.check_slot (model X.prog X.w) _ _ _ "object.__init__" "object" "__init__" (.ref (s.heap.objs.size + 1)) [] [] _ PySem.W.oi_kind PySem.W.oi_split t2 (PySem.W.oi_args (.ref (s.heap.objs.size + 1))) ?_)
  rw [PySem.W.oi_run]
  refine wpAny_pure (And.intro rfl ?_)
  exact ⟨V.ref (s.heap.objs.size + 1), _, I2, rfl, h _ _ _ hx (own_ex hx hd) upd_same⟩
/-! ### more: x.bit_length(), d.get(k, e) -/
theorem zbits (h : wE X o σ H fun x H1 => ∃ i, x = .int i ∧ Q (.int (Builtin.Int.intBits i : Nat)) H1) (hbase : attributeBase o "bit_length" X.env (eval o X.env) = eval o X.env := by rfl) (hline : (apos.endLine == pos.line) = true := by rfl) : wE X (.Call (.Attribute o "bit_length" apos) [] [] pos) σ H Q := ofE (pe_bits sE hbase hline) h
end
/-! ### a method of the text keeps its promise; an __init__ -/
section
variable {P : Program} {w : World} {K : PySem.W.Frag} {mg : Str → Option Value} {base : Heap}
theorem mf_mk {x q m : Str} {params : Arguments} {body : List Stmt} {scope : Scope} {C f : Addr} {ps : List Str} {k : Nat} {sp : Sp} (hF : ∃ fd, FunD K x q params body scope [] [] f fd) (hc : Cls K C) (hm : Meth K C m f)
    (hbind : ∀ (kV doc pm : Value) (an : Option Addr) (cdv ct : Value) (us : List Value), us.length = ps.length → bindArgs (PySem.W.fnOf x q params body scope .none kV doc pm an cdv ct) ⟨us, []⟩ = pure (ps.zip us))
    (ok : ∀ fd, FunD K x q params body scope [] [] f fd → FnOk P w K mg base (L2N.CX P w) k f fd ps sp) : Mf P w K mg base k C m [] sp := by
  obtain ⟨fd, F⟩ := hF
  exact ⟨f, fd, ps, [], hc, hm, F.bindsN hbind, .nil, ok fd F⟩
theorem nf_mk {x q n : Str} {params : Arguments} {body : List Stmt} {scope : Scope} {C f : Addr} {ps : List Str} {k : Nat} {sp : Sp} (hF : ∃ fd, FunD K x q params body scope [] [] f fd) (hg : mg n = some (.ref C)) (hm : Mk K C f)
    (hbind : ∀ (kV doc pm : Value) (an : Option Addr) (cdv ct : Value) (us : List Value), us.length = ps.length → bindArgs (PySem.W.fnOf x q params body scope .none kV doc pm an cdv ct) ⟨us, []⟩ = pure (ps.zip us))
    (ok : ∀ fd, FunD K x q params body scope [] [] f fd → FnOk P w K mg base (L2N.CX P w) k f fd ps sp) : Nf P w K mg base k n C [] sp := by
  obtain ⟨fd, F⟩ := hF
  exact ⟨f, fd, ps, [], hg, hm, F.bindsN hbind, .nil, ok fd F⟩
end
end Z

set_option maxRecDepth 100000
set_option maxHeartbeats 4000000
namespace Z
open PySem PySem.Spec PyProof.Rows L2
open Evl (Ex)
section
variable {X : Cx} {σ : Z.St} {H : Hp} {e e1 e2 f o a b elt : Expr} {es ifs : List Expr} {D : Ends} {W : WX} {p pos pos' apos tpos zpos : Pos} {Q : VK} {scope : Scope} {vs : List Nat} {elts : List Expr} {kk : Nat}
/-! ### dicts: display, d.get(k), d.get(k, x) -/
theorem zdget (hu : X.A.units + 1 < cLine) (h : wE X o σ H fun x H1 => ∃ a, x = .ref a ∧ IsD H1 a ∧ wE X e σ H1 fun y H2 => ∃ o, DGet H2 a y o ∧ Q (o.getD .non) H2)
    (m : M1 X o "get" apos e pos := by exact ⟨rfl, rfl, rfl, rfl⟩) : wE X (.Call (.Attribute o "get" apos) [e] [] pos) σ H Q := ofE (pe_dget1 hu sE sE m) h
theorem zdget2 (hu : X.A.units + 1 < cLine) (h : wE X o σ H fun x H1 => ∃ a, x = .ref a ∧ IsD H1 a ∧ wE X e σ H1 fun y H2 => wE X f σ H2 fun z H3 => ∃ o, DGet H3 a y o ∧ Q (o.getD z) H3)
    (m : M2 X o "get" apos e f pos := by exact ⟨rfl, rfl, rfl, rfl⟩) : wE X (.Call (.Attribute o "get" apos) [e, f] [] pos) σ H Q := ofE (pe_dget2 hu sE sE sE m) h
/-- trees of pairs, walked by wE -/
def PT2 (X : Cx) : List (Option Expr) → List Expr → List (TE × TE)
  | some k :: ks, v :: vs => (wE X k, wE X v) :: PT2 X ks vs
  | _, _ => []
theorem tPairs_imp {X : Cx} : ∀ {keys : List (Option Expr)} {values : List Expr} {σ : Z.St} {H : Hp} {Q Q' : List (V × V) → Hp → Prop}, tPairs (PT2 X keys values) σ H Q → (∀ ps H', Q ps H' → Q' ps H') → tPairs (PT2 X keys values) σ H Q'
  | some k :: ks, v :: vs, σ, H, Q, Q', h, q => wE.imp (show wE X k σ H _ from h) fun x H1 h1 => wE.imp h1 fun y H2 h2 => tPairs_imp (keys := ks) (values := vs) h2 fun ps H' z => q _ _ z
  | [], _, _, _, _, _, h, q => q _ _ h
  | none :: _, _, _, _, _, _, h, q => q _ _ h
  | some _ :: _, [], _, _, _, _, h, q => q _ _ h
theorem pps2 {X : Cx} {pos : Pos} : ∀ {keys : List (Option Expr)} {values : List Expr}, keys.all (·.isSome) = true → keys.length = values.length → PPs X pos keys values (PT2 X keys values)
  | [], [], _, _ => pps_nil
  | some k :: ks, v :: vs, h, hl => pps_cons sE sE (pps2 (by simpa using h) (by simpa using hl))
theorem zdisp {keys : List (Option Expr)} {values : List Expr} (hall : keys.all (·.isSome) = true) (hl : keys.length = values.length) (h0 : keys ≠ []) (h15 : keys.length ≤ 15)
    (h : ∀ p H1, H p = none → Ex H H1 → H1 p = some (.dK []) → tPairs (PT2 X keys values) σ H1 fun ps H2 => Ex H1 H2 ∧ ∃ kvs : List (Key × V), ps = kvs.map (fun kv => (kV kv.1, kv.2)) ∧ kvs.length ≤ 15 ∧ ∀ H3, Ex H H3 → (∀ b o, b ≠ p → H2 b = some o → H3 b = some o) → H3 p = some (.dK (mergeK [] kvs)) → Q (.ref p) H3) : wE X (.Dict keys values pos) σ H Q := by
  refine ofE (pe_disp (pps2 hall hl) hall hl h0 h15) fun p hpn => ?_
  have hx := h p _ hpn (Ex.new hpn) upd_same
  exact tPairs_imp hx fun ps H2 ⟨e2, kvs, e, hlen, q⟩ => ⟨e2 _ _ upd_same, kvs, e, hlen, q _ (Ex.past (Ex.trans (Ex.new hpn) e2) hpn) (fun b o n z => by rw [upd_ne n]; exact z) upd_same⟩
/-! ### more steps -/
theorem oles {x y : Str} (h : Q (.bl (!decide (y.cps.toList < x.cps.toList))) H) : wO X (compareOp .LtE) (.str x) (.str y) H Q := ofO op_le_str ⟨x, y, rfl, rfl, h⟩
theorem oeqsT {x y : Str} (e : x = y) (h : Q (.bl true) H) : wO X (compareOp .Eq) (.str x) (.str y) H Q := oeq rfl (by rw [decide_eq_true (congrArg V.str e)]; exact h)
theorem oeqsF {x y : Str} (e : x ≠ y) (h : Q (.bl false) H) : wO X (compareOp .Eq) (.str x) (.str y) H Q := oeq rfl (by rw [decide_eq_false fun z => e (V.str.inj z)]; exact h)
theorem onesT {x y : Str} (e : x = y) (h : Q (.bl false) H) : wO X (compareOp .NotEq) (.str x) (.str y) H Q := one rfl (by rw [decide_eq_true (congrArg V.str e)]; exact h)
theorem onesF {x y : Str} (e : x ≠ y) (h : Q (.bl true) H) : wO X (compareOp .NotEq) (.str x) (.str y) H Q := one rfl (by rw [decide_eq_false fun z => e (V.str.inj z)]; exact h)
theorem kstrS {x : Str} (h : Q (.str x) H) : wK X (.type "str") [.str x] H Q := ofK SkE.call_str_str ⟨x, rfl, h⟩
/-! ### comprehensions over zip -/
theorem piZip (hm : X.mg "zip" = none) (hg : Gl X "zip") (hsa : starEach [e1, e2] X.env = (false, eval e1 X.env) :: starEach [e2] X.env := by rfl) (hpl : (backTo zpos (starEach [e2] X.env)).any (·.1) = false := by rfl) : PI X (.Tuple elts kk tpos) (.Call (.Name "zip" p) [e1, e2] [] zpos) (iZip X.K (wA X [e1, e2])) := pi_zip hg hm sA hsa hpl
theorem tnZip {xs ys : List V} (G : Nat → List V → Hp → Prop) (hG : ∀ j ws H H', G j ws H → Ex H H' → G j ws H') (h0 : ∀ H, G 0 [] H) (hlen : xs.length = ys.length)
    (h : wA X [e1, e2] σ H fun vs0 H1 => ∃ a b, vs0 = [.ref a, .ref b] ∧ SqL X.K H1 a xs ∧ SqL X.K H1 b ys ∧
      (∀ j x y H' L ws T H2, xs[j]? = some x → ys[j]? = some y → Ex H1 H' → H1 L = none → H' L = some (.lst ws) → G j ws (del H' L) → H' T = none → Ex H' H2 → H2 T = some (.tup [x, y]) → turnG X scope (.Tuple elts kk tpos) ifs elt vs G L ws j (.ref T) σ H2) ∧ ∀ L H' ws, H1 L = none → Ex H1 H' → H' L = some (.lst ws) → G xs.length ws H' → Q (.ref L) H') :
    tLc (iZip X.K (wA X [e1, e2])) (bG X scope (.Tuple elts kk tpos)) (bTs X scope ifs) (bE X scope elt) vs σ H Q := by
  refine ⟨fun ps pins s I => thn (h.run ps pins s I) fun us s' ⟨vs0, H1, J, r, a, b, e, hx, hy, q2, q3⟩ => ⟨vs0, H1, J, r, a, b, xs, ys, e, hx, hy, fun L hL => ?_⟩⟩
  refine ⟨fun j d H' => d = xs.length - j ∧ j ≤ xs.length ∧ (Ex H1 H' ∧ ∃ ws, H' L = some (.lst ws) ∧ G j ws (del H' L)), ⟨xs.length, by simp, Nat.zero_le _, Ex.new hL, [], upd_same, h0 _⟩, ?_⟩
  rintro j d H' ⟨rfl, hj, e1, ws, hw, g⟩
  by_cases hlt : j < xs.length
  · refine .inr ⟨⟨xs, ys, xs[j], ys[j]'(by omega), Evl.ex_l e1 hx, Evl.ex_l e1 hy, List.getElem?_eq_getElem _, List.getElem?_eq_getElem _⟩, fun H' => Ex H1 H' ∧ ∃ ws, H' L = some (.lst ws) ∧ G (j + 1) ws (del H' L), fun H' p' => ⟨xs.length - (j + 1), by omega, rfl, hlt, p'⟩, ?_⟩
    rintro v H2 ⟨T, x, y, rfl, hT, rfl, hx', hy'⟩
    have eT : Ex H' (upd H' T (.tup [x, y])) := Ex.new hT
    have nT : T ≠ L := fun z => by rw [z, hw] at hT; cases hT
    refine turnG_of (G := G) hG hL (e1.trans eT) (eT _ _ hw) (q2 j x y H' L ws T _ (hx' xs (Evl.ex_l e1 hx)) (hy' ys (Evl.ex_l e1 hy)) e1 hL hw g hT eT upd_same)
  · have e : j = xs.length := by omega
    subst e
    exact .inl ⟨⟨xs, ys, Evl.ex_l e1 hx, Evl.ex_l e1 hy, .inl (Nat.le_refl _)⟩, q3 L H' ws hL e1 hw (hG _ _ _ _ g (del_ex _ _))⟩
end
/-! ### what is new in a heap -/
def nw (H H' : Hp) : Hp := fun b => match H b with
  | none => H' b
  | some _ => none
theorem nw_at {H H' : Hp} {a : Addr} {o : HO} (h : H a = none) (h' : H' a = some o) : nw H H' a = some o := by unfold nw; rw [h]; exact h'
theorem nw_sub {H H' : Hp} : Ex (nw H H') H' := fun b o e => by
  unfold nw at e
  split at e
  · exact e
  · cases e
theorem nw_mono {H H' H'' : Hp} (e : Ex H' H'') : Ex (nw H H') (nw H H'') := fun b o q => by
  unfold nw at q ⊢
  split at q
  · exact e _ _ q
  · cases q
theorem nw_more {H0 H H' : Hp} (e : Ex H0 H) : Ex (nw H H') (nw H0 H') := fun b o q => by
  unfold nw at q ⊢
  split at q
  · rename_i hb
    rw [show H0 b = none from by
      cases h : H0 b with
      | none => rfl
      | some z => have := e _ _ h; rw [hb] at this; cases this]
    exact q
  · cases q
theorem nw_del {H H' : Hp} {L : Addr} {o : HO} (h : H L = some o) : Ex (nw H H') (del H' L) := fun b z q => by
  have n : b ≠ L := fun e => by subst e; unfold nw at q; rw [h] at q; cases q
  rw [del_ne n]
  exact nw_sub _ _ q
theorem nw_up {H H' : Hp} {L : Addr} {o1 o2 : HO} (h : H L = some o1) : Ex (nw H H') (upd H' L o2) := fun b z q => by
  have n : b ≠ L := fun e => by subst e; unfold nw at q; rw [h] at q; cases q
  rw [upd_ne n]
  exact nw_sub _ _ q
/-! ### a list of anything beside the empty list -/
theorem oeqNil {X : Cx} {H : Hp} {Q : VK} {k : Nat} {a b : Addr} {xs : List V} (hr : Room k X.A) (hx : SqL X.K H a xs) (hy : SqL X.K H b []) (h : Q (.bl xs.isEmpty) H) : wO X (compareOp .Eq) (.ref a) (.ref b) H Q := by
  refine ⟨fun pins s σ v u I rx ry => ?_⟩
  have hu := hr.units
  cases rx
  cases ry
  obtain ⟨us, r1, p1, _⟩ := I.list hx
  obtain ⟨ws, r2, p2, _⟩ := I.list hy
  cases r2
  cases xs with
  | nil =>
    cases r1
    exact SeqAt.RcAt.lists (e := fun _ => true) p1.isList p2.isList rfl (by omega) (fun j j1 j2 => absurd j1 (by simp)) _ _ _ _ ⟨.bl _, H, I, rfl, h⟩
  | cons x xs =>
    cases r1
    exact SeqAt.RcAt.lists_lengths p1.isList p2.isList (by simp) (by omega) _ _ _ _ ⟨.bl _, H, I, rfl, h⟩
theorem oneNil {X : Cx} {H : Hp} {Q : VK} {k : Nat} {a b : Addr} {xs : List V} (hr : Room k X.A) (hx : SqL X.K H a xs) (hy : SqL X.K H b []) (h : Q (.bl (!xs.isEmpty)) H) : wO X (compareOp .NotEq) (.ref a) (.ref b) H Q := by
  refine ⟨fun pins s σ v u I rx ry => ?_⟩
  have hu := hr.units
  cases rx
  cases ry
  obtain ⟨us, r1, p1, _⟩ := I.list hx
  obtain ⟨ws, r2, p2, _⟩ := I.list hy
  cases r2
  cases xs with
  | nil =>
    cases r1
    exact SeqAt.RcNeAt.lists (e := fun _ => true) p1.isList p2.isList rfl (by omega) (fun j j1 j2 => absurd j1 (by simp)) _ _ _ _ ⟨.bl _, H, I, rfl, h⟩
  | cons x xs =>
    cases r1
    exact SeqAt.RcNeAt.lists_lengths p1.isList p2.isList (by simp) (by omega) _ _ _ _ ⟨.bl _, H, I, rfl, h⟩
end Z

set_option maxRecDepth 100000
set_option maxHeartbeats 4000000
set_option pp.maxSteps 1500
namespace K07
open PySem PySem.Spec PyProof.Rows L2 Z
open Evl (Ex)
variable {P : Program} {w : World} {K : PySem.W.Frag} {mg : Str → Option Value} {base : Heap}
/-! ### steps of the walk: one_sign: a heap grew into another; one_item: what stands at an address; one_place: a list or tuple to be read; leaf_len: arithmetic; tb_rel: one step; top_name: steps as far as they go -/
local macro_rules | `(tactic| got_up) => `(tactic| (refine Evl.Ex.trans (by assumption) ?_; first | assumption | exact Evl.Ex.refl _ | got_up))
local macro_rules | `(tactic| units_room) => `(tactic| (refine Evl.Ex.trans ?_ (by assumption); first | assumption | exact Evl.Ex.refl _ | units_room))
local macro_rules | `(tactic| one_sign) => `(tactic| first | assumption | exact Evl.Ex.refl _ | got_up | units_room)
local macro_rules | `(tactic| one_item) => `(tactic| first | assumption | exact upd_same | exact exa (by assumption) (by one_sign))
local macro_rules | `(tactic| one_place) => `(tactic| first | assumption | exact SqL.of (by assumption) | exact SqT.of (by assumption) | exact exl (by assumption) (by one_sign) | exact ext (by assumption) (by one_sign) | exact SqL.of (by one_item) | exact SqT.of (by one_item))
local macro_rules | `(tactic| leaf_len) => `(tactic| first | assumption | decide | omega)
local macro_rules | `(tactic| tb_rel) => `(tactic| first
  | ((with_reducible refine (?_ : wE _ _ _ _ _)); first
    | ((with_reducible refine (?_ : wE _ (.Name _ _) _ _ _)); first | refine zn (by rfl) (by first | exact Or.inl rfl | exact Or.inr (Or.inl rfl) | exact Or.inr (Or.inr rfl)) (by rfl) ?_ | refine zglob (by assumption) (by rfl) ?_ | refine zcls (by assumption) (by rfl) ?_ | refine zty (by assumption) (by first | exact bt_int | exact bt_bool | exact bt_str | exact bt_list | exact bt_tuple | exact bt_dict | exact bt_ValueError) (by rfl) ?_)
    | ((with_reducible refine (?_ : wE _ (.Constant _ _ _) _ _ _)); first | refine zint ?_ | refine zstr ?_ | refine zbl ?_ | refine znon ?_)
    | ((with_reducible refine (?_ : wE _ (.BinOp _ _ _ _) _ _ _)); refine zbin ?_)
    | ((with_reducible refine (?_ : wE _ (.Compare _ _ _ _) _ _ _)); first | refine zcmp (by rfl) ?_ | refine zchain ?_)
    | ((with_reducible refine (?_ : wE _ (.Dict [] [] _) _ _ _)); refine zdnew (fun _ _ _ _ _ => ?_))
    | ((with_reducible refine (?_ : wE _ (.Subscript _ (.Slice _ _ _ _) _) _ _ _)); refine zsl ?_)
    | ((with_reducible refine (?_ : wE _ (.Subscript _ _ _) _ _ _)); refine zix ?_)
    | ((with_reducible refine (?_ : wE _ (.Call (.Name "list" _) [.Call (.Name "range" _) [_] [] _] [] _) _ _ _)); refine zlrg1 rfl (by rfl) (by assumption) (by rfl) (by assumption) ?_)
    | ((with_reducible refine (?_ : wE _ (.Call (.Name _ _) _ _ _) _ _ _)); first
      | ((with_reducible refine (?_ : wE _ (.Call (.Name "len" _) _ _ _) _ _ _)); refine zbfn (by assumption) bt_len (by rfl) ?_)
      | ((with_reducible refine (?_ : wE _ (.Call (.Name "isinstance" _) _ _ _) _ _ _)); refine zbfn (by assumption) bt_isi (by rfl) ?_)
      | ((with_reducible refine (?_ : wE _ (.Call (.Name "min" _) _ _ _) _ _ _)); refine zbfn (by assumption) bt_min (by rfl) ?_)
      | ((with_reducible refine (?_ : wE _ (.Call (.Name "max" _) _ _ _) _ _ _)); refine zbfn (by assumption) bt_max (by rfl) ?_)
      | ((with_reducible refine (?_ : wE _ (.Call (.Name "list" _) _ _ _) _ _ _)); refine zbty (by assumption) bt_list (by rfl) ?_)
      | ((with_reducible refine (?_ : wE _ (.Call (.Name "tuple" _) _ _ _) _ _ _)); refine zbty (by assumption) bt_tuple (by rfl) ?_)
      | ((with_reducible refine (?_ : wE _ (.Call (.Name "int" _) _ _ _) _ _ _)); refine zbty (by assumption) bt_int (by rfl) ?_)
      | ((with_reducible refine (?_ : wE _ (.Call (.Name "abs" _) _ _ _) _ _ _)); refine zbfn (by assumption) bt_abs (by rfl) ?_)
      | ((with_reducible refine (?_ : wE _ (.Call (.Name "all" _) _ _ _) _ _ _)); refine zbfn (by assumption) bt_all (by rfl) ?_)
      | ((with_reducible refine (?_ : wE _ (.Call (.Name "sum" _) _ _ _) _ _ _)); refine zbfn (by assumption) bt_sum (by rfl) ?_)
      | ((with_reducible refine (?_ : wE _ (.Call (.Name "divmod" _) _ _ _) _ _ _)); refine zbfn (by assumption) bt_divmod (by rfl) ?_)
      | ((with_reducible refine (?_ : wE _ (.Call (.Name "ord" _) _ _ _) _ _ _)); refine zbfn (by assumption) bt_ord (by rfl) ?_))
    | ((with_reducible refine (?_ : wE _ (.IfExp _ _ _ _) _ _ _)); refine zif ?_)
    | ((with_reducible refine (?_ : wE _ (.Tuple _ _ _) _ _ _)); refine ztup ?_)
    | ((with_reducible refine (?_ : wE _ (.List _ _) _ _ _)); refine zlst ?_)
    | ((with_reducible refine (?_ : wE _ (.UnaryOp _ _ _) _ _ _)); first | refine znotV ?_ | refine zneg ?_)
    | ((with_reducible refine (?_ : wE _ (.BoolOp _ _ _) _ _ _)); first | refine zandV ?_ | refine zorV ?_ | refine zoneV ?_))
  | ((with_reducible refine (?_ : bE _ _ _ _ _ _)); refine ⟨fun _ _ _ _ _ => ?_⟩) | ((with_reducible refine (?_ : bG _ _ _ _ _ _ _)); refine ⟨fun _ _ _ _ _ => ?_⟩) | ((with_reducible refine (?_ : bTs _ _ _ _ _ _)); refine ⟨fun _ _ _ _ _ => ?_⟩)
  | ((with_reducible refine (?_ : hE _ _ _ _ _ _)); refine ⟨fun _ _ _ _ _ => ?_⟩) | ((with_reducible refine (?_ : hG _ _ _ _ _ _ _)); refine ⟨fun _ _ _ _ _ => ?_⟩) | ((with_reducible refine (?_ : hTs _ _ _ _ _ _)); refine ⟨fun _ _ _ _ _ => ?_⟩)
  | ((with_reducible refine (?_ : wP _ _ _ _ _)); first | refine pnon ?_ | refine psom ?_) | ((with_reducible refine (?_ : wSl _ _ _ _ _ _)); first | refine slL (by one_place) (fun _ _ _ _ _ => ?_) | refine slS (by assumption) ?_)
  | ((with_reducible refine (?_ : wTs _ _ _ _ _)); first | refine tsnil ?_ | refine tsone ?_)
  | ((with_reducible refine (?_ : wA _ _ _ _ _)); first | refine acons ?_ | refine anil ?_)
  | ((with_reducible refine (?_ : wO _ _ _ _ _ _)); first
    | ((with_reducible refine (?_ : wO _ (binaryOp .Add) _ _ _ _)); first | refine oadd ?_ | refine ocatE (by one_item) (by one_item) (Nat.le_of_ble_eq_true rfl) (fun _ _ _ _ _ => ?_))
    | ((with_reducible refine (?_ : wO _ (binaryOp .Sub) _ _ _ _)); first | refine osub ?_)
    | ((with_reducible refine (?_ : wO _ (binaryOp .Mult) _ _ _ _)); first | refine omul (by first | exact IntMulOk.of_right (by decide) | exact IntMulOk.of_left (by decide) | exact IntMulOk.of_right (intBits_le_64 (by omega) (by omega)) | exact IntMulOk.of_left (intBits_le_64 (by omega) (by omega))) ?_)
    | ((with_reducible refine (?_ : wO _ (binaryOp .Mod) _ _ _ _)); first | refine omod (by first | decide | omega) ?_)
    | ((with_reducible refine (?_ : wO _ (binaryOp .FloorDiv) _ _ _ _)); first | refine ofdiv ⟨by first | decide | omega, by decide⟩ ?_)
    | ((with_reducible refine (?_ : wO _ (binaryOp .BitAnd) _ _ _ _)); first | refine oand ?_)
    | ((with_reducible refine (?_ : wO _ (binaryOp .BitOr) _ _ _ _)); first | refine oor ?_)
    | ((with_reducible refine (?_ : wO _ (compareOp .Lt) _ _ _ _)); first | refine olt ?_)
    | ((with_reducible refine (?_ : wO _ (compareOp .LtE) _ _ _ _)); first | refine ole ?_)
    | ((with_reducible refine (?_ : wO _ (compareOp .Gt) _ _ _ _)); first | refine ogt ?_)
    | ((with_reducible refine (?_ : wO _ (compareOp .GtE) _ _ _ _)); first | refine oge ?_)
    | ((with_reducible refine (?_ : wO _ (compareOp .Eq) _ _ _ _)); first | refine oeqi ?_ | refine oeq (by rfl) ?_)
    | ((with_reducible refine (?_ : wO _ (compareOp .NotEq) _ _ _ _)); first | refine onei ?_ | refine one (by rfl) ?_)
    | ((with_reducible refine (?_ : wO _ (compareOp .In) _ _ _ _)); first | refine oin ?_)
    | ((with_reducible refine (?_ : wO _ (compareOp .NotIn) _ _ _ _)); first | refine onin ?_)
    | ((with_reducible refine (?_ : wO _ (compareOp .Is) _ _ _ _)); first | refine ois ?_)
    | ((with_reducible refine (?_ : wO _ (compareOp .IsNot) _ _ _ _)); first | refine onot ?_)
    | ((with_reducible refine (?_ : wO _ (binaryOp .RShift) _ _ _ _)); refine oshr (by first | decide | omega) ?_)
    | ((with_reducible refine (?_ : wO _ (binaryOp .BitXor) _ _ _ _)); refine oxor ?_)
    | ((with_reducible refine (?_ : wO _ (inplaceOp .BitXor) _ _ _ _)); refine ixor ?_)
    | ((with_reducible refine (?_ : wO _ (inplaceOp .RShift) _ _ _ _)); refine ishr (by first | decide | omega) ?_)
    | ((with_reducible refine (?_ : wO _ (inplaceOp .BitOr) _ _ _ _)); first | refine ior ?_)
    | ((with_reducible refine (?_ : wO _ (inplaceOp .Add) _ _ _ _)); first | refine iadd ?_))
  | ((with_reducible refine (?_ : wT _ _ _ _ _)); first
    | ((with_reducible refine (?_ : wT _ (.Compare _ _ _ _) _ _ _)); first | refine zcmpT (by rfl) ?_ | refine zchainT ?_)
    | ((with_reducible refine (?_ : wT _ (.UnaryOp _ _ _) _ _ _)); refine znotT ?_)
    | ((with_reducible refine (?_ : wT _ (.BoolOp _ _ _) _ _ _)); refine zW ?_)
    | refine zval ?_)
  | ((with_reducible refine (?_ : wW _ _ _ _ _)); first | refine zand ?_ | refine zor ?_ | refine zand1 ?_ | refine zor1 ?_)
  | ((with_reducible refine (?_ : wK _ _ _ _ _)); first
    | ((with_reducible refine (?_ : wK _ (.builtin "len") _ _ _)); first | refine klenL (by one_place) ?_ | refine klenT (by one_place) ?_ | refine klenS (by assumption) ?_)
    | ((with_reducible refine (?_ : wK _ (.builtin "isinstance") _ _ _)); first | refine kisE (by assumption) (by assumption) (by first | assumption | exact Xd.exx (by assumption) (by one_sign)) (by first | exact .own _ | exact .ty _) (by assumption) ?_ | refine kisi (.ty _) (by assumption) (by assumption) ?_ | refine kisi (.ty _) (.base (by first | exact .int _ | exact .bl _ | exact .str _ | exact .non | exact .tup (by one_item) | exact .lst (by one_item))) (kit_ty (r := true) (by rfl)) ?_ | refine kisi (.ty _) (.base (by first | exact .int _ | exact .bl _ | exact .str _ | exact .non | exact .tup (by one_item) | exact .lst (by one_item))) (kit_ty (r := false) (by rfl)) ?_)
    | ((with_reducible refine (?_ : wK _ (.builtin "divmod") _ _ _)); refine kdivmod ⟨by first | decide | omega, by decide⟩ (fun _ _ _ _ _ => ?_))
    | ((with_reducible refine (?_ : wK _ (.builtin "min") _ _ _)); refine kmin (by rfl) ?_)
    | ((with_reducible refine (?_ : wK _ (.builtin "max") _ _ _)); refine kmax (by rfl) ?_)
    | ((with_reducible refine (?_ : wK _ (.type "list") _ _ _)); first | refine klistL (by one_place) (fun _ _ _ _ _ => ?_) | refine klistT (by one_place) (fun _ _ _ _ _ => ?_))
    | ((with_reducible refine (?_ : wK _ (.type "tuple") _ _ _)); first | refine ktupL (by one_place) (fun _ _ _ _ _ => ?_)))
  | ((with_reducible refine (?_ : wS _ _ _ _ _)); first
    | ((with_reducible refine (?_ : wS _ (.Assign [.Name _ _] _ _) _ _ _)); refine sset' (by assumption) (by rfl) (by first | exact Or.inl rfl | exact Or.inr rfl) (by rfl) (by first | exact .inl rfl | exact .inr rfl) ?_)
    | ((with_reducible refine (?_ : wS _ (.AugAssign (.Name _ _) _ _ _) _ _ _)); refine saug' (by assumption) (by rfl) (by first | exact Or.inl rfl | exact Or.inr rfl) (by first | exact .inl rfl | exact .inr rfl) (by rfl) ?_)
    | ((with_reducible refine (?_ : wS _ (.Expr _ _) _ _ _)); refine sexp ?_)
    | ((with_reducible refine (?_ : wS _ (.Assign [.Tuple _ _ _] _ _) _ _ _)); refine sasg ?_) | ((with_reducible refine (?_ : wS _ (.Assign [.Subscript _ _ _] _ _) _ _ _)); refine sasg ?_)
    | refine sret ?_ | refine sif ?_ | refine sretN ?_ | refine spass ?_ | refine sbrk ?_ | refine scont ?_)
  | ((with_reducible refine (?_ : wG _ (.Name _ _) _ _ _ _)); refine gname' (by assumption) (by rfl) (by first | exact Or.inl rfl | exact Or.inr rfl) (by first | exact .inl rfl | exact .inr rfl) ?_)
  | ((with_reducible refine (?_ : wG _ (.Tuple _ _ _) _ _ _ _)); refine gtup rfl (by one_place) rfl ?_) | ((with_reducible refine (?_ : wG _ (.Subscript _ _ _) _ _ _ _)); refine gsub ?_)
  | ((with_reducible refine (?_ : wGs _ _ _ _ _ _)); first | refine gscons ?_ | refine gsnil ?_)
  | ((with_reducible refine (?_ : wB _ _ _ _ _)); first | refine bcons ?_ | refine bnil ?_)
  | refine ifT ?_ | refine ifF ?_ | refine ifd (fun _ => ?_) (fun _ => ?_) | refine ifnd (fun _ => ?_) (fun _ => ?_) | refine ⟨_, rfl, ?_⟩ | refine ⟨rfl, Evl.Ex.refl _, ?_⟩ | refine ⟨Nat.le_of_ble_eq_true rfl, fun _ _ _ _ _ => ?_⟩ | fail)
local macro_rules | `(tactic| top_name) => `(tactic| repeat' tb_rel)
local macro_rules | `(tactic| nest_fact) => `(tactic| first | exact ⟨(decide_eq_true (by omega)).symm, rfl⟩ | exact ⟨(decide_eq_false (by omega)).symm, rfl⟩ | exact ⟨decide_eq_decide.mpr (by omega), rfl⟩ | fail)
/-! ### kinds -/
inductive KD where
  | truth
  | count
  | whole
  | upto (n : Int)
  | text (n : Int)
  | form (s : Str)
  | list (k : KD)
def KD.cls : KD → Str
  | .truth => "Truth"
  | .count => "Count"
  | .whole => "Whole"
  | .upto _ => "Upto"
  | .text _ => "Text"
  | .form _ => "Nested"
  | .list _ => "List"
def KD.word : KD → Str
  | .truth => "truth"
  | .count => "count"
  | .whole => "whole"
  | .upto _ => "upto"
  | .text _ => "text"
  | .form _ => "form"
  | .list _ => "list"
def KD.words : KD → List Str
  | .truth => ["truth"]
  | .count => ["count"]
  | .whole => ["whole"]
  | .upto n => ["upto", toString n]
  | .text n => if n = 100 then ["text"] else ["text", toString n]
  | .form s => ["form", s]
  | .list k => "list" :: k.words
def KD.plain : KD → Bool
  | .form _ => false
  | .list _ => false
  | _ => true
def KD.shape : KD → Int
  | .text _ => 1
  | .form _ => 1
  | .list _ => 1
  | _ => 0
def bits (n : Int) : Int := if n > 255 then 0 else (Builtin.Int.intBits n : Nat)
def KD.width : KD → Int
  | .truth => 1
  | .upto n => bits n
  | _ => 0
def KD.blank : KD → V
  | .truth => .bl false
  | .text _ => .str ""
  | .form _ => .non
  | _ => .int 0
def KD.dep : KD → Nat
  | .list k => k.dep + 1
  | _ => 0
def MOST : Int := 115792089237316195423570985008687907853269984665640564039457584007913129639935
/-- a kind that may be made -/
def KD.Ok : KD → Prop
  | .upto n => 1 ≤ n ∧ n ≤ MOST
  | .text n => 1 ≤ n ∧ n ≤ 100
  | .form s => s.length ≤ 100
  | .list k => k.Ok
  | _ => True
/-- a kind as it stands -/
inductive KI (K : PySem.W.Frag) (H : Hp) : V → KD → Prop
  | truth {a dx : Addr} (h : H a = some (.ins (He.ga K "Truth") dx [])) : KI K H (.ref a) .truth
  | count {a dx : Addr} (h : H a = some (.ins (He.ga K "Count") dx [])) : KI K H (.ref a) .count
  | whole {a dx : Addr} (h : H a = some (.ins (He.ga K "Whole") dx [])) : KI K H (.ref a) .whole
  | upto {a dx : Addr} {n : Int} (h : H a = some (.ins (He.ga K "Upto") dx [("most", .int n)])) : KI K H (.ref a) (.upto n)
  | text {a dx : Addr} {n : Int} (h : H a = some (.ins (He.ga K "Text") dx [("most", .int n)])) : KI K H (.ref a) (.text n)
  | form {a dx : Addr} {s : Str} (h : H a = some (.ins (He.ga K "Nested") dx [("name", .str s)])) : KI K H (.ref a) (.form s)
  | list {a dx : Addr} {v : V} {k : KD} (h : H a = some (.ins (He.ga K "List") dx [("item", v)])) (i : KI K H v k) : KI K H (.ref a) (.list k)
theorem KI.ex {H H' : Hp} (e : Ex H H') : ∀ {v : V} {k : KD}, KI K H v k → KI K H' v k
  | _, _, .truth h => .truth (e _ _ h)
  | _, _, .count h => .count (e _ _ h)
  | _, _, .whole h => .whole (e _ _ h)
  | _, _, .upto h => .upto (e _ _ h)
  | _, _, .text h => .text (e _ _ h)
  | _, _, .form h => .form (e _ _ h)
  | _, _, .list h i => .list (e _ _ h) (i.ex e)
def methods : List Str := ["word", "words", "is_plain", "shape", "width", "suits", "blank"]
theorem KI.ins {H : Hp} {v : V} {k : KD} (h : KI K H v k) : ∃ a dx fs, v = .ref a ∧ H a = some (.ins (He.ga K k.cls) dx fs) ∧ ∀ m ∈ methods, fs.lookup m = none := by
  cases h with
  | truth h => exact ⟨_, _, _, rfl, h, fun m _ => rfl⟩
  | count h => exact ⟨_, _, _, rfl, h, fun m _ => rfl⟩
  | whole h => exact ⟨_, _, _, rfl, h, fun m _ => rfl⟩
  | upto h => exact ⟨_, _, _, rfl, h, fun m hm => by unfold methods at hm; simp at hm; rcases hm with rfl | rfl | rfl | rfl | rfl | rfl | rfl <;> rfl⟩
  | text h => exact ⟨_, _, _, rfl, h, fun m hm => by unfold methods at hm; simp at hm; rcases hm with rfl | rfl | rfl | rfl | rfl | rfl | rfl <;> rfl⟩
  | form h => exact ⟨_, _, _, rfl, h, fun m hm => by unfold methods at hm; simp at hm; rcases hm with rfl | rfl | rfl | rfl | rfl | rfl | rfl <;> rfl⟩
  | list h i => exact ⟨_, _, _, rfl, h, fun m hm => by unfold methods at hm; simp at hm; rcases hm with rfl | rfl | rfl | rfl | rfl | rfl | rfl <;> rfl⟩
theorem cK (T : Txt K mg) (k : KD) : InsK K (He.ga K k.cls) := by
  cases k with
  | truth => exact T.c_Truth
  | count => exact T.c_Count
  | whole => exact T.c_Whole
  | upto n => exact T.c_Upto
  | text n => exact T.c_Text
  | form s => exact T.c_Nested
  | list k => exact T.c_List
def spC (v : V) : Sp := fun vs H Q _ => ∃ a : Addr, vs = [.ref a] ∧ Q v H
/-! ### methods that tell a constant -/
theorem fc_Truth_word {fd : FuncData} (F : FunD K "word" "Truth.word" (defArgs s_Truth_word) (defBody s_Truth_word) (defScope s_Truth_word) [] [] (He.fAd K ("Truth", some "word")) fd) : FnOk P w K mg base (L2N.CX P w) 1 (He.fAd K ("Truth", some "word")) fd ["self"] (spC (.str "truth")) := by
  refine fn_mk F sc_Truth_word (fun vs H Q E h => ?_) fun cd A outer s H vs Q E hr tk po h => ?_
  · obtain ⟨a, rfl, _⟩ := h; rfl
  · obtain ⟨a, rfl, q⟩ := h
    top_name
    exact q
theorem mf_Truth_word (T : Txt K mg) : Mf P w K mg base 1 (He.ga K "Truth") "word" [] (spC (.str "truth")) := mf_mk T.f_Truth_word T.c_Truth.cl T.h_Truth_word (fun _ _ _ _ _ _ us hl => match us, hl with | [_], _ => rfl) fun fd F => fc_Truth_word F
theorem fc_Count_word {fd : FuncData} (F : FunD K "word" "Count.word" (defArgs s_Count_word) (defBody s_Count_word) (defScope s_Count_word) [] [] (He.fAd K ("Count", some "word")) fd) : FnOk P w K mg base (L2N.CX P w) 1 (He.fAd K ("Count", some "word")) fd ["self"] (spC (.str "count")) := by
  refine fn_mk F sc_Count_word (fun vs H Q E h => ?_) fun cd A outer s H vs Q E hr tk po h => ?_
  · obtain ⟨a, rfl, _⟩ := h; rfl
  · obtain ⟨a, rfl, q⟩ := h
    top_name
    exact q
theorem mf_Count_word (T : Txt K mg) : Mf P w K mg base 1 (He.ga K "Count") "word" [] (spC (.str "count")) := mf_mk T.f_Count_word T.c_Count.cl T.h_Count_word (fun _ _ _ _ _ _ us hl => match us, hl with | [_], _ => rfl) fun fd F => fc_Count_word F
theorem fc_Whole_word {fd : FuncData} (F : FunD K "word" "Whole.word" (defArgs s_Whole_word) (defBody s_Whole_word) (defScope s_Whole_word) [] [] (He.fAd K ("Whole", some "word")) fd) : FnOk P w K mg base (L2N.CX P w) 1 (He.fAd K ("Whole", some "word")) fd ["self"] (spC (.str "whole")) := by
  refine fn_mk F sc_Whole_word (fun vs H Q E h => ?_) fun cd A outer s H vs Q E hr tk po h => ?_
  · obtain ⟨a, rfl, _⟩ := h; rfl
  · obtain ⟨a, rfl, q⟩ := h
    top_name
    exact q
theorem mf_Whole_word (T : Txt K mg) : Mf P w K mg base 1 (He.ga K "Whole") "word" [] (spC (.str "whole")) := mf_mk T.f_Whole_word T.c_Whole.cl T.h_Whole_word (fun _ _ _ _ _ _ us hl => match us, hl with | [_], _ => rfl) fun fd F => fc_Whole_word F
theorem fc_Upto_word {fd : FuncData} (F : FunD K "word" "Upto.word" (defArgs s_Upto_word) (defBody s_Upto_word) (defScope s_Upto_word) [] [] (He.fAd K ("Upto", some "word")) fd) : FnOk P w K mg base (L2N.CX P w) 1 (He.fAd K ("Upto", some "word")) fd ["self"] (spC (.str "upto")) := by
  refine fn_mk F sc_Upto_word (fun vs H Q E h => ?_) fun cd A outer s H vs Q E hr tk po h => ?_
  · obtain ⟨a, rfl, _⟩ := h; rfl
  · obtain ⟨a, rfl, q⟩ := h
    top_name
    exact q
theorem mf_Upto_word (T : Txt K mg) : Mf P w K mg base 1 (He.ga K "Upto") "word" [] (spC (.str "upto")) := mf_mk T.f_Upto_word T.c_Upto.cl T.h_Upto_word (fun _ _ _ _ _ _ us hl => match us, hl with | [_], _ => rfl) fun fd F => fc_Upto_word F
theorem fc_Text_word {fd : FuncData} (F : FunD K "word" "Text.word" (defArgs s_Text_word) (defBody s_Text_word) (defScope s_Text_word) [] [] (He.fAd K ("Text", some "word")) fd) : FnOk P w K mg base (L2N.CX P w) 1 (He.fAd K ("Text", some "word")) fd ["self"] (spC (.str "text")) := by
  refine fn_mk F sc_Text_word (fun vs H Q E h => ?_) fun cd A outer s H vs Q E hr tk po h => ?_
  · obtain ⟨a, rfl, _⟩ := h; rfl
  · obtain ⟨a, rfl, q⟩ := h
    top_name
    exact q
theorem mf_Text_word (T : Txt K mg) : Mf P w K mg base 1 (He.ga K "Text") "word" [] (spC (.str "text")) := mf_mk T.f_Text_word T.c_Text.cl T.h_Text_word (fun _ _ _ _ _ _ us hl => match us, hl with | [_], _ => rfl) fun fd F => fc_Text_word F
theorem fc_Nested_word {fd : FuncData} (F : FunD K "word" "Nested.word" (defArgs s_Nested_word) (defBody s_Nested_word) (defScope s_Nested_word) [] [] (He.fAd K ("Nested", some "word")) fd) : FnOk P w K mg base (L2N.CX P w) 1 (He.fAd K ("Nested", some "word")) fd ["self"] (spC (.str "form")) := by
  refine fn_mk F sc_Nested_word (fun vs H Q E h => ?_) fun cd A outer s H vs Q E hr tk po h => ?_
  · obtain ⟨a, rfl, _⟩ := h; rfl
  · obtain ⟨a, rfl, q⟩ := h
    top_name
    exact q
theorem mf_Nested_word (T : Txt K mg) : Mf P w K mg base 1 (He.ga K "Nested") "word" [] (spC (.str "form")) := mf_mk T.f_Nested_word T.c_Nested.cl T.h_Nested_word (fun _ _ _ _ _ _ us hl => match us, hl with | [_], _ => rfl) fun fd F => fc_Nested_word F
theorem fc_List_word {fd : FuncData} (F : FunD K "word" "List.word" (defArgs s_List_word) (defBody s_List_word) (defScope s_List_word) [] [] (He.fAd K ("List", some "word")) fd) : FnOk P w K mg base (L2N.CX P w) 1 (He.fAd K ("List", some "word")) fd ["self"] (spC (.str "list")) := by
  refine fn_mk F sc_List_word (fun vs H Q E h => ?_) fun cd A outer s H vs Q E hr tk po h => ?_
  · obtain ⟨a, rfl, _⟩ := h; rfl
  · obtain ⟨a, rfl, q⟩ := h
    top_name
    exact q
theorem mf_List_word (T : Txt K mg) : Mf P w K mg base 1 (He.ga K "List") "word" [] (spC (.str "list")) := mf_mk T.f_List_word T.c_List.cl T.h_List_word (fun _ _ _ _ _ _ us hl => match us, hl with | [_], _ => rfl) fun fd F => fc_List_word F
theorem fc_Kind_is_plain {fd : FuncData} (F : FunD K "is_plain" "Kind.is_plain" (defArgs s_Kind_is_plain) (defBody s_Kind_is_plain) (defScope s_Kind_is_plain) [] [] (He.fAd K ("Kind", some "is_plain")) fd) : FnOk P w K mg base (L2N.CX P w) 1 (He.fAd K ("Kind", some "is_plain")) fd ["self"] (spC (.bl true)) := by
  refine fn_mk F sc_Kind_is_plain (fun vs H Q E h => ?_) fun cd A outer s H vs Q E hr tk po h => ?_
  · obtain ⟨a, rfl, _⟩ := h; rfl
  · obtain ⟨a, rfl, q⟩ := h
    top_name
    exact q
theorem mf_Truth_is_plain (T : Txt K mg) : Mf P w K mg base 1 (He.ga K "Truth") "is_plain" [] (spC (.bl true)) := mf_mk T.f_Kind_is_plain T.c_Truth.cl T.h_Truth_is_plain (fun _ _ _ _ _ _ us hl => match us, hl with | [_], _ => rfl) fun fd F => fc_Kind_is_plain F
theorem mf_Count_is_plain (T : Txt K mg) : Mf P w K mg base 1 (He.ga K "Count") "is_plain" [] (spC (.bl true)) := mf_mk T.f_Kind_is_plain T.c_Count.cl T.h_Count_is_plain (fun _ _ _ _ _ _ us hl => match us, hl with | [_], _ => rfl) fun fd F => fc_Kind_is_plain F
theorem mf_Whole_is_plain (T : Txt K mg) : Mf P w K mg base 1 (He.ga K "Whole") "is_plain" [] (spC (.bl true)) := mf_mk T.f_Kind_is_plain T.c_Whole.cl T.h_Whole_is_plain (fun _ _ _ _ _ _ us hl => match us, hl with | [_], _ => rfl) fun fd F => fc_Kind_is_plain F
theorem mf_Upto_is_plain (T : Txt K mg) : Mf P w K mg base 1 (He.ga K "Upto") "is_plain" [] (spC (.bl true)) := mf_mk T.f_Kind_is_plain T.c_Upto.cl T.h_Upto_is_plain (fun _ _ _ _ _ _ us hl => match us, hl with | [_], _ => rfl) fun fd F => fc_Kind_is_plain F
theorem mf_Text_is_plain (T : Txt K mg) : Mf P w K mg base 1 (He.ga K "Text") "is_plain" [] (spC (.bl true)) := mf_mk T.f_Kind_is_plain T.c_Text.cl T.h_Text_is_plain (fun _ _ _ _ _ _ us hl => match us, hl with | [_], _ => rfl) fun fd F => fc_Kind_is_plain F
theorem fc_Nested_is_plain {fd : FuncData} (F : FunD K "is_plain" "Nested.is_plain" (defArgs s_Nested_is_plain) (defBody s_Nested_is_plain) (defScope s_Nested_is_plain) [] [] (He.fAd K ("Nested", some "is_plain")) fd) : FnOk P w K mg base (L2N.CX P w) 1 (He.fAd K ("Nested", some "is_plain")) fd ["self"] (spC (.bl false)) := by
  refine fn_mk F sc_Nested_is_plain (fun vs H Q E h => ?_) fun cd A outer s H vs Q E hr tk po h => ?_
  · obtain ⟨a, rfl, _⟩ := h; rfl
  · obtain ⟨a, rfl, q⟩ := h
    top_name
    exact q
theorem mf_Nested_is_plain (T : Txt K mg) : Mf P w K mg base 1 (He.ga K "Nested") "is_plain" [] (spC (.bl false)) := mf_mk T.f_Nested_is_plain T.c_Nested.cl T.h_Nested_is_plain (fun _ _ _ _ _ _ us hl => match us, hl with | [_], _ => rfl) fun fd F => fc_Nested_is_plain F
theorem fc_List_is_plain {fd : FuncData} (F : FunD K "is_plain" "List.is_plain" (defArgs s_List_is_plain) (defBody s_List_is_plain) (defScope s_List_is_plain) [] [] (He.fAd K ("List", some "is_plain")) fd) : FnOk P w K mg base (L2N.CX P w) 1 (He.fAd K ("List", some "is_plain")) fd ["self"] (spC (.bl false)) := by
  refine fn_mk F sc_List_is_plain (fun vs H Q E h => ?_) fun cd A outer s H vs Q E hr tk po h => ?_
  · obtain ⟨a, rfl, _⟩ := h; rfl
  · obtain ⟨a, rfl, q⟩ := h
    top_name
    exact q
theorem mf_List_is_plain (T : Txt K mg) : Mf P w K mg base 1 (He.ga K "List") "is_plain" [] (spC (.bl false)) := mf_mk T.f_List_is_plain T.c_List.cl T.h_List_is_plain (fun _ _ _ _ _ _ us hl => match us, hl with | [_], _ => rfl) fun fd F => fc_List_is_plain F
theorem fc_Kind_shape {fd : FuncData} (F : FunD K "shape" "Kind.shape" (defArgs s_Kind_shape) (defBody s_Kind_shape) (defScope s_Kind_shape) [] [] (He.fAd K ("Kind", some "shape")) fd) : FnOk P w K mg base (L2N.CX P w) 1 (He.fAd K ("Kind", some "shape")) fd ["self"] (spC (.int 0)) := by
  refine fn_mk F sc_Kind_shape (fun vs H Q E h => ?_) fun cd A outer s H vs Q E hr tk po h => ?_
  · obtain ⟨a, rfl, _⟩ := h; rfl
  · obtain ⟨a, rfl, q⟩ := h
    top_name
    exact q
theorem mf_Truth_shape (T : Txt K mg) : Mf P w K mg base 1 (He.ga K "Truth") "shape" [] (spC (.int 0)) := mf_mk T.f_Kind_shape T.c_Truth.cl T.h_Truth_shape (fun _ _ _ _ _ _ us hl => match us, hl with | [_], _ => rfl) fun fd F => fc_Kind_shape F
theorem mf_Count_shape (T : Txt K mg) : Mf P w K mg base 1 (He.ga K "Count") "shape" [] (spC (.int 0)) := mf_mk T.f_Kind_shape T.c_Count.cl T.h_Count_shape (fun _ _ _ _ _ _ us hl => match us, hl with | [_], _ => rfl) fun fd F => fc_Kind_shape F
theorem mf_Whole_shape (T : Txt K mg) : Mf P w K mg base 1 (He.ga K "Whole") "shape" [] (spC (.int 0)) := mf_mk T.f_Kind_shape T.c_Whole.cl T.h_Whole_shape (fun _ _ _ _ _ _ us hl => match us, hl with | [_], _ => rfl) fun fd F => fc_Kind_shape F
theorem mf_Upto_shape (T : Txt K mg) : Mf P w K mg base 1 (He.ga K "Upto") "shape" [] (spC (.int 0)) := mf_mk T.f_Kind_shape T.c_Upto.cl T.h_Upto_shape (fun _ _ _ _ _ _ us hl => match us, hl with | [_], _ => rfl) fun fd F => fc_Kind_shape F
theorem fc_Text_shape {fd : FuncData} (F : FunD K "shape" "Text.shape" (defArgs s_Text_shape) (defBody s_Text_shape) (defScope s_Text_shape) [] [] (He.fAd K ("Text", some "shape")) fd) : FnOk P w K mg base (L2N.CX P w) 1 (He.fAd K ("Text", some "shape")) fd ["self"] (spC (.int 1)) := by
  refine fn_mk F sc_Text_shape (fun vs H Q E h => ?_) fun cd A outer s H vs Q E hr tk po h => ?_
  · obtain ⟨a, rfl, _⟩ := h; rfl
  · obtain ⟨a, rfl, q⟩ := h
    top_name
    exact q
theorem mf_Text_shape (T : Txt K mg) : Mf P w K mg base 1 (He.ga K "Text") "shape" [] (spC (.int 1)) := mf_mk T.f_Text_shape T.c_Text.cl T.h_Text_shape (fun _ _ _ _ _ _ us hl => match us, hl with | [_], _ => rfl) fun fd F => fc_Text_shape F
theorem fc_Nested_shape {fd : FuncData} (F : FunD K "shape" "Nested.shape" (defArgs s_Nested_shape) (defBody s_Nested_shape) (defScope s_Nested_shape) [] [] (He.fAd K ("Nested", some "shape")) fd) : FnOk P w K mg base (L2N.CX P w) 1 (He.fAd K ("Nested", some "shape")) fd ["self"] (spC (.int 1)) := by
  refine fn_mk F sc_Nested_shape (fun vs H Q E h => ?_) fun cd A outer s H vs Q E hr tk po h => ?_
  · obtain ⟨a, rfl, _⟩ := h; rfl
  · obtain ⟨a, rfl, q⟩ := h
    top_name
    exact q
theorem mf_Nested_shape (T : Txt K mg) : Mf P w K mg base 1 (He.ga K "Nested") "shape" [] (spC (.int 1)) := mf_mk T.f_Nested_shape T.c_Nested.cl T.h_Nested_shape (fun _ _ _ _ _ _ us hl => match us, hl with | [_], _ => rfl) fun fd F => fc_Nested_shape F
theorem fc_List_shape {fd : FuncData} (F : FunD K "shape" "List.shape" (defArgs s_List_shape) (defBody s_List_shape) (defScope s_List_shape) [] [] (He.fAd K ("List", some "shape")) fd) : FnOk P w K mg base (L2N.CX P w) 1 (He.fAd K ("List", some "shape")) fd ["self"] (spC (.int 1)) := by
  refine fn_mk F sc_List_shape (fun vs H Q E h => ?_) fun cd A outer s H vs Q E hr tk po h => ?_
  · obtain ⟨a, rfl, _⟩ := h; rfl
  · obtain ⟨a, rfl, q⟩ := h
    top_name
    exact q
theorem mf_List_shape (T : Txt K mg) : Mf P w K mg base 1 (He.ga K "List") "shape" [] (spC (.int 1)) := mf_mk T.f_List_shape T.c_List.cl T.h_List_shape (fun _ _ _ _ _ _ us hl => match us, hl with | [_], _ => rfl) fun fd F => fc_List_shape F
theorem fc_Truth_width {fd : FuncData} (F : FunD K "width" "Truth.width" (defArgs s_Truth_width) (defBody s_Truth_width) (defScope s_Truth_width) [] [] (He.fAd K ("Truth", some "width")) fd) : FnOk P w K mg base (L2N.CX P w) 1 (He.fAd K ("Truth", some "width")) fd ["self"] (spC (.int 1)) := by
  refine fn_mk F sc_Truth_width (fun vs H Q E h => ?_) fun cd A outer s H vs Q E hr tk po h => ?_
  · obtain ⟨a, rfl, _⟩ := h; rfl
  · obtain ⟨a, rfl, q⟩ := h
    top_name
    exact q
theorem mf_Truth_width (T : Txt K mg) : Mf P w K mg base 1 (He.ga K "Truth") "width" [] (spC (.int 1)) := mf_mk T.f_Truth_width T.c_Truth.cl T.h_Truth_width (fun _ _ _ _ _ _ us hl => match us, hl with | [_], _ => rfl) fun fd F => fc_Truth_width F
theorem fc_Kind_width {fd : FuncData} (F : FunD K "width" "Kind.width" (defArgs s_Kind_width) (defBody s_Kind_width) (defScope s_Kind_width) [] [] (He.fAd K ("Kind", some "width")) fd) : FnOk P w K mg base (L2N.CX P w) 1 (He.fAd K ("Kind", some "width")) fd ["self"] (spC (.int 0)) := by
  refine fn_mk F sc_Kind_width (fun vs H Q E h => ?_) fun cd A outer s H vs Q E hr tk po h => ?_
  · obtain ⟨a, rfl, _⟩ := h; rfl
  · obtain ⟨a, rfl, q⟩ := h
    top_name
    exact q
theorem mf_Count_width (T : Txt K mg) : Mf P w K mg base 1 (He.ga K "Count") "width" [] (spC (.int 0)) := mf_mk T.f_Kind_width T.c_Count.cl T.h_Count_width (fun _ _ _ _ _ _ us hl => match us, hl with | [_], _ => rfl) fun fd F => fc_Kind_width F
theorem mf_Whole_width (T : Txt K mg) : Mf P w K mg base 1 (He.ga K "Whole") "width" [] (spC (.int 0)) := mf_mk T.f_Kind_width T.c_Whole.cl T.h_Whole_width (fun _ _ _ _ _ _ us hl => match us, hl with | [_], _ => rfl) fun fd F => fc_Kind_width F
theorem mf_Text_width (T : Txt K mg) : Mf P w K mg base 1 (He.ga K "Text") "width" [] (spC (.int 0)) := mf_mk T.f_Kind_width T.c_Text.cl T.h_Text_width (fun _ _ _ _ _ _ us hl => match us, hl with | [_], _ => rfl) fun fd F => fc_Kind_width F
theorem mf_Nested_width (T : Txt K mg) : Mf P w K mg base 1 (He.ga K "Nested") "width" [] (spC (.int 0)) := mf_mk T.f_Kind_width T.c_Nested.cl T.h_Nested_width (fun _ _ _ _ _ _ us hl => match us, hl with | [_], _ => rfl) fun fd F => fc_Kind_width F
theorem mf_List_width (T : Txt K mg) : Mf P w K mg base 1 (He.ga K "List") "width" [] (spC (.int 0)) := mf_mk T.f_Kind_width T.c_List.cl T.h_List_width (fun _ _ _ _ _ _ us hl => match us, hl with | [_], _ => rfl) fun fd F => fc_Kind_width F
theorem fc_Truth_blank {fd : FuncData} (F : FunD K "blank" "Truth.blank" (defArgs s_Truth_blank) (defBody s_Truth_blank) (defScope s_Truth_blank) [] [] (He.fAd K ("Truth", some "blank")) fd) : FnOk P w K mg base (L2N.CX P w) 1 (He.fAd K ("Truth", some "blank")) fd ["self"] (spC (.bl false)) := by
  refine fn_mk F sc_Truth_blank (fun vs H Q E h => ?_) fun cd A outer s H vs Q E hr tk po h => ?_
  · obtain ⟨a, rfl, _⟩ := h; rfl
  · obtain ⟨a, rfl, q⟩ := h
    top_name
    exact q
theorem mf_Truth_blank (T : Txt K mg) : Mf P w K mg base 1 (He.ga K "Truth") "blank" [] (spC (.bl false)) := mf_mk T.f_Truth_blank T.c_Truth.cl T.h_Truth_blank (fun _ _ _ _ _ _ us hl => match us, hl with | [_], _ => rfl) fun fd F => fc_Truth_blank F
theorem fc_Kind_blank {fd : FuncData} (F : FunD K "blank" "Kind.blank" (defArgs s_Kind_blank) (defBody s_Kind_blank) (defScope s_Kind_blank) [] [] (He.fAd K ("Kind", some "blank")) fd) : FnOk P w K mg base (L2N.CX P w) 1 (He.fAd K ("Kind", some "blank")) fd ["self"] (spC (.int 0)) := by
  refine fn_mk F sc_Kind_blank (fun vs H Q E h => ?_) fun cd A outer s H vs Q E hr tk po h => ?_
  · obtain ⟨a, rfl, _⟩ := h; rfl
  · obtain ⟨a, rfl, q⟩ := h
    top_name
    exact q
theorem mf_Count_blank (T : Txt K mg) : Mf P w K mg base 1 (He.ga K "Count") "blank" [] (spC (.int 0)) := mf_mk T.f_Kind_blank T.c_Count.cl T.h_Count_blank (fun _ _ _ _ _ _ us hl => match us, hl with | [_], _ => rfl) fun fd F => fc_Kind_blank F
theorem mf_Whole_blank (T : Txt K mg) : Mf P w K mg base 1 (He.ga K "Whole") "blank" [] (spC (.int 0)) := mf_mk T.f_Kind_blank T.c_Whole.cl T.h_Whole_blank (fun _ _ _ _ _ _ us hl => match us, hl with | [_], _ => rfl) fun fd F => fc_Kind_blank F
theorem mf_Upto_blank (T : Txt K mg) : Mf P w K mg base 1 (He.ga K "Upto") "blank" [] (spC (.int 0)) := mf_mk T.f_Kind_blank T.c_Upto.cl T.h_Upto_blank (fun _ _ _ _ _ _ us hl => match us, hl with | [_], _ => rfl) fun fd F => fc_Kind_blank F
theorem fc_Text_blank {fd : FuncData} (F : FunD K "blank" "Text.blank" (defArgs s_Text_blank) (defBody s_Text_blank) (defScope s_Text_blank) [] [] (He.fAd K ("Text", some "blank")) fd) : FnOk P w K mg base (L2N.CX P w) 1 (He.fAd K ("Text", some "blank")) fd ["self"] (spC (.str "")) := by
  refine fn_mk F sc_Text_blank (fun vs H Q E h => ?_) fun cd A outer s H vs Q E hr tk po h => ?_
  · obtain ⟨a, rfl, _⟩ := h; rfl
  · obtain ⟨a, rfl, q⟩ := h
    top_name
    exact q
theorem mf_Text_blank (T : Txt K mg) : Mf P w K mg base 1 (He.ga K "Text") "blank" [] (spC (.str "")) := mf_mk T.f_Text_blank T.c_Text.cl T.h_Text_blank (fun _ _ _ _ _ _ us hl => match us, hl with | [_], _ => rfl) fun fd F => fc_Text_blank F
theorem fc_Nested_blank {fd : FuncData} (F : FunD K "blank" "Nested.blank" (defArgs s_Nested_blank) (defBody s_Nested_blank) (defScope s_Nested_blank) [] [] (He.fAd K ("Nested", some "blank")) fd) : FnOk P w K mg base (L2N.CX P w) 1 (He.fAd K ("Nested", some "blank")) fd ["self"] (spC (.non)) := by
  refine fn_mk F sc_Nested_blank (fun vs H Q E h => ?_) fun cd A outer s H vs Q E hr tk po h => ?_
  · obtain ⟨a, rfl, _⟩ := h; rfl
  · obtain ⟨a, rfl, q⟩ := h
    top_name
    exact q
theorem mf_Nested_blank (T : Txt K mg) : Mf P w K mg base 1 (He.ga K "Nested") "blank" [] (spC (.non)) := mf_mk T.f_Nested_blank T.c_Nested.cl T.h_Nested_blank (fun _ _ _ _ _ _ us hl => match us, hl with | [_], _ => rfl) fun fd F => fc_Nested_blank F
theorem mf_word (T : Txt K mg) (k : KD) : Mf P w K mg base 1 (He.ga K k.cls) "word" [] (spC (.str k.word)) := by
  cases k with
  | truth => exact mf_Truth_word T
  | count => exact mf_Count_word T
  | whole => exact mf_Whole_word T
  | upto n => exact mf_Upto_word T
  | text n => exact mf_Text_word T
  | form s => exact mf_Nested_word T
  | list k => exact mf_List_word T
theorem mf_plain (T : Txt K mg) (k : KD) : Mf P w K mg base 1 (He.ga K k.cls) "is_plain" [] (spC (.bl k.plain)) := by
  cases k with
  | truth => exact mf_Truth_is_plain T
  | count => exact mf_Count_is_plain T
  | whole => exact mf_Whole_is_plain T
  | upto n => exact mf_Upto_is_plain T
  | text n => exact mf_Text_is_plain T
  | form s => exact mf_Nested_is_plain T
  | list k => exact mf_List_is_plain T
theorem mf_shape (T : Txt K mg) (k : KD) : Mf P w K mg base 1 (He.ga K k.cls) "shape" [] (spC (.int k.shape)) := by
  cases k with
  | truth => exact mf_Truth_shape T
  | count => exact mf_Count_shape T
  | whole => exact mf_Whole_shape T
  | upto n => exact mf_Upto_shape T
  | text n => exact mf_Text_shape T
  | form s => exact mf_Nested_shape T
  | list k => exact mf_List_shape T
end K07

set_option maxRecDepth 100000
set_option maxHeartbeats 4000000
set_option pp.maxSteps 1500
namespace K07
open PySem PySem.Spec PyProof.Rows L2 Z
open Evl (Ex)
variable {P : Program} {w : World} {K : PySem.W.Frag} {mg : Str → Option Value} {base : Heap}
/-! ### steps of the walk: one_sign: a heap grew into another; one_item: what stands at an address; one_place: a list or tuple to be read; leaf_len: arithmetic; tb_rel: one step; top_name: steps as far as they go -/
local macro_rules | `(tactic| got_up) => `(tactic| (refine Evl.Ex.trans (by assumption) ?_; first | assumption | exact Evl.Ex.refl _ | got_up))
local macro_rules | `(tactic| units_room) => `(tactic| (refine Evl.Ex.trans ?_ (by assumption); first | assumption | exact Evl.Ex.refl _ | units_room))
local macro_rules | `(tactic| one_sign) => `(tactic| first | assumption | exact Evl.Ex.refl _ | got_up | units_room)
local macro_rules | `(tactic| one_item) => `(tactic| first | assumption | exact upd_same | exact exa (by assumption) (by one_sign))
local macro_rules | `(tactic| one_place) => `(tactic| first | assumption | exact SqL.of (by assumption) | exact SqT.of (by assumption) | exact exl (by assumption) (by one_sign) | exact ext (by assumption) (by one_sign) | exact SqL.of (by one_item) | exact SqT.of (by one_item))
local macro_rules | `(tactic| leaf_len) => `(tactic| first | assumption | decide | omega)
local macro_rules | `(tactic| tb_rel) => `(tactic| first
  | ((with_reducible refine (?_ : wE _ _ _ _ _)); first
    | ((with_reducible refine (?_ : wE _ (.Name _ _) _ _ _)); first | refine zn (by rfl) (by first | exact Or.inl rfl | exact Or.inr (Or.inl rfl) | exact Or.inr (Or.inr rfl)) (by rfl) ?_ | refine zglob (by assumption) (by rfl) ?_ | refine zcls (by assumption) (by rfl) ?_ | refine zty (by assumption) (by first | exact bt_int | exact bt_bool | exact bt_str | exact bt_list | exact bt_tuple | exact bt_dict | exact bt_ValueError) (by rfl) ?_)
    | ((with_reducible refine (?_ : wE _ (.Attribute _ _ _) _ _ _)); refine zfld ?_)
    | ((with_reducible refine (?_ : wE _ (.Constant _ _ _) _ _ _)); first | refine zint ?_ | refine zstr ?_ | refine zbl ?_ | refine znon ?_)
    | ((with_reducible refine (?_ : wE _ (.BinOp _ _ _ _) _ _ _)); refine zbin ?_)
    | ((with_reducible refine (?_ : wE _ (.Compare _ _ _ _) _ _ _)); first | refine zcmp (by rfl) ?_ | refine zchain ?_)
    | ((with_reducible refine (?_ : wE _ (.Dict [] [] _) _ _ _)); refine zdnew (fun _ _ _ _ _ => ?_))
    | ((with_reducible refine (?_ : wE _ (.Subscript _ (.Slice _ _ _ _) _) _ _ _)); refine zsl ?_)
    | ((with_reducible refine (?_ : wE _ (.Subscript _ _ _) _ _ _)); refine zix ?_)
    | ((with_reducible refine (?_ : wE _ (.Call (.Name "list" _) [.Call (.Name "range" _) [_] [] _] [] _) _ _ _)); refine zlrg1 rfl (by rfl) (by assumption) (by rfl) (by assumption) ?_)
    | ((with_reducible refine (?_ : wE _ (.Call (.Name _ _) _ _ _) _ _ _)); first
      | ((with_reducible refine (?_ : wE _ (.Call (.Name "len" _) _ _ _) _ _ _)); refine zbfn (by assumption) bt_len (by rfl) ?_)
      | ((with_reducible refine (?_ : wE _ (.Call (.Name "isinstance" _) _ _ _) _ _ _)); refine zbfn (by assumption) bt_isi (by rfl) ?_)
      | ((with_reducible refine (?_ : wE _ (.Call (.Name "min" _) _ _ _) _ _ _)); refine zbfn (by assumption) bt_min (by rfl) ?_)
      | ((with_reducible refine (?_ : wE _ (.Call (.Name "max" _) _ _ _) _ _ _)); refine zbfn (by assumption) bt_max (by rfl) ?_)
      | ((with_reducible refine (?_ : wE _ (.Call (.Name "list" _) _ _ _) _ _ _)); refine zbty (by assumption) bt_list (by rfl) ?_)
      | ((with_reducible refine (?_ : wE _ (.Call (.Name "tuple" _) _ _ _) _ _ _)); refine zbty (by assumption) bt_tuple (by rfl) ?_)
      | ((with_reducible refine (?_ : wE _ (.Call (.Name "int" _) _ _ _) _ _ _)); refine zbty (by assumption) bt_int (by rfl) ?_)
      | ((with_reducible refine (?_ : wE _ (.Call (.Name "abs" _) _ _ _) _ _ _)); refine zbfn (by assumption) bt_abs (by rfl) ?_)
      | ((with_reducible refine (?_ : wE _ (.Call (.Name "all" _) _ _ _) _ _ _)); refine zbfn (by assumption) bt_all (by rfl) ?_)
      | ((with_reducible refine (?_ : wE _ (.Call (.Name "sum" _) _ _ _) _ _ _)); refine zbfn (by assumption) bt_sum (by rfl) ?_)
      | ((with_reducible refine (?_ : wE _ (.Call (.Name "divmod" _) _ _ _) _ _ _)); refine zbfn (by assumption) bt_divmod (by rfl) ?_)
      | ((with_reducible refine (?_ : wE _ (.Call (.Name "ord" _) _ _ _) _ _ _)); refine zbfn (by assumption) bt_ord (by rfl) ?_))
    | ((with_reducible refine (?_ : wE _ (.IfExp _ _ _ _) _ _ _)); refine zif ?_)
    | ((with_reducible refine (?_ : wE _ (.Tuple _ _ _) _ _ _)); refine ztup ?_)
    | ((with_reducible refine (?_ : wE _ (.List _ _) _ _ _)); refine zlst ?_)
    | ((with_reducible refine (?_ : wE _ (.UnaryOp _ _ _) _ _ _)); first | refine znotV ?_ | refine zneg ?_)
    | ((with_reducible refine (?_ : wE _ (.BoolOp _ _ _) _ _ _)); first | refine zandV ?_ | refine zorV ?_ | refine zoneV ?_))
  | ((with_reducible refine (?_ : bE _ _ _ _ _ _)); refine ⟨fun _ _ _ _ _ => ?_⟩) | ((with_reducible refine (?_ : bG _ _ _ _ _ _ _)); refine ⟨fun _ _ _ _ _ => ?_⟩) | ((with_reducible refine (?_ : bTs _ _ _ _ _ _)); refine ⟨fun _ _ _ _ _ => ?_⟩)
  | ((with_reducible refine (?_ : hE _ _ _ _ _ _)); refine ⟨fun _ _ _ _ _ => ?_⟩) | ((with_reducible refine (?_ : hG _ _ _ _ _ _ _)); refine ⟨fun _ _ _ _ _ => ?_⟩) | ((with_reducible refine (?_ : hTs _ _ _ _ _ _)); refine ⟨fun _ _ _ _ _ => ?_⟩)
  | ((with_reducible refine (?_ : wP _ _ _ _ _)); first | refine pnon ?_ | refine psom ?_) | ((with_reducible refine (?_ : wSl _ _ _ _ _ _)); first | refine slL (by one_place) (fun _ _ _ _ _ => ?_) | refine slS (by assumption) ?_)
  | ((with_reducible refine (?_ : wTs _ _ _ _ _)); first | refine tsnil ?_ | refine tsone ?_)
  | ((with_reducible refine (?_ : wA _ _ _ _ _)); first | refine acons ?_ | refine anil ?_)
  | ((with_reducible refine (?_ : wO _ _ _ _ _ _)); first
    | ((with_reducible refine (?_ : wO _ (binaryOp .Add) _ _ _ _)); first | refine oadd ?_ | refine ocatE (by one_item) (by one_item) (Nat.le_of_ble_eq_true rfl) (fun _ _ _ _ _ => ?_))
    | ((with_reducible refine (?_ : wO _ (binaryOp .Sub) _ _ _ _)); first | refine osub ?_)
    | ((with_reducible refine (?_ : wO _ (binaryOp .Mult) _ _ _ _)); first | refine omul (by first | exact IntMulOk.of_right (by decide) | exact IntMulOk.of_left (by decide) | exact IntMulOk.of_right (intBits_le_64 (by omega) (by omega)) | exact IntMulOk.of_left (intBits_le_64 (by omega) (by omega))) ?_)
    | ((with_reducible refine (?_ : wO _ (binaryOp .Mod) _ _ _ _)); first | refine omod (by first | decide | omega) ?_)
    | ((with_reducible refine (?_ : wO _ (binaryOp .FloorDiv) _ _ _ _)); first | refine ofdiv ⟨by first | decide | omega, by decide⟩ ?_)
    | ((with_reducible refine (?_ : wO _ (binaryOp .BitAnd) _ _ _ _)); first | refine oand ?_)
    | ((with_reducible refine (?_ : wO _ (binaryOp .BitOr) _ _ _ _)); first | refine oor ?_)
    | ((with_reducible refine (?_ : wO _ (compareOp .Lt) _ _ _ _)); first | refine olt ?_)
    | ((with_reducible refine (?_ : wO _ (compareOp .LtE) _ _ _ _)); first | refine ole ?_)
    | ((with_reducible refine (?_ : wO _ (compareOp .Gt) _ _ _ _)); first | refine ogt ?_)
    | ((with_reducible refine (?_ : wO _ (compareOp .GtE) _ _ _ _)); first | refine oge ?_)
    | ((with_reducible refine (?_ : wO _ (compareOp .Eq) _ _ _ _)); first | refine oeqi ?_ | refine oeq (by rfl) ?_)
    | ((with_reducible refine (?_ : wO _ (compareOp .NotEq) _ _ _ _)); first | refine onei ?_ | refine one (by rfl) ?_)
    | ((with_reducible refine (?_ : wO _ (compareOp .In) _ _ _ _)); first | refine oin ?_)
    | ((with_reducible refine (?_ : wO _ (compareOp .NotIn) _ _ _ _)); first | refine onin ?_)
    | ((with_reducible refine (?_ : wO _ (compareOp .Is) _ _ _ _)); first | refine ois ?_)
    | ((with_reducible refine (?_ : wO _ (compareOp .IsNot) _ _ _ _)); first | refine onot ?_)
    | ((with_reducible refine (?_ : wO _ (binaryOp .RShift) _ _ _ _)); refine oshr (by first | decide | omega) ?_)
    | ((with_reducible refine (?_ : wO _ (binaryOp .BitXor) _ _ _ _)); refine oxor ?_)
    | ((with_reducible refine (?_ : wO _ (inplaceOp .BitXor) _ _ _ _)); refine ixor ?_)
    | ((with_reducible refine (?_ : wO _ (inplaceOp .RShift) _ _ _ _)); refine ishr (by first | decide | omega) ?_)
    | ((with_reducible refine (?_ : wO _ (inplaceOp .BitOr) _ _ _ _)); first | refine ior ?_)
    | ((with_reducible refine (?_ : wO _ (inplaceOp .Add) _ _ _ _)); first | refine iadd ?_))
  | ((with_reducible refine (?_ : wT _ _ _ _ _)); first
    | ((with_reducible refine (?_ : wT _ (.Compare _ _ _ _) _ _ _)); first | refine zcmpT (by rfl) ?_ | refine zchainT ?_)
    | ((with_reducible refine (?_ : wT _ (.UnaryOp _ _ _) _ _ _)); refine znotT ?_)
    | ((with_reducible refine (?_ : wT _ (.BoolOp _ _ _) _ _ _)); refine zW ?_)
    | refine zval ?_)
  | ((with_reducible refine (?_ : wW _ _ _ _ _)); first | refine zand ?_ | refine zor ?_ | refine zand1 ?_ | refine zor1 ?_)
  | ((with_reducible refine (?_ : wK _ _ _ _ _)); first
    | ((with_reducible refine (?_ : wK _ (.builtin "len") _ _ _)); first | refine klenL (by one_place) ?_ | refine klenT (by one_place) ?_ | refine klenS (by assumption) ?_)
    | ((with_reducible refine (?_ : wK _ (.builtin "isinstance") _ _ _)); first | refine kisE (by assumption) (by assumption) (by first | assumption | exact Xd.exx (by assumption) (by one_sign)) (by first | exact .own _ | exact .ty _) (by assumption) ?_ | refine kisi (.ty _) (by assumption) (by assumption) ?_ | refine kisi (.ty _) (.base (by first | exact .int _ | exact .bl _ | exact .str _ | exact .non | exact .tup (by one_item) | exact .lst (by one_item))) (kit_ty (r := true) (by rfl)) ?_ | refine kisi (.ty _) (.base (by first | exact .int _ | exact .bl _ | exact .str _ | exact .non | exact .tup (by one_item) | exact .lst (by one_item))) (kit_ty (r := false) (by rfl)) ?_)
    | ((with_reducible refine (?_ : wK _ (.builtin "divmod") _ _ _)); refine kdivmod ⟨by first | decide | omega, by decide⟩ (fun _ _ _ _ _ => ?_))
    | ((with_reducible refine (?_ : wK _ (.builtin "min") _ _ _)); refine kmin (by rfl) ?_)
    | ((with_reducible refine (?_ : wK _ (.builtin "max") _ _ _)); refine kmax (by rfl) ?_)
    | ((with_reducible refine (?_ : wK _ (.type "list") _ _ _)); first | refine klistL (by one_place) (fun _ _ _ _ _ => ?_) | refine klistT (by one_place) (fun _ _ _ _ _ => ?_))
    | ((with_reducible refine (?_ : wK _ (.type "tuple") _ _ _)); first | refine ktupL (by one_place) (fun _ _ _ _ _ => ?_)))
  | ((with_reducible refine (?_ : wS _ _ _ _ _)); first
    | ((with_reducible refine (?_ : wS _ (.Assign [.Name _ _] _ _) _ _ _)); refine sset' (by assumption) (by rfl) (by first | exact Or.inl rfl | exact Or.inr rfl) (by rfl) (by first | exact .inl rfl | exact .inr rfl) ?_)
    | ((with_reducible refine (?_ : wS _ (.AugAssign (.Name _ _) _ _ _) _ _ _)); refine saug' (by assumption) (by rfl) (by first | exact Or.inl rfl | exact Or.inr rfl) (by first | exact .inl rfl | exact .inr rfl) (by rfl) ?_)
    | ((with_reducible refine (?_ : wS _ (.Assign [.Attribute _ _ _] _ _) _ _ _)); refine sfld ?_)
    | ((with_reducible refine (?_ : wS _ (.Expr _ _) _ _ _)); refine sexp ?_)
    | ((with_reducible refine (?_ : wS _ (.Assign [.Tuple _ _ _] _ _) _ _ _)); refine sasg ?_) | ((with_reducible refine (?_ : wS _ (.Assign [.Subscript _ _ _] _ _) _ _ _)); refine sasg ?_)
    | refine sret ?_ | refine sif ?_ | refine sretN ?_ | refine spass ?_ | refine sbrk ?_ | refine scont ?_)
  | ((with_reducible refine (?_ : wG _ (.Name _ _) _ _ _ _)); refine gname' (by assumption) (by rfl) (by first | exact Or.inl rfl | exact Or.inr rfl) (by first | exact .inl rfl | exact .inr rfl) ?_)
  | ((with_reducible refine (?_ : wG _ (.Tuple _ _ _) _ _ _ _)); refine gtup rfl (by one_place) rfl ?_) | ((with_reducible refine (?_ : wG _ (.Subscript _ _ _) _ _ _ _)); refine gsub ?_)
  | ((with_reducible refine (?_ : wGs _ _ _ _ _ _)); first | refine gscons ?_ | refine gsnil ?_)
  | ((with_reducible refine (?_ : wB _ _ _ _ _)); first | refine bcons ?_ | refine bnil ?_)
  | refine ifT ?_ | refine ifF ?_ | refine ifd (fun _ => ?_) (fun _ => ?_) | refine ifnd (fun _ => ?_) (fun _ => ?_) | refine ⟨_, rfl, ?_⟩ | refine ⟨rfl, Evl.Ex.refl _, ?_⟩ | refine ⟨_, _, _, _, _, rfl, by one_item, by assumption, by assumption, by rfl, ?_⟩ | refine ⟨Nat.le_of_ble_eq_true rfl, fun _ _ _ _ _ => ?_⟩ | fail)
local macro_rules | `(tactic| top_name) => `(tactic| repeat' tb_rel)
local macro_rules | `(tactic| nest_fact) => `(tactic| first | exact ⟨(decide_eq_true (by omega)).symm, rfl⟩ | exact ⟨(decide_eq_false (by omega)).symm, rfl⟩ | exact ⟨decide_eq_decide.mpr (by omega), rfl⟩ | fail)
/-! ### whole numbers -/
def sp_is_whole (K : PySem.W.Frag) : Sp := fun vs H Q _ => ∃ (v t : Value) (u : V) (k1 k2 : Bool), vs = [u] ∧ TyX K H u t ∧ PySem.W.kitOne K t (.type "int") = some k1 ∧ PySem.W.kitOne K t (.type "bool") = some k2 ∧ Q (.bl (k1 && !k2)) H
theorem ok_is_whole (T : Txt K mg) : Gf P w K mg base 1 "is_whole" [] (sp_is_whole K) := by
  refine gf_mk T.f_is_whole T.m_is_whole (fun _ _ _ _ _ _ us hl => match us, hl with | [_], _ => rfl) fun fd F => fn_mk F sc_is_whole (fun vs H Q E h => ?_) fun cd A outer s H vs Q E hr tk po h => ?_
  · obtain ⟨_, _, u, k1, k2, rfl, _⟩ := h; rfl
  · obtain ⟨_, t, u, k1, k2, rfl, ty, h1, h2, q⟩ := h
    have n1 := T.n_isinstance
    have n2 := T.n_int
    have n3 := T.n_bool
    top_name
    refine ifb (fun e => ?_) (fun e => ?_)
    · subst e
      top_name
      exact q
    · subst e
      exact q
def sp_is_among (K : PySem.W.Frag) : Sp := fun vs H Q _ => ∃ (u : V) (lo hi : Int) (b : Bool), vs = [u, .int lo, .int hi] ∧ Asked K H lo hi u b ∧ Q (.bl b) H
theorem ok_is_among (T : Txt K mg) : Gf P w K mg base 2 "is_among" [] (sp_is_among K) := by
  refine gf_mk T.f_is_among T.m_is_among (fun _ _ _ _ _ _ us hl => match us, hl with | [_, _, _], _ => rfl) fun fd F => fn_mk F sc_is_among (fun vs H Q E h => ?_) fun cd A outer s H vs Q E hr tk po h => ?_
  · obtain ⟨u, lo, hi, b, rfl, _⟩ := h; rfl
  · obtain ⟨u, lo, hi, b, rfl, ha, q⟩ := h
    top_name
    refine zcall (ok_is_whole T) hr (by decide) takesF rfl ?_
    top_name
    cases ha with
    | int n =>
      refine ⟨.none, _, _, true, false, rfl, .base (.int n), kit_ty rfl, kit_ty rfl, ?_⟩
      top_name
      · rename_i h1
        rw [show decide (n ≤ hi) = decide (lo ≤ n ∧ n ≤ hi) from decide_eq_decide.mpr ⟨fun z => ⟨h1, z⟩, fun z => z.2⟩]
        exact q
      · rename_i h1
        rw [show decide (lo ≤ n ∧ n ≤ hi) = false from decide_eq_false fun z => h1 z.1] at q
        exact q
    | odd hn =>
      obtain ⟨t, k1, k2, ty, h1, h2, e⟩ := hn
      refine ⟨.none, _, _, _, _, rfl, ty, h1, h2, ?_⟩
      rw [e]
      top_name
      exact q
def sp_ntext : Sp := fun vs H Q _ => ∃ n : Int, vs = [.int n] ∧ n.natAbs.log2 < 1920 ∧ Q (.str (toString n)) H
theorem ok_ntext (T : Txt K mg) : Gf P w K mg base 1 "number_text" [] sp_ntext := by
  refine gf_mk T.f_number_text T.m_number_text (fun _ _ _ _ _ _ us hl => match us, hl with | [_], _ => rfl) fun fd F => fn_mk F sc_number_text (fun vs H Q E h => ?_) fun cd A outer s H vs Q E hr tk po h => ?_
  · obtain ⟨n, rfl, _⟩ := h; rfl
  · obtain ⟨n, rfl, hn, q⟩ := h
    have n1 := T.n_str
    top_name
    refine zbty n1 bt_str (by rfl) ?_
    top_name
    exact kstrI hn q
/-! ### words -/
theorem words_len : ∀ k : KD, k.words.length ≤ 2 + k.dep
  | .truth => by decide
  | .count => by decide
  | .whole => by decide
  | .upto _ => by show 2 ≤ 2 + 0; decide
  | .text n => by unfold KD.words; split <;> (show _ ≤ 2 + 0; simp)
  | .form _ => by show 2 ≤ 2 + 0; decide
  | .list k => by have := words_len k; show (k.words.length + 1) ≤ 2 + (k.dep + 1); omega
def spW (K : PySem.W.Frag) (k : KD) : Sp := fun vs H Q _ => ∃ a : Addr, vs = [.ref a] ∧ KI K H (.ref a) k ∧ ∀ t H', H t = none → Ex H H' → H' t = some (.lst (k.words.map V.str)) → Q (.ref t) H'
theorem log_most {n : Int} (h0 : 0 ≤ n) (h1 : n ≤ MOST) : n.natAbs.log2 < 1920 := by
  by_cases e : n.natAbs = 0
  · rw [e]; decide
  · unfold MOST at h1
    exact (Nat.log2_lt e).mpr (Nat.lt_trans (show n.natAbs < 2 ^ 256 by omega) (Nat.pow_lt_pow_right (by decide) (by decide)))
theorem mf_words (T : Txt K mg) : ∀ (k : KD), k.Ok → k.dep ≤ 1000 → Mf P w K mg base (2 + k.dep) (He.ga K k.cls) "words" [] (spW K k) := by
  have kindw : ∀ (k : KD), k.words = [k.word] → ∀ fd, FunD K "words" "Kind.words" (defArgs s_Kind_words) (defBody s_Kind_words) (defScope s_Kind_words) [] [] (He.fAd K ("Kind", some "words")) fd → FnOk P w K mg base (L2N.CX P w) 2 (He.fAd K ("Kind", some "words")) fd ["self"] (spW K k) := fun k hk fd F => by
    refine fn_mk F sc_Kind_words (fun vs H Q E h => ?_) fun cd A outer s H vs Q E hr tk po h => ?_
    · obtain ⟨a, rfl, _⟩ := h; rfl
    · obtain ⟨a, rfl, hi, q⟩ := h
      obtain ⟨a', dx, fs, ea, hx, hl⟩ := hi.ins
      cases ea
      top_name
      refine zmeth0 hr tk ?_
      top_name
      refine ⟨a, _, dx, fs, 1, [], _, rfl, hx, hl "word" (by decide +kernel), mf_word T k, by decide, a, rfl, ?_⟩
      top_name
      rename_i t H1 ht e1 hxt
      exact q t H1 ht e1 (by rw [hk]; exact hxt)
  intro k
  induction k with
  | truth => exact fun _ _ => mf_mk T.f_Kind_words T.c_Truth.cl T.h_Truth_words (fun _ _ _ _ _ _ us hl => match us, hl with | [_], _ => rfl) (kindw .truth rfl)
  | count => exact fun _ _ => mf_mk T.f_Kind_words T.c_Count.cl T.h_Count_words (fun _ _ _ _ _ _ us hl => match us, hl with | [_], _ => rfl) (kindw .count rfl)
  | whole => exact fun _ _ => mf_mk T.f_Kind_words T.c_Whole.cl T.h_Whole_words (fun _ _ _ _ _ _ us hl => match us, hl with | [_], _ => rfl) (kindw .whole rfl)
  | upto n =>
    intro hok hdp
    refine mf_mk T.f_Upto_words T.c_Upto.cl T.h_Upto_words (fun _ _ _ _ _ _ us hl => match us, hl with | [_], _ => rfl) fun fd F => fn_mk F sc_Upto_words (fun vs H Q E h => ?_) fun cd A outer s H vs Q E hr tk po h => ?_
    · obtain ⟨a, rfl, _⟩ := h; rfl
    · obtain ⟨a, rfl, hi, q⟩ := h
      cases hi with
      | upto hx =>
        have c1 := T.c_Upto.cl
        have a1 := T.a_Upto_most
        top_name
        refine zmeth0 hr tk ?_
        top_name
        refine ⟨a, _, _, _, 1, [], _, rfl, hx, rfl, mf_word T (.upto n), by decide, a, rfl, ?_⟩
        top_name
        refine zcall (ok_ntext T) hr (by decide) takesF rfl ?_
        top_name
        refine ⟨log_most (by have := hok.1; omega) hok.2, ?_⟩
        top_name
        rename_i t H1 ht e1 hxt
        exact q t H1 ht e1 hxt
  | text n =>
    intro hok hdp
    refine mf_mk T.f_Text_words T.c_Text.cl T.h_Text_words (fun _ _ _ _ _ _ us hl => match us, hl with | [_], _ => rfl) fun fd F => fn_mk F sc_Text_words (fun vs H Q E h => ?_) fun cd A outer s H vs Q E hr tk po h => ?_
    · obtain ⟨a, rfl, _⟩ := h; rfl
    · obtain ⟨a, rfl, hi, q⟩ := h
      cases hi with
      | text hx =>
        have c1 := T.c_Text.cl
        have a1 := T.a_Text_most
        have g1 := T.g_MOST_SIGNS
        top_name
        · rename_i h100
          refine zmeth0 hr tk ?_
          top_name
          refine ⟨a, _, _, _, 1, [], _, rfl, hx, rfl, mf_word T (.text n), by decide, a, rfl, ?_⟩
          top_name
          rename_i t H1 ht e1 hxt
          refine q t H1 ht e1 ?_
          unfold KD.words
          rw [if_pos h100]
          exact hxt
        · rename_i h100
          refine zmeth0 hr tk ?_
          top_name
          refine ⟨a, _, _, _, 1, [], _, rfl, hx, rfl, mf_word T (.text n), by decide, a, rfl, ?_⟩
          top_name
          refine zcall (ok_ntext T) hr (by decide) takesF rfl ?_
          top_name
          refine ⟨log_most (by have := hok.1; omega) (by have := hok.2; unfold MOST; omega), ?_⟩
          top_name
          rename_i t H1 ht e1 hxt
          refine q t H1 ht e1 ?_
          unfold KD.words
          rw [if_neg h100]
          exact hxt
  | form s =>
    intro hok hdp
    refine mf_mk T.f_Nested_words T.c_Nested.cl T.h_Nested_words (fun _ _ _ _ _ _ us hl => match us, hl with | [_], _ => rfl) fun fd F => fn_mk F sc_Nested_words (fun vs H Q E h => ?_) fun cd A outer s' H vs Q E hr tk po h => ?_
    · obtain ⟨a, rfl, _⟩ := h; rfl
    · obtain ⟨a, rfl, hi, q⟩ := h
      cases hi with
      | form hx =>
        have c1 := T.c_Nested.cl
        have a1 := T.a_Nested_name
        top_name
        refine zmeth0 hr tk ?_
        top_name
        refine ⟨a, _, _, _, 1, [], _, rfl, hx, rfl, mf_word T (.form s), by decide, a, rfl, ?_⟩
        top_name
        rename_i t H1 ht e1 hxt
        exact q t H1 ht e1 hxt
  | list k ih =>
    intro hok hdp
    refine mf_mk T.f_List_words T.c_List.cl T.h_List_words (fun _ _ _ _ _ _ us hl => match us, hl with | [_], _ => rfl) fun fd F => fn_mk (k := 2 + k.dep) F sc_List_words (fun vs H Q E h => ?_) fun cd A outer s H vs Q E hr tk po h => ?_
    · obtain ⟨a, rfl, _⟩ := h; rfl
    · obtain ⟨a, rfl, hi, q⟩ := h
      cases hi with
      | list hx hi =>
        have c1 := T.c_List.cl
        have a1 := T.a_List_item
        top_name
        refine zmeth0 hr tk ?_
        top_name
        refine ⟨a, _, _, _, 1, [], _, rfl, hx, rfl, mf_word T (.list k), by omega, a, rfl, ?_⟩
        top_name
        rename_i t H1 ht e1 hxt
        refine zmeth0 hr tk ?_
        top_name
        obtain ⟨b, dx, fs, eb, hb, hl⟩ := (hi.ex e1).ins
        subst eb
        refine ⟨b, _, dx, fs, _, [], _, rfl, hb, hl "words" (by decide +kernel), ih hok (by have : k.dep + 1 ≤ 1000 := hdp; omega), Nat.le_refl _, b, rfl, hi.ex e1, fun t2 H2 ht2 e2 hx2 => ?_⟩
        refine ocatE (e2 _ _ hxt) hx2 (by have := words_len k; have : k.dep + 1 ≤ 1000 := hdp; rw [List.length_map, sizeLine_eq]; show 1 + _ ≤ _; omega) fun t3 H3 ht3 e3 hx3 => ?_
        exact q t3 H3 (Evl.fresh_back (e1.trans e2) ht3) (e1.trans (e2.trans e3)) hx3
end K07

set_option maxRecDepth 100000
set_option maxHeartbeats 4000000
set_option pp.maxSteps 1500
namespace K07
open PySem PySem.Spec PyProof.Rows L2 Z
open Evl (Ex)
variable {P : Program} {w : World} {K : PySem.W.Frag} {mg : Str → Option Value} {base : Heap}
/-! ### steps of the walk: one_sign: a heap grew into another; one_item: what stands at an address; one_place: a list or tuple to be read; leaf_len: arithmetic; tb_rel: one step; top_name: steps as far as they go -/
local macro_rules | `(tactic| got_up) => `(tactic| (refine Evl.Ex.trans (by assumption) ?_; first | assumption | exact Evl.Ex.refl _ | got_up))
local macro_rules | `(tactic| units_room) => `(tactic| (refine Evl.Ex.trans ?_ (by assumption); first | assumption | exact Evl.Ex.refl _ | units_room))
local macro_rules | `(tactic| one_sign) => `(tactic| first | assumption | exact Evl.Ex.refl _ | got_up | units_room)
local macro_rules | `(tactic| one_item) => `(tactic| first | assumption | exact upd_same | exact exa (by assumption) (by one_sign))
local macro_rules | `(tactic| one_place) => `(tactic| first | assumption | exact SqL.of (by assumption) | exact SqT.of (by assumption) | exact exl (by assumption) (by one_sign) | exact ext (by assumption) (by one_sign) | exact SqL.of (by one_item) | exact SqT.of (by one_item))
local macro_rules | `(tactic| leaf_len) => `(tactic| first | assumption | decide | omega)
local macro_rules | `(tactic| tb_rel) => `(tactic| first
  | ((with_reducible refine (?_ : wE _ _ _ _ _)); first
    | ((with_reducible refine (?_ : wE _ (.Name _ _) _ _ _)); first | refine zn (by rfl) (by first | exact Or.inl rfl | exact Or.inr (Or.inl rfl) | exact Or.inr (Or.inr rfl)) (by rfl) ?_ | refine zglob (by assumption) (by rfl) ?_ | refine zcls (by assumption) (by rfl) ?_ | refine zty (by assumption) (by first | exact bt_int | exact bt_bool | exact bt_str | exact bt_list | exact bt_tuple | exact bt_dict | exact bt_ValueError) (by rfl) ?_)
    | ((with_reducible refine (?_ : wE _ (.Attribute _ _ _) _ _ _)); refine zfld ?_)
    | ((with_reducible refine (?_ : wE _ (.Constant _ _ _) _ _ _)); first | refine zint ?_ | refine zstr ?_ | refine zbl ?_ | refine znon ?_)
    | ((with_reducible refine (?_ : wE _ (.BinOp _ _ _ _) _ _ _)); refine zbin ?_)
    | ((with_reducible refine (?_ : wE _ (.Compare _ _ _ _) _ _ _)); first | refine zcmp (by rfl) ?_ | refine zchain ?_)
    | ((with_reducible refine (?_ : wE _ (.Dict [] [] _) _ _ _)); refine zdnew (fun _ _ _ _ _ => ?_))
    | ((with_reducible refine (?_ : wE _ (.Subscript _ (.Slice _ _ _ _) _) _ _ _)); refine zsl ?_)
    | ((with_reducible refine (?_ : wE _ (.Subscript _ _ _) _ _ _)); refine zix ?_)
    | ((with_reducible refine (?_ : wE _ (.Call (.Name "list" _) [.Call (.Name "range" _) [_] [] _] [] _) _ _ _)); refine zlrg1 rfl (by rfl) (by assumption) (by rfl) (by assumption) ?_)
    | ((with_reducible refine (?_ : wE _ (.Call (.Name _ _) _ _ _) _ _ _)); first
      | ((with_reducible refine (?_ : wE _ (.Call (.Name "len" _) _ _ _) _ _ _)); refine zbfn (by assumption) bt_len (by rfl) ?_)
      | ((with_reducible refine (?_ : wE _ (.Call (.Name "isinstance" _) _ _ _) _ _ _)); refine zbfn (by assumption) bt_isi (by rfl) ?_)
      | ((with_reducible refine (?_ : wE _ (.Call (.Name "min" _) _ _ _) _ _ _)); refine zbfn (by assumption) bt_min (by rfl) ?_)
      | ((with_reducible refine (?_ : wE _ (.Call (.Name "max" _) _ _ _) _ _ _)); refine zbfn (by assumption) bt_max (by rfl) ?_)
      | ((with_reducible refine (?_ : wE _ (.Call (.Name "list" _) _ _ _) _ _ _)); refine zbty (by assumption) bt_list (by rfl) ?_)
      | ((with_reducible refine (?_ : wE _ (.Call (.Name "tuple" _) _ _ _) _ _ _)); refine zbty (by assumption) bt_tuple (by rfl) ?_)
      | ((with_reducible refine (?_ : wE _ (.Call (.Name "int" _) _ _ _) _ _ _)); refine zbty (by assumption) bt_int (by rfl) ?_)
      | ((with_reducible refine (?_ : wE _ (.Call (.Name "abs" _) _ _ _) _ _ _)); refine zbfn (by assumption) bt_abs (by rfl) ?_)
      | ((with_reducible refine (?_ : wE _ (.Call (.Name "all" _) _ _ _) _ _ _)); refine zbfn (by assumption) bt_all (by rfl) ?_)
      | ((with_reducible refine (?_ : wE _ (.Call (.Name "sum" _) _ _ _) _ _ _)); refine zbfn (by assumption) bt_sum (by rfl) ?_)
      | ((with_reducible refine (?_ : wE _ (.Call (.Name "divmod" _) _ _ _) _ _ _)); refine zbfn (by assumption) bt_divmod (by rfl) ?_)
      | ((with_reducible refine (?_ : wE _ (.Call (.Name "ord" _) _ _ _) _ _ _)); refine zbfn (by assumption) bt_ord (by rfl) ?_))
    | ((with_reducible refine (?_ : wE _ (.IfExp _ _ _ _) _ _ _)); refine zif ?_)
    | ((with_reducible refine (?_ : wE _ (.Tuple _ _ _) _ _ _)); refine ztup ?_)
    | ((with_reducible refine (?_ : wE _ (.List _ _) _ _ _)); refine zlst ?_)
    | ((with_reducible refine (?_ : wE _ (.UnaryOp _ _ _) _ _ _)); first | refine znotV ?_ | refine zneg ?_)
    | ((with_reducible refine (?_ : wE _ (.BoolOp _ _ _) _ _ _)); first | refine zandV ?_ | refine zorV ?_ | refine zoneV ?_))
  | ((with_reducible refine (?_ : bE _ _ _ _ _ _)); refine ⟨fun _ _ _ _ _ => ?_⟩) | ((with_reducible refine (?_ : bG _ _ _ _ _ _ _)); refine ⟨fun _ _ _ _ _ => ?_⟩) | ((with_reducible refine (?_ : bTs _ _ _ _ _ _)); refine ⟨fun _ _ _ _ _ => ?_⟩)
  | ((with_reducible refine (?_ : hE _ _ _ _ _ _)); refine ⟨fun _ _ _ _ _ => ?_⟩) | ((with_reducible refine (?_ : hG _ _ _ _ _ _ _)); refine ⟨fun _ _ _ _ _ => ?_⟩) | ((with_reducible refine (?_ : hTs _ _ _ _ _ _)); refine ⟨fun _ _ _ _ _ => ?_⟩)
  | ((with_reducible refine (?_ : wP _ _ _ _ _)); first | refine pnon ?_ | refine psom ?_) | ((with_reducible refine (?_ : wSl _ _ _ _ _ _)); first | refine slL (by one_place) (fun _ _ _ _ _ => ?_) | refine slS (by assumption) ?_)
  | ((with_reducible refine (?_ : wTs _ _ _ _ _)); first | refine tsnil ?_ | refine tsone ?_)
  | ((with_reducible refine (?_ : wA _ _ _ _ _)); first | refine acons ?_ | refine anil ?_)
  | ((with_reducible refine (?_ : wO _ _ _ _ _ _)); first
    | ((with_reducible refine (?_ : wO _ (binaryOp .Add) _ _ _ _)); first | refine oadd ?_ | refine ocatE (by one_item) (by one_item) (Nat.le_of_ble_eq_true rfl) (fun _ _ _ _ _ => ?_))
    | ((with_reducible refine (?_ : wO _ (binaryOp .Sub) _ _ _ _)); first | refine osub ?_)
    | ((with_reducible refine (?_ : wO _ (binaryOp .Mult) _ _ _ _)); first | refine omul (by first | exact IntMulOk.of_right (by decide) | exact IntMulOk.of_left (by decide) | exact IntMulOk.of_right (intBits_le_64 (by omega) (by omega)) | exact IntMulOk.of_left (intBits_le_64 (by omega) (by omega))) ?_)
    | ((with_reducible refine (?_ : wO _ (binaryOp .Mod) _ _ _ _)); first | refine omod (by first | decide | omega) ?_)
    | ((with_reducible refine (?_ : wO _ (binaryOp .FloorDiv) _ _ _ _)); first | refine ofdiv ⟨by first | decide | omega, by decide⟩ ?_)
    | ((with_reducible refine (?_ : wO _ (binaryOp .BitAnd) _ _ _ _)); first | refine oand ?_)
    | ((with_reducible refine (?_ : wO _ (binaryOp .BitOr) _ _ _ _)); first | refine oor ?_)
    | ((with_reducible refine (?_ : wO _ (compareOp .Lt) _ _ _ _)); first | refine olt ?_)
    | ((with_reducible refine (?_ : wO _ (compareOp .LtE) _ _ _ _)); first | refine ole ?_)
    | ((with_reducible refine (?_ : wO _ (compareOp .Gt) _ _ _ _)); first | refine ogt ?_)
    | ((with_reducible refine (?_ : wO _ (compareOp .GtE) _ _ _ _)); first | refine oge ?_)
    | ((with_reducible refine (?_ : wO _ (compareOp .Eq) _ _ _ _)); first | refine oeqi ?_ | refine oeqsT (by decide +kernel) ?_ | refine oeqsF (by decide +kernel) ?_ | refine oeq (by rfl) ?_)
    | ((with_reducible refine (?_ : wO _ (compareOp .NotEq) _ _ _ _)); first | refine onei ?_ | refine onesT (by decide +kernel) ?_ | refine onesF (by decide +kernel) ?_ | refine one (by rfl) ?_)
    | ((with_reducible refine (?_ : wO _ (compareOp .In) _ _ _ _)); first | refine oin ?_)
    | ((with_reducible refine (?_ : wO _ (compareOp .NotIn) _ _ _ _)); first | refine onin ?_)
    | ((with_reducible refine (?_ : wO _ (compareOp .Is) _ _ _ _)); first | refine ois ?_)
    | ((with_reducible refine (?_ : wO _ (compareOp .IsNot) _ _ _ _)); first | refine onot ?_)
    | ((with_reducible refine (?_ : wO _ (binaryOp .RShift) _ _ _ _)); refine oshr (by first | decide | omega) ?_)
    | ((with_reducible refine (?_ : wO _ (binaryOp .BitXor) _ _ _ _)); refine oxor ?_)
    | ((with_reducible refine (?_ : wO _ (inplaceOp .BitXor) _ _ _ _)); refine ixor ?_)
    | ((with_reducible refine (?_ : wO _ (inplaceOp .RShift) _ _ _ _)); refine ishr (by first | decide | omega) ?_)
    | ((with_reducible refine (?_ : wO _ (inplaceOp .BitOr) _ _ _ _)); first | refine ior ?_)
    | ((with_reducible refine (?_ : wO _ (inplaceOp .Add) _ _ _ _)); first | refine iadd ?_))
  | ((with_reducible refine (?_ : wT _ _ _ _ _)); first
    | ((with_reducible refine (?_ : wT _ (.Compare _ _ _ _) _ _ _)); first | refine zcmpT (by rfl) ?_ | refine zchainT ?_)
    | ((with_reducible refine (?_ : wT _ (.UnaryOp _ _ _) _ _ _)); refine znotT ?_)
    | ((with_reducible refine (?_ : wT _ (.BoolOp _ _ _) _ _ _)); refine zW ?_)
    | refine zval ?_)
  | ((with_reducible refine (?_ : wW _ _ _ _ _)); first | refine zand ?_ | refine zor ?_ | refine zand1 ?_ | refine zor1 ?_)
  | ((with_reducible refine (?_ : wK _ _ _ _ _)); first
    | ((with_reducible refine (?_ : wK _ (.builtin "len") _ _ _)); first | refine klenL (by one_place) ?_ | refine klenT (by one_place) ?_ | refine klenS (by assumption) ?_)
    | ((with_reducible refine (?_ : wK _ (.builtin "isinstance") _ _ _)); first | refine kisE (by assumption) (by assumption) (by first | assumption | exact Xd.exx (by assumption) (by one_sign)) (by first | exact .own _ | exact .ty _) (by assumption) ?_ | refine kisi (.ty _) (by assumption) (by assumption) ?_ | refine kisi (.ty _) (.base (by first | exact .int _ | exact .bl _ | exact .str _ | exact .non | exact .tup (by one_item) | exact .lst (by one_item))) (kit_ty (r := true) (by rfl)) ?_ | refine kisi (.ty _) (.base (by first | exact .int _ | exact .bl _ | exact .str _ | exact .non | exact .tup (by one_item) | exact .lst (by one_item))) (kit_ty (r := false) (by rfl)) ?_)
    | ((with_reducible refine (?_ : wK _ (.builtin "divmod") _ _ _)); refine kdivmod ⟨by first | decide | omega, by decide⟩ (fun _ _ _ _ _ => ?_))
    | ((with_reducible refine (?_ : wK _ (.builtin "min") _ _ _)); refine kmin (by rfl) ?_)
    | ((with_reducible refine (?_ : wK _ (.builtin "max") _ _ _)); refine kmax (by rfl) ?_)
    | ((with_reducible refine (?_ : wK _ (.type "list") _ _ _)); first | refine klistL (by one_place) (fun _ _ _ _ _ => ?_) | refine klistT (by one_place) (fun _ _ _ _ _ => ?_))
    | ((with_reducible refine (?_ : wK _ (.type "tuple") _ _ _)); first | refine ktupL (by one_place) (fun _ _ _ _ _ => ?_)))
  | ((with_reducible refine (?_ : wS _ _ _ _ _)); first
    | ((with_reducible refine (?_ : wS _ (.Assign [.Name _ _] _ _) _ _ _)); refine sset' (by assumption) (by rfl) (by first | exact Or.inl rfl | exact Or.inr rfl) (by rfl) (by first | exact .inl rfl | exact .inr rfl) ?_)
    | ((with_reducible refine (?_ : wS _ (.AugAssign (.Name _ _) _ _ _) _ _ _)); refine saug' (by assumption) (by rfl) (by first | exact Or.inl rfl | exact Or.inr rfl) (by first | exact .inl rfl | exact .inr rfl) (by rfl) ?_)
    | ((with_reducible refine (?_ : wS _ (.Assign [.Attribute _ _ _] _ _) _ _ _)); refine sfld ?_)
    | ((with_reducible refine (?_ : wS _ (.Expr _ _) _ _ _)); refine sexp ?_)
    | ((with_reducible refine (?_ : wS _ (.Assign [.Tuple _ _ _] _ _) _ _ _)); refine sasg ?_) | ((with_reducible refine (?_ : wS _ (.Assign [.Subscript _ _ _] _ _) _ _ _)); refine sasg ?_)
    | refine sret ?_ | refine sif ?_ | refine sretN ?_ | refine spass ?_ | refine sbrk ?_ | refine scont ?_)
  | ((with_reducible refine (?_ : wG _ (.Name _ _) _ _ _ _)); refine gname' (by assumption) (by rfl) (by first | exact Or.inl rfl | exact Or.inr rfl) (by first | exact .inl rfl | exact .inr rfl) ?_)
  | ((with_reducible refine (?_ : wG _ (.Tuple _ _ _) _ _ _ _)); refine gtup rfl (by one_place) rfl ?_) | ((with_reducible refine (?_ : wG _ (.Subscript _ _ _) _ _ _ _)); refine gsub ?_)
  | ((with_reducible refine (?_ : wGs _ _ _ _ _ _)); first | refine gscons ?_ | refine gsnil ?_)
  | ((with_reducible refine (?_ : wB _ _ _ _ _)); first | refine bcons ?_ | refine bnil ?_)
  | refine ifT ?_ | refine ifF ?_ | refine ifd (fun _ => ?_) (fun _ => ?_) | refine ifnd (fun _ => ?_) (fun _ => ?_) | refine ⟨_, rfl, ?_⟩ | refine ⟨rfl, Evl.Ex.refl _, ?_⟩ | refine ⟨_, _, _, _, _, rfl, by one_item, by assumption, by assumption, by rfl, ?_⟩ | refine ⟨Nat.le_of_ble_eq_true rfl, fun _ _ _ _ _ => ?_⟩ | fail)
local macro_rules | `(tactic| top_name) => `(tactic| repeat' tb_rel)
local macro_rules | `(tactic| nest_fact) => `(tactic| first | exact ⟨(decide_eq_true (by omega)).symm, rfl⟩ | exact ⟨(decide_eq_false (by omega)).symm, rfl⟩ | exact ⟨decide_eq_decide.mpr (by omega), rfl⟩ | fail)
/-! ### widths, blanks -/
theorem mf_Upto_width (T : Txt K mg) : Mf P w K mg base 1 (He.ga K "Upto") "width" [] (fun vs H Q _ => ∃ (a dx : Addr) (n : Int), vs = [.ref a] ∧ H a = some (.ins (He.ga K "Upto") dx [("most", .int n)]) ∧ Q (.int (bits n)) H) := by
  refine mf_mk T.f_Upto_width T.c_Upto.cl T.h_Upto_width (fun _ _ _ _ _ _ us hl => match us, hl with | [_], _ => rfl) fun fd F => fn_mk F sc_Upto_width (fun vs H Q E h => ?_) fun cd A outer s H vs Q E hr tk po h => ?_
  · obtain ⟨a, dx, n, rfl, _⟩ := h; rfl
  · obtain ⟨a, dx, n, rfl, hx, q⟩ := h
    have c1 := T.c_Upto.cl
    have a1 := T.a_Upto_most
    have g1 := T.g_WIDEST
    unfold bits at q
    top_name
    · rename_i h
      rw [if_pos (by omega)] at q
      exact q
    · rename_i h
      rw [if_neg (by omega)] at q
      refine zbits ?_
      top_name
      exact q
def spV (K : PySem.W.Frag) (k : KD) (v : V) : Sp := fun vs H Q _ => ∃ a : Addr, vs = [.ref a] ∧ KI K H (.ref a) k ∧ Q v H
theorem mf_as {k : Nat} {C : Addr} {m : Str} {dvs : List V} {sp sp' : Sp} (h : Mf P w K mg base k C m dvs sp) (q : ∀ vs H Q E, sp' vs H Q E → sp vs H Q E) : Mf P w K mg base k C m dvs sp' := by
  obtain ⟨f, fd, ps, ds, h0, h1, h3, h4, h5⟩ := h
  exact ⟨f, fd, ps, ds, h0, h1, h3, h4, ⟨fun vs H Q E z => h5.len _ _ _ _ (q _ _ _ _ z), fun A outer s H args us vs Q E hr e hb r z => h5.run A outer s H args us vs Q E hr e hb r (q _ _ _ _ z)⟩⟩
theorem mf_width (T : Txt K mg) (k : KD) : Mf P w K mg base 1 (He.ga K k.cls) "width" [] (spV K k (.int k.width)) := by
  cases k with
  | truth => exact mf_as (mf_Truth_width T) fun vs H Q E ⟨a, e, _, q⟩ => ⟨a, e, q⟩
  | count => exact mf_as (mf_Count_width T) fun vs H Q E ⟨a, e, _, q⟩ => ⟨a, e, q⟩
  | whole => exact mf_as (mf_Whole_width T) fun vs H Q E ⟨a, e, _, q⟩ => ⟨a, e, q⟩
  | upto n => exact mf_as (mf_Upto_width T) fun vs H Q E ⟨a, e, hi, q⟩ => by cases hi with | upto h => exact ⟨a, _, n, e, h, q⟩
  | text n => exact mf_as (mf_Text_width T) fun vs H Q E ⟨a, e, _, q⟩ => ⟨a, e, q⟩
  | form s => exact mf_as (mf_Nested_width T) fun vs H Q E ⟨a, e, _, q⟩ => ⟨a, e, q⟩
  | list k => exact mf_as (mf_List_width T) fun vs H Q E ⟨a, e, _, q⟩ => ⟨a, e, q⟩
/-- the blank: a constant, of a list kind a new empty list -/
def spB (k : KD) : Sp := fun vs H Q _ => ∃ a : Addr, vs = [.ref a] ∧ match k with
  | .list _ => ∀ t H', H t = none → Ex H H' → H' t = some (.lst []) → Q (.ref t) H'
  | k => Q k.blank H
theorem mf_blank (T : Txt K mg) (k : KD) : Mf P w K mg base 1 (He.ga K k.cls) "blank" [] (spB k) := by
  cases k with
  | truth => exact mf_Truth_blank T
  | count => exact mf_Count_blank T
  | whole => exact mf_Whole_blank T
  | upto n => exact mf_Upto_blank T
  | text n => exact mf_Text_blank T
  | form s => exact mf_Nested_blank T
  | list k =>
    refine mf_mk T.f_List_blank T.c_List.cl T.h_List_blank (fun _ _ _ _ _ _ us hl => match us, hl with | [_], _ => rfl) fun fd F => fn_mk F sc_List_blank (fun vs H Q E h => ?_) fun cd A outer s H vs Q E hr tk po h => ?_
    · obtain ⟨a, rfl, _⟩ := h; rfl
    · obtain ⟨a, rfl, q⟩ := h
      top_name
      rename_i t H1 ht e1 hxt
      exact q t H1 ht e1 hxt
/-! ### what suits -/
def HALF : Int := 57896044618658097711785492504343953926634992332820282019728792003956564819968
theorem half_most : MOST / 2 = HALF - 1 := by decide +kernel
theorem most_half : MOST = 2 * HALF - 1 := by decide +kernel
def signB (c : Nat) : Bool := decide (32 ≤ c) && decide (c ≤ 126)
mutual
inductive Suit (K : PySem.W.Frag) (H : Hp) : KD → V → Bool → Prop
  | tyes (x : Bool) : Suit K H .truth (.bl x) true
  | tno {v : V} {t : Value} (ty : TyX K H v t) (k : PySem.W.kitOne K t (.type "bool") = some false) : Suit K H .truth v false
  | count {v : V} {b : Bool} (h : Asked K H 0 MOST v b) : Suit K H .count v b
  | whole {v : V} {b : Bool} (h : Asked K H (-HALF) (HALF - 1) v b) : Suit K H .whole v b
  | upto {n : Int} {v : V} {b : Bool} (h : Asked K H 0 n v b) : Suit K H (.upto n) v b
  | text {n : Int} (x : Str) (hz : x.length ≤ 1000) (hp : ∀ c ∈ x.cps.toList, c ≠ 37) : Suit K H (.text n) (.str x) (decide ((x.length : Int) ≤ n) && x.cps.toList.all signB)
  | textno {n : Int} {v : V} {t : Value} (ty : TyX K H v t) (k : PySem.W.kitOne K t (.type "str") = some false) : Suit K H (.text n) v false
  | form {s : Str} (v : V) : Suit K H (.form s) v true
  | list {k : KD} {l : Addr} {xs : List V} {bs : List Bool} (h : H l = some (.lst xs)) (hz : xs.length ≤ 1000) (a : SuitAll K H k xs bs) : Suit K H (.list k) (.ref l) (decide (xs.length ≤ 20) && bs.all id)
  | listno {k : KD} {v : V} {t : Value} (ty : TyX K H v t) (q : PySem.W.kitOne K t (.type "list") = some false) : Suit K H (.list k) v false
inductive SuitAll (K : PySem.W.Frag) (H : Hp) : KD → List V → List Bool → Prop
  | nil {k : KD} : SuitAll K H k [] []
  | cons {k : KD} {v : V} {b : Bool} {vs : List V} {bs : List Bool} : Suit K H k v b → SuitAll K H k vs bs → SuitAll K H k (v :: vs) (b :: bs)
end
mutual
theorem Suit.ex {H H' : Hp} (e : Ex H H') : ∀ {k : KD} {v : V} {b : Bool}, Suit K H k v b → Suit K H' k v b
  | _, _, _, .tyes x => .tyes x
  | _, _, _, .tno ty k => .tno (TyX.ex e ty) k
  | _, _, _, .count h => .count (Asked.ex e h)
  | _, _, _, .whole h => .whole (Asked.ex e h)
  | _, _, _, .upto h => .upto (Asked.ex e h)
  | _, _, _, .text x hz hp => .text x hz hp
  | _, _, _, .textno ty k => .textno (TyX.ex e ty) k
  | _, _, _, .form v => .form v
  | _, _, _, .list h hz a => .list (e _ _ h) hz (SuitAll.ex e a)
  | _, _, _, .listno ty q => .listno (TyX.ex e ty) q
theorem SuitAll.ex {H H' : Hp} (e : Ex H H') : ∀ {k : KD} {vs : List V} {bs : List Bool}, SuitAll K H k vs bs → SuitAll K H' k vs bs
  | _, _, _, .nil => .nil
  | _, _, _, .cons a t => .cons (Suit.ex e a) (SuitAll.ex e t)
end
theorem SuitAll.length {H : Hp} {k : KD} : ∀ {vs : List V} {bs : List Bool}, SuitAll K H k vs bs → vs.length = bs.length
  | _, _, .nil => rfl
  | _, _, .cons _ t => by rw [List.length_cons, List.length_cons, t.length]
theorem SuitAll.get {H : Hp} {k : KD} : ∀ {vs : List V} {bs : List Bool} {i : Nat} {v : V}, SuitAll K H k vs bs → vs[i]? = some v → ∃ b, bs[i]? = some b ∧ Suit K H k v b
  | _, _, 0, _, .cons a _, h => by simp at h; subst h; exact ⟨_, rfl, a⟩
  | _, _, i + 1, _, .cons _ t, h => by obtain ⟨b, h1, h2⟩ := t.get (i := i) (by simpa using h); exact ⟨b, by simpa using h1, h2⟩
/-- a sign -/
theorem lt_one {c d : Nat} : ([c] : List Nat) < [d] ↔ c < d := by
  rw [List.cons_lt_cons_iff]
  simp
theorem ok_is_sign (T : Txt K mg) : Gf P w K mg base 1 "is_sign" [] (fun vs H Q _ => ∃ c : Nat, vs = [.str ⟨#[c]⟩] ∧ c ≠ 37 ∧ Q (.bl (signB c)) H) := by
  refine gf_mk T.f_is_sign T.m_is_sign (fun _ _ _ _ _ _ us hl => match us, hl with | [_], _ => rfl) fun fd F => fn_mk F sc_is_sign (fun vs H Q E h => ?_) fun cd A outer s H vs Q E hr tk po h => ?_
  · obtain ⟨c, rfl, _⟩ := h; rfl
  · obtain ⟨c, rfl, hc, q⟩ := h
    have nd := sc_is_sign.nd
    have n1 := T.n_ord
    have g1 := T.g_NO_SIGN
    unfold signB at q
    have e1 : (!decide ((⟨#[c]⟩ : Str).cps.toList < (" " : Str).cps.toList)) = decide (32 ≤ c) := by
      show (!decide ([c] < [32])) = _
      by_cases h : 32 ≤ c
      · rw [decide_eq_true h, decide_eq_false (fun z => by have := lt_one.mp z; omega)]; rfl
      · rw [decide_eq_false h, decide_eq_true (lt_one.mpr (by omega))]; rfl
    have e2 : (!decide (("~" : Str).cps.toList < (⟨#[c]⟩ : Str).cps.toList)) = decide (c ≤ 126) := by
      show (!decide ([126] < [c])) = _
      by_cases h : c ≤ 126
      · rw [decide_eq_true h, decide_eq_false (fun z => by have := lt_one.mp z; omega)]; rfl
      · rw [decide_eq_false h, decide_eq_true (lt_one.mpr (by omega))]; rfl
    top_name
    refine oles ?_
    rw [e1]
    top_name
    · rename_i h1
      refine oles ?_
      rw [e2]
      rw [decide_eq_true h1, Bool.true_and] at q
      refine ⟨_, rfl, ?_⟩
      refine ifd (fun h2 => ?_) (fun h2 => ?_)
      · top_name
        refine kord rfl ?_
        top_name
        rw [decide_eq_true h2] at q
        show Q (V.bl (!decide (((c : Nat) : Int) = 37))) H
        rw [decide_eq_false (show ¬ ((c : Nat) : Int) = 37 by omega)]
        exact q
      · rw [decide_eq_false h2] at q
        exact q
    · rename_i h1
      rw [decide_eq_false h1, Bool.false_and] at q
      exact q
end K07

set_option maxRecDepth 100000
set_option maxHeartbeats 4000000
set_option pp.maxSteps 1500
namespace K07
open PySem PySem.Spec PyProof.Rows L2 Z
open Evl (Ex)
variable {P : Program} {w : World} {K : PySem.W.Frag} {mg : Str → Option Value} {base : Heap}
/-! ### steps of the walk: one_sign: a heap grew into another; one_item: what stands at an address; one_place: a list or tuple to be read; leaf_len: arithmetic; tb_rel: one step; top_name: steps as far as they go -/
local macro_rules | `(tactic| got_up) => `(tactic| (refine Evl.Ex.trans (by assumption) ?_; first | assumption | exact Evl.Ex.refl _ | got_up))
local macro_rules | `(tactic| units_room) => `(tactic| (refine Evl.Ex.trans ?_ (by assumption); first | assumption | exact Evl.Ex.refl _ | units_room))
local macro_rules | `(tactic| one_sign) => `(tactic| first | assumption | exact Evl.Ex.refl _ | got_up | units_room)
local macro_rules | `(tactic| one_item) => `(tactic| first | assumption | exact upd_same | exact exa (by assumption) (by one_sign))
local macro_rules | `(tactic| one_place) => `(tactic| first | assumption | exact SqL.of (by assumption) | exact SqT.of (by assumption) | exact exl (by assumption) (by one_sign) | exact ext (by assumption) (by one_sign) | exact SqL.of (by one_item) | exact SqT.of (by one_item))
local macro_rules | `(tactic| leaf_len) => `(tactic| first | assumption | decide | omega)
local macro_rules | `(tactic| tb_rel) => `(tactic| first
  | ((with_reducible refine (?_ : wE _ _ _ _ _)); first
    | ((with_reducible refine (?_ : wE _ (.Name _ _) _ _ _)); first | refine zn (by rfl) (by first | exact Or.inl rfl | exact Or.inr (Or.inl rfl) | exact Or.inr (Or.inr rfl)) (by rfl) ?_ | refine zglob (by assumption) (by rfl) ?_ | refine zcls (by assumption) (by rfl) ?_ | refine zty (by assumption) (by first | exact bt_int | exact bt_bool | exact bt_str | exact bt_list | exact bt_tuple | exact bt_dict | exact bt_ValueError) (by rfl) ?_)
    | ((with_reducible refine (?_ : wE _ (.Attribute _ _ _) _ _ _)); refine zfld ?_)
    | ((with_reducible refine (?_ : wE _ (.Constant _ _ _) _ _ _)); first | refine zint ?_ | refine zstr ?_ | refine zbl ?_ | refine znon ?_)
    | ((with_reducible refine (?_ : wE _ (.BinOp _ _ _ _) _ _ _)); refine zbin ?_)
    | ((with_reducible refine (?_ : wE _ (.Compare _ _ _ _) _ _ _)); first | refine zcmp (by rfl) ?_ | refine zchain ?_)
    | ((with_reducible refine (?_ : wE _ (.Dict [] [] _) _ _ _)); refine zdnew (fun _ _ _ _ _ => ?_))
    | ((with_reducible refine (?_ : wE _ (.Subscript _ (.Slice _ _ _ _) _) _ _ _)); refine zsl ?_)
    | ((with_reducible refine (?_ : wE _ (.Subscript _ _ _) _ _ _)); refine zix ?_)
    | ((with_reducible refine (?_ : wE _ (.Call (.Name "list" _) [.Call (.Name "range" _) [_] [] _] [] _) _ _ _)); refine zlrg1 rfl (by rfl) (by assumption) (by rfl) (by assumption) ?_)
    | ((with_reducible refine (?_ : wE _ (.Call (.Name _ _) _ _ _) _ _ _)); first
      | ((with_reducible refine (?_ : wE _ (.Call (.Name "len" _) _ _ _) _ _ _)); refine zbfn (by assumption) bt_len (by rfl) ?_)
      | ((with_reducible refine (?_ : wE _ (.Call (.Name "isinstance" _) _ _ _) _ _ _)); refine zbfn (by assumption) bt_isi (by rfl) ?_)
      | ((with_reducible refine (?_ : wE _ (.Call (.Name "min" _) _ _ _) _ _ _)); refine zbfn (by assumption) bt_min (by rfl) ?_)
      | ((with_reducible refine (?_ : wE _ (.Call (.Name "max" _) _ _ _) _ _ _)); refine zbfn (by assumption) bt_max (by rfl) ?_)
      | ((with_reducible refine (?_ : wE _ (.Call (.Name "list" _) _ _ _) _ _ _)); refine zbty (by assumption) bt_list (by rfl) ?_)
      | ((with_reducible refine (?_ : wE _ (.Call (.Name "tuple" _) _ _ _) _ _ _)); refine zbty (by assumption) bt_tuple (by rfl) ?_)
      | ((with_reducible refine (?_ : wE _ (.Call (.Name "int" _) _ _ _) _ _ _)); refine zbty (by assumption) bt_int (by rfl) ?_)
      | ((with_reducible refine (?_ : wE _ (.Call (.Name "abs" _) _ _ _) _ _ _)); refine zbfn (by assumption) bt_abs (by rfl) ?_)
      | ((with_reducible refine (?_ : wE _ (.Call (.Name "all" _) _ _ _) _ _ _)); refine zbfn (by assumption) bt_all (by rfl) ?_)
      | ((with_reducible refine (?_ : wE _ (.Call (.Name "sum" _) _ _ _) _ _ _)); refine zbfn (by assumption) bt_sum (by rfl) ?_)
      | ((with_reducible refine (?_ : wE _ (.Call (.Name "divmod" _) _ _ _) _ _ _)); refine zbfn (by assumption) bt_divmod (by rfl) ?_)
      | ((with_reducible refine (?_ : wE _ (.Call (.Name "ord" _) _ _ _) _ _ _)); refine zbfn (by assumption) bt_ord (by rfl) ?_))
    | ((with_reducible refine (?_ : wE _ (.IfExp _ _ _ _) _ _ _)); refine zif ?_)
    | ((with_reducible refine (?_ : wE _ (.Tuple _ _ _) _ _ _)); refine ztup ?_)
    | ((with_reducible refine (?_ : wE _ (.List _ _) _ _ _)); refine zlst ?_)
    | ((with_reducible refine (?_ : wE _ (.UnaryOp _ _ _) _ _ _)); first | refine znotV ?_ | refine zneg ?_)
    | ((with_reducible refine (?_ : wE _ (.BoolOp _ _ _) _ _ _)); first | refine zandV ?_ | refine zorV ?_ | refine zoneV ?_))
  | ((with_reducible refine (?_ : bE _ _ _ _ _ _)); refine ⟨fun _ _ _ _ _ => ?_⟩) | ((with_reducible refine (?_ : bG _ _ _ _ _ _ _)); refine ⟨fun _ _ _ _ _ => ?_⟩) | ((with_reducible refine (?_ : bTs _ _ _ _ _ _)); refine ⟨fun _ _ _ _ _ => ?_⟩)
  | ((with_reducible refine (?_ : hE _ _ _ _ _ _)); refine ⟨fun _ _ _ _ _ => ?_⟩) | ((with_reducible refine (?_ : hG _ _ _ _ _ _ _)); refine ⟨fun _ _ _ _ _ => ?_⟩) | ((with_reducible refine (?_ : hTs _ _ _ _ _ _)); refine ⟨fun _ _ _ _ _ => ?_⟩)
  | ((with_reducible refine (?_ : wP _ _ _ _ _)); first | refine pnon ?_ | refine psom ?_) | ((with_reducible refine (?_ : wSl _ _ _ _ _ _)); first | refine slL (by one_place) (fun _ _ _ _ _ => ?_) | refine slS (by assumption) ?_)
  | ((with_reducible refine (?_ : wTs _ _ _ _ _)); first | refine tsnil ?_ | refine tsone ?_)
  | ((with_reducible refine (?_ : wA _ _ _ _ _)); first | refine acons ?_ | refine anil ?_)
  | ((with_reducible refine (?_ : wO _ _ _ _ _ _)); first
    | ((with_reducible refine (?_ : wO _ (binaryOp .Add) _ _ _ _)); first | refine oadd ?_ | refine ocatE (by one_item) (by one_item) (Nat.le_of_ble_eq_true rfl) (fun _ _ _ _ _ => ?_))
    | ((with_reducible refine (?_ : wO _ (binaryOp .Sub) _ _ _ _)); first | refine osub ?_)
    | ((with_reducible refine (?_ : wO _ (binaryOp .Mult) _ _ _ _)); first | refine omul (by first | exact IntMulOk.of_right (by decide) | exact IntMulOk.of_left (by decide) | exact IntMulOk.of_right (intBits_le_64 (by omega) (by omega)) | exact IntMulOk.of_left (intBits_le_64 (by omega) (by omega))) ?_)
    | ((with_reducible refine (?_ : wO _ (binaryOp .Mod) _ _ _ _)); first | refine omod (by first | decide | omega) ?_)
    | ((with_reducible refine (?_ : wO _ (binaryOp .FloorDiv) _ _ _ _)); first | refine ofdiv ⟨by first | decide | omega, by decide⟩ ?_)
    | ((with_reducible refine (?_ : wO _ (binaryOp .BitAnd) _ _ _ _)); first | refine oand ?_)
    | ((with_reducible refine (?_ : wO _ (binaryOp .BitOr) _ _ _ _)); first | refine oor ?_)
    | ((with_reducible refine (?_ : wO _ (compareOp .Lt) _ _ _ _)); first | refine olt ?_)
    | ((with_reducible refine (?_ : wO _ (compareOp .LtE) _ _ _ _)); first | refine ole ?_)
    | ((with_reducible refine (?_ : wO _ (compareOp .Gt) _ _ _ _)); first | refine ogt ?_)
    | ((with_reducible refine (?_ : wO _ (compareOp .GtE) _ _ _ _)); first | refine oge ?_)
    | ((with_reducible refine (?_ : wO _ (compareOp .Eq) _ _ _ _)); first | refine oeqi ?_ | refine oeqsT (by decide +kernel) ?_ | refine oeqsF (by decide +kernel) ?_ | refine oeq (by rfl) ?_)
    | ((with_reducible refine (?_ : wO _ (compareOp .NotEq) _ _ _ _)); first | refine onei ?_ | refine onesT (by decide +kernel) ?_ | refine onesF (by decide +kernel) ?_ | refine one (by rfl) ?_)
    | ((with_reducible refine (?_ : wO _ (compareOp .In) _ _ _ _)); first | refine oin ?_)
    | ((with_reducible refine (?_ : wO _ (compareOp .NotIn) _ _ _ _)); first | refine onin ?_)
    | ((with_reducible refine (?_ : wO _ (compareOp .Is) _ _ _ _)); first | refine ois ?_)
    | ((with_reducible refine (?_ : wO _ (compareOp .IsNot) _ _ _ _)); first | refine onot ?_)
    | ((with_reducible refine (?_ : wO _ (binaryOp .RShift) _ _ _ _)); refine oshr (by first | decide | omega) ?_)
    | ((with_reducible refine (?_ : wO _ (binaryOp .BitXor) _ _ _ _)); refine oxor ?_)
    | ((with_reducible refine (?_ : wO _ (inplaceOp .BitXor) _ _ _ _)); refine ixor ?_)
    | ((with_reducible refine (?_ : wO _ (inplaceOp .RShift) _ _ _ _)); refine ishr (by first | decide | omega) ?_)
    | ((with_reducible refine (?_ : wO _ (inplaceOp .BitOr) _ _ _ _)); first | refine ior ?_)
    | ((with_reducible refine (?_ : wO _ (inplaceOp .Add) _ _ _ _)); first | refine iadd ?_))
  | ((with_reducible refine (?_ : wT _ _ _ _ _)); first
    | ((with_reducible refine (?_ : wT _ (.Compare _ _ _ _) _ _ _)); first | refine zcmpT (by rfl) ?_ | refine zchainT ?_)
    | ((with_reducible refine (?_ : wT _ (.UnaryOp _ _ _) _ _ _)); refine znotT ?_)
    | ((with_reducible refine (?_ : wT _ (.BoolOp _ _ _) _ _ _)); refine zW ?_)
    | refine zval ?_)
  | ((with_reducible refine (?_ : wW _ _ _ _ _)); first | refine zand ?_ | refine zor ?_ | refine zand1 ?_ | refine zor1 ?_)
  | ((with_reducible refine (?_ : wK _ _ _ _ _)); first
    | ((with_reducible refine (?_ : wK _ (.builtin "len") _ _ _)); first | refine klenL (by one_place) ?_ | refine klenT (by one_place) ?_ | refine klenS (by assumption) ?_)
    | ((with_reducible refine (?_ : wK _ (.builtin "isinstance") _ _ _)); first | refine kisE (by assumption) (by assumption) (by first | assumption | exact Xd.exx (by assumption) (by one_sign)) (by first | exact .own _ | exact .ty _) (by assumption) ?_ | refine kisi (.ty _) (by assumption) (by assumption) ?_ | refine kisi (.ty _) (.base (by first | exact .int _ | exact .bl _ | exact .str _ | exact .non | exact .tup (by one_item) | exact .lst (by one_item))) (kit_ty (r := true) (by rfl)) ?_ | refine kisi (.ty _) (.base (by first | exact .int _ | exact .bl _ | exact .str _ | exact .non | exact .tup (by one_item) | exact .lst (by one_item))) (kit_ty (r := false) (by rfl)) ?_)
    | ((with_reducible refine (?_ : wK _ (.builtin "divmod") _ _ _)); refine kdivmod ⟨by first | decide | omega, by decide⟩ (fun _ _ _ _ _ => ?_))
    | ((with_reducible refine (?_ : wK _ (.builtin "min") _ _ _)); refine kmin (by rfl) ?_)
    | ((with_reducible refine (?_ : wK _ (.builtin "max") _ _ _)); refine kmax (by rfl) ?_)
    | ((with_reducible refine (?_ : wK _ (.type "list") _ _ _)); first | refine klistL (by one_place) (fun _ _ _ _ _ => ?_) | refine klistT (by one_place) (fun _ _ _ _ _ => ?_))
    | ((with_reducible refine (?_ : wK _ (.type "tuple") _ _ _)); first | refine ktupL (by one_place) (fun _ _ _ _ _ => ?_)))
  | ((with_reducible refine (?_ : wS _ _ _ _ _)); first
    | ((with_reducible refine (?_ : wS _ (.Assign [.Name _ _] _ _) _ _ _)); refine sset' (by assumption) (by rfl) (by first | exact Or.inl rfl | exact Or.inr rfl) (by rfl) (by first | exact .inl rfl | exact .inr rfl) ?_)
    | ((with_reducible refine (?_ : wS _ (.AugAssign (.Name _ _) _ _ _) _ _ _)); refine saug' (by assumption) (by rfl) (by first | exact Or.inl rfl | exact Or.inr rfl) (by first | exact .inl rfl | exact .inr rfl) (by rfl) ?_)
    | ((with_reducible refine (?_ : wS _ (.Assign [.Attribute _ _ _] _ _) _ _ _)); refine sfld ?_)
    | ((with_reducible refine (?_ : wS _ (.Expr _ _) _ _ _)); refine sexp ?_)
    | ((with_reducible refine (?_ : wS _ (.Assign [.Tuple _ _ _] _ _) _ _ _)); refine sasg ?_) | ((with_reducible refine (?_ : wS _ (.Assign [.Subscript _ _ _] _ _) _ _ _)); refine sasg ?_)
    | refine sret ?_ | refine sif ?_ | refine sretN ?_ | refine spass ?_ | refine sbrk ?_ | refine scont ?_)
  | ((with_reducible refine (?_ : wG _ (.Name _ _) _ _ _ _)); refine gname' (by assumption) (by rfl) (by first | exact Or.inl rfl | exact Or.inr rfl) (by first | exact .inl rfl | exact .inr rfl) ?_)
  | ((with_reducible refine (?_ : wG _ (.Tuple _ _ _) _ _ _ _)); refine gtup rfl (by one_place) rfl ?_) | ((with_reducible refine (?_ : wG _ (.Subscript _ _ _) _ _ _ _)); refine gsub ?_)
  | ((with_reducible refine (?_ : wGs _ _ _ _ _ _)); first | refine gscons ?_ | refine gsnil ?_)
  | ((with_reducible refine (?_ : wB _ _ _ _ _)); first | refine bcons ?_ | refine bnil ?_)
  | refine ifT ?_ | refine ifF ?_ | refine ifd (fun _ => ?_) (fun _ => ?_) | refine ifnd (fun _ => ?_) (fun _ => ?_) | refine ⟨_, rfl, ?_⟩ | refine ⟨rfl, Evl.Ex.refl _, ?_⟩ | refine ⟨_, _, _, _, _, rfl, by one_item, by assumption, by assumption, by rfl, ?_⟩ | refine ⟨Nat.le_of_ble_eq_true rfl, fun _ _ _ _ _ => ?_⟩ | fail)
local macro_rules | `(tactic| top_name) => `(tactic| repeat' tb_rel)
local macro_rules | `(tactic| nest_fact) => `(tactic| first | exact ⟨(decide_eq_true (by omega)).symm, rfl⟩ | exact ⟨(decide_eq_false (by omega)).symm, rfl⟩ | exact ⟨decide_eq_decide.mpr (by omega), rfl⟩ | fail)
def spS (K : PySem.W.Frag) (k : KD) : Sp := fun vs H Q _ => ∃ (a : Addr) (v : V) (b : Bool), vs = [.ref a, v] ∧ KI K H (.ref a) k ∧ Suit K H k v b ∧ ∀ H', Ex H H' → Q (.bl b) H'
theorem take_sign {x : Str} {f : Nat → V} {j c : Nat} (h : x.cps[j]? = some c) : (x.cps.toList.take (j + 1)).map f = (x.cps.toList.take j).map f ++ [f c] := take_map_succ (by rw [Array.getElem?_toList]; exact h)
theorem take_len {x : Str} {f : Nat → V} {j c : Nat} (hz : x.length ≤ 100000) (h : x.cps[j]? = some c) : ((x.cps.toList.take j).map f).length < sizeLine := by
  have := (Array.getElem?_eq_some_iff.mp h).1
  rw [List.length_map, List.length_take, sizeLine_eq]
  have e : x.length = x.cps.size := rfl
  omega
theorem take_all {x : Str} {f : Nat → V} : (x.cps.toList.take x.cps.size).map f = x.cps.toList.map f := by rw [show x.cps.size = x.cps.toList.length from by simp, List.take_length]
theorem mf_suits (T : Txt K mg) : ∀ (k : KD), k.dep ≤ 1000 → Mf P w K mg base (3 + k.dep) (He.ga K k.cls) "suits" [] (spS K k) := by
  intro k
  induction k with
  | truth =>
    intro _
    refine mf_mk T.f_Truth_suits T.c_Truth.cl T.h_Truth_suits (fun _ _ _ _ _ _ us hl => match us, hl with | [_, _], _ => rfl) fun fd F => fn_mk (k := 2) F sc_Truth_suits (fun vs H Q E h => ?_) fun cd A outer s H vs Q E hr tk po h => ?_
    · obtain ⟨a, v, b, rfl, _⟩ := h; rfl
    · obtain ⟨a, v, b, rfl, hi, hs, q⟩ := h
      have n1 := T.n_isinstance
      have n2 := T.n_bool
      cases hs with
      | tyes x =>
        top_name
        exact q _ (Evl.Ex.refl _)
      | tno ty hk =>
        top_name
        exact q _ (Evl.Ex.refl _)
  | count =>
    intro _
    refine mf_mk T.f_Count_suits T.c_Count.cl T.h_Count_suits (fun _ _ _ _ _ _ us hl => match us, hl with | [_, _], _ => rfl) fun fd F => fn_mk (k := 2) F sc_Count_suits (fun vs H Q E h => ?_) fun cd A outer s H vs Q E hr tk po h => ?_
    · obtain ⟨a, v, b, rfl, _⟩ := h; rfl
    · obtain ⟨a, v, b, rfl, hi, hs, q⟩ := h
      cases hs with
      | count hs =>
        have g1 := T.g_MOST_NUMBER
        top_name
        refine zcall (ok_is_among T) hr (by decide) takesF rfl ?_
        top_name
        refine ⟨v, 0, MOST, b, rfl, hs, ?_⟩
        exact q _ (Evl.Ex.refl _)
  | whole =>
    intro _
    refine mf_mk T.f_Whole_suits T.c_Whole.cl T.h_Whole_suits (fun _ _ _ _ _ _ us hl => match us, hl with | [_, _], _ => rfl) fun fd F => fn_mk (k := 2) F sc_Whole_suits (fun vs H Q E h => ?_) fun cd A outer s H vs Q E hr tk po h => ?_
    · obtain ⟨a, v, b, rfl, _⟩ := h; rfl
    · obtain ⟨a, v, b, rfl, hi, hs, q⟩ := h
      cases hs with
      | whole hs =>
        have g1 := T.g_MOST_NUMBER
        top_name
        refine zcall (ok_is_among T) hr (by decide) takesF rfl ?_
        top_name
        rw [show (0 : Int) - 115792089237316195423570985008687907853269984665640564039457584007913129639935 / 2 - 1 = -HALF from by decide +kernel, show (115792089237316195423570985008687907853269984665640564039457584007913129639935 : Int) / 2 = HALF - 1 from by decide +kernel]
        refine ⟨v, -HALF, HALF - 1, b, rfl, hs, ?_⟩
        exact q _ (Evl.Ex.refl _)
  | upto n =>
    intro _
    refine mf_mk T.f_Upto_suits T.c_Upto.cl T.h_Upto_suits (fun _ _ _ _ _ _ us hl => match us, hl with | [_, _], _ => rfl) fun fd F => fn_mk (k := 2) F sc_Upto_suits (fun vs H Q E h => ?_) fun cd A outer s H vs Q E hr tk po h => ?_
    · obtain ⟨a, v, b, rfl, _⟩ := h; rfl
    · obtain ⟨a, v, b, rfl, hi, hs, q⟩ := h
      have c1 := T.c_Upto.cl
      have a1 := T.a_Upto_most
      cases hs with
      | upto hs =>
        cases hi with
        | upto hx =>
          top_name
          refine zcall (ok_is_among T) hr (by decide) takesF rfl ?_
          top_name
          refine ⟨v, 0, n, b, rfl, hs, ?_⟩
          exact q _ (Evl.Ex.refl _)
  | text n =>
    intro _
    refine mf_mk T.f_Text_suits T.c_Text.cl T.h_Text_suits (fun _ _ _ _ _ _ us hl => match us, hl with | [_, _], _ => rfl) fun fd F => fn_mk (k := 2) F sc_Text_suits (fun vs H Q E h => ?_) fun cd A outer s H vs Q E hr tk po h => ?_
    · obtain ⟨a, v, b, rfl, _⟩ := h; rfl
    · obtain ⟨a, v, b, rfl, hi, hs, q⟩ := h
      have nd := sc_Text_suits.nd
      have n1 := T.n_isinstance
      have n2 := T.n_str
      have n3 := T.n_len
      have n4 := T.n_all
      have c1 := T.c_Text.cl
      have a1 := T.a_Text_most
      cases hs with
      | textno ty hk =>
        top_name
        exact q _ (Evl.Ex.refl _)
      | text x hz hp =>
        cases hi with
        | text hx =>
          have hzs : x.length ≤ sizeLine := by rw [sizeLine_eq]; omega
          top_name
          · rename_i hgt
            have := q _ (Evl.Ex.refl _)
            rw [decide_eq_false (show ¬ (x.length : Int) ≤ n by omega)] at this
            exact this
          · rename_i hle
            refine zlc rfl nd [("sign", 2)] (blkOk_by (N := N_Text_suits) (sc := defScope s_Text_suits) (by decide +kernel)) piS (tmS (x := x) (fun j => (x.cps.toList.take j).map fun c => V.bl (signB c)) rfl ?_)
            top_name
            refine ⟨rfl, fun j c H1 hc e1 => ?_, fun L H1 hL e1 hxL => ?_⟩
            · have hc' : x.cps.toList[j]? = some c := by rw [Array.getElem?_toList]; exact hc
              top_name
              refine zcall (ok_is_sign T) hr (by decide) takesF rfl ?_
              top_name
              exact ⟨hp c (List.mem_of_getElem? hc'), take_sign hc, take_len (by omega) hc, Evl.Ex.refl _⟩
            · rw [take_all] at hxL
              top_name
              refine kall (bs := x.cps.toList.map signB) rfl (SqL.of (by rw [hxL, List.map_map]; rfl)) ?_
              have := q _ e1
              rw [decide_eq_true (show (x.length : Int) ≤ n by omega), Bool.true_and] at this
              rw [List.all_map]
              exact this
  | form s' =>
    intro _
    refine mf_mk T.f_Nested_suits T.c_Nested.cl T.h_Nested_suits (fun _ _ _ _ _ _ us hl => match us, hl with | [_, _], _ => rfl) fun fd F => fn_mk (k := 2) F sc_Nested_suits (fun vs H Q E h => ?_) fun cd A outer s H vs Q E hr tk po h => ?_
    · obtain ⟨a, v, b, rfl, _⟩ := h; rfl
    · obtain ⟨a, v, b, rfl, hi, hs, q⟩ := h
      cases hs with
      | form =>
        top_name
        exact q _ (Evl.Ex.refl _)
  | list k ih =>
    intro hdp
    refine mf_mk T.f_List_suits T.c_List.cl T.h_List_suits (fun _ _ _ _ _ _ us hl => match us, hl with | [_, _], _ => rfl) fun fd F => fn_mk (k := 3 + k.dep) F sc_List_suits (fun vs H Q E h => ?_) fun cd A outer s H vs Q E hr tk po h => ?_
    · obtain ⟨a, v, b, rfl, _⟩ := h; rfl
    · obtain ⟨a, v, b, rfl, hi, hs, q⟩ := h
      have nd := sc_List_suits.nd
      have n1 := T.n_isinstance
      have n2 := T.n_list
      have n3 := T.n_len
      have n4 := T.n_all
      have g1 := T.g_MOST_THINGS
      have c1 := T.c_List.cl
      have a1 := T.a_List_item
      cases hs with
      | listno ty hk =>
        top_name
        exact q _ (Evl.Ex.refl _)
      | @list _ l xs bs h hz al =>
        cases hi with
        | list hx hi =>
          top_name
          · rename_i hgt
            have := q _ (Evl.Ex.refl _)
            rw [decide_eq_false (show ¬ xs.length ≤ 20 by omega)] at this
            exact this
          · rename_i hle
            refine zlc rfl nd [("thing", 2)] (blkOk_by (N := N_List_suits) (sc := defScope s_List_suits) (by decide +kernel)) piL (tmL (xs := xs) (fun j => (bs.take j).map V.bl) rfl ?_)
            top_name
            refine ⟨SqL.of h, fun j y H1 hy e1 => ?_, fun L H1 hL e1 hxL => ?_⟩
            · obtain ⟨b', hb', hsu⟩ := al.get hy
              have hx1 := e1 _ _ hx
              top_name
              refine zmeth hr takesF ?_
              top_name
              obtain ⟨i, dx, fs, ei, hi2, hl⟩ := (hi.ex e1).ins
              subst ei
              refine ⟨i, _, dx, fs, _, [], _, rfl, hi2, hl "suits" (by decide +kernel), ih (by have : k.dep + 1 ≤ 1000 := hdp; omega), Nat.le_refl _, ?_⟩
              top_name
              refine ⟨i, y, b', rfl, hi.ex e1, hsu.ex e1, fun H2 e2 => ?_⟩
              refine ⟨take_map_succ hb', ?_, e2⟩
              rw [List.length_map, List.length_take, sizeLine_eq]
              have := (List.getElem?_eq_some_iff.mp hy).1
              omega
            · have hlb := al.length
              rw [hlb, List.take_length] at hxL
              top_name
              refine kall rfl (SqL.of hxL) ?_
              have := q _ e1
              rw [decide_eq_true (show xs.length ≤ 20 by omega), Bool.true_and] at this
              exact this
end K07

set_option maxRecDepth 100000
set_option maxHeartbeats 4000000
set_option pp.maxSteps 1500
namespace K07
open PySem PySem.Spec PyProof.Rows L2 Z
open Evl (Ex)
variable {P : Program} {w : World} {K : PySem.W.Frag} {mg : Str → Option Value} {base : Heap}
/-! ### steps of the walk: one_sign: a heap grew into another; one_item: what stands at an address; one_place: a list or tuple to be read; leaf_len: arithmetic; tb_rel: one step; top_name: steps as far as they go -/
local macro_rules | `(tactic| got_up) => `(tactic| (refine Evl.Ex.trans (by assumption) ?_; first | assumption | exact Evl.Ex.refl _ | got_up))
local macro_rules | `(tactic| units_room) => `(tactic| (refine Evl.Ex.trans ?_ (by assumption); first | assumption | exact Evl.Ex.refl _ | units_room))
local macro_rules | `(tactic| one_sign) => `(tactic| first | assumption | exact Evl.Ex.refl _ | got_up | units_room)
local macro_rules | `(tactic| one_item) => `(tactic| first | assumption | exact upd_same | exact exa (by assumption) (by one_sign))
local macro_rules | `(tactic| one_place) => `(tactic| first | assumption | exact SqL.of (by assumption) | exact SqT.of (by assumption) | exact exl (by assumption) (by one_sign) | exact ext (by assumption) (by one_sign) | exact SqL.of (by one_item) | exact SqT.of (by one_item))
local macro_rules | `(tactic| leaf_len) => `(tactic| first | assumption | decide | omega)
local macro_rules | `(tactic| tb_rel) => `(tactic| first
  | ((with_reducible refine (?_ : wE _ _ _ _ _)); first
    | ((with_reducible refine (?_ : wE _ (.Name _ _) _ _ _)); first | refine zn (by rfl) (by first | exact Or.inl rfl | exact Or.inr (Or.inl rfl) | exact Or.inr (Or.inr rfl)) (by rfl) ?_ | refine zglob (by assumption) (by rfl) ?_ | refine zcls (by assumption) (by rfl) ?_ | refine zty (by assumption) (by first | exact bt_int | exact bt_bool | exact bt_str | exact bt_list | exact bt_tuple | exact bt_dict | exact bt_ValueError) (by rfl) ?_)
    | ((with_reducible refine (?_ : wE _ (.Attribute _ _ _) _ _ _)); refine zfld ?_)
    | ((with_reducible refine (?_ : wE _ (.Constant _ _ _) _ _ _)); first | refine zint ?_ | refine zstr ?_ | refine zbl ?_ | refine znon ?_)
    | ((with_reducible refine (?_ : wE _ (.BinOp _ _ _ _) _ _ _)); refine zbin ?_)
    | ((with_reducible refine (?_ : wE _ (.Compare _ _ _ _) _ _ _)); first | refine zcmp (by rfl) ?_ | refine zchain ?_)
    | ((with_reducible refine (?_ : wE _ (.Dict [] [] _) _ _ _)); refine zdnew (fun _ _ _ _ _ => ?_))
    | ((with_reducible refine (?_ : wE _ (.Subscript _ (.Slice _ _ _ _) _) _ _ _)); refine zsl ?_)
    | ((with_reducible refine (?_ : wE _ (.Subscript _ _ _) _ _ _)); refine zix ?_)
    | ((with_reducible refine (?_ : wE _ (.Call (.Name "list" _) [.Call (.Name "range" _) [_] [] _] [] _) _ _ _)); refine zlrg1 rfl (by rfl) (by assumption) (by rfl) (by assumption) ?_)
    | ((with_reducible refine (?_ : wE _ (.Call (.Name _ _) _ _ _) _ _ _)); first
      | ((with_reducible refine (?_ : wE _ (.Call (.Name "len" _) _ _ _) _ _ _)); refine zbfn (by assumption) bt_len (by rfl) ?_)
      | ((with_reducible refine (?_ : wE _ (.Call (.Name "isinstance" _) _ _ _) _ _ _)); refine zbfn (by assumption) bt_isi (by rfl) ?_)
      | ((with_reducible refine (?_ : wE _ (.Call (.Name "min" _) _ _ _) _ _ _)); refine zbfn (by assumption) bt_min (by rfl) ?_)
      | ((with_reducible refine (?_ : wE _ (.Call (.Name "max" _) _ _ _) _ _ _)); refine zbfn (by assumption) bt_max (by rfl) ?_)
      | ((with_reducible refine (?_ : wE _ (.Call (.Name "list" _) _ _ _) _ _ _)); refine zbty (by assumption) bt_list (by rfl) ?_)
      | ((with_reducible refine (?_ : wE _ (.Call (.Name "tuple" _) _ _ _) _ _ _)); refine zbty (by assumption) bt_tuple (by rfl) ?_)
      | ((with_reducible refine (?_ : wE _ (.Call (.Name "int" _) _ _ _) _ _ _)); refine zbty (by assumption) bt_int (by rfl) ?_)
      | ((with_reducible refine (?_ : wE _ (.Call (.Name "abs" _) _ _ _) _ _ _)); refine zbfn (by assumption) bt_abs (by rfl) ?_)
      | ((with_reducible refine (?_ : wE _ (.Call (.Name "all" _) _ _ _) _ _ _)); refine zbfn (by assumption) bt_all (by rfl) ?_)
      | ((with_reducible refine (?_ : wE _ (.Call (.Name "sum" _) _ _ _) _ _ _)); refine zbfn (by assumption) bt_sum (by rfl) ?_)
      | ((with_reducible refine (?_ : wE _ (.Call (.Name "divmod" _) _ _ _) _ _ _)); refine zbfn (by assumption) bt_divmod (by rfl) ?_)
      | ((with_reducible refine (?_ : wE _ (.Call (.Name "ord" _) _ _ _) _ _ _)); refine zbfn (by assumption) bt_ord (by rfl) ?_))
    | ((with_reducible refine (?_ : wE _ (.IfExp _ _ _ _) _ _ _)); refine zif ?_)
    | ((with_reducible refine (?_ : wE _ (.Tuple _ _ _) _ _ _)); refine ztup ?_)
    | ((with_reducible refine (?_ : wE _ (.List _ _) _ _ _)); refine zlst ?_)
    | ((with_reducible refine (?_ : wE _ (.UnaryOp _ _ _) _ _ _)); first | refine znotV ?_ | refine zneg ?_)
    | ((with_reducible refine (?_ : wE _ (.BoolOp _ _ _) _ _ _)); first | refine zandV ?_ | refine zorV ?_ | refine zoneV ?_))
  | ((with_reducible refine (?_ : bE _ _ _ _ _ _)); refine ⟨fun _ _ _ _ _ => ?_⟩) | ((with_reducible refine (?_ : bG _ _ _ _ _ _ _)); refine ⟨fun _ _ _ _ _ => ?_⟩) | ((with_reducible refine (?_ : bTs _ _ _ _ _ _)); refine ⟨fun _ _ _ _ _ => ?_⟩)
  | ((with_reducible refine (?_ : hE _ _ _ _ _ _)); refine ⟨fun _ _ _ _ _ => ?_⟩) | ((with_reducible refine (?_ : hG _ _ _ _ _ _ _)); refine ⟨fun _ _ _ _ _ => ?_⟩) | ((with_reducible refine (?_ : hTs _ _ _ _ _ _)); refine ⟨fun _ _ _ _ _ => ?_⟩)
  | ((with_reducible refine (?_ : wP _ _ _ _ _)); first | refine pnon ?_ | refine psom ?_) | ((with_reducible refine (?_ : wSl _ _ _ _ _ _)); first | refine slL (by one_place) (fun _ _ _ _ _ => ?_) | refine slS (by assumption) ?_)
  | ((with_reducible refine (?_ : wTs _ _ _ _ _)); first | refine tsnil ?_ | refine tsone ?_)
  | ((with_reducible refine (?_ : wA _ _ _ _ _)); first | refine acons ?_ | refine anil ?_)
  | ((with_reducible refine (?_ : wO _ _ _ _ _ _)); first
    | ((with_reducible refine (?_ : wO _ (binaryOp .Add) _ _ _ _)); first | refine oadd ?_ | refine ocatE (by one_item) (by one_item) (Nat.le_of_ble_eq_true rfl) (fun _ _ _ _ _ => ?_))
    | ((with_reducible refine (?_ : wO _ (binaryOp .Sub) _ _ _ _)); first | refine osub ?_)
    | ((with_reducible refine (?_ : wO _ (binaryOp .Mult) _ _ _ _)); first | refine omul (by first | exact IntMulOk.of_right (by decide) | exact IntMulOk.of_left (by decide) | exact IntMulOk.of_right (intBits_le_64 (by omega) (by omega)) | exact IntMulOk.of_left (intBits_le_64 (by omega) (by omega))) ?_)
    | ((with_reducible refine (?_ : wO _ (binaryOp .Mod) _ _ _ _)); first | refine omod (by first | decide | omega) ?_)
    | ((with_reducible refine (?_ : wO _ (binaryOp .FloorDiv) _ _ _ _)); first | refine ofdiv ⟨by first | decide | omega, by decide⟩ ?_)
    | ((with_reducible refine (?_ : wO _ (binaryOp .BitAnd) _ _ _ _)); first | refine oand ?_)
    | ((with_reducible refine (?_ : wO _ (binaryOp .BitOr) _ _ _ _)); first | refine oor ?_)
    | ((with_reducible refine (?_ : wO _ (compareOp .Lt) _ _ _ _)); first | refine olt ?_)
    | ((with_reducible refine (?_ : wO _ (compareOp .LtE) _ _ _ _)); first | refine ole ?_)
    | ((with_reducible refine (?_ : wO _ (compareOp .Gt) _ _ _ _)); first | refine ogt ?_)
    | ((with_reducible refine (?_ : wO _ (compareOp .GtE) _ _ _ _)); first | refine oge ?_)
    | ((with_reducible refine (?_ : wO _ (compareOp .Eq) _ _ _ _)); first | refine oeqi ?_ | refine oeqsT (by decide +kernel) ?_ | refine oeqsF (by decide +kernel) ?_ | refine oeq (by rfl) ?_)
    | ((with_reducible refine (?_ : wO _ (compareOp .NotEq) _ _ _ _)); first | refine onei ?_ | refine onesT (by decide +kernel) ?_ | refine onesF (by decide +kernel) ?_ | refine one (by rfl) ?_)
    | ((with_reducible refine (?_ : wO _ (compareOp .In) _ _ _ _)); first | refine oin ?_)
    | ((with_reducible refine (?_ : wO _ (compareOp .NotIn) _ _ _ _)); first | refine onin ?_)
    | ((with_reducible refine (?_ : wO _ (compareOp .Is) _ _ _ _)); first | refine ois ?_)
    | ((with_reducible refine (?_ : wO _ (compareOp .IsNot) _ _ _ _)); first | refine onot ?_)
    | ((with_reducible refine (?_ : wO _ (binaryOp .RShift) _ _ _ _)); refine oshr (by first | decide | omega) ?_)
    | ((with_reducible refine (?_ : wO _ (binaryOp .BitXor) _ _ _ _)); refine oxor ?_)
    | ((with_reducible refine (?_ : wO _ (inplaceOp .BitXor) _ _ _ _)); refine ixor ?_)
    | ((with_reducible refine (?_ : wO _ (inplaceOp .RShift) _ _ _ _)); refine ishr (by first | decide | omega) ?_)
    | ((with_reducible refine (?_ : wO _ (inplaceOp .BitOr) _ _ _ _)); first | refine ior ?_)
    | ((with_reducible refine (?_ : wO _ (inplaceOp .Add) _ _ _ _)); first | refine iadd ?_))
  | ((with_reducible refine (?_ : wT _ _ _ _ _)); first
    | ((with_reducible refine (?_ : wT _ (.Compare _ _ _ _) _ _ _)); first | refine zcmpT (by rfl) ?_ | refine zchainT ?_)
    | ((with_reducible refine (?_ : wT _ (.UnaryOp _ _ _) _ _ _)); refine znotT ?_)
    | ((with_reducible refine (?_ : wT _ (.BoolOp _ _ _) _ _ _)); refine zW ?_)
    | refine zval ?_)
  | ((with_reducible refine (?_ : wW _ _ _ _ _)); first | refine zand ?_ | refine zor ?_ | refine zand1 ?_ | refine zor1 ?_)
  | ((with_reducible refine (?_ : wK _ _ _ _ _)); first
    | ((with_reducible refine (?_ : wK _ (.builtin "len") _ _ _)); first | refine klenL (by one_place) ?_ | refine klenT (by one_place) ?_ | refine klenS (by assumption) ?_)
    | ((with_reducible refine (?_ : wK _ (.builtin "isinstance") _ _ _)); first | refine kisE (by assumption) (by assumption) (by first | assumption | exact Xd.exx (by assumption) (by one_sign)) (by first | exact .own _ | exact .ty _) (by assumption) ?_ | refine kisi (.ty _) (by assumption) (by assumption) ?_ | refine kisi (.ty _) (.base (by first | exact .int _ | exact .bl _ | exact .str _ | exact .non | exact .tup (by one_item) | exact .lst (by one_item))) (kit_ty (r := true) (by rfl)) ?_ | refine kisi (.ty _) (.base (by first | exact .int _ | exact .bl _ | exact .str _ | exact .non | exact .tup (by one_item) | exact .lst (by one_item))) (kit_ty (r := false) (by rfl)) ?_)
    | ((with_reducible refine (?_ : wK _ (.builtin "divmod") _ _ _)); refine kdivmod ⟨by first | decide | omega, by decide⟩ (fun _ _ _ _ _ => ?_))
    | ((with_reducible refine (?_ : wK _ (.builtin "min") _ _ _)); refine kmin (by rfl) ?_)
    | ((with_reducible refine (?_ : wK _ (.builtin "max") _ _ _)); refine kmax (by rfl) ?_)
    | ((with_reducible refine (?_ : wK _ (.type "list") _ _ _)); first | refine klistL (by one_place) (fun _ _ _ _ _ => ?_) | refine klistT (by one_place) (fun _ _ _ _ _ => ?_))
    | ((with_reducible refine (?_ : wK _ (.type "tuple") _ _ _)); first | refine ktupL (by one_place) (fun _ _ _ _ _ => ?_)))
  | ((with_reducible refine (?_ : wS _ _ _ _ _)); first
    | ((with_reducible refine (?_ : wS _ (.Assign [.Name _ _] _ _) _ _ _)); refine sset' (by assumption) (by rfl) (by first | exact Or.inl rfl | exact Or.inr rfl) (by rfl) (by first | exact .inl rfl | exact .inr rfl) ?_)
    | ((with_reducible refine (?_ : wS _ (.AugAssign (.Name _ _) _ _ _) _ _ _)); refine saug' (by assumption) (by rfl) (by first | exact Or.inl rfl | exact Or.inr rfl) (by first | exact .inl rfl | exact .inr rfl) (by rfl) ?_)
    | ((with_reducible refine (?_ : wS _ (.Assign [.Attribute _ _ _] _ _) _ _ _)); refine sfld ?_)
    | ((with_reducible refine (?_ : wS _ (.Expr _ _) _ _ _)); refine sexp ?_)
    | ((with_reducible refine (?_ : wS _ (.Assign [.Tuple _ _ _] _ _) _ _ _)); refine sasg ?_) | ((with_reducible refine (?_ : wS _ (.Assign [.Subscript _ _ _] _ _) _ _ _)); refine sasg ?_)
    | refine sret ?_ | refine sif ?_ | refine sretN ?_ | refine spass ?_ | refine sbrk ?_ | refine scont ?_)
  | ((with_reducible refine (?_ : wG _ (.Name _ _) _ _ _ _)); refine gname' (by assumption) (by rfl) (by first | exact Or.inl rfl | exact Or.inr rfl) (by first | exact .inl rfl | exact .inr rfl) ?_)
  | ((with_reducible refine (?_ : wG _ (.Tuple _ _ _) _ _ _ _)); refine gtup rfl (by one_place) rfl ?_) | ((with_reducible refine (?_ : wG _ (.Subscript _ _ _) _ _ _ _)); refine gsub ?_)
  | ((with_reducible refine (?_ : wGs _ _ _ _ _ _)); first | refine gscons ?_ | refine gsnil ?_)
  | ((with_reducible refine (?_ : wB _ _ _ _ _)); first | refine bcons ?_ | refine bnil ?_)
  | refine ifT ?_ | refine ifF ?_ | refine ifd (fun _ => ?_) (fun _ => ?_) | refine ifnd (fun _ => ?_) (fun _ => ?_) | refine ⟨_, rfl, ?_⟩ | refine ⟨rfl, Evl.Ex.refl _, ?_⟩ | refine ⟨_, _, _, _, _, rfl, by one_item, by assumption, by assumption, by rfl, ?_⟩ | refine ⟨Nat.le_of_ble_eq_true rfl, fun _ _ _ _ _ => ?_⟩ | fail)
local macro_rules | `(tactic| top_name) => `(tactic| repeat' tb_rel)
local macro_rules | `(tactic| nest_fact) => `(tactic| first | exact ⟨(decide_eq_true (by omega)).symm, rfl⟩ | exact ⟨(decide_eq_false (by omega)).symm, rfl⟩ | exact ⟨decide_eq_decide.mpr (by omega), rfl⟩ | fail)
/-! ### kinds made -/
def spIni (C : Addr) (f : Str) : Sp := fun vs H Q _ => ∃ (a dx : Addr) (y : V), vs = [.ref a, y] ∧ H a = some (.ins C dx []) ∧ Q .non (upd H a (.ins C dx [(f, y)]))
theorem fi_Upto (T : Txt K mg) {fd : FuncData} (F : FunD K "__init__" "Upto.__init__" (defArgs s_Upto_init) (defBody s_Upto_init) (defScope s_Upto_init) [] [] (He.fAd K ("Upto", some "__init__")) fd) : FnOk P w K mg base (L2N.CX P w) 1 (He.fAd K ("Upto", some "__init__")) fd ["self", "most"] (spIni (He.ga K "Upto") "most") := by
  refine fn_mk F sc_Upto_init (fun vs H Q E h => ?_) fun cd A outer s H vs Q E hr tk po h => ?_
  · obtain ⟨a, dx, y, rfl, _⟩ := h; rfl
  · obtain ⟨a, dx, y, rfl, hx, q⟩ := h
    top_name
    exact ⟨a, _, dx, [], rfl, hx, T.c_Upto.cl, T.a_Upto_most, by decide, bnil q⟩
theorem fi_Text (T : Txt K mg) {fd : FuncData} {dvs : List V} (F : FunD K "__init__" "Text.__init__" (defArgs s_Text_init) (defBody s_Text_init) (defScope s_Text_init) dvs [] (He.fAd K ("Text", some "__init__")) fd) : FnOk P w K mg base (L2N.CX P w) 1 (He.fAd K ("Text", some "__init__")) fd ["self", "most"] (spIni (He.ga K "Text") "most") := by
  refine fn_mk F sc_Text_init (fun vs H Q E h => ?_) fun cd A outer s H vs Q E hr tk po h => ?_
  · obtain ⟨a, dx, y, rfl, _⟩ := h; rfl
  · obtain ⟨a, dx, y, rfl, hx, q⟩ := h
    top_name
    exact ⟨a, _, dx, [], rfl, hx, T.c_Text.cl, T.a_Text_most, by decide, bnil q⟩
theorem fi_List (T : Txt K mg) {fd : FuncData} (F : FunD K "__init__" "List.__init__" (defArgs s_List_init) (defBody s_List_init) (defScope s_List_init) [] [] (He.fAd K ("List", some "__init__")) fd) : FnOk P w K mg base (L2N.CX P w) 1 (He.fAd K ("List", some "__init__")) fd ["self", "item"] (spIni (He.ga K "List") "item") := by
  refine fn_mk F sc_List_init (fun vs H Q E h => ?_) fun cd A outer s H vs Q E hr tk po h => ?_
  · obtain ⟨a, dx, y, rfl, _⟩ := h; rfl
  · obtain ⟨a, dx, y, rfl, hx, q⟩ := h
    top_name
    exact ⟨a, _, dx, [], rfl, hx, T.c_List.cl, T.a_List_item, by decide, bnil q⟩
theorem fi_Nested (T : Txt K mg) {fd : FuncData} (F : FunD K "__init__" "Nested.__init__" (defArgs s_Nested_init) (defBody s_Nested_init) (defScope s_Nested_init) [] [] (He.fAd K ("Nested", some "__init__")) fd) : FnOk P w K mg base (L2N.CX P w) 1 (He.fAd K ("Nested", some "__init__")) fd ["self", "name"] (spIni (He.ga K "Nested") "name") := by
  refine fn_mk F sc_Nested_init (fun vs H Q E h => ?_) fun cd A outer s H vs Q E hr tk po h => ?_
  · obtain ⟨a, dx, y, rfl, _⟩ := h; rfl
  · obtain ⟨a, dx, y, rfl, hx, q⟩ := h
    top_name
    exact ⟨a, _, dx, [], rfl, hx, T.c_Nested.cl, T.a_Nested_name, by decide, bnil q⟩
theorem nf_Upto (T : Txt K mg) : Nf P w K mg base 1 "Upto" (He.ga K "Upto") [] (spIni (He.ga K "Upto") "most") := nf_mk T.f_Upto_init T.m_Upto T.mk_Upto (fun _ _ _ _ _ _ us hl => match us, hl with | [_, _], _ => rfl) fun fd F => fi_Upto T F
theorem nf_List (T : Txt K mg) : Nf P w K mg base 1 "List" (He.ga K "List") [] (spIni (He.ga K "List") "item") := nf_mk T.f_List_init T.m_List T.mk_List (fun _ _ _ _ _ _ us hl => match us, hl with | [_, _], _ => rfl) fun fd F => fi_List T F
theorem nf_Nested (T : Txt K mg) : Nf P w K mg base 1 "Nested" (He.ga K "Nested") [] (spIni (He.ga K "Nested") "name") := nf_mk T.f_Nested_init T.m_Nested T.mk_Nested (fun _ _ _ _ _ _ us hl => match us, hl with | [_, _], _ => rfl) fun fd F => fi_Nested T F
theorem nf_Text (T : Txt K mg) : Nf P w K mg base 1 "Text" (He.ga K "Text") [] (spIni (He.ga K "Text") "most") := by
  obtain ⟨fd, F⟩ := T.f_Text_init
  obtain ⟨ds, hv, hb⟩ := F.binds1 (ps := ["self", "most"]) 2 1 (by simp) rfl fun T' kV doc pm an cdv ct us its h1 h2 => match us, h1, its, h2 with
    | [_, _], _, [_], _ => ⟨_, rfl, rfl⟩
  exact ⟨_, fd, _, ds, T.m_Text, T.mk_Text, hb, hv, fi_Text T F⟩
theorem nf_Text0 (T : Txt K mg) : Nf P w K mg base 1 "Text" (He.ga K "Text") [.int 100] (spIni (He.ga K "Text") "most") := by
  obtain ⟨fd, F⟩ := T.f_Text_init
  obtain ⟨ds, hv, hb⟩ := F.binds1 (ps := ["self", "most"]) 1 0 (by simp) rfl fun T' kV doc pm an cdv ct us its h1 h2 => match us, h1, its, h2 with
    | [_], _, [_], _ => ⟨_, rfl, rfl⟩
  exact ⟨_, fd, _, ds, T.m_Text, T.mk_Text, hb, hv, fi_Text T F⟩
/-- an instance made with one thing -/
theorem ini_to {C : Addr} {f : Str} {H : Hp} {a dx : Addr} {y : V} {Q : VK} {E : XK} (ha : H a = none) (hd : H dx = none) (q : ∀ H2, Ex H H2 → H2 a = some (.ins C dx [(f, y)]) → Q (.ref a) H2) :
    spIni C f [.ref a, y] (upd (upd H dx (.own a)) a (.ins C dx [])) (fun v H2 => v = .non ∧ Q (.ref a) H2) E :=
  ⟨a, dx, y, rfl, upd_same, rfl, q _ (fun b o e => by
    have n1 : b ≠ a := fun z => by rw [z, ha] at e; cases e
    have n2 : b ≠ dx := fun z => by rw [z, hd] at e; cases e
    rw [upd_ne n1, upd_ne n1, upd_ne n2]; exact e) upd_same⟩
/-! ### kinds as the law has them -/
inductive LK (H : Hp) : V → KD → Prop
  | truth {t : Addr} (h : H t = some (.tup [.str "truth"])) : LK H (.ref t) .truth
  | count {t : Addr} (h : H t = some (.tup [.str "count"])) : LK H (.ref t) .count
  | whole {t : Addr} (h : H t = some (.tup [.str "whole"])) : LK H (.ref t) .whole
  | upto {t : Addr} {n : Int} (h : H t = some (.tup [.str "upto", .int n])) : LK H (.ref t) (.upto n)
  | text {t : Addr} {n : Int} (h : H t = some (.tup [.str "text", .int n])) : LK H (.ref t) (.text n)
  | form {t : Addr} {s : Str} (h : H t = some (.tup [.str "form", .str s])) : LK H (.ref t) (.form s)
  | list {t : Addr} {v : V} {k : KD} (h : H t = some (.tup [.str "list", v])) (i : LK H v k) : LK H (.ref t) (.list k)
theorem LK.ex {H H' : Hp} (e : Ex H H') : ∀ {v : V} {k : KD}, LK H v k → LK H' v k
  | _, _, .truth h => .truth (e _ _ h)
  | _, _, .count h => .count (e _ _ h)
  | _, _, .whole h => .whole (e _ _ h)
  | _, _, .upto h => .upto (e _ _ h)
  | _, _, .text h => .text (e _ _ h)
  | _, _, .form h => .form (e _ _ h)
  | _, _, .list h i => .list (e _ _ h) (i.ex e)
def spMade (K : PySem.W.Frag) (k : KD) : Sp := fun vs H Q _ => ∃ v : V, vs = [v] ∧ LK H v k ∧ ∀ a H', H a = none → KI K (nw H H') (.ref a) k → Ex H H' → Q (.ref a) H'
local macro_rules | `(tactic| nest_fact) => `(tactic| (refine ixT (SqT.of (by assumption)) rfl ?_; top_name))
theorem ok_made (T : Txt K mg) : ∀ k : KD, Gf P w K mg base (3 + k.dep) "_law_made_of" [] (spMade K k) := by
  intro k
  induction k with
  | list k ih =>
    refine gf_mk T.f__law_made_of T.m__law_made_of (fun _ _ _ _ _ _ us hl => match us, hl with | [_], _ => rfl) fun fd F => fn_mk (k := 3 + k.dep) F sc__law_made_of (fun vs H Q E h => ?_) fun cd A outer s H vs Q E hr tk po h => ?_
    · obtain ⟨v, rfl, _⟩ := h; rfl
    · obtain ⟨v, rfl, hk, q⟩ := h
      cases hk with
      | list hx hi =>
        top_name
        nest_fact
        refine zmk (nf_List T) hr (by omega) tk rfl ?_
        top_name
        refine zcall ih hr (Nat.le_refl _) takesF rfl ?_
        top_name
        refine ixT (SqT.of (by assumption)) rfl ?_
        top_name
        refine ⟨hi, fun b H1 hb0 hb e1 => ?_⟩
        top_name
        intro a dx ha hd hne
        exact ini_to ha hd fun H2 e2 hx2 => q a H2 (Evl.fresh_back e1 ha) (.list (nw_at (Evl.fresh_back e1 ha) hx2) (hb.ex (nw_mono e2))) (e1.trans e2)
  | form s' =>
    refine gf_mk T.f__law_made_of T.m__law_made_of (fun _ _ _ _ _ _ us hl => match us, hl with | [_], _ => rfl) fun fd F => fn_mk (k := 2) F sc__law_made_of (fun vs H Q E h => ?_) fun cd A outer s H vs Q E hr tk po h => ?_
    · obtain ⟨v, rfl, _⟩ := h; rfl
    · obtain ⟨v, rfl, hk, q⟩ := h
      cases hk with
      | form hx =>
        top_name
        nest_fact
        nest_fact
        refine zmk (nf_Nested T) hr (by decide) tk rfl ?_
        top_name
        refine ixT (SqT.of (by assumption)) rfl ?_
        top_name
        intro a dx ha hd hne
        exact ini_to ha hd fun H2 e2 hx2 => q a H2 ha (.form (nw_at ha hx2)) e2
  | upto n =>
    refine gf_mk T.f__law_made_of T.m__law_made_of (fun _ _ _ _ _ _ us hl => match us, hl with | [_], _ => rfl) fun fd F => fn_mk (k := 2) F sc__law_made_of (fun vs H Q E h => ?_) fun cd A outer s H vs Q E hr tk po h => ?_
    · obtain ⟨v, rfl, _⟩ := h; rfl
    · obtain ⟨v, rfl, hk, q⟩ := h
      cases hk with
      | upto hx =>
        top_name
        nest_fact
        nest_fact
        nest_fact
        refine zmk (nf_Upto T) hr (by decide) tk rfl ?_
        top_name
        refine ixT (SqT.of (by assumption)) rfl ?_
        top_name
        intro a dx ha hd hne
        exact ini_to ha hd fun H2 e2 hx2 => q a H2 ha (.upto (nw_at ha hx2)) e2
  | text n =>
    refine gf_mk T.f__law_made_of T.m__law_made_of (fun _ _ _ _ _ _ us hl => match us, hl with | [_], _ => rfl) fun fd F => fn_mk (k := 2) F sc__law_made_of (fun vs H Q E h => ?_) fun cd A outer s H vs Q E hr tk po h => ?_
    · obtain ⟨v, rfl, _⟩ := h; rfl
    · obtain ⟨v, rfl, hk, q⟩ := h
      cases hk with
      | text hx =>
        top_name
        nest_fact
        nest_fact
        nest_fact
        nest_fact
        refine ixT (SqT.of (by assumption)) rfl ?_
        top_name
        · rename_i h100
          refine zmk0 (nf_Text0 T) hr (by decide) tk rfl ?_
          intro a dx ha hd hne
          exact ini_to ha hd fun H2 e2 hx2 => q a H2 ha (by rw [h100]; exact .text (nw_at ha hx2)) e2
        · refine zmk (nf_Text T) hr (by decide) tk rfl ?_
          top_name
          refine ixT (SqT.of (by assumption)) rfl ?_
          top_name
          intro a dx ha hd hne
          exact ini_to ha hd fun H2 e2 hx2 => q a H2 ha (.text (nw_at ha hx2)) e2
  | truth =>
    refine gf_mk T.f__law_made_of T.m__law_made_of (fun _ _ _ _ _ _ us hl => match us, hl with | [_], _ => rfl) fun fd F => fn_mk (k := 2) F sc__law_made_of (fun vs H Q E h => ?_) fun cd A outer s H vs Q E hr tk po h => ?_
    · obtain ⟨v, rfl, _⟩ := h; rfl
    · obtain ⟨v, rfl, hk, q⟩ := h
      cases hk with
      | truth hx =>
        top_name
        nest_fact
        nest_fact
        nest_fact
        nest_fact
        nest_fact
        exact zmkP T.mk_Truth T.c_Truth.hm T.m_Truth rfl fun a dx H2 ha e2 hx2 => q a H2 ha (.truth (nw_at ha hx2)) e2
  | count =>
    refine gf_mk T.f__law_made_of T.m__law_made_of (fun _ _ _ _ _ _ us hl => match us, hl with | [_], _ => rfl) fun fd F => fn_mk (k := 2) F sc__law_made_of (fun vs H Q E h => ?_) fun cd A outer s H vs Q E hr tk po h => ?_
    · obtain ⟨v, rfl, _⟩ := h; rfl
    · obtain ⟨v, rfl, hk, q⟩ := h
      cases hk with
      | count hx =>
        top_name
        nest_fact
        nest_fact
        nest_fact
        nest_fact
        nest_fact
        nest_fact
        exact zmkP T.mk_Count T.c_Count.hm T.m_Count rfl fun a dx H2 ha e2 hx2 => q a H2 ha (.count (nw_at ha hx2)) e2
  | whole =>
    refine gf_mk T.f__law_made_of T.m__law_made_of (fun _ _ _ _ _ _ us hl => match us, hl with | [_], _ => rfl) fun fd F => fn_mk (k := 2) F sc__law_made_of (fun vs H Q E h => ?_) fun cd A outer s H vs Q E hr tk po h => ?_
    · obtain ⟨v, rfl, _⟩ := h; rfl
    · obtain ⟨v, rfl, hk, q⟩ := h
      cases hk with
      | whole hx =>
        top_name
        nest_fact
        nest_fact
        nest_fact
        nest_fact
        nest_fact
        nest_fact
        exact zmkP T.mk_Whole T.c_Whole.hm T.m_Whole rfl fun a dx H2 ha e2 hx2 => q a H2 ha (.whole (nw_at ha hx2)) e2
end K07

set_option maxRecDepth 100000
set_option maxHeartbeats 4000000
set_option pp.maxSteps 1500
namespace K07
open PySem PySem.Spec PyProof.Rows L2 Z
open Evl (Ex)
variable {P : Program} {w : World} {K : PySem.W.Frag} {mg : Str → Option Value} {base : Heap}
/-! ### steps of the walk: one_sign: a heap grew into another; one_item: what stands at an address; one_place: a list or tuple to be read; leaf_len: arithmetic; tb_rel: one step; top_name: steps as far as they go -/
local macro_rules | `(tactic| got_up) => `(tactic| (refine Evl.Ex.trans (by assumption) ?_; first | assumption | exact Evl.Ex.refl _ | got_up))
local macro_rules | `(tactic| units_room) => `(tactic| (refine Evl.Ex.trans ?_ (by assumption); first | assumption | exact Evl.Ex.refl _ | units_room))
local macro_rules | `(tactic| one_sign) => `(tactic| first | assumption | exact Evl.Ex.refl _ | got_up | units_room)
local macro_rules | `(tactic| one_item) => `(tactic| first | assumption | exact upd_same | exact exa (by assumption) (by one_sign))
local macro_rules | `(tactic| one_place) => `(tactic| first | assumption | exact SqL.of (by assumption) | exact SqT.of (by assumption) | exact exl (by assumption) (by one_sign) | exact ext (by assumption) (by one_sign) | exact SqL.of (by one_item) | exact SqT.of (by one_item))
local macro_rules | `(tactic| leaf_len) => `(tactic| first | assumption | decide | omega)
local macro_rules | `(tactic| tb_rel) => `(tactic| first
  | ((with_reducible refine (?_ : wE _ _ _ _ _)); first
    | ((with_reducible refine (?_ : wE _ (.Name _ _) _ _ _)); first | refine zn (by rfl) (by first | exact Or.inl rfl | exact Or.inr (Or.inl rfl) | exact Or.inr (Or.inr rfl)) (by rfl) ?_ | refine zglob (by assumption) (by rfl) ?_ | refine zcls (by assumption) (by rfl) ?_ | refine zty (by assumption) (by first | exact bt_int | exact bt_bool | exact bt_str | exact bt_list | exact bt_tuple | exact bt_dict | exact bt_ValueError) (by rfl) ?_)
    | ((with_reducible refine (?_ : wE _ (.Attribute _ _ _) _ _ _)); refine zfld ?_)
    | ((with_reducible refine (?_ : wE _ (.Constant _ _ _) _ _ _)); first | refine zint ?_ | refine zstr ?_ | refine zbl ?_ | refine znon ?_)
    | ((with_reducible refine (?_ : wE _ (.BinOp _ _ _ _) _ _ _)); refine zbin ?_)
    | ((with_reducible refine (?_ : wE _ (.Compare _ _ _ _) _ _ _)); first | refine zcmp (by rfl) ?_ | refine zchain ?_)
    | ((with_reducible refine (?_ : wE _ (.Dict [] [] _) _ _ _)); refine zdnew (fun _ _ _ _ _ => ?_))
    | ((with_reducible refine (?_ : wE _ (.Subscript _ (.Slice _ _ _ _) _) _ _ _)); refine zsl ?_)
    | ((with_reducible refine (?_ : wE _ (.Subscript _ _ _) _ _ _)); refine zix ?_)
    | ((with_reducible refine (?_ : wE _ (.Call (.Name "list" _) [.Call (.Name "range" _) [_] [] _] [] _) _ _ _)); refine zlrg1 rfl (by rfl) (by assumption) (by rfl) (by assumption) ?_)
    | ((with_reducible refine (?_ : wE _ (.Call (.Name _ _) _ _ _) _ _ _)); first
      | ((with_reducible refine (?_ : wE _ (.Call (.Name "len" _) _ _ _) _ _ _)); refine zbfn (by assumption) bt_len (by rfl) ?_)
      | ((with_reducible refine (?_ : wE _ (.Call (.Name "isinstance" _) _ _ _) _ _ _)); refine zbfn (by assumption) bt_isi (by rfl) ?_)
      | ((with_reducible refine (?_ : wE _ (.Call (.Name "min" _) _ _ _) _ _ _)); refine zbfn (by assumption) bt_min (by rfl) ?_)
      | ((with_reducible refine (?_ : wE _ (.Call (.Name "max" _) _ _ _) _ _ _)); refine zbfn (by assumption) bt_max (by rfl) ?_)
      | ((with_reducible refine (?_ : wE _ (.Call (.Name "list" _) _ _ _) _ _ _)); refine zbty (by assumption) bt_list (by rfl) ?_)
      | ((with_reducible refine (?_ : wE _ (.Call (.Name "tuple" _) _ _ _) _ _ _)); refine zbty (by assumption) bt_tuple (by rfl) ?_)
      | ((with_reducible refine (?_ : wE _ (.Call (.Name "int" _) _ _ _) _ _ _)); refine zbty (by assumption) bt_int (by rfl) ?_)
      | ((with_reducible refine (?_ : wE _ (.Call (.Name "abs" _) _ _ _) _ _ _)); refine zbfn (by assumption) bt_abs (by rfl) ?_)
      | ((with_reducible refine (?_ : wE _ (.Call (.Name "all" _) _ _ _) _ _ _)); refine zbfn (by assumption) bt_all (by rfl) ?_)
      | ((with_reducible refine (?_ : wE _ (.Call (.Name "sum" _) _ _ _) _ _ _)); refine zbfn (by assumption) bt_sum (by rfl) ?_)
      | ((with_reducible refine (?_ : wE _ (.Call (.Name "divmod" _) _ _ _) _ _ _)); refine zbfn (by assumption) bt_divmod (by rfl) ?_)
      | ((with_reducible refine (?_ : wE _ (.Call (.Name "ord" _) _ _ _) _ _ _)); refine zbfn (by assumption) bt_ord (by rfl) ?_))
    | ((with_reducible refine (?_ : wE _ (.IfExp _ _ _ _) _ _ _)); refine zif ?_)
    | ((with_reducible refine (?_ : wE _ (.Tuple _ _ _) _ _ _)); refine ztup ?_)
    | ((with_reducible refine (?_ : wE _ (.List _ _) _ _ _)); refine zlst ?_)
    | ((with_reducible refine (?_ : wE _ (.UnaryOp _ _ _) _ _ _)); first | refine znotV ?_ | refine zneg ?_)
    | ((with_reducible refine (?_ : wE _ (.BoolOp _ _ _) _ _ _)); first | refine zandV ?_ | refine zorV ?_ | refine zoneV ?_))
  | ((with_reducible refine (?_ : bE _ _ _ _ _ _)); refine ⟨fun _ _ _ _ _ => ?_⟩) | ((with_reducible refine (?_ : bG _ _ _ _ _ _ _)); refine ⟨fun _ _ _ _ _ => ?_⟩) | ((with_reducible refine (?_ : bTs _ _ _ _ _ _)); refine ⟨fun _ _ _ _ _ => ?_⟩)
  | ((with_reducible refine (?_ : hE _ _ _ _ _ _)); refine ⟨fun _ _ _ _ _ => ?_⟩) | ((with_reducible refine (?_ : hG _ _ _ _ _ _ _)); refine ⟨fun _ _ _ _ _ => ?_⟩) | ((with_reducible refine (?_ : hTs _ _ _ _ _ _)); refine ⟨fun _ _ _ _ _ => ?_⟩)
  | ((with_reducible refine (?_ : wP _ _ _ _ _)); first | refine pnon ?_ | refine psom ?_) | ((with_reducible refine (?_ : wSl _ _ _ _ _ _)); first | refine slL (by one_place) (fun _ _ _ _ _ => ?_) | refine slS (by assumption) ?_)
  | ((with_reducible refine (?_ : wTs _ _ _ _ _)); first | refine tsnil ?_ | refine tsone ?_)
  | ((with_reducible refine (?_ : wA _ _ _ _ _)); first | refine acons ?_ | refine anil ?_)
  | ((with_reducible refine (?_ : wO _ _ _ _ _ _)); first
    | ((with_reducible refine (?_ : wO _ (binaryOp .Add) _ _ _ _)); first | refine oadd ?_ | refine ocatE (by one_item) (by one_item) (Nat.le_of_ble_eq_true rfl) (fun _ _ _ _ _ => ?_))
    | ((with_reducible refine (?_ : wO _ (binaryOp .Sub) _ _ _ _)); first | refine osub ?_)
    | ((with_reducible refine (?_ : wO _ (binaryOp .Mult) _ _ _ _)); first | refine omul (by first | exact IntMulOk.of_right (by decide) | exact IntMulOk.of_left (by decide) | exact IntMulOk.of_right (intBits_le_64 (by omega) (by omega)) | exact IntMulOk.of_left (intBits_le_64 (by omega) (by omega))) ?_)
    | ((with_reducible refine (?_ : wO _ (binaryOp .Mod) _ _ _ _)); first | refine omod (by first | decide | omega) ?_)
    | ((with_reducible refine (?_ : wO _ (binaryOp .FloorDiv) _ _ _ _)); first | refine ofdiv ⟨by first | decide | omega, by decide⟩ ?_)
    | ((with_reducible refine (?_ : wO _ (binaryOp .BitAnd) _ _ _ _)); first | refine oand ?_)
    | ((with_reducible refine (?_ : wO _ (binaryOp .BitOr) _ _ _ _)); first | refine oor ?_)
    | ((with_reducible refine (?_ : wO _ (compareOp .Lt) _ _ _ _)); first | refine olt ?_)
    | ((with_reducible refine (?_ : wO _ (compareOp .LtE) _ _ _ _)); first | refine ole ?_)
    | ((with_reducible refine (?_ : wO _ (compareOp .Gt) _ _ _ _)); first | refine ogt ?_)
    | ((with_reducible refine (?_ : wO _ (compareOp .GtE) _ _ _ _)); first | refine oge ?_)
    | ((with_reducible refine (?_ : wO _ (compareOp .Eq) _ _ _ _)); first | refine oeqi ?_ | refine oeqsT (by decide +kernel) ?_ | refine oeqsF (by decide +kernel) ?_ | refine oeq (by rfl) ?_)
    | ((with_reducible refine (?_ : wO _ (compareOp .NotEq) _ _ _ _)); first | refine onei ?_ | refine onesT (by decide +kernel) ?_ | refine onesF (by decide +kernel) ?_ | refine one (by rfl) ?_)
    | ((with_reducible refine (?_ : wO _ (compareOp .In) _ _ _ _)); first | refine oin ?_)
    | ((with_reducible refine (?_ : wO _ (compareOp .NotIn) _ _ _ _)); first | refine onin ?_)
    | ((with_reducible refine (?_ : wO _ (compareOp .Is) _ _ _ _)); first | refine ois ?_)
    | ((with_reducible refine (?_ : wO _ (compareOp .IsNot) _ _ _ _)); first | refine onot ?_)
    | ((with_reducible refine (?_ : wO _ (binaryOp .RShift) _ _ _ _)); refine oshr (by first | decide | omega) ?_)
    | ((with_reducible refine (?_ : wO _ (binaryOp .BitXor) _ _ _ _)); refine oxor ?_)
    | ((with_reducible refine (?_ : wO _ (inplaceOp .BitXor) _ _ _ _)); refine ixor ?_)
    | ((with_reducible refine (?_ : wO _ (inplaceOp .RShift) _ _ _ _)); refine ishr (by first | decide | omega) ?_)
    | ((with_reducible refine (?_ : wO _ (inplaceOp .BitOr) _ _ _ _)); first | refine ior ?_)
    | ((with_reducible refine (?_ : wO _ (inplaceOp .Add) _ _ _ _)); first | refine iadd ?_))
  | ((with_reducible refine (?_ : wT _ _ _ _ _)); first
    | ((with_reducible refine (?_ : wT _ (.Compare _ _ _ _) _ _ _)); first | refine zcmpT (by rfl) ?_ | refine zchainT ?_)
    | ((with_reducible refine (?_ : wT _ (.UnaryOp _ _ _) _ _ _)); refine znotT ?_)
    | ((with_reducible refine (?_ : wT _ (.BoolOp _ _ _) _ _ _)); refine zW ?_)
    | refine zval ?_)
  | ((with_reducible refine (?_ : wW _ _ _ _ _)); first | refine zand ?_ | refine zor ?_ | refine zand1 ?_ | refine zor1 ?_)
  | ((with_reducible refine (?_ : wK _ _ _ _ _)); first
    | ((with_reducible refine (?_ : wK _ (.builtin "len") _ _ _)); first | refine klenL (by one_place) ?_ | refine klenT (by one_place) ?_ | refine klenS (by assumption) ?_)
    | ((with_reducible refine (?_ : wK _ (.builtin "isinstance") _ _ _)); first | refine kisE (by assumption) (by assumption) (by first | assumption | exact Xd.exx (by assumption) (by one_sign)) (by first | exact .own _ | exact .ty _) (by assumption) ?_ | refine kisi (.ty _) (by assumption) (by assumption) ?_ | refine kisi (.ty _) (.base (by first | exact .int _ | exact .bl _ | exact .str _ | exact .non | exact .tup (by one_item) | exact .lst (by one_item))) (kit_ty (r := true) (by rfl)) ?_ | refine kisi (.ty _) (.base (by first | exact .int _ | exact .bl _ | exact .str _ | exact .non | exact .tup (by one_item) | exact .lst (by one_item))) (kit_ty (r := false) (by rfl)) ?_)
    | ((with_reducible refine (?_ : wK _ (.builtin "divmod") _ _ _)); refine kdivmod ⟨by first | decide | omega, by decide⟩ (fun _ _ _ _ _ => ?_))
    | ((with_reducible refine (?_ : wK _ (.builtin "min") _ _ _)); refine kmin (by rfl) ?_)
    | ((with_reducible refine (?_ : wK _ (.builtin "max") _ _ _)); refine kmax (by rfl) ?_)
    | ((with_reducible refine (?_ : wK _ (.type "list") _ _ _)); first | refine klistL (by one_place) (fun _ _ _ _ _ => ?_) | refine klistT (by one_place) (fun _ _ _ _ _ => ?_))
    | ((with_reducible refine (?_ : wK _ (.type "tuple") _ _ _)); first | refine ktupL (by one_place) (fun _ _ _ _ _ => ?_)))
  | ((with_reducible refine (?_ : wS _ _ _ _ _)); first
    | ((with_reducible refine (?_ : wS _ (.Assign [.Name _ _] _ _) _ _ _)); refine sset' (by assumption) (by rfl) (by first | exact Or.inl rfl | exact Or.inr rfl) (by rfl) (by first | exact .inl rfl | exact .inr rfl) ?_)
    | ((with_reducible refine (?_ : wS _ (.AugAssign (.Name _ _) _ _ _) _ _ _)); refine saug' (by assumption) (by rfl) (by first | exact Or.inl rfl | exact Or.inr rfl) (by first | exact .inl rfl | exact .inr rfl) (by rfl) ?_)
    | ((with_reducible refine (?_ : wS _ (.Assign [.Attribute _ _ _] _ _) _ _ _)); refine sfld ?_)
    | ((with_reducible refine (?_ : wS _ (.Expr _ _) _ _ _)); refine sexp ?_)
    | ((with_reducible refine (?_ : wS _ (.Assign [.Tuple _ _ _] _ _) _ _ _)); refine sasg ?_) | ((with_reducible refine (?_ : wS _ (.Assign [.Subscript _ _ _] _ _) _ _ _)); refine sasg ?_)
    | refine sret ?_ | refine sif ?_ | refine sretN ?_ | refine spass ?_ | refine sbrk ?_ | refine scont ?_)
  | ((with_reducible refine (?_ : wG _ (.Name _ _) _ _ _ _)); refine gname' (by assumption) (by rfl) (by first | exact Or.inl rfl | exact Or.inr rfl) (by first | exact .inl rfl | exact .inr rfl) ?_)
  | ((with_reducible refine (?_ : wG _ (.Tuple _ _ _) _ _ _ _)); refine gtup rfl (by one_place) rfl ?_) | ((with_reducible refine (?_ : wG _ (.Subscript _ _ _) _ _ _ _)); refine gsub ?_)
  | ((with_reducible refine (?_ : wGs _ _ _ _ _ _)); first | refine gscons ?_ | refine gsnil ?_)
  | ((with_reducible refine (?_ : wB _ _ _ _ _)); first | refine bcons ?_ | refine bnil ?_)
  | refine ifT ?_ | refine ifF ?_ | refine ifd (fun _ => ?_) (fun _ => ?_) | refine ifnd (fun _ => ?_) (fun _ => ?_) | refine ⟨_, rfl, ?_⟩ | refine ⟨rfl, Evl.Ex.refl _, ?_⟩ | refine ⟨_, _, _, _, _, rfl, by one_item, by assumption, by assumption, by rfl, ?_⟩ | refine ⟨Nat.le_of_ble_eq_true rfl, fun _ _ _ _ _ => ?_⟩ | fail)
local macro_rules | `(tactic| top_name) => `(tactic| repeat' tb_rel)
local macro_rules | `(tactic| nest_fact) => `(tactic| first | exact ⟨(decide_eq_true (by omega)).symm, rfl⟩ | exact ⟨(decide_eq_false (by omega)).symm, rfl⟩ | exact ⟨decide_eq_decide.mpr (by omega), rfl⟩ | fail)
local macro_rules | `(tactic| nest_fact) => `(tactic| (refine ixT (SqT.of (by assumption)) rfl ?_; top_name))
/-! ### words as the law has them -/
def spLW (k : KD) : Sp := fun vs H Q _ => ∃ v : V, vs = [v] ∧ LK H v k ∧ ∀ t H', H t = none → Ex H H' → H' t = some (.lst (k.words.map V.str)) → Q (.ref t) H'
/-- [kind[0]] + [str(part) for part in kind[1:]] -/
theorem ok_lwords (T : Txt K mg) : ∀ k : KD, k.Ok → k.dep ≤ 1000 → Gf P w K mg base (1 + k.dep) "_law_words" [] (spLW k) := by
  intro k
  induction k with
  | list k ih =>
    intro hok hdp
    refine gf_mk T.f__law_words T.m__law_words (fun _ _ _ _ _ _ us hl => match us, hl with | [_], _ => rfl) fun fd F => fn_mk (k := 1 + k.dep) F sc__law_words (fun vs H Q E h => ?_) fun cd A outer s H vs Q E hr tk po h => ?_
    · obtain ⟨v, rfl, _⟩ := h; rfl
    · obtain ⟨v, rfl, hk, q⟩ := h
      cases hk with
      | list hx hi =>
        top_name
        nest_fact
        rename_i o H1 ho e1 hxo
        refine zcall (ih hok (by have : k.dep + 1 ≤ 1000 := hdp; omega)) hr (Nat.le_refl _) takesF rfl ?_
        top_name
        refine ixT (SqT.of (e1 _ _ hx)) rfl ?_
        top_name
        refine ⟨hi.ex e1, fun t H2 ht e2 hx2 => ?_⟩
        have hwl := words_len k
        have hdp' : k.dep + 1 ≤ 1000 := hdp
        refine ocatE (e2 _ _ hxo) hx2 (by rw [List.length_map, sizeLine_eq]; show 1 + _ ≤ _; omega) fun t3 H3 ht3 e3 hx3 => ?_
        exact q t3 H3 (Evl.fresh_back (e1.trans e2) ht3) (e1.trans (e2.trans e3)) hx3
  | truth =>
    intro hok hdp
    refine gf_mk T.f__law_words T.m__law_words (fun _ _ _ _ _ _ us hl => match us, hl with | [_], _ => rfl) fun fd F => fn_mk (k := 0) F sc__law_words (fun vs H Q E h => ?_) fun cd A outer s H vs Q E hr tk po h => ?_
    · obtain ⟨v, rfl, _⟩ := h; rfl
    · obtain ⟨v, rfl, hk, q⟩ := h
      have nd := sc__law_words.nd
      have n1 := T.n_str
      cases hk with
      | truth hx =>
        top_name
        nest_fact
        nest_fact
        refine ixT (SqT.of (by assumption)) rfl ?_
        top_name
        rename_i o H1 ho e1 hxo
        refine zlc rfl nd [("_law_part", 1)] (blkOk_by (N := N__law_words) (sc := defScope s__law_words) (by decide +kernel)) piT (tmT (xs := []) (fun j => ([] : List V).take j) rfl ?_)
        top_name
        refine slT (SqT.of (e1 _ _ hx)) (fun z => by have := z.1; revert this; show (1 : Nat) = 0 → False; decide) fun u H2 hu e2 hx2 => ?_
        refine ⟨u, rfl, SqT.of hx2, fun j y H3 hy e3 => ?_, fun L H3 hL e3 hxL => ?_⟩
        · cases (List.getElem?_eq_some_iff.mp hy).1
        · refine ocatE (e3 _ _ (e2 _ _ hxo)) hxL (by first | (show 1 + 1 ≤ sizeLine; decide) | (show 1 + 0 ≤ sizeLine; decide)) fun t4 H4 ht4 e4 hx4 => ?_
          exact q t4 H4 (Evl.fresh_back (e1.trans (e2.trans e3)) ht4) (e1.trans (e2.trans (e3.trans e4))) hx4
  | count =>
    intro hok hdp
    refine gf_mk T.f__law_words T.m__law_words (fun _ _ _ _ _ _ us hl => match us, hl with | [_], _ => rfl) fun fd F => fn_mk (k := 0) F sc__law_words (fun vs H Q E h => ?_) fun cd A outer s H vs Q E hr tk po h => ?_
    · obtain ⟨v, rfl, _⟩ := h; rfl
    · obtain ⟨v, rfl, hk, q⟩ := h
      have nd := sc__law_words.nd
      have n1 := T.n_str
      cases hk with
      | count hx =>
        top_name
        nest_fact
        nest_fact
        refine ixT (SqT.of (by assumption)) rfl ?_
        top_name
        rename_i o H1 ho e1 hxo
        refine zlc rfl nd [("_law_part", 1)] (blkOk_by (N := N__law_words) (sc := defScope s__law_words) (by decide +kernel)) piT (tmT (xs := []) (fun j => ([] : List V).take j) rfl ?_)
        top_name
        refine slT (SqT.of (e1 _ _ hx)) (fun z => by have := z.1; revert this; show (1 : Nat) = 0 → False; decide) fun u H2 hu e2 hx2 => ?_
        refine ⟨u, rfl, SqT.of hx2, fun j y H3 hy e3 => ?_, fun L H3 hL e3 hxL => ?_⟩
        · cases (List.getElem?_eq_some_iff.mp hy).1
        · refine ocatE (e3 _ _ (e2 _ _ hxo)) hxL (by first | (show 1 + 1 ≤ sizeLine; decide) | (show 1 + 0 ≤ sizeLine; decide)) fun t4 H4 ht4 e4 hx4 => ?_
          exact q t4 H4 (Evl.fresh_back (e1.trans (e2.trans e3)) ht4) (e1.trans (e2.trans (e3.trans e4))) hx4
  | whole =>
    intro hok hdp
    refine gf_mk T.f__law_words T.m__law_words (fun _ _ _ _ _ _ us hl => match us, hl with | [_], _ => rfl) fun fd F => fn_mk (k := 0) F sc__law_words (fun vs H Q E h => ?_) fun cd A outer s H vs Q E hr tk po h => ?_
    · obtain ⟨v, rfl, _⟩ := h; rfl
    · obtain ⟨v, rfl, hk, q⟩ := h
      have nd := sc__law_words.nd
      have n1 := T.n_str
      cases hk with
      | whole hx =>
        top_name
        nest_fact
        nest_fact
        refine ixT (SqT.of (by assumption)) rfl ?_
        top_name
        rename_i o H1 ho e1 hxo
        refine zlc rfl nd [("_law_part", 1)] (blkOk_by (N := N__law_words) (sc := defScope s__law_words) (by decide +kernel)) piT (tmT (xs := []) (fun j => ([] : List V).take j) rfl ?_)
        top_name
        refine slT (SqT.of (e1 _ _ hx)) (fun z => by have := z.1; revert this; show (1 : Nat) = 0 → False; decide) fun u H2 hu e2 hx2 => ?_
        refine ⟨u, rfl, SqT.of hx2, fun j y H3 hy e3 => ?_, fun L H3 hL e3 hxL => ?_⟩
        · cases (List.getElem?_eq_some_iff.mp hy).1
        · refine ocatE (e3 _ _ (e2 _ _ hxo)) hxL (by first | (show 1 + 1 ≤ sizeLine; decide) | (show 1 + 0 ≤ sizeLine; decide)) fun t4 H4 ht4 e4 hx4 => ?_
          exact q t4 H4 (Evl.fresh_back (e1.trans (e2.trans e3)) ht4) (e1.trans (e2.trans (e3.trans e4))) hx4
  | upto n =>
    intro hok hdp
    refine gf_mk T.f__law_words T.m__law_words (fun _ _ _ _ _ _ us hl => match us, hl with | [_], _ => rfl) fun fd F => fn_mk (k := 0) F sc__law_words (fun vs H Q E h => ?_) fun cd A outer s H vs Q E hr tk po h => ?_
    · obtain ⟨v, rfl, _⟩ := h; rfl
    · obtain ⟨v, rfl, hk, q⟩ := h
      have nd := sc__law_words.nd
      have n1 := T.n_str
      cases hk with
      | upto hx =>
        top_name
        nest_fact
        nest_fact
        refine ixT (SqT.of (by assumption)) rfl ?_
        top_name
        rename_i o H1 ho e1 hxo
        refine zlc rfl nd [("_law_part", 1)] (blkOk_by (N := N__law_words) (sc := defScope s__law_words) (by decide +kernel)) piT (tmT (xs := [.int n]) (fun j => ([V.str (toString n)]).take j) rfl ?_)
        top_name
        refine slT (SqT.of (e1 _ _ hx)) (fun z => by have := z.1; revert this; show (1 : Nat) = 0 → False; decide) fun u H2 hu e2 hx2 => ?_
        refine ⟨u, rfl, SqT.of hx2, fun j y H3 hy e3 => ?_, fun L H3 hL e3 hxL => ?_⟩
        · have hj : j = 0 := by have := (List.getElem?_eq_some_iff.mp hy).1; simp at this; exact this
          subst hj
          cases hy
          top_name
          refine zbty n1 bt_str (by rfl) ?_
          top_name
          refine kstrI (log_most (by have := hok.1; omega) hok.2) ?_
          exact ⟨rfl, by show 0 < sizeLine; decide, Evl.Ex.refl _⟩
        · refine ocatE (e3 _ _ (e2 _ _ hxo)) hxL (by first | (show 1 + 1 ≤ sizeLine; decide) | (show 1 + 0 ≤ sizeLine; decide)) fun t4 H4 ht4 e4 hx4 => ?_
          exact q t4 H4 (Evl.fresh_back (e1.trans (e2.trans e3)) ht4) (e1.trans (e2.trans (e3.trans e4))) hx4
  | form s' =>
    intro hok hdp
    refine gf_mk T.f__law_words T.m__law_words (fun _ _ _ _ _ _ us hl => match us, hl with | [_], _ => rfl) fun fd F => fn_mk (k := 0) F sc__law_words (fun vs H Q E h => ?_) fun cd A outer s H vs Q E hr tk po h => ?_
    · obtain ⟨v, rfl, _⟩ := h; rfl
    · obtain ⟨v, rfl, hk, q⟩ := h
      have nd := sc__law_words.nd
      have n1 := T.n_str
      cases hk with
      | form hx =>
        top_name
        nest_fact
        nest_fact
        refine ixT (SqT.of (by assumption)) rfl ?_
        top_name
        rename_i o H1 ho e1 hxo
        refine zlc rfl nd [("_law_part", 1)] (blkOk_by (N := N__law_words) (sc := defScope s__law_words) (by decide +kernel)) piT (tmT (xs := [.str s']) (fun j => ([V.str s']).take j) rfl ?_)
        top_name
        refine slT (SqT.of (e1 _ _ hx)) (fun z => by have := z.1; revert this; show (1 : Nat) = 0 → False; decide) fun u H2 hu e2 hx2 => ?_
        refine ⟨u, rfl, SqT.of hx2, fun j y H3 hy e3 => ?_, fun L H3 hL e3 hxL => ?_⟩
        · have hj : j = 0 := by have := (List.getElem?_eq_some_iff.mp hy).1; simp at this; exact this
          subst hj
          cases hy
          top_name
          refine zbty n1 bt_str (by rfl) ?_
          top_name
          refine kstrS ?_
          exact ⟨rfl, by show 0 < sizeLine; decide, Evl.Ex.refl _⟩
        · refine ocatE (e3 _ _ (e2 _ _ hxo)) hxL (by first | (show 1 + 1 ≤ sizeLine; decide) | (show 1 + 0 ≤ sizeLine; decide)) fun t4 H4 ht4 e4 hx4 => ?_
          exact q t4 H4 (Evl.fresh_back (e1.trans (e2.trans e3)) ht4) (e1.trans (e2.trans (e3.trans e4))) hx4
  | text n =>
    intro hok hdp
    refine gf_mk T.f__law_words T.m__law_words (fun _ _ _ _ _ _ us hl => match us, hl with | [_], _ => rfl) fun fd F => fn_mk (k := 0) F sc__law_words (fun vs H Q E h => ?_) fun cd A outer s H vs Q E hr tk po h => ?_
    · obtain ⟨v, rfl, _⟩ := h; rfl
    · obtain ⟨v, rfl, hk, q⟩ := h
      have nd := sc__law_words.nd
      have n1 := T.n_str
      cases hk with
      | text hx =>
        top_name
        nest_fact
        nest_fact
        refine ixT (SqT.of hx) rfl ?_
        top_name
        · rename_i h100 t H1 ht e1 hxt
          refine q t H1 ht e1 ?_
          unfold KD.words
          rw [if_pos h100]
          exact hxt
        rename_i h100
        refine ixT (SqT.of (by assumption)) rfl ?_
        top_name
        rename_i o H1 ho e1 hxo
        refine zlc rfl nd [("_law_part", 1)] (blkOk_by (N := N__law_words) (sc := defScope s__law_words) (by decide +kernel)) piT (tmT (xs := [.int n]) (fun j => ([V.str (toString n)]).take j) rfl ?_)
        top_name
        refine slT (SqT.of (e1 _ _ hx)) (fun z => by have := z.1; revert this; show (1 : Nat) = 0 → False; decide) fun u H2 hu e2 hx2 => ?_
        refine ⟨u, rfl, SqT.of hx2, fun j y H3 hy e3 => ?_, fun L H3 hL e3 hxL => ?_⟩
        · have hj : j = 0 := by have := (List.getElem?_eq_some_iff.mp hy).1; simp at this; exact this
          subst hj
          cases hy
          top_name
          refine zbty n1 bt_str (by rfl) ?_
          top_name
          refine kstrI (log_most (by have := hok.1; omega) (by have := hok.2; unfold MOST; omega)) ?_
          exact ⟨rfl, by show 0 < sizeLine; decide, Evl.Ex.refl _⟩
        · refine ocatE (e3 _ _ (e2 _ _ hxo)) hxL (by first | (show 1 + 1 ≤ sizeLine; decide) | (show 1 + 0 ≤ sizeLine; decide)) fun t4 H4 ht4 e4 hx4 => ?_
          exact q t4 H4 (Evl.fresh_back (e1.trans (e2.trans e3)) ht4) (e1.trans (e2.trans (e3.trans e4))) (by unfold KD.words; rw [if_neg h100]; exact hx4)
end K07

set_option maxRecDepth 100000
set_option maxHeartbeats 4000000
set_option pp.maxSteps 1500
namespace K07
open PySem PySem.Spec PyProof.Rows L2 Z
open Evl (Ex)
variable {P : Program} {w : World} {K : PySem.W.Frag} {mg : Str → Option Value} {base : Heap}
/-! ### steps of the walk: one_sign: a heap grew into another; one_item: what stands at an address; one_place: a list or tuple to be read; leaf_len: arithmetic; tb_rel: one step; top_name: steps as far as they go -/
local macro_rules | `(tactic| got_up) => `(tactic| (refine Evl.Ex.trans (by assumption) ?_; first | assumption | exact Evl.Ex.refl _ | got_up))
local macro_rules | `(tactic| units_room) => `(tactic| (refine Evl.Ex.trans ?_ (by assumption); first | assumption | exact Evl.Ex.refl _ | units_room))
local macro_rules | `(tactic| one_sign) => `(tactic| first | assumption | exact Evl.Ex.refl _ | got_up | units_room)
local macro_rules | `(tactic| one_item) => `(tactic| first | assumption | exact upd_same | exact exa (by assumption) (by one_sign))
local macro_rules | `(tactic| one_place) => `(tactic| first | assumption | exact SqL.of (by assumption) | exact SqT.of (by assumption) | exact exl (by assumption) (by one_sign) | exact ext (by assumption) (by one_sign) | exact SqL.of (by one_item) | exact SqT.of (by one_item))
local macro_rules | `(tactic| leaf_len) => `(tactic| first | assumption | decide | omega)
local macro_rules | `(tactic| tb_rel) => `(tactic| first
  | ((with_reducible refine (?_ : wE _ _ _ _ _)); first
    | ((with_reducible refine (?_ : wE _ (.Name _ _) _ _ _)); first | refine zn (by rfl) (by first | exact Or.inl rfl | exact Or.inr (Or.inl rfl) | exact Or.inr (Or.inr rfl)) (by rfl) ?_ | refine zglob (by assumption) (by rfl) ?_ | refine zcls (by assumption) (by rfl) ?_ | refine zty (by assumption) (by first | exact bt_int | exact bt_bool | exact bt_str | exact bt_list | exact bt_tuple | exact bt_dict | exact bt_ValueError) (by rfl) ?_)
    | ((with_reducible refine (?_ : wE _ (.Attribute _ _ _) _ _ _)); refine zfld ?_)
    | ((with_reducible refine (?_ : wE _ (.Constant _ _ _) _ _ _)); first | refine zint ?_ | refine zstr ?_ | refine zbl ?_ | refine znon ?_)
    | ((with_reducible refine (?_ : wE _ (.BinOp _ _ _ _) _ _ _)); refine zbin ?_)
    | ((with_reducible refine (?_ : wE _ (.Compare _ _ _ _) _ _ _)); first | refine zcmp (by rfl) ?_ | refine zchain ?_)
    | ((with_reducible refine (?_ : wE _ (.Dict [] [] _) _ _ _)); refine zdnew (fun _ _ _ _ _ => ?_))
    | ((with_reducible refine (?_ : wE _ (.Subscript _ (.Slice _ _ _ _) _) _ _ _)); refine zsl ?_)
    | ((with_reducible refine (?_ : wE _ (.Subscript _ _ _) _ _ _)); refine zix ?_)
    | ((with_reducible refine (?_ : wE _ (.Call (.Name "list" _) [.Call (.Name "range" _) [_] [] _] [] _) _ _ _)); refine zlrg1 rfl (by rfl) (by assumption) (by rfl) (by assumption) ?_)
    | ((with_reducible refine (?_ : wE _ (.Call (.Name _ _) _ _ _) _ _ _)); first
      | ((with_reducible refine (?_ : wE _ (.Call (.Name "len" _) _ _ _) _ _ _)); refine zbfn (by assumption) bt_len (by rfl) ?_)
      | ((with_reducible refine (?_ : wE _ (.Call (.Name "isinstance" _) _ _ _) _ _ _)); refine zbfn (by assumption) bt_isi (by rfl) ?_)
      | ((with_reducible refine (?_ : wE _ (.Call (.Name "min" _) _ _ _) _ _ _)); refine zbfn (by assumption) bt_min (by rfl) ?_)
      | ((with_reducible refine (?_ : wE _ (.Call (.Name "max" _) _ _ _) _ _ _)); refine zbfn (by assumption) bt_max (by rfl) ?_)
      | ((with_reducible refine (?_ : wE _ (.Call (.Name "list" _) _ _ _) _ _ _)); refine zbty (by assumption) bt_list (by rfl) ?_)
      | ((with_reducible refine (?_ : wE _ (.Call (.Name "tuple" _) _ _ _) _ _ _)); refine zbty (by assumption) bt_tuple (by rfl) ?_)
      | ((with_reducible refine (?_ : wE _ (.Call (.Name "int" _) _ _ _) _ _ _)); refine zbty (by assumption) bt_int (by rfl) ?_)
      | ((with_reducible refine (?_ : wE _ (.Call (.Name "abs" _) _ _ _) _ _ _)); refine zbfn (by assumption) bt_abs (by rfl) ?_)
      | ((with_reducible refine (?_ : wE _ (.Call (.Name "all" _) _ _ _) _ _ _)); refine zbfn (by assumption) bt_all (by rfl) ?_)
      | ((with_reducible refine (?_ : wE _ (.Call (.Name "sum" _) _ _ _) _ _ _)); refine zbfn (by assumption) bt_sum (by rfl) ?_)
      | ((with_reducible refine (?_ : wE _ (.Call (.Name "divmod" _) _ _ _) _ _ _)); refine zbfn (by assumption) bt_divmod (by rfl) ?_)
      | ((with_reducible refine (?_ : wE _ (.Call (.Name "ord" _) _ _ _) _ _ _)); refine zbfn (by assumption) bt_ord (by rfl) ?_))
    | ((with_reducible refine (?_ : wE _ (.IfExp _ _ _ _) _ _ _)); refine zif ?_)
    | ((with_reducible refine (?_ : wE _ (.Tuple _ _ _) _ _ _)); refine ztup ?_)
    | ((with_reducible refine (?_ : wE _ (.List _ _) _ _ _)); refine zlst ?_)
    | ((with_reducible refine (?_ : wE _ (.UnaryOp _ _ _) _ _ _)); first | refine znotV ?_ | refine zneg ?_)
    | ((with_reducible refine (?_ : wE _ (.BoolOp _ _ _) _ _ _)); first | refine zandV ?_ | refine zorV ?_ | refine zoneV ?_))
  | ((with_reducible refine (?_ : bE _ _ _ _ _ _)); refine ⟨fun _ _ _ _ _ => ?_⟩) | ((with_reducible refine (?_ : bG _ _ _ _ _ _ _)); refine ⟨fun _ _ _ _ _ => ?_⟩) | ((with_reducible refine (?_ : bTs _ _ _ _ _ _)); refine ⟨fun _ _ _ _ _ => ?_⟩)
  | ((with_reducible refine (?_ : hE _ _ _ _ _ _)); refine ⟨fun _ _ _ _ _ => ?_⟩) | ((with_reducible refine (?_ : hG _ _ _ _ _ _ _)); refine ⟨fun _ _ _ _ _ => ?_⟩) | ((with_reducible refine (?_ : hTs _ _ _ _ _ _)); refine ⟨fun _ _ _ _ _ => ?_⟩)
  | ((with_reducible refine (?_ : wP _ _ _ _ _)); first | refine pnon ?_ | refine psom ?_) | ((with_reducible refine (?_ : wSl _ _ _ _ _ _)); first | refine slL (by one_place) (fun _ _ _ _ _ => ?_) | refine slS (by assumption) ?_)
  | ((with_reducible refine (?_ : wTs _ _ _ _ _)); first | refine tsnil ?_ | refine tsone ?_)
  | ((with_reducible refine (?_ : wA _ _ _ _ _)); first | refine acons ?_ | refine anil ?_)
  | ((with_reducible refine (?_ : wO _ _ _ _ _ _)); first
    | ((with_reducible refine (?_ : wO _ (binaryOp .Add) _ _ _ _)); first | refine oadd ?_ | refine ocatE (by one_item) (by one_item) (Nat.le_of_ble_eq_true rfl) (fun _ _ _ _ _ => ?_))
    | ((with_reducible refine (?_ : wO _ (binaryOp .Sub) _ _ _ _)); first | refine osub ?_)
    | ((with_reducible refine (?_ : wO _ (binaryOp .Mult) _ _ _ _)); first | refine omul (by first | exact IntMulOk.of_right (by decide) | exact IntMulOk.of_left (by decide) | exact IntMulOk.of_right (intBits_le_64 (by omega) (by omega)) | exact IntMulOk.of_left (intBits_le_64 (by omega) (by omega))) ?_)
    | ((with_reducible refine (?_ : wO _ (binaryOp .Mod) _ _ _ _)); first | refine omod (by first | decide | omega) ?_)
    | ((with_reducible refine (?_ : wO _ (binaryOp .FloorDiv) _ _ _ _)); first | refine ofdiv ⟨by first | decide | omega, by decide⟩ ?_)
    | ((with_reducible refine (?_ : wO _ (binaryOp .BitAnd) _ _ _ _)); first | refine oand ?_)
    | ((with_reducible refine (?_ : wO _ (binaryOp .BitOr) _ _ _ _)); first | refine oor ?_)
    | ((with_reducible refine (?_ : wO _ (compareOp .Lt) _ _ _ _)); first | refine olt ?_)
    | ((with_reducible refine (?_ : wO _ (compareOp .LtE) _ _ _ _)); first | refine ole ?_)
    | ((with_reducible refine (?_ : wO _ (compareOp .Gt) _ _ _ _)); first | refine ogt ?_)
    | ((with_reducible refine (?_ : wO _ (compareOp .GtE) _ _ _ _)); first | refine oge ?_)
    | ((with_reducible refine (?_ : wO _ (compareOp .Eq) _ _ _ _)); first | refine oeqi ?_ | refine oeqsT (by decide +kernel) ?_ | refine oeqsF (by decide +kernel) ?_ | refine oeq (by rfl) ?_)
    | ((with_reducible refine (?_ : wO _ (compareOp .NotEq) _ _ _ _)); first | refine onei ?_ | refine onesT (by decide +kernel) ?_ | refine onesF (by decide +kernel) ?_ | refine one (by rfl) ?_)
    | ((with_reducible refine (?_ : wO _ (compareOp .In) _ _ _ _)); first | refine oin ?_)
    | ((with_reducible refine (?_ : wO _ (compareOp .NotIn) _ _ _ _)); first | refine onin ?_)
    | ((with_reducible refine (?_ : wO _ (compareOp .Is) _ _ _ _)); first | refine ois ?_)
    | ((with_reducible refine (?_ : wO _ (compareOp .IsNot) _ _ _ _)); first | refine onot ?_)
    | ((with_reducible refine (?_ : wO _ (binaryOp .RShift) _ _ _ _)); refine oshr (by first | decide | omega) ?_)
    | ((with_reducible refine (?_ : wO _ (binaryOp .BitXor) _ _ _ _)); refine oxor ?_)
    | ((with_reducible refine (?_ : wO _ (inplaceOp .BitXor) _ _ _ _)); refine ixor ?_)
    | ((with_reducible refine (?_ : wO _ (inplaceOp .RShift) _ _ _ _)); refine ishr (by first | decide | omega) ?_)
    | ((with_reducible refine (?_ : wO _ (inplaceOp .BitOr) _ _ _ _)); first | refine ior ?_)
    | ((with_reducible refine (?_ : wO _ (inplaceOp .Add) _ _ _ _)); first | refine iadd ?_))
  | ((with_reducible refine (?_ : wT _ _ _ _ _)); first
    | ((with_reducible refine (?_ : wT _ (.Compare _ _ _ _) _ _ _)); first | refine zcmpT (by rfl) ?_ | refine zchainT ?_)
    | ((with_reducible refine (?_ : wT _ (.UnaryOp _ _ _) _ _ _)); refine znotT ?_)
    | ((with_reducible refine (?_ : wT _ (.BoolOp _ _ _) _ _ _)); refine zW ?_)
    | refine zval ?_)
  | ((with_reducible refine (?_ : wW _ _ _ _ _)); first | refine zand ?_ | refine zor ?_ | refine zand1 ?_ | refine zor1 ?_)
  | ((with_reducible refine (?_ : wK _ _ _ _ _)); first
    | ((with_reducible refine (?_ : wK _ (.builtin "len") _ _ _)); first | refine klenL (by one_place) ?_ | refine klenT (by one_place) ?_ | refine klenS (by assumption) ?_)
    | ((with_reducible refine (?_ : wK _ (.builtin "isinstance") _ _ _)); first | refine kisE (by assumption) (by assumption) (by first | assumption | exact Xd.exx (by assumption) (by one_sign)) (by first | exact .own _ | exact .ty _) (by assumption) ?_ | refine kisi (.ty _) (by assumption) (by assumption) ?_ | refine kisi (.ty _) (.base (by first | exact .int _ | exact .bl _ | exact .str _ | exact .non | exact .tup (by one_item) | exact .lst (by one_item))) (kit_ty (r := true) (by rfl)) ?_ | refine kisi (.ty _) (.base (by first | exact .int _ | exact .bl _ | exact .str _ | exact .non | exact .tup (by one_item) | exact .lst (by one_item))) (kit_ty (r := false) (by rfl)) ?_)
    | ((with_reducible refine (?_ : wK _ (.builtin "divmod") _ _ _)); refine kdivmod ⟨by first | decide | omega, by decide⟩ (fun _ _ _ _ _ => ?_))
    | ((with_reducible refine (?_ : wK _ (.builtin "min") _ _ _)); refine kmin (by rfl) ?_)
    | ((with_reducible refine (?_ : wK _ (.builtin "max") _ _ _)); refine kmax (by rfl) ?_)
    | ((with_reducible refine (?_ : wK _ (.type "list") _ _ _)); first | refine klistL (by one_place) (fun _ _ _ _ _ => ?_) | refine klistT (by one_place) (fun _ _ _ _ _ => ?_))
    | ((with_reducible refine (?_ : wK _ (.type "tuple") _ _ _)); first | refine ktupL (by one_place) (fun _ _ _ _ _ => ?_)))
  | ((with_reducible refine (?_ : wS _ _ _ _ _)); first
    | ((with_reducible refine (?_ : wS _ (.Assign [.Name _ _] _ _) _ _ _)); refine sset' (by assumption) (by rfl) (by first | exact Or.inl rfl | exact Or.inr rfl) (by rfl) (by first | exact .inl rfl | exact .inr rfl) ?_)
    | ((with_reducible refine (?_ : wS _ (.AugAssign (.Name _ _) _ _ _) _ _ _)); refine saug' (by assumption) (by rfl) (by first | exact Or.inl rfl | exact Or.inr rfl) (by first | exact .inl rfl | exact .inr rfl) (by rfl) ?_)
    | ((with_reducible refine (?_ : wS _ (.Assign [.Attribute _ _ _] _ _) _ _ _)); refine sfld ?_)
    | ((with_reducible refine (?_ : wS _ (.Expr _ _) _ _ _)); refine sexp ?_)
    | ((with_reducible refine (?_ : wS _ (.Assign [.Tuple _ _ _] _ _) _ _ _)); refine sasg ?_) | ((with_reducible refine (?_ : wS _ (.Assign [.Subscript _ _ _] _ _) _ _ _)); refine sasg ?_)
    | refine sret ?_ | refine sif ?_ | refine sretN ?_ | refine spass ?_ | refine sbrk ?_ | refine scont ?_)
  | ((with_reducible refine (?_ : wG _ (.Name _ _) _ _ _ _)); refine gname' (by assumption) (by rfl) (by first | exact Or.inl rfl | exact Or.inr rfl) (by first | exact .inl rfl | exact .inr rfl) ?_)
  | ((with_reducible refine (?_ : wG _ (.Tuple _ _ _) _ _ _ _)); refine gtup rfl (by one_place) rfl ?_) | ((with_reducible refine (?_ : wG _ (.Subscript _ _ _) _ _ _ _)); refine gsub ?_)
  | ((with_reducible refine (?_ : wGs _ _ _ _ _ _)); first | refine gscons ?_ | refine gsnil ?_)
  | ((with_reducible refine (?_ : wB _ _ _ _ _)); first | refine bcons ?_ | refine bnil ?_)
  | refine ifT ?_ | refine ifF ?_ | refine ifd (fun _ => ?_) (fun _ => ?_) | refine ifnd (fun _ => ?_) (fun _ => ?_) | refine ⟨_, rfl, ?_⟩ | refine ⟨rfl, Evl.Ex.refl _, ?_⟩ | refine ⟨_, _, _, _, _, rfl, by one_item, by assumption, by assumption, by rfl, ?_⟩ | refine ⟨Nat.le_of_ble_eq_true rfl, fun _ _ _ _ _ => ?_⟩ | fail)
local macro_rules | `(tactic| top_name) => `(tactic| repeat' tb_rel)
local macro_rules | `(tactic| nest_fact) => `(tactic| first | exact ⟨(decide_eq_true (by omega)).symm, rfl⟩ | exact ⟨(decide_eq_false (by omega)).symm, rfl⟩ | exact ⟨decide_eq_decide.mpr (by omega), rfl⟩ | fail)
/-! ### widths as the law has them -/
def blen (m : Nat) : Nat := if m = 0 then 0 else m.log2 + 1
theorem blen_half {m : Nat} (h : 0 < m) : blen m = blen (m / 2) + 1 := by
  unfold blen
  rw [if_neg (by omega), Nat.log2_def]
  by_cases h2 : 2 ≤ m
  · rw [if_pos h2, if_neg (by omega)]
  · rw [if_neg h2, if_pos (by omega)]
theorem bits_len {m : Nat} : Builtin.Int.intBits (m : Int) = blen m := by
  unfold Builtin.Int.intBits blen
  by_cases h : m = 0
  · subst h; rfl
  · rw [if_neg h, if_neg (by simpa using h)]
    rfl
theorem ok_lwidth (T : Txt K mg) (k : KD) (hok : k.Ok) : Gf P w K mg base 1 "_law_width" [] (fun vs H Q _ => ∃ v : V, vs = [v] ∧ LK H v k ∧ Q (.int k.width) H) := by
  refine gf_mk T.f__law_width T.m__law_width (fun _ _ _ _ _ _ us hl => match us, hl with | [_], _ => rfl) fun fd F => fn_mk (k := 0) F sc__law_width (fun vs H Q E h => ?_) fun cd A outer s H vs Q E hr tk po h => ?_
  · obtain ⟨v, rfl, _⟩ := h; rfl
  · obtain ⟨v, rfl, hk, q⟩ := h
    have nd := sc__law_width.nd
    have rest : ∀ (m : Nat) (D : Ends), (∀ σ' , σ' = [some v, some (.int (blen m : Int)), some (.int 0)] → D.nx σ' H) → wS (cx P w K mg base N__law_width "_law_width" (defScope s__law_width) (He.fAd K ("_law_width", none)) cd A outer s H E) (match defBody s__law_width with | [_, _, _, c, _] => c | _ => .Pass ⟨0, 0, 0, 0⟩) D [some v, some (.int 0), some (.int (m : Int))] H := fun m D hD => by
      refine lwhile po (fun σ H' => H = H' ∧ ∃ (n i : Nat), σ = [some v, some (.int (i : Int)), some (.int (n : Int))] ∧ i + blen n = blen m) (fun σ _ => match σ with | [_, _, some (.int n)] => n.toNat | _ => 0) ⟨rfl, m, 0, rfl, by omega⟩ ?_
      rintro σ H1 ⟨rfl, n, i, rfl, hb⟩
      top_name
      · rename_i hn
        have := blen_half (show 0 < n by omega)
        refine ⟨⟨rfl, n / 2, i + 1, rfl, by omega⟩, ?_⟩
        show ((n : Int) / 2).toNat < (n : Int).toNat
        omega
      · rename_i hn
        have h0 : n = 0 := by omega
        subst h0
        refine hD _ ?_
        rw [← hb]
        rfl
    cases hk with
    | truth hx =>
      top_name
      refine ixT (SqT.of hx) rfl ?_
      top_name
      exact q
    | @upto t n hx =>
      have q : Q (.int (bits n)) H := q
      top_name
      refine ixT (SqT.of hx) rfl ?_
      top_name
      refine ixT (SqT.of hx) rfl ?_
      top_name
      refine ixT (SqT.of hx) rfl ?_
      top_name
      · rename_i hle
        refine ixT (SqT.of hx) rfl ?_
        top_name
        have hn := hok.1
        refine scut (fun σ' H' => H = H' ∧ σ' = [some (.ref t), some (.int (blen n.toNat : Int)), some (.int 0)]) ?_ ?_
        · have := rest n.toNat
          rw [Int.toNat_of_nonneg (by omega)] at this
          exact this _ fun σ' e => ⟨rfl, e⟩
        rintro _ _ ⟨rfl, rfl⟩
        top_name
        unfold bits at q
        rw [if_neg (by omega)] at q
        rw [← bits_len, Int.toNat_of_nonneg (by omega)]
        exact q
      · rename_i hgt
        refine scut (fun σ' H' => H = H' ∧ σ' = [some _, some (.int 0), some (.int 0)]) (rest 0 _ fun σ' e => ⟨rfl, e⟩) ?_
        rintro _ _ ⟨rfl, rfl⟩
        top_name
        unfold bits at q
        rw [if_pos (by omega)] at q
        exact q
    | count hx =>
      top_name
      refine ixT (SqT.of hx) rfl ?_
      top_name
      refine ixT (SqT.of hx) rfl ?_
      top_name
      refine scut (fun σ' H' => H = H' ∧ σ' = [some _, some (.int 0), some (.int 0)]) (rest 0 _ fun σ' e => ⟨rfl, e⟩) ?_
      rintro _ _ ⟨rfl, rfl⟩
      top_name
      exact q
    | whole hx =>
      top_name
      refine ixT (SqT.of hx) rfl ?_
      top_name
      refine ixT (SqT.of hx) rfl ?_
      top_name
      refine scut (fun σ' H' => H = H' ∧ σ' = [some _, some (.int 0), some (.int 0)]) (rest 0 _ fun σ' e => ⟨rfl, e⟩) ?_
      rintro _ _ ⟨rfl, rfl⟩
      top_name
      exact q
    | text hx =>
      top_name
      refine ixT (SqT.of hx) rfl ?_
      top_name
      refine ixT (SqT.of hx) rfl ?_
      top_name
      refine scut (fun σ' H' => H = H' ∧ σ' = [some _, some (.int 0), some (.int 0)]) (rest 0 _ fun σ' e => ⟨rfl, e⟩) ?_
      rintro _ _ ⟨rfl, rfl⟩
      top_name
      exact q
    | form hx =>
      top_name
      refine ixT (SqT.of hx) rfl ?_
      top_name
      refine ixT (SqT.of hx) rfl ?_
      top_name
      refine scut (fun σ' H' => H = H' ∧ σ' = [some _, some (.int 0), some (.int 0)]) (rest 0 _ fun σ' e => ⟨rfl, e⟩) ?_
      rintro _ _ ⟨rfl, rfl⟩
      top_name
      exact q
    | list hx _ =>
      top_name
      refine ixT (SqT.of hx) rfl ?_
      top_name
      refine ixT (SqT.of hx) rfl ?_
      top_name
      refine scut (fun σ' H' => H = H' ∧ σ' = [some _, some (.int 0), some (.int 0)]) (rest 0 _ fun σ' e => ⟨rfl, e⟩) ?_
      rintro _ _ ⟨rfl, rfl⟩
      top_name
      exact q
/-! ### what suits, as the law has it -/
def spLS (K : PySem.W.Frag) (k : KD) : Sp := fun vs H Q _ => ∃ (t v : V) (b : Bool), vs = [t, v] ∧ LK H t k ∧ Suit K H k v b ∧ ∀ H', Ex H H' → Q (.bl b) H'
theorem all_nil : ∀ cs : List Nat, ((cs.filter fun c => !signB c).map fun c => (⟨#[c]⟩ : Str)) = [] ↔ cs.all signB = true := fun cs => by
  rw [List.map_eq_nil_iff, List.filter_eq_nil_iff, List.all_eq_true]
  constructor
  · intro h c hc
    simpa using h c hc
  · intro h c hc
    simpa using h c hc
theorem dec_true (b : Bool) : decide (b = true) = b := by cases b <;> rfl
/-- the things that don't suit -/
def bad (xs : List V) (bs : List Bool) (j : Nat) : List V := (((xs.zip bs).take j).filter fun p => !p.2).map (·.1)
theorem bad_succ {xs : List V} {bs : List Bool} {j : Nat} {x : V} {b : Bool} (hx : xs[j]? = some x) (hb : bs[j]? = some b) : bad xs bs (j + 1) = bad xs bs j ++ (if b = true then [] else [x]) := by
  unfold bad
  have hz : (xs.zip bs)[j]? = some (x, b) := by rw [List.getElem?_zip_eq_some]; exact ⟨hx, hb⟩
  rw [List.take_add_one, hz, Option.toList_some, List.filter_append, List.map_append]
  cases b <;> rfl
theorem bad_nil {xs : List V} {bs : List Bool} (h : xs.length = bs.length) : (bad xs bs xs.length).isEmpty = bs.all id := by
  unfold bad
  rw [List.take_of_length_le (by rw [List.length_zip]; omega)]
  induction xs generalizing bs with
  | nil => cases bs with | nil => rfl | cons _ _ => cases h
  | cons x xs ih => cases bs with
    | nil => cases h
    | cons b bs =>
      have := ih (bs := bs) (by simpa using h)
      rw [List.zip_cons_cons, List.filter_cons]
      cases b with
      | true => exact this
      | false => rfl
theorem bad_len (xs : List V) (bs : List Bool) (j : Nat) : (bad xs bs j).length ≤ xs.length := by
  unfold bad
  rw [List.length_map]
  refine Nat.le_trans (List.length_filter_le ..) (Nat.le_trans (List.length_take_le' ..) ?_)
  rw [List.length_zip]
  omega
end K07

set_option maxRecDepth 100000
set_option maxHeartbeats 4000000
set_option pp.maxSteps 1500
namespace K07
open PySem PySem.Spec PyProof.Rows L2 Z
open Evl (Ex)
variable {P : Program} {w : World} {K : PySem.W.Frag} {mg : Str → Option Value} {base : Heap}
/-! ### steps of the walk: one_sign: a heap grew into another; one_item: what stands at an address; one_place: a list or tuple to be read; leaf_len: arithmetic; tb_rel: one step; top_name: steps as far as they go -/
local macro_rules | `(tactic| got_up) => `(tactic| (refine Evl.Ex.trans (by assumption) ?_; first | assumption | exact Evl.Ex.refl _ | got_up))
local macro_rules | `(tactic| units_room) => `(tactic| (refine Evl.Ex.trans ?_ (by assumption); first | assumption | exact Evl.Ex.refl _ | units_room))
local macro_rules | `(tactic| one_sign) => `(tactic| first | assumption | exact Evl.Ex.refl _ | got_up | units_room)
local macro_rules | `(tactic| one_item) => `(tactic| first | assumption | exact upd_same | exact exa (by assumption) (by one_sign))
local macro_rules | `(tactic| one_place) => `(tactic| first | assumption | exact SqL.of (by assumption) | exact SqT.of (by assumption) | exact exl (by assumption) (by one_sign) | exact ext (by assumption) (by one_sign) | exact SqL.of (by one_item) | exact SqT.of (by one_item))
local macro_rules | `(tactic| leaf_len) => `(tactic| first | assumption | decide | omega)
local macro_rules | `(tactic| tb_rel) => `(tactic| first
  | ((with_reducible refine (?_ : wE _ _ _ _ _)); first
    | ((with_reducible refine (?_ : wE _ (.Name _ _) _ _ _)); first | refine zn (by rfl) (by first | exact Or.inl rfl | exact Or.inr (Or.inl rfl) | exact Or.inr (Or.inr rfl)) (by rfl) ?_ | refine zglob (by assumption) (by rfl) ?_ | refine zcls (by assumption) (by rfl) ?_ | refine zty (by assumption) (by first | exact bt_int | exact bt_bool | exact bt_str | exact bt_list | exact bt_tuple | exact bt_dict | exact bt_ValueError) (by rfl) ?_)
    | ((with_reducible refine (?_ : wE _ (.Attribute _ _ _) _ _ _)); refine zfld ?_)
    | ((with_reducible refine (?_ : wE _ (.Constant _ _ _) _ _ _)); first | refine zint ?_ | refine zstr ?_ | refine zbl ?_ | refine znon ?_)
    | ((with_reducible refine (?_ : wE _ (.BinOp _ _ _ _) _ _ _)); refine zbin ?_)
    | ((with_reducible refine (?_ : wE _ (.Compare _ _ _ _) _ _ _)); first | refine zcmp (by rfl) ?_ | refine zchain ?_)
    | ((with_reducible refine (?_ : wE _ (.Dict [] [] _) _ _ _)); refine zdnew (fun _ _ _ _ _ => ?_))
    | ((with_reducible refine (?_ : wE _ (.Subscript _ (.Slice _ _ _ _) _) _ _ _)); refine zsl ?_)
    | ((with_reducible refine (?_ : wE _ (.Subscript _ _ _) _ _ _)); refine zix ?_)
    | ((with_reducible refine (?_ : wE _ (.Call (.Name "list" _) [.Call (.Name "range" _) [_] [] _] [] _) _ _ _)); refine zlrg1 rfl (by rfl) (by assumption) (by rfl) (by assumption) ?_)
    | ((with_reducible refine (?_ : wE _ (.Call (.Name _ _) _ _ _) _ _ _)); first
      | ((with_reducible refine (?_ : wE _ (.Call (.Name "len" _) _ _ _) _ _ _)); refine zbfn (by assumption) bt_len (by rfl) ?_)
      | ((with_reducible refine (?_ : wE _ (.Call (.Name "isinstance" _) _ _ _) _ _ _)); refine zbfn (by assumption) bt_isi (by rfl) ?_)
      | ((with_reducible refine (?_ : wE _ (.Call (.Name "min" _) _ _ _) _ _ _)); refine zbfn (by assumption) bt_min (by rfl) ?_)
      | ((with_reducible refine (?_ : wE _ (.Call (.Name "max" _) _ _ _) _ _ _)); refine zbfn (by assumption) bt_max (by rfl) ?_)
      | ((with_reducible refine (?_ : wE _ (.Call (.Name "list" _) _ _ _) _ _ _)); refine zbty (by assumption) bt_list (by rfl) ?_)
      | ((with_reducible refine (?_ : wE _ (.Call (.Name "tuple" _) _ _ _) _ _ _)); refine zbty (by assumption) bt_tuple (by rfl) ?_)
      | ((with_reducible refine (?_ : wE _ (.Call (.Name "int" _) _ _ _) _ _ _)); refine zbty (by assumption) bt_int (by rfl) ?_)
      | ((with_reducible refine (?_ : wE _ (.Call (.Name "abs" _) _ _ _) _ _ _)); refine zbfn (by assumption) bt_abs (by rfl) ?_)
      | ((with_reducible refine (?_ : wE _ (.Call (.Name "all" _) _ _ _) _ _ _)); refine zbfn (by assumption) bt_all (by rfl) ?_)
      | ((with_reducible refine (?_ : wE _ (.Call (.Name "sum" _) _ _ _) _ _ _)); refine zbfn (by assumption) bt_sum (by rfl) ?_)
      | ((with_reducible refine (?_ : wE _ (.Call (.Name "divmod" _) _ _ _) _ _ _)); refine zbfn (by assumption) bt_divmod (by rfl) ?_)
      | ((with_reducible refine (?_ : wE _ (.Call (.Name "ord" _) _ _ _) _ _ _)); refine zbfn (by assumption) bt_ord (by rfl) ?_))
    | ((with_reducible refine (?_ : wE _ (.IfExp _ _ _ _) _ _ _)); refine zif ?_)
    | ((with_reducible refine (?_ : wE _ (.Tuple _ _ _) _ _ _)); refine ztup ?_)
    | ((with_reducible refine (?_ : wE _ (.List _ _) _ _ _)); refine zlst ?_)
    | ((with_reducible refine (?_ : wE _ (.UnaryOp _ _ _) _ _ _)); first | refine znotV ?_ | refine zneg ?_)
    | ((with_reducible refine (?_ : wE _ (.BoolOp _ _ _) _ _ _)); first | refine zandV ?_ | refine zorV ?_ | refine zoneV ?_))
  | ((with_reducible refine (?_ : bE _ _ _ _ _ _)); refine ⟨fun _ _ _ _ _ => ?_⟩) | ((with_reducible refine (?_ : bG _ _ _ _ _ _ _)); refine ⟨fun _ _ _ _ _ => ?_⟩) | ((with_reducible refine (?_ : bTs _ _ _ _ _ _)); refine ⟨fun _ _ _ _ _ => ?_⟩)
  | ((with_reducible refine (?_ : hE _ _ _ _ _ _)); refine ⟨fun _ _ _ _ _ => ?_⟩) | ((with_reducible refine (?_ : hG _ _ _ _ _ _ _)); refine ⟨fun _ _ _ _ _ => ?_⟩) | ((with_reducible refine (?_ : hTs _ _ _ _ _ _)); refine ⟨fun _ _ _ _ _ => ?_⟩)
  | ((with_reducible refine (?_ : wP _ _ _ _ _)); first | refine pnon ?_ | refine psom ?_) | ((with_reducible refine (?_ : wSl _ _ _ _ _ _)); first | refine slL (by one_place) (fun _ _ _ _ _ => ?_) | refine slS (by assumption) ?_)
  | ((with_reducible refine (?_ : wTs _ _ _ _ _)); first | refine tsnil ?_ | refine tsone ?_)
  | ((with_reducible refine (?_ : wA _ _ _ _ _)); first | refine acons ?_ | refine anil ?_)
  | ((with_reducible refine (?_ : wO _ _ _ _ _ _)); first
    | ((with_reducible refine (?_ : wO _ (binaryOp .Add) _ _ _ _)); first | refine oadd ?_ | refine ocatE (by one_item) (by one_item) (Nat.le_of_ble_eq_true rfl) (fun _ _ _ _ _ => ?_))
    | ((with_reducible refine (?_ : wO _ (binaryOp .Sub) _ _ _ _)); first | refine osub ?_)
    | ((with_reducible refine (?_ : wO _ (binaryOp .Mult) _ _ _ _)); first | refine omul (by first | exact IntMulOk.of_right (by decide) | exact IntMulOk.of_left (by decide) | exact IntMulOk.of_right (intBits_le_64 (by omega) (by omega)) | exact IntMulOk.of_left (intBits_le_64 (by omega) (by omega))) ?_)
    | ((with_reducible refine (?_ : wO _ (binaryOp .Mod) _ _ _ _)); first | refine omod (by first | decide | omega) ?_)
    | ((with_reducible refine (?_ : wO _ (binaryOp .FloorDiv) _ _ _ _)); first | refine ofdiv ⟨by first | decide | omega, by decide⟩ ?_)
    | ((with_reducible refine (?_ : wO _ (binaryOp .BitAnd) _ _ _ _)); first | refine oand ?_)
    | ((with_reducible refine (?_ : wO _ (binaryOp .BitOr) _ _ _ _)); first | refine oor ?_)
    | ((with_reducible refine (?_ : wO _ (compareOp .Lt) _ _ _ _)); first | refine olt ?_)
    | ((with_reducible refine (?_ : wO _ (compareOp .LtE) _ _ _ _)); first | refine ole ?_)
    | ((with_reducible refine (?_ : wO _ (compareOp .Gt) _ _ _ _)); first | refine ogt ?_)
    | ((with_reducible refine (?_ : wO _ (compareOp .GtE) _ _ _ _)); first | refine oge ?_)
    | ((with_reducible refine (?_ : wO _ (compareOp .Eq) _ _ _ _)); first | refine oeqi ?_ | refine oeqsT (by decide +kernel) ?_ | refine oeqsF (by decide +kernel) ?_ | refine oeq (by rfl) ?_)
    | ((with_reducible refine (?_ : wO _ (compareOp .NotEq) _ _ _ _)); first | refine onei ?_ | refine onesT (by decide +kernel) ?_ | refine onesF (by decide +kernel) ?_ | refine one (by rfl) ?_)
    | ((with_reducible refine (?_ : wO _ (compareOp .In) _ _ _ _)); first | refine oin ?_)
    | ((with_reducible refine (?_ : wO _ (compareOp .NotIn) _ _ _ _)); first | refine onin ?_)
    | ((with_reducible refine (?_ : wO _ (compareOp .Is) _ _ _ _)); first | refine ois ?_)
    | ((with_reducible refine (?_ : wO _ (compareOp .IsNot) _ _ _ _)); first | refine onot ?_)
    | ((with_reducible refine (?_ : wO _ (binaryOp .RShift) _ _ _ _)); refine oshr (by first | decide | omega) ?_)
    | ((with_reducible refine (?_ : wO _ (binaryOp .BitXor) _ _ _ _)); refine oxor ?_)
    | ((with_reducible refine (?_ : wO _ (inplaceOp .BitXor) _ _ _ _)); refine ixor ?_)
    | ((with_reducible refine (?_ : wO _ (inplaceOp .RShift) _ _ _ _)); refine ishr (by first | decide | omega) ?_)
    | ((with_reducible refine (?_ : wO _ (inplaceOp .BitOr) _ _ _ _)); first | refine ior ?_)
    | ((with_reducible refine (?_ : wO _ (inplaceOp .Add) _ _ _ _)); first | refine iadd ?_))
  | ((with_reducible refine (?_ : wT _ _ _ _ _)); first
    | ((with_reducible refine (?_ : wT _ (.Compare _ _ _ _) _ _ _)); first | refine zcmpT (by rfl) ?_ | refine zchainT ?_)
    | ((with_reducible refine (?_ : wT _ (.UnaryOp _ _ _) _ _ _)); refine znotT ?_)
    | ((with_reducible refine (?_ : wT _ (.BoolOp _ _ _) _ _ _)); refine zW ?_)
    | refine zval ?_)
  | ((with_reducible refine (?_ : wW _ _ _ _ _)); first | refine zand ?_ | refine zor ?_ | refine zand1 ?_ | refine zor1 ?_)
  | ((with_reducible refine (?_ : wK _ _ _ _ _)); first
    | ((with_reducible refine (?_ : wK _ (.builtin "len") _ _ _)); first | refine klenL (by one_place) ?_ | refine klenT (by one_place) ?_ | refine klenS (by assumption) ?_)
    | ((with_reducible refine (?_ : wK _ (.builtin "isinstance") _ _ _)); first | refine kisE (by assumption) (by assumption) (by first | assumption | exact Xd.exx (by assumption) (by one_sign)) (by first | exact .own _ | exact .ty _) (by assumption) ?_ | refine kisi (.ty _) (by assumption) (by assumption) ?_ | refine kisi (.ty _) (.base (by first | exact .int _ | exact .bl _ | exact .str _ | exact .non | exact .tup (by one_item) | exact .lst (by one_item))) (kit_ty (r := true) (by rfl)) ?_ | refine kisi (.ty _) (.base (by first | exact .int _ | exact .bl _ | exact .str _ | exact .non | exact .tup (by one_item) | exact .lst (by one_item))) (kit_ty (r := false) (by rfl)) ?_)
    | ((with_reducible refine (?_ : wK _ (.builtin "divmod") _ _ _)); refine kdivmod ⟨by first | decide | omega, by decide⟩ (fun _ _ _ _ _ => ?_))
    | ((with_reducible refine (?_ : wK _ (.builtin "min") _ _ _)); refine kmin (by rfl) ?_)
    | ((with_reducible refine (?_ : wK _ (.builtin "max") _ _ _)); refine kmax (by rfl) ?_)
    | ((with_reducible refine (?_ : wK _ (.type "list") _ _ _)); first | refine klistL (by one_place) (fun _ _ _ _ _ => ?_) | refine klistT (by one_place) (fun _ _ _ _ _ => ?_))
    | ((with_reducible refine (?_ : wK _ (.type "tuple") _ _ _)); first | refine ktupL (by one_place) (fun _ _ _ _ _ => ?_)))
  | ((with_reducible refine (?_ : wS _ _ _ _ _)); first
    | ((with_reducible refine (?_ : wS _ (.Assign [.Name _ _] _ _) _ _ _)); refine sset' (by assumption) (by rfl) (by first | exact Or.inl rfl | exact Or.inr rfl) (by rfl) (by first | exact .inl rfl | exact .inr rfl) ?_)
    | ((with_reducible refine (?_ : wS _ (.AugAssign (.Name _ _) _ _ _) _ _ _)); refine saug' (by assumption) (by rfl) (by first | exact Or.inl rfl | exact Or.inr rfl) (by first | exact .inl rfl | exact .inr rfl) (by rfl) ?_)
    | ((with_reducible refine (?_ : wS _ (.Assign [.Attribute _ _ _] _ _) _ _ _)); refine sfld ?_)
    | ((with_reducible refine (?_ : wS _ (.Expr _ _) _ _ _)); refine sexp ?_)
    | ((with_reducible refine (?_ : wS _ (.Assign [.Tuple _ _ _] _ _) _ _ _)); refine sasg ?_) | ((with_reducible refine (?_ : wS _ (.Assign [.Subscript _ _ _] _ _) _ _ _)); refine sasg ?_)
    | refine sret ?_ | refine sif ?_ | refine sretN ?_ | refine spass ?_ | refine sbrk ?_ | refine scont ?_)
  | ((with_reducible refine (?_ : wG _ (.Name _ _) _ _ _ _)); refine gname' (by assumption) (by rfl) (by first | exact Or.inl rfl | exact Or.inr rfl) (by first | exact .inl rfl | exact .inr rfl) ?_)
  | ((with_reducible refine (?_ : wG _ (.Tuple _ _ _) _ _ _ _)); refine gtup rfl (by one_place) rfl ?_) | ((with_reducible refine (?_ : wG _ (.Subscript _ _ _) _ _ _ _)); refine gsub ?_)
  | ((with_reducible refine (?_ : wGs _ _ _ _ _ _)); first | refine gscons ?_ | refine gsnil ?_)
  | ((with_reducible refine (?_ : wB _ _ _ _ _)); first | refine bcons ?_ | refine bnil ?_)
  | refine ifT ?_ | refine ifF ?_ | refine ifd (fun _ => ?_) (fun _ => ?_) | refine ifnd (fun _ => ?_) (fun _ => ?_) | refine ⟨_, rfl, ?_⟩ | refine ⟨rfl, Evl.Ex.refl _, ?_⟩ | refine ⟨_, _, _, _, _, rfl, by one_item, by assumption, by assumption, by rfl, ?_⟩ | refine ⟨Nat.le_of_ble_eq_true rfl, fun _ _ _ _ _ => ?_⟩ | fail)
local macro_rules | `(tactic| top_name) => `(tactic| repeat' tb_rel)
local macro_rules | `(tactic| nest_fact) => `(tactic| first | exact ⟨(decide_eq_true (by omega)).symm, rfl⟩ | exact ⟨(decide_eq_false (by omega)).symm, rfl⟩ | exact ⟨decide_eq_decide.mpr (by omega), rfl⟩ | fail)
local macro_rules | `(tactic| nest_fact) => `(tactic| (refine ixT (SqT.of (by assumption)) rfl ?_; top_name))
theorem ok_lsuits (T : Txt K mg) : ∀ (k : KD), k.dep ≤ 1000 → Gf P w K mg base (1 + k.dep) "_law_suits" [] (spLS K k) := by
  intro k
  induction k with
  | form s' =>
    intro _
    refine gf_mk T.f__law_suits T.m__law_suits (fun _ _ _ _ _ _ us hl => match us, hl with | [_, _], _ => rfl) fun fd F => fn_mk (k := 0) F sc__law_suits (fun vs H Q E h => ?_) fun cd A outer s H vs Q E hr tk po h => ?_
    · obtain ⟨t, v, b, rfl, _⟩ := h; rfl
    · obtain ⟨t, v, b, rfl, hk, hs, q⟩ := h
      have nd := sc__law_suits.nd
      have n1 := T.n_isinstance
      have n2 := T.n_bool
      have n3 := T.n_int
      have n4 := T.n_str
      have n5 := T.n_len
      have n6 := T.n_list
      have n7 := T.n_ord
      cases hk with
      | form hx =>
        cases hs with
        | form =>
          top_name
          nest_fact
          exact q _ (Evl.Ex.refl _)
  | truth =>
    intro _
    refine gf_mk T.f__law_suits T.m__law_suits (fun _ _ _ _ _ _ us hl => match us, hl with | [_, _], _ => rfl) fun fd F => fn_mk (k := 0) F sc__law_suits (fun vs H Q E h => ?_) fun cd A outer s H vs Q E hr tk po h => ?_
    · obtain ⟨t, v, b, rfl, _⟩ := h; rfl
    · obtain ⟨t, v, b, rfl, hk, hs, q⟩ := h
      have nd := sc__law_suits.nd
      have n1 := T.n_isinstance
      have n2 := T.n_bool
      have n3 := T.n_int
      have n4 := T.n_str
      have n5 := T.n_len
      have n6 := T.n_list
      have n7 := T.n_ord
      cases hk with
      | truth hx =>
        cases hs with
        | tyes x =>
          top_name
          nest_fact
          nest_fact
          exact q _ (Evl.Ex.refl _)
        | tno ty hk =>
          top_name
          nest_fact
          nest_fact
          exact q _ (Evl.Ex.refl _)
  | text n =>
    intro _
    refine gf_mk T.f__law_suits T.m__law_suits (fun _ _ _ _ _ _ us hl => match us, hl with | [_, _], _ => rfl) fun fd F => fn_mk (k := 0) F sc__law_suits (fun vs H Q E h => ?_) fun cd A outer s H vs Q E hr tk po h => ?_
    · obtain ⟨t, v, b, rfl, _⟩ := h; rfl
    · obtain ⟨t, v, b, rfl, hk, hs, q⟩ := h
      have nd := sc__law_suits.nd
      have n1 := T.n_isinstance
      have n2 := T.n_bool
      have n3 := T.n_int
      have n4 := T.n_str
      have n5 := T.n_len
      have n6 := T.n_list
      have n7 := T.n_ord
      cases hk with
      | text hx =>
        cases hs with
        | textno ty hk =>
          top_name
          nest_fact
          nest_fact
          nest_fact
          exact q _ (Evl.Ex.refl _)
        | text x hz hp =>
          have hzs : x.length ≤ sizeLine := by rw [sizeLine_eq]; omega
          top_name
          nest_fact
          nest_fact
          nest_fact
          refine ixT (SqT.of hx) rfl ?_
          top_name
          · rename_i hgt
            have := q _ (Evl.Ex.refl _)
            rw [decide_eq_false (show ¬ (x.length : Int) ≤ n by omega)] at this
            exact this
          · rename_i hle
            refine zlc rfl nd [("_law_sign", 3)] (blkOk_by (N := N__law_suits) (sc := defScope s__law_suits) (by decide +kernel)) piS (tmS (x := x) (fun j => ((x.cps.toList.take j).filter fun c => !signB c).map fun c => V.str ⟨#[c]⟩) rfl ?_)
            top_name
            refine ⟨rfl, fun j c H1 hc e1 => ?_, fun L H1 hL e1 hxL => ?_⟩
            · have hc' : x.cps.toList[j]? = some c := by rw [Array.getElem?_toList]; exact hc
              have hl2 : (((x.cps.toList.take j).filter fun c => !signB c).map fun c => V.str ⟨#[c]⟩).length < sizeLine := by
                have h1 := List.length_filter_le (fun c => !signB c) (x.cps.toList.take j)
                have h2 := List.length_take_le j x.cps.toList
                have h3 := (Array.getElem?_eq_some_iff.mp hc).1
                have e : x.length = x.cps.size := rfl
                rw [List.length_map, sizeLine_eq]
                omega
              have yes : signB c = false → ((x.cps.toList.take (j + 1)).filter fun c => !signB c).map (fun c => V.str ⟨#[c]⟩) = ((x.cps.toList.take j).filter fun c => !signB c).map (fun c => V.str ⟨#[c]⟩) ++ [V.str ⟨#[c]⟩] := fun h => by
                rw [List.take_add_one, hc', List.filter_append, List.map_append]
                simp [h]
              have no : signB c = true → ((x.cps.toList.take (j + 1)).filter fun c => !signB c).map (fun c => V.str ⟨#[c]⟩) = ((x.cps.toList.take j).filter fun c => !signB c).map (fun c => V.str ⟨#[c]⟩) := fun h => by
                rw [List.take_add_one, hc', List.filter_append, List.map_append]
                simp [h]
              top_name
              refine kord rfl ?_
              top_name
              · rename_i h _ _ _ _ _
                have h : ((c : Nat) : Int) < 32 := h
                refine ⟨yes (by unfold signB; rw [decide_eq_false (show ¬ 32 ≤ c by omega)]; rfl), hl2, Evl.Ex.refl _⟩
              · rename_i h
                have h : ¬ ((c : Nat) : Int) < 32 := h
                refine kord rfl ?_
                top_name
                · rename_i h2 _ _ _ _ _
                  have h2 : 126 < ((c : Nat) : Int) := h2
                  refine ⟨yes (by unfold signB; rw [decide_eq_false (show ¬ c ≤ 126 by omega), Bool.and_false]), hl2, Evl.Ex.refl _⟩
                · rename_i h2
                  have h2 : ¬ 126 < ((c : Nat) : Int) := h2
                  refine ⟨no (by unfold signB; rw [decide_eq_true (show 32 ≤ c by omega), decide_eq_true (show c ≤ 126 by omega)]; rfl), Evl.Ex.refl _⟩
            · rw [show x.cps.size = x.cps.toList.length from by simp, List.take_length] at hxL
              top_name
              rename_i U H2 hU e2 hxU
              refine oeqStrs (ys := (x.cps.toList.filter fun c => !signB c).map fun c => (⟨#[c]⟩ : Str)) (zs := []) hr (SqL.of (by rw [List.map_map]; exact e2 _ _ hxL)) (SqL.of hxU) ?_
              have := q _ (e1.trans e2)
              rw [decide_eq_true (show (x.length : Int) ≤ n by omega), Bool.true_and] at this
              rw [(decide_eq_decide.mpr (all_nil x.cps.toList)).trans (dec_true _)]
              exact this
  | list k ih =>
    intro hdp
    refine gf_mk T.f__law_suits T.m__law_suits (fun _ _ _ _ _ _ us hl => match us, hl with | [_, _], _ => rfl) fun fd F => fn_mk (k := 1 + k.dep) F sc__law_suits (fun vs H Q E h => ?_) fun cd A outer s H vs Q E hr tk po h => ?_
    · obtain ⟨t, v, b, rfl, _⟩ := h; rfl
    · obtain ⟨t, v, b, rfl, hk, hs, q⟩ := h
      have nd := sc__law_suits.nd
      have n1 := T.n_isinstance
      have n2 := T.n_bool
      have n3 := T.n_int
      have n4 := T.n_str
      have n5 := T.n_len
      have n6 := T.n_list
      have n7 := T.n_ord
      cases hk with
      | list hx hi =>
        cases hs with
        | listno ty hk =>
          top_name
          nest_fact
          nest_fact
          nest_fact
          nest_fact
          exact q _ (Evl.Ex.refl _)
        | @list _ l xs bs h hz al =>
          have hlb := al.length
          top_name
          nest_fact
          nest_fact
          nest_fact
          nest_fact
          · rename_i hgt
            have := q _ (Evl.Ex.refl _)
            rw [decide_eq_false (show ¬ xs.length ≤ 20 by omega)] at this
            exact this
          · rename_i hle
            refine zlc rfl nd [("_law_thing", 4)] (blkOk_by (N := N__law_suits) (sc := defScope s__law_suits) (by decide +kernel)) piL (tmL (xs := xs) (bad xs bs) (by unfold bad; simp) ?_)
            top_name
            refine ⟨SqL.of h, fun j y H1 hy e1 => ?_, fun L H1 hL e1 hxL => ?_⟩
            · obtain ⟨b', hb', hsu⟩ := al.get hy
              have hx1 := e1 _ _ hx
              have hsucc := bad_succ hy hb'
              top_name
              refine zcall (ih (by have : k.dep + 1 ≤ 1000 := hdp; omega)) hr (Nat.le_refl _) takesF rfl ?_
              top_name
              refine ixT (SqT.of hx1) rfl ?_
              top_name
              refine ⟨_, y, b', rfl, hi.ex e1, hsu.ex e1, fun H2 e2 => ?_⟩
              cases b' with
              | true =>
                rw [if_pos rfl, List.append_nil] at hsucc
                top_name
                exact ⟨hsucc, e2⟩
              | false =>
                rw [if_neg Bool.false_ne_true] at hsucc
                top_name
                exact ⟨hsucc, by have := bad_len xs bs j; rw [sizeLine_eq]; omega, e2⟩
            · top_name
              rename_i U H2 hU e2 hxU
              refine oeqNil hr (SqL.of (e2 _ _ hxL)) (SqL.of hxU) ?_
              rw [bad_nil hlb]
              have := q _ (e1.trans e2)
              rw [decide_eq_true (show xs.length ≤ 20 by omega), Bool.true_and] at this
              exact this
  | whole =>
    intro _
    refine gf_mk T.f__law_suits T.m__law_suits (fun _ _ _ _ _ _ us hl => match us, hl with | [_, _], _ => rfl) fun fd F => fn_mk (k := 0) F sc__law_suits (fun vs H Q E h => ?_) fun cd A outer s H vs Q E hr tk po h => ?_
    · obtain ⟨t, v, b, rfl, _⟩ := h; rfl
    · obtain ⟨t, v, b, rfl, hk, hs, q⟩ := h
      have nd := sc__law_suits.nd
      have n1 := T.n_isinstance
      have n2 := T.n_bool
      have n3 := T.n_int
      have n4 := T.n_str
      have n5 := T.n_len
      have n6 := T.n_list
      have n7 := T.n_ord
      cases hk with
      | @whole t hx =>
        cases hs with
        | whole hs =>
          cases hs with
          | int m =>
            top_name
            nest_fact
            nest_fact
            nest_fact
            nest_fact
            refine opow (by decide) (by decide +kernel) ?_
            top_name
            refine opow (by decide) (by decide +kernel) ?_
            top_name
            refine opow (by decide) (by decide +kernel) ?_
            refine omul (IntMulOk.of_bits (by decide +kernel) (by decide +kernel)) ?_
            rw [show ((2 : Int) ^ (64 : Int).toNat) ^ (3 : Int).toNat * 2 ^ (63 : Int).toNat = HALF from by decide +kernel]
            top_name
            nest_fact
            · rename_i h1
              have := q _ (Evl.Ex.refl _)
              rw [show decide (-HALF ≤ m ∧ m ≤ HALF - 1) = decide (m < HALF) from decide_eq_decide.mpr ⟨fun z => by omega, fun z => ⟨h1, by omega⟩⟩] at this
              exact this
            · rename_i h1
              have := q _ (Evl.Ex.refl _)
              rw [decide_eq_false (fun z => h1 z.1)] at this
              exact this
          | odd hn =>
            obtain ⟨tt, k1, k2, ty, w1, w2, wk⟩ := hn
            top_name
            nest_fact
            nest_fact
            nest_fact
            nest_fact
            cases k1 with
            | false =>
              first | (refine kisi (.ty _) ty w1 ?_; top_name) | top_name
              exact q _ (Evl.Ex.refl _)
            | true =>
              have hk2 : k2 = true := by cases k2 with | true => rfl | false => cases wk
              subst hk2
              first | (refine kisi (.ty _) ty w1 ?_; top_name) | top_name
              first | (refine kisi (.ty _) ty w2 ?_; top_name) | skip
              exact q _ (Evl.Ex.refl _)
  | count =>
    intro _
    refine gf_mk T.f__law_suits T.m__law_suits (fun _ _ _ _ _ _ us hl => match us, hl with | [_, _], _ => rfl) fun fd F => fn_mk (k := 0) F sc__law_suits (fun vs H Q E h => ?_) fun cd A outer s H vs Q E hr tk po h => ?_
    · obtain ⟨t, v, b, rfl, _⟩ := h; rfl
    · obtain ⟨t, v, b, rfl, hk, hs, q⟩ := h
      have nd := sc__law_suits.nd
      have n1 := T.n_isinstance
      have n2 := T.n_bool
      have n3 := T.n_int
      have n4 := T.n_str
      have n5 := T.n_len
      have n6 := T.n_list
      have n7 := T.n_ord
      cases hk with
      | @count t hx =>
        cases hs with
        | count hs =>
          cases hs with
          | int m =>
            top_name
            nest_fact
            nest_fact
            nest_fact
            nest_fact
            refine opow (by decide) (by decide +kernel) ?_
            top_name
            refine opow (by decide) (by decide +kernel) ?_
            top_name
            refine opow (by decide) (by decide +kernel) ?_
            refine omul (IntMulOk.of_bits (by decide +kernel) (by decide +kernel)) ?_
            rw [show ((2 : Int) ^ (64 : Int).toNat) ^ (3 : Int).toNat * 2 ^ (63 : Int).toNat = HALF from by decide +kernel]
            top_name
            nest_fact
            · rename_i h1
              nest_fact
              have := q _ (Evl.Ex.refl _)
              rw [show decide (0 ≤ m ∧ m ≤ MOST) = decide (m ≤ 2 * HALF - 1) from by rw [most_half]; exact decide_eq_decide.mpr ⟨fun z => z.2, fun z => ⟨h1, z⟩⟩] at this
              exact this
            · rename_i h1
              have := q _ (Evl.Ex.refl _)
              rw [decide_eq_false (fun z => h1 z.1)] at this
              exact this
          | odd hn =>
            obtain ⟨tt, k1, k2, ty, w1, w2, wk⟩ := hn
            top_name
            nest_fact
            nest_fact
            nest_fact
            nest_fact
            cases k1 with
            | false =>
              first | (refine kisi (.ty _) ty w1 ?_; top_name) | top_name
              exact q _ (Evl.Ex.refl _)
            | true =>
              have hk2 : k2 = true := by cases k2 with | true => rfl | false => cases wk
              subst hk2
              first | (refine kisi (.ty _) ty w1 ?_; top_name) | top_name
              first | (refine kisi (.ty _) ty w2 ?_; top_name) | skip
              exact q _ (Evl.Ex.refl _)
  | upto n =>
    intro _
    refine gf_mk T.f__law_suits T.m__law_suits (fun _ _ _ _ _ _ us hl => match us, hl with | [_, _], _ => rfl) fun fd F => fn_mk (k := 0) F sc__law_suits (fun vs H Q E h => ?_) fun cd A outer s H vs Q E hr tk po h => ?_
    · obtain ⟨t, v, b, rfl, _⟩ := h; rfl
    · obtain ⟨t, v, b, rfl, hk, hs, q⟩ := h
      have nd := sc__law_suits.nd
      have n1 := T.n_isinstance
      have n2 := T.n_bool
      have n3 := T.n_int
      have n4 := T.n_str
      have n5 := T.n_len
      have n6 := T.n_list
      have n7 := T.n_ord
      cases hk with
      | @upto t n hx =>
        cases hs with
        | upto hs =>
          cases hs with
          | int m =>
            top_name
            nest_fact
            nest_fact
            nest_fact
            nest_fact
            refine opow (by decide) (by decide +kernel) ?_
            top_name
            refine opow (by decide) (by decide +kernel) ?_
            top_name
            refine opow (by decide) (by decide +kernel) ?_
            refine omul (IntMulOk.of_bits (by decide +kernel) (by decide +kernel)) ?_
            rw [show ((2 : Int) ^ (64 : Int).toNat) ^ (3 : Int).toNat * 2 ^ (63 : Int).toNat = HALF from by decide +kernel]
            top_name
            nest_fact
            · rename_i h1
              nest_fact
              nest_fact
              have := q _ (Evl.Ex.refl _)
              rw [show decide (0 ≤ m ∧ m ≤ n) = decide (m ≤ n) from decide_eq_decide.mpr ⟨fun z => z.2, fun z => ⟨h1, z⟩⟩] at this
              exact this
            · rename_i h1
              have := q _ (Evl.Ex.refl _)
              rw [decide_eq_false (fun z => h1 z.1)] at this
              exact this
          | odd hn =>
            obtain ⟨tt, k1, k2, ty, w1, w2, wk⟩ := hn
            top_name
            nest_fact
            nest_fact
            nest_fact
            nest_fact
            cases k1 with
            | false =>
              first | (refine kisi (.ty _) ty w1 ?_; top_name) | top_name
              exact q _ (Evl.Ex.refl _)
            | true =>
              have hk2 : k2 = true := by cases k2 with | true => rfl | false => cases wk
              subst hk2
              first | (refine kisi (.ty _) ty w1 ?_; top_name) | top_name
              first | (refine kisi (.ty _) ty w2 ?_; top_name) | skip
              exact q _ (Evl.Ex.refl _)
end K07

set_option maxRecDepth 100000
set_option maxHeartbeats 4000000
set_option pp.maxSteps 1500
namespace K07
open PySem PySem.Spec PyProof.Rows L2 Z
open Evl (Ex)
variable {P : Program} {w : World} {K : PySem.W.Frag} {mg : Str → Option Value} {base : Heap}
/-! ### steps of the walk: one_sign: a heap grew into another; one_item: what stands at an address; one_place: a list or tuple to be read; leaf_len: arithmetic; tb_rel: one step; top_name: steps as far as they go -/
local macro_rules | `(tactic| got_up) => `(tactic| (refine Evl.Ex.trans (by assumption) ?_; first | assumption | exact Evl.Ex.refl _ | got_up))
local macro_rules | `(tactic| units_room) => `(tactic| (refine Evl.Ex.trans ?_ (by assumption); first | assumption | exact Evl.Ex.refl _ | units_room))
local macro_rules | `(tactic| one_sign) => `(tactic| first | assumption | exact Evl.Ex.refl _ | got_up | units_room)
local macro_rules | `(tactic| one_item) => `(tactic| first | assumption | exact upd_same | exact exa (by assumption) (by one_sign))
local macro_rules | `(tactic| one_place) => `(tactic| first | assumption | exact SqL.of (by assumption) | exact SqT.of (by assumption) | exact exl (by assumption) (by one_sign) | exact ext (by assumption) (by one_sign) | exact SqL.of (by one_item) | exact SqT.of (by one_item))
local macro_rules | `(tactic| leaf_len) => `(tactic| first | assumption | decide | omega)
local macro_rules | `(tactic| tb_rel) => `(tactic| first
  | ((with_reducible refine (?_ : wE _ _ _ _ _)); first
    | ((with_reducible refine (?_ : wE _ (.Name _ _) _ _ _)); first | refine zn (by rfl) (by first | exact Or.inl rfl | exact Or.inr (Or.inl rfl) | exact Or.inr (Or.inr rfl)) (by rfl) ?_ | refine zglob (by assumption) (by rfl) ?_ | refine zcls (by assumption) (by rfl) ?_ | refine zty (by assumption) (by first | exact bt_int | exact bt_bool | exact bt_str | exact bt_list | exact bt_tuple | exact bt_dict | exact bt_ValueError) (by rfl) ?_)
    | ((with_reducible refine (?_ : wE _ (.Attribute _ _ _) _ _ _)); refine zfld ?_)
    | ((with_reducible refine (?_ : wE _ (.Constant _ _ _) _ _ _)); first | refine zint ?_ | refine zstr ?_ | refine zbl ?_ | refine znon ?_)
    | ((with_reducible refine (?_ : wE _ (.BinOp _ _ _ _) _ _ _)); refine zbin ?_)
    | ((with_reducible refine (?_ : wE _ (.Compare _ _ _ _) _ _ _)); first | refine zcmp (by rfl) ?_ | refine zchain ?_)
    | ((with_reducible refine (?_ : wE _ (.Dict [] [] _) _ _ _)); refine zdnew (fun _ _ _ _ _ => ?_))
    | ((with_reducible refine (?_ : wE _ (.Subscript _ (.Slice _ _ _ _) _) _ _ _)); refine zsl ?_)
    | ((with_reducible refine (?_ : wE _ (.Subscript _ _ _) _ _ _)); refine zix ?_)
    | ((with_reducible refine (?_ : wE _ (.Call (.Name "list" _) [.Call (.Name "range" _) [_] [] _] [] _) _ _ _)); refine zlrg1 rfl (by rfl) (by assumption) (by rfl) (by assumption) ?_)
    | ((with_reducible refine (?_ : wE _ (.Call (.Name _ _) _ _ _) _ _ _)); first
      | ((with_reducible refine (?_ : wE _ (.Call (.Name "len" _) _ _ _) _ _ _)); refine zbfn (by assumption) bt_len (by rfl) ?_)
      | ((with_reducible refine (?_ : wE _ (.Call (.Name "isinstance" _) _ _ _) _ _ _)); refine zbfn (by assumption) bt_isi (by rfl) ?_)
      | ((with_reducible refine (?_ : wE _ (.Call (.Name "min" _) _ _ _) _ _ _)); refine zbfn (by assumption) bt_min (by rfl) ?_)
      | ((with_reducible refine (?_ : wE _ (.Call (.Name "max" _) _ _ _) _ _ _)); refine zbfn (by assumption) bt_max (by rfl) ?_)
      | ((with_reducible refine (?_ : wE _ (.Call (.Name "list" _) _ _ _) _ _ _)); refine zbty (by assumption) bt_list (by rfl) ?_)
      | ((with_reducible refine (?_ : wE _ (.Call (.Name "tuple" _) _ _ _) _ _ _)); refine zbty (by assumption) bt_tuple (by rfl) ?_)
      | ((with_reducible refine (?_ : wE _ (.Call (.Name "int" _) _ _ _) _ _ _)); refine zbty (by assumption) bt_int (by rfl) ?_)
      | ((with_reducible refine (?_ : wE _ (.Call (.Name "abs" _) _ _ _) _ _ _)); refine zbfn (by assumption) bt_abs (by rfl) ?_)
      | ((with_reducible refine (?_ : wE _ (.Call (.Name "all" _) _ _ _) _ _ _)); refine zbfn (by assumption) bt_all (by rfl) ?_)
      | ((with_reducible refine (?_ : wE _ (.Call (.Name "sum" _) _ _ _) _ _ _)); refine zbfn (by assumption) bt_sum (by rfl) ?_)
      | ((with_reducible refine (?_ : wE _ (.Call (.Name "divmod" _) _ _ _) _ _ _)); refine zbfn (by assumption) bt_divmod (by rfl) ?_)
      | ((with_reducible refine (?_ : wE _ (.Call (.Name "ord" _) _ _ _) _ _ _)); refine zbfn (by assumption) bt_ord (by rfl) ?_))
    | ((with_reducible refine (?_ : wE _ (.IfExp _ _ _ _) _ _ _)); refine zif ?_)
    | ((with_reducible refine (?_ : wE _ (.Tuple _ _ _) _ _ _)); refine ztup ?_)
    | ((with_reducible refine (?_ : wE _ (.List _ _) _ _ _)); refine zlst ?_)
    | ((with_reducible refine (?_ : wE _ (.UnaryOp _ _ _) _ _ _)); first | refine znotV ?_ | refine zneg ?_)
    | ((with_reducible refine (?_ : wE _ (.BoolOp _ _ _) _ _ _)); first | refine zandV ?_ | refine zorV ?_ | refine zoneV ?_))
  | ((with_reducible refine (?_ : bE _ _ _ _ _ _)); refine ⟨fun _ _ _ _ _ => ?_⟩) | ((with_reducible refine (?_ : bG _ _ _ _ _ _ _)); refine ⟨fun _ _ _ _ _ => ?_⟩) | ((with_reducible refine (?_ : bTs _ _ _ _ _ _)); refine ⟨fun _ _ _ _ _ => ?_⟩)
  | ((with_reducible refine (?_ : hE _ _ _ _ _ _)); refine ⟨fun _ _ _ _ _ => ?_⟩) | ((with_reducible refine (?_ : hG _ _ _ _ _ _ _)); refine ⟨fun _ _ _ _ _ => ?_⟩) | ((with_reducible refine (?_ : hTs _ _ _ _ _ _)); refine ⟨fun _ _ _ _ _ => ?_⟩)
  | ((with_reducible refine (?_ : wP _ _ _ _ _)); first | refine pnon ?_ | refine psom ?_) | ((with_reducible refine (?_ : wSl _ _ _ _ _ _)); first | refine slL (by one_place) (fun _ _ _ _ _ => ?_) | refine slS (by assumption) ?_)
  | ((with_reducible refine (?_ : wTs _ _ _ _ _)); first | refine tsnil ?_ | refine tsone ?_)
  | ((with_reducible refine (?_ : wA _ _ _ _ _)); first | refine acons ?_ | refine anil ?_)
  | ((with_reducible refine (?_ : wO _ _ _ _ _ _)); first
    | ((with_reducible refine (?_ : wO _ (binaryOp .Add) _ _ _ _)); first | refine oadd ?_ | refine ocatE (by one_item) (by one_item) (Nat.le_of_ble_eq_true rfl) (fun _ _ _ _ _ => ?_))
    | ((with_reducible refine (?_ : wO _ (binaryOp .Sub) _ _ _ _)); first | refine osub ?_)
    | ((with_reducible refine (?_ : wO _ (binaryOp .Mult) _ _ _ _)); first | refine omul (by first | exact IntMulOk.of_right (by decide) | exact IntMulOk.of_left (by decide) | exact IntMulOk.of_right (intBits_le_64 (by omega) (by omega)) | exact IntMulOk.of_left (intBits_le_64 (by omega) (by omega))) ?_)
    | ((with_reducible refine (?_ : wO _ (binaryOp .Mod) _ _ _ _)); first | refine omod (by first | decide | omega) ?_)
    | ((with_reducible refine (?_ : wO _ (binaryOp .FloorDiv) _ _ _ _)); first | refine ofdiv ⟨by first | decide | omega, by decide⟩ ?_)
    | ((with_reducible refine (?_ : wO _ (binaryOp .BitAnd) _ _ _ _)); first | refine oand ?_)
    | ((with_reducible refine (?_ : wO _ (binaryOp .BitOr) _ _ _ _)); first | refine oor ?_)
    | ((with_reducible refine (?_ : wO _ (compareOp .Lt) _ _ _ _)); first | refine olt ?_)
    | ((with_reducible refine (?_ : wO _ (compareOp .LtE) _ _ _ _)); first | refine ole ?_)
    | ((with_reducible refine (?_ : wO _ (compareOp .Gt) _ _ _ _)); first | refine ogt ?_)
    | ((with_reducible refine (?_ : wO _ (compareOp .GtE) _ _ _ _)); first | refine oge ?_)
    | ((with_reducible refine (?_ : wO _ (compareOp .Eq) _ _ _ _)); first | refine oeqi ?_ | refine oeqsT (by decide +kernel) ?_ | refine oeqsF (by decide +kernel) ?_ | refine oeq (by rfl) ?_)
    | ((with_reducible refine (?_ : wO _ (compareOp .NotEq) _ _ _ _)); first | refine onei ?_ | refine onesT (by decide +kernel) ?_ | refine onesF (by decide +kernel) ?_ | refine one (by rfl) ?_)
    | ((with_reducible refine (?_ : wO _ (compareOp .In) _ _ _ _)); first | refine oin ?_)
    | ((with_reducible refine (?_ : wO _ (compareOp .NotIn) _ _ _ _)); first | refine onin ?_)
    | ((with_reducible refine (?_ : wO _ (compareOp .Is) _ _ _ _)); first | refine ois ?_)
    | ((with_reducible refine (?_ : wO _ (compareOp .IsNot) _ _ _ _)); first | refine onot ?_)
    | ((with_reducible refine (?_ : wO _ (binaryOp .RShift) _ _ _ _)); refine oshr (by first | decide | omega) ?_)
    | ((with_reducible refine (?_ : wO _ (binaryOp .BitXor) _ _ _ _)); refine oxor ?_)
    | ((with_reducible refine (?_ : wO _ (inplaceOp .BitXor) _ _ _ _)); refine ixor ?_)
    | ((with_reducible refine (?_ : wO _ (inplaceOp .RShift) _ _ _ _)); refine ishr (by first | decide | omega) ?_)
    | ((with_reducible refine (?_ : wO _ (inplaceOp .BitOr) _ _ _ _)); first | refine ior ?_)
    | ((with_reducible refine (?_ : wO _ (inplaceOp .Add) _ _ _ _)); first | refine iadd ?_))
  | ((with_reducible refine (?_ : wT _ _ _ _ _)); first
    | ((with_reducible refine (?_ : wT _ (.Compare _ _ _ _) _ _ _)); first | refine zcmpT (by rfl) ?_ | refine zchainT ?_)
    | ((with_reducible refine (?_ : wT _ (.UnaryOp _ _ _) _ _ _)); refine znotT ?_)
    | ((with_reducible refine (?_ : wT _ (.BoolOp _ _ _) _ _ _)); refine zW ?_)
    | refine zval ?_)
  | ((with_reducible refine (?_ : wW _ _ _ _ _)); first | refine zand ?_ | refine zor ?_ | refine zand1 ?_ | refine zor1 ?_)
  | ((with_reducible refine (?_ : wK _ _ _ _ _)); first
    | ((with_reducible refine (?_ : wK _ (.builtin "len") _ _ _)); first | refine klenL (by one_place) ?_ | refine klenT (by one_place) ?_ | refine klenS (by assumption) ?_)
    | ((with_reducible refine (?_ : wK _ (.builtin "isinstance") _ _ _)); first | refine kisE (by assumption) (by assumption) (by first | assumption | exact Xd.exx (by assumption) (by one_sign)) (by first | exact .own _ | exact .ty _) (by assumption) ?_ | refine kisi (.ty _) (by assumption) (by assumption) ?_ | refine kisi (.ty _) (.base (by first | exact .int _ | exact .bl _ | exact .str _ | exact .non | exact .tup (by one_item) | exact .lst (by one_item))) (kit_ty (r := true) (by rfl)) ?_ | refine kisi (.ty _) (.base (by first | exact .int _ | exact .bl _ | exact .str _ | exact .non | exact .tup (by one_item) | exact .lst (by one_item))) (kit_ty (r := false) (by rfl)) ?_)
    | ((with_reducible refine (?_ : wK _ (.builtin "divmod") _ _ _)); refine kdivmod ⟨by first | decide | omega, by decide⟩ (fun _ _ _ _ _ => ?_))
    | ((with_reducible refine (?_ : wK _ (.builtin "min") _ _ _)); refine kmin (by rfl) ?_)
    | ((with_reducible refine (?_ : wK _ (.builtin "max") _ _ _)); refine kmax (by rfl) ?_)
    | ((with_reducible refine (?_ : wK _ (.type "list") _ _ _)); first | refine klistL (by one_place) (fun _ _ _ _ _ => ?_) | refine klistT (by one_place) (fun _ _ _ _ _ => ?_))
    | ((with_reducible refine (?_ : wK _ (.type "tuple") _ _ _)); first | refine ktupL (by one_place) (fun _ _ _ _ _ => ?_)))
  | ((with_reducible refine (?_ : wS _ _ _ _ _)); first
    | ((with_reducible refine (?_ : wS _ (.Assign [.Name _ _] _ _) _ _ _)); refine sset' (by assumption) (by rfl) (by first | exact Or.inl rfl | exact Or.inr rfl) (by rfl) (by first | exact .inl rfl | exact .inr rfl) ?_)
    | ((with_reducible refine (?_ : wS _ (.AugAssign (.Name _ _) _ _ _) _ _ _)); refine saug' (by assumption) (by rfl) (by first | exact Or.inl rfl | exact Or.inr rfl) (by first | exact .inl rfl | exact .inr rfl) (by rfl) ?_)
    | ((with_reducible refine (?_ : wS _ (.Assign [.Attribute _ _ _] _ _) _ _ _)); refine sfld ?_)
    | ((with_reducible refine (?_ : wS _ (.Expr _ _) _ _ _)); refine sexp ?_)
    | ((with_reducible refine (?_ : wS _ (.Assign [.Tuple _ _ _] _ _) _ _ _)); refine sasg ?_) | ((with_reducible refine (?_ : wS _ (.Assign [.Subscript _ _ _] _ _) _ _ _)); refine sasg ?_)
    | refine sret ?_ | refine sif ?_ | refine sretN ?_ | refine spass ?_ | refine sbrk ?_ | refine scont ?_)
  | ((with_reducible refine (?_ : wG _ (.Name _ _) _ _ _ _)); refine gname' (by assumption) (by rfl) (by first | exact Or.inl rfl | exact Or.inr rfl) (by first | exact .inl rfl | exact .inr rfl) ?_)
  | ((with_reducible refine (?_ : wG _ (.Tuple _ _ _) _ _ _ _)); refine gtup rfl (by one_place) rfl ?_) | ((with_reducible refine (?_ : wG _ (.Subscript _ _ _) _ _ _ _)); refine gsub ?_)
  | ((with_reducible refine (?_ : wGs _ _ _ _ _ _)); first | refine gscons ?_ | refine gsnil ?_)
  | ((with_reducible refine (?_ : wB _ _ _ _ _)); first | refine bcons ?_ | refine bnil ?_)
  | refine ifT ?_ | refine ifF ?_ | refine ifd (fun _ => ?_) (fun _ => ?_) | refine ifnd (fun _ => ?_) (fun _ => ?_) | refine ⟨_, rfl, ?_⟩ | refine ⟨rfl, Evl.Ex.refl _, ?_⟩ | refine ⟨_, _, _, _, _, rfl, by one_item, by assumption, by assumption, by rfl, ?_⟩ | refine ⟨Nat.le_of_ble_eq_true rfl, fun _ _ _ _ _ => ?_⟩ | fail)
local macro_rules | `(tactic| top_name) => `(tactic| repeat' tb_rel)
local macro_rules | `(tactic| nest_fact) => `(tactic| first | exact ⟨(decide_eq_true (by omega)).symm, rfl⟩ | exact ⟨(decide_eq_false (by omega)).symm, rfl⟩ | exact ⟨decide_eq_decide.mpr (by omega), rfl⟩ | fail)
local macro_rules | `(tactic| nest_fact) => `(tactic| (refine ixT (SqT.of (by assumption)) rfl ?_; top_name))
/-! ### things that are asked about -/
inductive Val (K : PySem.W.Frag) (H : Hp) : V → Prop
  | int (n : Int) : Val K H (.int n)
  | bl (b : Bool) : Val K H (.bl b)
  | non : Val K H .non
  | str (x : Str) (hz : x.length ≤ 1000) (hp : ∀ c ∈ x.cps.toList, c ≠ 37) : Val K H (.str x)
  | lst {l : Addr} {xs : List V} (h : H l = some (.lst xs)) (hz : xs.length ≤ 1000) (a : ∀ x ∈ xs, Val K H x) : Val K H (.ref l)
  | odd {v : V} {t : Value} (ty : TyX K H v t) (k1 : PySem.W.kitOne K t (.type "int") = some false) (k2 : PySem.W.kitOne K t (.type "bool") = some false) (k3 : PySem.W.kitOne K t (.type "str") = some false) (k4 : PySem.W.kitOne K t (.type "list") = some false) : Val K H v
theorem Val.ex {H H' : Hp} (e : Ex H H') {v : V} (h : Val K H v) : Val K H' v := by
  induction h with
  | int n => exact .int n
  | bl b => exact .bl b
  | non => exact .non
  | str x hz hp => exact .str x hz hp
  | lst h hz a ih => exact .lst (e _ _ h) hz ih
  | odd ty k1 k2 k3 k4 => exact .odd (TyX.ex e ty) k1 k2 k3 k4
theorem Val.asked {H : Hp} {v : V} (h : Val K H v) (lo hi : Int) : ∃ b, Asked K H lo hi v b := by
  cases h with
  | int n => exact ⟨_, .int n⟩
  | bl b => exact ⟨_, .odd (nw_bl b)⟩
  | non => exact ⟨_, .odd nw_non⟩
  | str x hz hp => exact ⟨_, .odd (nw_str x)⟩
  | lst h hz a => exact ⟨_, .odd (nw_lst h)⟩
  | odd ty k1 k2 k3 k4 => exact ⟨_, .odd ⟨_, _, _, ty, k1, k2, rfl⟩⟩
theorem suit_all {H : Hp} {k : KD} : ∀ {xs : List V}, (∀ x ∈ xs, ∃ b, Suit K H k x b) → ∃ bs, SuitAll K H k xs bs
  | [], _ => ⟨[], .nil⟩
  | x :: xs, h => by
    obtain ⟨b, hb⟩ := h x List.mem_cons_self
    obtain ⟨bs, hbs⟩ := suit_all (xs := xs) fun y hy => h y (List.mem_cons_of_mem _ hy)
    exact ⟨b :: bs, .cons hb hbs⟩
theorem suit_ex {H : Hp} : ∀ (k : KD) {v : V}, Val K H v → ∃ b, Suit K H k v b
  | .form s, v, _ => ⟨true, .form v⟩
  | .truth, v, h => by
    cases h with
    | int n => exact ⟨_, .tno (.base (.int n)) (kit_ty rfl)⟩
    | bl b => exact ⟨_, .tyes b⟩
    | non => exact ⟨_, .tno (.base .non) (kit_ty rfl)⟩
    | str x hz hp => exact ⟨_, .tno (.base (.str x)) (kit_ty rfl)⟩
    | lst h hz a => exact ⟨_, .tno (.base (.lst h)) (kit_ty rfl)⟩
    | odd ty k1 k2 k3 k4 => exact ⟨_, .tno ty k2⟩
  | .count, v, h => by obtain ⟨b, hb⟩ := h.asked 0 MOST; exact ⟨b, .count hb⟩
  | .whole, v, h => by obtain ⟨b, hb⟩ := h.asked (-HALF) (HALF - 1); exact ⟨b, .whole hb⟩
  | .upto n, v, h => by obtain ⟨b, hb⟩ := h.asked 0 n; exact ⟨b, .upto hb⟩
  | .text n, v, h => by
    cases h with
    | int n => exact ⟨_, .textno (.base (.int n)) (kit_ty rfl)⟩
    | bl b => exact ⟨_, .textno (.base (.bl b)) (kit_ty rfl)⟩
    | non => exact ⟨_, .textno (.base .non) (kit_ty rfl)⟩
    | str x hz hp => exact ⟨_, .text x hz hp⟩
    | lst h hz a => exact ⟨_, .textno (.base (.lst h)) (kit_ty rfl)⟩
    | odd ty k1 k2 k3 k4 => exact ⟨_, .textno ty k3⟩
  | .list k, v, h => by
    cases h with
    | int n => exact ⟨_, .listno (.base (.int n)) (kit_ty rfl)⟩
    | bl b => exact ⟨_, .listno (.base (.bl b)) (kit_ty rfl)⟩
    | non => exact ⟨_, .listno (.base .non) (kit_ty rfl)⟩
    | str x hz hp => exact ⟨_, .listno (.base (.str x)) (kit_ty rfl)⟩
    | lst h hz a =>
      obtain ⟨bs, hbs⟩ := suit_all (k := k) fun x hx => suit_ex k (a x hx)
      exact ⟨_, .list h hz hbs⟩
    | odd ty k1 k2 k3 k4 => exact ⟨_, .listno ty k4⟩
theorem mul_a (z : Int) : (Txt.mul "a" z).cps.toList = List.replicate z.toNat 97 := mul_one_list 97 z
theorem mul_len (z : Int) : (Txt.mul "a" z).length = z.toNat := by
  have e : (Txt.mul "a" z).length = (Txt.mul "a" z).cps.toList.length := by simp; rfl
  rw [e, mul_a, List.length_replicate]
theorem text_ok {x : Str} {z : Int} (h : x.cps.toList.all (fun c => c != 37) = true) (hx : x.length ≤ 10) (hz : z ≤ 101) : ((Txt.mul "a" z) ++ x).length ≤ 1000 ∧ ∀ c ∈ ((Txt.mul "a" z) ++ x).cps.toList, c ≠ 37 := by
  have e : ((Txt.mul "a" z) ++ x).length = (Txt.mul "a" z).length + x.length := by show ((Txt.mul "a" z).cps ++ x.cps).size = _; rw [Array.size_append]; rfl
  refine ⟨by rw [e, mul_len]; omega, fun c hc => ?_⟩
  have hc : c ∈ ((Txt.mul "a" z).cps ++ x.cps).toList := hc
  rw [Array.toList_append, mul_a] at hc
  rcases List.mem_append.mp hc with hc | hc
  · rw [List.eq_of_mem_replicate hc]; decide
  · have := List.all_eq_true.mp h c hc
    simpa using this
theorem mul_ok (z : Int) (hz : z ≤ 101) : (Txt.mul "a" z).length ≤ 1000 ∧ ∀ c ∈ (Txt.mul "a" z).cps.toList, c ≠ 37 := by
  refine ⟨by rw [mul_len]; omega, fun c hc => ?_⟩
  rw [mul_a] at hc
  rw [List.eq_of_mem_replicate hc]; decide
theorem nw_step {H Hj H' : Hp} {L : Addr} {o : HO} (e : Ex H Hj) (h : Hj L = some o) : Ex (nw Hj H') (nw H (del H' L)) := fun b z q => by
  have n : b ≠ L := fun e => by subst e; unfold nw at q; rw [h] at q; cases q
  have := nw_more e _ _ q
  unfold nw at this ⊢
  rw [del_ne n]
  exact this
theorem asked_rest (T : Txt K mg) {k : KD} (hok : k.Ok) (cd : Value) (A : Around) (outer : List Env) (s : Shared) (H0 : Hp) (E : XK) (Q : VK) (H : Hp) (t : V) (n : Int) (hk : LK H t k) (q : ∀ u H', Val K (nw H H') u → Ex H H' → Q u H') :
    wB (cx P w K mg base N__law_asked_of "_law_asked_of" (defScope s__law_asked_of) (He.fAd K ("_law_asked_of", none)) cd A outer s H0 E) (match defBody s__law_asked_of with | _ :: _ :: r => r | _ => []) { nx := fun _ H' => Q .non H', rt := Q } [some t, some (.int n), some (.int HALF), none, none, none, none, none, none, none, none] H := by
  have nd := sc__law_asked_of.nd
  have n1 := T.n_len
  refine bcut (fun σ' H' => Ex H H' ∧ ∃ (S : Addr) (ns : List Int), H' S = some (.lst (ns.map V.int)) ∧ 0 < ns.length ∧ ns.length ≤ 8 ∧ (∀ z ∈ ns, 0 ≤ z ∧ z ≤ 101) ∧ σ' = [some t, some (.int n), some (.int HALF), none, none, some (.ref S), none, none, none, none, none]) ?_ ?_
  · cases hk with
    | @text t m hx =>
      have hm := hok.1
      have hm2 := hok.2
      top_name
      nest_fact
      refine ixT (SqT.of hx) rfl ?_
      top_name
      refine ixT (SqT.of hx) rfl ?_
      top_name
      refine ixT (SqT.of hx) rfl ?_
      top_name
      rename_i S H1 hS e1 hxS
      refine ⟨e1, S, [0, 1, 99, 100, 101, m, m + 1, m - 1], hxS, by show 0 < 8; decide, by show 8 ≤ 8; decide, fun z hz => ?_, rfl⟩
      simp at hz
      omega
    | truth hx =>
      top_name
      nest_fact
      rename_i S H1 hS e1 hxS
      exact ⟨e1, S, [0], hxS, by decide, by decide, fun z hz => by rw [List.mem_singleton.mp hz]; decide, rfl⟩
    | count hx =>
      top_name
      nest_fact
      rename_i S H1 hS e1 hxS
      exact ⟨e1, S, [0], hxS, by decide, by decide, fun z hz => by rw [List.mem_singleton.mp hz]; decide, rfl⟩
    | whole hx =>
      top_name
      nest_fact
      rename_i S H1 hS e1 hxS
      exact ⟨e1, S, [0], hxS, by decide, by decide, fun z hz => by rw [List.mem_singleton.mp hz]; decide, rfl⟩
    | upto hx =>
      top_name
      nest_fact
      rename_i S H1 hS e1 hxS
      exact ⟨e1, S, [0], hxS, by decide, by decide, fun z hz => by rw [List.mem_singleton.mp hz]; decide, rfl⟩
    | form hx =>
      top_name
      nest_fact
      rename_i S H1 hS e1 hxS
      exact ⟨e1, S, [0], hxS, by decide, by decide, fun z hz => by rw [List.mem_singleton.mp hz]; decide, rfl⟩
    | list hx _ =>
      top_name
      nest_fact
      rename_i S H1 hS e1 hxS
      exact ⟨e1, S, [0], hxS, by decide, by decide, fun z hz => by rw [List.mem_singleton.mp hz]; decide, rfl⟩
  rintro _ H1 ⟨e1, S, ns, hS, hn0, hn8, hns, rfl⟩
  have hlm : (ns.map V.int).length = ns.length := List.length_map ..
  refine bcut (fun σ' H' => H1 = H' ∧ ∃ z : Int, 0 ≤ z ∧ z ≤ 101 ∧ σ' = [some t, some (.int n), some (.int HALF), none, none, some (.ref S), some (.str (Txt.mul "a" z)), none, none, none, none]) ?_ ?_
  · top_name
    have hm0 := Int.emod_nonneg (n / 10) (show ((ns.length : Nat) : Int) ≠ 0 by omega)
    have hm1 := Int.emod_lt_of_pos (n / 10) (show (0 : Int) < ((ns.length : Nat) : Int) by omega)
    rw [hlm]
    obtain ⟨z, hz, hi⟩ := atN hm0 hm1
    refine ixL (SqL.of hS) hi ?_
    have hzz := hns z hz
    refine osmul (mulOk_of 1 101 (by decide) hzz.2 (by omega) (by decide) (by decide)) ?_
    exact ⟨rfl, z, hzz.1, hzz.2, rfl⟩
  rintro _ _ ⟨rfl, z, z0, z1, rfl⟩
  refine bcut (fun σ' H' => H1 = H' ∧ ∃ m : Int, σ' = [some t, some (.int n), some (.int HALF), none, none, some (.ref S), some (.str (Txt.mul "a" z)), some (.int m), none, none, none]) ?_ ?_
  · have hk1 := hk.ex e1
    cases hk1 with
    | upto hx =>
      top_name
      nest_fact
      refine ixT (SqT.of hx) rfl ?_
      exact ⟨rfl, _, rfl⟩
    | truth hx =>
      top_name
      nest_fact
      exact ⟨rfl, _, rfl⟩
    | count hx =>
      top_name
      nest_fact
      exact ⟨rfl, _, rfl⟩
    | whole hx =>
      top_name
      nest_fact
      exact ⟨rfl, _, rfl⟩
    | text hx =>
      top_name
      nest_fact
      exact ⟨rfl, _, rfl⟩
    | form hx =>
      top_name
      nest_fact
      exact ⟨rfl, _, rfl⟩
    | list hx _ =>
      top_name
      nest_fact
      exact ⟨rfl, _, rfl⟩
  rintro _ _ ⟨rfl, m, rfl⟩
  refine bcut (fun σ' H' => Ex H1 H' ∧ ∃ (O : Addr) (xs : List V), H' O = some (.lst xs) ∧ xs.length = 14 ∧ (∀ x ∈ xs, Val K (nw H H') x) ∧ σ' = [some t, some (.int n), some (.int HALF), none, none, some (.ref S), some (.str (Txt.mul "a" z)), some (.int m), some (.ref O), none, none]) ?_ ?_
  · top_name
    rename_i o1 G1 ho1 g1 hx1 o2 G2 ho2 g2 hx2 o3 G3 ho3 g3 hx3
    have t1 := text_ok (x := "\t") (z := z) (by decide +kernel) (by decide) z1
    have t0 := mul_ok z z1
    refine oadds (by have := mul_len z; have e : ("\t" : Str).length = 1 := rfl; rw [sizeLine_eq, this, e]; omega) ?_
    top_name
    rename_i o4 G4 ho4 g4 hx4 o5 G5 ho5 g5 hx5 o6 G6 ho6 g6 hx6
    have hf1 : H o1 = none := Evl.fresh_back e1 ho1
    have hf2 : H o2 = none := Evl.fresh_back (by one_sign) ho2
    have hf3 : H o3 = none := Evl.fresh_back (by one_sign) ho3
    have hf4 : H o4 = none := Evl.fresh_back (by one_sign) ho4
    have hf5 : H o5 = none := Evl.fresh_back (by one_sign) ho5
    refine ⟨by one_sign, o6, _, hx6, rfl, fun x hx => ?_, rfl⟩
    simp only [List.mem_cons, List.not_mem_nil, or_false] at hx
    rcases hx with rfl | rfl | rfl | rfl | rfl | rfl | rfl | rfl | rfl | rfl | rfl | rfl | rfl | rfl
    · exact .non
    · exact .str _ (by decide) (by decide +kernel)
    · exact .lst (xs := []) (nw_at hf1 (by one_item)) (by decide) (fun _ h => nomatch h)
    · exact .odd (.base (.dK (nw_at hf2 (by one_item)))) (kit_ty rfl) (kit_ty rfl) (kit_ty rfl) (kit_ty rfl)
    · exact .str _ (by decide) (by decide +kernel)
    · exact .odd (.base (.tup (nw_at hf3 (by one_item)))) (kit_ty rfl) (kit_ty rfl) (kit_ty rfl) (kit_ty rfl)
    · exact .str _ t1.1 t1.2
    · exact .str _ (by decide) (by decide +kernel)
    · exact .str _ t0.1 t0.2
    · exact .bl _
    · exact .bl _
    · exact .lst (nw_at hf5 (by one_item)) (by show 1 ≤ 1000; decide) (fun x h => by rw [List.mem_singleton.mp h]; exact .lst (xs := []) (nw_at hf4 (by one_item)) (by decide) (fun _ h => nomatch h))
    · exact .int _
    · exact .int _
  rintro _ H2 ⟨e2, O, xs, hO, hxl, hxs, rfl⟩
  refine bcut (fun σ' H' => Ex H2 H' ∧ ∃ (G : Addr) (ys : List V), H' G = some (.lst ys) ∧ ys.length = 14 ∧ (∀ x ∈ ys, Val K (nw H H') x) ∧ σ' = [some t, some (.int n), some (.int HALF), none, none, some (.ref S), some (.str (Txt.mul "a" z)), some (.int m), some (.ref O), some (.ref G), none]) ?_ ?_
  · have t0 := mul_ok z z1
    top_name
    rename_i o1 G1 ho1 g1 hx1
    refine ⟨g1, o1, _, hx1, rfl, fun x hx => ?_, rfl⟩
    simp only [List.mem_cons, List.not_mem_nil, or_false] at hx
    rcases hx with rfl | rfl | rfl | rfl | rfl | rfl | rfl | rfl | rfl | rfl | rfl | rfl | rfl | rfl
    all_goals first | exact .int _ | exact .bl _ | exact .str _ t0.1 t0.2
  rintro _ H3 ⟨e3, G, ys, hG, hyl, hys, rfl⟩
  have hO3 := e3 _ _ hO
  top_name
  rename_i U H4 hU e4 hxU
  have hv : ∃ (u : Addr) (zs : List V), atI [V.ref O, V.ref G, V.ref G] (n % 3) = some (.ref u) ∧ H4 u = some (.lst zs) ∧ zs.length = 14 ∧ ∀ x ∈ zs, Val K (nw H H4) x := by
    have hc : n % 3 = 0 ∨ n % 3 = 1 ∨ n % 3 = 2 := by omega
    rcases hc with h | h | h <;> rw [h]
    · exact ⟨O, xs, rfl, e4 _ _ hO3, hxl, fun x hx => (hxs x hx).ex (nw_mono (e3.trans e4))⟩
    · exact ⟨G, ys, rfl, e4 _ _ hG, hyl, fun x hx => (hys x hx).ex (nw_mono e4)⟩
    · exact ⟨G, ys, rfl, e4 _ _ hG, hyl, fun x hx => (hys x hx).ex (nw_mono e4)⟩
  obtain ⟨u, zs, hu, hz4, hzl, hzs⟩ := hv
  refine ixL (SqL.of hxU) hu ?_
  top_name
  obtain ⟨j, hj⟩ : ∃ j : Nat, n / 3 % 14 = (j : Int) := ⟨(n / 3 % 14).toNat, by omega⟩
  rw [hj]
  have hjl : j < zs.length := by omega
  refine ixL (SqL.of hz4) (atI_nat (List.getElem?_eq_getElem hjl)) ?_
  exact q _ _ (hzs _ (List.getElem_mem _)) (e1.trans (e2.trans (e3.trans e4)))
def spAO (K : PySem.W.Frag) (k : KD) : Sp := fun vs H Q _ => ∃ (t : V) (n : Int), vs = [t, .int n] ∧ LK H t k ∧ ∀ u H', Val K (nw H H') u → Ex H H' → Q u H'
theorem ok_asked_of (T : Txt K mg) : ∀ (k : KD), k.Ok → k.dep ≤ 1000 → Gf P w K mg base (1 + k.dep) "_law_asked_of" [] (spAO K k) := by
  have half : ∀ (k : KD) (cd : Value) (A : Around) (outer : List Env) (s : Shared) (H0 : Hp) (E : XK) (H : Hp) (t : V) (n : Int) (sts : List Stmt) (D : Ends), wB (cx P w K mg base N__law_asked_of "_law_asked_of" (defScope s__law_asked_of) (He.fAd K ("_law_asked_of", none)) cd A outer s H0 E) (match defBody s__law_asked_of with | _ :: r => r | _ => []) D [some t, some (.int n), some (.int HALF), none, none, none, none, none, none, none, none] H → wB (cx P w K mg base N__law_asked_of "_law_asked_of" (defScope s__law_asked_of) (He.fAd K ("_law_asked_of", none)) cd A outer s H0 E) (defBody s__law_asked_of) D (start N__law_asked_of [t, .int n]) H := by
    intro k cd A outer s H0 E H t n sts D h
    have nd := sc__law_asked_of.nd
    refine bcut (fun σ' H' => H = H' ∧ σ' = [some t, some (.int n), some (.int HALF), none, none, none, none, none, none, none, none]) ?_ ?_
    · top_name
      refine opow (by decide) (by decide +kernel) ?_
      top_name
      refine opow (by decide) (by decide +kernel) ?_
      top_name
      refine opow (by decide) (by decide +kernel) ?_
      refine omul (IntMulOk.of_bits (by decide +kernel) (by decide +kernel)) ?_
      rw [show ((2 : Int) ^ (64 : Int).toNat) ^ (3 : Int).toNat * 2 ^ (63 : Int).toNat = HALF from by decide +kernel]
      exact ⟨rfl, rfl⟩
    rintro _ _ ⟨rfl, rfl⟩
    exact h
  intro k
  induction k with
  | truth =>
    intro hok hdp
    refine gf_mk T.f__law_asked_of T.m__law_asked_of (fun _ _ _ _ _ _ us hl => match us, hl with | [_, _], _ => rfl) fun fd F => fn_mk (k := 0) F sc__law_asked_of (fun vs H Q E h => ?_) fun cd A outer s H vs Q E hr tk po h => ?_
    · obtain ⟨t, n, rfl, _⟩ := h; rfl
    · obtain ⟨t, n, rfl, hk, q⟩ := h
      refine half (.truth) cd A outer s H E H t n [] _ ?_
      have nd := sc__law_asked_of.nd
      have rest := asked_rest (P := P) (w := w) (base := base) T (k := .truth) hok cd A outer s H E Q H t n hk q
      refine bcut (fun σ' H' => H = H' ∧ σ' = [some t, some (.int n), some (.int HALF), none, none, none, none, none, none, none, none]) ?_ ?_
      · cases hk with
        | truth hx =>
          top_name
          nest_fact
          exact ⟨rfl, rfl⟩
      rintro _ _ ⟨rfl, rfl⟩
      exact rest
  | count =>
    intro hok hdp
    refine gf_mk T.f__law_asked_of T.m__law_asked_of (fun _ _ _ _ _ _ us hl => match us, hl with | [_, _], _ => rfl) fun fd F => fn_mk (k := 0) F sc__law_asked_of (fun vs H Q E h => ?_) fun cd A outer s H vs Q E hr tk po h => ?_
    · obtain ⟨t, n, rfl, _⟩ := h; rfl
    · obtain ⟨t, n, rfl, hk, q⟩ := h
      refine half (.count) cd A outer s H E H t n [] _ ?_
      have nd := sc__law_asked_of.nd
      have rest := asked_rest (P := P) (w := w) (base := base) T (k := .count) hok cd A outer s H E Q H t n hk q
      refine bcut (fun σ' H' => H = H' ∧ σ' = [some t, some (.int n), some (.int HALF), none, none, none, none, none, none, none, none]) ?_ ?_
      · cases hk with
        | count hx =>
          top_name
          nest_fact
          exact ⟨rfl, rfl⟩
      rintro _ _ ⟨rfl, rfl⟩
      exact rest
  | whole =>
    intro hok hdp
    refine gf_mk T.f__law_asked_of T.m__law_asked_of (fun _ _ _ _ _ _ us hl => match us, hl with | [_, _], _ => rfl) fun fd F => fn_mk (k := 0) F sc__law_asked_of (fun vs H Q E h => ?_) fun cd A outer s H vs Q E hr tk po h => ?_
    · obtain ⟨t, n, rfl, _⟩ := h; rfl
    · obtain ⟨t, n, rfl, hk, q⟩ := h
      refine half (.whole) cd A outer s H E H t n [] _ ?_
      have nd := sc__law_asked_of.nd
      have rest := asked_rest (P := P) (w := w) (base := base) T (k := .whole) hok cd A outer s H E Q H t n hk q
      refine bcut (fun σ' H' => H = H' ∧ σ' = [some t, some (.int n), some (.int HALF), none, none, none, none, none, none, none, none]) ?_ ?_
      · cases hk with
        | whole hx =>
          top_name
          nest_fact
          exact ⟨rfl, rfl⟩
      rintro _ _ ⟨rfl, rfl⟩
      exact rest
  | upto m =>
    intro hok hdp
    refine gf_mk T.f__law_asked_of T.m__law_asked_of (fun _ _ _ _ _ _ us hl => match us, hl with | [_, _], _ => rfl) fun fd F => fn_mk (k := 0) F sc__law_asked_of (fun vs H Q E h => ?_) fun cd A outer s H vs Q E hr tk po h => ?_
    · obtain ⟨t, n, rfl, _⟩ := h; rfl
    · obtain ⟨t, n, rfl, hk, q⟩ := h
      refine half (.upto m) cd A outer s H E H t n [] _ ?_
      have nd := sc__law_asked_of.nd
      have rest := asked_rest (P := P) (w := w) (base := base) T (k := .upto m) hok cd A outer s H E Q H t n hk q
      refine bcut (fun σ' H' => H = H' ∧ σ' = [some t, some (.int n), some (.int HALF), none, none, none, none, none, none, none, none]) ?_ ?_
      · cases hk with
        | upto hx =>
          top_name
          nest_fact
          exact ⟨rfl, rfl⟩
      rintro _ _ ⟨rfl, rfl⟩
      exact rest
  | text m =>
    intro hok hdp
    refine gf_mk T.f__law_asked_of T.m__law_asked_of (fun _ _ _ _ _ _ us hl => match us, hl with | [_, _], _ => rfl) fun fd F => fn_mk (k := 0) F sc__law_asked_of (fun vs H Q E h => ?_) fun cd A outer s H vs Q E hr tk po h => ?_
    · obtain ⟨t, n, rfl, _⟩ := h; rfl
    · obtain ⟨t, n, rfl, hk, q⟩ := h
      refine half (.text m) cd A outer s H E H t n [] _ ?_
      have nd := sc__law_asked_of.nd
      have rest := asked_rest (P := P) (w := w) (base := base) T (k := .text m) hok cd A outer s H E Q H t n hk q
      refine bcut (fun σ' H' => H = H' ∧ σ' = [some t, some (.int n), some (.int HALF), none, none, none, none, none, none, none, none]) ?_ ?_
      · cases hk with
        | text hx =>
          top_name
          nest_fact
          exact ⟨rfl, rfl⟩
      rintro _ _ ⟨rfl, rfl⟩
      exact rest
  | form s' =>
    intro hok hdp
    refine gf_mk T.f__law_asked_of T.m__law_asked_of (fun _ _ _ _ _ _ us hl => match us, hl with | [_, _], _ => rfl) fun fd F => fn_mk (k := 0) F sc__law_asked_of (fun vs H Q E h => ?_) fun cd A outer s H vs Q E hr tk po h => ?_
    · obtain ⟨t, n, rfl, _⟩ := h; rfl
    · obtain ⟨t, n, rfl, hk, q⟩ := h
      refine half (.form s') cd A outer s H E H t n [] _ ?_
      have nd := sc__law_asked_of.nd
      have rest := asked_rest (P := P) (w := w) (base := base) T (k := .form s') hok cd A outer s H E Q H t n hk q
      refine bcut (fun σ' H' => H = H' ∧ σ' = [some t, some (.int n), some (.int HALF), none, none, none, none, none, none, none, none]) ?_ ?_
      · cases hk with
        | form hx =>
          top_name
          nest_fact
          exact ⟨rfl, rfl⟩
      rintro _ _ ⟨rfl, rfl⟩
      exact rest
  | list k ih =>
    intro hok hdp
    refine gf_mk T.f__law_asked_of T.m__law_asked_of (fun _ _ _ _ _ _ us hl => match us, hl with | [_, _], _ => rfl) fun fd F => fn_mk (k := 1 + k.dep) F sc__law_asked_of (fun vs H Q E h => ?_) fun cd A outer s H vs Q E hr tk po h => ?_
    · obtain ⟨t, n, rfl, _⟩ := h; rfl
    · obtain ⟨t, n, rfl, hk, q⟩ := h
      refine half (.list k) cd A outer s H E H t n [] _ ?_
      have nd := sc__law_asked_of.nd
      have n1 := T.n_range
      have n2 := T.n_int
      have hdp' : k.dep + 1 ≤ 1000 := hdp
      obtain ⟨t0, v0, rfl, hx, hi⟩ : ∃ t0 v0, t = .ref t0 ∧ H t0 = some (.tup [.str "list", v0]) ∧ LK H v0 k := by
        cases hk with
        | list hx hi => exact ⟨_, _, rfl, hx, hi⟩
      have rest := asked_rest (P := P) (w := w) (base := base) T (k := .list k) hok cd A outer s H E Q H _ n hk q
      refine bcut (fun σ' H' => H = H' ∧ σ' = [some (.ref t0), some (.int n), some (.int HALF), none, none, none, none, none, none, none, none]) ?_ ?_
      · top_name
        nest_fact
        · rename_i hn tt G1 htt g1 hx1
          obtain ⟨b, hb, hi2⟩ := atN (ns := [0, 1, 2, 20, 21, 3]) (k := n / 4 % 6) (by omega) (by show _ < ((6 : Nat) : Int); omega)
          have hb2 : 0 ≤ b ∧ b ≤ 21 := by
            have : b = 0 ∨ b = 1 ∨ b = 2 ∨ b = 20 ∨ b = 21 ∨ b = 3 := by simpa using hb
            omega
          refine ixL (by one_place) hi2 ?_
          top_name
          refine slc (i := 4) (y := "_law_found") rfl nd rfl rfl [("_law_j", 10)] (blkOk_by (N := N__law_asked_of) (sc := defScope s__law_asked_of) (by decide +kernel)) (piR1 n1 rfl) (sw_true rfl rfl rfl (by decide +kernel)) (tnR1 (n := b) (fun j ws HH => ws.length = j ∧ ∀ x ∈ ws, Val K (nw H HH) x) (fun _ _ _ _ g e => ⟨g.1, fun x hx => (g.2 x hx).ex (nw_mono e)⟩) (fun _ => ⟨rfl, fun _ h => nomatch h⟩) ?_)
          top_name
          refine ⟨rfl, by omega, by omega, fun j G2 L ws hj g2 hL hw g => ?_, fun L G2 ws hL g2 hw g => ?_⟩
          · have eg : Ex H G2 := g1.trans g2
            top_name
            refine zcall (ih hok (by omega)) hr (Nat.le_refl _) takesF rfl ?_
            top_name
            refine ixT (SqT.of (eg _ _ hx)) rfl ?_
            top_name
            refine ⟨_, _, rfl, hi.ex eg, fun u G3 hu g3 => ?_⟩
            refine ⟨by rw [g.1, sizeLine_eq]; omega, g3, by rw [List.length_append, g.1]; rfl, fun x hx => ?_⟩
            rcases List.mem_append.mp hx with hx | hx
            · exact (g.2 x hx).ex (nw_mono (del_mono fun b o _ e => g3 b o e))
            · rw [List.mem_singleton.mp hx]
              exact hu.ex (nw_step eg hw)
          · have eg : Ex H G2 := g1.trans g2
            top_name
            refine zcall (ih hok (by omega)) hr (Nat.le_refl _) takesF rfl ?_
            top_name
            refine ixT (SqT.of (eg _ _ hx)) rfl ?_
            top_name
            refine ⟨_, _, rfl, hi.ex eg, fun u G3 hu g3 => ?_⟩
            top_name
            rename_i o G4 ho g4 hx4
            refine kintB ?_
            have hkz : (0 : Int) ≤ (if (decide (b < 20)) = true then 1 else 0) ∧ (if (decide (b < 20)) = true then (1 : Int) else 0) ≤ 1 := by split <;> decide
            generalize (if (decide (b < 20)) = true then (1 : Int) else 0) = z at hkz ⊢
            refine orep hx4 (by omega) (by omega) (by show 1 * _ ≤ _; rw [sizeLine_eq]; omega) fun p G5 hp g5 hx5 => ?_
            rw [List.flatten_replicate_singleton] at hx5
            refine ocatE (g5 _ _ (g4 _ _ (g3 _ _ hw))) hx5 (by rw [g.1, List.length_replicate, sizeLine_eq]; omega) fun p2 G6 hp2 g6 hx6 => ?_
            have eL : Ex H G5 := by one_sign
            refine q (.ref p2) G6 (.lst (nw_at (Evl.fresh_back eL hp2) hx6) (by rw [List.length_append, g.1, List.length_replicate]; omega) fun x hx => ?_) (eL.trans g6)
            rcases List.mem_append.mp hx with hx | hx
            · exact (g.2 x hx).ex (nw_mono (g3.trans (g4.trans (g5.trans g6))))
            · rw [List.eq_of_mem_replicate hx]
              exact (hu.ex (nw_more eg)).ex (nw_mono (g4.trans (g5.trans g6)))
        · exact ⟨rfl, rfl⟩
      rintro _ _ ⟨rfl, rfl⟩
      exact rest
end K07

set_option maxRecDepth 100000
set_option maxHeartbeats 4000000
set_option pp.maxSteps 1500
namespace K07
open PySem PySem.Spec PyProof.Rows L2 Z
open Evl (Ex)
variable {P : Program} {w : World} {K : PySem.W.Frag} {mg : Str → Option Value} {base : Heap}
/-! ### steps of the walk: one_sign: a heap grew into another; one_item: what stands at an address; one_place: a list or tuple to be read; leaf_len: arithmetic; tb_rel: one step; top_name: steps as far as they go -/
local macro_rules | `(tactic| got_up) => `(tactic| (refine Evl.Ex.trans (by assumption) ?_; first | assumption | exact Evl.Ex.refl _ | got_up))
local macro_rules | `(tactic| units_room) => `(tactic| (refine Evl.Ex.trans ?_ (by assumption); first | assumption | exact Evl.Ex.refl _ | units_room))
local macro_rules | `(tactic| one_sign) => `(tactic| first | assumption | exact Evl.Ex.refl _ | got_up | units_room)
local macro_rules | `(tactic| one_item) => `(tactic| first | assumption | exact upd_same | exact exa (by assumption) (by one_sign))
local macro_rules | `(tactic| one_place) => `(tactic| first | assumption | exact SqL.of (by assumption) | exact SqT.of (by assumption) | exact exl (by assumption) (by one_sign) | exact ext (by assumption) (by one_sign) | exact SqL.of (by one_item) | exact SqT.of (by one_item))
local macro_rules | `(tactic| leaf_len) => `(tactic| first | assumption | decide | omega)
local macro_rules | `(tactic| tb_rel) => `(tactic| first
  | ((with_reducible refine (?_ : wE _ _ _ _ _)); first
    | ((with_reducible refine (?_ : wE _ (.Name _ _) _ _ _)); first | refine zn (by rfl) (by first | exact Or.inl rfl | exact Or.inr (Or.inl rfl) | exact Or.inr (Or.inr rfl)) (by rfl) ?_ | refine zglob (by assumption) (by rfl) ?_ | refine zcls (by assumption) (by rfl) ?_ | refine zty (by assumption) (by first | exact bt_int | exact bt_bool | exact bt_str | exact bt_list | exact bt_tuple | exact bt_dict | exact bt_ValueError) (by rfl) ?_)
    | ((with_reducible refine (?_ : wE _ (.Attribute _ _ _) _ _ _)); refine zfld ?_)
    | ((with_reducible refine (?_ : wE _ (.Constant _ _ _) _ _ _)); first | refine zint ?_ | refine zstr ?_ | refine zbl ?_ | refine znon ?_)
    | ((with_reducible refine (?_ : wE _ (.BinOp _ _ _ _) _ _ _)); refine zbin ?_)
    | ((with_reducible refine (?_ : wE _ (.Compare _ _ _ _) _ _ _)); first | refine zcmp (by rfl) ?_ | refine zchain ?_)
    | ((with_reducible refine (?_ : wE _ (.Dict [] [] _) _ _ _)); refine zdnew (fun _ _ _ _ _ => ?_))
    | ((with_reducible refine (?_ : wE _ (.Subscript _ (.Slice _ _ _ _) _) _ _ _)); refine zsl ?_)
    | ((with_reducible refine (?_ : wE _ (.Subscript _ _ _) _ _ _)); refine zix ?_)
    | ((with_reducible refine (?_ : wE _ (.Call (.Name "list" _) [.Call (.Name "range" _) [_] [] _] [] _) _ _ _)); refine zlrg1 rfl (by rfl) (by assumption) (by rfl) (by assumption) ?_)
    | ((with_reducible refine (?_ : wE _ (.Call (.Name _ _) _ _ _) _ _ _)); first
      | ((with_reducible refine (?_ : wE _ (.Call (.Name "len" _) _ _ _) _ _ _)); refine zbfn (by assumption) bt_len (by rfl) ?_)
      | ((with_reducible refine (?_ : wE _ (.Call (.Name "isinstance" _) _ _ _) _ _ _)); refine zbfn (by assumption) bt_isi (by rfl) ?_)
      | ((with_reducible refine (?_ : wE _ (.Call (.Name "min" _) _ _ _) _ _ _)); refine zbfn (by assumption) bt_min (by rfl) ?_)
      | ((with_reducible refine (?_ : wE _ (.Call (.Name "max" _) _ _ _) _ _ _)); refine zbfn (by assumption) bt_max (by rfl) ?_)
      | ((with_reducible refine (?_ : wE _ (.Call (.Name "list" _) _ _ _) _ _ _)); refine zbty (by assumption) bt_list (by rfl) ?_)
      | ((with_reducible refine (?_ : wE _ (.Call (.Name "tuple" _) _ _ _) _ _ _)); refine zbty (by assumption) bt_tuple (by rfl) ?_)
      | ((with_reducible refine (?_ : wE _ (.Call (.Name "int" _) _ _ _) _ _ _)); refine zbty (by assumption) bt_int (by rfl) ?_)
      | ((with_reducible refine (?_ : wE _ (.Call (.Name "abs" _) _ _ _) _ _ _)); refine zbfn (by assumption) bt_abs (by rfl) ?_)
      | ((with_reducible refine (?_ : wE _ (.Call (.Name "all" _) _ _ _) _ _ _)); refine zbfn (by assumption) bt_all (by rfl) ?_)
      | ((with_reducible refine (?_ : wE _ (.Call (.Name "sum" _) _ _ _) _ _ _)); refine zbfn (by assumption) bt_sum (by rfl) ?_)
      | ((with_reducible refine (?_ : wE _ (.Call (.Name "divmod" _) _ _ _) _ _ _)); refine zbfn (by assumption) bt_divmod (by rfl) ?_)
      | ((with_reducible refine (?_ : wE _ (.Call (.Name "ord" _) _ _ _) _ _ _)); refine zbfn (by assumption) bt_ord (by rfl) ?_))
    | ((with_reducible refine (?_ : wE _ (.IfExp _ _ _ _) _ _ _)); refine zif ?_)
    | ((with_reducible refine (?_ : wE _ (.Tuple _ _ _) _ _ _)); refine ztup ?_)
    | ((with_reducible refine (?_ : wE _ (.List _ _) _ _ _)); refine zlst ?_)
    | ((with_reducible refine (?_ : wE _ (.UnaryOp _ _ _) _ _ _)); first | refine znotV ?_ | refine zneg ?_)
    | ((with_reducible refine (?_ : wE _ (.BoolOp _ _ _) _ _ _)); first | refine zandV ?_ | refine zorV ?_ | refine zoneV ?_))
  | ((with_reducible refine (?_ : bE _ _ _ _ _ _)); refine ⟨fun _ _ _ _ _ => ?_⟩) | ((with_reducible refine (?_ : bG _ _ _ _ _ _ _)); refine ⟨fun _ _ _ _ _ => ?_⟩) | ((with_reducible refine (?_ : bTs _ _ _ _ _ _)); refine ⟨fun _ _ _ _ _ => ?_⟩)
  | ((with_reducible refine (?_ : hE _ _ _ _ _ _)); refine ⟨fun _ _ _ _ _ => ?_⟩) | ((with_reducible refine (?_ : hG _ _ _ _ _ _ _)); refine ⟨fun _ _ _ _ _ => ?_⟩) | ((with_reducible refine (?_ : hTs _ _ _ _ _ _)); refine ⟨fun _ _ _ _ _ => ?_⟩)
  | ((with_reducible refine (?_ : wP _ _ _ _ _)); first | refine pnon ?_ | refine psom ?_) | ((with_reducible refine (?_ : wSl _ _ _ _ _ _)); first | refine slL (by one_place) (fun _ _ _ _ _ => ?_) | refine slS (by assumption) ?_)
  | ((with_reducible refine (?_ : wTs _ _ _ _ _)); first | refine tsnil ?_ | refine tsone ?_)
  | ((with_reducible refine (?_ : wA _ _ _ _ _)); first | refine acons ?_ | refine anil ?_)
  | ((with_reducible refine (?_ : wO _ _ _ _ _ _)); first
    | ((with_reducible refine (?_ : wO _ (binaryOp .Add) _ _ _ _)); first | refine oadd ?_ | refine ocatE (by one_item) (by one_item) (Nat.le_of_ble_eq_true rfl) (fun _ _ _ _ _ => ?_))
    | ((with_reducible refine (?_ : wO _ (binaryOp .Sub) _ _ _ _)); first | refine osub ?_)
    | ((with_reducible refine (?_ : wO _ (binaryOp .Mult) _ _ _ _)); first | refine omul (by first | exact IntMulOk.of_right (by decide) | exact IntMulOk.of_left (by decide) | exact IntMulOk.of_right (intBits_le_64 (by omega) (by omega)) | exact IntMulOk.of_left (intBits_le_64 (by omega) (by omega))) ?_)
    | ((with_reducible refine (?_ : wO _ (binaryOp .Mod) _ _ _ _)); first | refine omod (by first | decide | omega) ?_)
    | ((with_reducible refine (?_ : wO _ (binaryOp .FloorDiv) _ _ _ _)); first | refine ofdiv ⟨by first | decide | omega, by decide⟩ ?_)
    | ((with_reducible refine (?_ : wO _ (binaryOp .BitAnd) _ _ _ _)); first | refine oand ?_)
    | ((with_reducible refine (?_ : wO _ (binaryOp .BitOr) _ _ _ _)); first | refine oor ?_)
    | ((with_reducible refine (?_ : wO _ (compareOp .Lt) _ _ _ _)); first | refine olt ?_)
    | ((with_reducible refine (?_ : wO _ (compareOp .LtE) _ _ _ _)); first | refine ole ?_)
    | ((with_reducible refine (?_ : wO _ (compareOp .Gt) _ _ _ _)); first | refine ogt ?_)
    | ((with_reducible refine (?_ : wO _ (compareOp .GtE) _ _ _ _)); first | refine oge ?_)
    | ((with_reducible refine (?_ : wO _ (compareOp .Eq) _ _ _ _)); first | refine oeqi ?_ | refine oeqsT (by decide +kernel) ?_ | refine oeqsF (by decide +kernel) ?_ | refine oeq (by rfl) ?_)
    | ((with_reducible refine (?_ : wO _ (compareOp .NotEq) _ _ _ _)); first | refine onei ?_ | refine onesT (by decide +kernel) ?_ | refine onesF (by decide +kernel) ?_ | refine one (by rfl) ?_)
    | ((with_reducible refine (?_ : wO _ (compareOp .In) _ _ _ _)); first | refine oin ?_)
    | ((with_reducible refine (?_ : wO _ (compareOp .NotIn) _ _ _ _)); first | refine onin ?_)
    | ((with_reducible refine (?_ : wO _ (compareOp .Is) _ _ _ _)); first | refine ois ?_)
    | ((with_reducible refine (?_ : wO _ (compareOp .IsNot) _ _ _ _)); first | refine onot ?_)
    | ((with_reducible refine (?_ : wO _ (binaryOp .RShift) _ _ _ _)); refine oshr (by first | decide | omega) ?_)
    | ((with_reducible refine (?_ : wO _ (binaryOp .BitXor) _ _ _ _)); refine oxor ?_)
    | ((with_reducible refine (?_ : wO _ (inplaceOp .BitXor) _ _ _ _)); refine ixor ?_)
    | ((with_reducible refine (?_ : wO _ (inplaceOp .RShift) _ _ _ _)); refine ishr (by first | decide | omega) ?_)
    | ((with_reducible refine (?_ : wO _ (inplaceOp .BitOr) _ _ _ _)); first | refine ior ?_)
    | ((with_reducible refine (?_ : wO _ (inplaceOp .Add) _ _ _ _)); first | refine iadd ?_))
  | ((with_reducible refine (?_ : wT _ _ _ _ _)); first
    | ((with_reducible refine (?_ : wT _ (.Compare _ _ _ _) _ _ _)); first | refine zcmpT (by rfl) ?_ | refine zchainT ?_)
    | ((with_reducible refine (?_ : wT _ (.UnaryOp _ _ _) _ _ _)); refine znotT ?_)
    | ((with_reducible refine (?_ : wT _ (.BoolOp _ _ _) _ _ _)); refine zW ?_)
    | refine zval ?_)
  | ((with_reducible refine (?_ : wW _ _ _ _ _)); first | refine zand ?_ | refine zor ?_ | refine zand1 ?_ | refine zor1 ?_)
  | ((with_reducible refine (?_ : wK _ _ _ _ _)); first
    | ((with_reducible refine (?_ : wK _ (.builtin "len") _ _ _)); first | refine klenL (by one_place) ?_ | refine klenT (by one_place) ?_ | refine klenS (by assumption) ?_)
    | ((with_reducible refine (?_ : wK _ (.builtin "isinstance") _ _ _)); first | refine kisE (by assumption) (by assumption) (by first | assumption | exact Xd.exx (by assumption) (by one_sign)) (by first | exact .own _ | exact .ty _) (by assumption) ?_ | refine kisi (.ty _) (by assumption) (by assumption) ?_ | refine kisi (.ty _) (.base (by first | exact .int _ | exact .bl _ | exact .str _ | exact .non | exact .tup (by one_item) | exact .lst (by one_item))) (kit_ty (r := true) (by rfl)) ?_ | refine kisi (.ty _) (.base (by first | exact .int _ | exact .bl _ | exact .str _ | exact .non | exact .tup (by one_item) | exact .lst (by one_item))) (kit_ty (r := false) (by rfl)) ?_)
    | ((with_reducible refine (?_ : wK _ (.builtin "divmod") _ _ _)); refine kdivmod ⟨by first | decide | omega, by decide⟩ (fun _ _ _ _ _ => ?_))
    | ((with_reducible refine (?_ : wK _ (.builtin "min") _ _ _)); refine kmin (by rfl) ?_)
    | ((with_reducible refine (?_ : wK _ (.builtin "max") _ _ _)); refine kmax (by rfl) ?_)
    | ((with_reducible refine (?_ : wK _ (.type "list") _ _ _)); first | refine klistL (by one_place) (fun _ _ _ _ _ => ?_) | refine klistT (by one_place) (fun _ _ _ _ _ => ?_))
    | ((with_reducible refine (?_ : wK _ (.type "tuple") _ _ _)); first | refine ktupL (by one_place) (fun _ _ _ _ _ => ?_)))
  | ((with_reducible refine (?_ : wS _ _ _ _ _)); first
    | ((with_reducible refine (?_ : wS _ (.Assign [.Name _ _] _ _) _ _ _)); refine sset' (by assumption) (by rfl) (by first | exact Or.inl rfl | exact Or.inr rfl) (by rfl) (by first | exact .inl rfl | exact .inr rfl) ?_)
    | ((with_reducible refine (?_ : wS _ (.AugAssign (.Name _ _) _ _ _) _ _ _)); refine saug' (by assumption) (by rfl) (by first | exact Or.inl rfl | exact Or.inr rfl) (by first | exact .inl rfl | exact .inr rfl) (by rfl) ?_)
    | ((with_reducible refine (?_ : wS _ (.Assign [.Attribute _ _ _] _ _) _ _ _)); refine sfld ?_)
    | ((with_reducible refine (?_ : wS _ (.Expr _ _) _ _ _)); refine sexp ?_)
    | ((with_reducible refine (?_ : wS _ (.Assign [.Tuple _ _ _] _ _) _ _ _)); refine sasg ?_) | ((with_reducible refine (?_ : wS _ (.Assign [.Subscript _ _ _] _ _) _ _ _)); refine sasg ?_)
    | refine sret ?_ | refine sif ?_ | refine sretN ?_ | refine spass ?_ | refine sbrk ?_ | refine scont ?_)
  | ((with_reducible refine (?_ : wG _ (.Name _ _) _ _ _ _)); refine gname' (by assumption) (by rfl) (by first | exact Or.inl rfl | exact Or.inr rfl) (by first | exact .inl rfl | exact .inr rfl) ?_)
  | ((with_reducible refine (?_ : wG _ (.Tuple _ _ _) _ _ _ _)); refine gtup rfl (by one_place) rfl ?_) | ((with_reducible refine (?_ : wG _ (.Subscript _ _ _) _ _ _ _)); refine gsub ?_)
  | ((with_reducible refine (?_ : wGs _ _ _ _ _ _)); first | refine gscons ?_ | refine gsnil ?_)
  | ((with_reducible refine (?_ : wB _ _ _ _ _)); first | refine bcons ?_ | refine bnil ?_)
  | refine ifT ?_ | refine ifF ?_ | refine ifd (fun _ => ?_) (fun _ => ?_) | refine ifnd (fun _ => ?_) (fun _ => ?_) | refine ⟨_, rfl, ?_⟩ | refine ⟨rfl, Evl.Ex.refl _, ?_⟩ | refine ⟨_, _, _, _, _, rfl, by one_item, by assumption, by assumption, by rfl, ?_⟩ | refine ⟨Nat.le_of_ble_eq_true rfl, fun _ _ _ _ _ => ?_⟩ | fail)
local macro_rules | `(tactic| top_name) => `(tactic| repeat' tb_rel)
local macro_rules | `(tactic| nest_fact) => `(tactic| first | exact ⟨(decide_eq_true (by omega)).symm, rfl⟩ | exact ⟨(decide_eq_false (by omega)).symm, rfl⟩ | exact ⟨decide_eq_decide.mpr (by omega), rfl⟩ | fail)
/-! ### what is drawn -/
def spNum (K : PySem.W.Frag) : Sp := fun vs H Q _ => ∃ (a : Addr) (ns : List Int) (k : Int), vs = [.ref a, .int k] ∧ SqL K H a (ns.map V.int) ∧ 0 ≤ k ∧ k ≤ 1000 ∧ ∀ c, 0 ≤ c → c < 2147483629 → Q (.int c) H
theorem ok_number (T : Txt K mg) : Gf P w K mg base 1 "_law_number" [] (spNum K) := by
  refine gf_mk T.f__law_number T.m__law_number (fun _ _ _ _ _ _ us hl => match us, hl with | [_, _], _ => rfl) fun fd F => fn_mk F sc__law_number (fun vs H Q E h => ?_) fun cd A outer s H vs Q E hr tk po h => ?_
  · obtain ⟨a, ns, k, rfl, _⟩ := h; rfl
  · obtain ⟨a, ns, k, rfl, hs, k0, k1, q⟩ := h
    have nd := sc__law_number.nd
    have n1 := T.n_len
    have hlm : (ns.map V.int).length = ns.length := List.length_map ..
    refine bcut (fun σ' H' => H = H' ∧ σ' = [some (.ref a), some (.int k), some (.int 1), none]) (by top_name; exact ⟨rfl, rfl⟩) ?_
    rintro _ _ ⟨rfl, rfl⟩
    refine bcut (fun σ' H' => H = H' ∧ ∃ c : Int, σ' = [some (.ref a), some (.int k), some (.int c), none]) ?_ ?_
    · top_name
      · rename_i hpos
        rw [hlm] at hpos
        have hm0 := Int.emod_nonneg k (show ((ns.length : Nat) : Int) ≠ 0 by omega)
        have hm1 := Int.emod_lt_of_pos k (show (0 : Int) < ((ns.length : Nat) : Int) by omega)
        obtain ⟨z, hz, hi⟩ := atN hm0 hm1
        try rw [hlm]
        refine ixL hs hi ?_
        (repeat refine bnil ?_)
        exact ⟨rfl, z, rfl⟩
      · (repeat refine bnil ?_)
        exact ⟨rfl, 1, rfl⟩
    rintro _ _ ⟨rfl, c, rfl⟩
    top_name
    exact q _ (Int.emod_nonneg _ (by decide)) (Int.emod_lt_of_pos _ (by decide))
def spMix : Sp := fun vs H Q _ => ∃ c k : Int, vs = [.int c, .int k] ∧ 0 ≤ k ∧ k ≤ 1000 ∧ ∀ z, 0 ≤ z → z < 2147483399 → Q (.int z) H
theorem ok_mixed (T : Txt K mg) : Gf P w K mg base 1 "_law_mixed" [] spMix := by
  refine gf_mk T.f__law_mixed T.m__law_mixed (fun _ _ _ _ _ _ us hl => match us, hl with | [_, _], _ => rfl) fun fd F => fn_mk F sc__law_mixed (fun vs H Q E h => ?_) fun cd A outer s H vs Q E hr tk po h => ?_
  · obtain ⟨c, k, rfl, _⟩ := h; rfl
  · obtain ⟨c, k, rfl, k0, k1, q⟩ := h
    have nd := sc__law_mixed.nd
    top_name
    exact q _ (Int.emod_nonneg _ (by decide)) (Int.emod_lt_of_pos _ (by decide))
def spBd : Sp := fun vs H Q _ => ∃ c : Int, vs = [.int c] ∧ 0 ≤ c ∧ c < 2147483647 ∧ ∀ b H', 0 ≤ b → b ≤ MOST → Ex H H' → Q (.int b) H'
theorem ok_bound (T : Txt K mg) : Gf P w K mg base 1 "_law_bound" [] spBd := by
  refine gf_mk T.f__law_bound T.m__law_bound (fun _ _ _ _ _ _ us hl => match us, hl with | [_], _ => rfl) fun fd F => fn_mk F sc__law_bound (fun vs H Q E h => ?_) fun cd A outer s H vs Q E hr tk po h => ?_
  · obtain ⟨c, rfl, _⟩ := h; rfl
  · obtain ⟨c, rfl, c0, c1, q⟩ := h
    have nd := sc__law_bound.nd
    refine bcut (fun σ' H' => H = H' ∧ σ' = [some (.int c), some (.int MOST), none]) ?_ ?_
    · top_name
      refine opow (by decide) (by decide +kernel) ?_
      top_name
      refine opow (by decide) (by decide +kernel) ?_
      top_name
      rw [show ((2 : Int) ^ (64 : Int).toNat) ^ (4 : Int).toNat - 1 = MOST from by decide +kernel]
      exact ⟨rfl, rfl⟩
    rintro _ _ ⟨rfl, rfl⟩
    top_name
    rename_i t H1 ht e1 hx
    obtain ⟨b, hb, hi⟩ := atN (ns := [1, 2, 3, 127, 128, 254, 255, 256, 1000, MOST, 1 + c / 11 % 300, c]) (k := c % 12) (by omega) (by show _ < ((12 : Nat) : Int); omega)
    have hm : (2147483647 : Int) ≤ MOST := by decide
    have hb2 : 0 ≤ b ∧ b ≤ MOST := by
      simp only [List.mem_cons, List.not_mem_nil, or_false] at hb
      generalize MOST = M at hb hm ⊢
      rcases hb with h | h | h | h | h | h | h | h | h | h | h | h <;> subst h <;> omega
    refine ixL (by one_place) hi ?_
    exact q _ _ hb2.1 hb2.2 e1
end K07

set_option maxRecDepth 100000
set_option maxHeartbeats 4000000
set_option pp.maxSteps 1500
namespace K07
open PySem PySem.Spec PyProof.Rows L2 Z
open Evl (Ex)
variable {P : Program} {w : World} {K : PySem.W.Frag} {mg : Str → Option Value} {base : Heap}
/-! ### steps of the walk: one_sign: a heap grew into another; one_item: what stands at an address; one_place: a list or tuple to be read; leaf_len: arithmetic; tb_rel: one step; top_name: steps as far as they go -/
local macro_rules | `(tactic| got_up) => `(tactic| (refine Evl.Ex.trans (by assumption) ?_; first | assumption | exact Evl.Ex.refl _ | got_up))
local macro_rules | `(tactic| units_room) => `(tactic| (refine Evl.Ex.trans ?_ (by assumption); first | assumption | exact Evl.Ex.refl _ | units_room))
local macro_rules | `(tactic| one_sign) => `(tactic| first | assumption | exact Evl.Ex.refl _ | got_up | units_room)
local macro_rules | `(tactic| one_item) => `(tactic| first | assumption | exact upd_same | exact exa (by assumption) (by one_sign))
local macro_rules | `(tactic| one_place) => `(tactic| first | assumption | exact SqL.of (by assumption) | exact SqT.of (by assumption) | exact exl (by assumption) (by one_sign) | exact ext (by assumption) (by one_sign) | exact SqL.of (by one_item) | exact SqT.of (by one_item))
local macro_rules | `(tactic| leaf_len) => `(tactic| first | assumption | decide | omega)
local macro_rules | `(tactic| tb_rel) => `(tactic| first
  | ((with_reducible refine (?_ : wE _ _ _ _ _)); first
    | ((with_reducible refine (?_ : wE _ (.Name _ _) _ _ _)); first | refine zn (by rfl) (by first | exact Or.inl rfl | exact Or.inr (Or.inl rfl) | exact Or.inr (Or.inr rfl)) (by rfl) ?_ | refine zglob (by assumption) (by rfl) ?_ | refine zcls (by assumption) (by rfl) ?_ | refine zty (by assumption) (by first | exact bt_int | exact bt_bool | exact bt_str | exact bt_list | exact bt_tuple | exact bt_dict | exact bt_ValueError) (by rfl) ?_)
    | ((with_reducible refine (?_ : wE _ (.Attribute _ _ _) _ _ _)); refine zfld ?_)
    | ((with_reducible refine (?_ : wE _ (.Constant _ _ _) _ _ _)); first | refine zint ?_ | refine zstr ?_ | refine zbl ?_ | refine znon ?_)
    | ((with_reducible refine (?_ : wE _ (.BinOp _ _ _ _) _ _ _)); refine zbin ?_)
    | ((with_reducible refine (?_ : wE _ (.Compare _ _ _ _) _ _ _)); first | refine zcmp (by rfl) ?_ | refine zchain ?_)
    | ((with_reducible refine (?_ : wE _ (.Dict [] [] _) _ _ _)); refine zdnew (fun _ _ _ _ _ => ?_))
    | ((with_reducible refine (?_ : wE _ (.Subscript _ (.Slice _ _ _ _) _) _ _ _)); refine zsl ?_)
    | ((with_reducible refine (?_ : wE _ (.Subscript _ _ _) _ _ _)); refine zix ?_)
    | ((with_reducible refine (?_ : wE _ (.Call (.Name "list" _) [.Call (.Name "range" _) [_] [] _] [] _) _ _ _)); refine zlrg1 rfl (by rfl) (by assumption) (by rfl) (by assumption) ?_)
    | ((with_reducible refine (?_ : wE _ (.Call (.Name _ _) _ _ _) _ _ _)); first
      | ((with_reducible refine (?_ : wE _ (.Call (.Name "len" _) _ _ _) _ _ _)); refine zbfn (by assumption) bt_len (by rfl) ?_)
      | ((with_reducible refine (?_ : wE _ (.Call (.Name "isinstance" _) _ _ _) _ _ _)); refine zbfn (by assumption) bt_isi (by rfl) ?_)
      | ((with_reducible refine (?_ : wE _ (.Call (.Name "min" _) _ _ _) _ _ _)); refine zbfn (by assumption) bt_min (by rfl) ?_)
      | ((with_reducible refine (?_ : wE _ (.Call (.Name "max" _) _ _ _) _ _ _)); refine zbfn (by assumption) bt_max (by rfl) ?_)
      | ((with_reducible refine (?_ : wE _ (.Call (.Name "list" _) _ _ _) _ _ _)); refine zbty (by assumption) bt_list (by rfl) ?_)
      | ((with_reducible refine (?_ : wE _ (.Call (.Name "tuple" _) _ _ _) _ _ _)); refine zbty (by assumption) bt_tuple (by rfl) ?_)
      | ((with_reducible refine (?_ : wE _ (.Call (.Name "int" _) _ _ _) _ _ _)); refine zbty (by assumption) bt_int (by rfl) ?_)
      | ((with_reducible refine (?_ : wE _ (.Call (.Name "abs" _) _ _ _) _ _ _)); refine zbfn (by assumption) bt_abs (by rfl) ?_)
      | ((with_reducible refine (?_ : wE _ (.Call (.Name "all" _) _ _ _) _ _ _)); refine zbfn (by assumption) bt_all (by rfl) ?_)
      | ((with_reducible refine (?_ : wE _ (.Call (.Name "sum" _) _ _ _) _ _ _)); refine zbfn (by assumption) bt_sum (by rfl) ?_)
      | ((with_reducible refine (?_ : wE _ (.Call (.Name "divmod" _) _ _ _) _ _ _)); refine zbfn (by assumption) bt_divmod (by rfl) ?_)
      | ((with_reducible refine (?_ : wE _ (.Call (.Name "ord" _) _ _ _) _ _ _)); refine zbfn (by assumption) bt_ord (by rfl) ?_))
    | ((with_reducible refine (?_ : wE _ (.IfExp _ _ _ _) _ _ _)); refine zif ?_)
    | ((with_reducible refine (?_ : wE _ (.Tuple _ _ _) _ _ _)); refine ztup ?_)
    | ((with_reducible refine (?_ : wE _ (.List _ _) _ _ _)); refine zlst ?_)
    | ((with_reducible refine (?_ : wE _ (.UnaryOp _ _ _) _ _ _)); first | refine znotV ?_ | refine zneg ?_)
    | ((with_reducible refine (?_ : wE _ (.BoolOp _ _ _) _ _ _)); first | refine zandV ?_ | refine zorV ?_ | refine zoneV ?_))
  | ((with_reducible refine (?_ : bE _ _ _ _ _ _)); refine ⟨fun _ _ _ _ _ => ?_⟩) | ((with_reducible refine (?_ : bG _ _ _ _ _ _ _)); refine ⟨fun _ _ _ _ _ => ?_⟩) | ((with_reducible refine (?_ : bTs _ _ _ _ _ _)); refine ⟨fun _ _ _ _ _ => ?_⟩)
  | ((with_reducible refine (?_ : hE _ _ _ _ _ _)); refine ⟨fun _ _ _ _ _ => ?_⟩) | ((with_reducible refine (?_ : hG _ _ _ _ _ _ _)); refine ⟨fun _ _ _ _ _ => ?_⟩) | ((with_reducible refine (?_ : hTs _ _ _ _ _ _)); refine ⟨fun _ _ _ _ _ => ?_⟩)
  | ((with_reducible refine (?_ : wP _ _ _ _ _)); first | refine pnon ?_ | refine psom ?_) | ((with_reducible refine (?_ : wSl _ _ _ _ _ _)); first | refine slL (by one_place) (fun _ _ _ _ _ => ?_) | refine slS (by assumption) ?_)
  | ((with_reducible refine (?_ : wTs _ _ _ _ _)); first | refine tsnil ?_ | refine tsone ?_)
  | ((with_reducible refine (?_ : wA _ _ _ _ _)); first | refine acons ?_ | refine anil ?_)
  | ((with_reducible refine (?_ : wO _ _ _ _ _ _)); first
    | ((with_reducible refine (?_ : wO _ (binaryOp .Add) _ _ _ _)); first | refine oadd ?_ | refine ocatE (by one_item) (by one_item) (Nat.le_of_ble_eq_true rfl) (fun _ _ _ _ _ => ?_))
    | ((with_reducible refine (?_ : wO _ (binaryOp .Sub) _ _ _ _)); first | refine osub ?_)
    | ((with_reducible refine (?_ : wO _ (binaryOp .Mult) _ _ _ _)); first | refine omul (by first | exact IntMulOk.of_right (by decide) | exact IntMulOk.of_left (by decide) | exact IntMulOk.of_right (intBits_le_64 (by omega) (by omega)) | exact IntMulOk.of_left (intBits_le_64 (by omega) (by omega))) ?_)
    | ((with_reducible refine (?_ : wO _ (binaryOp .Mod) _ _ _ _)); first | refine omod (by first | decide | omega) ?_)
    | ((with_reducible refine (?_ : wO _ (binaryOp .FloorDiv) _ _ _ _)); first | refine ofdiv ⟨by first | decide | omega, by decide⟩ ?_)
    | ((with_reducible refine (?_ : wO _ (binaryOp .BitAnd) _ _ _ _)); first | refine oand ?_)
    | ((with_reducible refine (?_ : wO _ (binaryOp .BitOr) _ _ _ _)); first | refine oor ?_)
    | ((with_reducible refine (?_ : wO _ (compareOp .Lt) _ _ _ _)); first | refine olt ?_)
    | ((with_reducible refine (?_ : wO _ (compareOp .LtE) _ _ _ _)); first | refine ole ?_)
    | ((with_reducible refine (?_ : wO _ (compareOp .Gt) _ _ _ _)); first | refine ogt ?_)
    | ((with_reducible refine (?_ : wO _ (compareOp .GtE) _ _ _ _)); first | refine oge ?_)
    | ((with_reducible refine (?_ : wO _ (compareOp .Eq) _ _ _ _)); first | refine oeqi ?_ | refine oeqsT (by decide +kernel) ?_ | refine oeqsF (by decide +kernel) ?_ | refine oeq (by rfl) ?_)
    | ((with_reducible refine (?_ : wO _ (compareOp .NotEq) _ _ _ _)); first | refine onei ?_ | refine onesT (by decide +kernel) ?_ | refine onesF (by decide +kernel) ?_ | refine one (by rfl) ?_)
    | ((with_reducible refine (?_ : wO _ (compareOp .In) _ _ _ _)); first | refine oin ?_)
    | ((with_reducible refine (?_ : wO _ (compareOp .NotIn) _ _ _ _)); first | refine onin ?_)
    | ((with_reducible refine (?_ : wO _ (compareOp .Is) _ _ _ _)); first | refine ois ?_)
    | ((with_reducible refine (?_ : wO _ (compareOp .IsNot) _ _ _ _)); first | refine onot ?_)
    | ((with_reducible refine (?_ : wO _ (binaryOp .RShift) _ _ _ _)); refine oshr (by first | decide | omega) ?_)
    | ((with_reducible refine (?_ : wO _ (binaryOp .BitXor) _ _ _ _)); refine oxor ?_)
    | ((with_reducible refine (?_ : wO _ (inplaceOp .BitXor) _ _ _ _)); refine ixor ?_)
    | ((with_reducible refine (?_ : wO _ (inplaceOp .RShift) _ _ _ _)); refine ishr (by first | decide | omega) ?_)
    | ((with_reducible refine (?_ : wO _ (inplaceOp .BitOr) _ _ _ _)); first | refine ior ?_)
    | ((with_reducible refine (?_ : wO _ (inplaceOp .Add) _ _ _ _)); first | refine iadd ?_))
  | ((with_reducible refine (?_ : wT _ _ _ _ _)); first
    | ((with_reducible refine (?_ : wT _ (.Compare _ _ _ _) _ _ _)); first | refine zcmpT (by rfl) ?_ | refine zchainT ?_)
    | ((with_reducible refine (?_ : wT _ (.UnaryOp _ _ _) _ _ _)); refine znotT ?_)
    | ((with_reducible refine (?_ : wT _ (.BoolOp _ _ _) _ _ _)); refine zW ?_)
    | refine zval ?_)
  | ((with_reducible refine (?_ : wW _ _ _ _ _)); first | refine zand ?_ | refine zor ?_ | refine zand1 ?_ | refine zor1 ?_)
  | ((with_reducible refine (?_ : wK _ _ _ _ _)); first
    | ((with_reducible refine (?_ : wK _ (.builtin "len") _ _ _)); first | refine klenL (by one_place) ?_ | refine klenT (by one_place) ?_ | refine klenS (by assumption) ?_)
    | ((with_reducible refine (?_ : wK _ (.builtin "isinstance") _ _ _)); first | refine kisE (by assumption) (by assumption) (by first | assumption | exact Xd.exx (by assumption) (by one_sign)) (by first | exact .own _ | exact .ty _) (by assumption) ?_ | refine kisi (.ty _) (by assumption) (by assumption) ?_ | refine kisi (.ty _) (.base (by first | exact .int _ | exact .bl _ | exact .str _ | exact .non | exact .tup (by one_item) | exact .lst (by one_item))) (kit_ty (r := true) (by rfl)) ?_ | refine kisi (.ty _) (.base (by first | exact .int _ | exact .bl _ | exact .str _ | exact .non | exact .tup (by one_item) | exact .lst (by one_item))) (kit_ty (r := false) (by rfl)) ?_)
    | ((with_reducible refine (?_ : wK _ (.builtin "divmod") _ _ _)); refine kdivmod ⟨by first | decide | omega, by decide⟩ (fun _ _ _ _ _ => ?_))
    | ((with_reducible refine (?_ : wK _ (.builtin "min") _ _ _)); refine kmin (by rfl) ?_)
    | ((with_reducible refine (?_ : wK _ (.builtin "max") _ _ _)); refine kmax (by rfl) ?_)
    | ((with_reducible refine (?_ : wK _ (.type "list") _ _ _)); first | refine klistL (by one_place) (fun _ _ _ _ _ => ?_) | refine klistT (by one_place) (fun _ _ _ _ _ => ?_))
    | ((with_reducible refine (?_ : wK _ (.type "tuple") _ _ _)); first | refine ktupL (by one_place) (fun _ _ _ _ _ => ?_)))
  | ((with_reducible refine (?_ : wS _ _ _ _ _)); first
    | ((with_reducible refine (?_ : wS _ (.Assign [.Name _ _] _ _) _ _ _)); refine sset' (by assumption) (by rfl) (by first | exact Or.inl rfl | exact Or.inr rfl) (by rfl) (by first | exact .inl rfl | exact .inr rfl) ?_)
    | ((with_reducible refine (?_ : wS _ (.AugAssign (.Name _ _) _ _ _) _ _ _)); refine saug' (by assumption) (by rfl) (by first | exact Or.inl rfl | exact Or.inr rfl) (by first | exact .inl rfl | exact .inr rfl) (by rfl) ?_)
    | ((with_reducible refine (?_ : wS _ (.Assign [.Attribute _ _ _] _ _) _ _ _)); refine sfld ?_)
    | ((with_reducible refine (?_ : wS _ (.Expr _ _) _ _ _)); refine sexp ?_)
    | ((with_reducible refine (?_ : wS _ (.Assign [.Tuple _ _ _] _ _) _ _ _)); refine sasg ?_) | ((with_reducible refine (?_ : wS _ (.Assign [.Subscript _ _ _] _ _) _ _ _)); refine sasg ?_)
    | refine sret ?_ | refine sif ?_ | refine sretN ?_ | refine spass ?_ | refine sbrk ?_ | refine scont ?_)
  | ((with_reducible refine (?_ : wG _ (.Name _ _) _ _ _ _)); refine gname' (by assumption) (by rfl) (by first | exact Or.inl rfl | exact Or.inr rfl) (by first | exact .inl rfl | exact .inr rfl) ?_)
  | ((with_reducible refine (?_ : wG _ (.Tuple _ _ _) _ _ _ _)); refine gtup rfl (by one_place) rfl ?_) | ((with_reducible refine (?_ : wG _ (.Subscript _ _ _) _ _ _ _)); refine gsub ?_)
  | ((with_reducible refine (?_ : wGs _ _ _ _ _ _)); first | refine gscons ?_ | refine gsnil ?_)
  | ((with_reducible refine (?_ : wB _ _ _ _ _)); first | refine bcons ?_ | refine bnil ?_)
  | refine ifT ?_ | refine ifF ?_ | refine ifd (fun _ => ?_) (fun _ => ?_) | refine ifnd (fun _ => ?_) (fun _ => ?_) | refine ⟨_, rfl, ?_⟩ | refine ⟨rfl, Evl.Ex.refl _, ?_⟩ | refine ⟨_, _, _, _, _, rfl, by one_item, by assumption, by assumption, by rfl, ?_⟩ | refine ⟨Nat.le_of_ble_eq_true rfl, fun _ _ _ _ _ => ?_⟩ | fail)
local macro_rules | `(tactic| top_name) => `(tactic| repeat' tb_rel)
local macro_rules | `(tactic| nest_fact) => `(tactic| first | exact ⟨(decide_eq_true (by omega)).symm, rfl⟩ | exact ⟨(decide_eq_false (by omega)).symm, rfl⟩ | exact ⟨decide_eq_decide.mpr (by omega), rfl⟩ | fail)
/-! ### names and kinds drawn -/
theorem len_is (x : Str) : x.length = x.cps.toList.length := by simp; rfl
theorem app_len (u z : Str) : (u ++ z).length = u.length + z.length := by show (u.cps ++ z.cps).size = _; rw [Array.size_append]; rfl
def accS (f : Nat → Str) (j : Nat) : List V := ((List.range j).map f).map V.str
theorem accS_succ (f : Nat → Str) (j : Nat) : accS f (j + 1) = accS f j ++ [.str (f j)] := by unfold accS; rw [List.range_succ]; simp
theorem accS_len (f : Nat → Str) (j : Nat) : (accS f j).length = j := by unfold accS; simp
theorem atS {z : Str} {i n : Int} (h0 : 0 ≤ i) (h1 : i < n) (hn : (z.length : Int) = n) : atI z.cps.toList i = some (z.cps.toList.getD i.toNat 0) := by
  rw [show i = ((i.toNat : Nat) : Int) from by omega]
  refine atI_nat ?_
  rw [Int.toNat_natCast, List.getD_eq_getElem?_getD, List.getElem?_eq_getElem (by rw [← len_is]; omega)]
  rfl
theorem letters_len : (("abcdefghijklmnopqrstuvwxyz" : Str).length : Int) = 26 := by decide +kernel
abbrev letters : Str := "abcdefghijklmnopqrstuvwxyz"
theorem sum_le : ∀ (ys : List Str) (n : Nat), (∀ y ∈ ys, y.length ≤ n) → (ys.map (·.length)).sum ≤ n * ys.length
  | [], _, _ => Nat.zero_le _
  | y :: ys, n, h => by
    rw [List.map_cons, List.sum_cons, List.length_cons, Nat.mul_succ]
    have := sum_le ys n fun z hz => h z (List.mem_cons_of_mem _ hz)
    have := h y List.mem_cons_self
    omega
-- (join of texts, as for law k01)
theorem joinL_nil : ∀ ls : List (List Nat), TL.joinL [] ls = ls.flatten
  | [] => rfl
  | [p] => by simp [TL.joinL]
  | p :: q :: r => by
    show p ++ ([] ++ TL.joinL [] (q :: r)) = _
    rw [joinL_nil (q :: r)]
    rfl
theorem join_tl (ys : List Str) : (Txt.join "" ys).cps.toList = (ys.map fun y => y.cps.toList).flatten := by
  have e := TL.tl_join "" ys
  rw [← TL.join_eq] at e
  exact e.trans (joinL_nil _)
theorem join_len (ys : List Str) : (Txt.join "" ys).length = (ys.map fun y : Str => y.length).sum := by
  rw [len_is, join_tl, List.length_flatten, List.map_map]
  congr 1
def spNames : Sp := fun vs H Q _ => ∃ c : Int, vs = [.int c, .int 1] ∧ 0 ≤ c ∧ c < 2147483647 ∧ ∀ (x : Str) t H', x.length ≤ 100 → H t = none → Ex H H' → H' t = some (.lst [.str x]) → Q (.ref t) H'
theorem ok_names (T : Txt K mg) : Gf P w K mg base 1 "_law_names" [] spNames := by
  refine gf_mk T.f__law_names T.m__law_names (fun _ _ _ _ _ _ us hl => match us, hl with | [_, _], _ => rfl) fun fd F => fn_mk F sc__law_names (fun vs H Q E h => ?_) fun cd A outer s H vs Q E hr tk po h => ?_
  · obtain ⟨c, rfl, _⟩ := h; rfl
  · obtain ⟨c, rfl, c0, c1, q⟩ := h
    have nd := sc__law_names.nd
    have n1 := T.n_range
    have n2 := T.n_len
    refine bcut (fun σ' H' => H = H' ∧ σ' = [some (.int c), some (.int 1), some (.str letters), none, none, none, none, none, none, none, none]) (by top_name; exact ⟨rfl, rfl⟩) ?_
    rintro _ _ ⟨rfl, rfl⟩
    refine bcut (fun σ' H' => H = H' ∧ σ' = [some (.int c), some (.int 1), some (.str letters), some (.int (3 + c % 5)), none, none, none, none, none, none, none]) (by top_name; exact ⟨rfl, rfl⟩) ?_
    rintro _ _ ⟨rfl, rfl⟩
    refine bcut (fun σ' H' => Ex H H' ∧ ∃ x : Str, x.length ≤ 12 ∧ σ' = [some (.int c), some (.int 1), some (.str letters), some (.int (3 + c % 5)), some (.str x), none, none, none, none, none, none]) ?_ ?_
    · top_name
      refine zjoin ?_
      top_name
      refine ⟨⟨_, rfl⟩, ?_⟩
      refine zlc rfl nd [("_law_j", 8)] (blkOk_by (N := N__law_names) (sc := defScope s__law_names) (by decide +kernel)) (piR1 n1 rfl) (tnR1 (n := 12) (fun j ws _ => ∃ ys : List Str, ws = ys.map V.str ∧ ys.length = j ∧ ∀ y ∈ ys, y.length = 1) (fun _ _ _ _ g _ => g) (fun _ => ⟨[], rfl, rfl, fun _ h => nomatch h⟩) ?_)
      top_name
      refine ⟨rfl, by decide, by decide, fun j H2 L ws hj e2 hL hw g => ?_, fun L H2 ws hL e2 hw g => ?_⟩
      · obtain ⟨ys, rfl, hyl, hy1⟩ := g
        top_name
        refine ixS (by decide +kernel) (atS (n := 26) (by omega) (by omega) letters_len) ?_
        refine ⟨by rw [List.length_map, hyl, sizeLine_eq]; omega, Evl.Ex.refl _, ys ++ [_], by rw [List.map_append]; rfl, by rw [List.length_append, hyl]; rfl, fun y hy => ?_⟩
        rcases List.mem_append.mp hy with hy | hy
        · exact hy1 y hy
        · rw [List.mem_singleton.mp hy]; rfl
      · obtain ⟨ys, rfl, hyl, hy1⟩ := g
        have hsum := sum_le ys 1 fun y hy => by rw [hy1 y hy]; decide
        have hyl2 : ys.length = 12 := hyl
        refine ⟨"", L, ys, rfl, rfl, .inl (SqL.of hw), by show _ + _ * 0 ≤ _; omega, ?_⟩
        (repeat refine bnil ?_)
        exact ⟨e2, _, by rw [join_len]; omega, rfl⟩
    rintro _ H1 ⟨e1, x, hx, rfl⟩
    have hzs : sizeLine = 16777216 := sizeLine_eq
    refine bcut (fun σ' H' => H1 = H' ∧ σ' = [some (.int c), some (.int 1), some (.str letters), some (.int (3 + c % 5)), some (.str x), none, none, none, none, none, none]) ?_ ?_
    · top_name
      · refine zlc rfl nd [("_law_k", 9)] (blkOk_by (N := N__law_names) (sc := defScope s__law_names) (by decide +kernel)) (piR1 n1 rfl) (tnR1 (n := 1) (fun j ws _ => ∃ ys : List Str, ws = ys.map V.str ∧ ys.length = j ∧ ∀ y ∈ ys, y.length ≤ 12) (fun _ _ _ _ g _ => g) (fun _ => ⟨[], rfl, rfl, fun _ h => nomatch h⟩) ?_)
        top_name
        refine ⟨rfl, by decide, by decide, fun j H2 L ws hj e2 hL hw g => ?_, fun L H2 ws hL e2 hw g => ?_⟩
        · obtain ⟨ys, rfl, hyl, hy1⟩ := g
          top_name
          refine slS (by omega) ?_
          refine ⟨by rw [List.length_map, hyl, sizeLine_eq]; omega, Evl.Ex.refl _, ys ++ [_], by rw [List.map_append]; rfl, by rw [List.length_append, hyl]; rfl, fun y hy => ?_⟩
          rcases List.mem_append.mp hy with hy | hy
          · exact hy1 y hy
          · rw [List.mem_singleton.mp hy]; exact Nat.le_trans (cutS_length _ _ _) hx
        · obtain ⟨ys, rfl, hyl, hy1⟩ := g
          obtain ⟨y, rfl⟩ : ∃ y, ys = [y] := List.length_eq_one_iff.mp hyl
          exact q y L H2 (Nat.le_trans (hy1 y List.mem_cons_self) (by decide)) (Evl.fresh_back e1 hL) (e1.trans e2) hw
      · exact ⟨rfl, rfl⟩
    rintro _ _ ⟨rfl, rfl⟩
    refine bcut (fun σ' H' => H1 = H' ∧ ∃ z : Str, z.length ≤ 12 ∧ σ' = [some (.int c), some (.int 1), some (.str letters), some (.int (3 + c % 5)), some (.str x), some (.str z), none, none, none, none, none]) ?_ ?_
    · top_name
      refine slS (by omega) ?_
      (repeat refine bnil ?_)
      exact ⟨rfl, _, Nat.le_trans (cutS_length _ _ _) hx, rfl⟩
    rintro _ _ ⟨rfl, z, hz, rfl⟩
    refine bcut (fun σ' H' => H1 = H' ∧ ∃ m : Int, σ' = [some (.int c), some (.int 1), some (.str letters), some (.int (3 + c % 5)), some (.str x), some (.str z), some (.int m), none, none, none, none]) ?_ ?_
    · top_name
      refine klenS (by omega) ?_
      top_name
      (repeat refine bnil ?_)
      exact ⟨rfl, _, rfl⟩
    rintro _ _ ⟨rfl, m, rfl⟩
    refine bcut (fun σ' H' => Ex H1 H' ∧ ∃ (L : Addr) (y : Str), y.length = 1 ∧ H' L = some (.lst [.str y]) ∧ σ' = [some (.int c), some (.int 1), some (.str letters), some (.int (3 + c % 5)), some (.str x), some (.str z), some (.int m), some (.ref L), none, none, none]) ?_ ?_
    · refine slc (i := 7) (y := "_law_signs") rfl nd rfl rfl [("_law_k", 9)] (blkOk_by (N := N__law_names) (sc := defScope s__law_names) (by decide +kernel)) (piR1 n1 rfl) (sw_true rfl rfl rfl (by decide +kernel)) (tnR1 (n := 1) (fun j ws _ => ∃ ys : List Str, ws = ys.map V.str ∧ ys.length = j ∧ ∀ y ∈ ys, y.length = 1) (fun _ _ _ _ g _ => g) (fun _ => ⟨[], rfl, rfl, fun _ h => nomatch h⟩) ?_)
      top_name
      refine ⟨rfl, by decide, by decide, fun j H2 L ws hj e2 hL hw g => ?_, fun L H2 ws hL e2 hw g => ?_⟩
      · obtain ⟨ys, rfl, hyl, hy1⟩ := g
        top_name
        refine ixS (by decide +kernel) (atS (n := 26) (by omega) (by omega) letters_len) ?_
        refine ⟨by rw [List.length_map, hyl, sizeLine_eq]; omega, Evl.Ex.refl _, ys ++ [_], by rw [List.map_append]; rfl, by rw [List.length_append, hyl]; rfl, fun y hy => ?_⟩
        rcases List.mem_append.mp hy with hy | hy
        · exact hy1 y hy
        · rw [List.mem_singleton.mp hy]; rfl
      · obtain ⟨ys, rfl, hyl, hy1⟩ := g
        obtain ⟨y, rfl⟩ : ∃ y, ys = [y] := List.length_eq_one_iff.mp hyl
        (repeat refine bnil ?_)
        exact ⟨e2, L, y, hy1 y List.mem_cons_self, hw, rfl⟩
    rintro _ H2 ⟨e2, L, y, hy, hL, rfl⟩
    top_name
    refine zlc rfl nd [("_law_sign", 10)] (blkOk_by (N := N__law_names) (sc := defScope s__law_names) (by decide +kernel)) piL (tnL (xs := [.str y]) (fun j ws _ => ∃ ys : List Str, ws = ys.map V.str ∧ ys.length = j ∧ ∀ y ∈ ys, y.length ≤ 100) (fun _ _ _ _ g _ => g) (fun _ => ⟨[], rfl, rfl, fun _ h => nomatch h⟩) ?_)
    top_name
    refine ⟨SqL.of hL, fun j u H3 L' ws hu e3 hL' hw g => ?_, fun L' H3 ws hL' e3 hw g => ?_⟩
    · obtain ⟨ys, rfl, hyl, hy1⟩ := g
      obtain rfl : u = .str y := by
        have := List.mem_of_getElem? hu
        exact List.mem_singleton.mp this
      have hj : j < 1 := (List.getElem?_eq_some_iff.mp hu).1
      top_name
      refine slS (by omega) ?_
      top_name
      have c1 := cutS_length z none (some m)
      have c2 := cutS_length z (some m) none
      refine oadds (by omega) ?_
      top_name
      refine slS (by omega) ?_
      refine oadds (by rw [app_len]; omega) ?_
      refine ⟨by rw [List.length_map, hyl, sizeLine_eq]; omega, Evl.Ex.refl _, ys ++ [_], by rw [List.map_append]; rfl, by rw [List.length_append, hyl]; rfl, fun v hv => ?_⟩
      rcases List.mem_append.mp hv with hv | hv
      · exact hy1 v hv
      · rw [List.mem_singleton.mp hv, app_len, app_len]; omega
    · obtain ⟨ys, rfl, hyl, hy1⟩ := g
      obtain ⟨v, rfl⟩ : ∃ y, ys = [y] := List.length_eq_one_iff.mp hyl
      exact q v L' H3 (hy1 v List.mem_cons_self) (Evl.fresh_back (e1.trans e2) hL') (e1.trans (e2.trans e3)) hw
def spDr : Sp := fun vs H Q _ => ∃ c : Int, vs = [.int c] ∧ 0 ≤ c ∧ c < 2147483629 ∧ ∀ t k H', k.Ok → k.dep ≤ 1 → LK (nw H H') t k → Ex H H' → Q t H'
theorem ok_drawn (T : Txt K mg) : Gf P w K mg base 2 "_law_drawn" [] spDr := by
  refine gf_mk T.f__law_drawn T.m__law_drawn (fun _ _ _ _ _ _ us hl => match us, hl with | [_], _ => rfl) fun fd F => fn_mk F sc__law_drawn (fun vs H Q E h => ?_) fun cd A outer s H vs Q E hr tk po h => ?_
  · obtain ⟨c, rfl, _⟩ := h; rfl
  · obtain ⟨c, rfl, c0, c1, q⟩ := h
    have nd := sc__law_drawn.nd
    have n1 := T.n_max
    have hr0 : Room (0 + 1) _ := hr
    refine bcut (fun σ' H' => Ex H H' ∧ ∃ (L o1 o2 o3 o4 : Addr) (b : Int), H' L = some (.lst [.ref o1, .ref o2, .ref o3, .ref o4]) ∧ 1 ≤ b ∧ b ≤ MOST ∧ nw H H' o1 = some (.tup [.str "truth"]) ∧ nw H H' o2 = some (.tup [.str "count"]) ∧ nw H H' o3 = some (.tup [.str "whole"]) ∧ nw H H' o4 = some (.tup [.str "upto", .int b]) ∧ σ' = [some (.int c), some (.ref L)]) ?_ ?_
    · top_name
      rename_i o1 G1 ho1 g1 hx1 o2 G2 ho2 g2 hx2 o3 G3 ho3 g3 hx3
      refine zcall (ok_bound T) hr0 (by decide) takesF rfl ?_
      top_name
      refine ⟨by omega, by omega, fun b G4 b0 b1 g4 => ?_⟩
      top_name
      rename_i o4 G5 ho4 g5 hx4 o5 G6 ho5 g6 hx5
      have hm : (1 : Int) ≤ MOST := by decide
      have hf1 : H o1 = none := ho1
      have hf2 : H o2 = none := Evl.fresh_back (by one_sign) ho2
      have hf3 : H o3 = none := Evl.fresh_back (by one_sign) ho3
      have hf4 : H o4 = none := Evl.fresh_back (by one_sign) ho4
      exact ⟨by one_sign, o5, o1, o2, o3, o4, max 1 b, hx5, by omega, by omega, nw_at hf1 (by one_item), nw_at hf2 (by one_item), nw_at hf3 (by one_item), nw_at hf4 (by one_item), rfl⟩
    rintro _ H1 ⟨e1, L, o1, o2, o3, o4, b, hL, b0, b1, h1, h2, h3, h4, rfl⟩
    refine bcut (fun σ' H' => Ex H1 H' ∧ ∃ (M : Addr) (us : List V), H' M = some (.lst us) ∧ us.length = 7 ∧ (∀ u ∈ us, ∃ k : KD, k.Ok ∧ k.dep = 0 ∧ LK (nw H H') u k) ∧ σ' = [some (.int c), some (.ref M)]) ?_ ?_
    · top_name
      rename_i o5 G1 ho5 g1 hx5 o6 G2 ho6 g2 hx6
      refine zcall (ok_names T) hr0 (by decide) takesF rfl ?_
      top_name
      refine ⟨by omega, by omega, fun x t G3 hx ht g3 hxt => ?_⟩
      top_name
      refine ixL (SqL.of hxt) rfl ?_
      top_name
      rename_i o7 G4 ho7 g4 hx7 o8 G5 ho8 g5 hx8 o9 G6 ho9 g6 hx9
      have hf5 : H o5 = none := Evl.fresh_back (by one_sign) ho5
      have hf6 : H o6 = none := Evl.fresh_back (by one_sign) ho6
      have hf7 : H o7 = none := Evl.fresh_back (by one_sign) ho7
      have ee : Ex H1 G6 := by one_sign
      refine ⟨ee, o9, _, hx9, rfl, fun u hu => ?_, rfl⟩
      simp only [List.cons_append, List.nil_append, List.mem_cons, List.not_mem_nil, or_false] at hu
      rcases hu with rfl | rfl | rfl | rfl | rfl | rfl | rfl
      · exact ⟨.truth, trivial, rfl, .truth (nw_mono ee _ _ h1)⟩
      · exact ⟨.count, trivial, rfl, .count (nw_mono ee _ _ h2)⟩
      · exact ⟨.whole, trivial, rfl, .whole (nw_mono ee _ _ h3)⟩
      · exact ⟨.upto b, ⟨b0, b1⟩, rfl, .upto (nw_mono ee _ _ h4)⟩
      · exact ⟨.text (1 + c / 7 % 100), ⟨by omega, by omega⟩, rfl, .text (nw_at hf5 (by one_item))⟩
      · exact ⟨.text 100, ⟨by decide, by decide⟩, rfl, .text (nw_at hf6 (by one_item))⟩
      · exact ⟨.form x, hx, rfl, .form (nw_at hf7 (by one_item))⟩
    rintro _ H2 ⟨e2, M, us, hM, hul, hus, rfl⟩
    obtain ⟨j, hj⟩ : ∃ j : Nat, c % 7 = (j : Int) := ⟨(c % 7).toNat, by omega⟩
    have hjl : j < us.length := by omega
    obtain ⟨k, hok, hdp, hk⟩ := hus _ (List.getElem_mem hjl)
    top_name
    · rw [hj]
      refine ixL (SqL.of hM) (atI_nat (List.getElem?_eq_getElem hjl)) ?_
      top_name
      rename_i o G1 ho g1 hx
      have hf : H o = none := Evl.fresh_back (e1.trans e2) ho
      exact q _ (.list k) _ hok (by show k.dep + 1 ≤ 1; omega) (.list (nw_at hf hx) (hk.ex (nw_mono g1))) (e1.trans (e2.trans g1))
    · rw [hj]
      refine ixL (SqL.of hM) (atI_nat (List.getElem?_eq_getElem hjl)) ?_
      exact q _ k _ hok (by omega) hk (e1.trans e2)
end K07

set_option maxRecDepth 100000
set_option maxHeartbeats 4000000
set_option pp.maxSteps 1500
namespace K07
open PySem PySem.Spec PyProof.Rows L2 Z
open Evl (Ex)
variable {P : Program} {w : World} {K : PySem.W.Frag} {mg : Str → Option Value} {base : Heap}
/-! ### steps of the walk: one_sign: a heap grew into another; one_item: what stands at an address; one_place: a list or tuple to be read; leaf_len: arithmetic; tb_rel: one step; top_name: steps as far as they go -/
local macro_rules | `(tactic| got_up) => `(tactic| (refine Evl.Ex.trans (by assumption) ?_; first | assumption | exact Evl.Ex.refl _ | got_up))
local macro_rules | `(tactic| units_room) => `(tactic| (refine Evl.Ex.trans ?_ (by assumption); first | assumption | exact Evl.Ex.refl _ | units_room))
local macro_rules | `(tactic| one_sign) => `(tactic| first | assumption | exact Evl.Ex.refl _ | got_up | units_room)
local macro_rules | `(tactic| one_item) => `(tactic| first | assumption | exact upd_same | exact exa (by assumption) (by one_sign))
local macro_rules | `(tactic| one_place) => `(tactic| first | assumption | exact SqL.of (by assumption) | exact SqT.of (by assumption) | exact exl (by assumption) (by one_sign) | exact ext (by assumption) (by one_sign) | exact SqL.of (by one_item) | exact SqT.of (by one_item))
local macro_rules | `(tactic| leaf_len) => `(tactic| first | assumption | decide | omega)
local macro_rules | `(tactic| tb_rel) => `(tactic| first
  | ((with_reducible refine (?_ : wE _ _ _ _ _)); first
    | ((with_reducible refine (?_ : wE _ (.Name _ _) _ _ _)); first | refine zn (by rfl) (by first | exact Or.inl rfl | exact Or.inr (Or.inl rfl) | exact Or.inr (Or.inr rfl)) (by rfl) ?_ | refine zglob (by assumption) (by rfl) ?_ | refine zcls (by assumption) (by rfl) ?_ | refine zty (by assumption) (by first | exact bt_int | exact bt_bool | exact bt_str | exact bt_list | exact bt_tuple | exact bt_dict | exact bt_ValueError) (by rfl) ?_)
    | ((with_reducible refine (?_ : wE _ (.Attribute _ _ _) _ _ _)); refine zfld ?_)
    | ((with_reducible refine (?_ : wE _ (.Constant _ _ _) _ _ _)); first | refine zint ?_ | refine zstr ?_ | refine zbl ?_ | refine znon ?_)
    | ((with_reducible refine (?_ : wE _ (.BinOp _ _ _ _) _ _ _)); refine zbin ?_)
    | ((with_reducible refine (?_ : wE _ (.Compare _ _ _ _) _ _ _)); first | refine zcmp (by rfl) ?_ | refine zchain ?_)
    | ((with_reducible refine (?_ : wE _ (.Dict [] [] _) _ _ _)); refine zdnew (fun _ _ _ _ _ => ?_))
    | ((with_reducible refine (?_ : wE _ (.Subscript _ (.Slice _ _ _ _) _) _ _ _)); refine zsl ?_)
    | ((with_reducible refine (?_ : wE _ (.Subscript _ _ _) _ _ _)); refine zix ?_)
    | ((with_reducible refine (?_ : wE _ (.Call (.Name "list" _) [.Call (.Name "range" _) [_] [] _] [] _) _ _ _)); refine zlrg1 rfl (by rfl) (by assumption) (by rfl) (by assumption) ?_)
    | ((with_reducible refine (?_ : wE _ (.Call (.Name _ _) _ _ _) _ _ _)); first
      | ((with_reducible refine (?_ : wE _ (.Call (.Name "len" _) _ _ _) _ _ _)); refine zbfn (by assumption) bt_len (by rfl) ?_)
      | ((with_reducible refine (?_ : wE _ (.Call (.Name "isinstance" _) _ _ _) _ _ _)); refine zbfn (by assumption) bt_isi (by rfl) ?_)
      | ((with_reducible refine (?_ : wE _ (.Call (.Name "min" _) _ _ _) _ _ _)); refine zbfn (by assumption) bt_min (by rfl) ?_)
      | ((with_reducible refine (?_ : wE _ (.Call (.Name "max" _) _ _ _) _ _ _)); refine zbfn (by assumption) bt_max (by rfl) ?_)
      | ((with_reducible refine (?_ : wE _ (.Call (.Name "list" _) _ _ _) _ _ _)); refine zbty (by assumption) bt_list (by rfl) ?_)
      | ((with_reducible refine (?_ : wE _ (.Call (.Name "tuple" _) _ _ _) _ _ _)); refine zbty (by assumption) bt_tuple (by rfl) ?_)
      | ((with_reducible refine (?_ : wE _ (.Call (.Name "int" _) _ _ _) _ _ _)); refine zbty (by assumption) bt_int (by rfl) ?_)
      | ((with_reducible refine (?_ : wE _ (.Call (.Name "abs" _) _ _ _) _ _ _)); refine zbfn (by assumption) bt_abs (by rfl) ?_)
      | ((with_reducible refine (?_ : wE _ (.Call (.Name "all" _) _ _ _) _ _ _)); refine zbfn (by assumption) bt_all (by rfl) ?_)
      | ((with_reducible refine (?_ : wE _ (.Call (.Name "sum" _) _ _ _) _ _ _)); refine zbfn (by assumption) bt_sum (by rfl) ?_)
      | ((with_reducible refine (?_ : wE _ (.Call (.Name "divmod" _) _ _ _) _ _ _)); refine zbfn (by assumption) bt_divmod (by rfl) ?_)
      | ((with_reducible refine (?_ : wE _ (.Call (.Name "ord" _) _ _ _) _ _ _)); refine zbfn (by assumption) bt_ord (by rfl) ?_))
    | ((with_reducible refine (?_ : wE _ (.IfExp _ _ _ _) _ _ _)); refine zif ?_)
    | ((with_reducible refine (?_ : wE _ (.Tuple _ _ _) _ _ _)); refine ztup ?_)
    | ((with_reducible refine (?_ : wE _ (.List _ _) _ _ _)); refine zlst ?_)
    | ((with_reducible refine (?_ : wE _ (.UnaryOp _ _ _) _ _ _)); first | refine znotV ?_ | refine zneg ?_)
    | ((with_reducible refine (?_ : wE _ (.BoolOp _ _ _) _ _ _)); first | refine zandV ?_ | refine zorV ?_ | refine zoneV ?_))
  | ((with_reducible refine (?_ : bE _ _ _ _ _ _)); refine ⟨fun _ _ _ _ _ => ?_⟩) | ((with_reducible refine (?_ : bG _ _ _ _ _ _ _)); refine ⟨fun _ _ _ _ _ => ?_⟩) | ((with_reducible refine (?_ : bTs _ _ _ _ _ _)); refine ⟨fun _ _ _ _ _ => ?_⟩)
  | ((with_reducible refine (?_ : hE _ _ _ _ _ _)); refine ⟨fun _ _ _ _ _ => ?_⟩) | ((with_reducible refine (?_ : hG _ _ _ _ _ _ _)); refine ⟨fun _ _ _ _ _ => ?_⟩) | ((with_reducible refine (?_ : hTs _ _ _ _ _ _)); refine ⟨fun _ _ _ _ _ => ?_⟩)
  | ((with_reducible refine (?_ : wP _ _ _ _ _)); first | refine pnon ?_ | refine psom ?_) | ((with_reducible refine (?_ : wSl _ _ _ _ _ _)); first | refine slL (by one_place) (fun _ _ _ _ _ => ?_) | refine slS (by assumption) ?_)
  | ((with_reducible refine (?_ : wTs _ _ _ _ _)); first | refine tsnil ?_ | refine tsone ?_)
  | ((with_reducible refine (?_ : wA _ _ _ _ _)); first | refine acons ?_ | refine anil ?_)
  | ((with_reducible refine (?_ : wO _ _ _ _ _ _)); first
    | ((with_reducible refine (?_ : wO _ (binaryOp .Add) _ _ _ _)); first | refine oadd ?_ | refine ocatE (by one_item) (by one_item) (Nat.le_of_ble_eq_true rfl) (fun _ _ _ _ _ => ?_))
    | ((with_reducible refine (?_ : wO _ (binaryOp .Sub) _ _ _ _)); first | refine osub ?_)
    | ((with_reducible refine (?_ : wO _ (binaryOp .Mult) _ _ _ _)); first | refine omul (by first | exact IntMulOk.of_right (by decide) | exact IntMulOk.of_left (by decide) | exact IntMulOk.of_right (intBits_le_64 (by omega) (by omega)) | exact IntMulOk.of_left (intBits_le_64 (by omega) (by omega))) ?_)
    | ((with_reducible refine (?_ : wO _ (binaryOp .Mod) _ _ _ _)); first | refine omod (by first | decide | omega) ?_)
    | ((with_reducible refine (?_ : wO _ (binaryOp .FloorDiv) _ _ _ _)); first | refine ofdiv ⟨by first | decide | omega, by decide⟩ ?_)
    | ((with_reducible refine (?_ : wO _ (binaryOp .BitAnd) _ _ _ _)); first | refine oand ?_)
    | ((with_reducible refine (?_ : wO _ (binaryOp .BitOr) _ _ _ _)); first | refine oor ?_)
    | ((with_reducible refine (?_ : wO _ (compareOp .Lt) _ _ _ _)); first | refine olt ?_)
    | ((with_reducible refine (?_ : wO _ (compareOp .LtE) _ _ _ _)); first | refine ole ?_)
    | ((with_reducible refine (?_ : wO _ (compareOp .Gt) _ _ _ _)); first | refine ogt ?_)
    | ((with_reducible refine (?_ : wO _ (compareOp .GtE) _ _ _ _)); first | refine oge ?_)
    | ((with_reducible refine (?_ : wO _ (compareOp .Eq) _ _ _ _)); first | refine oeqi ?_ | refine oeqsT (by decide +kernel) ?_ | refine oeqsF (by decide +kernel) ?_ | refine oeq (by rfl) ?_)
    | ((with_reducible refine (?_ : wO _ (compareOp .NotEq) _ _ _ _)); first | refine onei ?_ | refine onesT (by decide +kernel) ?_ | refine onesF (by decide +kernel) ?_ | refine one (by rfl) ?_)
    | ((with_reducible refine (?_ : wO _ (compareOp .In) _ _ _ _)); first | refine oin ?_)
    | ((with_reducible refine (?_ : wO _ (compareOp .NotIn) _ _ _ _)); first | refine onin ?_)
    | ((with_reducible refine (?_ : wO _ (compareOp .Is) _ _ _ _)); first | refine ois ?_)
    | ((with_reducible refine (?_ : wO _ (compareOp .IsNot) _ _ _ _)); first | refine onot ?_)
    | ((with_reducible refine (?_ : wO _ (binaryOp .RShift) _ _ _ _)); refine oshr (by first | decide | omega) ?_)
    | ((with_reducible refine (?_ : wO _ (binaryOp .BitXor) _ _ _ _)); refine oxor ?_)
    | ((with_reducible refine (?_ : wO _ (inplaceOp .BitXor) _ _ _ _)); refine ixor ?_)
    | ((with_reducible refine (?_ : wO _ (inplaceOp .RShift) _ _ _ _)); refine ishr (by first | decide | omega) ?_)
    | ((with_reducible refine (?_ : wO _ (inplaceOp .BitOr) _ _ _ _)); first | refine ior ?_)
    | ((with_reducible refine (?_ : wO _ (inplaceOp .Add) _ _ _ _)); first | refine iadd ?_))
  | ((with_reducible refine (?_ : wT _ _ _ _ _)); first
    | ((with_reducible refine (?_ : wT _ (.Compare _ _ _ _) _ _ _)); first | refine zcmpT (by rfl) ?_ | refine zchainT ?_)
    | ((with_reducible refine (?_ : wT _ (.UnaryOp _ _ _) _ _ _)); refine znotT ?_)
    | ((with_reducible refine (?_ : wT _ (.BoolOp _ _ _) _ _ _)); refine zW ?_)
    | refine zval ?_)
  | ((with_reducible refine (?_ : wW _ _ _ _ _)); first | refine zand ?_ | refine zor ?_ | refine zand1 ?_ | refine zor1 ?_)
  | ((with_reducible refine (?_ : wK _ _ _ _ _)); first
    | ((with_reducible refine (?_ : wK _ (.builtin "len") _ _ _)); first | refine klenL (by one_place) ?_ | refine klenT (by one_place) ?_ | refine klenS (by assumption) ?_)
    | ((with_reducible refine (?_ : wK _ (.builtin "isinstance") _ _ _)); first | refine kisE (by assumption) (by assumption) (by first | assumption | exact Xd.exx (by assumption) (by one_sign)) (by first | exact .own _ | exact .ty _) (by assumption) ?_ | refine kisi (.ty _) (by assumption) (by assumption) ?_ | refine kisi (.ty _) (.base (by first | exact .int _ | exact .bl _ | exact .str _ | exact .non | exact .tup (by one_item) | exact .lst (by one_item))) (kit_ty (r := true) (by rfl)) ?_ | refine kisi (.ty _) (.base (by first | exact .int _ | exact .bl _ | exact .str _ | exact .non | exact .tup (by one_item) | exact .lst (by one_item))) (kit_ty (r := false) (by rfl)) ?_)
    | ((with_reducible refine (?_ : wK _ (.builtin "divmod") _ _ _)); refine kdivmod ⟨by first | decide | omega, by decide⟩ (fun _ _ _ _ _ => ?_))
    | ((with_reducible refine (?_ : wK _ (.builtin "min") _ _ _)); refine kmin (by rfl) ?_)
    | ((with_reducible refine (?_ : wK _ (.builtin "max") _ _ _)); refine kmax (by rfl) ?_)
    | ((with_reducible refine (?_ : wK _ (.type "list") _ _ _)); first | refine klistL (by one_place) (fun _ _ _ _ _ => ?_) | refine klistT (by one_place) (fun _ _ _ _ _ => ?_))
    | ((with_reducible refine (?_ : wK _ (.type "tuple") _ _ _)); first | refine ktupL (by one_place) (fun _ _ _ _ _ => ?_)))
  | ((with_reducible refine (?_ : wS _ _ _ _ _)); first
    | ((with_reducible refine (?_ : wS _ (.Assign [.Name _ _] _ _) _ _ _)); refine sset' (by assumption) (by rfl) (by first | exact Or.inl rfl | exact Or.inr rfl) (by rfl) (by first | exact .inl rfl | exact .inr rfl) ?_)
    | ((with_reducible refine (?_ : wS _ (.AugAssign (.Name _ _) _ _ _) _ _ _)); refine saug' (by assumption) (by rfl) (by first | exact Or.inl rfl | exact Or.inr rfl) (by first | exact .inl rfl | exact .inr rfl) (by rfl) ?_)
    | ((with_reducible refine (?_ : wS _ (.Assign [.Attribute _ _ _] _ _) _ _ _)); refine sfld ?_)
    | ((with_reducible refine (?_ : wS _ (.Expr _ _) _ _ _)); refine sexp ?_)
    | ((with_reducible refine (?_ : wS _ (.Assign [.Tuple _ _ _] _ _) _ _ _)); refine sasg ?_) | ((with_reducible refine (?_ : wS _ (.Assign [.Subscript _ _ _] _ _) _ _ _)); refine sasg ?_)
    | refine sret ?_ | refine sif ?_ | refine sretN ?_ | refine spass ?_ | refine sbrk ?_ | refine scont ?_)
  | ((with_reducible refine (?_ : wG _ (.Name _ _) _ _ _ _)); refine gname' (by assumption) (by rfl) (by first | exact Or.inl rfl | exact Or.inr rfl) (by first | exact .inl rfl | exact .inr rfl) ?_)
  | ((with_reducible refine (?_ : wG _ (.Tuple _ _ _) _ _ _ _)); refine gtup rfl (by one_place) rfl ?_) | ((with_reducible refine (?_ : wG _ (.Subscript _ _ _) _ _ _ _)); refine gsub ?_)
  | ((with_reducible refine (?_ : wGs _ _ _ _ _ _)); first | refine gscons ?_ | refine gsnil ?_)
  | ((with_reducible refine (?_ : wB _ _ _ _ _)); first | refine bcons ?_ | refine bnil ?_)
  | refine ifT ?_ | refine ifF ?_ | refine ifd (fun _ => ?_) (fun _ => ?_) | refine ifnd (fun _ => ?_) (fun _ => ?_) | refine ⟨_, rfl, ?_⟩ | refine ⟨rfl, Evl.Ex.refl _, ?_⟩ | refine ⟨_, _, _, _, _, rfl, by one_item, by assumption, by assumption, by rfl, ?_⟩ | refine ⟨Nat.le_of_ble_eq_true rfl, fun _ _ _ _ _ => ?_⟩ | fail)
local macro_rules | `(tactic| top_name) => `(tactic| repeat' tb_rel)
local macro_rules | `(tactic| nest_fact) => `(tactic| first | exact ⟨(decide_eq_true (by omega)).symm, rfl⟩ | exact ⟨(decide_eq_false (by omega)).symm, rfl⟩ | exact ⟨decide_eq_decide.mpr (by omega), rfl⟩ | fail)
local macro_rules | `(tactic| nest_fact) => `(tactic| (refine ixT (SqT.of (by assumption)) rfl ?_; top_name))
/-! ### what a kind holds -/
def spH (K : PySem.W.Frag) (k : KD) : Sp := fun vs H Q _ => ∃ v t : V, vs = [v, t] ∧ KI K H v k ∧ LK H t k ∧ ∀ H', Ex H H' → Q (.bl true) H'
theorem ok_held (T : Txt K mg) : ∀ (k : KD), k.dep ≤ 1000 → Gf P w K mg base (1 + k.dep) "_law_held" [] (spH K k) := by
  intro k
  induction k with
  | truth =>
    intro hdp
    refine gf_mk T.f__law_held T.m__law_held (fun _ _ _ _ _ _ us hl => match us, hl with | [_, _], _ => rfl) fun fd F => fn_mk (k := 0) F sc__law_held (fun vs H Q E h => ?_) fun cd A outer s H vs Q E hr tk po h => ?_
    · obtain ⟨v, t, rfl, _⟩ := h; rfl
    · obtain ⟨v, t, rfl, hi, hk, q⟩ := h
      have n1 := T.n_isinstance
      have m1 := T.m_List
      have c1 := T.c_Upto.cl
      have c2 := T.c_Text.cl
      have c3 := T.c_Nested.cl
      have c4 := T.c_List.cl
      have a1 := T.a_Upto_most
      have a2 := T.a_Text_most
      have a3 := T.a_Nested_name
      have a4 := T.a_List_item
      cases hi with
      | truth hx =>
        cases hk with
        | truth ht =>
          top_name
          nest_fact
          nest_fact
          rename_i tp H1 htp e1 hxt
          refine oinF (.inr (SqT.of hxt)) rfl rfl ?_
          rw [show inV (.str "truth") [.str "upto", .str "text"] = false from by decide +kernel]
          top_name
          refine ixT (SqT.of (e1 _ _ ht)) rfl ?_
          top_name
          exact q _ e1
  | count =>
    intro hdp
    refine gf_mk T.f__law_held T.m__law_held (fun _ _ _ _ _ _ us hl => match us, hl with | [_, _], _ => rfl) fun fd F => fn_mk (k := 0) F sc__law_held (fun vs H Q E h => ?_) fun cd A outer s H vs Q E hr tk po h => ?_
    · obtain ⟨v, t, rfl, _⟩ := h; rfl
    · obtain ⟨v, t, rfl, hi, hk, q⟩ := h
      have n1 := T.n_isinstance
      have m1 := T.m_List
      have c1 := T.c_Upto.cl
      have c2 := T.c_Text.cl
      have c3 := T.c_Nested.cl
      have c4 := T.c_List.cl
      have a1 := T.a_Upto_most
      have a2 := T.a_Text_most
      have a3 := T.a_Nested_name
      have a4 := T.a_List_item
      cases hi with
      | count hx =>
        cases hk with
        | count ht =>
          top_name
          nest_fact
          nest_fact
          rename_i tp H1 htp e1 hxt
          refine oinF (.inr (SqT.of hxt)) rfl rfl ?_
          rw [show inV (.str "count") [.str "upto", .str "text"] = false from by decide +kernel]
          top_name
          refine ixT (SqT.of (e1 _ _ ht)) rfl ?_
          top_name
          exact q _ e1
  | whole =>
    intro hdp
    refine gf_mk T.f__law_held T.m__law_held (fun _ _ _ _ _ _ us hl => match us, hl with | [_, _], _ => rfl) fun fd F => fn_mk (k := 0) F sc__law_held (fun vs H Q E h => ?_) fun cd A outer s H vs Q E hr tk po h => ?_
    · obtain ⟨v, t, rfl, _⟩ := h; rfl
    · obtain ⟨v, t, rfl, hi, hk, q⟩ := h
      have n1 := T.n_isinstance
      have m1 := T.m_List
      have c1 := T.c_Upto.cl
      have c2 := T.c_Text.cl
      have c3 := T.c_Nested.cl
      have c4 := T.c_List.cl
      have a1 := T.a_Upto_most
      have a2 := T.a_Text_most
      have a3 := T.a_Nested_name
      have a4 := T.a_List_item
      cases hi with
      | whole hx =>
        cases hk with
        | whole ht =>
          top_name
          nest_fact
          nest_fact
          rename_i tp H1 htp e1 hxt
          refine oinF (.inr (SqT.of hxt)) rfl rfl ?_
          rw [show inV (.str "whole") [.str "upto", .str "text"] = false from by decide +kernel]
          top_name
          refine ixT (SqT.of (e1 _ _ ht)) rfl ?_
          top_name
          exact q _ e1
  | upto n =>
    intro hdp
    refine gf_mk T.f__law_held T.m__law_held (fun _ _ _ _ _ _ us hl => match us, hl with | [_, _], _ => rfl) fun fd F => fn_mk (k := 0) F sc__law_held (fun vs H Q E h => ?_) fun cd A outer s H vs Q E hr tk po h => ?_
    · obtain ⟨v, t, rfl, _⟩ := h; rfl
    · obtain ⟨v, t, rfl, hi, hk, q⟩ := h
      have n1 := T.n_isinstance
      have m1 := T.m_List
      have c1 := T.c_Upto.cl
      have c2 := T.c_Text.cl
      have c3 := T.c_Nested.cl
      have c4 := T.c_List.cl
      have a1 := T.a_Upto_most
      have a2 := T.a_Text_most
      have a3 := T.a_Nested_name
      have a4 := T.a_List_item
      cases hi with
      | upto hx =>
        cases hk with
        | upto ht =>
          top_name
          nest_fact
          nest_fact
          rename_i tp H1 htp e1 hxt
          refine oinF (.inr (SqT.of hxt)) rfl rfl ?_
          rw [show inV (.str "upto") [.str "upto", .str "text"] = true from by decide +kernel]
          top_name
          refine ixT (SqT.of (e1 _ _ ht)) rfl ?_
          top_name
          rw [decide_eq_true rfl]
          exact q _ e1
  | text n =>
    intro hdp
    refine gf_mk T.f__law_held T.m__law_held (fun _ _ _ _ _ _ us hl => match us, hl with | [_, _], _ => rfl) fun fd F => fn_mk (k := 0) F sc__law_held (fun vs H Q E h => ?_) fun cd A outer s H vs Q E hr tk po h => ?_
    · obtain ⟨v, t, rfl, _⟩ := h; rfl
    · obtain ⟨v, t, rfl, hi, hk, q⟩ := h
      have n1 := T.n_isinstance
      have m1 := T.m_List
      have c1 := T.c_Upto.cl
      have c2 := T.c_Text.cl
      have c3 := T.c_Nested.cl
      have c4 := T.c_List.cl
      have a1 := T.a_Upto_most
      have a2 := T.a_Text_most
      have a3 := T.a_Nested_name
      have a4 := T.a_List_item
      cases hi with
      | text hx =>
        cases hk with
        | text ht =>
          top_name
          nest_fact
          nest_fact
          rename_i tp H1 htp e1 hxt
          refine oinF (.inr (SqT.of hxt)) rfl rfl ?_
          rw [show inV (.str "text") [.str "upto", .str "text"] = true from by decide +kernel]
          top_name
          refine ixT (SqT.of (e1 _ _ ht)) rfl ?_
          top_name
          rw [decide_eq_true rfl]
          exact q _ e1
  | form s0 =>
    intro hdp
    refine gf_mk T.f__law_held T.m__law_held (fun _ _ _ _ _ _ us hl => match us, hl with | [_, _], _ => rfl) fun fd F => fn_mk (k := 0) F sc__law_held (fun vs H Q E h => ?_) fun cd A outer s H vs Q E hr tk po h => ?_
    · obtain ⟨v, t, rfl, _⟩ := h; rfl
    · obtain ⟨v, t, rfl, hi, hk, q⟩ := h
      have n1 := T.n_isinstance
      have m1 := T.m_List
      have c1 := T.c_Upto.cl
      have c2 := T.c_Text.cl
      have c3 := T.c_Nested.cl
      have c4 := T.c_List.cl
      have a1 := T.a_Upto_most
      have a2 := T.a_Text_most
      have a3 := T.a_Nested_name
      have a4 := T.a_List_item
      cases hi with
      | form hx =>
        cases hk with
        | form ht =>
          top_name
          nest_fact
          nest_fact
          rename_i tp H1 htp e1 hxt
          refine oinF (.inr (SqT.of hxt)) rfl rfl ?_
          rw [show inV (.str "form") [.str "upto", .str "text"] = false from by decide +kernel]
          top_name
          refine ixT (SqT.of (e1 _ _ ht)) rfl ?_
          top_name
          refine ixT (SqT.of (e1 _ _ ht)) rfl ?_
          top_name
          rw [decide_eq_true rfl]
          exact q _ e1
  | list k ih =>
    intro hdp
    refine gf_mk T.f__law_held T.m__law_held (fun _ _ _ _ _ _ us hl => match us, hl with | [_, _], _ => rfl) fun fd F => fn_mk (k := 1 + k.dep) F sc__law_held (fun vs H Q E h => ?_) fun cd A outer s H vs Q E hr tk po h => ?_
    · obtain ⟨v, t, rfl, _⟩ := h; rfl
    · obtain ⟨v, t, rfl, hi, hk, q⟩ := h
      have n1 := T.n_isinstance
      have m1 := T.m_List
      have c1 := T.c_Upto.cl
      have c2 := T.c_Text.cl
      have c3 := T.c_Nested.cl
      have c4 := T.c_List.cl
      have a1 := T.a_Upto_most
      have a2 := T.a_Text_most
      have a3 := T.a_Nested_name
      have a4 := T.a_List_item
      cases hi with
      | list hx hi2 =>
        cases hk with
        | list ht htk =>
          top_name
          nest_fact
          have hdp' : k.dep + 1 ≤ 1000 := hdp
          refine zcall (ih (by omega)) hr (Nat.le_refl _) takesF rfl ?_
          top_name
          refine ixT (SqT.of ht) rfl ?_
          top_name
          refine ⟨_, _, rfl, hi2, htk, fun H1 e1 => ?_⟩
          top_name
          refine kisi (.own _) (T.c_List.ty (e1 _ _ hx)) T.k_List_List ?_
          top_name
          exact q _ e1
end K07

set_option maxRecDepth 100000
set_option maxHeartbeats 4000000
set_option pp.maxSteps 1500
namespace K07
open PySem PySem.Spec PyProof.Rows L2 Z
open Evl (Ex)
variable {P : Program} {w : World} {K : PySem.W.Frag} {mg : Str → Option Value} {base : Heap}
/-! ### steps of the walk: one_sign: a heap grew into another; one_item: what stands at an address; one_place: a list or tuple to be read; leaf_len: arithmetic; tb_rel: one step; top_name: steps as far as they go -/
local macro_rules | `(tactic| got_up) => `(tactic| (refine Evl.Ex.trans (by assumption) ?_; first | assumption | exact Evl.Ex.refl _ | got_up))
local macro_rules | `(tactic| units_room) => `(tactic| (refine Evl.Ex.trans ?_ (by assumption); first | assumption | exact Evl.Ex.refl _ | units_room))
local macro_rules | `(tactic| one_sign) => `(tactic| first | assumption | exact Evl.Ex.refl _ | got_up | units_room)
local macro_rules | `(tactic| one_item) => `(tactic| first | assumption | exact upd_same | exact exa (by assumption) (by one_sign))
local macro_rules | `(tactic| one_place) => `(tactic| first | assumption | exact SqL.of (by assumption) | exact SqT.of (by assumption) | exact exl (by assumption) (by one_sign) | exact ext (by assumption) (by one_sign) | exact SqL.of (by one_item) | exact SqT.of (by one_item))
local macro_rules | `(tactic| leaf_len) => `(tactic| first | assumption | decide | omega)
local macro_rules | `(tactic| tb_rel) => `(tactic| first
  | ((with_reducible refine (?_ : wE _ _ _ _ _)); first
    | ((with_reducible refine (?_ : wE _ (.Name _ _) _ _ _)); first | refine zn (by rfl) (by first | exact Or.inl rfl | exact Or.inr (Or.inl rfl) | exact Or.inr (Or.inr rfl)) (by rfl) ?_ | refine zglob (by assumption) (by rfl) ?_ | refine zcls (by assumption) (by rfl) ?_ | refine zty (by assumption) (by first | exact bt_int | exact bt_bool | exact bt_str | exact bt_list | exact bt_tuple | exact bt_dict | exact bt_ValueError) (by rfl) ?_)
    | ((with_reducible refine (?_ : wE _ (.Attribute _ _ _) _ _ _)); refine zfld ?_)
    | ((with_reducible refine (?_ : wE _ (.Constant _ _ _) _ _ _)); first | refine zint ?_ | refine zstr ?_ | refine zbl ?_ | refine znon ?_)
    | ((with_reducible refine (?_ : wE _ (.BinOp _ _ _ _) _ _ _)); refine zbin ?_)
    | ((with_reducible refine (?_ : wE _ (.Compare _ _ _ _) _ _ _)); first | refine zcmp (by rfl) ?_ | refine zchain ?_)
    | ((with_reducible refine (?_ : wE _ (.Dict [] [] _) _ _ _)); refine zdnew (fun _ _ _ _ _ => ?_))
    | ((with_reducible refine (?_ : wE _ (.Subscript _ (.Slice _ _ _ _) _) _ _ _)); refine zsl ?_)
    | ((with_reducible refine (?_ : wE _ (.Subscript _ _ _) _ _ _)); refine zix ?_)
    | ((with_reducible refine (?_ : wE _ (.Call (.Name "list" _) [.Call (.Name "range" _) [_] [] _] [] _) _ _ _)); refine zlrg1 rfl (by rfl) (by assumption) (by rfl) (by assumption) ?_)
    | ((with_reducible refine (?_ : wE _ (.Call (.Name _ _) _ _ _) _ _ _)); first
      | ((with_reducible refine (?_ : wE _ (.Call (.Name "len" _) _ _ _) _ _ _)); refine zbfn (by assumption) bt_len (by rfl) ?_)
      | ((with_reducible refine (?_ : wE _ (.Call (.Name "isinstance" _) _ _ _) _ _ _)); refine zbfn (by assumption) bt_isi (by rfl) ?_)
      | ((with_reducible refine (?_ : wE _ (.Call (.Name "min" _) _ _ _) _ _ _)); refine zbfn (by assumption) bt_min (by rfl) ?_)
      | ((with_reducible refine (?_ : wE _ (.Call (.Name "max" _) _ _ _) _ _ _)); refine zbfn (by assumption) bt_max (by rfl) ?_)
      | ((with_reducible refine (?_ : wE _ (.Call (.Name "list" _) _ _ _) _ _ _)); refine zbty (by assumption) bt_list (by rfl) ?_)
      | ((with_reducible refine (?_ : wE _ (.Call (.Name "tuple" _) _ _ _) _ _ _)); refine zbty (by assumption) bt_tuple (by rfl) ?_)
      | ((with_reducible refine (?_ : wE _ (.Call (.Name "int" _) _ _ _) _ _ _)); refine zbty (by assumption) bt_int (by rfl) ?_)
      | ((with_reducible refine (?_ : wE _ (.Call (.Name "abs" _) _ _ _) _ _ _)); refine zbfn (by assumption) bt_abs (by rfl) ?_)
      | ((with_reducible refine (?_ : wE _ (.Call (.Name "all" _) _ _ _) _ _ _)); refine zbfn (by assumption) bt_all (by rfl) ?_)
      | ((with_reducible refine (?_ : wE _ (.Call (.Name "sum" _) _ _ _) _ _ _)); refine zbfn (by assumption) bt_sum (by rfl) ?_)
      | ((with_reducible refine (?_ : wE _ (.Call (.Name "divmod" _) _ _ _) _ _ _)); refine zbfn (by assumption) bt_divmod (by rfl) ?_)
      | ((with_reducible refine (?_ : wE _ (.Call (.Name "ord" _) _ _ _) _ _ _)); refine zbfn (by assumption) bt_ord (by rfl) ?_))
    | ((with_reducible refine (?_ : wE _ (.IfExp _ _ _ _) _ _ _)); refine zif ?_)
    | ((with_reducible refine (?_ : wE _ (.Tuple _ _ _) _ _ _)); refine ztup ?_)
    | ((with_reducible refine (?_ : wE _ (.List _ _) _ _ _)); refine zlst ?_)
    | ((with_reducible refine (?_ : wE _ (.UnaryOp _ _ _) _ _ _)); first | refine znotV ?_ | refine zneg ?_)
    | ((with_reducible refine (?_ : wE _ (.BoolOp _ _ _) _ _ _)); first | refine zandV ?_ | refine zorV ?_ | refine zoneV ?_))
  | ((with_reducible refine (?_ : bE _ _ _ _ _ _)); refine ⟨fun _ _ _ _ _ => ?_⟩) | ((with_reducible refine (?_ : bG _ _ _ _ _ _ _)); refine ⟨fun _ _ _ _ _ => ?_⟩) | ((with_reducible refine (?_ : bTs _ _ _ _ _ _)); refine ⟨fun _ _ _ _ _ => ?_⟩)
  | ((with_reducible refine (?_ : hE _ _ _ _ _ _)); refine ⟨fun _ _ _ _ _ => ?_⟩) | ((with_reducible refine (?_ : hG _ _ _ _ _ _ _)); refine ⟨fun _ _ _ _ _ => ?_⟩) | ((with_reducible refine (?_ : hTs _ _ _ _ _ _)); refine ⟨fun _ _ _ _ _ => ?_⟩)
  | ((with_reducible refine (?_ : wP _ _ _ _ _)); first | refine pnon ?_ | refine psom ?_) | ((with_reducible refine (?_ : wSl _ _ _ _ _ _)); first | refine slL (by one_place) (fun _ _ _ _ _ => ?_) | refine slS (by assumption) ?_)
  | ((with_reducible refine (?_ : wTs _ _ _ _ _)); first | refine tsnil ?_ | refine tsone ?_)
  | ((with_reducible refine (?_ : wA _ _ _ _ _)); first | refine acons ?_ | refine anil ?_)
  | ((with_reducible refine (?_ : wO _ _ _ _ _ _)); first
    | ((with_reducible refine (?_ : wO _ (binaryOp .Add) _ _ _ _)); first | refine oadd ?_ | refine ocatE (by one_item) (by one_item) (Nat.le_of_ble_eq_true rfl) (fun _ _ _ _ _ => ?_))
    | ((with_reducible refine (?_ : wO _ (binaryOp .Sub) _ _ _ _)); first | refine osub ?_)
    | ((with_reducible refine (?_ : wO _ (binaryOp .Mult) _ _ _ _)); first | refine omul (by first | exact IntMulOk.of_right (by decide) | exact IntMulOk.of_left (by decide) | exact IntMulOk.of_right (intBits_le_64 (by omega) (by omega)) | exact IntMulOk.of_left (intBits_le_64 (by omega) (by omega))) ?_)
    | ((with_reducible refine (?_ : wO _ (binaryOp .Mod) _ _ _ _)); first | refine omod (by first | decide | omega) ?_)
    | ((with_reducible refine (?_ : wO _ (binaryOp .FloorDiv) _ _ _ _)); first | refine ofdiv ⟨by first | decide | omega, by decide⟩ ?_)
    | ((with_reducible refine (?_ : wO _ (binaryOp .BitAnd) _ _ _ _)); first | refine oand ?_)
    | ((with_reducible refine (?_ : wO _ (binaryOp .BitOr) _ _ _ _)); first | refine oor ?_)
    | ((with_reducible refine (?_ : wO _ (compareOp .Lt) _ _ _ _)); first | refine olt ?_)
    | ((with_reducible refine (?_ : wO _ (compareOp .LtE) _ _ _ _)); first | refine ole ?_)
    | ((with_reducible refine (?_ : wO _ (compareOp .Gt) _ _ _ _)); first | refine ogt ?_)
    | ((with_reducible refine (?_ : wO _ (compareOp .GtE) _ _ _ _)); first | refine oge ?_)
    | ((with_reducible refine (?_ : wO _ (compareOp .Eq) _ _ _ _)); first | refine oeqi ?_ | refine oeqsT (by decide +kernel) ?_ | refine oeqsF (by decide +kernel) ?_ | refine oeq (by rfl) ?_)
    | ((with_reducible refine (?_ : wO _ (compareOp .NotEq) _ _ _ _)); first | refine onei ?_ | refine onesT (by decide +kernel) ?_ | refine onesF (by decide +kernel) ?_ | refine one (by rfl) ?_)
    | ((with_reducible refine (?_ : wO _ (compareOp .In) _ _ _ _)); first | refine oin ?_)
    | ((with_reducible refine (?_ : wO _ (compareOp .NotIn) _ _ _ _)); first | refine onin ?_)
    | ((with_reducible refine (?_ : wO _ (compareOp .Is) _ _ _ _)); first | refine ois ?_)
    | ((with_reducible refine (?_ : wO _ (compareOp .IsNot) _ _ _ _)); first | refine onot ?_)
    | ((with_reducible refine (?_ : wO _ (binaryOp .RShift) _ _ _ _)); refine oshr (by first | decide | omega) ?_)
    | ((with_reducible refine (?_ : wO _ (binaryOp .BitXor) _ _ _ _)); refine oxor ?_)
    | ((with_reducible refine (?_ : wO _ (inplaceOp .BitXor) _ _ _ _)); refine ixor ?_)
    | ((with_reducible refine (?_ : wO _ (inplaceOp .RShift) _ _ _ _)); refine ishr (by first | decide | omega) ?_)
    | ((with_reducible refine (?_ : wO _ (inplaceOp .BitOr) _ _ _ _)); first | refine ior ?_)
    | ((with_reducible refine (?_ : wO _ (inplaceOp .Add) _ _ _ _)); first | refine iadd ?_))
  | ((with_reducible refine (?_ : wT _ _ _ _ _)); first
    | ((with_reducible refine (?_ : wT _ (.Compare _ _ _ _) _ _ _)); first | refine zcmpT (by rfl) ?_ | refine zchainT ?_)
    | ((with_reducible refine (?_ : wT _ (.UnaryOp _ _ _) _ _ _)); refine znotT ?_)
    | ((with_reducible refine (?_ : wT _ (.BoolOp _ _ _) _ _ _)); refine zW ?_)
    | refine zval ?_)
  | ((with_reducible refine (?_ : wW _ _ _ _ _)); first | refine zand ?_ | refine zor ?_ | refine zand1 ?_ | refine zor1 ?_)
  | ((with_reducible refine (?_ : wK _ _ _ _ _)); first
    | ((with_reducible refine (?_ : wK _ (.builtin "len") _ _ _)); first | refine klenL (by one_place) ?_ | refine klenT (by one_place) ?_ | refine klenS (by assumption) ?_)
    | ((with_reducible refine (?_ : wK _ (.builtin "isinstance") _ _ _)); first | refine kisE (by assumption) (by assumption) (by first | assumption | exact Xd.exx (by assumption) (by one_sign)) (by first | exact .own _ | exact .ty _) (by assumption) ?_ | refine kisi (.ty _) (by assumption) (by assumption) ?_ | refine kisi (.ty _) (.base (by first | exact .int _ | exact .bl _ | exact .str _ | exact .non | exact .tup (by one_item) | exact .lst (by one_item))) (kit_ty (r := true) (by rfl)) ?_ | refine kisi (.ty _) (.base (by first | exact .int _ | exact .bl _ | exact .str _ | exact .non | exact .tup (by one_item) | exact .lst (by one_item))) (kit_ty (r := false) (by rfl)) ?_)
    | ((with_reducible refine (?_ : wK _ (.builtin "divmod") _ _ _)); refine kdivmod ⟨by first | decide | omega, by decide⟩ (fun _ _ _ _ _ => ?_))
    | ((with_reducible refine (?_ : wK _ (.builtin "min") _ _ _)); refine kmin (by rfl) ?_)
    | ((with_reducible refine (?_ : wK _ (.builtin "max") _ _ _)); refine kmax (by rfl) ?_)
    | ((with_reducible refine (?_ : wK _ (.type "list") _ _ _)); first | refine klistL (by one_place) (fun _ _ _ _ _ => ?_) | refine klistT (by one_place) (fun _ _ _ _ _ => ?_))
    | ((with_reducible refine (?_ : wK _ (.type "tuple") _ _ _)); first | refine ktupL (by one_place) (fun _ _ _ _ _ => ?_)))
  | ((with_reducible refine (?_ : wS _ _ _ _ _)); first
    | ((with_reducible refine (?_ : wS _ (.Assign [.Name _ _] _ _) _ _ _)); refine sset' (by assumption) (by rfl) (by first | exact Or.inl rfl | exact Or.inr rfl) (by rfl) (by first | exact .inl rfl | exact .inr rfl) ?_)
    | ((with_reducible refine (?_ : wS _ (.AugAssign (.Name _ _) _ _ _) _ _ _)); refine saug' (by assumption) (by rfl) (by first | exact Or.inl rfl | exact Or.inr rfl) (by first | exact .inl rfl | exact .inr rfl) (by rfl) ?_)
    | ((with_reducible refine (?_ : wS _ (.Assign [.Attribute _ _ _] _ _) _ _ _)); refine sfld ?_)
    | ((with_reducible refine (?_ : wS _ (.Expr _ _) _ _ _)); refine sexp ?_)
    | ((with_reducible refine (?_ : wS _ (.Assign [.Tuple _ _ _] _ _) _ _ _)); refine sasg ?_) | ((with_reducible refine (?_ : wS _ (.Assign [.Subscript _ _ _] _ _) _ _ _)); refine sasg ?_)
    | refine sret ?_ | refine sif ?_ | refine sretN ?_ | refine spass ?_ | refine sbrk ?_ | refine scont ?_)
  | ((with_reducible refine (?_ : wG _ (.Name _ _) _ _ _ _)); refine gname' (by assumption) (by rfl) (by first | exact Or.inl rfl | exact Or.inr rfl) (by first | exact .inl rfl | exact .inr rfl) ?_)
  | ((with_reducible refine (?_ : wG _ (.Tuple _ _ _) _ _ _ _)); refine gtup rfl (by one_place) rfl ?_) | ((with_reducible refine (?_ : wG _ (.Subscript _ _ _) _ _ _ _)); refine gsub ?_)
  | ((with_reducible refine (?_ : wGs _ _ _ _ _ _)); first | refine gscons ?_ | refine gsnil ?_)
  | ((with_reducible refine (?_ : wB _ _ _ _ _)); first | refine bcons ?_ | refine bnil ?_)
  | refine ifT ?_ | refine ifF ?_ | refine ifd (fun _ => ?_) (fun _ => ?_) | refine ifnd (fun _ => ?_) (fun _ => ?_) | refine ⟨_, rfl, ?_⟩ | refine ⟨rfl, Evl.Ex.refl _, ?_⟩ | refine ⟨_, _, _, _, _, rfl, by one_item, by assumption, by assumption, by rfl, ?_⟩ | refine ⟨Nat.le_of_ble_eq_true rfl, fun _ _ _ _ _ => ?_⟩ | fail)
local macro_rules | `(tactic| top_name) => `(tactic| repeat' tb_rel)
local macro_rules | `(tactic| nest_fact) => `(tactic| first | exact ⟨(decide_eq_true (by omega)).symm, rfl⟩ | exact ⟨(decide_eq_false (by omega)).symm, rfl⟩ | exact ⟨decide_eq_decide.mpr (by omega), rfl⟩ | fail)
/-! ### what a kind tells -/
theorem LK.fst {H : Hp} {v : V} {k : KD} (h : LK H v k) : ∃ t xs, v = .ref t ∧ H t = some (.tup (.str k.word :: xs)) := by
  cases h with
  | truth h => exact ⟨_, _, rfl, h⟩
  | count h => exact ⟨_, _, rfl, h⟩
  | whole h => exact ⟨_, _, rfl, h⟩
  | upto h => exact ⟨_, _, rfl, h⟩
  | text h => exact ⟨_, _, rfl, h⟩
  | form h => exact ⟨_, _, rfl, h⟩
  | list h _ => exact ⟨_, _, rfl, h⟩
theorem at0 {v : V} {xs : List V} : atI (v :: xs) 0 = some v := atI_nat (j := 0) (xs := v :: xs) rfl
def Bl (H H' : Hp) : KD → V → Prop
  | .list _, f => ∃ u : Addr, f = .ref u ∧ H u = none ∧ H' u = some (.lst [])
  | k, f => f = k.blank
def spBl (k : KD) : Sp := fun vs H Q _ => ∃ a : Addr, vs = [.ref a] ∧ ∀ f H', Ex H H' → Bl H H' k f → Q f H'
theorem mf_blank' (T : Txt K mg) (k : KD) : Mf P w K mg base 1 (He.ga K k.cls) "blank" [] (spBl k) := mf_as (mf_blank T k) fun vs H Q E ⟨a, e, q⟩ => ⟨a, e, by
  cases k with
  | list k => exact fun t H' ht e hx => q _ _ e ⟨t, rfl, ht, hx⟩
  | _ => exact q _ _ (Evl.Ex.refl _) rfl⟩
theorem shape_in : ∀ k : KD, (if inV (.str k.word) [.str "text", .str "list", .str "form"] = true then (1 : Int) else 0) = k.shape
  | .truth => (by decide +kernel : (if inV (.str "truth") [.str "text", .str "list", .str "form"] = true then (1 : Int) else 0) = 0)
  | .count => (by decide +kernel : (if inV (.str "count") [.str "text", .str "list", .str "form"] = true then (1 : Int) else 0) = 0)
  | .whole => (by decide +kernel : (if inV (.str "whole") [.str "text", .str "list", .str "form"] = true then (1 : Int) else 0) = 0)
  | .upto _ => (by decide +kernel : (if inV (.str "upto") [.str "text", .str "list", .str "form"] = true then (1 : Int) else 0) = 0)
  | .text _ => (by decide +kernel : (if inV (.str "text") [.str "text", .str "list", .str "form"] = true then (1 : Int) else 0) = 1)
  | .form _ => (by decide +kernel : (if inV (.str "form") [.str "text", .str "list", .str "form"] = true then (1 : Int) else 0) = 1)
  | .list _ => (by decide +kernel : (if inV (.str "list") [.str "text", .str "list", .str "form"] = true then (1 : Int) else 0) = 1)
theorem plain_in : ∀ k : KD, (!inV (.str k.word) [.str "list", .str "form"]) = k.plain
  | .truth => (by decide +kernel : (!inV (.str "truth") [.str "list", .str "form"]) = true)
  | .count => (by decide +kernel : (!inV (.str "count") [.str "list", .str "form"]) = true)
  | .whole => (by decide +kernel : (!inV (.str "whole") [.str "list", .str "form"]) = true)
  | .upto _ => (by decide +kernel : (!inV (.str "upto") [.str "list", .str "form"]) = true)
  | .text _ => (by decide +kernel : (!inV (.str "text") [.str "list", .str "form"]) = true)
  | .form _ => (by decide +kernel : (!inV (.str "form") [.str "list", .str "form"]) = false)
  | .list _ => (by decide +kernel : (!inV (.str "list") [.str "list", .str "form"]) = false)
theorem dep3 (b : Bool) (x y : Int) : PyData.depthAll [.bool b, .int x, .int y] ≤ 60 := by simp [PyData.depthAll, PyData.depth]
theorem eqv3 (b : Bool) (x y : Int) : PyData.eqvAll [.bool b, .int x, .int y] [.bool b, .int x, .int y] = true := by simp [PyData.eqvAll, PyData.eqv]
def spR (K : PySem.W.Frag) : Sp := fun vs H Q _ => ∃ (v t : V) (way n : Int) (k : KD), vs = [v, t, .int way, .int n] ∧ k.Ok ∧ k.dep ≤ 1 ∧ KI K H v k ∧ LK H t k ∧ (way = 0 ∨ way = 1 ∨ way = 2 ∨ way = 3) ∧ ∀ H', Ex H H' → Q (.bl true) H'
theorem ok_right (T : Txt K mg) : Gf P w K mg base 5 "_law_right" [] (spR K) := by
  refine gf_mk T.f__law_right T.m__law_right (fun _ _ _ _ _ _ us hl => match us, hl with | [_, _, _, _], _ => rfl) fun fd F => fn_mk (k := 4) F sc__law_right (fun vs H Q E h => ?_) fun cd A outer s H vs Q E hr tk po h => ?_
  · obtain ⟨v, t, way, n, k, rfl, _⟩ := h; rfl
  · obtain ⟨v, t, way, n, k, rfl, hok, hdp, hi, hk, hway, q⟩ := h
    have nd := sc__law_right.nd
    have n1 := T.n_isinstance
    have n2 := T.n_bool
    have n3 := T.n_list
    have n4 := T.n_int
    obtain ⟨a, dx, fs, rfl, hx, hl⟩ := hi.ins
    obtain ⟨t, xs, rfl, ht⟩ := hk.fst
    have hdp2 : k.dep ≤ 1000 := by omega
    rcases hway with rfl | rfl | rfl | rfl
    · top_name
      refine zmeth0 hr tk ?_
      top_name
      refine ⟨a, _, dx, fs, _, [], _, rfl, hx, hl "words" (by decide +kernel), mf_words T k hok hdp2, by omega, a, rfl, hi, fun u H1 hu e1 hxu => ?_⟩
      top_name
      refine zcall (ok_lwords T k hok hdp2) hr (by omega) takesF rfl ?_
      top_name
      refine ⟨hk.ex e1, fun z H2 hz e2 hxz => ?_⟩
      top_name
      refine oeqStrs hr (SqL.of (e2 _ _ hxu)) (SqL.of hxz) ?_
      rw [decide_eq_true rfl]
      top_name
      refine zmeth0 hr tk ?_
      top_name
      refine ⟨a, _, dx, fs, 1, [], _, rfl, e2 _ _ (e1 _ _ hx), hl "word" (by decide +kernel), mf_word T k, by decide, a, rfl, ?_⟩
      top_name
      refine ixT (SqT.of (e2 _ _ (e1 _ _ ht))) at0 ?_
      refine oeq (by rfl) ?_
      rw [decide_eq_true rfl]
      top_name
      refine zapp ?_
      top_name
      refine ⟨u, _, rfl, e2 _ _ hxu, ?_⟩
      top_name
      have hwl := words_len k
      refine ⟨_, e2 _ _ hxu, by rw [List.length_map, sizeLine_eq]; omega, ?_⟩
      have e3 := Ex.past (o := .lst (k.words.map V.str ++ [.str "more"])) (e1.trans e2) hu
      top_name
      refine zmeth0 hr tk ?_
      top_name
      refine ⟨a, _, dx, fs, _, [], _, rfl, e3 _ _ hx, hl "words" (by decide +kernel), mf_words T k hok hdp2, by omega, a, rfl, hi.ex e3, fun u2 H3 hu2 e4 hxu2 => ?_⟩
      top_name
      refine zcall (ok_lwords T k hok hdp2) hr (by omega) takesF rfl ?_
      top_name
      refine ⟨hk.ex (e3.trans e4), fun z2 H4 hz2 e5 hxz2 => ?_⟩
      refine oeqStrs hr (SqL.of (e5 _ _ hxu2)) (SqL.of hxz2) ?_
      rw [decide_eq_true rfl]
      exact q _ (e3.trans (e4.trans e5))
    · top_name
      refine vcut (fun f H' => Ex H H' ∧ Bl H H' k f) ?_ ?_
      · refine zmeth0 hr tk ?_
        top_name
        exact ⟨a, _, dx, fs, 1, [], _, rfl, hx, hl "blank" (by decide +kernel), mf_blank' T k, by decide, a, rfl, fun f H1 e1 hf => ⟨e1, hf⟩⟩
      rintro f H1 ⟨e1, hf⟩
      top_name
      refine vcut (fun d H' => Ex H1 H' ∧ Bl H1 H' k d) ?_ ?_
      · refine zdget2 (Nat.lt_of_le_of_lt (by omega) hr.units) ?_
        refine zdisp rfl rfl (by decide) (by decide) fun p G1 hp g1 hx1 => ?_
        show wE _ _ _ _ _
        top_name
        show wE _ _ _ _ _
        top_name
        show wE _ _ _ _ _
        top_name
        show wE _ _ _ _ _
        top_name
        rename_i l G2 hl0 g2 hxl
        refine ⟨g2, [(.inr "truth", .bl false), (.inr "text", .str ""), (.inr "list", .ref l), (.inr "form", .non)], rfl, by show 4 ≤ 15; decide, fun G3 g3 hk3 hx3 => ?_⟩
        refine ⟨p, rfl, .inl ⟨_, .inl hx3⟩, ?_⟩
        top_name
        refine ixT (SqT.of (g3 _ _ (e1 _ _ ht))) at0 ?_
        top_name
        refine ⟨_, .inl ⟨_, .inr k.word, .inl hx3, rfl, rfl⟩, g3, ?_⟩
        cases k with
        | list k' => exact ⟨l, rfl, Evl.fresh_back g1 hl0, hk3 l _ (fun e => by subst e; rw [hx1] at hl0; cases hl0) hxl⟩
        | _ => rfl
      rintro d H2 ⟨e2, hd⟩
      cases k with
      | truth =>
        cases hf
        cases hd
        top_name
        refine ixT (SqT.of (e2 _ _ (e1 _ _ ht))) at0 ?_
        top_name
        exact q _ (e1.trans e2)
      | count =>
        cases hf
        cases hd
        top_name
        refine ixT (SqT.of (e2 _ _ (e1 _ _ ht))) at0 ?_
        top_name
        exact q _ (e1.trans e2)
      | whole =>
        cases hf
        cases hd
        top_name
        refine ixT (SqT.of (e2 _ _ (e1 _ _ ht))) at0 ?_
        top_name
        exact q _ (e1.trans e2)
      | upto n =>
        cases hf
        cases hd
        top_name
        refine ixT (SqT.of (e2 _ _ (e1 _ _ ht))) at0 ?_
        top_name
        exact q _ (e1.trans e2)
      | text n =>
        cases hf
        cases hd
        top_name
        refine ixT (SqT.of (e2 _ _ (e1 _ _ ht))) at0 ?_
        top_name
        exact q _ (e1.trans e2)
      | form s0 =>
        cases hf
        cases hd
        top_name
        refine ixT (SqT.of (e2 _ _ (e1 _ _ ht))) at0 ?_
        top_name
        exact q _ (e1.trans e2)
      | list k' =>
        obtain ⟨u, rfl, hu0, hu⟩ := hf
        obtain ⟨l, rfl, hl0, hxl⟩ := hd
        have hne : l ≠ u := fun e => by subst e; rw [hu] at hl0; cases hl0
        top_name
        refine ixT (SqT.of (e2 _ _ (e1 _ _ ht))) at0 ?_
        top_name
        refine zapp ?_
        top_name
        refine ⟨u, _, rfl, e2 _ _ hu, ?_⟩
        top_name
        refine ⟨[], e2 _ _ hu, by decide, ?_⟩
        have e3 := Ex.past (o := .lst ([] ++ [.int 1])) (e1.trans e2) hu0
        have hl3 : upd H2 u (.lst ([] ++ [V.int 1])) l = some (.lst []) := by rw [upd_ne hne]; exact hxl
        top_name
        refine zmeth0 hr tk ?_
        top_name
        refine ⟨a, _, dx, fs, 1, [], _, rfl, e3 _ _ hx, hl "blank" (by decide +kernel), mf_blank' T (.list k'), by decide, a, rfl, fun f H3 e4 hf => ?_⟩
        obtain ⟨u2, rfl, hu20, hu2⟩ := hf
        top_name
        refine oeqNil hr (SqL.of hu2) (SqL.of (e4 _ _ hl3)) ?_
        have hl4 := e4 _ _ hl3
        top_name
        exact q _ (e3.trans e4)
    · refine bcut (fun σ' H' => H = H' ∧ σ' = start N__law_right [.ref a, .ref t, .int 2, .int n]) (by top_name; exact ⟨rfl, rfl⟩) ?_
      rintro _ _ ⟨rfl, rfl⟩
      refine bcut (fun σ' H' => H = H' ∧ σ' = start N__law_right [.ref a, .ref t, .int 2, .int n]) (by top_name; exact ⟨rfl, rfl⟩) ?_
      rintro _ _ ⟨rfl, rfl⟩
      top_name
      refine zmeth0 hr tk ?_
      top_name
      refine ⟨a, _, dx, fs, 1, [], _, rfl, hx, hl "is_plain" (by decide +kernel), mf_plain T k, by decide, a, rfl, ?_⟩
      top_name
      refine zmeth0 hr tk ?_
      top_name
      refine ⟨a, _, dx, fs, 1, [], _, rfl, hx, hl "shape" (by decide +kernel), mf_shape T k, by decide, a, rfl, ?_⟩
      top_name
      refine zmeth0 hr tk ?_
      top_name
      refine ⟨a, _, dx, fs, 1, [], _, rfl, hx, hl "width" (by decide +kernel), mf_width T k, by decide, a, rfl, hi, ?_⟩
      top_name
      rename_i L H1 hL e1 hxL
      refine ixT (SqT.of (e1 _ _ ht)) at0 ?_
      top_name
      rename_i tp H2 htp e2 hxt
      refine oinF (.inr (SqT.of hxt)) rfl rfl ?_
      top_name
      refine kintB ?_
      rw [shape_in]
      have hxL2 := e2 _ _ hxL
      top_name
      refine ixL (SqL.of hxL2) (atI_nat (j := 0) rfl) ?_
      top_name
      refine ixL (SqL.of hxL2) (atI_nat (j := 1) rfl) ?_
      top_name
      refine ixL (SqL.of hxL2) (atI_nat (j := 2) rfl) ?_
      top_name
      refine ixT (SqT.of (e2 _ _ (e1 _ _ ht))) at0 ?_
      top_name
      rename_i tp2 H3 htp2 e3 hxt2
      refine oninF (.inr (SqT.of hxt2)) rfl rfl ?_
      rw [plain_in]
      top_name
      refine zcall (ok_lwidth T k hok) hr (by decide) takesF rfl ?_
      top_name
      refine ⟨hk.ex (e1.trans (e2.trans e3)), ?_⟩
      top_name
      rename_i L2 H4 hL2 e4 hxL4
      refine oeqDL (ds := [.bool k.plain, .int k.shape, .int k.width]) (es := [.bool k.plain, .int k.shape, .int k.width]) hr (.lst (SqL.of (e4 _ _ (e3 _ _ hxL2))) (.cons (.bl _) (.cons (.int _) (.cons (.int _) .nil)))) (.lst (SqL.of hxL4) (.cons (.bl _) (.cons (.int _) (.cons (.int _) .nil)))) (Nat.le_trans (Nat.min_le_left _ _) (dep3 _ _ _)) ?_
      rw [eqv3]
      exact q _ (e1.trans (e2.trans (e3.trans e4)))
    · top_name
      refine zcall (ok_asked_of T k hok hdp2) hr (by omega) takesF rfl ?_
      top_name
      refine ⟨_, _, rfl, hk, fun u H1 hu e1 => ?_⟩
      obtain ⟨b, hb⟩ := suit_ex k (hu.ex nw_sub)
      top_name
      refine zmeth hr tk ?_
      top_name
      refine ⟨a, _, dx, fs, _, [], _, rfl, e1 _ _ hx, hl "suits" (by decide +kernel), mf_suits T k hdp2, by omega, ?_⟩
      top_name
      refine ⟨a, u, b, rfl, hi.ex e1, hb, fun H2 e2 => ?_⟩
      top_name
      refine zcall (ok_lsuits T k hdp2) hr (by omega) takesF rfl ?_
      top_name
      refine ⟨_, _, b, rfl, hk.ex (e1.trans e2), hb.ex e2, fun H3 e3 => ?_⟩
      refine oeq (by rfl) ?_
      rw [decide_eq_true rfl]
      exact q _ (e1.trans (e2.trans e3))
end K07

set_option maxRecDepth 100000
set_option maxHeartbeats 4000000
set_option pp.maxSteps 250
namespace K07
open PySem PySem.Spec PyProof.Rows L2 Z
open Evl (Ex)
variable {P : Program} {w : World} {K : PySem.W.Frag} {mg : Str → Option Value} {base : Heap}
/-! ### steps of the walk: one_sign: a heap grew into another; one_item: what stands at an address; one_place: a list or tuple to be read; leaf_len: arithmetic; tb_rel: one step; top_name: steps as far as they go -/
local macro_rules | `(tactic| got_up) => `(tactic| (refine Evl.Ex.trans (by assumption) ?_; first | assumption | exact Evl.Ex.refl _ | got_up))
local macro_rules | `(tactic| units_room) => `(tactic| (refine Evl.Ex.trans ?_ (by assumption); first | assumption | exact Evl.Ex.refl _ | units_room))
local macro_rules | `(tactic| one_sign) => `(tactic| first | assumption | exact Evl.Ex.refl _ | got_up | units_room)
local macro_rules | `(tactic| one_item) => `(tactic| first | assumption | exact upd_same | exact exa (by assumption) (by one_sign))
local macro_rules | `(tactic| one_place) => `(tactic| first | assumption | exact SqL.of (by assumption) | exact SqT.of (by assumption) | exact exl (by assumption) (by one_sign) | exact ext (by assumption) (by one_sign) | exact SqL.of (by one_item) | exact SqT.of (by one_item))
local macro_rules | `(tactic| leaf_len) => `(tactic| first | assumption | decide | omega)
local macro_rules | `(tactic| tb_rel) => `(tactic| first
  | ((with_reducible refine (?_ : wE _ _ _ _ _)); first
    | ((with_reducible refine (?_ : wE _ (.Name _ _) _ _ _)); first | refine zn (by rfl) (by first | exact Or.inl rfl | exact Or.inr (Or.inl rfl) | exact Or.inr (Or.inr rfl)) (by rfl) ?_ | refine zglob (by assumption) (by rfl) ?_ | refine zcls (by assumption) (by rfl) ?_ | refine zty (by assumption) (by first | exact bt_int | exact bt_bool | exact bt_str | exact bt_list | exact bt_tuple | exact bt_dict | exact bt_ValueError) (by rfl) ?_)
    | ((with_reducible refine (?_ : wE _ (.Attribute _ _ _) _ _ _)); refine zfld ?_)
    | ((with_reducible refine (?_ : wE _ (.Constant _ _ _) _ _ _)); first | refine zint ?_ | refine zstr ?_ | refine zbl ?_ | refine znon ?_)
    | ((with_reducible refine (?_ : wE _ (.BinOp _ _ _ _) _ _ _)); refine zbin ?_)
    | ((with_reducible refine (?_ : wE _ (.Compare _ _ _ _) _ _ _)); first | refine zcmp (by rfl) ?_ | refine zchain ?_)
    | ((with_reducible refine (?_ : wE _ (.Dict [] [] _) _ _ _)); refine zdnew (fun _ _ _ _ _ => ?_))
    | ((with_reducible refine (?_ : wE _ (.Subscript _ (.Slice _ _ _ _) _) _ _ _)); refine zsl ?_)
    | ((with_reducible refine (?_ : wE _ (.Subscript _ _ _) _ _ _)); refine zix ?_)
    | ((with_reducible refine (?_ : wE _ (.Call (.Name "list" _) [.Call (.Name "range" _) [_] [] _] [] _) _ _ _)); refine zlrg1 rfl (by rfl) (by assumption) (by rfl) (by assumption) ?_)
    | ((with_reducible refine (?_ : wE _ (.Call (.Name _ _) _ _ _) _ _ _)); first
      | ((with_reducible refine (?_ : wE _ (.Call (.Name "len" _) _ _ _) _ _ _)); refine zbfn (by assumption) bt_len (by rfl) ?_)
      | ((with_reducible refine (?_ : wE _ (.Call (.Name "isinstance" _) _ _ _) _ _ _)); refine zbfn (by assumption) bt_isi (by rfl) ?_)
      | ((with_reducible refine (?_ : wE _ (.Call (.Name "min" _) _ _ _) _ _ _)); refine zbfn (by assumption) bt_min (by rfl) ?_)
      | ((with_reducible refine (?_ : wE _ (.Call (.Name "max" _) _ _ _) _ _ _)); refine zbfn (by assumption) bt_max (by rfl) ?_)
      | ((with_reducible refine (?_ : wE _ (.Call (.Name "list" _) _ _ _) _ _ _)); refine zbty (by assumption) bt_list (by rfl) ?_)
      | ((with_reducible refine (?_ : wE _ (.Call (.Name "tuple" _) _ _ _) _ _ _)); refine zbty (by assumption) bt_tuple (by rfl) ?_)
      | ((with_reducible refine (?_ : wE _ (.Call (.Name "int" _) _ _ _) _ _ _)); refine zbty (by assumption) bt_int (by rfl) ?_)
      | ((with_reducible refine (?_ : wE _ (.Call (.Name "abs" _) _ _ _) _ _ _)); refine zbfn (by assumption) bt_abs (by rfl) ?_)
      | ((with_reducible refine (?_ : wE _ (.Call (.Name "all" _) _ _ _) _ _ _)); refine zbfn (by assumption) bt_all (by rfl) ?_)
      | ((with_reducible refine (?_ : wE _ (.Call (.Name "sum" _) _ _ _) _ _ _)); refine zbfn (by assumption) bt_sum (by rfl) ?_)
      | ((with_reducible refine (?_ : wE _ (.Call (.Name "divmod" _) _ _ _) _ _ _)); refine zbfn (by assumption) bt_divmod (by rfl) ?_)
      | ((with_reducible refine (?_ : wE _ (.Call (.Name "ord" _) _ _ _) _ _ _)); refine zbfn (by assumption) bt_ord (by rfl) ?_))
    | ((with_reducible refine (?_ : wE _ (.IfExp _ _ _ _) _ _ _)); refine zif ?_)
    | ((with_reducible refine (?_ : wE _ (.Tuple _ _ _) _ _ _)); refine ztup ?_)
    | ((with_reducible refine (?_ : wE _ (.List _ _) _ _ _)); refine zlst ?_)
    | ((with_reducible refine (?_ : wE _ (.UnaryOp _ _ _) _ _ _)); first | refine znotV ?_ | refine zneg ?_)
    | ((with_reducible refine (?_ : wE _ (.BoolOp _ _ _) _ _ _)); first | refine zandV ?_ | refine zorV ?_ | refine zoneV ?_))
  | ((with_reducible refine (?_ : bE _ _ _ _ _ _)); refine ⟨fun _ _ _ _ _ => ?_⟩) | ((with_reducible refine (?_ : bG _ _ _ _ _ _ _)); refine ⟨fun _ _ _ _ _ => ?_⟩) | ((with_reducible refine (?_ : bTs _ _ _ _ _ _)); refine ⟨fun _ _ _ _ _ => ?_⟩)
  | ((with_reducible refine (?_ : hE _ _ _ _ _ _)); refine ⟨fun _ _ _ _ _ => ?_⟩) | ((with_reducible refine (?_ : hG _ _ _ _ _ _ _)); refine ⟨fun _ _ _ _ _ => ?_⟩) | ((with_reducible refine (?_ : hTs _ _ _ _ _ _)); refine ⟨fun _ _ _ _ _ => ?_⟩)
  | ((with_reducible refine (?_ : wP _ _ _ _ _)); first | refine pnon ?_ | refine psom ?_) | ((with_reducible refine (?_ : wSl _ _ _ _ _ _)); first | refine slL (by one_place) (fun _ _ _ _ _ => ?_) | refine slS (by assumption) ?_)
  | ((with_reducible refine (?_ : wTs _ _ _ _ _)); first | refine tsnil ?_ | refine tsone ?_)
  | ((with_reducible refine (?_ : wA _ _ _ _ _)); first | refine acons ?_ | refine anil ?_)
  | ((with_reducible refine (?_ : wO _ _ _ _ _ _)); first
    | ((with_reducible refine (?_ : wO _ (binaryOp .Add) _ _ _ _)); first | refine oadd ?_ | refine ocatE (by one_item) (by one_item) (Nat.le_of_ble_eq_true rfl) (fun _ _ _ _ _ => ?_))
    | ((with_reducible refine (?_ : wO _ (binaryOp .Sub) _ _ _ _)); first | refine osub ?_)
    | ((with_reducible refine (?_ : wO _ (binaryOp .Mult) _ _ _ _)); first | refine omul (by first | exact IntMulOk.of_right (by decide) | exact IntMulOk.of_left (by decide) | exact IntMulOk.of_right (intBits_le_64 (by omega) (by omega)) | exact IntMulOk.of_left (intBits_le_64 (by omega) (by omega))) ?_)
    | ((with_reducible refine (?_ : wO _ (binaryOp .Mod) _ _ _ _)); first | refine omod (by first | decide | omega) ?_)
    | ((with_reducible refine (?_ : wO _ (binaryOp .FloorDiv) _ _ _ _)); first | refine ofdiv ⟨by first | decide | omega, by decide⟩ ?_)
    | ((with_reducible refine (?_ : wO _ (binaryOp .BitAnd) _ _ _ _)); first | refine oand ?_)
    | ((with_reducible refine (?_ : wO _ (binaryOp .BitOr) _ _ _ _)); first | refine oor ?_)
    | ((with_reducible refine (?_ : wO _ (compareOp .Lt) _ _ _ _)); first | refine olt ?_)
    | ((with_reducible refine (?_ : wO _ (compareOp .LtE) _ _ _ _)); first | refine ole ?_)
    | ((with_reducible refine (?_ : wO _ (compareOp .Gt) _ _ _ _)); first | refine ogt ?_)
    | ((with_reducible refine (?_ : wO _ (compareOp .GtE) _ _ _ _)); first | refine oge ?_)
    | ((with_reducible refine (?_ : wO _ (compareOp .Eq) _ _ _ _)); first | refine oeqi ?_ | refine oeqsT (by decide +kernel) ?_ | refine oeqsF (by decide +kernel) ?_ | refine oeq (by rfl) ?_)
    | ((with_reducible refine (?_ : wO _ (compareOp .NotEq) _ _ _ _)); first | refine onei ?_ | refine onesT (by decide +kernel) ?_ | refine onesF (by decide +kernel) ?_ | refine one (by rfl) ?_)
    | ((with_reducible refine (?_ : wO _ (compareOp .In) _ _ _ _)); first | refine oin ?_)
    | ((with_reducible refine (?_ : wO _ (compareOp .NotIn) _ _ _ _)); first | refine onin ?_)
    | ((with_reducible refine (?_ : wO _ (compareOp .Is) _ _ _ _)); first | refine ois ?_)
    | ((with_reducible refine (?_ : wO _ (compareOp .IsNot) _ _ _ _)); first | refine onot ?_)
    | ((with_reducible refine (?_ : wO _ (binaryOp .RShift) _ _ _ _)); refine oshr (by first | decide | omega) ?_)
    | ((with_reducible refine (?_ : wO _ (binaryOp .BitXor) _ _ _ _)); refine oxor ?_)
    | ((with_reducible refine (?_ : wO _ (inplaceOp .BitXor) _ _ _ _)); refine ixor ?_)
    | ((with_reducible refine (?_ : wO _ (inplaceOp .RShift) _ _ _ _)); refine ishr (by first | decide | omega) ?_)
    | ((with_reducible refine (?_ : wO _ (inplaceOp .BitOr) _ _ _ _)); first | refine ior ?_)
    | ((with_reducible refine (?_ : wO _ (inplaceOp .Add) _ _ _ _)); first | refine iadd ?_))
  | ((with_reducible refine (?_ : wT _ _ _ _ _)); first
    | ((with_reducible refine (?_ : wT _ (.Compare _ _ _ _) _ _ _)); first | refine zcmpT (by rfl) ?_ | refine zchainT ?_)
    | ((with_reducible refine (?_ : wT _ (.UnaryOp _ _ _) _ _ _)); refine znotT ?_)
    | ((with_reducible refine (?_ : wT _ (.BoolOp _ _ _) _ _ _)); refine zW ?_)
    | refine zval ?_)
  | ((with_reducible refine (?_ : wW _ _ _ _ _)); first | refine zand ?_ | refine zor ?_ | refine zand1 ?_ | refine zor1 ?_)
  | ((with_reducible refine (?_ : wK _ _ _ _ _)); first
    | ((with_reducible refine (?_ : wK _ (.builtin "len") _ _ _)); first | refine klenL (by one_place) ?_ | refine klenT (by one_place) ?_ | refine klenS (by assumption) ?_)
    | ((with_reducible refine (?_ : wK _ (.builtin "isinstance") _ _ _)); first | refine kisE (by assumption) (by assumption) (by first | assumption | exact Xd.exx (by assumption) (by one_sign)) (by first | exact .own _ | exact .ty _) (by assumption) ?_ | refine kisi (.ty _) (by assumption) (by assumption) ?_ | refine kisi (.ty _) (.base (by first | exact .int _ | exact .bl _ | exact .str _ | exact .non | exact .tup (by one_item) | exact .lst (by one_item))) (kit_ty (r := true) (by rfl)) ?_ | refine kisi (.ty _) (.base (by first | exact .int _ | exact .bl _ | exact .str _ | exact .non | exact .tup (by one_item) | exact .lst (by one_item))) (kit_ty (r := false) (by rfl)) ?_)
    | ((with_reducible refine (?_ : wK _ (.builtin "divmod") _ _ _)); refine kdivmod ⟨by first | decide | omega, by decide⟩ (fun _ _ _ _ _ => ?_))
    | ((with_reducible refine (?_ : wK _ (.builtin "min") _ _ _)); refine kmin (by rfl) ?_)
    | ((with_reducible refine (?_ : wK _ (.builtin "max") _ _ _)); refine kmax (by rfl) ?_)
    | ((with_reducible refine (?_ : wK _ (.type "list") _ _ _)); first | refine klistL (by one_place) (fun _ _ _ _ _ => ?_) | refine klistT (by one_place) (fun _ _ _ _ _ => ?_))
    | ((with_reducible refine (?_ : wK _ (.type "tuple") _ _ _)); first | refine ktupL (by one_place) (fun _ _ _ _ _ => ?_)))
  | ((with_reducible refine (?_ : wS _ _ _ _ _)); first
    | ((with_reducible refine (?_ : wS _ (.Assign [.Name _ _] _ _) _ _ _)); refine sset' (by assumption) (by rfl) (by first | exact Or.inl rfl | exact Or.inr rfl) (by rfl) (by first | exact .inl rfl | exact .inr rfl) ?_)
    | ((with_reducible refine (?_ : wS _ (.AugAssign (.Name _ _) _ _ _) _ _ _)); refine saug' (by assumption) (by rfl) (by first | exact Or.inl rfl | exact Or.inr rfl) (by first | exact .inl rfl | exact .inr rfl) (by rfl) ?_)
    | ((with_reducible refine (?_ : wS _ (.Assign [.Attribute _ _ _] _ _) _ _ _)); refine sfld ?_)
    | ((with_reducible refine (?_ : wS _ (.Expr _ _) _ _ _)); refine sexp ?_)
    | ((with_reducible refine (?_ : wS _ (.Assign [.Tuple _ _ _] _ _) _ _ _)); refine sasg ?_) | ((with_reducible refine (?_ : wS _ (.Assign [.Subscript _ _ _] _ _) _ _ _)); refine sasg ?_)
    | refine sret ?_ | refine sif ?_ | refine sretN ?_ | refine spass ?_ | refine sbrk ?_ | refine scont ?_)
  | ((with_reducible refine (?_ : wG _ (.Name _ _) _ _ _ _)); refine gname' (by assumption) (by rfl) (by first | exact Or.inl rfl | exact Or.inr rfl) (by first | exact .inl rfl | exact .inr rfl) ?_)
  | ((with_reducible refine (?_ : wG _ (.Tuple _ _ _) _ _ _ _)); refine gtup rfl (by one_place) rfl ?_) | ((with_reducible refine (?_ : wG _ (.Subscript _ _ _) _ _ _ _)); refine gsub ?_)
  | ((with_reducible refine (?_ : wGs _ _ _ _ _ _)); first | refine gscons ?_ | refine gsnil ?_)
  | ((with_reducible refine (?_ : wB _ _ _ _ _)); first | refine bcons ?_ | refine bnil ?_)
  | refine ifT ?_ | refine ifF ?_ | refine ifd (fun _ => ?_) (fun _ => ?_) | refine ifnd (fun _ => ?_) (fun _ => ?_) | refine ⟨_, rfl, ?_⟩ | refine ⟨rfl, Evl.Ex.refl _, ?_⟩ | refine ⟨_, _, _, _, _, rfl, by one_item, by assumption, by assumption, by rfl, ?_⟩ | refine ⟨Nat.le_of_ble_eq_true rfl, fun _ _ _ _ _ => ?_⟩ | fail)
local macro_rules | `(tactic| top_name) => `(tactic| repeat' tb_rel)
local macro_rules | `(tactic| nest_fact) => `(tactic| first | exact ⟨(decide_eq_true (by omega)).symm, rfl⟩ | exact ⟨(decide_eq_false (by omega)).symm, rfl⟩ | exact ⟨decide_eq_decide.mpr (by omega), rfl⟩ | fail)
theorem kind_is (T : Txt K mg) {H : Hp} {v : V} {k : KD} (h : KI K H v k) : ∃ t, TyX K H v t ∧ PySem.W.kitOne K t (.ref (He.ga K "Kind")) = some true := by
  cases h with
  | truth h => exact ⟨_, T.c_Truth.ty h, T.k_Truth_Kind⟩
  | count h => exact ⟨_, T.c_Count.ty h, T.k_Count_Kind⟩
  | whole h => exact ⟨_, T.c_Whole.ty h, T.k_Whole_Kind⟩
  | upto h => exact ⟨_, T.c_Upto.ty h, T.k_Upto_Kind⟩
  | text h => exact ⟨_, T.c_Text.ty h, T.k_Text_Kind⟩
  | form h => exact ⟨_, T.c_Nested.ty h, T.k_Nested_Kind⟩
  | list h _ => exact ⟨_, T.c_List.ty h, T.k_List_Kind⟩
def sp_law (K : PySem.W.Frag) : Sp := fun vs H Q _ => ∃ (a : Addr) (ns : List Int), vs = [.ref a] ∧ SqL K H a (ns.map V.int) ∧ ns.length ≤ 63 ∧ (∀ z ∈ ns, Builtin.Int.intBits z ≤ 1048576) ∧ ∀ H', Q (.bl true) H'
theorem fn_law (T : Txt K mg) {fd : FuncData} (F : FunD K "law" "law" (defArgs s_law) (defBody s_law) (defScope s_law) [] [] (He.fAd K ("law", none)) fd) : FnOk P w K mg base (L2N.CX P w) 6 (He.fAd K ("law", none)) fd ["_law_script"] (sp_law K) := by
  refine fn_mk F sc_law (fun vs H Q E h => ?_) fun cd A outer s H vs Q E hr tk po h => ?_
  · obtain ⟨a, ns, rfl, _⟩ := h; rfl
  · obtain ⟨a, ns, rfl, hs, hlen, hbits, q⟩ := h
    have nd := sc_law.nd
    have n1 := T.n_range
    have n2 := T.n_zip
    have n3 := T.n_isinstance
    have m1 := T.m_Kind
    have hr1 : Room (4 + 1) _ := hr
    have hr0 : Room (1 + 1) _ := hr1.mono (by decide)
    refine bcut (fun σ' H' => Ex H H' ∧ ∃ (L : Addr) (ts : List V), H' L = some (.lst ts) ∧ ts.length = 2 ∧ (∀ t ∈ ts, ∃ k : KD, k.Ok ∧ k.dep ≤ 1 ∧ LK H' t k) ∧ σ' = [some (.ref a), some (.ref L), none, none, none, none, none, none]) ?_ ?_
    · refine slc (i := 1) (y := "_law_kinds") rfl nd rfl rfl [("_law_k", 3)] (blkOk_by (N := N_law) (sc := defScope s_law) (by decide +kernel)) (piR1 n1 rfl) (sw_true rfl rfl rfl (by decide +kernel)) (tnR1 (n := 2) (fun j ws HH => ws.length = j ∧ ∀ t ∈ ws, ∃ k : KD, k.Ok ∧ k.dep ≤ 1 ∧ LK (nw H HH) t k) (fun _ _ _ _ g e => ⟨g.1, fun x hx => by obtain ⟨k, h1, h2, h3⟩ := g.2 x hx; exact ⟨k, h1, h2, h3.ex (nw_mono e)⟩⟩) (fun _ => ⟨rfl, fun _ h => nomatch h⟩) ?_)
      top_name
      refine ⟨rfl, by decide, by decide, fun j G2 L ws hj g2 hL hw g => ?_, fun L G2 ws hL g2 hw g => ?_⟩
      · top_name
        refine zcall (ok_drawn T) hr0 (by decide) takesF rfl ?_
        top_name
        refine zcall (ok_number T) hr0 (by decide) takesF rfl ?_
        top_name
        refine ⟨a, ns, _, rfl, exl hs g2, by omega, by omega, fun c c0 c1 => ?_⟩
        top_name
        refine ⟨c0, c1, fun t k G3 hok hdp hk g3 => ?_⟩
        refine ⟨by rw [g.1, sizeLine_eq]; omega, g3, by rw [List.length_append, g.1]; rfl, fun x hx => ?_⟩
        rcases List.mem_append.mp hx with hx | hx
        · obtain ⟨k', h1, h2, h3⟩ := g.2 x hx
          exact ⟨k', h1, h2, h3.ex (nw_mono (del_mono fun b o _ e => g3 b o e))⟩
        · rw [List.mem_singleton.mp hx]
          exact ⟨k, hok, hdp, hk.ex (nw_step g2 hw)⟩
      · exact ⟨g2, L, ws, hw, g.1, fun t ht => by obtain ⟨k, h1, h2, h3⟩ := g.2 t ht; exact ⟨k, h1, h2, h3.ex nw_sub⟩, rfl⟩
    rintro _ H1 ⟨e1, L, ts, hL, htl, hts, rfl⟩
    refine bcut (fun σ' H' => Ex H1 H' ∧ ∃ (M : Addr) (us : List V), H' M = some (.lst us) ∧ us.length = 2 ∧ (∀ (i : Nat) (u : V), us[i]? = some u → ∃ (t : V) (k : KD), ts[i]? = some t ∧ k.Ok ∧ k.dep ≤ 1 ∧ LK H1 t k ∧ KI K H' u k) ∧ σ' = [some (.ref a), some (.ref L), some (.ref M), none, none, none, none, none]) ?_ ?_
    · refine slc (i := 2) (y := "_law_made") rfl nd rfl rfl [("_law_kind", 6)] (blkOk_by (N := N_law) (sc := defScope s_law) (by decide +kernel)) piL (sw_true rfl rfl rfl (by decide +kernel)) (tnL (xs := ts) (fun j ws HH => ws.length = j ∧ ∀ (i : Nat) (u : V), ws[i]? = some u → ∃ (t : V) (k : KD), ts[i]? = some t ∧ k.Ok ∧ k.dep ≤ 1 ∧ LK H1 t k ∧ KI K HH u k) (fun _ _ _ _ g e => ⟨g.1, fun i x hx => by obtain ⟨t, k, h0, h1, h2, h3, h4⟩ := g.2 i x hx; exact ⟨t, k, h0, h1, h2, h3, h4.ex e⟩⟩) (fun _ => ⟨rfl, fun i u h => by cases h⟩) ?_)
      top_name
      refine ⟨SqL.of hL, fun j t G2 M ws ht g2 hM hw g => ?_, fun M G2 ws hM g2 hw g => ?_⟩
      · obtain ⟨k, hok, hdp, hk⟩ := hts t (List.mem_of_getElem? ht)
        have hj := (List.getElem?_eq_some_iff.mp ht).1
        top_name
        refine zcall (ok_made T k) hr1 (by omega) takesF rfl ?_
        top_name
        refine ⟨hk.ex g2, fun u G3 hu hi g3 => ?_⟩
        refine ⟨by rw [g.1, sizeLine_eq]; omega, g3, by rw [List.length_append, g.1]; rfl, fun i x hx => ?_⟩
        rw [List.getElem?_append] at hx
        split at hx
        · obtain ⟨t', k', h0, h1, h2, h3, h4⟩ := g.2 i x hx
          exact ⟨t', k', h0, h1, h2, h3, h4.ex (del_mono fun b o _ e => g3 b o e)⟩
        · rename_i hni
          rw [g.1] at hx hni
          have hi0 : i - j = 0 := by
            have := (List.getElem?_eq_some_iff.mp hx).1
            simp at this
            omega
          rw [hi0] at hx
          cases hx
          obtain rfl : i = j := by omega
          exact ⟨t, k, ht, hok, hdp, hk, hi.ex (nw_del hw)⟩
      · exact ⟨g2, M, ws, hw, g.1.trans htl, g.2, rfl⟩
    rintro _ H2 ⟨e2, M, us, hM, hul, hus, rfl⟩
    have hL2 := e2 _ _ hL
    refine bcons (lfor2 (lo := 2) (n := 26) n1 po rfl (fun i σ H' => Ex H2 H' ∧ ∃ (v3 v4 v5 : Option V), σ = [some (.ref a), some (.ref L), some (.ref M), v3, v4, v5, none, none]) rfl ?_)
    top_name
    refine ⟨rfl, ?_⟩
    top_name
    refine ⟨rfl, ⟨by decide, by decide, by decide, by decide⟩, ⟨Evl.Ex.refl _, none, none, none, rfl⟩, ?_, ?_⟩
    · rintro i σ H3 hi ⟨e3, v3, v4, v5, rfl⟩
      tb_rel
      refine bcut (fun σ' H' => H3 = H' ∧ ∃ c : Int, 0 ≤ c ∧ c < 2147483629 ∧ σ' = [some (.ref a), some (.ref L), some (.ref M), some (.int (2 + (i : Int))), some (.int c), v5, none, none]) ?_ ?_
      · top_name
        refine zcall (ok_number T) hr0 (by decide) takesF rfl ?_
        top_name
        refine ⟨a, ns, _, rfl, exl hs (e1.trans (e2.trans e3)), by omega, by omega, fun c c0 c1 => ?_⟩
        exact ⟨rfl, c, c0, c1, rfl⟩
      rintro _ _ ⟨rfl, c, c0, c1, rfl⟩
      refine bcut (fun σ' H' => H3 = H' ∧ σ' = [some (.ref a), some (.ref L), some (.ref M), some (.int (2 + (i : Int))), some (.int c), some (.int (c % 2)), none, none]) (by top_name; exact ⟨rfl, rfl⟩) ?_
      rintro _ _ ⟨rfl, rfl⟩
      obtain ⟨j, hj⟩ : ∃ j : Nat, c % 2 = (j : Int) := ⟨(c % 2).toNat, by omega⟩
      have hjl : j < us.length := by omega
      obtain ⟨t, k, ht, hok, hdp, hk, hki⟩ := hus j _ (List.getElem?_eq_getElem hjl)
      top_name
      refine zcall (ok_right T) hr1 (by decide) takesF rfl ?_
      top_name
      rw [hj]
      refine ixL (SqL.of (e3 _ _ hM)) (atI_nat (List.getElem?_eq_getElem hjl)) ?_
      top_name
      refine ixL (SqL.of (e3 _ _ hL2)) (atI_nat ht) ?_
      top_name
      rename_i o H4 ho e4 hxo
      obtain ⟨b, hb, hi2⟩ := atN (ns := [0, 1, 2, 3, 3, 3]) (k := c / 2 % 6) (by omega) (by show _ < ((6 : Nat) : Int); omega)
      have hb2 : b = 0 ∨ b = 1 ∨ b = 2 ∨ b = 3 := by
        simp only [List.mem_cons, List.not_mem_nil, or_false] at hb
        omega
      refine ixL (by one_place) hi2 ?_
      top_name
      refine zcall (ok_mixed T) hr0 (by decide) takesF rfl ?_
      top_name
      refine ⟨_, _, rfl, by omega, by omega, fun z z0 z1 => ?_⟩
      top_name
      refine ⟨_, _, _, _, k, rfl, hok, hdp, hki.ex (e3.trans e4), hk.ex (e2.trans (e3.trans e4)), hb2, fun H5 e5 => ?_⟩
      top_name
      exact ⟨e3.trans (e4.trans e5), _, _, _, rfl⟩
    · rintro σ H3 ⟨e3, v3, v4, v5, rfl⟩
      top_name
      refine zlc rfl nd [("_law_one", 7), ("_law_kind", 6)] (blkOk_by (N := N_law) (sc := defScope s_law) (by decide +kernel)) (piZip n2 rfl) (tnZip (xs := us) (ys := ts) (fun j ws _ => ws = []) (fun _ _ _ _ g _ => g) (fun _ => rfl) (by omega) ?_)
      top_name
      refine ⟨M, L, rfl, SqL.of (e3 _ _ hM), SqL.of (e3 _ _ hL2), fun j x y H4 N ws Tp H5 hx hy e4 hN hw g hTp e5 hxT => ?_, fun N H4 ws hN e4 hw g => ?_⟩
      · obtain ⟨t, k, ht, hok, hdp, hk, hki⟩ := hus j x hx
        rw [hy] at ht
        cases ht
        have e45 : Ex H3 H5 := e4.trans e5
        top_name
        refine zcall (ok_held T k (by omega)) hr1 (by omega) takesF rfl ?_
        top_name
        refine ⟨_, _, rfl, hki.ex (e3.trans e45), hk.ex (e2.trans (e3.trans e45)), fun H6 e6 => ?_⟩
        top_name
        obtain ⟨ty, hty, hkt⟩ := kind_is T (hki.ex (e3.trans (e45.trans e6)))
        refine kisi (.own _) hty hkt ?_
        top_name
        exact ⟨e6, g⟩
      · subst g
        top_name
        rename_i o H5 ho e5 hxo
        refine oeqNil hr (SqL.of (e5 _ _ hw)) (SqL.of hxo) ?_
        exact q _
end K07

set_option maxRecDepth 100000
set_option maxHeartbeats 0
namespace K07
open PySem PySem.Spec PyProof.Rows L2 Z
/-! ### the end -/
theorem facts {P : Program} {w : World} {K : PySem.W.Frag} {h : Heap} {mg : Str → Option Value} {f : Addr} (X : K.In h) (G : h.Ns mainGlobals mg) (hfa : mg ("law" : Str) = some (.ref f)) (c : He.SaysX fa fn [] [] exB w h K) :
    ∃ fd : FuncData, (∀ (s : Shared) (v : Value), BindsTo s fd ⟨[v], []⟩ [("_law_script", v)]) ∧ ∀ base : Heap, K.In base → base.Ns mainGlobals mg → FnOk P w K mg base (L2N.CX P w) 6 f fd ["_law_script"] (sp_law K) := by
  have T := txt_of X G c
  obtain ⟨fd, F⟩ := T.f_law
  have e := hfa.symm.trans T.m_law
  cases e
  have b := FunD.bindsA (ps := ["_law_script"]) F fun _ _ _ _ _ _ us hl => match us, hl with | [_], _ => rfl
  exact ⟨fd, fun s v => b s [v] rfl, fun base _ _ => fn_law T F⟩
end K07
open PySem PySem.W PySem.Calls PyProof.Rows
set_option maxRecDepth 100000 in
set_option maxHeartbeats 8000000 in
theorem PySem.Challenge.cw_formkin_k07_kinds_holds : PySem.Challenge.rw_formkin_k07_kinds.Holds := by
  w_on; o_law
  refine HandSHeadRun.head_any (r := OpenLaw.row PySem.Challenge.rw_formkin_k07_kinds) (q := view (OpenLaw.row PySem.Challenge.rw_formkin_k07_kinds).prog [32]) (H := K07.hk) (ob := K07.ob) (M := 6000) (loose := K07.loose) (d := HandSHeadRun.topDef (OpenLaw.row PySem.Challenge.rw_formkin_k07_kinds).prog 32) (kwd := []) K07.ob_eq
    (by kernel_rfl) (fun s => by kernel_rfl) K07.run (by kernel_rfl) (by kernel_rfl) (by kernel_rfl) (by rfl) (by first | assumption | decide +kernel) (by decide +kernel) ⟨rfl, rfl, rfl, rfl, rfl, by decide +kernel⟩ ?hw ?hc
  case hw => w_witness2
  case hc =>
    refine Z.walk_bits (l := PySem.Challenge.rw_formkin_k07_kinds) (n := 63) (k := 6) (x := "_law_script") rfl (by decide) (by kernel_rfl) ⟨rfl, by decide, by decide⟩ ?F
    intro w mg fa h Y G hmg0
    obtain ⟨K, KX, c⟩ := Y
    have hmg : mg ("law" : PySem.Str) = some (.ref fa) := by
      have e : (HandSHeadRun.topDef (OpenLaw.row PySem.Challenge.rw_formkin_k07_kinds).prog 32).name = ("law" : PySem.Str) := by kernel_rfl
      rw [← e]
      exact hmg0
    obtain ⟨fd, hb, hF⟩ := K07.facts (P := (PySem.Challenge.rw_formkin_k07_kinds).prog) (w := w) KX G hmg c
    exact ⟨K, fd, K07.sp_law K, KX, hb, fun H a ns hl hz _ hS => ⟨a, ns, rfl, hS, hl, hz, fun _ => rfl⟩, hF⟩
