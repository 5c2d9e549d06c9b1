import PyProof.Rows.All
import Wide.All
import OpenK.AllK
import Wide.FinOn
import KE.KStateDown
import KE.KExcIs
import Lean
import HandS.ForMost
import HandS.Exc
import HandS.ExcOwn
import HandS.ExcInit
import HandS.ExcCtx
import HandS.ExcIs
import HandS.ExcField
import HandS.TryMany
import HandS.HotCalls
import HandS.ExcInitHot
import HandS.IsInst
import HandS.Wide
import HandS.WideBits
import HandS.Defaults
import HandS.Codes
import HandS.WordsExc
import HandS.EndBits
import HandS.Head0
import HandS.Head1
import HandS.Head2
import HandS.HeadEnd
import HandS.HeadHook1
import HandS.HeadHook2
import HandS.HeadHook3
import HandS.HeadHook4
import HandS.Evl
import HandS.Replace
import HandS.Conv
import PySem.Challenge.RW_formkin_k05_kept_rows
set_option Elab.async false
set_option linter.all false
set_option maxRecDepth 100000
set_option maxHeartbeats 4000000
namespace Z
open PySem PySem.Spec PyProof.Rows L2
abbrev St := L2.St
/-! ### a piece of the text, walked from a state to a wish -/
structure wE (X : Cx) (e : Expr) (σ : St) (H : Hp) (Q : VK) : Prop where
  run : ∀ (pins : List (Addr × Obj)) (s : Shared), Inv X pins σ H s → wpAny (model X.prog X.w) X.A (eval e X.env) (EP X pins σ Q) X.xe s
structure wT (X : Cx) (e : Expr) (σ : St) (H : Hp) (Q : Bool → Hp → Prop) : Prop where
  run : ∀ (pins : List (Addr × Obj)) (s : Shared), Inv X pins σ H s → wpAny (model X.prog X.w) X.A (isTrue e X.env (eval e X.env)) (TP X pins σ Q) X.xe s
structure wW (X : Cx) (e : Expr) (σ : St) (H : Hp) (Q : Bool → Hp → Prop) : Prop where
  run : ∀ (whole : Sem Value) (pins : List (Addr × Obj)) (s : Shared), Inv X pins σ H s → wpAny (model X.prog X.w) X.A (isTrue e X.env whole) (TP X pins σ Q) X.xe s
structure wA (X : Cx) (es : List Expr) (σ : St) (H : Hp) (Q : List V → Hp → Prop) : Prop where
  run : ∀ (pos : Pos) (pins : List (Addr × Obj)) (s : Shared), Inv X pins σ H s → wpAny (model X.prog X.w) X.A (spliced (backTo pos (starEach es X.env))) (AP X pins σ Q) X.xe s
structure wS (X : Cx) (st : Stmt) (D : Ends) (σ : St) (H : Hp) : Prop where
  run : ∀ (pins : List (Addr × Obj)) (s : Shared), Inv X pins σ H s → wpAny (model X.prog X.w) X.A (exec st X.env) (SP X pins D) X.xe s
structure wB (X : Cx) (sts : List Stmt) (D : Ends) (σ : St) (H : Hp) : Prop where
  run : ∀ (pins : List (Addr × Obj)) (s : Shared), Inv X pins σ H s → wpAny (model X.prog X.w) X.A (execs sts X.env) (SP X pins D) X.xe s
structure wG (X : Cx) (tg : Expr) (v : V) (σ : St) (H : Hp) (Q : St → Hp → Prop) : Prop where
  run : ∀ (pins : List (Addr × Obj)) (s : Shared) (u : Value), Inv X pins σ H s → RelV v u → wpAny (model X.prog X.w) X.A (assign tg X.env u) (fun _ s' => ∃ σ' H', Inv X pins σ' H' s' ∧ Q σ' H') X.xe s
structure wGs (X : Cx) (ts : List Expr) (vs : List V) (σ : St) (H : Hp) (Q : St → Hp → Prop) : Prop where
  run : ∀ (pins : List (Addr × Obj)) (s : Shared) (us : List Value), Inv X pins σ H s → Vals vs us → wpAny (model X.prog X.w) X.A (assignInOrder ((assignEach ts X.env).map (·.2)) us) (fun _ s' => ∃ σ' H', Inv X pins σ' H' s' ∧ Q σ' H') X.xe s
/-- an operation on two values -/
structure wO (X : Cx) (f : Value → Value → Sem Value) (x y : V) (H : Hp) (Q : VK) : Prop where
  run : ∀ (pins : List (Addr × Obj)) (s : Shared) (σ : St) (v u : Value), Inv X pins σ H s → RelV x v → RelV y u → wpAny (model X.prog X.w) X.A (f v u) (EP X pins σ Q) X.xe s
/-- a call of a known value -/
structure wK (X : Cx) (f : Value) (xs : List V) (H : Hp) (Q : VK) : Prop where
  run : ∀ (pins : List (Addr × Obj)) (s : Shared) (σ : St) (us : List Value), Inv X pins σ H s → Vals xs us → wpAny (model X.prog X.w) X.A (call f us) (EP X pins σ Q) X.xe s
structure wIx (X : Cx) (x y : V) (H : Hp) (Q : VK) : Prop where
  run : ∀ (value slice : Expr) (pins : List (Addr × Obj)) (s : Shared) (σ : St) (v u : Value), Inv X pins σ H s → RelV x v → RelV y u → subscripted slice false v u = operate [v, u] (getItem v u) → wpAny (model X.prog X.w) X.A (subscriptTail value slice v u) (EP X pins σ Q) X.xe s
section
variable {X : Cx}
theorem sE {e : Expr} : PE X e (wE X e) := ⟨fun pins s σ H Q I h => h.run pins s I⟩
theorem sT {e : Expr} : PT X e (wT X e) := ⟨fun pins s σ H Q I h => h.run pins s I⟩
theorem sW {e : Expr} : PW X e (wW X e) := ⟨fun wh pins s σ H Q I h => h.run wh pins s I⟩
theorem sA {es : List Expr} : PA X es (wA X es) := ⟨fun pos pins s σ H Q I h => h.run pos pins s I⟩
theorem sS {st : Stmt} : PS X st (wS X st) := ⟨fun pins s σ H D I h => h.run pins s I⟩
theorem sB {sts : List Stmt} : PSs X sts (wB X sts) := ⟨fun pins s σ H D I h => h.run pins s I⟩
theorem sG {tg : Expr} : PG X tg (wG X tg) := ⟨fun pins s σ H v u Q I r h => h.run pins s u I r⟩
theorem sGs {ts : List Expr} : PGs X ts (wGs X ts) := ⟨fun pins s σ H vs us Q I r h => h.run pins s us I r⟩
theorem sO {f : Value → Value → Sem Value} : OpR X f (wO X f) := fun pins s σ H x y v u Q I rx ry h => h.run pins s σ v u I rx ry
theorem sK {f : Value} : CallR X f (wK X f) := fun pins s σ H xs us Q I r h => h.run pins s σ us I r
variable {σ : St} {H : Hp} {e a b c : Expr} {es : List Expr} {st : Stmt} {sts : List Stmt} {pos pos' p p1 p2 : Pos} {Q : VK} {D : Ends}
theorem ofE {t : TE} (h : PE X e t) (q : t σ H Q) : wE X e σ H Q := ⟨fun pins s I => h.run pins s σ H Q I q⟩
theorem ofT {t : TT} {Q : Bool → Hp → Prop} (h : PT X e t) (q : t σ H Q) : wT X e σ H Q := ⟨fun pins s I => h.run pins s σ H Q I q⟩
theorem ofW {t : TT} {Q : Bool → Hp → Prop} (h : PW X e t) (q : t σ H Q) : wW X e σ H Q := ⟨fun wh pins s I => h.run wh pins s σ H Q I q⟩
theorem ofA {t : TA} {Q : List V → Hp → Prop} (h : PA X es t) (q : t σ H Q) : wA X es σ H Q := ⟨fun pos pins s I => h.run pos pins s σ H Q I q⟩
theorem ofS {t : TS} (h : PS X st t) (q : t D σ H) : wS X st D σ H := ⟨fun pins s I => h.run pins s σ H D I q⟩
theorem ofB {t : TS} (h : PSs X sts t) (q : t D σ H) : wB X sts D σ H := ⟨fun pins s I => h.run pins s σ H D I q⟩
theorem ofG {tg : Expr} {t : TG} {v : V} {Q : St → Hp → Prop} (h : PG X tg t) (q : t v σ H Q) : wG X tg v σ H Q := ⟨fun pins s u I r => h.run pins s σ H v u Q I r q⟩
theorem ofO {f : Value → Value → Sem Value} {r : R2} {x y : V} (h : OpR X f r) (q : r x y H Q) : wO X f x y H Q := ⟨fun pins s σ v u I rx ry => h pins s σ H x y v u Q I rx ry q⟩
theorem ofK {f : Value} {r : List V → Hp → VK → Prop} {xs : List V} (h : CallR X f r) (q : r xs H Q) : wK X f xs H Q := ⟨fun pins s σ us I rr => h pins s σ H xs us Q I rr q⟩
theorem ofIx {r : R2} {x y : V} (h : IxR X r) (q : r x y H Q) : wIx X x y H Q := ⟨fun va sl pins s σ v u I rx ry z => h va sl pins s σ H x y v u Q I rx ry q z⟩
theorem sIx : IxR X (wIx X) := fun va sl pins s σ H x y v u Q I rx ry h z => h.run va sl pins s σ v u I rx ry z
/-! ### weaker wishes -/
theorem wE.imp {Q' : VK} (h : wE X e σ H Q) (q : ∀ v H', Q v H' → Q' v H') : wE X e σ H Q' := ⟨fun pins s I => thn (h.run pins s I) fun u s' ⟨v, H', J, r, x⟩ => ⟨v, H', J, r, q v H' x⟩⟩
theorem wT.imp {Q Q' : Bool → Hp → Prop} (h : wT X e σ H Q) (q : ∀ v H', Q v H' → Q' v H') : wT X e σ H Q' := ⟨fun pins s I => thn (h.run pins s I) fun u s' ⟨H', J, x⟩ => ⟨H', J, q u H' x⟩⟩
theorem wS.imp {D D' : Ends} (h : wS X st D σ H) (n : ∀ σ H, D.nx σ H → D'.nx σ H) (r : ∀ v H, D.rt v H → D'.rt v H) (k : ∀ σ H, D.bk σ H → D'.bk σ H) (c : ∀ σ H, D.ct σ H → D'.ct σ H) : wS X st D' σ H := by
  refine ⟨fun pins s I => thn (h.run pins s I) fun f s' q => ?_⟩
  cases f with
  | next => obtain ⟨σ', H', J, x⟩ := q; exact ⟨σ', H', J, n _ _ x⟩
  | brk => obtain ⟨σ', H', J, x⟩ := q; exact ⟨σ', H', J, k _ _ x⟩
  | cont => obtain ⟨σ', H', J, x⟩ := q; exact ⟨σ', H', J, c _ _ x⟩
  | ret u => obtain ⟨v, σ', H', J, rv, x⟩ := q; exact ⟨v, σ', H', J, rv, r _ _ x⟩
/-! ### names, constants -/
theorem zv (i : Nat) {x : Str} {v : V} (h : Q v H) (hs : σ[i]? = some (some v) := by rfl) (hN : X.N[i]? = some x := by rfl) (hv : Vis X.env.scope x := by first | exact Or.inl rfl | exact Or.inr (Or.inl rfl) | exact Or.inr (Or.inr rfl)) (hd : (x == ("__debug__" : Str)) = false := by decide)
    (hcd : (x == ("__classdict__" : Str)) = false := by decide) : wE X (.Name x pos) σ H Q := ofE (pe_var hN hv hd hcd) ⟨v, hs, h⟩
def slotOf (N : List Str) (x : Str) : Nat := N.findIdx (fun y => decide (y = x))
theorem zn {x : Str} {v : V} (hN : X.N[slotOf X.N x]? = some x) (hv : Vis X.env.scope x) (hs : σ[slotOf X.N x]? = some (some v)) (h : Q v H) (hd : (x == ("__debug__" : Str)) = false := by decide)
    (hcd : (x == ("__classdict__" : Str)) = false := by decide) : wE X (.Name x pos) σ H Q := ofE (pe_var hN hv hd hcd) ⟨v, hs, h⟩
theorem zint {i j} (h : Q (.int i) H) : wE X (.Constant (.int i) j pos) σ H Q := ofE pe_int h
theorem zbl {i j} (h : Q (.bl i) H) : wE X (.Constant (.bool i) j pos) σ H Q := ofE pe_bl h
theorem zstr {i j} (h : Q (.str i) H) : wE X (.Constant (.str i) j pos) σ H Q := ofE pe_str h
theorem znon {j} (h : Q .non H) : wE X (.Constant .none j pos) σ H Q := ofE pe_non h
/-- a constant of the module -/
theorem zglob {x : Str} {v : V} (hm : ∃ u, X.mg x = some u ∧ RelV v u) (hg : Gl X x) (h : Q v H) (hd : (x == ("__debug__" : Str)) = false := by decide) : wE X (.Name x pos) σ H Q := by
  obtain ⟨u, e, r⟩ := hm
  exact ofE (pe_glob hg e r hd) h
/-- a built-in's name as a value -/
theorem zblt {x : Str} {v : V} {u : Value} (hm : X.mg x = none) (hv : bootBuiltins x = some u) (r : RelV v u) (hg : Gl X x) (h : Q v H) (hn : x ≠ "__name__" := by decide) (hd : (x == ("__debug__" : Str)) = false := by decide) : wE X (.Name x pos) σ H Q := ofE (pe_bltn hg hm hv r hn hd) h
/-! ### operators -/
theorem zbin {op : Operator} (h : wE X a σ H fun x H1 => wE X b σ H1 fun y H2 => wO X (binaryOp op) x y H2 Q) : wE X (.BinOp a op b pos) σ H Q := ofE (pe_op sO sE sE) h
theorem zcmp {op : CmpOp} (hm : behindInMarks op b = false) (h : wE X a σ H fun x H1 => wE X b σ H1 fun y H2 => wO X (compareOp op) x y H2 Q) : wE X (.Compare a [op] [b] pos) σ H Q := ofE (pe_cmpR sO sE sE hm) h
theorem zcmpT {op : CmpOp} {Q : Bool → Hp → Prop} (hm : behindInMarks op b = false) (h : wE X a σ H fun x H1 => wE X b σ H1 fun y H2 => wO X (compareOp op) x y H2 fun z H3 => ∃ k, z = .bl k ∧ Q k H3) : wT X (.Compare a [op] [b] pos) σ H Q := ofT (pt_cmpR sO sE sE hm) h
theorem oadd {i j : Int} (h : Q (.int (i + j)) H) : wO X (binaryOp .Add) (.int i) (.int j) H Q := ofO op_add ⟨i, j, rfl, rfl, h⟩
theorem osub {i j : Int} (h : Q (.int (i - j)) H) : wO X (binaryOp .Sub) (.int i) (.int j) H Q := ofO op_sub ⟨i, j, rfl, rfl, h⟩
theorem omul {i j : Int} (c : IntMulOk i j) (h : Q (.int (i * j)) H) : wO X (binaryOp .Mult) (.int i) (.int j) H Q := by
  refine ⟨fun pins s σ v u I rx ry => ?_⟩
  obtain ⟨t, rfl⟩ := rx
  obtain ⟨t', rfl⟩ := ry
  exact mul_int ⟨.int _, H, I.tok _, ⟨_, rfl⟩, h⟩ c
theorem omod {i j : Int} (c : 0 < j) (h : Q (.int (i % j)) H) : wO X (binaryOp .Mod) (.int i) (.int j) H Q := ofO op_mod ⟨i, j, rfl, rfl, c, h⟩
theorem ofdiv {i j : Int} (c : CDivW i j) (h : Q (.int (i / j)) H) : wO X (binaryOp .FloorDiv) (.int i) (.int j) H Q := ofO op_fdivW ⟨i, j, rfl, rfl, c, h⟩
theorem oand {i j : Int} (h : Q (.int (Builtin.bitAnd i j)) H) : wO X (binaryOp .BitAnd) (.int i) (.int j) H Q := ofO op_and ⟨i, j, rfl, rfl, h⟩
theorem oor {i j : Int} (h : Q (.int (Builtin.bitOr i j)) H) : wO X (binaryOp .BitOr) (.int i) (.int j) H Q := ofO op_or ⟨i, j, rfl, rfl, h⟩
theorem oxor {i j : Int} (h : Q (.int (Builtin.bitXor i j)) H) : wO X (binaryOp .BitXor) (.int i) (.int j) H Q := ofO op_xor ⟨i, j, rfl, rfl, h⟩
theorem oshl {i j : Int} (c : CShl i j) (h : Q (.int (i * 2 ^ j.toNat)) H) : wO X (binaryOp .LShift) (.int i) (.int j) H Q := ofO op_shlW ⟨i, j, rfl, rfl, c, h⟩
theorem oshr {i j : Int} (c : 0 ≤ j) (h : Q (.int (i / 2 ^ j.toNat)) H) : wO X (binaryOp .RShift) (.int i) (.int j) H Q := ofO op_shr ⟨i, j, rfl, rfl, c, h⟩
theorem opow {i j : Int} (c0 : 0 ≤ j) (c : (Builtin.Int.intBits i : Int) * j ≤ 2 ^ 27) (h : Q (.int (i ^ j.toNat)) H) : wO X (binaryOp .Pow) (.int i) (.int j) H Q := by
  refine ⟨fun pins s σ v u I rx ry => ?_⟩
  obtain ⟨t, rfl⟩ := rx
  obtain ⟨t', rfl⟩ := ry
  exact pow_int c0 c ⟨.int _, H, I.tok _, ⟨_, rfl⟩, h⟩
theorem oadds {i j : Str} (c : i.length + j.length ≤ sizeLine) (h : Q (.str (i ++ j)) H) : wO X (binaryOp .Add) (.str i) (.str j) H Q := ofO op_add_str ⟨i, j, rfl, rfl, c, h⟩
theorem olt {i j : Int} (h : Q (.bl (decide (i < j))) H) : wO X (compareOp .Lt) (.int i) (.int j) H Q := ofO op_lt ⟨i, j, rfl, rfl, h⟩
theorem ole {i j : Int} (h : Q (.bl (decide (i ≤ j))) H) : wO X (compareOp .LtE) (.int i) (.int j) H Q := ofO op_le ⟨i, j, rfl, rfl, h⟩
theorem ogt {i j : Int} (h : Q (.bl (decide (j < i))) H) : wO X (compareOp .Gt) (.int i) (.int j) H Q := ofO op_gt ⟨i, j, rfl, rfl, h⟩
theorem oge {i j : Int} (h : Q (.bl (decide (j ≤ i))) H) : wO X (compareOp .GtE) (.int i) (.int j) H Q := ofO op_ge ⟨i, j, rfl, rfl, h⟩
theorem oeq {x y : V} (s : scal x y = true) (h : Q (.bl (decide (x = y))) H) : wO X (compareOp .Eq) x y H Q := ofO op_eq ⟨s, h⟩
theorem one {x y : V} (s : scal x y = true) (h : Q (.bl (!decide (x = y))) H) : wO X (compareOp .NotEq) x y H Q := ofO op_ne ⟨s, h⟩
theorem oeqi {i j : Int} (h : Q (.bl (decide (i = j))) H) : wO X (compareOp .Eq) (.int i) (.int j) H Q := oeq rfl (by simp only [V.int.injEq]; exact h)
theorem onei {i j : Int} (h : Q (.bl (!decide (i = j))) H) : wO X (compareOp .NotEq) (.int i) (.int j) H Q := one rfl (by simp only [V.int.injEq]; exact h)
theorem oeqD {k : Nat} {x y : V} {d e : PyData} (hr : Room k X.A) (hx : Dp X.K H x d) (hy : Dp X.K H y e) (s1 : SeqAt.shaped d = true) (s2 : SeqAt.shaped e = true) (h : Q (.bl (PyData.eqv d e)) H) : wO X (compareOp .Eq) x y H Q := ofO (op_eqD hr.units) ⟨d, e, hx, hy, s1, s2, h⟩
theorem oneD {k : Nat} {x y : V} {d e : PyData} (hr : Room k X.A) (hx : Dp X.K H x d) (hy : Dp X.K H y e) (s1 : SeqAt.shaped d = true) (s2 : SeqAt.shaped e = true) (h : Q (.bl (!PyData.eqv d e)) H) : wO X (compareOp .NotEq) x y H Q := ofO (op_neD hr.units) ⟨d, e, hx, hy, s1, s2, h⟩
theorem ois {x : V} (h : Q (.bl (decide (x = .non))) H) : wO X (compareOp .Is) x .non H Q := ofO op_isN ⟨rfl, h⟩
theorem onot {x : V} (h : Q (.bl (!decide (x = .non))) H) : wO X (compareOp .IsNot) x .non H Q := ofO op_notN ⟨rfl, h⟩
theorem ocat {l m : Addr} {xs zs : List V} (hl : H l = some (.lst xs)) (hm : H m = some (.lst zs)) (c : xs.length + zs.length ≤ sizeLine) (h : ∀ p, H p = none → Q (.ref p) (upd H p (.lst (xs ++ zs)))) : wO X (binaryOp .Add) (.ref l) (.ref m) H Q := ofO op_cat ⟨l, m, xs, zs, rfl, rfl, hl, hm, c, h⟩
end
end Z

set_option maxRecDepth 100000
set_option maxHeartbeats 4000000
namespace Z
open PySem PySem.Spec PyProof.Rows L2
open Evl (Ex)
section
variable {X : Cx} {σ : St} {H : Hp} {e a b c o : Expr} {es : List Expr} {st : Stmt} {sts : List Stmt} {pos pos' p p1 p2 apos : Pos} {Q : VK} {D : Ends} {W : WX}
/-! ### argument lists, displays -/
theorem anil {Q : List V → Hp → Prop} (h : Q [] H) : wA X [] σ H Q := ofA pa_nil h
theorem acons {Q : List V → Hp → Prop} (h : wE X e σ H fun x H1 => wA X es σ H1 fun xs H2 => Q (x :: xs) H2) (hs : starEach (e :: es) X.env = (false, eval e X.env) :: starEach es X.env := by rfl) : wA X (e :: es) σ H Q := ofA (pa_cons sE sA hs) h
theorem zlst (h : wA X es σ H fun vs H1 => vs.length ≤ sizeLine ∧ ∀ p H2, H1 p = none → Ex H1 H2 → H2 p = some (.lst vs) → Q (.ref p) H2) : wE X (.List es pos) σ H Q :=
  ofE (pe_lst sA) ⟨fun pos pins s I => thn (h.run pos pins s I) fun us s' ⟨vs, H1, J, r, l, q⟩ => ⟨vs, H1, J, r, l, fun p hp => q p _ hp (Ex.new hp) upd_same⟩⟩
theorem ztup {k} (h : wA X es σ H fun vs H1 => vs.length ≤ sizeLine ∧ ∀ p H2, H1 p = none → Ex H1 H2 → H2 p = some (.tup vs) → Q (.ref p) H2) : wE X (.Tuple es k pos) σ H Q :=
  ofE (pe_tup sA) ⟨fun pos pins s I => thn (h.run pos pins s I) fun us s' ⟨vs, H1, J, r, l, q⟩ => ⟨vs, H1, J, r, l, fun p hp => q p _ hp (Ex.new hp) upd_same⟩⟩
theorem ocatE {l m : Addr} {xs zs : List V} (hl : H l = some (.lst xs)) (hm : H m = some (.lst zs)) (c : xs.length + zs.length ≤ sizeLine) (h : ∀ p H2, H p = none → Ex H H2 → H2 p = some (.lst (xs ++ zs)) → Q (.ref p) H2) : wO X (binaryOp .Add) (.ref l) (.ref m) H Q :=
  ocat hl hm c fun p hp => h p _ hp (Ex.new hp) upd_same
/-! ### tests -/
theorem zand {Q : Bool → Hp → Prop} (h : wT X a σ H fun k H1 => if k = true then wW X (.BoolOp .And (b :: es) pos) σ H1 Q else Q false H1) : wW X (.BoolOp .And (a :: b :: es) pos) σ H Q := ofW (pw_and sT sW) h
theorem zand1 {Q : Bool → Hp → Prop} (h : wT X a σ H Q) : wW X (.BoolOp .And [a] pos) σ H Q := ofW (pw_and1 sT) h
theorem zor {Q : Bool → Hp → Prop} (h : wT X a σ H fun k H1 => if k = true then Q true H1 else wW X (.BoolOp .Or (b :: es) pos) σ H1 Q) : wW X (.BoolOp .Or (a :: b :: es) pos) σ H Q := ofW (pw_or sT sW) h
theorem zor1 {Q : Bool → Hp → Prop} (h : wT X a σ H Q) : wW X (.BoolOp .Or [a] pos) σ H Q := ofW (pw_or1 sT) h
theorem zW {Q : Bool → Hp → Prop} {op} (h : wW X (.BoolOp op es pos) σ H Q) : wT X (.BoolOp op es pos) σ H Q := ⟨fun pins s I => h.run _ pins s I⟩
theorem znotT {Q : Bool → Hp → Prop} (h : wT X a σ H fun k H1 => Q (!k) H1) : wT X (.UnaryOp .Not a pos) σ H Q := ofT (pt_not sT) h
theorem zval {Q : Bool → Hp → Prop} (h : wE X e σ H fun x H1 => ∃ k, x = .bl k ∧ Q k H1) (he : ∀ whole, isTrue e X.env whole = (do let v ← whole; standAt e.pos; holding [v] (truthy v)) := by intro _; rfl) : wT X e σ H Q := ofT (pt_val sE he) h
theorem ztru {Q : Bool → Hp → Prop} (h : wE X e σ H fun x H1 => ∃ k, TruV X.K x H1 k ∧ Q k H1) (he : ∀ whole, isTrue e X.env whole = (do let v ← whole; standAt e.pos; holding [v] (truthy v)) := by intro _; rfl) : wT X e σ H Q := ofT (pt_truth sE he) h
theorem zif (h : wT X c σ H fun k H1 => if k = true then wE X a σ H1 Q else wE X b σ H1 Q) : wE X (.IfExp c a b pos) σ H Q := ofE (pe_ifExp sT sE sE) h
/-- as values: and, or of truths, not -/
theorem zandV (h : wE X a σ H fun x H1 => ∃ k, x = .bl k ∧ if k = true then wE X (.BoolOp .And (b :: es) pos) σ H1 Q else Q (.bl false) H1) : wE X (.BoolOp .And (a :: b :: es) pos) σ H Q := ofE (pe_and sE sE) h
theorem zorV (h : wE X a σ H fun x H1 => ∃ k, x = .bl k ∧ if k = true then Q (.bl true) H1 else wE X (.BoolOp .Or (b :: es) pos) σ H1 Q) : wE X (.BoolOp .Or (a :: b :: es) pos) σ H Q := ofE (pe_or sE sE) h
theorem zoneV {op} (h : wE X a σ H Q) : wE X (.BoolOp op [a] pos) σ H Q := ofE (pe_one sE) h
theorem znotV (h : wE X a σ H fun x H1 => ∃ k, x = .bl k ∧ Q (.bl (!k)) H1) : wE X (.UnaryOp .Not a pos) σ H Q := ofE (pe_not sE) h
/-! ### statements -/
theorem bnil (h : D.nx σ H) : wB X [] D σ H := ofB pss_nil h
theorem bcons (h : wS X st { D with nx := fun σ' H' => wB X sts D σ' H' } σ H) : wB X (st :: sts) D σ H := ofB (pss_cons sS sB) h
theorem bone (h : wS X st D σ H) : wB X [st] D σ H := ofB (pss_one sS) h
theorem sset {x : Str} (i : Nat) (hN : X.N.Nodup) (h : wE X e σ H fun v H1 => D.nx (σ.set i (some v)) H1) (hi : X.N[i]? = some x := by rfl) (hx : Loc X.env.scope x := by first | exact Or.inl rfl | exact Or.inr rfl) (hs : swapsWith e (some (.Name x pos')) pos.line X.env = pure false := by rfl)
    (hf : X.fn x = true ∨ X.env.scope.names.lookup x = some .local := by first | exact .inl rfl | exact .inr rfl | assumption) : wS X (.Assign [.Name x pos'] e pos) D σ H := ofS (ps_set hN hi hx sE hs hf) h
theorem sret (h : wE X e σ H D.rt) : wS X (.Return (some e) pos) D σ H := ofS (ps_ret sE) h
theorem sretN (h : D.rt .non H) : wS X (.Return none pos) D σ H := ofS ps_retN h
theorem sif {x y : List Stmt} (h : wT X c σ H fun k H1 => if k = true then wB X x D σ H1 else wB X y D σ H1) : wS X (.If c x y pos) D σ H := ofS (ps_if sT sB sB) h
theorem sexp (h : wE X e σ H fun _ H1 => D.nx σ H1) (hs : swapsWith e none pos.line X.env = pure false := by rfl) : wS X (.Expr e pos) D σ H := ofS (ps_expr sE hs) h
theorem spass (h : D.nx σ H) : wS X (.Pass pos) D σ H := ofS ps_pass h
theorem sbrk (h : D.bk σ H) : wS X (.Break pos) D σ H := ofS ps_break h
theorem scont (h : D.ct σ H) : wS X (.Continue pos) D σ H := ofS ps_continue h
/-- name op= e -/
theorem saug {x : Str} {op : Operator} (i : Nat) (hN : X.N.Nodup) {v : V} (hv : σ[i]? = some (some v)) (h : wE X e σ H fun y H1 => wO X (inplaceOp op) v y H1 fun z H2 => D.nx (σ.set i (some z)) H2) (hi : X.N[i]? = some x := by rfl) (hx : Loc X.env.scope x := by first | exact Or.inl rfl | exact Or.inr rfl)
    (hf : X.fn x = true ∨ X.env.scope.names.lookup x = some .local := by first | exact .inl rfl | exact .inr rfl | assumption) : wS X (.AugAssign (.Name x pos') op e pos) D σ H := ofS (ps_aug (ti := wO X (inplaceOp op)) hN hi hx sE sO hf) ⟨v, hv, h⟩
theorem ior {i j : Int} (h : Q (.int (Builtin.bitOr i j)) H) : wO X (inplaceOp .BitOr) (.int i) (.int j) H Q := ofO iop_or ⟨i, j, rfl, rfl, h⟩
theorem ixor {i j : Int} (h : Q (.int (Builtin.bitXor i j)) H) : wO X (inplaceOp .BitXor) (.int i) (.int j) H Q := ofO iop_xor ⟨i, j, rfl, rfl, h⟩
theorem ishr {i j : Int} (c : 0 ≤ j) (h : Q (.int (i / 2 ^ j.toNat)) H) : wO X (inplaceOp .RShift) (.int i) (.int j) H Q := ofO iop_shr ⟨i, j, rfl, rfl, c, h⟩
theorem iadd {i j : Int} (h : Q (.int (i + j)) H) : wO X (inplaceOp .Add) (.int i) (.int j) H Q := ofO iop_add ⟨i, j, rfl, rfl, h⟩
/-! ### targets -/
theorem gname {x : Str} {v : V} {Q : St → Hp → Prop} (i : Nat) (hN : X.N.Nodup) (h : Q (σ.set i (some v)) H) (hi : X.N[i]? = some x := by rfl) (hx : Loc X.env.scope x := by first | exact Or.inl rfl | exact Or.inr rfl)
    (hf : X.fn x = true ∨ X.env.scope.names.lookup x = some .local := by first | exact .inl rfl | exact .inr rfl | assumption) : wG X (.Name x pos) v σ H Q := ofG (pg_name hN hi hx hf) h
theorem gsnil {Q : St → Hp → Prop} (h : Q σ H) : wGs X [] [] σ H Q := ⟨fun pins s us I r => pgs_nil.run pins s σ H [] us Q I r ⟨rfl, h⟩⟩
theorem gscons {tg : Expr} {ts : List Expr} {v : V} {vs : List V} {Q : St → Hp → Prop} (h : wG X tg v σ H fun σ' H' => wGs X ts vs σ' H' Q) (hs : (assignEach (tg :: ts) X.env).map (·.2) = assign tg X.env :: (assignEach ts X.env).map (·.2) := by rfl) : wGs X (tg :: ts) (v :: vs) σ H Q :=
  ⟨fun pins s us I r => (pgs_cons sG sGs hs).run pins s σ H (v :: vs) us Q I r ⟨v, vs, rfl, h⟩⟩
theorem gtup {ts : List Expr} {k : Nat} {p : Addr} {xs : List V} {Q : St → Hp → Prop} (hc : X.calm = true) (hp : SqT X.K H p xs) (hl : xs.length = ts.length) (h : wGs X ts xs σ H Q) (hn : (assignEach ts X.env).length = ts.length := by rfl) (hst : (assignEach ts X.env).findIdx? (·.1) = none := by rfl) : wG X (.Tuple ts k pos) (.ref p) σ H Q :=
  ofG (pg_tup hc sGs hn hst) ⟨p, xs, rfl, hp, hl, h⟩
theorem sasg {tg : Expr} (h : wE X e σ H fun v H1 => wG X tg v σ H1 D.nx) (hs : swapsWithSole [tg] e pos.line X.env = pure false := by rfl) (hw : swappedStores [tg] e X.env = pure none := by rfl)
    (h1 : (assignEach [tg] X.env).map (·.2) = [assign tg X.env] := by rfl) : wS X (.Assign [tg] e pos) D σ H := ofS (ps_asg sE sG hs hw h1) h
/-! ### calls of defs -/
/-- a def of the module: where it stands, how it binds, what it promises -/
def Gf (P : Program) (w : World) (K : PySem.W.Frag) (mg : Str → Option Value) (base : Heap) (k : Nat) (x : Str) (dvs : List V) (sp : Sp) : Prop :=
  ∃ (f : Addr) (fd : FuncData) (ps : List Str) (ds : List Value), mg x = some (.ref f) ∧ PySem.W.keepIn K (.ref f) = true ∧ Binds K fd ps ds ∧ Vals dvs ds ∧ FnOk P w K mg base (L2N.CX P w) k f fd ps sp
theorem Gf.mono {P : Program} {w : World} {K : PySem.W.Frag} {mg : Str → Option Value} {base : Heap} {k j : Nat} {x : Str} {dvs : List V} {sp : Sp} (h : Gf P w K mg base k x dvs sp) (hk : k ≤ j) : Gf P w K mg base j x dvs sp := by
  obtain ⟨f, fd, ps, ds, h1, h2, h3, h4, h5⟩ := h
  exact ⟨f, fd, ps, ds, h1, h2, h3, h4, h5.mono hk⟩
theorem run_gf {pins : List (Addr × Obj)} {s : Shared} {k : Nat} {f : Addr} {fd : FuncData} {ps : List Str} {sp : Sp} {dvs : List V} {ds us : List Value} {vs : List V} (F : FnOk X.prog X.w X.K X.mg X.base (L2N.CX X.prog X.w) k f fd ps sp) (hr : Room k X.A) (hb : Binds X.K fd ps ds) (hd : Vals dvs ds) (tk : L2N.Takes X W)
    (I : Inv X pins σ H s) (r : Vals vs us) (h : sp (vs ++ dvs) H Q fun cls d H' => W cls d σ H') : wpAny (model X.prog X.w) X.A (call (.ref f) us) (EP X pins σ Q) X.xe s := by
  have r2 : Vals (vs ++ dvs) (us ++ ds) := r.append hd
  have hl : (us ++ ds).length = ps.length := r2.length.symm.trans (F.len _ _ _ _ h)
  refine wpAny_call (codeAny_mono (F.run X.A X.stack s H ⟨us, []⟩ (us ++ ds) (vs ++ dvs) Q (fun cls d H' => W cls d σ H') hr I.env0 (hb s us I.kIn hl) r2 h) fun z s' hq => ?_)
  cases z with
  | error er => exact tk er s' (L2N.XE.of_call I (fun _ _ _ q => q) hq)
  | ok fl =>
    cases fl with
    | ret u => exact I.after hq
    | next => exact hq.elim
    | brk => exact hq.elim
    | cont => exact hq.elim
theorem zcall {x : Str} {k j : Nat} {dvs : List V} {sp : Sp} (F : Gf X.prog X.w X.K X.mg X.base k x dvs sp) (hr : Room j X.A) (hk : k ≤ j) (tk : L2N.Takes X W) (hg : Gl X x) (h : wA X (e :: es) σ H fun vs H1 => sp (vs ++ dvs) H1 Q fun cls d H' => W cls d σ H')
    (hdb : (x == ("__debug__" : Str)) = false := by decide) (he : starEach (e :: es) X.env = (false, eval e X.env) :: starEach es X.env := by rfl) (hpl : (backTo pos (starEach es X.env)).any (·.1) = false := by rfl) : wE X (.Call (.Name x p) (e :: es) [] pos) σ H Q := by
  refine ⟨fun pins s I => ?_⟩
  obtain ⟨f, fd, ps, ds, hm, kp, hb, hd, FF⟩ := F
  refine wpAny_Call_Name_kw (ld_glob I hg hm ?_ hdb)
  refine PySem.W.callWith_K (h₀ := X.base) I.ok.mod.kin kp (thn (h.run pos pins s I) fun us s1 ⟨vs, H1, I1, r, q⟩ => ⟨I1.kIn, ?_⟩) he hpl
  exact run_gf FF (hr.mono hk) hb hd tk I1 r q
theorem zcall0 {x : Str} {k j : Nat} {dvs : List V} {sp : Sp} (F : Gf X.prog X.w X.K X.mg X.base k x dvs sp) (hr : Room j X.A) (hk : k ≤ j) (tk : L2N.Takes X W) (hg : Gl X x) (h : sp dvs H Q fun cls d H' => W cls d σ H')
    (hdb : (x == ("__debug__" : Str)) = false := by decide) : wE X (.Call (.Name x p) [] [] pos) σ H Q := by
  refine ⟨fun pins s I => ?_⟩
  obtain ⟨f, fd, ps, ds, hm, kp, hb, hd, FF⟩ := F
  refine wpAny_Call_Name_kw (ld_glob I hg hm ?_ hdb)
  exact PySem.W.callWith_K0 I.kIn kp (run_gf (us := []) (vs := []) FF (hr.mono hk) hb hd tk I .nil h)
/-! ### built-ins -/
theorem zbfn {x : Str} {id : String} (hm : X.mg x = none) (hv : bootBuiltins x = some (.builtin id)) (hg : Gl X x) (h : wA X (e :: es) σ H fun vs H1 => wK X (.builtin id) vs H1 Q) (hn : x ≠ "__name__" := by decide) (hdb : (x == ("__debug__" : Str)) = false := by decide)
    (he : starEach (e :: es) X.env = (false, eval e X.env) :: starEach es X.env := by rfl) (hpl : (backTo pos (starEach es X.env)).any (·.1) = false := by rfl) : wE X (.Call (.Name x p) (e :: es) [] pos) σ H Q := ofE (pe_callB sK hg hm hv sA hn hdb he hpl) h
theorem zbty {x : Str} {T : String} (hm : X.mg x = none) (hv : bootBuiltins x = some (.type T)) (hg : Gl X x) (h : wA X (e :: es) σ H fun vs H1 => wK X (.type T) vs H1 Q) (hn : x ≠ "__name__" := by decide) (hdb : (x == ("__debug__" : Str)) = false := by decide)
    (he : starEach (e :: es) X.env = (false, eval e X.env) :: starEach es X.env := by rfl) (hpl : (backTo pos (starEach es X.env)).any (·.1) = false := by rfl) : wE X (.Call (.Name x p) (e :: es) [] pos) σ H Q := ofE (pe_callTy sK hg hm hv sA hn hdb he hpl) h
theorem klenL {p : Addr} {xs : List V} (hp : SqL X.K H p xs) (h : Q (.int xs.length) H) : wK X (.builtin "len") [.ref p] H Q := ofK call_len_seq ⟨p, xs, rfl, .inl hp, h⟩
theorem klenT {p : Addr} {xs : List V} (hp : SqT X.K H p xs) (h : Q (.int xs.length) H) : wK X (.builtin "len") [.ref p] H Q := ofK call_len_seq ⟨p, xs, rfl, .inr hp, h⟩
theorem klenS {z : Str} (c : z.length ≤ sizeLine) (h : Q (.int z.length) H) : wK X (.builtin "len") [.str z] H Q := ofK call_len_str ⟨z, rfl, c, h⟩
theorem kmax {i j : Int} (hc : X.calm = true) (h : Q (.int (max i j)) H) : wK X (.builtin "max") [.int i, .int j] H Q := ofK (call_max2 hc) ⟨i, j, rfl, by rw [show (if j > i then j else i) = max i j from by omega]; exact h⟩
theorem kmin {i j : Int} (hc : X.calm = true) (h : Q (.int (min i j)) H) : wK X (.builtin "min") [.int i, .int j] H Q := ofK (call_min2 hc) ⟨i, j, rfl, by rw [show (if j < i then j else i) = min i j from by omega]; exact h⟩
theorem klistL {p : Addr} {xs : List V} (hp : SqL X.K H p xs) (h : ∀ q H2, H q = none → Ex H H2 → H2 q = some (.lst xs) → Q (.ref q) H2) : wK X (.type "list") [.ref p] H Q := ofK call_list_of ⟨p, xs, rfl, .inl hp, fun q hq => h q _ hq (Ex.new hq) upd_same⟩
theorem klistT {p : Addr} {xs : List V} (hp : SqT X.K H p xs) (h : ∀ q H2, H q = none → Ex H H2 → H2 q = some (.lst xs) → Q (.ref q) H2) : wK X (.type "list") [.ref p] H Q := ofK call_list_of ⟨p, xs, rfl, .inr hp, fun q hq => h q _ hq (Ex.new hq) upd_same⟩
theorem ktupL {p : Addr} {xs : List V} (hp : SqL X.K H p xs) (h : ∀ q H2, H q = none → Ex H H2 → H2 q = some (.tup xs) → Q (.ref q) H2) : wK X (.type "tuple") [.ref p] H Q := ofK call_tuple_of ⟨p, xs, rfl, .inl ⟨hp, fun q hq => h q _ hq (Ex.new hq) upd_same⟩⟩
theorem kisi {x c : V} {t u : Value} {k : Bool} (hc : ClsV c u) (ty : TyX X.K H x t) (hk : PySem.W.kitOne X.K t u = some k) (h : Q (.bl k) H) : wK X (.builtin "isinstance") [x, c] H Q := ofK call_isi ⟨x, c, t, u, k, rfl, hc, ty, hk, h⟩
/-! ### items, slices, methods -/
theorem zix (h : wE X a σ H fun x H1 => wE X b σ H1 fun y H2 => wIx X x y H2 Q) (hs : PlainIx b := by intro _ _; rfl) : wE X (.Subscript a b pos) σ H Q := ofE (pe_ix sIx sE sE hs) h
theorem ixL {p : Addr} {xs : List V} {i : Int} {v : V} (hp : SqL X.K H p xs) (hi : atI xs i = some v) (h : Q v H) : wIx X (.ref p) (.int i) H Q := ofIx ix_list ⟨p, xs, i, v, rfl, rfl, hp, hi, h⟩
theorem ixT {p : Addr} {xs : List V} {i : Int} {v : V} (hp : SqT X.K H p xs) (hi : atI xs i = some v) (h : Q v H) : wIx X (.ref p) (.int i) H Q := ofIx ix_tup ⟨p, xs, i, v, rfl, rfl, hp, hi, h⟩
theorem ixS {z : Str} {i : Int} {c : Nat} (hz : z.length ≤ sizeLine) (hi : atI z.cps.toList i = some c) (h : Q (.str ⟨#[c]⟩) H) : wIx X (.str z) (.int i) H Q := ofIx ix_str ⟨z, i, c, rfl, rfl, hz, hi, h⟩
/-- l.append(e) -/
theorem zapp (h : wE X o σ H fun x H1 => ∃ l xs0, x = .ref l ∧ H1 l = some (.lst xs0) ∧ wE X e σ H1 fun y H2 => ∃ xs, H2 l = some (.lst xs) ∧ xs.length < sizeLine ∧ Q .non (upd H2 l (.lst (xs ++ [y])))) (hsa : starEach [e] X.env = (false, eval e X.env) :: starEach [] X.env := by rfl)
    (he : ∀ t : TA, PA X [e] t → PE X (.Call (.Attribute o "append" apos) [e] [] pos) (tBM X.K "list" rAppend (wE X o) t) := by intro t ht; exact pe_bm PySem.F.plainAttrs_list PySem.F.slot_list_append PySem.F.type_list_append mt_append sE ht) :
    wE X (.Call (.Attribute o "append" apos) [e] [] pos) σ H Q := by
  refine ofE (he _ (pa_cons sE pa_nil hsa)) ⟨fun pins s I => thn (h.run pins s I) fun u s1 ⟨x, H1, I1, r1, l, xs0, ex, hl, q⟩ => ⟨x, H1, I1, r1, ?_⟩⟩
  subst ex
  refine ⟨.inl ⟨rfl, xs0, SqL.of hl⟩, ⟨fun pins2 s2 J => thn (q.run pins2 s2 J) fun u2 s3 ⟨y, H2, I2, r2, xs, h2, hz, q2⟩ => ⟨y, H2, I2, r2, ?_⟩⟩⟩
  exact ⟨l, xs, y, rfl, rfl, h2, hz, q2⟩
/-! ### loops -/
variable {tg l : Expr} {body : List Stmt}
theorem lfor {wi : TI} (hp : PassesOwn (model X.prog X.w) X.A X.env X.xe) (hc : X.calm = true) (hi : PI X tg l wi) (h : tFor wi (wG X tg) (wB X body) D σ H) (hs : ∀ x, foldedSetIterable l X.env x = pure x := by intro _; rfl) : wS X (.For tg l body [] pos) D σ H := ofS (ps_for hp hc hi sG sB hs) h
/-- over a list that the body leaves as it is -/
theorem lforL {xs : List V} (hp : PassesOwn (model X.prog X.w) X.A X.env X.xe) (hc : X.calm = true) (Pv : Nat → St → Hp → Prop)
    (h : wE X l σ H fun x H1 => ∃ a, x = .ref a ∧ SqL X.K H1 a xs ∧ Pv 0 σ H1 ∧ (∀ i σ H, i ≤ xs.length → Pv i σ H → SqL X.K H a xs) ∧
      (∀ i x σ H, xs[i]? = some x → Pv i σ H → wG X tg x σ H fun σ2 H2 => wB X body { D with nx := Pv (i + 1), ct := Pv (i + 1), bk := D.nx } σ2 H2) ∧ ∀ σ H, Pv xs.length σ H → D.nx σ H)
    (hs : ∀ x, foldedSetIterable l X.env x = pure x := by intro _; rfl) : wS X (.For tg l body [] pos) D σ H :=
  lfor hp hc (pi_list sE) ⟨fun pins s I => thn (h.run pins s I) fun u s1 ⟨x, H1, I1, r, a, ex, hq, h0, hl, ht, hd⟩ => ⟨x, H1, I1, r, a, ex, ⟨xs, hq⟩, for_list Pv h0 hl ht hd⟩⟩ hs
theorem lforT {xs : List V} (hp : PassesOwn (model X.prog X.w) X.A X.env X.xe) (hc : X.calm = true) (Pv : Nat → St → Hp → Prop)
    (h : wE X l σ H fun x H1 => ∃ a, x = .ref a ∧ SqT X.K H1 a xs ∧ Pv 0 σ H1 ∧ (∀ i σ H, i ≤ xs.length → Pv i σ H → SqT X.K H a xs) ∧
      (∀ i x σ H, xs[i]? = some x → Pv i σ H → wG X tg x σ H fun σ2 H2 => wB X body { D with nx := Pv (i + 1), ct := Pv (i + 1), bk := D.nx } σ2 H2) ∧ ∀ σ H, Pv xs.length σ H → D.nx σ H)
    (hs : ∀ x, foldedSetIterable l X.env x = pure x := by intro _; rfl) : wS X (.For tg l body [] pos) D σ H :=
  lfor hp hc (pi_tup sE) ⟨fun pins s I => thn (h.run pins s I) fun u s1 ⟨x, H1, I1, r, a, ex, hq, h0, hl, ht, hd⟩ => ⟨x, H1, I1, r, a, ex, ⟨xs, hq⟩, for_tup Pv h0 hl ht hd⟩⟩ hs
theorem lfor1 {n : Int} (hm : X.mg "range" = none) (hp : PassesOwn (model X.prog X.w) X.A X.env X.xe) (hc : X.calm = true) (Pv : Nat → St → Hp → Prop) (hg : Gl X "range")
    (h : wE X a σ H fun x H1 => x = .int n ∧ n < 2 ^ 62 ∧ -(2 ^ 62) ≤ n ∧ Pv 0 σ H1 ∧ (∀ (i : Nat) σ H, (i : Int) < n → Pv i σ H → wG X tg (.int (i : Int)) σ H fun σ2 H2 => wB X body { D with nx := Pv (i + 1), ct := Pv (i + 1), bk := D.nx } σ2 H2) ∧ ∀ σ H, Pv n.toNat σ H → D.nx σ H)
    (hs : ∀ x, foldedSetIterable (.Call (.Name "range" p) [a] [] pos') X.env x = pure x := by intro _; rfl) (hsa : starEach [a] X.env = [(false, eval a X.env)] := by rfl) : wS X (.For tg (.Call (.Name "range" p) [a] [] pos') body [] pos) D σ H :=
  lfor hp hc (pi_range1 hg hm (pa_cons sE pa_nil hsa) hsa) ⟨fun pins s I => thn (h.run pins s I) fun u s1 ⟨x, H1, I1, r, ex, n1, n2, h0, ht, hd⟩ => ⟨x, H1, I1, r, n, by rw [ex], n2, n1, for_range Pv h0 (fun i σ H hi hP => by rw [Int.zero_add]; exact ht i σ H (by omega) hP) hd⟩⟩ hs
theorem lfor2 {lo n : Int} (hm : X.mg "range" = none) (hp : PassesOwn (model X.prog X.w) X.A X.env X.xe) (hc : X.calm = true) (Pv : Nat → St → Hp → Prop) (hg : Gl X "range")
    (h : wE X a σ H fun x H1 => x = .int lo ∧ wE X b σ H1 fun y H2 => y = .int n ∧ (-(2 ^ 62) ≤ lo ∧ lo < 2 ^ 62 ∧ -(2 ^ 62) ≤ n ∧ n < 2 ^ 62) ∧ Pv 0 σ H2 ∧ (∀ (i : Nat) σ H, lo + (i : Int) < n → Pv i σ H → wG X tg (.int (lo + (i : Int))) σ H fun σ2 H2 => wB X body { D with nx := Pv (i + 1), ct := Pv (i + 1), bk := D.nx } σ2 H2) ∧ ∀ σ H, Pv (n - lo).toNat σ H → D.nx σ H)
    (hs : ∀ x, foldedSetIterable (.Call (.Name "range" p) [a, b] [] pos') X.env x = pure x := by intro _; rfl) (hsa : starEach [a, b] X.env = [(false, eval a X.env), (false, eval b X.env)] := by rfl) (hsb : starEach [b] X.env = [(false, eval b X.env)] := by rfl) : wS X (.For tg (.Call (.Name "range" p) [a, b] [] pos') body [] pos) D σ H :=
  lfor hp hc (pi_range2 hg hm (pa_cons sE (pa_cons sE pa_nil hsb) (by rw [hsa, hsb])) hsa hsb) ⟨fun pins s I => thn (h.run pins s I) fun u s1 ⟨x, H1, I1, r, ex, h2⟩ => ⟨x, H1, I1, r, ⟨fun pins2 s2 J => thn (h2.run pins2 s2 J) fun u2 s3 ⟨y, H2, I2, r2, ey, hb, h0, ht, hd⟩ => ⟨y, H2, I2, r2, lo, n, by rw [ex, ey], hb, for_range Pv h0 (fun i σ H hi hP => ht i σ H (by omega) hP) hd⟩⟩⟩⟩ hs
theorem lwhile (hp : PassesOwn (model X.prog X.w) X.A X.env X.xe) (Pv : St → Hp → Prop) (μ : St → Hp → Nat) (h0 : Pv σ H)
    (h : ∀ σ H, Pv σ H → wT X c σ H fun k H1 => if k = true then wB X body { D with nx := fun σ' H' => Pv σ' H' ∧ μ σ' H' < μ σ H, ct := fun σ' H' => Pv σ' H' ∧ μ σ' H' < μ σ H, bk := D.nx } σ H1 else D.nx σ H1) : wS X (.While c body [] pos) D σ H :=
  ofS (ps_while hp sT sB) (while_by Pv μ h0 h fun σ H Q Q' q z => z.imp q)
/-! ### exceptions -/
structure wM (X : Cx) (e : Expr) (σ : St) (H : Hp) (Q : XK) : Prop where
  run : ∀ (pins : List (Addr × Obj)) (s : Shared), Inv X pins σ H s → wpAny (model X.prog X.w) X.A (eval e X.env) (L2N.MkP X pins σ Q) X.xe s
theorem sM : L2N.PMk X e (wM X e) := fun pins s σ H Q I h => h.run pins s I
theorem sraise (hc : X.calm = true) (tk : L2N.Takes X W) (h : wM X e σ H fun cls d H' => W cls d σ H') : wS X (.Raise (some e) none pos) D σ H := ofS (L2N.ps_raise hc tk sM) h
/-- a class without an own __init__, made with a text -/
theorem mown {x m : Str} {j : Nat} {C : Addr} {bmB : List Value} {B newId initId : String} (F : ExcBaseFacts B newId initId bmB) (q : PySem.W.excIn X.K C bmB newId = true) (gC : X.mg x = some (.ref C)) (kC : PySem.W.keepIn X.K (.ref C) = true) (r : Raises X (.ref C)) (hg : Gl X x) {Q : XK} (h : Q (.ref C) none H)
    (hdb : (x == ("__debug__" : Str)) = false := by decide) : wM X (.Call (.Name x p) [.Constant (.str m) j p2] [] pos) σ H Q := ⟨fun pins s I => L2N.pmk_own F q gC kC r hg hdb pins s σ H Q I h⟩
/-- try: body, except x as n: suite -/
theorem stry {x n : Str} {cl : Value} {np : Pos} {suite : List Stmt} {b₀ : Stmt} (i : Nat) (hN : X.N.Nodup) (tk : L2N.Takes X W) (hc : Names X x cl) (hs : X.stack = X.env :: X.outer) (hf : X.env.frame = some X.env.locals) (hi : X.N[i]? = some n) (hln : X.env.kindOf n = some .local)
    (h : ∀ (pn : List (Addr × Obj)) (xe : Value → Shared → Prop), PassesOwn (model X.prog X.w) X.A X.env xe → L2N.Takes (X.tr pn xe) (fun cls d σ1 H1 => ∃ k, PySem.W.exmOne X.K cls cl = some k ∧
        (k = true → ∀ a oe pn, H1 a = none → L2N.Zn cls d oe → (∃ vs, oe.data = .fields vs) → wB (X.suite a ((a, oe) :: pn)) (b₀ :: suite) { nx := fun σ' H' => D.nx (σ'.set i none) H', rt := D.rt, bk := fun σ' H' => D.bk (σ'.set i none) H', ct := fun σ' H' => D.ct (σ'.set i none) H' } (σ1.set i (some (.ref a))) H1) ∧
        (k = false → W cls d σ1 H1)) → wB (X.tr pn xe) body D σ H) : wS X (.Try body [.ExceptHandler (some (.Name x np)) (some n) (b₀ :: suite) pos'] [] [] pos) D σ H := by
  refine ofS (L2N.ps_try_as (tb := fun W' => fun D σ H => ∀ (pn : List (Addr × Obj)) (xe : Value → Shared → Prop), PassesOwn (model X.prog X.w) X.A X.env xe → L2N.Takes (X.tr pn xe) W' → wB (X.tr pn xe) body D σ H)
    (ts := fun a cls d => fun D σ H => ∀ oe pn, L2N.Zn cls d oe → (∃ vs, oe.data = .fields vs) → wB (X.suite a ((a, oe) :: pn)) (b₀ :: suite) D σ H) hs hf hN hi hln hc tk (fun W' pn xe tk' po => ⟨fun pins s σ H D I q => (q pn xe po tk').run pins s I⟩) (fun a oe cls d pn hz hd => ⟨fun pins s σ H D I q => (q oe pn hz hd).run pins s I⟩)) ?_
  intro pn xe po tk'
  refine h pn xe po (tk'.imp fun cls d σ1 H1 q => ?_)
  obtain ⟨k, h1, h2, h3⟩ := q
  exact ⟨k, h1, fun hk a ha oe pn hz hd => h2 hk a oe pn ha hz hd, h3⟩
end
end Z

set_option maxRecDepth 100000
set_option maxHeartbeats 4000000
namespace Z
open PySem PySem.Spec PyProof.Rows L2
open Evl (Ex)
/-! ### where an exception is handled: what is known of it -/
structure HX (X : Cx) (p : Addr × Obj) (cls : Value) (d : Option Addr) : Prop where
  hot : L2H.Hot1 X.A p
  mem : p ∈ X.pn
  zn : L2N.Zn cls d p.2
  fl : ∃ vs, p.2.data = .fields vs
theorem hx_suite {X : Cx} {a : Addr} {oe : Obj} {pn : List (Addr × Obj)} {cls : Value} {d : Option Addr} (hz : L2N.Zn cls d oe) (hf : ∃ vs, oe.data = .fields vs) : HX (X.suite a ((a, oe) :: pn)) (a, oe) cls d :=
  ⟨⟨rfl, by obtain ⟨vs, e⟩ := hf; exact ⟨vs, e, hz.2.2 vs e⟩⟩, List.mem_cons_self, hz, hf⟩
theorem HX.hotC {X : Cx} {p : Addr × Obj} {cls : Value} {d : Option Addr} (h : HX X p cls d) : L2H.HotC X := ⟨p, h.hot, h.mem⟩
section
variable {prog : Program} {w : World} {A : Around} {E : Value → Shared → Prop} {s : Shared}
/-- the last step of an iterator's end where an exception is handled: StopIteration is made, bears the handled one, is caught -/
theorem stop_hot {h0 h1 : Heap} {it x1 : Addr} {A' : Around} {g : Array GenState} {d : Drawn} {t : Nat} {os : OsState} (hot : HotX.HotAt A' x1 h1)
    (k : ∀ b o, b ≠ it → h0.get? b = some o → h1.get? b = some o)
    (hQ : ∀ (h' : Heap) (a : Addr), (∀ b o, b ≠ it → h0.get? b = some o → h'.get? b = some o) → (∃ o : Obj, h'.get? a = some o ∧ o.cls = .type "StopIteration") → E (.ref a) ⟨h', g, d, t, os⟩) {Q' : PySem.Fin → Shared → Prop} :
    wpAny (model prog w) A' Builtin.SmallTypes.stopIteration Q' E ⟨h1, g, d, t, os⟩ := by
  obtain ⟨hh, o1, vs1, g1, d1, c1⟩ := hot
  show wpAny _ _ (newExc (Value.type "StopIteration") [] >>= _) Q' E _; refine wpAny_bind ?_
  simp only [newExc, newTuple]
  refine wpAny_bind (wpAny_newObj_type ?_ (by size_fits)); refine wpAny_bind (m := firstArgMember _ _) (wpAny_of_eq (a := Value.none) (by first | rfl | (simp only [firstArgMember]; rfl)) ?_)
  refine wpAny_newObj_type (HotX.raiseNew_hot ⟨hh, o1, vs1, Heap.get?_push_of_some _ (Heap.get?_push_of_some _ g1), d1, c1⟩ (Nat.ne_of_lt (Heap.lt_size (Heap.get?_push_of_some _ g1))) (Heap.get?_push_size _ rfl) rfl (by first | (simp; done) | (simp; omega) | (simp only [Array.size_append]; simp; omega)) ?_) (by size_fits)
  refine hQ _ _ (fun b o hb e => ?_) ⟨_, Heap.get?_update_self _ (Heap.get?_push_size _ rfl) rfl, rfl⟩
  have q := Heap.get?_push_of_some { cls := Value.type "tuple", data := Data.seq ([] : List Value).toArray } (k b o hb e)
  rw [Heap.get?_update_other _ _ (Nat.ne_of_gt (Heap.lt_size q))]
  exact Heap.get?_push_of_some _ q
theorem list_end_hot {it l x1 : Addr} {i : Nat} {items} {Q : Option Value → Shared → Prop} (hot : HotX.HotAt A x1 s.heap) (ne : x1 ≠ it) (hit : s.heap.IsListIter it l i) (hl : s.heap.IsList l items) (hx : items[i]? = none)
    (hQ : ∀ h', (∀ b o, b ≠ it → s.heap.get? b = some o → h'.get? b = some o) → Q none { s with heap := h' }) : wpAny (model prog w) A (pyNext (.ref it)) Q E s := by
  obtain ⟨o, ho, hc, hd⟩ := id hit; obtain ⟨ol, hol, _, nl, hdl⟩ := hl; obtain ⟨hh, o1, vs1, g1, d1, c1⟩ := hot
  unfold pyNext
  refine wpAny_bind (wpAny_attempt (wpAny_callSpecial?_slot (name := Str.ofString "__next__") hit.typeIs slot_listiter_next (wpAny_call_entry slot_listiter_next hit.typeIs entry_listiter_next ?_ (args_listiter_next _))))
  show wpAny _ _ (field (.ref it) 0 >>= _) _ _ s; refine wpAny_bind (wpAny_field ho hd (x := .ref l) rfl ?_)
  show wpAny _ _ (if (Value.ref l == Value.none) = true then _ else _) _ _ s; rw [if_neg (show ¬ ((Value.ref l == Value.none) = true) from Bool.false_ne_true)]
  show wpAny _ _ (field (.ref it) 1 >>= _) _ _ s; refine wpAny_bind (wpAny_field ho hd (x := .int i 0) rfl ?_)
  show wpAny _ _ (seqItems? (.ref l) >>= _) _ _ s; refine wpAny_bind (wpAny_seqItems hol hdl ?_); simp only [Int.toNat_natCast, hx]
  refine wpAny_bind (wpAny_rule (wpAny_bind (wpAny_setField ho hd (by simp) ?_)))
  refine stop_hot (A' := A.in1) (h0 := s.heap) (it := it) ⟨hh, o1, vs1, (Heap.get?_update_other _ _ (Ne.symm ne)).trans g1, d1, c1⟩ (fun b o hb e => (Heap.get?_update_other _ _ (Ne.symm hb)).trans e) (fun h' a k ⟨oe, ge, ce⟩ => ?_)
  exact wpAny_bind (wpAny_isInstance (T := "StopIteration") (b := true) ⟨oe, ge, ce⟩ isSubtype_stop (wpAny_pure (hQ _ k)))
theorem tuple_end_hot {it t x1 : Addr} {i : Nat} {items} {Q : Option Value → Shared → Prop} (hot : HotX.HotAt A x1 s.heap) (ne : x1 ≠ it) (hit : IsTupIter s.heap it t i) (hl : IsTup s.heap t items) (hx : items[i]? = none)
    (hQ : ∀ h', (∀ b o, b ≠ it → s.heap.get? b = some o → h'.get? b = some o) → Q none { s with heap := h' }) : wpAny (model prog w) A (pyNext (.ref it)) Q E s := by
  obtain ⟨o, ho, hc, hd⟩ := id hit; obtain ⟨ol, hol, _, nl, hdl⟩ := hl; obtain ⟨hh, o1, vs1, g1, d1, c1⟩ := hot
  unfold pyNext
  refine wpAny_bind (wpAny_attempt (wpAny_callSpecial?_slot (name := Str.ofString "__next__") hit.typeIs slot_tupleiter_next (wpAny_call_entry slot_tupleiter_next hit.typeIs entry_tupleiter_next ?_ (args_tupleiter_next _))))
  show wpAny _ _ (field (.ref it) 0 >>= _) _ _ s; refine wpAny_bind (wpAny_field ho hd (x := .ref t) rfl ?_)
  show wpAny _ _ (if (Value.ref t == Value.none) = true then _ else _) _ _ s; rw [if_neg (show ¬ ((Value.ref t == Value.none) = true) from Bool.false_ne_true)]
  show wpAny _ _ (field (.ref it) 1 >>= _) _ _ s; refine wpAny_bind (wpAny_field ho hd (x := .int i 0) rfl ?_)
  show wpAny _ _ (seqItems? (.ref t) >>= _) _ _ s; refine wpAny_bind (wpAny_seqItems hol hdl ?_); simp only [Int.toNat_natCast, hx]
  refine wpAny_bind (wpAny_rule (wpAny_bind (wpAny_setField ho hd (by simp) ?_)))
  refine stop_hot (A' := A.in1) (h0 := s.heap) (it := it) ⟨hh, o1, vs1, (Heap.get?_update_other _ _ (Ne.symm ne)).trans g1, d1, c1⟩ (fun b o hb e => (Heap.get?_update_other _ _ (Ne.symm hb)).trans e) (fun h' a k ⟨oe, ge, ce⟩ => ?_)
  exact wpAny_bind (wpAny_isInstance (T := "StopIteration") (b := true) ⟨oe, ge, ce⟩ isSubtype_stop (wpAny_pure (hQ _ k)))
/-- a tuple unpacked where an exception is handled -/
theorem unpack_hot {t x1 : Addr} {items : Array Value} {Q : List Value → Shared → Prop} (hot : HotX.HotAt A x1 s.heap) (ht : IsTup s.heap t items)
    (hQ : ∀ h', (∀ b o, s.heap.get? b = some o → h'.get? b = some o) → Q items.toList { s with heap := h' }) : wpAny (model prog w) A (unpackItems (.ref t) items.size none) Q E s := by
  have hlt : t ≠ s.heap.objs.size := by obtain ⟨o, ho, _⟩ := ht; exact Nat.ne_of_lt (Heap.lt_size ho)
  obtain ⟨hh, o1, vs1, g1, d1, c1⟩ := hot
  unfold unpackItems
  refine wpAny_bind ?_
  unfold notIterableAtAll
  refine wpAny_bind (wpAny_specialOf ht.typeIs slot_tuple_iter.lookup (wpAny_pure ?_)); simp only [Bool.false_eq_true, if_false]
  refine wpAny_bind (wpAny_holding (iter_tuple ht ?_))
  refine wpAny_bind (wpAny_holding (draw_tuple hlt items.size 0 _ _ ⟨_, Heap.get?_push_size _ rfl, rfl, rfl⟩ (ht.push _) (by omega) fun ha hita hsa => ?_))
  rw [show List.take items.size (List.drop 0 items.toList) = items.toList from by rw [List.drop_zero]; exact List.take_of_length_le (by simp), if_neg (by simp)]
  have n1 : x1 ≠ s.heap.objs.size := Nat.ne_of_lt (Heap.lt_size g1)
  refine wpAny_bind (wpAny_holding (tuple_end_hot ⟨hh, o1, vs1, (hsa.2 x1 n1).trans (Heap.get?_push_of_some _ g1), d1, c1⟩ n1 hita ((ht.push _).extBut hsa.extBut hlt) (by simp) fun hb kb => ?_))
  simp only [Option.isSome_none, Bool.false_eq_true, if_false]
  refine wpAny_pure (hQ hb fun b o e => kb b o (Nat.ne_of_lt (Heap.lt_size e)) ((hsa.2 b (Nat.ne_of_lt (Heap.lt_size e))).trans (Heap.get?_push_of_some _ e)))
end
end Z
namespace Z
open PySem PySem.Spec PyProof.Rows L2
open Evl (Ex)
/-! ### a comprehension over a list where an exception is handled -/
/-- the block's context, with the pins of the def's -/
abbrev blkH (X : Cx) (s : Shared) (H : Hp) (scope : Scope) (ce : Env) (fp : List Addr) : Cx := { X.blk s H scope ce fp with pn := X.pn }
theorem Inv.toH {X : Cx} {s0 s : Shared} {H0 H : Hp} {scope : Scope} {ce : Env} {fp : List Addr} {σ : St} {pins : List (Addr × Obj)} (I : Inv (X.blk s0 H0 scope ce fp) [] σ H s)
    (h : ∀ p ∈ X.pn ++ pins, s.heap.get? p.1 = some p.2 ∧ H p.1 = none ∧ p.1 ≠ ce.locals ∧ p.1 ∉ frs X.stack ∧ ∀ v, p.2.data ≠ .cell v) : Inv (blkH X s0 H0 scope ce fp) pins σ H s :=
  ⟨⟨I.ok.mod, I.ok.kind, I.ok.glob, I.ok.blt, I.ok.above, I.ok.inj, I.ok.has, I.ok.cab, I.ok.hd, I.ok.frames, I.ok.stk, I.ok.exf, I.ok.bs, I.ok.bsz, I.ok.noex, I.ok.exfs, I.ok.funs, I.ok.frf⟩, I.os, I.bare, I.base, I.loc, I.cell, I.free, I.freeC, h, I.hok, I.len⟩
theorem Inv.fromH {X : Cx} {s0 s : Shared} {H0 H : Hp} {scope : Scope} {ce : Env} {fp : List Addr} {σ : St} {pins : List (Addr × Obj)} (I : Inv (blkH X s0 H0 scope ce fp) pins σ H s) : Inv (X.blk s0 H0 scope ce fp) pins σ H s :=
  ⟨⟨I.ok.mod, I.ok.kind, I.ok.glob, I.ok.blt, I.ok.above, I.ok.inj, I.ok.has, I.ok.cab, I.ok.hd, I.ok.frames, I.ok.stk, I.ok.exf, I.ok.bs, I.ok.bsz, I.ok.noex, I.ok.exfs, I.ok.funs, I.ok.frf⟩, I.os, I.bare, I.base, I.loc, I.cell, I.free, I.freeC, fun p hp => I.pin p (List.mem_append_right _ hp), I.hok, I.len⟩

/-- a list's iterator there -/
theorem turn_listH {P : Program} {w : World} {K : PySem.W.Frag} {tg : Expr} (a it : Addr) : L2H.TurnH P w K tg (Itl K a) [it] it (fun i h => h.IsListIter it a i) where
  mem := List.mem_singleton.mpr rfl
  obj := fun i h ⟨o, e, c, dd⟩ b hb => by obtain rfl := List.mem_singleton.mp hb; exact ⟨o, e, fun v z => by rw [dd] at z; cases z⟩
  keep := fun i h h' st k => st.at fun o e => k it (List.mem_singleton.mpr rfl) o e
  item := fun X hP hw hK hc i pins s σ H E I hf st hg => by
    subst hP hw hK
    obtain ⟨xs, x, hq, hx⟩ := hg; obtain ⟨its, rv, p, hz⟩ := I.list hq; obtain ⟨u, hu, ru⟩ := rv.get hx; obtain ⟨f0, f1, f2, f3, f4, f5⟩ := hf it (List.mem_singleton.mpr rfl)
    refine wpAny_pyNext_list_item st p.isList (x := u) (by simpa using hu) fun h' st' sb => ⟨u, rfl, ?_⟩
    obtain ⟨o, e, c, dd⟩ := id st'
    exact go_of (s := { s with heap := h' }) e c dd (by decide) ⟨x, H, I.turned (t' := s.toks) (fun b o hb z => (sb.2 b hb).trans z) f0 f1 f3 f4 f5, ru, ⟨rfl, fun ys hy => by rw [I.list_inj hy hq]; exact hx⟩, st', fun b hb => (hf b hb).1⟩
  done := fun X hP hw hK hc i pins s σ H E I hf st hg => by
    subst hP hw hK
    obtain ⟨xs, hq, hx⟩ := hg; obtain ⟨its, rv, p, hz⟩ := I.list hq; obtain ⟨f0, f1, f2, f3, f4, f5⟩ := hf it (List.mem_singleton.mpr rfl)
    obtain ⟨p1, hot, hm⟩ := hc
    have P1 := I.pin p1 (List.mem_append_left _ hm); obtain ⟨hh, vs, e1, c1⟩ := hot
    have hl := rv.length
    exact list_end_hot ⟨hh, _, vs, P1.1, e1, c1⟩ (f5 p1 (List.mem_append_left _ hm)) st p.isList (by simp; omega) fun h' k => ⟨rfl, I.turned (t' := s.toks) k f0 f1 f3 f4 f5⟩
  self := fun _ _ _ _ _ st h => wpAny_pyIter_listiter st h
theorem pi_listH {X : Cx} {tg l : Expr} : L2H.PIH X tg l (iList X.K (wE X l)) := by
  refine ⟨fun pins s σ H R I h => thn (h.run pins s I) fun v s1 ⟨x, H1, I1, r1, a, ex, ⟨xs, hq⟩, q⟩ => ?_⟩
  subst ex; obtain rfl : v = Value.ref a := r1
  obtain ⟨its, rv, p, hz⟩ := I1.list hq
  refine wpAny_pyIter_list p.isList ⟨s1.heap.objs.size, [s1.heap.objs.size], _, _, H1, rfl, I1.kept (t' := s1.toks) fun b o e => Heap.get?_push_of_some _ e, turn_listH a _, ⟨_, Heap.get?_push_size _ rfl, rfl, rfl⟩, fun b hb => ?_, q⟩
  obtain rfl := List.mem_singleton.mp hb
  exact I1.fpOk (Nat.le_refl _) (I1.hok.fresh (Nat.le_refl _))
section
variable {X : Cx} {σ : St} {H : Hp}
/-- the block of a comprehension, its last piece hRR as the library's -/
theorem lcH {pins : List (Addr × Obj)} {s : Shared} {Q : VK} {elt tg l : Expr} {ifs : List Expr} {scope : Scope} {own : List (Str × Nat)} {pos pos' : Pos} {wi : TI} {use : Option (Value → Sem Unit)} {Qf : Value → Shared → Prop} {p : Addr × Obj} {cls : Value} {d : Option Addr} {g : TG} {tt : TT} {te : TE} (hx : HX X p cls d)
    (hN : X.N.Nodup) (I : Inv X pins σ H s) (hi : L2H.PIH X tg l wi) (ok : BlkOk X.N X.env.scope scope own) (hs : ∀ x, foldedSetIterable l X.env x = pure x)
    (hg : ∀ (s : Shared) (H : Hp) (C : Addr) (cl : List (Str × Addr)) (fp : List Addr), PG (blkH X s H scope (compEnvC scope cl C X.env) fp) tg g ∧ PTs (blkH X s H scope (compEnvC scope cl C X.env) fp) ifs tt ∧ PE (blkH X s H scope (compEnvC scope cl C X.env) fp) elt te)
    (h : tLc wi g tt te (own.map (·.2)) σ H Q)
    (fin : ∀ L C s' m H', Inv X pins σ H' s' → Q (.ref L) H' → s'.heap.Ns C m → FpOk X pins H' C → compPost (model X.prog X.w) X.A X.xe use Qf (.ref L) C (.ok .next) s') :
    wpAny (model X.prog X.w) X.A (comprehension (.ListComp elt [⟨tg, l, ifs, 0⟩] scope pos) scope X.env pos' (newList []) false (eval l X.env) use) Qf X.xe s := by
  have hfr : ∀ y ∈ scope.names, y.2 = .free → ∃ c, X.env.cells.lookup y.1 = some c := fun z hz e => (ok.free z hz e).elim (fun k => I.ok.has _ (.inl k)) fun k => I.ok.has _ (.inr k)
  refine wpAny_comprehension_free (use := use) rfl hs (closure_ok hfr) ok.kind (fun z hz e => by rw [ok.uniq z hz, e]) (thn (hi.run pins s σ H _ I h) fun xv s1 hxv => thn hxv fun itv s2 hit => ?_)
  obtain ⟨it, fp, tn, J, H2, rfl, I2, T, st2, f2, q⟩ := hit
  refine wpAny_newObj_type (newEnv_comp ?_) (by show 0 ≤ sizeLine; decide)
  have hLn : H2 s2.heap.objs.size = none := I2.hok.fresh (Nat.le_refl _)
  obtain ⟨W, ⟨m0, w0⟩, turn⟩ := q _ hLn
  have I3 : Inv X pins σ (upd H2 s2.heap.objs.size (.lst [])) { s2 with heap := s2.heap.push { cls := .type "list", data := .seq ([] : List Value).toArray } } :=
    I2.laid (t' := s2.toks) (fun b o e => Heap.get?_push_of_some _ e) (Nat.le_refl _) ⟨Nat.zero_le _, [], 0, .nil, Heap.get?_push_size _ rfl⟩
  have szp : ∀ b ∈ fp, b < s2.heap.objs.size := fun b hb => by obtain ⟨o, e, _⟩ := T.obj _ _ st2 b hb; exact Heap.lt_size e
  have st3 : tn 0 (s2.heap.push { cls := .type "list", data := .seq ([] : List Value).toArray }) := T.keep _ _ _ st2 fun b _ o e => Heap.get?_push_of_some _ e
  generalize hL : s2.heap.objs.size = L at *
  generalize hs3 : ({ s2 with heap := s2.heap.push { cls := .type "list", data := .seq ([] : List Value).toArray } } : Shared) = s3 at I3
  have h3 : s2.heap.push { cls := .type "list", data := .seq ([] : List Value).toArray } = s3.heap := by rw [← hs3]
  have sz3 : s3.heap.objs.size = L + 1 := by rw [← hs3, ← hL]; exact Heap.size_push ..
  rw [h3] at st3
  have f3 : ∀ b ∈ fp, FpOk X pins (upd H2 L (.lst [])) b ∧ b < s3.heap.objs.size := fun b hb => ⟨⟨by rw [upd_ne (Nat.ne_of_lt (szp b hb))]; exact (f2 b hb).1, (f2 b hb).2⟩, by rw [sz3]; exact Nat.lt_succ_of_lt (szp b hb)⟩
  have I4 := block_start I3 ok hN f3
  obtain ⟨pg, pt, pe⟩ := hg s3 (upd H2 L (.lst [])) s3.heap.objs.size (cellsFrom (s3.heap.objs.size + 1) scope.names (cloFrom X.env.cells scope.names [])) fp
  show codeAny _ _ (.compStart _ 0 (.ref it) (.ref L) (compEnvC scope (cellsFrom (s3.heap.objs.size + 1) scope.names (cloFrom X.env.cells scope.names [])) s3.heap.objs.size X.env)) (compPost (model X.prog X.w) X.A X.xe use Qf (.ref L) s3.heap.objs.size) { s3 with heap := pushCells (s3.heap.push { cls := .type "dict", data := .dict #[] }) scope.names }
  generalize hce : compEnvC scope (cellsFrom (s3.heap.objs.size + 1) scope.names (cloFrom X.env.cells scope.names [])) s3.heap.objs.size X.env = ce at I4 pg pt pe ⊢
  have cL : ce.locals = s3.heap.objs.size := by subst hce; rfl
  generalize hH3 : upd H2 L (.lst []) = H3 at I3 I4 pg pt pe w0 f3
  have kp4 : ∀ b o, s3.heap.get? b = some o → (pushCells (s3.heap.push { cls := .type "dict", data := .dict #[] }) scope.names).get? b = some o := fun b o e => pushCells_keeps _ _ _ _ (Heap.get?_push_of_some _ e)
  generalize hs4 : ({ s3 with heap := pushCells (s3.heap.push { cls := .type "dict", data := .dict #[] }) scope.names } : Shared) = s4 at I4 ⊢
  have h4 : pushCells (s3.heap.push { cls := .type "dict", data := .dict #[] }) scope.names = s4.heap := by rw [← hs4]
  rw [h4] at kp4
  have st4 : tn 0 s4.heap := T.keep _ _ _ st3 fun b _ o e => kp4 b o e
  have pinB : ∀ p ∈ X.pn ++ [], s4.heap.get? p.1 = some p.2 ∧ H3 p.1 = none ∧ p.1 ≠ ce.locals ∧ p.1 ∉ frs X.stack ∧ ∀ v, p.2.data ≠ .cell v := fun p hp => by
    obtain ⟨e1, e2, e3, e4, e5⟩ := I3.pin p (List.mem_append_left _ (by rw [List.append_nil] at hp; exact hp))
    exact ⟨kp4 _ _ e1, e2, by rw [cL]; exact Nat.ne_of_lt (Heap.lt_size e1), fun hm => (List.mem_cons.mp (I3.stkSub _ hm)).elim e3 e4, e5⟩
  have I5 := Inv.toH I4 pinB
  have hxB : HX (blkH X s3 H3 scope ce fp) p cls d := ⟨hx.hot, hx.mem, hx.zn, hx.fl⟩
  have stat : ∀ {σ' : St} {H' : Hp} {s' : Shared}, Inv (blkH X s3 H3 scope ce fp) [] σ' H' s' → (∀ b ∈ fp, H' b = none) → ∀ b ∈ fp, FpOk (blkH X s3 H3 scope ce fp) [] H' b := fun {σ' H' s'} I' hn b hb =>
    ⟨hn b hb, (I'.ok.exf b hb).1, I'.ok.exfs b hb, .inl hb, fun x c e => (I'.ok.exf b hb).2 x c e, fun p hp => (f3 b hb).1.2.2.2.2.2 p (by rw [List.append_nil] at hp; exact List.mem_append_left _ hp)⟩
  have nfp : ∀ b ∈ fp, H3 b = none := fun b hb => (f3 b hb).1.1
  have loop : codeAny (model X.prog X.w) X.A (.compLoop (.ListComp elt [⟨tg, l, ifs, 0⟩] scope pos) 0 (.ref it) (.ref L) ce) (compPost (model X.prog X.w) X.A X.xe use Qf (.ref L) s3.heap.objs.size) s4 := by
    refine compLoop_any (fun n s' => ∃ i H', Inv (blkH X s3 H3 scope ce fp) [] (wipe σ (own.map (·.2))) H' s' ∧ (tn i s'.heap ∧ ∀ b ∈ fp, H' b = none) ∧ W i n H') (fun n s5 ⟨i, H5, J5, ⟨st5, n5⟩, w5⟩ => ?_) m0 ⟨0, H3, I5, ⟨st4, nfp⟩, w0⟩
    rcases turn i n H5 w5 with ⟨stop, qq⟩ | ⟨go, Nx, hNx, step⟩
    · refine thnF (T.done (blkH X s3 H3 scope ce fp) rfl rfl rfl hxB.hotC i [] s5 _ H5 (fun _ _ => False) J5 (stat J5 n5) st5 stop) fun r s6 ⟨hr, I6⟩ => ?_
      subst hr
      have I7 : Inv X pins σ H5 s6 := I3.call' (ch := fp) I6.os I6.base I6.hok I6.bare fun b hb => ⟨(f3 b hb).1.2.2.2.1, (f3 b hb).1.2.1, (f3 b hb).1.2.2.2.2.1, (f3 b hb).1.2.2.2.2.2⟩
      obtain ⟨m, hn, _⟩ := I6.loc; have nC : H5 ce.locals = none := I6.free
      rw [show (blkH X s3 H3 scope ce fp).env.locals = s3.heap.objs.size from cL] at hn; rw [cL] at nC
      exact fin L s3.heap.objs.size s6 m H5 I7 qq hn (I3.fpOk (Nat.le_refl _) nC)
    · refine thnF (T.item (blkH X s3 H3 scope ce fp) rfl rfl rfl hxB.hotC i [] s5 _ H5 (fun _ _ => False) J5 (stat J5 n5) st5 go) fun r s6 ⟨u, hr, h6⟩ => ?_
      subst hr
      refine thnF h6 fun _ s7 ⟨x, H7, I7, r7, y7, st7, n7⟩ => ?_
      refine thnF (pg.run _ s7 _ H7 x u _ (I7.pinned (stat I7 n7) (T.obj _ _ st7)) r7 (step x H7 y7)) fun _ s8 ⟨σ8, H8, I8, hw8, q8⟩ => thnF (pt.run _ s8 σ8 H8 _ I8 q8) fun b s9 ⟨H9, I9, q9⟩ => ?_
      have again : ∀ {s' : Shared} {H' : Hp}, Inv (blkH X s3 H3 scope ce fp) ([] ++ pinsAt fp s7.heap) σ8 H' s' → Nx H' → ∃ m, m < n ∧ ∃ i H', Inv (blkH X s3 H3 scope ce fp) [] (wipe σ (own.map (·.2))) H' s' ∧ (tn i s'.heap ∧ ∀ b ∈ fp, H' b = none) ∧ W i m H' := fun {s' H'} I' nx => by
        obtain ⟨m', hm, w'⟩ := hNx H' nx
        have pin' : ∀ b ∈ fp, ∀ o, s7.heap.get? b = some o → s'.heap.get? b = some o ∧ H' b = none := fun b hb o e => by have z := I'.pin (b, o) (List.mem_append_right _ (List.mem_append_right _ (mem_pinsAt hb e))); exact ⟨z.1, z.2.1⟩
        refine ⟨m', hm, i + 1, H', (I'.unpinned (pins := [])).weak (by rw [← hw8, wipe_length]) (fun j v e => by rw [← hw8] at e; exact (wipe_some e).1), ⟨T.keep _ _ _ st7 fun b hb o e => (pin' b hb o e).1, fun b hb => ?_⟩, w'⟩
        obtain ⟨o, e, _⟩ := T.obj _ _ st7 b hb; exact (pin' b hb o e).2
      cases b with
      | false => simp only [Bool.false_eq_true, if_false] at q9 ⊢; exact again I9 q9
      | true =>
        simp only [if_true] at q9 ⊢
        exact thnF (pe.run _ s9 σ8 H9 _ I9 q9) fun z s10 ⟨yv, H10, I10, r10, acc, hD10, hz10, nx⟩ => app_ok (X := blkH X s3 H3 scope ce fp) I10 hD10 hz10 r10 fun s11 I11 => again I11 nx
  exact codeAny_compStart_list loop (T.self X.A 0 _ _ _ st4 loop)
/-- name = [elt for tg in l if ..] there, on one row of the text -/
theorem slcH {i : Nat} {y : Str} {py : Pos} {elt tg l : Expr} {ifs : List Expr} {scope : Scope} {own : List (Str × Nat)} {pos spos : Pos} {D : Ends} {wi : TI} {p : Addr × Obj} {cls : Value} {d : Option Addr} {g : TG} {tt : TT} {te : TE} (hx : HX X p cls d) (hN : X.N.Nodup) (hy : X.N[i]? = some y) (hyl : X.env.scope.names.lookup y = some .local)
    (hsw : swapsWith (.ListComp elt [⟨tg, l, ifs, 0⟩] scope pos) (some (.Name y py)) spos.line X.env = pure true) (ok : BlkOk X.N X.env.scope scope own) (hi : L2H.PIH X tg l wi)
    (hg : ∀ (s : Shared) (H : Hp) (C : Addr) (cl : List (Str × Addr)) (fp : List Addr), PG (blkH X s H scope (compEnvC scope cl C X.env) fp) tg g ∧ PTs (blkH X s H scope (compEnvC scope cl C X.env) fp) ifs tt ∧ PE (blkH X s H scope (compEnvC scope cl C X.env) fp) elt te)
    (h2 : tLc wi g tt te (own.map (·.2)) σ H (fun x H1 => D.nx (σ.set i (some x)) H1))
    (hs : ∀ x, foldedSetIterable l X.env x = pure x := by intro _; rfl) : wS X (.Assign [.Name y py] (.ListComp elt [⟨tg, l, ifs, 0⟩] scope pos) spos) D σ H := by
  refine ⟨fun pins s I => ?_⟩
  rw [exec_Assign_Name_used _ _ _ _ hsw]; refine wpAny_bind (wpAny_standAt (wpAny_bind ?_))
  show wpAny _ X.A (do let _ ← comprehension (.ListComp elt [⟨tg, l, ifs, 0⟩] scope pos) scope X.env (firstIterPos [⟨tg, l, ifs, 0⟩] pos) (newList []) false (eval l X.env) (some (assign (.Name y py) X.env))) _ _ s
  refine wpAny_bind (thn (lcH (Qf := fun _ s' => SP X pins D .next s') hx hN I hi ok hs hg h2 fun L C s' m H' I' q hn f => ?_) fun _ s' hq => wpAny_pure (wpAny_pure hq))
  show wpAny _ _ (assign (.Name y py) X.env (.ref L)) _ _ _
  refine wpAny_assign_Name (store_ok2 (v := V.ref L) I' hN hy (.inl hyl) rfl (fun s2 I2 ⟨a, sb, ha⟩ => ?_) (.inr hyl))
  obtain ⟨f0, f1, f2, f3, f4, f5⟩ := f
  have haC : C ≠ a := ha.elim (fun z => by rw [z]; exact f1) fun z => fun e => f4 y a z e.symm
  exact ⟨m, hn.sameBut sb haC, fun h3 sb3 => ⟨_, H', I2.turned (t' := s2.toks) (fun b o hb e => (sb3.2 b hb).trans e) f0 f1 f3 f4 f5, q⟩⟩
end
end Z

set_option maxRecDepth 100000
set_option maxHeartbeats 4000000
namespace Z
open PySem PySem.Spec PyProof.Rows L2
open Evl (Ex)
section
variable {X : Cx} {σ : St} {H : Hp} {e a b c o : Expr} {es : List Expr} {st : Stmt} {sts : List Stmt} {pos pos' p p1 p2 apos : Pos} {Q : VK} {D : Ends} {W : WX} {q : Addr × Obj} {cls : Value} {dd : Option Addr}
/-! ### where an exception is handled: targets, isinstance, its fields, defs that take it -/
theorem gtupH {ts : List Expr} {k : Nat} {t : Addr} {xs : List V} {Q : St → Hp → Prop} (hx : HX X q cls dd) (hp : SqT X.K H t xs) (hl : xs.length = ts.length) (h : wGs X ts xs σ H Q) (hn : (assignEach ts X.env).length = ts.length := by rfl) (hst : (assignEach ts X.env).findIdx? (·.1) = none := by rfl) : wG X (.Tuple ts k pos) (.ref t) σ H Q := by
  refine ⟨fun pins s u I r => ?_⟩
  obtain rfl : u = Value.ref t := r
  obtain ⟨its, rv, ht, hz⟩ := I.tuple hp
  obtain ⟨x1, hot⟩ := hx.hotC.at I
  rw [assign_Tuple]; refine wpAny_bind (wpAny_standAt ?_)
  have hN : (assignEach ts X.env).length = its.toArray.size := by rw [hn, ← hl, rv.length]; simp
  unfold unpack; rw [hN, hst]
  exact wpAny_bind (wpAny_holding (unpack_hot hot ht fun h' k => h.run pins _ _ (I.kept (t' := s.toks) k) (by simpa using rv)))
/-- what a class must say so that isinstance asks its instances rightly, and their fields are read -/
structure XcC (K : PySem.W.Frag) (C : Addr) : Prop where
  is : ExcC K C
  fl : XfC K C
/-- its dict stands -/
def Xd (dd : Option Addr) (H : Hp) : Prop := ∀ d, dd = some d → ∃ fs, H d = some (.xd fs)
theorem kisE {c : V} {cv : Value} {C : Addr} {k : Bool} (hx : HX X q (.ref C) dd) (T : XcC X.K C) (hd : Xd dd H) (hc : ClsV c cv) (hk : PySem.W.kitOne X.K (.ref C) cv = some k) (h : Q (.bl k) H) : wK X (.builtin "isinstance") [.ref q.1, c] H Q := by
  refine ⟨fun pins s σ us I r => ?_⟩
  cases r with
  | cons rx rr =>
    cases rr with
    | cons rt rr =>
      cases rr; cases rx
      obtain rfl := hc.eq rt
      obtain ⟨hget, _⟩ := I.pin q (List.mem_append_left _ hx.mem)
      obtain ⟨vs, hv⟩ := hx.fl
      have hz := hx.zn
      cases dd with
      | none => exact PySem.W.kia_one (PySem.W.kitx_exc (od := none) (ox := q.2) (by obtain ⟨cd, hcd, _⟩ := PySem.W.any_some T.is.hd; rw [hcd]; rfl) T.is.hg T.is.hk T.is.hs T.is.ha T.is.hn T.is.ht T.is.hm) I.kIn ⟨hget, hz.1, by unfold PySem.W.notCls; rw [hv] <;> rfl, by rw [hz.2.1]; trivial⟩ hk (fun z => nomatch z) fun tk => ⟨.bl k, H, I.kept (t' := tk) fun _ _ z => z, rfl, h⟩
      | some d =>
        obtain ⟨fs, hfs⟩ := hd d rfl
        obtain ⟨mA, ⟨od, _, _, ho, _⟩, _⟩ : ObjOk X.prog X.w H s.heap d (.xd fs) := I.hok d _ hfs
        exact PySem.W.kia_one (PySem.W.kitx_exc (od := some od) (ox := q.2) (by obtain ⟨cd, hcd, _⟩ := PySem.W.any_some T.is.hd; rw [hcd]; rfl) T.is.hg T.is.hk T.is.hs T.is.ha T.is.hn T.is.ht T.is.hm) I.kIn ⟨hget, hz.1, by unfold PySem.W.notCls; rw [hv] <;> rfl, by rw [hz.2.1]; exact ho⟩ hk (fun z => nomatch z) fun tk => ⟨.bl k, H, I.kept (t' := tk) fun _ _ z => z, rfl, h⟩
/-- a field of the exception that is handled -/
theorem zfldE {C d : Addr} {f : Str} (hx : HX X q (.ref C) (some d)) (T : XcC X.K C) (hno : PySem.W.findIn X.K (.ref C) f = some none) (h : wE X e σ H fun x H1 => x = .ref q.1 ∧ ∃ fs v, H1 d = some (.xd fs) ∧ fs.lookup f = some v ∧ Q v H1)
    (hb : attributeBase e f X.env (eval e X.env) = eval e X.env := by rfl) : wE X (.Attribute e f pos) σ H Q := by
  refine ⟨fun pins s  I => ?_⟩
  refine attr_of hb (thn (h.run pins s I) fun u s1 ⟨x, H1, I1, rx, ex, fs, v, ea, l, qq⟩ => ?_)
  subst ex; obtain rfl : u = Value.ref q.1 := rx
  obtain ⟨vs, hv⟩ := hx.fl
  obtain ⟨mA, hns, hr⟩ : ObjOk X.prog X.w H1 s1.heap d (.xd fs) := I1.hok d _ ea
  obtain ⟨od, ho, hl⟩ := lookIn_ns hns
  obtain ⟨z, hz, rz⟩ := RelO.some_of (v := v) (o := mA f) (by rw [← l]; exact hr f)
  exact HandSPX.exc_get I1.kIn (od := some od) (ox := q.2) ⟨(I1.pin q (List.mem_append_left _ hx.mem)).1, hx.zn.1, by unfold PySem.W.notCls; rw [hv] <;> rfl, by rw [hx.zn.2.1]; exact ho⟩ T.fl.ga T.fl.gg T.fl.exC (PySem.W.findObj_own T.fl.hdC hno rfl (by rw [hl, hz])) (handed_of rz) ⟨v, H1, I1.tok _, rz, qq⟩
/-! ### a def that takes the handled exception -/
abbrev SpE := Value → Option Addr → Addr → List V → Hp → VK → Prop
structure FnE (P : Program) (w : World) (K : PySem.W.Frag) (mg : Str → Option Value) (base : Heap) (k : Nat) (f : Addr) (fd : FuncData) (ps : List Str) (sp : SpE) : Prop where
  len : ∀ cls d a vs H Q, sp cls d a vs H Q → vs.length = ps.length
  run : ∀ (A : Around) (outer : List Env) (s : Shared) (H : Hp) (args : Args) (us : List Value) (vs : List V) (Q : VK) (p : Addr × Obj) (cls : Value) (d : Option Addr), L2H.RoomH k A → L2H.Hot1 A p → L2N.Zn cls d p.2 → L2H.PinOk outer H s p → Env0 P w K mg base A outer s H → BindsTo s fd args (ps.zip us) → Vals vs us → sp cls d p.1 vs H Q →
    codeAny (model P w) A (.call (.ref f) args) (CR CX0 outer P w H s Q fun _ _ _ => False) s
theorem fnE_of {P : Program} {w : World} {K : PySem.W.Frag} {mg : Str → Option Value} {base : Heap} {k : Nat} {f : Addr} {fd : FuncData} {x qual : Str} {params : Arguments} {body : List Stmt} {scope : Scope} {dvs : List V} {kws : List (Str × V)} {N ps : List Str} {sp : SpE}
    (F : FunD K x qual params body scope dvs kws f fd) (S : FnScope N ps scope) (len : ∀ cls d a vs H Q, sp cls d a vs H Q → vs.length = ps.length)
    (hb : ∀ (cdv : Value) (A : Around) (outer : List Env) (s : Shared) (H : Hp) (vs : List V) (Q : VK) (p : Addr × Obj) (cls : Value) (d : Option Addr), HX (L2H.cxH CX0 P w K mg base N qual scope f cdv A outer s H (fun _ _ _ => False) p) p cls d → L2H.RoomH k (A.deeper (envOfC qual scope s.heap.objs.size f cdv)) → sp cls d p.1 vs H Q →
      wB (L2H.cxH CX0 P w K mg base N qual scope f cdv A outer s H (fun _ _ _ => False) p) body { nx := fun _ H' => Q .non H', rt := Q } (start N vs) H) : FnE P w K mg base (k + 1) f fd ps sp := by
  obtain ⟨oc, od, dV, kV, doc, pm, an, cdv, ct, osl, rfl, lk, hcd, _, _⟩ := F.ex
  refine ⟨len, fun A outer s H args us vs Q p cls d hr hot hz hpin e0 hbd r hsp => ?_⟩
  have KX : K.In s.heap := e0.mod.kin.keeps fun b o e => (e0.bs b o e).1
  have kinds : ∀ y ∈ ps.zip us, scope.names.lookup y.1 = some .local ∨ (scope.names.lookup y.1 = some .cell ∧ ((cellsFrom (s.heap.objs.size + 1) scope.names []).lookup y.1).isSome = true) := fun y hy =>
    (S.par y.1 (List.of_mem_zip (a := y.1) (b := y.2) hy).1).elim .inl fun z => .inr ⟨z, PySem.W.cellsFrom_some _ _ _ (.inl z)⟩
  refine codeAny_call_function hr.depth (KX _ _ lk) rfl S.co S.gen rfl (PySem.W.codeRec_of KX hcd) (hbd _ _ _ _ (wpAny_newFunctionEnv_cells S.kind kinds fun env he s1 xx => ?_))
  subst he
  refine ⟨(e0.mod.nolimit.keeps fun b o e => (e0.bs b o e).1).keeps xx.toInCall.keep, codeAny_func ?_⟩
  have hxx : HX (L2H.cxH CX0 P w K mg base N qual scope f cdv A outer s H (fun _ _ _ => False) p) p cls d := ⟨hot, List.mem_singleton.mpr rfl, hz, by obtain ⟨_, vs, e, _⟩ := hot; exact ⟨vs, e⟩⟩
  refine wpAny_mono ((hb cdv A outer s H vs Q p cls d hxx (hr.deeper _) hsp).run [] s1 (L2H.inv_startH S hpin e0 (len _ _ _ _ _ _ hsp) r xx)) (fun fl s' hs => ?_) fun er s' hs => hs
  cases fl with
  | ret u => obtain ⟨v, σ', H', J, rv, qq⟩ := hs; exact ⟨v, H', J.os, J.bare, J.base, J.hok, rv, qq⟩
  | next => obtain ⟨σ', H', J, qq⟩ := hs; exact ⟨V.non, H', J.os, J.bare, J.base, J.hok, rfl, qq⟩
  | brk => obtain ⟨_, _, _, z⟩ := hs; exact z.elim
  | cont => obtain ⟨_, _, _, z⟩ := hs; exact z.elim
def Ge (P : Program) (w : World) (K : PySem.W.Frag) (mg : Str → Option Value) (base : Heap) (k : Nat) (x : Str) (sp : SpE) : Prop :=
  ∃ (f : Addr) (fd : FuncData) (ps : List Str), mg x = some (.ref f) ∧ PySem.W.keepIn K (.ref f) = true ∧ Binds K fd ps [] ∧ FnE P w K mg base k f fd ps sp
theorem zcallE {x : Str} {k j : Nat} {sp : SpE} (F : Ge X.prog X.w X.K X.mg X.base k x sp) (hx : HX X q cls dd) (hr : L2H.RoomH j X.A) (hk : k ≤ j) (hg : Gl X x) (h : wA X (e :: es) σ H fun vs H1 => sp cls dd q.1 vs H1 Q)
    (hdb : (x == ("__debug__" : Str)) = false := by decide) (he : starEach (e :: es) X.env = (false, eval e X.env) :: starEach es X.env := by rfl) (hpl : (backTo pos (starEach es X.env)).any (·.1) = false := by rfl) : wE X (.Call (.Name x p) (e :: es) [] pos) σ H Q := by
  refine ⟨fun pins s  I => ?_⟩
  obtain ⟨f, fd, ps, hm, kp, hb, FF⟩ := F
  refine wpAny_Call_Name_kw (ld_glob I hg hm ?_ hdb)
  refine PySem.W.callWith_K (h₀ := X.base) I.ok.mod.kin kp (thn (h.run pos pins s I) fun us s1 ⟨vs, H1, I1, r, qq⟩ => ⟨I1.kIn, ?_⟩) he hpl
  have hl : (us ++ []).length = ps.length := by rw [List.append_nil]; exact r.length.symm.trans (FF.len _ _ _ _ _ _ qq)
  have b := hb s1 us I1.kIn hl
  rw [List.append_nil] at b
  have P1 := I1.pin q (List.mem_append_left _ hx.mem)
  refine wpAny_call (codeAny_mono (FF.run X.A X.stack s1 H1 ⟨us, []⟩ us vs Q q cls dd (hr.mono hk) hx.hot hx.zn ⟨P1.1, P1.2.1, fun hm => (List.mem_cons.mp (I1.stkSub q.1 hm)).elim P1.2.2.1 P1.2.2.2.1, P1.2.2.2.2⟩ I1.env0 b r qq) fun z s' hq => ?_)
  cases z with
  | error er => exact hq.elim
  | ok fl =>
    cases fl with
    | ret u => exact I1.after hq
    | next => exact hq.elim
    | brk => exact hq.elim
    | cont => exact hq.elim
/-! ### an own exception class with an __init__ -/
theorem sost {f : Str} (h : wE X e σ H fun y H1 => wE X o σ H1 fun x H2 => ∃ a C : Addr, x = .ref a ∧ OexC X.K C ∧ PySem.W.findIn X.K (.ref C) f = some none ∧
      ((H2 a = some (exo a C none) ∧ ∀ dx, H2 dx = none → dx ≠ a → D.nx σ (upd (upd H2 dx (exd dx [(f, y)])) a (exo a C (some dx)))) ∨
        ∃ (dx : Addr) (fs : List (Str × V)), H2 a = some (exo a C (some dx)) ∧ H2 dx = some (exd dx fs) ∧ fs.length ≤ 900 ∧ D.nx σ (upd H2 dx (exd dx ((f, y) :: fs)))))
    (hs : swapsWith e (some (.Attribute o f p')) pos.line X.env = pure false := by rfl) : wS X (.Assign [.Attribute o f p'] e pos) D σ H := ofS (ps_ost sE sE hs) h
/-- C(e, ..) -/
theorem moex {x : Str} {C fI : Addr} {k j : Nat} {fd : FuncData} {ps : List Str} {sp : Sp} {Q : XK} (T : OexC X.K C) (iC : PySem.W.findIn X.K (.ref C) "__init__" = some (some (.ref fI))) (tI : PySem.W.typeIn X.K (.ref fI) = some (.type "function"))
    (F1 : FnOk X.prog X.w X.K X.mg X.base CX0 k fI fd ps sp) (hb : Binds X.K fd ps []) (hr : Room j X.A) (hk : k + 1 ≤ j) (hg : Gl X x) (hm : X.mg x = some (.ref C)) (h : tMkO C sp [] (wA X (e :: es)) σ H Q)
    (hdb : (x == ("__debug__" : Str)) = false := by decide) (he : starEach (e :: es) X.env = (false, eval e X.env) :: starEach es X.env := by rfl) (hpl : (backTo pos (starEach es X.env)).any (·.1) = false := by rfl) : wM X (.Call (.Name x p) (e :: es) [] pos) σ H Q := by
  refine ⟨fun pins s  I => ?_⟩
  obtain ⟨nm, qn, N, bs, bm, sn, sub, ab, col, dd', k0, k1, k2, k3, k5, hC, hbm⟩ := T.cls
  refine wpAny_Call_Name_kw (ld_glob I hg hm ?_ hdb)
  refine PySem.W.callWith_K (h₀ := X.base) I.ok.mod.kin T.kC (thn (h.run pos pins s I) fun us s1 ⟨vs, H1, I1, r1, hz, q1⟩ => ⟨I1.kIn, ?_⟩) he hpl
  show wpAny _ _ (call (.ref C) us) _ _ _
  obtain ⟨hp, g, dr, tk, os⟩ := s1
  have hsz : hp.objs.size ≤ hp.objs.size + 1 := Nat.le_succ _
  have hq := q1 (hp.objs.size + 1) (I1.hok.fresh hsz)
  rw [List.append_nil] at hq
  generalize hup : (hp.push (PySem.W.kdv_tup us)).push (PySem.HandSPX.excO C hp.objs.size) = hp2
  have kk : ∀ b o, hp.get? b = some o → hp2.get? b = some o := fun b o e => by rw [← hup]; exact Heap.get?_push_of_some _ (Heap.get?_push_of_some _ e)
  have hget : hp2.get? (hp.objs.size + 1) = some (PySem.HandSPX.excO C hp.objs.size) := by rw [← hup]; heap_get
  have I2 : Inv X pins σ (upd H1 (hp.objs.size + 1) (exo (hp.objs.size + 1) C none)) ⟨hp2, g, dr, tk, os⟩ := I1.laid (t' := tk) (a := hp.objs.size + 1) (o := exo (hp.objs.size + 1) C none) (h' := hp2) kk hsz (exo_ok hget)
  have r2 : Vals (V.ref (hp.objs.size + 1) :: vs) (Value.ref (hp.objs.size + 1) :: us) := .cons rfl r1
  have hl : ((Value.ref (hp.objs.size + 1) :: us) ++ []).length = ps.length := by rw [List.append_nil, ← r2.length]; exact F1.len _ _ _ _ hq
  have b2 := hb _ (Value.ref (hp.objs.size + 1) :: us) I2.kIn hl
  rw [List.append_nil] at b2
  have hus : us.length ≤ sizeLine := by rw [← Paired.length r1, sizeLine_eq]; omega
  refine wpAny_call (PySem.HandSPX.call_own F.excBase_ValueError (fun Y => PySem.HandSPX.refsVE_contains Y bm hbm) (I1.kIn _ _ hC) (PySem.W.looks_findIn I1.kIn iC) (fun self => PySem.W.bind_fn I1.kIn self tI) hus ?_)
  rw [hup]
  refine codeAny_mono (F1.run _ X.stack _ _ ⟨Value.ref (hp.objs.size + 1) :: us, []⟩ (Value.ref (hp.objs.size + 1) :: us) _ _ (fun _ _ _ => False) ((hr.mono hk).make C us []) (I2.env0.make C us []) b2 r2 hq) fun z s' hq' => ?_
  cases z with
  | error er => exact hq'.elim
  | ok fl =>
    cases fl with
    | ret u =>
      obtain ⟨v, H2, os2, bare2, un2, hok2, rv, ev, d, fs, ea, ed, hd1, q2⟩ := hq'
      subst ev
      obtain ⟨h2, g2, d2, t2, os'⟩ := s'
      obtain ⟨t0, G, J, kG, ge, hoe, na⟩ := mk_end0 (d2 := d2) (t2 := t2) I1 hsz kk un2 hok2 os2 bare2 ea ed hd1
      exact ⟨rv, hp.objs.size + 1, _, _, ⟨G, g2, d2, t2, os'⟩, _, .ref C, some d, rfl, J, kG, ge, hoe, ⟨rfl, rfl, fun vs hv => by cases hv; rfl⟩, rfl, rfl, na, rfl, bare2, raises_own T.exC T.tyC, q2⟩
    | next => exact hq'.elim
    | brk => exact hq'.elim
    | cont => exact hq'.elim
end
end Z

set_option maxRecDepth 100000
set_option maxHeartbeats 4000000
namespace Z
open PySem PySem.Spec PyProof.Rows L2
open Evl (Ex)
/-! ### facts of the written part, by names -/
def oexB (K : PySem.W.Frag) (C : Addr) : Bool := match K.lookup C with
  | some ⟨.type "type", _, .cls cd, sl⟩ => (match cd.mro, sl.toList with
    | .ref C' :: bm, [_, _, _, _, some (.builtin n), _] => decide (C' = C) && (decide (n = "ValueError.__new__") && (!cd.hasDel && (cd.hasDict && PySem.HandSPX.refsVE bm)))
    | _, _ => false)
  | _ => false
theorem oexB_ok {K : PySem.W.Frag} {C : Addr} (h : oexB K C = true) : ∃ nm q N bs bm sn sub ab col dd k0 k1 k2 k3 k5, K.lookup C = some (excClassObj nm q C N bs bm true sn sub ab col dd k0 k1 k2 k3 k5 "ValueError.__new__") ∧ PySem.HandSPX.refsVE bm = true := by
  unfold oexB at h
  split at h
  · rename_i dd cd sl ho
    split at h
    · rename_i C' bm k0 k1 k2 k3 n k5 hm hs
      simp only [Bool.and_eq_true, decide_eq_true_eq, Bool.not_eq_true'] at h
      obtain ⟨rfl, rfl, hdel, hdict, hb⟩ := h
      obtain ⟨nm, bs, mro, ns, qn, hd, sn, sub, ab, col, del⟩ := cd
      dsimp only at hm hdel hdict; subst hm hdel hdict
      obtain ⟨l⟩ := sl; dsimp only at hs; subst hs
      exact ⟨nm, qn, ns, bs, bm, sn, sub, ab, col, dd, k0, k1, k2, k3, k5, ho, hb⟩
    · cases h
  · cases h
/-- what may be asked of classes: their kin (isinstance, except), an exception with fields, one without, what isinstance and reads of it ask -/
inductive Fz where
  | kit (x y : Str) (b : Bool)
  | kitT (x : Str) (t : String) (b : Bool)
  | kTO (t : String) (y : Str) (b : Bool)
  | oex (x : Str)
  | noa (x f : Str)
  | xc (x : Str)
  | cls (x : Str)
def Fz.ok (K : PySem.W.Frag) : Fz → Bool
  | .kit x y b => decide (PySem.W.kitOne K (.ref (He.ga K x)) (.ref (He.ga K y)) = some b)
  | .kitT x t b => decide (PySem.W.kitOne K (.ref (He.ga K x)) (.type t) = some b)
  | .kTO t y b => decide (PySem.W.kitOne K (.type t) (.ref (He.ga K y)) = some b)
  | .oex x => oexB K (He.ga K x) && (He.eqO (PySem.W.findIn K (.ref (He.ga K x)) "__setattr__") (some (some (.builtin "object.__setattr__"))) && (decide (PySem.W.subIn K (.ref (He.ga K x)) (.type "BaseException") = some true) && (decide (PySem.W.typeIn K (.ref (He.ga K x)) = some (.type "type")) &&
      (PySem.W.keepIn K (.ref (He.ga K x)) && (He.eqO (PySem.W.findIn K (.ref (He.ga K x)) "__init__") (some (some (.ref (He.ma K (He.ga K x) "__init__")))) && decide (PySem.W.typeIn K (.ref (He.ma K (He.ga K x) "__init__")) = some (.type "function")))))))
  | .noa x f => He.eqO (PySem.W.findIn K (.ref (He.ga K x)) f) (some none)
  | .xc x => xfB K (He.ga K x) && (He.eqO (PySem.W.findIn K (.ref (He.ga K x)) "__class__") (some (some (.builtin "object.__class__"))) && (decide (PySem.W.specialIn K (.builtin "object.__class__") "__get__" = some (some (.builtin "getset_descriptor.__get__"))) &&
      (decide (PySem.W.takesIn K (.builtin "object.__class__") = some true) && decide (PySem.W.mroIn K (He.ga K x) (.type "object") = some true))))
  | .cls x => (match PySem.W.typeIn K (.ref (He.ga K x)) with | some (.type "type") => true | _ => false)
section
variable {K : PySem.W.Frag} {x : Str}
theorem kit_ok {y : Str} {b : Bool} (h : (Fz.kit x y b).ok K = true) : PySem.W.kitOne K (.ref (He.ga K x)) (.ref (He.ga K y)) = some b := of_decide_eq_true h
theorem kitT_ok {t : String} {b : Bool} (h : (Fz.kitT x t b).ok K = true) : PySem.W.kitOne K (.ref (He.ga K x)) (.type t) = some b := of_decide_eq_true h
theorem kTO_ok {y : Str} {t : String} {b : Bool} (h : (Fz.kTO t y b).ok K = true) : PySem.W.kitOne K (.type t) (.ref (He.ga K y)) = some b := of_decide_eq_true h
theorem noa_ok {f : Str} (h : (Fz.noa x f).ok K = true) : PySem.W.findIn K (.ref (He.ga K x)) f = some none := He.eqO_ok h
/-- an own exception class with an __init__ -/
structure OxC (K : PySem.W.Frag) (C fI : Addr) : Prop where
  o : OexC K C
  i : PySem.W.findIn K (.ref C) "__init__" = some (some (.ref fI))
  t : PySem.W.typeIn K (.ref fI) = some (.type "function")
theorem oex_ok (h : (Fz.oex x).ok K = true) : OxC K (He.ga K x) (He.ma K (He.ga K x) "__init__") := by
  obtain ⟨h1, h⟩ := He.ba h; obtain ⟨h2, h⟩ := He.ba h; obtain ⟨h3, h⟩ := He.ba h; obtain ⟨h4, h⟩ := He.ba h; obtain ⟨h5, h⟩ := He.ba h; obtain ⟨h6, h7⟩ := He.ba h
  exact ⟨⟨oexB_ok h1, He.eqO_ok h2, of_decide_eq_true h3, of_decide_eq_true h4, h5⟩, He.eqO_ok h6, of_decide_eq_true h7⟩
theorem xc_ok (h : (Fz.xc x).ok K = true) : XcC K (He.ga K x) := by
  obtain ⟨h1, h⟩ := He.ba h; obtain ⟨h2, h⟩ := He.ba h; obtain ⟨h3, h⟩ := He.ba h; obtain ⟨h4, h5⟩ := He.ba h
  have T := xfB_ok h1
  exact ⟨⟨T.ga, T.gg, T.exC, T.hdC, He.eqO_ok h2, of_decide_eq_true h3, of_decide_eq_true h4, of_decide_eq_true h5⟩, T⟩
end
theorem more_of {K : PySem.W.Frag} {fz : List Fz} (h : (fz.all fun f => f.ok K) = true) (i : Nat) {f : Fz} (e : fz[i]? = some f := by rfl) : f.ok K = true := List.all_eq_true.mp h f (List.mem_of_getElem? e)
/-! ### a def of the text keeps its promise -/
section
variable {P : Program} {w : World} {K : PySem.W.Frag} {mg : Str → Option Value} {base : Heap}
/-- the context of a def's body -/
abbrev cx (P : Program) (w : World) (K : PySem.W.Frag) (mg : Str → Option Value) (base : Heap) (N : List Str) (qual : Str) (scope : Scope) (f : Addr) (cd : Value) (A : Around) (outer : List Env) (s : Shared) (H : Hp) (E : XK) : Cx := cxOf (L2N.CX P w) P w K mg base N qual scope f cd A outer s H E
theorem fn_mk {x qual : Str} {params : Arguments} {body : List Stmt} {scope : Scope} {dvs : List V} {kws : List (Str × V)} {f : Addr} {fd : FuncData} {N ps : List Str} {k : Nat} {sp : Sp} (F : FunD K x qual params body scope dvs kws f fd) (S : FnScope N ps scope) (len : ∀ vs H Q E, sp vs H Q E → vs.length = ps.length)
    (hb : ∀ (cd : Value) (A : Around) (outer : List Env) (s : Shared) (H : Hp) (vs : List V) (Q : VK) (E : XK), Room k (cx P w K mg base N qual scope f cd A outer s H E).A → L2N.Takes (cx P w K mg base N qual scope f cd A outer s H E) (fun cls d _ H' => E cls d H') →
      PassesOwn (model P w) (cx P w K mg base N qual scope f cd A outer s H E).A (cx P w K mg base N qual scope f cd A outer s H E).env (cx P w K mg base N qual scope f cd A outer s H E).xe → sp vs H Q E →
      wB (cx P w K mg base N qual scope f cd A outer s H E) body { nx := fun _ H' => Q .non H', rt := Q } (start N vs) H) : FnOk P w K mg base (L2N.CX P w) (k + 1) f fd ps sp :=
  F.ok S len fun cd A outer s H vs Q E hr h => ⟨_, sB, hb cd A outer s H vs Q E hr (L2N.takes_of rfl rfl rfl rfl) (passes_of rfl) h⟩
/-- .. a def from which nothing is let out (an __init__ of an exception) -/
theorem fn_mk0 {x qual : Str} {params : Arguments} {body : List Stmt} {scope : Scope} {dvs : List V} {kws : List (Str × V)} {f : Addr} {fd : FuncData} {N ps : List Str} {k : Nat} {sp : Sp} (F : FunD K x qual params body scope dvs kws f fd) (S : FnScope N ps scope) (len : ∀ vs H Q E, sp vs H Q E → vs.length = ps.length)
    (hb : ∀ (cd : Value) (A : Around) (outer : List Env) (s : Shared) (H : Hp) (vs : List V) (Q : VK) (E : XK), Room k (cxOf CX0 P w K mg base N qual scope f cd A outer s H E).A → sp vs H Q E →
      wB (cxOf CX0 P w K mg base N qual scope f cd A outer s H E) body { nx := fun _ H' => Q .non H', rt := Q } (start N vs) H) : FnOk P w K mg base CX0 (k + 1) f fd ps sp :=
  F.ok S len fun cd A outer s H vs Q E hr h => ⟨_, sB, hb cd A outer s H vs Q E hr h⟩
theorem gf_mk {x : Str} {params : Arguments} {body : List Stmt} {scope : Scope} {f : Addr} {ps : List Str} {k : Nat} {sp : Sp} (hF : ∃ fd, FunD K x x params body scope [] [] f fd) (hm : mg x = some (.ref f))
    (hbind : ∀ (kV doc pm : Value) (an : Option Addr) (cdv ct : Value) (us : List Value), us.length = ps.length → bindArgs (PySem.W.fnOf x x params body scope .none kV doc pm an cdv ct) ⟨us, []⟩ = pure (ps.zip us))
    (ok : ∀ fd, FunD K x x params body scope [] [] f fd → FnOk P w K mg base (L2N.CX P w) k f fd ps sp) : Gf P w K mg base k x [] sp := by
  obtain ⟨fd, F⟩ := hF
  exact ⟨f, fd, ps, [], hm, F.kp, F.bindsN hbind, .nil, ok fd F⟩
theorem ge_mk {x : Str} {params : Arguments} {body : List Stmt} {scope : Scope} {f : Addr} {ps : List Str} {k : Nat} {sp : SpE} (hF : ∃ fd, FunD K x x params body scope [] [] f fd) (hm : mg x = some (.ref f))
    (hbind : ∀ (kV doc pm : Value) (an : Option Addr) (cdv ct : Value) (us : List Value), us.length = ps.length → bindArgs (PySem.W.fnOf x x params body scope .none kV doc pm an cdv ct) ⟨us, []⟩ = pure (ps.zip us))
    (ok : ∀ fd, FunD K x x params body scope [] [] f fd → FnE P w K mg base k f fd ps sp) : Ge P w K mg base k x sp := by
  obtain ⟨fd, F⟩ := hF
  exact ⟨f, fd, ps, hm, F.kp, F.bindsN hbind, ok fd F⟩
end
/-! ### an exception of an own class with fields -/
/-- __init__(self, a): self.f = a -/
def spI1 (C : Addr) (f : Str) : Sp := fun vs H Q _ => ∃ (a : Addr) (y : V), vs = [.ref a, y] ∧ H a = some (exo a C none) ∧ ∀ dx, H dx = none → dx ≠ a → Q .non (upd (upd H dx (exd dx [(f, y)])) a (exo a C (some dx)))
/-- __init__(self, a, b): self.f = a; self.g = b -/
def spI2 (C : Addr) (f g : Str) : Sp := fun vs H Q _ => ∃ (a : Addr) (y z : V), vs = [.ref a, y, z] ∧ H a = some (exo a C none) ∧ ∀ dx, H dx = none → dx ≠ a → Q .non (upd (upd (upd H dx (exd dx [(f, y)])) a (exo a C (some dx))) dx (exd dx [(g, z), (f, y)]))
section
variable {X : Cx} {σ : St} {H : Hp} {e : Expr} {es : List Expr} {p pos : Pos}
theorem Xd.ex {H1 H2 : Hp} {a d : Addr} {fs : List (Str × V)} {o1 : HO} (ha : H1 a = none) (hd : H1 d = none) (k : ∀ b, b ≠ a → b ≠ d → H2 b = H1 b) : Ex H1 (upd (del H2 a) d (.xd fs)) := fun b o e => by
  have n1 : b ≠ a := fun z => by rw [z, ha] at e; cases e
  have n2 : b ≠ d := fun z => by rw [z, hd] at e; cases e
  rw [upd_ne n2, del_ne n1, k b n1 n2]; exact e
theorem moex1 {x f : Str} {C fI : Addr} {k j : Nat} {fd : FuncData} {ps : List Str} {Q : XK} (T : OxC X.K C fI) (F1 : FnOk X.prog X.w X.K X.mg X.base CX0 k fI fd ps (spI1 C f)) (hb : Binds X.K fd ps []) (hm : X.mg x = some (.ref C)) (hr : Room j X.A) (hk : k + 1 ≤ j) (hg : Gl X x)
    (h : wA X (e :: es) σ H fun vs H1 => ∃ y, vs = [y] ∧ ∀ d H', H1 d = none → Ex H1 H' → H' d = some (.xd [(f, y)]) → Q (.ref C) (some d) H')
    (hdb : (x == ("__debug__" : Str)) = false := by decide) (he : starEach (e :: es) X.env = (false, eval e X.env) :: starEach es X.env := by rfl) (hpl : (backTo pos (starEach es X.env)).any (·.1) = false := by rfl) : wM X (.Call (.Name x p) (e :: es) [] pos) σ H Q := by
  refine moex T.o T.i T.t F1 hb hr hk hg hm ?_ hdb he hpl
  refine ⟨fun ps' pins s I => thn (h.run ps' pins s I) fun us s' ⟨vs, H1, J, r, y, ev, q⟩ => ⟨vs, H1, J, r, by rw [ev]; simp, fun a ha => ?_⟩⟩
  subst ev
  refine ⟨a, y, rfl, upd_same, fun dx hd hda => ⟨rfl, dx, [(f, y)], upd_same, by rw [upd_ne hda, upd_same], ?_, ?_⟩⟩
  · rw [upd_ne hda] at hd; exact hd
  · rw [upd_ne hda] at hd
    refine q dx _ hd (Xd.ex (o1 := .lst []) ha hd fun b n1 n2 => ?_) upd_same
    rw [upd_ne n1, upd_ne n2, upd_ne n1]
theorem moex2 {x f g : Str} {C fI : Addr} {k j : Nat} {fd : FuncData} {ps : List Str} {Q : XK} (T : OxC X.K C fI) (F1 : FnOk X.prog X.w X.K X.mg X.base CX0 k fI fd ps (spI2 C f g)) (hb : Binds X.K fd ps []) (hm : X.mg x = some (.ref C)) (hr : Room j X.A) (hk : k + 1 ≤ j) (hg : Gl X x)
    (h : wA X (e :: es) σ H fun vs H1 => ∃ y z, vs = [y, z] ∧ ∀ d H', H1 d = none → Ex H1 H' → H' d = some (.xd [(g, z), (f, y)]) → Q (.ref C) (some d) H')
    (hdb : (x == ("__debug__" : Str)) = false := by decide) (he : starEach (e :: es) X.env = (false, eval e X.env) :: starEach es X.env := by rfl) (hpl : (backTo pos (starEach es X.env)).any (·.1) = false := by rfl) : wM X (.Call (.Name x p) (e :: es) [] pos) σ H Q := by
  refine moex T.o T.i T.t F1 hb hr hk hg hm ?_ hdb he hpl
  refine ⟨fun ps' pins s I => thn (h.run ps' pins s I) fun us s' ⟨vs, H1, J, r, y, z, ev, q⟩ => ⟨vs, H1, J, r, by rw [ev]; simp, fun a ha => ?_⟩⟩
  subst ev
  refine ⟨a, y, z, rfl, upd_same, fun dx hd hda => ⟨rfl, dx, [(g, z), (f, y)], by rw [upd_ne (Ne.symm hda), upd_same], upd_same, ?_, ?_⟩⟩
  · rw [upd_ne hda] at hd; exact hd
  · rw [upd_ne hda] at hd
    refine q dx _ hd (Xd.ex (o1 := .lst []) ha hd fun b n1 n2 => ?_) upd_same
    rw [upd_ne n2, upd_ne n1, upd_ne n2, upd_ne n1]
end
end Z

set_option maxRecDepth 100000
set_option maxHeartbeats 4000000
namespace Z
open PySem PySem.Spec PyProof.Rows L2
open Evl (Ex)
theorem ifd {p : Prop} [Decidable p] {A B : Prop} (h1 : p → A) (h2 : ¬ p → B) : if decide p = true then A else B := by
  by_cases h : p
  · rw [if_pos (decide_eq_true h)]; exact h1 h
  · rw [if_neg (by rw [decide_eq_false h]; exact Bool.false_ne_true)]; exact h2 h
theorem ifnd {p : Prop} [Decidable p] {A B : Prop} (h1 : ¬ p → A) (h2 : p → B) : if (!decide p) = true then A else B := by
  by_cases h : p
  · rw [if_neg (by rw [decide_eq_true h]; exact Bool.false_ne_true)]; exact h2 h
  · rw [if_pos (by rw [decide_eq_false h]; rfl)]; exact h1 h
theorem ifb {k : Bool} {A B : Prop} (h1 : k = true → A) (h2 : k = false → B) : if k = true then A else B := by
  cases k with
  | true => rw [if_pos rfl]; exact h1 rfl
  | false => rw [if_neg Bool.false_ne_true]; exact h2 rfl
theorem ifT {A B : Prop} (h : A) : if true = true then A else B := by rw [if_pos rfl]; exact h
theorem ifF {A B : Prop} (h : B) : if false = true then A else B := by rw [if_neg Bool.false_ne_true]; exact h
section
variable {X : Cx} {σ : St} {H : Hp} {e : Expr} {Q : VK}
/-- a test whose answer is told ahead -/
theorem tcut {Q : Bool → Hp → Prop} (k : Bool) (h : wT X e σ H fun k' H' => k' = k ∧ H' = H) (q : Q k H) : wT X e σ H Q := h.imp fun v H' ⟨a, b⟩ => by rw [a, b]; exact q
theorem ecut (v : V) (h : wE X e σ H fun v' H' => v' = v ∧ H' = H) (q : Q v H) : wE X e σ H Q := h.imp fun v' H' ⟨a, b⟩ => by rw [a, b]; exact q
end
/-! ### built-ins by name -/
theorem bt_len : bootBuiltins "len" = some (.builtin "len") := by decide +kernel
theorem bt_isi : bootBuiltins "isinstance" = some (.builtin "isinstance") := by decide +kernel
theorem bt_min : bootBuiltins "min" = some (.builtin "min") := by decide +kernel
theorem bt_max : bootBuiltins "max" = some (.builtin "max") := by decide +kernel
theorem bt_abs : bootBuiltins "abs" = some (.builtin "abs") := by decide +kernel
theorem bt_all : bootBuiltins "all" = some (.builtin "all") := by decide +kernel
theorem bt_sum : bootBuiltins "sum" = some (.builtin "sum") := by decide +kernel
theorem bt_ord : bootBuiltins "ord" = some (.builtin "ord") := by decide +kernel
theorem bt_divmod : bootBuiltins "divmod" = some (.builtin "divmod") := by decide +kernel
theorem bt_sorted : bootBuiltins "sorted" = some (.builtin "sorted") := by decide +kernel
theorem bt_list : bootBuiltins "list" = some (.type "list") := by decide +kernel
theorem bt_tuple : bootBuiltins "tuple" = some (.type "tuple") := by decide +kernel
theorem bt_int : bootBuiltins "int" = some (.type "int") := by decide +kernel
theorem bt_bool : bootBuiltins "bool" = some (.type "bool") := by decide +kernel
theorem bt_str : bootBuiltins "str" = some (.type "str") := by decide +kernel
theorem bt_dict : bootBuiltins "dict" = some (.type "dict") := by decide +kernel
theorem bt_ValueError : bootBuiltins "ValueError" = some (.type "ValueError") := by decide +kernel
/-! ### heaps -/
theorem exl {K : PySem.W.Frag} {H H' : Hp} {a : Addr} {xs : List V} (h : SqL K H a xs) (e : Ex H H') : SqL K H' a xs := Evl.ex_l e h
theorem ext {K : PySem.W.Frag} {H H' : Hp} {a : Addr} {xs : List V} (h : SqT K H a xs) (e : Ex H H') : SqT K H' a xs := Evl.ex_t e h
theorem exa {H H' : Hp} {a : Addr} {o : HO} (h : H a = some o) (e : Ex H H') : H' a = some o := e a o h
theorem Ex.lst {H H' : Hp} (e : Ex H H') {a : Addr} {o : HO} (h : H a = some o) : H' a = some o := e a o h
theorem Ex.sq {K : PySem.W.Frag} {H H' : Hp} (e : Ex H H') {a : Addr} {xs : List V} (h : SqL K H a xs ∨ SqT K H a xs) : SqL K H' a xs ∨ SqT K H' a xs := h.elim (fun h => .inl (Evl.ex_l e h)) fun h => .inr (Evl.ex_t e h)
mutual
theorem Dp.ex {K : PySem.W.Frag} {H H' : Hp} (e : Ex H H') : ∀ {v : V} {d : PyData}, Dp K H v d → Dp K H' v d
  | _, _, .non => .non
  | _, _, .bl b => .bl b
  | _, _, .int i => .int i
  | _, _, .str x => .str x
  | _, _, .lst h a => .lst (Evl.ex_l e h) (DpAll.ex e a)
  | _, _, .tup h a => .tup (Evl.ex_t e h) (DpAll.ex e a)
theorem DpAll.ex {K : PySem.W.Frag} {H H' : Hp} (e : Ex H H') : ∀ {vs : List V} {ds : List PyData}, DpAll K H vs ds → DpAll K H' vs ds
  | _, _, .nil => .nil
  | _, _, .cons a b => .cons (Dp.ex e a) (DpAll.ex e b)
end
theorem DpAll.ints {K : PySem.W.Frag} {H : Hp} : ∀ ns : List Int, DpAll K H (ns.map V.int) (ns.map PyData.int)
  | [] => .nil
  | _ :: ns => .cons (.int _) (DpAll.ints ns)
theorem Dp.ints {K : PySem.W.Frag} {H : Hp} {a : Addr} {ns : List Int} (h : SqL K H a (ns.map V.int)) : Dp K H (.ref a) (.list (ns.map PyData.int)) := .lst h (DpAll.ints ns)
section
variable {X : Cx} {σ : St} {H : Hp} {e : Expr} {Q : VK} {D : Ends} {pos pos' : Pos}
/-- a class of the module as a value -/
theorem zcls {x : Str} {C : Addr} (hm : X.mg x = some (.ref C)) (hg : Gl X x) (h : Q (.ref C) H) (hd : (x == ("__debug__" : Str)) = false := by decide) : wE X (.Name x pos) σ H Q := ofE (pe_glob (v := .ref C) hg hm rfl hd) h
theorem zty {x : Str} {T : String} (hm : X.mg x = none) (hv : bootBuiltins x = some (.type T)) (hg : Gl X x) (h : Q (.ty T) H) (hn : x ≠ "__name__" := by decide) (hd : (x == ("__debug__" : Str)) = false := by decide) : wE X (.Name x pos) σ H Q := ofE (pe_bltn (v := .ty T) hg hm hv rfl hn hd) h
/-- name = e, the slot reckoned -/
theorem sset' {x : Str} (hN : X.N.Nodup) (hi : X.N[slotOf X.N x]? = some x) (hx : Loc X.env.scope x) (hs : swapsWith e (some (.Name x pos')) pos.line X.env = pure false) (hf : X.fn x = true ∨ X.env.scope.names.lookup x = some .local) (h : wE X e σ H fun v H1 => D.nx (σ.set (slotOf X.N x) (some v)) H1) : wS X (.Assign [.Name x pos'] e pos) D σ H :=
  sset (slotOf X.N x) hN h hi hx hs hf
theorem saug' {x : Str} {op : Operator} {v : V} (hN : X.N.Nodup) (hi : X.N[slotOf X.N x]? = some x) (hx : Loc X.env.scope x) (hf : X.fn x = true ∨ X.env.scope.names.lookup x = some .local) (hv : σ[slotOf X.N x]? = some (some v)) (h : wE X e σ H fun y H1 => wO X (inplaceOp op) v y H1 fun z H2 => D.nx (σ.set (slotOf X.N x) (some z)) H2) : wS X (.AugAssign (.Name x pos') op e pos) D σ H :=
  saug (slotOf X.N x) hN hv h hi hx hf
theorem gname' {x : Str} {v : V} {Q : St → Hp → Prop} (hN : X.N.Nodup) (hi : X.N[slotOf X.N x]? = some x) (hx : Loc X.env.scope x) (hf : X.fn x = true ∨ X.env.scope.names.lookup x = some .local) (h : Q (σ.set (slotOf X.N x) (some v)) H) : wG X (.Name x pos) v σ H Q := gname (slotOf X.N x) hN h hi hx hf
end
theorem Xd.exx {H H' : Hp} {dd : Option Addr} (h : Xd dd H) (e : Ex H H') : Xd dd H' := fun d q => by obtain ⟨fs, hf⟩ := h d q; exact ⟨fs, e d _ hf⟩
/-- tuples of a word and a truth each -/
inductive TupsAt (H : Hp) : List V → List (Str × Bool) → Prop
  | nil : TupsAt H [] []
  | cons {t : Addr} {w : Str} {b : Bool} {xs : List V} {ps : List (Str × Bool)} : H t = some (.tup [.str w, .bl b]) → TupsAt H xs ps → TupsAt H (.ref t :: xs) ((w, b) :: ps)
theorem TupsAt.length {H : Hp} : ∀ {xs : List V} {ps : List (Str × Bool)}, TupsAt H xs ps → xs.length = ps.length
  | _, _, .nil => rfl
  | _, _, .cons _ t => by rw [List.length_cons, List.length_cons, t.length]
theorem TupsAt.get {H : Hp} : ∀ {xs : List V} {ps : List (Str × Bool)} {i : Nat} {x : V}, TupsAt H xs ps → xs[i]? = some x → ∃ t p, x = .ref t ∧ ps[i]? = some p ∧ H t = some (.tup [.str p.1, .bl p.2])
  | _, _, _, _, .nil, h => by simp at h
  | _, _, 0, _, .cons r _, h => by simp at h; exact ⟨_, _, h.symm, rfl, r⟩
  | _, _, i + 1, _, .cons _ t, h => by obtain ⟨a, p, e1, e2, e3⟩ := t.get (i := i) (by simpa using h); exact ⟨a, p, e1, by simpa using e2, e3⟩
/-- the words whose truth is so -/
def kept (ps : List (Str × Bool)) : List V := (ps.filter (·.2)).map fun p => V.str p.1
theorem kept_succ {ps : List (Str × Bool)} {i : Nat} {p : Str × Bool} (h : ps[i]? = some p) : kept (ps.take (i + 1)) = kept (ps.take i) ++ (if p.2 = true then [V.str p.1] else []) := by
  obtain ⟨hl, rfl⟩ := List.getElem?_eq_some_iff.mp h
  rw [List.take_add_one, List.getElem?_eq_getElem hl]
  unfold kept
  rw [List.filter_append, List.map_append]
  cases e : (ps[i]).2 with
  | true => simp [e]
  | false => simp [e]
/-! ### the end of a law row: its promise, the bits of its script told -/
theorem walk_bits {l : PySem.W.OpenLaw} {n k : Nat} {q : Program} {loose : List Str} {XP : (Str → Option Value) → Heap → Prop} {YP : World → Heap → Prop} {d : DefRec} {x : Str} (hn : l.most = some n) (hn2 : n ≤ sizeLine) (hdf : d.params.defaults = []) (hr : Room k callerA)
    (F : ∀ (w : World) (mg : Str → Option Value) (fa : Addr) (h : Heap), YP w h → h.Ns mainGlobals mg → mg d.name = some (.ref fa) →
      ∃ (K : PySem.W.Frag) (fd : FuncData) (sp : Sp), K.In h ∧ (∀ (s : Shared) (u : Value), BindsTo s fd ⟨[u], []⟩ [(x, u)]) ∧
        (∀ (H : Hp) (a : Addr) (ns : List Int), ns.length ≤ n → (∀ z ∈ ns, Builtin.Int.intBits z ≤ 1048576) → Only H → SqL K H a (ns.map V.int) → sp [.ref a] H (fun v _ => v = .bl true) fun _ _ _ => False) ∧
        ∀ base : Heap, K.In base → base.Ns mainGlobals mg → FnOk l.prog w K mg base (L2N.CX l.prog w) k fa fd [x] sp) : PySem.W.WalkO q loose XP YP l.row.toRowW d [] (fun f vs => PySem.call f vs) := by
  refine Att.attach_callB hn hdf fun w s₀ s₁ mg mb fa o pm cd doc a vs ns G Y ho hd hcd hmg hobj hints hlen hbits hg => ?_
  obtain ⟨K, fd, sp, KX, hb, hsp, hF⟩ := F w mg fa _ Y G.T.g hmg
  refine law_call KX G.T.g G.T.b G.T.builtins G.T.nolimit hg hobj hints (Nat.le_trans hlen hn2) hr hF hb (fun H hO hS => hsp H a ns hlen hbits hO hS) fun H e s' hc => ?_
  obtain ⟨_, _, _, _, _, _, _, _, _, _, _, _, z⟩ := hc
  exact z
end Z

set_option maxRecDepth 100000
set_option maxHeartbeats 4000000
namespace Z
open PySem PySem.Spec PyProof.Rows L2
open Evl (Ex)
/-- a statement, then the rest, from what the statement leaves -/
theorem bcut {X : Cx} {st : Stmt} {sts : List Stmt} {D : Ends} {σ : St} {H : Hp} (R : St → Hp → Prop) (h : wS X st { D with nx := R } σ H) (q : ∀ σ' H', R σ' H' → wB X sts D σ' H') : wB X (st :: sts) D σ H :=
  bcons (h.imp q (fun _ _ z => z) (fun _ _ z => z) fun _ _ z => z)
theorem takesF {X : Cx} : L2N.Takes X (fun _ _ _ _ => False) := fun _ _ ⟨_, _, _, _, _, _, _, _, _, _, _, _, _, _, _, _, z⟩ => z.elim
/-! ### comprehensions -/
theorem wipe_get {σ : St} {k : Nat} : ∀ {vs : List Nat}, (wipe σ vs)[k]? = if k ∈ vs then (σ[k]?).map (fun _ => none) else σ[k]?
  | [] => by simp [wipe]
  | v :: vs => by
    unfold wipe
    rw [List.getElem?_set]
    by_cases e : v = k
    · subst e
      simp only [if_true, List.mem_cons, true_or, wipe_length]
      by_cases hl : v < σ.length
      · rw [if_pos hl, List.getElem?_eq_getElem hl]; rfl
      · rw [if_neg hl, List.getElem?_eq_none (by omega)]; rfl
    · rw [if_neg e, wipe_get]
      simp only [List.mem_cons, show ¬ k = v from fun z => e z.symm, false_or]
theorem wipe_set {σ : St} {i : Nat} {x : Option V} {vs : List Nat} (hi : i ∈ vs) : wipe ((wipe σ vs).set i x) vs = wipe σ vs := by
  refine List.ext_getElem? fun k => ?_
  rw [wipe_get]
  by_cases hk : k ∈ vs
  · rw [if_pos hk, List.getElem?_set]
    by_cases e : i = k
    · subst e
      rw [if_pos rfl, wipe_length, wipe_get, if_pos hk]
      by_cases hl : i < σ.length
      · rw [if_pos hl, List.getElem?_eq_getElem hl]; rfl
      · rw [if_neg hl, List.getElem?_eq_none (by omega)]
    · rw [if_neg e, wipe_get, if_pos hk]
      cases σ[k]? <;> rfl
  · rw [if_neg hk, List.getElem?_set, if_neg (fun e => hk (by rw [← e]; exact hi)), wipe_get, if_neg hk]
/-- tests of a clause -/
structure wTs (X : Cx) (ifs : List Expr) (σ : St) (H : Hp) (Q : Bool → Hp → Prop) : Prop where
  run : ∃ t : TT, PTs X ifs t ∧ t σ H Q
theorem sTs {X : Cx} {ifs : List Expr} : PTs X ifs (wTs X ifs) := ⟨fun pins s σ H Q I ⟨t, h, q⟩ => h.run pins s σ H Q I q⟩
section
variable {X : Cx} {σ : St} {H : Hp} {c : Expr} {Q : Bool → Hp → Prop}
theorem tsnil (h : Q true H) : wTs X [] σ H Q := ⟨_, pts_nil, h⟩
theorem tsone (h : wT X c σ H Q) : wTs X [c] σ H Q := ⟨_, pts_one sT, h⟩
end
/-- pieces of a block, in whatever block it is -/
structure bG (X : Cx) (scope : Scope) (tg : Expr) (v : V) (σ : St) (H : Hp) (Q : St → Hp → Prop) : Prop where
  run : ∀ (s : Shared) (H0 : Hp) (C : Addr) (cl : List (Str × Addr)) (fp : List Addr), wG (X.blk s H0 scope (compEnvC scope cl C X.env) fp) tg v σ H Q
structure bTs (X : Cx) (scope : Scope) (ifs : List Expr) (σ : St) (H : Hp) (Q : Bool → Hp → Prop) : Prop where
  run : ∀ (s : Shared) (H0 : Hp) (C : Addr) (cl : List (Str × Addr)) (fp : List Addr), wTs (X.blk s H0 scope (compEnvC scope cl C X.env) fp) ifs σ H Q
structure bE (X : Cx) (scope : Scope) (e : Expr) (σ : St) (H : Hp) (Q : VK) : Prop where
  run : ∀ (s : Shared) (H0 : Hp) (C : Addr) (cl : List (Str × Addr)) (fp : List Addr), wE (X.blk s H0 scope (compEnvC scope cl C X.env) fp) e σ H Q
structure hG (X : Cx) (scope : Scope) (tg : Expr) (v : V) (σ : St) (H : Hp) (Q : St → Hp → Prop) : Prop where
  run : ∀ (s : Shared) (H0 : Hp) (C : Addr) (cl : List (Str × Addr)) (fp : List Addr), wG (blkH X s H0 scope (compEnvC scope cl C X.env) fp) tg v σ H Q
structure hTs (X : Cx) (scope : Scope) (ifs : List Expr) (σ : St) (H : Hp) (Q : Bool → Hp → Prop) : Prop where
  run : ∀ (s : Shared) (H0 : Hp) (C : Addr) (cl : List (Str × Addr)) (fp : List Addr), wTs (blkH X s H0 scope (compEnvC scope cl C X.env) fp) ifs σ H Q
structure hE (X : Cx) (scope : Scope) (e : Expr) (σ : St) (H : Hp) (Q : VK) : Prop where
  run : ∀ (s : Shared) (H0 : Hp) (C : Addr) (cl : List (Str × Addr)) (fp : List Addr), wE (blkH X s H0 scope (compEnvC scope cl C X.env) fp) e σ H Q
section
variable {X : Cx} {σ : St} {H : Hp} {elt tg l a b : Expr} {ifs : List Expr} {scope : Scope} {own : List (Str × Nat)} {pos pos' spos p : Pos} {Q : VK} {wi : TI} {D : Ends}
theorem zlc (hc : X.calm = true) (hN : X.N.Nodup) (own : List (Str × Nat)) (ok : BlkOk X.N X.env.scope scope own) (hi : PI X tg l wi)
    (h : tLc wi (bG X scope tg) (bTs X scope ifs) (bE X scope elt) (own.map (·.2)) σ H Q) (hs : ∀ x, foldedSetIterable l X.env x = pure x := by intro _; rfl) : wE X (.ListComp elt [⟨tg, l, ifs, 0⟩] scope pos) σ H Q :=
  ofE (pe_lc hc hN hi ok (fun s H C cl fp => ⟨fun pins s' σ H' v u Q I r h => (h.run s H C cl fp).run pins s' u I r⟩) (fun s H C cl fp => ⟨fun pins s' σ H' Q I h => sTs.run pins s' σ H' Q I (h.run s H C cl fp)⟩) (fun s H C cl fp => ⟨fun pins s' σ H' Q I h => (h.run s H C cl fp).run pins s' I⟩) hs) h
theorem slc {i : Nat} {y : Str} {py : Pos} (hc : X.calm = true) (hN : X.N.Nodup) (hy : X.N[i]? = some y) (hyl : X.env.scope.names.lookup y = some .local) (own : List (Str × Nat)) (ok : BlkOk X.N X.env.scope scope own) (hi : PI X tg l wi)
    (hsw : swapsWith (.ListComp elt [⟨tg, l, ifs, 0⟩] scope pos) (some (.Name y py)) spos.line X.env = pure true)
    (h : tLc wi (bG X scope tg) (bTs X scope ifs) (bE X scope elt) (own.map (·.2)) σ H (fun x H1 => D.nx (σ.set i (some x)) H1)) (hs : ∀ x, foldedSetIterable l X.env x = pure x := by intro _; rfl) : wS X (.Assign [.Name y py] (.ListComp elt [⟨tg, l, ifs, 0⟩] scope pos) spos) D σ H :=
  ofS (ps_setLc hc hN hy hyl hsw hi ok (fun s H C cl fp => ⟨fun pins s' σ H' v u Q I r h => (h.run s H C cl fp).run pins s' u I r⟩) (fun s H C cl fp => ⟨fun pins s' σ H' Q I h => sTs.run pins s' σ H' Q I (h.run s H C cl fp)⟩) (fun s H C cl fp => ⟨fun pins s' σ H' Q I h => (h.run s H C cl fp).run pins s' I⟩) hs) h
/-- the last clause of a comprehension's turn: L the new list, Nx what the turn is to reach -/
abbrev turnB (X : Cx) (scope : Scope) (tg : Expr) (ifs : List Expr) (elt : Expr) (vs : List Nat) (L : Addr) (x : V) (σ : St) (H : Hp) (Nx : Hp → Prop) : Prop :=
  bG X scope tg x (wipe σ vs) H fun σ2 H2 => wipe σ2 vs = wipe σ vs ∧ bTs X scope ifs σ2 H2 fun b H3 => if b = true then bE X scope elt σ2 H3 fun y H4 => ∃ acc, H4 L = some (.lst acc) ∧ acc.length < sizeLine ∧ Nx (upd H4 L (.lst (acc ++ [y]))) else Nx H3
theorem piR1 (hm : X.mg "range" = none) (hg : Gl X "range") (hsa : starEach [a] X.env = [(false, eval a X.env)] := by rfl) : PI X tg (.Call (.Name "range" p) [a] [] pos) (iRng1 (wA X [a])) := pi_range1 hg hm sA hsa
theorem piR2 (hm : X.mg "range" = none) (hg : Gl X "range") (hsa : starEach [a, b] X.env = [(false, eval a X.env), (false, eval b X.env)] := by rfl) (hsb : starEach [b] X.env = [(false, eval b X.env)] := by rfl) : PI X tg (.Call (.Name "range" p) [a, b] [] pos) (iRng2 (wA X [a, b])) := pi_range2 hg hm sA hsa hsb
theorem piL : PI X tg l (iList X.K (wE X l)) := pi_list sE
theorem piT : PI X tg l (iTup X.K (wE X l)) := pi_tup sE
theorem tlR1 {n : Int} {vs : List Nat} (Pv : Addr → Nat → Hp → Prop)
    (h : wA X [a] σ H fun x H1 => x = [.int n] ∧ n < 2 ^ 62 ∧ -(2 ^ 62) ≤ n ∧ ∀ L, H1 L = none → Pv L 0 (upd H1 L (.lst [])) ∧ (∀ (j : Nat) H', (j : Int) < n → Pv L j H' → turnB X scope tg ifs elt vs L (.int (j : Int)) σ H' (Pv L (j + 1))) ∧ ∀ H', Pv L n.toNat H' → Q (.ref L) H') :
    tLc (iRng1 (wA X [a])) (bG X scope tg) (bTs X scope ifs) (bE X scope elt) vs σ H Q :=
  ⟨fun ps pins s I => thn (h.run ps pins s I) fun us s' ⟨x, H1, J, r, e, h1, h2, q⟩ => ⟨x, H1, J, r, n, e, h2, h1, fun L hL => by
    obtain ⟨q1, q2, q3⟩ := q L hL
    exact lc_range (Pv L) q1 (fun i H' hi hP => by rw [Int.zero_add]; exact q2 i H' (by omega) hP) q3⟩⟩
theorem tlR2 {m n : Int} {vs : List Nat} (Pv : Addr → Nat → Hp → Prop)
    (h : wA X [a, b] σ H fun x H1 => x = [.int m, .int n] ∧ (-(2 ^ 62) ≤ m ∧ m < 2 ^ 62 ∧ -(2 ^ 62) ≤ n ∧ n < 2 ^ 62) ∧ ∀ L, H1 L = none → Pv L 0 (upd H1 L (.lst [])) ∧ (∀ (j : Nat) H', m + (j : Int) < n → Pv L j H' → turnB X scope tg ifs elt vs L (.int (m + (j : Int))) σ H' (Pv L (j + 1))) ∧ ∀ H', Pv L (n - m).toNat H' → Q (.ref L) H') :
    tLc (iRng2 (wA X [a, b])) (bG X scope tg) (bTs X scope ifs) (bE X scope elt) vs σ H Q :=
  ⟨fun ps pins s I => thn (h.run ps pins s I) fun us s' ⟨x, H1, J, r, e, h1, q⟩ => ⟨x, H1, J, r, m, n, e, h1, fun L hL => by
    obtain ⟨q1, q2, q3⟩ := q L hL
    exact lc_range (Pv L) q1 (fun i H' hi hP => q2 i H' (by omega) hP) q3⟩⟩
theorem tlL {xs : List V} {vs : List Nat} (Pv : Addr → Nat → Hp → Prop)
    (h : wE X l σ H fun x H1 => ∃ r, x = .ref r ∧ SqL X.K H1 r xs ∧ ∀ L, H1 L = none → Pv L 0 (upd H1 L (.lst [])) ∧ (∀ j H', j ≤ xs.length → Pv L j H' → SqL X.K H' r xs) ∧ (∀ j x H', xs[j]? = some x → Pv L j H' → turnB X scope tg ifs elt vs L x σ H' (Pv L (j + 1))) ∧ ∀ H', Pv L xs.length H' → Q (.ref L) H') :
    tLc (iList X.K (wE X l)) (bG X scope tg) (bTs X scope ifs) (bE X scope elt) vs σ H Q :=
  ⟨fun pins s I => thn (h.run pins s I) fun u s1 ⟨x, H1, I1, r, a, ex, hq, k⟩ => ⟨x, H1, I1, r, a, ex, ⟨xs, hq⟩, fun L hL => by
    obtain ⟨k0, k1, k2, k3⟩ := k L hL
    exact lc_list (Pv L) k0 k1 k2 k3⟩⟩
theorem tlT {xs : List V} {vs : List Nat} (Pv : Addr → Nat → Hp → Prop)
    (h : wE X l σ H fun x H1 => ∃ r, x = .ref r ∧ SqT X.K H1 r xs ∧ ∀ L, H1 L = none → Pv L 0 (upd H1 L (.lst [])) ∧ (∀ j H', j ≤ xs.length → Pv L j H' → SqT X.K H' r xs) ∧ (∀ j x H', xs[j]? = some x → Pv L j H' → turnB X scope tg ifs elt vs L x σ H' (Pv L (j + 1))) ∧ ∀ H', Pv L xs.length H' → Q (.ref L) H') :
    tLc (iTup X.K (wE X l)) (bG X scope tg) (bTs X scope ifs) (bE X scope elt) vs σ H Q :=
  ⟨fun pins s I => thn (h.run pins s I) fun u s1 ⟨x, H1, I1, r, a, ex, hq, k⟩ => ⟨x, H1, I1, r, a, ex, ⟨xs, hq⟩, fun L hL => by
    obtain ⟨k0, k1, k2, k3⟩ := k L hL
    exact lc_tup (Pv L) k0 k1 k2 k3⟩⟩
/-- what a turn must show where the list is told ahead: acc j after j turns -/
abbrev turnA (X : Cx) (scope : Scope) (tg : Expr) (ifs : List Expr) (elt : Expr) (vs : List Nat) (acc : Nat → List V) (j : Nat) (x : V) (σ : St) (H : Hp) : Prop :=
  bG X scope tg x (wipe σ vs) H fun σ2 H2 => wipe σ2 vs = wipe σ vs ∧ Ex H H2 ∧ bTs X scope ifs σ2 H2 fun b H3 => if b = true then bE X scope elt σ2 H3 fun y H4 => acc (j + 1) = acc j ++ [y] ∧ (acc j).length < sizeLine ∧ Ex H H4 else acc (j + 1) = acc j ∧ Ex H H3
theorem bG.imp {v : V} {Q Q' : St → Hp → Prop} (h : bG X scope tg v σ H Q) (q : ∀ σ' H', Q σ' H' → Q' σ' H') : bG X scope tg v σ H Q' :=
  ⟨fun s H0 C cl fp => ⟨fun pins s' u I r => thn ((h.run s H0 C cl fp).run pins s' u I r) fun _ s'' ⟨σ', H', J, z⟩ => ⟨σ', H', J, q _ _ z⟩⟩⟩
theorem bE.imp {Q Q' : VK} (h : bE X scope elt σ H Q) (q : ∀ σ' H', Q σ' H' → Q' σ' H') : bE X scope elt σ H Q' := ⟨fun s H0 C cl fp => (h.run s H0 C cl fp).imp q⟩
theorem bTs.imp {Q Q' : Bool → Hp → Prop} (h : bTs X scope ifs σ H Q) (q : ∀ σ' H', Q σ' H' → Q' σ' H') : bTs X scope ifs σ H Q' :=
  ⟨fun s H0 C cl fp => ⟨_, ⟨fun pins s' σ0 H1 R I (h2 : ∃ (_ : σ0 = σ) (_ : H1 = H), ∀ a b, Q' a b → R a b) => by
    obtain ⟨rfl, rfl, h2⟩ := h2
    exact thn (sTs.run pins s' _ _ Q I (h.run s H0 C cl fp)) fun u s'' ⟨H', J, z⟩ => ⟨H', J, h2 _ _ (q _ _ z)⟩⟩, rfl, rfl, fun _ _ z => z⟩⟩
theorem turn_of {acc : Nat → List V} {j : Nat} {x : V} {vs : List Nat} {L : Addr} {H1 : Hp} (hL : H1 L = none) (hd : Ex H1 H) (hacc : H L = some (.lst (acc j))) (h : turnA X scope tg ifs elt vs acc j x σ H) :
    turnB X scope tg ifs elt vs L x σ H fun H' => Ex H1 H' ∧ H' L = some (.lst (acc (j + 1))) := by
  refine bG.imp h fun σ2 H2 ⟨w, e2, q⟩ => ⟨w, q.imp fun b H3 q3 => ?_⟩
  cases b with
  | false =>
    rw [if_neg Bool.false_ne_true] at q3 ⊢
    exact ⟨hd.trans q3.2, by rw [q3.1]; exact q3.2 _ _ hacc⟩
  | true =>
    rw [if_pos rfl] at q3 ⊢
    refine q3.imp fun y H4 ⟨ea, hs, e4⟩ => ⟨acc j, e4 _ _ hacc, hs, fun b o e => ?_, by rw [ea]; exact upd_same⟩
    have n : b ≠ L := fun z => by rw [z, hL] at e; cases e
    rw [upd_ne n]
    exact e4 _ _ (hd _ _ e)
theorem tmR1 {n : Int} {vs : List Nat} (acc : Nat → List V) (h0 : acc 0 = [])
    (h : wA X [a] σ H fun x H1 => x = [.int n] ∧ n < 2 ^ 62 ∧ -(2 ^ 62) ≤ n ∧ (∀ (j : Nat) H', (j : Int) < n → Ex H1 H' → turnA X scope tg ifs elt vs acc j (.int (j : Int)) σ H') ∧ ∀ L H', H1 L = none → Ex H1 H' → H' L = some (.lst (acc n.toNat)) → Q (.ref L) H') :
    tLc (iRng1 (wA X [a])) (bG X scope tg) (bTs X scope ifs) (bE X scope elt) vs σ H Q :=
  ⟨fun ps pins s I => thn (h.run ps pins s I) fun us s' ⟨x, H1, J, r, e, h1, h2, q2, q3⟩ => ⟨x, H1, J, r, n, e, h2, h1, fun L hL =>
    lc_range (fun j H' => Ex H1 H' ∧ H' L = some (.lst (acc j))) ⟨Ex.new hL, by rw [h0]; exact upd_same⟩ (fun i H' hi hP => by rw [Int.zero_add]; exact turn_of hL hP.1 hP.2 (q2 i H' (by omega) hP.1)) fun H' z => q3 L H' hL z.1 z.2⟩⟩
theorem tmR2 {m n : Int} {vs : List Nat} (acc : Nat → List V) (h0 : acc 0 = [])
    (h : wA X [a, b] σ H fun x H1 => x = [.int m, .int n] ∧ (-(2 ^ 62) ≤ m ∧ m < 2 ^ 62 ∧ -(2 ^ 62) ≤ n ∧ n < 2 ^ 62) ∧ (∀ (j : Nat) H', m + (j : Int) < n → Ex H1 H' → turnA X scope tg ifs elt vs acc j (.int (m + (j : Int))) σ H') ∧ ∀ L H', H1 L = none → Ex H1 H' → H' L = some (.lst (acc (n - m).toNat)) → Q (.ref L) H') :
    tLc (iRng2 (wA X [a, b])) (bG X scope tg) (bTs X scope ifs) (bE X scope elt) vs σ H Q :=
  ⟨fun ps pins s I => thn (h.run ps pins s I) fun us s' ⟨x, H1, J, r, e, h1, q2, q3⟩ => ⟨x, H1, J, r, m, n, e, h1, fun L hL =>
    lc_range (fun j H' => Ex H1 H' ∧ H' L = some (.lst (acc j))) ⟨Ex.new hL, by rw [h0]; exact upd_same⟩ (fun i H' hi hP => turn_of hL hP.1 hP.2 (q2 i H' (by omega) hP.1)) fun H' z => q3 L H' hL z.1 z.2⟩⟩
theorem tmL {xs : List V} {vs : List Nat} (acc : Nat → List V) (h0 : acc 0 = [])
    (h : wE X l σ H fun x H1 => ∃ r, x = .ref r ∧ SqL X.K H1 r xs ∧ (∀ j x H', xs[j]? = some x → Ex H1 H' → turnA X scope tg ifs elt vs acc j x σ H') ∧ ∀ L H', H1 L = none → Ex H1 H' → H' L = some (.lst (acc xs.length)) → Q (.ref L) H') :
    tLc (iList X.K (wE X l)) (bG X scope tg) (bTs X scope ifs) (bE X scope elt) vs σ H Q :=
  ⟨fun pins s I => thn (h.run pins s I) fun u s1 ⟨x, H1, I1, r, p, ex, hq, q2, q3⟩ => ⟨x, H1, I1, r, p, ex, ⟨xs, hq⟩, fun L hL =>
    lc_list (fun j H' => Ex H1 H' ∧ H' L = some (.lst (acc j))) ⟨Ex.new hL, by rw [h0]; exact upd_same⟩ (fun i H' _ z => Evl.ex_l z.1 hq) (fun i x H' hx hP => turn_of hL hP.1 hP.2 (q2 i x H' hx hP.1)) fun H' z => q3 L H' hL z.1 z.2⟩⟩
theorem tmT {xs : List V} {vs : List Nat} (acc : Nat → List V) (h0 : acc 0 = [])
    (h : wE X l σ H fun x H1 => ∃ r, x = .ref r ∧ SqT X.K H1 r xs ∧ (∀ j x H', xs[j]? = some x → Ex H1 H' → turnA X scope tg ifs elt vs acc j x σ H') ∧ ∀ L H', H1 L = none → Ex H1 H' → H' L = some (.lst (acc xs.length)) → Q (.ref L) H') :
    tLc (iTup X.K (wE X l)) (bG X scope tg) (bTs X scope ifs) (bE X scope elt) vs σ H Q :=
  ⟨fun pins s I => thn (h.run pins s I) fun u s1 ⟨x, H1, I1, r, p, ex, hq, q2, q3⟩ => ⟨x, H1, I1, r, p, ex, ⟨xs, hq⟩, fun L hL =>
    lc_tup (fun j H' => Ex H1 H' ∧ H' L = some (.lst (acc j))) ⟨Ex.new hL, by rw [h0]; exact upd_same⟩ (fun i H' _ z => Evl.ex_t z.1 hq) (fun i x H' hx hP => turn_of hL hP.1 hP.2 (q2 i x H' hx hP.1)) fun H' z => q3 L H' hL z.1 z.2⟩⟩
/-! ### where an exception is handled -/
abbrev turnH (X : Cx) (scope : Scope) (tg : Expr) (ifs : List Expr) (elt : Expr) (vs : List Nat) (acc : Nat → List V) (j : Nat) (x : V) (σ : St) (H : Hp) : Prop :=
  hG X scope tg x (wipe σ vs) H fun σ2 H2 => wipe σ2 vs = wipe σ vs ∧ Ex H H2 ∧ hTs X scope ifs σ2 H2 fun b H3 => if b = true then hE X scope elt σ2 H3 fun y H4 => acc (j + 1) = acc j ++ [y] ∧ (acc j).length < sizeLine ∧ Ex H H4 else acc (j + 1) = acc j ∧ Ex H H3
theorem hG.imp {v : V} {Q Q' : St → Hp → Prop} (h : hG X scope tg v σ H Q) (q : ∀ σ' H', Q σ' H' → Q' σ' H') : hG X scope tg v σ H Q' :=
  ⟨fun s H0 C cl fp => ⟨fun pins s' u I r => thn ((h.run s H0 C cl fp).run pins s' u I r) fun _ s'' ⟨σ', H', J, z⟩ => ⟨σ', H', J, q _ _ z⟩⟩⟩
theorem hE.imp {Q Q' : VK} (h : hE X scope elt σ H Q) (q : ∀ σ' H', Q σ' H' → Q' σ' H') : hE X scope elt σ H Q' := ⟨fun s H0 C cl fp => (h.run s H0 C cl fp).imp q⟩
theorem hTs.imp {Q Q' : Bool → Hp → Prop} (h : hTs X scope ifs σ H Q) (q : ∀ σ' H', Q σ' H' → Q' σ' H') : hTs X scope ifs σ H Q' :=
  ⟨fun s H0 C cl fp => ⟨_, ⟨fun pins s' σ0 H1 R I (h2 : ∃ (_ : σ0 = σ) (_ : H1 = H), ∀ a b, Q' a b → R a b) => by
    obtain ⟨rfl, rfl, h2⟩ := h2
    exact thn (sTs.run pins s' _ _ Q I (h.run s H0 C cl fp)) fun u s'' ⟨H', J, z⟩ => ⟨H', J, h2 _ _ (q _ _ z)⟩⟩, rfl, rfl, fun _ _ z => z⟩⟩
theorem turn_ofH {acc : Nat → List V} {j : Nat} {x : V} {vs : List Nat} {L : Addr} {H1 : Hp} (hL : H1 L = none) (hd : Ex H1 H) (hacc : H L = some (.lst (acc j))) (h : turnH X scope tg ifs elt vs acc j x σ H) :
    hG X scope tg x (wipe σ vs) H fun σ2 H2 => wipe σ2 vs = wipe σ vs ∧ hTs X scope ifs σ2 H2 fun b H3 => if b = true then hE X scope elt σ2 H3 fun y H4 => ∃ acc', H4 L = some (.lst acc') ∧ acc'.length < sizeLine ∧ (Ex H1 (upd H4 L (.lst (acc' ++ [y]))) ∧ upd H4 L (.lst (acc' ++ [y])) L = some (.lst (acc (j + 1)))) else Ex H1 H3 ∧ H3 L = some (.lst (acc (j + 1))) := by
  refine hG.imp h fun σ2 H2 ⟨w, e2, q⟩ => ⟨w, q.imp fun b H3 q3 => ?_⟩
  cases b with
  | false =>
    rw [if_neg Bool.false_ne_true] at q3 ⊢
    exact ⟨hd.trans q3.2, by rw [q3.1]; exact q3.2 _ _ hacc⟩
  | true =>
    rw [if_pos rfl] at q3 ⊢
    refine q3.imp fun y H4 ⟨ea, hs, e4⟩ => ⟨acc j, e4 _ _ hacc, hs, fun b o e => ?_, by rw [ea]; exact upd_same⟩
    have n : b ≠ L := fun z => by rw [z, hL] at e; cases e
    rw [upd_ne n]
    exact e4 _ _ (hd _ _ e)
theorem slcA {i : Nat} {y : Str} {py : Pos} {xs : List V} {q : Addr × Obj} {cls : Value} {d : Option Addr} (hx : HX X q cls d) (hN : X.N.Nodup) (hy : X.N[i]? = some y) (hyl : X.env.scope.names.lookup y = some .local) (own : List (Str × Nat))
    (ok : BlkOk X.N X.env.scope scope own) (hsw : swapsWith (.ListComp elt [⟨tg, l, ifs, 0⟩] scope pos) (some (.Name y py)) spos.line X.env = pure true) (acc : Nat → List V) (h0 : acc 0 = [])
    (h : wE X l σ H fun x H1 => ∃ r, x = .ref r ∧ SqL X.K H1 r xs ∧ (∀ j x H', xs[j]? = some x → Ex H1 H' → turnH X scope tg ifs elt (own.map (·.2)) acc j x σ H') ∧ ∀ L H', H1 L = none → Ex H1 H' → H' L = some (.lst (acc xs.length)) → D.nx (σ.set i (some (.ref L))) H')
    (hs : ∀ x, foldedSetIterable l X.env x = pure x := by intro _; rfl) : wS X (.Assign [.Name y py] (.ListComp elt [⟨tg, l, ifs, 0⟩] scope pos) spos) D σ H := by
  refine slcH (g := hG X scope tg) (tt := hTs X scope ifs) (te := hE X scope elt) hx hN hy hyl hsw ok pi_listH (fun s H C cl fp => ⟨⟨fun pins s' σ H' v u Q I r h => (h.run s H C cl fp).run pins s' u I r⟩, ⟨fun pins s' σ H' Q I h => sTs.run pins s' σ H' Q I (h.run s H C cl fp)⟩, ⟨fun pins s' σ H' Q I h => (h.run s H C cl fp).run pins s' I⟩⟩) ?_ hs
  refine ⟨fun pins s I => thn (h.run pins s I) fun u s1 ⟨x, H1, I1, r, p, ex, hq, q2, q3⟩ => ⟨x, H1, I1, r, p, ex, ⟨xs, hq⟩, fun L hL =>
    lc_list (fun j H' => Ex H1 H' ∧ H' L = some (.lst (acc j))) ⟨Ex.new hL, by rw [h0]; exact upd_same⟩ (fun i H' _ z => Evl.ex_l z.1 hq) (fun i x H' hx hP => turn_ofH hL hP.1 hP.2 (q2 i x H' hx hP.1)) fun H' z => q3 L H' hL z.1 z.2⟩⟩
end
end Z

set_option maxRecDepth 100000
set_option maxHeartbeats 4000000
namespace Z
open PySem PySem.Spec PyProof.Rows L2
open Evl (Ex)
section
variable {X : Cx} {σ : St} {H : Hp} {a b c : Expr} {pos : Pos} {Q : VK}
/-! ### more steps -/
theorem zchain {op op' : CmpOp} (h : wE X a σ H fun x H1 => wE X b σ H1 fun y H2 => wO X (compareOp op) x y H2 fun z H3 => ∃ k, z = .bl k ∧ (if k = true then wE X c σ H3 fun v H4 => wO X (compareOp op') y v H4 Q else Q (.bl false) H3))
    (hm : lastMarks [op, op'] [b, c] = false := by with_unfolding_all rfl) : wE X (.Compare a [op, op'] [b, c] pos) σ H Q := ofE (pe_chain sO sO sE sE sE hm) h
theorem zchainT {op op' : CmpOp} {Q : Bool → Hp → Prop} (h : wE X a σ H fun x H1 => wE X b σ H1 fun y H2 => wO X (compareOp op) x y H2 fun z H3 => ∃ k, z = .bl k ∧ (if k = true then wE X c σ H3 fun v H4 => wO X (compareOp op') y v H4 fun u H5 => ∃ k, u = .bl k ∧ Q k H5 else ∃ k', V.bl false = .bl k' ∧ Q k' H3))
    (hm : lastMarks [op, op'] [b, c] = false := by with_unfolding_all rfl) : wT X (.Compare a [op, op'] [b, c] pos) σ H Q := ofT (pt_chain sO sO sE sE sE hm) h
theorem zneg (h : wE X a σ H fun x H1 => ∃ i, x = .int i ∧ Q (.int (-i)) H1) : wE X (.UnaryOp .USub a pos) σ H Q := ofE (pe_un un_neg sE) h
/-- {} -/
theorem zdnew (h : ∀ p H2, H p = none → Ex H H2 → H2 p = some (.dK []) → Q (.ref p) H2) : wE X (.Dict [] [] pos) σ H Q := ofE pe_dnewK fun p hp => h p _ hp (Ex.new hp) upd_same
end
/-- an exception of a class without an own __init__, made with a text -/
theorem mplain {X : Cx} {σ : St} {H : Hp} {x m : Str} {j : Nat} {C : Addr} {p p2 pos : Pos} {Q : XK} (e : PySem.W.excIn X.K C He.veBase "ValueError.__new__" = true ∧ PySem.W.keepIn X.K (.ref C) = true ∧ PySem.W.subIn X.K (.ref C) (.type "BaseException") = some true ∧ PySem.W.typeIn X.K (.ref C) = some (.type "type"))
    (gC : X.mg x = some (.ref C)) (hg : Gl X x) (h : Q (.ref C) none H) (hdb : (x == ("__debug__" : Str)) = false := by decide) : wM X (.Call (.Name x p) [.Constant (.str m) j p2] [] pos) σ H Q :=
  mown F.excBase_ValueError e.1 gC e.2.1 (raises_own e.2.2.1 e.2.2.2) hg h hdb
theorem Ex.past {H H' : Hp} {L : Addr} {o : HO} (h : Ex H H') (hL : H L = none) : Ex H (upd H' L o) := fun b z e => by
  rw [upd_ne (fun q => by rw [q, hL] at e; cases e)]
  exact h b z e
/-- an item of a display of numbers -/
theorem atN {ns : List Int} {k : Int} (h0 : 0 ≤ k) (h : k < (ns.length : Int)) : ∃ v ∈ ns, atI (ns.map V.int) k = some (.int v) := by
  obtain ⟨j, rfl⟩ : ∃ j : Nat, k = (j : Int) := ⟨k.toNat, by omega⟩
  have hl : j < ns.length := by omega
  exact ⟨ns[j], List.getElem_mem _, atI_nat (by rw [List.getElem?_map, List.getElem?_eq_getElem hl]; rfl)⟩
/-- a list of numbers put together by turns -/
def accM (f : Nat → Int) (j : Nat) : List V := ((List.range j).map f).map V.int
theorem accM_succ (f : Nat → Int) (j : Nat) : accM f (j + 1) = accM f j ++ [.int (f j)] := by unfold accM; rw [List.range_succ]; simp
theorem accM_len (f : Nat → Int) (j : Nat) : (accM f j).length = j := by unfold accM; simp
/-- two lists of the same numbers are not unlike -/
theorem same_ne {X : Cx} {H : Hp} {Q : VK} {j : Nat} {t u : Addr} {xs : List Int} (hr : Room j X.A) (ht : SqL X.K H t (xs.map V.int)) (hu : SqL X.K H u (xs.map V.int)) (q : Q (.bl false) H) : wO X (compareOp .NotEq) (.ref t) (.ref u) H Q :=
  oneD hr (Dp.ints ht) (Dp.ints hu) (PySem.W.ke_shaped_ints xs) (PySem.W.ke_shaped_ints xs) (by rw [SeqAt.eqv_refl _ (SeqAt.canLay_of_shaped (PySem.W.ke_shaped_ints xs))]; exact q)
/-- .. data of any shape -/
theorem data_ne {X : Cx} {H : Hp} {Q : VK} {j : Nat} {t u : V} {d : PyData} (hr : Room j X.A) (ht : Dp X.K H t d) (hu : Dp X.K H u d) (hs : SeqAt.shaped d = true) (q : Q (.bl false) H) : wO X (compareOp .NotEq) t u H Q :=
  oneD hr ht hu hs hs (by rw [SeqAt.eqv_refl _ (SeqAt.canLay_of_shaped hs)]; exact q)
theorem data_eq {X : Cx} {H : Hp} {Q : VK} {j : Nat} {t u : V} {d : PyData} (hr : Room j X.A) (ht : Dp X.K H t d) (hu : Dp X.K H u d) (hs : SeqAt.shaped d = true) (q : Q (.bl true) H) : wO X (compareOp .Eq) t u H Q :=
  oeqD hr ht hu hs hs (by rw [SeqAt.eqv_refl _ (SeqAt.canLay_of_shaped hs)]; exact q)
/-- for over a list that the body leaves as it is, the invariant told behind the list -/
theorem lforE {X : Cx} {σ : St} {H : Hp} {tg l : Expr} {body : List Stmt} {pos : Pos} {D : Ends} (hp : PassesOwn (model X.prog X.w) X.A X.env X.xe) (hc : X.calm = true)
    (h : wE X l σ H fun x H1 => ∃ (a : Addr) (xs : List V), x = .ref a ∧ (SqL X.K H1 a xs ∧ True) ∧ ∃ Pv : Nat → St → Hp → Prop, Pv 0 σ H1 ∧ (∀ i σ H, i ≤ xs.length → Pv i σ H → SqL X.K H a xs) ∧
      (∀ i x σ H, xs[i]? = some x → Pv i σ H → wG X tg x σ H fun σ2 H2 => wB X body { D with nx := Pv (i + 1), ct := Pv (i + 1), bk := D.nx } σ2 H2) ∧ ∀ σ H, Pv xs.length σ H → D.nx σ H)
    (hs : ∀ x, foldedSetIterable l X.env x = pure x := by intro _; rfl) : wS X (.For tg l body [] pos) D σ H :=
  lfor hp hc (pi_list sE) ⟨fun pins s I => thn (h.run pins s I) fun u s1 ⟨x, H1, I1, r, a, xs, ex, ⟨hq, _⟩, Pv, h0, hl, ht, hd⟩ => ⟨x, H1, I1, r, a, ex, ⟨xs, hq⟩, for_list Pv h0 hl ht hd⟩⟩ hs
/-! ### kinds -/
/-- a thing of no whole number's kind (bool among them) -/
def NotWhole (K : PySem.W.Frag) (H : Hp) (v : V) : Prop := ∃ (t : Value) (k1 k2 : Bool), TyX K H v t ∧ PySem.W.kitOne K t (.type "int") = some k1 ∧ PySem.W.kitOne K t (.type "bool") = some k2 ∧ (k1 && !k2) = false
theorem nw_bl {K : PySem.W.Frag} {H : Hp} (b : Bool) : NotWhole K H (.bl b) := ⟨_, true, true, .base (.bl b), kit_ty rfl, kit_ty rfl, rfl⟩
theorem nw_non {K : PySem.W.Frag} {H : Hp} : NotWhole K H .non := ⟨_, false, false, .base .non, kit_ty rfl, kit_ty rfl, rfl⟩
theorem nw_str {K : PySem.W.Frag} {H : Hp} (x : Str) : NotWhole K H (.str x) := ⟨_, false, false, .base (.str x), kit_ty rfl, kit_ty rfl, rfl⟩
theorem nw_lst {K : PySem.W.Frag} {H : Hp} {a : Addr} {xs : List V} (h : H a = some (.lst xs)) : NotWhole K H (.ref a) := ⟨_, false, false, .base (.lst h), kit_ty rfl, kit_ty rfl, rfl⟩
theorem nw_tup {K : PySem.W.Frag} {H : Hp} {a : Addr} {xs : List V} (h : H a = some (.tup xs)) : NotWhole K H (.ref a) := ⟨_, false, false, .base (.tup h), kit_ty rfl, kit_ty rfl, rfl⟩
theorem nw_dK {K : PySem.W.Frag} {H : Hp} {a : Addr} {kvs : List (Key × V)} (h : H a = some (.dK kvs)) : NotWhole K H (.ref a) := ⟨_, false, false, .base (.dK h), kit_ty rfl, kit_ty rfl, rfl⟩
/-- whether a thing is a whole number from lo to hi -/
inductive Asked (K : PySem.W.Frag) (H : Hp) (lo hi : Int) : V → Bool → Prop
  | int (n : Int) : Asked K H lo hi (.int n) (decide (lo ≤ n ∧ n ≤ hi))
  | odd {v : V} (h : NotWhole K H v) : Asked K H lo hi v false
end Z

set_option maxRecDepth 100000
set_option maxHeartbeats 4000000
namespace Z
open PySem PySem.Spec PyProof.Rows L2
open Evl (Ex)
/-! ### enumerate of a text -/
def Ites (x : Str) : It :=
  ⟨fun i _ => i < x.cps.size, fun i H v H' => ∃ T c, x.cps[i]? = some c ∧ v = .ref T ∧ H T = none ∧ H' = upd H T (.tup [.int (i : Nat), .str ⟨#[c]⟩]), fun i _ => i = x.cps.size⟩
theorem turn_enumS {P : Program} {w : World} {K : PySem.W.Frag} {elts : List Expr} {kk : Nat} {tpos : Pos} (x : Str) (t : Tok) (ty : String) (hty : ty = "str_ascii_iterator" ∨ ty = "str_iterator") (e it : Addr) :
    Turn P w K (.Tuple elts kk tpos) (Ites x) [e, it] e (fun i h => (∃ old, IsEnum h e it ((i : Nat) : Int) old) ∧ h.IsStrIter it ty x t i ∧ e ≠ it) where
  mem := List.mem_cons_self
  obj := fun i h ⟨⟨old, he⟩, ⟨o, ho, hc, hd⟩, _⟩ b hb => by
    rcases List.mem_cons.mp hb with rfl | z
    · exact ⟨_, he, fun v q => nomatch q⟩
    · rw [List.mem_singleton.mp z]; exact ⟨o, ho, fun v q => by rw [hd] at q; cases q⟩
  keep := fun i h h' ⟨⟨old, he⟩, ⟨o, ho, r⟩, hne⟩ k => ⟨⟨old, k e List.mem_cons_self _ he⟩, ⟨o, k it (List.mem_cons_of_mem _ List.mem_cons_self) o ho, r⟩, hne⟩
  item := fun X hP hw hK hc i pins s σ H E I hf st hg => by
    subst hP hw hK
    obtain ⟨⟨old, he⟩, hit, hne⟩ := st
    have D : Draws X.prog X.w X.A.in1 it [it] x.cps.size (SignAt x) (fun i h => h.IsStrIter it ty x t i) := by
      rcases hty with q | q
      · rw [q]; exact Draws.strAscii (A := X.A.in1) (I.ok.hd hc) it x t
      · rw [q]; exact Draws.strWide (A := X.A.in1) (I.ok.hd hc) it x t
    have hel : e < s.heap.objs.size := Heap.lt_size he
    have hil : it < s.heap.objs.size := by obtain ⟨_, q, _⟩ := hit; exact Heap.lt_size q
    refine wpAny_pyNext_enum_itemD D he hit hg hne (by simpa using hne) fun y h' tk hy ho hit' hT hsz hk => ?_
    obtain ⟨c, u, hcx, rfl⟩ := hy
    refine ⟨_, rfl, wpAny_letOwnedTupleGo_enum (s := { s with heap := h', toks := tk + 1 }) ho fun h'' he' sb => ?_⟩
    have hT2 : h''.get? s.heap.objs.size = some { cls := .type "tuple", data := .seq #[.int i tk, .str ⟨#[c]⟩ u] } := (sb.2 _ (Nat.ne_of_gt hel)).trans hT
    have new : ObjOk X.prog X.w (upd H s.heap.objs.size (.tup [.int (i : Nat), .str ⟨#[c]⟩])) h'' s.heap.objs.size (.tup [.int (i : Nat), .str ⟨#[c]⟩]) :=
      ⟨by show 2 ≤ sizeLine; decide, [.int i tk, .str ⟨#[c]⟩ u], .cons ⟨_, rfl⟩ (.cons ⟨_, rfl⟩ .nil), ⟨_, hT2, rfl, _, rfl⟩⟩
    have I1 : Inv X pins σ (upd H s.heap.objs.size (.tup [.int (i : Nat), .str ⟨#[c]⟩])) { s with heap := h'', toks := tk + 1 } :=
      I.turnedNew (ch := [e, it]) (fun b ob hb q => (sb.2 b (fun z => hb (by simp [z]))).trans (hk b ob (fun z => hb (by simp [z])) (fun z => hb (by simp [z])) q)) hf (Nat.le_refl _) new
    refine ⟨.ref s.heap.objs.size, _, I1, rfl, ⟨_, c, hcx, rfl, I.hok.fresh (Nat.le_refl _), rfl⟩, ⟨⟨.str ⟨#[c]⟩ u, ?_⟩, ?_, hne⟩, fun b hb => ?_⟩
    · rw [show ((i + 1 : Nat) : Int) = (i : Int) + 1 from by omega]; exact he'
    · obtain ⟨o, q, r⟩ := hit'
      exact ⟨o, (sb.2 it (Ne.symm hne)).trans q, r⟩
    · have hb' : b < s.heap.objs.size := by
        rcases List.mem_cons.mp hb with rfl | z
        · exact hel
        · rw [List.mem_singleton.mp z]; exact hil
      rw [upd_ne (Nat.ne_of_lt hb')]
      exact (hf b hb).1
  done := fun X hP hw hK hc i pins s σ H E I hf st hg => by
    subst hP hw hK
    obtain ⟨⟨old, he⟩, hit, hne⟩ := st
    obtain ⟨f0, f1, f2, f3, f4, f5⟩ := hf it (List.mem_cons_of_mem _ List.mem_cons_self)
    have D : Draws X.prog X.w X.A.in1 it [it] x.cps.size (SignAt x) (fun i h => h.IsStrIter it ty x t i) := by
      rcases hty with q | q
      · rw [q]; exact Draws.strAscii (A := X.A.in1) (I.ok.hd hc) it x t
      · rw [q]; exact Draws.strWide (A := X.A.in1) (I.ok.hd hc) it x t
    have hi : i = x.cps.size := hg
    subst hi
    exact wpAny_pyNext_enum_endD D he hit fun h' eb => ⟨rfl, I.turned (t' := s.toks) (fun b o hb q => eb b o hb q) f0 f1 f3 f4 f5⟩
  self := fun A i s Q E ⟨⟨_, he⟩, _⟩ h => wpAny_pyIter_enum he h
def iEnumS (ta : TA) : TI := fun σ H R => ta σ H fun vs H1 => ∃ x, vs = [.str x] ∧ R (Ites x) H1
section
variable {X : Cx} {σ : St} {H : Hp} {e o : Expr} {es : List Expr} {pos p apos p2 tpos : Pos} {Q : VK} {D : Ends} {kk : Nat} {elts : List Expr}
theorem pi_enumS (hm : X.mg "enumerate" = none) (hg : Gl X "enumerate") (hs : starEach [e] X.env = [(false, eval e X.env)] := by rfl) : PI X (.Tuple elts kk tpos) (.Call (.Name "enumerate" p) [e] [] pos) (iEnumS (wA X [e])) := by
  refine ⟨fun pins s σ H R I h => ?_⟩
  refine Call_ (ld_blt I hg hm boot_enumerate (PyProof.Rows.callWith_type1 (thn (h.run pos pins s I) fun us s1 ⟨vs, H1, I1, r1, x, ex, q⟩ => ?_) hs rfl))
  subst ex
  cases r1 with
  | cons r rr =>
    cases rr
    obtain ⟨t, rfl⟩ := r
    refine call_enumerate_str fun h' he hit hsz hk => wpAny_pyIter_enum he ?_
    have I2 : Inv X pins σ H1 { s1 with heap := h' } := I1.kept (t' := s1.toks) hk
    refine ⟨s1.heap.objs.size + 1, [s1.heap.objs.size + 1, s1.heap.objs.size], _, _, H1, rfl, I2, turn_enumS x t (strIterType x) (by unfold strIterType; split <;> simp) (s1.heap.objs.size + 1) s1.heap.objs.size, ⟨⟨.none, he⟩, hit, Nat.succ_ne_self _⟩, fun b hb => ?_, q⟩
    have hle : s1.heap.objs.size ≤ b := by
      rcases List.mem_cons.mp hb with z | z
      · rw [z]; exact Nat.le_add_right _ _
      · rw [List.mem_singleton.mp z]; exact Nat.le_refl _
    exact I1.fpOk hle (I1.hok.fresh hle)
end
end Z

set_option maxRecDepth 100000
set_option maxHeartbeats 4000000
namespace Z
open PySem PySem.Spec PyProof.Rows L2
open Evl (Ex)
section
variable {X : Cx} {σ : St} {H : Hp} {a b c e o i tg l : Expr} {es : List Expr} {st : Stmt} {body : List Stmt} {pos pos' p p1 p2 apos tpos : Pos} {Q : VK} {D : Ends} {kk : Nat} {elts : List Expr}
/-! ### built-ins -/
theorem kisiT {x : V} {tp : Addr} {cs : List V} {t : Value} {us : List Value} {b : Bool} (hT : H tp = some (.tup cs)) (hp : Paired ClsV cs us) (ty : TyX X.K H x t) (hk : PySem.W.kitAny X.K t us = some b) (h : Q (.bl b) H) : wK X (.builtin "isinstance") [x, .ref tp] H Q :=
  ofK call_isiT ⟨x, tp, cs, t, us, b, rfl, hT, hp, ty, hk, h⟩
theorem kall {p : Addr} {bs : List Bool} (hc : X.calm = true) (hp : SqL X.K H p (bs.map V.bl)) (h : Q (.bl (bs.all id)) H) : wK X (.builtin "all") [.ref p] H Q := ofK (cr_all hc) ⟨p, bs, rfl, hp, h⟩
theorem ksum {p : Addr} {ns : List Int} (hc : X.calm = true) (hp : SqL X.K H p (ns.map V.int)) (h : Q (.int ns.sum) H) : wK X (.builtin "sum") [.ref p] H Q := ofK (cr_sum hc) ⟨p, ns, rfl, hp, h⟩
theorem kdivmod {m n : Int} (hc : CDiv m n) (h : ∀ p H2, H p = none → Ex H H2 → H2 p = some (.tup [.int (m / n), .int (m % n)]) → Q (.ref p) H2) : wK X (.builtin "divmod") [.int m, .int n] H Q :=
  ofK call_divmod ⟨m, n, rfl, hc, fun p hp => h p _ hp (Ex.new hp) upd_same⟩
theorem kabs {m : Int} (h : Q (.int (if m < 0 then -m else m)) H) : wK X (.builtin "abs") [.int m] H Q := ofK call_abs ⟨m, rfl, h⟩
theorem kord {x : Str} (hx : x.length = 1) (h : Q (.int (x.cps.getD 0 0 : Nat)) H) : wK X (.builtin "ord") [.str x] H Q := ofK call_ord ⟨x, rfl, hx, h⟩
theorem orep {p : Addr} {xs : List V} {k : Int} (hp : H p = some (.lst xs)) (h0 : -(2 ^ 63) ≤ k) (h1 : k < 2 ^ 63) (hz : xs.length * k.toNat ≤ sizeLine) (h : ∀ q H2, H q = none → Ex H H2 → H2 q = some (.lst (List.replicate k.toNat xs).flatten) → Q (.ref q) H2) : wO X (binaryOp .Mult) (.ref p) (.int k) H Q :=
  ofO op_rep ⟨p, k, xs, rfl, rfl, hp, h0, h1, hz, fun q hq => h q _ hq (Ex.new hq) upd_same⟩
theorem oin {n : Nat} {z : Str} (h : Q (.bl (decide (n ∈ z.cps.toList))) H) : wO X (compareOp .In) (.str ⟨#[n]⟩) (.str z) H Q := ofO op_in_sign ⟨n, z, rfl, rfl, h⟩
theorem onin {n : Nat} {z : Str} (h : Q (.bl (!decide (n ∈ z.cps.toList))) H) : wO X (compareOp .NotIn) (.str ⟨#[n]⟩) (.str z) H Q := ofO op_notIn_sign ⟨n, z, rfl, rfl, h⟩
/-! ### methods of a text -/
theorem zjoin (h : wE X o σ H fun x H1 => (∃ a, x = .str a) ∧ wE X e σ H1 fun y H2 => ∃ a p, ∃ ys : List Str, x = .str a ∧ y = .ref p ∧ (SqL X.K H2 p (ys.map V.str) ∨ SqT X.K H2 p (ys.map V.str)) ∧ (ys.map (·.length)).sum + ys.length * a.length ≤ 16777216 ∧ Q (.str (Txt.join a ys)) H2)
    (hs : starEach [e] X.env = [(false, eval e X.env)] := by rfl) (hbase : attributeBase o "join" X.env (eval o X.env) = eval o X.env := by rfl) (hline : (apos.endLine == pos.line) = true := by rfl) : wE X (.Call (.Attribute o "join" apos) [e] [] pos) σ H Q := by
  refine ofE (pe_join sE sE hs hbase hline) ⟨fun pins s I => thn (h.run pins s I) fun u s1 ⟨x, H1, I1, r1, hx, q⟩ => ⟨x, H1, I1, r1, hx, ⟨fun pins2 s2 J => thn (q.run pins2 s2 J) fun u2 s3 ⟨y, H2, I2, r2, a, p, ys, e1, e2, q2⟩ => ⟨y, H2, I2, r2, a, p, ys, e1, by rw [e2], q2⟩⟩⟩⟩
theorem zsindex (h : wE X o σ H fun x H1 => (∃ a, x = .str a) ∧ wE X e σ H1 fun y H2 => ∃ a b i rest, x = .str a ∧ y = .str b ∧ Builtin.Str.occurrences a b 0 a.length 1 = i :: rest ∧ Q (.int (i : Nat)) H2)
    (hs : starEach [e] X.env = [(false, eval e X.env)] := by rfl) (hbase : attributeBase o "index" X.env (eval o X.env) = eval o X.env := by rfl) (hline : (apos.endLine == pos.line) = true := by rfl) : wE X (.Call (.Attribute o "index" apos) [e] [] pos) σ H Q := by
  refine ofE (pe_m1 PySem.F.slot_str_index PySem.F.type_str_index mt_sindex sE sE hs hbase hline) ⟨fun pins s I => thn (h.run pins s I) fun u s1 ⟨x, H1, I1, r1, hx, q⟩ => ⟨x, H1, I1, r1, hx, ⟨fun pins2 s2 J => thn (q.run pins2 s2 J) fun u2 s3 ⟨y, H2, I2, r2, a, b, i, rest, e1, e2, q2⟩ => ⟨y, H2, I2, r2, a, b, i, rest, e1, by rw [e2], q2⟩⟩⟩⟩
/-! ### slices -/
structure wP (X : Cx) (e : Option Expr) (σ : St) (H : Hp) (Q : Option Int → Hp → Prop) : Prop where
  run : ∃ t : TO, PO X e t ∧ t σ H Q
structure wSl (X : Cx) (x : V) (lo hi : Option Int) (H : Hp) (Q : VK) : Prop where
  run : ∃ r : V → Option Int → Option Int → Hp → VK → Prop, SlR X r ∧ r x lo hi H Q
theorem sP {e : Option Expr} : PO X e (wP X e) := ⟨fun pins s σ H Q I ⟨t, h, q⟩ => h.run pins s σ H Q I q⟩
theorem pnon {Q : Option Int → Hp → Prop} (h : Q none H) : wP X none σ H Q := ⟨_, po_none, h⟩
theorem psom {Q : Option Int → Hp → Prop} (h : wE X e σ H fun x H1 => ∃ i, x = .int i ∧ Q (some i) H1) : wP X (some e) σ H Q := ⟨_, po_some sE, h⟩
theorem sSl : SlR X (wSl X) := fun pins s σ H x v vl vu lo hi sl Q I rx hs pl pu ⟨r, h, q⟩ => h pins s σ H x v vl vu lo hi sl Q I rx hs pl pu q
theorem zsl {lo hi : Option Expr} (h : wE X e σ H fun x H1 => wP X lo σ H1 fun l H2 => wP X hi σ H2 fun u H3 => wSl X x l u H3 Q) : wE X (.Subscript e (.Slice lo hi none p2) pos) σ H Q := ofE (pe_slice sSl sE sP sP) h
theorem slL {q : Addr} {xs : List V} {lo hi : Option Int} (hq : SqL X.K H q xs) (h : ∀ p H2, H p = none → Ex H H2 → H2 p = some (.lst (cutV xs lo hi)) → Q (.ref p) H2) : wSl X (.ref q) lo hi H Q := ⟨_, sl_list, q, xs, rfl, hq, fun p hp => h p _ hp (Ex.new hp) upd_same⟩
theorem slT {q : Addr} {xs : List V} {lo hi : Option Int} (hq : SqT X.K H q xs) (hw : ¬ (HT.sIx xs.length 0 lo = 0 ∧ HT.sIx xs.length xs.length hi = xs.length)) (h : ∀ p H2, H p = none → Ex H H2 → H2 p = some (.tup (cutV xs lo hi)) → Q (.ref p) H2) : wSl X (.ref q) lo hi H Q := ⟨_, sl_tup, q, xs, rfl, hq, hw, fun p hp => h p _ hp (Ex.new hp) upd_same⟩
theorem slS {z : Str} {lo hi : Option Int} (hz : z.length ≤ sizeLine) (h : Q (.str (cutS z lo hi)) H) : wSl X (.str z) lo hi H Q := ⟨_, sl_str, z, rfl, hz, h⟩
/-! ### o[i] = .. -/
structure wSe (X : Cx) (o i v : V) (H : Hp) (Q : Hp → Prop) : Prop where
  run : ∃ t : TSet, PSet X t ∧ t o i v H Q
theorem sSe : PSet X (wSe X) := fun pins s σ H o i v ov iv u Q I ro ri rv ⟨t, h, q⟩ => h pins s σ H o i v ov iv u Q I ro ri rv q
theorem gsub {v : V} {Q : St → Hp → Prop} (h : wE X o σ H fun x H1 => wE X i σ H1 fun y H2 => wSe X x y v H2 fun H3 => Q σ H3)
    (ha : ∀ v, assign (.Subscript o i pos) X.env v = (do
      let ov ← holding [v] (eval o X.env)
      let iv ← holding [v, ov] (eval i X.env)
      standAt pos
      holding [v, ov, iv] (setItem ov iv v)
      release [v, ov, iv] []) := by intro _; rfl) : wG X (.Subscript o i pos) v σ H Q := ofG (pg_sub sE sE sSe ha) h
theorem seL {q : Addr} {xs : List V} {k : Int} {j : Nat} {v : V} {Q : Hp → Prop} (hq : H q = some (.lst xs)) (hj : ixN xs.length k = some j) (h : Q (upd H q (.lst (xs.set j v)))) : wSe X (.ref q) (.int k) v H Q := ⟨_, set_list, q, xs, k, j, rfl, rfl, hq, hj, h⟩
/-! ### for over enumerate -/
theorem lforEn (hm : X.mg "enumerate" = none) (hp : PassesOwn (model X.prog X.w) X.A X.env X.xe) (hc : X.calm = true) (hg : Gl X "enumerate")
    (h : wA X [e] σ H fun vs H1 => ∃ (a : Addr) (xs : List V), vs = [.ref a] ∧ (SqL X.K H1 a xs ∧ True) ∧ ∃ Pv : Nat → St → Hp → Prop, Pv 0 σ H1 ∧ (∀ i σ H, i ≤ xs.length → Pv i σ H → SqL X.K H a xs) ∧
      (∀ i x σ H T H2, xs[i]? = some x → Pv i σ H → H T = none → Ex H H2 → H2 T = some (.tup [.int ((i : Nat) : Int), x]) → wG X (.Tuple elts kk tpos) (.ref T) σ H2 fun σ2 H2 => wB X body { D with nx := Pv (i + 1), ct := Pv (i + 1), bk := D.nx } σ2 H2) ∧ ∀ σ H, Pv xs.length σ H → D.nx σ H)
    (hs : ∀ x, foldedSetIterable (.Call (.Name "enumerate" p) [e] [] pos') X.env x = pure x := by intro _; rfl) (hsa : starEach [e] X.env = [(false, eval e X.env)] := by rfl) : wS X (.For (.Tuple elts kk tpos) (.Call (.Name "enumerate" p) [e] [] pos') body [] pos) D σ H := by
  refine lfor hp hc (pi_enum hg hm sA hsa) ⟨fun ps pins s I => thn (h.run ps pins s I) fun u s1 ⟨vs, H1, I1, r, a, xs, ex, ⟨hq, _⟩, Pv, h0, hl, ht, hd⟩ => ⟨vs, H1, I1, r, a, xs, ex, hq, ?_⟩⟩ hs
  refine ⟨fun i m σ H => m = xs.length - i ∧ i ≤ xs.length ∧ Pv i σ H, ⟨xs.length, by simp, Nat.zero_le _, h0⟩, ?_⟩
  rintro i m σ H ⟨rfl, hi, z⟩
  have q := hl i σ H hi z
  by_cases hlt : i < xs.length
  · refine .inr ⟨⟨xs, xs[i], q, by simp [hlt]⟩, Pv (i + 1), fun σ' H' p' => ⟨xs.length - (i + 1), by omega, rfl, hlt, p'⟩, ?_⟩
    rintro v H' ⟨T, x, rfl, hT, rfl, hx⟩
    exact ht i x σ H T _ (hx xs q) z hT (Ex.new hT) upd_same
  · have e : i = xs.length := by omega
    subst e
    exact .inl ⟨⟨xs, q, Nat.le_refl _⟩, hd σ H z⟩
theorem lforEnS (hm : X.mg "enumerate" = none) (hp : PassesOwn (model X.prog X.w) X.A X.env X.xe) (hc : X.calm = true) (hg : Gl X "enumerate") (Pv : Nat → St → Hp → Prop)
    (h : wA X [e] σ H fun vs H1 => ∃ x : Str, vs = [.str x] ∧ (True ∧ Pv 0 σ H1) ∧
      (∀ i c σ H T H2, x.cps[i]? = some c → Pv i σ H → H T = none → Ex H H2 → H2 T = some (.tup [.int ((i : Nat) : Int), .str ⟨#[c]⟩]) → wG X (.Tuple elts kk tpos) (.ref T) σ H2 fun σ2 H2 => wB X body { D with nx := Pv (i + 1), ct := Pv (i + 1), bk := D.nx } σ2 H2) ∧ ∀ σ H, Pv x.cps.size σ H → D.nx σ H)
    (hs : ∀ x, foldedSetIterable (.Call (.Name "enumerate" p) [e] [] pos') X.env x = pure x := by intro _; rfl) (hsa : starEach [e] X.env = [(false, eval e X.env)] := by rfl) : wS X (.For (.Tuple elts kk tpos) (.Call (.Name "enumerate" p) [e] [] pos') body [] pos) D σ H := by
  refine lfor hp hc (pi_enumS hm hg hsa) ⟨fun ps pins s I => thn (h.run ps pins s I) fun u s1 ⟨vs, H1, I1, r, x, ex, ⟨_, h0⟩, ht, hd⟩ => ⟨vs, H1, I1, r, x, ex, ?_⟩⟩ hs
  refine ⟨fun i m σ H => m = x.cps.size - i ∧ i ≤ x.cps.size ∧ Pv i σ H, ⟨x.cps.size, by simp, Nat.zero_le _, h0⟩, ?_⟩
  rintro i m σ H ⟨rfl, hi, z⟩
  by_cases hlt : i < x.cps.size
  · refine .inr ⟨hlt, Pv (i + 1), fun σ' H' p' => ⟨x.cps.size - (i + 1), by omega, rfl, hlt, p'⟩, ?_⟩
    rintro v H' ⟨T, c, hx, rfl, hT, rfl⟩
    exact ht i c σ H T _ hx z hT (Ex.new hT) upd_same
  · have e : i = x.cps.size := by omega
    subst e
    exact .inl ⟨rfl, hd σ H z⟩
/-! ### comprehensions over a range by steps, over a text -/
theorem piR3 (hm : X.mg "range" = none) (hg : Gl X "range") (hs : starEach [a, b, c] X.env = (false, eval a X.env) :: starEach [b, c] X.env := by rfl) (hpl : (backTo pos (starEach [b, c] X.env)).any (·.1) = false := by rfl) : PI X tg (.Call (.Name "range" p) [a, b, c] [] pos) (iRng3 (wA X [a, b, c])) := pi_range3 hg hm sA hs hpl
theorem piS : PI X tg l (iStr (wE X l)) := pi_str sE
variable {elt : Expr} {ifs : List Expr} {scope : Scope} {vs : List Nat}
theorem tmR3 {m n k : Int} {z : Nat} (acc : Nat → List V) (h0 : acc 0 = [])
    (h : wA X [a, b, c] σ H fun x H1 => x = [.int m, .int n, .int k] ∧ RgC m n k z ∧ (∀ (j : Nat) H', j < z → Ex H1 H' → turnA X scope tg ifs elt vs acc j (.int (m + (j : Int) * k)) σ H') ∧ ∀ L H', H1 L = none → Ex H1 H' → H' L = some (.lst (acc z)) → Q (.ref L) H') :
    tLc (iRng3 (wA X [a, b, c])) (bG X scope tg) (bTs X scope ifs) (bE X scope elt) vs σ H Q := by
  refine ⟨fun ps pins s I => thn (h.run ps pins s I) fun us s' ⟨x, H1, J, r, e, h1, q2, q3⟩ => ⟨x, H1, J, r, m, n, k, z, e, h1, fun L hL => ?_⟩⟩
  refine ⟨fun j d H' => d = z - j ∧ j ≤ z ∧ (Ex H1 H' ∧ H' L = some (.lst (acc j))), ⟨z, by simp, Nat.zero_le _, Ex.new hL, by rw [h0]; exact upd_same⟩, ?_⟩
  rintro j d H' ⟨rfl, hj, e1, e2⟩
  by_cases hlt : j < z
  · refine .inr ⟨hlt, fun H' => Ex H1 H' ∧ H' L = some (.lst (acc (j + 1))), fun H' p' => ⟨z - (j + 1), by omega, rfl, hlt, p'⟩, ?_⟩
    rintro x H2 ⟨rfl, rfl⟩
    exact turn_of hL e1 e2 (q2 j _ hlt e1)
  · have e : j = z := by omega
    subst e
    exact .inl ⟨Nat.le_refl _, q3 L H' hL e1 e2⟩
theorem tmS {x : Str} (acc : Nat → List V) (h0 : acc 0 = [])
    (h : wE X l σ H fun y H1 => y = .str x ∧ (∀ (j : Nat) c H', x.cps[j]? = some c → Ex H1 H' → turnA X scope tg ifs elt vs acc j (.str ⟨#[c]⟩) σ H') ∧ ∀ L H', H1 L = none → Ex H1 H' → H' L = some (.lst (acc x.cps.size)) → Q (.ref L) H') :
    tLc (iStr (wE X l)) (bG X scope tg) (bTs X scope ifs) (bE X scope elt) vs σ H Q := by
  refine ⟨fun pins s I => thn (h.run pins s I) fun us s' ⟨y, H1, J, r, e, q2, q3⟩ => ⟨y, H1, J, r, x, e, fun L hL => ?_⟩⟩
  refine ⟨fun j d H' => d = x.cps.size - j ∧ j ≤ x.cps.size ∧ (Ex H1 H' ∧ H' L = some (.lst (acc j))), ⟨x.cps.size, by simp, Nat.zero_le _, Ex.new hL, by rw [h0]; exact upd_same⟩, ?_⟩
  rintro j d H' ⟨rfl, hj, e1, e2⟩
  by_cases hlt : j < x.cps.size
  · refine .inr ⟨hlt, fun H' => Ex H1 H' ∧ H' L = some (.lst (acc (j + 1))), fun H' p' => ⟨x.cps.size - (j + 1), by omega, rfl, hlt, p'⟩, ?_⟩
    rintro y H2 ⟨rfl, c, hc, rfl⟩
    exact turn_of hL e1 e2 (q2 j c _ hc e1)
  · have e : j = x.cps.size := by omega
    subst e
    exact .inl ⟨Nat.le_refl _, q3 L H' hL e1 e2⟩
end
end Z

set_option maxRecDepth 100000
set_option maxHeartbeats 4000000
namespace Z
open PySem PySem.Spec PyProof.Rows L2
/-! ### the check of sixteen bits, byte by byte and bit by bit -/
/-- a turn of the program's -/
def pStep (f : Nat) : Nat := if f / 32768 = 1 then (f * 2 % 65536) ^^^ 4129 else f * 2 % 65536
/-- a turn of the law's: the k-th bit of b from above -/
def lStep (b f k : Nat) : Nat := if (f / 32768 + b / 2 ^ (7 - k)) % 2 = 1 then (f * 2 % 65536) ^^^ 4129 else f * 2 % 65536
def pTurns (f : Nat) : Nat → Nat
  | 0 => f
  | i + 1 => pStep (pTurns f i)
def lTurns (b f : Nat) : Nat → Nat
  | 0 => f
  | i + 1 => lStep b (lTurns b f i) i
theorem pStep_lt (f : Nat) : pStep f < 65536 := by
  unfold pStep
  have h : f * 2 % 65536 < 2 ^ 16 := Nat.mod_lt _ (by decide)
  split
  · exact Nat.xor_lt_two_pow h (by decide)
  · exact h
theorem lStep_lt (b f k : Nat) : lStep b f k < 65536 := by
  unfold lStep
  have h : f * 2 % 65536 < 2 ^ 16 := Nat.mod_lt _ (by decide)
  split
  · exact Nat.xor_lt_two_pow h (by decide)
  · exact h
theorem pTurns_lt {f : Nat} (h : f < 65536) : ∀ i, pTurns f i < 65536
  | 0 => h
  | i + 1 => pStep_lt _
theorem lTurns_lt {b f : Nat} (h : f < 65536) : ∀ i, lTurns b f i < 65536
  | 0 => h
  | i + 1 => lStep_lt _ _ _
theorem turns_eq {b f : Nat} (hb : b < 256) (hf : f < 65536) : ∀ i, i ≤ 8 → pTurns (f ^^^ (b * 256)) i = lTurns b f i ^^^ (b * 2 ^ (8 + i) % 65536)
  | 0, _ => by
    show f ^^^ (b * 256) = f ^^^ (b * 256 % 65536)
    rw [Nat.mod_eq_of_lt (by omega)]
  | i + 1, hi => by
    have ih := turns_eq hb hf i (by omega)
    have hL := lTurns_lt (b := b) hf i
    show pStep (pTurns (f ^^^ (b * 256)) i) = lStep b (lTurns b f i) i ^^^ _
    rw [ih]
    generalize hl : lTurns b f i = L at hL ⊢
    have hB : b * 2 ^ (8 + i) % 65536 < 65536 := Nat.mod_lt _ (by decide)
    have e1 : (b * 2 ^ (8 + i) % 65536) / 32768 = b / 2 ^ (7 - i) % 2 := by
      have : i = 0 ∨ i = 1 ∨ i = 2 ∨ i = 3 ∨ i = 4 ∨ i = 5 ∨ i = 6 ∨ i = 7 := by omega
      rcases this with rfl | rfl | rfl | rfl | rfl | rfl | rfl | rfl <;> simp only [Nat.reduceAdd, Nat.reduceSub, Nat.reducePow] <;> omega
    have e2 : (b * 2 ^ (8 + i) % 65536) * 2 % 65536 = b * 2 ^ (8 + (i + 1)) % 65536 := by
      rw [show 8 + (i + 1) = (8 + i) + 1 from by omega, Nat.pow_succ, ← Nat.mul_assoc]
      omega
    generalize b * 2 ^ (8 + i) % 65536 = B at hB e1 e2 ⊢
    have d : (L ^^^ B) / 32768 = (L / 32768) ^^^ (B / 32768) := by
      have := Nat.shiftRight_xor_distrib (a := L) (b := B) (i := 15)
      simpa [Nat.shiftRight_eq_div_pow] using this
    have m : (L ^^^ B) * 2 % 65536 = (L * 2 % 65536) ^^^ (B * 2 % 65536) := by
      have h1 := Nat.shiftLeft_xor_distrib (a := L) (b := B) (i := 1)
      have h2 := Nat.xor_mod_two_pow (a := L * 2) (b := B * 2) (n := 16)
      simp only [Nat.shiftLeft_eq, Nat.pow_one] at h1
      rw [h1]
      exact h2
    have c1 : L / 32768 = 0 ∨ L / 32768 = 1 := by omega
    have c2 : B / 32768 = 0 ∨ B / 32768 = 1 := by omega
    unfold pStep lStep
    rw [d, m, e2, Nat.add_mod, ← e1]
    rcases c1 with c1 | c1 <;> rcases c2 with c2 | c2 <;> rw [c1, c2]
    · rfl
    · show (_ ^^^ _) ^^^ 4129 = (_ ^^^ 4129) ^^^ _
      rw [Nat.xor_assoc, Nat.xor_comm _ 4129, ← Nat.xor_assoc]
    · show (_ ^^^ _) ^^^ 4129 = (_ ^^^ 4129) ^^^ _
      rw [Nat.xor_assoc, Nat.xor_comm _ 4129, ← Nat.xor_assoc]
    · rfl
/-- a byte taken in -/
def crcB (f b : Nat) : Nat := pTurns (f ^^^ (b * 256)) 8
theorem crcB_law {b f : Nat} (hb : b < 256) (hf : f < 65536) : lTurns b f 8 = crcB f b := by
  unfold crcB
  rw [turns_eq hb hf 8 (Nat.le_refl _)]
  rw [show b * 2 ^ (8 + 8) % 65536 = 0 from by omega, Nat.xor_zero]
theorem crcB_lt (f b : Nat) : crcB f b < 65536 := pStep_lt _
/-- the check of a row from f on -/
def crc (f : Nat) : List Int → Nat
  | [] => f
  | b :: r => crc (crcB f b.toNat) r
theorem crc_lt {f : Nat} (h : f < 65536) : ∀ xs : List Int, crc f xs < 65536
  | [] => h
  | b :: r => crc_lt (crcB_lt _ _) r
theorem crc_take {f : Nat} : ∀ {xs : List Int} {i : Nat} {b : Int}, xs[i]? = some b → crc f (xs.take (i + 1)) = crcB (crc f (xs.take i)) b.toNat
  | x :: xs, 0, b, h => by simp at h; subst h; rfl
  | x :: xs, i + 1, b, h => by
    have := crc_take (f := crcB f x.toNat) (xs := xs) (i := i) (b := b) (by simpa using h)
    exact this
theorem crc_app (f : Nat) : ∀ xs ys : List Int, crc f (xs ++ ys) = crc (crc f xs) ys
  | [], _ => rfl
  | x :: xs, ys => crc_app (crcB f x.toNat) xs ys
end Z
namespace Z
open PySem PySem.Spec PyProof.Rows L2
open Evl (Ex)
/-- a test whose answer is told ahead, the heap grown -/
theorem tcutE {X : Cx} {c : Expr} {σ : Z.St} {H : Hp} {Q : Bool → Hp → Prop} (k : Bool) (h : wT X c σ H fun k' H' => k' = k ∧ Ex H H') (q : ∀ H', Ex H H' → Q k H') : wT X c σ H Q := h.imp fun v H' ⟨a, b⟩ => by rw [a]; exact q H' b
theorem ecutE {X : Cx} {c : Expr} {σ : Z.St} {H : Hp} {Q : VK} (v : V) (h : wE X c σ H fun v' H' => v' = v ∧ Ex H H') (q : ∀ H', Ex H H' → Q v H') : wE X c σ H Q := h.imp fun v' H' ⟨a, b⟩ => by rw [a]; exact q H' b
/-! ### kinds stay -/
theorem TyOf.ex {K : PySem.W.Frag} {H H' : Hp} (e : Ex H H') {v : V} {t : Value} (h : TyOf K H v t) : TyOf K H' v t := by
  cases h with
  | non => exact .non
  | bl x => exact .bl x
  | int i => exact .int i
  | str x => exact .str x
  | flt x => exact .flt x
  | lst q => exact .lst (e _ _ q)
  | frz q => exact .frz (e _ _ q)
  | tup q => exact .tup (e _ _ q)
  | dK q => exact .dK (e _ _ q)
  | dT q => exact .dT (e _ _ q)
  | ins q c a b d f => exact .ins (e _ _ q) c a b d f
theorem TyX.ex {K : PySem.W.Frag} {H H' : Hp} (e : Ex H H') {v : V} {t : Value} (h : TyX K H v t) : TyX K H' v t := by
  cases h with
  | base q => exact .base (TyOf.ex e q)
  | byt b => exact .byt b
  | set q => exact .set (e _ _ q)
  | kList q c => exact .kList q c
  | kTuple q c => exact .kTuple q c
  | kDict q c => exact .kDict q c
  | fTuple q => exact .fTuple (e _ _ q)
  | fDict q => exact .fDict (e _ _ q)
theorem NotWhole.ex {K : PySem.W.Frag} {H H' : Hp} (e : Ex H H') {v : V} (h : NotWhole K H v) : NotWhole K H' v := by
  obtain ⟨t, k1, k2, a, b, c, d⟩ := h
  exact ⟨t, k1, k2, TyX.ex e a, b, c, d⟩
theorem Asked.ex {K : PySem.W.Frag} {H H' : Hp} (e : Ex H H') {lo hi : Int} {v : V} {b : Bool} (h : Asked K H lo hi v b) : Asked K H' lo hi v b := by
  cases h with
  | int n => exact .int n
  | odd q => exact .odd (NotWhole.ex e q)
/-- things asked one by one -/
inductive AskedAll (K : PySem.W.Frag) (H : Hp) (lo hi : Int) : List V → List Bool → Prop
  | nil : AskedAll K H lo hi [] []
  | cons {v : V} {b : Bool} {vs : List V} {bs : List Bool} : Asked K H lo hi v b → AskedAll K H lo hi vs bs → AskedAll K H lo hi (v :: vs) (b :: bs)
theorem AskedAll.length {K : PySem.W.Frag} {H : Hp} {lo hi : Int} : ∀ {vs : List V} {bs : List Bool}, AskedAll K H lo hi vs bs → vs.length = bs.length
  | _, _, .nil => rfl
  | _, _, .cons _ t => by rw [List.length_cons, List.length_cons, t.length]
theorem AskedAll.get {K : PySem.W.Frag} {H : Hp} {lo hi : Int} : ∀ {vs : List V} {bs : List Bool} {i : Nat} {v : V}, AskedAll K H lo hi vs bs → vs[i]? = some v → ∃ b, bs[i]? = some b ∧ Asked K H lo hi v b
  | _, _, 0, _, .cons a _, h => by simp at h; subst h; exact ⟨_, rfl, a⟩
  | _, _, i + 1, _, .cons _ t, h => by obtain ⟨b, h1, h2⟩ := t.get (i := i) (by simpa using h); exact ⟨b, by simpa using h1, h2⟩
theorem AskedAll.ints {K : PySem.W.Frag} {H : Hp} {lo hi : Int} : ∀ {ns : List Int}, (∀ n ∈ ns, lo ≤ n ∧ n ≤ hi) → AskedAll K H lo hi (ns.map V.int) (ns.map fun _ => true)
  | [], _ => .nil
  | n :: ns, h => .cons (by have := Asked.int (K := K) (H := H) (lo := lo) (hi := hi) n; rwa [decide_eq_true (h n List.mem_cons_self)] at this) (AskedAll.ints fun m hm => h m (List.mem_cons_of_mem _ hm))
/-- whether a thing is a row of bytes: a list or tuple, each of its items a whole number from 0 to 255 -/
inductive RowAsk (K : PySem.W.Frag) (H : Hp) : V → Bool → Prop
  | lst {l : Addr} {xs : List V} {bs : List Bool} (h : H l = some (.lst xs)) (a : AskedAll K H 0 255 xs bs) (hz : xs.length ≤ sizeLine) : RowAsk K H (.ref l) (bs.all id)
  | tup {l : Addr} {xs : List V} {bs : List Bool} (h : H l = some (.tup xs)) (a : AskedAll K H 0 255 xs bs) (hz : xs.length ≤ sizeLine) : RowAsk K H (.ref l) (bs.all id)
  | not {v : V} {t : Value} (ty : TyX K H v t) (k : PySem.W.kitAny K t [.type "list", .type "tuple"] = some false) : RowAsk K H v false
end Z

set_option maxRecDepth 100000
set_option maxHeartbeats 4000000
namespace Z
open PySem PySem.Spec PyProof.Rows L2
open Evl (Ex)
section
variable {X : Cx} {σ : Z.St} {H : Hp} {a b e o : Expr} {st : Stmt} {D : Ends} {p p1 p2 p3 pos apos : Pos} {Q : VK}
/-- a statement cut behind top_name -/
theorem scut (R : Z.St → Hp → Prop) (h : wS X st { D with nx := R } σ H) (q : ∀ σ' H', R σ' H' → D.nx σ' H') : wS X st D σ H :=
  h.imp q (fun _ _ z => z) (fun _ _ z => z) fun _ _ z => z
theorem vcut (R : VK) (h : wE X e σ H R) (q : ∀ v H', R v H' → Q v H') : wE X e σ H Q := h.imp q
/-! ### list(range(..)), l.clear(), x in a tuple or list -/
theorem zlrg1 (hc : X.calm = true) (hg1 : Gl X "list") (hm1 : X.mg "list" = none) (hg2 : Gl X "range") (hm2 : X.mg "range" = none)
    (h : wE X a σ H fun x H1 => ∃ n, x = .int n ∧ RgOk 0 n ∧ ∀ q H2, H1 q = none → Ex H1 H2 → H2 q = some (.lst (rgV 0 n)) → Q (.ref q) H2)
    (na : starEach [.Call (.Name "range" p1) [a] [] p2] X.env = (false, eval (.Call (.Name "range" p1) [a] [] p2) X.env) :: starEach [] X.env := by rfl) (nb : starEach [a] X.env = (false, eval a X.env) :: starEach [] X.env := by rfl) :
    wE X (.Call (.Name "list" p) [.Call (.Name "range" p1) [a] [] p2] [] pos) σ H Q := by
  refine ofE (pe_listRg hc hg1 hm1 (prg_1 hg2 hm2 sE nb) na) ?_
  exact h.imp fun x H1 ⟨n, e, ok, q⟩ => ⟨n, e, ok, fun l hl => q l _ hl (Ex.new hl) upd_same⟩
theorem zclr (h : wE X o σ H fun x H1 => ∃ l xs, x = .ref l ∧ H1 l = some (.lst xs) ∧ Q .non (upd H1 l (.lst [])))
    (he : ∀ t : TE, PE X o t → PE X (.Call (.Attribute o "clear" apos) [] [] pos) (tBM0 X.K "list" rClear t) := by intro t ht; exact pe_bm0 PySem.F.plainAttrs_list PySem.F.slot_list_clear PySem.F.type_list_clear mt_clear ht) : wE X (.Call (.Attribute o "clear" apos) [] [] pos) σ H Q := by
  refine ofE (he _ sE) ⟨fun pins s I => thn (h.run pins s I) fun u s1 ⟨x, H1, I1, r1, l, xs, ex, hl, q⟩ => ⟨x, H1, I1, r1, ?_⟩⟩
  subst ex
  exact ⟨.inl ⟨rfl, xs, SqL.of hl⟩, l, xs, rfl, rfl, hl, q⟩
theorem oinF {x : V} {l : Addr} {xs : List V} (hp : SqL X.K H l xs ∨ SqT X.K H l xs) (fx : flatV x = true) (fs : xs.all flatV = true) (h : Q (.bl (inV x xs)) H) : wO X (compareOp .In) x (.ref l) H Q := ofO op_in_seq ⟨l, xs, rfl, hp, fx, fs, h⟩
theorem oninF {x : V} {l : Addr} {xs : List V} (hp : SqL X.K H l xs ∨ SqT X.K H l xs) (fx : flatV x = true) (fs : xs.all flatV = true) (h : Q (.bl (!inV x xs)) H) : wO X (compareOp .NotIn) x (.ref l) H Q := ofO op_notIn_seq ⟨l, xs, rfl, hp, fx, fs, h⟩
/-- x in a tuple of data -/
theorem oninT {k : Nat} {x y : V} {d : PyData} {ds : List PyData} (hr : Room k X.A) (hx : Dp X.K H x d) (hy : Dp X.K H y (.tuple ds)) (s1 : SeqAt.shaped d = true) (s2 : SeqAt.shaped (.tuple ds) = true) (hd : PyData.depthAll ds ≤ 60) (h : Q (.bl (!ds.any fun z => PyData.eqv z d)) H) : wO X (compareOp .NotIn) x y H Q := by
  refine ⟨fun pins s σ v u I rx ry => ?_⟩
  obtain ⟨as, r1⟩ := Dp.reads I d x v hx rx
  obtain ⟨bs, r2⟩ := Dp.reads I (.tuple ds) y u hy ry
  exact SeqAt.notIn_tuple_reads r2 r1 (SeqAt.canLay_of_shaped s2) (SeqAt.canLay_of_shaped s1) (by have := hr.units; have := Nat.min_le_left (PyData.depthAll ds) d.depth; omega) ⟨.bl _, H, I, rfl, h⟩
end
end Z

set_option maxRecDepth 100000
set_option maxHeartbeats 4000000
namespace Z
open PySem PySem.Spec PyProof.Rows L2
open Evl (Ex)
/-! ### comprehensions whose items are made anew: G j ws: what is known of the items ws after j turns -/
theorem del_ex (H : Hp) (L : Addr) : Ex (del H L) H := fun b o e => by
  by_cases h : b = L
  · subst h; rw [del_same] at e; cases e
  · rw [del_ne h] at e; exact e
theorem del_mono {H H' : Hp} {L : Addr} (h : ∀ b o, b ≠ L → H b = some o → H' b = some o) : Ex (del H L) (del H' L) := fun b o e => by
  by_cases hb : b = L
  · subst hb; rw [del_same] at e; cases e
  · rw [del_ne hb] at e ⊢; exact h b o hb e
theorem del_at {H : Hp} {L b : Addr} {o : HO} (h : H b = some o) (n : b ≠ L) : del H L b = some o := by rw [del_ne n]; exact h
theorem ne_new {H : Hp} {L b : Addr} {o : HO} (h : H L = some o) (n : H b = none) : b ≠ L := fun e => by rw [e, h] at n; cases n
section
variable {X : Cx} {σ : Z.St} {H : Hp} {elt tg l a b : Expr} {ifs : List Expr} {scope : Scope} {Q : VK}
abbrev turnG (X : Cx) (scope : Scope) (tg : Expr) (ifs : List Expr) (elt : Expr) (vs : List Nat) (G : Nat → List V → Hp → Prop) (L : Addr) (ws : List V) (j : Nat) (x : V) (σ : Z.St) (H : Hp) : Prop :=
  bG X scope tg x (wipe σ vs) H fun σ2 H2 => wipe σ2 vs = wipe σ vs ∧ Ex H H2 ∧ bTs X scope ifs σ2 H2 fun b H3 => if b = true then bE X scope elt σ2 H3 fun y H4 => ws.length < sizeLine ∧ Ex H H4 ∧ G (j + 1) (ws ++ [y]) (del H4 L) else Ex H H3 ∧ G (j + 1) ws (del H3 L)
theorem turnG_of {G : Nat → List V → Hp → Prop} (hG : ∀ j ws H H', G j ws H → Ex H H' → G j ws H') {j : Nat} {x : V} {vs : List Nat} {L : Addr} {ws : List V} {H1 : Hp} (hL : H1 L = none) (hd : Ex H1 H) (hacc : H L = some (.lst ws)) (h : turnG X scope tg ifs elt vs G L ws j x σ H) :
    turnB X scope tg ifs elt vs L x σ H fun H' => Ex H1 H' ∧ ∃ ws, H' L = some (.lst ws) ∧ G (j + 1) ws (del H' L) := by
  refine bG.imp h fun σ2 H2 ⟨w, e2, q⟩ => ⟨w, q.imp fun b H3 q3 => ?_⟩
  cases b with
  | false =>
    rw [if_neg Bool.false_ne_true] at q3 ⊢
    exact ⟨hd.trans q3.1, ws, q3.1 _ _ hacc, q3.2⟩
  | true =>
    rw [if_pos rfl] at q3 ⊢
    refine q3.imp fun y H4 ⟨hs, e4, g⟩ => ⟨ws, e4 _ _ hacc, hs, fun b o e => ?_, _, upd_same, hG _ _ _ _ g (del_mono fun b o n e => by rw [upd_ne n]; exact e)⟩
    have n : b ≠ L := fun z => by rw [z, hL] at e; cases e
    rw [upd_ne n]
    exact e4 _ _ (hd _ _ e)
theorem tnL {xs : List V} {vs : List Nat} (G : Nat → List V → Hp → Prop) (hG : ∀ j ws H H', G j ws H → Ex H H' → G j ws H') (h0 : ∀ H, G 0 [] H)
    (h : wE X l σ H fun x H1 => ∃ r, x = .ref r ∧ SqL X.K H1 r xs ∧ (∀ j x H' L ws, xs[j]? = some x → Ex H1 H' → H1 L = none → H' L = some (.lst ws) → G j ws (del H' L) → turnG X scope tg ifs elt vs G L ws j x σ H') ∧ ∀ L H' ws, H1 L = none → Ex H1 H' → H' L = some (.lst ws) → G xs.length ws H' → Q (.ref L) H') :
    tLc (iList X.K (wE X l)) (bG X scope tg) (bTs X scope ifs) (bE X scope elt) vs σ H Q :=
  ⟨fun pins s I => thn (h.run pins s I) fun u s1 ⟨x, H1, I1, r, p, ex, hq, q2, q3⟩ => ⟨x, H1, I1, r, p, ex, ⟨xs, hq⟩, fun L hL =>
    lc_list (fun j H' => Ex H1 H' ∧ ∃ ws, H' L = some (.lst ws) ∧ G j ws (del H' L)) ⟨Ex.new hL, [], upd_same, h0 _⟩ (fun i H' _ z => Evl.ex_l z.1 hq) (fun i x H' hx ⟨e, ws, hw, g⟩ => turnG_of (G := G) hG hL e hw (q2 i x H' L ws hx e hL hw g)) fun H' ⟨e, ws, hw, g⟩ => q3 L H' ws hL e hw (hG _ _ _ _ g (del_ex _ _))⟩⟩
theorem tnT {xs : List V} {vs : List Nat} (G : Nat → List V → Hp → Prop) (hG : ∀ j ws H H', G j ws H → Ex H H' → G j ws H') (h0 : ∀ H, G 0 [] H)
    (h : wE X l σ H fun x H1 => ∃ r, x = .ref r ∧ SqT X.K H1 r xs ∧ (∀ j x H' L ws, xs[j]? = some x → Ex H1 H' → H1 L = none → H' L = some (.lst ws) → G j ws (del H' L) → turnG X scope tg ifs elt vs G L ws j x σ H') ∧ ∀ L H' ws, H1 L = none → Ex H1 H' → H' L = some (.lst ws) → G xs.length ws H' → Q (.ref L) H') :
    tLc (iTup X.K (wE X l)) (bG X scope tg) (bTs X scope ifs) (bE X scope elt) vs σ H Q :=
  ⟨fun pins s I => thn (h.run pins s I) fun u s1 ⟨x, H1, I1, r, p, ex, hq, q2, q3⟩ => ⟨x, H1, I1, r, p, ex, ⟨xs, hq⟩, fun L hL =>
    lc_tup (fun j H' => Ex H1 H' ∧ ∃ ws, H' L = some (.lst ws) ∧ G j ws (del H' L)) ⟨Ex.new hL, [], upd_same, h0 _⟩ (fun i H' _ z => Evl.ex_t z.1 hq) (fun i x H' hx ⟨e, ws, hw, g⟩ => turnG_of (G := G) hG hL e hw (q2 i x H' L ws hx e hL hw g)) fun H' ⟨e, ws, hw, g⟩ => q3 L H' ws hL e hw (hG _ _ _ _ g (del_ex _ _))⟩⟩
theorem tnR1 {n : Int} {vs : List Nat} (G : Nat → List V → Hp → Prop) (hG : ∀ j ws H H', G j ws H → Ex H H' → G j ws H') (h0 : ∀ H, G 0 [] H)
    (h : wA X [a] σ H fun x H1 => x = [.int n] ∧ n < 2 ^ 62 ∧ -(2 ^ 62) ≤ n ∧ (∀ (j : Nat) H' L ws, (j : Int) < n → Ex H1 H' → H1 L = none → H' L = some (.lst ws) → G j ws (del H' L) → turnG X scope tg ifs elt vs G L ws j (.int (j : Int)) σ H') ∧ ∀ L H' ws, H1 L = none → Ex H1 H' → H' L = some (.lst ws) → G n.toNat ws H' → Q (.ref L) H') :
    tLc (iRng1 (wA X [a])) (bG X scope tg) (bTs X scope ifs) (bE X scope elt) vs σ H Q :=
  ⟨fun ps pins s I => thn (h.run ps pins s I) fun us s' ⟨x, H1, J, r, e, h1, h2, q2, q3⟩ => ⟨x, H1, J, r, n, e, h2, h1, fun L hL =>
    lc_range (fun j H' => Ex H1 H' ∧ ∃ ws, H' L = some (.lst ws) ∧ G j ws (del H' L)) ⟨Ex.new hL, [], upd_same, h0 _⟩ (fun i H' hi ⟨e, ws, hw, g⟩ => by rw [Int.zero_add]; exact turnG_of (G := G) hG hL e hw (q2 i H' L ws (by omega) e hL hw g)) fun H' ⟨e, ws, hw, g⟩ => q3 L H' ws hL e hw (hG _ _ _ _ g (del_ex _ _))⟩⟩
end
/-! ### lists of rows -/
inductive RowsAt (H : Hp) : List V → List (List Int) → Prop
  | nil : RowsAt H [] []
  | cons {l : Addr} {xs : List Int} {vs : List V} {ls : List (List Int)} : H l = some (.lst (xs.map V.int)) → RowsAt H vs ls → RowsAt H (.ref l :: vs) (xs :: ls)
theorem RowsAt.ex {H H' : Hp} (e : Ex H H') : ∀ {vs : List V} {ls : List (List Int)}, RowsAt H vs ls → RowsAt H' vs ls
  | _, _, .nil => .nil
  | _, _, .cons h t => .cons (e _ _ h) (t.ex e)
theorem RowsAt.length {H : Hp} : ∀ {vs : List V} {ls : List (List Int)}, RowsAt H vs ls → vs.length = ls.length
  | _, _, .nil => rfl
  | _, _, .cons _ t => by rw [List.length_cons, List.length_cons, t.length]
theorem RowsAt.get {H : Hp} : ∀ {vs : List V} {ls : List (List Int)} {i : Nat} {v : V}, RowsAt H vs ls → vs[i]? = some v → ∃ l xs, v = .ref l ∧ ls[i]? = some xs ∧ H l = some (.lst (xs.map V.int))
  | _, _, 0, _, .cons h _, e => by simp at e; exact ⟨_, _, e.symm, rfl, h⟩
  | _, _, i + 1, _, .cons _ t, e => by obtain ⟨l, xs, e1, e2, e3⟩ := t.get (i := i) (by simpa using e); exact ⟨l, xs, e1, by simpa using e2, e3⟩
theorem RowsAt.app {H : Hp} : ∀ {vs us : List V} {ls ms : List (List Int)}, RowsAt H vs ls → RowsAt H us ms → RowsAt H (vs ++ us) (ls ++ ms)
  | _, _, _, _, .nil, g => g
  | _, _, _, _, .cons h t, g => .cons h (t.app g)
theorem RowsAt.one {H : Hp} {vs : List V} {ls : List (List Int)} {l : Addr} {xs : List Int} (h : RowsAt H vs ls) (g : H l = some (.lst (xs.map V.int))) : RowsAt H (vs ++ [.ref l]) (ls ++ [xs]) := h.app (.cons g .nil)
theorem take_map_succ {α β : Type} {f : α → β} {ks : List α} {j : Nat} {k : α} (h : ks[j]? = some k) : (ks.take (j + 1)).map f = (ks.take j).map f ++ [f k] := by
  rw [List.take_add_one, h, List.map_append]
  rfl
end Z

set_option maxRecDepth 100000
set_option maxHeartbeats 4000000
namespace K05
open PySem PySem.Spec PyProof.Rows L2 Z
/-! ### the text by places -/
def top (i : Nat) : Stmt := PySem.Challenge.pw_formkin_k05_kept_rows.main.body.getD i (.Pass ⟨0, 0, 0, 0⟩)
abbrev s_BadBook_init : Stmt := inClass (top 4) 0
abbrev N_BadBook_init : List Str := ["self", "place", "why"]
theorem sc_BadBook_init : FnScope N_BadBook_init ["self", "place", "why"] (defScope s_BadBook_init) := ⟨rfl, rfl, rfl, by decide +kernel, rfl, by decide +kernel, by decide +kernel⟩
abbrev s_BadValue_init : Stmt := inClass (top 5) 0
abbrev N_BadValue_init : List Str := ["self", "path"]
theorem sc_BadValue_init : FnScope N_BadValue_init ["self", "path"] (defScope s_BadValue_init) := ⟨rfl, rfl, rfl, by decide +kernel, rfl, by decide +kernel, by decide +kernel⟩
abbrev s_BadText_init : Stmt := inClass (top 6) 0
abbrev N_BadText_init : List Str := ["self", "place"]
theorem sc_BadText_init : FnScope N_BadText_init ["self", "place"] (defScope s_BadText_init) := ⟨rfl, rfl, rfl, by decide +kernel, rfl, by decide +kernel, by decide +kernel⟩
abbrev s_BadWire_init : Stmt := inClass (top 7) 0
abbrev N_BadWire_init : List Str := ["self", "place", "why"]
theorem sc_BadWire_init : FnScope N_BadWire_init ["self", "place", "why"] (defScope s_BadWire_init) := ⟨rfl, rfl, rfl, by decide +kernel, rfl, by decide +kernel, by decide +kernel⟩
abbrev s_NotKin_init : Stmt := inClass (top 9) 0
abbrev N_NotKin_init : List Str := ["self", "form", "number"]
theorem sc_NotKin_init : FnScope N_NotKin_init ["self", "form", "number"] (defScope s_NotKin_init) := ⟨rfl, rfl, rfl, by decide +kernel, rfl, by decide +kernel, by decide +kernel⟩
abbrev s_is_whole : Stmt := top 13
abbrev N_is_whole : List Str := ["thing"]
theorem sc_is_whole : FnScope N_is_whole ["thing"] (defScope s_is_whole) := ⟨rfl, rfl, rfl, by decide +kernel, rfl, by decide +kernel, by decide +kernel⟩
abbrev s_is_among : Stmt := top 14
abbrev N_is_among : List Str := ["thing", "least", "most"]
theorem sc_is_among : FnScope N_is_among ["thing", "least", "most"] (defScope s_is_among) := ⟨rfl, rfl, rfl, by decide +kernel, rfl, by decide +kernel, by decide +kernel⟩
abbrev s_need_row : Stmt := top 24
abbrev N_need_row : List Str := ["row", "byte"]
theorem sc_need_row : FnScope N_need_row ["row"] (defScope s_need_row) := ⟨rfl, rfl, rfl, by decide +kernel, rfl, by decide +kernel, by decide +kernel⟩
abbrev s_need_number : Stmt := top 25
abbrev N_need_number : List Str := ["number", "least", "most"]
theorem sc_need_number : FnScope N_need_number ["number", "least", "most"] (defScope s_need_number) := ⟨rfl, rfl, rfl, by decide +kernel, rfl, by decide +kernel, by decide +kernel⟩
abbrev s_number_row : Stmt := top 26
abbrev N_number_row : List Str := ["number", "row"]
theorem sc_number_row : FnScope N_number_row ["number"] (defScope s_number_row) := ⟨rfl, rfl, rfl, by decide +kernel, rfl, by decide +kernel, by decide +kernel⟩
abbrev s_number_at : Stmt := top 27
abbrev N_number_at : List Str := ["row", "at", "end", "number", "place", "byte"]
theorem sc_number_at : FnScope N_number_at ["row", "at", "end"] (defScope s_number_at) := ⟨rfl, rfl, rfl, by decide +kernel, rfl, by decide +kernel, by decide +kernel⟩
abbrev s_check : Stmt := top 28
abbrev N_check : List Str := ["row", "found", "byte", "turn", "out"]
theorem sc_check : FnScope N_check ["row"] (defScope s_check) := ⟨rfl, rfl, rfl, by decide +kernel, rfl, by decide +kernel, by decide +kernel⟩
abbrev s_framed : Stmt := top 31
abbrev N_framed : List Str := ["row", "whole", "found"]
theorem sc_framed : FnScope N_framed ["row"] (defScope s_framed) := ⟨rfl, rfl, rfl, by decide +kernel, rfl, by decide +kernel, by decide +kernel⟩
abbrev s_unframed : Stmt := top 32
abbrev N_unframed : List Str := ["row", "length", "at"]
theorem sc_unframed : FnScope N_unframed ["row"] (defScope s_unframed) := ⟨rfl, rfl, rfl, by decide +kernel, rfl, by decide +kernel, by decide +kernel⟩
abbrev s__law_cell_at : Stmt := top 34
abbrev N__law_cell_at : List Str := ["_law_script", "_law_k"]
theorem sc__law_cell_at : FnScope N__law_cell_at ["_law_script", "_law_k"] (defScope s__law_cell_at) := ⟨rfl, rfl, rfl, by decide +kernel, rfl, by decide +kernel, by decide +kernel⟩
abbrev s__law_mixed : Stmt := top 35
abbrev N__law_mixed : List Str := ["_law_number", "_law_k"]
theorem sc__law_mixed : FnScope N__law_mixed ["_law_number", "_law_k"] (defScope s__law_mixed) := ⟨rfl, rfl, rfl, by decide +kernel, rfl, by decide +kernel, by decide +kernel⟩
abbrev s__law_word : Stmt := top 36
abbrev N__law_word : List Str := ["_law_e", "_law_some", "_law_found", "_law_word_here", "_law_good"]
theorem sc__law_word : FnScope N__law_word ["_law_e"] (defScope s__law_word) := ⟨rfl, rfl, rfl, by decide +kernel, rfl, by decide +kernel, by decide +kernel⟩
abbrev s__law_at : Stmt := top 37
abbrev N__law_at : List Str := ["_law_e"]
theorem sc__law_at : FnScope N__law_at ["_law_e"] (defScope s__law_at) := ⟨rfl, rfl, rfl, by decide +kernel, rfl, by decide +kernel, by decide +kernel⟩
abbrev s__law_bytes : Stmt := top 38
abbrev N__law_bytes : List Str := ["_law_found", "_law_due_here", "_law_byte"]
theorem sc__law_bytes : FnScope N__law_bytes ["_law_found", "_law_due_here"] (defScope s__law_bytes) := ⟨rfl, rfl, rfl, by decide +kernel, rfl, by decide +kernel, by decide +kernel⟩
abbrev s__law_number_row : Stmt := top 39
abbrev N__law_number_row : List Str := ["_law_number", "_law_row"]
theorem sc__law_number_row : FnScope N__law_number_row ["_law_number"] (defScope s__law_number_row) := ⟨rfl, rfl, rfl, by decide +kernel, rfl, by decide +kernel, by decide +kernel⟩
abbrev s__law_check : Stmt := top 40
abbrev N__law_check : List Str := ["_law_row", "_law_found", "_law_byte", "_law_k", "_law_out"]
theorem sc__law_check : FnScope N__law_check ["_law_row"] (defScope s__law_check) := ⟨rfl, rfl, rfl, by decide +kernel, rfl, by decide +kernel, by decide +kernel⟩
abbrev s__law_frame : Stmt := top 41
abbrev N__law_frame : List Str := ["_law_row", "_law_whole", "_law_found"]
theorem sc__law_frame : FnScope N__law_frame ["_law_row"] (defScope s__law_frame) := ⟨rfl, rfl, rfl, by decide +kernel, rfl, by decide +kernel, by decide +kernel⟩
abbrev s__law_due : Stmt := top 42
abbrev N__law_due : List Str := ["_law_row", "_law_length", "_law_power", "_law_place", "_law_byte"]
theorem sc__law_due : FnScope N__law_due ["_law_row"] (defScope s__law_due) := ⟨rfl, rfl, rfl, by decide +kernel, rfl, by decide +kernel, by decide +kernel⟩
abbrev s__law_told : Stmt := top 43
abbrev N__law_told : List Str := ["_law_thing", "_law_e"]
theorem sc__law_told : FnScope N__law_told ["_law_thing"] (defScope s__law_told) := ⟨rfl, rfl, rfl, by decide +kernel, rfl, by decide +kernel, by decide +kernel⟩
abbrev s__law_frame_refused : Stmt := top 44
abbrev N__law_frame_refused : List Str := ["_law_thing", "_law_e"]
theorem sc__law_frame_refused : FnScope N__law_frame_refused ["_law_thing"] (defScope s__law_frame_refused) := ⟨rfl, rfl, rfl, by decide +kernel, rfl, by decide +kernel, by decide +kernel⟩
abbrev s__law_turned : Stmt := top 45
abbrev N__law_turned : List Str := ["_law_row", "_law_bit", "_law_found"]
theorem sc__law_turned : FnScope N__law_turned ["_law_row", "_law_bit"] (defScope s__law_turned) := ⟨rfl, rfl, rfl, by decide +kernel, rfl, by decide +kernel, by decide +kernel⟩
abbrev s_law : Stmt := top 46
abbrev N_law : List Str := ["_law_script", "_law_cell", "_law_more", "_law_size", "_law_row", "_law_handed", "_law_kept", "_law_turn", "_law_found", "_law_told_here", "_law_bits", "_law_spoilt", "_law_ends", "_law_one", "_law_asked", "_law_odd", "_law_j", "_law_bit", "_law_end"]
theorem sc_law : FnScope N_law ["_law_script"] (defScope s_law) := ⟨rfl, rfl, rfl, by decide +kernel, rfl, by decide +kernel, by decide +kernel⟩
/-! ### facts of the written part -/
def fa_0 : List He.Fa := [.free "ValueError",
  .free "all",
  .free "bool",
  .free "enumerate",
  .free "int",
  .free "isinstance",
  .free "len",
  .free "list",
  .free "range",
  .free "tuple",
  .int "MOST_NUMBER" 115792089237316195423570985008687907853269984665640564039457584007913129639935,
  .int "LOW" 127,
  .int "MORE" 128,
  .int "BYTE" 255,
  .int "LAST_BYTE" 36,
  .int "MOST_LAST" 15,
  .int "FIRST_CHECK" 65535,
  .int "STEP" 4129,
  .int "MOST_LENGTH" 30000,
  .glo "is_whole",
  .glo "is_among",
  .glo "need_row",
  .glo "need_number",
  .glo "number_row",
  .glo "number_at",
  .glo "check",
  .glo "framed",
  .glo "unframed",
  .glo "_law_cell_at",
  .glo "_law_mixed"]
def fa_1 : List He.Fa := [.glo "_law_word",
  .glo "_law_at",
  .glo "_law_bytes",
  .glo "_law_number_row",
  .glo "_law_check",
  .glo "_law_frame",
  .glo "_law_due",
  .glo "_law_told",
  .glo "_law_frame_refused",
  .glo "_law_turned",
  .glo "law",
  .glo "FormError",
  .glo "BadNumber",
  .glo "BadRow",
  .glo "BadBook",
  .glo "BadValue",
  .glo "BadText",
  .glo "BadWire",
  .glo "BadCheck",
  .glo "NotKin",
  .glo "NoKey",
  .glo "BadVersion",
  .exc "BadRow",
  .exm "BadRow" "FormError" true,
  .exc "BadNumber",
  .exm "BadNumber" "FormError" true,
  .exm "BadWire" "FormError" true,
  .exc "BadCheck",
  .exm "BadCheck" "FormError" true]
abbrev fa : List He.Fa := fa_0 ++ fa_1
def fn_0 : List He.DefD := [⟨("BadBook", some "__init__"), "__init__", "BadBook.__init__", defArgs s_BadBook_init, defBody s_BadBook_init, defScope s_BadBook_init, [], []⟩,
  ⟨("BadValue", some "__init__"), "__init__", "BadValue.__init__", defArgs s_BadValue_init, defBody s_BadValue_init, defScope s_BadValue_init, [], []⟩,
  ⟨("BadText", some "__init__"), "__init__", "BadText.__init__", defArgs s_BadText_init, defBody s_BadText_init, defScope s_BadText_init, [], []⟩,
  ⟨("BadWire", some "__init__"), "__init__", "BadWire.__init__", defArgs s_BadWire_init, defBody s_BadWire_init, defScope s_BadWire_init, [], []⟩,
  ⟨("NotKin", some "__init__"), "__init__", "NotKin.__init__", defArgs s_NotKin_init, defBody s_NotKin_init, defScope s_NotKin_init, [], []⟩,
  ⟨("is_whole", none), "is_whole", "is_whole", defArgs s_is_whole, defBody s_is_whole, defScope s_is_whole, [], []⟩,
  ⟨("is_among", none), "is_among", "is_among", defArgs s_is_among, defBody s_is_among, defScope s_is_among, [], []⟩,
  ⟨("need_row", none), "need_row", "need_row", defArgs s_need_row, defBody s_need_row, defScope s_need_row, [], []⟩,
  ⟨("need_number", none), "need_number", "need_number", defArgs s_need_number, defBody s_need_number, defScope s_need_number, [], []⟩,
  ⟨("number_row", none), "number_row", "number_row", defArgs s_number_row, defBody s_number_row, defScope s_number_row, [], []⟩,
  ⟨("number_at", none), "number_at", "number_at", defArgs s_number_at, defBody s_number_at, defScope s_number_at, [], []⟩,
  ⟨("check", none), "check", "check", defArgs s_check, defBody s_check, defScope s_check, [], []⟩,
  ⟨("framed", none), "framed", "framed", defArgs s_framed, defBody s_framed, defScope s_framed, [], []⟩,
  ⟨("unframed", none), "unframed", "unframed", defArgs s_unframed, defBody s_unframed, defScope s_unframed, [], []⟩,
  ⟨("_law_cell_at", none), "_law_cell_at", "_law_cell_at", defArgs s__law_cell_at, defBody s__law_cell_at, defScope s__law_cell_at, [], []⟩,
  ⟨("_law_mixed", none), "_law_mixed", "_law_mixed", defArgs s__law_mixed, defBody s__law_mixed, defScope s__law_mixed, [], []⟩,
  ⟨("_law_word", none), "_law_word", "_law_word", defArgs s__law_word, defBody s__law_word, defScope s__law_word, [], []⟩,
  ⟨("_law_at", none), "_law_at", "_law_at", defArgs s__law_at, defBody s__law_at, defScope s__law_at, [], []⟩,
  ⟨("_law_bytes", none), "_law_bytes", "_law_bytes", defArgs s__law_bytes, defBody s__law_bytes, defScope s__law_bytes, [], []⟩,
  ⟨("_law_number_row", none), "_law_number_row", "_law_number_row", defArgs s__law_number_row, defBody s__law_number_row, defScope s__law_number_row, [], []⟩,
  ⟨("_law_check", none), "_law_check", "_law_check", defArgs s__law_check, defBody s__law_check, defScope s__law_check, [], []⟩,
  ⟨("_law_frame", none), "_law_frame", "_law_frame", defArgs s__law_frame, defBody s__law_frame, defScope s__law_frame, [], []⟩,
  ⟨("_law_due", none), "_law_due", "_law_due", defArgs s__law_due, defBody s__law_due, defScope s__law_due, [], []⟩,
  ⟨("_law_told", none), "_law_told", "_law_told", defArgs s__law_told, defBody s__law_told, defScope s__law_told, [], []⟩,
  ⟨("_law_frame_refused", none), "_law_frame_refused", "_law_frame_refused", defArgs s__law_frame_refused, defBody s__law_frame_refused, defScope s__law_frame_refused, [], []⟩,
  ⟨("_law_turned", none), "_law_turned", "_law_turned", defArgs s__law_turned, defBody s__law_turned, defScope s__law_turned, [], []⟩,
  ⟨("law", none), "law", "law", defArgs s_law, defBody s_law, defScope s_law, [], []⟩]
abbrev fn : List He.DefD := fn_0
def fz_0 : List Fz := [.xc "BadRow",
  .kit "BadRow" "FormError" true,
  .kit "BadRow" "BadNumber" false,
  .kit "BadRow" "BadRow" true,
  .kit "BadRow" "BadBook" false,
  .kit "BadRow" "BadValue" false,
  .kit "BadRow" "BadText" false,
  .kit "BadRow" "BadWire" false,
  .kit "BadRow" "BadCheck" false,
  .kit "BadRow" "NotKin" false,
  .kit "BadRow" "NoKey" false,
  .kit "BadRow" "BadVersion" false,
  .kitT "BadRow" "ValueError" true,
  .xc "BadNumber",
  .kit "BadNumber" "FormError" true,
  .kit "BadNumber" "BadNumber" true,
  .kit "BadNumber" "BadRow" false,
  .kit "BadNumber" "BadBook" false,
  .kit "BadNumber" "BadValue" false,
  .kit "BadNumber" "BadText" false,
  .kit "BadNumber" "BadWire" false,
  .kit "BadNumber" "BadCheck" false,
  .kit "BadNumber" "NotKin" false,
  .kit "BadNumber" "NoKey" false,
  .kit "BadNumber" "BadVersion" false,
  .kitT "BadNumber" "ValueError" true,
  .xc "BadWire",
  .oex "BadWire",
  .noa "BadWire" "place",
  .noa "BadWire" "why"]
def fz_1 : List Fz := [.kit "BadWire" "FormError" true,
  .kit "BadWire" "BadNumber" false,
  .kit "BadWire" "BadRow" false,
  .kit "BadWire" "BadBook" false,
  .kit "BadWire" "BadValue" false,
  .kit "BadWire" "BadText" false,
  .kit "BadWire" "BadWire" true,
  .kit "BadWire" "BadCheck" false,
  .kit "BadWire" "NotKin" false,
  .kit "BadWire" "NoKey" false,
  .kit "BadWire" "BadVersion" false,
  .kitT "BadWire" "ValueError" true,
  .xc "BadCheck",
  .kit "BadCheck" "FormError" true,
  .kit "BadCheck" "BadNumber" false,
  .kit "BadCheck" "BadRow" false,
  .kit "BadCheck" "BadBook" false,
  .kit "BadCheck" "BadValue" false,
  .kit "BadCheck" "BadText" false,
  .kit "BadCheck" "BadWire" false,
  .kit "BadCheck" "BadCheck" true,
  .kit "BadCheck" "NotKin" false,
  .kit "BadCheck" "NoKey" false,
  .kit "BadCheck" "BadVersion" false,
  .kitT "BadCheck" "ValueError" true]
abbrev fz : List Fz := fz_0 ++ fz_1
abbrev exB (K : PySem.W.Frag) : Bool := fz.all fun f => f.ok K
structure Txt (K : PySem.W.Frag) (mg : Str → Option Value) : Prop where
  n_ValueError : mg "ValueError" = none
  n_all : mg "all" = none
  n_bool : mg "bool" = none
  n_enumerate : mg "enumerate" = none
  n_int : mg "int" = none
  n_isinstance : mg "isinstance" = none
  n_len : mg "len" = none
  n_list : mg "list" = none
  n_range : mg "range" = none
  n_tuple : mg "tuple" = none
  g_MOST_NUMBER : ∃ u, mg "MOST_NUMBER" = some u ∧ RelV (.int 115792089237316195423570985008687907853269984665640564039457584007913129639935) u
  g_LOW : ∃ u, mg "LOW" = some u ∧ RelV (.int 127) u
  g_MORE : ∃ u, mg "MORE" = some u ∧ RelV (.int 128) u
  g_BYTE : ∃ u, mg "BYTE" = some u ∧ RelV (.int 255) u
  g_LAST_BYTE : ∃ u, mg "LAST_BYTE" = some u ∧ RelV (.int 36) u
  g_MOST_LAST : ∃ u, mg "MOST_LAST" = some u ∧ RelV (.int 15) u
  g_FIRST_CHECK : ∃ u, mg "FIRST_CHECK" = some u ∧ RelV (.int 65535) u
  g_STEP : ∃ u, mg "STEP" = some u ∧ RelV (.int 4129) u
  g_MOST_LENGTH : ∃ u, mg "MOST_LENGTH" = some u ∧ RelV (.int 30000) u
  f_BadBook_init : ∃ fd, FunD K "__init__" "BadBook.__init__" (defArgs s_BadBook_init) (defBody s_BadBook_init) (defScope s_BadBook_init) [] [] (He.fAd K ("BadBook", some "__init__")) fd
  f_BadValue_init : ∃ fd, FunD K "__init__" "BadValue.__init__" (defArgs s_BadValue_init) (defBody s_BadValue_init) (defScope s_BadValue_init) [] [] (He.fAd K ("BadValue", some "__init__")) fd
  f_BadText_init : ∃ fd, FunD K "__init__" "BadText.__init__" (defArgs s_BadText_init) (defBody s_BadText_init) (defScope s_BadText_init) [] [] (He.fAd K ("BadText", some "__init__")) fd
  f_BadWire_init : ∃ fd, FunD K "__init__" "BadWire.__init__" (defArgs s_BadWire_init) (defBody s_BadWire_init) (defScope s_BadWire_init) [] [] (He.fAd K ("BadWire", some "__init__")) fd
  f_NotKin_init : ∃ fd, FunD K "__init__" "NotKin.__init__" (defArgs s_NotKin_init) (defBody s_NotKin_init) (defScope s_NotKin_init) [] [] (He.fAd K ("NotKin", some "__init__")) fd
  f_is_whole : ∃ fd, FunD K "is_whole" "is_whole" (defArgs s_is_whole) (defBody s_is_whole) (defScope s_is_whole) [] [] (He.fAd K ("is_whole", none)) fd
  m_is_whole : mg "is_whole" = some (.ref (He.fAd K ("is_whole", none)))
  f_is_among : ∃ fd, FunD K "is_among" "is_among" (defArgs s_is_among) (defBody s_is_among) (defScope s_is_among) [] [] (He.fAd K ("is_among", none)) fd
  m_is_among : mg "is_among" = some (.ref (He.fAd K ("is_among", none)))
  f_need_row : ∃ fd, FunD K "need_row" "need_row" (defArgs s_need_row) (defBody s_need_row) (defScope s_need_row) [] [] (He.fAd K ("need_row", none)) fd
  m_need_row : mg "need_row" = some (.ref (He.fAd K ("need_row", none)))
  f_need_number : ∃ fd, FunD K "need_number" "need_number" (defArgs s_need_number) (defBody s_need_number) (defScope s_need_number) [] [] (He.fAd K ("need_number", none)) fd
  m_need_number : mg "need_number" = some (.ref (He.fAd K ("need_number", none)))
  f_number_row : ∃ fd, FunD K "number_row" "number_row" (defArgs s_number_row) (defBody s_number_row) (defScope s_number_row) [] [] (He.fAd K ("number_row", none)) fd
  m_number_row : mg "number_row" = some (.ref (He.fAd K ("number_row", none)))
  f_number_at : ∃ fd, FunD K "number_at" "number_at" (defArgs s_number_at) (defBody s_number_at) (defScope s_number_at) [] [] (He.fAd K ("number_at", none)) fd
  m_number_at : mg "number_at" = some (.ref (He.fAd K ("number_at", none)))
  f_check : ∃ fd, FunD K "check" "check" (defArgs s_check) (defBody s_check) (defScope s_check) [] [] (He.fAd K ("check", none)) fd
  m_check : mg "check" = some (.ref (He.fAd K ("check", none)))
  f_framed : ∃ fd, FunD K "framed" "framed" (defArgs s_framed) (defBody s_framed) (defScope s_framed) [] [] (He.fAd K ("framed", none)) fd
  m_framed : mg "framed" = some (.ref (He.fAd K ("framed", none)))
  f_unframed : ∃ fd, FunD K "unframed" "unframed" (defArgs s_unframed) (defBody s_unframed) (defScope s_unframed) [] [] (He.fAd K ("unframed", none)) fd
  m_unframed : mg "unframed" = some (.ref (He.fAd K ("unframed", none)))
  f__law_cell_at : ∃ fd, FunD K "_law_cell_at" "_law_cell_at" (defArgs s__law_cell_at) (defBody s__law_cell_at) (defScope s__law_cell_at) [] [] (He.fAd K ("_law_cell_at", none)) fd
  m__law_cell_at : mg "_law_cell_at" = some (.ref (He.fAd K ("_law_cell_at", none)))
  f__law_mixed : ∃ fd, FunD K "_law_mixed" "_law_mixed" (defArgs s__law_mixed) (defBody s__law_mixed) (defScope s__law_mixed) [] [] (He.fAd K ("_law_mixed", none)) fd
  m__law_mixed : mg "_law_mixed" = some (.ref (He.fAd K ("_law_mixed", none)))
  f__law_word : ∃ fd, FunD K "_law_word" "_law_word" (defArgs s__law_word) (defBody s__law_word) (defScope s__law_word) [] [] (He.fAd K ("_law_word", none)) fd
  m__law_word : mg "_law_word" = some (.ref (He.fAd K ("_law_word", none)))
  f__law_at : ∃ fd, FunD K "_law_at" "_law_at" (defArgs s__law_at) (defBody s__law_at) (defScope s__law_at) [] [] (He.fAd K ("_law_at", none)) fd
  m__law_at : mg "_law_at" = some (.ref (He.fAd K ("_law_at", none)))
  f__law_bytes : ∃ fd, FunD K "_law_bytes" "_law_bytes" (defArgs s__law_bytes) (defBody s__law_bytes) (defScope s__law_bytes) [] [] (He.fAd K ("_law_bytes", none)) fd
  m__law_bytes : mg "_law_bytes" = some (.ref (He.fAd K ("_law_bytes", none)))
  f__law_number_row : ∃ fd, FunD K "_law_number_row" "_law_number_row" (defArgs s__law_number_row) (defBody s__law_number_row) (defScope s__law_number_row) [] [] (He.fAd K ("_law_number_row", none)) fd
  m__law_number_row : mg "_law_number_row" = some (.ref (He.fAd K ("_law_number_row", none)))
  f__law_check : ∃ fd, FunD K "_law_check" "_law_check" (defArgs s__law_check) (defBody s__law_check) (defScope s__law_check) [] [] (He.fAd K ("_law_check", none)) fd
  m__law_check : mg "_law_check" = some (.ref (He.fAd K ("_law_check", none)))
  f__law_frame : ∃ fd, FunD K "_law_frame" "_law_frame" (defArgs s__law_frame) (defBody s__law_frame) (defScope s__law_frame) [] [] (He.fAd K ("_law_frame", none)) fd
  m__law_frame : mg "_law_frame" = some (.ref (He.fAd K ("_law_frame", none)))
  f__law_due : ∃ fd, FunD K "_law_due" "_law_due" (defArgs s__law_due) (defBody s__law_due) (defScope s__law_due) [] [] (He.fAd K ("_law_due", none)) fd
  m__law_due : mg "_law_due" = some (.ref (He.fAd K ("_law_due", none)))
  f__law_told : ∃ fd, FunD K "_law_told" "_law_told" (defArgs s__law_told) (defBody s__law_told) (defScope s__law_told) [] [] (He.fAd K ("_law_told", none)) fd
  m__law_told : mg "_law_told" = some (.ref (He.fAd K ("_law_told", none)))
  f__law_frame_refused : ∃ fd, FunD K "_law_frame_refused" "_law_frame_refused" (defArgs s__law_frame_refused) (defBody s__law_frame_refused) (defScope s__law_frame_refused) [] [] (He.fAd K ("_law_frame_refused", none)) fd
  m__law_frame_refused : mg "_law_frame_refused" = some (.ref (He.fAd K ("_law_frame_refused", none)))
  f__law_turned : ∃ fd, FunD K "_law_turned" "_law_turned" (defArgs s__law_turned) (defBody s__law_turned) (defScope s__law_turned) [] [] (He.fAd K ("_law_turned", none)) fd
  m__law_turned : mg "_law_turned" = some (.ref (He.fAd K ("_law_turned", none)))
  f_law : ∃ fd, FunD K "law" "law" (defArgs s_law) (defBody s_law) (defScope s_law) [] [] (He.fAd K ("law", none)) fd
  m_law : mg "law" = some (.ref (He.fAd K ("law", none)))
  m_FormError : mg "FormError" = some (.ref (He.ga K "FormError"))
  m_BadNumber : mg "BadNumber" = some (.ref (He.ga K "BadNumber"))
  m_BadRow : mg "BadRow" = some (.ref (He.ga K "BadRow"))
  m_BadBook : mg "BadBook" = some (.ref (He.ga K "BadBook"))
  m_BadValue : mg "BadValue" = some (.ref (He.ga K "BadValue"))
  m_BadText : mg "BadText" = some (.ref (He.ga K "BadText"))
  m_BadWire : mg "BadWire" = some (.ref (He.ga K "BadWire"))
  m_BadCheck : mg "BadCheck" = some (.ref (He.ga K "BadCheck"))
  m_NotKin : mg "NotKin" = some (.ref (He.ga K "NotKin"))
  m_NoKey : mg "NoKey" = some (.ref (He.ga K "NoKey"))
  m_BadVersion : mg "BadVersion" = some (.ref (He.ga K "BadVersion"))
  x_BadRow : XcC K (He.ga K "BadRow")
  e_BadRow : PySem.W.excIn K (He.ga K "BadRow") He.veBase "ValueError.__new__" = true ∧ PySem.W.keepIn K (.ref (He.ga K "BadRow")) = true ∧ PySem.W.subIn K (.ref (He.ga K "BadRow")) (.type "BaseException") = some true ∧ PySem.W.typeIn K (.ref (He.ga K "BadRow")) = some (.type "type")
  k_BadRow_FormError : PySem.W.kitOne K (.ref (He.ga K "BadRow")) (.ref (He.ga K "FormError")) = some true
  k_BadRow_BadNumber : PySem.W.kitOne K (.ref (He.ga K "BadRow")) (.ref (He.ga K "BadNumber")) = some false
  k_BadRow_BadRow : PySem.W.kitOne K (.ref (He.ga K "BadRow")) (.ref (He.ga K "BadRow")) = some true
  k_BadRow_BadBook : PySem.W.kitOne K (.ref (He.ga K "BadRow")) (.ref (He.ga K "BadBook")) = some false
  k_BadRow_BadValue : PySem.W.kitOne K (.ref (He.ga K "BadRow")) (.ref (He.ga K "BadValue")) = some false
  k_BadRow_BadText : PySem.W.kitOne K (.ref (He.ga K "BadRow")) (.ref (He.ga K "BadText")) = some false
  k_BadRow_BadWire : PySem.W.kitOne K (.ref (He.ga K "BadRow")) (.ref (He.ga K "BadWire")) = some false
  k_BadRow_BadCheck : PySem.W.kitOne K (.ref (He.ga K "BadRow")) (.ref (He.ga K "BadCheck")) = some false
  k_BadRow_NotKin : PySem.W.kitOne K (.ref (He.ga K "BadRow")) (.ref (He.ga K "NotKin")) = some false
  k_BadRow_NoKey : PySem.W.kitOne K (.ref (He.ga K "BadRow")) (.ref (He.ga K "NoKey")) = some false
  k_BadRow_BadVersion : PySem.W.kitOne K (.ref (He.ga K "BadRow")) (.ref (He.ga K "BadVersion")) = some false
  k_BadRow_ValueError : PySem.W.kitOne K (.ref (He.ga K "BadRow")) (.type "ValueError") = some true
  t_BadRow_FormError : PySem.W.exmOne K (.ref (He.ga K "BadRow")) (.ref (He.ga K "FormError")) = some true
  x_BadNumber : XcC K (He.ga K "BadNumber")
  e_BadNumber : PySem.W.excIn K (He.ga K "BadNumber") He.veBase "ValueError.__new__" = true ∧ PySem.W.keepIn K (.ref (He.ga K "BadNumber")) = true ∧ PySem.W.subIn K (.ref (He.ga K "BadNumber")) (.type "BaseException") = some true ∧ PySem.W.typeIn K (.ref (He.ga K "BadNumber")) = some (.type "type")
  k_BadNumber_FormError : PySem.W.kitOne K (.ref (He.ga K "BadNumber")) (.ref (He.ga K "FormError")) = some true
  k_BadNumber_BadNumber : PySem.W.kitOne K (.ref (He.ga K "BadNumber")) (.ref (He.ga K "BadNumber")) = some true
  k_BadNumber_BadRow : PySem.W.kitOne K (.ref (He.ga K "BadNumber")) (.ref (He.ga K "BadRow")) = some false
  k_BadNumber_BadBook : PySem.W.kitOne K (.ref (He.ga K "BadNumber")) (.ref (He.ga K "BadBook")) = some false
  k_BadNumber_BadValue : PySem.W.kitOne K (.ref (He.ga K "BadNumber")) (.ref (He.ga K "BadValue")) = some false
  k_BadNumber_BadText : PySem.W.kitOne K (.ref (He.ga K "BadNumber")) (.ref (He.ga K "BadText")) = some false
  k_BadNumber_BadWire : PySem.W.kitOne K (.ref (He.ga K "BadNumber")) (.ref (He.ga K "BadWire")) = some false
  k_BadNumber_BadCheck : PySem.W.kitOne K (.ref (He.ga K "BadNumber")) (.ref (He.ga K "BadCheck")) = some false
  k_BadNumber_NotKin : PySem.W.kitOne K (.ref (He.ga K "BadNumber")) (.ref (He.ga K "NotKin")) = some false
  k_BadNumber_NoKey : PySem.W.kitOne K (.ref (He.ga K "BadNumber")) (.ref (He.ga K "NoKey")) = some false
  k_BadNumber_BadVersion : PySem.W.kitOne K (.ref (He.ga K "BadNumber")) (.ref (He.ga K "BadVersion")) = some false
  k_BadNumber_ValueError : PySem.W.kitOne K (.ref (He.ga K "BadNumber")) (.type "ValueError") = some true
  t_BadNumber_FormError : PySem.W.exmOne K (.ref (He.ga K "BadNumber")) (.ref (He.ga K "FormError")) = some true
  x_BadWire : XcC K (He.ga K "BadWire")
  o_BadWire : OxC K (He.ga K "BadWire") (He.fAd K ("BadWire", some "__init__"))
  a_BadWire_place : PySem.W.findIn K (.ref (He.ga K "BadWire")) "place" = some none
  a_BadWire_why : PySem.W.findIn K (.ref (He.ga K "BadWire")) "why" = some none
  k_BadWire_FormError : PySem.W.kitOne K (.ref (He.ga K "BadWire")) (.ref (He.ga K "FormError")) = some true
  k_BadWire_BadNumber : PySem.W.kitOne K (.ref (He.ga K "BadWire")) (.ref (He.ga K "BadNumber")) = some false
  k_BadWire_BadRow : PySem.W.kitOne K (.ref (He.ga K "BadWire")) (.ref (He.ga K "BadRow")) = some false
  k_BadWire_BadBook : PySem.W.kitOne K (.ref (He.ga K "BadWire")) (.ref (He.ga K "BadBook")) = some false
  k_BadWire_BadValue : PySem.W.kitOne K (.ref (He.ga K "BadWire")) (.ref (He.ga K "BadValue")) = some false
  k_BadWire_BadText : PySem.W.kitOne K (.ref (He.ga K "BadWire")) (.ref (He.ga K "BadText")) = some false
  k_BadWire_BadWire : PySem.W.kitOne K (.ref (He.ga K "BadWire")) (.ref (He.ga K "BadWire")) = some true
  k_BadWire_BadCheck : PySem.W.kitOne K (.ref (He.ga K "BadWire")) (.ref (He.ga K "BadCheck")) = some false
  k_BadWire_NotKin : PySem.W.kitOne K (.ref (He.ga K "BadWire")) (.ref (He.ga K "NotKin")) = some false
  k_BadWire_NoKey : PySem.W.kitOne K (.ref (He.ga K "BadWire")) (.ref (He.ga K "NoKey")) = some false
  k_BadWire_BadVersion : PySem.W.kitOne K (.ref (He.ga K "BadWire")) (.ref (He.ga K "BadVersion")) = some false
  k_BadWire_ValueError : PySem.W.kitOne K (.ref (He.ga K "BadWire")) (.type "ValueError") = some true
  t_BadWire_FormError : PySem.W.exmOne K (.ref (He.ga K "BadWire")) (.ref (He.ga K "FormError")) = some true
  x_BadCheck : XcC K (He.ga K "BadCheck")
  e_BadCheck : PySem.W.excIn K (He.ga K "BadCheck") He.veBase "ValueError.__new__" = true ∧ PySem.W.keepIn K (.ref (He.ga K "BadCheck")) = true ∧ PySem.W.subIn K (.ref (He.ga K "BadCheck")) (.type "BaseException") = some true ∧ PySem.W.typeIn K (.ref (He.ga K "BadCheck")) = some (.type "type")
  k_BadCheck_FormError : PySem.W.kitOne K (.ref (He.ga K "BadCheck")) (.ref (He.ga K "FormError")) = some true
  k_BadCheck_BadNumber : PySem.W.kitOne K (.ref (He.ga K "BadCheck")) (.ref (He.ga K "BadNumber")) = some false
  k_BadCheck_BadRow : PySem.W.kitOne K (.ref (He.ga K "BadCheck")) (.ref (He.ga K "BadRow")) = some false
  k_BadCheck_BadBook : PySem.W.kitOne K (.ref (He.ga K "BadCheck")) (.ref (He.ga K "BadBook")) = some false
  k_BadCheck_BadValue : PySem.W.kitOne K (.ref (He.ga K "BadCheck")) (.ref (He.ga K "BadValue")) = some false
  k_BadCheck_BadText : PySem.W.kitOne K (.ref (He.ga K "BadCheck")) (.ref (He.ga K "BadText")) = some false
  k_BadCheck_BadWire : PySem.W.kitOne K (.ref (He.ga K "BadCheck")) (.ref (He.ga K "BadWire")) = some false
  k_BadCheck_BadCheck : PySem.W.kitOne K (.ref (He.ga K "BadCheck")) (.ref (He.ga K "BadCheck")) = some true
  k_BadCheck_NotKin : PySem.W.kitOne K (.ref (He.ga K "BadCheck")) (.ref (He.ga K "NotKin")) = some false
  k_BadCheck_NoKey : PySem.W.kitOne K (.ref (He.ga K "BadCheck")) (.ref (He.ga K "NoKey")) = some false
  k_BadCheck_BadVersion : PySem.W.kitOne K (.ref (He.ga K "BadCheck")) (.ref (He.ga K "BadVersion")) = some false
  k_BadCheck_ValueError : PySem.W.kitOne K (.ref (He.ga K "BadCheck")) (.type "ValueError") = some true
  t_BadCheck_FormError : PySem.W.exmOne K (.ref (He.ga K "BadCheck")) (.ref (He.ga K "FormError")) = some true
theorem txt_of {w : World} {h : Heap} {K : PySem.W.Frag} {mg : Str → Option Value} (X : K.In h) (G : h.Ns mainGlobals mg) (c : He.SaysX fa fn [] [] exB w h K) : Txt K mg where
  n_ValueError := He.free_ok X G (c.t.d.fact 0 (f := .free "ValueError") rfl)
  n_all := He.free_ok X G (c.t.d.fact 1 (f := .free "all") rfl)
  n_bool := He.free_ok X G (c.t.d.fact 2 (f := .free "bool") rfl)
  n_enumerate := He.free_ok X G (c.t.d.fact 3 (f := .free "enumerate") rfl)
  n_int := He.free_ok X G (c.t.d.fact 4 (f := .free "int") rfl)
  n_isinstance := He.free_ok X G (c.t.d.fact 5 (f := .free "isinstance") rfl)
  n_len := He.free_ok X G (c.t.d.fact 6 (f := .free "len") rfl)
  n_list := He.free_ok X G (c.t.d.fact 7 (f := .free "list") rfl)
  n_range := He.free_ok X G (c.t.d.fact 8 (f := .free "range") rfl)
  n_tuple := He.free_ok X G (c.t.d.fact 9 (f := .free "tuple") rfl)
  g_MOST_NUMBER := (by obtain ⟨t, e⟩ := He.int_ok X G (c.t.d.fact 10 (f := .int "MOST_NUMBER" 115792089237316195423570985008687907853269984665640564039457584007913129639935) rfl); exact ⟨_, e, t, rfl⟩)
  g_LOW := (by obtain ⟨t, e⟩ := He.int_ok X G (c.t.d.fact 11 (f := .int "LOW" 127) rfl); exact ⟨_, e, t, rfl⟩)
  g_MORE := (by obtain ⟨t, e⟩ := He.int_ok X G (c.t.d.fact 12 (f := .int "MORE" 128) rfl); exact ⟨_, e, t, rfl⟩)
  g_BYTE := (by obtain ⟨t, e⟩ := He.int_ok X G (c.t.d.fact 13 (f := .int "BYTE" 255) rfl); exact ⟨_, e, t, rfl⟩)
  g_LAST_BYTE := (by obtain ⟨t, e⟩ := He.int_ok X G (c.t.d.fact 14 (f := .int "LAST_BYTE" 36) rfl); exact ⟨_, e, t, rfl⟩)
  g_MOST_LAST := (by obtain ⟨t, e⟩ := He.int_ok X G (c.t.d.fact 15 (f := .int "MOST_LAST" 15) rfl); exact ⟨_, e, t, rfl⟩)
  g_FIRST_CHECK := (by obtain ⟨t, e⟩ := He.int_ok X G (c.t.d.fact 16 (f := .int "FIRST_CHECK" 65535) rfl); exact ⟨_, e, t, rfl⟩)
  g_STEP := (by obtain ⟨t, e⟩ := He.int_ok X G (c.t.d.fact 17 (f := .int "STEP" 4129) rfl); exact ⟨_, e, t, rfl⟩)
  g_MOST_LENGTH := (by obtain ⟨t, e⟩ := He.int_ok X G (c.t.d.fact 18 (f := .int "MOST_LENGTH" 30000) rfl); exact ⟨_, e, t, rfl⟩)
  f_BadBook_init := c.t.d.def_ 0 rfl
  f_BadValue_init := c.t.d.def_ 1 rfl
  f_BadText_init := c.t.d.def_ 2 rfl
  f_BadWire_init := c.t.d.def_ 3 rfl
  f_NotKin_init := c.t.d.def_ 4 rfl
  f_is_whole := c.t.d.def_ 5 rfl
  m_is_whole := He.glo_ok X G (c.t.d.fact 19 (f := .glo "is_whole") rfl)
  f_is_among := c.t.d.def_ 6 rfl
  m_is_among := He.glo_ok X G (c.t.d.fact 20 (f := .glo "is_among") rfl)
  f_need_row := c.t.d.def_ 7 rfl
  m_need_row := He.glo_ok X G (c.t.d.fact 21 (f := .glo "need_row") rfl)
  f_need_number := c.t.d.def_ 8 rfl
  m_need_number := He.glo_ok X G (c.t.d.fact 22 (f := .glo "need_number") rfl)
  f_number_row := c.t.d.def_ 9 rfl
  m_number_row := He.glo_ok X G (c.t.d.fact 23 (f := .glo "number_row") rfl)
  f_number_at := c.t.d.def_ 10 rfl
  m_number_at := He.glo_ok X G (c.t.d.fact 24 (f := .glo "number_at") rfl)
  f_check := c.t.d.def_ 11 rfl
  m_check := He.glo_ok X G (c.t.d.fact 25 (f := .glo "check") rfl)
  f_framed := c.t.d.def_ 12 rfl
  m_framed := He.glo_ok X G (c.t.d.fact 26 (f := .glo "framed") rfl)
  f_unframed := c.t.d.def_ 13 rfl
  m_unframed := He.glo_ok X G (c.t.d.fact 27 (f := .glo "unframed") rfl)
  f__law_cell_at := c.t.d.def_ 14 rfl
  m__law_cell_at := He.glo_ok X G (c.t.d.fact 28 (f := .glo "_law_cell_at") rfl)
  f__law_mixed := c.t.d.def_ 15 rfl
  m__law_mixed := He.glo_ok X G (c.t.d.fact 29 (f := .glo "_law_mixed") rfl)
  f__law_word := c.t.d.def_ 16 rfl
  m__law_word := He.glo_ok X G (c.t.d.fact 30 (f := .glo "_law_word") rfl)
  f__law_at := c.t.d.def_ 17 rfl
  m__law_at := He.glo_ok X G (c.t.d.fact 31 (f := .glo "_law_at") rfl)
  f__law_bytes := c.t.d.def_ 18 rfl
  m__law_bytes := He.glo_ok X G (c.t.d.fact 32 (f := .glo "_law_bytes") rfl)
  f__law_number_row := c.t.d.def_ 19 rfl
  m__law_number_row := He.glo_ok X G (c.t.d.fact 33 (f := .glo "_law_number_row") rfl)
  f__law_check := c.t.d.def_ 20 rfl
  m__law_check := He.glo_ok X G (c.t.d.fact 34 (f := .glo "_law_check") rfl)
  f__law_frame := c.t.d.def_ 21 rfl
  m__law_frame := He.glo_ok X G (c.t.d.fact 35 (f := .glo "_law_frame") rfl)
  f__law_due := c.t.d.def_ 22 rfl
  m__law_due := He.glo_ok X G (c.t.d.fact 36 (f := .glo "_law_due") rfl)
  f__law_told := c.t.d.def_ 23 rfl
  m__law_told := He.glo_ok X G (c.t.d.fact 37 (f := .glo "_law_told") rfl)
  f__law_frame_refused := c.t.d.def_ 24 rfl
  m__law_frame_refused := He.glo_ok X G (c.t.d.fact 38 (f := .glo "_law_frame_refused") rfl)
  f__law_turned := c.t.d.def_ 25 rfl
  m__law_turned := He.glo_ok X G (c.t.d.fact 39 (f := .glo "_law_turned") rfl)
  f_law := c.t.d.def_ 26 rfl
  m_law := He.glo_ok X G (c.t.d.fact 40 (f := .glo "law") rfl)
  m_FormError := He.glo_ok X G (c.t.d.fact 41 (f := .glo "FormError") rfl)
  m_BadNumber := He.glo_ok X G (c.t.d.fact 42 (f := .glo "BadNumber") rfl)
  m_BadRow := He.glo_ok X G (c.t.d.fact 43 (f := .glo "BadRow") rfl)
  m_BadBook := He.glo_ok X G (c.t.d.fact 44 (f := .glo "BadBook") rfl)
  m_BadValue := He.glo_ok X G (c.t.d.fact 45 (f := .glo "BadValue") rfl)
  m_BadText := He.glo_ok X G (c.t.d.fact 46 (f := .glo "BadText") rfl)
  m_BadWire := He.glo_ok X G (c.t.d.fact 47 (f := .glo "BadWire") rfl)
  m_BadCheck := He.glo_ok X G (c.t.d.fact 48 (f := .glo "BadCheck") rfl)
  m_NotKin := He.glo_ok X G (c.t.d.fact 49 (f := .glo "NotKin") rfl)
  m_NoKey := He.glo_ok X G (c.t.d.fact 50 (f := .glo "NoKey") rfl)
  m_BadVersion := He.glo_ok X G (c.t.d.fact 51 (f := .glo "BadVersion") rfl)
  x_BadRow := xc_ok (more_of c.more 0 (f := .xc "BadRow") rfl)
  e_BadRow := He.exc_ok (c.t.d.fact 52 (f := .exc "BadRow") rfl)
  k_BadRow_FormError := kit_ok (more_of c.more 1 (f := .kit "BadRow" "FormError" true) rfl)
  k_BadRow_BadNumber := kit_ok (more_of c.more 2 (f := .kit "BadRow" "BadNumber" false) rfl)
  k_BadRow_BadRow := kit_ok (more_of c.more 3 (f := .kit "BadRow" "BadRow" true) rfl)
  k_BadRow_BadBook := kit_ok (more_of c.more 4 (f := .kit "BadRow" "BadBook" false) rfl)
  k_BadRow_BadValue := kit_ok (more_of c.more 5 (f := .kit "BadRow" "BadValue" false) rfl)
  k_BadRow_BadText := kit_ok (more_of c.more 6 (f := .kit "BadRow" "BadText" false) rfl)
  k_BadRow_BadWire := kit_ok (more_of c.more 7 (f := .kit "BadRow" "BadWire" false) rfl)
  k_BadRow_BadCheck := kit_ok (more_of c.more 8 (f := .kit "BadRow" "BadCheck" false) rfl)
  k_BadRow_NotKin := kit_ok (more_of c.more 9 (f := .kit "BadRow" "NotKin" false) rfl)
  k_BadRow_NoKey := kit_ok (more_of c.more 10 (f := .kit "BadRow" "NoKey" false) rfl)
  k_BadRow_BadVersion := kit_ok (more_of c.more 11 (f := .kit "BadRow" "BadVersion" false) rfl)
  k_BadRow_ValueError := kitT_ok (more_of c.more 12 (f := .kitT "BadRow" "ValueError" true) rfl)
  t_BadRow_FormError := He.exm_ok (c.t.d.fact 53 (f := .exm "BadRow" "FormError" true) rfl)
  x_BadNumber := xc_ok (more_of c.more 13 (f := .xc "BadNumber") rfl)
  e_BadNumber := He.exc_ok (c.t.d.fact 54 (f := .exc "BadNumber") rfl)
  k_BadNumber_FormError := kit_ok (more_of c.more 14 (f := .kit "BadNumber" "FormError" true) rfl)
  k_BadNumber_BadNumber := kit_ok (more_of c.more 15 (f := .kit "BadNumber" "BadNumber" true) rfl)
  k_BadNumber_BadRow := kit_ok (more_of c.more 16 (f := .kit "BadNumber" "BadRow" false) rfl)
  k_BadNumber_BadBook := kit_ok (more_of c.more 17 (f := .kit "BadNumber" "BadBook" false) rfl)
  k_BadNumber_BadValue := kit_ok (more_of c.more 18 (f := .kit "BadNumber" "BadValue" false) rfl)
  k_BadNumber_BadText := kit_ok (more_of c.more 19 (f := .kit "BadNumber" "BadText" false) rfl)
  k_BadNumber_BadWire := kit_ok (more_of c.more 20 (f := .kit "BadNumber" "BadWire" false) rfl)
  k_BadNumber_BadCheck := kit_ok (more_of c.more 21 (f := .kit "BadNumber" "BadCheck" false) rfl)
  k_BadNumber_NotKin := kit_ok (more_of c.more 22 (f := .kit "BadNumber" "NotKin" false) rfl)
  k_BadNumber_NoKey := kit_ok (more_of c.more 23 (f := .kit "BadNumber" "NoKey" false) rfl)
  k_BadNumber_BadVersion := kit_ok (more_of c.more 24 (f := .kit "BadNumber" "BadVersion" false) rfl)
  k_BadNumber_ValueError := kitT_ok (more_of c.more 25 (f := .kitT "BadNumber" "ValueError" true) rfl)
  t_BadNumber_FormError := He.exm_ok (c.t.d.fact 55 (f := .exm "BadNumber" "FormError" true) rfl)
  x_BadWire := xc_ok (more_of c.more 26 (f := .xc "BadWire") rfl)
  o_BadWire := oex_ok (more_of c.more 27 (f := .oex "BadWire") rfl)
  a_BadWire_place := Z.noa_ok (more_of c.more 28 (f := .noa "BadWire" "place") rfl)
  a_BadWire_why := Z.noa_ok (more_of c.more 29 (f := .noa "BadWire" "why") rfl)
  k_BadWire_FormError := kit_ok (more_of c.more 30 (f := .kit "BadWire" "FormError" true) rfl)
  k_BadWire_BadNumber := kit_ok (more_of c.more 31 (f := .kit "BadWire" "BadNumber" false) rfl)
  k_BadWire_BadRow := kit_ok (more_of c.more 32 (f := .kit "BadWire" "BadRow" false) rfl)
  k_BadWire_BadBook := kit_ok (more_of c.more 33 (f := .kit "BadWire" "BadBook" false) rfl)
  k_BadWire_BadValue := kit_ok (more_of c.more 34 (f := .kit "BadWire" "BadValue" false) rfl)
  k_BadWire_BadText := kit_ok (more_of c.more 35 (f := .kit "BadWire" "BadText" false) rfl)
  k_BadWire_BadWire := kit_ok (more_of c.more 36 (f := .kit "BadWire" "BadWire" true) rfl)
  k_BadWire_BadCheck := kit_ok (more_of c.more 37 (f := .kit "BadWire" "BadCheck" false) rfl)
  k_BadWire_NotKin := kit_ok (more_of c.more 38 (f := .kit "BadWire" "NotKin" false) rfl)
  k_BadWire_NoKey := kit_ok (more_of c.more 39 (f := .kit "BadWire" "NoKey" false) rfl)
  k_BadWire_BadVersion := kit_ok (more_of c.more 40 (f := .kit "BadWire" "BadVersion" false) rfl)
  k_BadWire_ValueError := kitT_ok (more_of c.more 41 (f := .kitT "BadWire" "ValueError" true) rfl)
  t_BadWire_FormError := He.exm_ok (c.t.d.fact 56 (f := .exm "BadWire" "FormError" true) rfl)
  x_BadCheck := xc_ok (more_of c.more 42 (f := .xc "BadCheck") rfl)
  e_BadCheck := He.exc_ok (c.t.d.fact 57 (f := .exc "BadCheck") rfl)
  k_BadCheck_FormError := kit_ok (more_of c.more 43 (f := .kit "BadCheck" "FormError" true) rfl)
  k_BadCheck_BadNumber := kit_ok (more_of c.more 44 (f := .kit "BadCheck" "BadNumber" false) rfl)
  k_BadCheck_BadRow := kit_ok (more_of c.more 45 (f := .kit "BadCheck" "BadRow" false) rfl)
  k_BadCheck_BadBook := kit_ok (more_of c.more 46 (f := .kit "BadCheck" "BadBook" false) rfl)
  k_BadCheck_BadValue := kit_ok (more_of c.more 47 (f := .kit "BadCheck" "BadValue" false) rfl)
  k_BadCheck_BadText := kit_ok (more_of c.more 48 (f := .kit "BadCheck" "BadText" false) rfl)
  k_BadCheck_BadWire := kit_ok (more_of c.more 49 (f := .kit "BadCheck" "BadWire" false) rfl)
  k_BadCheck_BadCheck := kit_ok (more_of c.more 50 (f := .kit "BadCheck" "BadCheck" true) rfl)
  k_BadCheck_NotKin := kit_ok (more_of c.more 51 (f := .kit "BadCheck" "NotKin" false) rfl)
  k_BadCheck_NoKey := kit_ok (more_of c.more 52 (f := .kit "BadCheck" "NoKey" false) rfl)
  k_BadCheck_BadVersion := kit_ok (more_of c.more 53 (f := .kit "BadCheck" "BadVersion" false) rfl)
  k_BadCheck_ValueError := kitT_ok (more_of c.more 54 (f := .kitT "BadCheck" "ValueError" true) rfl)
  t_BadCheck_FormError := He.exm_ok (c.t.d.fact 58 (f := .exm "BadCheck" "FormError" true) rfl)
end K05

set_option maxRecDepth 100000
set_option maxHeartbeats 4000000
namespace K05
open PySem PySem.Spec PyProof.Rows L2 Z
open Evl (Ex)
/-! ### steps of the walk: one_sign: a heap grew into another; one_item: what stands at an address; one_place: a list or tuple to be read; leaf_len: arithmetic; tb_rel: one step; top_name: steps as far as they go -/
local macro_rules | `(tactic| got_up) => `(tactic| (refine Evl.Ex.trans (by assumption) ?_; first | assumption | exact Evl.Ex.refl _ | got_up))
local macro_rules | `(tactic| units_room) => `(tactic| (refine Evl.Ex.trans ?_ (by assumption); first | assumption | exact Evl.Ex.refl _ | units_room))
local macro_rules | `(tactic| one_sign) => `(tactic| first | assumption | exact Evl.Ex.refl _ | got_up | units_room)
local macro_rules | `(tactic| one_item) => `(tactic| first | assumption | exact upd_same | exact exa (by assumption) (by one_sign))
local macro_rules | `(tactic| one_place) => `(tactic| first | assumption | exact SqL.of (by assumption) | exact SqT.of (by assumption) | exact exl (by assumption) (by one_sign) | exact ext (by assumption) (by one_sign) | exact SqL.of (by one_item) | exact SqT.of (by one_item))
local macro_rules | `(tactic| leaf_len) => `(tactic| first | assumption | decide | omega)
local macro_rules | `(tactic| tb_rel) => `(tactic| first
  | ((with_reducible refine (?_ : wE _ _ _ _ _)); first
    | ((with_reducible refine (?_ : wE _ (.Name _ _) _ _ _)); first | refine zn (by rfl) (by first | exact Or.inl rfl | exact Or.inr (Or.inl rfl) | exact Or.inr (Or.inr rfl)) (by rfl) ?_ | refine zglob (by assumption) (by rfl) ?_ | refine zcls (by assumption) (by rfl) ?_ | refine zty (by assumption) (by first | exact bt_int | exact bt_bool | exact bt_str | exact bt_list | exact bt_tuple | exact bt_dict | exact bt_ValueError) (by rfl) ?_)
    | ((with_reducible refine (?_ : wE _ (.Constant _ _ _) _ _ _)); first | refine zint ?_ | refine zstr ?_ | refine zbl ?_ | refine znon ?_)
    | ((with_reducible refine (?_ : wE _ (.BinOp _ _ _ _) _ _ _)); refine zbin ?_)
    | ((with_reducible refine (?_ : wE _ (.Compare _ _ _ _) _ _ _)); first | refine zcmp (by rfl) ?_ | refine zchain ?_)
    | ((with_reducible refine (?_ : wE _ (.Dict [] [] _) _ _ _)); refine zdnew (fun _ _ _ _ _ => ?_))
    | ((with_reducible refine (?_ : wE _ (.Subscript _ (.Slice _ _ _ _) _) _ _ _)); refine zsl ?_)
    | ((with_reducible refine (?_ : wE _ (.Subscript _ _ _) _ _ _)); refine zix ?_)
    | ((with_reducible refine (?_ : wE _ (.Call (.Name "list" _) [.Call (.Name "range" _) [_] [] _] [] _) _ _ _)); refine zlrg1 rfl (by rfl) (by assumption) (by rfl) (by assumption) ?_)
    | ((with_reducible refine (?_ : wE _ (.Call (.Name _ _) _ _ _) _ _ _)); first
      | ((with_reducible refine (?_ : wE _ (.Call (.Name "len" _) _ _ _) _ _ _)); refine zbfn (by assumption) bt_len (by rfl) ?_)
      | ((with_reducible refine (?_ : wE _ (.Call (.Name "isinstance" _) _ _ _) _ _ _)); refine zbfn (by assumption) bt_isi (by rfl) ?_)
      | ((with_reducible refine (?_ : wE _ (.Call (.Name "min" _) _ _ _) _ _ _)); refine zbfn (by assumption) bt_min (by rfl) ?_)
      | ((with_reducible refine (?_ : wE _ (.Call (.Name "max" _) _ _ _) _ _ _)); refine zbfn (by assumption) bt_max (by rfl) ?_)
      | ((with_reducible refine (?_ : wE _ (.Call (.Name "list" _) _ _ _) _ _ _)); refine zbty (by assumption) bt_list (by rfl) ?_)
      | ((with_reducible refine (?_ : wE _ (.Call (.Name "tuple" _) _ _ _) _ _ _)); refine zbty (by assumption) bt_tuple (by rfl) ?_)
      | ((with_reducible refine (?_ : wE _ (.Call (.Name "int" _) _ _ _) _ _ _)); refine zbty (by assumption) bt_int (by rfl) ?_)
      | ((with_reducible refine (?_ : wE _ (.Call (.Name "abs" _) _ _ _) _ _ _)); refine zbfn (by assumption) bt_abs (by rfl) ?_)
      | ((with_reducible refine (?_ : wE _ (.Call (.Name "all" _) _ _ _) _ _ _)); refine zbfn (by assumption) bt_all (by rfl) ?_)
      | ((with_reducible refine (?_ : wE _ (.Call (.Name "sum" _) _ _ _) _ _ _)); refine zbfn (by assumption) bt_sum (by rfl) ?_)
      | ((with_reducible refine (?_ : wE _ (.Call (.Name "divmod" _) _ _ _) _ _ _)); refine zbfn (by assumption) bt_divmod (by rfl) ?_)
      | ((with_reducible refine (?_ : wE _ (.Call (.Name "ord" _) _ _ _) _ _ _)); refine zbfn (by assumption) bt_ord (by rfl) ?_))
    | ((with_reducible refine (?_ : wE _ (.IfExp _ _ _ _) _ _ _)); refine zif ?_)
    | ((with_reducible refine (?_ : wE _ (.Tuple _ _ _) _ _ _)); refine ztup ?_)
    | ((with_reducible refine (?_ : wE _ (.List _ _) _ _ _)); refine zlst ?_)
    | ((with_reducible refine (?_ : wE _ (.UnaryOp _ _ _) _ _ _)); first | refine znotV ?_ | refine zneg ?_)
    | ((with_reducible refine (?_ : wE _ (.BoolOp _ _ _) _ _ _)); first | refine zandV ?_ | refine zorV ?_ | refine zoneV ?_))
  | ((with_reducible refine (?_ : bE _ _ _ _ _ _)); refine ⟨fun _ _ _ _ _ => ?_⟩) | ((with_reducible refine (?_ : bG _ _ _ _ _ _ _)); refine ⟨fun _ _ _ _ _ => ?_⟩) | ((with_reducible refine (?_ : bTs _ _ _ _ _ _)); refine ⟨fun _ _ _ _ _ => ?_⟩)
  | ((with_reducible refine (?_ : hE _ _ _ _ _ _)); refine ⟨fun _ _ _ _ _ => ?_⟩) | ((with_reducible refine (?_ : hG _ _ _ _ _ _ _)); refine ⟨fun _ _ _ _ _ => ?_⟩) | ((with_reducible refine (?_ : hTs _ _ _ _ _ _)); refine ⟨fun _ _ _ _ _ => ?_⟩)
  | ((with_reducible refine (?_ : wP _ _ _ _ _)); first | refine pnon ?_ | refine psom ?_) | ((with_reducible refine (?_ : wSl _ _ _ _ _ _)); first | refine slL (by one_place) (fun _ _ _ _ _ => ?_) | refine slS (by assumption) ?_)
  | ((with_reducible refine (?_ : wTs _ _ _ _ _)); first | refine tsnil ?_ | refine tsone ?_)
  | ((with_reducible refine (?_ : wA _ _ _ _ _)); first | refine acons ?_ | refine anil ?_)
  | ((with_reducible refine (?_ : wO _ _ _ _ _ _)); first
    | ((with_reducible refine (?_ : wO _ (binaryOp .Add) _ _ _ _)); first | refine oadd ?_ | refine ocatE (by one_item) (by one_item) (Nat.le_of_ble_eq_true rfl) (fun _ _ _ _ _ => ?_))
    | ((with_reducible refine (?_ : wO _ (binaryOp .Sub) _ _ _ _)); first | refine osub ?_)
    | ((with_reducible refine (?_ : wO _ (binaryOp .Mult) _ _ _ _)); first | refine omul (by first | exact IntMulOk.of_right (by decide) | exact IntMulOk.of_left (by decide) | exact IntMulOk.of_right (intBits_le_64 (by omega) (by omega)) | exact IntMulOk.of_left (intBits_le_64 (by omega) (by omega))) ?_)
    | ((with_reducible refine (?_ : wO _ (binaryOp .Mod) _ _ _ _)); first | refine omod (by first | decide | omega) ?_)
    | ((with_reducible refine (?_ : wO _ (binaryOp .FloorDiv) _ _ _ _)); first | refine ofdiv ⟨by first | decide | omega, by decide⟩ ?_)
    | ((with_reducible refine (?_ : wO _ (binaryOp .BitAnd) _ _ _ _)); first | refine oand ?_)
    | ((with_reducible refine (?_ : wO _ (binaryOp .BitOr) _ _ _ _)); first | refine oor ?_)
    | ((with_reducible refine (?_ : wO _ (compareOp .Lt) _ _ _ _)); first | refine olt ?_)
    | ((with_reducible refine (?_ : wO _ (compareOp .LtE) _ _ _ _)); first | refine ole ?_)
    | ((with_reducible refine (?_ : wO _ (compareOp .Gt) _ _ _ _)); first | refine ogt ?_)
    | ((with_reducible refine (?_ : wO _ (compareOp .GtE) _ _ _ _)); first | refine oge ?_)
    | ((with_reducible refine (?_ : wO _ (compareOp .Eq) _ _ _ _)); first | refine oeqi ?_ | refine oeq (by rfl) ?_)
    | ((with_reducible refine (?_ : wO _ (compareOp .NotEq) _ _ _ _)); first | refine onei ?_ | refine one (by rfl) ?_)
    | ((with_reducible refine (?_ : wO _ (compareOp .In) _ _ _ _)); first | refine oin ?_)
    | ((with_reducible refine (?_ : wO _ (compareOp .NotIn) _ _ _ _)); first | refine onin ?_)
    | ((with_reducible refine (?_ : wO _ (compareOp .Is) _ _ _ _)); first | refine ois ?_)
    | ((with_reducible refine (?_ : wO _ (compareOp .IsNot) _ _ _ _)); first | refine onot ?_)
    | ((with_reducible refine (?_ : wO _ (binaryOp .RShift) _ _ _ _)); refine oshr (by first | decide | omega) ?_)
    | ((with_reducible refine (?_ : wO _ (binaryOp .BitXor) _ _ _ _)); refine oxor ?_)
    | ((with_reducible refine (?_ : wO _ (inplaceOp .BitXor) _ _ _ _)); refine ixor ?_)
    | ((with_reducible refine (?_ : wO _ (inplaceOp .RShift) _ _ _ _)); refine ishr (by first | decide | omega) ?_)
    | ((with_reducible refine (?_ : wO _ (inplaceOp .BitOr) _ _ _ _)); first | refine ior ?_)
    | ((with_reducible refine (?_ : wO _ (inplaceOp .Add) _ _ _ _)); first | refine iadd ?_))
  | ((with_reducible refine (?_ : wT _ _ _ _ _)); first
    | ((with_reducible refine (?_ : wT _ (.Compare _ _ _ _) _ _ _)); first | refine zcmpT (by rfl) ?_ | refine zchainT ?_)
    | ((with_reducible refine (?_ : wT _ (.UnaryOp _ _ _) _ _ _)); refine znotT ?_)
    | ((with_reducible refine (?_ : wT _ (.BoolOp _ _ _) _ _ _)); refine zW ?_)
    | refine zval ?_)
  | ((with_reducible refine (?_ : wW _ _ _ _ _)); first | refine zand ?_ | refine zor ?_ | refine zand1 ?_ | refine zor1 ?_)
  | ((with_reducible refine (?_ : wK _ _ _ _ _)); first
    | ((with_reducible refine (?_ : wK _ (.builtin "len") _ _ _)); first | refine klenL (by one_place) ?_ | refine klenT (by one_place) ?_ | refine klenS (by assumption) ?_)
    | ((with_reducible refine (?_ : wK _ (.builtin "isinstance") _ _ _)); first | refine kisE (by assumption) (by assumption) (by first | assumption | exact Xd.exx (by assumption) (by one_sign)) (by first | exact .own _ | exact .ty _) (by assumption) ?_ | refine kisi (.ty _) (by assumption) (by assumption) ?_ | refine kisi (.ty _) (.base (by first | exact .int _ | exact .bl _ | exact .str _ | exact .non | exact .tup (by one_item) | exact .lst (by one_item))) (kit_ty (r := true) (by rfl)) ?_ | refine kisi (.ty _) (.base (by first | exact .int _ | exact .bl _ | exact .str _ | exact .non | exact .tup (by one_item) | exact .lst (by one_item))) (kit_ty (r := false) (by rfl)) ?_)
    | ((with_reducible refine (?_ : wK _ (.builtin "divmod") _ _ _)); refine kdivmod ⟨by first | decide | omega, by decide⟩ (fun _ _ _ _ _ => ?_))
    | ((with_reducible refine (?_ : wK _ (.builtin "min") _ _ _)); refine kmin (by rfl) ?_)
    | ((with_reducible refine (?_ : wK _ (.builtin "max") _ _ _)); refine kmax (by rfl) ?_)
    | ((with_reducible refine (?_ : wK _ (.type "list") _ _ _)); first | refine klistL (by one_place) (fun _ _ _ _ _ => ?_) | refine klistT (by one_place) (fun _ _ _ _ _ => ?_))
    | ((with_reducible refine (?_ : wK _ (.type "tuple") _ _ _)); first | refine ktupL (by one_place) (fun _ _ _ _ _ => ?_)))
  | ((with_reducible refine (?_ : wS _ _ _ _ _)); first
    | ((with_reducible refine (?_ : wS _ (.Assign [.Name _ _] _ _) _ _ _)); refine sset' (by assumption) (by rfl) (by first | exact Or.inl rfl | exact Or.inr rfl) (by rfl) (by first | exact .inl rfl | exact .inr rfl) ?_)
    | ((with_reducible refine (?_ : wS _ (.AugAssign (.Name _ _) _ _ _) _ _ _)); refine saug' (by assumption) (by rfl) (by first | exact Or.inl rfl | exact Or.inr rfl) (by first | exact .inl rfl | exact .inr rfl) (by rfl) ?_)
    | ((with_reducible refine (?_ : wS _ (.Expr _ _) _ _ _)); refine sexp ?_)
    | ((with_reducible refine (?_ : wS _ (.Assign [.Tuple _ _ _] _ _) _ _ _)); refine sasg ?_) | ((with_reducible refine (?_ : wS _ (.Assign [.Subscript _ _ _] _ _) _ _ _)); refine sasg ?_)
    | refine sret ?_ | refine sif ?_ | refine sretN ?_ | refine spass ?_ | refine sbrk ?_ | refine scont ?_)
  | ((with_reducible refine (?_ : wG _ (.Name _ _) _ _ _ _)); refine gname' (by assumption) (by rfl) (by first | exact Or.inl rfl | exact Or.inr rfl) (by first | exact .inl rfl | exact .inr rfl) ?_)
  | ((with_reducible refine (?_ : wG _ (.Tuple _ _ _) _ _ _ _)); refine gtup rfl (by one_place) rfl ?_) | ((with_reducible refine (?_ : wG _ (.Subscript _ _ _) _ _ _ _)); refine gsub ?_)
  | ((with_reducible refine (?_ : wGs _ _ _ _ _ _)); first | refine gscons ?_ | refine gsnil ?_)
  | ((with_reducible refine (?_ : wB _ _ _ _ _)); first | refine bcons ?_ | refine bnil ?_)
  | refine ifT ?_ | refine ifF ?_ | refine ifd (fun _ => ?_) (fun _ => ?_) | refine ifnd (fun _ => ?_) (fun _ => ?_) | refine ⟨_, rfl, ?_⟩ | refine ⟨rfl, Evl.Ex.refl _, ?_⟩ | refine ⟨Nat.le_of_ble_eq_true rfl, fun _ _ _ _ _ => ?_⟩ | fail)
local macro_rules | `(tactic| top_name) => `(tactic| repeat' tb_rel)
local macro_rules | `(tactic| nest_fact) => `(tactic| first | exact ⟨(decide_eq_true (by omega)).symm, rfl⟩ | exact ⟨(decide_eq_false (by omega)).symm, rfl⟩ | exact ⟨decide_eq_decide.mpr (by omega), rfl⟩ | fail)
variable {P : Program} {w : World} {K : PySem.W.Frag} {mg : Str → Option Value} {base : Heap}
/-! ### a cell of the script, a cell mixed -/
def cellAt (ns : List Int) (k : Int) : Int := if k < (ns.length : Int) then (ns[k.toNat]?).getD 0 else 0
def sp_cell_at (K : PySem.W.Frag) : Sp := fun vs H Q _ => ∃ (a : Addr) (ns : List Int) (k : Int), vs = [.ref a, .int k] ∧ SqL K H a (ns.map V.int) ∧ 0 ≤ k ∧ Q (.int (cellAt ns k)) H
theorem atI_map {ns : List Int} {k : Int} (h0 : 0 ≤ k) (h : k < (ns.length : Int)) : atI (ns.map V.int) k = some (.int (cellAt ns k)) := by
  have e : k = ((k.toNat : Nat) : Int) := by omega
  have hl : k.toNat < ns.length := by omega
  rw [e]
  refine atI_nat ?_
  unfold cellAt
  rw [if_pos (by omega), List.getElem?_map, Int.toNat_natCast, List.getElem?_eq_getElem hl]
  rfl
theorem ok_cell_at (T : Txt K mg) : Gf P w K mg base 1 "_law_cell_at" [] (sp_cell_at K) := by
  refine gf_mk T.f__law_cell_at T.m__law_cell_at (fun _ _ _ _ _ _ us hl => match us, hl with | [_, _], _ => rfl) fun fd F => fn_mk F sc__law_cell_at (fun vs H Q E h => ?_) fun cd A outer s H vs Q E hr tk po h => ?_
  · obtain ⟨a, ns, k, rfl, _⟩ := h; rfl
  · obtain ⟨a, ns, k, rfl, hs, h0, q⟩ := h
    have n1 := T.n_len
    top_name
    · rename_i hk
      rw [List.length_map] at hk
      exact ixL hs (atI_map h0 hk) q
    · rename_i hk
      rw [List.length_map] at hk
      unfold cellAt at q
      rw [if_neg hk] at q
      exact q

/-- a number mixed -/
def mixed (n k : Int) : Int := (n % 2147483629 * 40692 + (k + 5) * (k + 5) * 30269) % 2147483399
theorem mixed_lo (c k : Int) : 0 ≤ mixed c k := Int.emod_nonneg _ (by decide)
theorem mixed_hi (c k : Int) : mixed c k < 2147483399 := Int.emod_lt_of_pos _ (by decide)
def sp_mixed : Sp := fun vs H Q _ => ∃ c k : Int, vs = [.int c, .int k] ∧ 0 ≤ k ∧ k < 100000 ∧ Q (.int (mixed c k)) H
theorem ok_mixed (T : Txt K mg) : Gf P w K mg base 1 "_law_mixed" [] sp_mixed := by
  refine gf_mk T.f__law_mixed T.m__law_mixed (fun _ _ _ _ _ _ us hl => match us, hl with | [_, _], _ => rfl) fun fd F => fn_mk F sc__law_mixed (fun vs H Q E h => ?_) fun cd A outer s H vs Q E hr tk po h => ?_
  · obtain ⟨c, k, rfl, _⟩ := h; rfl
  · obtain ⟨c, k, rfl, h0, h1, q⟩ := h
    top_name
    exact q
end K05

set_option maxRecDepth 100000
set_option maxHeartbeats 4000000
namespace K05
open PySem PySem.Spec PyProof.Rows L2 Z
open Evl (Ex)
/-! ### steps of the walk: one_sign: a heap grew into another; one_item: what stands at an address; one_place: a list or tuple to be read; leaf_len: arithmetic; tb_rel: one step; top_name: steps as far as they go -/
local macro_rules | `(tactic| got_up) => `(tactic| (refine Evl.Ex.trans (by assumption) ?_; first | assumption | exact Evl.Ex.refl _ | got_up))
local macro_rules | `(tactic| units_room) => `(tactic| (refine Evl.Ex.trans ?_ (by assumption); first | assumption | exact Evl.Ex.refl _ | units_room))
local macro_rules | `(tactic| one_sign) => `(tactic| first | assumption | exact Evl.Ex.refl _ | got_up | units_room)
local macro_rules | `(tactic| one_item) => `(tactic| first | assumption | exact upd_same | exact exa (by assumption) (by one_sign))
local macro_rules | `(tactic| one_place) => `(tactic| first | assumption | exact SqL.of (by assumption) | exact SqT.of (by assumption) | exact exl (by assumption) (by one_sign) | exact ext (by assumption) (by one_sign) | exact SqL.of (by one_item) | exact SqT.of (by one_item))
local macro_rules | `(tactic| leaf_len) => `(tactic| first | assumption | decide | omega)
local macro_rules | `(tactic| tb_rel) => `(tactic| first
  | ((with_reducible refine (?_ : wE _ _ _ _ _)); first
    | ((with_reducible refine (?_ : wE _ (.Name _ _) _ _ _)); first | refine zn (by rfl) (by first | exact Or.inl rfl | exact Or.inr (Or.inl rfl) | exact Or.inr (Or.inr rfl)) (by rfl) ?_ | refine zglob (by assumption) (by rfl) ?_ | refine zcls (by assumption) (by rfl) ?_ | refine zty (by assumption) (by first | exact bt_int | exact bt_bool | exact bt_str | exact bt_list | exact bt_tuple | exact bt_dict | exact bt_ValueError) (by rfl) ?_)
    | ((with_reducible refine (?_ : wE _ (.Constant _ _ _) _ _ _)); first | refine zint ?_ | refine zstr ?_ | refine zbl ?_ | refine znon ?_)
    | ((with_reducible refine (?_ : wE _ (.BinOp _ _ _ _) _ _ _)); refine zbin ?_)
    | ((with_reducible refine (?_ : wE _ (.Compare _ _ _ _) _ _ _)); first | refine zcmp (by rfl) ?_ | refine zchain ?_)
    | ((with_reducible refine (?_ : wE _ (.Dict [] [] _) _ _ _)); refine zdnew (fun _ _ _ _ _ => ?_))
    | ((with_reducible refine (?_ : wE _ (.Subscript _ (.Slice _ _ _ _) _) _ _ _)); refine zsl ?_)
    | ((with_reducible refine (?_ : wE _ (.Subscript _ _ _) _ _ _)); refine zix ?_)
    | ((with_reducible refine (?_ : wE _ (.Call (.Name "list" _) [.Call (.Name "range" _) [_] [] _] [] _) _ _ _)); refine zlrg1 rfl (by rfl) (by assumption) (by rfl) (by assumption) ?_)
    | ((with_reducible refine (?_ : wE _ (.Call (.Name _ _) _ _ _) _ _ _)); first
      | ((with_reducible refine (?_ : wE _ (.Call (.Name "len" _) _ _ _) _ _ _)); refine zbfn (by assumption) bt_len (by rfl) ?_)
      | ((with_reducible refine (?_ : wE _ (.Call (.Name "isinstance" _) _ _ _) _ _ _)); refine zbfn (by assumption) bt_isi (by rfl) ?_)
      | ((with_reducible refine (?_ : wE _ (.Call (.Name "min" _) _ _ _) _ _ _)); refine zbfn (by assumption) bt_min (by rfl) ?_)
      | ((with_reducible refine (?_ : wE _ (.Call (.Name "max" _) _ _ _) _ _ _)); refine zbfn (by assumption) bt_max (by rfl) ?_)
      | ((with_reducible refine (?_ : wE _ (.Call (.Name "list" _) _ _ _) _ _ _)); refine zbty (by assumption) bt_list (by rfl) ?_)
      | ((with_reducible refine (?_ : wE _ (.Call (.Name "tuple" _) _ _ _) _ _ _)); refine zbty (by assumption) bt_tuple (by rfl) ?_)
      | ((with_reducible refine (?_ : wE _ (.Call (.Name "int" _) _ _ _) _ _ _)); refine zbty (by assumption) bt_int (by rfl) ?_)
      | ((with_reducible refine (?_ : wE _ (.Call (.Name "abs" _) _ _ _) _ _ _)); refine zbfn (by assumption) bt_abs (by rfl) ?_)
      | ((with_reducible refine (?_ : wE _ (.Call (.Name "all" _) _ _ _) _ _ _)); refine zbfn (by assumption) bt_all (by rfl) ?_)
      | ((with_reducible refine (?_ : wE _ (.Call (.Name "sum" _) _ _ _) _ _ _)); refine zbfn (by assumption) bt_sum (by rfl) ?_)
      | ((with_reducible refine (?_ : wE _ (.Call (.Name "divmod" _) _ _ _) _ _ _)); refine zbfn (by assumption) bt_divmod (by rfl) ?_)
      | ((with_reducible refine (?_ : wE _ (.Call (.Name "ord" _) _ _ _) _ _ _)); refine zbfn (by assumption) bt_ord (by rfl) ?_))
    | ((with_reducible refine (?_ : wE _ (.IfExp _ _ _ _) _ _ _)); refine zif ?_)
    | ((with_reducible refine (?_ : wE _ (.Tuple _ _ _) _ _ _)); refine ztup ?_)
    | ((with_reducible refine (?_ : wE _ (.List _ _) _ _ _)); refine zlst ?_)
    | ((with_reducible refine (?_ : wE _ (.UnaryOp _ _ _) _ _ _)); first | refine znotV ?_ | refine zneg ?_)
    | ((with_reducible refine (?_ : wE _ (.BoolOp _ _ _) _ _ _)); first | refine zandV ?_ | refine zorV ?_ | refine zoneV ?_))
  | ((with_reducible refine (?_ : bE _ _ _ _ _ _)); refine ⟨fun _ _ _ _ _ => ?_⟩) | ((with_reducible refine (?_ : bG _ _ _ _ _ _ _)); refine ⟨fun _ _ _ _ _ => ?_⟩) | ((with_reducible refine (?_ : bTs _ _ _ _ _ _)); refine ⟨fun _ _ _ _ _ => ?_⟩)
  | ((with_reducible refine (?_ : hE _ _ _ _ _ _)); refine ⟨fun _ _ _ _ _ => ?_⟩) | ((with_reducible refine (?_ : hG _ _ _ _ _ _ _)); refine ⟨fun _ _ _ _ _ => ?_⟩) | ((with_reducible refine (?_ : hTs _ _ _ _ _ _)); refine ⟨fun _ _ _ _ _ => ?_⟩)
  | ((with_reducible refine (?_ : wP _ _ _ _ _)); first | refine pnon ?_ | refine psom ?_) | ((with_reducible refine (?_ : wSl _ _ _ _ _ _)); first | refine slL (by one_place) (fun _ _ _ _ _ => ?_) | refine slS (by assumption) ?_)
  | ((with_reducible refine (?_ : wTs _ _ _ _ _)); first | refine tsnil ?_ | refine tsone ?_)
  | ((with_reducible refine (?_ : wA _ _ _ _ _)); first | refine acons ?_ | refine anil ?_)
  | ((with_reducible refine (?_ : wO _ _ _ _ _ _)); first
    | ((with_reducible refine (?_ : wO _ (binaryOp .Add) _ _ _ _)); first | refine oadd ?_ | refine ocatE (by one_item) (by one_item) (Nat.le_of_ble_eq_true rfl) (fun _ _ _ _ _ => ?_))
    | ((with_reducible refine (?_ : wO _ (binaryOp .Sub) _ _ _ _)); first | refine osub ?_)
    | ((with_reducible refine (?_ : wO _ (binaryOp .Mult) _ _ _ _)); first | refine omul (by first | exact IntMulOk.of_right (by decide) | exact IntMulOk.of_left (by decide) | exact IntMulOk.of_right (intBits_le_64 (by omega) (by omega)) | exact IntMulOk.of_left (intBits_le_64 (by omega) (by omega))) ?_)
    | ((with_reducible refine (?_ : wO _ (binaryOp .Mod) _ _ _ _)); first | refine omod (by first | decide | omega) ?_)
    | ((with_reducible refine (?_ : wO _ (binaryOp .FloorDiv) _ _ _ _)); first | refine ofdiv ⟨by first | decide | omega, by decide⟩ ?_)
    | ((with_reducible refine (?_ : wO _ (binaryOp .BitAnd) _ _ _ _)); first | refine oand ?_)
    | ((with_reducible refine (?_ : wO _ (binaryOp .BitOr) _ _ _ _)); first | refine oor ?_)
    | ((with_reducible refine (?_ : wO _ (compareOp .Lt) _ _ _ _)); first | refine olt ?_)
    | ((with_reducible refine (?_ : wO _ (compareOp .LtE) _ _ _ _)); first | refine ole ?_)
    | ((with_reducible refine (?_ : wO _ (compareOp .Gt) _ _ _ _)); first | refine ogt ?_)
    | ((with_reducible refine (?_ : wO _ (compareOp .GtE) _ _ _ _)); first | refine oge ?_)
    | ((with_reducible refine (?_ : wO _ (compareOp .Eq) _ _ _ _)); first | refine oeqi ?_ | refine oeq (by rfl) ?_)
    | ((with_reducible refine (?_ : wO _ (compareOp .NotEq) _ _ _ _)); first | refine onei ?_ | refine one (by rfl) ?_)
    | ((with_reducible refine (?_ : wO _ (compareOp .In) _ _ _ _)); first | refine oin ?_)
    | ((with_reducible refine (?_ : wO _ (compareOp .NotIn) _ _ _ _)); first | refine onin ?_)
    | ((with_reducible refine (?_ : wO _ (compareOp .Is) _ _ _ _)); first | refine ois ?_)
    | ((with_reducible refine (?_ : wO _ (compareOp .IsNot) _ _ _ _)); first | refine onot ?_)
    | ((with_reducible refine (?_ : wO _ (binaryOp .RShift) _ _ _ _)); refine oshr (by first | decide | omega) ?_)
    | ((with_reducible refine (?_ : wO _ (binaryOp .BitXor) _ _ _ _)); refine oxor ?_)
    | ((with_reducible refine (?_ : wO _ (inplaceOp .BitXor) _ _ _ _)); refine ixor ?_)
    | ((with_reducible refine (?_ : wO _ (inplaceOp .RShift) _ _ _ _)); refine ishr (by first | decide | omega) ?_)
    | ((with_reducible refine (?_ : wO _ (inplaceOp .BitOr) _ _ _ _)); first | refine ior ?_)
    | ((with_reducible refine (?_ : wO _ (inplaceOp .Add) _ _ _ _)); first | refine iadd ?_))
  | ((with_reducible refine (?_ : wT _ _ _ _ _)); first
    | ((with_reducible refine (?_ : wT _ (.Compare _ _ _ _) _ _ _)); first | refine zcmpT (by rfl) ?_ | refine zchainT ?_)
    | ((with_reducible refine (?_ : wT _ (.UnaryOp _ _ _) _ _ _)); refine znotT ?_)
    | ((with_reducible refine (?_ : wT _ (.BoolOp _ _ _) _ _ _)); refine zW ?_)
    | refine zval ?_)
  | ((with_reducible refine (?_ : wW _ _ _ _ _)); first | refine zand ?_ | refine zor ?_ | refine zand1 ?_ | refine zor1 ?_)
  | ((with_reducible refine (?_ : wK _ _ _ _ _)); first
    | ((with_reducible refine (?_ : wK _ (.builtin "len") _ _ _)); first | refine klenL (by one_place) ?_ | refine klenT (by one_place) ?_ | refine klenS (by assumption) ?_)
    | ((with_reducible refine (?_ : wK _ (.builtin "isinstance") _ _ _)); first | refine kisE (by assumption) (by assumption) (by first | assumption | exact Xd.exx (by assumption) (by one_sign)) (by first | exact .own _ | exact .ty _) (by assumption) ?_ | refine kisi (.ty _) (by assumption) (by assumption) ?_ | refine kisi (.ty _) (.base (by first | exact .int _ | exact .bl _ | exact .str _ | exact .non | exact .tup (by one_item) | exact .lst (by one_item))) (kit_ty (r := true) (by rfl)) ?_ | refine kisi (.ty _) (.base (by first | exact .int _ | exact .bl _ | exact .str _ | exact .non | exact .tup (by one_item) | exact .lst (by one_item))) (kit_ty (r := false) (by rfl)) ?_)
    | ((with_reducible refine (?_ : wK _ (.builtin "divmod") _ _ _)); refine kdivmod ⟨by first | decide | omega, by decide⟩ (fun _ _ _ _ _ => ?_))
    | ((with_reducible refine (?_ : wK _ (.builtin "min") _ _ _)); refine kmin (by rfl) ?_)
    | ((with_reducible refine (?_ : wK _ (.builtin "max") _ _ _)); refine kmax (by rfl) ?_)
    | ((with_reducible refine (?_ : wK _ (.type "list") _ _ _)); first | refine klistL (by one_place) (fun _ _ _ _ _ => ?_) | refine klistT (by one_place) (fun _ _ _ _ _ => ?_))
    | ((with_reducible refine (?_ : wK _ (.type "tuple") _ _ _)); first | refine ktupL (by one_place) (fun _ _ _ _ _ => ?_)))
  | ((with_reducible refine (?_ : wS _ _ _ _ _)); first
    | ((with_reducible refine (?_ : wS _ (.Assign [.Name _ _] _ _) _ _ _)); refine sset' (by assumption) (by rfl) (by first | exact Or.inl rfl | exact Or.inr rfl) (by rfl) (by first | exact .inl rfl | exact .inr rfl) ?_)
    | ((with_reducible refine (?_ : wS _ (.AugAssign (.Name _ _) _ _ _) _ _ _)); refine saug' (by assumption) (by rfl) (by first | exact Or.inl rfl | exact Or.inr rfl) (by first | exact .inl rfl | exact .inr rfl) (by rfl) ?_)
    | ((with_reducible refine (?_ : wS _ (.Expr _ _) _ _ _)); refine sexp ?_)
    | ((with_reducible refine (?_ : wS _ (.Assign [.Tuple _ _ _] _ _) _ _ _)); refine sasg ?_) | ((with_reducible refine (?_ : wS _ (.Assign [.Subscript _ _ _] _ _) _ _ _)); refine sasg ?_)
    | refine sret ?_ | refine sif ?_ | refine sretN ?_ | refine spass ?_ | refine sbrk ?_ | refine scont ?_)
  | ((with_reducible refine (?_ : wG _ (.Name _ _) _ _ _ _)); refine gname' (by assumption) (by rfl) (by first | exact Or.inl rfl | exact Or.inr rfl) (by first | exact .inl rfl | exact .inr rfl) ?_)
  | ((with_reducible refine (?_ : wG _ (.Tuple _ _ _) _ _ _ _)); refine gtup rfl (by one_place) rfl ?_) | ((with_reducible refine (?_ : wG _ (.Subscript _ _ _) _ _ _ _)); refine gsub ?_)
  | ((with_reducible refine (?_ : wGs _ _ _ _ _ _)); first | refine gscons ?_ | refine gsnil ?_)
  | ((with_reducible refine (?_ : wB _ _ _ _ _)); first | refine bcons ?_ | refine bnil ?_)
  | refine ifT ?_ | refine ifF ?_ | refine ifd (fun _ => ?_) (fun _ => ?_) | refine ifnd (fun _ => ?_) (fun _ => ?_) | refine ⟨_, rfl, ?_⟩ | refine ⟨rfl, Evl.Ex.refl _, ?_⟩ | refine ⟨Nat.le_of_ble_eq_true rfl, fun _ _ _ _ _ => ?_⟩ | fail)
local macro_rules | `(tactic| top_name) => `(tactic| repeat' tb_rel)
local macro_rules | `(tactic| nest_fact) => `(tactic| first | exact ⟨(decide_eq_true (by omega)).symm, rfl⟩ | exact ⟨(decide_eq_false (by omega)).symm, rfl⟩ | exact ⟨decide_eq_decide.mpr (by omega), rfl⟩ | fail)
variable {P : Program} {w : World} {K : PySem.W.Frag} {mg : Str → Option Value} {base : Heap}
/-! ### the word of a refusal -/
/-- which of the ten classes an exception of the class at C is of; it is a ValueError -/
structure KinW (K : PySem.W.Frag) (C : Addr) (b : Nat → Bool) : Prop where
  x : XcC K C
  b0 : PySem.W.kitOne K (.ref C) (.ref (He.ga K "BadNumber")) = some (b 0)
  b1 : PySem.W.kitOne K (.ref C) (.ref (He.ga K "BadRow")) = some (b 1)
  b2 : PySem.W.kitOne K (.ref C) (.ref (He.ga K "BadBook")) = some (b 2)
  b3 : PySem.W.kitOne K (.ref C) (.ref (He.ga K "BadValue")) = some (b 3)
  b4 : PySem.W.kitOne K (.ref C) (.ref (He.ga K "BadText")) = some (b 4)
  b5 : PySem.W.kitOne K (.ref C) (.ref (He.ga K "BadWire")) = some (b 5)
  b6 : PySem.W.kitOne K (.ref C) (.ref (He.ga K "BadCheck")) = some (b 6)
  b7 : PySem.W.kitOne K (.ref C) (.ref (He.ga K "NotKin")) = some (b 7)
  b8 : PySem.W.kitOne K (.ref C) (.ref (He.ga K "NoKey")) = some (b 8)
  b9 : PySem.W.kitOne K (.ref C) (.ref (He.ga K "BadVersion")) = some (b 9)
  ve : PySem.W.kitOne K (.ref C) (.type "ValueError") = some true
def theWords : List Str := ["number", "row", "book", "value", "text", "wire", "check", "kin", "key", "version"]
/-- the class at place j alone -/
def only (j : Nat) : Nat → Bool := fun i => decide (i = j)
theorem kept_only {j : Nat} {x : Str} (h : theWords[j]? = some x) : kept (theWords.zip ((List.range 10).map (only j))) = [.str x] := by
  have hl : j < 10 := (List.getElem?_eq_some_iff.mp h).1
  have : j = 0 ∨ j = 1 ∨ j = 2 ∨ j = 3 ∨ j = 4 ∨ j = 5 ∨ j = 6 ∨ j = 7 ∨ j = 8 ∨ j = 9 := by omega
  rcases this with rfl | rfl | rfl | rfl | rfl | rfl | rfl | rfl | rfl | rfl <;> (cases h; rfl)
def sp_word (K : PySem.W.Frag) : SpE := fun cls d a vs H Q => ∃ (C : Addr) (j : Nat) (x : Str), vs = [.ref a] ∧ cls = .ref C ∧ Xd d H ∧ KinW K C (only j) ∧ theWords[j]? = some x ∧ ∀ H', Ex H H' → Q (.str x) H'
theorem ok_word (T : Txt K mg) : Ge P w K mg base 1 "_law_word" (sp_word K) := by
  refine ge_mk T.f__law_word T.m__law_word (fun _ _ _ _ _ _ us hl => match us, hl with | [_], _ => rfl) fun fd F => fnE_of F sc__law_word (fun cls d a vs H Q h => ?_) fun cd A outer s H vs Q p cls d hx hr h => ?_
  · obtain ⟨C, j, x, rfl, _⟩ := h; rfl
  · obtain ⟨C, j, x, rfl, rfl, hd, ⟨kx, k0, k1, k2, k3, k4, k5, k6, k7, k8, k9, kv⟩, hj, q⟩ := h
    have n1 := T.n_isinstance
    have n2 := T.n_len
    have n3 := T.n_ValueError
    have m0 := T.m_BadNumber
    have m1 := T.m_BadRow
    have m2 := T.m_BadBook
    have m3 := T.m_BadValue
    have m4 := T.m_BadText
    have m5 := T.m_BadWire
    have m6 := T.m_BadCheck
    have m7 := T.m_NotKin
    have m8 := T.m_NoKey
    have m9 := T.m_BadVersion
    have nd := sc__law_word.nd
    top_name
    rename_i _ Hc _ _ hL
    have kE : Ex H Hc := by one_sign
    obtain ⟨xs, hL, TT⟩ : ∃ xs, Hc _ = some (.lst xs) ∧ TupsAt Hc xs (theWords.zip ((List.range 10).map (only j))) := ⟨_, hL, .cons (by one_item) (.cons (by one_item) (.cons (by one_item) (.cons (by one_item) (.cons (by one_item) (.cons (by one_item) (.cons (by one_item) (.cons (by one_item) (.cons (by one_item) (.cons (by one_item) .nil)))))))))⟩
    refine (slcA (i := 2) (y := "_law_found") (xs := xs) hx nd rfl rfl [("_law_word_here", 3), ("_law_good", 4)] (blkOk_by (N := N__law_word) (sc := defScope s__law_word) (by decide +kernel)) (sw_true rfl rfl rfl (by decide +kernel)) (fun i => kept ((theWords.zip ((List.range 10).map (only j))).take i)) rfl ?_)
    top_name
    refine ⟨SqL.of hL, fun i v H1 hv e1 => ?_, fun L H1 hL0 e1 hk => ?_⟩
    · obtain ⟨t, pr, rfl, hp, ht⟩ := TupsAt.get TT hv
      top_name
      refine gtupH (q := p) (cls := .ref C) (dd := d) ⟨hx.hot, hx.mem, hx.zn, hx.fl⟩ (SqT.of (e1 _ _ ht)) rfl ?_
      top_name
      have ks := kept_succ hp
      refine ifb (fun hb => ?_) (fun hb => ?_)
      · rw [if_pos hb] at ks
        top_name
        refine ⟨ks, Nat.lt_of_le_of_lt (m := 10) ?_ (by decide), Evl.Ex.refl _⟩
        unfold kept
        rw [List.length_map]
        refine Nat.le_trans (List.length_filter_le ..) (Nat.le_trans (List.length_take_le ..) ?_)
        exact Nat.le_of_lt (List.getElem?_eq_some_iff.mp hp).1
      · rw [if_neg (by rw [hb]; exact Bool.false_ne_true), List.append_nil] at ks
        exact ⟨ks, Evl.Ex.refl _⟩
    · have hl : xs.length = 10 := TT.length
      rw [hl, List.take_of_length_le (Nat.le_of_eq (by simp [theWords])), kept_only hj] at hk
      have e2 : Ex H H1 := by one_sign
      top_name
      refine ixL (SqL.of hk) rfl ?_
      exact q _ e2
end K05

set_option maxRecDepth 100000
set_option maxHeartbeats 4000000
namespace K05
open PySem PySem.Spec PyProof.Rows L2 Z
open Evl (Ex)
variable {P : Program} {w : World} {K : PySem.W.Frag} {mg : Str → Option Value} {base : Heap}
/-! ### steps of the walk: one_sign: a heap grew into another; one_item: what stands at an address; one_place: a list or tuple to be read; leaf_len: arithmetic; tb_rel: one step; top_name: steps as far as they go -/
local macro_rules | `(tactic| got_up) => `(tactic| (refine Evl.Ex.trans (by assumption) ?_; first | assumption | exact Evl.Ex.refl _ | got_up))
local macro_rules | `(tactic| units_room) => `(tactic| (refine Evl.Ex.trans ?_ (by assumption); first | assumption | exact Evl.Ex.refl _ | units_room))
local macro_rules | `(tactic| one_sign) => `(tactic| first | assumption | exact Evl.Ex.refl _ | got_up | units_room)
local macro_rules | `(tactic| one_item) => `(tactic| first | assumption | exact upd_same | exact exa (by assumption) (by one_sign))
local macro_rules | `(tactic| one_place) => `(tactic| first | assumption | exact SqL.of (by assumption) | exact SqT.of (by assumption) | exact exl (by assumption) (by one_sign) | exact ext (by assumption) (by one_sign) | exact SqL.of (by one_item) | exact SqT.of (by one_item))
local macro_rules | `(tactic| leaf_len) => `(tactic| first | assumption | decide | omega)
local macro_rules | `(tactic| tb_rel) => `(tactic| first
  | ((with_reducible refine (?_ : wE _ _ _ _ _)); first
    | ((with_reducible refine (?_ : wE _ (.Name _ _) _ _ _)); first | refine zn (by rfl) (by first | exact Or.inl rfl | exact Or.inr (Or.inl rfl) | exact Or.inr (Or.inr rfl)) (by rfl) ?_ | refine zglob (by assumption) (by rfl) ?_ | refine zcls (by assumption) (by rfl) ?_ | refine zty (by assumption) (by first | exact bt_int | exact bt_bool | exact bt_str | exact bt_list | exact bt_tuple | exact bt_dict | exact bt_ValueError) (by rfl) ?_)
    | ((with_reducible refine (?_ : wE _ (.Constant _ _ _) _ _ _)); first | refine zint ?_ | refine zstr ?_ | refine zbl ?_ | refine znon ?_)
    | ((with_reducible refine (?_ : wE _ (.BinOp _ _ _ _) _ _ _)); refine zbin ?_)
    | ((with_reducible refine (?_ : wE _ (.Compare _ _ _ _) _ _ _)); first | refine zcmp (by rfl) ?_ | refine zchain ?_)
    | ((with_reducible refine (?_ : wE _ (.Dict [] [] _) _ _ _)); refine zdnew (fun _ _ _ _ _ => ?_))
    | ((with_reducible refine (?_ : wE _ (.Subscript _ (.Slice _ _ _ _) _) _ _ _)); refine zsl ?_)
    | ((with_reducible refine (?_ : wE _ (.Subscript _ _ _) _ _ _)); refine zix ?_)
    | ((with_reducible refine (?_ : wE _ (.Call (.Name "list" _) [.Call (.Name "range" _) [_] [] _] [] _) _ _ _)); refine zlrg1 rfl (by rfl) (by assumption) (by rfl) (by assumption) ?_)
    | ((with_reducible refine (?_ : wE _ (.Call (.Name _ _) _ _ _) _ _ _)); first
      | ((with_reducible refine (?_ : wE _ (.Call (.Name "len" _) _ _ _) _ _ _)); refine zbfn (by assumption) bt_len (by rfl) ?_)
      | ((with_reducible refine (?_ : wE _ (.Call (.Name "isinstance" _) _ _ _) _ _ _)); refine zbfn (by assumption) bt_isi (by rfl) ?_)
      | ((with_reducible refine (?_ : wE _ (.Call (.Name "min" _) _ _ _) _ _ _)); refine zbfn (by assumption) bt_min (by rfl) ?_)
      | ((with_reducible refine (?_ : wE _ (.Call (.Name "max" _) _ _ _) _ _ _)); refine zbfn (by assumption) bt_max (by rfl) ?_)
      | ((with_reducible refine (?_ : wE _ (.Call (.Name "list" _) _ _ _) _ _ _)); refine zbty (by assumption) bt_list (by rfl) ?_)
      | ((with_reducible refine (?_ : wE _ (.Call (.Name "tuple" _) _ _ _) _ _ _)); refine zbty (by assumption) bt_tuple (by rfl) ?_)
      | ((with_reducible refine (?_ : wE _ (.Call (.Name "int" _) _ _ _) _ _ _)); refine zbty (by assumption) bt_int (by rfl) ?_)
      | ((with_reducible refine (?_ : wE _ (.Call (.Name "abs" _) _ _ _) _ _ _)); refine zbfn (by assumption) bt_abs (by rfl) ?_)
      | ((with_reducible refine (?_ : wE _ (.Call (.Name "all" _) _ _ _) _ _ _)); refine zbfn (by assumption) bt_all (by rfl) ?_)
      | ((with_reducible refine (?_ : wE _ (.Call (.Name "sum" _) _ _ _) _ _ _)); refine zbfn (by assumption) bt_sum (by rfl) ?_)
      | ((with_reducible refine (?_ : wE _ (.Call (.Name "divmod" _) _ _ _) _ _ _)); refine zbfn (by assumption) bt_divmod (by rfl) ?_)
      | ((with_reducible refine (?_ : wE _ (.Call (.Name "ord" _) _ _ _) _ _ _)); refine zbfn (by assumption) bt_ord (by rfl) ?_))
    | ((with_reducible refine (?_ : wE _ (.IfExp _ _ _ _) _ _ _)); refine zif ?_)
    | ((with_reducible refine (?_ : wE _ (.Tuple _ _ _) _ _ _)); refine ztup ?_)
    | ((with_reducible refine (?_ : wE _ (.List _ _) _ _ _)); refine zlst ?_)
    | ((with_reducible refine (?_ : wE _ (.UnaryOp _ _ _) _ _ _)); first | refine znotV ?_ | refine zneg ?_)
    | ((with_reducible refine (?_ : wE _ (.BoolOp _ _ _) _ _ _)); first | refine zandV ?_ | refine zorV ?_ | refine zoneV ?_))
  | ((with_reducible refine (?_ : bE _ _ _ _ _ _)); refine ⟨fun _ _ _ _ _ => ?_⟩) | ((with_reducible refine (?_ : bG _ _ _ _ _ _ _)); refine ⟨fun _ _ _ _ _ => ?_⟩) | ((with_reducible refine (?_ : bTs _ _ _ _ _ _)); refine ⟨fun _ _ _ _ _ => ?_⟩)
  | ((with_reducible refine (?_ : hE _ _ _ _ _ _)); refine ⟨fun _ _ _ _ _ => ?_⟩) | ((with_reducible refine (?_ : hG _ _ _ _ _ _ _)); refine ⟨fun _ _ _ _ _ => ?_⟩) | ((with_reducible refine (?_ : hTs _ _ _ _ _ _)); refine ⟨fun _ _ _ _ _ => ?_⟩)
  | ((with_reducible refine (?_ : wP _ _ _ _ _)); first | refine pnon ?_ | refine psom ?_) | ((with_reducible refine (?_ : wSl _ _ _ _ _ _)); first | refine slL (by one_place) (fun _ _ _ _ _ => ?_) | refine slS (by assumption) ?_)
  | ((with_reducible refine (?_ : wTs _ _ _ _ _)); first | refine tsnil ?_ | refine tsone ?_)
  | ((with_reducible refine (?_ : wA _ _ _ _ _)); first | refine acons ?_ | refine anil ?_)
  | ((with_reducible refine (?_ : wO _ _ _ _ _ _)); first
    | ((with_reducible refine (?_ : wO _ (binaryOp .Add) _ _ _ _)); first | refine oadd ?_ | refine ocatE (by one_item) (by one_item) (Nat.le_of_ble_eq_true rfl) (fun _ _ _ _ _ => ?_))
    | ((with_reducible refine (?_ : wO _ (binaryOp .Sub) _ _ _ _)); first | refine osub ?_)
    | ((with_reducible refine (?_ : wO _ (binaryOp .Mult) _ _ _ _)); first | refine omul (by first | exact IntMulOk.of_right (by decide) | exact IntMulOk.of_left (by decide) | exact IntMulOk.of_right (intBits_le_64 (by omega) (by omega)) | exact IntMulOk.of_left (intBits_le_64 (by omega) (by omega))) ?_)
    | ((with_reducible refine (?_ : wO _ (binaryOp .Mod) _ _ _ _)); first | refine omod (by first | decide | omega) ?_)
    | ((with_reducible refine (?_ : wO _ (binaryOp .FloorDiv) _ _ _ _)); first | refine ofdiv ⟨by first | decide | omega, by decide⟩ ?_)
    | ((with_reducible refine (?_ : wO _ (binaryOp .BitAnd) _ _ _ _)); first | refine oand ?_)
    | ((with_reducible refine (?_ : wO _ (binaryOp .BitOr) _ _ _ _)); first | refine oor ?_)
    | ((with_reducible refine (?_ : wO _ (compareOp .Lt) _ _ _ _)); first | refine olt ?_)
    | ((with_reducible refine (?_ : wO _ (compareOp .LtE) _ _ _ _)); first | refine ole ?_)
    | ((with_reducible refine (?_ : wO _ (compareOp .Gt) _ _ _ _)); first | refine ogt ?_)
    | ((with_reducible refine (?_ : wO _ (compareOp .GtE) _ _ _ _)); first | refine oge ?_)
    | ((with_reducible refine (?_ : wO _ (compareOp .Eq) _ _ _ _)); first | refine oeqi ?_ | refine oeq (by rfl) ?_)
    | ((with_reducible refine (?_ : wO _ (compareOp .NotEq) _ _ _ _)); first | refine onei ?_ | refine one (by rfl) ?_)
    | ((with_reducible refine (?_ : wO _ (compareOp .In) _ _ _ _)); first | refine oin ?_)
    | ((with_reducible refine (?_ : wO _ (compareOp .NotIn) _ _ _ _)); first | refine onin ?_)
    | ((with_reducible refine (?_ : wO _ (compareOp .Is) _ _ _ _)); first | refine ois ?_)
    | ((with_reducible refine (?_ : wO _ (compareOp .IsNot) _ _ _ _)); first | refine onot ?_)
    | ((with_reducible refine (?_ : wO _ (binaryOp .RShift) _ _ _ _)); refine oshr (by first | decide | omega) ?_)
    | ((with_reducible refine (?_ : wO _ (binaryOp .BitXor) _ _ _ _)); refine oxor ?_)
    | ((with_reducible refine (?_ : wO _ (inplaceOp .BitXor) _ _ _ _)); refine ixor ?_)
    | ((with_reducible refine (?_ : wO _ (inplaceOp .RShift) _ _ _ _)); refine ishr (by first | decide | omega) ?_)
    | ((with_reducible refine (?_ : wO _ (inplaceOp .BitOr) _ _ _ _)); first | refine ior ?_)
    | ((with_reducible refine (?_ : wO _ (inplaceOp .Add) _ _ _ _)); first | refine iadd ?_))
  | ((with_reducible refine (?_ : wT _ _ _ _ _)); first
    | ((with_reducible refine (?_ : wT _ (.Compare _ _ _ _) _ _ _)); first | refine zcmpT (by rfl) ?_ | refine zchainT ?_)
    | ((with_reducible refine (?_ : wT _ (.UnaryOp _ _ _) _ _ _)); refine znotT ?_)
    | ((with_reducible refine (?_ : wT _ (.BoolOp _ _ _) _ _ _)); refine zW ?_)
    | refine zval ?_)
  | ((with_reducible refine (?_ : wW _ _ _ _ _)); first | refine zand ?_ | refine zor ?_ | refine zand1 ?_ | refine zor1 ?_)
  | ((with_reducible refine (?_ : wK _ _ _ _ _)); first
    | ((with_reducible refine (?_ : wK _ (.builtin "len") _ _ _)); first | refine klenL (by one_place) ?_ | refine klenT (by one_place) ?_ | refine klenS (by assumption) ?_)
    | ((with_reducible refine (?_ : wK _ (.builtin "isinstance") _ _ _)); first | refine kisE (by assumption) (by assumption) (by first | assumption | exact Xd.exx (by assumption) (by one_sign)) (by first | exact .own _ | exact .ty _) (by assumption) ?_ | refine kisi (.ty _) (by assumption) (by assumption) ?_ | refine kisi (.ty _) (.base (by first | exact .int _ | exact .bl _ | exact .str _ | exact .non | exact .tup (by one_item) | exact .lst (by one_item))) (kit_ty (r := true) (by rfl)) ?_ | refine kisi (.ty _) (.base (by first | exact .int _ | exact .bl _ | exact .str _ | exact .non | exact .tup (by one_item) | exact .lst (by one_item))) (kit_ty (r := false) (by rfl)) ?_)
    | ((with_reducible refine (?_ : wK _ (.builtin "divmod") _ _ _)); refine kdivmod ⟨by first | decide | omega, by decide⟩ (fun _ _ _ _ _ => ?_))
    | ((with_reducible refine (?_ : wK _ (.builtin "min") _ _ _)); refine kmin (by rfl) ?_)
    | ((with_reducible refine (?_ : wK _ (.builtin "max") _ _ _)); refine kmax (by rfl) ?_)
    | ((with_reducible refine (?_ : wK _ (.type "list") _ _ _)); first | refine klistL (by one_place) (fun _ _ _ _ _ => ?_) | refine klistT (by one_place) (fun _ _ _ _ _ => ?_))
    | ((with_reducible refine (?_ : wK _ (.type "tuple") _ _ _)); first | refine ktupL (by one_place) (fun _ _ _ _ _ => ?_)))
  | ((with_reducible refine (?_ : wS _ _ _ _ _)); first
    | ((with_reducible refine (?_ : wS _ (.Assign [.Name _ _] _ _) _ _ _)); refine sset' (by assumption) (by rfl) (by first | exact Or.inl rfl | exact Or.inr rfl) (by rfl) (by first | exact .inl rfl | exact .inr rfl) ?_)
    | ((with_reducible refine (?_ : wS _ (.AugAssign (.Name _ _) _ _ _) _ _ _)); refine saug' (by assumption) (by rfl) (by first | exact Or.inl rfl | exact Or.inr rfl) (by first | exact .inl rfl | exact .inr rfl) (by rfl) ?_)
    | ((with_reducible refine (?_ : wS _ (.Expr _ _) _ _ _)); refine sexp ?_)
    | ((with_reducible refine (?_ : wS _ (.Assign [.Tuple _ _ _] _ _) _ _ _)); refine sasg ?_) | ((with_reducible refine (?_ : wS _ (.Assign [.Subscript _ _ _] _ _) _ _ _)); refine sasg ?_)
    | refine sret ?_ | refine sif ?_ | refine sretN ?_ | refine spass ?_ | refine sbrk ?_ | refine scont ?_)
  | ((with_reducible refine (?_ : wG _ (.Name _ _) _ _ _ _)); refine gname' (by assumption) (by rfl) (by first | exact Or.inl rfl | exact Or.inr rfl) (by first | exact .inl rfl | exact .inr rfl) ?_)
  | ((with_reducible refine (?_ : wG _ (.Tuple _ _ _) _ _ _ _)); refine gtup rfl (by one_place) rfl ?_) | ((with_reducible refine (?_ : wG _ (.Subscript _ _ _) _ _ _ _)); refine gsub ?_)
  | ((with_reducible refine (?_ : wGs _ _ _ _ _ _)); first | refine gscons ?_ | refine gsnil ?_)
  | ((with_reducible refine (?_ : wB _ _ _ _ _)); first | refine bcons ?_ | refine bnil ?_)
  | refine ifT ?_ | refine ifF ?_ | refine ifd (fun _ => ?_) (fun _ => ?_) | refine ifnd (fun _ => ?_) (fun _ => ?_) | refine ⟨_, rfl, ?_⟩ | refine ⟨rfl, Evl.Ex.refl _, ?_⟩ | refine ⟨Nat.le_of_ble_eq_true rfl, fun _ _ _ _ _ => ?_⟩ | fail)
local macro_rules | `(tactic| top_name) => `(tactic| repeat' tb_rel)
local macro_rules | `(tactic| nest_fact) => `(tactic| first | exact ⟨(decide_eq_true (by omega)).symm, rfl⟩ | exact ⟨(decide_eq_false (by omega)).symm, rfl⟩ | exact ⟨decide_eq_decide.mpr (by omega), rfl⟩ | fail)
/-! ### whole numbers -/
def sp_is_whole (K : PySem.W.Frag) : Sp := fun vs H Q _ => ∃ (v t : Value) (u : V) (k1 k2 : Bool), vs = [u] ∧ TyX K H u t ∧ PySem.W.kitOne K t (.type "int") = some k1 ∧ PySem.W.kitOne K t (.type "bool") = some k2 ∧ Q (.bl (k1 && !k2)) H
theorem ok_is_whole (T : Txt K mg) : Gf P w K mg base 1 "is_whole" [] (sp_is_whole K) := by
  refine gf_mk T.f_is_whole T.m_is_whole (fun _ _ _ _ _ _ us hl => match us, hl with | [_], _ => rfl) fun fd F => fn_mk F sc_is_whole (fun vs H Q E h => ?_) fun cd A outer s H vs Q E hr tk po h => ?_
  · obtain ⟨_, _, u, k1, k2, rfl, _⟩ := h; rfl
  · obtain ⟨_, t, u, k1, k2, rfl, ty, h1, h2, q⟩ := h
    have n1 := T.n_isinstance
    have n2 := T.n_int
    have n3 := T.n_bool
    top_name
    refine ifb (fun e => ?_) (fun e => ?_)
    · subst e
      top_name
      exact q
    · subst e
      exact q
def sp_is_among (K : PySem.W.Frag) : Sp := fun vs H Q _ => ∃ (u : V) (lo hi : Int) (b : Bool), vs = [u, .int lo, .int hi] ∧ Asked K H lo hi u b ∧ Q (.bl b) H
theorem ok_is_among (T : Txt K mg) : Gf P w K mg base 2 "is_among" [] (sp_is_among K) := by
  refine gf_mk T.f_is_among T.m_is_among (fun _ _ _ _ _ _ us hl => match us, hl with | [_, _, _], _ => rfl) fun fd F => fn_mk F sc_is_among (fun vs H Q E h => ?_) fun cd A outer s H vs Q E hr tk po h => ?_
  · obtain ⟨u, lo, hi, b, rfl, _⟩ := h; rfl
  · obtain ⟨u, lo, hi, b, rfl, ha, q⟩ := h
    top_name
    refine zcall (ok_is_whole T) hr (by decide) takesF rfl ?_
    top_name
    cases ha with
    | int n =>
      refine ⟨.none, _, _, true, false, rfl, .base (.int n), kit_ty rfl, kit_ty rfl, ?_⟩
      top_name
      · rename_i h1
        rw [show decide (n ≤ hi) = decide (lo ≤ n ∧ n ≤ hi) from decide_eq_decide.mpr ⟨fun z => ⟨h1, z⟩, fun z => z.2⟩]
        exact q
      · rename_i h1
        rw [show decide (lo ≤ n ∧ n ≤ hi) = false from decide_eq_false fun z => h1 z.1] at q
        exact q
    | odd hn =>
      obtain ⟨t, k1, k2, ty, h1, h2, e⟩ := hn
      refine ⟨.none, _, _, _, _, rfl, ty, h1, h2, ?_⟩
      rw [e]
      top_name
      exact q
def sp_need (K : PySem.W.Frag) : Sp := fun vs H Q E => ∃ (u : V) (lo hi : Int) (b : Bool), vs = [u, .int lo, .int hi] ∧ Asked K H lo hi u b ∧ if b = true then Q .non H else E (.ref (He.ga K "BadNumber")) none H
theorem ok_need (T : Txt K mg) : Gf P w K mg base 3 "need_number" [] (sp_need K) := by
  refine gf_mk T.f_need_number T.m_need_number (fun _ _ _ _ _ _ us hl => match us, hl with | [_, _, _], _ => rfl) fun fd F => fn_mk F sc_need_number (fun vs H Q E h => ?_) fun cd A outer s H vs Q E hr tk po h => ?_
  · obtain ⟨u, lo, hi, b, rfl, _⟩ := h; rfl
  · obtain ⟨u, lo, hi, b, rfl, ha, q⟩ := h
    top_name
    refine zcall (ok_is_among T) hr (by decide) takesF rfl ?_
    top_name
    refine ⟨u, lo, hi, b, rfl, ha, ?_⟩
    cases b with
    | true =>
      top_name
      exact q
    | false =>
      top_name
      exact sraise rfl tk (mplain T.e_BadNumber T.m_BadNumber rfl q)
def MOST : Int := 115792089237316195423570985008687907853269984665640564039457584007913129639935
end K05

set_option maxRecDepth 100000
set_option maxHeartbeats 4000000
namespace K05
open PySem PySem.Spec PyProof.Rows L2 Z
open Evl (Ex)
variable {P : Program} {w : World} {K : PySem.W.Frag} {mg : Str → Option Value} {base : Heap}
/-! ### steps of the walk: one_sign: a heap grew into another; one_item: what stands at an address; one_place: a list or tuple to be read; leaf_len: arithmetic; tb_rel: one step; top_name: steps as far as they go -/
local macro_rules | `(tactic| got_up) => `(tactic| (refine Evl.Ex.trans (by assumption) ?_; first | assumption | exact Evl.Ex.refl _ | got_up))
local macro_rules | `(tactic| units_room) => `(tactic| (refine Evl.Ex.trans ?_ (by assumption); first | assumption | exact Evl.Ex.refl _ | units_room))
local macro_rules | `(tactic| one_sign) => `(tactic| first | assumption | exact Evl.Ex.refl _ | got_up | units_room)
local macro_rules | `(tactic| one_item) => `(tactic| first | assumption | exact upd_same | exact exa (by assumption) (by one_sign))
local macro_rules | `(tactic| one_place) => `(tactic| first | assumption | exact SqL.of (by assumption) | exact SqT.of (by assumption) | exact exl (by assumption) (by one_sign) | exact ext (by assumption) (by one_sign) | exact SqL.of (by one_item) | exact SqT.of (by one_item))
local macro_rules | `(tactic| leaf_len) => `(tactic| first | assumption | decide | omega)
local macro_rules | `(tactic| tb_rel) => `(tactic| first
  | ((with_reducible refine (?_ : wE _ _ _ _ _)); first
    | ((with_reducible refine (?_ : wE _ (.Name _ _) _ _ _)); first | refine zn (by rfl) (by first | exact Or.inl rfl | exact Or.inr (Or.inl rfl) | exact Or.inr (Or.inr rfl)) (by rfl) ?_ | refine zglob (by assumption) (by rfl) ?_ | refine zcls (by assumption) (by rfl) ?_ | refine zty (by assumption) (by first | exact bt_int | exact bt_bool | exact bt_str | exact bt_list | exact bt_tuple | exact bt_dict | exact bt_ValueError) (by rfl) ?_)
    | ((with_reducible refine (?_ : wE _ (.Constant _ _ _) _ _ _)); first | refine zint ?_ | refine zstr ?_ | refine zbl ?_ | refine znon ?_)
    | ((with_reducible refine (?_ : wE _ (.BinOp _ _ _ _) _ _ _)); refine zbin ?_)
    | ((with_reducible refine (?_ : wE _ (.Compare _ _ _ _) _ _ _)); first | refine zcmp (by rfl) ?_ | refine zchain ?_)
    | ((with_reducible refine (?_ : wE _ (.Dict [] [] _) _ _ _)); refine zdnew (fun _ _ _ _ _ => ?_))
    | ((with_reducible refine (?_ : wE _ (.Subscript _ (.Slice _ _ _ _) _) _ _ _)); refine zsl ?_)
    | ((with_reducible refine (?_ : wE _ (.Subscript _ _ _) _ _ _)); refine zix ?_)
    | ((with_reducible refine (?_ : wE _ (.Call (.Name "list" _) [.Call (.Name "range" _) [_] [] _] [] _) _ _ _)); refine zlrg1 rfl (by rfl) (by assumption) (by rfl) (by assumption) ?_)
    | ((with_reducible refine (?_ : wE _ (.Call (.Name _ _) _ _ _) _ _ _)); first
      | ((with_reducible refine (?_ : wE _ (.Call (.Name "len" _) _ _ _) _ _ _)); refine zbfn (by assumption) bt_len (by rfl) ?_)
      | ((with_reducible refine (?_ : wE _ (.Call (.Name "isinstance" _) _ _ _) _ _ _)); refine zbfn (by assumption) bt_isi (by rfl) ?_)
      | ((with_reducible refine (?_ : wE _ (.Call (.Name "min" _) _ _ _) _ _ _)); refine zbfn (by assumption) bt_min (by rfl) ?_)
      | ((with_reducible refine (?_ : wE _ (.Call (.Name "max" _) _ _ _) _ _ _)); refine zbfn (by assumption) bt_max (by rfl) ?_)
      | ((with_reducible refine (?_ : wE _ (.Call (.Name "list" _) _ _ _) _ _ _)); refine zbty (by assumption) bt_list (by rfl) ?_)
      | ((with_reducible refine (?_ : wE _ (.Call (.Name "tuple" _) _ _ _) _ _ _)); refine zbty (by assumption) bt_tuple (by rfl) ?_)
      | ((with_reducible refine (?_ : wE _ (.Call (.Name "int" _) _ _ _) _ _ _)); refine zbty (by assumption) bt_int (by rfl) ?_)
      | ((with_reducible refine (?_ : wE _ (.Call (.Name "abs" _) _ _ _) _ _ _)); refine zbfn (by assumption) bt_abs (by rfl) ?_)
      | ((with_reducible refine (?_ : wE _ (.Call (.Name "all" _) _ _ _) _ _ _)); refine zbfn (by assumption) bt_all (by rfl) ?_)
      | ((with_reducible refine (?_ : wE _ (.Call (.Name "sum" _) _ _ _) _ _ _)); refine zbfn (by assumption) bt_sum (by rfl) ?_)
      | ((with_reducible refine (?_ : wE _ (.Call (.Name "divmod" _) _ _ _) _ _ _)); refine zbfn (by assumption) bt_divmod (by rfl) ?_)
      | ((with_reducible refine (?_ : wE _ (.Call (.Name "ord" _) _ _ _) _ _ _)); refine zbfn (by assumption) bt_ord (by rfl) ?_))
    | ((with_reducible refine (?_ : wE _ (.IfExp _ _ _ _) _ _ _)); refine zif ?_)
    | ((with_reducible refine (?_ : wE _ (.Tuple _ _ _) _ _ _)); refine ztup ?_)
    | ((with_reducible refine (?_ : wE _ (.List _ _) _ _ _)); refine zlst ?_)
    | ((with_reducible refine (?_ : wE _ (.UnaryOp _ _ _) _ _ _)); first | refine znotV ?_ | refine zneg ?_)
    | ((with_reducible refine (?_ : wE _ (.BoolOp _ _ _) _ _ _)); first | refine zandV ?_ | refine zorV ?_ | refine zoneV ?_))
  | ((with_reducible refine (?_ : bE _ _ _ _ _ _)); refine ⟨fun _ _ _ _ _ => ?_⟩) | ((with_reducible refine (?_ : bG _ _ _ _ _ _ _)); refine ⟨fun _ _ _ _ _ => ?_⟩) | ((with_reducible refine (?_ : bTs _ _ _ _ _ _)); refine ⟨fun _ _ _ _ _ => ?_⟩)
  | ((with_reducible refine (?_ : hE _ _ _ _ _ _)); refine ⟨fun _ _ _ _ _ => ?_⟩) | ((with_reducible refine (?_ : hG _ _ _ _ _ _ _)); refine ⟨fun _ _ _ _ _ => ?_⟩) | ((with_reducible refine (?_ : hTs _ _ _ _ _ _)); refine ⟨fun _ _ _ _ _ => ?_⟩)
  | ((with_reducible refine (?_ : wP _ _ _ _ _)); first | refine pnon ?_ | refine psom ?_) | ((with_reducible refine (?_ : wSl _ _ _ _ _ _)); first | refine slL (by one_place) (fun _ _ _ _ _ => ?_) | refine slS (by assumption) ?_)
  | ((with_reducible refine (?_ : wTs _ _ _ _ _)); first | refine tsnil ?_ | refine tsone ?_)
  | ((with_reducible refine (?_ : wA _ _ _ _ _)); first | refine acons ?_ | refine anil ?_)
  | ((with_reducible refine (?_ : wO _ _ _ _ _ _)); first
    | ((with_reducible refine (?_ : wO _ (binaryOp .Add) _ _ _ _)); first | refine oadd ?_ | refine ocatE (by one_item) (by one_item) (Nat.le_of_ble_eq_true rfl) (fun _ _ _ _ _ => ?_))
    | ((with_reducible refine (?_ : wO _ (binaryOp .Sub) _ _ _ _)); first | refine osub ?_)
    | ((with_reducible refine (?_ : wO _ (binaryOp .Mult) _ _ _ _)); first | refine omul (by first | exact IntMulOk.of_right (by decide) | exact IntMulOk.of_left (by decide) | exact IntMulOk.of_right (intBits_le_64 (by omega) (by omega)) | exact IntMulOk.of_left (intBits_le_64 (by omega) (by omega))) ?_)
    | ((with_reducible refine (?_ : wO _ (binaryOp .Mod) _ _ _ _)); first | refine omod (by first | decide | omega) ?_)
    | ((with_reducible refine (?_ : wO _ (binaryOp .FloorDiv) _ _ _ _)); first | refine ofdiv ⟨by first | decide | omega, by decide⟩ ?_)
    | ((with_reducible refine (?_ : wO _ (binaryOp .BitAnd) _ _ _ _)); first | refine oand ?_)
    | ((with_reducible refine (?_ : wO _ (binaryOp .BitOr) _ _ _ _)); first | refine oor ?_)
    | ((with_reducible refine (?_ : wO _ (compareOp .Lt) _ _ _ _)); first | refine olt ?_)
    | ((with_reducible refine (?_ : wO _ (compareOp .LtE) _ _ _ _)); first | refine ole ?_)
    | ((with_reducible refine (?_ : wO _ (compareOp .Gt) _ _ _ _)); first | refine ogt ?_)
    | ((with_reducible refine (?_ : wO _ (compareOp .GtE) _ _ _ _)); first | refine oge ?_)
    | ((with_reducible refine (?_ : wO _ (compareOp .Eq) _ _ _ _)); first | refine oeqi ?_ | refine oeq (by rfl) ?_)
    | ((with_reducible refine (?_ : wO _ (compareOp .NotEq) _ _ _ _)); first | refine onei ?_ | refine one (by rfl) ?_)
    | ((with_reducible refine (?_ : wO _ (compareOp .In) _ _ _ _)); first | refine oin ?_)
    | ((with_reducible refine (?_ : wO _ (compareOp .NotIn) _ _ _ _)); first | refine onin ?_)
    | ((with_reducible refine (?_ : wO _ (compareOp .Is) _ _ _ _)); first | refine ois ?_)
    | ((with_reducible refine (?_ : wO _ (compareOp .IsNot) _ _ _ _)); first | refine onot ?_)
    | ((with_reducible refine (?_ : wO _ (binaryOp .RShift) _ _ _ _)); refine oshr (by first | decide | omega) ?_)
    | ((with_reducible refine (?_ : wO _ (binaryOp .BitXor) _ _ _ _)); refine oxor ?_)
    | ((with_reducible refine (?_ : wO _ (inplaceOp .BitXor) _ _ _ _)); refine ixor ?_)
    | ((with_reducible refine (?_ : wO _ (inplaceOp .RShift) _ _ _ _)); refine ishr (by first | decide | omega) ?_)
    | ((with_reducible refine (?_ : wO _ (inplaceOp .BitOr) _ _ _ _)); first | refine ior ?_)
    | ((with_reducible refine (?_ : wO _ (inplaceOp .Add) _ _ _ _)); first | refine iadd ?_))
  | ((with_reducible refine (?_ : wT _ _ _ _ _)); first
    | ((with_reducible refine (?_ : wT _ (.Compare _ _ _ _) _ _ _)); first | refine zcmpT (by rfl) ?_ | refine zchainT ?_)
    | ((with_reducible refine (?_ : wT _ (.UnaryOp _ _ _) _ _ _)); refine znotT ?_)
    | ((with_reducible refine (?_ : wT _ (.BoolOp _ _ _) _ _ _)); refine zW ?_)
    | refine zval ?_)
  | ((with_reducible refine (?_ : wW _ _ _ _ _)); first | refine zand ?_ | refine zor ?_ | refine zand1 ?_ | refine zor1 ?_)
  | ((with_reducible refine (?_ : wK _ _ _ _ _)); first
    | ((with_reducible refine (?_ : wK _ (.builtin "len") _ _ _)); first | refine klenL (by one_place) ?_ | refine klenT (by one_place) ?_ | refine klenS (by assumption) ?_)
    | ((with_reducible refine (?_ : wK _ (.builtin "isinstance") _ _ _)); first | refine kisE (by assumption) (by assumption) (by first | assumption | exact Xd.exx (by assumption) (by one_sign)) (by first | exact .own _ | exact .ty _) (by assumption) ?_ | refine kisi (.ty _) (by assumption) (by assumption) ?_ | refine kisi (.ty _) (.base (by first | exact .int _ | exact .bl _ | exact .str _ | exact .non | exact .tup (by one_item) | exact .lst (by one_item))) (kit_ty (r := true) (by rfl)) ?_ | refine kisi (.ty _) (.base (by first | exact .int _ | exact .bl _ | exact .str _ | exact .non | exact .tup (by one_item) | exact .lst (by one_item))) (kit_ty (r := false) (by rfl)) ?_)
    | ((with_reducible refine (?_ : wK _ (.builtin "divmod") _ _ _)); refine kdivmod ⟨by first | decide | omega, by decide⟩ (fun _ _ _ _ _ => ?_))
    | ((with_reducible refine (?_ : wK _ (.builtin "min") _ _ _)); refine kmin (by rfl) ?_)
    | ((with_reducible refine (?_ : wK _ (.builtin "max") _ _ _)); refine kmax (by rfl) ?_)
    | ((with_reducible refine (?_ : wK _ (.type "list") _ _ _)); first | refine klistL (by one_place) (fun _ _ _ _ _ => ?_) | refine klistT (by one_place) (fun _ _ _ _ _ => ?_))
    | ((with_reducible refine (?_ : wK _ (.type "tuple") _ _ _)); first | refine ktupL (by one_place) (fun _ _ _ _ _ => ?_)))
  | ((with_reducible refine (?_ : wS _ _ _ _ _)); first
    | ((with_reducible refine (?_ : wS _ (.Assign [.Name _ _] _ _) _ _ _)); refine sset' (by assumption) (by rfl) (by first | exact Or.inl rfl | exact Or.inr rfl) (by rfl) (by first | exact .inl rfl | exact .inr rfl) ?_)
    | ((with_reducible refine (?_ : wS _ (.AugAssign (.Name _ _) _ _ _) _ _ _)); refine saug' (by assumption) (by rfl) (by first | exact Or.inl rfl | exact Or.inr rfl) (by first | exact .inl rfl | exact .inr rfl) (by rfl) ?_)
    | ((with_reducible refine (?_ : wS _ (.Expr _ _) _ _ _)); refine sexp ?_)
    | ((with_reducible refine (?_ : wS _ (.Assign [.Tuple _ _ _] _ _) _ _ _)); refine sasg ?_) | ((with_reducible refine (?_ : wS _ (.Assign [.Subscript _ _ _] _ _) _ _ _)); refine sasg ?_)
    | refine sret ?_ | refine sif ?_ | refine sretN ?_ | refine spass ?_ | refine sbrk ?_ | refine scont ?_)
  | ((with_reducible refine (?_ : wG _ (.Name _ _) _ _ _ _)); refine gname' (by assumption) (by rfl) (by first | exact Or.inl rfl | exact Or.inr rfl) (by first | exact .inl rfl | exact .inr rfl) ?_)
  | ((with_reducible refine (?_ : wG _ (.Tuple _ _ _) _ _ _ _)); refine gtup rfl (by one_place) rfl ?_) | ((with_reducible refine (?_ : wG _ (.Subscript _ _ _) _ _ _ _)); refine gsub ?_)
  | ((with_reducible refine (?_ : wGs _ _ _ _ _ _)); first | refine gscons ?_ | refine gsnil ?_)
  | ((with_reducible refine (?_ : wB _ _ _ _ _)); first | refine bcons ?_ | refine bnil ?_)
  | refine ifT ?_ | refine ifF ?_ | refine ifd (fun _ => ?_) (fun _ => ?_) | refine ifnd (fun _ => ?_) (fun _ => ?_) | refine ⟨_, rfl, ?_⟩ | refine ⟨rfl, Evl.Ex.refl _, ?_⟩ | refine ⟨Nat.le_of_ble_eq_true rfl, fun _ _ _ _ _ => ?_⟩ | fail)
local macro_rules | `(tactic| top_name) => `(tactic| repeat' tb_rel)
local macro_rules | `(tactic| nest_fact) => `(tactic| first | exact ⟨(decide_eq_true (by omega)).symm, rfl⟩ | exact ⟨(decide_eq_false (by omega)).symm, rfl⟩ | exact ⟨decide_eq_decide.mpr (by omega), rfl⟩ | fail)
/-! ### rows -/
def sp_need_row (K : PySem.W.Frag) : Sp := fun vs H Q E => ∃ (u : V) (b : Bool), vs = [u] ∧ RowAsk K H u b ∧ if b = true then ∀ H', Ex H H' → Q .non H' else ∀ H', Ex H H' → E (.ref (He.ga K "BadRow")) none H'
theorem ok_need_row (T : Txt K mg) : Gf P w K mg base 3 "need_row" [] (sp_need_row K) := by
  refine gf_mk T.f_need_row T.m_need_row (fun _ _ _ _ _ _ us hl => match us, hl with | [_], _ => rfl) fun fd F => fn_mk F sc_need_row (fun vs H Q E h => ?_) fun cd A outer s H vs Q E hr tk po h => ?_
  · obtain ⟨u, b, rfl, _⟩ := h; rfl
  · obtain ⟨u, b, rfl, ha, q⟩ := h
    have nd := sc_need_row.nd
    have n1 := T.n_isinstance
    have n2 := T.n_list
    have n3 := T.n_tuple
    have n4 := T.n_all
    have g1 := T.g_BYTE
    refine bcons (sif (tcutE (!b) ?_ fun H' e => ?_))
    · top_name
      rename_i tp H1 htp e1 hxt
      cases ha with
      | @lst l xs bs h a hz =>
        refine kisiT (t := .type "list") (b := true) hxt (.cons (.ty _) (.cons (.ty _) .nil)) (.base (.lst (e1 _ _ h))) (by rfl) ?_
        top_name
        refine zlc rfl nd [("byte", 1)] (blkOk_by (N := N_need_row) (sc := defScope s_need_row) (by decide +kernel)) piL (tmL (xs := xs) (fun j => (bs.take j).map V.bl) rfl ?_)
        top_name
        refine ⟨SqL.of (e1 _ _ h), fun j x H2 hx e2 => ?_, fun L H2 hL e2 hx => ?_⟩
        · obtain ⟨b', hb', ask⟩ := a.get hx
          top_name
          refine zcall (ok_is_among T) hr (by decide) takesF rfl ?_
          top_name
          refine ⟨x, 0, 255, b', rfl, Asked.ex (e1.trans e2) ask, ?_⟩
          refine ⟨?_, ?_, Evl.Ex.refl _⟩
          · obtain ⟨hl, rfl⟩ := List.getElem?_eq_some_iff.mp hb'
            show (bs.take (j + 1)).map V.bl = (bs.take j).map V.bl ++ [V.bl bs[j]]
            rw [List.take_add_one, List.getElem?_eq_getElem hl, List.map_append]
            rfl
          · have := (List.getElem?_eq_some_iff.mp hx).1
            rw [List.length_map, List.length_take]
            omega
        · have hl := a.length
          rw [hl, List.take_length] at hx
          top_name
          refine kall rfl (SqL.of hx) ?_
          exact ⟨_, rfl, rfl, e1.trans e2⟩
      | @tup l xs bs h a hz =>
        refine kisiT (t := .type "tuple") (b := true) hxt (.cons (.ty _) (.cons (.ty _) .nil)) (.base (.tup (e1 _ _ h))) (by rfl) ?_
        top_name
        refine zlc rfl nd [("byte", 1)] (blkOk_by (N := N_need_row) (sc := defScope s_need_row) (by decide +kernel)) piT (tmT (xs := xs) (fun j => (bs.take j).map V.bl) rfl ?_)
        top_name
        refine ⟨SqT.of (e1 _ _ h), fun j x H2 hx e2 => ?_, fun L H2 hL e2 hx => ?_⟩
        · obtain ⟨b', hb', ask⟩ := a.get hx
          top_name
          refine zcall (ok_is_among T) hr (by decide) takesF rfl ?_
          top_name
          refine ⟨x, 0, 255, b', rfl, Asked.ex (e1.trans e2) ask, ?_⟩
          refine ⟨?_, ?_, Evl.Ex.refl _⟩
          · obtain ⟨hl, rfl⟩ := List.getElem?_eq_some_iff.mp hb'
            show (bs.take (j + 1)).map V.bl = (bs.take j).map V.bl ++ [V.bl bs[j]]
            rw [List.take_add_one, List.getElem?_eq_getElem hl, List.map_append]
            rfl
          · have := (List.getElem?_eq_some_iff.mp hx).1
            rw [List.length_map, List.length_take]
            omega
        · have hl := a.length
          rw [hl, List.take_length] at hx
          top_name
          refine kall rfl (SqL.of hx) ?_
          exact ⟨_, rfl, rfl, e1.trans e2⟩
      | not ty k =>
        refine kisiT (b := false) hxt (.cons (.ty _) (.cons (.ty _) .nil)) (TyX.ex e1 ty) k ?_
        top_name
        exact ⟨rfl, e1⟩
    · cases b with
      | true =>
        rw [if_pos rfl] at q
        top_name
        exact q _ e
      | false =>
        rw [if_neg Bool.false_ne_true] at q
        top_name
        exact sraise rfl tk (mplain T.e_BadRow T.m_BadRow rfl (q _ e))
end K05

set_option maxRecDepth 100000
set_option maxHeartbeats 4000000
set_option pp.maxSteps 1500
namespace K05
open PySem PySem.Spec PyProof.Rows L2 Z
open Evl (Ex)
variable {P : Program} {w : World} {K : PySem.W.Frag} {mg : Str → Option Value} {base : Heap}
/-! ### steps of the walk: one_sign: a heap grew into another; one_item: what stands at an address; one_place: a list or tuple to be read; leaf_len: arithmetic; tb_rel: one step; top_name: steps as far as they go -/
local macro_rules | `(tactic| got_up) => `(tactic| (refine Evl.Ex.trans (by assumption) ?_; first | assumption | exact Evl.Ex.refl _ | got_up))
local macro_rules | `(tactic| units_room) => `(tactic| (refine Evl.Ex.trans ?_ (by assumption); first | assumption | exact Evl.Ex.refl _ | units_room))
local macro_rules | `(tactic| one_sign) => `(tactic| first | assumption | exact Evl.Ex.refl _ | got_up | units_room)
local macro_rules | `(tactic| one_item) => `(tactic| first | assumption | exact upd_same | exact exa (by assumption) (by one_sign))
local macro_rules | `(tactic| one_place) => `(tactic| first | assumption | exact SqL.of (by assumption) | exact SqT.of (by assumption) | exact exl (by assumption) (by one_sign) | exact ext (by assumption) (by one_sign) | exact SqL.of (by one_item) | exact SqT.of (by one_item))
local macro_rules | `(tactic| leaf_len) => `(tactic| first | assumption | decide | omega)
local macro_rules | `(tactic| tb_rel) => `(tactic| first
  | ((with_reducible refine (?_ : wE _ _ _ _ _)); first
    | ((with_reducible refine (?_ : wE _ (.Name _ _) _ _ _)); first | refine zn (by rfl) (by first | exact Or.inl rfl | exact Or.inr (Or.inl rfl) | exact Or.inr (Or.inr rfl)) (by rfl) ?_ | refine zglob (by assumption) (by rfl) ?_ | refine zcls (by assumption) (by rfl) ?_ | refine zty (by assumption) (by first | exact bt_int | exact bt_bool | exact bt_str | exact bt_list | exact bt_tuple | exact bt_dict | exact bt_ValueError) (by rfl) ?_)
    | ((with_reducible refine (?_ : wE _ (.Constant _ _ _) _ _ _)); first | refine zint ?_ | refine zstr ?_ | refine zbl ?_ | refine znon ?_)
    | ((with_reducible refine (?_ : wE _ (.BinOp _ _ _ _) _ _ _)); refine zbin ?_)
    | ((with_reducible refine (?_ : wE _ (.Compare _ _ _ _) _ _ _)); first | refine zcmp (by rfl) ?_ | refine zchain ?_)
    | ((with_reducible refine (?_ : wE _ (.Dict [] [] _) _ _ _)); refine zdnew (fun _ _ _ _ _ => ?_))
    | ((with_reducible refine (?_ : wE _ (.Subscript _ (.Slice _ _ _ _) _) _ _ _)); refine zsl ?_)
    | ((with_reducible refine (?_ : wE _ (.Subscript _ _ _) _ _ _)); refine zix ?_)
    | ((with_reducible refine (?_ : wE _ (.Call (.Name "list" _) [.Call (.Name "range" _) [_] [] _] [] _) _ _ _)); refine zlrg1 rfl (by rfl) (by assumption) (by rfl) (by assumption) ?_)
    | ((with_reducible refine (?_ : wE _ (.Call (.Name _ _) _ _ _) _ _ _)); first
      | ((with_reducible refine (?_ : wE _ (.Call (.Name "len" _) _ _ _) _ _ _)); refine zbfn (by assumption) bt_len (by rfl) ?_)
      | ((with_reducible refine (?_ : wE _ (.Call (.Name "isinstance" _) _ _ _) _ _ _)); refine zbfn (by assumption) bt_isi (by rfl) ?_)
      | ((with_reducible refine (?_ : wE _ (.Call (.Name "min" _) _ _ _) _ _ _)); refine zbfn (by assumption) bt_min (by rfl) ?_)
      | ((with_reducible refine (?_ : wE _ (.Call (.Name "max" _) _ _ _) _ _ _)); refine zbfn (by assumption) bt_max (by rfl) ?_)
      | ((with_reducible refine (?_ : wE _ (.Call (.Name "list" _) _ _ _) _ _ _)); refine zbty (by assumption) bt_list (by rfl) ?_)
      | ((with_reducible refine (?_ : wE _ (.Call (.Name "tuple" _) _ _ _) _ _ _)); refine zbty (by assumption) bt_tuple (by rfl) ?_)
      | ((with_reducible refine (?_ : wE _ (.Call (.Name "int" _) _ _ _) _ _ _)); refine zbty (by assumption) bt_int (by rfl) ?_)
      | ((with_reducible refine (?_ : wE _ (.Call (.Name "abs" _) _ _ _) _ _ _)); refine zbfn (by assumption) bt_abs (by rfl) ?_)
      | ((with_reducible refine (?_ : wE _ (.Call (.Name "all" _) _ _ _) _ _ _)); refine zbfn (by assumption) bt_all (by rfl) ?_)
      | ((with_reducible refine (?_ : wE _ (.Call (.Name "sum" _) _ _ _) _ _ _)); refine zbfn (by assumption) bt_sum (by rfl) ?_)
      | ((with_reducible refine (?_ : wE _ (.Call (.Name "divmod" _) _ _ _) _ _ _)); refine zbfn (by assumption) bt_divmod (by rfl) ?_)
      | ((with_reducible refine (?_ : wE _ (.Call (.Name "ord" _) _ _ _) _ _ _)); refine zbfn (by assumption) bt_ord (by rfl) ?_))
    | ((with_reducible refine (?_ : wE _ (.IfExp _ _ _ _) _ _ _)); refine zif ?_)
    | ((with_reducible refine (?_ : wE _ (.Tuple _ _ _) _ _ _)); refine ztup ?_)
    | ((with_reducible refine (?_ : wE _ (.List _ _) _ _ _)); refine zlst ?_)
    | ((with_reducible refine (?_ : wE _ (.UnaryOp _ _ _) _ _ _)); first | refine znotV ?_ | refine zneg ?_)
    | ((with_reducible refine (?_ : wE _ (.BoolOp _ _ _) _ _ _)); first | refine zandV ?_ | refine zorV ?_ | refine zoneV ?_))
  | ((with_reducible refine (?_ : bE _ _ _ _ _ _)); refine ⟨fun _ _ _ _ _ => ?_⟩) | ((with_reducible refine (?_ : bG _ _ _ _ _ _ _)); refine ⟨fun _ _ _ _ _ => ?_⟩) | ((with_reducible refine (?_ : bTs _ _ _ _ _ _)); refine ⟨fun _ _ _ _ _ => ?_⟩)
  | ((with_reducible refine (?_ : hE _ _ _ _ _ _)); refine ⟨fun _ _ _ _ _ => ?_⟩) | ((with_reducible refine (?_ : hG _ _ _ _ _ _ _)); refine ⟨fun _ _ _ _ _ => ?_⟩) | ((with_reducible refine (?_ : hTs _ _ _ _ _ _)); refine ⟨fun _ _ _ _ _ => ?_⟩)
  | ((with_reducible refine (?_ : wP _ _ _ _ _)); first | refine pnon ?_ | refine psom ?_) | ((with_reducible refine (?_ : wSl _ _ _ _ _ _)); first | refine slL (by one_place) (fun _ _ _ _ _ => ?_) | refine slS (by assumption) ?_)
  | ((with_reducible refine (?_ : wTs _ _ _ _ _)); first | refine tsnil ?_ | refine tsone ?_)
  | ((with_reducible refine (?_ : wA _ _ _ _ _)); first | refine acons ?_ | refine anil ?_)
  | ((with_reducible refine (?_ : wO _ _ _ _ _ _)); first
    | ((with_reducible refine (?_ : wO _ (binaryOp .Add) _ _ _ _)); first | refine oadd ?_ | refine ocatE (by one_item) (by one_item) (Nat.le_of_ble_eq_true rfl) (fun _ _ _ _ _ => ?_))
    | ((with_reducible refine (?_ : wO _ (binaryOp .Sub) _ _ _ _)); first | refine osub ?_)
    | ((with_reducible refine (?_ : wO _ (binaryOp .Mult) _ _ _ _)); first | refine omul (by first | exact IntMulOk.of_right (by decide) | exact IntMulOk.of_left (by decide) | exact IntMulOk.of_right (intBits_le_64 (by omega) (by omega)) | exact IntMulOk.of_left (intBits_le_64 (by omega) (by omega))) ?_)
    | ((with_reducible refine (?_ : wO _ (binaryOp .Mod) _ _ _ _)); first | refine omod (by first | decide | omega) ?_)
    | ((with_reducible refine (?_ : wO _ (binaryOp .FloorDiv) _ _ _ _)); first | refine ofdiv ⟨by first | decide | omega, by decide⟩ ?_)
    | ((with_reducible refine (?_ : wO _ (binaryOp .BitAnd) _ _ _ _)); first | refine oand ?_)
    | ((with_reducible refine (?_ : wO _ (binaryOp .BitOr) _ _ _ _)); first | refine oor ?_)
    | ((with_reducible refine (?_ : wO _ (compareOp .Lt) _ _ _ _)); first | refine olt ?_)
    | ((with_reducible refine (?_ : wO _ (compareOp .LtE) _ _ _ _)); first | refine ole ?_)
    | ((with_reducible refine (?_ : wO _ (compareOp .Gt) _ _ _ _)); first | refine ogt ?_)
    | ((with_reducible refine (?_ : wO _ (compareOp .GtE) _ _ _ _)); first | refine oge ?_)
    | ((with_reducible refine (?_ : wO _ (compareOp .Eq) _ _ _ _)); first | refine oeqi ?_ | refine oeq (by rfl) ?_)
    | ((with_reducible refine (?_ : wO _ (compareOp .NotEq) _ _ _ _)); first | refine onei ?_ | refine one (by rfl) ?_)
    | ((with_reducible refine (?_ : wO _ (compareOp .In) _ _ _ _)); first | refine oin ?_)
    | ((with_reducible refine (?_ : wO _ (compareOp .NotIn) _ _ _ _)); first | refine onin ?_)
    | ((with_reducible refine (?_ : wO _ (compareOp .Is) _ _ _ _)); first | refine ois ?_)
    | ((with_reducible refine (?_ : wO _ (compareOp .IsNot) _ _ _ _)); first | refine onot ?_)
    | ((with_reducible refine (?_ : wO _ (binaryOp .RShift) _ _ _ _)); refine oshr (by first | decide | omega) ?_)
    | ((with_reducible refine (?_ : wO _ (binaryOp .BitXor) _ _ _ _)); refine oxor ?_)
    | ((with_reducible refine (?_ : wO _ (inplaceOp .BitXor) _ _ _ _)); refine ixor ?_)
    | ((with_reducible refine (?_ : wO _ (inplaceOp .RShift) _ _ _ _)); refine ishr (by first | decide | omega) ?_)
    | ((with_reducible refine (?_ : wO _ (inplaceOp .BitOr) _ _ _ _)); first | refine ior ?_)
    | ((with_reducible refine (?_ : wO _ (inplaceOp .Add) _ _ _ _)); first | refine iadd ?_))
  | ((with_reducible refine (?_ : wT _ _ _ _ _)); first
    | ((with_reducible refine (?_ : wT _ (.Compare _ _ _ _) _ _ _)); first | refine zcmpT (by rfl) ?_ | refine zchainT ?_)
    | ((with_reducible refine (?_ : wT _ (.UnaryOp _ _ _) _ _ _)); refine znotT ?_)
    | ((with_reducible refine (?_ : wT _ (.BoolOp _ _ _) _ _ _)); refine zW ?_)
    | refine zval ?_)
  | ((with_reducible refine (?_ : wW _ _ _ _ _)); first | refine zand ?_ | refine zor ?_ | refine zand1 ?_ | refine zor1 ?_)
  | ((with_reducible refine (?_ : wK _ _ _ _ _)); first
    | ((with_reducible refine (?_ : wK _ (.builtin "len") _ _ _)); first | refine klenL (by one_place) ?_ | refine klenT (by one_place) ?_ | refine klenS (by assumption) ?_)
    | ((with_reducible refine (?_ : wK _ (.builtin "isinstance") _ _ _)); first | refine kisE (by assumption) (by assumption) (by first | assumption | exact Xd.exx (by assumption) (by one_sign)) (by first | exact .own _ | exact .ty _) (by assumption) ?_ | refine kisi (.ty _) (by assumption) (by assumption) ?_ | refine kisi (.ty _) (.base (by first | exact .int _ | exact .bl _ | exact .str _ | exact .non | exact .tup (by one_item) | exact .lst (by one_item))) (kit_ty (r := true) (by rfl)) ?_ | refine kisi (.ty _) (.base (by first | exact .int _ | exact .bl _ | exact .str _ | exact .non | exact .tup (by one_item) | exact .lst (by one_item))) (kit_ty (r := false) (by rfl)) ?_)
    | ((with_reducible refine (?_ : wK _ (.builtin "divmod") _ _ _)); refine kdivmod ⟨by first | decide | omega, by decide⟩ (fun _ _ _ _ _ => ?_))
    | ((with_reducible refine (?_ : wK _ (.builtin "min") _ _ _)); refine kmin (by rfl) ?_)
    | ((with_reducible refine (?_ : wK _ (.builtin "max") _ _ _)); refine kmax (by rfl) ?_)
    | ((with_reducible refine (?_ : wK _ (.type "list") _ _ _)); first | refine klistL (by one_place) (fun _ _ _ _ _ => ?_) | refine klistT (by one_place) (fun _ _ _ _ _ => ?_))
    | ((with_reducible refine (?_ : wK _ (.type "tuple") _ _ _)); first | refine ktupL (by one_place) (fun _ _ _ _ _ => ?_)))
  | ((with_reducible refine (?_ : wS _ _ _ _ _)); first
    | ((with_reducible refine (?_ : wS _ (.Assign [.Name _ _] _ _) _ _ _)); refine sset' (by assumption) (by rfl) (by first | exact Or.inl rfl | exact Or.inr rfl) (by rfl) (by first | exact .inl rfl | exact .inr rfl) ?_)
    | ((with_reducible refine (?_ : wS _ (.AugAssign (.Name _ _) _ _ _) _ _ _)); refine saug' (by assumption) (by rfl) (by first | exact Or.inl rfl | exact Or.inr rfl) (by first | exact .inl rfl | exact .inr rfl) (by rfl) ?_)
    | ((with_reducible refine (?_ : wS _ (.Expr _ _) _ _ _)); refine sexp ?_)
    | ((with_reducible refine (?_ : wS _ (.Assign [.Tuple _ _ _] _ _) _ _ _)); refine sasg ?_) | ((with_reducible refine (?_ : wS _ (.Assign [.Subscript _ _ _] _ _) _ _ _)); refine sasg ?_)
    | refine sret ?_ | refine sif ?_ | refine sretN ?_ | refine spass ?_ | refine sbrk ?_ | refine scont ?_)
  | ((with_reducible refine (?_ : wG _ (.Name _ _) _ _ _ _)); refine gname' (by assumption) (by rfl) (by first | exact Or.inl rfl | exact Or.inr rfl) (by first | exact .inl rfl | exact .inr rfl) ?_)
  | ((with_reducible refine (?_ : wG _ (.Tuple _ _ _) _ _ _ _)); refine gtup rfl (by one_place) rfl ?_) | ((with_reducible refine (?_ : wG _ (.Subscript _ _ _) _ _ _ _)); refine gsub ?_)
  | ((with_reducible refine (?_ : wGs _ _ _ _ _ _)); first | refine gscons ?_ | refine gsnil ?_)
  | ((with_reducible refine (?_ : wB _ _ _ _ _)); first | refine bcons ?_ | refine bnil ?_)
  | refine ifT ?_ | refine ifF ?_ | refine ifd (fun _ => ?_) (fun _ => ?_) | refine ifnd (fun _ => ?_) (fun _ => ?_) | refine ⟨_, rfl, ?_⟩ | refine ⟨rfl, Evl.Ex.refl _, ?_⟩ | refine ⟨Nat.le_of_ble_eq_true rfl, fun _ _ _ _ _ => ?_⟩ | fail)
local macro_rules | `(tactic| top_name) => `(tactic| repeat' tb_rel)
local macro_rules | `(tactic| nest_fact) => `(tactic| first | exact ⟨(decide_eq_true (by omega)).symm, rfl⟩ | exact ⟨(decide_eq_false (by omega)).symm, rfl⟩ | exact ⟨decide_eq_decide.mpr (by omega), rfl⟩ | fail)
/-! ### the check -/
def RowAt (K : PySem.W.Frag) (H : Hp) (l : Addr) (xs : List Int) : Prop := H l = some (.lst (xs.map V.int)) ∨ H l = some (.tup (xs.map V.int))
def Bytes (xs : List Int) : Prop := ∀ x ∈ xs, 0 ≤ x ∧ x < 256
theorem RowAt.ex {H H' : Hp} {l : Addr} {xs : List Int} (h : RowAt K H l xs) (e : Ex H H') : RowAt K H' l xs := h.elim (fun h => .inl (e _ _ h)) fun h => .inr (e _ _ h)
theorem all_true : ∀ ns : List Int, (ns.map fun _ => true).all id = true
  | [] => rfl
  | _ :: ns => all_true ns
theorem RowAt.ask {H : Hp} {l : Addr} {xs : List Int} (h : RowAt K H l xs) (hb : Bytes xs) (hz : xs.length ≤ sizeLine) : RowAsk K H (.ref l) true := by
  have a := AskedAll.ints (K := K) (H := H) (lo := 0) (hi := 255) (ns := xs) fun n hn => by have := hb n hn; omega
  have e := all_true xs
  rcases h with h | h
  · rw [← e]; exact .lst h a (by rw [List.length_map]; exact hz)
  · rw [← e]; exact .tup h a (by rw [List.length_map]; exact hz)
theorem lforR {X : Cx} {σ : Z.St} {H : Hp} {tg e : Expr} {body : List Stmt} {pos : Pos} {D : Ends} {l : Addr} {xs : List Int} (hp : PassesOwn (model X.prog X.w) X.A X.env X.xe) (hc : X.calm = true) (hrow : RowAt X.K H l xs) (he : ∀ Q : VK, Q (.ref l) H → wE X e σ H Q) (Pv : Nat → Z.St → Hp → Prop) (h0 : Pv 0 σ H)
    (hx : ∀ i σ' H', i ≤ xs.length → Pv i σ' H' → Ex H H') (ht : ∀ i b σ' H', xs[i]? = some b → Pv i σ' H' → wG X tg (.int b) σ' H' fun σ2 H2 => wB X body { D with nx := Pv (i + 1), ct := Pv (i + 1), bk := D.nx } σ2 H2) (hd : ∀ σ' H', Pv xs.length σ' H' → D.nx σ' H')
    (hs : ∀ x, foldedSetIterable e X.env x = pure x := by intro _; rfl) : wS X (.For tg e body [] pos) D σ H := by
  have turn : ∀ i x σ' H', (xs.map V.int)[i]? = some x → Pv i σ' H' → wG X tg x σ' H' fun σ2 H2 => wB X body { D with nx := Pv (i + 1), ct := Pv (i + 1), bk := D.nx } σ2 H2 := fun i x σ' H' h z => by
    rw [List.getElem?_map] at h
    cases hb : xs[i]? with
    | none => rw [hb] at h; cases h
    | some b => rw [hb] at h; cases h; exact ht i b σ' H' hb z
  rcases hrow with h | h
  · exact lforL (xs := xs.map V.int) hp hc Pv (he _ ⟨l, rfl, SqL.of h, h0, fun i σ' H' hi z => SqL.of (hx i σ' H' (by rwa [List.length_map] at hi) z _ _ h), turn, fun σ' H' z => hd σ' H' (by rwa [List.length_map] at z)⟩) hs
  · exact lforT (xs := xs.map V.int) hp hc Pv (he _ ⟨l, rfl, SqT.of h, h0, fun i σ' H' hi z => SqT.of (hx i σ' H' (by rwa [List.length_map] at hi) z _ _ h), turn, fun σ' H' z => hd σ' H' (by rwa [List.length_map] at z)⟩) hs
theorem zlcR {X : Cx} {σ : Z.St} {H : Hp} {elt tg e : Expr} {ifs : List Expr} {scope : Scope} {pos : Pos} {Q : VK} {l : Addr} {xs : List Int} (hc : X.calm = true) (hN : X.N.Nodup) (own : List (Str × Nat)) (ok : BlkOk X.N X.env.scope scope own) (hrow : RowAt X.K H l xs) (he : ∀ Q : VK, Q (.ref l) H → wE X e σ H Q) (acc : Nat → List V) (h0 : acc 0 = [])
    (ht : ∀ j b H', xs[j]? = some b → Ex H H' → turnA X scope tg ifs elt (own.map (·.2)) acc j (.int b) σ H') (fin : ∀ L H', H L = none → Ex H H' → H' L = some (.lst (acc xs.length)) → Q (.ref L) H') (hs : ∀ x, foldedSetIterable e X.env x = pure x := by intro _; rfl) : wE X (.ListComp elt [⟨tg, e, ifs, 0⟩] scope pos) σ H Q := by
  have turn : ∀ j x H', (xs.map V.int)[j]? = some x → Ex H H' → turnA X scope tg ifs elt (own.map (·.2)) acc j x σ H' := fun j x H' h z => by
    rw [List.getElem?_map] at h
    cases hb : xs[j]? with
    | none => rw [hb] at h; cases h
    | some b => rw [hb] at h; cases h; exact ht j b H' hb z
  rcases hrow with h | h
  · exact zlc hc hN own ok piL (tmL (xs := xs.map V.int) acc h0 (he _ ⟨l, rfl, SqL.of h, turn, fun L H' a b c => fin L H' a b (by rwa [List.length_map] at c)⟩)) hs
  · exact zlc hc hN own ok piT (tmT (xs := xs.map V.int) acc h0 (he _ ⟨l, rfl, SqT.of h, turn, fun L H' a b c => fin L H' a b (by rwa [List.length_map] at c)⟩)) hs
def sp_check (K : PySem.W.Frag) : Sp := fun vs H Q E => (∃ (l : Addr) (xs : List Int), vs = [.ref l] ∧ RowAt K H l xs ∧ Bytes xs ∧ xs.length ≤ sizeLine ∧ ∀ H', Ex H H' → Q (.int ((crc 65535 xs : Nat) : Int)) H') ∨ ∃ u, vs = [u] ∧ RowAsk K H u false ∧ ∀ H', Ex H H' → E (.ref (He.ga K "BadRow")) none H'
theorem ok_check (T : Txt K mg) : Gf P w K mg base 4 "check" [] (sp_check K) := by
  refine gf_mk T.f_check T.m_check (fun _ _ _ _ _ _ us hl => match us, hl with | [_], _ => rfl) fun fd F => fn_mk F sc_check (fun vs H Q E h => ?_) fun cd A outer s H vs Q E hr tk po h => ?_
  · rcases h with ⟨l, xs, rfl, _⟩ | ⟨u, rfl, _⟩ <;> rfl
  · have nd := sc_check.nd
    have n1 := T.n_range
    have g1 := T.g_FIRST_CHECK
    have g2 := T.g_STEP
    rcases h with ⟨l, xs, rfl, hrow, hb, hz, q⟩ | ⟨u, rfl, ha, q⟩
    · top_name
      refine zcall (ok_need_row T) hr (by decide) tk rfl ?_
      top_name
      refine ⟨.ref l, true, rfl, hrow.ask hb hz, ?_⟩
      rw [if_pos rfl]
      intro H1 e1
      top_name
      refine lforR po rfl (hrow.ex e1) (fun Q h => by top_name; exact h) (fun i σ H' => H1 = H' ∧ ∃ (v2 v3 v4 : Option V), σ = [some (.ref l), some (.int ((crc 65535 (xs.take i) : Nat) : Int)), v2, v3, v4]) ⟨rfl, _, _, _, rfl⟩ (fun i σ' H' _ z => by obtain ⟨rfl, _⟩ := z; exact Evl.Ex.refl _) ?_ ?_
      · rintro i b σ H2 hx ⟨rfl, v2, v3, v4, rfl⟩
        have hb2 := hb b (List.mem_of_getElem? hx)
        have hc := crc_lt (f := 65535) (by decide) (xs.take i)
        generalize hf : crc 65535 (xs.take i) = f at hc ⊢
        top_name
        refine oshl (shl_ok (n := 8) (j := 8) (by omega) (by decide)) ?_
        have e8 : Builtin.bitXor (f : Int) (b * 2 ^ (8 : Int).toNat) = ((f ^^^ (b.toNat * 256) : Nat) : Int) := by
          show Builtin.bitXor (f : Int) (b * 256) = _
          rw [_root_.Bits.bitXor_pp (by omega) (by omega), Int.toNat_natCast, show (b * 256).toNat = b.toNat * 256 from by omega]
        refine ixor ?_
        rw [e8]
        have hg : f ^^^ (b.toNat * 256) < 65536 := Nat.xor_lt_two_pow (n := 16) hc (by omega)
        refine bcons (lfor1 (n := 8) n1 po rfl (fun i' σ H' => H1 = H' ∧ ∃ (v3 v4 : Option V), σ = [some (.ref l), some (.int ((pTurns (f ^^^ (b.toNat * 256)) i' : Nat) : Int)), some (.int b), v3, v4]) rfl ?_)
        top_name
        refine ⟨rfl, by decide, by decide, ⟨rfl, _, _, rfl⟩, ?_, ?_⟩
        · rintro i' σ H3 hi' ⟨rfl, v3, v4, rfl⟩
          have hp := pTurns_lt hg i'
          have hst : pTurns (f ^^^ (b.toNat * 256)) (i' + 1) = pStep (pTurns (f ^^^ (b.toNat * 256)) i') := rfl
          generalize pTurns (f ^^^ (b.toNat * 256)) i' = p at hp hst ⊢
          rw [hst]
          unfold pStep
          top_name
          refine oshl (shl_ok (n := 16) (j := 1) (by omega) (by decide)) ?_
          have d1 : (p : Int) / 2 ^ (15 : Int).toNat = ((p / 32768 : Nat) : Int) := by show (p : Int) / 32768 = _; omega
          have d2 : Builtin.bitAnd ((p : Int) * 2 ^ (1 : Int).toNat) 65535 = ((p * 2 % 65536 : Nat) : Int) := by
            rw [show (65535 : Int) = 2 ^ 16 - 1 from rfl, _root_.Bits.bitAnd_mask 16 (by show (0 : Int) ≤ (p : Int) * 2; omega)]
            show ((p : Int) * 2) % 65536 = _
            omega
          have d3 : Builtin.bitXor ((p * 2 % 65536 : Nat) : Int) 4129 = (((p * 2 % 65536) ^^^ 4129 : Nat) : Int) := by
            rw [_root_.Bits.bitXor_pp (by omega) (by omega)]
            rfl
          rw [d1]
          top_name
          · rename_i h
            refine ⟨rfl, some (.int (i' : Int)), some (.int ((p / 32768 : Nat) : Int)), ?_⟩
            rw [if_pos (by omega)]
            show [_, some (V.int (Builtin.bitXor (Builtin.bitAnd ((p : Int) * 2 ^ (1 : Int).toNat) 65535) 4129)), _, _, _] = _
            rw [d2, d3]
          · rename_i h
            refine ⟨rfl, some (.int (i' : Int)), some (.int ((p / 32768 : Nat) : Int)), ?_⟩
            rw [if_neg (by omega)]
            show [_, some (V.int (Builtin.bitAnd ((p : Int) * 2 ^ (1 : Int).toNat) 65535)), _, _, _] = _
            rw [d2]
        · rintro σ H3 ⟨rfl, v3, v4, rfl⟩
          top_name
          refine ⟨rfl, some (.int b), v3, v4, ?_⟩
          rw [crc_take hx, hf]
          rfl
      · rintro σ H2 ⟨rfl, v2, v3, v4, rfl⟩
        rw [List.take_length]
        top_name
        exact q _ e1
    · top_name
      refine zcall (ok_need_row T) hr (by decide) tk rfl ?_
      top_name
      exact ⟨u, false, rfl, ha, by rw [if_neg Bool.false_ne_true]; exact q⟩
end K05

set_option maxRecDepth 100000
set_option maxHeartbeats 4000000
set_option pp.maxSteps 1500
namespace K05
open PySem PySem.Spec PyProof.Rows L2 Z
open Evl (Ex)
variable {P : Program} {w : World} {K : PySem.W.Frag} {mg : Str → Option Value} {base : Heap}
/-! ### steps of the walk: one_sign: a heap grew into another; one_item: what stands at an address; one_place: a list or tuple to be read; leaf_len: arithmetic; tb_rel: one step; top_name: steps as far as they go -/
local macro_rules | `(tactic| got_up) => `(tactic| (refine Evl.Ex.trans (by assumption) ?_; first | assumption | exact Evl.Ex.refl _ | got_up))
local macro_rules | `(tactic| units_room) => `(tactic| (refine Evl.Ex.trans ?_ (by assumption); first | assumption | exact Evl.Ex.refl _ | units_room))
local macro_rules | `(tactic| one_sign) => `(tactic| first | assumption | exact Evl.Ex.refl _ | got_up | units_room)
local macro_rules | `(tactic| one_item) => `(tactic| first | assumption | exact upd_same | exact exa (by assumption) (by one_sign))
local macro_rules | `(tactic| one_place) => `(tactic| first | assumption | exact SqL.of (by assumption) | exact SqT.of (by assumption) | exact exl (by assumption) (by one_sign) | exact ext (by assumption) (by one_sign) | exact SqL.of (by one_item) | exact SqT.of (by one_item))
local macro_rules | `(tactic| leaf_len) => `(tactic| first | assumption | decide | omega)
local macro_rules | `(tactic| tb_rel) => `(tactic| first
  | ((with_reducible refine (?_ : wE _ _ _ _ _)); first
    | ((with_reducible refine (?_ : wE _ (.Name _ _) _ _ _)); first | refine zn (by rfl) (by first | exact Or.inl rfl | exact Or.inr (Or.inl rfl) | exact Or.inr (Or.inr rfl)) (by rfl) ?_ | refine zglob (by assumption) (by rfl) ?_ | refine zcls (by assumption) (by rfl) ?_ | refine zty (by assumption) (by first | exact bt_int | exact bt_bool | exact bt_str | exact bt_list | exact bt_tuple | exact bt_dict | exact bt_ValueError) (by rfl) ?_)
    | ((with_reducible refine (?_ : wE _ (.Constant _ _ _) _ _ _)); first | refine zint ?_ | refine zstr ?_ | refine zbl ?_ | refine znon ?_)
    | ((with_reducible refine (?_ : wE _ (.BinOp _ _ _ _) _ _ _)); refine zbin ?_)
    | ((with_reducible refine (?_ : wE _ (.Compare _ _ _ _) _ _ _)); first | refine zcmp (by rfl) ?_ | refine zchain ?_)
    | ((with_reducible refine (?_ : wE _ (.Dict [] [] _) _ _ _)); refine zdnew (fun _ _ _ _ _ => ?_))
    | ((with_reducible refine (?_ : wE _ (.Subscript _ (.Slice _ _ _ _) _) _ _ _)); refine zsl ?_)
    | ((with_reducible refine (?_ : wE _ (.Subscript _ _ _) _ _ _)); refine zix ?_)
    | ((with_reducible refine (?_ : wE _ (.Call (.Name "list" _) [.Call (.Name "range" _) [_] [] _] [] _) _ _ _)); refine zlrg1 rfl (by rfl) (by assumption) (by rfl) (by assumption) ?_)
    | ((with_reducible refine (?_ : wE _ (.Call (.Name _ _) _ _ _) _ _ _)); first
      | ((with_reducible refine (?_ : wE _ (.Call (.Name "len" _) _ _ _) _ _ _)); refine zbfn (by assumption) bt_len (by rfl) ?_)
      | ((with_reducible refine (?_ : wE _ (.Call (.Name "isinstance" _) _ _ _) _ _ _)); refine zbfn (by assumption) bt_isi (by rfl) ?_)
      | ((with_reducible refine (?_ : wE _ (.Call (.Name "min" _) _ _ _) _ _ _)); refine zbfn (by assumption) bt_min (by rfl) ?_)
      | ((with_reducible refine (?_ : wE _ (.Call (.Name "max" _) _ _ _) _ _ _)); refine zbfn (by assumption) bt_max (by rfl) ?_)
      | ((with_reducible refine (?_ : wE _ (.Call (.Name "list" _) _ _ _) _ _ _)); refine zbty (by assumption) bt_list (by rfl) ?_)
      | ((with_reducible refine (?_ : wE _ (.Call (.Name "tuple" _) _ _ _) _ _ _)); refine zbty (by assumption) bt_tuple (by rfl) ?_)
      | ((with_reducible refine (?_ : wE _ (.Call (.Name "int" _) _ _ _) _ _ _)); refine zbty (by assumption) bt_int (by rfl) ?_)
      | ((with_reducible refine (?_ : wE _ (.Call (.Name "abs" _) _ _ _) _ _ _)); refine zbfn (by assumption) bt_abs (by rfl) ?_)
      | ((with_reducible refine (?_ : wE _ (.Call (.Name "all" _) _ _ _) _ _ _)); refine zbfn (by assumption) bt_all (by rfl) ?_)
      | ((with_reducible refine (?_ : wE _ (.Call (.Name "sum" _) _ _ _) _ _ _)); refine zbfn (by assumption) bt_sum (by rfl) ?_)
      | ((with_reducible refine (?_ : wE _ (.Call (.Name "divmod" _) _ _ _) _ _ _)); refine zbfn (by assumption) bt_divmod (by rfl) ?_)
      | ((with_reducible refine (?_ : wE _ (.Call (.Name "ord" _) _ _ _) _ _ _)); refine zbfn (by assumption) bt_ord (by rfl) ?_))
    | ((with_reducible refine (?_ : wE _ (.IfExp _ _ _ _) _ _ _)); refine zif ?_)
    | ((with_reducible refine (?_ : wE _ (.Tuple _ _ _) _ _ _)); refine ztup ?_)
    | ((with_reducible refine (?_ : wE _ (.List _ _) _ _ _)); refine zlst ?_)
    | ((with_reducible refine (?_ : wE _ (.UnaryOp _ _ _) _ _ _)); first | refine znotV ?_ | refine zneg ?_)
    | ((with_reducible refine (?_ : wE _ (.BoolOp _ _ _) _ _ _)); first | refine zandV ?_ | refine zorV ?_ | refine zoneV ?_))
  | ((with_reducible refine (?_ : bE _ _ _ _ _ _)); refine ⟨fun _ _ _ _ _ => ?_⟩) | ((with_reducible refine (?_ : bG _ _ _ _ _ _ _)); refine ⟨fun _ _ _ _ _ => ?_⟩) | ((with_reducible refine (?_ : bTs _ _ _ _ _ _)); refine ⟨fun _ _ _ _ _ => ?_⟩)
  | ((with_reducible refine (?_ : hE _ _ _ _ _ _)); refine ⟨fun _ _ _ _ _ => ?_⟩) | ((with_reducible refine (?_ : hG _ _ _ _ _ _ _)); refine ⟨fun _ _ _ _ _ => ?_⟩) | ((with_reducible refine (?_ : hTs _ _ _ _ _ _)); refine ⟨fun _ _ _ _ _ => ?_⟩)
  | ((with_reducible refine (?_ : wP _ _ _ _ _)); first | refine pnon ?_ | refine psom ?_) | ((with_reducible refine (?_ : wSl _ _ _ _ _ _)); first | refine slL (by one_place) (fun _ _ _ _ _ => ?_) | refine slS (by assumption) ?_)
  | ((with_reducible refine (?_ : wTs _ _ _ _ _)); first | refine tsnil ?_ | refine tsone ?_)
  | ((with_reducible refine (?_ : wA _ _ _ _ _)); first | refine acons ?_ | refine anil ?_)
  | ((with_reducible refine (?_ : wO _ _ _ _ _ _)); first
    | ((with_reducible refine (?_ : wO _ (binaryOp .Add) _ _ _ _)); first | refine oadd ?_ | refine ocatE (by one_item) (by one_item) (Nat.le_of_ble_eq_true rfl) (fun _ _ _ _ _ => ?_))
    | ((with_reducible refine (?_ : wO _ (binaryOp .Sub) _ _ _ _)); first | refine osub ?_)
    | ((with_reducible refine (?_ : wO _ (binaryOp .Mult) _ _ _ _)); first | refine omul (by first | exact IntMulOk.of_right (by decide) | exact IntMulOk.of_left (by decide) | exact IntMulOk.of_right (intBits_le_64 (by omega) (by omega)) | exact IntMulOk.of_left (intBits_le_64 (by omega) (by omega))) ?_)
    | ((with_reducible refine (?_ : wO _ (binaryOp .Mod) _ _ _ _)); first | refine omod (by first | decide | omega) ?_)
    | ((with_reducible refine (?_ : wO _ (binaryOp .FloorDiv) _ _ _ _)); first | refine ofdiv ⟨by first | decide | omega, by decide⟩ ?_)
    | ((with_reducible refine (?_ : wO _ (binaryOp .BitAnd) _ _ _ _)); first | refine oand ?_)
    | ((with_reducible refine (?_ : wO _ (binaryOp .BitOr) _ _ _ _)); first | refine oor ?_)
    | ((with_reducible refine (?_ : wO _ (compareOp .Lt) _ _ _ _)); first | refine olt ?_)
    | ((with_reducible refine (?_ : wO _ (compareOp .LtE) _ _ _ _)); first | refine ole ?_)
    | ((with_reducible refine (?_ : wO _ (compareOp .Gt) _ _ _ _)); first | refine ogt ?_)
    | ((with_reducible refine (?_ : wO _ (compareOp .GtE) _ _ _ _)); first | refine oge ?_)
    | ((with_reducible refine (?_ : wO _ (compareOp .Eq) _ _ _ _)); first | refine oeqi ?_ | refine oeq (by rfl) ?_)
    | ((with_reducible refine (?_ : wO _ (compareOp .NotEq) _ _ _ _)); first | refine onei ?_ | refine one (by rfl) ?_)
    | ((with_reducible refine (?_ : wO _ (compareOp .In) _ _ _ _)); first | refine oin ?_)
    | ((with_reducible refine (?_ : wO _ (compareOp .NotIn) _ _ _ _)); first | refine onin ?_)
    | ((with_reducible refine (?_ : wO _ (compareOp .Is) _ _ _ _)); first | refine ois ?_)
    | ((with_reducible refine (?_ : wO _ (compareOp .IsNot) _ _ _ _)); first | refine onot ?_)
    | ((with_reducible refine (?_ : wO _ (binaryOp .RShift) _ _ _ _)); refine oshr (by first | decide | omega) ?_)
    | ((with_reducible refine (?_ : wO _ (binaryOp .BitXor) _ _ _ _)); refine oxor ?_)
    | ((with_reducible refine (?_ : wO _ (inplaceOp .BitXor) _ _ _ _)); refine ixor ?_)
    | ((with_reducible refine (?_ : wO _ (inplaceOp .RShift) _ _ _ _)); refine ishr (by first | decide | omega) ?_)
    | ((with_reducible refine (?_ : wO _ (inplaceOp .BitOr) _ _ _ _)); first | refine ior ?_)
    | ((with_reducible refine (?_ : wO _ (inplaceOp .Add) _ _ _ _)); first | refine iadd ?_))
  | ((with_reducible refine (?_ : wT _ _ _ _ _)); first
    | ((with_reducible refine (?_ : wT _ (.Compare _ _ _ _) _ _ _)); first | refine zcmpT (by rfl) ?_ | refine zchainT ?_)
    | ((with_reducible refine (?_ : wT _ (.UnaryOp _ _ _) _ _ _)); refine znotT ?_)
    | ((with_reducible refine (?_ : wT _ (.BoolOp _ _ _) _ _ _)); refine zW ?_)
    | refine zval ?_)
  | ((with_reducible refine (?_ : wW _ _ _ _ _)); first | refine zand ?_ | refine zor ?_ | refine zand1 ?_ | refine zor1 ?_)
  | ((with_reducible refine (?_ : wK _ _ _ _ _)); first
    | ((with_reducible refine (?_ : wK _ (.builtin "len") _ _ _)); first | refine klenL (by one_place) ?_ | refine klenT (by one_place) ?_ | refine klenS (by assumption) ?_)
    | ((with_reducible refine (?_ : wK _ (.builtin "isinstance") _ _ _)); first | refine kisE (by assumption) (by assumption) (by first | assumption | exact Xd.exx (by assumption) (by one_sign)) (by first | exact .own _ | exact .ty _) (by assumption) ?_ | refine kisi (.ty _) (by assumption) (by assumption) ?_ | refine kisi (.ty _) (.base (by first | exact .int _ | exact .bl _ | exact .str _ | exact .non | exact .tup (by one_item) | exact .lst (by one_item))) (kit_ty (r := true) (by rfl)) ?_ | refine kisi (.ty _) (.base (by first | exact .int _ | exact .bl _ | exact .str _ | exact .non | exact .tup (by one_item) | exact .lst (by one_item))) (kit_ty (r := false) (by rfl)) ?_)
    | ((with_reducible refine (?_ : wK _ (.builtin "divmod") _ _ _)); refine kdivmod ⟨by first | decide | omega, by decide⟩ (fun _ _ _ _ _ => ?_))
    | ((with_reducible refine (?_ : wK _ (.builtin "min") _ _ _)); refine kmin (by rfl) ?_)
    | ((with_reducible refine (?_ : wK _ (.builtin "max") _ _ _)); refine kmax (by rfl) ?_)
    | ((with_reducible refine (?_ : wK _ (.type "list") _ _ _)); first | refine klistL (by one_place) (fun _ _ _ _ _ => ?_) | refine klistT (by one_place) (fun _ _ _ _ _ => ?_))
    | ((with_reducible refine (?_ : wK _ (.type "tuple") _ _ _)); first | refine ktupL (by one_place) (fun _ _ _ _ _ => ?_)))
  | ((with_reducible refine (?_ : wS _ _ _ _ _)); first
    | ((with_reducible refine (?_ : wS _ (.Assign [.Name _ _] _ _) _ _ _)); refine sset' (by assumption) (by rfl) (by first | exact Or.inl rfl | exact Or.inr rfl) (by rfl) (by first | exact .inl rfl | exact .inr rfl) ?_)
    | ((with_reducible refine (?_ : wS _ (.AugAssign (.Name _ _) _ _ _) _ _ _)); refine saug' (by assumption) (by rfl) (by first | exact Or.inl rfl | exact Or.inr rfl) (by first | exact .inl rfl | exact .inr rfl) (by rfl) ?_)
    | ((with_reducible refine (?_ : wS _ (.Expr _ _) _ _ _)); refine sexp ?_)
    | ((with_reducible refine (?_ : wS _ (.Assign [.Tuple _ _ _] _ _) _ _ _)); refine sasg ?_) | ((with_reducible refine (?_ : wS _ (.Assign [.Subscript _ _ _] _ _) _ _ _)); refine sasg ?_)
    | refine sret ?_ | refine sif ?_ | refine sretN ?_ | refine spass ?_ | refine sbrk ?_ | refine scont ?_)
  | ((with_reducible refine (?_ : wG _ (.Name _ _) _ _ _ _)); refine gname' (by assumption) (by rfl) (by first | exact Or.inl rfl | exact Or.inr rfl) (by first | exact .inl rfl | exact .inr rfl) ?_)
  | ((with_reducible refine (?_ : wG _ (.Tuple _ _ _) _ _ _ _)); refine gtup rfl (by one_place) rfl ?_) | ((with_reducible refine (?_ : wG _ (.Subscript _ _ _) _ _ _ _)); refine gsub ?_)
  | ((with_reducible refine (?_ : wGs _ _ _ _ _ _)); first | refine gscons ?_ | refine gsnil ?_)
  | ((with_reducible refine (?_ : wB _ _ _ _ _)); first | refine bcons ?_ | refine bnil ?_)
  | refine ifT ?_ | refine ifF ?_ | refine ifd (fun _ => ?_) (fun _ => ?_) | refine ifnd (fun _ => ?_) (fun _ => ?_) | refine ⟨_, rfl, ?_⟩ | refine ⟨rfl, Evl.Ex.refl _, ?_⟩ | refine ⟨Nat.le_of_ble_eq_true rfl, fun _ _ _ _ _ => ?_⟩ | fail)
local macro_rules | `(tactic| top_name) => `(tactic| repeat' tb_rel)
local macro_rules | `(tactic| nest_fact) => `(tactic| first | exact ⟨(decide_eq_true (by omega)).symm, rfl⟩ | exact ⟨(decide_eq_false (by omega)).symm, rfl⟩ | exact ⟨decide_eq_decide.mpr (by omega), rfl⟩ | fail)
/-! ### number_at -/
/-- what is read: a number and the place behind it, or a refusal: its place, its word -/
inductive NR where
  | num (n p : Int)
  | bad (p : Int) (why : Str)
/-- bs: the bytes ahead of the end; i of them are read, the next one's place, what they are worth -/
def numGo : List Int → Nat → Int → Int → NR
  | [], _, p, _ => .bad p "cut"
  | b :: r, i, p, acc => if (i = 36 ∧ 15 < b) ∨ (b = 0 ∧ 0 < i) then .bad p "number" else if b < 128 then .num (acc + b % 128 * 128 ^ i) (p + 1) else numGo r (i + 1) (p + 1) (acc + b % 128 * 128 ^ i)
def numAt (xs : List Int) (a e : Int) : NR := numGo ((xs.take e.toNat).drop a.toNat) 0 a 0
/-- a refusal BadWire(p, why) as it is let out -/
def outWire (K : PySem.W.Frag) (H : Hp) (E : XK) (p : Int) (why : Str) : Prop := ∀ d H', H d = none → Ex H H' → H' d = some (.xd [("why", .str why), ("place", .int p)]) → E (.ref (He.ga K "BadWire")) (some d) H'
def spNR (K : PySem.W.Frag) (H : Hp) (Q : VK) (E : XK) : NR → Prop
  | .num n p => ∀ t H', H t = none → Ex H H' → H' t = some (.tup [.int n, .int p]) → Q (.ref t) H'
  | .bad p why => outWire K H E p why
def sp_number_at (K : PySem.W.Frag) : Sp := fun vs H Q E => ∃ (l : Addr) (xs : List Int) (a e : Int), vs = [.ref l, .int a, .int e] ∧ RowAt K H l xs ∧ Bytes xs ∧ 0 ≤ a ∧ a ≤ e ∧ e ≤ (xs.length : Int) ∧ e < 2 ^ 62 ∧ spNR K H Q E (numAt xs a e)
/-- BadWire's __init__ -/
theorem ok_BadWire_init {fd : FuncData} (F : FunD K "__init__" "BadWire.__init__" (defArgs s_BadWire_init) (defBody s_BadWire_init) (defScope s_BadWire_init) [] [] (He.fAd K ("BadWire", some "__init__")) fd) (T : Txt K mg) : FnOk P w K mg base CX0 1 (He.fAd K ("BadWire", some "__init__")) fd ["self", "place", "why"] (spI2 (He.ga K "BadWire") "place" "why") := by
  refine fn_mk0 F sc_BadWire_init (fun vs H Q E h => ?_) fun cd A outer s H vs Q E hr h => ?_
  · obtain ⟨a, y, z, rfl, _⟩ := h; rfl
  · obtain ⟨a, y, z, rfl, ha, q⟩ := h
    top_name
    refine sost ?_
    top_name
    refine ⟨a, He.ga K "BadWire", rfl, T.o_BadWire.o, T.a_BadWire_place, .inl ⟨ha, fun dx hd hda => ?_⟩⟩
    top_name
    refine sost ?_
    top_name
    refine ⟨a, He.ga K "BadWire", rfl, T.o_BadWire.o, T.a_BadWire_why, .inr ⟨dx, [("place", y)], upd_same, by rw [upd_ne hda, upd_same], by show 1 ≤ 900; decide, ?_⟩⟩
    top_name
    exact q dx hd hda
theorem bind_BadWire {fd : FuncData} (F : FunD K "__init__" "BadWire.__init__" (defArgs s_BadWire_init) (defBody s_BadWire_init) (defScope s_BadWire_init) [] [] (He.fAd K ("BadWire", some "__init__")) fd) : Binds K fd ["self", "place", "why"] [] := F.bindsN fun _ _ _ _ _ _ us hl => match us, hl with | [_, _, _], _ => rfl
section
variable {X : Cx} {σ : Z.St} {H : Hp} {e1 e2 : Expr} {p pos : Pos} {j : Nat}
/-- BadWire(e1, e2) -/
theorem mWire (T : Txt X.K X.mg) (hr : Room j X.A) (hk : 2 ≤ j) {Q : XK} (hg : Gl X "BadWire") (h : wA X [e1, e2] σ H fun vs H1 => ∃ (pl : Int) (why : Str), vs = [.int pl, .str why] ∧ outWire X.K H1 Q pl why)
    (he : starEach (e1 :: [e2]) X.env = (false, eval e1 X.env) :: starEach [e2] X.env := by rfl) (hpl : (backTo pos (starEach [e2] X.env)).any (·.1) = false := by rfl) : wM X (.Call (.Name "BadWire" p) [e1, e2] [] pos) σ H Q := by
  obtain ⟨fd, F⟩ := T.f_BadWire_init
  refine moex2 T.o_BadWire (ok_BadWire_init F T) (bind_BadWire F) T.m_BadWire hr hk hg ?_ (by decide) he hpl
  exact ⟨fun ps pins s I => thn (h.run ps pins s I) fun us s' ⟨vs, H1, J, r, pl, why, ev, q⟩ => ⟨vs, H1, J, r, .int pl, .str why, ev, q⟩⟩
end
theorem ixRow {X : Cx} {H : Hp} {Q : VK} {l : Addr} {xs : List Int} {i : Nat} {b z : Int} (h : RowAt X.K H l xs) (hi : xs[i]? = some b) (hz : z = (i : Int)) (q : Q (.int b) H) : wIx X (.ref l) (.int z) H Q := by
  subst hz
  rcases h with h | h
  · exact ixL (SqL.of h) (atI_nat (by rw [List.getElem?_map, hi]; rfl)) q
  · exact ixT (SqT.of h) (atI_nat (by rw [List.getElem?_map, hi]; rfl)) q
theorem ok_number_at (T : Txt K mg) : Gf P w K mg base 3 "number_at" [] (sp_number_at K) := by
  refine gf_mk T.f_number_at T.m_number_at (fun _ _ _ _ _ _ us hl => match us, hl with | [_, _, _], _ => rfl) fun fd F => fn_mk F sc_number_at (fun vs H Q E h => ?_) fun cd A outer s H vs Q E hr tk po h => ?_
  · obtain ⟨a, ns, k, e, rfl, _⟩ := h; rfl
  · obtain ⟨l, xs, a, e, rfl, hrow, hby, h0, h1, h2, h3, q⟩ := h
    have g1 := T.g_LOW
    have g2 := T.g_MORE
    have g3 := T.g_LAST_BYTE
    have g4 := T.g_MOST_LAST
    have n1 := T.n_range
    top_name
    refine sset 3 sc_number_at.nd ?_
    top_name
    have hlen : ((xs.take e.toNat).drop a.toNat).length = (e - a).toNat := by rw [List.length_drop, List.length_take]; omega
    refine lfor2 (lo := a) (n := e) n1 po rfl (fun i σ H' => Ex H H' ∧ ∃ (acc : Int) (v4 v5 : Option V), σ = [some (.ref l), some (.int a), some (.int e), some (.int acc), v4, v5] ∧ 0 ≤ acc ∧ acc < 128 ^ i ∧ i ≤ 36 ∧ numGo (((xs.take e.toNat).drop a.toNat).drop i) i (a + i) acc = numAt xs a e) rfl ?_
    top_name
    refine ⟨rfl, ?_⟩
    top_name
    refine ⟨rfl, ⟨by omega, by omega, by omega, h3⟩, ⟨Evl.Ex.refl _, 0, none, none, rfl, Int.le_refl _, by decide, by decide, by simp [numAt]⟩, ?_, ?_⟩
    · rintro i σ H1 hi ⟨ex, acc, v4, v5, rfl, p0, p1, p2, go⟩
      refine gname 4 sc_number_at.nd ?_
      have hb : ∃ b, ((xs.take e.toNat).drop a.toNat)[i]? = some b ∧ xs[a.toNat + i]? = some b := by
        refine ⟨((xs.take e.toNat).drop a.toNat)[i]'(by omega), List.getElem?_eq_getElem _, ?_⟩
        rw [List.getElem_drop, List.getElem_take, List.getElem?_eq_getElem]
      obtain ⟨b, hb1, hb2⟩ := hb
      have hb3 := hby b (List.mem_of_getElem? hb2)
      have hd : ((xs.take e.toNat).drop a.toNat).drop i = b :: ((xs.take e.toNat).drop a.toNat).drop (i + 1) := by
        obtain ⟨hlt, hv⟩ := List.getElem?_eq_some_iff.mp hb1
        rw [List.drop_eq_getElem_cons hlt, hv]
      rw [hd] at go
      unfold numGo at go
      top_name
      refine sset 5 sc_number_at.nd ?_
      top_name
      refine ixRow (hrow.ex ex) hb2 (by omega) ?_
      refine bcons (sif (tcut (decide ((i = 36 ∧ 15 < b) ∨ (b = 0 ∧ 0 < i))) ?_ ?_))
      · top_name
        all_goals nest_fact
      refine ifd (fun hc => ?_) (fun hc => ?_)
      · -- refused
        rw [if_pos hc] at go
        refine bcons (sraise rfl tk (mWire T hr (by decide) rfl ?_))
        top_name
        refine ⟨a + i, "number", rfl, ?_⟩
        rw [← go] at q
        exact fun d H' hd ee hx => q d H' (Evl.fresh_back ex hd) (ex.trans ee) hx
      · rw [if_neg hc] at go
        have hm : Builtin.bitAnd b 127 = b % 128 := _root_.Bits.bitAnd_mask 7 hb3.1
        have hi7 : 7 * (a + (i : Int) - a) = ((7 * i : Nat) : Int) := by omega
        have h128 : (128 : Int) ^ i = 2 ^ (7 * i) := by rw [Int.pow_mul]; rfl
        have m0 := Int.emod_nonneg b (by decide : (128 : Int) ≠ 0)
        have m1 := Int.emod_lt_of_pos b (by decide : (0 : Int) < 128)
        have pp : (0 : Int) < 128 ^ i := Int.pow_pos (by decide)
        refine bnil (bcons (saug 3 sc_number_at.nd rfl (ecut (.int (b % 128 * 128 ^ i)) ?_ (ior ?_))))
        · top_name
          rw [hm, hi7]
          refine oshl (shl_ok (n := 7) (by omega) (by omega)) ⟨?_, rfl⟩
          rw [Int.toNat_natCast, h128]
        rw [h128, _root_.Bits.bitOr_join p0 (by rw [← h128]; exact p1) m0, ← h128]
        have p3 : acc + b % 128 * 128 ^ i < 128 ^ (i + 1) := by
          have : (b % 128) * 128 ^ i ≤ 127 * 128 ^ i := Int.mul_le_mul_of_nonneg_right (by omega) (Int.le_of_lt pp)
          rw [Int.pow_succ]
          omega
        have p4 : 0 ≤ b % 128 * 128 ^ i := Int.mul_nonneg m0 (Int.le_of_lt pp)
        top_name
        · rename_i hlt t H2 ht e2 hx
          rw [if_pos hlt] at go
          rw [← go] at q
          exact q t H2 (Evl.fresh_back ex ht) (ex.trans e2) hx
        · rename_i hlt
          rw [if_neg hlt] at go
          refine ⟨ex, acc + b % 128 * 128 ^ i, _, _, rfl, by omega, p3, by omega, ?_⟩
          rw [← go]
          congr 1
          omega
    · rintro σ H1 ⟨ex, acc, v4, v5, rfl, p0, p1, p2, go⟩
      have hd : ((xs.take e.toNat).drop a.toNat).drop (e - a).toNat = [] := List.drop_eq_nil_of_le (by omega)
      rw [hd] at go
      unfold numGo at go
      rw [← go] at q
      refine bcons (sraise rfl tk (mWire T hr (by decide) rfl ?_))
      top_name
      refine ⟨e, "cut", rfl, ?_⟩
      have e1 : a + ((e - a).toNat : Int) = e := by omega
      rw [e1] at q
      exact fun d H' hd ee hx => q d H' (Evl.fresh_back ex hd) (ex.trans ee) hx
end K05

set_option maxRecDepth 100000
set_option maxHeartbeats 4000000
set_option pp.maxSteps 1500
namespace K05
open PySem PySem.Spec PyProof.Rows L2 Z
open Evl (Ex)
variable {P : Program} {w : World} {K : PySem.W.Frag} {mg : Str → Option Value} {base : Heap}
/-! ### steps of the walk: one_sign: a heap grew into another; one_item: what stands at an address; one_place: a list or tuple to be read; leaf_len: arithmetic; tb_rel: one step; top_name: steps as far as they go -/
local macro_rules | `(tactic| got_up) => `(tactic| (refine Evl.Ex.trans (by assumption) ?_; first | assumption | exact Evl.Ex.refl _ | got_up))
local macro_rules | `(tactic| units_room) => `(tactic| (refine Evl.Ex.trans ?_ (by assumption); first | assumption | exact Evl.Ex.refl _ | units_room))
local macro_rules | `(tactic| one_sign) => `(tactic| first | assumption | exact Evl.Ex.refl _ | got_up | units_room)
local macro_rules | `(tactic| one_item) => `(tactic| first | assumption | exact upd_same | exact exa (by assumption) (by one_sign))
local macro_rules | `(tactic| one_place) => `(tactic| first | assumption | exact SqL.of (by assumption) | exact SqT.of (by assumption) | exact exl (by assumption) (by one_sign) | exact ext (by assumption) (by one_sign) | exact SqL.of (by one_item) | exact SqT.of (by one_item))
local macro_rules | `(tactic| leaf_len) => `(tactic| first | assumption | decide | omega)
local macro_rules | `(tactic| tb_rel) => `(tactic| first
  | ((with_reducible refine (?_ : wE _ _ _ _ _)); first
    | ((with_reducible refine (?_ : wE _ (.Name _ _) _ _ _)); first | refine zn (by rfl) (by first | exact Or.inl rfl | exact Or.inr (Or.inl rfl) | exact Or.inr (Or.inr rfl)) (by rfl) ?_ | refine zglob (by assumption) (by rfl) ?_ | refine zcls (by assumption) (by rfl) ?_ | refine zty (by assumption) (by first | exact bt_int | exact bt_bool | exact bt_str | exact bt_list | exact bt_tuple | exact bt_dict | exact bt_ValueError) (by rfl) ?_)
    | ((with_reducible refine (?_ : wE _ (.Constant _ _ _) _ _ _)); first | refine zint ?_ | refine zstr ?_ | refine zbl ?_ | refine znon ?_)
    | ((with_reducible refine (?_ : wE _ (.BinOp _ _ _ _) _ _ _)); refine zbin ?_)
    | ((with_reducible refine (?_ : wE _ (.Compare _ _ _ _) _ _ _)); first | refine zcmp (by rfl) ?_ | refine zchain ?_)
    | ((with_reducible refine (?_ : wE _ (.Dict [] [] _) _ _ _)); refine zdnew (fun _ _ _ _ _ => ?_))
    | ((with_reducible refine (?_ : wE _ (.Subscript _ (.Slice _ _ _ _) _) _ _ _)); refine zsl ?_)
    | ((with_reducible refine (?_ : wE _ (.Subscript _ _ _) _ _ _)); refine zix ?_)
    | ((with_reducible refine (?_ : wE _ (.Call (.Name "list" _) [.Call (.Name "range" _) [_] [] _] [] _) _ _ _)); refine zlrg1 rfl (by rfl) (by assumption) (by rfl) (by assumption) ?_)
    | ((with_reducible refine (?_ : wE _ (.Call (.Name _ _) _ _ _) _ _ _)); first
      | ((with_reducible refine (?_ : wE _ (.Call (.Name "len" _) _ _ _) _ _ _)); refine zbfn (by assumption) bt_len (by rfl) ?_)
      | ((with_reducible refine (?_ : wE _ (.Call (.Name "isinstance" _) _ _ _) _ _ _)); refine zbfn (by assumption) bt_isi (by rfl) ?_)
      | ((with_reducible refine (?_ : wE _ (.Call (.Name "min" _) _ _ _) _ _ _)); refine zbfn (by assumption) bt_min (by rfl) ?_)
      | ((with_reducible refine (?_ : wE _ (.Call (.Name "max" _) _ _ _) _ _ _)); refine zbfn (by assumption) bt_max (by rfl) ?_)
      | ((with_reducible refine (?_ : wE _ (.Call (.Name "list" _) _ _ _) _ _ _)); refine zbty (by assumption) bt_list (by rfl) ?_)
      | ((with_reducible refine (?_ : wE _ (.Call (.Name "tuple" _) _ _ _) _ _ _)); refine zbty (by assumption) bt_tuple (by rfl) ?_)
      | ((with_reducible refine (?_ : wE _ (.Call (.Name "int" _) _ _ _) _ _ _)); refine zbty (by assumption) bt_int (by rfl) ?_)
      | ((with_reducible refine (?_ : wE _ (.Call (.Name "abs" _) _ _ _) _ _ _)); refine zbfn (by assumption) bt_abs (by rfl) ?_)
      | ((with_reducible refine (?_ : wE _ (.Call (.Name "all" _) _ _ _) _ _ _)); refine zbfn (by assumption) bt_all (by rfl) ?_)
      | ((with_reducible refine (?_ : wE _ (.Call (.Name "sum" _) _ _ _) _ _ _)); refine zbfn (by assumption) bt_sum (by rfl) ?_)
      | ((with_reducible refine (?_ : wE _ (.Call (.Name "divmod" _) _ _ _) _ _ _)); refine zbfn (by assumption) bt_divmod (by rfl) ?_)
      | ((with_reducible refine (?_ : wE _ (.Call (.Name "ord" _) _ _ _) _ _ _)); refine zbfn (by assumption) bt_ord (by rfl) ?_))
    | ((with_reducible refine (?_ : wE _ (.IfExp _ _ _ _) _ _ _)); refine zif ?_)
    | ((with_reducible refine (?_ : wE _ (.Tuple _ _ _) _ _ _)); refine ztup ?_)
    | ((with_reducible refine (?_ : wE _ (.List _ _) _ _ _)); refine zlst ?_)
    | ((with_reducible refine (?_ : wE _ (.UnaryOp _ _ _) _ _ _)); first | refine znotV ?_ | refine zneg ?_)
    | ((with_reducible refine (?_ : wE _ (.BoolOp _ _ _) _ _ _)); first | refine zandV ?_ | refine zorV ?_ | refine zoneV ?_))
  | ((with_reducible refine (?_ : bE _ _ _ _ _ _)); refine ⟨fun _ _ _ _ _ => ?_⟩) | ((with_reducible refine (?_ : bG _ _ _ _ _ _ _)); refine ⟨fun _ _ _ _ _ => ?_⟩) | ((with_reducible refine (?_ : bTs _ _ _ _ _ _)); refine ⟨fun _ _ _ _ _ => ?_⟩)
  | ((with_reducible refine (?_ : hE _ _ _ _ _ _)); refine ⟨fun _ _ _ _ _ => ?_⟩) | ((with_reducible refine (?_ : hG _ _ _ _ _ _ _)); refine ⟨fun _ _ _ _ _ => ?_⟩) | ((with_reducible refine (?_ : hTs _ _ _ _ _ _)); refine ⟨fun _ _ _ _ _ => ?_⟩)
  | ((with_reducible refine (?_ : wP _ _ _ _ _)); first | refine pnon ?_ | refine psom ?_) | ((with_reducible refine (?_ : wSl _ _ _ _ _ _)); first | refine slL (by one_place) (fun _ _ _ _ _ => ?_) | refine slS (by assumption) ?_)
  | ((with_reducible refine (?_ : wTs _ _ _ _ _)); first | refine tsnil ?_ | refine tsone ?_)
  | ((with_reducible refine (?_ : wA _ _ _ _ _)); first | refine acons ?_ | refine anil ?_)
  | ((with_reducible refine (?_ : wO _ _ _ _ _ _)); first
    | ((with_reducible refine (?_ : wO _ (binaryOp .Add) _ _ _ _)); first | refine oadd ?_ | refine ocatE (by one_item) (by one_item) (Nat.le_of_ble_eq_true rfl) (fun _ _ _ _ _ => ?_))
    | ((with_reducible refine (?_ : wO _ (binaryOp .Sub) _ _ _ _)); first | refine osub ?_)
    | ((with_reducible refine (?_ : wO _ (binaryOp .Mult) _ _ _ _)); first | refine omul (by first | exact IntMulOk.of_right (by decide) | exact IntMulOk.of_left (by decide) | exact IntMulOk.of_right (intBits_le_64 (by omega) (by omega)) | exact IntMulOk.of_left (intBits_le_64 (by omega) (by omega))) ?_)
    | ((with_reducible refine (?_ : wO _ (binaryOp .Mod) _ _ _ _)); first | refine omod (by first | decide | omega) ?_)
    | ((with_reducible refine (?_ : wO _ (binaryOp .FloorDiv) _ _ _ _)); first | refine ofdiv ⟨by first | decide | omega, by decide⟩ ?_)
    | ((with_reducible refine (?_ : wO _ (binaryOp .BitAnd) _ _ _ _)); first | refine oand ?_)
    | ((with_reducible refine (?_ : wO _ (binaryOp .BitOr) _ _ _ _)); first | refine oor ?_)
    | ((with_reducible refine (?_ : wO _ (compareOp .Lt) _ _ _ _)); first | refine olt ?_)
    | ((with_reducible refine (?_ : wO _ (compareOp .LtE) _ _ _ _)); first | refine ole ?_)
    | ((with_reducible refine (?_ : wO _ (compareOp .Gt) _ _ _ _)); first | refine ogt ?_)
    | ((with_reducible refine (?_ : wO _ (compareOp .GtE) _ _ _ _)); first | refine oge ?_)
    | ((with_reducible refine (?_ : wO _ (compareOp .Eq) _ _ _ _)); first | refine oeqi ?_ | refine oeq (by rfl) ?_)
    | ((with_reducible refine (?_ : wO _ (compareOp .NotEq) _ _ _ _)); first | refine onei ?_ | refine one (by rfl) ?_)
    | ((with_reducible refine (?_ : wO _ (compareOp .In) _ _ _ _)); first | refine oin ?_)
    | ((with_reducible refine (?_ : wO _ (compareOp .NotIn) _ _ _ _)); first | refine onin ?_)
    | ((with_reducible refine (?_ : wO _ (compareOp .Is) _ _ _ _)); first | refine ois ?_)
    | ((with_reducible refine (?_ : wO _ (compareOp .IsNot) _ _ _ _)); first | refine onot ?_)
    | ((with_reducible refine (?_ : wO _ (binaryOp .RShift) _ _ _ _)); refine oshr (by first | decide | omega) ?_)
    | ((with_reducible refine (?_ : wO _ (binaryOp .BitXor) _ _ _ _)); refine oxor ?_)
    | ((with_reducible refine (?_ : wO _ (inplaceOp .BitXor) _ _ _ _)); refine ixor ?_)
    | ((with_reducible refine (?_ : wO _ (inplaceOp .RShift) _ _ _ _)); refine ishr (by first | decide | omega) ?_)
    | ((with_reducible refine (?_ : wO _ (inplaceOp .BitOr) _ _ _ _)); first | refine ior ?_)
    | ((with_reducible refine (?_ : wO _ (inplaceOp .Add) _ _ _ _)); first | refine iadd ?_))
  | ((with_reducible refine (?_ : wT _ _ _ _ _)); first
    | ((with_reducible refine (?_ : wT _ (.Compare _ _ _ _) _ _ _)); first | refine zcmpT (by rfl) ?_ | refine zchainT ?_)
    | ((with_reducible refine (?_ : wT _ (.UnaryOp _ _ _) _ _ _)); refine znotT ?_)
    | ((with_reducible refine (?_ : wT _ (.BoolOp _ _ _) _ _ _)); refine zW ?_)
    | refine zval ?_)
  | ((with_reducible refine (?_ : wW _ _ _ _ _)); first | refine zand ?_ | refine zor ?_ | refine zand1 ?_ | refine zor1 ?_)
  | ((with_reducible refine (?_ : wK _ _ _ _ _)); first
    | ((with_reducible refine (?_ : wK _ (.builtin "len") _ _ _)); first | refine klenL (by one_place) ?_ | refine klenT (by one_place) ?_ | refine klenS (by assumption) ?_)
    | ((with_reducible refine (?_ : wK _ (.builtin "isinstance") _ _ _)); first | refine kisE (by assumption) (by assumption) (by first | assumption | exact Xd.exx (by assumption) (by one_sign)) (by first | exact .own _ | exact .ty _) (by assumption) ?_ | refine kisi (.ty _) (by assumption) (by assumption) ?_ | refine kisi (.ty _) (.base (by first | exact .int _ | exact .bl _ | exact .str _ | exact .non | exact .tup (by one_item) | exact .lst (by one_item))) (kit_ty (r := true) (by rfl)) ?_ | refine kisi (.ty _) (.base (by first | exact .int _ | exact .bl _ | exact .str _ | exact .non | exact .tup (by one_item) | exact .lst (by one_item))) (kit_ty (r := false) (by rfl)) ?_)
    | ((with_reducible refine (?_ : wK _ (.builtin "divmod") _ _ _)); refine kdivmod ⟨by first | decide | omega, by decide⟩ (fun _ _ _ _ _ => ?_))
    | ((with_reducible refine (?_ : wK _ (.builtin "min") _ _ _)); refine kmin (by rfl) ?_)
    | ((with_reducible refine (?_ : wK _ (.builtin "max") _ _ _)); refine kmax (by rfl) ?_)
    | ((with_reducible refine (?_ : wK _ (.type "list") _ _ _)); first | refine klistL (by one_place) (fun _ _ _ _ _ => ?_) | refine klistT (by one_place) (fun _ _ _ _ _ => ?_))
    | ((with_reducible refine (?_ : wK _ (.type "tuple") _ _ _)); first | refine ktupL (by one_place) (fun _ _ _ _ _ => ?_)))
  | ((with_reducible refine (?_ : wS _ _ _ _ _)); first
    | ((with_reducible refine (?_ : wS _ (.Assign [.Name _ _] _ _) _ _ _)); refine sset' (by assumption) (by rfl) (by first | exact Or.inl rfl | exact Or.inr rfl) (by rfl) (by first | exact .inl rfl | exact .inr rfl) ?_)
    | ((with_reducible refine (?_ : wS _ (.AugAssign (.Name _ _) _ _ _) _ _ _)); refine saug' (by assumption) (by rfl) (by first | exact Or.inl rfl | exact Or.inr rfl) (by first | exact .inl rfl | exact .inr rfl) (by rfl) ?_)
    | ((with_reducible refine (?_ : wS _ (.Expr _ _) _ _ _)); refine sexp ?_)
    | ((with_reducible refine (?_ : wS _ (.Assign [.Tuple _ _ _] _ _) _ _ _)); refine sasg ?_) | ((with_reducible refine (?_ : wS _ (.Assign [.Subscript _ _ _] _ _) _ _ _)); refine sasg ?_)
    | refine sret ?_ | refine sif ?_ | refine sretN ?_ | refine spass ?_ | refine sbrk ?_ | refine scont ?_)
  | ((with_reducible refine (?_ : wG _ (.Name _ _) _ _ _ _)); refine gname' (by assumption) (by rfl) (by first | exact Or.inl rfl | exact Or.inr rfl) (by first | exact .inl rfl | exact .inr rfl) ?_)
  | ((with_reducible refine (?_ : wG _ (.Tuple _ _ _) _ _ _ _)); refine gtup rfl (by one_place) rfl ?_) | ((with_reducible refine (?_ : wG _ (.Subscript _ _ _) _ _ _ _)); refine gsub ?_)
  | ((with_reducible refine (?_ : wGs _ _ _ _ _ _)); first | refine gscons ?_ | refine gsnil ?_)
  | ((with_reducible refine (?_ : wB _ _ _ _ _)); first | refine bcons ?_ | refine bnil ?_)
  | refine ifT ?_ | refine ifF ?_ | refine ifd (fun _ => ?_) (fun _ => ?_) | refine ifnd (fun _ => ?_) (fun _ => ?_) | refine ⟨_, rfl, ?_⟩ | refine ⟨rfl, Evl.Ex.refl _, ?_⟩ | refine ⟨Nat.le_of_ble_eq_true rfl, fun _ _ _ _ _ => ?_⟩ | fail)
local macro_rules | `(tactic| top_name) => `(tactic| repeat' tb_rel)
local macro_rules | `(tactic| nest_fact) => `(tactic| first | exact ⟨(decide_eq_true (by omega)).symm, rfl⟩ | exact ⟨(decide_eq_false (by omega)).symm, rfl⟩ | exact ⟨decide_eq_decide.mpr (by omega), rfl⟩ | fail)
def rowN (n : Nat) : List Int := if n < 128 then [(n : Int)] else ((n % 128 + 128 : Nat) : Int) :: rowN (n / 128)
theorem rowN_lt {n : Nat} (h : n < 128) : rowN n = [(n : Int)] := by rw [rowN, if_pos h]
theorem rowN_ge {n : Nat} (h : ¬ n < 128) : rowN n = ((n % 128 + 128 : Nat) : Int) :: rowN (n / 128) := by rw [rowN, if_neg h]
theorem rowN_bytes : ∀ n : Nat, Bytes (rowN n) := fun n => by
  induction n using Nat.strongRecOn with
  | ind n ih =>
    by_cases h : n < 128
    · rw [rowN_lt h]; intro x hx; rw [List.mem_singleton.mp hx]; omega
    · rw [rowN_ge h]; intro x hx
      rcases List.mem_cons.mp hx with rfl | hx
      · omega
      · exact ih (n / 128) (by omega) x hx
theorem rowN_len : ∀ (d n : Nat), n < 128 ^ (d + 1) → (rowN n).length ≤ d + 1
  | 0, n, h => by rw [rowN_lt (by simpa using h)]; simp
  | d + 1, n, h => by
    by_cases hn : n < 128
    · rw [rowN_lt hn]; simp
    · rw [rowN_ge hn, List.length_cons]
      have := rowN_len d (n / 128) (Nat.div_lt_of_lt_mul (by rw [Nat.pow_succ] at h; rw [Nat.mul_comm]; exact h))
      omega
/-- the law's own row -/
def sp_lrow : Sp := fun vs H Q _ => ∃ n : Nat, vs = [.int (n : Int)] ∧ (n : Int) ≤ MOST ∧ ∀ t H', H t = none → Ex H H' → H' t = some (.lst ((rowN n).map V.int)) → Q (.ref t) H'
theorem ok_lrow (T : Txt K mg) : Gf P w K mg base 1 "_law_number_row" [] sp_lrow := by
  refine gf_mk T.f__law_number_row T.m__law_number_row (fun _ _ _ _ _ _ us hl => match us, hl with | [_], _ => rfl) fun fd F => fn_mk F sc__law_number_row (fun vs H Q E h => ?_) fun cd A outer s H vs Q E hr tk po h => ?_
  · obtain ⟨n, rfl, _⟩ := h; rfl
  · obtain ⟨n, rfl, hn, q⟩ := h
    have nd := sc__law_number_row.nd
    top_name
    rename_i L H1 hL e1 hx
    refine lwhile po (fun σ H' => Ex H H' ∧ ∃ (m : Nat) (pre : List Int), σ = [some (.int (m : Int)), some (.ref L)] ∧ rowN n = pre ++ rowN m ∧ H' L = some (.lst (pre.map V.int))) (fun σ _ => match σ with | [some (.int m), _] => m.toNat | _ => 0) ⟨e1, n, [], rfl, rfl, hx⟩ ?_
    rintro σ H2 ⟨e2, m, pre, rfl, hp, hy⟩
    have hlen : (rowN n).length ≤ 37 := rowN_len 36 n (by unfold MOST at hn; omega)
    top_name
    · rename_i hm
      have hm2 : ¬ m < 128 := by omega
      rw [rowN_ge hm2] at hp
      have hlp := congrArg List.length hp
      simp only [List.length_append, List.length_cons] at hlp
      refine zapp ?_
      top_name
      refine ⟨L, _, rfl, hy, ?_⟩
      top_name
      refine ⟨_, hy, by rw [List.length_map, sizeLine_eq]; omega, ?_⟩
      top_name
      refine ⟨⟨Ex.past e2 hL, m / 128, pre ++ [((m % 128 + 128 : Nat) : Int)], rfl, by rw [hp, List.append_assoc]; rfl, by rw [upd_same]; simp⟩, ?_⟩
      show (((m : Int) / 128).toNat) < ((m : Int)).toNat
      omega
    · rename_i h1 t H3 ht e3 hx3
      have hm2 : m < 128 := by omega
      rw [rowN_lt hm2] at hp
      have hlp := congrArg List.length hp
      simp only [List.length_append, List.length_cons, List.length_nil] at hlp
      refine ocatE (e3 _ _ hy) hx3 (by rw [List.length_map, sizeLine_eq]; show _ + 1 ≤ _; omega) fun p H4 hp4 e4 hx4 => ?_
      exact q p H4 (Evl.fresh_back (e2.trans e3) hp4) (e2.trans (e3.trans e4)) (by rw [hx4, hp]; simp)
def sp_nrow (K : PySem.W.Frag) : Sp := fun vs H Q E => ∃ (u : V) (b : Bool), vs = [u] ∧ Asked K H 0 MOST u b ∧ if b = true then ∃ n : Nat, u = .int (n : Int) ∧ (n : Int) ≤ MOST ∧ ∀ t H', H t = none → Ex H H' → H' t = some (.lst ((rowN n).map V.int)) → Q (.ref t) H' else E (.ref (He.ga K "BadNumber")) none H
theorem ok_nrow (T : Txt K mg) : Gf P w K mg base 4 "number_row" [] (sp_nrow K) := by
  refine gf_mk T.f_number_row T.m_number_row (fun _ _ _ _ _ _ us hl => match us, hl with | [_], _ => rfl) fun fd F => fn_mk F sc_number_row (fun vs H Q E h => ?_) fun cd A outer s H vs Q E hr tk po h => ?_
  · obtain ⟨u, b, rfl, _⟩ := h; rfl
  · obtain ⟨u, b, rfl, ha, q⟩ := h
    have nd := sc_number_row.nd
    have g1 := T.g_LOW
    have g2 := T.g_MORE
    have g3 := T.g_MOST_NUMBER
    top_name
    refine zcall (ok_need T) hr (by decide) tk rfl ?_
    top_name
    refine ⟨u, 0, MOST, b, rfl, ha, ?_⟩
    cases b with
    | false =>
      rw [if_neg Bool.false_ne_true] at q ⊢
      exact q
    | true =>
      rw [if_pos rfl] at q ⊢
      obtain ⟨n, rfl, hn, q⟩ := q
      top_name
      rename_i L H1 hL e1 hx
      refine lwhile po (fun σ H' => Ex H H' ∧ ∃ (m : Nat) (pre : List Int), σ = [some (.int (m : Int)), some (.ref L)] ∧ rowN n = pre ++ rowN m ∧ H' L = some (.lst (pre.map V.int))) (fun σ _ => match σ with | [some (.int m), _] => m.toNat | _ => 0) ⟨e1, n, [], rfl, rfl, hx⟩ ?_
      rintro σ H2 ⟨e2, m, pre, rfl, hp, hy⟩
      have hlen : (rowN n).length ≤ 37 := rowN_len 36 n (by unfold MOST at hn; omega)
      top_name
      · rename_i hm
        have hm2 : ¬ m < 128 := by omega
        rw [rowN_ge hm2] at hp
        have hlp := congrArg List.length hp
        simp only [List.length_append, List.length_cons] at hlp
        have b1 : Builtin.bitAnd (m : Int) 127 = (m : Int) % 128 := _root_.Bits.bitAnd_mask 7 (by omega)
        have b2 : Builtin.bitOr 128 ((m : Int) % 128) = (m : Int) % 128 + 128 := _root_.Bits.bitOr_join' (k := 7) (b := 1) (by omega) (by omega) (by omega)
        refine zapp ?_
        top_name
        refine ⟨L, _, rfl, hy, ?_⟩
        top_name
        refine ⟨_, hy, by rw [List.length_map, sizeLine_eq]; omega, ?_⟩
        rw [b1, b2]
        top_name
        refine ⟨⟨Ex.past e2 hL, m / 128, pre ++ [((m % 128 + 128 : Nat) : Int)], rfl, by rw [hp, List.append_assoc]; rfl, by rw [upd_same]; simp⟩, ?_⟩
        show (((m : Int) / 128).toNat) < ((m : Int)).toNat
        omega
      · rename_i h1 t H3 ht e3 hx3
        have hm2 : m < 128 := by omega
        rw [rowN_lt hm2] at hp
        have hlp := congrArg List.length hp
        simp only [List.length_append, List.length_cons, List.length_nil] at hlp
        refine ocatE (e3 _ _ hy) hx3 (by rw [List.length_map, sizeLine_eq]; show _ + 1 ≤ _; omega) fun p H4 hp4 e4 hx4 => ?_
        exact q p H4 (Evl.fresh_back (e2.trans e3) hp4) (e2.trans (e3.trans e4)) (by rw [hx4, hp]; simp)
/-! ### a row read -/
theorem pow36 : (128 : Nat) ^ 36 * 16 = 2 ^ 256 := by decide +kernel
theorem numGo_row : ∀ (m i : Nat) (p acc : Int) (rest : List Int), (0 < m ∨ i = 0) → m * 128 ^ i < 2 ^ 256 → numGo (rowN m ++ rest) i p acc = .num (acc + (m : Int) * 128 ^ i) (p + ((rowN m).length : Int)) := fun m => by
  induction m using Nat.strongRecOn with
  | ind m ih =>
    intro i p acc rest h0 hm
    by_cases h : m < 128
    · rw [rowN_lt h]
      show numGo ((m : Int) :: rest) i p acc = _
      have hc : ¬ ((i = 36 ∧ 15 < (m : Int)) ∨ ((m : Int) = 0 ∧ 0 < i)) := by
        rintro (⟨rfl, h2⟩ | ⟨h2, h3⟩)
        · rw [← pow36] at hm
          have := Nat.lt_of_mul_lt_mul_right (show m * 128 ^ 36 < 16 * 128 ^ 36 by rw [Nat.mul_comm 16]; exact hm)
          omega
        · omega
      unfold numGo
      rw [if_neg hc, if_pos (by omega), Int.emod_eq_of_lt (by omega) (by omega)]
      rfl
    · rw [rowN_ge h]
      show numGo (((m % 128 + 128 : Nat) : Int) :: (rowN (m / 128) ++ rest)) i p acc = _
      have hc : ¬ ((i = 36 ∧ 15 < ((m % 128 + 128 : Nat) : Int)) ∨ (((m % 128 + 128 : Nat) : Int) = 0 ∧ 0 < i)) := by
        rintro (⟨rfl, h2⟩ | ⟨h2, h3⟩)
        · rw [← pow36] at hm
          have := Nat.lt_of_mul_lt_mul_right (show m * 128 ^ 36 < 16 * 128 ^ 36 by rw [Nat.mul_comm 16]; exact hm)
          omega
        · omega
      unfold numGo
      have hle : (m / 128) * 128 ^ (i + 1) ≤ m * 128 ^ i := by
        rw [Nat.pow_succ, Nat.mul_comm (128 ^ i), ← Nat.mul_assoc]
        exact Nat.mul_le_mul_right _ (Nat.div_mul_le_self m 128)
      rw [if_neg hc, if_neg (by omega), ih (m / 128) (by omega) (i + 1) _ _ rest (.inl (by omega)) (Nat.lt_of_le_of_lt hle hm)]
      have e1 : ((m % 128 + 128 : Nat) : Int) % 128 = ((m % 128 : Nat) : Int) := by omega
      have e2 : (m : Int) = ((m % 128 : Nat) : Int) + ((m / 128 : Nat) : Int) * 128 := by omega
      rw [e1]
      congr 1
      · rw [Int.pow_succ, e2, Int.add_mul]
        have e3 : ((((m % 128 : Nat) : Int) + ((m / 128 : Nat) : Int) * 128).toNat) = m := by omega
        have e4 : (((m % 128 : Nat) : Int) + ((m / 128 : Nat) : Int) * 128) % 128 = ((m % 128 : Nat) : Int) := by omega
        rw [Int.mul_assoc, Int.mul_comm (128 : Int) (128 ^ i), Int.add_assoc]
      · rw [List.length_cons]; omega
theorem numAt_row {n : Nat} {A B : List Int} {e : Int} (hn : (n : Int) ≤ MOST) (h0 : ((A.length + (rowN n).length : Nat) : Int) ≤ e) (h1 : e ≤ ((A ++ rowN n ++ B).length : Int)) : numAt (A ++ rowN n ++ B) (A.length : Int) e = .num (n : Int) ((A.length + (rowN n).length : Nat) : Int) := by
  unfold numAt
  obtain ⟨d, rfl⟩ : ∃ d : Nat, e = ((A.length + ((rowN n).length + d) : Nat) : Int) := ⟨(e - ((A.length + (rowN n).length : Nat) : Int)).toNat, by omega⟩
  rw [Int.toNat_natCast, Int.toNat_natCast, List.append_assoc, List.take_append, List.drop_append]
  rw [show (A.take (A.length + ((rowN n).length + d))).drop A.length = [] from List.drop_eq_nil_of_le (by rw [List.length_take]; omega), List.nil_append]
  rw [show A.length - (A.take (A.length + ((rowN n).length + d))).length = 0 from by rw [List.length_take]; omega, List.drop_zero, show A.length + ((rowN n).length + d) - A.length = (rowN n).length + d from by omega, List.take_append]
  rw [show (rowN n).take ((rowN n).length + d) = rowN n from List.take_of_length_le (by omega), numGo_row n 0 _ 0 _ (.inr rfl) (by unfold MOST at hn; omega)]
  congr 1
  omega
end K05

set_option maxRecDepth 100000
set_option maxHeartbeats 4000000
set_option pp.maxSteps 1500
namespace K05
open PySem PySem.Spec PyProof.Rows L2 Z
open Evl (Ex)
variable {P : Program} {w : World} {K : PySem.W.Frag} {mg : Str → Option Value} {base : Heap}
/-! ### steps of the walk: one_sign: a heap grew into another; one_item: what stands at an address; one_place: a list or tuple to be read; leaf_len: arithmetic; tb_rel: one step; top_name: steps as far as they go -/
local macro_rules | `(tactic| got_up) => `(tactic| (refine Evl.Ex.trans (by assumption) ?_; first | assumption | exact Evl.Ex.refl _ | got_up))
local macro_rules | `(tactic| units_room) => `(tactic| (refine Evl.Ex.trans ?_ (by assumption); first | assumption | exact Evl.Ex.refl _ | units_room))
local macro_rules | `(tactic| one_sign) => `(tactic| first | assumption | exact Evl.Ex.refl _ | got_up | units_room)
local macro_rules | `(tactic| one_item) => `(tactic| first | assumption | exact upd_same | exact exa (by assumption) (by one_sign))
local macro_rules | `(tactic| one_place) => `(tactic| first | assumption | exact SqL.of (by assumption) | exact SqT.of (by assumption) | exact exl (by assumption) (by one_sign) | exact ext (by assumption) (by one_sign) | exact SqL.of (by one_item) | exact SqT.of (by one_item))
local macro_rules | `(tactic| leaf_len) => `(tactic| first | assumption | decide | omega)
local macro_rules | `(tactic| tb_rel) => `(tactic| first
  | ((with_reducible refine (?_ : wE _ _ _ _ _)); first
    | ((with_reducible refine (?_ : wE _ (.Name _ _) _ _ _)); first | refine zn (by rfl) (by first | exact Or.inl rfl | exact Or.inr (Or.inl rfl) | exact Or.inr (Or.inr rfl)) (by rfl) ?_ | refine zglob (by assumption) (by rfl) ?_ | refine zcls (by assumption) (by rfl) ?_ | refine zty (by assumption) (by first | exact bt_int | exact bt_bool | exact bt_str | exact bt_list | exact bt_tuple | exact bt_dict | exact bt_ValueError) (by rfl) ?_)
    | ((with_reducible refine (?_ : wE _ (.Constant _ _ _) _ _ _)); first | refine zint ?_ | refine zstr ?_ | refine zbl ?_ | refine znon ?_)
    | ((with_reducible refine (?_ : wE _ (.BinOp _ _ _ _) _ _ _)); refine zbin ?_)
    | ((with_reducible refine (?_ : wE _ (.Compare _ _ _ _) _ _ _)); first | refine zcmp (by rfl) ?_ | refine zchain ?_)
    | ((with_reducible refine (?_ : wE _ (.Dict [] [] _) _ _ _)); refine zdnew (fun _ _ _ _ _ => ?_))
    | ((with_reducible refine (?_ : wE _ (.Subscript _ (.Slice _ _ _ _) _) _ _ _)); refine zsl ?_)
    | ((with_reducible refine (?_ : wE _ (.Subscript _ _ _) _ _ _)); refine zix ?_)
    | ((with_reducible refine (?_ : wE _ (.Call (.Name "list" _) [.Call (.Name "range" _) [_] [] _] [] _) _ _ _)); refine zlrg1 rfl (by rfl) (by assumption) (by rfl) (by assumption) ?_)
    | ((with_reducible refine (?_ : wE _ (.Call (.Name _ _) _ _ _) _ _ _)); first
      | ((with_reducible refine (?_ : wE _ (.Call (.Name "len" _) _ _ _) _ _ _)); refine zbfn (by assumption) bt_len (by rfl) ?_)
      | ((with_reducible refine (?_ : wE _ (.Call (.Name "isinstance" _) _ _ _) _ _ _)); refine zbfn (by assumption) bt_isi (by rfl) ?_)
      | ((with_reducible refine (?_ : wE _ (.Call (.Name "min" _) _ _ _) _ _ _)); refine zbfn (by assumption) bt_min (by rfl) ?_)
      | ((with_reducible refine (?_ : wE _ (.Call (.Name "max" _) _ _ _) _ _ _)); refine zbfn (by assumption) bt_max (by rfl) ?_)
      | ((with_reducible refine (?_ : wE _ (.Call (.Name "list" _) _ _ _) _ _ _)); refine zbty (by assumption) bt_list (by rfl) ?_)
      | ((with_reducible refine (?_ : wE _ (.Call (.Name "tuple" _) _ _ _) _ _ _)); refine zbty (by assumption) bt_tuple (by rfl) ?_)
      | ((with_reducible refine (?_ : wE _ (.Call (.Name "int" _) _ _ _) _ _ _)); refine zbty (by assumption) bt_int (by rfl) ?_)
      | ((with_reducible refine (?_ : wE _ (.Call (.Name "abs" _) _ _ _) _ _ _)); refine zbfn (by assumption) bt_abs (by rfl) ?_)
      | ((with_reducible refine (?_ : wE _ (.Call (.Name "all" _) _ _ _) _ _ _)); refine zbfn (by assumption) bt_all (by rfl) ?_)
      | ((with_reducible refine (?_ : wE _ (.Call (.Name "sum" _) _ _ _) _ _ _)); refine zbfn (by assumption) bt_sum (by rfl) ?_)
      | ((with_reducible refine (?_ : wE _ (.Call (.Name "divmod" _) _ _ _) _ _ _)); refine zbfn (by assumption) bt_divmod (by rfl) ?_)
      | ((with_reducible refine (?_ : wE _ (.Call (.Name "ord" _) _ _ _) _ _ _)); refine zbfn (by assumption) bt_ord (by rfl) ?_))
    | ((with_reducible refine (?_ : wE _ (.IfExp _ _ _ _) _ _ _)); refine zif ?_)
    | ((with_reducible refine (?_ : wE _ (.Tuple _ _ _) _ _ _)); refine ztup ?_)
    | ((with_reducible refine (?_ : wE _ (.List _ _) _ _ _)); refine zlst ?_)
    | ((with_reducible refine (?_ : wE _ (.UnaryOp _ _ _) _ _ _)); first | refine znotV ?_ | refine zneg ?_)
    | ((with_reducible refine (?_ : wE _ (.BoolOp _ _ _) _ _ _)); first | refine zandV ?_ | refine zorV ?_ | refine zoneV ?_))
  | ((with_reducible refine (?_ : bE _ _ _ _ _ _)); refine ⟨fun _ _ _ _ _ => ?_⟩) | ((with_reducible refine (?_ : bG _ _ _ _ _ _ _)); refine ⟨fun _ _ _ _ _ => ?_⟩) | ((with_reducible refine (?_ : bTs _ _ _ _ _ _)); refine ⟨fun _ _ _ _ _ => ?_⟩)
  | ((with_reducible refine (?_ : hE _ _ _ _ _ _)); refine ⟨fun _ _ _ _ _ => ?_⟩) | ((with_reducible refine (?_ : hG _ _ _ _ _ _ _)); refine ⟨fun _ _ _ _ _ => ?_⟩) | ((with_reducible refine (?_ : hTs _ _ _ _ _ _)); refine ⟨fun _ _ _ _ _ => ?_⟩)
  | ((with_reducible refine (?_ : wP _ _ _ _ _)); first | refine pnon ?_ | refine psom ?_) | ((with_reducible refine (?_ : wSl _ _ _ _ _ _)); first | refine slL (by one_place) (fun _ _ _ _ _ => ?_) | refine slS (by assumption) ?_)
  | ((with_reducible refine (?_ : wTs _ _ _ _ _)); first | refine tsnil ?_ | refine tsone ?_)
  | ((with_reducible refine (?_ : wA _ _ _ _ _)); first | refine acons ?_ | refine anil ?_)
  | ((with_reducible refine (?_ : wO _ _ _ _ _ _)); first
    | ((with_reducible refine (?_ : wO _ (binaryOp .Add) _ _ _ _)); first | refine oadd ?_ | refine ocatE (by one_item) (by one_item) (Nat.le_of_ble_eq_true rfl) (fun _ _ _ _ _ => ?_))
    | ((with_reducible refine (?_ : wO _ (binaryOp .Sub) _ _ _ _)); first | refine osub ?_)
    | ((with_reducible refine (?_ : wO _ (binaryOp .Mult) _ _ _ _)); first | refine omul (by first | exact IntMulOk.of_right (by decide) | exact IntMulOk.of_left (by decide) | exact IntMulOk.of_right (intBits_le_64 (by omega) (by omega)) | exact IntMulOk.of_left (intBits_le_64 (by omega) (by omega))) ?_)
    | ((with_reducible refine (?_ : wO _ (binaryOp .Mod) _ _ _ _)); first | refine omod (by first | decide | omega) ?_)
    | ((with_reducible refine (?_ : wO _ (binaryOp .FloorDiv) _ _ _ _)); first | refine ofdiv ⟨by first | decide | omega, by decide⟩ ?_)
    | ((with_reducible refine (?_ : wO _ (binaryOp .BitAnd) _ _ _ _)); first | refine oand ?_)
    | ((with_reducible refine (?_ : wO _ (binaryOp .BitOr) _ _ _ _)); first | refine oor ?_)
    | ((with_reducible refine (?_ : wO _ (compareOp .Lt) _ _ _ _)); first | refine olt ?_)
    | ((with_reducible refine (?_ : wO _ (compareOp .LtE) _ _ _ _)); first | refine ole ?_)
    | ((with_reducible refine (?_ : wO _ (compareOp .Gt) _ _ _ _)); first | refine ogt ?_)
    | ((with_reducible refine (?_ : wO _ (compareOp .GtE) _ _ _ _)); first | refine oge ?_)
    | ((with_reducible refine (?_ : wO _ (compareOp .Eq) _ _ _ _)); first | refine oeqi ?_ | refine oeq (by rfl) ?_)
    | ((with_reducible refine (?_ : wO _ (compareOp .NotEq) _ _ _ _)); first | refine onei ?_ | refine one (by rfl) ?_)
    | ((with_reducible refine (?_ : wO _ (compareOp .In) _ _ _ _)); first | refine oin ?_)
    | ((with_reducible refine (?_ : wO _ (compareOp .NotIn) _ _ _ _)); first | refine onin ?_)
    | ((with_reducible refine (?_ : wO _ (compareOp .Is) _ _ _ _)); first | refine ois ?_)
    | ((with_reducible refine (?_ : wO _ (compareOp .IsNot) _ _ _ _)); first | refine onot ?_)
    | ((with_reducible refine (?_ : wO _ (binaryOp .RShift) _ _ _ _)); refine oshr (by first | decide | omega) ?_)
    | ((with_reducible refine (?_ : wO _ (binaryOp .BitXor) _ _ _ _)); refine oxor ?_)
    | ((with_reducible refine (?_ : wO _ (inplaceOp .BitXor) _ _ _ _)); refine ixor ?_)
    | ((with_reducible refine (?_ : wO _ (inplaceOp .RShift) _ _ _ _)); refine ishr (by first | decide | omega) ?_)
    | ((with_reducible refine (?_ : wO _ (inplaceOp .BitOr) _ _ _ _)); first | refine ior ?_)
    | ((with_reducible refine (?_ : wO _ (inplaceOp .Add) _ _ _ _)); first | refine iadd ?_))
  | ((with_reducible refine (?_ : wT _ _ _ _ _)); first
    | ((with_reducible refine (?_ : wT _ (.Compare _ _ _ _) _ _ _)); first | refine zcmpT (by rfl) ?_ | refine zchainT ?_)
    | ((with_reducible refine (?_ : wT _ (.UnaryOp _ _ _) _ _ _)); refine znotT ?_)
    | ((with_reducible refine (?_ : wT _ (.BoolOp _ _ _) _ _ _)); refine zW ?_)
    | refine zval ?_)
  | ((with_reducible refine (?_ : wW _ _ _ _ _)); first | refine zand ?_ | refine zor ?_ | refine zand1 ?_ | refine zor1 ?_)
  | ((with_reducible refine (?_ : wK _ _ _ _ _)); first
    | ((with_reducible refine (?_ : wK _ (.builtin "len") _ _ _)); first | refine klenL (by one_place) ?_ | refine klenT (by one_place) ?_ | refine klenS (by assumption) ?_)
    | ((with_reducible refine (?_ : wK _ (.builtin "isinstance") _ _ _)); first | refine kisE (by assumption) (by assumption) (by first | assumption | exact Xd.exx (by assumption) (by one_sign)) (by first | exact .own _ | exact .ty _) (by assumption) ?_ | refine kisi (.ty _) (by assumption) (by assumption) ?_ | refine kisi (.ty _) (.base (by first | exact .int _ | exact .bl _ | exact .str _ | exact .non | exact .tup (by one_item) | exact .lst (by one_item))) (kit_ty (r := true) (by rfl)) ?_ | refine kisi (.ty _) (.base (by first | exact .int _ | exact .bl _ | exact .str _ | exact .non | exact .tup (by one_item) | exact .lst (by one_item))) (kit_ty (r := false) (by rfl)) ?_)
    | ((with_reducible refine (?_ : wK _ (.builtin "divmod") _ _ _)); refine kdivmod ⟨by first | decide | omega, by decide⟩ (fun _ _ _ _ _ => ?_))
    | ((with_reducible refine (?_ : wK _ (.builtin "min") _ _ _)); refine kmin (by rfl) ?_)
    | ((with_reducible refine (?_ : wK _ (.builtin "max") _ _ _)); refine kmax (by rfl) ?_)
    | ((with_reducible refine (?_ : wK _ (.type "list") _ _ _)); first | refine klistL (by one_place) (fun _ _ _ _ _ => ?_) | refine klistT (by one_place) (fun _ _ _ _ _ => ?_))
    | ((with_reducible refine (?_ : wK _ (.type "tuple") _ _ _)); first | refine ktupL (by one_place) (fun _ _ _ _ _ => ?_)))
  | ((with_reducible refine (?_ : wS _ _ _ _ _)); first
    | ((with_reducible refine (?_ : wS _ (.Assign [.Name _ _] _ _) _ _ _)); refine sset' (by assumption) (by rfl) (by first | exact Or.inl rfl | exact Or.inr rfl) (by rfl) (by first | exact .inl rfl | exact .inr rfl) ?_)
    | ((with_reducible refine (?_ : wS _ (.AugAssign (.Name _ _) _ _ _) _ _ _)); refine saug' (by assumption) (by rfl) (by first | exact Or.inl rfl | exact Or.inr rfl) (by first | exact .inl rfl | exact .inr rfl) (by rfl) ?_)
    | ((with_reducible refine (?_ : wS _ (.Expr _ _) _ _ _)); refine sexp ?_)
    | ((with_reducible refine (?_ : wS _ (.Assign [.Tuple _ _ _] _ _) _ _ _)); refine sasg ?_) | ((with_reducible refine (?_ : wS _ (.Assign [.Subscript _ _ _] _ _) _ _ _)); refine sasg ?_)
    | refine sret ?_ | refine sif ?_ | refine sretN ?_ | refine spass ?_ | refine sbrk ?_ | refine scont ?_)
  | ((with_reducible refine (?_ : wG _ (.Name _ _) _ _ _ _)); refine gname' (by assumption) (by rfl) (by first | exact Or.inl rfl | exact Or.inr rfl) (by first | exact .inl rfl | exact .inr rfl) ?_)
  | ((with_reducible refine (?_ : wG _ (.Tuple _ _ _) _ _ _ _)); refine gtup rfl (by one_place) rfl ?_) | ((with_reducible refine (?_ : wG _ (.Subscript _ _ _) _ _ _ _)); refine gsub ?_)
  | ((with_reducible refine (?_ : wGs _ _ _ _ _ _)); first | refine gscons ?_ | refine gsnil ?_)
  | ((with_reducible refine (?_ : wB _ _ _ _ _)); first | refine bcons ?_ | refine bnil ?_)
  | refine ifT ?_ | refine ifF ?_ | refine ifd (fun _ => ?_) (fun _ => ?_) | refine ifnd (fun _ => ?_) (fun _ => ?_) | refine ⟨_, rfl, ?_⟩ | refine ⟨rfl, Evl.Ex.refl _, ?_⟩ | refine ⟨Nat.le_of_ble_eq_true rfl, fun _ _ _ _ _ => ?_⟩ | fail)
local macro_rules | `(tactic| top_name) => `(tactic| repeat' tb_rel)
local macro_rules | `(tactic| nest_fact) => `(tactic| first | exact ⟨(decide_eq_true (by omega)).symm, rfl⟩ | exact ⟨(decide_eq_false (by omega)).symm, rfl⟩ | exact ⟨decide_eq_decide.mpr (by omega), rfl⟩ | fail)
def sp_bytes : Sp := fun vs H Q _ => ∃ (a b : Addr) (xs : List Int), vs = [.ref a, .ref b] ∧ H a = some (.lst (xs.map V.int)) ∧ H b = some (.lst (xs.map V.int)) ∧ ∀ H', Ex H H' → Q (.bl true) H'
theorem ok_bytes (T : Txt K mg) : Gf P w K mg base 1 "_law_bytes" [] sp_bytes := by
  refine gf_mk T.f__law_bytes T.m__law_bytes (fun _ _ _ _ _ _ us hl => match us, hl with | [_, _], _ => rfl) fun fd F => fn_mk F sc__law_bytes (fun vs H Q E h => ?_) fun cd A outer s H vs Q E hr tk po h => ?_
  · obtain ⟨a, b, xs, rfl, _⟩ := h; rfl
  · obtain ⟨a, b, xs, rfl, ha, hb, q⟩ := h
    have nd := sc__law_bytes.nd
    have n1 := T.n_isinstance
    have n2 := T.n_list
    have n3 := T.n_bool
    have n4 := T.n_int
    top_name
    refine same_ne hr (SqL.of ha) (SqL.of hb) ?_
    top_name
    refine zlc rfl nd [("_law_byte", 2)] (blkOk_by (N := N__law_bytes) (sc := defScope s__law_bytes) (by decide +kernel)) piL (tmL (xs := xs.map V.int) (fun _ => []) rfl ?_)
    top_name
    refine ⟨SqL.of ha, fun j x H1 hx e1 => ?_, fun L H1 hL e1 hx => ?_⟩
    · obtain ⟨z, -, rfl⟩ := List.mem_map.mp (List.mem_of_getElem? hx)
      top_name
      exact ⟨rfl, Evl.Ex.refl _⟩
    · top_name
      rename_i M H2 hM e2 hy
      exact data_eq hr (Dp.lst (SqL.of (e2 _ _ hx)) .nil) (Dp.lst (SqL.of hy) .nil) rfl (q _ (e1.trans e2))
/-! ### the law's own check -/
def sp_lcheck : Sp := fun vs H Q _ => ∃ (l : Addr) (xs : List Int), vs = [.ref l] ∧ H l = some (.lst (xs.map V.int)) ∧ Bytes xs ∧ xs.length ≤ 100000 ∧ ∀ H', Ex H H' → Q (.int ((crc 65535 xs : Nat) : Int)) H'
theorem ok_lcheck (T : Txt K mg) : Gf P w K mg base 1 "_law_check" [] sp_lcheck := by
  refine gf_mk T.f__law_check T.m__law_check (fun _ _ _ _ _ _ us hl => match us, hl with | [_], _ => rfl) fun fd F => fn_mk F sc__law_check (fun vs H Q E h => ?_) fun cd A outer s H vs Q E hr tk po h => ?_
  · obtain ⟨l, xs, rfl, _⟩ := h; rfl
  · obtain ⟨l, xs, rfl, hl, hb, hz, q⟩ := h
    have nd := sc__law_check.nd
    have n1 := T.n_range
    have hrow : RowAt K H l xs := .inl hl
    top_name
    refine lforR po rfl hrow (fun Q h => by top_name; exact h) (fun i σ H' => H = H' ∧ ∃ (v2 v3 v4 : Option V), σ = [some (.ref l), some (.int ((crc 65535 (xs.take i) : Nat) : Int)), v2, v3, v4]) ⟨rfl, _, _, _, rfl⟩ (fun i σ' H' _ z => by obtain ⟨rfl, _⟩ := z; exact Evl.Ex.refl _) ?_ ?_
    · rintro i b σ H2 hx ⟨rfl, v2, v3, v4, rfl⟩
      have hb2 := hb b (List.mem_of_getElem? hx)
      have hc := crc_lt (f := 65535) (by decide) (xs.take i)
      generalize hf : crc 65535 (xs.take i) = f at hc ⊢
      have hbn : b.toNat < 256 := by omega
      tb_rel
      refine bcons (lfor1 (n := 8) n1 po rfl (fun i' σ H' => H = H' ∧ ∃ (v3 v4 : Option V), σ = [some (.ref l), some (.int ((lTurns b.toNat f i' : Nat) : Int)), some (.int b), v3, v4]) rfl ?_)
      top_name
      refine ⟨rfl, by decide, by decide, ⟨rfl, _, _, rfl⟩, ?_, ?_⟩
      · rintro i' σ H3 hi' ⟨rfl, v3, v4, rfl⟩
        have hp := lTurns_lt (b := b.toNat) hc i'
        have hst : lTurns b.toNat f (i' + 1) = lStep b.toNat (lTurns b.toNat f i') i' := rfl
        generalize lTurns b.toNat f i' = p at hp hst ⊢
        rw [hst]
        unfold lStep
        have e1 : (p : Int) / 32768 + b / 2 ^ (7 - (i' : Int)).toNat = ((p / 32768 + b.toNat / 2 ^ (7 - i') : Nat) : Int) := by
          rw [show (7 - (i' : Int)).toNat = 7 - i' from by omega, Int.natCast_add, Int.natCast_ediv, Int.natCast_ediv, Int.toNat_of_nonneg hb2.1]
          have e : ∀ k : Nat, ((2 ^ k : Nat) : Int) = (2 : Int) ^ k := fun k => by simp
          rw [e]
          rfl
        have d2 : (p : Int) * 2 % 65536 = ((p * 2 % 65536 : Nat) : Int) := by omega
        have d3 : Builtin.bitXor ((p * 2 % 65536 : Nat) : Int) 4129 = (((p * 2 % 65536) ^^^ 4129 : Nat) : Int) := by
          rw [_root_.Bits.bitXor_pp (by omega) (by omega)]
          rfl
        top_name
        · rename_i h
          refine ⟨rfl, some (.int (i' : Int)), some (.int (((p : Int) / 32768 + b / 2 ^ (7 - (i' : Int)).toNat) % 2)), ?_⟩
          rw [if_pos (by rw [e1] at h; omega)]
          show [_, some (V.int (Builtin.bitXor ((p : Int) * 2 % 65536) 4129)), _, _, _] = _
          rw [d2, d3]
        · rename_i h
          refine ⟨rfl, some (.int (i' : Int)), some (.int (((p : Int) / 32768 + b / 2 ^ (7 - (i' : Int)).toNat) % 2)), ?_⟩
          rw [if_neg (by rw [e1] at h; omega)]
          show [_, some (V.int ((p : Int) * 2 % 65536)), _, _, _] = _
          rw [d2]
      · rintro σ H3 ⟨rfl, v3, v4, rfl⟩
        top_name
        refine ⟨rfl, some (.int b), v3, v4, ?_⟩
        rw [crc_take hx, hf, ← crcB_law hbn hc]
        rfl
    · rintro σ H2 ⟨rfl, v2, v3, v4, rfl⟩
      rw [List.take_length]
      top_name
      exact q _ (Evl.Ex.refl _)
/-! ### what is told of a refusal -/
def sp_at (K : PySem.W.Frag) : SpE := fun cls d a vs H Q => (∃ (dd : Addr) (p : Int) (why : Str), vs = [.ref a] ∧ cls = .ref (He.ga K "BadWire") ∧ d = some dd ∧ H dd = some (.xd [("why", .str why), ("place", .int p)]) ∧ ∀ t H', H t = none → Ex H H' → H' t = some (.lst [.str "wire", .int p, .str why, .bl false]) → Q (.ref t) H') ∨
  ∃ (C : Addr) (j : Nat) (x : Str), vs = [.ref a] ∧ cls = .ref C ∧ Xd d H ∧ KinW K C (only j) ∧ theWords[j]? = some x ∧ j ≠ 4 ∧ j ≠ 5 ∧ ∀ t H', H t = none → Ex H H' → H' t = some (.lst [.str x]) → Q (.ref t) H'
theorem ok_at (T : Txt K mg) : Ge P w K mg base 2 "_law_at" (sp_at K) := by
  refine ge_mk T.f__law_at T.m__law_at (fun _ _ _ _ _ _ us hl => match us, hl with | [_], _ => rfl) fun fd F => fnE_of F sc__law_at (fun cls d a vs H Q h => ?_) fun cd A outer s H vs Q p cls d hx hr h => ?_
  · rcases h with ⟨dd, p, why, rfl, _⟩ | ⟨C, j, x, rfl, _⟩ <;> rfl
  · have n1 := T.n_isinstance
    have n2 := T.n_bool
    have m0 := T.m_BadWire
    have m2 := T.m_BadText
    have nd := sc__law_at.nd
    rcases h with ⟨dd, p, why, rfl, rfl, rfl, hd, q⟩ | ⟨C, j, x, rfl, rfl, hd, hk, hj, h4, h5, q⟩
    · have m1 := T.x_BadWire
      have k1 := T.k_BadWire_BadWire
      have xd : Xd (some dd) H := fun d e => by cases e; exact ⟨_, hd⟩
      top_name
      refine zfldE hx m1 T.a_BadWire_place ?_
      top_name
      refine ⟨rfl, _, _, hd, rfl, ?_⟩
      top_name
      refine zfldE hx m1 T.a_BadWire_why ?_
      top_name
      refine ⟨rfl, _, _, hd, rfl, ?_⟩
      top_name
      refine zfldE hx m1 T.a_BadWire_place ?_
      top_name
      refine ⟨rfl, _, _, hd, rfl, ?_⟩
      top_name
      rename_i t H2 ht e2 hx
      exact q t H2 ht e2 hx
    · have m1 := hk.x
      have k1 : PySem.W.kitOne K (.ref C) (.ref (He.ga K "BadWire")) = some false := by rw [hk.b5]; unfold only; rw [decide_eq_false (by omega)]
      have k2 : PySem.W.kitOne K (.ref C) (.ref (He.ga K "BadText")) = some false := by rw [hk.b4]; unfold only; rw [decide_eq_false (by omega)]
      top_name
      refine zcallE (ok_word T) hx hr (by decide) rfl ?_
      top_name
      refine ⟨C, j, x, rfl, rfl, hd, hk, hj, fun H1 e1 => ?_⟩
      top_name
      rename_i t H2 ht e2 hx
      exact q t H2 (Evl.fresh_back e1 ht) (e1.trans e2) hx
theorem kin_BadRow (T : Txt K mg) : KinW K (He.ga K "BadRow") (only 1) := ⟨T.x_BadRow, T.k_BadRow_BadNumber, T.k_BadRow_BadRow, T.k_BadRow_BadBook, T.k_BadRow_BadValue, T.k_BadRow_BadText, T.k_BadRow_BadWire, T.k_BadRow_BadCheck, T.k_BadRow_NotKin, T.k_BadRow_NoKey, T.k_BadRow_BadVersion, T.k_BadRow_ValueError⟩
theorem kin_BadWire (T : Txt K mg) : KinW K (He.ga K "BadWire") (only 5) := ⟨T.x_BadWire, T.k_BadWire_BadNumber, T.k_BadWire_BadRow, T.k_BadWire_BadBook, T.k_BadWire_BadValue, T.k_BadWire_BadText, T.k_BadWire_BadWire, T.k_BadWire_BadCheck, T.k_BadWire_NotKin, T.k_BadWire_NoKey, T.k_BadWire_BadVersion, T.k_BadWire_ValueError⟩
theorem kin_BadCheck (T : Txt K mg) : KinW K (He.ga K "BadCheck") (only 6) := ⟨T.x_BadCheck, T.k_BadCheck_BadNumber, T.k_BadCheck_BadRow, T.k_BadCheck_BadBook, T.k_BadCheck_BadValue, T.k_BadCheck_BadText, T.k_BadCheck_BadWire, T.k_BadCheck_BadCheck, T.k_BadCheck_NotKin, T.k_BadCheck_NoKey, T.k_BadCheck_BadVersion, T.k_BadCheck_ValueError⟩
end K05

set_option maxRecDepth 100000
set_option maxHeartbeats 4000000
set_option pp.maxSteps 1500
namespace K05
open PySem PySem.Spec PyProof.Rows L2 Z
open Evl (Ex)
variable {P : Program} {w : World} {K : PySem.W.Frag} {mg : Str → Option Value} {base : Heap}
/-! ### steps of the walk: one_sign: a heap grew into another; one_item: what stands at an address; one_place: a list or tuple to be read; leaf_len: arithmetic; tb_rel: one step; top_name: steps as far as they go -/
local macro_rules | `(tactic| got_up) => `(tactic| (refine Evl.Ex.trans (by assumption) ?_; first | assumption | exact Evl.Ex.refl _ | got_up))
local macro_rules | `(tactic| units_room) => `(tactic| (refine Evl.Ex.trans ?_ (by assumption); first | assumption | exact Evl.Ex.refl _ | units_room))
local macro_rules | `(tactic| one_sign) => `(tactic| first | assumption | exact Evl.Ex.refl _ | got_up | units_room)
local macro_rules | `(tactic| one_item) => `(tactic| first | assumption | exact upd_same | exact exa (by assumption) (by one_sign))
local macro_rules | `(tactic| one_place) => `(tactic| first | assumption | exact SqL.of (by assumption) | exact SqT.of (by assumption) | exact exl (by assumption) (by one_sign) | exact ext (by assumption) (by one_sign) | exact SqL.of (by one_item) | exact SqT.of (by one_item))
local macro_rules | `(tactic| leaf_len) => `(tactic| first | assumption | decide | omega)
local macro_rules | `(tactic| tb_rel) => `(tactic| first
  | ((with_reducible refine (?_ : wE _ _ _ _ _)); first
    | ((with_reducible refine (?_ : wE _ (.Name _ _) _ _ _)); first | refine zn (by rfl) (by first | exact Or.inl rfl | exact Or.inr (Or.inl rfl) | exact Or.inr (Or.inr rfl)) (by rfl) ?_ | refine zglob (by assumption) (by rfl) ?_ | refine zcls (by assumption) (by rfl) ?_ | refine zty (by assumption) (by first | exact bt_int | exact bt_bool | exact bt_str | exact bt_list | exact bt_tuple | exact bt_dict | exact bt_ValueError) (by rfl) ?_)
    | ((with_reducible refine (?_ : wE _ (.Constant _ _ _) _ _ _)); first | refine zint ?_ | refine zstr ?_ | refine zbl ?_ | refine znon ?_)
    | ((with_reducible refine (?_ : wE _ (.BinOp _ _ _ _) _ _ _)); refine zbin ?_)
    | ((with_reducible refine (?_ : wE _ (.Compare _ _ _ _) _ _ _)); first | refine zcmp (by rfl) ?_ | refine zchain ?_)
    | ((with_reducible refine (?_ : wE _ (.Dict [] [] _) _ _ _)); refine zdnew (fun _ _ _ _ _ => ?_))
    | ((with_reducible refine (?_ : wE _ (.Subscript _ (.Slice _ _ _ _) _) _ _ _)); refine zsl ?_)
    | ((with_reducible refine (?_ : wE _ (.Subscript _ _ _) _ _ _)); refine zix ?_)
    | ((with_reducible refine (?_ : wE _ (.Call (.Name "list" _) [.Call (.Name "range" _) [_] [] _] [] _) _ _ _)); refine zlrg1 rfl (by rfl) (by assumption) (by rfl) (by assumption) ?_)
    | ((with_reducible refine (?_ : wE _ (.Call (.Name _ _) _ _ _) _ _ _)); first
      | ((with_reducible refine (?_ : wE _ (.Call (.Name "len" _) _ _ _) _ _ _)); refine zbfn (by assumption) bt_len (by rfl) ?_)
      | ((with_reducible refine (?_ : wE _ (.Call (.Name "isinstance" _) _ _ _) _ _ _)); refine zbfn (by assumption) bt_isi (by rfl) ?_)
      | ((with_reducible refine (?_ : wE _ (.Call (.Name "min" _) _ _ _) _ _ _)); refine zbfn (by assumption) bt_min (by rfl) ?_)
      | ((with_reducible refine (?_ : wE _ (.Call (.Name "max" _) _ _ _) _ _ _)); refine zbfn (by assumption) bt_max (by rfl) ?_)
      | ((with_reducible refine (?_ : wE _ (.Call (.Name "list" _) _ _ _) _ _ _)); refine zbty (by assumption) bt_list (by rfl) ?_)
      | ((with_reducible refine (?_ : wE _ (.Call (.Name "tuple" _) _ _ _) _ _ _)); refine zbty (by assumption) bt_tuple (by rfl) ?_)
      | ((with_reducible refine (?_ : wE _ (.Call (.Name "int" _) _ _ _) _ _ _)); refine zbty (by assumption) bt_int (by rfl) ?_)
      | ((with_reducible refine (?_ : wE _ (.Call (.Name "abs" _) _ _ _) _ _ _)); refine zbfn (by assumption) bt_abs (by rfl) ?_)
      | ((with_reducible refine (?_ : wE _ (.Call (.Name "all" _) _ _ _) _ _ _)); refine zbfn (by assumption) bt_all (by rfl) ?_)
      | ((with_reducible refine (?_ : wE _ (.Call (.Name "sum" _) _ _ _) _ _ _)); refine zbfn (by assumption) bt_sum (by rfl) ?_)
      | ((with_reducible refine (?_ : wE _ (.Call (.Name "divmod" _) _ _ _) _ _ _)); refine zbfn (by assumption) bt_divmod (by rfl) ?_)
      | ((with_reducible refine (?_ : wE _ (.Call (.Name "ord" _) _ _ _) _ _ _)); refine zbfn (by assumption) bt_ord (by rfl) ?_))
    | ((with_reducible refine (?_ : wE _ (.IfExp _ _ _ _) _ _ _)); refine zif ?_)
    | ((with_reducible refine (?_ : wE _ (.Tuple _ _ _) _ _ _)); refine ztup ?_)
    | ((with_reducible refine (?_ : wE _ (.List _ _) _ _ _)); refine zlst ?_)
    | ((with_reducible refine (?_ : wE _ (.UnaryOp _ _ _) _ _ _)); first | refine znotV ?_ | refine zneg ?_)
    | ((with_reducible refine (?_ : wE _ (.BoolOp _ _ _) _ _ _)); first | refine zandV ?_ | refine zorV ?_ | refine zoneV ?_))
  | ((with_reducible refine (?_ : bE _ _ _ _ _ _)); refine ⟨fun _ _ _ _ _ => ?_⟩) | ((with_reducible refine (?_ : bG _ _ _ _ _ _ _)); refine ⟨fun _ _ _ _ _ => ?_⟩) | ((with_reducible refine (?_ : bTs _ _ _ _ _ _)); refine ⟨fun _ _ _ _ _ => ?_⟩)
  | ((with_reducible refine (?_ : hE _ _ _ _ _ _)); refine ⟨fun _ _ _ _ _ => ?_⟩) | ((with_reducible refine (?_ : hG _ _ _ _ _ _ _)); refine ⟨fun _ _ _ _ _ => ?_⟩) | ((with_reducible refine (?_ : hTs _ _ _ _ _ _)); refine ⟨fun _ _ _ _ _ => ?_⟩)
  | ((with_reducible refine (?_ : wP _ _ _ _ _)); first | refine pnon ?_ | refine psom ?_) | ((with_reducible refine (?_ : wSl _ _ _ _ _ _)); first | refine slL (by one_place) (fun _ _ _ _ _ => ?_) | refine slS (by assumption) ?_)
  | ((with_reducible refine (?_ : wTs _ _ _ _ _)); first | refine tsnil ?_ | refine tsone ?_)
  | ((with_reducible refine (?_ : wA _ _ _ _ _)); first | refine acons ?_ | refine anil ?_)
  | ((with_reducible refine (?_ : wO _ _ _ _ _ _)); first
    | ((with_reducible refine (?_ : wO _ (binaryOp .Add) _ _ _ _)); first | refine oadd ?_ | refine ocatE (by one_item) (by one_item) (Nat.le_of_ble_eq_true rfl) (fun _ _ _ _ _ => ?_))
    | ((with_reducible refine (?_ : wO _ (binaryOp .Sub) _ _ _ _)); first | refine osub ?_)
    | ((with_reducible refine (?_ : wO _ (binaryOp .Mult) _ _ _ _)); first | refine omul (by first | exact IntMulOk.of_right (by decide) | exact IntMulOk.of_left (by decide) | exact IntMulOk.of_right (intBits_le_64 (by omega) (by omega)) | exact IntMulOk.of_left (intBits_le_64 (by omega) (by omega))) ?_)
    | ((with_reducible refine (?_ : wO _ (binaryOp .Mod) _ _ _ _)); first | refine omod (by first | decide | omega) ?_)
    | ((with_reducible refine (?_ : wO _ (binaryOp .FloorDiv) _ _ _ _)); first | refine ofdiv ⟨by first | decide | omega, by decide⟩ ?_)
    | ((with_reducible refine (?_ : wO _ (binaryOp .BitAnd) _ _ _ _)); first | refine oand ?_)
    | ((with_reducible refine (?_ : wO _ (binaryOp .BitOr) _ _ _ _)); first | refine oor ?_)
    | ((with_reducible refine (?_ : wO _ (compareOp .Lt) _ _ _ _)); first | refine olt ?_)
    | ((with_reducible refine (?_ : wO _ (compareOp .LtE) _ _ _ _)); first | refine ole ?_)
    | ((with_reducible refine (?_ : wO _ (compareOp .Gt) _ _ _ _)); first | refine ogt ?_)
    | ((with_reducible refine (?_ : wO _ (compareOp .GtE) _ _ _ _)); first | refine oge ?_)
    | ((with_reducible refine (?_ : wO _ (compareOp .Eq) _ _ _ _)); first | refine oeqi ?_ | refine oeq (by rfl) ?_)
    | ((with_reducible refine (?_ : wO _ (compareOp .NotEq) _ _ _ _)); first | refine onei ?_ | refine one (by rfl) ?_)
    | ((with_reducible refine (?_ : wO _ (compareOp .In) _ _ _ _)); first | refine oin ?_)
    | ((with_reducible refine (?_ : wO _ (compareOp .NotIn) _ _ _ _)); first | refine onin ?_)
    | ((with_reducible refine (?_ : wO _ (compareOp .Is) _ _ _ _)); first | refine ois ?_)
    | ((with_reducible refine (?_ : wO _ (compareOp .IsNot) _ _ _ _)); first | refine onot ?_)
    | ((with_reducible refine (?_ : wO _ (binaryOp .RShift) _ _ _ _)); refine oshr (by first | decide | omega) ?_)
    | ((with_reducible refine (?_ : wO _ (binaryOp .BitXor) _ _ _ _)); refine oxor ?_)
    | ((with_reducible refine (?_ : wO _ (inplaceOp .BitXor) _ _ _ _)); refine ixor ?_)
    | ((with_reducible refine (?_ : wO _ (inplaceOp .RShift) _ _ _ _)); refine ishr (by first | decide | omega) ?_)
    | ((with_reducible refine (?_ : wO _ (inplaceOp .BitOr) _ _ _ _)); first | refine ior ?_)
    | ((with_reducible refine (?_ : wO _ (inplaceOp .Add) _ _ _ _)); first | refine iadd ?_))
  | ((with_reducible refine (?_ : wT _ _ _ _ _)); first
    | ((with_reducible refine (?_ : wT _ (.Compare _ _ _ _) _ _ _)); first | refine zcmpT (by rfl) ?_ | refine zchainT ?_)
    | ((with_reducible refine (?_ : wT _ (.UnaryOp _ _ _) _ _ _)); refine znotT ?_)
    | ((with_reducible refine (?_ : wT _ (.BoolOp _ _ _) _ _ _)); refine zW ?_)
    | refine zval ?_)
  | ((with_reducible refine (?_ : wW _ _ _ _ _)); first | refine zand ?_ | refine zor ?_ | refine zand1 ?_ | refine zor1 ?_)
  | ((with_reducible refine (?_ : wK _ _ _ _ _)); first
    | ((with_reducible refine (?_ : wK _ (.builtin "len") _ _ _)); first | refine klenL (by one_place) ?_ | refine klenT (by one_place) ?_ | refine klenS (by assumption) ?_)
    | ((with_reducible refine (?_ : wK _ (.builtin "isinstance") _ _ _)); first | refine kisE (by assumption) (by assumption) (by first | assumption | exact Xd.exx (by assumption) (by one_sign)) (by first | exact .own _ | exact .ty _) (by assumption) ?_ | refine kisi (.ty _) (by assumption) (by assumption) ?_ | refine kisi (.ty _) (.base (by first | exact .int _ | exact .bl _ | exact .str _ | exact .non | exact .tup (by one_item) | exact .lst (by one_item))) (kit_ty (r := true) (by rfl)) ?_ | refine kisi (.ty _) (.base (by first | exact .int _ | exact .bl _ | exact .str _ | exact .non | exact .tup (by one_item) | exact .lst (by one_item))) (kit_ty (r := false) (by rfl)) ?_)
    | ((with_reducible refine (?_ : wK _ (.builtin "divmod") _ _ _)); refine kdivmod ⟨by first | decide | omega, by decide⟩ (fun _ _ _ _ _ => ?_))
    | ((with_reducible refine (?_ : wK _ (.builtin "min") _ _ _)); refine kmin (by rfl) ?_)
    | ((with_reducible refine (?_ : wK _ (.builtin "max") _ _ _)); refine kmax (by rfl) ?_)
    | ((with_reducible refine (?_ : wK _ (.type "list") _ _ _)); first | refine klistL (by one_place) (fun _ _ _ _ _ => ?_) | refine klistT (by one_place) (fun _ _ _ _ _ => ?_))
    | ((with_reducible refine (?_ : wK _ (.type "tuple") _ _ _)); first | refine ktupL (by one_place) (fun _ _ _ _ _ => ?_)))
  | ((with_reducible refine (?_ : wS _ _ _ _ _)); first
    | ((with_reducible refine (?_ : wS _ (.Assign [.Name _ _] _ _) _ _ _)); refine sset' (by assumption) (by rfl) (by first | exact Or.inl rfl | exact Or.inr rfl) (by rfl) (by first | exact .inl rfl | exact .inr rfl) ?_)
    | ((with_reducible refine (?_ : wS _ (.AugAssign (.Name _ _) _ _ _) _ _ _)); refine saug' (by assumption) (by rfl) (by first | exact Or.inl rfl | exact Or.inr rfl) (by first | exact .inl rfl | exact .inr rfl) (by rfl) ?_)
    | ((with_reducible refine (?_ : wS _ (.Expr _ _) _ _ _)); refine sexp ?_)
    | ((with_reducible refine (?_ : wS _ (.Assign [.Tuple _ _ _] _ _) _ _ _)); refine sasg ?_) | ((with_reducible refine (?_ : wS _ (.Assign [.Subscript _ _ _] _ _) _ _ _)); refine sasg ?_)
    | refine sret ?_ | refine sif ?_ | refine sretN ?_ | refine spass ?_ | refine sbrk ?_ | refine scont ?_)
  | ((with_reducible refine (?_ : wG _ (.Name _ _) _ _ _ _)); refine gname' (by assumption) (by rfl) (by first | exact Or.inl rfl | exact Or.inr rfl) (by first | exact .inl rfl | exact .inr rfl) ?_)
  | ((with_reducible refine (?_ : wG _ (.Tuple _ _ _) _ _ _ _)); refine gtup rfl (by one_place) rfl ?_) | ((with_reducible refine (?_ : wG _ (.Subscript _ _ _) _ _ _ _)); refine gsub ?_)
  | ((with_reducible refine (?_ : wGs _ _ _ _ _ _)); first | refine gscons ?_ | refine gsnil ?_)
  | ((with_reducible refine (?_ : wB _ _ _ _ _)); first | refine bcons ?_ | refine bnil ?_)
  | refine ifT ?_ | refine ifF ?_ | refine ifd (fun _ => ?_) (fun _ => ?_) | refine ifnd (fun _ => ?_) (fun _ => ?_) | refine ⟨_, rfl, ?_⟩ | refine ⟨rfl, Evl.Ex.refl _, ?_⟩ | refine ⟨Nat.le_of_ble_eq_true rfl, fun _ _ _ _ _ => ?_⟩ | fail)
local macro_rules | `(tactic| top_name) => `(tactic| repeat' tb_rel)
local macro_rules | `(tactic| nest_fact) => `(tactic| first | exact ⟨(decide_eq_true (by omega)).symm, rfl⟩ | exact ⟨(decide_eq_false (by omega)).symm, rfl⟩ | exact ⟨decide_eq_decide.mpr (by omega), rfl⟩ | fail)

/-! ### rows kept, plainly -/
inductive UR where
  | ok (ys : List Int)
  | wire (p : Int) (why : Str)
  | chk
/-- the last but one, the last -/
def checkOf (xs : List Int) : Int := xs.getD (xs.length - 2) 0 * 256 + xs.getD (xs.length - 1) 0
def tailR (xs : List Int) (n p : Int) : UR := if p + n + 2 ≠ (xs.length : Int) then .wire 0 "length" else if ((crc 65535 (xs.take (xs.length - 2)) : Nat) : Int) ≠ checkOf xs then .chk else .ok ((xs.take (xs.length - 2)).drop p.toNat)
def unfR (xs : List Int) : UR := match numAt xs 0 (xs.length : Int) with
  | .bad p why => .wire p why
  | .num n p => tailR xs n p
def withCheck (w : List Int) : List Int := w ++ [((crc 65535 w / 256 : Nat) : Int), ((crc 65535 w % 256 : Nat) : Int)]
def frameR (xs : List Int) : List Int := withCheck (rowN xs.length ++ xs)
theorem numGo_ge : ∀ {bs : List Int} {i : Nat} {p acc n q : Int}, Bytes bs → numGo bs i p acc = .num n q → acc ≤ n ∧ p < q ∧ q ≤ p + (bs.length : Int)
  | [], _, _, _, _, _, _, h => by cases h
  | b :: r, i, p, acc, n, q, hb, h => by
    have hb0 := hb b List.mem_cons_self
    have pp : (0 : Int) ≤ b % 128 * 128 ^ i := Int.mul_nonneg (by omega) (Int.le_of_lt (Int.pow_pos (by decide)))
    unfold numGo at h
    split at h
    · cases h
    · split at h
      · cases h
        rw [List.length_cons]
        omega
      · have := numGo_ge (fun x hx => hb x (List.mem_cons_of_mem _ hx)) h
        rw [List.length_cons]
        omega
theorem numAt_ge {xs : List Int} {n q : Int} (hb : Bytes xs) (h : numAt xs 0 (xs.length : Int) = .num n q) : 0 ≤ n ∧ 0 < q ∧ q ≤ (xs.length : Int) := by
  unfold numAt at h
  rw [Int.toNat_natCast, List.take_length, show (0 : Int).toNat = 0 from rfl, List.drop_zero] at h
  have := numGo_ge hb h
  omega
theorem atI_back {α : Type} {xs : List α} {k : Nat} {v : α} (h0 : 0 < k) (h1 : k ≤ xs.length) (h : xs[xs.length - k]? = some v) : atI xs (-(k : Int)) = some v := by
  unfold atI ixN
  rw [if_neg (by omega), if_pos (by omega)]
  show xs[(-(k : Int) + (xs.length : Int)).toNat]? = some v
  rw [show (-(k : Int) + (xs.length : Int)).toNat = xs.length - k from by omega]
  exact h
theorem getD_is {l : List Int} {i : Nat} (h : i < l.length) : l[i]? = some (l.getD i 0) := by rw [List.getD_eq_getElem?_getD, List.getElem?_eq_getElem h]; rfl
theorem back_two {xs : List Int} (h : 2 ≤ xs.length) : atI (xs.map V.int) (-2) = some (.int (xs.getD (xs.length - 2) 0)) :=
  atI_back (k := 2) (by decide) (by rw [List.length_map]; exact h) (by rw [List.getElem?_map, List.length_map, getD_is (by omega)]; rfl)
theorem back_one {xs : List Int} (h : 1 ≤ xs.length) : atI (xs.map V.int) (-1) = some (.int (xs.getD (xs.length - 1) 0)) :=
  atI_back (k := 1) (by decide) (by rw [List.length_map]; exact h) (by rw [List.getElem?_map, List.length_map, getD_is (by omega)]; rfl)
theorem sIx_m2 (n d : Nat) : HT.sIx n d (some (-2)) = n - 2 := by
  show (if (-2 : Int) < 0 then (-2 + (n : Int)).toNat else min (-2 : Int).toNat n) = _
  rw [if_pos (by decide)]
  omega
theorem sIx_at (n d : Nat) {p : Int} (h : 0 ≤ p) (h1 : p ≤ (n : Int)) : HT.sIx n d (some p) = p.toNat := by
  show (if p < 0 then (p + (n : Int)).toNat else min p.toNat n) = _
  rw [if_neg (by omega)]
  omega
theorem cut_two {xs : List Int} (h : 2 ≤ xs.length) : cutV (xs.map V.int) none (some (-2)) = (xs.take (xs.length - 2)).map V.int := by
  unfold cutV
  rw [List.length_map, sIx_m2, HT.sIx_none, List.drop_zero, ← List.map_take, Nat.sub_zero]
theorem cut_mid {xs : List Int} {p : Int} (h : 2 ≤ xs.length) (p0 : 0 ≤ p) (p1 : p ≤ (xs.length : Int) - 2) : cutV (xs.map V.int) (some p) (some (-2)) = ((xs.take (xs.length - 2)).drop p.toNat).map V.int := by
  unfold cutV
  rw [List.length_map, sIx_m2, sIx_at _ _ p0 (by omega), List.map_drop, List.map_take, List.drop_take]
theorem bytes_take {xs : List Int} (h : Bytes xs) (k : Nat) : Bytes (xs.take k) := fun x hx => h x (List.mem_of_mem_take hx)
theorem bytes_getD {xs : List Int} (h : Bytes xs) (k : Nat) : 0 ≤ xs.getD k 0 ∧ xs.getD k 0 < 256 := by
  rw [List.getD_eq_getElem?_getD]
  cases e : xs[k]? with
  | none => exact ⟨by decide, by decide⟩
  | some x => exact h x (List.mem_of_getElem? e)
theorem klistR {X : Cx} {H : Hp} {Q : VK} {l : Addr} {xs : List Int} (h : RowAt X.K H l xs) (q : ∀ p H2, H p = none → Ex H H2 → H2 p = some (.lst (xs.map V.int)) → Q (.ref p) H2) : wK X (.type "list") [.ref l] H Q := by
  rcases h with h | h
  · exact klistL (SqL.of h) q
  · exact klistT (SqT.of h) q
theorem klenR {X : Cx} {H : Hp} {Q : VK} {l : Addr} {xs : List Int} (h : RowAt X.K H l xs) (q : Q (.int xs.length) H) : wK X (.builtin "len") [.ref l] H Q := by
  rw [← List.length_map (f := V.int)] at q
  rcases h with h | h
  · exact klenL (SqL.of h) q
  · exact klenT (SqT.of h) q
theorem slR {X : Cx} {H : Hp} {Q : VK} {l : Addr} {xs ys : List Int} {lo hi : Option Int} (h : RowAt X.K H l xs) (hc : cutV (xs.map V.int) lo hi = ys.map V.int) (hw : ¬ (HT.sIx xs.length 0 lo = 0 ∧ HT.sIx xs.length xs.length hi = xs.length)) (q : ∀ p H2, H p = none → Ex H H2 → RowAt X.K H2 p ys → Q (.ref p) H2) : wSl X (.ref l) lo hi H Q := by
  rcases h with h | h
  · exact slL (SqL.of h) fun p H2 a b c => q p H2 a b (.inl (by rw [c, hc]))
  · exact slT (SqT.of h) (by rw [List.length_map]; exact hw) fun p H2 a b c => q p H2 a b (.inr (by rw [c, hc]))
theorem ixRI {X : Cx} {H : Hp} {Q : VK} {l : Addr} {xs : List Int} {i : Int} {v : V} (h : RowAt X.K H l xs) (hi : atI (xs.map V.int) i = some v) (q : Q v H) : wIx X (.ref l) (.int i) H Q := by
  rcases h with h | h
  · exact ixL (SqL.of h) hi q
  · exact ixT (SqT.of h) hi q
theorem bit16 {a b : Int} (h0 : 0 ≤ a) (h1 : 0 ≤ b) (h2 : b < 256) : Builtin.bitOr (a * 2 ^ (8 : Int).toNat) b = a * 256 + b := by
  have := _root_.Bits.bitOr_join' (a := b) (b := a) (k := 8) h1 h2 h0
  rw [show (8 : Int).toNat = 8 from rfl, this, Int.add_comm]
  rfl
/-! ### unframed -/
def spUR (K : PySem.W.Frag) (H : Hp) (Q : VK) (E : XK) : UR → Prop
  | .ok ys => ∀ t H', H t = none → Ex H H' → H' t = some (.lst (ys.map V.int)) → Q (.ref t) H'
  | .wire p why => outWire K H E p why
  | .chk => ∀ H', Ex H H' → E (.ref (He.ga K "BadCheck")) none H'
def sp_unframed (K : PySem.W.Frag) : Sp := fun vs H Q E => (∃ (l : Addr) (xs : List Int), vs = [.ref l] ∧ RowAt K H l xs ∧ Bytes xs ∧ xs.length ≤ 100000 ∧ spUR K H Q E (unfR xs)) ∨ ∃ u, vs = [u] ∧ RowAsk K H u false ∧ ∀ H', Ex H H' → E (.ref (He.ga K "BadRow")) none H'
theorem outWire_ex {H H' : Hp} {E : XK} {p : Int} {why : Str} (h : outWire K H E p why) (e : Ex H H') : outWire K H' E p why := fun d H2 hd e2 hx => h d H2 (Evl.fresh_back e hd) (e.trans e2) hx
theorem ok_unframed (T : Txt K mg) : Gf P w K mg base 5 "unframed" [] (sp_unframed K) := by
  refine gf_mk T.f_unframed T.m_unframed (fun _ _ _ _ _ _ us hl => match us, hl with | [_], _ => rfl) fun fd F => fn_mk F sc_unframed (fun vs H Q E h => ?_) fun cd A outer s H vs Q E hr tk po h => ?_
  · rcases h with ⟨l, xs, rfl, _⟩ | ⟨u, rfl, _⟩ <;> rfl
  · have nd := sc_unframed.nd
    have n1 := T.n_len
    have n2 := T.n_list
    rcases h with ⟨l, xs, rfl, hrow, hb, hz, q⟩ | ⟨u, rfl, ha, q⟩
    · top_name
      refine zcall (ok_need_row T) hr (by decide) tk rfl ?_
      top_name
      refine ⟨.ref l, true, rfl, hrow.ask hb (by rw [sizeLine_eq]; omega), ?_⟩
      rw [if_pos rfl]
      intro H1 e1
      top_name
      refine zcall (ok_number_at T) hr (by decide) tk rfl ?_
      top_name
      refine klenR (hrow.ex e1) ?_
      top_name
      refine ⟨l, xs, 0, (xs.length : Int), rfl, hrow.ex e1, hb, by decide, by omega, by omega, by omega, ?_⟩
      unfold unfR at q
      cases hn : numAt xs 0 (xs.length : Int) with
      | bad p why =>
        rw [hn] at q
        exact outWire_ex q e1
      | num n p =>
        rw [hn] at q
        have q : spUR K H Q E (tailR xs n p) := q
        have hg := numAt_ge hb hn
        intro t H2 ht e2 hxt
        have hrow2 := (hrow.ex e1).ex e2
        top_name
        refine klenR hrow2 ?_
        unfold tailR at q
        top_name
        · rename_i hne
          rw [if_pos hne] at q
          refine sraise rfl tk (mWire T hr (by decide) rfl ?_)
          top_name
          exact ⟨0, "length", rfl, outWire_ex q (e1.trans e2)⟩
        rename_i heq
        rw [if_neg (by omega)] at q
        refine zcall (ok_check T) hr (by decide) tk rfl ?_
        top_name
        refine slR hrow2 (cut_two (by omega)) (by rw [sIx_m2]; omega) fun r H3 hr3 e3 hrow3 => ?_
        top_name
        refine .inl ⟨r, _, rfl, hrow3, bytes_take hb _, by rw [List.length_take, sizeLine_eq]; omega, fun H4 e4 => ?_⟩
        have hrow4 := (hrow2.ex e3).ex e4
        have b1 := bytes_getD hb (xs.length - 2)
        have b0 := bytes_getD hb (xs.length - 1)
        top_name
        refine ixRI hrow4 (back_two (by omega)) ?_
        top_name
        refine oshl (shl_ok (n := 8) (j := 8) (by omega) (by decide)) ?_
        top_name
        refine ixRI hrow4 (back_one (by omega)) ?_
        top_name
        all_goals (unfold checkOf at q; rw [← bit16 b1.1 b0.1 b0.2] at q)
        · rename_i hne
          rw [if_pos hne] at q
          exact sraise rfl tk (mplain T.e_BadCheck T.m_BadCheck rfl (q _ (by one_sign)))
        · rename_i heq2
          rw [if_neg (fun z => z heq2)] at q
          refine slR hrow4 (cut_mid (by omega) (by omega) (by omega)) (by rw [sIx_m2]; omega) fun z H5 hz5 e5 hrow5 => ?_
          top_name
          refine klistR hrow5 fun y H6 hy e6 hxy => ?_
          have eH5 : Ex H H5 := by one_sign
          exact q y H6 (Evl.fresh_back eH5 hy) (eH5.trans e6) hxy
    · top_name
      refine zcall (ok_need_row T) hr (by decide) tk rfl ?_
      top_name
      exact ⟨u, false, rfl, ha, by rw [if_neg Bool.false_ne_true]; exact q⟩
/-! ### framed -/
def sp_framed (K : PySem.W.Frag) : Sp := fun vs H Q E => (∃ (l : Addr) (xs : List Int), vs = [.ref l] ∧ RowAt K H l xs ∧ Bytes xs ∧ xs.length ≤ 100000 ∧ if 30000 < xs.length then ∀ H', Ex H H' → E (.ref (He.ga K "BadRow")) none H' else ∀ t H', H t = none → Ex H H' → H' t = some (.lst ((frameR xs).map V.int)) → Q (.ref t) H') ∨ ∃ u, vs = [u] ∧ RowAsk K H u false ∧ ∀ H', Ex H H' → E (.ref (He.ga K "BadRow")) none H'
theorem crc_parts (w : List Int) : ((crc 65535 w : Nat) : Int) / 2 ^ (8 : Int).toNat = ((crc 65535 w / 256 : Nat) : Int) ∧ Builtin.bitAnd ((crc 65535 w : Nat) : Int) 255 = ((crc 65535 w % 256 : Nat) : Int) := by
  refine ⟨by show _ / 256 = _; omega, ?_⟩
  rw [show (255 : Int) = 2 ^ 8 - 1 from rfl, _root_.Bits.bitAnd_mask 8 (by omega)]
  show _ % 256 = _
  omega
theorem bytes_app {xs ys : List Int} (h : Bytes xs) (g : Bytes ys) : Bytes (xs ++ ys) := fun x hx => (List.mem_append.mp hx).elim (h x) (g x)
theorem rowN_short {n : Nat} (h : n ≤ 100000) : (rowN n).length ≤ 3 := rowN_len 2 n (by omega)
theorem ok_framed (T : Txt K mg) : Gf P w K mg base 5 "framed" [] (sp_framed K) := by
  refine gf_mk T.f_framed T.m_framed (fun _ _ _ _ _ _ us hl => match us, hl with | [_], _ => rfl) fun fd F => fn_mk F sc_framed (fun vs H Q E h => ?_) fun cd A outer s H vs Q E hr tk po h => ?_
  · rcases h with ⟨l, xs, rfl, _⟩ | ⟨u, rfl, _⟩ <;> rfl
  · have nd := sc_framed.nd
    have n1 := T.n_len
    have n2 := T.n_list
    have g1 := T.g_MOST_LENGTH
    rcases h with ⟨l, xs, rfl, hrow, hb, hz, q⟩ | ⟨u, rfl, ha, q⟩
    · top_name
      refine zcall (ok_need_row T) hr (by decide) tk rfl ?_
      top_name
      refine ⟨.ref l, true, rfl, hrow.ask hb (by rw [sizeLine_eq]; omega), ?_⟩
      rw [if_pos rfl]
      intro H1 e1
      have hrow1 := hrow.ex e1
      top_name
      refine klenR hrow1 ?_
      top_name
      · rename_i hgt
        rw [if_pos (by omega)] at q
        exact sraise rfl tk (mplain T.e_BadRow T.m_BadRow rfl (q _ e1))
      rename_i hle
      rw [if_neg (by omega)] at q
      refine zcall (ok_nrow T) hr (by decide) tk rfl ?_
      top_name
      refine klenR hrow1 ?_
      top_name
      refine ⟨_, true, rfl, ?_, xs.length, rfl, by unfold MOST; omega, fun t H2 ht e2 hxt => ?_⟩
      · have := Asked.int (K := K) (H := H1) (lo := 0) (hi := MOST) (xs.length : Int)
        rwa [decide_eq_true (by unfold MOST; omega)] at this
      have hl3 := rowN_short hz
      top_name
      refine klistR (hrow1.ex e2) fun y H3 hy e3 hxy => ?_
      refine ocatE (e3 _ _ hxt) hxy (by rw [List.length_map, List.length_map, sizeLine_eq]; omega) fun v H4 hv e4 hxv => ?_
      top_name
      refine zcall (ok_check T) hr (by decide) tk rfl ?_
      top_name
      rw [← List.map_append] at hxv
      refine .inl ⟨v, rowN xs.length ++ xs, rfl, .inl hxv, bytes_app (rowN_bytes _) hb, by rw [List.length_append, sizeLine_eq]; omega, fun H5 e5 => ?_⟩
      have cp := crc_parts (rowN xs.length ++ xs)
      top_name
      rename_i z H6 hz6 e6 hxz
      refine ocatE (e6 _ _ (e5 _ _ hxv)) hxz (by rw [List.length_map, List.length_append, sizeLine_eq]; show _ + 2 ≤ _; omega) fun o H7 ho e7 hxo => ?_
      have eH6 : Ex H H6 := by one_sign
      refine q o H7 (Evl.fresh_back eH6 ho) (eH6.trans e7) ?_
      rw [hxo, cp.1, cp.2]
      unfold frameR withCheck
      simp only [List.map_append, List.map_cons, List.map_nil]
    · top_name
      refine zcall (ok_need_row T) hr (by decide) tk rfl ?_
      top_name
      exact ⟨u, false, rfl, ha, by rw [if_neg Bool.false_ne_true]; exact q⟩
/-! ### the law's own -/
def sp_lframe : Sp := fun vs H Q _ => ∃ (l : Addr) (xs : List Int), vs = [.ref l] ∧ H l = some (.lst (xs.map V.int)) ∧ Bytes xs ∧ xs.length ≤ 1000 ∧ ∀ t H', H t = none → Ex H H' → H' t = some (.lst ((frameR xs).map V.int)) → Q (.ref t) H'
theorem ok_lframe (T : Txt K mg) : Gf P w K mg base 2 "_law_frame" [] sp_lframe := by
  refine gf_mk T.f__law_frame T.m__law_frame (fun _ _ _ _ _ _ us hl => match us, hl with | [_], _ => rfl) fun fd F => fn_mk F sc__law_frame (fun vs H Q E h => ?_) fun cd A outer s H vs Q E hr tk po h => ?_
  · obtain ⟨l, xs, rfl, _⟩ := h; rfl
  · obtain ⟨l, xs, rfl, hl, hb, hz, q⟩ := h
    have nd := sc__law_frame.nd
    have n1 := T.n_len
    top_name
    refine zcall (ok_lrow T) hr (by decide) takesF rfl ?_
    top_name
    rw [List.length_map]
    refine ⟨by unfold MOST; omega, fun t H2 ht e2 hxt => ?_⟩
    have hl3 := rowN_short (show xs.length ≤ 100000 by omega)
    top_name
    refine ocatE hxt (e2 _ _ hl) (by rw [List.length_map, List.length_map, sizeLine_eq]; omega) fun v H4 hv e4 hxv => ?_
    rw [← List.map_append] at hxv
    top_name
    refine zcall (ok_lcheck T) hr (by decide) takesF rfl ?_
    top_name
    refine ⟨v, _, rfl, hxv, bytes_app (rowN_bytes _) hb, by rw [List.length_append]; omega, fun H5 e5 => ?_⟩
    top_name
    rename_i z H6 hz6 e6 hxz
    refine ocatE (e6 _ _ (e5 _ _ hxv)) hxz (by rw [List.length_map, List.length_append, sizeLine_eq]; show _ + 2 ≤ _; omega) fun o H7 ho e7 hxo => ?_
    have eH6 : Ex H H6 := by one_sign
    refine q o H7 (Evl.fresh_back eH6 ho) (eH6.trans e7) ?_
    rw [hxo]
    unfold frameR withCheck
    rw [List.map_append (l₁ := rowN xs.length ++ xs), Int.natCast_ediv, Int.natCast_emod]
    rfl
end K05

set_option maxRecDepth 100000
set_option maxHeartbeats 4000000
set_option pp.maxSteps 1500
namespace K05
open PySem PySem.Spec PyProof.Rows L2 Z
open Evl (Ex)
variable {P : Program} {w : World} {K : PySem.W.Frag} {mg : Str → Option Value} {base : Heap}
/-! ### steps of the walk: one_sign: a heap grew into another; one_item: what stands at an address; one_place: a list or tuple to be read; leaf_len: arithmetic; tb_rel: one step; top_name: steps as far as they go -/
local macro_rules | `(tactic| got_up) => `(tactic| (refine Evl.Ex.trans (by assumption) ?_; first | assumption | exact Evl.Ex.refl _ | got_up))
local macro_rules | `(tactic| units_room) => `(tactic| (refine Evl.Ex.trans ?_ (by assumption); first | assumption | exact Evl.Ex.refl _ | units_room))
local macro_rules | `(tactic| one_sign) => `(tactic| first | assumption | exact Evl.Ex.refl _ | got_up | units_room)
local macro_rules | `(tactic| one_item) => `(tactic| first | assumption | exact upd_same | exact exa (by assumption) (by one_sign))
local macro_rules | `(tactic| one_place) => `(tactic| first | assumption | exact SqL.of (by assumption) | exact SqT.of (by assumption) | exact exl (by assumption) (by one_sign) | exact ext (by assumption) (by one_sign) | exact SqL.of (by one_item) | exact SqT.of (by one_item))
local macro_rules | `(tactic| leaf_len) => `(tactic| first | assumption | decide | omega)
local macro_rules | `(tactic| tb_rel) => `(tactic| first
  | ((with_reducible refine (?_ : wE _ _ _ _ _)); first
    | ((with_reducible refine (?_ : wE _ (.Name _ _) _ _ _)); first | refine zn (by rfl) (by first | exact Or.inl rfl | exact Or.inr (Or.inl rfl) | exact Or.inr (Or.inr rfl)) (by rfl) ?_ | refine zglob (by assumption) (by rfl) ?_ | refine zcls (by assumption) (by rfl) ?_ | refine zty (by assumption) (by first | exact bt_int | exact bt_bool | exact bt_str | exact bt_list | exact bt_tuple | exact bt_dict | exact bt_ValueError) (by rfl) ?_)
    | ((with_reducible refine (?_ : wE _ (.Constant _ _ _) _ _ _)); first | refine zint ?_ | refine zstr ?_ | refine zbl ?_ | refine znon ?_)
    | ((with_reducible refine (?_ : wE _ (.BinOp _ _ _ _) _ _ _)); refine zbin ?_)
    | ((with_reducible refine (?_ : wE _ (.Compare _ _ _ _) _ _ _)); first | refine zcmp (by rfl) ?_ | refine zchain ?_)
    | ((with_reducible refine (?_ : wE _ (.Dict [] [] _) _ _ _)); refine zdnew (fun _ _ _ _ _ => ?_))
    | ((with_reducible refine (?_ : wE _ (.Subscript _ (.Slice _ _ _ _) _) _ _ _)); refine zsl ?_)
    | ((with_reducible refine (?_ : wE _ (.Subscript _ _ _) _ _ _)); refine zix ?_)
    | ((with_reducible refine (?_ : wE _ (.Call (.Name "list" _) [.Call (.Name "range" _) [_] [] _] [] _) _ _ _)); refine zlrg1 rfl (by rfl) (by assumption) (by rfl) (by assumption) ?_)
    | ((with_reducible refine (?_ : wE _ (.Call (.Name _ _) _ _ _) _ _ _)); first
      | ((with_reducible refine (?_ : wE _ (.Call (.Name "len" _) _ _ _) _ _ _)); refine zbfn (by assumption) bt_len (by rfl) ?_)
      | ((with_reducible refine (?_ : wE _ (.Call (.Name "isinstance" _) _ _ _) _ _ _)); refine zbfn (by assumption) bt_isi (by rfl) ?_)
      | ((with_reducible refine (?_ : wE _ (.Call (.Name "min" _) _ _ _) _ _ _)); refine zbfn (by assumption) bt_min (by rfl) ?_)
      | ((with_reducible refine (?_ : wE _ (.Call (.Name "max" _) _ _ _) _ _ _)); refine zbfn (by assumption) bt_max (by rfl) ?_)
      | ((with_reducible refine (?_ : wE _ (.Call (.Name "list" _) _ _ _) _ _ _)); refine zbty (by assumption) bt_list (by rfl) ?_)
      | ((with_reducible refine (?_ : wE _ (.Call (.Name "tuple" _) _ _ _) _ _ _)); refine zbty (by assumption) bt_tuple (by rfl) ?_)
      | ((with_reducible refine (?_ : wE _ (.Call (.Name "int" _) _ _ _) _ _ _)); refine zbty (by assumption) bt_int (by rfl) ?_)
      | ((with_reducible refine (?_ : wE _ (.Call (.Name "abs" _) _ _ _) _ _ _)); refine zbfn (by assumption) bt_abs (by rfl) ?_)
      | ((with_reducible refine (?_ : wE _ (.Call (.Name "all" _) _ _ _) _ _ _)); refine zbfn (by assumption) bt_all (by rfl) ?_)
      | ((with_reducible refine (?_ : wE _ (.Call (.Name "sum" _) _ _ _) _ _ _)); refine zbfn (by assumption) bt_sum (by rfl) ?_)
      | ((with_reducible refine (?_ : wE _ (.Call (.Name "divmod" _) _ _ _) _ _ _)); refine zbfn (by assumption) bt_divmod (by rfl) ?_)
      | ((with_reducible refine (?_ : wE _ (.Call (.Name "ord" _) _ _ _) _ _ _)); refine zbfn (by assumption) bt_ord (by rfl) ?_))
    | ((with_reducible refine (?_ : wE _ (.IfExp _ _ _ _) _ _ _)); refine zif ?_)
    | ((with_reducible refine (?_ : wE _ (.Tuple _ _ _) _ _ _)); refine ztup ?_)
    | ((with_reducible refine (?_ : wE _ (.List _ _) _ _ _)); refine zlst ?_)
    | ((with_reducible refine (?_ : wE _ (.UnaryOp _ _ _) _ _ _)); first | refine znotV ?_ | refine zneg ?_)
    | ((with_reducible refine (?_ : wE _ (.BoolOp _ _ _) _ _ _)); first | refine zandV ?_ | refine zorV ?_ | refine zoneV ?_))
  | ((with_reducible refine (?_ : bE _ _ _ _ _ _)); refine ⟨fun _ _ _ _ _ => ?_⟩) | ((with_reducible refine (?_ : bG _ _ _ _ _ _ _)); refine ⟨fun _ _ _ _ _ => ?_⟩) | ((with_reducible refine (?_ : bTs _ _ _ _ _ _)); refine ⟨fun _ _ _ _ _ => ?_⟩)
  | ((with_reducible refine (?_ : hE _ _ _ _ _ _)); refine ⟨fun _ _ _ _ _ => ?_⟩) | ((with_reducible refine (?_ : hG _ _ _ _ _ _ _)); refine ⟨fun _ _ _ _ _ => ?_⟩) | ((with_reducible refine (?_ : hTs _ _ _ _ _ _)); refine ⟨fun _ _ _ _ _ => ?_⟩)
  | ((with_reducible refine (?_ : wP _ _ _ _ _)); first | refine pnon ?_ | refine psom ?_) | ((with_reducible refine (?_ : wSl _ _ _ _ _ _)); first | refine slL (by one_place) (fun _ _ _ _ _ => ?_) | refine slS (by assumption) ?_)
  | ((with_reducible refine (?_ : wTs _ _ _ _ _)); first | refine tsnil ?_ | refine tsone ?_)
  | ((with_reducible refine (?_ : wA _ _ _ _ _)); first | refine acons ?_ | refine anil ?_)
  | ((with_reducible refine (?_ : wO _ _ _ _ _ _)); first
    | ((with_reducible refine (?_ : wO _ (binaryOp .Add) _ _ _ _)); first | refine oadd ?_ | refine ocatE (by one_item) (by one_item) (Nat.le_of_ble_eq_true rfl) (fun _ _ _ _ _ => ?_))
    | ((with_reducible refine (?_ : wO _ (binaryOp .Sub) _ _ _ _)); first | refine osub ?_)
    | ((with_reducible refine (?_ : wO _ (binaryOp .Mult) _ _ _ _)); first | refine omul (by first | exact IntMulOk.of_right (by decide) | exact IntMulOk.of_left (by decide) | exact IntMulOk.of_right (intBits_le_64 (by omega) (by omega)) | exact IntMulOk.of_left (intBits_le_64 (by omega) (by omega))) ?_)
    | ((with_reducible refine (?_ : wO _ (binaryOp .Mod) _ _ _ _)); first | refine omod (by first | decide | omega) ?_)
    | ((with_reducible refine (?_ : wO _ (binaryOp .FloorDiv) _ _ _ _)); first | refine ofdiv ⟨by first | decide | omega, by decide⟩ ?_)
    | ((with_reducible refine (?_ : wO _ (binaryOp .BitAnd) _ _ _ _)); first | refine oand ?_)
    | ((with_reducible refine (?_ : wO _ (binaryOp .BitOr) _ _ _ _)); first | refine oor ?_)
    | ((with_reducible refine (?_ : wO _ (compareOp .Lt) _ _ _ _)); first | refine olt ?_)
    | ((with_reducible refine (?_ : wO _ (compareOp .LtE) _ _ _ _)); first | refine ole ?_)
    | ((with_reducible refine (?_ : wO _ (compareOp .Gt) _ _ _ _)); first | refine ogt ?_)
    | ((with_reducible refine (?_ : wO _ (compareOp .GtE) _ _ _ _)); first | refine oge ?_)
    | ((with_reducible refine (?_ : wO _ (compareOp .Eq) _ _ _ _)); first | refine oeqi ?_ | refine oeq (by rfl) ?_)
    | ((with_reducible refine (?_ : wO _ (compareOp .NotEq) _ _ _ _)); first | refine onei ?_ | refine one (by rfl) ?_)
    | ((with_reducible refine (?_ : wO _ (compareOp .In) _ _ _ _)); first | refine oin ?_)
    | ((with_reducible refine (?_ : wO _ (compareOp .NotIn) _ _ _ _)); first | refine onin ?_)
    | ((with_reducible refine (?_ : wO _ (compareOp .Is) _ _ _ _)); first | refine ois ?_)
    | ((with_reducible refine (?_ : wO _ (compareOp .IsNot) _ _ _ _)); first | refine onot ?_)
    | ((with_reducible refine (?_ : wO _ (binaryOp .RShift) _ _ _ _)); refine oshr (by first | decide | omega) ?_)
    | ((with_reducible refine (?_ : wO _ (binaryOp .BitXor) _ _ _ _)); refine oxor ?_)
    | ((with_reducible refine (?_ : wO _ (inplaceOp .BitXor) _ _ _ _)); refine ixor ?_)
    | ((with_reducible refine (?_ : wO _ (inplaceOp .RShift) _ _ _ _)); refine ishr (by first | decide | omega) ?_)
    | ((with_reducible refine (?_ : wO _ (inplaceOp .BitOr) _ _ _ _)); first | refine ior ?_)
    | ((with_reducible refine (?_ : wO _ (inplaceOp .Add) _ _ _ _)); first | refine iadd ?_))
  | ((with_reducible refine (?_ : wT _ _ _ _ _)); first
    | ((with_reducible refine (?_ : wT _ (.Compare _ _ _ _) _ _ _)); first | refine zcmpT (by rfl) ?_ | refine zchainT ?_)
    | ((with_reducible refine (?_ : wT _ (.UnaryOp _ _ _) _ _ _)); refine znotT ?_)
    | ((with_reducible refine (?_ : wT _ (.BoolOp _ _ _) _ _ _)); refine zW ?_)
    | refine zval ?_)
  | ((with_reducible refine (?_ : wW _ _ _ _ _)); first | refine zand ?_ | refine zor ?_ | refine zand1 ?_ | refine zor1 ?_)
  | ((with_reducible refine (?_ : wK _ _ _ _ _)); first
    | ((with_reducible refine (?_ : wK _ (.builtin "len") _ _ _)); first | refine klenL (by one_place) ?_ | refine klenT (by one_place) ?_ | refine klenS (by assumption) ?_)
    | ((with_reducible refine (?_ : wK _ (.builtin "isinstance") _ _ _)); first | refine kisE (by assumption) (by assumption) (by first | assumption | exact Xd.exx (by assumption) (by one_sign)) (by first | exact .own _ | exact .ty _) (by assumption) ?_ | refine kisi (.ty _) (by assumption) (by assumption) ?_ | refine kisi (.ty _) (.base (by first | exact .int _ | exact .bl _ | exact .str _ | exact .non | exact .tup (by one_item) | exact .lst (by one_item))) (kit_ty (r := true) (by rfl)) ?_ | refine kisi (.ty _) (.base (by first | exact .int _ | exact .bl _ | exact .str _ | exact .non | exact .tup (by one_item) | exact .lst (by one_item))) (kit_ty (r := false) (by rfl)) ?_)
    | ((with_reducible refine (?_ : wK _ (.builtin "divmod") _ _ _)); refine kdivmod ⟨by first | decide | omega, by decide⟩ (fun _ _ _ _ _ => ?_))
    | ((with_reducible refine (?_ : wK _ (.builtin "min") _ _ _)); refine kmin (by rfl) ?_)
    | ((with_reducible refine (?_ : wK _ (.builtin "max") _ _ _)); refine kmax (by rfl) ?_)
    | ((with_reducible refine (?_ : wK _ (.type "list") _ _ _)); first | refine klistL (by one_place) (fun _ _ _ _ _ => ?_) | refine klistT (by one_place) (fun _ _ _ _ _ => ?_))
    | ((with_reducible refine (?_ : wK _ (.type "tuple") _ _ _)); first | refine ktupL (by one_place) (fun _ _ _ _ _ => ?_)))
  | ((with_reducible refine (?_ : wS _ _ _ _ _)); first
    | ((with_reducible refine (?_ : wS _ (.Assign [.Name _ _] _ _) _ _ _)); refine sset' (by assumption) (by rfl) (by first | exact Or.inl rfl | exact Or.inr rfl) (by rfl) (by first | exact .inl rfl | exact .inr rfl) ?_)
    | ((with_reducible refine (?_ : wS _ (.AugAssign (.Name _ _) _ _ _) _ _ _)); refine saug' (by assumption) (by rfl) (by first | exact Or.inl rfl | exact Or.inr rfl) (by first | exact .inl rfl | exact .inr rfl) (by rfl) ?_)
    | ((with_reducible refine (?_ : wS _ (.Expr _ _) _ _ _)); refine sexp ?_)
    | ((with_reducible refine (?_ : wS _ (.Assign [.Tuple _ _ _] _ _) _ _ _)); refine sasg ?_) | ((with_reducible refine (?_ : wS _ (.Assign [.Subscript _ _ _] _ _) _ _ _)); refine sasg ?_)
    | refine sret ?_ | refine sif ?_ | refine sretN ?_ | refine spass ?_ | refine sbrk ?_ | refine scont ?_)
  | ((with_reducible refine (?_ : wG _ (.Name _ _) _ _ _ _)); refine gname' (by assumption) (by rfl) (by first | exact Or.inl rfl | exact Or.inr rfl) (by first | exact .inl rfl | exact .inr rfl) ?_)
  | ((with_reducible refine (?_ : wG _ (.Tuple _ _ _) _ _ _ _)); refine gtup rfl (by one_place) rfl ?_) | ((with_reducible refine (?_ : wG _ (.Subscript _ _ _) _ _ _ _)); refine gsub ?_)
  | ((with_reducible refine (?_ : wGs _ _ _ _ _ _)); first | refine gscons ?_ | refine gsnil ?_)
  | ((with_reducible refine (?_ : wB _ _ _ _ _)); first | refine bcons ?_ | refine bnil ?_)
  | refine ifT ?_ | refine ifF ?_ | refine ifd (fun _ => ?_) (fun _ => ?_) | refine ifnd (fun _ => ?_) (fun _ => ?_) | refine ⟨_, rfl, ?_⟩ | refine ⟨rfl, Evl.Ex.refl _, ?_⟩ | refine ⟨Nat.le_of_ble_eq_true rfl, fun _ _ _ _ _ => ?_⟩ | fail)
local macro_rules | `(tactic| top_name) => `(tactic| repeat' tb_rel)
local macro_rules | `(tactic| nest_fact) => `(tactic| first | exact ⟨(decide_eq_true (by omega)).symm, rfl⟩ | exact ⟨(decide_eq_false (by omega)).symm, rfl⟩ | exact ⟨decide_eq_decide.mpr (by omega), rfl⟩ | fail)

/-! ### what is due, what is told -/
def toldU : UR → HO
  | .ok ys => .lst (ys.map V.int)
  | .wire p why => .lst [.str "wire", .int p, .str why, .bl false]
  | .chk => .lst [.str "check"]
def sp_due : Sp := fun vs H Q _ => ∃ (l : Addr) (xs : List Int), vs = [.ref l] ∧ H l = some (.lst (xs.map V.int)) ∧ Bytes xs ∧ xs.length ≤ 10000 ∧ ∀ t H', H t = none → Ex H H' → H' t = some (toldU (unfR xs)) → Q (.ref t) H'
theorem ok_due (T : Txt K mg) : Gf P w K mg base 2 "_law_due" [] sp_due := by
  refine gf_mk T.f__law_due T.m__law_due (fun _ _ _ _ _ _ us hl => match us, hl with | [_], _ => rfl) fun fd F => fn_mk F sc__law_due (fun vs H Q E h => ?_) fun cd A outer s H vs Q E hr tk po h => ?_
  · obtain ⟨l, xs, rfl, _⟩ := h; rfl
  · obtain ⟨l, xs, rfl, hl, hb, hz, q⟩ := h
    have nd := sc__law_due.nd
    have n1 := T.n_enumerate
    have n2 := T.n_len
    have hat : numAt xs 0 (xs.length : Int) = numGo xs 0 0 0 := by unfold numAt; rw [Int.toNat_natCast, List.take_length]; rfl
    unfold unfR at q
    rw [hat] at q
    generalize hR : numGo xs 0 0 0 = R at q
    top_name
    refine lforEn n1 po rfl rfl ?_
    top_name
    refine ⟨l, xs.map V.int, rfl, ⟨SqL.of hl, trivial⟩, fun i σ H' => Ex H H' ∧ ∃ (acc : Int) (v3 v4 : Option V), σ = [some (.ref l), some (.int acc), some (.int (128 ^ i)), v3, v4] ∧ 0 ≤ acc ∧ numGo (xs.drop i) i (i : Int) acc = R, ⟨Evl.Ex.refl _, 0, none, none, rfl, by decide, hR⟩, fun i σ H' _ z => SqL.of (z.1 _ _ hl), ?_, ?_⟩
    · rintro i x σ H1 tt H2 hx ⟨e1, acc, v3, v4, rfl, a0, go⟩ hT e2 hxt
      rw [List.getElem?_map] at hx
      obtain ⟨b, hb', rfl⟩ : ∃ b, xs[i]? = some b ∧ V.int b = x := by
        cases hb : xs[i]? with
        | none => rw [hb] at hx; cases hx
        | some b => rw [hb] at hx; cases hx; exact ⟨b, rfl, rfl⟩
      have hb3 := hb b (List.mem_of_getElem? hb')
      have hil := (List.getElem?_eq_some_iff.mp hb').1
      have hd : xs.drop i = b :: xs.drop (i + 1) := by
        obtain ⟨hlt, hv⟩ := List.getElem?_eq_some_iff.mp hb'
        rw [List.drop_eq_getElem_cons hlt, hv]
      rw [hd] at go
      unfold numGo at go
      have pp : (0 : Int) ≤ b % 128 * 128 ^ i := Int.mul_nonneg (by omega) (Int.le_of_lt (Int.pow_pos (by decide)))
      have m0 := Int.emod_nonneg b (by decide : (128 : Int) ≠ 0)
      have m1 := Int.emod_lt_of_pos b (by decide : (0 : Int) < 128)
      tb_rel
      tb_rel
      tb_rel
      tb_rel
      tb_rel
      tb_rel
      refine bcons (sif (tcut (decide ((i = 36 ∧ 15 < b) ∨ (b = 0 ∧ 0 < i))) ?_ ?_))
      · top_name
        all_goals nest_fact
      refine ifd (fun hc => ?_) (fun hc => ?_)
      · rw [if_pos hc] at go
        rw [← go] at q
        top_name
        rename_i t H3 ht e3 hx3
        exact q t H3 (Evl.fresh_back (e1.trans e2) ht) ((e1.trans e2).trans e3) hx3
      rw [if_neg hc] at go
      refine bnil ?_
      top_name
      · rename_i hlt hne t H3 ht e3 hx3
        rw [if_pos hlt] at go
        rw [← go] at q
        have q : ∀ t H', H t = none → Ex H H' → H' t = some (toldU (tailR xs (acc + b % 128 * 128 ^ i) ((i : Int) + 1))) → Q (.ref t) H' := q
        unfold tailR at q
        rw [List.length_map] at hne
        rw [if_pos (by omega)] at q
        exact q t H3 (Evl.fresh_back (e1.trans e2) ht) ((e1.trans e2).trans e3) hx3
      · rename_i hlt heq
        rw [if_pos hlt] at go
        rw [← go] at q
        have q : ∀ t H', H t = none → Ex H H' → H' t = some (toldU (tailR xs (acc + b % 128 * 128 ^ i) ((i : Int) + 1))) → Q (.ref t) H' := q
        unfold tailR checkOf at q
        rw [List.length_map] at heq
        rw [if_neg (by omega)] at q
        have hl2 := e2 _ _ (e1 _ _ hl)
        refine zcall (ok_lcheck T) hr (by decide) takesF rfl ?_
        top_name
        rename_i r H3 hr3 e3 hx3
        rw [cut_two (by omega)] at hx3
        refine ⟨r, _, rfl, hx3, bytes_take hb _, by rw [List.length_take]; omega, fun H4 e4 => ?_⟩
        have hl4 := e4 _ _ (e3 _ _ hl2)
        top_name
        refine ixL (SqL.of hl4) (back_two (by omega)) ?_
        top_name
        refine ixL (SqL.of hl4) (back_one (by omega)) ?_
        top_name
        · rename_i hne t H5 ht e5 hx5
          rw [if_pos (by rw [Int.mul_comm]; exact hne)] at q
          exact q t H5 (Evl.fresh_back (by one_sign) ht) (by one_sign) hx5
        · rename_i hcc t H5 ht e5 hx5
          rw [if_neg (by rw [Int.mul_comm]; exact fun z => z hcc)] at q
          rw [cut_mid (by omega) (by omega) (by omega)] at hx5
          exact q t H5 (Evl.fresh_back (by one_sign) ht) (by one_sign) hx5
      · rename_i hlt
        rw [if_neg hlt] at go
        refine ⟨e1.trans e2, _, _, _, by rw [Int.pow_succ]; rfl, by omega, ?_⟩
        rw [← go]
        rfl
    · rintro σ H1 ⟨e1, acc, v3, v4, rfl, a0, go⟩
      rw [List.length_map, List.drop_length, show numGo [] xs.length (xs.length : Int) acc = .bad (xs.length : Int) "cut" from rfl] at go
      rw [← go] at q
      top_name
      rename_i t H3 ht e3 hx3
      rw [List.length_map] at hx3
      exact q t H3 (Evl.fresh_back e1 ht) (e1.trans e3) hx3
theorem in_told {x : Str} (h : x = "wire" ∨ x = "check" ∨ x = "row") : inV (.str x) [.str "wire", .str "check", .str "row"] = true := by
  rcases h with rfl | rfl | rfl <;> decide +kernel
def sp_told (K : PySem.W.Frag) : Sp := fun vs H Q _ => (∃ (l : Addr) (xs : List Int), vs = [.ref l] ∧ RowAt K H l xs ∧ Bytes xs ∧ xs.length ≤ 100000 ∧ ∀ t H', H t = none → Ex H H' → H' t = some (toldU (unfR xs)) → Q (.ref t) H') ∨
  ∃ u, vs = [u] ∧ RowAsk K H u false ∧ ∀ t H', H t = none → Ex H H' → H' t = some (.lst [.str "row"]) → Q (.ref t) H'
theorem ok_told (T : Txt K mg) : Gf P w K mg base 6 "_law_told" [] (sp_told K) := by
  refine gf_mk T.f__law_told T.m__law_told (fun _ _ _ _ _ _ us hl => match us, hl with | [_], _ => rfl) fun fd F => fn_mk F sc__law_told (fun vs H Q E h => ?_) fun cd A outer s H vs Q E hr tk po h => ?_
  · rcases h with ⟨l, xs, rfl, _⟩ | ⟨u, rfl, _⟩ <;> rfl
  · have nd := sc__law_told.nd
    top_name
    refine stry (cl := .ref (He.ga K "FormError")) 1 nd tk ⟨rfl, by decide, .inl T.m_FormError⟩ rfl rfl rfl rfl fun pn xe po2 tk2 => ?_
    rcases h with ⟨l, xs, rfl, hrow, hb, hz, q⟩ | ⟨u, rfl, ha, q⟩
    · top_name
      refine zcall (ok_unframed T) (j := 5) hr (by decide) tk2 rfl ?_
      top_name
      refine .inl ⟨l, xs, rfl, hrow, hb, hz, ?_⟩
      cases hn : unfR xs with
      | ok ys => exact fun t H' ht ex hx => q t H' ht ex (by rw [hn]; exact hx)
      | wire p why =>
        rw [hn] at q
        intro d H' hd ex hx
        refine ⟨true, T.t_BadWire_FormError, fun _ a1 oe pn1 ha hz hf => ?_, fun z => by cases z⟩
        have hX := hx_suite (X := cx P w K mg base N__law_told "_law_told" (defScope s__law_told) (He.fAd K ("_law_told", none)) cd A outer s H E) (a := a1) (pn := pn1) hz hf
        top_name
        refine zcallE (ok_word T) hX (L2H.roomH_mark (Room.mono hr (Nat.le_refl 5)) _) (by decide) rfl ?_
        top_name
        refine ⟨He.ga K "BadWire", 5, "wire", rfl, rfl, fun d' e => ?_, kin_BadWire T, rfl, fun H2 e2 => ?_⟩
        · cases e; exact ⟨_, hx⟩
        top_name
        rename_i tp H3 htp e3 hxt
        refine oinF (.inr (SqT.of hxt)) rfl rfl ?_
        rw [in_told (.inl rfl)]
        top_name
        refine zcallE (ok_at T) hX (L2H.roomH_mark (Room.mono hr (Nat.le_refl 5)) _) (by decide) rfl ?_
        top_name
        exact .inl ⟨d, p, why, rfl, rfl, rfl, e3 _ _ (e2 _ _ hx), fun t H4 ht e4 hx4 => q t H4 (Evl.fresh_back (ex.trans (e2.trans e3)) ht) ((ex.trans (e2.trans e3)).trans e4) hx4⟩
      | chk =>
        rw [hn] at q
        intro H' ex
        refine ⟨true, T.t_BadCheck_FormError, fun _ a1 oe pn1 ha hz hf => ?_, fun z => by cases z⟩
        have hX := hx_suite (X := cx P w K mg base N__law_told "_law_told" (defScope s__law_told) (He.fAd K ("_law_told", none)) cd A outer s H E) (a := a1) (pn := pn1) hz hf
        top_name
        refine zcallE (ok_word T) hX (L2H.roomH_mark (Room.mono hr (Nat.le_refl 5)) _) (by decide) rfl ?_
        top_name
        refine ⟨He.ga K "BadCheck", 6, "check", rfl, rfl, fun d' e => (by cases e), kin_BadCheck T, rfl, fun H2 e2 => ?_⟩
        top_name
        rename_i tp H3 htp e3 hxt
        refine oinF (.inr (SqT.of hxt)) rfl rfl ?_
        rw [in_told (.inr (.inl rfl))]
        top_name
        refine zcallE (ok_at T) hX (L2H.roomH_mark (Room.mono hr (Nat.le_refl 5)) _) (by decide) rfl ?_
        top_name
        exact .inr ⟨He.ga K "BadCheck", 6, "check", rfl, rfl, fun d' e => (by cases e), kin_BadCheck T, rfl, by decide, by decide, fun t H4 ht e4 hx4 => q t H4 (Evl.fresh_back (ex.trans (e2.trans e3)) ht) ((ex.trans (e2.trans e3)).trans e4) hx4⟩
    · top_name
      refine zcall (ok_unframed T) (j := 5) hr (by decide) tk2 rfl ?_
      top_name
      refine .inr ⟨u, rfl, ha, fun H' ex => ?_⟩
      refine ⟨true, T.t_BadRow_FormError, fun _ a1 oe pn1 ha hz hf => ?_, fun z => by cases z⟩
      have hX := hx_suite (X := cx P w K mg base N__law_told "_law_told" (defScope s__law_told) (He.fAd K ("_law_told", none)) cd A outer s H E) (a := a1) (pn := pn1) hz hf
      top_name
      refine zcallE (ok_word T) hX (L2H.roomH_mark (Room.mono hr (Nat.le_refl 5)) _) (by decide) rfl ?_
      top_name
      refine ⟨He.ga K "BadRow", 1, "row", rfl, rfl, fun d' e => (by cases e), kin_BadRow T, rfl, fun H2 e2 => ?_⟩
      top_name
      rename_i tp H3 htp e3 hxt
      refine oinF (.inr (SqT.of hxt)) rfl rfl ?_
      rw [in_told (.inr (.inr rfl))]
      top_name
      refine zcallE (ok_at T) hX (L2H.roomH_mark (Room.mono hr (Nat.le_refl 5)) _) (by decide) rfl ?_
      top_name
      exact .inr ⟨He.ga K "BadRow", 1, "row", rfl, rfl, fun d' e => (by cases e), kin_BadRow T, rfl, by decide, by decide, fun t H4 ht e4 hx4 => q t H4 (Evl.fresh_back (ex.trans (e2.trans e3)) ht) ((ex.trans (e2.trans e3)).trans e4) hx4⟩
def NotFramed (K : PySem.W.Frag) (H : Hp) (u : V) : Prop := RowAsk K H u false ∨ ∃ (l : Addr) (xs : List Int), u = .ref l ∧ RowAt K H l xs ∧ Bytes xs ∧ 30000 < xs.length ∧ xs.length ≤ 100000
def sp_frefused (K : PySem.W.Frag) : Sp := fun vs H Q _ => ∃ u, vs = [u] ∧ NotFramed K H u ∧ ∀ H', Ex H H' → Q (.str "row") H'
theorem ok_frefused (T : Txt K mg) : Gf P w K mg base 6 "_law_frame_refused" [] (sp_frefused K) := by
  refine gf_mk T.f__law_frame_refused T.m__law_frame_refused (fun _ _ _ _ _ _ us hl => match us, hl with | [_], _ => rfl) fun fd F => fn_mk F sc__law_frame_refused (fun vs H Q E h => ?_) fun cd A outer s H vs Q E hr tk po h => ?_
  · obtain ⟨u, rfl, _⟩ := h; rfl
  · obtain ⟨u, rfl, hu, q⟩ := h
    have nd := sc__law_frame_refused.nd
    top_name
    refine stry (cl := .ref (He.ga K "FormError")) 1 nd tk ⟨rfl, by decide, .inl T.m_FormError⟩ rfl rfl rfl rfl fun pn xe po2 tk2 => ?_
    top_name
    refine zcall (ok_framed T) (j := 5) hr (by decide) tk2 rfl ?_
    top_name
    have fin : ∀ H', Ex H H' → (fun (cls : Value) (d : Option Addr) (H' : Hp) => ∃ k, PySem.W.exmOne K cls (.ref (He.ga K "FormError")) = some k ∧ True) (.ref (He.ga K "BadRow")) none H' := fun H' _ => ⟨true, T.t_BadRow_FormError, trivial⟩
    rcases hu with ha | ⟨l, xs, rfl, hrow, hb, hgt, hz⟩
    · refine .inr ⟨u, rfl, ha, fun H' ex => ?_⟩
      refine ⟨true, T.t_BadRow_FormError, fun _ a1 oe pn1 ha hz hf => ?_, fun z => by cases z⟩
      have hX := hx_suite (X := cx P w K mg base N__law_frame_refused "_law_frame_refused" (defScope s__law_frame_refused) (He.fAd K ("_law_frame_refused", none)) cd A outer s H E) (a := a1) (pn := pn1) hz hf
      top_name
      refine zcallE (ok_word T) hX (L2H.roomH_mark (Room.mono hr (Nat.le_refl 5)) _) (by decide) rfl ?_
      top_name
      exact ⟨He.ga K "BadRow", 1, "row", rfl, rfl, fun d' e => (by cases e), kin_BadRow T, rfl, fun H2 e2 => q _ (ex.trans e2)⟩
    · refine .inl ⟨l, xs, rfl, hrow, hb, hz, ?_⟩
      rw [if_pos hgt]
      intro H' ex
      refine ⟨true, T.t_BadRow_FormError, fun _ a1 oe pn1 ha hz hf => ?_, fun z => by cases z⟩
      have hX := hx_suite (X := cx P w K mg base N__law_frame_refused "_law_frame_refused" (defScope s__law_frame_refused) (He.fAd K ("_law_frame_refused", none)) cd A outer s H E) (a := a1) (pn := pn1) hz hf
      top_name
      refine zcallE (ok_word T) hX (L2H.roomH_mark (Room.mono hr (Nat.le_refl 5)) _) (by decide) rfl ?_
      top_name
      exact ⟨He.ga K "BadRow", 1, "row", rfl, rfl, fun d' e => (by cases e), kin_BadRow T, rfl, fun H2 e2 => q _ (ex.trans e2)⟩
/-! ### a bit turned -/
def turnR (xs : List Int) (k : Nat) : List Int := xs.set (k / 8) (((xs.getD (k / 8) 0).toNat ^^^ 2 ^ (k % 8) : Nat) : Int)
def sp_turned : Sp := fun vs H Q _ => ∃ (l : Addr) (xs : List Int) (k : Nat), vs = [.ref l, .int (k : Int)] ∧ H l = some (.lst (xs.map V.int)) ∧ Bytes xs ∧ k < 8 * xs.length ∧ xs.length ≤ 10000 ∧ ∀ t H', H t = none → Ex H H' → H' t = some (.lst ((turnR xs k).map V.int)) → Q (.ref t) H'
theorem ok_turned (T : Txt K mg) : Gf P w K mg base 1 "_law_turned" [] sp_turned := by
  refine gf_mk T.f__law_turned T.m__law_turned (fun _ _ _ _ _ _ us hl => match us, hl with | [_, _], _ => rfl) fun fd F => fn_mk F sc__law_turned (fun vs H Q E h => ?_) fun cd A outer s H vs Q E hr tk po h => ?_
  · obtain ⟨l, xs, k, rfl, _⟩ := h; rfl
  · obtain ⟨l, xs, k, rfl, hl, hb, hk, hz, q⟩ := h
    have nd := sc__law_turned.nd
    have n1 := T.n_list
    have hbk := bytes_getD hb (k / 8)
    top_name
    rename_i t H1 ht e1 hx
    refine ixL (SqL.of hx) (show atI _ ((k : Int) / 8) = some (.int (xs.getD (k / 8) 0)) from ?_) ?_
    · rw [show (k : Int) / 8 = ((k / 8 : Nat) : Int) from by omega]
      exact atI_nat (by rw [List.getElem?_map, getD_is (by omega)]; rfl)
    top_name
    refine oshl (shl_ok (n := 1) (j := k % 8) (by decide) (by omega)) ?_
    top_name
    refine seL hx (show ixN _ ((k : Int) / 8) = some (k / 8) from ?_) ?_
    · unfold ixN
      rw [if_pos (by omega), if_pos (by rw [List.length_map]; omega)]
      congr 1
    top_name
    refine q t _ ht (Ex.past e1 ht) ?_
    rw [upd_same]
    unfold turnR
    have e2 : (1 * 2 ^ ((k : Int) % 8).toNat : Int) = ((2 ^ (k % 8) : Nat) : Int) := by rw [Int.one_mul, show ((k : Int) % 8).toNat = k % 8 from by omega]; simp
    rw [e2, _root_.Bits.bitXor_pp hbk.1 (Int.natCast_nonneg _), Int.toNat_natCast, List.map_set]
end K05

set_option maxRecDepth 100000
set_option maxHeartbeats 4000000
set_option pp.maxSteps 1500
namespace K05
open PySem PySem.Spec PyProof.Rows L2 Z
/-! ### a bit turned is found out, plainly -/
theorem xor_cl {a b c : Nat} (h : a ^^^ c = b ^^^ c) : a = b := by
  have := congrArg (· ^^^ c) h
  simpa [Nat.xor_assoc] using this
theorem xor_cr {a b c : Nat} (h : c ^^^ a = c ^^^ b) : a = b := xor_cl (c := c) (by rw [Nat.xor_comm a, Nat.xor_comm b]; exact h)
theorem pStep_inj {f g : Nat} (hf : f < 65536) (hg : g < 65536) (h : pStep f = pStep g) : f = g := by
  have par : ∀ m, (m * 2 % 65536 ^^^ 4129) % 2 = 1 := fun m => by
    have := Nat.xor_mod_two_pow (a := m * 2 % 65536) (b := 4129) (n := 1)
    rw [Nat.pow_one] at this
    rw [this, show m * 2 % 65536 % 2 = 0 from by omega]
    rfl
  unfold pStep at h
  split at h
  · split at h
    · have := xor_cl h
      omega
    · have := par f
      omega
  · split at h
    · have := par g
      omega
    · omega
theorem pTurns_inj {f g : Nat} (hf : f < 65536) (hg : g < 65536) : ∀ i, pTurns f i = pTurns g i → f = g
  | 0, h => h
  | i + 1, h => pTurns_inj hf hg i (pStep_inj (pTurns_lt hf i) (pTurns_lt hg i) h)
theorem crcB_in {f b : Nat} (hf : f < 65536) (hb : b < 256) : f ^^^ (b * 256) < 65536 := Nat.xor_lt_two_pow (n := 16) hf (by omega)
theorem crcB_inj {f g b : Nat} (hf : f < 65536) (hg : g < 65536) (hb : b < 256) (h : crcB f b = crcB g b) : f = g :=
  xor_cl (pTurns_inj (crcB_in hf hb) (crcB_in hg hb) 8 h)
theorem crcB_injB {f b c : Nat} (hf : f < 65536) (hb : b < 256) (hc : c < 256) (h : crcB f b = crcB f c) : b = c := by
  have := xor_cr (pTurns_inj (crcB_in hf hb) (crcB_in hf hc) 8 h)
  omega
theorem crc_inj : ∀ {xs : List Int} {f g : Nat}, f < 65536 → g < 65536 → Bytes xs → crc f xs = crc g xs → f = g
  | [], _, _, _, _, _, h => h
  | x :: xs, f, g, hf, hg, hb, h => crcB_inj hf hg (by have := hb x List.mem_cons_self; omega) (crc_inj (crcB_lt f _) (crcB_lt g _) (fun y hy => hb y (List.mem_cons_of_mem _ hy)) h)
theorem crc_set {b : Int} : ∀ {xs : List Int} {f j : Nat}, f < 65536 → Bytes xs → j < xs.length → 0 ≤ b → b < 256 → b ≠ xs.getD j 0 → crc f (xs.set j b) ≠ crc f xs
  | x :: xs, f, 0, hf, hb, hj, b0, b1, hne, h => by
    have hx := hb x List.mem_cons_self
    have := crcB_injB hf (by omega) (by omega) (crc_inj (crcB_lt f b.toNat) (crcB_lt f x.toNat) (fun y hy => hb y (List.mem_cons_of_mem _ hy)) (show crc (crcB f b.toNat) xs = crc (crcB f x.toNat) xs from h))
    apply hne
    show b = x
    omega
  | x :: xs, f, j + 1, hf, hb, hj, b0, b1, hne, h => crc_set (xs := xs) (j := j) (crcB_lt f x.toNat) (fun y hy => hb y (List.mem_cons_of_mem _ hy)) (by simpa using hj) b0 b1 hne h
/-- a byte with a bit turned -/
theorem bit_turn : ∀ x < 256, ∀ b < 8, (x ^^^ 2 ^ b < 256) ∧ x ^^^ 2 ^ b ≠ x ∧ (((x ^^^ 2 ^ b) % 128 = x % 128 ∧ (x ^^^ 2 ^ b) / 128 + x / 128 = 1) ∨ ((x ^^^ 2 ^ b) % 128 ≠ x % 128 ∧ (x ^^^ 2 ^ b) / 128 = x / 128)) := by decide +kernel
theorem frameR_len (xs : List Int) : (frameR xs).length = (rowN xs.length).length + xs.length + 2 := by
  unfold frameR withCheck
  rw [List.length_append, List.length_append]
  rfl
theorem frameR_bytes {xs : List Int} (h : Bytes xs) : Bytes (frameR xs) := by
  unfold frameR withCheck
  have := crc_lt (f := 65535) (by decide) (rowN xs.length ++ xs)
  refine bytes_app (bytes_app (rowN_bytes _) h) fun x hx => ?_
  rcases List.mem_cons.mp hx with rfl | hx
  · omega
  · rw [List.mem_singleton.mp hx]; omega
theorem rowN_pos (n : Nat) : 0 < (rowN n).length := by
  rw [rowN]
  split <;> simp
theorem numAt_whole {ys zs : List Int} (h : ys = zs) : numAt ys 0 (ys.length : Int) = numGo zs 0 0 0 := by
  subst h
  unfold numAt
  rw [Int.toNat_natCast, List.take_length]
  rfl
/-- the row's own number, read where the rest is whatever -/
theorem num_row {n : Nat} (hn : n ≤ 100000) (rest : List Int) : numGo (rowN n ++ rest) 0 0 0 = .num (n : Int) ((rowN n).length : Int) := by
  rw [numGo_row n 0 0 0 rest (.inr rfl) (by rw [Nat.pow_zero, Nat.mul_one]; exact Nat.lt_of_le_of_lt hn (by decide))]
  simp
theorem getD_app_right {a b : List Int} {k : Nat} (h : a.length ≤ k) : (a ++ b).getD k 0 = b.getD (k - a.length) 0 := by
  rw [List.getD_eq_getElem?_getD, List.getD_eq_getElem?_getD, List.getElem?_append_right h]
theorem getD_app_left {a b : List Int} {k : Nat} (h : k < a.length) : (a ++ b).getD k 0 = a.getD k 0 := by
  rw [List.getD_eq_getElem?_getD, List.getD_eq_getElem?_getD, List.getElem?_append_left h]
/-- what is told of a row with its number right, then anything, then two bytes -/
theorem unf_parts {n : Nat} {mid : List Int} {c1 c0 : Int} (hn : n ≤ 100000) (hl : mid.length = n) :
    unfR (rowN n ++ mid ++ [c1, c0]) = if ((crc 65535 (rowN n ++ mid) : Nat) : Int) ≠ c1 * 256 + c0 then .chk else .ok mid := by
  have hlen : (rowN n ++ mid ++ [c1, c0]).length = (rowN n).length + n + 2 := by rw [List.length_append, List.length_append, hl]; rfl
  unfold unfR
  rw [numAt_whole (List.append_assoc _ _ _), num_row hn]
  show tailR _ _ _ = _
  unfold tailR
  rw [if_neg (by rw [hlen]; omega)]
  have e2 : (rowN n ++ mid ++ [c1, c0]).length - 2 = (rowN n ++ mid).length := by rw [List.length_append (as := rowN n ++ mid)]; rfl
  have e1 : (rowN n ++ mid ++ [c1, c0]).length - 1 = (rowN n ++ mid).length + 1 := by rw [List.length_append (as := rowN n ++ mid)]; rfl
  have ec : checkOf (rowN n ++ mid ++ [c1, c0]) = c1 * 256 + c0 := by
    unfold checkOf
    rw [e2, e1, getD_app_right (Nat.le_refl _), getD_app_right (Nat.le_succ _), Nat.sub_self, show (rowN n ++ mid).length.succ - (rowN n ++ mid).length = 1 from by omega]
    rfl
  rw [ec, e2, List.take_left]
  congr 2
  rw [Int.toNat_natCast, List.drop_left]
theorem unf_frame {xs : List Int} (hz : xs.length ≤ 100000) : unfR (frameR xs) = .ok xs := by
  have := unf_parts (mid := xs) (c1 := ((crc 65535 (rowN xs.length ++ xs) / 256 : Nat) : Int)) (c0 := ((crc 65535 (rowN xs.length ++ xs) % 256 : Nat) : Int)) hz rfl
  unfold frameR withCheck
  rw [this, if_neg (by omega)]
def UR.isOk : UR → Prop
  | .ok _ => True
  | _ => False
/-- a length put wrong -/
theorem not_ok {ys : List Int} (h : ∀ n p, numGo ys 0 0 0 = .num n p → p + n + 2 ≠ (ys.length : Int)) : ¬ (unfR ys).isOk := by
  unfold unfR
  rw [numAt_whole rfl]
  cases hn : numGo ys 0 0 0 with
  | bad p why => exact id
  | num n p =>
    show ¬ (tailR ys n p).isOk
    unfold tailR
    rw [if_pos (h n p hn)]
    exact id
theorem go1 {b : Int} {r : List Int} {i : Nat} {p acc : Int} (h1 : b < 128) (h2 : ¬ ((i = 36 ∧ 15 < b) ∨ (b = 0 ∧ 0 < i))) : numGo (b :: r) i p acc = .num (acc + b % 128 * 128 ^ i) (p + 1) := by
  rw [numGo, if_neg h2, if_pos h1]
theorem goM {b : Int} {r : List Int} {i : Nat} {p acc : Int} (h1 : ¬ b < 128) (h2 : i < 36) : numGo (b :: r) i p acc = numGo r (i + 1) (p + 1) (acc + b % 128 * 128 ^ i) := by
  rw [numGo, if_neg (by omega), if_neg h1]
theorem turn_bad {xs : List Int} {k : Nat} (hb : Bytes xs) (hz : xs.length < 16384) (hk : k < 8 * (frameR xs).length) : ¬ (unfR (turnR (frameR xs) k)).isOk := by
  have hB := frameR_bytes hb
  have hlen := frameR_len xs
  have hj : k / 8 < (frameR xs).length := by omega
  have hx := bytes_getD hB (k / 8)
  have bt := bit_turn ((frameR xs).getD (k / 8) 0).toNat (by omega) (k % 8) (by omega)
  unfold turnR
  generalize hy : ((frameR xs).getD (k / 8) 0).toNat ^^^ 2 ^ (k % 8) = y at bt ⊢
  generalize hv : (frameR xs).getD (k / 8) 0 = v at bt hx
  generalize k / 8 = j at hj hv
  obtain ⟨y1, y2, y3⟩ := bt
  by_cases hr : j < (rowN xs.length).length
  · -- in the number
    have hset : (frameR xs).set j ((y : Nat) : Int) = (rowN xs.length).set j ((y : Nat) : Int) ++ (xs ++ [((crc 65535 (rowN xs.length ++ xs) / 256 : Nat) : Int), ((crc 65535 (rowN xs.length ++ xs) % 256 : Nat) : Int)]) := by
      unfold frameR withCheck
      rw [List.append_assoc, List.set_append_left _ _ hr]
    have hrest : Bytes (xs ++ [((crc 65535 (rowN xs.length ++ xs) / 256 : Nat) : Int), ((crc 65535 (rowN xs.length ++ xs) % 256 : Nat) : Int)]) := fun z hz => hB z (by
      unfold frameR withCheck
      rw [List.append_assoc]
      exact List.mem_append_right _ hz)
    have hv2 : (rowN xs.length).getD j 0 = v := by
      rw [← hv]
      unfold frameR withCheck
      rw [List.append_assoc, getD_app_left hr]
    refine not_ok fun n p hnum => ?_
    rw [List.length_set, hlen]
    rw [hset] at hnum
    generalize xs ++ [((crc 65535 (rowN xs.length ++ xs) / 256 : Nat) : Int), ((crc 65535 (rowN xs.length ++ xs) % 256 : Nat) : Int)] = rest at hnum hrest
    generalize xs.length = L at *
    by_cases h1 : L < 128
    · rw [rowN_lt h1] at *
      have j0 : j = 0 := by simpa using hr
      subst j0
      have hvL : v = (L : Int) := hv2.symm
      subst hvL
      rw [Int.toNat_natCast] at y2 y3
      rw [show ([(L : Int)].set 0 ((y : Nat) : Int) ++ rest) = ((y : Nat) : Int) :: rest from rfl] at hnum
      show p + n + 2 ≠ ((1 + L + 2 : Nat) : Int)
      by_cases hy128 : ((y : Nat) : Int) < 128
      · rw [go1 hy128 (by omega)] at hnum
        cases hnum
        rw [Int.pow_zero, Int.mul_one]
        omega
      · rw [goM hy128 (by decide), Int.pow_zero, Int.mul_one] at hnum
        have := numGo_ge hrest hnum
        omega
    · rw [rowN_ge h1, rowN_lt (show L / 128 < 128 by omega)] at *
      have j01 : j = 0 ∨ j = 1 := by
        have : j < 2 := hr
        omega
      show p + n + 2 ≠ ((2 + L + 2 : Nat) : Int)
      rcases j01 with rfl | rfl
      · have hvL : v = ((L % 128 + 128 : Nat) : Int) := hv2.symm
        subst hvL
        rw [Int.toNat_natCast] at y2 y3
        rw [show ([((L % 128 + 128 : Nat) : Int), ((L / 128 : Nat) : Int)].set 0 ((y : Nat) : Int) ++ rest) = ((y : Nat) : Int) :: ((L / 128 : Nat) : Int) :: rest from rfl] at hnum
        by_cases hy128 : ((y : Nat) : Int) < 128
        · rw [go1 hy128 (by omega)] at hnum
          cases hnum
          rw [Int.pow_zero, Int.mul_one]
          omega
        · rw [goM hy128 (by decide), go1 (by omega) (by omega)] at hnum
          cases hnum
          rw [Int.pow_zero, Int.mul_one, show (128 : Int) ^ (0 + 1) = 128 from rfl]
          omega
      · have hvL : v = ((L / 128 : Nat) : Int) := hv2.symm
        subst hvL
        rw [Int.toNat_natCast] at y2 y3
        rw [show ([((L % 128 + 128 : Nat) : Int), ((L / 128 : Nat) : Int)].set 1 ((y : Nat) : Int) ++ rest) = ((L % 128 + 128 : Nat) : Int) :: ((y : Nat) : Int) :: rest from rfl, goM (by omega) (by decide), Int.pow_zero, Int.mul_one] at hnum
        by_cases hy0 : y = 0
        · subst hy0
          rw [numGo, if_pos (.inr ⟨rfl, by decide⟩)] at hnum
          cases hnum
        by_cases hy128 : ((y : Nat) : Int) < 128
        · rw [go1 hy128 (by omega)] at hnum
          cases hnum
          rw [show (128 : Int) ^ (0 + 1) = 128 from rfl]
          omega
        · rw [goM hy128 (by decide), show (128 : Int) ^ (0 + 1) = 128 from rfl] at hnum
          have := numGo_ge hrest hnum
          omega
  · have hc := crc_lt (f := 65535) (by decide) (rowN xs.length ++ xs)
    by_cases hm : j < (rowN xs.length).length + xs.length
    · -- in the row
      have hset : (frameR xs).set j ((y : Nat) : Int) = rowN xs.length ++ xs.set (j - (rowN xs.length).length) ((y : Nat) : Int) ++ [((crc 65535 (rowN xs.length ++ xs) / 256 : Nat) : Int), ((crc 65535 (rowN xs.length ++ xs) % 256 : Nat) : Int)] := by
        unfold frameR withCheck
        rw [List.set_append_left _ _ (by rw [List.length_append]; exact hm), List.set_append_right _ _ (by omega)]
      have hv2 : (rowN xs.length ++ xs).getD j 0 = v := by
        rw [← hv]
        unfold frameR withCheck
        rw [getD_app_left (a := rowN xs.length ++ xs) (by rw [List.length_append]; exact hm)]
      rw [hset, unf_parts (by omega) (List.length_set ..), if_pos ?_]
      · exact id
      · have e : rowN xs.length ++ xs.set (j - (rowN xs.length).length) ((y : Nat) : Int) = (rowN xs.length ++ xs).set j ((y : Nat) : Int) := by rw [List.set_append_right _ _ (by omega)]
        have := crc_set (b := ((y : Nat) : Int)) (f := 65535) (j := j) (xs := rowN xs.length ++ xs) (by decide) (bytes_app (rowN_bytes _) hb) (by rw [List.length_append]; exact hm) (by omega) (by omega) (by rw [hv2]; omega)
        rw [e]
        omega
    · -- in the check
      have hj2 : j = (rowN xs.length ++ xs).length ∨ j = (rowN xs.length ++ xs).length + 1 := by rw [List.length_append]; omega
      generalize hC : crc 65535 (rowN xs.length ++ xs) = C at hc
      have hset : (frameR xs).set j ((y : Nat) : Int) = rowN xs.length ++ xs ++ [((C / 256 : Nat) : Int), ((C % 256 : Nat) : Int)].set (j - (rowN xs.length ++ xs).length) ((y : Nat) : Int) := by
        unfold frameR withCheck
        rw [List.set_append_right _ _ (by rw [List.length_append]; omega), hC]
      have hv2 : [((C / 256 : Nat) : Int), ((C % 256 : Nat) : Int)].getD (j - (rowN xs.length ++ xs).length) 0 = v := by
        rw [← hv]
        unfold frameR withCheck
        rw [getD_app_right (by rw [List.length_append]; omega), hC]
      rw [hset]
      rcases hj2 with e | e
      · rw [show j - (rowN xs.length ++ xs).length = 0 from by omega] at *
        have hvC : v = ((C / 256 : Nat) : Int) := hv2.symm
        rw [show [((C / 256 : Nat) : Int), ((C % 256 : Nat) : Int)].set 0 ((y : Nat) : Int) = [((y : Nat) : Int), ((C % 256 : Nat) : Int)] from rfl, unf_parts (by omega) rfl, if_pos (by rw [hC]; omega)]
        exact id
      · rw [show j - (rowN xs.length ++ xs).length = 1 from by omega] at *
        have hvC : v = ((C % 256 : Nat) : Int) := hv2.symm
        rw [show [((C / 256 : Nat) : Int), ((C % 256 : Nat) : Int)].set 1 ((y : Nat) : Int) = [((C / 256 : Nat) : Int), ((y : Nat) : Int)] from rfl, unf_parts (by omega) rfl, if_pos (by rw [hC]; omega)]
        exact id
end K05

set_option maxRecDepth 100000
set_option maxHeartbeats 8000000
set_option pp.maxSteps 1500
namespace K05
open PySem PySem.Spec PyProof.Rows L2 Z
open Evl (Ex)
variable {P : Program} {w : World} {K : PySem.W.Frag} {mg : Str → Option Value} {base : Heap}
/-! ### steps of the walk: one_sign: a heap grew into another; one_item: what stands at an address; one_place: a list or tuple to be read; leaf_len: arithmetic; tb_rel: one step; top_name: steps as far as they go -/
local macro_rules | `(tactic| got_up) => `(tactic| (refine Evl.Ex.trans (by assumption) ?_; first | assumption | exact Evl.Ex.refl _ | got_up))
local macro_rules | `(tactic| units_room) => `(tactic| (refine Evl.Ex.trans ?_ (by assumption); first | assumption | exact Evl.Ex.refl _ | units_room))
local macro_rules | `(tactic| one_sign) => `(tactic| first | assumption | exact Evl.Ex.refl _ | got_up | units_room)
local macro_rules | `(tactic| one_item) => `(tactic| first | assumption | exact upd_same | exact exa (by assumption) (by one_sign))
local macro_rules | `(tactic| one_place) => `(tactic| first | assumption | exact SqL.of (by assumption) | exact SqT.of (by assumption) | exact exl (by assumption) (by one_sign) | exact ext (by assumption) (by one_sign) | exact SqL.of (by one_item) | exact SqT.of (by one_item))
local macro_rules | `(tactic| leaf_len) => `(tactic| first | assumption | decide | omega)
local macro_rules | `(tactic| tb_rel) => `(tactic| first
  | ((with_reducible refine (?_ : wE _ _ _ _ _)); first
    | ((with_reducible refine (?_ : wE _ (.Name _ _) _ _ _)); first | refine zn (by rfl) (by first | exact Or.inl rfl | exact Or.inr (Or.inl rfl) | exact Or.inr (Or.inr rfl)) (by rfl) ?_ | refine zglob (by assumption) (by rfl) ?_ | refine zcls (by assumption) (by rfl) ?_ | refine zty (by assumption) (by first | exact bt_int | exact bt_bool | exact bt_str | exact bt_list | exact bt_tuple | exact bt_dict | exact bt_ValueError) (by rfl) ?_)
    | ((with_reducible refine (?_ : wE _ (.Constant _ _ _) _ _ _)); first | refine zint ?_ | refine zstr ?_ | refine zbl ?_ | refine znon ?_)
    | ((with_reducible refine (?_ : wE _ (.BinOp _ _ _ _) _ _ _)); refine zbin ?_)
    | ((with_reducible refine (?_ : wE _ (.Compare _ _ _ _) _ _ _)); first | refine zcmp (by rfl) ?_ | refine zchain ?_)
    | ((with_reducible refine (?_ : wE _ (.Dict [] [] _) _ _ _)); refine zdnew (fun _ _ _ _ _ => ?_))
    | ((with_reducible refine (?_ : wE _ (.Subscript _ (.Slice _ _ _ _) _) _ _ _)); refine zsl ?_)
    | ((with_reducible refine (?_ : wE _ (.Subscript _ _ _) _ _ _)); refine zix ?_)
    | ((with_reducible refine (?_ : wE _ (.Call (.Name "list" _) [.Call (.Name "range" _) [_] [] _] [] _) _ _ _)); refine zlrg1 rfl (by rfl) (by assumption) (by rfl) (by assumption) ?_)
    | ((with_reducible refine (?_ : wE _ (.Call (.Name _ _) _ _ _) _ _ _)); first
      | ((with_reducible refine (?_ : wE _ (.Call (.Name "len" _) _ _ _) _ _ _)); refine zbfn (by assumption) bt_len (by rfl) ?_)
      | ((with_reducible refine (?_ : wE _ (.Call (.Name "isinstance" _) _ _ _) _ _ _)); refine zbfn (by assumption) bt_isi (by rfl) ?_)
      | ((with_reducible refine (?_ : wE _ (.Call (.Name "min" _) _ _ _) _ _ _)); refine zbfn (by assumption) bt_min (by rfl) ?_)
      | ((with_reducible refine (?_ : wE _ (.Call (.Name "max" _) _ _ _) _ _ _)); refine zbfn (by assumption) bt_max (by rfl) ?_)
      | ((with_reducible refine (?_ : wE _ (.Call (.Name "list" _) _ _ _) _ _ _)); refine zbty (by assumption) bt_list (by rfl) ?_)
      | ((with_reducible refine (?_ : wE _ (.Call (.Name "tuple" _) _ _ _) _ _ _)); refine zbty (by assumption) bt_tuple (by rfl) ?_)
      | ((with_reducible refine (?_ : wE _ (.Call (.Name "int" _) _ _ _) _ _ _)); refine zbty (by assumption) bt_int (by rfl) ?_)
      | ((with_reducible refine (?_ : wE _ (.Call (.Name "abs" _) _ _ _) _ _ _)); refine zbfn (by assumption) bt_abs (by rfl) ?_)
      | ((with_reducible refine (?_ : wE _ (.Call (.Name "all" _) _ _ _) _ _ _)); refine zbfn (by assumption) bt_all (by rfl) ?_)
      | ((with_reducible refine (?_ : wE _ (.Call (.Name "sum" _) _ _ _) _ _ _)); refine zbfn (by assumption) bt_sum (by rfl) ?_)
      | ((with_reducible refine (?_ : wE _ (.Call (.Name "divmod" _) _ _ _) _ _ _)); refine zbfn (by assumption) bt_divmod (by rfl) ?_)
      | ((with_reducible refine (?_ : wE _ (.Call (.Name "ord" _) _ _ _) _ _ _)); refine zbfn (by assumption) bt_ord (by rfl) ?_))
    | ((with_reducible refine (?_ : wE _ (.IfExp _ _ _ _) _ _ _)); refine zif ?_)
    | ((with_reducible refine (?_ : wE _ (.Tuple _ _ _) _ _ _)); refine ztup ?_)
    | ((with_reducible refine (?_ : wE _ (.List _ _) _ _ _)); refine zlst ?_)
    | ((with_reducible refine (?_ : wE _ (.UnaryOp _ _ _) _ _ _)); first | refine znotV ?_ | refine zneg ?_)
    | ((with_reducible refine (?_ : wE _ (.BoolOp _ _ _) _ _ _)); first | refine zandV ?_ | refine zorV ?_ | refine zoneV ?_))
  | ((with_reducible refine (?_ : bE _ _ _ _ _ _)); refine ⟨fun _ _ _ _ _ => ?_⟩) | ((with_reducible refine (?_ : bG _ _ _ _ _ _ _)); refine ⟨fun _ _ _ _ _ => ?_⟩) | ((with_reducible refine (?_ : bTs _ _ _ _ _ _)); refine ⟨fun _ _ _ _ _ => ?_⟩)
  | ((with_reducible refine (?_ : hE _ _ _ _ _ _)); refine ⟨fun _ _ _ _ _ => ?_⟩) | ((with_reducible refine (?_ : hG _ _ _ _ _ _ _)); refine ⟨fun _ _ _ _ _ => ?_⟩) | ((with_reducible refine (?_ : hTs _ _ _ _ _ _)); refine ⟨fun _ _ _ _ _ => ?_⟩)
  | ((with_reducible refine (?_ : wP _ _ _ _ _)); first | refine pnon ?_ | refine psom ?_) | ((with_reducible refine (?_ : wSl _ _ _ _ _ _)); first | refine slL (by one_place) (fun _ _ _ _ _ => ?_) | refine slS (by assumption) ?_)
  | ((with_reducible refine (?_ : wTs _ _ _ _ _)); first | refine tsnil ?_ | refine tsone ?_)
  | ((with_reducible refine (?_ : wA _ _ _ _ _)); first | refine acons ?_ | refine anil ?_)
  | ((with_reducible refine (?_ : wO _ _ _ _ _ _)); first
    | ((with_reducible refine (?_ : wO _ (binaryOp .Add) _ _ _ _)); first | refine oadd ?_ | refine ocatE (by one_item) (by one_item) (Nat.le_of_ble_eq_true rfl) (fun _ _ _ _ _ => ?_))
    | ((with_reducible refine (?_ : wO _ (binaryOp .Sub) _ _ _ _)); first | refine osub ?_)
    | ((with_reducible refine (?_ : wO _ (binaryOp .Mult) _ _ _ _)); first | refine omul (by first | exact IntMulOk.of_right (by decide) | exact IntMulOk.of_left (by decide) | exact IntMulOk.of_right (intBits_le_64 (by omega) (by omega)) | exact IntMulOk.of_left (intBits_le_64 (by omega) (by omega))) ?_)
    | ((with_reducible refine (?_ : wO _ (binaryOp .Mod) _ _ _ _)); first | refine omod (by first | decide | omega) ?_)
    | ((with_reducible refine (?_ : wO _ (binaryOp .FloorDiv) _ _ _ _)); first | refine ofdiv ⟨by first | decide | omega, by decide⟩ ?_)
    | ((with_reducible refine (?_ : wO _ (binaryOp .BitAnd) _ _ _ _)); first | refine oand ?_)
    | ((with_reducible refine (?_ : wO _ (binaryOp .BitOr) _ _ _ _)); first | refine oor ?_)
    | ((with_reducible refine (?_ : wO _ (compareOp .Lt) _ _ _ _)); first | refine olt ?_)
    | ((with_reducible refine (?_ : wO _ (compareOp .LtE) _ _ _ _)); first | refine ole ?_)
    | ((with_reducible refine (?_ : wO _ (compareOp .Gt) _ _ _ _)); first | refine ogt ?_)
    | ((with_reducible refine (?_ : wO _ (compareOp .GtE) _ _ _ _)); first | refine oge ?_)
    | ((with_reducible refine (?_ : wO _ (compareOp .Eq) _ _ _ _)); first | refine oeqi ?_ | refine oeq (by rfl) ?_)
    | ((with_reducible refine (?_ : wO _ (compareOp .NotEq) _ _ _ _)); first | refine onei ?_ | refine one (by rfl) ?_)
    | ((with_reducible refine (?_ : wO _ (compareOp .In) _ _ _ _)); first | refine oin ?_)
    | ((with_reducible refine (?_ : wO _ (compareOp .NotIn) _ _ _ _)); first | refine onin ?_)
    | ((with_reducible refine (?_ : wO _ (compareOp .Is) _ _ _ _)); first | refine ois ?_)
    | ((with_reducible refine (?_ : wO _ (compareOp .IsNot) _ _ _ _)); first | refine onot ?_)
    | ((with_reducible refine (?_ : wO _ (binaryOp .RShift) _ _ _ _)); refine oshr (by first | decide | omega) ?_)
    | ((with_reducible refine (?_ : wO _ (binaryOp .BitXor) _ _ _ _)); refine oxor ?_)
    | ((with_reducible refine (?_ : wO _ (inplaceOp .BitXor) _ _ _ _)); refine ixor ?_)
    | ((with_reducible refine (?_ : wO _ (inplaceOp .RShift) _ _ _ _)); refine ishr (by first | decide | omega) ?_)
    | ((with_reducible refine (?_ : wO _ (inplaceOp .BitOr) _ _ _ _)); first | refine ior ?_)
    | ((with_reducible refine (?_ : wO _ (inplaceOp .Add) _ _ _ _)); first | refine iadd ?_))
  | ((with_reducible refine (?_ : wT _ _ _ _ _)); first
    | ((with_reducible refine (?_ : wT _ (.Compare _ _ _ _) _ _ _)); first | refine zcmpT (by rfl) ?_ | refine zchainT ?_)
    | ((with_reducible refine (?_ : wT _ (.UnaryOp _ _ _) _ _ _)); refine znotT ?_)
    | ((with_reducible refine (?_ : wT _ (.BoolOp _ _ _) _ _ _)); refine zW ?_)
    | refine zval ?_)
  | ((with_reducible refine (?_ : wW _ _ _ _ _)); first | refine zand ?_ | refine zor ?_ | refine zand1 ?_ | refine zor1 ?_)
  | ((with_reducible refine (?_ : wK _ _ _ _ _)); first
    | ((with_reducible refine (?_ : wK _ (.builtin "len") _ _ _)); first | refine klenL (by one_place) ?_ | refine klenT (by one_place) ?_ | refine klenS (by assumption) ?_)
    | ((with_reducible refine (?_ : wK _ (.builtin "isinstance") _ _ _)); first | refine kisE (by assumption) (by assumption) (by first | assumption | exact Xd.exx (by assumption) (by one_sign)) (by first | exact .own _ | exact .ty _) (by assumption) ?_ | refine kisi (.ty _) (by assumption) (by assumption) ?_ | refine kisi (.ty _) (.base (by first | exact .int _ | exact .bl _ | exact .str _ | exact .non | exact .tup (by one_item) | exact .lst (by one_item))) (kit_ty (r := true) (by rfl)) ?_ | refine kisi (.ty _) (.base (by first | exact .int _ | exact .bl _ | exact .str _ | exact .non | exact .tup (by one_item) | exact .lst (by one_item))) (kit_ty (r := false) (by rfl)) ?_)
    | ((with_reducible refine (?_ : wK _ (.builtin "divmod") _ _ _)); refine kdivmod ⟨by first | decide | omega, by decide⟩ (fun _ _ _ _ _ => ?_))
    | ((with_reducible refine (?_ : wK _ (.builtin "min") _ _ _)); refine kmin (by rfl) ?_)
    | ((with_reducible refine (?_ : wK _ (.builtin "max") _ _ _)); refine kmax (by rfl) ?_)
    | ((with_reducible refine (?_ : wK _ (.type "list") _ _ _)); first | refine klistL (by one_place) (fun _ _ _ _ _ => ?_) | refine klistT (by one_place) (fun _ _ _ _ _ => ?_))
    | ((with_reducible refine (?_ : wK _ (.type "tuple") _ _ _)); first | refine ktupL (by one_place) (fun _ _ _ _ _ => ?_)))
  | ((with_reducible refine (?_ : wS _ _ _ _ _)); first
    | ((with_reducible refine (?_ : wS _ (.Assign [.Name _ _] _ _) _ _ _)); refine sset' (by assumption) (by rfl) (by first | exact Or.inl rfl | exact Or.inr rfl) (by rfl) (by first | exact .inl rfl | exact .inr rfl) ?_)
    | ((with_reducible refine (?_ : wS _ (.AugAssign (.Name _ _) _ _ _) _ _ _)); refine saug' (by assumption) (by rfl) (by first | exact Or.inl rfl | exact Or.inr rfl) (by first | exact .inl rfl | exact .inr rfl) (by rfl) ?_)
    | ((with_reducible refine (?_ : wS _ (.Expr _ _) _ _ _)); refine sexp ?_)
    | ((with_reducible refine (?_ : wS _ (.Assign [.Tuple _ _ _] _ _) _ _ _)); refine sasg ?_) | ((with_reducible refine (?_ : wS _ (.Assign [.Subscript _ _ _] _ _) _ _ _)); refine sasg ?_)
    | refine sret ?_ | refine sif ?_ | refine sretN ?_ | refine spass ?_ | refine sbrk ?_ | refine scont ?_)
  | ((with_reducible refine (?_ : wG _ (.Name _ _) _ _ _ _)); refine gname' (by assumption) (by rfl) (by first | exact Or.inl rfl | exact Or.inr rfl) (by first | exact .inl rfl | exact .inr rfl) ?_)
  | ((with_reducible refine (?_ : wG _ (.Tuple _ _ _) _ _ _ _)); refine gtup rfl (by one_place) rfl ?_) | ((with_reducible refine (?_ : wG _ (.Subscript _ _ _) _ _ _ _)); refine gsub ?_)
  | ((with_reducible refine (?_ : wGs _ _ _ _ _ _)); first | refine gscons ?_ | refine gsnil ?_)
  | ((with_reducible refine (?_ : wB _ _ _ _ _)); first | refine bcons ?_ | refine bnil ?_)
  | refine ifT ?_ | refine ifF ?_ | refine ifd (fun _ => ?_) (fun _ => ?_) | refine ifnd (fun _ => ?_) (fun _ => ?_) | refine ⟨_, rfl, ?_⟩ | refine ⟨rfl, Evl.Ex.refl _, ?_⟩ | refine ⟨Nat.le_of_ble_eq_true rfl, fun _ _ _ _ _ => ?_⟩ | fail)
local macro_rules | `(tactic| top_name) => `(tactic| repeat' tb_rel)
local macro_rules | `(tactic| nest_fact) => `(tactic| first | exact ⟨(decide_eq_true (by omega)).symm, rfl⟩ | exact ⟨(decide_eq_false (by omega)).symm, rfl⟩ | exact ⟨decide_eq_decide.mpr (by omega), rfl⟩ | fail)

/-! ### found and due as data -/
def toldD : UR → PyData
  | .ok ys => .list (ys.map PyData.int)
  | .wire p why => .list [.str "wire", .int p, .str why, .bool false]
  | .chk => .list [.str "check"]
theorem dp_told {H : Hp} {q : Addr} : ∀ {r : UR}, H q = some (toldU r) → Dp K H (.ref q) (toldD r)
  | .ok _, h => Dp.ints (SqL.of h)
  | .wire _ _, h => .lst (SqL.of h) (.cons (.str _) (.cons (.int _) (.cons (.str _) (.cons (.bl _) .nil))))
  | .chk, h => .lst (SqL.of h) (.cons (.str _) .nil)
theorem numGo_why : ∀ {bs : List Int} {i : Nat} {p acc q : Int} {why : Str}, numGo bs i p acc = .bad q why → why = "cut" ∨ why = "number"
  | [], _, _, _, _, _, h => by cases h; exact .inl rfl
  | b :: r, i, p, acc, q, why, h => by
    unfold numGo at h
    split at h
    · cases h; exact .inr rfl
    · split at h
      · cases h
      · exact numGo_why h
theorem unfR_why {xs : List Int} {p : Int} {why : Str} (h : unfR xs = .wire p why) : why = "cut" ∨ why = "number" ∨ why = "length" := by
  unfold unfR at h
  cases hn : numAt xs 0 (xs.length : Int) with
  | bad q w =>
    rw [hn] at h
    cases h
    unfold numAt at hn
    rcases numGo_why hn with h | h
    · exact .inl h
    · exact .inr (.inl h)
  | num n q =>
    rw [hn] at h
    have h : tailR xs n q = .wire p why := h
    unfold tailR at h
    split at h
    · cases h; exact .inr (.inr rfl)
    · split at h <;> cases h
theorem told_shaped {xs : List Int} : SeqAt.shaped (toldD (unfR xs)) = true := by
  cases h : unfR xs with
  | ok ys => exact PySem.W.ke_shaped_ints ys
  | chk => decide +kernel
  | wire p why => rcases unfR_why h with rfl | rfl | rfl <;> kernel_rfl
theorem not_whole {xs : List Int} (h : ¬ (unfR xs).isOk) : ∃ (d : Str) (us : List V), toldU (unfR xs) = .lst (.str d :: us) ∧ (d = "wire" ∨ d = "check") := by
  cases hu : unfR xs with
  | ok ys => rw [hu] at h; exact absurd trivial h
  | wire p why => exact ⟨_, _, rfl, .inl rfl⟩
  | chk => exact ⟨_, _, rfl, .inr rfl⟩
theorem first_one {x : V} {us : List V} : cutV (x :: us) none (some 1) = [x] := by
  unfold cutV
  rw [HT.sIx_none, show HT.sIx (x :: us).length (x :: us).length (some 1) = 1 from by
    show (if (1 : Int) < 0 then (1 + ((x :: us).length : Int)).toNat else min (1 : Int).toNat (x :: us).length) = 1
    rw [if_neg (by decide), List.length_cons]
    show min 1 (us.length + 1) = 1
    omega]
  rfl
theorem cut_to {xs : List Int} {p : Int} (p0 : 0 ≤ p) (p1 : p ≤ (xs.length : Int)) : cutV (xs.map V.int) none (some p) = (xs.take p.toNat).map V.int := by
  unfold cutV
  rw [List.length_map, sIx_at _ _ p0 p1, HT.sIx_none, List.drop_zero, ← List.map_take, Nat.sub_zero]
theorem ask_no {H : Hp} {l : Addr} {xs : List V} {bs : List Bool} (h : H l = some (.lst xs)) (a : AskedAll K H 0 255 xs bs) (hz : xs.length ≤ 10) (hb : bs.all id = false) : RowAsk K H (.ref l) false := by
  rw [← hb]; exact .lst h a (by rw [sizeLine_eq]; omega)
theorem ask_noT {H : Hp} {l : Addr} {xs : List V} {bs : List Bool} (h : H l = some (.tup xs)) (a : AskedAll K H 0 255 xs bs) (hz : xs.length ≤ 10) (hb : bs.all id = false) : RowAsk K H (.ref l) false := by
  rw [← hb]; exact .tup h a (by rw [sizeLine_eq]; omega)
theorem asked_in {H : Hp} {lo hi n : Int} (h0 : lo ≤ n) (h1 : n ≤ hi) : Asked K H lo hi (.int n) true := by
  have := Asked.int (K := K) (H := H) (lo := lo) (hi := hi) n
  rwa [decide_eq_true ⟨h0, h1⟩] at this
theorem asked_out {H : Hp} {lo hi n : Int} (h : n < lo ∨ hi < n) : Asked K H lo hi (.int n) false := by
  have := Asked.int (K := K) (H := H) (lo := lo) (hi := hi) n
  rwa [decide_eq_false (by omega)] at this
theorem RowAsk.ex {H H' : Hp} (e : Ex H H') {v : V} {b : Bool} (h : RowAsk K H v b) : RowAsk K H' v b := by
  have all : ∀ {vs bs}, AskedAll K H 0 255 vs bs → AskedAll K H' 0 255 vs bs := by
    intro vs bs a
    induction a with
    | nil => exact .nil
    | cons q _ ih => exact .cons (Asked.ex e q) ih
  cases h with
  | lst h a hz => exact .lst (e _ _ h) (all a) hz
  | tup h a hz => exact .tup (e _ _ h) (all a) hz
  | not ty k => exact .not (TyX.ex e ty) k
theorem dp_words {H : Hp} {a : Addr} {x : Str} (h : H a = some (.lst [.str x])) : Dp K H (.ref a) (.list [.str x]) := .lst (SqL.of h) (.cons (.str x) .nil)
/-! ### the law -/
def sp_law (K : PySem.W.Frag) : Sp := fun vs H Q _ => ∃ (a : Addr) (ns : List Int), vs = [.ref a] ∧ SqL K H a (ns.map V.int) ∧ ns.length ≤ 63 ∧ (∀ z ∈ ns, Builtin.Int.intBits z ≤ 1048576) ∧ ∀ H', Q (.bl true) H'
theorem fn_law (T : Txt K mg) {fd : FuncData} (F : FunD K "law" "law" (defArgs s_law) (defBody s_law) (defScope s_law) [] [] (He.fAd K ("law", none)) fd) : FnOk P w K mg base (L2N.CX P w) 7 (He.fAd K ("law", none)) fd ["_law_script"] (sp_law K) := by
  refine fn_mk F sc_law (fun vs H Q E h => ?_) fun cd A outer s H vs Q E hr tk po h => ?_
  · obtain ⟨a, ns, rfl, _⟩ := h; rfl
  · obtain ⟨a, ns, rfl, hs, hlen, hbits, q⟩ := h
    have nd := sc_law.nd
    have n1 := T.n_isinstance
    have n2 := T.n_bool
    have n3 := T.n_range
    have n4 := T.n_list
    have n5 := T.n_tuple
    have n6 := T.n_len
    have hr1 : Room (5 + 1) _ := hr
    refine bcut (fun σ' H' => H = H' ∧ ∃ c : Int, 0 ≤ c ∧ c < 2147483399 ∧ σ' = [some (.ref a), some (.int c), none, none, none, none, none, none, none, none, none, none, none, none, none, none, none, none, none]) ?_ ?_
    · top_name
      refine zcall (ok_mixed T) hr1 (by decide) takesF rfl ?_
      top_name
      refine zcall (ok_cell_at T) hr1 (by decide) takesF rfl ?_
      top_name
      refine ⟨a, ns, 0, rfl, hs, by decide, ?_⟩
      top_name
      exact ⟨_, _, rfl, by decide, by decide, rfl, _, mixed_lo _ _, mixed_hi _ _, rfl⟩
    rintro _ _ ⟨rfl, c, c0, c1, rfl⟩
    refine bcut (fun σ' H' => H = H' ∧ ∃ m : Int, 0 ≤ m ∧ m < 2147483399 ∧ σ' = [some (.ref a), some (.int c), some (.int m), none, none, none, none, none, none, none, none, none, none, none, none, none, none, none, none]) ?_ ?_
    · top_name
      refine zcall (ok_mixed T) hr1 (by decide) takesF rfl ?_
      top_name
      refine zcall (ok_cell_at T) hr1 (by decide) takesF rfl ?_
      top_name
      refine ⟨a, ns, 1, rfl, hs, by decide, ?_⟩
      top_name
      exact ⟨_, _, rfl, by decide, by decide, rfl, _, mixed_lo _ _, mixed_hi _ _, rfl⟩
    rintro _ _ ⟨rfl, m, m0, m1, rfl⟩
    refine bcut (fun σ' H' => H = H' ∧ ∃ n : Nat, n ≤ 8 ∧ σ' = [some (.ref a), some (.int c), some (.int m), some (.int (n : Int)), none, none, none, none, none, none, none, none, none, none, none, none, none, none, none]) ?_ ?_
    · top_name
      refine ⟨rfl, (c % 9).toNat, by omega, ?_⟩
      rw [Int.toNat_of_nonneg (by omega)]
      rfl
    rintro _ _ ⟨rfl, n, hn, rfl⟩
    refine bcut (fun σ' H' => Ex H H' ∧ ∃ n : Nat, n ≤ 135 ∧ σ' = [some (.ref a), some (.int c), some (.int m), some (.int (n : Int)), none, none, none, none, none, none, none, none, none, none, none, none, none, none, none]) ?_ ?_
    · top_name
      · rename_i hc t H1 ht e1 hx
        obtain ⟨b, hb, hi⟩ := atN (ns := [c / 72 % 60, 120 + c / 72 % 16]) (k := c / 72 % 2) (by omega) (by show _ < ((2 : Nat) : Int); omega)
        have hb2 : b = c / 72 % 60 ∨ b = 120 + c / 72 % 16 := by simpa using hb
        refine ixL (by one_place) hi ?_
        refine bnil ⟨e1, b.toNat, by omega, ?_⟩
        rw [Int.toNat_of_nonneg (by omega)]
        rfl
      · exact ⟨Evl.Ex.refl _, n, by omega, rfl⟩
    clear hn n
    rintro _ H1 ⟨e1, n, hn, rfl⟩
    refine bcut (fun σ' H' => Ex H1 H' ∧ ∃ (L : Addr) (xs : List Int), H' L = some (.lst (xs.map V.int)) ∧ Bytes xs ∧ xs.length ≤ 135 ∧ σ' = [some (.ref a), some (.int c), some (.int m), some (.int (n : Int)), some (.ref L), none, none, none, none, none, none, none, none, none, none, none, none, none, none]) ?_ ?_
    · refine slc (i := 4) (y := "_law_row") rfl nd rfl rfl [("_law_j", 16)] (blkOk_by (N := N_law) (sc := defScope s_law) (by decide +kernel)) (piR1 n3 rfl) (sw_true rfl rfl rfl (by decide +kernel)) (tmR1 (n := (n : Int)) (accM fun j => mixed (cellAt ns 2 + (j : Int)) j % 256) rfl ?_)
      top_name
      refine ⟨rfl, by omega, by omega, fun j H2 hj e2 => ?_, fun L H2 hL e2 hxL => ?_⟩
      · top_name
        refine zcall (ok_mixed T) hr1 (by decide) takesF rfl ?_
        top_name
        refine zcall (ok_cell_at T) hr1 (by decide) takesF rfl ?_
        top_name
        refine ⟨a, ns, 2, rfl, exl hs (e1.trans e2), by decide, ?_⟩
        top_name
        refine ⟨_, _, rfl, by omega, by omega, ?_⟩
        top_name
        exact ⟨accM_succ _ _, by rw [accM_len, sizeLine_eq]; omega, Evl.Ex.refl _⟩
      · refine ⟨e2, L, (List.range n).map fun (j : Nat) => mixed (cellAt ns 2 + (j : Int)) j % 256, hxL, fun x hx => ?_, by simp; omega, rfl⟩
        obtain ⟨j, _, rfl⟩ := List.mem_map.mp hx
        omega
    rintro _ H2 ⟨e2, L, xs, hL, hb, hz, rfl⟩
    refine bcut (fun σ' H' => Ex H2 H' ∧ ∃ (G : Addr), RowAt K H' G xs ∧ σ' = [some (.ref a), some (.int c), some (.int m), some (.int (n : Int)), some (.ref L), some (.ref G), none, none, none, none, none, none, none, none, none, none, none, none, none]) ?_ ?_
    · top_name
      · rename_i h G H3 hG e3 hx3
        exact ⟨e3, G, .inr hx3, rfl⟩
      · rename_i h G H3 hG e3 hx3
        exact ⟨e3, G, .inl hx3, rfl⟩
    rintro _ H3 ⟨e3, G, hG, rfl⟩
    have hL3 := e3 _ _ hL
    refine bcut (fun σ' H' => Ex H3 H' ∧ ∃ (W : Addr), H' W = some (.lst ((frameR xs).map V.int)) ∧ σ' = [some (.ref a), some (.int c), some (.int m), some (.int (n : Int)), some (.ref L), some (.ref G), some (.ref W), none, none, none, none, none, none, none, none, none, none, none, none]) ?_ ?_
    · top_name
      refine zcall (ok_lframe T) hr1 (by decide) takesF rfl ?_
      top_name
      exact ⟨L, xs, rfl, hL3, hb, by omega, fun t H4 ht e4 hx4 => ⟨e4, t, hx4, rfl⟩⟩
    rintro _ H4 ⟨e4, W, hW, rfl⟩
    have fB := frameR_bytes hb
    have fL := frameR_len xs
    have f3 := rowN_short (show xs.length ≤ 100000 by omega)
    have f1 := rowN_pos xs.length
    have un := unf_frame (show xs.length ≤ 100000 by omega)
    have tb : ∀ k, k < 8 * (frameR xs).length → ¬ (unfR (turnR (frameR xs) k)).isOk := fun k hk => turn_bad hb (by omega) hk
    have hu : Ex H H4 := by one_sign
    have hL4 := e4 _ _ hL3
    have hG4 := hG.ex e4
    have fl3 : 3 ≤ (frameR xs).length ∧ (frameR xs).length ≤ 140 := by omega
    generalize hfr : frameR xs = fr at hW fB un tb fl3
    have fm : (fr.map V.int).length = fr.length := List.length_map ..
    refine bcut (fun σ' H' => Ex H4 H' ∧ ∃ v7 v8 v9 : Option V, σ' = [some (.ref a), some (.int c), some (.int m), some (.int (n : Int)), some (.ref L), some (.ref G), some (.ref W), v7, v8, v9, none, none, none, none, none, none, none, none, none]) ?_ ?_
    · refine lfor1 (n := 2) n3 po rfl (fun i σ H' => Ex H4 H' ∧ ∃ v7 v8 v9 : Option V, σ = [some (.ref a), some (.int c), some (.int m), some (.int (n : Int)), some (.ref L), some (.ref G), some (.ref W), v7, v8, v9, none, none, none, none, none, none, none, none, none]) rfl ?_
      top_name
      refine ⟨rfl, by decide, by decide, ⟨Evl.Ex.refl _, none, none, none, rfl⟩, ?_, fun σ H' z => z⟩
      rintro i σ H5 hi ⟨e5, v7, v8, v9, rfl⟩
      top_name
      refine zcall (ok_framed T) hr1 (by decide) tk rfl ?_
      top_name
      refine .inl ⟨G, xs, rfl, hG4.ex e5, hb, by omega, ?_⟩
      rw [if_neg (by omega), hfr]
      intro t H6 ht e6 hx6
      top_name
      refine zcall (ok_bytes T) hr1 (by decide) takesF rfl ?_
      top_name
      refine ⟨t, W, _, rfl, hx6, e6 _ _ (e5 _ _ hW), fun H7 e7 => ?_⟩
      top_name
      refine klistR (hG4.ex (e5.trans (e6.trans e7))) fun p H8 hp e8 hx8 => ?_
      top_name
      refine same_ne hr (SqL.of hx8) (SqL.of (e8 _ _ (e7 _ _ (e6 _ _ (e5 _ _ hL4))))) ?_
      top_name
      refine zclr ?_
      top_name
      refine ⟨t, _, rfl, e8 _ _ (e7 _ _ hx6), ?_⟩
      have eU : Ex H5 (upd H8 t (.lst [])) := Ex.past (e6.trans (e7.trans e8)) ht
      generalize upd H8 t (.lst []) = HU at eU ⊢
      have hWU : HU W = some (.lst (fr.map V.int)) := eU _ _ (e5 _ _ hW)
      top_name
      refine zcall (ok_unframed T) hr1 (by decide) tk rfl ?_
      top_name
      all_goals
        rename_i hh p1 H9 hp1 e9 hx9
        first | refine .inl ⟨p1, fr, rfl, .inr hx9, fB, by omega, ?_⟩ | refine .inl ⟨p1, fr, rfl, .inl hx9, fB, by omega, ?_⟩
        rw [un]
        intro t2 H10 ht2 e10 hx10
        top_name
        refine zcall (ok_bytes T) hr1 (by decide) takesF rfl ?_
        top_name
        refine ⟨t2, L, _, rfl, hx10, e10 _ _ (e9 _ _ (eU _ _ (e5 _ _ hL4))), fun H11 e11 => ?_⟩
        top_name
        refine zapp ?_
        top_name
        refine ⟨t2, _, rfl, e11 _ _ hx10, ?_⟩
        top_name
        refine ⟨_, e11 _ _ hx10, by rw [List.length_map, sizeLine_eq]; omega, ?_⟩
        top_name
        exact ⟨e5.trans (eU.trans (e9.trans (Ex.past (e10.trans e11) ht2))), _, _, _, rfl⟩
    rintro _ H5 ⟨e5, v7, v8, v9, rfl⟩
    have hW5 := e5 _ _ hW
    refine bcut (fun σ' H' => Ex H5 H' ∧ ∃ (B : Addr) (ks : List Int), H' B = some (.lst (ks.map V.int)) ∧ (∀ k ∈ ks, 0 ≤ k ∧ k < 8 * (fr.length : Int)) ∧ ks.length ≤ 2000 ∧ σ' = [some (.ref a), some (.int c), some (.int m), some (.int (n : Int)), some (.ref L), some (.ref G), some (.ref W), v7, v8, v9, some (.ref B), none, none, none, none, none, none, none, none]) ?_ ?_
    · refine slc (i := 10) (y := "_law_bits") rfl nd rfl rfl [("_law_j", 16)] (blkOk_by (N := N_law) (sc := defScope s_law) (by decide +kernel)) (piR1 n3 rfl) (sw_true rfl rfl rfl (by decide +kernel)) (tmR1 (n := 5) (accM fun j => mixed m j % (8 * (fr.length : Int))) rfl ?_)
      top_name
      refine ⟨rfl, by omega, by omega, fun j H6 hj e6 => ?_, fun B H6 hB e6 hxB => ?_⟩
      · top_name
        refine zcall (ok_mixed T) hr1 (by decide) takesF rfl ?_
        top_name
        refine ⟨_, _, rfl, by omega, by omega, ?_⟩
        top_name
        rw [fm]
        exact ⟨accM_succ _ _, by rw [accM_len, sizeLine_eq]; omega, Evl.Ex.refl _⟩
      · refine ⟨e6, B, (List.range 5).map fun (j : Nat) => mixed m j % (8 * (fr.length : Int)), hxB, fun x hx => ?_, by simp, rfl⟩
        obtain ⟨j, _, rfl⟩ := List.mem_map.mp hx
        exact ⟨Int.emod_nonneg _ (by omega), Int.emod_lt_of_pos _ (by omega)⟩
    rintro _ H6 ⟨e6, B, ks, hB, hk, hkl, rfl⟩
    refine bcut (fun σ' H' => Ex H6 H' ∧ ∃ (B : Addr) (ks : List Int), H' B = some (.lst (ks.map V.int)) ∧ (∀ k ∈ ks, 0 ≤ k ∧ k < 8 * (fr.length : Int)) ∧ ks.length ≤ 2000 ∧ σ' = [some (.ref a), some (.int c), some (.int m), some (.int (n : Int)), some (.ref L), some (.ref G), some (.ref W), v7, v8, v9, some (.ref B), none, none, none, none, none, none, none, none]) ?_ ?_
    · top_name
      · rw [fm]
        refine ⟨RgOk.of_le (by decide) (by omega) (by decide) (by omega), fun B H7 hB e7 hxB => ?_⟩
        refine bnil ⟨e7, B, (List.range (8 * (fr.length : Int) - 0).toNat).map fun (j : Nat) => 0 + (j : Int), ?_, fun x hx => ?_, by simp; omega, rfl⟩
        · rw [hxB, List.map_map]
          rfl
        · obtain ⟨j, hj, rfl⟩ := List.mem_map.mp hx
          have := List.mem_range.mp hj
          omega
      · exact ⟨Evl.Ex.refl _, B, ks, hB, hk, hkl, rfl⟩
    clear hB hk hkl B ks
    rintro _ H7 ⟨e7, B, ks, hB, hk, hkl, rfl⟩
    have hW7 := e7 _ _ (e6 _ _ hW5)
    refine bcut (fun σ' H' => Ex H7 H' ∧ ∃ (S : Addr) (ws : List V), H' S = some (.lst ws) ∧ RowsAt H' ws (ks.map fun (b : Int) => turnR fr b.toNat) ∧ σ' = [some (.ref a), some (.int c), some (.int m), some (.int (n : Int)), some (.ref L), some (.ref G), some (.ref W), v7, v8, v9, some (.ref B), some (.ref S), none, none, none, none, none, none, none]) ?_ ?_
    · refine slc (i := 11) (y := "_law_spoilt") rfl nd rfl rfl [("_law_bit", 17)] (blkOk_by (N := N_law) (sc := defScope s_law) (by decide +kernel)) piL (sw_true rfl rfl rfl (by decide +kernel)) (tnL (xs := ks.map V.int) (fun j ws H => RowsAt H ws ((ks.take j).map fun (b : Int) => turnR fr b.toNat)) (fun _ _ _ _ g e => g.ex e) (fun _ => .nil) ?_)
      top_name
      refine ⟨SqL.of hB, fun j x H8 S ws hx e8 hS hw g => ?_, fun S H8 ws hS e8 hw g => ?_⟩
      · rw [List.getElem?_map] at hx
        obtain ⟨b, hb', rfl⟩ : ∃ b, ks[j]? = some b ∧ V.int b = x := by
          cases hb : ks[j]? with
          | none => rw [hb] at hx; cases hx
          | some b => rw [hb] at hx; cases hx; exact ⟨b, rfl, rfl⟩
        have hkb := hk b (List.mem_of_getElem? hb')
        top_name
        refine zcall (ok_turned T) hr1 (by decide) takesF rfl ?_
        top_name
        refine ⟨W, fr, b.toNat, by rw [Int.toNat_of_nonneg hkb.1]; rfl, e8 _ _ hW7, fB, by omega, by omega, fun t H9 ht e9 hx9 => ?_⟩
        refine ⟨?_, e9, ?_⟩
        · have := g.length
          rw [this, List.length_map, List.length_take, sizeLine_eq]
          omega
        · show RowsAt (del H9 S) (ws ++ [.ref t]) ((ks.take (j + 1)).map fun (b : Int) => turnR fr b.toNat)
          rw [take_map_succ hb']
          exact (g.ex (del_mono fun b o _ e => e9 b o e)).one (del_at hx9 (ne_new hw ht))
      · rw [List.length_map, List.take_length] at g
        exact ⟨e8, S, ws, hw, g, rfl⟩
    rintro _ H8 ⟨e8, S, ws, hS, hws, rfl⟩
    have tlen : ∀ k, (turnR fr k).length = fr.length := fun k => List.length_set ..
    have tby : ∀ k, k < 8 * fr.length → Bytes (turnR fr k) := fun k hk x hx => by
      rcases List.mem_or_eq_of_mem_set hx with hx | rfl
      · exact fB x hx
      · have hg := bytes_getD fB (k / 8)
        have := bit_turn (fr.getD (k / 8) 0).toNat (by omega) (k % 8) (by omega)
        omega
    refine bcut (fun σ' H' => Ex H8 H' ∧ σ' = [some (.ref a), some (.int c), some (.int m), some (.int (n : Int)), some (.ref L), some (.ref G), some (.ref W), v7, v8, v9, some (.ref B), some (.ref S), none, none, none, none, none, none, none]) ?_ ?_
    · top_name
      refine zlc rfl nd [("_law_one", 13)] (blkOk_by (N := N_law) (sc := defScope s_law) (by decide +kernel)) piL (tmL (xs := ws) (fun _ => []) rfl ?_)
      top_name
      refine ⟨SqL.of hS, fun j x H9 hx e9 => ?_, fun M H9 hM e9 hxM => ?_⟩
      · obtain ⟨l, ys, rfl, hys, hl⟩ := hws.get hx
        rw [List.getElem?_map] at hys
        obtain ⟨b, hb', rfl⟩ : ∃ b, ks[j]? = some b ∧ turnR fr b.toNat = ys := by
          cases hb : ks[j]? with
          | none => rw [hb] at hys; cases hys
          | some b => rw [hb] at hys; cases hys; exact ⟨b, rfl, rfl⟩
        have hkb := hk b (List.mem_of_getElem? hb')
        obtain ⟨d, us, hd, hd2⟩ := not_whole (tb b.toNat (by omega))
        top_name
        refine zcall (ok_due T) hr1 (by decide) takesF rfl ?_
        top_name
        refine ⟨l, _, rfl, e9 _ _ hl, tby _ (by omega), by rw [tlen]; omega, fun t H10 ht e10 hx10 => ?_⟩
        rw [hd] at hx10
        top_name
        rename_i q1 H11 hq1 e11 hy1 q2 H12 hq2 e12 hy2 q3 H13 hq3 e13 hy3 q4 H14 hq4 e14 hy4
        have hy1' : H14 q1 = some (.lst [.str d]) := by rw [first_one] at hy1; one_item
        refine oninT (d := .list [.str d]) (ds := [.list [.str "wire"], .list [.str "check"]]) hr (.lst (SqL.of hy1') (.cons (.str _) .nil)) (.tup (SqT.of hy4) (.cons (.lst (SqL.of (by one_item)) (.cons (.str _) .nil)) (.cons (.lst (SqL.of (by one_item)) (.cons (.str _) .nil)) .nil))) (by rcases hd2 with rfl | rfl <;> decide +kernel) (by decide +kernel) (by decide +kernel) ?_
        rw [show (!([PyData.list [.str "wire"], PyData.list [.str "check"]].any fun z => PyData.eqv z (.list [.str d]))) = false from by rcases hd2 with rfl | rfl <;> decide +kernel]
        top_name
        exact ⟨rfl, by one_sign⟩
      · top_name
        rename_i U H10 hU e10 hxU
        refine data_ne hr (Dp.lst (SqL.of (e10 _ _ hxM)) .nil) (.lst (SqL.of hxU) .nil) rfl ?_
        top_name
        exact ⟨e9.trans e10, rfl⟩
    rintro _ H9 ⟨e9, rfl⟩
    have hW9 := e9 _ _ (e8 _ _ hW7)
    refine bcut (fun σ' H' => Ex H9 H' ∧ ∃ (E0 : Addr) (es : List Int), H' E0 = some (.lst (es.map V.int)) ∧ (∀ k ∈ es, 0 ≤ k ∧ k < (fr.length : Int)) ∧ es.length ≤ 200 ∧ σ' = [some (.ref a), some (.int c), some (.int m), some (.int (n : Int)), some (.ref L), some (.ref G), some (.ref W), v7, v8, v9, some (.ref B), some (.ref S), some (.ref E0), none, none, none, none, none, none]) ?_ ?_
    · top_name
      · rw [fm]
        refine ⟨RgOk.of_le (by decide) (by omega) (by decide) (by omega), fun B2 H10 hB2 e10 hxB => ?_⟩
        refine ⟨e10, B2, (List.range ((fr.length : Int) - 0).toNat).map fun (j : Nat) => 0 + (j : Int), ?_, fun x hx => ?_, by simp; omega, rfl⟩
        · rw [hxB, List.map_map]
          rfl
        · obtain ⟨j, hj, rfl⟩ := List.mem_map.mp hx
          have := List.mem_range.mp hj
          omega
      · refine zlc rfl nd [("_law_j", 16)] (blkOk_by (N := N_law) (sc := defScope s_law) (by decide +kernel)) (piR1 n3 rfl) (tmR1 (n := 3) (accM fun j => mixed m (20 + (j : Int)) % (fr.length : Int)) rfl ?_)
        top_name
        refine ⟨rfl, by omega, by omega, fun j H10 hj e10 => ?_, fun B2 H10 hB2 e10 hxB => ?_⟩
        · top_name
          refine zcall (ok_mixed T) hr1 (by decide) takesF rfl ?_
          top_name
          refine ⟨_, _, rfl, by omega, by omega, ?_⟩
          top_name
          rw [fm]
          exact ⟨accM_succ _ _, by rw [accM_len, sizeLine_eq]; omega, Evl.Ex.refl _⟩
        · refine ⟨e10, B2, (List.range 3).map fun (j : Nat) => mixed m (20 + (j : Int)) % (fr.length : Int), hxB, fun x hx => ?_, by simp, rfl⟩
          obtain ⟨j, _, rfl⟩ := List.mem_map.mp hx
          exact ⟨Int.emod_nonneg _ (by omega), Int.emod_lt_of_pos _ (by omega)⟩
    rintro _ H10 ⟨e10, E0, es, hE, hes, hel, rfl⟩
    have hW10 := e10 _ _ hW9
    have hS10 := e10 _ _ (e9 _ _ hS)
    have hws10 := hws.ex (e9.trans e10)
    have hwl := hws.length
    rw [List.length_map] at hwl
    refine bcut (fun σ' H' => Ex H10 H' ∧ ∃ (S : Addr) (ws : List V) (ls : List (List Int)), H' S = some (.lst ws) ∧ RowsAt H' ws ls ∧ (∀ y ∈ ls, Bytes y ∧ y.length ≤ 300) ∧ σ' = [some (.ref a), some (.int c), some (.int m), some (.int (n : Int)), some (.ref L), some (.ref G), some (.ref W), v7, v8, v9, some (.ref B), some (.ref S), some (.ref E0), none, none, none, none, none, none]) ?_ ?_
    · top_name
      refine zlc rfl nd [("_law_end", 18)] (blkOk_by (N := N_law) (sc := defScope s_law) (by decide +kernel)) piL (tnL (xs := es.map V.int) (fun j ws H => RowsAt H ws ((es.take j).map fun (b : Int) => fr.take b.toNat)) (fun _ _ _ _ g e => g.ex e) (fun _ => .nil) ?_)
      top_name
      refine ⟨SqL.of hE, fun j x H11 S2 ws2 hx e11 hS2 hw2 g => ?_, fun S2 H11 ws2 hS2 e11 hw2 g => ?_⟩
      · rw [List.getElem?_map] at hx
        obtain ⟨b, hb', rfl⟩ : ∃ b, es[j]? = some b ∧ V.int b = x := by
          cases hb : es[j]? with
          | none => rw [hb] at hx; cases hx
          | some b => rw [hb] at hx; cases hx; exact ⟨b, rfl, rfl⟩
        have hkb := hes b (List.mem_of_getElem? hb')
        have hW11 := e11 _ _ hW10
        top_name
        rename_i t H12 ht e12 hx12
        rw [cut_to hkb.1 (by omega)] at hx12
        refine ⟨?_, e12, ?_⟩
        · have := g.length
          rw [this, List.length_map, List.length_take, sizeLine_eq]
          omega
        · show RowsAt (del H12 S2) (ws2 ++ [.ref t]) ((es.take (j + 1)).map fun (b : Int) => fr.take b.toNat)
          rw [take_map_succ hb']
          exact (g.ex (del_mono fun b o _ e => e12 b o e)).one (del_at hx12 (ne_new hw2 ht))
      · rw [List.length_map, List.take_length] at g
        have hgl := g.length
        rw [List.length_map] at hgl
        refine ocatE (e11 _ _ hS10) hw2 (by rw [hwl, hgl, sizeLine_eq]; omega) fun S3 H12 hS3 e12 hw3 => ?_
        have hW12 := e12 _ _ (e11 _ _ hW10)
        top_name
        rename_i p1 H13 hp1 e13 hx13
        refine ocatE (e13 _ _ hW12) hx13 (by rw [fm, sizeLine_eq]; show _ + 1 ≤ _; omega) fun p2 H14 hp2 e14 hx14 => ?_
        top_name
        refine ocatE (e14 _ _ (e13 _ _ hW12)) (e14 _ _ (e13 _ _ hW12)) (by rw [fm, sizeLine_eq]; omega) fun p3 H15 hp3 e15 hx15 => ?_
        top_name
        rename_i p4 H16 hp4 e16 hx16
        refine ocatE (e16 _ _ (e15 _ _ (e14 _ _ (e13 _ _ hw3)))) hx16 (by rw [List.length_append, hwl, hgl, sizeLine_eq]; show _ + 2 ≤ _; omega) fun p5 H17 hp5 e17 hx17 => ?_
        top_name
        have ea : Ex H11 H17 := by one_sign
        have hx14' : H14 p2 = some (.lst ((fr ++ [m / 4 % 256]).map V.int)) := by rw [hx14, List.map_append]; rfl
        have hx15' : H15 p3 = some (.lst ((fr ++ fr).map V.int)) := by rw [hx15, List.map_append]
        refine ⟨by one_sign, p5, _, _, hx17, ((hws10.ex (e11.trans ea)).app (g.ex ea)).app (.cons (e17 _ _ (e16 _ _ (e15 _ _ hx14'))) (.cons (e17 _ _ (e16 _ _ hx15')) .nil)), fun y hy => ?_, rfl⟩
        rcases List.mem_append.mp hy with hy | hy
        · rcases List.mem_append.mp hy with hy | hy
          · obtain ⟨b, hb', rfl⟩ := List.mem_map.mp hy
            have := hk b hb'
            exact ⟨tby _ (by omega), by rw [tlen]; omega⟩
          · obtain ⟨b, hb', rfl⟩ := List.mem_map.mp hy
            exact ⟨bytes_take fB _, by rw [List.length_take]; omega⟩
        · rcases List.mem_cons.mp hy with rfl | hy
          · exact ⟨bytes_app fB (fun x hx => by rw [List.mem_singleton.mp hx]; omega), by rw [List.length_append]; show _ + 1 ≤ _; omega⟩
          · rw [List.mem_singleton.mp hy]
            exact ⟨bytes_app fB fB, by rw [List.length_append]; omega⟩
    clear hwl hws10 hS10 hws hS S ws
    rintro _ H11 ⟨e11, S, ws, ls, hS, hws, hls, rfl⟩
    have hWq : Ex H H11 := by one_sign
    refine bcut (fun σ' H' => Ex H11 H' ∧ ∃ v13 v14 : Option V, σ' = [some (.ref a), some (.int c), some (.int m), some (.int (n : Int)), some (.ref L), some (.ref G), some (.ref W), v7, v8, v9, some (.ref B), some (.ref S), some (.ref E0), v13, v14, none, none, none, none]) ?_ ?_
    · refine lforE po rfl ?_
      top_name
      refine ⟨S, ws, rfl, ⟨SqL.of hS, trivial⟩, fun i σ H' => Ex H11 H' ∧ ∃ v13 v14 : Option V, σ = [some (.ref a), some (.int c), some (.int m), some (.int (n : Int)), some (.ref L), some (.ref G), some (.ref W), v7, v8, v9, some (.ref B), some (.ref S), some (.ref E0), v13, v14, none, none, none, none], ⟨Evl.Ex.refl _, none, none, rfl⟩, fun i σ H' _ z => SqL.of (z.1 _ _ hS), ?_, fun σ H' z => z⟩
      rintro i x σ H12 hx ⟨e12, v13, v14, rfl⟩
      obtain ⟨l, ys, rfl, hys, hl⟩ := hws.get hx
      obtain ⟨yb, yl⟩ := hls ys (List.mem_of_getElem? hys)
      have hl12 := e12 _ _ hl
      top_name
      rename_i t H13 ht e13 hx13
      refine zcall (ok_told T) hr1 (by decide) takesF rfl ?_
      top_name
      refine .inl ⟨t, ys, rfl, .inl hx13, yb, by omega, fun u H14 hu e14 hx14 => ?_⟩
      top_name
      refine zcall (ok_due T) hr1 (by decide) takesF rfl ?_
      top_name
      refine ⟨l, ys, rfl, e14 _ _ (e13 _ _ hl12), yb, by omega, fun z H15 hz e15 hx15 => ?_⟩
      top_name
      refine data_ne hr (dp_told (e15 _ _ hx14)) (dp_told hx15) told_shaped ?_
      top_name
      refine same_ne hr (SqL.of (e15 _ _ (e14 _ _ hx13))) (SqL.of (e15 _ _ (e14 _ _ (e13 _ _ hl12)))) ?_
      top_name
      exact ⟨e12.trans (e13.trans (e14.trans e15)), _, _, rfl⟩
    rintro _ H12 ⟨e12, v13, v14, rfl⟩
    refine bcut (fun σ' H' => Ex H12 H' ∧ ∃ (u : V), RowAsk K H' u false ∧ σ' = [some (.ref a), some (.int c), some (.int m), some (.int (n : Int)), some (.ref L), some (.ref G), some (.ref W), v7, v8, v9, some (.ref B), some (.ref S), some (.ref E0), v13, v14, some u, none, none, none]) ?_ ?_
    · top_name
      rename_i o1 G1 ho1 g1 hx1 o2 G2 ho2 g2 hx2 o3 G3 ho3 g3 hx3 o4 G4 ho4 g4 hx4 o5 G5 ho5 g5 hx5 o6 G6 ho6 g6 hx6 o7 G7 ho7 g7 hx7 o8 G8 ho8 g8 hx8 o9 G9 ho9 g9 hx9 o10 G10 ho10 g10 hx10
      have hv : ∃ (ys : List V) (u : V), G10 o10 = some (.lst ys) ∧ atI ys (m / 1024 % 12) = some u ∧ RowAsk K G10 u false := by
        have hc : m / 1024 % 12 = 0 ∨ m / 1024 % 12 = 1 ∨ m / 1024 % 12 = 2 ∨ m / 1024 % 12 = 3 ∨ m / 1024 % 12 = 4 ∨ m / 1024 % 12 = 5 ∨ m / 1024 % 12 = 6 ∨ m / 1024 % 12 = 7 ∨ m / 1024 % 12 = 8 ∨ m / 1024 % 12 = 9 ∨ m / 1024 % 12 = 10 ∨ m / 1024 % 12 = 11 := by omega
        rcases hc with h | h | h | h | h | h | h | h | h | h | h | h <;> rw [h]
        · exact ⟨_, _, hx10, rfl, .not (.base .non) rfl⟩
        · exact ⟨_, _, hx10, rfl, .not (.base (.int _)) rfl⟩
        · exact ⟨_, _, hx10, rfl, .not (.base (.str _)) rfl⟩
        · exact ⟨_, _, hx10, rfl, .not (.base (.dK (by one_item))) rfl⟩
        · exact ⟨_, _, hx10, rfl, ask_no (xs := [.int 256]) (by one_item) (.cons (asked_out (by omega)) .nil) (by decide) rfl⟩
        · exact ⟨_, _, hx10, rfl, ask_no (xs := [.int (-1)]) (by one_item) (.cons (asked_out (by omega)) .nil) (by decide) rfl⟩
        · exact ⟨_, _, hx10, rfl, ask_no (xs := [.bl true]) (by one_item) (.cons (.odd (nw_bl _)) .nil) (by decide) rfl⟩
        · exact ⟨_, _, hx10, rfl, ask_no (xs := [.str "0"]) (by one_item) (.cons (.odd (nw_str _)) .nil) (by decide) rfl⟩
        · exact ⟨_, _, hx10, rfl, ask_no (xs := [.non]) (by one_item) (.cons (.odd nw_non) .nil) (by decide) rfl⟩
        · exact ⟨_, _, hx10, rfl, ask_noT (xs := [.int 0, .non]) (by one_item) (.cons (asked_in (by omega) (by omega)) (.cons (.odd nw_non) .nil)) (by decide) rfl⟩
        · exact ⟨_, _, hx10, rfl, ask_no (xs := [.ref o8]) (by one_item) (.cons (.odd (nw_lst (xs := [.int 0]) (by one_item))) .nil) (by simp) rfl⟩
        · exact ⟨_, _, hx10, rfl, .not (.base (.bl _)) rfl⟩
      obtain ⟨ys, u, hys, hat, hu⟩ := hv
      exact ixL (SqL.of hys) hat ⟨by one_sign, u, hu, rfl⟩
    rintro _ H13 ⟨e13, u, hu13, rfl⟩
    have big : ∀ k : Nat, (List.replicate k [V.int 7]).flatten = (List.replicate k (7 : Int)).map V.int := fun k => by rw [List.flatten_replicate_singleton, List.map_replicate]
    have sev : ∀ k : Nat, Bytes (List.replicate k (7 : Int)) := fun k x hx => by rw [List.eq_of_mem_replicate hx]; omega
    refine bcut (fun σ' H' => Ex H13 H' ∧ σ' = [some (.ref a), some (.int c), some (.int m), some (.int (n : Int)), some (.ref L), some (.ref G), some (.ref W), v7, v8, v9, some (.ref B), some (.ref S), some (.ref E0), v13, v14, some u, none, none, none]) ?_ ?_
    · top_name
      refine zcall (ok_told T) hr1 (by decide) takesF rfl ?_
      top_name
      refine .inr ⟨u, rfl, hu13, fun t H14 ht e14 hx14 => ?_⟩
      top_name
      rename_i r H15 hr15 e15 hx15
      refine data_ne hr (dp_words (e15 _ _ hx14)) (dp_words hx15) (by decide +kernel) ?_
      top_name
      refine zcall (ok_frefused T) hr1 (by decide) takesF rfl ?_
      top_name
      refine ⟨.inl (RowAsk.ex (e14.trans e15) hu13), fun H16 e16 => ?_⟩
      top_name
      exact ⟨e14.trans (e15.trans e16), rfl⟩
    rintro _ H14 ⟨e14, rfl⟩
    top_name
    · refine zcall (ok_frefused T) hr1 (by decide) takesF rfl ?_
      top_name
      rename_i t1 H15 ht1 e15 hx15
      refine orep hx15 (by decide) (by decide) (by decide) fun r H16 hr16 e16 hx16 => ?_
      top_name
      rw [big] at hx16
      refine ⟨.inr ⟨r, _, rfl, .inl hx16, sev _, by rw [List.length_replicate]; decide, by rw [List.length_replicate]; decide⟩, fun H17 e17 => ?_⟩
      top_name
      · exact q _
      refine zcall (ok_framed T) hr1 (by decide) tk rfl ?_
      top_name
      rename_i t2 H18 ht2 e18 hx18
      refine orep hx18 (by decide) (by decide) (by decide) fun r2 H19 hr19 e19 hx19 => ?_
      top_name
      rw [big] at hx19
      refine .inl ⟨r2, _, rfl, .inl hx19, sev _, by rw [List.length_replicate]; decide, ?_⟩
      rw [if_neg (by rw [List.length_replicate]; decide)]
      intro t3 H20 ht3 e20 hx20
      top_name
      rw [List.length_map, frameR_len, List.length_replicate, show (rowN (30000 : Int).toNat).length = 3 from by decide +kernel]
      exact q _
    · exact q _
end K05

set_option maxRecDepth 100000
set_option maxHeartbeats 0
namespace K05
open PySem PySem.Spec PyProof.Rows L2 Z
abbrev R : PySem.W.OpenRow := PySem.W.OpenLaw.row PySem.Challenge.rw_formkin_k05_kept_rows
abbrev hk : PySem.W.Hook := He.hookX 5 fa fn [] [] exB
def ob (s : PySem.W.SharedT) : He.AlX := He.obsX 5 fa fn [] [] exB (HandSHeadRun.getT s)
theorem ob_eq (s : PySem.W.SharedT) : ob s = hk.obs s.abs := He.obsX_eq (HandSHeadRun.getT_eq s)
def loose_0 : List PySem.Str := ["FormError", "BadNumber", "BadRow", "BadBook", "BadValue", "BadText", "BadWire", "BadCheck", "NotKin", "NoKey", "BadVersion", "is_whole", "is_among", "MOST_NUMBER", "LOW", "MORE", "BYTE", "LAST_BYTE", "MOST_LAST", "FIRST_CHECK", "STEP", "need_row", "need_number", "number_row", "number_at", "check", "MOST_LENGTH", "framed", "unframed", "_law_cell_at"]
def loose_1 : List PySem.Str := ["_law_mixed", "_law_word", "_law_at", "_law_bytes", "_law_number_row", "_law_check", "_law_frame", "_law_due", "_law_told", "_law_frame_refused", "_law_turned"]
abbrev loose : List PySem.Str := loose_0 ++ loose_1
theorem run (w : World) : HandSHeadRun.RunEq R (PySem.W.view R.prog [46]) hk ob 6000 loose w := by
  intro os
  kernel_rfl
end K05

set_option maxRecDepth 100000
set_option maxHeartbeats 0
namespace K05
open PySem PySem.Spec PyProof.Rows L2 Z
/-! ### the end -/
theorem facts {P : Program} {w : World} {K : PySem.W.Frag} {h : Heap} {mg : Str → Option Value} {f : Addr} (X : K.In h) (G : h.Ns mainGlobals mg) (hfa : mg ("law" : Str) = some (.ref f)) (c : He.SaysX fa fn [] [] exB w h K) :
    ∃ fd : FuncData, (∀ (s : Shared) (v : Value), BindsTo s fd ⟨[v], []⟩ [("_law_script", v)]) ∧ ∀ base : Heap, K.In base → base.Ns mainGlobals mg → FnOk P w K mg base (L2N.CX P w) 7 f fd ["_law_script"] (sp_law K) := by
  have T := txt_of X G c
  obtain ⟨fd, F⟩ := T.f_law
  have e := hfa.symm.trans T.m_law
  cases e
  have b := FunD.bindsA (ps := ["_law_script"]) F fun _ _ _ _ _ _ us hl => match us, hl with | [_], _ => rfl
  exact ⟨fd, fun s v => b s [v] rfl, fun base _ _ => fn_law T F⟩
end K05
open PySem PySem.W PySem.Calls PyProof.Rows
set_option maxRecDepth 100000 in
set_option maxHeartbeats 8000000 in
theorem PySem.Challenge.cw_formkin_k05_kept_rows_holds : PySem.Challenge.rw_formkin_k05_kept_rows.Holds := by
  w_on; o_law
  refine HandSHeadRun.head_any (r := OpenLaw.row PySem.Challenge.rw_formkin_k05_kept_rows) (q := view (OpenLaw.row PySem.Challenge.rw_formkin_k05_kept_rows).prog [46]) (H := K05.hk) (ob := K05.ob) (M := 6000) (loose := K05.loose) (d := HandSHeadRun.topDef (OpenLaw.row PySem.Challenge.rw_formkin_k05_kept_rows).prog 46) (kwd := []) K05.ob_eq
    (by kernel_rfl) (fun s => by kernel_rfl) K05.run (by kernel_rfl) (by kernel_rfl) (by kernel_rfl) (by rfl) (by first | assumption | decide +kernel) (by decide +kernel) ⟨rfl, rfl, rfl, rfl, rfl, by decide +kernel⟩ ?hw ?hc
  case hw => w_witness2
  case hc =>
    refine Z.walk_bits (l := PySem.Challenge.rw_formkin_k05_kept_rows) (n := 63) (k := 7) (x := "_law_script") rfl (by decide) (by kernel_rfl) ⟨rfl, by decide, by decide⟩ ?F
    intro w mg fa h Y G hmg0
    obtain ⟨K, KX, c⟩ := Y
    have hmg : mg ("law" : PySem.Str) = some (.ref fa) := by
      have e : (HandSHeadRun.topDef (OpenLaw.row PySem.Challenge.rw_formkin_k05_kept_rows).prog 46).name = ("law" : PySem.Str) := by kernel_rfl
      rw [← e]
      exact hmg0
    obtain ⟨fd, hb, hF⟩ := K05.facts (P := (PySem.Challenge.rw_formkin_k05_kept_rows).prog) (w := w) KX G hmg c
    exact ⟨K, fd, K05.sp_law K, KX, hb, fun H a ns hl hz _ hS => ⟨a, ns, rfl, hS, hl, hz, fun _ => rfl⟩, hF⟩
