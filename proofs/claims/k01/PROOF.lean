import PyProof.Rows.All
import Wide.All
import OpenK.AllK
import Wide.FinOn
import KE.KStateDown
import KE.KExcIs
import Lean
import HandS.ForMost
import HandS.Exc
import HandS.ExcOwn
import HandS.ExcInit
import HandS.ExcCtx
import HandS.ExcIs
import HandS.ExcField
import HandS.TryMany
import HandS.HotCalls
import HandS.ExcInitHot
import HandS.IsInst
import HandS.Wide
import HandS.WideBits
import HandS.Defaults
import HandS.Codes
import HandS.WordsExc
import HandS.EndBits
import HandS.Head0
import HandS.Head1
import HandS.Head2
import HandS.HeadEnd
import HandS.HeadHook1
import HandS.HeadHook2
import HandS.HeadHook3
import HandS.HeadHook4
import HandS.Evl
import HandS.Replace
import HandS.Conv
import HandS.RevTup
import HandS.Rev
import HandS.Iter
import HandS.MapObj
import PySem.Challenge.RW_formkin_k01_words_and_numbers
set_option Elab.async false
set_option linter.all false
set_option maxRecDepth 100000
set_option maxHeartbeats 4000000
namespace Z
open PySem PySem.Spec PyProof.Rows L2
abbrev St := L2.St
/-! ### a piece of the text, walked from a state to a wish -/
structure wE (X : Cx) (e : Expr) (σ : St) (H : Hp) (Q : VK) : Prop where
  run : ∀ (pins : List (Addr × Obj)) (s : Shared), Inv X pins σ H s → wpAny (model X.prog X.w) X.A (eval e X.env) (EP X pins σ Q) X.xe s
structure wT (X : Cx) (e : Expr) (σ : St) (H : Hp) (Q : Bool → Hp → Prop) : Prop where
  run : ∀ (pins : List (Addr × Obj)) (s : Shared), Inv X pins σ H s → wpAny (model X.prog X.w) X.A (isTrue e X.env (eval e X.env)) (TP X pins σ Q) X.xe s
structure wW (X : Cx) (e : Expr) (σ : St) (H : Hp) (Q : Bool → Hp → Prop) : Prop where
  run : ∀ (whole : Sem Value) (pins : List (Addr × Obj)) (s : Shared), Inv X pins σ H s → wpAny (model X.prog X.w) X.A (isTrue e X.env whole) (TP X pins σ Q) X.xe s
structure wA (X : Cx) (es : List Expr) (σ : St) (H : Hp) (Q : List V → Hp → Prop) : Prop where
  run : ∀ (pos : Pos) (pins : List (Addr × Obj)) (s : Shared), Inv X pins σ H s → wpAny (model X.prog X.w) X.A (spliced (backTo pos (starEach es X.env))) (AP X pins σ Q) X.xe s
structure wS (X : Cx) (st : Stmt) (D : Ends) (σ : St) (H : Hp) : Prop where
  run : ∀ (pins : List (Addr × Obj)) (s : Shared), Inv X pins σ H s → wpAny (model X.prog X.w) X.A (exec st X.env) (SP X pins D) X.xe s
structure wB (X : Cx) (sts : List Stmt) (D : Ends) (σ : St) (H : Hp) : Prop where
  run : ∀ (pins : List (Addr × Obj)) (s : Shared), Inv X pins σ H s → wpAny (model X.prog X.w) X.A (execs sts X.env) (SP X pins D) X.xe s
structure wG (X : Cx) (tg : Expr) (v : V) (σ : St) (H : Hp) (Q : St → Hp → Prop) : Prop where
  run : ∀ (pins : List (Addr × Obj)) (s : Shared) (u : Value), Inv X pins σ H s → RelV v u → wpAny (model X.prog X.w) X.A (assign tg X.env u) (fun _ s' => ∃ σ' H', Inv X pins σ' H' s' ∧ Q σ' H') X.xe s
structure wGs (X : Cx) (ts : List Expr) (vs : List V) (σ : St) (H : Hp) (Q : St → Hp → Prop) : Prop where
  run : ∀ (pins : List (Addr × Obj)) (s : Shared) (us : List Value), Inv X pins σ H s → Vals vs us → wpAny (model X.prog X.w) X.A (assignInOrder ((assignEach ts X.env).map (·.2)) us) (fun _ s' => ∃ σ' H', Inv X pins σ' H' s' ∧ Q σ' H') X.xe s
/-- an operation on two values -/
structure wO (X : Cx) (f : Value → Value → Sem Value) (x y : V) (H : Hp) (Q : VK) : Prop where
  run : ∀ (pins : List (Addr × Obj)) (s : Shared) (σ : St) (v u : Value), Inv X pins σ H s → RelV x v → RelV y u → wpAny (model X.prog X.w) X.A (f v u) (EP X pins σ Q) X.xe s
/-- a call of a known value -/
structure wK (X : Cx) (f : Value) (xs : List V) (H : Hp) (Q : VK) : Prop where
  run : ∀ (pins : List (Addr × Obj)) (s : Shared) (σ : St) (us : List Value), Inv X pins σ H s → Vals xs us → wpAny (model X.prog X.w) X.A (call f us) (EP X pins σ Q) X.xe s
structure wIx (X : Cx) (x y : V) (H : Hp) (Q : VK) : Prop where
  run : ∀ (value slice : Expr) (pins : List (Addr × Obj)) (s : Shared) (σ : St) (v u : Value), Inv X pins σ H s → RelV x v → RelV y u → subscripted slice false v u = operate [v, u] (getItem v u) → wpAny (model X.prog X.w) X.A (subscriptTail value slice v u) (EP X pins σ Q) X.xe s
section
variable {X : Cx}
theorem sE {e : Expr} : PE X e (wE X e) := ⟨fun pins s σ H Q I h => h.run pins s I⟩
theorem sT {e : Expr} : PT X e (wT X e) := ⟨fun pins s σ H Q I h => h.run pins s I⟩
theorem sW {e : Expr} : PW X e (wW X e) := ⟨fun wh pins s σ H Q I h => h.run wh pins s I⟩
theorem sA {es : List Expr} : PA X es (wA X es) := ⟨fun pos pins s σ H Q I h => h.run pos pins s I⟩
theorem sS {st : Stmt} : PS X st (wS X st) := ⟨fun pins s σ H D I h => h.run pins s I⟩
theorem sB {sts : List Stmt} : PSs X sts (wB X sts) := ⟨fun pins s σ H D I h => h.run pins s I⟩
theorem sG {tg : Expr} : PG X tg (wG X tg) := ⟨fun pins s σ H v u Q I r h => h.run pins s u I r⟩
theorem sGs {ts : List Expr} : PGs X ts (wGs X ts) := ⟨fun pins s σ H vs us Q I r h => h.run pins s us I r⟩
theorem sO {f : Value → Value → Sem Value} : OpR X f (wO X f) := fun pins s σ H x y v u Q I rx ry h => h.run pins s σ v u I rx ry
theorem sK {f : Value} : CallR X f (wK X f) := fun pins s σ H xs us Q I r h => h.run pins s σ us I r
variable {σ : St} {H : Hp} {e a b c : Expr} {es : List Expr} {st : Stmt} {sts : List Stmt} {pos pos' p p1 p2 : Pos} {Q : VK} {D : Ends}
theorem ofE {t : TE} (h : PE X e t) (q : t σ H Q) : wE X e σ H Q := ⟨fun pins s I => h.run pins s σ H Q I q⟩
theorem ofT {t : TT} {Q : Bool → Hp → Prop} (h : PT X e t) (q : t σ H Q) : wT X e σ H Q := ⟨fun pins s I => h.run pins s σ H Q I q⟩
theorem ofW {t : TT} {Q : Bool → Hp → Prop} (h : PW X e t) (q : t σ H Q) : wW X e σ H Q := ⟨fun wh pins s I => h.run wh pins s σ H Q I q⟩
theorem ofA {t : TA} {Q : List V → Hp → Prop} (h : PA X es t) (q : t σ H Q) : wA X es σ H Q := ⟨fun pos pins s I => h.run pos pins s σ H Q I q⟩
theorem ofS {t : TS} (h : PS X st t) (q : t D σ H) : wS X st D σ H := ⟨fun pins s I => h.run pins s σ H D I q⟩
theorem ofB {t : TS} (h : PSs X sts t) (q : t D σ H) : wB X sts D σ H := ⟨fun pins s I => h.run pins s σ H D I q⟩
theorem ofG {tg : Expr} {t : TG} {v : V} {Q : St → Hp → Prop} (h : PG X tg t) (q : t v σ H Q) : wG X tg v σ H Q := ⟨fun pins s u I r => h.run pins s σ H v u Q I r q⟩
theorem ofO {f : Value → Value → Sem Value} {r : R2} {x y : V} (h : OpR X f r) (q : r x y H Q) : wO X f x y H Q := ⟨fun pins s σ v u I rx ry => h pins s σ H x y v u Q I rx ry q⟩
theorem ofK {f : Value} {r : List V → Hp → VK → Prop} {xs : List V} (h : CallR X f r) (q : r xs H Q) : wK X f xs H Q := ⟨fun pins s σ us I rr => h pins s σ H xs us Q I rr q⟩
theorem ofIx {r : R2} {x y : V} (h : IxR X r) (q : r x y H Q) : wIx X x y H Q := ⟨fun va sl pins s σ v u I rx ry z => h va sl pins s σ H x y v u Q I rx ry q z⟩
theorem sIx : IxR X (wIx X) := fun va sl pins s σ H x y v u Q I rx ry h z => h.run va sl pins s σ v u I rx ry z
/-! ### weaker wishes -/
theorem wE.imp {Q' : VK} (h : wE X e σ H Q) (q : ∀ v H', Q v H' → Q' v H') : wE X e σ H Q' := ⟨fun pins s I => thn (h.run pins s I) fun u s' ⟨v, H', J, r, x⟩ => ⟨v, H', J, r, q v H' x⟩⟩
theorem wT.imp {Q Q' : Bool → Hp → Prop} (h : wT X e σ H Q) (q : ∀ v H', Q v H' → Q' v H') : wT X e σ H Q' := ⟨fun pins s I => thn (h.run pins s I) fun u s' ⟨H', J, x⟩ => ⟨H', J, q u H' x⟩⟩
theorem wS.imp {D D' : Ends} (h : wS X st D σ H) (n : ∀ σ H, D.nx σ H → D'.nx σ H) (r : ∀ v H, D.rt v H → D'.rt v H) (k : ∀ σ H, D.bk σ H → D'.bk σ H) (c : ∀ σ H, D.ct σ H → D'.ct σ H) : wS X st D' σ H := by
  refine ⟨fun pins s I => thn (h.run pins s I) fun f s' q => ?_⟩
  cases f with
  | next => obtain ⟨σ', H', J, x⟩ := q; exact ⟨σ', H', J, n _ _ x⟩
  | brk => obtain ⟨σ', H', J, x⟩ := q; exact ⟨σ', H', J, k _ _ x⟩
  | cont => obtain ⟨σ', H', J, x⟩ := q; exact ⟨σ', H', J, c _ _ x⟩
  | ret u => obtain ⟨v, σ', H', J, rv, x⟩ := q; exact ⟨v, σ', H', J, rv, r _ _ x⟩
/-! ### names, constants -/
theorem zv (i : Nat) {x : Str} {v : V} (h : Q v H) (hs : σ[i]? = some (some v) := by rfl) (hN : X.N[i]? = some x := by rfl) (hv : Vis X.env.scope x := by first | exact Or.inl rfl | exact Or.inr (Or.inl rfl) | exact Or.inr (Or.inr rfl)) (hd : (x == ("__debug__" : Str)) = false := by decide)
    (hcd : (x == ("__classdict__" : Str)) = false := by decide) : wE X (.Name x pos) σ H Q := ofE (pe_var hN hv hd hcd) ⟨v, hs, h⟩
def slotOf (N : List Str) (x : Str) : Nat := N.findIdx (fun y => decide (y = x))
theorem zn {x : Str} {v : V} (hN : X.N[slotOf X.N x]? = some x) (hv : Vis X.env.scope x) (hs : σ[slotOf X.N x]? = some (some v)) (h : Q v H) (hd : (x == ("__debug__" : Str)) = false := by decide)
    (hcd : (x == ("__classdict__" : Str)) = false := by decide) : wE X (.Name x pos) σ H Q := ofE (pe_var hN hv hd hcd) ⟨v, hs, h⟩
theorem zint {i j} (h : Q (.int i) H) : wE X (.Constant (.int i) j pos) σ H Q := ofE pe_int h
theorem zbl {i j} (h : Q (.bl i) H) : wE X (.Constant (.bool i) j pos) σ H Q := ofE pe_bl h
theorem zstr {i j} (h : Q (.str i) H) : wE X (.Constant (.str i) j pos) σ H Q := ofE pe_str h
theorem znon {j} (h : Q .non H) : wE X (.Constant .none j pos) σ H Q := ofE pe_non h
/-- a constant of the module -/
theorem zglob {x : Str} {v : V} (hm : ∃ u, X.mg x = some u ∧ RelV v u) (hg : Gl X x) (h : Q v H) (hd : (x == ("__debug__" : Str)) = false := by decide) : wE X (.Name x pos) σ H Q := by
  obtain ⟨u, e, r⟩ := hm
  exact ofE (pe_glob hg e r hd) h
/-- a built-in's name as a value -/
theorem zblt {x : Str} {v : V} {u : Value} (hm : X.mg x = none) (hv : bootBuiltins x = some u) (r : RelV v u) (hg : Gl X x) (h : Q v H) (hn : x ≠ "__name__" := by decide) (hd : (x == ("__debug__" : Str)) = false := by decide) : wE X (.Name x pos) σ H Q := ofE (pe_bltn hg hm hv r hn hd) h
/-! ### operators -/
theorem zbin {op : Operator} (h : wE X a σ H fun x H1 => wE X b σ H1 fun y H2 => wO X (binaryOp op) x y H2 Q) : wE X (.BinOp a op b pos) σ H Q := ofE (pe_op sO sE sE) h
theorem zcmp {op : CmpOp} (hm : behindInMarks op b = false) (h : wE X a σ H fun x H1 => wE X b σ H1 fun y H2 => wO X (compareOp op) x y H2 Q) : wE X (.Compare a [op] [b] pos) σ H Q := ofE (pe_cmpR sO sE sE hm) h
theorem zcmpT {op : CmpOp} {Q : Bool → Hp → Prop} (hm : behindInMarks op b = false) (h : wE X a σ H fun x H1 => wE X b σ H1 fun y H2 => wO X (compareOp op) x y H2 fun z H3 => ∃ k, z = .bl k ∧ Q k H3) : wT X (.Compare a [op] [b] pos) σ H Q := ofT (pt_cmpR sO sE sE hm) h
theorem oadd {i j : Int} (h : Q (.int (i + j)) H) : wO X (binaryOp .Add) (.int i) (.int j) H Q := ofO op_add ⟨i, j, rfl, rfl, h⟩
theorem osub {i j : Int} (h : Q (.int (i - j)) H) : wO X (binaryOp .Sub) (.int i) (.int j) H Q := ofO op_sub ⟨i, j, rfl, rfl, h⟩
theorem omul {i j : Int} (c : IntMulOk i j) (h : Q (.int (i * j)) H) : wO X (binaryOp .Mult) (.int i) (.int j) H Q := by
  refine ⟨fun pins s σ v u I rx ry => ?_⟩
  obtain ⟨t, rfl⟩ := rx
  obtain ⟨t', rfl⟩ := ry
  exact mul_int ⟨.int _, H, I.tok _, ⟨_, rfl⟩, h⟩ c
theorem omod {i j : Int} (c : 0 < j) (h : Q (.int (i % j)) H) : wO X (binaryOp .Mod) (.int i) (.int j) H Q := ofO op_mod ⟨i, j, rfl, rfl, c, h⟩
theorem ofdiv {i j : Int} (c : CDivW i j) (h : Q (.int (i / j)) H) : wO X (binaryOp .FloorDiv) (.int i) (.int j) H Q := ofO op_fdivW ⟨i, j, rfl, rfl, c, h⟩
theorem oand {i j : Int} (h : Q (.int (Builtin.bitAnd i j)) H) : wO X (binaryOp .BitAnd) (.int i) (.int j) H Q := ofO op_and ⟨i, j, rfl, rfl, h⟩
theorem oor {i j : Int} (h : Q (.int (Builtin.bitOr i j)) H) : wO X (binaryOp .BitOr) (.int i) (.int j) H Q := ofO op_or ⟨i, j, rfl, rfl, h⟩
theorem oxor {i j : Int} (h : Q (.int (Builtin.bitXor i j)) H) : wO X (binaryOp .BitXor) (.int i) (.int j) H Q := ofO op_xor ⟨i, j, rfl, rfl, h⟩
theorem oshl {i j : Int} (c : CShl i j) (h : Q (.int (i * 2 ^ j.toNat)) H) : wO X (binaryOp .LShift) (.int i) (.int j) H Q := ofO op_shlW ⟨i, j, rfl, rfl, c, h⟩
theorem oshr {i j : Int} (c : 0 ≤ j) (h : Q (.int (i / 2 ^ j.toNat)) H) : wO X (binaryOp .RShift) (.int i) (.int j) H Q := ofO op_shr ⟨i, j, rfl, rfl, c, h⟩
theorem opow {i j : Int} (c0 : 0 ≤ j) (c : (Builtin.Int.intBits i : Int) * j ≤ 2 ^ 27) (h : Q (.int (i ^ j.toNat)) H) : wO X (binaryOp .Pow) (.int i) (.int j) H Q := by
  refine ⟨fun pins s σ v u I rx ry => ?_⟩
  obtain ⟨t, rfl⟩ := rx
  obtain ⟨t', rfl⟩ := ry
  exact pow_int c0 c ⟨.int _, H, I.tok _, ⟨_, rfl⟩, h⟩
theorem oadds {i j : Str} (c : i.length + j.length ≤ sizeLine) (h : Q (.str (i ++ j)) H) : wO X (binaryOp .Add) (.str i) (.str j) H Q := ofO op_add_str ⟨i, j, rfl, rfl, c, h⟩
theorem olt {i j : Int} (h : Q (.bl (decide (i < j))) H) : wO X (compareOp .Lt) (.int i) (.int j) H Q := ofO op_lt ⟨i, j, rfl, rfl, h⟩
theorem ole {i j : Int} (h : Q (.bl (decide (i ≤ j))) H) : wO X (compareOp .LtE) (.int i) (.int j) H Q := ofO op_le ⟨i, j, rfl, rfl, h⟩
theorem ogt {i j : Int} (h : Q (.bl (decide (j < i))) H) : wO X (compareOp .Gt) (.int i) (.int j) H Q := ofO op_gt ⟨i, j, rfl, rfl, h⟩
theorem oge {i j : Int} (h : Q (.bl (decide (j ≤ i))) H) : wO X (compareOp .GtE) (.int i) (.int j) H Q := ofO op_ge ⟨i, j, rfl, rfl, h⟩
theorem oeq {x y : V} (s : scal x y = true) (h : Q (.bl (decide (x = y))) H) : wO X (compareOp .Eq) x y H Q := ofO op_eq ⟨s, h⟩
theorem one {x y : V} (s : scal x y = true) (h : Q (.bl (!decide (x = y))) H) : wO X (compareOp .NotEq) x y H Q := ofO op_ne ⟨s, h⟩
theorem oeqi {i j : Int} (h : Q (.bl (decide (i = j))) H) : wO X (compareOp .Eq) (.int i) (.int j) H Q := oeq rfl (by simp only [V.int.injEq]; exact h)
theorem onei {i j : Int} (h : Q (.bl (!decide (i = j))) H) : wO X (compareOp .NotEq) (.int i) (.int j) H Q := one rfl (by simp only [V.int.injEq]; exact h)
theorem oeqD {k : Nat} {x y : V} {d e : PyData} (hr : Room k X.A) (hx : Dp X.K H x d) (hy : Dp X.K H y e) (s1 : SeqAt.shaped d = true) (s2 : SeqAt.shaped e = true) (h : Q (.bl (PyData.eqv d e)) H) : wO X (compareOp .Eq) x y H Q := ofO (op_eqD hr.units) ⟨d, e, hx, hy, s1, s2, h⟩
theorem oneD {k : Nat} {x y : V} {d e : PyData} (hr : Room k X.A) (hx : Dp X.K H x d) (hy : Dp X.K H y e) (s1 : SeqAt.shaped d = true) (s2 : SeqAt.shaped e = true) (h : Q (.bl (!PyData.eqv d e)) H) : wO X (compareOp .NotEq) x y H Q := ofO (op_neD hr.units) ⟨d, e, hx, hy, s1, s2, h⟩
theorem ois {x : V} (h : Q (.bl (decide (x = .non))) H) : wO X (compareOp .Is) x .non H Q := ofO op_isN ⟨rfl, h⟩
theorem onot {x : V} (h : Q (.bl (!decide (x = .non))) H) : wO X (compareOp .IsNot) x .non H Q := ofO op_notN ⟨rfl, h⟩
theorem ocat {l m : Addr} {xs zs : List V} (hl : H l = some (.lst xs)) (hm : H m = some (.lst zs)) (c : xs.length + zs.length ≤ sizeLine) (h : ∀ p, H p = none → Q (.ref p) (upd H p (.lst (xs ++ zs)))) : wO X (binaryOp .Add) (.ref l) (.ref m) H Q := ofO op_cat ⟨l, m, xs, zs, rfl, rfl, hl, hm, c, h⟩
end
end Z

set_option maxRecDepth 100000
set_option maxHeartbeats 4000000
namespace Z
open PySem PySem.Spec PyProof.Rows L2
open Evl (Ex)
section
variable {X : Cx} {σ : St} {H : Hp} {e a b c o : Expr} {es : List Expr} {st : Stmt} {sts : List Stmt} {pos pos' p p1 p2 apos : Pos} {Q : VK} {D : Ends} {W : WX}
/-! ### argument lists, displays -/
theorem anil {Q : List V → Hp → Prop} (h : Q [] H) : wA X [] σ H Q := ofA pa_nil h
theorem acons {Q : List V → Hp → Prop} (h : wE X e σ H fun x H1 => wA X es σ H1 fun xs H2 => Q (x :: xs) H2) (hs : starEach (e :: es) X.env = (false, eval e X.env) :: starEach es X.env := by rfl) : wA X (e :: es) σ H Q := ofA (pa_cons sE sA hs) h
theorem zlst (h : wA X es σ H fun vs H1 => vs.length ≤ sizeLine ∧ ∀ p H2, H1 p = none → Ex H1 H2 → H2 p = some (.lst vs) → Q (.ref p) H2) : wE X (.List es pos) σ H Q :=
  ofE (pe_lst sA) ⟨fun pos pins s I => thn (h.run pos pins s I) fun us s' ⟨vs, H1, J, r, l, q⟩ => ⟨vs, H1, J, r, l, fun p hp => q p _ hp (Ex.new hp) upd_same⟩⟩
theorem ztup {k} (h : wA X es σ H fun vs H1 => vs.length ≤ sizeLine ∧ ∀ p H2, H1 p = none → Ex H1 H2 → H2 p = some (.tup vs) → Q (.ref p) H2) : wE X (.Tuple es k pos) σ H Q :=
  ofE (pe_tup sA) ⟨fun pos pins s I => thn (h.run pos pins s I) fun us s' ⟨vs, H1, J, r, l, q⟩ => ⟨vs, H1, J, r, l, fun p hp => q p _ hp (Ex.new hp) upd_same⟩⟩
theorem ocatE {l m : Addr} {xs zs : List V} (hl : H l = some (.lst xs)) (hm : H m = some (.lst zs)) (c : xs.length + zs.length ≤ sizeLine) (h : ∀ p H2, H p = none → Ex H H2 → H2 p = some (.lst (xs ++ zs)) → Q (.ref p) H2) : wO X (binaryOp .Add) (.ref l) (.ref m) H Q :=
  ocat hl hm c fun p hp => h p _ hp (Ex.new hp) upd_same
/-! ### tests -/
theorem zand {Q : Bool → Hp → Prop} (h : wT X a σ H fun k H1 => if k = true then wW X (.BoolOp .And (b :: es) pos) σ H1 Q else Q false H1) : wW X (.BoolOp .And (a :: b :: es) pos) σ H Q := ofW (pw_and sT sW) h
theorem zand1 {Q : Bool → Hp → Prop} (h : wT X a σ H Q) : wW X (.BoolOp .And [a] pos) σ H Q := ofW (pw_and1 sT) h
theorem zor {Q : Bool → Hp → Prop} (h : wT X a σ H fun k H1 => if k = true then Q true H1 else wW X (.BoolOp .Or (b :: es) pos) σ H1 Q) : wW X (.BoolOp .Or (a :: b :: es) pos) σ H Q := ofW (pw_or sT sW) h
theorem zor1 {Q : Bool → Hp → Prop} (h : wT X a σ H Q) : wW X (.BoolOp .Or [a] pos) σ H Q := ofW (pw_or1 sT) h
theorem zW {Q : Bool → Hp → Prop} {op} (h : wW X (.BoolOp op es pos) σ H Q) : wT X (.BoolOp op es pos) σ H Q := ⟨fun pins s I => h.run _ pins s I⟩
theorem znotT {Q : Bool → Hp → Prop} (h : wT X a σ H fun k H1 => Q (!k) H1) : wT X (.UnaryOp .Not a pos) σ H Q := ofT (pt_not sT) h
theorem zval {Q : Bool → Hp → Prop} (h : wE X e σ H fun x H1 => ∃ k, x = .bl k ∧ Q k H1) (he : ∀ whole, isTrue e X.env whole = (do let v ← whole; standAt e.pos; holding [v] (truthy v)) := by intro _; rfl) : wT X e σ H Q := ofT (pt_val sE he) h
theorem ztru {Q : Bool → Hp → Prop} (h : wE X e σ H fun x H1 => ∃ k, TruV X.K x H1 k ∧ Q k H1) (he : ∀ whole, isTrue e X.env whole = (do let v ← whole; standAt e.pos; holding [v] (truthy v)) := by intro _; rfl) : wT X e σ H Q := ofT (pt_truth sE he) h
theorem zif (h : wT X c σ H fun k H1 => if k = true then wE X a σ H1 Q else wE X b σ H1 Q) : wE X (.IfExp c a b pos) σ H Q := ofE (pe_ifExp sT sE sE) h
/-- as values: and, or of truths, not -/
theorem zandV (h : wE X a σ H fun x H1 => ∃ k, x = .bl k ∧ if k = true then wE X (.BoolOp .And (b :: es) pos) σ H1 Q else Q (.bl false) H1) : wE X (.BoolOp .And (a :: b :: es) pos) σ H Q := ofE (pe_and sE sE) h
theorem zorV (h : wE X a σ H fun x H1 => ∃ k, x = .bl k ∧ if k = true then Q (.bl true) H1 else wE X (.BoolOp .Or (b :: es) pos) σ H1 Q) : wE X (.BoolOp .Or (a :: b :: es) pos) σ H Q := ofE (pe_or sE sE) h
theorem zoneV {op} (h : wE X a σ H Q) : wE X (.BoolOp op [a] pos) σ H Q := ofE (pe_one sE) h
theorem znotV (h : wE X a σ H fun x H1 => ∃ k, x = .bl k ∧ Q (.bl (!k)) H1) : wE X (.UnaryOp .Not a pos) σ H Q := ofE (pe_not sE) h
/-! ### statements -/
theorem bnil (h : D.nx σ H) : wB X [] D σ H := ofB pss_nil h
theorem bcons (h : wS X st { D with nx := fun σ' H' => wB X sts D σ' H' } σ H) : wB X (st :: sts) D σ H := ofB (pss_cons sS sB) h
theorem bone (h : wS X st D σ H) : wB X [st] D σ H := ofB (pss_one sS) h
theorem sset {x : Str} (i : Nat) (hN : X.N.Nodup) (h : wE X e σ H fun v H1 => D.nx (σ.set i (some v)) H1) (hi : X.N[i]? = some x := by rfl) (hx : Loc X.env.scope x := by first | exact Or.inl rfl | exact Or.inr rfl) (hs : swapsWith e (some (.Name x pos')) pos.line X.env = pure false := by rfl)
    (hf : X.fn x = true ∨ X.env.scope.names.lookup x = some .local := by first | exact .inl rfl | exact .inr rfl | assumption) : wS X (.Assign [.Name x pos'] e pos) D σ H := ofS (ps_set hN hi hx sE hs hf) h
theorem sret (h : wE X e σ H D.rt) : wS X (.Return (some e) pos) D σ H := ofS (ps_ret sE) h
theorem sretN (h : D.rt .non H) : wS X (.Return none pos) D σ H := ofS ps_retN h
theorem sif {x y : List Stmt} (h : wT X c σ H fun k H1 => if k = true then wB X x D σ H1 else wB X y D σ H1) : wS X (.If c x y pos) D σ H := ofS (ps_if sT sB sB) h
theorem sexp (h : wE X e σ H fun _ H1 => D.nx σ H1) (hs : swapsWith e none pos.line X.env = pure false := by rfl) : wS X (.Expr e pos) D σ H := ofS (ps_expr sE hs) h
theorem spass (h : D.nx σ H) : wS X (.Pass pos) D σ H := ofS ps_pass h
theorem sbrk (h : D.bk σ H) : wS X (.Break pos) D σ H := ofS ps_break h
theorem scont (h : D.ct σ H) : wS X (.Continue pos) D σ H := ofS ps_continue h
/-- name op= e -/
theorem saug {x : Str} {op : Operator} (i : Nat) (hN : X.N.Nodup) {v : V} (hv : σ[i]? = some (some v)) (h : wE X e σ H fun y H1 => wO X (inplaceOp op) v y H1 fun z H2 => D.nx (σ.set i (some z)) H2) (hi : X.N[i]? = some x := by rfl) (hx : Loc X.env.scope x := by first | exact Or.inl rfl | exact Or.inr rfl)
    (hf : X.fn x = true ∨ X.env.scope.names.lookup x = some .local := by first | exact .inl rfl | exact .inr rfl | assumption) : wS X (.AugAssign (.Name x pos') op e pos) D σ H := ofS (ps_aug (ti := wO X (inplaceOp op)) hN hi hx sE sO hf) ⟨v, hv, h⟩
theorem ior {i j : Int} (h : Q (.int (Builtin.bitOr i j)) H) : wO X (inplaceOp .BitOr) (.int i) (.int j) H Q := ofO iop_or ⟨i, j, rfl, rfl, h⟩
theorem ixor {i j : Int} (h : Q (.int (Builtin.bitXor i j)) H) : wO X (inplaceOp .BitXor) (.int i) (.int j) H Q := ofO iop_xor ⟨i, j, rfl, rfl, h⟩
theorem ishr {i j : Int} (c : 0 ≤ j) (h : Q (.int (i / 2 ^ j.toNat)) H) : wO X (inplaceOp .RShift) (.int i) (.int j) H Q := ofO iop_shr ⟨i, j, rfl, rfl, c, h⟩
theorem iadd {i j : Int} (h : Q (.int (i + j)) H) : wO X (inplaceOp .Add) (.int i) (.int j) H Q := ofO iop_add ⟨i, j, rfl, rfl, h⟩
/-! ### targets -/
theorem gname {x : Str} {v : V} {Q : St → Hp → Prop} (i : Nat) (hN : X.N.Nodup) (h : Q (σ.set i (some v)) H) (hi : X.N[i]? = some x := by rfl) (hx : Loc X.env.scope x := by first | exact Or.inl rfl | exact Or.inr rfl)
    (hf : X.fn x = true ∨ X.env.scope.names.lookup x = some .local := by first | exact .inl rfl | exact .inr rfl | assumption) : wG X (.Name x pos) v σ H Q := ofG (pg_name hN hi hx hf) h
theorem gsnil {Q : St → Hp → Prop} (h : Q σ H) : wGs X [] [] σ H Q := ⟨fun pins s us I r => pgs_nil.run pins s σ H [] us Q I r ⟨rfl, h⟩⟩
theorem gscons {tg : Expr} {ts : List Expr} {v : V} {vs : List V} {Q : St → Hp → Prop} (h : wG X tg v σ H fun σ' H' => wGs X ts vs σ' H' Q) (hs : (assignEach (tg :: ts) X.env).map (·.2) = assign tg X.env :: (assignEach ts X.env).map (·.2) := by rfl) : wGs X (tg :: ts) (v :: vs) σ H Q :=
  ⟨fun pins s us I r => (pgs_cons sG sGs hs).run pins s σ H (v :: vs) us Q I r ⟨v, vs, rfl, h⟩⟩
theorem gtup {ts : List Expr} {k : Nat} {p : Addr} {xs : List V} {Q : St → Hp → Prop} (hc : X.calm = true) (hp : SqT X.K H p xs) (hl : xs.length = ts.length) (h : wGs X ts xs σ H Q) (hn : (assignEach ts X.env).length = ts.length := by rfl) (hst : (assignEach ts X.env).findIdx? (·.1) = none := by rfl) : wG X (.Tuple ts k pos) (.ref p) σ H Q :=
  ofG (pg_tup hc sGs hn hst) ⟨p, xs, rfl, hp, hl, h⟩
theorem sasg {tg : Expr} (h : wE X e σ H fun v H1 => wG X tg v σ H1 D.nx) (hs : swapsWithSole [tg] e pos.line X.env = pure false := by rfl) (hw : swappedStores [tg] e X.env = pure none := by rfl)
    (h1 : (assignEach [tg] X.env).map (·.2) = [assign tg X.env] := by rfl) : wS X (.Assign [tg] e pos) D σ H := ofS (ps_asg sE sG hs hw h1) h
/-! ### calls of defs -/
/-- a def of the module: where it stands, how it binds, what it promises -/
def Gf (P : Program) (w : World) (K : PySem.W.Frag) (mg : Str → Option Value) (base : Heap) (k : Nat) (x : Str) (dvs : List V) (sp : Sp) : Prop :=
  ∃ (f : Addr) (fd : FuncData) (ps : List Str) (ds : List Value), mg x = some (.ref f) ∧ PySem.W.keepIn K (.ref f) = true ∧ Binds K fd ps ds ∧ Vals dvs ds ∧ FnOk P w K mg base (L2N.CX P w) k f fd ps sp
theorem Gf.mono {P : Program} {w : World} {K : PySem.W.Frag} {mg : Str → Option Value} {base : Heap} {k j : Nat} {x : Str} {dvs : List V} {sp : Sp} (h : Gf P w K mg base k x dvs sp) (hk : k ≤ j) : Gf P w K mg base j x dvs sp := by
  obtain ⟨f, fd, ps, ds, h1, h2, h3, h4, h5⟩ := h
  exact ⟨f, fd, ps, ds, h1, h2, h3, h4, h5.mono hk⟩
theorem run_gf {pins : List (Addr × Obj)} {s : Shared} {k : Nat} {f : Addr} {fd : FuncData} {ps : List Str} {sp : Sp} {dvs : List V} {ds us : List Value} {vs : List V} (F : FnOk X.prog X.w X.K X.mg X.base (L2N.CX X.prog X.w) k f fd ps sp) (hr : Room k X.A) (hb : Binds X.K fd ps ds) (hd : Vals dvs ds) (tk : L2N.Takes X W)
    (I : Inv X pins σ H s) (r : Vals vs us) (h : sp (vs ++ dvs) H Q fun cls d H' => W cls d σ H') : wpAny (model X.prog X.w) X.A (call (.ref f) us) (EP X pins σ Q) X.xe s := by
  have r2 : Vals (vs ++ dvs) (us ++ ds) := r.append hd
  have hl : (us ++ ds).length = ps.length := r2.length.symm.trans (F.len _ _ _ _ h)
  refine wpAny_call (codeAny_mono (F.run X.A X.stack s H ⟨us, []⟩ (us ++ ds) (vs ++ dvs) Q (fun cls d H' => W cls d σ H') hr I.env0 (hb s us I.kIn hl) r2 h) fun z s' hq => ?_)
  cases z with
  | error er => exact tk er s' (L2N.XE.of_call I (fun _ _ _ q => q) hq)
  | ok fl =>
    cases fl with
    | ret u => exact I.after hq
    | next => exact hq.elim
    | brk => exact hq.elim
    | cont => exact hq.elim
theorem zcall {x : Str} {k j : Nat} {dvs : List V} {sp : Sp} (F : Gf X.prog X.w X.K X.mg X.base k x dvs sp) (hr : Room j X.A) (hk : k ≤ j) (tk : L2N.Takes X W) (hg : Gl X x) (h : wA X (e :: es) σ H fun vs H1 => sp (vs ++ dvs) H1 Q fun cls d H' => W cls d σ H')
    (hdb : (x == ("__debug__" : Str)) = false := by decide) (he : starEach (e :: es) X.env = (false, eval e X.env) :: starEach es X.env := by rfl) (hpl : (backTo pos (starEach es X.env)).any (·.1) = false := by rfl) : wE X (.Call (.Name x p) (e :: es) [] pos) σ H Q := by
  refine ⟨fun pins s I => ?_⟩
  obtain ⟨f, fd, ps, ds, hm, kp, hb, hd, FF⟩ := F
  refine wpAny_Call_Name_kw (ld_glob I hg hm ?_ hdb)
  refine PySem.W.callWith_K (h₀ := X.base) I.ok.mod.kin kp (thn (h.run pos pins s I) fun us s1 ⟨vs, H1, I1, r, q⟩ => ⟨I1.kIn, ?_⟩) he hpl
  exact run_gf FF (hr.mono hk) hb hd tk I1 r q
theorem zcall0 {x : Str} {k j : Nat} {dvs : List V} {sp : Sp} (F : Gf X.prog X.w X.K X.mg X.base k x dvs sp) (hr : Room j X.A) (hk : k ≤ j) (tk : L2N.Takes X W) (hg : Gl X x) (h : sp dvs H Q fun cls d H' => W cls d σ H')
    (hdb : (x == ("__debug__" : Str)) = false := by decide) : wE X (.Call (.Name x p) [] [] pos) σ H Q := by
  refine ⟨fun pins s I => ?_⟩
  obtain ⟨f, fd, ps, ds, hm, kp, hb, hd, FF⟩ := F
  refine wpAny_Call_Name_kw (ld_glob I hg hm ?_ hdb)
  exact PySem.W.callWith_K0 I.kIn kp (run_gf (us := []) (vs := []) FF (hr.mono hk) hb hd tk I .nil h)
/-! ### built-ins -/
theorem zbfn {x : Str} {id : String} (hm : X.mg x = none) (hv : bootBuiltins x = some (.builtin id)) (hg : Gl X x) (h : wA X (e :: es) σ H fun vs H1 => wK X (.builtin id) vs H1 Q) (hn : x ≠ "__name__" := by decide) (hdb : (x == ("__debug__" : Str)) = false := by decide)
    (he : starEach (e :: es) X.env = (false, eval e X.env) :: starEach es X.env := by rfl) (hpl : (backTo pos (starEach es X.env)).any (·.1) = false := by rfl) : wE X (.Call (.Name x p) (e :: es) [] pos) σ H Q := ofE (pe_callB sK hg hm hv sA hn hdb he hpl) h
theorem zbty {x : Str} {T : String} (hm : X.mg x = none) (hv : bootBuiltins x = some (.type T)) (hg : Gl X x) (h : wA X (e :: es) σ H fun vs H1 => wK X (.type T) vs H1 Q) (hn : x ≠ "__name__" := by decide) (hdb : (x == ("__debug__" : Str)) = false := by decide)
    (he : starEach (e :: es) X.env = (false, eval e X.env) :: starEach es X.env := by rfl) (hpl : (backTo pos (starEach es X.env)).any (·.1) = false := by rfl) : wE X (.Call (.Name x p) (e :: es) [] pos) σ H Q := ofE (pe_callTy sK hg hm hv sA hn hdb he hpl) h
theorem klenL {p : Addr} {xs : List V} (hp : SqL X.K H p xs) (h : Q (.int xs.length) H) : wK X (.builtin "len") [.ref p] H Q := ofK call_len_seq ⟨p, xs, rfl, .inl hp, h⟩
theorem klenT {p : Addr} {xs : List V} (hp : SqT X.K H p xs) (h : Q (.int xs.length) H) : wK X (.builtin "len") [.ref p] H Q := ofK call_len_seq ⟨p, xs, rfl, .inr hp, h⟩
theorem klenS {z : Str} (c : z.length ≤ sizeLine) (h : Q (.int z.length) H) : wK X (.builtin "len") [.str z] H Q := ofK call_len_str ⟨z, rfl, c, h⟩
theorem kmax {i j : Int} (hc : X.calm = true) (h : Q (.int (max i j)) H) : wK X (.builtin "max") [.int i, .int j] H Q := ofK (call_max2 hc) ⟨i, j, rfl, by rw [show (if j > i then j else i) = max i j from by omega]; exact h⟩
theorem kmin {i j : Int} (hc : X.calm = true) (h : Q (.int (min i j)) H) : wK X (.builtin "min") [.int i, .int j] H Q := ofK (call_min2 hc) ⟨i, j, rfl, by rw [show (if j < i then j else i) = min i j from by omega]; exact h⟩
theorem klistL {p : Addr} {xs : List V} (hp : SqL X.K H p xs) (h : ∀ q H2, H q = none → Ex H H2 → H2 q = some (.lst xs) → Q (.ref q) H2) : wK X (.type "list") [.ref p] H Q := ofK call_list_of ⟨p, xs, rfl, .inl hp, fun q hq => h q _ hq (Ex.new hq) upd_same⟩
theorem klistT {p : Addr} {xs : List V} (hp : SqT X.K H p xs) (h : ∀ q H2, H q = none → Ex H H2 → H2 q = some (.lst xs) → Q (.ref q) H2) : wK X (.type "list") [.ref p] H Q := ofK call_list_of ⟨p, xs, rfl, .inr hp, fun q hq => h q _ hq (Ex.new hq) upd_same⟩
theorem ktupL {p : Addr} {xs : List V} (hp : SqL X.K H p xs) (h : ∀ q H2, H q = none → Ex H H2 → H2 q = some (.tup xs) → Q (.ref q) H2) : wK X (.type "tuple") [.ref p] H Q := ofK call_tuple_of ⟨p, xs, rfl, .inl ⟨hp, fun q hq => h q _ hq (Ex.new hq) upd_same⟩⟩
theorem kisi {x c : V} {t u : Value} {k : Bool} (hc : ClsV c u) (ty : TyX X.K H x t) (hk : PySem.W.kitOne X.K t u = some k) (h : Q (.bl k) H) : wK X (.builtin "isinstance") [x, c] H Q := ofK call_isi ⟨x, c, t, u, k, rfl, hc, ty, hk, h⟩
/-! ### items, slices, methods -/
theorem zix (h : wE X a σ H fun x H1 => wE X b σ H1 fun y H2 => wIx X x y H2 Q) (hs : PlainIx b := by intro _ _; rfl) : wE X (.Subscript a b pos) σ H Q := ofE (pe_ix sIx sE sE hs) h
theorem ixL {p : Addr} {xs : List V} {i : Int} {v : V} (hp : SqL X.K H p xs) (hi : atI xs i = some v) (h : Q v H) : wIx X (.ref p) (.int i) H Q := ofIx ix_list ⟨p, xs, i, v, rfl, rfl, hp, hi, h⟩
theorem ixT {p : Addr} {xs : List V} {i : Int} {v : V} (hp : SqT X.K H p xs) (hi : atI xs i = some v) (h : Q v H) : wIx X (.ref p) (.int i) H Q := ofIx ix_tup ⟨p, xs, i, v, rfl, rfl, hp, hi, h⟩
theorem ixS {z : Str} {i : Int} {c : Nat} (hz : z.length ≤ sizeLine) (hi : atI z.cps.toList i = some c) (h : Q (.str ⟨#[c]⟩) H) : wIx X (.str z) (.int i) H Q := ofIx ix_str ⟨z, i, c, rfl, rfl, hz, hi, h⟩
/-- l.append(e) -/
theorem zapp (h : wE X o σ H fun x H1 => ∃ l xs0, x = .ref l ∧ H1 l = some (.lst xs0) ∧ wE X e σ H1 fun y H2 => ∃ xs, H2 l = some (.lst xs) ∧ xs.length < sizeLine ∧ Q .non (upd H2 l (.lst (xs ++ [y])))) (hsa : starEach [e] X.env = (false, eval e X.env) :: starEach [] X.env := by rfl)
    (he : ∀ t : TA, PA X [e] t → PE X (.Call (.Attribute o "append" apos) [e] [] pos) (tBM X.K "list" rAppend (wE X o) t) := by intro t ht; exact pe_bm PySem.F.plainAttrs_list PySem.F.slot_list_append PySem.F.type_list_append mt_append sE ht) :
    wE X (.Call (.Attribute o "append" apos) [e] [] pos) σ H Q := by
  refine ofE (he _ (pa_cons sE pa_nil hsa)) ⟨fun pins s I => thn (h.run pins s I) fun u s1 ⟨x, H1, I1, r1, l, xs0, ex, hl, q⟩ => ⟨x, H1, I1, r1, ?_⟩⟩
  subst ex
  refine ⟨.inl ⟨rfl, xs0, SqL.of hl⟩, ⟨fun pins2 s2 J => thn (q.run pins2 s2 J) fun u2 s3 ⟨y, H2, I2, r2, xs, h2, hz, q2⟩ => ⟨y, H2, I2, r2, ?_⟩⟩⟩
  exact ⟨l, xs, y, rfl, rfl, h2, hz, q2⟩
/-! ### loops -/
variable {tg l : Expr} {body : List Stmt}
theorem lfor {wi : TI} (hp : PassesOwn (model X.prog X.w) X.A X.env X.xe) (hc : X.calm = true) (hi : PI X tg l wi) (h : tFor wi (wG X tg) (wB X body) D σ H) (hs : ∀ x, foldedSetIterable l X.env x = pure x := by intro _; rfl) : wS X (.For tg l body [] pos) D σ H := ofS (ps_for hp hc hi sG sB hs) h
/-- over a list that the body leaves as it is -/
theorem lforL {xs : List V} (hp : PassesOwn (model X.prog X.w) X.A X.env X.xe) (hc : X.calm = true) (Pv : Nat → St → Hp → Prop)
    (h : wE X l σ H fun x H1 => ∃ a, x = .ref a ∧ SqL X.K H1 a xs ∧ Pv 0 σ H1 ∧ (∀ i σ H, i ≤ xs.length → Pv i σ H → SqL X.K H a xs) ∧
      (∀ i x σ H, xs[i]? = some x → Pv i σ H → wG X tg x σ H fun σ2 H2 => wB X body { D with nx := Pv (i + 1), ct := Pv (i + 1), bk := D.nx } σ2 H2) ∧ ∀ σ H, Pv xs.length σ H → D.nx σ H)
    (hs : ∀ x, foldedSetIterable l X.env x = pure x := by intro _; rfl) : wS X (.For tg l body [] pos) D σ H :=
  lfor hp hc (pi_list sE) ⟨fun pins s I => thn (h.run pins s I) fun u s1 ⟨x, H1, I1, r, a, ex, hq, h0, hl, ht, hd⟩ => ⟨x, H1, I1, r, a, ex, ⟨xs, hq⟩, for_list Pv h0 hl ht hd⟩⟩ hs
theorem lforT {xs : List V} (hp : PassesOwn (model X.prog X.w) X.A X.env X.xe) (hc : X.calm = true) (Pv : Nat → St → Hp → Prop)
    (h : wE X l σ H fun x H1 => ∃ a, x = .ref a ∧ SqT X.K H1 a xs ∧ Pv 0 σ H1 ∧ (∀ i σ H, i ≤ xs.length → Pv i σ H → SqT X.K H a xs) ∧
      (∀ i x σ H, xs[i]? = some x → Pv i σ H → wG X tg x σ H fun σ2 H2 => wB X body { D with nx := Pv (i + 1), ct := Pv (i + 1), bk := D.nx } σ2 H2) ∧ ∀ σ H, Pv xs.length σ H → D.nx σ H)
    (hs : ∀ x, foldedSetIterable l X.env x = pure x := by intro _; rfl) : wS X (.For tg l body [] pos) D σ H :=
  lfor hp hc (pi_tup sE) ⟨fun pins s I => thn (h.run pins s I) fun u s1 ⟨x, H1, I1, r, a, ex, hq, h0, hl, ht, hd⟩ => ⟨x, H1, I1, r, a, ex, ⟨xs, hq⟩, for_tup Pv h0 hl ht hd⟩⟩ hs
theorem lfor1 {n : Int} (hm : X.mg "range" = none) (hp : PassesOwn (model X.prog X.w) X.A X.env X.xe) (hc : X.calm = true) (Pv : Nat → St → Hp → Prop) (hg : Gl X "range")
    (h : wE X a σ H fun x H1 => x = .int n ∧ n < 2 ^ 62 ∧ -(2 ^ 62) ≤ n ∧ Pv 0 σ H1 ∧ (∀ (i : Nat) σ H, (i : Int) < n → Pv i σ H → wG X tg (.int (i : Int)) σ H fun σ2 H2 => wB X body { D with nx := Pv (i + 1), ct := Pv (i + 1), bk := D.nx } σ2 H2) ∧ ∀ σ H, Pv n.toNat σ H → D.nx σ H)
    (hs : ∀ x, foldedSetIterable (.Call (.Name "range" p) [a] [] pos') X.env x = pure x := by intro _; rfl) (hsa : starEach [a] X.env = [(false, eval a X.env)] := by rfl) : wS X (.For tg (.Call (.Name "range" p) [a] [] pos') body [] pos) D σ H :=
  lfor hp hc (pi_range1 hg hm (pa_cons sE pa_nil hsa) hsa) ⟨fun pins s I => thn (h.run pins s I) fun u s1 ⟨x, H1, I1, r, ex, n1, n2, h0, ht, hd⟩ => ⟨x, H1, I1, r, n, by rw [ex], n2, n1, for_range Pv h0 (fun i σ H hi hP => by rw [Int.zero_add]; exact ht i σ H (by omega) hP) hd⟩⟩ hs
theorem lfor2 {lo n : Int} (hm : X.mg "range" = none) (hp : PassesOwn (model X.prog X.w) X.A X.env X.xe) (hc : X.calm = true) (Pv : Nat → St → Hp → Prop) (hg : Gl X "range")
    (h : wE X a σ H fun x H1 => x = .int lo ∧ wE X b σ H1 fun y H2 => y = .int n ∧ (-(2 ^ 62) ≤ lo ∧ lo < 2 ^ 62 ∧ -(2 ^ 62) ≤ n ∧ n < 2 ^ 62) ∧ Pv 0 σ H2 ∧ (∀ (i : Nat) σ H, lo + (i : Int) < n → Pv i σ H → wG X tg (.int (lo + (i : Int))) σ H fun σ2 H2 => wB X body { D with nx := Pv (i + 1), ct := Pv (i + 1), bk := D.nx } σ2 H2) ∧ ∀ σ H, Pv (n - lo).toNat σ H → D.nx σ H)
    (hs : ∀ x, foldedSetIterable (.Call (.Name "range" p) [a, b] [] pos') X.env x = pure x := by intro _; rfl) (hsa : starEach [a, b] X.env = [(false, eval a X.env), (false, eval b X.env)] := by rfl) (hsb : starEach [b] X.env = [(false, eval b X.env)] := by rfl) : wS X (.For tg (.Call (.Name "range" p) [a, b] [] pos') body [] pos) D σ H :=
  lfor hp hc (pi_range2 hg hm (pa_cons sE (pa_cons sE pa_nil hsb) (by rw [hsa, hsb])) hsa hsb) ⟨fun pins s I => thn (h.run pins s I) fun u s1 ⟨x, H1, I1, r, ex, h2⟩ => ⟨x, H1, I1, r, ⟨fun pins2 s2 J => thn (h2.run pins2 s2 J) fun u2 s3 ⟨y, H2, I2, r2, ey, hb, h0, ht, hd⟩ => ⟨y, H2, I2, r2, lo, n, by rw [ex, ey], hb, for_range Pv h0 (fun i σ H hi hP => ht i σ H (by omega) hP) hd⟩⟩⟩⟩ hs
theorem lwhile (hp : PassesOwn (model X.prog X.w) X.A X.env X.xe) (Pv : St → Hp → Prop) (μ : St → Hp → Nat) (h0 : Pv σ H)
    (h : ∀ σ H, Pv σ H → wT X c σ H fun k H1 => if k = true then wB X body { D with nx := fun σ' H' => Pv σ' H' ∧ μ σ' H' < μ σ H, ct := fun σ' H' => Pv σ' H' ∧ μ σ' H' < μ σ H, bk := D.nx } σ H1 else D.nx σ H1) : wS X (.While c body [] pos) D σ H :=
  ofS (ps_while hp sT sB) (while_by Pv μ h0 h fun σ H Q Q' q z => z.imp q)
/-! ### exceptions -/
structure wM (X : Cx) (e : Expr) (σ : St) (H : Hp) (Q : XK) : Prop where
  run : ∀ (pins : List (Addr × Obj)) (s : Shared), Inv X pins σ H s → wpAny (model X.prog X.w) X.A (eval e X.env) (L2N.MkP X pins σ Q) X.xe s
theorem sM : L2N.PMk X e (wM X e) := fun pins s σ H Q I h => h.run pins s I
theorem sraise (hc : X.calm = true) (tk : L2N.Takes X W) (h : wM X e σ H fun cls d H' => W cls d σ H') : wS X (.Raise (some e) none pos) D σ H := ofS (L2N.ps_raise hc tk sM) h
/-- a class without an own __init__, made with a text -/
theorem mown {x m : Str} {j : Nat} {C : Addr} {bmB : List Value} {B newId initId : String} (F : ExcBaseFacts B newId initId bmB) (q : PySem.W.excIn X.K C bmB newId = true) (gC : X.mg x = some (.ref C)) (kC : PySem.W.keepIn X.K (.ref C) = true) (r : Raises X (.ref C)) (hg : Gl X x) {Q : XK} (h : Q (.ref C) none H)
    (hdb : (x == ("__debug__" : Str)) = false := by decide) : wM X (.Call (.Name x p) [.Constant (.str m) j p2] [] pos) σ H Q := ⟨fun pins s I => L2N.pmk_own F q gC kC r hg hdb pins s σ H Q I h⟩
/-- try: body, except x as n: suite -/
theorem stry {x n : Str} {cl : Value} {np : Pos} {suite : List Stmt} {b₀ : Stmt} (i : Nat) (hN : X.N.Nodup) (tk : L2N.Takes X W) (hc : Names X x cl) (hs : X.stack = X.env :: X.outer) (hf : X.env.frame = some X.env.locals) (hi : X.N[i]? = some n) (hln : X.env.kindOf n = some .local)
    (h : ∀ (pn : List (Addr × Obj)) (xe : Value → Shared → Prop), PassesOwn (model X.prog X.w) X.A X.env xe → L2N.Takes (X.tr pn xe) (fun cls d σ1 H1 => ∃ k, PySem.W.exmOne X.K cls cl = some k ∧
        (k = true → ∀ a oe pn, H1 a = none → L2N.Zn cls d oe → (∃ vs, oe.data = .fields vs) → wB (X.suite a ((a, oe) :: pn)) (b₀ :: suite) { nx := fun σ' H' => D.nx (σ'.set i none) H', rt := D.rt, bk := fun σ' H' => D.bk (σ'.set i none) H', ct := fun σ' H' => D.ct (σ'.set i none) H' } (σ1.set i (some (.ref a))) H1) ∧
        (k = false → W cls d σ1 H1)) → wB (X.tr pn xe) body D σ H) : wS X (.Try body [.ExceptHandler (some (.Name x np)) (some n) (b₀ :: suite) pos'] [] [] pos) D σ H := by
  refine ofS (L2N.ps_try_as (tb := fun W' => fun D σ H => ∀ (pn : List (Addr × Obj)) (xe : Value → Shared → Prop), PassesOwn (model X.prog X.w) X.A X.env xe → L2N.Takes (X.tr pn xe) W' → wB (X.tr pn xe) body D σ H)
    (ts := fun a cls d => fun D σ H => ∀ oe pn, L2N.Zn cls d oe → (∃ vs, oe.data = .fields vs) → wB (X.suite a ((a, oe) :: pn)) (b₀ :: suite) D σ H) hs hf hN hi hln hc tk (fun W' pn xe tk' po => ⟨fun pins s σ H D I q => (q pn xe po tk').run pins s I⟩) (fun a oe cls d pn hz hd => ⟨fun pins s σ H D I q => (q oe pn hz hd).run pins s I⟩)) ?_
  intro pn xe po tk'
  refine h pn xe po (tk'.imp fun cls d σ1 H1 q => ?_)
  obtain ⟨k, h1, h2, h3⟩ := q
  exact ⟨k, h1, fun hk a ha oe pn hz hd => h2 hk a oe pn ha hz hd, h3⟩
end
end Z

set_option maxRecDepth 100000
set_option maxHeartbeats 4000000
namespace Z
open PySem PySem.Spec PyProof.Rows L2
open Evl (Ex)
/-! ### where an exception is handled: what is known of it -/
structure HX (X : Cx) (p : Addr × Obj) (cls : Value) (d : Option Addr) : Prop where
  hot : L2H.Hot1 X.A p
  mem : p ∈ X.pn
  zn : L2N.Zn cls d p.2
  fl : ∃ vs, p.2.data = .fields vs
theorem hx_suite {X : Cx} {a : Addr} {oe : Obj} {pn : List (Addr × Obj)} {cls : Value} {d : Option Addr} (hz : L2N.Zn cls d oe) (hf : ∃ vs, oe.data = .fields vs) : HX (X.suite a ((a, oe) :: pn)) (a, oe) cls d :=
  ⟨⟨rfl, by obtain ⟨vs, e⟩ := hf; exact ⟨vs, e, hz.2.2 vs e⟩⟩, List.mem_cons_self, hz, hf⟩
theorem HX.hotC {X : Cx} {p : Addr × Obj} {cls : Value} {d : Option Addr} (h : HX X p cls d) : L2H.HotC X := ⟨p, h.hot, h.mem⟩
section
variable {prog : Program} {w : World} {A : Around} {E : Value → Shared → Prop} {s : Shared}
/-- the last step of an iterator's end where an exception is handled: StopIteration is made, bears the handled one, is caught -/
theorem stop_hot {h0 h1 : Heap} {it x1 : Addr} {A' : Around} {g : Array GenState} {d : Drawn} {t : Nat} {os : OsState} (hot : HotX.HotAt A' x1 h1)
    (k : ∀ b o, b ≠ it → h0.get? b = some o → h1.get? b = some o)
    (hQ : ∀ (h' : Heap) (a : Addr), (∀ b o, b ≠ it → h0.get? b = some o → h'.get? b = some o) → (∃ o : Obj, h'.get? a = some o ∧ o.cls = .type "StopIteration") → E (.ref a) ⟨h', g, d, t, os⟩) {Q' : PySem.Fin → Shared → Prop} :
    wpAny (model prog w) A' Builtin.SmallTypes.stopIteration Q' E ⟨h1, g, d, t, os⟩ := by
  obtain ⟨hh, o1, vs1, g1, d1, c1⟩ := hot
  show wpAny _ _ (newExc (Value.type "StopIteration") [] >>= _) Q' E _; refine wpAny_bind ?_
  simp only [newExc, newTuple]
  refine wpAny_bind (wpAny_newObj_type ?_ (by size_fits)); refine wpAny_bind (m := firstArgMember _ _) (wpAny_of_eq (a := Value.none) (by first | rfl | (simp only [firstArgMember]; rfl)) ?_)
  refine wpAny_newObj_type (HotX.raiseNew_hot ⟨hh, o1, vs1, Heap.get?_push_of_some _ (Heap.get?_push_of_some _ g1), d1, c1⟩ (Nat.ne_of_lt (Heap.lt_size (Heap.get?_push_of_some _ g1))) (Heap.get?_push_size _ rfl) rfl (by first | (simp; done) | (simp; omega) | (simp only [Array.size_append]; simp; omega)) ?_) (by size_fits)
  refine hQ _ _ (fun b o hb e => ?_) ⟨_, Heap.get?_update_self _ (Heap.get?_push_size _ rfl) rfl, rfl⟩
  have q := Heap.get?_push_of_some { cls := Value.type "tuple", data := Data.seq ([] : List Value).toArray } (k b o hb e)
  rw [Heap.get?_update_other _ _ (Nat.ne_of_gt (Heap.lt_size q))]
  exact Heap.get?_push_of_some _ q
theorem list_end_hot {it l x1 : Addr} {i : Nat} {items} {Q : Option Value → Shared → Prop} (hot : HotX.HotAt A x1 s.heap) (ne : x1 ≠ it) (hit : s.heap.IsListIter it l i) (hl : s.heap.IsList l items) (hx : items[i]? = none)
    (hQ : ∀ h', (∀ b o, b ≠ it → s.heap.get? b = some o → h'.get? b = some o) → Q none { s with heap := h' }) : wpAny (model prog w) A (pyNext (.ref it)) Q E s := by
  obtain ⟨o, ho, hc, hd⟩ := id hit; obtain ⟨ol, hol, _, nl, hdl⟩ := hl; obtain ⟨hh, o1, vs1, g1, d1, c1⟩ := hot
  unfold pyNext
  refine wpAny_bind (wpAny_attempt (wpAny_callSpecial?_slot (name := Str.ofString "__next__") hit.typeIs slot_listiter_next (wpAny_call_entry slot_listiter_next hit.typeIs entry_listiter_next ?_ (args_listiter_next _))))
  show wpAny _ _ (field (.ref it) 0 >>= _) _ _ s; refine wpAny_bind (wpAny_field ho hd (x := .ref l) rfl ?_)
  show wpAny _ _ (if (Value.ref l == Value.none) = true then _ else _) _ _ s; rw [if_neg (show ¬ ((Value.ref l == Value.none) = true) from Bool.false_ne_true)]
  show wpAny _ _ (field (.ref it) 1 >>= _) _ _ s; refine wpAny_bind (wpAny_field ho hd (x := .int i 0) rfl ?_)
  show wpAny _ _ (seqItems? (.ref l) >>= _) _ _ s; refine wpAny_bind (wpAny_seqItems hol hdl ?_); simp only [Int.toNat_natCast, hx]
  refine wpAny_bind (wpAny_rule (wpAny_bind (wpAny_setField ho hd (by simp) ?_)))
  refine stop_hot (A' := A.in1) (h0 := s.heap) (it := it) ⟨hh, o1, vs1, (Heap.get?_update_other _ _ (Ne.symm ne)).trans g1, d1, c1⟩ (fun b o hb e => (Heap.get?_update_other _ _ (Ne.symm hb)).trans e) (fun h' a k ⟨oe, ge, ce⟩ => ?_)
  exact wpAny_bind (wpAny_isInstance (T := "StopIteration") (b := true) ⟨oe, ge, ce⟩ isSubtype_stop (wpAny_pure (hQ _ k)))
theorem tuple_end_hot {it t x1 : Addr} {i : Nat} {items} {Q : Option Value → Shared → Prop} (hot : HotX.HotAt A x1 s.heap) (ne : x1 ≠ it) (hit : IsTupIter s.heap it t i) (hl : IsTup s.heap t items) (hx : items[i]? = none)
    (hQ : ∀ h', (∀ b o, b ≠ it → s.heap.get? b = some o → h'.get? b = some o) → Q none { s with heap := h' }) : wpAny (model prog w) A (pyNext (.ref it)) Q E s := by
  obtain ⟨o, ho, hc, hd⟩ := id hit; obtain ⟨ol, hol, _, nl, hdl⟩ := hl; obtain ⟨hh, o1, vs1, g1, d1, c1⟩ := hot
  unfold pyNext
  refine wpAny_bind (wpAny_attempt (wpAny_callSpecial?_slot (name := Str.ofString "__next__") hit.typeIs slot_tupleiter_next (wpAny_call_entry slot_tupleiter_next hit.typeIs entry_tupleiter_next ?_ (args_tupleiter_next _))))
  show wpAny _ _ (field (.ref it) 0 >>= _) _ _ s; refine wpAny_bind (wpAny_field ho hd (x := .ref t) rfl ?_)
  show wpAny _ _ (if (Value.ref t == Value.none) = true then _ else _) _ _ s; rw [if_neg (show ¬ ((Value.ref t == Value.none) = true) from Bool.false_ne_true)]
  show wpAny _ _ (field (.ref it) 1 >>= _) _ _ s; refine wpAny_bind (wpAny_field ho hd (x := .int i 0) rfl ?_)
  show wpAny _ _ (seqItems? (.ref t) >>= _) _ _ s; refine wpAny_bind (wpAny_seqItems hol hdl ?_); simp only [Int.toNat_natCast, hx]
  refine wpAny_bind (wpAny_rule (wpAny_bind (wpAny_setField ho hd (by simp) ?_)))
  refine stop_hot (A' := A.in1) (h0 := s.heap) (it := it) ⟨hh, o1, vs1, (Heap.get?_update_other _ _ (Ne.symm ne)).trans g1, d1, c1⟩ (fun b o hb e => (Heap.get?_update_other _ _ (Ne.symm hb)).trans e) (fun h' a k ⟨oe, ge, ce⟩ => ?_)
  exact wpAny_bind (wpAny_isInstance (T := "StopIteration") (b := true) ⟨oe, ge, ce⟩ isSubtype_stop (wpAny_pure (hQ _ k)))
/-- a tuple unpacked where an exception is handled -/
theorem unpack_hot {t x1 : Addr} {items : Array Value} {Q : List Value → Shared → Prop} (hot : HotX.HotAt A x1 s.heap) (ht : IsTup s.heap t items)
    (hQ : ∀ h', (∀ b o, s.heap.get? b = some o → h'.get? b = some o) → Q items.toList { s with heap := h' }) : wpAny (model prog w) A (unpackItems (.ref t) items.size none) Q E s := by
  have hlt : t ≠ s.heap.objs.size := by obtain ⟨o, ho, _⟩ := ht; exact Nat.ne_of_lt (Heap.lt_size ho)
  obtain ⟨hh, o1, vs1, g1, d1, c1⟩ := hot
  unfold unpackItems
  refine wpAny_bind ?_
  unfold notIterableAtAll
  refine wpAny_bind (wpAny_specialOf ht.typeIs slot_tuple_iter.lookup (wpAny_pure ?_)); simp only [Bool.false_eq_true, if_false]
  refine wpAny_bind (wpAny_holding (iter_tuple ht ?_))
  refine wpAny_bind (wpAny_holding (draw_tuple hlt items.size 0 _ _ ⟨_, Heap.get?_push_size _ rfl, rfl, rfl⟩ (ht.push _) (by omega) fun ha hita hsa => ?_))
  rw [show List.take items.size (List.drop 0 items.toList) = items.toList from by rw [List.drop_zero]; exact List.take_of_length_le (by simp), if_neg (by simp)]
  have n1 : x1 ≠ s.heap.objs.size := Nat.ne_of_lt (Heap.lt_size g1)
  refine wpAny_bind (wpAny_holding (tuple_end_hot ⟨hh, o1, vs1, (hsa.2 x1 n1).trans (Heap.get?_push_of_some _ g1), d1, c1⟩ n1 hita ((ht.push _).extBut hsa.extBut hlt) (by simp) fun hb kb => ?_))
  simp only [Option.isSome_none, Bool.false_eq_true, if_false]
  refine wpAny_pure (hQ hb fun b o e => kb b o (Nat.ne_of_lt (Heap.lt_size e)) ((hsa.2 b (Nat.ne_of_lt (Heap.lt_size e))).trans (Heap.get?_push_of_some _ e)))
end
end Z
namespace Z
open PySem PySem.Spec PyProof.Rows L2
open Evl (Ex)
/-! ### a comprehension over a list where an exception is handled -/
/-- the block's context, with the pins of the def's -/
abbrev blkH (X : Cx) (s : Shared) (H : Hp) (scope : Scope) (ce : Env) (fp : List Addr) : Cx := { X.blk s H scope ce fp with pn := X.pn }
theorem Inv.toH {X : Cx} {s0 s : Shared} {H0 H : Hp} {scope : Scope} {ce : Env} {fp : List Addr} {σ : St} {pins : List (Addr × Obj)} (I : Inv (X.blk s0 H0 scope ce fp) [] σ H s)
    (h : ∀ p ∈ X.pn ++ pins, s.heap.get? p.1 = some p.2 ∧ H p.1 = none ∧ p.1 ≠ ce.locals ∧ p.1 ∉ frs X.stack ∧ ∀ v, p.2.data ≠ .cell v) : Inv (blkH X s0 H0 scope ce fp) pins σ H s :=
  ⟨⟨I.ok.mod, I.ok.kind, I.ok.glob, I.ok.blt, I.ok.above, I.ok.inj, I.ok.has, I.ok.cab, I.ok.hd, I.ok.frames, I.ok.stk, I.ok.exf, I.ok.bs, I.ok.bsz, I.ok.noex, I.ok.exfs, I.ok.funs, I.ok.frf⟩, I.os, I.bare, I.base, I.loc, I.cell, I.free, I.freeC, h, I.hok, I.len⟩
theorem Inv.fromH {X : Cx} {s0 s : Shared} {H0 H : Hp} {scope : Scope} {ce : Env} {fp : List Addr} {σ : St} {pins : List (Addr × Obj)} (I : Inv (blkH X s0 H0 scope ce fp) pins σ H s) : Inv (X.blk s0 H0 scope ce fp) pins σ H s :=
  ⟨⟨I.ok.mod, I.ok.kind, I.ok.glob, I.ok.blt, I.ok.above, I.ok.inj, I.ok.has, I.ok.cab, I.ok.hd, I.ok.frames, I.ok.stk, I.ok.exf, I.ok.bs, I.ok.bsz, I.ok.noex, I.ok.exfs, I.ok.funs, I.ok.frf⟩, I.os, I.bare, I.base, I.loc, I.cell, I.free, I.freeC, fun p hp => I.pin p (List.mem_append_right _ hp), I.hok, I.len⟩

/-- a list's iterator there -/
theorem turn_listH {P : Program} {w : World} {K : PySem.W.Frag} {tg : Expr} (a it : Addr) : L2H.TurnH P w K tg (Itl K a) [it] it (fun i h => h.IsListIter it a i) where
  mem := List.mem_singleton.mpr rfl
  obj := fun i h ⟨o, e, c, dd⟩ b hb => by obtain rfl := List.mem_singleton.mp hb; exact ⟨o, e, fun v z => by rw [dd] at z; cases z⟩
  keep := fun i h h' st k => st.at fun o e => k it (List.mem_singleton.mpr rfl) o e
  item := fun X hP hw hK hc i pins s σ H E I hf st hg => by
    subst hP hw hK
    obtain ⟨xs, x, hq, hx⟩ := hg; obtain ⟨its, rv, p, hz⟩ := I.list hq; obtain ⟨u, hu, ru⟩ := rv.get hx; obtain ⟨f0, f1, f2, f3, f4, f5⟩ := hf it (List.mem_singleton.mpr rfl)
    refine wpAny_pyNext_list_item st p.isList (x := u) (by simpa using hu) fun h' st' sb => ⟨u, rfl, ?_⟩
    obtain ⟨o, e, c, dd⟩ := id st'
    exact go_of (s := { s with heap := h' }) e c dd (by decide) ⟨x, H, I.turned (t' := s.toks) (fun b o hb z => (sb.2 b hb).trans z) f0 f1 f3 f4 f5, ru, ⟨rfl, fun ys hy => by rw [I.list_inj hy hq]; exact hx⟩, st', fun b hb => (hf b hb).1⟩
  done := fun X hP hw hK hc i pins s σ H E I hf st hg => by
    subst hP hw hK
    obtain ⟨xs, hq, hx⟩ := hg; obtain ⟨its, rv, p, hz⟩ := I.list hq; obtain ⟨f0, f1, f2, f3, f4, f5⟩ := hf it (List.mem_singleton.mpr rfl)
    obtain ⟨p1, hot, hm⟩ := hc
    have P1 := I.pin p1 (List.mem_append_left _ hm); obtain ⟨hh, vs, e1, c1⟩ := hot
    have hl := rv.length
    exact list_end_hot ⟨hh, _, vs, P1.1, e1, c1⟩ (f5 p1 (List.mem_append_left _ hm)) st p.isList (by simp; omega) fun h' k => ⟨rfl, I.turned (t' := s.toks) k f0 f1 f3 f4 f5⟩
  self := fun _ _ _ _ _ st h => wpAny_pyIter_listiter st h
theorem pi_listH {X : Cx} {tg l : Expr} : L2H.PIH X tg l (iList X.K (wE X l)) := by
  refine ⟨fun pins s σ H R I h => thn (h.run pins s I) fun v s1 ⟨x, H1, I1, r1, a, ex, ⟨xs, hq⟩, q⟩ => ?_⟩
  subst ex; obtain rfl : v = Value.ref a := r1
  obtain ⟨its, rv, p, hz⟩ := I1.list hq
  refine wpAny_pyIter_list p.isList ⟨s1.heap.objs.size, [s1.heap.objs.size], _, _, H1, rfl, I1.kept (t' := s1.toks) fun b o e => Heap.get?_push_of_some _ e, turn_listH a _, ⟨_, Heap.get?_push_size _ rfl, rfl, rfl⟩, fun b hb => ?_, q⟩
  obtain rfl := List.mem_singleton.mp hb
  exact I1.fpOk (Nat.le_refl _) (I1.hok.fresh (Nat.le_refl _))
section
variable {X : Cx} {σ : St} {H : Hp}
/-- the block of a comprehension, its last piece hRR as the library's -/
theorem lcH {pins : List (Addr × Obj)} {s : Shared} {Q : VK} {elt tg l : Expr} {ifs : List Expr} {scope : Scope} {own : List (Str × Nat)} {pos pos' : Pos} {wi : TI} {use : Option (Value → Sem Unit)} {Qf : Value → Shared → Prop} {p : Addr × Obj} {cls : Value} {d : Option Addr} {g : TG} {tt : TT} {te : TE} (hx : HX X p cls d)
    (hN : X.N.Nodup) (I : Inv X pins σ H s) (hi : L2H.PIH X tg l wi) (ok : BlkOk X.N X.env.scope scope own) (hs : ∀ x, foldedSetIterable l X.env x = pure x)
    (hg : ∀ (s : Shared) (H : Hp) (C : Addr) (cl : List (Str × Addr)) (fp : List Addr), PG (blkH X s H scope (compEnvC scope cl C X.env) fp) tg g ∧ PTs (blkH X s H scope (compEnvC scope cl C X.env) fp) ifs tt ∧ PE (blkH X s H scope (compEnvC scope cl C X.env) fp) elt te)
    (h : tLc wi g tt te (own.map (·.2)) σ H Q)
    (fin : ∀ L C s' m H', Inv X pins σ H' s' → Q (.ref L) H' → s'.heap.Ns C m → FpOk X pins H' C → compPost (model X.prog X.w) X.A X.xe use Qf (.ref L) C (.ok .next) s') :
    wpAny (model X.prog X.w) X.A (comprehension (.ListComp elt [⟨tg, l, ifs, 0⟩] scope pos) scope X.env pos' (newList []) false (eval l X.env) use) Qf X.xe s := by
  have hfr : ∀ y ∈ scope.names, y.2 = .free → ∃ c, X.env.cells.lookup y.1 = some c := fun z hz e => (ok.free z hz e).elim (fun k => I.ok.has _ (.inl k)) fun k => I.ok.has _ (.inr k)
  refine wpAny_comprehension_free (use := use) rfl hs (closure_ok hfr) ok.kind (fun z hz e => by rw [ok.uniq z hz, e]) (thn (hi.run pins s σ H _ I h) fun xv s1 hxv => thn hxv fun itv s2 hit => ?_)
  obtain ⟨it, fp, tn, J, H2, rfl, I2, T, st2, f2, q⟩ := hit
  refine wpAny_newObj_type (newEnv_comp ?_) (by show 0 ≤ sizeLine; decide)
  have hLn : H2 s2.heap.objs.size = none := I2.hok.fresh (Nat.le_refl _)
  obtain ⟨W, ⟨m0, w0⟩, turn⟩ := q _ hLn
  have I3 : Inv X pins σ (upd H2 s2.heap.objs.size (.lst [])) { s2 with heap := s2.heap.push { cls := .type "list", data := .seq ([] : List Value).toArray } } :=
    I2.laid (t' := s2.toks) (fun b o e => Heap.get?_push_of_some _ e) (Nat.le_refl _) ⟨Nat.zero_le _, [], 0, .nil, Heap.get?_push_size _ rfl⟩
  have szp : ∀ b ∈ fp, b < s2.heap.objs.size := fun b hb => by obtain ⟨o, e, _⟩ := T.obj _ _ st2 b hb; exact Heap.lt_size e
  have st3 : tn 0 (s2.heap.push { cls := .type "list", data := .seq ([] : List Value).toArray }) := T.keep _ _ _ st2 fun b _ o e => Heap.get?_push_of_some _ e
  generalize hL : s2.heap.objs.size = L at *
  generalize hs3 : ({ s2 with heap := s2.heap.push { cls := .type "list", data := .seq ([] : List Value).toArray } } : Shared) = s3 at I3
  have h3 : s2.heap.push { cls := .type "list", data := .seq ([] : List Value).toArray } = s3.heap := by rw [← hs3]
  have sz3 : s3.heap.objs.size = L + 1 := by rw [← hs3, ← hL]; exact Heap.size_push ..
  rw [h3] at st3
  have f3 : ∀ b ∈ fp, FpOk X pins (upd H2 L (.lst [])) b ∧ b < s3.heap.objs.size := fun b hb => ⟨⟨by rw [upd_ne (Nat.ne_of_lt (szp b hb))]; exact (f2 b hb).1, (f2 b hb).2⟩, by rw [sz3]; exact Nat.lt_succ_of_lt (szp b hb)⟩
  have I4 := block_start I3 ok hN f3
  obtain ⟨pg, pt, pe⟩ := hg s3 (upd H2 L (.lst [])) s3.heap.objs.size (cellsFrom (s3.heap.objs.size + 1) scope.names (cloFrom X.env.cells scope.names [])) fp
  show codeAny _ _ (.compStart _ 0 (.ref it) (.ref L) (compEnvC scope (cellsFrom (s3.heap.objs.size + 1) scope.names (cloFrom X.env.cells scope.names [])) s3.heap.objs.size X.env)) (compPost (model X.prog X.w) X.A X.xe use Qf (.ref L) s3.heap.objs.size) { s3 with heap := pushCells (s3.heap.push { cls := .type "dict", data := .dict #[] }) scope.names }
  generalize hce : compEnvC scope (cellsFrom (s3.heap.objs.size + 1) scope.names (cloFrom X.env.cells scope.names [])) s3.heap.objs.size X.env = ce at I4 pg pt pe ⊢
  have cL : ce.locals = s3.heap.objs.size := by subst hce; rfl
  generalize hH3 : upd H2 L (.lst []) = H3 at I3 I4 pg pt pe w0 f3
  have kp4 : ∀ b o, s3.heap.get? b = some o → (pushCells (s3.heap.push { cls := .type "dict", data := .dict #[] }) scope.names).get? b = some o := fun b o e => pushCells_keeps _ _ _ _ (Heap.get?_push_of_some _ e)
  generalize hs4 : ({ s3 with heap := pushCells (s3.heap.push { cls := .type "dict", data := .dict #[] }) scope.names } : Shared) = s4 at I4 ⊢
  have h4 : pushCells (s3.heap.push { cls := .type "dict", data := .dict #[] }) scope.names = s4.heap := by rw [← hs4]
  rw [h4] at kp4
  have st4 : tn 0 s4.heap := T.keep _ _ _ st3 fun b _ o e => kp4 b o e
  have pinB : ∀ p ∈ X.pn ++ [], s4.heap.get? p.1 = some p.2 ∧ H3 p.1 = none ∧ p.1 ≠ ce.locals ∧ p.1 ∉ frs X.stack ∧ ∀ v, p.2.data ≠ .cell v := fun p hp => by
    obtain ⟨e1, e2, e3, e4, e5⟩ := I3.pin p (List.mem_append_left _ (by rw [List.append_nil] at hp; exact hp))
    exact ⟨kp4 _ _ e1, e2, by rw [cL]; exact Nat.ne_of_lt (Heap.lt_size e1), fun hm => (List.mem_cons.mp (I3.stkSub _ hm)).elim e3 e4, e5⟩
  have I5 := Inv.toH I4 pinB
  have hxB : HX (blkH X s3 H3 scope ce fp) p cls d := ⟨hx.hot, hx.mem, hx.zn, hx.fl⟩
  have stat : ∀ {σ' : St} {H' : Hp} {s' : Shared}, Inv (blkH X s3 H3 scope ce fp) [] σ' H' s' → (∀ b ∈ fp, H' b = none) → ∀ b ∈ fp, FpOk (blkH X s3 H3 scope ce fp) [] H' b := fun {σ' H' s'} I' hn b hb =>
    ⟨hn b hb, (I'.ok.exf b hb).1, I'.ok.exfs b hb, .inl hb, fun x c e => (I'.ok.exf b hb).2 x c e, fun p hp => (f3 b hb).1.2.2.2.2.2 p (by rw [List.append_nil] at hp; exact List.mem_append_left _ hp)⟩
  have nfp : ∀ b ∈ fp, H3 b = none := fun b hb => (f3 b hb).1.1
  have loop : codeAny (model X.prog X.w) X.A (.compLoop (.ListComp elt [⟨tg, l, ifs, 0⟩] scope pos) 0 (.ref it) (.ref L) ce) (compPost (model X.prog X.w) X.A X.xe use Qf (.ref L) s3.heap.objs.size) s4 := by
    refine compLoop_any (fun n s' => ∃ i H', Inv (blkH X s3 H3 scope ce fp) [] (wipe σ (own.map (·.2))) H' s' ∧ (tn i s'.heap ∧ ∀ b ∈ fp, H' b = none) ∧ W i n H') (fun n s5 ⟨i, H5, J5, ⟨st5, n5⟩, w5⟩ => ?_) m0 ⟨0, H3, I5, ⟨st4, nfp⟩, w0⟩
    rcases turn i n H5 w5 with ⟨stop, qq⟩ | ⟨go, Nx, hNx, step⟩
    · refine thnF (T.done (blkH X s3 H3 scope ce fp) rfl rfl rfl hxB.hotC i [] s5 _ H5 (fun _ _ => False) J5 (stat J5 n5) st5 stop) fun r s6 ⟨hr, I6⟩ => ?_
      subst hr
      have I7 : Inv X pins σ H5 s6 := I3.call' (ch := fp) I6.os I6.base I6.hok I6.bare fun b hb => ⟨(f3 b hb).1.2.2.2.1, (f3 b hb).1.2.1, (f3 b hb).1.2.2.2.2.1, (f3 b hb).1.2.2.2.2.2⟩
      obtain ⟨m, hn, _⟩ := I6.loc; have nC : H5 ce.locals = none := I6.free
      rw [show (blkH X s3 H3 scope ce fp).env.locals = s3.heap.objs.size from cL] at hn; rw [cL] at nC
      exact fin L s3.heap.objs.size s6 m H5 I7 qq hn (I3.fpOk (Nat.le_refl _) nC)
    · refine thnF (T.item (blkH X s3 H3 scope ce fp) rfl rfl rfl hxB.hotC i [] s5 _ H5 (fun _ _ => False) J5 (stat J5 n5) st5 go) fun r s6 ⟨u, hr, h6⟩ => ?_
      subst hr
      refine thnF h6 fun _ s7 ⟨x, H7, I7, r7, y7, st7, n7⟩ => ?_
      refine thnF (pg.run _ s7 _ H7 x u _ (I7.pinned (stat I7 n7) (T.obj _ _ st7)) r7 (step x H7 y7)) fun _ s8 ⟨σ8, H8, I8, hw8, q8⟩ => thnF (pt.run _ s8 σ8 H8 _ I8 q8) fun b s9 ⟨H9, I9, q9⟩ => ?_
      have again : ∀ {s' : Shared} {H' : Hp}, Inv (blkH X s3 H3 scope ce fp) ([] ++ pinsAt fp s7.heap) σ8 H' s' → Nx H' → ∃ m, m < n ∧ ∃ i H', Inv (blkH X s3 H3 scope ce fp) [] (wipe σ (own.map (·.2))) H' s' ∧ (tn i s'.heap ∧ ∀ b ∈ fp, H' b = none) ∧ W i m H' := fun {s' H'} I' nx => by
        obtain ⟨m', hm, w'⟩ := hNx H' nx
        have pin' : ∀ b ∈ fp, ∀ o, s7.heap.get? b = some o → s'.heap.get? b = some o ∧ H' b = none := fun b hb o e => by have z := I'.pin (b, o) (List.mem_append_right _ (List.mem_append_right _ (mem_pinsAt hb e))); exact ⟨z.1, z.2.1⟩
        refine ⟨m', hm, i + 1, H', (I'.unpinned (pins := [])).weak (by rw [← hw8, wipe_length]) (fun j v e => by rw [← hw8] at e; exact (wipe_some e).1), ⟨T.keep _ _ _ st7 fun b hb o e => (pin' b hb o e).1, fun b hb => ?_⟩, w'⟩
        obtain ⟨o, e, _⟩ := T.obj _ _ st7 b hb; exact (pin' b hb o e).2
      cases b with
      | false => simp only [Bool.false_eq_true, if_false] at q9 ⊢; exact again I9 q9
      | true =>
        simp only [if_true] at q9 ⊢
        exact thnF (pe.run _ s9 σ8 H9 _ I9 q9) fun z s10 ⟨yv, H10, I10, r10, acc, hD10, hz10, nx⟩ => app_ok (X := blkH X s3 H3 scope ce fp) I10 hD10 hz10 r10 fun s11 I11 => again I11 nx
  exact codeAny_compStart_list loop (T.self X.A 0 _ _ _ st4 loop)
/-- name = [elt for tg in l if ..] there, on one row of the text -/
theorem slcH {i : Nat} {y : Str} {py : Pos} {elt tg l : Expr} {ifs : List Expr} {scope : Scope} {own : List (Str × Nat)} {pos spos : Pos} {D : Ends} {wi : TI} {p : Addr × Obj} {cls : Value} {d : Option Addr} {g : TG} {tt : TT} {te : TE} (hx : HX X p cls d) (hN : X.N.Nodup) (hy : X.N[i]? = some y) (hyl : X.env.scope.names.lookup y = some .local)
    (hsw : swapsWith (.ListComp elt [⟨tg, l, ifs, 0⟩] scope pos) (some (.Name y py)) spos.line X.env = pure true) (ok : BlkOk X.N X.env.scope scope own) (hi : L2H.PIH X tg l wi)
    (hg : ∀ (s : Shared) (H : Hp) (C : Addr) (cl : List (Str × Addr)) (fp : List Addr), PG (blkH X s H scope (compEnvC scope cl C X.env) fp) tg g ∧ PTs (blkH X s H scope (compEnvC scope cl C X.env) fp) ifs tt ∧ PE (blkH X s H scope (compEnvC scope cl C X.env) fp) elt te)
    (h2 : tLc wi g tt te (own.map (·.2)) σ H (fun x H1 => D.nx (σ.set i (some x)) H1))
    (hs : ∀ x, foldedSetIterable l X.env x = pure x := by intro _; rfl) : wS X (.Assign [.Name y py] (.ListComp elt [⟨tg, l, ifs, 0⟩] scope pos) spos) D σ H := by
  refine ⟨fun pins s I => ?_⟩
  rw [exec_Assign_Name_used _ _ _ _ hsw]; refine wpAny_bind (wpAny_standAt (wpAny_bind ?_))
  show wpAny _ X.A (do let _ ← comprehension (.ListComp elt [⟨tg, l, ifs, 0⟩] scope pos) scope X.env (firstIterPos [⟨tg, l, ifs, 0⟩] pos) (newList []) false (eval l X.env) (some (assign (.Name y py) X.env))) _ _ s
  refine wpAny_bind (thn (lcH (Qf := fun _ s' => SP X pins D .next s') hx hN I hi ok hs hg h2 fun L C s' m H' I' q hn f => ?_) fun _ s' hq => wpAny_pure (wpAny_pure hq))
  show wpAny _ _ (assign (.Name y py) X.env (.ref L)) _ _ _
  refine wpAny_assign_Name (store_ok2 (v := V.ref L) I' hN hy (.inl hyl) rfl (fun s2 I2 ⟨a, sb, ha⟩ => ?_) (.inr hyl))
  obtain ⟨f0, f1, f2, f3, f4, f5⟩ := f
  have haC : C ≠ a := ha.elim (fun z => by rw [z]; exact f1) fun z => fun e => f4 y a z e.symm
  exact ⟨m, hn.sameBut sb haC, fun h3 sb3 => ⟨_, H', I2.turned (t' := s2.toks) (fun b o hb e => (sb3.2 b hb).trans e) f0 f1 f3 f4 f5, q⟩⟩
end
end Z

set_option maxRecDepth 100000
set_option maxHeartbeats 4000000
namespace Z
open PySem PySem.Spec PyProof.Rows L2
open Evl (Ex)
section
variable {X : Cx} {σ : St} {H : Hp} {e a b c o : Expr} {es : List Expr} {st : Stmt} {sts : List Stmt} {pos pos' p p1 p2 apos : Pos} {Q : VK} {D : Ends} {W : WX} {q : Addr × Obj} {cls : Value} {dd : Option Addr}
/-! ### where an exception is handled: targets, isinstance, its fields, defs that take it -/
theorem gtupH {ts : List Expr} {k : Nat} {t : Addr} {xs : List V} {Q : St → Hp → Prop} (hx : HX X q cls dd) (hp : SqT X.K H t xs) (hl : xs.length = ts.length) (h : wGs X ts xs σ H Q) (hn : (assignEach ts X.env).length = ts.length := by rfl) (hst : (assignEach ts X.env).findIdx? (·.1) = none := by rfl) : wG X (.Tuple ts k pos) (.ref t) σ H Q := by
  refine ⟨fun pins s u I r => ?_⟩
  obtain rfl : u = Value.ref t := r
  obtain ⟨its, rv, ht, hz⟩ := I.tuple hp
  obtain ⟨x1, hot⟩ := hx.hotC.at I
  rw [assign_Tuple]; refine wpAny_bind (wpAny_standAt ?_)
  have hN : (assignEach ts X.env).length = its.toArray.size := by rw [hn, ← hl, rv.length]; simp
  unfold unpack; rw [hN, hst]
  exact wpAny_bind (wpAny_holding (unpack_hot hot ht fun h' k => h.run pins _ _ (I.kept (t' := s.toks) k) (by simpa using rv)))
/-- what a class must say so that isinstance asks its instances rightly, and their fields are read -/
structure XcC (K : PySem.W.Frag) (C : Addr) : Prop where
  is : ExcC K C
  fl : XfC K C
/-- its dict stands -/
def Xd (dd : Option Addr) (H : Hp) : Prop := ∀ d, dd = some d → ∃ fs, H d = some (.xd fs)
theorem kisE {c : V} {cv : Value} {C : Addr} {k : Bool} (hx : HX X q (.ref C) dd) (T : XcC X.K C) (hd : Xd dd H) (hc : ClsV c cv) (hk : PySem.W.kitOne X.K (.ref C) cv = some k) (h : Q (.bl k) H) : wK X (.builtin "isinstance") [.ref q.1, c] H Q := by
  refine ⟨fun pins s σ us I r => ?_⟩
  cases r with
  | cons rx rr =>
    cases rr with
    | cons rt rr =>
      cases rr; cases rx
      obtain rfl := hc.eq rt
      obtain ⟨hget, _⟩ := I.pin q (List.mem_append_left _ hx.mem)
      obtain ⟨vs, hv⟩ := hx.fl
      have hz := hx.zn
      cases dd with
      | none => exact PySem.W.kia_one (PySem.W.kitx_exc (od := none) (ox := q.2) (by obtain ⟨cd, hcd, _⟩ := PySem.W.any_some T.is.hd; rw [hcd]; rfl) T.is.hg T.is.hk T.is.hs T.is.ha T.is.hn T.is.ht T.is.hm) I.kIn ⟨hget, hz.1, by unfold PySem.W.notCls; rw [hv] <;> rfl, by rw [hz.2.1]; trivial⟩ hk (fun z => nomatch z) fun tk => ⟨.bl k, H, I.kept (t' := tk) fun _ _ z => z, rfl, h⟩
      | some d =>
        obtain ⟨fs, hfs⟩ := hd d rfl
        obtain ⟨mA, ⟨od, _, _, ho, _⟩, _⟩ : ObjOk X.prog X.w H s.heap d (.xd fs) := I.hok d _ hfs
        exact PySem.W.kia_one (PySem.W.kitx_exc (od := some od) (ox := q.2) (by obtain ⟨cd, hcd, _⟩ := PySem.W.any_some T.is.hd; rw [hcd]; rfl) T.is.hg T.is.hk T.is.hs T.is.ha T.is.hn T.is.ht T.is.hm) I.kIn ⟨hget, hz.1, by unfold PySem.W.notCls; rw [hv] <;> rfl, by rw [hz.2.1]; exact ho⟩ hk (fun z => nomatch z) fun tk => ⟨.bl k, H, I.kept (t' := tk) fun _ _ z => z, rfl, h⟩
/-- a field of the exception that is handled -/
theorem zfldE {C d : Addr} {f : Str} (hx : HX X q (.ref C) (some d)) (T : XcC X.K C) (hno : PySem.W.findIn X.K (.ref C) f = some none) (h : wE X e σ H fun x H1 => x = .ref q.1 ∧ ∃ fs v, H1 d = some (.xd fs) ∧ fs.lookup f = some v ∧ Q v H1)
    (hb : attributeBase e f X.env (eval e X.env) = eval e X.env := by rfl) : wE X (.Attribute e f pos) σ H Q := by
  refine ⟨fun pins s  I => ?_⟩
  refine attr_of hb (thn (h.run pins s I) fun u s1 ⟨x, H1, I1, rx, ex, fs, v, ea, l, qq⟩ => ?_)
  subst ex; obtain rfl : u = Value.ref q.1 := rx
  obtain ⟨vs, hv⟩ := hx.fl
  obtain ⟨mA, hns, hr⟩ : ObjOk X.prog X.w H1 s1.heap d (.xd fs) := I1.hok d _ ea
  obtain ⟨od, ho, hl⟩ := lookIn_ns hns
  obtain ⟨z, hz, rz⟩ := RelO.some_of (v := v) (o := mA f) (by rw [← l]; exact hr f)
  exact HandSPX.exc_get I1.kIn (od := some od) (ox := q.2) ⟨(I1.pin q (List.mem_append_left _ hx.mem)).1, hx.zn.1, by unfold PySem.W.notCls; rw [hv] <;> rfl, by rw [hx.zn.2.1]; exact ho⟩ T.fl.ga T.fl.gg T.fl.exC (PySem.W.findObj_own T.fl.hdC hno rfl (by rw [hl, hz])) (handed_of rz) ⟨v, H1, I1.tok _, rz, qq⟩
/-! ### a def that takes the handled exception -/
abbrev SpE := Value → Option Addr → Addr → List V → Hp → VK → Prop
structure FnE (P : Program) (w : World) (K : PySem.W.Frag) (mg : Str → Option Value) (base : Heap) (k : Nat) (f : Addr) (fd : FuncData) (ps : List Str) (sp : SpE) : Prop where
  len : ∀ cls d a vs H Q, sp cls d a vs H Q → vs.length = ps.length
  run : ∀ (A : Around) (outer : List Env) (s : Shared) (H : Hp) (args : Args) (us : List Value) (vs : List V) (Q : VK) (p : Addr × Obj) (cls : Value) (d : Option Addr), L2H.RoomH k A → L2H.Hot1 A p → L2N.Zn cls d p.2 → L2H.PinOk outer H s p → Env0 P w K mg base A outer s H → BindsTo s fd args (ps.zip us) → Vals vs us → sp cls d p.1 vs H Q →
    codeAny (model P w) A (.call (.ref f) args) (CR CX0 outer P w H s Q fun _ _ _ => False) s
theorem fnE_of {P : Program} {w : World} {K : PySem.W.Frag} {mg : Str → Option Value} {base : Heap} {k : Nat} {f : Addr} {fd : FuncData} {x qual : Str} {params : Arguments} {body : List Stmt} {scope : Scope} {dvs : List V} {kws : List (Str × V)} {N ps : List Str} {sp : SpE}
    (F : FunD K x qual params body scope dvs kws f fd) (S : FnScope N ps scope) (len : ∀ cls d a vs H Q, sp cls d a vs H Q → vs.length = ps.length)
    (hb : ∀ (cdv : Value) (A : Around) (outer : List Env) (s : Shared) (H : Hp) (vs : List V) (Q : VK) (p : Addr × Obj) (cls : Value) (d : Option Addr), HX (L2H.cxH CX0 P w K mg base N qual scope f cdv A outer s H (fun _ _ _ => False) p) p cls d → L2H.RoomH k (A.deeper (envOfC qual scope s.heap.objs.size f cdv)) → sp cls d p.1 vs H Q →
      wB (L2H.cxH CX0 P w K mg base N qual scope f cdv A outer s H (fun _ _ _ => False) p) body { nx := fun _ H' => Q .non H', rt := Q } (start N vs) H) : FnE P w K mg base (k + 1) f fd ps sp := by
  obtain ⟨oc, od, dV, kV, doc, pm, an, cdv, ct, osl, rfl, lk, hcd, _, _⟩ := F.ex
  refine ⟨len, fun A outer s H args us vs Q p cls d hr hot hz hpin e0 hbd r hsp => ?_⟩
  have KX : K.In s.heap := e0.mod.kin.keeps fun b o e => (e0.bs b o e).1
  have kinds : ∀ y ∈ ps.zip us, scope.names.lookup y.1 = some .local ∨ (scope.names.lookup y.1 = some .cell ∧ ((cellsFrom (s.heap.objs.size + 1) scope.names []).lookup y.1).isSome = true) := fun y hy =>
    (S.par y.1 (List.of_mem_zip (a := y.1) (b := y.2) hy).1).elim .inl fun z => .inr ⟨z, PySem.W.cellsFrom_some _ _ _ (.inl z)⟩
  refine codeAny_call_function hr.depth (KX _ _ lk) rfl S.co S.gen rfl (PySem.W.codeRec_of KX hcd) (hbd _ _ _ _ (wpAny_newFunctionEnv_cells S.kind kinds fun env he s1 xx => ?_))
  subst he
  refine ⟨(e0.mod.nolimit.keeps fun b o e => (e0.bs b o e).1).keeps xx.toInCall.keep, codeAny_func ?_⟩
  have hxx : HX (L2H.cxH CX0 P w K mg base N qual scope f cdv A outer s H (fun _ _ _ => False) p) p cls d := ⟨hot, List.mem_singleton.mpr rfl, hz, by obtain ⟨_, vs, e, _⟩ := hot; exact ⟨vs, e⟩⟩
  refine wpAny_mono ((hb cdv A outer s H vs Q p cls d hxx (hr.deeper _) hsp).run [] s1 (L2H.inv_startH S hpin e0 (len _ _ _ _ _ _ hsp) r xx)) (fun fl s' hs => ?_) fun er s' hs => hs
  cases fl with
  | ret u => obtain ⟨v, σ', H', J, rv, qq⟩ := hs; exact ⟨v, H', J.os, J.bare, J.base, J.hok, rv, qq⟩
  | next => obtain ⟨σ', H', J, qq⟩ := hs; exact ⟨V.non, H', J.os, J.bare, J.base, J.hok, rfl, qq⟩
  | brk => obtain ⟨_, _, _, z⟩ := hs; exact z.elim
  | cont => obtain ⟨_, _, _, z⟩ := hs; exact z.elim
def Ge (P : Program) (w : World) (K : PySem.W.Frag) (mg : Str → Option Value) (base : Heap) (k : Nat) (x : Str) (sp : SpE) : Prop :=
  ∃ (f : Addr) (fd : FuncData) (ps : List Str), mg x = some (.ref f) ∧ PySem.W.keepIn K (.ref f) = true ∧ Binds K fd ps [] ∧ FnE P w K mg base k f fd ps sp
theorem zcallE {x : Str} {k j : Nat} {sp : SpE} (F : Ge X.prog X.w X.K X.mg X.base k x sp) (hx : HX X q cls dd) (hr : L2H.RoomH j X.A) (hk : k ≤ j) (hg : Gl X x) (h : wA X (e :: es) σ H fun vs H1 => sp cls dd q.1 vs H1 Q)
    (hdb : (x == ("__debug__" : Str)) = false := by decide) (he : starEach (e :: es) X.env = (false, eval e X.env) :: starEach es X.env := by rfl) (hpl : (backTo pos (starEach es X.env)).any (·.1) = false := by rfl) : wE X (.Call (.Name x p) (e :: es) [] pos) σ H Q := by
  refine ⟨fun pins s  I => ?_⟩
  obtain ⟨f, fd, ps, hm, kp, hb, FF⟩ := F
  refine wpAny_Call_Name_kw (ld_glob I hg hm ?_ hdb)
  refine PySem.W.callWith_K (h₀ := X.base) I.ok.mod.kin kp (thn (h.run pos pins s I) fun us s1 ⟨vs, H1, I1, r, qq⟩ => ⟨I1.kIn, ?_⟩) he hpl
  have hl : (us ++ []).length = ps.length := by rw [List.append_nil]; exact r.length.symm.trans (FF.len _ _ _ _ _ _ qq)
  have b := hb s1 us I1.kIn hl
  rw [List.append_nil] at b
  have P1 := I1.pin q (List.mem_append_left _ hx.mem)
  refine wpAny_call (codeAny_mono (FF.run X.A X.stack s1 H1 ⟨us, []⟩ us vs Q q cls dd (hr.mono hk) hx.hot hx.zn ⟨P1.1, P1.2.1, fun hm => (List.mem_cons.mp (I1.stkSub q.1 hm)).elim P1.2.2.1 P1.2.2.2.1, P1.2.2.2.2⟩ I1.env0 b r qq) fun z s' hq => ?_)
  cases z with
  | error er => exact hq.elim
  | ok fl =>
    cases fl with
    | ret u => exact I1.after hq
    | next => exact hq.elim
    | brk => exact hq.elim
    | cont => exact hq.elim
/-! ### an own exception class with an __init__ -/
theorem sost {f : Str} (h : wE X e σ H fun y H1 => wE X o σ H1 fun x H2 => ∃ a C : Addr, x = .ref a ∧ OexC X.K C ∧ PySem.W.findIn X.K (.ref C) f = some none ∧
      ((H2 a = some (exo a C none) ∧ ∀ dx, H2 dx = none → dx ≠ a → D.nx σ (upd (upd H2 dx (exd dx [(f, y)])) a (exo a C (some dx)))) ∨
        ∃ (dx : Addr) (fs : List (Str × V)), H2 a = some (exo a C (some dx)) ∧ H2 dx = some (exd dx fs) ∧ fs.length ≤ 900 ∧ D.nx σ (upd H2 dx (exd dx ((f, y) :: fs)))))
    (hs : swapsWith e (some (.Attribute o f p')) pos.line X.env = pure false := by rfl) : wS X (.Assign [.Attribute o f p'] e pos) D σ H := ofS (ps_ost sE sE hs) h
/-- C(e, ..) -/
theorem moex {x : Str} {C fI : Addr} {k j : Nat} {fd : FuncData} {ps : List Str} {sp : Sp} {Q : XK} (T : OexC X.K C) (iC : PySem.W.findIn X.K (.ref C) "__init__" = some (some (.ref fI))) (tI : PySem.W.typeIn X.K (.ref fI) = some (.type "function"))
    (F1 : FnOk X.prog X.w X.K X.mg X.base CX0 k fI fd ps sp) (hb : Binds X.K fd ps []) (hr : Room j X.A) (hk : k + 1 ≤ j) (hg : Gl X x) (hm : X.mg x = some (.ref C)) (h : tMkO C sp [] (wA X (e :: es)) σ H Q)
    (hdb : (x == ("__debug__" : Str)) = false := by decide) (he : starEach (e :: es) X.env = (false, eval e X.env) :: starEach es X.env := by rfl) (hpl : (backTo pos (starEach es X.env)).any (·.1) = false := by rfl) : wM X (.Call (.Name x p) (e :: es) [] pos) σ H Q := by
  refine ⟨fun pins s  I => ?_⟩
  obtain ⟨nm, qn, N, bs, bm, sn, sub, ab, col, dd', k0, k1, k2, k3, k5, hC, hbm⟩ := T.cls
  refine wpAny_Call_Name_kw (ld_glob I hg hm ?_ hdb)
  refine PySem.W.callWith_K (h₀ := X.base) I.ok.mod.kin T.kC (thn (h.run pos pins s I) fun us s1 ⟨vs, H1, I1, r1, hz, q1⟩ => ⟨I1.kIn, ?_⟩) he hpl
  show wpAny _ _ (call (.ref C) us) _ _ _
  obtain ⟨hp, g, dr, tk, os⟩ := s1
  have hsz : hp.objs.size ≤ hp.objs.size + 1 := Nat.le_succ _
  have hq := q1 (hp.objs.size + 1) (I1.hok.fresh hsz)
  rw [List.append_nil] at hq
  generalize hup : (hp.push (PySem.W.kdv_tup us)).push (PySem.HandSPX.excO C hp.objs.size) = hp2
  have kk : ∀ b o, hp.get? b = some o → hp2.get? b = some o := fun b o e => by rw [← hup]; exact Heap.get?_push_of_some _ (Heap.get?_push_of_some _ e)
  have hget : hp2.get? (hp.objs.size + 1) = some (PySem.HandSPX.excO C hp.objs.size) := by rw [← hup]; heap_get
  have I2 : Inv X pins σ (upd H1 (hp.objs.size + 1) (exo (hp.objs.size + 1) C none)) ⟨hp2, g, dr, tk, os⟩ := I1.laid (t' := tk) (a := hp.objs.size + 1) (o := exo (hp.objs.size + 1) C none) (h' := hp2) kk hsz (exo_ok hget)
  have r2 : Vals (V.ref (hp.objs.size + 1) :: vs) (Value.ref (hp.objs.size + 1) :: us) := .cons rfl r1
  have hl : ((Value.ref (hp.objs.size + 1) :: us) ++ []).length = ps.length := by rw [List.append_nil, ← r2.length]; exact F1.len _ _ _ _ hq
  have b2 := hb _ (Value.ref (hp.objs.size + 1) :: us) I2.kIn hl
  rw [List.append_nil] at b2
  have hus : us.length ≤ sizeLine := by rw [← Paired.length r1, sizeLine_eq]; omega
  refine wpAny_call (PySem.HandSPX.call_own F.excBase_ValueError (fun Y => PySem.HandSPX.refsVE_contains Y bm hbm) (I1.kIn _ _ hC) (PySem.W.looks_findIn I1.kIn iC) (fun self => PySem.W.bind_fn I1.kIn self tI) hus ?_)
  rw [hup]
  refine codeAny_mono (F1.run _ X.stack _ _ ⟨Value.ref (hp.objs.size + 1) :: us, []⟩ (Value.ref (hp.objs.size + 1) :: us) _ _ (fun _ _ _ => False) ((hr.mono hk).make C us []) (I2.env0.make C us []) b2 r2 hq) fun z s' hq' => ?_
  cases z with
  | error er => exact hq'.elim
  | ok fl =>
    cases fl with
    | ret u =>
      obtain ⟨v, H2, os2, bare2, un2, hok2, rv, ev, d, fs, ea, ed, hd1, q2⟩ := hq'
      subst ev
      obtain ⟨h2, g2, d2, t2, os'⟩ := s'
      obtain ⟨t0, G, J, kG, ge, hoe, na⟩ := mk_end0 (d2 := d2) (t2 := t2) I1 hsz kk un2 hok2 os2 bare2 ea ed hd1
      exact ⟨rv, hp.objs.size + 1, _, _, ⟨G, g2, d2, t2, os'⟩, _, .ref C, some d, rfl, J, kG, ge, hoe, ⟨rfl, rfl, fun vs hv => by cases hv; rfl⟩, rfl, rfl, na, rfl, bare2, raises_own T.exC T.tyC, q2⟩
    | next => exact hq'.elim
    | brk => exact hq'.elim
    | cont => exact hq'.elim
end
end Z

set_option maxRecDepth 100000
set_option maxHeartbeats 4000000
namespace Z
open PySem PySem.Spec PyProof.Rows L2
open Evl (Ex)
/-! ### facts of the written part, by names -/
def oexB (K : PySem.W.Frag) (C : Addr) : Bool := match K.lookup C with
  | some ⟨.type "type", _, .cls cd, sl⟩ => (match cd.mro, sl.toList with
    | .ref C' :: bm, [_, _, _, _, some (.builtin n), _] => decide (C' = C) && (decide (n = "ValueError.__new__") && (!cd.hasDel && (cd.hasDict && PySem.HandSPX.refsVE bm)))
    | _, _ => false)
  | _ => false
theorem oexB_ok {K : PySem.W.Frag} {C : Addr} (h : oexB K C = true) : ∃ nm q N bs bm sn sub ab col dd k0 k1 k2 k3 k5, K.lookup C = some (excClassObj nm q C N bs bm true sn sub ab col dd k0 k1 k2 k3 k5 "ValueError.__new__") ∧ PySem.HandSPX.refsVE bm = true := by
  unfold oexB at h
  split at h
  · rename_i dd cd sl ho
    split at h
    · rename_i C' bm k0 k1 k2 k3 n k5 hm hs
      simp only [Bool.and_eq_true, decide_eq_true_eq, Bool.not_eq_true'] at h
      obtain ⟨rfl, rfl, hdel, hdict, hb⟩ := h
      obtain ⟨nm, bs, mro, ns, qn, hd, sn, sub, ab, col, del⟩ := cd
      dsimp only at hm hdel hdict; subst hm hdel hdict
      obtain ⟨l⟩ := sl; dsimp only at hs; subst hs
      exact ⟨nm, qn, ns, bs, bm, sn, sub, ab, col, dd, k0, k1, k2, k3, k5, ho, hb⟩
    · cases h
  · cases h
/-- what may be asked of classes: their kin (isinstance, except), an exception with fields, one without, what isinstance and reads of it ask -/
inductive Fz where
  | kit (x y : Str) (b : Bool)
  | kitT (x : Str) (t : String) (b : Bool)
  | kTO (t : String) (y : Str) (b : Bool)
  | oex (x : Str)
  | noa (x f : Str)
  | xc (x : Str)
  | cls (x : Str)
def Fz.ok (K : PySem.W.Frag) : Fz → Bool
  | .kit x y b => decide (PySem.W.kitOne K (.ref (He.ga K x)) (.ref (He.ga K y)) = some b)
  | .kitT x t b => decide (PySem.W.kitOne K (.ref (He.ga K x)) (.type t) = some b)
  | .kTO t y b => decide (PySem.W.kitOne K (.type t) (.ref (He.ga K y)) = some b)
  | .oex x => oexB K (He.ga K x) && (He.eqO (PySem.W.findIn K (.ref (He.ga K x)) "__setattr__") (some (some (.builtin "object.__setattr__"))) && (decide (PySem.W.subIn K (.ref (He.ga K x)) (.type "BaseException") = some true) && (decide (PySem.W.typeIn K (.ref (He.ga K x)) = some (.type "type")) &&
      (PySem.W.keepIn K (.ref (He.ga K x)) && (He.eqO (PySem.W.findIn K (.ref (He.ga K x)) "__init__") (some (some (.ref (He.ma K (He.ga K x) "__init__")))) && decide (PySem.W.typeIn K (.ref (He.ma K (He.ga K x) "__init__")) = some (.type "function")))))))
  | .noa x f => He.eqO (PySem.W.findIn K (.ref (He.ga K x)) f) (some none)
  | .xc x => xfB K (He.ga K x) && (He.eqO (PySem.W.findIn K (.ref (He.ga K x)) "__class__") (some (some (.builtin "object.__class__"))) && (decide (PySem.W.specialIn K (.builtin "object.__class__") "__get__" = some (some (.builtin "getset_descriptor.__get__"))) &&
      (decide (PySem.W.takesIn K (.builtin "object.__class__") = some true) && decide (PySem.W.mroIn K (He.ga K x) (.type "object") = some true))))
  | .cls x => (match PySem.W.typeIn K (.ref (He.ga K x)) with | some (.type "type") => true | _ => false)
section
variable {K : PySem.W.Frag} {x : Str}
theorem kit_ok {y : Str} {b : Bool} (h : (Fz.kit x y b).ok K = true) : PySem.W.kitOne K (.ref (He.ga K x)) (.ref (He.ga K y)) = some b := of_decide_eq_true h
theorem kitT_ok {t : String} {b : Bool} (h : (Fz.kitT x t b).ok K = true) : PySem.W.kitOne K (.ref (He.ga K x)) (.type t) = some b := of_decide_eq_true h
theorem kTO_ok {y : Str} {t : String} {b : Bool} (h : (Fz.kTO t y b).ok K = true) : PySem.W.kitOne K (.type t) (.ref (He.ga K y)) = some b := of_decide_eq_true h
theorem noa_ok {f : Str} (h : (Fz.noa x f).ok K = true) : PySem.W.findIn K (.ref (He.ga K x)) f = some none := He.eqO_ok h
/-- an own exception class with an __init__ -/
structure OxC (K : PySem.W.Frag) (C fI : Addr) : Prop where
  o : OexC K C
  i : PySem.W.findIn K (.ref C) "__init__" = some (some (.ref fI))
  t : PySem.W.typeIn K (.ref fI) = some (.type "function")
theorem oex_ok (h : (Fz.oex x).ok K = true) : OxC K (He.ga K x) (He.ma K (He.ga K x) "__init__") := by
  obtain ⟨h1, h⟩ := He.ba h; obtain ⟨h2, h⟩ := He.ba h; obtain ⟨h3, h⟩ := He.ba h; obtain ⟨h4, h⟩ := He.ba h; obtain ⟨h5, h⟩ := He.ba h; obtain ⟨h6, h7⟩ := He.ba h
  exact ⟨⟨oexB_ok h1, He.eqO_ok h2, of_decide_eq_true h3, of_decide_eq_true h4, h5⟩, He.eqO_ok h6, of_decide_eq_true h7⟩
theorem xc_ok (h : (Fz.xc x).ok K = true) : XcC K (He.ga K x) := by
  obtain ⟨h1, h⟩ := He.ba h; obtain ⟨h2, h⟩ := He.ba h; obtain ⟨h3, h⟩ := He.ba h; obtain ⟨h4, h5⟩ := He.ba h
  have T := xfB_ok h1
  exact ⟨⟨T.ga, T.gg, T.exC, T.hdC, He.eqO_ok h2, of_decide_eq_true h3, of_decide_eq_true h4, of_decide_eq_true h5⟩, T⟩
end
theorem more_of {K : PySem.W.Frag} {fz : List Fz} (h : (fz.all fun f => f.ok K) = true) (i : Nat) {f : Fz} (e : fz[i]? = some f := by rfl) : f.ok K = true := List.all_eq_true.mp h f (List.mem_of_getElem? e)
/-! ### a def of the text keeps its promise -/
section
variable {P : Program} {w : World} {K : PySem.W.Frag} {mg : Str → Option Value} {base : Heap}
/-- the context of a def's body -/
abbrev cx (P : Program) (w : World) (K : PySem.W.Frag) (mg : Str → Option Value) (base : Heap) (N : List Str) (qual : Str) (scope : Scope) (f : Addr) (cd : Value) (A : Around) (outer : List Env) (s : Shared) (H : Hp) (E : XK) : Cx := cxOf (L2N.CX P w) P w K mg base N qual scope f cd A outer s H E
theorem fn_mk {x qual : Str} {params : Arguments} {body : List Stmt} {scope : Scope} {dvs : List V} {kws : List (Str × V)} {f : Addr} {fd : FuncData} {N ps : List Str} {k : Nat} {sp : Sp} (F : FunD K x qual params body scope dvs kws f fd) (S : FnScope N ps scope) (len : ∀ vs H Q E, sp vs H Q E → vs.length = ps.length)
    (hb : ∀ (cd : Value) (A : Around) (outer : List Env) (s : Shared) (H : Hp) (vs : List V) (Q : VK) (E : XK), Room k (cx P w K mg base N qual scope f cd A outer s H E).A → L2N.Takes (cx P w K mg base N qual scope f cd A outer s H E) (fun cls d _ H' => E cls d H') →
      PassesOwn (model P w) (cx P w K mg base N qual scope f cd A outer s H E).A (cx P w K mg base N qual scope f cd A outer s H E).env (cx P w K mg base N qual scope f cd A outer s H E).xe → sp vs H Q E →
      wB (cx P w K mg base N qual scope f cd A outer s H E) body { nx := fun _ H' => Q .non H', rt := Q } (start N vs) H) : FnOk P w K mg base (L2N.CX P w) (k + 1) f fd ps sp :=
  F.ok S len fun cd A outer s H vs Q E hr h => ⟨_, sB, hb cd A outer s H vs Q E hr (L2N.takes_of rfl rfl rfl rfl) (passes_of rfl) h⟩
/-- .. a def from which nothing is let out (an __init__ of an exception) -/
theorem fn_mk0 {x qual : Str} {params : Arguments} {body : List Stmt} {scope : Scope} {dvs : List V} {kws : List (Str × V)} {f : Addr} {fd : FuncData} {N ps : List Str} {k : Nat} {sp : Sp} (F : FunD K x qual params body scope dvs kws f fd) (S : FnScope N ps scope) (len : ∀ vs H Q E, sp vs H Q E → vs.length = ps.length)
    (hb : ∀ (cd : Value) (A : Around) (outer : List Env) (s : Shared) (H : Hp) (vs : List V) (Q : VK) (E : XK), Room k (cxOf CX0 P w K mg base N qual scope f cd A outer s H E).A → sp vs H Q E →
      wB (cxOf CX0 P w K mg base N qual scope f cd A outer s H E) body { nx := fun _ H' => Q .non H', rt := Q } (start N vs) H) : FnOk P w K mg base CX0 (k + 1) f fd ps sp :=
  F.ok S len fun cd A outer s H vs Q E hr h => ⟨_, sB, hb cd A outer s H vs Q E hr h⟩
theorem gf_mk {x : Str} {params : Arguments} {body : List Stmt} {scope : Scope} {f : Addr} {ps : List Str} {k : Nat} {sp : Sp} (hF : ∃ fd, FunD K x x params body scope [] [] f fd) (hm : mg x = some (.ref f))
    (hbind : ∀ (kV doc pm : Value) (an : Option Addr) (cdv ct : Value) (us : List Value), us.length = ps.length → bindArgs (PySem.W.fnOf x x params body scope .none kV doc pm an cdv ct) ⟨us, []⟩ = pure (ps.zip us))
    (ok : ∀ fd, FunD K x x params body scope [] [] f fd → FnOk P w K mg base (L2N.CX P w) k f fd ps sp) : Gf P w K mg base k x [] sp := by
  obtain ⟨fd, F⟩ := hF
  exact ⟨f, fd, ps, [], hm, F.kp, F.bindsN hbind, .nil, ok fd F⟩
theorem ge_mk {x : Str} {params : Arguments} {body : List Stmt} {scope : Scope} {f : Addr} {ps : List Str} {k : Nat} {sp : SpE} (hF : ∃ fd, FunD K x x params body scope [] [] f fd) (hm : mg x = some (.ref f))
    (hbind : ∀ (kV doc pm : Value) (an : Option Addr) (cdv ct : Value) (us : List Value), us.length = ps.length → bindArgs (PySem.W.fnOf x x params body scope .none kV doc pm an cdv ct) ⟨us, []⟩ = pure (ps.zip us))
    (ok : ∀ fd, FunD K x x params body scope [] [] f fd → FnE P w K mg base k f fd ps sp) : Ge P w K mg base k x sp := by
  obtain ⟨fd, F⟩ := hF
  exact ⟨f, fd, ps, hm, F.kp, F.bindsN hbind, ok fd F⟩
end
/-! ### an exception of an own class with fields -/
/-- __init__(self, a): self.f = a -/
def spI1 (C : Addr) (f : Str) : Sp := fun vs H Q _ => ∃ (a : Addr) (y : V), vs = [.ref a, y] ∧ H a = some (exo a C none) ∧ ∀ dx, H dx = none → dx ≠ a → Q .non (upd (upd H dx (exd dx [(f, y)])) a (exo a C (some dx)))
/-- __init__(self, a, b): self.f = a; self.g = b -/
def spI2 (C : Addr) (f g : Str) : Sp := fun vs H Q _ => ∃ (a : Addr) (y z : V), vs = [.ref a, y, z] ∧ H a = some (exo a C none) ∧ ∀ dx, H dx = none → dx ≠ a → Q .non (upd (upd (upd H dx (exd dx [(f, y)])) a (exo a C (some dx))) dx (exd dx [(g, z), (f, y)]))
section
variable {X : Cx} {σ : St} {H : Hp} {e : Expr} {es : List Expr} {p pos : Pos}
theorem Xd.ex {H1 H2 : Hp} {a d : Addr} {fs : List (Str × V)} {o1 : HO} (ha : H1 a = none) (hd : H1 d = none) (k : ∀ b, b ≠ a → b ≠ d → H2 b = H1 b) : Ex H1 (upd (del H2 a) d (.xd fs)) := fun b o e => by
  have n1 : b ≠ a := fun z => by rw [z, ha] at e; cases e
  have n2 : b ≠ d := fun z => by rw [z, hd] at e; cases e
  rw [upd_ne n2, del_ne n1, k b n1 n2]; exact e
theorem moex1 {x f : Str} {C fI : Addr} {k j : Nat} {fd : FuncData} {ps : List Str} {Q : XK} (T : OxC X.K C fI) (F1 : FnOk X.prog X.w X.K X.mg X.base CX0 k fI fd ps (spI1 C f)) (hb : Binds X.K fd ps []) (hm : X.mg x = some (.ref C)) (hr : Room j X.A) (hk : k + 1 ≤ j) (hg : Gl X x)
    (h : wA X (e :: es) σ H fun vs H1 => ∃ y, vs = [y] ∧ ∀ d H', H1 d = none → Ex H1 H' → H' d = some (.xd [(f, y)]) → Q (.ref C) (some d) H')
    (hdb : (x == ("__debug__" : Str)) = false := by decide) (he : starEach (e :: es) X.env = (false, eval e X.env) :: starEach es X.env := by rfl) (hpl : (backTo pos (starEach es X.env)).any (·.1) = false := by rfl) : wM X (.Call (.Name x p) (e :: es) [] pos) σ H Q := by
  refine moex T.o T.i T.t F1 hb hr hk hg hm ?_ hdb he hpl
  refine ⟨fun ps' pins s I => thn (h.run ps' pins s I) fun us s' ⟨vs, H1, J, r, y, ev, q⟩ => ⟨vs, H1, J, r, by rw [ev]; simp, fun a ha => ?_⟩⟩
  subst ev
  refine ⟨a, y, rfl, upd_same, fun dx hd hda => ⟨rfl, dx, [(f, y)], upd_same, by rw [upd_ne hda, upd_same], ?_, ?_⟩⟩
  · rw [upd_ne hda] at hd; exact hd
  · rw [upd_ne hda] at hd
    refine q dx _ hd (Xd.ex (o1 := .lst []) ha hd fun b n1 n2 => ?_) upd_same
    rw [upd_ne n1, upd_ne n2, upd_ne n1]
theorem moex2 {x f g : Str} {C fI : Addr} {k j : Nat} {fd : FuncData} {ps : List Str} {Q : XK} (T : OxC X.K C fI) (F1 : FnOk X.prog X.w X.K X.mg X.base CX0 k fI fd ps (spI2 C f g)) (hb : Binds X.K fd ps []) (hm : X.mg x = some (.ref C)) (hr : Room j X.A) (hk : k + 1 ≤ j) (hg : Gl X x)
    (h : wA X (e :: es) σ H fun vs H1 => ∃ y z, vs = [y, z] ∧ ∀ d H', H1 d = none → Ex H1 H' → H' d = some (.xd [(g, z), (f, y)]) → Q (.ref C) (some d) H')
    (hdb : (x == ("__debug__" : Str)) = false := by decide) (he : starEach (e :: es) X.env = (false, eval e X.env) :: starEach es X.env := by rfl) (hpl : (backTo pos (starEach es X.env)).any (·.1) = false := by rfl) : wM X (.Call (.Name x p) (e :: es) [] pos) σ H Q := by
  refine moex T.o T.i T.t F1 hb hr hk hg hm ?_ hdb he hpl
  refine ⟨fun ps' pins s I => thn (h.run ps' pins s I) fun us s' ⟨vs, H1, J, r, y, z, ev, q⟩ => ⟨vs, H1, J, r, by rw [ev]; simp, fun a ha => ?_⟩⟩
  subst ev
  refine ⟨a, y, z, rfl, upd_same, fun dx hd hda => ⟨rfl, dx, [(g, z), (f, y)], by rw [upd_ne (Ne.symm hda), upd_same], upd_same, ?_, ?_⟩⟩
  · rw [upd_ne hda] at hd; exact hd
  · rw [upd_ne hda] at hd
    refine q dx _ hd (Xd.ex (o1 := .lst []) ha hd fun b n1 n2 => ?_) upd_same
    rw [upd_ne n2, upd_ne n1, upd_ne n2, upd_ne n1]
end
end Z

set_option maxRecDepth 100000
set_option maxHeartbeats 4000000
namespace Z
open PySem PySem.Spec PyProof.Rows L2
open Evl (Ex)
theorem ifd {p : Prop} [Decidable p] {A B : Prop} (h1 : p → A) (h2 : ¬ p → B) : if decide p = true then A else B := by
  by_cases h : p
  · rw [if_pos (decide_eq_true h)]; exact h1 h
  · rw [if_neg (by rw [decide_eq_false h]; exact Bool.false_ne_true)]; exact h2 h
theorem ifnd {p : Prop} [Decidable p] {A B : Prop} (h1 : ¬ p → A) (h2 : p → B) : if (!decide p) = true then A else B := by
  by_cases h : p
  · rw [if_neg (by rw [decide_eq_true h]; exact Bool.false_ne_true)]; exact h2 h
  · rw [if_pos (by rw [decide_eq_false h]; rfl)]; exact h1 h
theorem ifb {k : Bool} {A B : Prop} (h1 : k = true → A) (h2 : k = false → B) : if k = true then A else B := by
  cases k with
  | true => rw [if_pos rfl]; exact h1 rfl
  | false => rw [if_neg Bool.false_ne_true]; exact h2 rfl
theorem ifT {A B : Prop} (h : A) : if true = true then A else B := by rw [if_pos rfl]; exact h
theorem ifF {A B : Prop} (h : B) : if false = true then A else B := by rw [if_neg Bool.false_ne_true]; exact h
section
variable {X : Cx} {σ : St} {H : Hp} {e : Expr} {Q : VK}
/-- a test whose answer is told ahead -/
theorem tcut {Q : Bool → Hp → Prop} (k : Bool) (h : wT X e σ H fun k' H' => k' = k ∧ H' = H) (q : Q k H) : wT X e σ H Q := h.imp fun v H' ⟨a, b⟩ => by rw [a, b]; exact q
theorem ecut (v : V) (h : wE X e σ H fun v' H' => v' = v ∧ H' = H) (q : Q v H) : wE X e σ H Q := h.imp fun v' H' ⟨a, b⟩ => by rw [a, b]; exact q
end
/-! ### built-ins by name -/
theorem bt_len : bootBuiltins "len" = some (.builtin "len") := by decide +kernel
theorem bt_isi : bootBuiltins "isinstance" = some (.builtin "isinstance") := by decide +kernel
theorem bt_min : bootBuiltins "min" = some (.builtin "min") := by decide +kernel
theorem bt_max : bootBuiltins "max" = some (.builtin "max") := by decide +kernel
theorem bt_abs : bootBuiltins "abs" = some (.builtin "abs") := by decide +kernel
theorem bt_all : bootBuiltins "all" = some (.builtin "all") := by decide +kernel
theorem bt_sum : bootBuiltins "sum" = some (.builtin "sum") := by decide +kernel
theorem bt_ord : bootBuiltins "ord" = some (.builtin "ord") := by decide +kernel
theorem bt_divmod : bootBuiltins "divmod" = some (.builtin "divmod") := by decide +kernel
theorem bt_sorted : bootBuiltins "sorted" = some (.builtin "sorted") := by decide +kernel
theorem bt_list : bootBuiltins "list" = some (.type "list") := by decide +kernel
theorem bt_tuple : bootBuiltins "tuple" = some (.type "tuple") := by decide +kernel
theorem bt_int : bootBuiltins "int" = some (.type "int") := by decide +kernel
theorem bt_bool : bootBuiltins "bool" = some (.type "bool") := by decide +kernel
theorem bt_str : bootBuiltins "str" = some (.type "str") := by decide +kernel
theorem bt_dict : bootBuiltins "dict" = some (.type "dict") := by decide +kernel
theorem bt_ValueError : bootBuiltins "ValueError" = some (.type "ValueError") := by decide +kernel
/-! ### heaps -/
theorem exl {K : PySem.W.Frag} {H H' : Hp} {a : Addr} {xs : List V} (h : SqL K H a xs) (e : Ex H H') : SqL K H' a xs := Evl.ex_l e h
theorem ext {K : PySem.W.Frag} {H H' : Hp} {a : Addr} {xs : List V} (h : SqT K H a xs) (e : Ex H H') : SqT K H' a xs := Evl.ex_t e h
theorem exa {H H' : Hp} {a : Addr} {o : HO} (h : H a = some o) (e : Ex H H') : H' a = some o := e a o h
theorem Ex.lst {H H' : Hp} (e : Ex H H') {a : Addr} {o : HO} (h : H a = some o) : H' a = some o := e a o h
theorem Ex.sq {K : PySem.W.Frag} {H H' : Hp} (e : Ex H H') {a : Addr} {xs : List V} (h : SqL K H a xs ∨ SqT K H a xs) : SqL K H' a xs ∨ SqT K H' a xs := h.elim (fun h => .inl (Evl.ex_l e h)) fun h => .inr (Evl.ex_t e h)
mutual
theorem Dp.ex {K : PySem.W.Frag} {H H' : Hp} (e : Ex H H') : ∀ {v : V} {d : PyData}, Dp K H v d → Dp K H' v d
  | _, _, .non => .non
  | _, _, .bl b => .bl b
  | _, _, .int i => .int i
  | _, _, .str x => .str x
  | _, _, .lst h a => .lst (Evl.ex_l e h) (DpAll.ex e a)
  | _, _, .tup h a => .tup (Evl.ex_t e h) (DpAll.ex e a)
theorem DpAll.ex {K : PySem.W.Frag} {H H' : Hp} (e : Ex H H') : ∀ {vs : List V} {ds : List PyData}, DpAll K H vs ds → DpAll K H' vs ds
  | _, _, .nil => .nil
  | _, _, .cons a b => .cons (Dp.ex e a) (DpAll.ex e b)
end
theorem DpAll.ints {K : PySem.W.Frag} {H : Hp} : ∀ ns : List Int, DpAll K H (ns.map V.int) (ns.map PyData.int)
  | [] => .nil
  | _ :: ns => .cons (.int _) (DpAll.ints ns)
theorem Dp.ints {K : PySem.W.Frag} {H : Hp} {a : Addr} {ns : List Int} (h : SqL K H a (ns.map V.int)) : Dp K H (.ref a) (.list (ns.map PyData.int)) := .lst h (DpAll.ints ns)
section
variable {X : Cx} {σ : St} {H : Hp} {e : Expr} {Q : VK} {D : Ends} {pos pos' : Pos}
/-- a class of the module as a value -/
theorem zcls {x : Str} {C : Addr} (hm : X.mg x = some (.ref C)) (hg : Gl X x) (h : Q (.ref C) H) (hd : (x == ("__debug__" : Str)) = false := by decide) : wE X (.Name x pos) σ H Q := ofE (pe_glob (v := .ref C) hg hm rfl hd) h
theorem zty {x : Str} {T : String} (hm : X.mg x = none) (hv : bootBuiltins x = some (.type T)) (hg : Gl X x) (h : Q (.ty T) H) (hn : x ≠ "__name__" := by decide) (hd : (x == ("__debug__" : Str)) = false := by decide) : wE X (.Name x pos) σ H Q := ofE (pe_bltn (v := .ty T) hg hm hv rfl hn hd) h
/-- name = e, the slot reckoned -/
theorem sset' {x : Str} (hN : X.N.Nodup) (hi : X.N[slotOf X.N x]? = some x) (hx : Loc X.env.scope x) (hs : swapsWith e (some (.Name x pos')) pos.line X.env = pure false) (hf : X.fn x = true ∨ X.env.scope.names.lookup x = some .local) (h : wE X e σ H fun v H1 => D.nx (σ.set (slotOf X.N x) (some v)) H1) : wS X (.Assign [.Name x pos'] e pos) D σ H :=
  sset (slotOf X.N x) hN h hi hx hs hf
theorem saug' {x : Str} {op : Operator} {v : V} (hN : X.N.Nodup) (hi : X.N[slotOf X.N x]? = some x) (hx : Loc X.env.scope x) (hf : X.fn x = true ∨ X.env.scope.names.lookup x = some .local) (hv : σ[slotOf X.N x]? = some (some v)) (h : wE X e σ H fun y H1 => wO X (inplaceOp op) v y H1 fun z H2 => D.nx (σ.set (slotOf X.N x) (some z)) H2) : wS X (.AugAssign (.Name x pos') op e pos) D σ H :=
  saug (slotOf X.N x) hN hv h hi hx hf
theorem gname' {x : Str} {v : V} {Q : St → Hp → Prop} (hN : X.N.Nodup) (hi : X.N[slotOf X.N x]? = some x) (hx : Loc X.env.scope x) (hf : X.fn x = true ∨ X.env.scope.names.lookup x = some .local) (h : Q (σ.set (slotOf X.N x) (some v)) H) : wG X (.Name x pos) v σ H Q := gname (slotOf X.N x) hN h hi hx hf
end
theorem Xd.exx {H H' : Hp} {dd : Option Addr} (h : Xd dd H) (e : Ex H H') : Xd dd H' := fun d q => by obtain ⟨fs, hf⟩ := h d q; exact ⟨fs, e d _ hf⟩
/-- tuples of a word and a truth each -/
inductive TupsAt (H : Hp) : List V → List (Str × Bool) → Prop
  | nil : TupsAt H [] []
  | cons {t : Addr} {w : Str} {b : Bool} {xs : List V} {ps : List (Str × Bool)} : H t = some (.tup [.str w, .bl b]) → TupsAt H xs ps → TupsAt H (.ref t :: xs) ((w, b) :: ps)
theorem TupsAt.length {H : Hp} : ∀ {xs : List V} {ps : List (Str × Bool)}, TupsAt H xs ps → xs.length = ps.length
  | _, _, .nil => rfl
  | _, _, .cons _ t => by rw [List.length_cons, List.length_cons, t.length]
theorem TupsAt.get {H : Hp} : ∀ {xs : List V} {ps : List (Str × Bool)} {i : Nat} {x : V}, TupsAt H xs ps → xs[i]? = some x → ∃ t p, x = .ref t ∧ ps[i]? = some p ∧ H t = some (.tup [.str p.1, .bl p.2])
  | _, _, _, _, .nil, h => by simp at h
  | _, _, 0, _, .cons r _, h => by simp at h; exact ⟨_, _, h.symm, rfl, r⟩
  | _, _, i + 1, _, .cons _ t, h => by obtain ⟨a, p, e1, e2, e3⟩ := t.get (i := i) (by simpa using h); exact ⟨a, p, e1, by simpa using e2, e3⟩
/-- the words whose truth is so -/
def kept (ps : List (Str × Bool)) : List V := (ps.filter (·.2)).map fun p => V.str p.1
theorem kept_succ {ps : List (Str × Bool)} {i : Nat} {p : Str × Bool} (h : ps[i]? = some p) : kept (ps.take (i + 1)) = kept (ps.take i) ++ (if p.2 = true then [V.str p.1] else []) := by
  obtain ⟨hl, rfl⟩ := List.getElem?_eq_some_iff.mp h
  rw [List.take_add_one, List.getElem?_eq_getElem hl]
  unfold kept
  rw [List.filter_append, List.map_append]
  cases e : (ps[i]).2 with
  | true => simp [e]
  | false => simp [e]
/-! ### the end of a law row: its promise, the bits of its script told -/
theorem walk_bits {l : PySem.W.OpenLaw} {n k : Nat} {q : Program} {loose : List Str} {XP : (Str → Option Value) → Heap → Prop} {YP : World → Heap → Prop} {d : DefRec} {x : Str} (hn : l.most = some n) (hn2 : n ≤ sizeLine) (hdf : d.params.defaults = []) (hr : Room k callerA)
    (F : ∀ (w : World) (mg : Str → Option Value) (fa : Addr) (h : Heap), YP w h → h.Ns mainGlobals mg → mg d.name = some (.ref fa) →
      ∃ (K : PySem.W.Frag) (fd : FuncData) (sp : Sp), K.In h ∧ (∀ (s : Shared) (u : Value), BindsTo s fd ⟨[u], []⟩ [(x, u)]) ∧
        (∀ (H : Hp) (a : Addr) (ns : List Int), ns.length ≤ n → (∀ z ∈ ns, Builtin.Int.intBits z ≤ 1048576) → Only H → SqL K H a (ns.map V.int) → sp [.ref a] H (fun v _ => v = .bl true) fun _ _ _ => False) ∧
        ∀ base : Heap, K.In base → base.Ns mainGlobals mg → FnOk l.prog w K mg base (L2N.CX l.prog w) k fa fd [x] sp) : PySem.W.WalkO q loose XP YP l.row.toRowW d [] (fun f vs => PySem.call f vs) := by
  refine Att.attach_callB hn hdf fun w s₀ s₁ mg mb fa o pm cd doc a vs ns G Y ho hd hcd hmg hobj hints hlen hbits hg => ?_
  obtain ⟨K, fd, sp, KX, hb, hsp, hF⟩ := F w mg fa _ Y G.T.g hmg
  refine law_call KX G.T.g G.T.b G.T.builtins G.T.nolimit hg hobj hints (Nat.le_trans hlen hn2) hr hF hb (fun H hO hS => hsp H a ns hlen hbits hO hS) fun H e s' hc => ?_
  obtain ⟨_, _, _, _, _, _, _, _, _, _, _, _, z⟩ := hc
  exact z
end Z

set_option maxRecDepth 100000
set_option maxHeartbeats 4000000
namespace Z
open PySem PySem.Spec PyProof.Rows L2
open Evl (Ex)
/-- a statement, then the rest, from what the statement leaves -/
theorem bcut {X : Cx} {st : Stmt} {sts : List Stmt} {D : Ends} {σ : St} {H : Hp} (R : St → Hp → Prop) (h : wS X st { D with nx := R } σ H) (q : ∀ σ' H', R σ' H' → wB X sts D σ' H') : wB X (st :: sts) D σ H :=
  bcons (h.imp q (fun _ _ z => z) (fun _ _ z => z) fun _ _ z => z)
theorem takesF {X : Cx} : L2N.Takes X (fun _ _ _ _ => False) := fun _ _ ⟨_, _, _, _, _, _, _, _, _, _, _, _, _, _, _, _, z⟩ => z.elim
/-! ### comprehensions -/
theorem wipe_get {σ : St} {k : Nat} : ∀ {vs : List Nat}, (wipe σ vs)[k]? = if k ∈ vs then (σ[k]?).map (fun _ => none) else σ[k]?
  | [] => by simp [wipe]
  | v :: vs => by
    unfold wipe
    rw [List.getElem?_set]
    by_cases e : v = k
    · subst e
      simp only [if_true, List.mem_cons, true_or, wipe_length]
      by_cases hl : v < σ.length
      · rw [if_pos hl, List.getElem?_eq_getElem hl]; rfl
      · rw [if_neg hl, List.getElem?_eq_none (by omega)]; rfl
    · rw [if_neg e, wipe_get]
      simp only [List.mem_cons, show ¬ k = v from fun z => e z.symm, false_or]
theorem wipe_set {σ : St} {i : Nat} {x : Option V} {vs : List Nat} (hi : i ∈ vs) : wipe ((wipe σ vs).set i x) vs = wipe σ vs := by
  refine List.ext_getElem? fun k => ?_
  rw [wipe_get]
  by_cases hk : k ∈ vs
  · rw [if_pos hk, List.getElem?_set]
    by_cases e : i = k
    · subst e
      rw [if_pos rfl, wipe_length, wipe_get, if_pos hk]
      by_cases hl : i < σ.length
      · rw [if_pos hl, List.getElem?_eq_getElem hl]; rfl
      · rw [if_neg hl, List.getElem?_eq_none (by omega)]
    · rw [if_neg e, wipe_get, if_pos hk]
      cases σ[k]? <;> rfl
  · rw [if_neg hk, List.getElem?_set, if_neg (fun e => hk (by rw [← e]; exact hi)), wipe_get, if_neg hk]
/-- tests of a clause -/
structure wTs (X : Cx) (ifs : List Expr) (σ : St) (H : Hp) (Q : Bool → Hp → Prop) : Prop where
  run : ∃ t : TT, PTs X ifs t ∧ t σ H Q
theorem sTs {X : Cx} {ifs : List Expr} : PTs X ifs (wTs X ifs) := ⟨fun pins s σ H Q I ⟨t, h, q⟩ => h.run pins s σ H Q I q⟩
section
variable {X : Cx} {σ : St} {H : Hp} {c : Expr} {Q : Bool → Hp → Prop}
theorem tsnil (h : Q true H) : wTs X [] σ H Q := ⟨_, pts_nil, h⟩
theorem tsone (h : wT X c σ H Q) : wTs X [c] σ H Q := ⟨_, pts_one sT, h⟩
end
/-- pieces of a block, in whatever block it is -/
structure bG (X : Cx) (scope : Scope) (tg : Expr) (v : V) (σ : St) (H : Hp) (Q : St → Hp → Prop) : Prop where
  run : ∀ (s : Shared) (H0 : Hp) (C : Addr) (cl : List (Str × Addr)) (fp : List Addr), wG (X.blk s H0 scope (compEnvC scope cl C X.env) fp) tg v σ H Q
structure bTs (X : Cx) (scope : Scope) (ifs : List Expr) (σ : St) (H : Hp) (Q : Bool → Hp → Prop) : Prop where
  run : ∀ (s : Shared) (H0 : Hp) (C : Addr) (cl : List (Str × Addr)) (fp : List Addr), wTs (X.blk s H0 scope (compEnvC scope cl C X.env) fp) ifs σ H Q
structure bE (X : Cx) (scope : Scope) (e : Expr) (σ : St) (H : Hp) (Q : VK) : Prop where
  run : ∀ (s : Shared) (H0 : Hp) (C : Addr) (cl : List (Str × Addr)) (fp : List Addr), wE (X.blk s H0 scope (compEnvC scope cl C X.env) fp) e σ H Q
structure hG (X : Cx) (scope : Scope) (tg : Expr) (v : V) (σ : St) (H : Hp) (Q : St → Hp → Prop) : Prop where
  run : ∀ (s : Shared) (H0 : Hp) (C : Addr) (cl : List (Str × Addr)) (fp : List Addr), wG (blkH X s H0 scope (compEnvC scope cl C X.env) fp) tg v σ H Q
structure hTs (X : Cx) (scope : Scope) (ifs : List Expr) (σ : St) (H : Hp) (Q : Bool → Hp → Prop) : Prop where
  run : ∀ (s : Shared) (H0 : Hp) (C : Addr) (cl : List (Str × Addr)) (fp : List Addr), wTs (blkH X s H0 scope (compEnvC scope cl C X.env) fp) ifs σ H Q
structure hE (X : Cx) (scope : Scope) (e : Expr) (σ : St) (H : Hp) (Q : VK) : Prop where
  run : ∀ (s : Shared) (H0 : Hp) (C : Addr) (cl : List (Str × Addr)) (fp : List Addr), wE (blkH X s H0 scope (compEnvC scope cl C X.env) fp) e σ H Q
section
variable {X : Cx} {σ : St} {H : Hp} {elt tg l a b : Expr} {ifs : List Expr} {scope : Scope} {own : List (Str × Nat)} {pos pos' spos p : Pos} {Q : VK} {wi : TI} {D : Ends}
theorem zlc (hc : X.calm = true) (hN : X.N.Nodup) (own : List (Str × Nat)) (ok : BlkOk X.N X.env.scope scope own) (hi : PI X tg l wi)
    (h : tLc wi (bG X scope tg) (bTs X scope ifs) (bE X scope elt) (own.map (·.2)) σ H Q) (hs : ∀ x, foldedSetIterable l X.env x = pure x := by intro _; rfl) : wE X (.ListComp elt [⟨tg, l, ifs, 0⟩] scope pos) σ H Q :=
  ofE (pe_lc hc hN hi ok (fun s H C cl fp => ⟨fun pins s' σ H' v u Q I r h => (h.run s H C cl fp).run pins s' u I r⟩) (fun s H C cl fp => ⟨fun pins s' σ H' Q I h => sTs.run pins s' σ H' Q I (h.run s H C cl fp)⟩) (fun s H C cl fp => ⟨fun pins s' σ H' Q I h => (h.run s H C cl fp).run pins s' I⟩) hs) h
theorem slc {i : Nat} {y : Str} {py : Pos} (hc : X.calm = true) (hN : X.N.Nodup) (hy : X.N[i]? = some y) (hyl : X.env.scope.names.lookup y = some .local) (own : List (Str × Nat)) (ok : BlkOk X.N X.env.scope scope own) (hi : PI X tg l wi)
    (hsw : swapsWith (.ListComp elt [⟨tg, l, ifs, 0⟩] scope pos) (some (.Name y py)) spos.line X.env = pure true)
    (h : tLc wi (bG X scope tg) (bTs X scope ifs) (bE X scope elt) (own.map (·.2)) σ H (fun x H1 => D.nx (σ.set i (some x)) H1)) (hs : ∀ x, foldedSetIterable l X.env x = pure x := by intro _; rfl) : wS X (.Assign [.Name y py] (.ListComp elt [⟨tg, l, ifs, 0⟩] scope pos) spos) D σ H :=
  ofS (ps_setLc hc hN hy hyl hsw hi ok (fun s H C cl fp => ⟨fun pins s' σ H' v u Q I r h => (h.run s H C cl fp).run pins s' u I r⟩) (fun s H C cl fp => ⟨fun pins s' σ H' Q I h => sTs.run pins s' σ H' Q I (h.run s H C cl fp)⟩) (fun s H C cl fp => ⟨fun pins s' σ H' Q I h => (h.run s H C cl fp).run pins s' I⟩) hs) h
/-- the last clause of a comprehension's turn: L the new list, Nx what the turn is to reach -/
abbrev turnB (X : Cx) (scope : Scope) (tg : Expr) (ifs : List Expr) (elt : Expr) (vs : List Nat) (L : Addr) (x : V) (σ : St) (H : Hp) (Nx : Hp → Prop) : Prop :=
  bG X scope tg x (wipe σ vs) H fun σ2 H2 => wipe σ2 vs = wipe σ vs ∧ bTs X scope ifs σ2 H2 fun b H3 => if b = true then bE X scope elt σ2 H3 fun y H4 => ∃ acc, H4 L = some (.lst acc) ∧ acc.length < sizeLine ∧ Nx (upd H4 L (.lst (acc ++ [y]))) else Nx H3
theorem piR1 (hm : X.mg "range" = none) (hg : Gl X "range") (hsa : starEach [a] X.env = [(false, eval a X.env)] := by rfl) : PI X tg (.Call (.Name "range" p) [a] [] pos) (iRng1 (wA X [a])) := pi_range1 hg hm sA hsa
theorem piR2 (hm : X.mg "range" = none) (hg : Gl X "range") (hsa : starEach [a, b] X.env = [(false, eval a X.env), (false, eval b X.env)] := by rfl) (hsb : starEach [b] X.env = [(false, eval b X.env)] := by rfl) : PI X tg (.Call (.Name "range" p) [a, b] [] pos) (iRng2 (wA X [a, b])) := pi_range2 hg hm sA hsa hsb
theorem piL : PI X tg l (iList X.K (wE X l)) := pi_list sE
theorem piT : PI X tg l (iTup X.K (wE X l)) := pi_tup sE
theorem tlR1 {n : Int} {vs : List Nat} (Pv : Addr → Nat → Hp → Prop)
    (h : wA X [a] σ H fun x H1 => x = [.int n] ∧ n < 2 ^ 62 ∧ -(2 ^ 62) ≤ n ∧ ∀ L, H1 L = none → Pv L 0 (upd H1 L (.lst [])) ∧ (∀ (j : Nat) H', (j : Int) < n → Pv L j H' → turnB X scope tg ifs elt vs L (.int (j : Int)) σ H' (Pv L (j + 1))) ∧ ∀ H', Pv L n.toNat H' → Q (.ref L) H') :
    tLc (iRng1 (wA X [a])) (bG X scope tg) (bTs X scope ifs) (bE X scope elt) vs σ H Q :=
  ⟨fun ps pins s I => thn (h.run ps pins s I) fun us s' ⟨x, H1, J, r, e, h1, h2, q⟩ => ⟨x, H1, J, r, n, e, h2, h1, fun L hL => by
    obtain ⟨q1, q2, q3⟩ := q L hL
    exact lc_range (Pv L) q1 (fun i H' hi hP => by rw [Int.zero_add]; exact q2 i H' (by omega) hP) q3⟩⟩
theorem tlR2 {m n : Int} {vs : List Nat} (Pv : Addr → Nat → Hp → Prop)
    (h : wA X [a, b] σ H fun x H1 => x = [.int m, .int n] ∧ (-(2 ^ 62) ≤ m ∧ m < 2 ^ 62 ∧ -(2 ^ 62) ≤ n ∧ n < 2 ^ 62) ∧ ∀ L, H1 L = none → Pv L 0 (upd H1 L (.lst [])) ∧ (∀ (j : Nat) H', m + (j : Int) < n → Pv L j H' → turnB X scope tg ifs elt vs L (.int (m + (j : Int))) σ H' (Pv L (j + 1))) ∧ ∀ H', Pv L (n - m).toNat H' → Q (.ref L) H') :
    tLc (iRng2 (wA X [a, b])) (bG X scope tg) (bTs X scope ifs) (bE X scope elt) vs σ H Q :=
  ⟨fun ps pins s I => thn (h.run ps pins s I) fun us s' ⟨x, H1, J, r, e, h1, q⟩ => ⟨x, H1, J, r, m, n, e, h1, fun L hL => by
    obtain ⟨q1, q2, q3⟩ := q L hL
    exact lc_range (Pv L) q1 (fun i H' hi hP => q2 i H' (by omega) hP) q3⟩⟩
theorem tlL {xs : List V} {vs : List Nat} (Pv : Addr → Nat → Hp → Prop)
    (h : wE X l σ H fun x H1 => ∃ r, x = .ref r ∧ SqL X.K H1 r xs ∧ ∀ L, H1 L = none → Pv L 0 (upd H1 L (.lst [])) ∧ (∀ j H', j ≤ xs.length → Pv L j H' → SqL X.K H' r xs) ∧ (∀ j x H', xs[j]? = some x → Pv L j H' → turnB X scope tg ifs elt vs L x σ H' (Pv L (j + 1))) ∧ ∀ H', Pv L xs.length H' → Q (.ref L) H') :
    tLc (iList X.K (wE X l)) (bG X scope tg) (bTs X scope ifs) (bE X scope elt) vs σ H Q :=
  ⟨fun pins s I => thn (h.run pins s I) fun u s1 ⟨x, H1, I1, r, a, ex, hq, k⟩ => ⟨x, H1, I1, r, a, ex, ⟨xs, hq⟩, fun L hL => by
    obtain ⟨k0, k1, k2, k3⟩ := k L hL
    exact lc_list (Pv L) k0 k1 k2 k3⟩⟩
theorem tlT {xs : List V} {vs : List Nat} (Pv : Addr → Nat → Hp → Prop)
    (h : wE X l σ H fun x H1 => ∃ r, x = .ref r ∧ SqT X.K H1 r xs ∧ ∀ L, H1 L = none → Pv L 0 (upd H1 L (.lst [])) ∧ (∀ j H', j ≤ xs.length → Pv L j H' → SqT X.K H' r xs) ∧ (∀ j x H', xs[j]? = some x → Pv L j H' → turnB X scope tg ifs elt vs L x σ H' (Pv L (j + 1))) ∧ ∀ H', Pv L xs.length H' → Q (.ref L) H') :
    tLc (iTup X.K (wE X l)) (bG X scope tg) (bTs X scope ifs) (bE X scope elt) vs σ H Q :=
  ⟨fun pins s I => thn (h.run pins s I) fun u s1 ⟨x, H1, I1, r, a, ex, hq, k⟩ => ⟨x, H1, I1, r, a, ex, ⟨xs, hq⟩, fun L hL => by
    obtain ⟨k0, k1, k2, k3⟩ := k L hL
    exact lc_tup (Pv L) k0 k1 k2 k3⟩⟩
/-- what a turn must show where the list is told ahead: acc j after j turns -/
abbrev turnA (X : Cx) (scope : Scope) (tg : Expr) (ifs : List Expr) (elt : Expr) (vs : List Nat) (acc : Nat → List V) (j : Nat) (x : V) (σ : St) (H : Hp) : Prop :=
  bG X scope tg x (wipe σ vs) H fun σ2 H2 => wipe σ2 vs = wipe σ vs ∧ Ex H H2 ∧ bTs X scope ifs σ2 H2 fun b H3 => if b = true then bE X scope elt σ2 H3 fun y H4 => acc (j + 1) = acc j ++ [y] ∧ (acc j).length < sizeLine ∧ Ex H H4 else acc (j + 1) = acc j ∧ Ex H H3
theorem bG.imp {v : V} {Q Q' : St → Hp → Prop} (h : bG X scope tg v σ H Q) (q : ∀ σ' H', Q σ' H' → Q' σ' H') : bG X scope tg v σ H Q' :=
  ⟨fun s H0 C cl fp => ⟨fun pins s' u I r => thn ((h.run s H0 C cl fp).run pins s' u I r) fun _ s'' ⟨σ', H', J, z⟩ => ⟨σ', H', J, q _ _ z⟩⟩⟩
theorem bE.imp {Q Q' : VK} (h : bE X scope elt σ H Q) (q : ∀ σ' H', Q σ' H' → Q' σ' H') : bE X scope elt σ H Q' := ⟨fun s H0 C cl fp => (h.run s H0 C cl fp).imp q⟩
theorem bTs.imp {Q Q' : Bool → Hp → Prop} (h : bTs X scope ifs σ H Q) (q : ∀ σ' H', Q σ' H' → Q' σ' H') : bTs X scope ifs σ H Q' :=
  ⟨fun s H0 C cl fp => ⟨_, ⟨fun pins s' σ0 H1 R I (h2 : ∃ (_ : σ0 = σ) (_ : H1 = H), ∀ a b, Q' a b → R a b) => by
    obtain ⟨rfl, rfl, h2⟩ := h2
    exact thn (sTs.run pins s' _ _ Q I (h.run s H0 C cl fp)) fun u s'' ⟨H', J, z⟩ => ⟨H', J, h2 _ _ (q _ _ z)⟩⟩, rfl, rfl, fun _ _ z => z⟩⟩
theorem turn_of {acc : Nat → List V} {j : Nat} {x : V} {vs : List Nat} {L : Addr} {H1 : Hp} (hL : H1 L = none) (hd : Ex H1 H) (hacc : H L = some (.lst (acc j))) (h : turnA X scope tg ifs elt vs acc j x σ H) :
    turnB X scope tg ifs elt vs L x σ H fun H' => Ex H1 H' ∧ H' L = some (.lst (acc (j + 1))) := by
  refine bG.imp h fun σ2 H2 ⟨w, e2, q⟩ => ⟨w, q.imp fun b H3 q3 => ?_⟩
  cases b with
  | false =>
    rw [if_neg Bool.false_ne_true] at q3 ⊢
    exact ⟨hd.trans q3.2, by rw [q3.1]; exact q3.2 _ _ hacc⟩
  | true =>
    rw [if_pos rfl] at q3 ⊢
    refine q3.imp fun y H4 ⟨ea, hs, e4⟩ => ⟨acc j, e4 _ _ hacc, hs, fun b o e => ?_, by rw [ea]; exact upd_same⟩
    have n : b ≠ L := fun z => by rw [z, hL] at e; cases e
    rw [upd_ne n]
    exact e4 _ _ (hd _ _ e)
theorem tmR1 {n : Int} {vs : List Nat} (acc : Nat → List V) (h0 : acc 0 = [])
    (h : wA X [a] σ H fun x H1 => x = [.int n] ∧ n < 2 ^ 62 ∧ -(2 ^ 62) ≤ n ∧ (∀ (j : Nat) H', (j : Int) < n → Ex H1 H' → turnA X scope tg ifs elt vs acc j (.int (j : Int)) σ H') ∧ ∀ L H', H1 L = none → Ex H1 H' → H' L = some (.lst (acc n.toNat)) → Q (.ref L) H') :
    tLc (iRng1 (wA X [a])) (bG X scope tg) (bTs X scope ifs) (bE X scope elt) vs σ H Q :=
  ⟨fun ps pins s I => thn (h.run ps pins s I) fun us s' ⟨x, H1, J, r, e, h1, h2, q2, q3⟩ => ⟨x, H1, J, r, n, e, h2, h1, fun L hL =>
    lc_range (fun j H' => Ex H1 H' ∧ H' L = some (.lst (acc j))) ⟨Ex.new hL, by rw [h0]; exact upd_same⟩ (fun i H' hi hP => by rw [Int.zero_add]; exact turn_of hL hP.1 hP.2 (q2 i H' (by omega) hP.1)) fun H' z => q3 L H' hL z.1 z.2⟩⟩
theorem tmR2 {m n : Int} {vs : List Nat} (acc : Nat → List V) (h0 : acc 0 = [])
    (h : wA X [a, b] σ H fun x H1 => x = [.int m, .int n] ∧ (-(2 ^ 62) ≤ m ∧ m < 2 ^ 62 ∧ -(2 ^ 62) ≤ n ∧ n < 2 ^ 62) ∧ (∀ (j : Nat) H', m + (j : Int) < n → Ex H1 H' → turnA X scope tg ifs elt vs acc j (.int (m + (j : Int))) σ H') ∧ ∀ L H', H1 L = none → Ex H1 H' → H' L = some (.lst (acc (n - m).toNat)) → Q (.ref L) H') :
    tLc (iRng2 (wA X [a, b])) (bG X scope tg) (bTs X scope ifs) (bE X scope elt) vs σ H Q :=
  ⟨fun ps pins s I => thn (h.run ps pins s I) fun us s' ⟨x, H1, J, r, e, h1, q2, q3⟩ => ⟨x, H1, J, r, m, n, e, h1, fun L hL =>
    lc_range (fun j H' => Ex H1 H' ∧ H' L = some (.lst (acc j))) ⟨Ex.new hL, by rw [h0]; exact upd_same⟩ (fun i H' hi hP => turn_of hL hP.1 hP.2 (q2 i H' (by omega) hP.1)) fun H' z => q3 L H' hL z.1 z.2⟩⟩
theorem tmL {xs : List V} {vs : List Nat} (acc : Nat → List V) (h0 : acc 0 = [])
    (h : wE X l σ H fun x H1 => ∃ r, x = .ref r ∧ SqL X.K H1 r xs ∧ (∀ j x H', xs[j]? = some x → Ex H1 H' → turnA X scope tg ifs elt vs acc j x σ H') ∧ ∀ L H', H1 L = none → Ex H1 H' → H' L = some (.lst (acc xs.length)) → Q (.ref L) H') :
    tLc (iList X.K (wE X l)) (bG X scope tg) (bTs X scope ifs) (bE X scope elt) vs σ H Q :=
  ⟨fun pins s I => thn (h.run pins s I) fun u s1 ⟨x, H1, I1, r, p, ex, hq, q2, q3⟩ => ⟨x, H1, I1, r, p, ex, ⟨xs, hq⟩, fun L hL =>
    lc_list (fun j H' => Ex H1 H' ∧ H' L = some (.lst (acc j))) ⟨Ex.new hL, by rw [h0]; exact upd_same⟩ (fun i H' _ z => Evl.ex_l z.1 hq) (fun i x H' hx hP => turn_of hL hP.1 hP.2 (q2 i x H' hx hP.1)) fun H' z => q3 L H' hL z.1 z.2⟩⟩
theorem tmT {xs : List V} {vs : List Nat} (acc : Nat → List V) (h0 : acc 0 = [])
    (h : wE X l σ H fun x H1 => ∃ r, x = .ref r ∧ SqT X.K H1 r xs ∧ (∀ j x H', xs[j]? = some x → Ex H1 H' → turnA X scope tg ifs elt vs acc j x σ H') ∧ ∀ L H', H1 L = none → Ex H1 H' → H' L = some (.lst (acc xs.length)) → Q (.ref L) H') :
    tLc (iTup X.K (wE X l)) (bG X scope tg) (bTs X scope ifs) (bE X scope elt) vs σ H Q :=
  ⟨fun pins s I => thn (h.run pins s I) fun u s1 ⟨x, H1, I1, r, p, ex, hq, q2, q3⟩ => ⟨x, H1, I1, r, p, ex, ⟨xs, hq⟩, fun L hL =>
    lc_tup (fun j H' => Ex H1 H' ∧ H' L = some (.lst (acc j))) ⟨Ex.new hL, by rw [h0]; exact upd_same⟩ (fun i H' _ z => Evl.ex_t z.1 hq) (fun i x H' hx hP => turn_of hL hP.1 hP.2 (q2 i x H' hx hP.1)) fun H' z => q3 L H' hL z.1 z.2⟩⟩
/-! ### where an exception is handled -/
abbrev turnH (X : Cx) (scope : Scope) (tg : Expr) (ifs : List Expr) (elt : Expr) (vs : List Nat) (acc : Nat → List V) (j : Nat) (x : V) (σ : St) (H : Hp) : Prop :=
  hG X scope tg x (wipe σ vs) H fun σ2 H2 => wipe σ2 vs = wipe σ vs ∧ Ex H H2 ∧ hTs X scope ifs σ2 H2 fun b H3 => if b = true then hE X scope elt σ2 H3 fun y H4 => acc (j + 1) = acc j ++ [y] ∧ (acc j).length < sizeLine ∧ Ex H H4 else acc (j + 1) = acc j ∧ Ex H H3
theorem hG.imp {v : V} {Q Q' : St → Hp → Prop} (h : hG X scope tg v σ H Q) (q : ∀ σ' H', Q σ' H' → Q' σ' H') : hG X scope tg v σ H Q' :=
  ⟨fun s H0 C cl fp => ⟨fun pins s' u I r => thn ((h.run s H0 C cl fp).run pins s' u I r) fun _ s'' ⟨σ', H', J, z⟩ => ⟨σ', H', J, q _ _ z⟩⟩⟩
theorem hE.imp {Q Q' : VK} (h : hE X scope elt σ H Q) (q : ∀ σ' H', Q σ' H' → Q' σ' H') : hE X scope elt σ H Q' := ⟨fun s H0 C cl fp => (h.run s H0 C cl fp).imp q⟩
theorem hTs.imp {Q Q' : Bool → Hp → Prop} (h : hTs X scope ifs σ H Q) (q : ∀ σ' H', Q σ' H' → Q' σ' H') : hTs X scope ifs σ H Q' :=
  ⟨fun s H0 C cl fp => ⟨_, ⟨fun pins s' σ0 H1 R I (h2 : ∃ (_ : σ0 = σ) (_ : H1 = H), ∀ a b, Q' a b → R a b) => by
    obtain ⟨rfl, rfl, h2⟩ := h2
    exact thn (sTs.run pins s' _ _ Q I (h.run s H0 C cl fp)) fun u s'' ⟨H', J, z⟩ => ⟨H', J, h2 _ _ (q _ _ z)⟩⟩, rfl, rfl, fun _ _ z => z⟩⟩
theorem turn_ofH {acc : Nat → List V} {j : Nat} {x : V} {vs : List Nat} {L : Addr} {H1 : Hp} (hL : H1 L = none) (hd : Ex H1 H) (hacc : H L = some (.lst (acc j))) (h : turnH X scope tg ifs elt vs acc j x σ H) :
    hG X scope tg x (wipe σ vs) H fun σ2 H2 => wipe σ2 vs = wipe σ vs ∧ hTs X scope ifs σ2 H2 fun b H3 => if b = true then hE X scope elt σ2 H3 fun y H4 => ∃ acc', H4 L = some (.lst acc') ∧ acc'.length < sizeLine ∧ (Ex H1 (upd H4 L (.lst (acc' ++ [y]))) ∧ upd H4 L (.lst (acc' ++ [y])) L = some (.lst (acc (j + 1)))) else Ex H1 H3 ∧ H3 L = some (.lst (acc (j + 1))) := by
  refine hG.imp h fun σ2 H2 ⟨w, e2, q⟩ => ⟨w, q.imp fun b H3 q3 => ?_⟩
  cases b with
  | false =>
    rw [if_neg Bool.false_ne_true] at q3 ⊢
    exact ⟨hd.trans q3.2, by rw [q3.1]; exact q3.2 _ _ hacc⟩
  | true =>
    rw [if_pos rfl] at q3 ⊢
    refine q3.imp fun y H4 ⟨ea, hs, e4⟩ => ⟨acc j, e4 _ _ hacc, hs, fun b o e => ?_, by rw [ea]; exact upd_same⟩
    have n : b ≠ L := fun z => by rw [z, hL] at e; cases e
    rw [upd_ne n]
    exact e4 _ _ (hd _ _ e)
theorem slcA {i : Nat} {y : Str} {py : Pos} {xs : List V} {q : Addr × Obj} {cls : Value} {d : Option Addr} (hx : HX X q cls d) (hN : X.N.Nodup) (hy : X.N[i]? = some y) (hyl : X.env.scope.names.lookup y = some .local) (own : List (Str × Nat))
    (ok : BlkOk X.N X.env.scope scope own) (hsw : swapsWith (.ListComp elt [⟨tg, l, ifs, 0⟩] scope pos) (some (.Name y py)) spos.line X.env = pure true) (acc : Nat → List V) (h0 : acc 0 = [])
    (h : wE X l σ H fun x H1 => ∃ r, x = .ref r ∧ SqL X.K H1 r xs ∧ (∀ j x H', xs[j]? = some x → Ex H1 H' → turnH X scope tg ifs elt (own.map (·.2)) acc j x σ H') ∧ ∀ L H', H1 L = none → Ex H1 H' → H' L = some (.lst (acc xs.length)) → D.nx (σ.set i (some (.ref L))) H')
    (hs : ∀ x, foldedSetIterable l X.env x = pure x := by intro _; rfl) : wS X (.Assign [.Name y py] (.ListComp elt [⟨tg, l, ifs, 0⟩] scope pos) spos) D σ H := by
  refine slcH (g := hG X scope tg) (tt := hTs X scope ifs) (te := hE X scope elt) hx hN hy hyl hsw ok pi_listH (fun s H C cl fp => ⟨⟨fun pins s' σ H' v u Q I r h => (h.run s H C cl fp).run pins s' u I r⟩, ⟨fun pins s' σ H' Q I h => sTs.run pins s' σ H' Q I (h.run s H C cl fp)⟩, ⟨fun pins s' σ H' Q I h => (h.run s H C cl fp).run pins s' I⟩⟩) ?_ hs
  refine ⟨fun pins s I => thn (h.run pins s I) fun u s1 ⟨x, H1, I1, r, p, ex, hq, q2, q3⟩ => ⟨x, H1, I1, r, p, ex, ⟨xs, hq⟩, fun L hL =>
    lc_list (fun j H' => Ex H1 H' ∧ H' L = some (.lst (acc j))) ⟨Ex.new hL, by rw [h0]; exact upd_same⟩ (fun i H' _ z => Evl.ex_l z.1 hq) (fun i x H' hx hP => turn_ofH hL hP.1 hP.2 (q2 i x H' hx hP.1)) fun H' z => q3 L H' hL z.1 z.2⟩⟩
end
end Z

set_option maxRecDepth 100000
set_option maxHeartbeats 4000000
namespace Z
open PySem PySem.Spec PyProof.Rows L2
open Evl (Ex)
section
variable {X : Cx} {σ : St} {H : Hp} {a b c : Expr} {pos : Pos} {Q : VK}
/-! ### more steps -/
theorem zchain {op op' : CmpOp} (h : wE X a σ H fun x H1 => wE X b σ H1 fun y H2 => wO X (compareOp op) x y H2 fun z H3 => ∃ k, z = .bl k ∧ (if k = true then wE X c σ H3 fun v H4 => wO X (compareOp op') y v H4 Q else Q (.bl false) H3))
    (hm : lastMarks [op, op'] [b, c] = false := by with_unfolding_all rfl) : wE X (.Compare a [op, op'] [b, c] pos) σ H Q := ofE (pe_chain sO sO sE sE sE hm) h
theorem zchainT {op op' : CmpOp} {Q : Bool → Hp → Prop} (h : wE X a σ H fun x H1 => wE X b σ H1 fun y H2 => wO X (compareOp op) x y H2 fun z H3 => ∃ k, z = .bl k ∧ (if k = true then wE X c σ H3 fun v H4 => wO X (compareOp op') y v H4 fun u H5 => ∃ k, u = .bl k ∧ Q k H5 else ∃ k', V.bl false = .bl k' ∧ Q k' H3))
    (hm : lastMarks [op, op'] [b, c] = false := by with_unfolding_all rfl) : wT X (.Compare a [op, op'] [b, c] pos) σ H Q := ofT (pt_chain sO sO sE sE sE hm) h
theorem zneg (h : wE X a σ H fun x H1 => ∃ i, x = .int i ∧ Q (.int (-i)) H1) : wE X (.UnaryOp .USub a pos) σ H Q := ofE (pe_un un_neg sE) h
/-- {} -/
theorem zdnew (h : ∀ p H2, H p = none → Ex H H2 → H2 p = some (.dK []) → Q (.ref p) H2) : wE X (.Dict [] [] pos) σ H Q := ofE pe_dnewK fun p hp => h p _ hp (Ex.new hp) upd_same
end
/-- an exception of a class without an own __init__, made with a text -/
theorem mplain {X : Cx} {σ : St} {H : Hp} {x m : Str} {j : Nat} {C : Addr} {p p2 pos : Pos} {Q : XK} (e : PySem.W.excIn X.K C He.veBase "ValueError.__new__" = true ∧ PySem.W.keepIn X.K (.ref C) = true ∧ PySem.W.subIn X.K (.ref C) (.type "BaseException") = some true ∧ PySem.W.typeIn X.K (.ref C) = some (.type "type"))
    (gC : X.mg x = some (.ref C)) (hg : Gl X x) (h : Q (.ref C) none H) (hdb : (x == ("__debug__" : Str)) = false := by decide) : wM X (.Call (.Name x p) [.Constant (.str m) j p2] [] pos) σ H Q :=
  mown F.excBase_ValueError e.1 gC e.2.1 (raises_own e.2.2.1 e.2.2.2) hg h hdb
theorem Ex.past {H H' : Hp} {L : Addr} {o : HO} (h : Ex H H') (hL : H L = none) : Ex H (upd H' L o) := fun b z e => by
  rw [upd_ne (fun q => by rw [q, hL] at e; cases e)]
  exact h b z e
/-- an item of a display of numbers -/
theorem atN {ns : List Int} {k : Int} (h0 : 0 ≤ k) (h : k < (ns.length : Int)) : ∃ v ∈ ns, atI (ns.map V.int) k = some (.int v) := by
  obtain ⟨j, rfl⟩ : ∃ j : Nat, k = (j : Int) := ⟨k.toNat, by omega⟩
  have hl : j < ns.length := by omega
  exact ⟨ns[j], List.getElem_mem _, atI_nat (by rw [List.getElem?_map, List.getElem?_eq_getElem hl]; rfl)⟩
/-- a list of numbers put together by turns -/
def accM (f : Nat → Int) (j : Nat) : List V := ((List.range j).map f).map V.int
theorem accM_succ (f : Nat → Int) (j : Nat) : accM f (j + 1) = accM f j ++ [.int (f j)] := by unfold accM; rw [List.range_succ]; simp
theorem accM_len (f : Nat → Int) (j : Nat) : (accM f j).length = j := by unfold accM; simp
/-- two lists of the same numbers are not unlike -/
theorem same_ne {X : Cx} {H : Hp} {Q : VK} {j : Nat} {t u : Addr} {xs : List Int} (hr : Room j X.A) (ht : SqL X.K H t (xs.map V.int)) (hu : SqL X.K H u (xs.map V.int)) (q : Q (.bl false) H) : wO X (compareOp .NotEq) (.ref t) (.ref u) H Q :=
  oneD hr (Dp.ints ht) (Dp.ints hu) (PySem.W.ke_shaped_ints xs) (PySem.W.ke_shaped_ints xs) (by rw [SeqAt.eqv_refl _ (SeqAt.canLay_of_shaped (PySem.W.ke_shaped_ints xs))]; exact q)
/-- .. data of any shape -/
theorem data_ne {X : Cx} {H : Hp} {Q : VK} {j : Nat} {t u : V} {d : PyData} (hr : Room j X.A) (ht : Dp X.K H t d) (hu : Dp X.K H u d) (hs : SeqAt.shaped d = true) (q : Q (.bl false) H) : wO X (compareOp .NotEq) t u H Q :=
  oneD hr ht hu hs hs (by rw [SeqAt.eqv_refl _ (SeqAt.canLay_of_shaped hs)]; exact q)
theorem data_eq {X : Cx} {H : Hp} {Q : VK} {j : Nat} {t u : V} {d : PyData} (hr : Room j X.A) (ht : Dp X.K H t d) (hu : Dp X.K H u d) (hs : SeqAt.shaped d = true) (q : Q (.bl true) H) : wO X (compareOp .Eq) t u H Q :=
  oeqD hr ht hu hs hs (by rw [SeqAt.eqv_refl _ (SeqAt.canLay_of_shaped hs)]; exact q)
/-- for over a list that the body leaves as it is, the invariant told behind the list -/
theorem lforE {X : Cx} {σ : St} {H : Hp} {tg l : Expr} {body : List Stmt} {pos : Pos} {D : Ends} (hp : PassesOwn (model X.prog X.w) X.A X.env X.xe) (hc : X.calm = true)
    (h : wE X l σ H fun x H1 => ∃ (a : Addr) (xs : List V), x = .ref a ∧ (SqL X.K H1 a xs ∧ True) ∧ ∃ Pv : Nat → St → Hp → Prop, Pv 0 σ H1 ∧ (∀ i σ H, i ≤ xs.length → Pv i σ H → SqL X.K H a xs) ∧
      (∀ i x σ H, xs[i]? = some x → Pv i σ H → wG X tg x σ H fun σ2 H2 => wB X body { D with nx := Pv (i + 1), ct := Pv (i + 1), bk := D.nx } σ2 H2) ∧ ∀ σ H, Pv xs.length σ H → D.nx σ H)
    (hs : ∀ x, foldedSetIterable l X.env x = pure x := by intro _; rfl) : wS X (.For tg l body [] pos) D σ H :=
  lfor hp hc (pi_list sE) ⟨fun pins s I => thn (h.run pins s I) fun u s1 ⟨x, H1, I1, r, a, xs, ex, ⟨hq, _⟩, Pv, h0, hl, ht, hd⟩ => ⟨x, H1, I1, r, a, ex, ⟨xs, hq⟩, for_list Pv h0 hl ht hd⟩⟩ hs
/-! ### kinds -/
/-- a thing of no whole number's kind (bool among them) -/
def NotWhole (K : PySem.W.Frag) (H : Hp) (v : V) : Prop := ∃ (t : Value) (k1 k2 : Bool), TyX K H v t ∧ PySem.W.kitOne K t (.type "int") = some k1 ∧ PySem.W.kitOne K t (.type "bool") = some k2 ∧ (k1 && !k2) = false
theorem nw_bl {K : PySem.W.Frag} {H : Hp} (b : Bool) : NotWhole K H (.bl b) := ⟨_, true, true, .base (.bl b), kit_ty rfl, kit_ty rfl, rfl⟩
theorem nw_non {K : PySem.W.Frag} {H : Hp} : NotWhole K H .non := ⟨_, false, false, .base .non, kit_ty rfl, kit_ty rfl, rfl⟩
theorem nw_str {K : PySem.W.Frag} {H : Hp} (x : Str) : NotWhole K H (.str x) := ⟨_, false, false, .base (.str x), kit_ty rfl, kit_ty rfl, rfl⟩
theorem nw_lst {K : PySem.W.Frag} {H : Hp} {a : Addr} {xs : List V} (h : H a = some (.lst xs)) : NotWhole K H (.ref a) := ⟨_, false, false, .base (.lst h), kit_ty rfl, kit_ty rfl, rfl⟩
theorem nw_tup {K : PySem.W.Frag} {H : Hp} {a : Addr} {xs : List V} (h : H a = some (.tup xs)) : NotWhole K H (.ref a) := ⟨_, false, false, .base (.tup h), kit_ty rfl, kit_ty rfl, rfl⟩
theorem nw_dK {K : PySem.W.Frag} {H : Hp} {a : Addr} {kvs : List (Key × V)} (h : H a = some (.dK kvs)) : NotWhole K H (.ref a) := ⟨_, false, false, .base (.dK h), kit_ty rfl, kit_ty rfl, rfl⟩
/-- whether a thing is a whole number from lo to hi -/
inductive Asked (K : PySem.W.Frag) (H : Hp) (lo hi : Int) : V → Bool → Prop
  | int (n : Int) : Asked K H lo hi (.int n) (decide (lo ≤ n ∧ n ≤ hi))
  | odd {v : V} (h : NotWhole K H v) : Asked K H lo hi v false
end Z

set_option maxRecDepth 100000
set_option maxHeartbeats 4000000
namespace Z
open PySem PySem.Spec PyProof.Rows L2
open Evl (Ex)
/-! ### enumerate of a text -/
def Ites (x : Str) : It :=
  ⟨fun i _ => i < x.cps.size, fun i H v H' => ∃ T c, x.cps[i]? = some c ∧ v = .ref T ∧ H T = none ∧ H' = upd H T (.tup [.int (i : Nat), .str ⟨#[c]⟩]), fun i _ => i = x.cps.size⟩
theorem turn_enumS {P : Program} {w : World} {K : PySem.W.Frag} {elts : List Expr} {kk : Nat} {tpos : Pos} (x : Str) (t : Tok) (ty : String) (hty : ty = "str_ascii_iterator" ∨ ty = "str_iterator") (e it : Addr) :
    Turn P w K (.Tuple elts kk tpos) (Ites x) [e, it] e (fun i h => (∃ old, IsEnum h e it ((i : Nat) : Int) old) ∧ h.IsStrIter it ty x t i ∧ e ≠ it) where
  mem := List.mem_cons_self
  obj := fun i h ⟨⟨old, he⟩, ⟨o, ho, hc, hd⟩, _⟩ b hb => by
    rcases List.mem_cons.mp hb with rfl | z
    · exact ⟨_, he, fun v q => nomatch q⟩
    · rw [List.mem_singleton.mp z]; exact ⟨o, ho, fun v q => by rw [hd] at q; cases q⟩
  keep := fun i h h' ⟨⟨old, he⟩, ⟨o, ho, r⟩, hne⟩ k => ⟨⟨old, k e List.mem_cons_self _ he⟩, ⟨o, k it (List.mem_cons_of_mem _ List.mem_cons_self) o ho, r⟩, hne⟩
  item := fun X hP hw hK hc i pins s σ H E I hf st hg => by
    subst hP hw hK
    obtain ⟨⟨old, he⟩, hit, hne⟩ := st
    have D : Draws X.prog X.w X.A.in1 it [it] x.cps.size (SignAt x) (fun i h => h.IsStrIter it ty x t i) := by
      rcases hty with q | q
      · rw [q]; exact Draws.strAscii (A := X.A.in1) (I.ok.hd hc) it x t
      · rw [q]; exact Draws.strWide (A := X.A.in1) (I.ok.hd hc) it x t
    have hel : e < s.heap.objs.size := Heap.lt_size he
    have hil : it < s.heap.objs.size := by obtain ⟨_, q, _⟩ := hit; exact Heap.lt_size q
    refine wpAny_pyNext_enum_itemD D he hit hg hne (by simpa using hne) fun y h' tk hy ho hit' hT hsz hk => ?_
    obtain ⟨c, u, hcx, rfl⟩ := hy
    refine ⟨_, rfl, wpAny_letOwnedTupleGo_enum (s := { s with heap := h', toks := tk + 1 }) ho fun h'' he' sb => ?_⟩
    have hT2 : h''.get? s.heap.objs.size = some { cls := .type "tuple", data := .seq #[.int i tk, .str ⟨#[c]⟩ u] } := (sb.2 _ (Nat.ne_of_gt hel)).trans hT
    have new : ObjOk X.prog X.w (upd H s.heap.objs.size (.tup [.int (i : Nat), .str ⟨#[c]⟩])) h'' s.heap.objs.size (.tup [.int (i : Nat), .str ⟨#[c]⟩]) :=
      ⟨by show 2 ≤ sizeLine; decide, [.int i tk, .str ⟨#[c]⟩ u], .cons ⟨_, rfl⟩ (.cons ⟨_, rfl⟩ .nil), ⟨_, hT2, rfl, _, rfl⟩⟩
    have I1 : Inv X pins σ (upd H s.heap.objs.size (.tup [.int (i : Nat), .str ⟨#[c]⟩])) { s with heap := h'', toks := tk + 1 } :=
      I.turnedNew (ch := [e, it]) (fun b ob hb q => (sb.2 b (fun z => hb (by simp [z]))).trans (hk b ob (fun z => hb (by simp [z])) (fun z => hb (by simp [z])) q)) hf (Nat.le_refl _) new
    refine ⟨.ref s.heap.objs.size, _, I1, rfl, ⟨_, c, hcx, rfl, I.hok.fresh (Nat.le_refl _), rfl⟩, ⟨⟨.str ⟨#[c]⟩ u, ?_⟩, ?_, hne⟩, fun b hb => ?_⟩
    · rw [show ((i + 1 : Nat) : Int) = (i : Int) + 1 from by omega]; exact he'
    · obtain ⟨o, q, r⟩ := hit'
      exact ⟨o, (sb.2 it (Ne.symm hne)).trans q, r⟩
    · have hb' : b < s.heap.objs.size := by
        rcases List.mem_cons.mp hb with rfl | z
        · exact hel
        · rw [List.mem_singleton.mp z]; exact hil
      rw [upd_ne (Nat.ne_of_lt hb')]
      exact (hf b hb).1
  done := fun X hP hw hK hc i pins s σ H E I hf st hg => by
    subst hP hw hK
    obtain ⟨⟨old, he⟩, hit, hne⟩ := st
    obtain ⟨f0, f1, f2, f3, f4, f5⟩ := hf it (List.mem_cons_of_mem _ List.mem_cons_self)
    have D : Draws X.prog X.w X.A.in1 it [it] x.cps.size (SignAt x) (fun i h => h.IsStrIter it ty x t i) := by
      rcases hty with q | q
      · rw [q]; exact Draws.strAscii (A := X.A.in1) (I.ok.hd hc) it x t
      · rw [q]; exact Draws.strWide (A := X.A.in1) (I.ok.hd hc) it x t
    have hi : i = x.cps.size := hg
    subst hi
    exact wpAny_pyNext_enum_endD D he hit fun h' eb => ⟨rfl, I.turned (t' := s.toks) (fun b o hb q => eb b o hb q) f0 f1 f3 f4 f5⟩
  self := fun A i s Q E ⟨⟨_, he⟩, _⟩ h => wpAny_pyIter_enum he h
def iEnumS (ta : TA) : TI := fun σ H R => ta σ H fun vs H1 => ∃ x, vs = [.str x] ∧ R (Ites x) H1
section
variable {X : Cx} {σ : St} {H : Hp} {e o : Expr} {es : List Expr} {pos p apos p2 tpos : Pos} {Q : VK} {D : Ends} {kk : Nat} {elts : List Expr}
theorem pi_enumS (hm : X.mg "enumerate" = none) (hg : Gl X "enumerate") (hs : starEach [e] X.env = [(false, eval e X.env)] := by rfl) : PI X (.Tuple elts kk tpos) (.Call (.Name "enumerate" p) [e] [] pos) (iEnumS (wA X [e])) := by
  refine ⟨fun pins s σ H R I h => ?_⟩
  refine Call_ (ld_blt I hg hm boot_enumerate (PyProof.Rows.callWith_type1 (thn (h.run pos pins s I) fun us s1 ⟨vs, H1, I1, r1, x, ex, q⟩ => ?_) hs rfl))
  subst ex
  cases r1 with
  | cons r rr =>
    cases rr
    obtain ⟨t, rfl⟩ := r
    refine call_enumerate_str fun h' he hit hsz hk => wpAny_pyIter_enum he ?_
    have I2 : Inv X pins σ H1 { s1 with heap := h' } := I1.kept (t' := s1.toks) hk
    refine ⟨s1.heap.objs.size + 1, [s1.heap.objs.size + 1, s1.heap.objs.size], _, _, H1, rfl, I2, turn_enumS x t (strIterType x) (by unfold strIterType; split <;> simp) (s1.heap.objs.size + 1) s1.heap.objs.size, ⟨⟨.none, he⟩, hit, Nat.succ_ne_self _⟩, fun b hb => ?_, q⟩
    have hle : s1.heap.objs.size ≤ b := by
      rcases List.mem_cons.mp hb with z | z
      · rw [z]; exact Nat.le_add_right _ _
      · rw [List.mem_singleton.mp z]; exact Nat.le_refl _
    exact I1.fpOk hle (I1.hok.fresh hle)
end
end Z

set_option maxRecDepth 100000
set_option maxHeartbeats 4000000
namespace Z
open PySem PySem.Spec PyProof.Rows L2
open Evl (Ex)
section
variable {X : Cx} {σ : St} {H : Hp} {a b c e o i tg l : Expr} {es : List Expr} {st : Stmt} {body : List Stmt} {pos pos' p p1 p2 apos tpos : Pos} {Q : VK} {D : Ends} {kk : Nat} {elts : List Expr}
/-! ### built-ins -/
theorem kisiT {x : V} {tp : Addr} {cs : List V} {t : Value} {us : List Value} {b : Bool} (hT : H tp = some (.tup cs)) (hp : Paired ClsV cs us) (ty : TyX X.K H x t) (hk : PySem.W.kitAny X.K t us = some b) (h : Q (.bl b) H) : wK X (.builtin "isinstance") [x, .ref tp] H Q :=
  ofK call_isiT ⟨x, tp, cs, t, us, b, rfl, hT, hp, ty, hk, h⟩
theorem kall {p : Addr} {bs : List Bool} (hc : X.calm = true) (hp : SqL X.K H p (bs.map V.bl)) (h : Q (.bl (bs.all id)) H) : wK X (.builtin "all") [.ref p] H Q := ofK (cr_all hc) ⟨p, bs, rfl, hp, h⟩
theorem ksum {p : Addr} {ns : List Int} (hc : X.calm = true) (hp : SqL X.K H p (ns.map V.int)) (h : Q (.int ns.sum) H) : wK X (.builtin "sum") [.ref p] H Q := ofK (cr_sum hc) ⟨p, ns, rfl, hp, h⟩
theorem kdivmod {m n : Int} (hc : CDiv m n) (h : ∀ p H2, H p = none → Ex H H2 → H2 p = some (.tup [.int (m / n), .int (m % n)]) → Q (.ref p) H2) : wK X (.builtin "divmod") [.int m, .int n] H Q :=
  ofK call_divmod ⟨m, n, rfl, hc, fun p hp => h p _ hp (Ex.new hp) upd_same⟩
theorem kabs {m : Int} (h : Q (.int (if m < 0 then -m else m)) H) : wK X (.builtin "abs") [.int m] H Q := ofK call_abs ⟨m, rfl, h⟩
theorem kord {x : Str} (hx : x.length = 1) (h : Q (.int (x.cps.getD 0 0 : Nat)) H) : wK X (.builtin "ord") [.str x] H Q := ofK call_ord ⟨x, rfl, hx, h⟩
theorem orep {p : Addr} {xs : List V} {k : Int} (hp : H p = some (.lst xs)) (h0 : -(2 ^ 63) ≤ k) (h1 : k < 2 ^ 63) (hz : xs.length * k.toNat ≤ sizeLine) (h : ∀ q H2, H q = none → Ex H H2 → H2 q = some (.lst (List.replicate k.toNat xs).flatten) → Q (.ref q) H2) : wO X (binaryOp .Mult) (.ref p) (.int k) H Q :=
  ofO op_rep ⟨p, k, xs, rfl, rfl, hp, h0, h1, hz, fun q hq => h q _ hq (Ex.new hq) upd_same⟩
theorem oin {n : Nat} {z : Str} (h : Q (.bl (decide (n ∈ z.cps.toList))) H) : wO X (compareOp .In) (.str ⟨#[n]⟩) (.str z) H Q := ofO op_in_sign ⟨n, z, rfl, rfl, h⟩
theorem onin {n : Nat} {z : Str} (h : Q (.bl (!decide (n ∈ z.cps.toList))) H) : wO X (compareOp .NotIn) (.str ⟨#[n]⟩) (.str z) H Q := ofO op_notIn_sign ⟨n, z, rfl, rfl, h⟩
/-! ### methods of a text -/
theorem zjoin (h : wE X o σ H fun x H1 => (∃ a, x = .str a) ∧ wE X e σ H1 fun y H2 => ∃ a p, ∃ ys : List Str, x = .str a ∧ y = .ref p ∧ (SqL X.K H2 p (ys.map V.str) ∨ SqT X.K H2 p (ys.map V.str)) ∧ (ys.map (·.length)).sum + ys.length * a.length ≤ 16777216 ∧ Q (.str (Txt.join a ys)) H2)
    (hs : starEach [e] X.env = [(false, eval e X.env)] := by rfl) (hbase : attributeBase o "join" X.env (eval o X.env) = eval o X.env := by rfl) (hline : (apos.endLine == pos.line) = true := by rfl) : wE X (.Call (.Attribute o "join" apos) [e] [] pos) σ H Q := by
  refine ofE (pe_join sE sE hs hbase hline) ⟨fun pins s I => thn (h.run pins s I) fun u s1 ⟨x, H1, I1, r1, hx, q⟩ => ⟨x, H1, I1, r1, hx, ⟨fun pins2 s2 J => thn (q.run pins2 s2 J) fun u2 s3 ⟨y, H2, I2, r2, a, p, ys, e1, e2, q2⟩ => ⟨y, H2, I2, r2, a, p, ys, e1, by rw [e2], q2⟩⟩⟩⟩
theorem zsindex (h : wE X o σ H fun x H1 => (∃ a, x = .str a) ∧ wE X e σ H1 fun y H2 => ∃ a b i rest, x = .str a ∧ y = .str b ∧ Builtin.Str.occurrences a b 0 a.length 1 = i :: rest ∧ Q (.int (i : Nat)) H2)
    (hs : starEach [e] X.env = [(false, eval e X.env)] := by rfl) (hbase : attributeBase o "index" X.env (eval o X.env) = eval o X.env := by rfl) (hline : (apos.endLine == pos.line) = true := by rfl) : wE X (.Call (.Attribute o "index" apos) [e] [] pos) σ H Q := by
  refine ofE (pe_m1 PySem.F.slot_str_index PySem.F.type_str_index mt_sindex sE sE hs hbase hline) ⟨fun pins s I => thn (h.run pins s I) fun u s1 ⟨x, H1, I1, r1, hx, q⟩ => ⟨x, H1, I1, r1, hx, ⟨fun pins2 s2 J => thn (q.run pins2 s2 J) fun u2 s3 ⟨y, H2, I2, r2, a, b, i, rest, e1, e2, q2⟩ => ⟨y, H2, I2, r2, a, b, i, rest, e1, by rw [e2], q2⟩⟩⟩⟩
/-! ### slices -/
structure wP (X : Cx) (e : Option Expr) (σ : St) (H : Hp) (Q : Option Int → Hp → Prop) : Prop where
  run : ∃ t : TO, PO X e t ∧ t σ H Q
structure wSl (X : Cx) (x : V) (lo hi : Option Int) (H : Hp) (Q : VK) : Prop where
  run : ∃ r : V → Option Int → Option Int → Hp → VK → Prop, SlR X r ∧ r x lo hi H Q
theorem sP {e : Option Expr} : PO X e (wP X e) := ⟨fun pins s σ H Q I ⟨t, h, q⟩ => h.run pins s σ H Q I q⟩
theorem pnon {Q : Option Int → Hp → Prop} (h : Q none H) : wP X none σ H Q := ⟨_, po_none, h⟩
theorem psom {Q : Option Int → Hp → Prop} (h : wE X e σ H fun x H1 => ∃ i, x = .int i ∧ Q (some i) H1) : wP X (some e) σ H Q := ⟨_, po_some sE, h⟩
theorem sSl : SlR X (wSl X) := fun pins s σ H x v vl vu lo hi sl Q I rx hs pl pu ⟨r, h, q⟩ => h pins s σ H x v vl vu lo hi sl Q I rx hs pl pu q
theorem zsl {lo hi : Option Expr} (h : wE X e σ H fun x H1 => wP X lo σ H1 fun l H2 => wP X hi σ H2 fun u H3 => wSl X x l u H3 Q) : wE X (.Subscript e (.Slice lo hi none p2) pos) σ H Q := ofE (pe_slice sSl sE sP sP) h
theorem slL {q : Addr} {xs : List V} {lo hi : Option Int} (hq : SqL X.K H q xs) (h : ∀ p H2, H p = none → Ex H H2 → H2 p = some (.lst (cutV xs lo hi)) → Q (.ref p) H2) : wSl X (.ref q) lo hi H Q := ⟨_, sl_list, q, xs, rfl, hq, fun p hp => h p _ hp (Ex.new hp) upd_same⟩
theorem slT {q : Addr} {xs : List V} {lo hi : Option Int} (hq : SqT X.K H q xs) (hw : ¬ (HT.sIx xs.length 0 lo = 0 ∧ HT.sIx xs.length xs.length hi = xs.length)) (h : ∀ p H2, H p = none → Ex H H2 → H2 p = some (.tup (cutV xs lo hi)) → Q (.ref p) H2) : wSl X (.ref q) lo hi H Q := ⟨_, sl_tup, q, xs, rfl, hq, hw, fun p hp => h p _ hp (Ex.new hp) upd_same⟩
theorem slS {z : Str} {lo hi : Option Int} (hz : z.length ≤ sizeLine) (h : Q (.str (cutS z lo hi)) H) : wSl X (.str z) lo hi H Q := ⟨_, sl_str, z, rfl, hz, h⟩
/-! ### o[i] = .. -/
structure wSe (X : Cx) (o i v : V) (H : Hp) (Q : Hp → Prop) : Prop where
  run : ∃ t : TSet, PSet X t ∧ t o i v H Q
theorem sSe : PSet X (wSe X) := fun pins s σ H o i v ov iv u Q I ro ri rv ⟨t, h, q⟩ => h pins s σ H o i v ov iv u Q I ro ri rv q
theorem gsub {v : V} {Q : St → Hp → Prop} (h : wE X o σ H fun x H1 => wE X i σ H1 fun y H2 => wSe X x y v H2 fun H3 => Q σ H3)
    (ha : ∀ v, assign (.Subscript o i pos) X.env v = (do
      let ov ← holding [v] (eval o X.env)
      let iv ← holding [v, ov] (eval i X.env)
      standAt pos
      holding [v, ov, iv] (setItem ov iv v)
      release [v, ov, iv] []) := by intro _; rfl) : wG X (.Subscript o i pos) v σ H Q := ofG (pg_sub sE sE sSe ha) h
theorem seL {q : Addr} {xs : List V} {k : Int} {j : Nat} {v : V} {Q : Hp → Prop} (hq : H q = some (.lst xs)) (hj : ixN xs.length k = some j) (h : Q (upd H q (.lst (xs.set j v)))) : wSe X (.ref q) (.int k) v H Q := ⟨_, set_list, q, xs, k, j, rfl, rfl, hq, hj, h⟩
/-! ### for over enumerate -/
theorem lforEn (hm : X.mg "enumerate" = none) (hp : PassesOwn (model X.prog X.w) X.A X.env X.xe) (hc : X.calm = true) (hg : Gl X "enumerate")
    (h : wA X [e] σ H fun vs H1 => ∃ (a : Addr) (xs : List V), vs = [.ref a] ∧ (SqL X.K H1 a xs ∧ True) ∧ ∃ Pv : Nat → St → Hp → Prop, Pv 0 σ H1 ∧ (∀ i σ H, i ≤ xs.length → Pv i σ H → SqL X.K H a xs) ∧
      (∀ i x σ H T H2, xs[i]? = some x → Pv i σ H → H T = none → Ex H H2 → H2 T = some (.tup [.int ((i : Nat) : Int), x]) → wG X (.Tuple elts kk tpos) (.ref T) σ H2 fun σ2 H2 => wB X body { D with nx := Pv (i + 1), ct := Pv (i + 1), bk := D.nx } σ2 H2) ∧ ∀ σ H, Pv xs.length σ H → D.nx σ H)
    (hs : ∀ x, foldedSetIterable (.Call (.Name "enumerate" p) [e] [] pos') X.env x = pure x := by intro _; rfl) (hsa : starEach [e] X.env = [(false, eval e X.env)] := by rfl) : wS X (.For (.Tuple elts kk tpos) (.Call (.Name "enumerate" p) [e] [] pos') body [] pos) D σ H := by
  refine lfor hp hc (pi_enum hg hm sA hsa) ⟨fun ps pins s I => thn (h.run ps pins s I) fun u s1 ⟨vs, H1, I1, r, a, xs, ex, ⟨hq, _⟩, Pv, h0, hl, ht, hd⟩ => ⟨vs, H1, I1, r, a, xs, ex, hq, ?_⟩⟩ hs
  refine ⟨fun i m σ H => m = xs.length - i ∧ i ≤ xs.length ∧ Pv i σ H, ⟨xs.length, by simp, Nat.zero_le _, h0⟩, ?_⟩
  rintro i m σ H ⟨rfl, hi, z⟩
  have q := hl i σ H hi z
  by_cases hlt : i < xs.length
  · refine .inr ⟨⟨xs, xs[i], q, by simp [hlt]⟩, Pv (i + 1), fun σ' H' p' => ⟨xs.length - (i + 1), by omega, rfl, hlt, p'⟩, ?_⟩
    rintro v H' ⟨T, x, rfl, hT, rfl, hx⟩
    exact ht i x σ H T _ (hx xs q) z hT (Ex.new hT) upd_same
  · have e : i = xs.length := by omega
    subst e
    exact .inl ⟨⟨xs, q, Nat.le_refl _⟩, hd σ H z⟩
theorem lforEnS (hm : X.mg "enumerate" = none) (hp : PassesOwn (model X.prog X.w) X.A X.env X.xe) (hc : X.calm = true) (hg : Gl X "enumerate") (Pv : Nat → St → Hp → Prop)
    (h : wA X [e] σ H fun vs H1 => ∃ x : Str, vs = [.str x] ∧ (True ∧ Pv 0 σ H1) ∧
      (∀ i c σ H T H2, x.cps[i]? = some c → Pv i σ H → H T = none → Ex H H2 → H2 T = some (.tup [.int ((i : Nat) : Int), .str ⟨#[c]⟩]) → wG X (.Tuple elts kk tpos) (.ref T) σ H2 fun σ2 H2 => wB X body { D with nx := Pv (i + 1), ct := Pv (i + 1), bk := D.nx } σ2 H2) ∧ ∀ σ H, Pv x.cps.size σ H → D.nx σ H)
    (hs : ∀ x, foldedSetIterable (.Call (.Name "enumerate" p) [e] [] pos') X.env x = pure x := by intro _; rfl) (hsa : starEach [e] X.env = [(false, eval e X.env)] := by rfl) : wS X (.For (.Tuple elts kk tpos) (.Call (.Name "enumerate" p) [e] [] pos') body [] pos) D σ H := by
  refine lfor hp hc (pi_enumS hm hg hsa) ⟨fun ps pins s I => thn (h.run ps pins s I) fun u s1 ⟨vs, H1, I1, r, x, ex, ⟨_, h0⟩, ht, hd⟩ => ⟨vs, H1, I1, r, x, ex, ?_⟩⟩ hs
  refine ⟨fun i m σ H => m = x.cps.size - i ∧ i ≤ x.cps.size ∧ Pv i σ H, ⟨x.cps.size, by simp, Nat.zero_le _, h0⟩, ?_⟩
  rintro i m σ H ⟨rfl, hi, z⟩
  by_cases hlt : i < x.cps.size
  · refine .inr ⟨hlt, Pv (i + 1), fun σ' H' p' => ⟨x.cps.size - (i + 1), by omega, rfl, hlt, p'⟩, ?_⟩
    rintro v H' ⟨T, c, hx, rfl, hT, rfl⟩
    exact ht i c σ H T _ hx z hT (Ex.new hT) upd_same
  · have e : i = x.cps.size := by omega
    subst e
    exact .inl ⟨rfl, hd σ H z⟩
/-! ### comprehensions over a range by steps, over a text -/
theorem piR3 (hm : X.mg "range" = none) (hg : Gl X "range") (hs : starEach [a, b, c] X.env = (false, eval a X.env) :: starEach [b, c] X.env := by rfl) (hpl : (backTo pos (starEach [b, c] X.env)).any (·.1) = false := by rfl) : PI X tg (.Call (.Name "range" p) [a, b, c] [] pos) (iRng3 (wA X [a, b, c])) := pi_range3 hg hm sA hs hpl
theorem piS : PI X tg l (iStr (wE X l)) := pi_str sE
variable {elt : Expr} {ifs : List Expr} {scope : Scope} {vs : List Nat}
theorem tmR3 {m n k : Int} {z : Nat} (acc : Nat → List V) (h0 : acc 0 = [])
    (h : wA X [a, b, c] σ H fun x H1 => x = [.int m, .int n, .int k] ∧ RgC m n k z ∧ (∀ (j : Nat) H', j < z → Ex H1 H' → turnA X scope tg ifs elt vs acc j (.int (m + (j : Int) * k)) σ H') ∧ ∀ L H', H1 L = none → Ex H1 H' → H' L = some (.lst (acc z)) → Q (.ref L) H') :
    tLc (iRng3 (wA X [a, b, c])) (bG X scope tg) (bTs X scope ifs) (bE X scope elt) vs σ H Q := by
  refine ⟨fun ps pins s I => thn (h.run ps pins s I) fun us s' ⟨x, H1, J, r, e, h1, q2, q3⟩ => ⟨x, H1, J, r, m, n, k, z, e, h1, fun L hL => ?_⟩⟩
  refine ⟨fun j d H' => d = z - j ∧ j ≤ z ∧ (Ex H1 H' ∧ H' L = some (.lst (acc j))), ⟨z, by simp, Nat.zero_le _, Ex.new hL, by rw [h0]; exact upd_same⟩, ?_⟩
  rintro j d H' ⟨rfl, hj, e1, e2⟩
  by_cases hlt : j < z
  · refine .inr ⟨hlt, fun H' => Ex H1 H' ∧ H' L = some (.lst (acc (j + 1))), fun H' p' => ⟨z - (j + 1), by omega, rfl, hlt, p'⟩, ?_⟩
    rintro x H2 ⟨rfl, rfl⟩
    exact turn_of hL e1 e2 (q2 j _ hlt e1)
  · have e : j = z := by omega
    subst e
    exact .inl ⟨Nat.le_refl _, q3 L H' hL e1 e2⟩
theorem tmS {x : Str} (acc : Nat → List V) (h0 : acc 0 = [])
    (h : wE X l σ H fun y H1 => y = .str x ∧ (∀ (j : Nat) c H', x.cps[j]? = some c → Ex H1 H' → turnA X scope tg ifs elt vs acc j (.str ⟨#[c]⟩) σ H') ∧ ∀ L H', H1 L = none → Ex H1 H' → H' L = some (.lst (acc x.cps.size)) → Q (.ref L) H') :
    tLc (iStr (wE X l)) (bG X scope tg) (bTs X scope ifs) (bE X scope elt) vs σ H Q := by
  refine ⟨fun pins s I => thn (h.run pins s I) fun us s' ⟨y, H1, J, r, e, q2, q3⟩ => ⟨y, H1, J, r, x, e, fun L hL => ?_⟩⟩
  refine ⟨fun j d H' => d = x.cps.size - j ∧ j ≤ x.cps.size ∧ (Ex H1 H' ∧ H' L = some (.lst (acc j))), ⟨x.cps.size, by simp, Nat.zero_le _, Ex.new hL, by rw [h0]; exact upd_same⟩, ?_⟩
  rintro j d H' ⟨rfl, hj, e1, e2⟩
  by_cases hlt : j < x.cps.size
  · refine .inr ⟨hlt, fun H' => Ex H1 H' ∧ H' L = some (.lst (acc (j + 1))), fun H' p' => ⟨x.cps.size - (j + 1), by omega, rfl, hlt, p'⟩, ?_⟩
    rintro y H2 ⟨rfl, c, hc, rfl⟩
    exact turn_of hL e1 e2 (q2 j c _ hc e1)
  · have e : j = x.cps.size := by omega
    subst e
    exact .inl ⟨Nat.le_refl _, q3 L H' hL e1 e2⟩
end
end Z

set_option maxRecDepth 100000
set_option maxHeartbeats 4000000
namespace Z
open PySem PySem.Spec PyProof.Rows L2
/-! ### the check of sixteen bits, byte by byte and bit by bit -/
/-- a turn of the program's -/
def pStep (f : Nat) : Nat := if f / 32768 = 1 then (f * 2 % 65536) ^^^ 4129 else f * 2 % 65536
/-- a turn of the law's: the k-th bit of b from above -/
def lStep (b f k : Nat) : Nat := if (f / 32768 + b / 2 ^ (7 - k)) % 2 = 1 then (f * 2 % 65536) ^^^ 4129 else f * 2 % 65536
def pTurns (f : Nat) : Nat → Nat
  | 0 => f
  | i + 1 => pStep (pTurns f i)
def lTurns (b f : Nat) : Nat → Nat
  | 0 => f
  | i + 1 => lStep b (lTurns b f i) i
theorem pStep_lt (f : Nat) : pStep f < 65536 := by
  unfold pStep
  have h : f * 2 % 65536 < 2 ^ 16 := Nat.mod_lt _ (by decide)
  split
  · exact Nat.xor_lt_two_pow h (by decide)
  · exact h
theorem lStep_lt (b f k : Nat) : lStep b f k < 65536 := by
  unfold lStep
  have h : f * 2 % 65536 < 2 ^ 16 := Nat.mod_lt _ (by decide)
  split
  · exact Nat.xor_lt_two_pow h (by decide)
  · exact h
theorem pTurns_lt {f : Nat} (h : f < 65536) : ∀ i, pTurns f i < 65536
  | 0 => h
  | i + 1 => pStep_lt _
theorem lTurns_lt {b f : Nat} (h : f < 65536) : ∀ i, lTurns b f i < 65536
  | 0 => h
  | i + 1 => lStep_lt _ _ _
theorem turns_eq {b f : Nat} (hb : b < 256) (hf : f < 65536) : ∀ i, i ≤ 8 → pTurns (f ^^^ (b * 256)) i = lTurns b f i ^^^ (b * 2 ^ (8 + i) % 65536)
  | 0, _ => by
    show f ^^^ (b * 256) = f ^^^ (b * 256 % 65536)
    rw [Nat.mod_eq_of_lt (by omega)]
  | i + 1, hi => by
    have ih := turns_eq hb hf i (by omega)
    have hL := lTurns_lt (b := b) hf i
    show pStep (pTurns (f ^^^ (b * 256)) i) = lStep b (lTurns b f i) i ^^^ _
    rw [ih]
    generalize hl : lTurns b f i = L at hL ⊢
    have hB : b * 2 ^ (8 + i) % 65536 < 65536 := Nat.mod_lt _ (by decide)
    have e1 : (b * 2 ^ (8 + i) % 65536) / 32768 = b / 2 ^ (7 - i) % 2 := by
      have : i = 0 ∨ i = 1 ∨ i = 2 ∨ i = 3 ∨ i = 4 ∨ i = 5 ∨ i = 6 ∨ i = 7 := by omega
      rcases this with rfl | rfl | rfl | rfl | rfl | rfl | rfl | rfl <;> simp only [Nat.reduceAdd, Nat.reduceSub, Nat.reducePow] <;> omega
    have e2 : (b * 2 ^ (8 + i) % 65536) * 2 % 65536 = b * 2 ^ (8 + (i + 1)) % 65536 := by
      rw [show 8 + (i + 1) = (8 + i) + 1 from by omega, Nat.pow_succ, ← Nat.mul_assoc]
      omega
    generalize b * 2 ^ (8 + i) % 65536 = B at hB e1 e2 ⊢
    have d : (L ^^^ B) / 32768 = (L / 32768) ^^^ (B / 32768) := by
      have := Nat.shiftRight_xor_distrib (a := L) (b := B) (i := 15)
      simpa [Nat.shiftRight_eq_div_pow] using this
    have m : (L ^^^ B) * 2 % 65536 = (L * 2 % 65536) ^^^ (B * 2 % 65536) := by
      have h1 := Nat.shiftLeft_xor_distrib (a := L) (b := B) (i := 1)
      have h2 := Nat.xor_mod_two_pow (a := L * 2) (b := B * 2) (n := 16)
      simp only [Nat.shiftLeft_eq, Nat.pow_one] at h1
      rw [h1]
      exact h2
    have c1 : L / 32768 = 0 ∨ L / 32768 = 1 := by omega
    have c2 : B / 32768 = 0 ∨ B / 32768 = 1 := by omega
    unfold pStep lStep
    rw [d, m, e2, Nat.add_mod, ← e1]
    rcases c1 with c1 | c1 <;> rcases c2 with c2 | c2 <;> rw [c1, c2]
    · rfl
    · show (_ ^^^ _) ^^^ 4129 = (_ ^^^ 4129) ^^^ _
      rw [Nat.xor_assoc, Nat.xor_comm _ 4129, ← Nat.xor_assoc]
    · show (_ ^^^ _) ^^^ 4129 = (_ ^^^ 4129) ^^^ _
      rw [Nat.xor_assoc, Nat.xor_comm _ 4129, ← Nat.xor_assoc]
    · rfl
/-- a byte taken in -/
def crcB (f b : Nat) : Nat := pTurns (f ^^^ (b * 256)) 8
theorem crcB_law {b f : Nat} (hb : b < 256) (hf : f < 65536) : lTurns b f 8 = crcB f b := by
  unfold crcB
  rw [turns_eq hb hf 8 (Nat.le_refl _)]
  rw [show b * 2 ^ (8 + 8) % 65536 = 0 from by omega, Nat.xor_zero]
theorem crcB_lt (f b : Nat) : crcB f b < 65536 := pStep_lt _
/-- the check of a row from f on -/
def crc (f : Nat) : List Int → Nat
  | [] => f
  | b :: r => crc (crcB f b.toNat) r
theorem crc_lt {f : Nat} (h : f < 65536) : ∀ xs : List Int, crc f xs < 65536
  | [] => h
  | b :: r => crc_lt (crcB_lt _ _) r
theorem crc_take {f : Nat} : ∀ {xs : List Int} {i : Nat} {b : Int}, xs[i]? = some b → crc f (xs.take (i + 1)) = crcB (crc f (xs.take i)) b.toNat
  | x :: xs, 0, b, h => by simp at h; subst h; rfl
  | x :: xs, i + 1, b, h => by
    have := crc_take (f := crcB f x.toNat) (xs := xs) (i := i) (b := b) (by simpa using h)
    exact this
theorem crc_app (f : Nat) : ∀ xs ys : List Int, crc f (xs ++ ys) = crc (crc f xs) ys
  | [], _ => rfl
  | x :: xs, ys => crc_app (crcB f x.toNat) xs ys
end Z
namespace Z
open PySem PySem.Spec PyProof.Rows L2
open Evl (Ex)
/-- a test whose answer is told ahead, the heap grown -/
theorem tcutE {X : Cx} {c : Expr} {σ : Z.St} {H : Hp} {Q : Bool → Hp → Prop} (k : Bool) (h : wT X c σ H fun k' H' => k' = k ∧ Ex H H') (q : ∀ H', Ex H H' → Q k H') : wT X c σ H Q := h.imp fun v H' ⟨a, b⟩ => by rw [a]; exact q H' b
theorem ecutE {X : Cx} {c : Expr} {σ : Z.St} {H : Hp} {Q : VK} (v : V) (h : wE X c σ H fun v' H' => v' = v ∧ Ex H H') (q : ∀ H', Ex H H' → Q v H') : wE X c σ H Q := h.imp fun v' H' ⟨a, b⟩ => by rw [a]; exact q H' b
/-! ### kinds stay -/
theorem TyOf.ex {K : PySem.W.Frag} {H H' : Hp} (e : Ex H H') {v : V} {t : Value} (h : TyOf K H v t) : TyOf K H' v t := by
  cases h with
  | non => exact .non
  | bl x => exact .bl x
  | int i => exact .int i
  | str x => exact .str x
  | flt x => exact .flt x
  | lst q => exact .lst (e _ _ q)
  | frz q => exact .frz (e _ _ q)
  | tup q => exact .tup (e _ _ q)
  | dK q => exact .dK (e _ _ q)
  | dT q => exact .dT (e _ _ q)
  | ins q c a b d f => exact .ins (e _ _ q) c a b d f
theorem TyX.ex {K : PySem.W.Frag} {H H' : Hp} (e : Ex H H') {v : V} {t : Value} (h : TyX K H v t) : TyX K H' v t := by
  cases h with
  | base q => exact .base (TyOf.ex e q)
  | byt b => exact .byt b
  | set q => exact .set (e _ _ q)
  | kList q c => exact .kList q c
  | kTuple q c => exact .kTuple q c
  | kDict q c => exact .kDict q c
  | fTuple q => exact .fTuple (e _ _ q)
  | fDict q => exact .fDict (e _ _ q)
theorem NotWhole.ex {K : PySem.W.Frag} {H H' : Hp} (e : Ex H H') {v : V} (h : NotWhole K H v) : NotWhole K H' v := by
  obtain ⟨t, k1, k2, a, b, c, d⟩ := h
  exact ⟨t, k1, k2, TyX.ex e a, b, c, d⟩
theorem Asked.ex {K : PySem.W.Frag} {H H' : Hp} (e : Ex H H') {lo hi : Int} {v : V} {b : Bool} (h : Asked K H lo hi v b) : Asked K H' lo hi v b := by
  cases h with
  | int n => exact .int n
  | odd q => exact .odd (NotWhole.ex e q)
/-- things asked one by one -/
inductive AskedAll (K : PySem.W.Frag) (H : Hp) (lo hi : Int) : List V → List Bool → Prop
  | nil : AskedAll K H lo hi [] []
  | cons {v : V} {b : Bool} {vs : List V} {bs : List Bool} : Asked K H lo hi v b → AskedAll K H lo hi vs bs → AskedAll K H lo hi (v :: vs) (b :: bs)
theorem AskedAll.length {K : PySem.W.Frag} {H : Hp} {lo hi : Int} : ∀ {vs : List V} {bs : List Bool}, AskedAll K H lo hi vs bs → vs.length = bs.length
  | _, _, .nil => rfl
  | _, _, .cons _ t => by rw [List.length_cons, List.length_cons, t.length]
theorem AskedAll.get {K : PySem.W.Frag} {H : Hp} {lo hi : Int} : ∀ {vs : List V} {bs : List Bool} {i : Nat} {v : V}, AskedAll K H lo hi vs bs → vs[i]? = some v → ∃ b, bs[i]? = some b ∧ Asked K H lo hi v b
  | _, _, 0, _, .cons a _, h => by simp at h; subst h; exact ⟨_, rfl, a⟩
  | _, _, i + 1, _, .cons _ t, h => by obtain ⟨b, h1, h2⟩ := t.get (i := i) (by simpa using h); exact ⟨b, by simpa using h1, h2⟩
theorem AskedAll.ints {K : PySem.W.Frag} {H : Hp} {lo hi : Int} : ∀ {ns : List Int}, (∀ n ∈ ns, lo ≤ n ∧ n ≤ hi) → AskedAll K H lo hi (ns.map V.int) (ns.map fun _ => true)
  | [], _ => .nil
  | n :: ns, h => .cons (by have := Asked.int (K := K) (H := H) (lo := lo) (hi := hi) n; rwa [decide_eq_true (h n List.mem_cons_self)] at this) (AskedAll.ints fun m hm => h m (List.mem_cons_of_mem _ hm))
/-- whether a thing is a row of bytes: a list or tuple, each of its items a whole number from 0 to 255 -/
inductive RowAsk (K : PySem.W.Frag) (H : Hp) : V → Bool → Prop
  | lst {l : Addr} {xs : List V} {bs : List Bool} (h : H l = some (.lst xs)) (a : AskedAll K H 0 255 xs bs) (hz : xs.length ≤ sizeLine) : RowAsk K H (.ref l) (bs.all id)
  | tup {l : Addr} {xs : List V} {bs : List Bool} (h : H l = some (.tup xs)) (a : AskedAll K H 0 255 xs bs) (hz : xs.length ≤ sizeLine) : RowAsk K H (.ref l) (bs.all id)
  | not {v : V} {t : Value} (ty : TyX K H v t) (k : PySem.W.kitAny K t [.type "list", .type "tuple"] = some false) : RowAsk K H v false
end Z

set_option maxRecDepth 100000
set_option maxHeartbeats 4000000
namespace Z
open PySem PySem.Spec PyProof.Rows L2
open Evl (Ex)
section
variable {X : Cx} {σ : Z.St} {H : Hp} {a b e o : Expr} {st : Stmt} {D : Ends} {p p1 p2 p3 pos apos : Pos} {Q : VK}
/-- a statement cut behind top_name -/
theorem scut (R : Z.St → Hp → Prop) (h : wS X st { D with nx := R } σ H) (q : ∀ σ' H', R σ' H' → D.nx σ' H') : wS X st D σ H :=
  h.imp q (fun _ _ z => z) (fun _ _ z => z) fun _ _ z => z
theorem vcut (R : VK) (h : wE X e σ H R) (q : ∀ v H', R v H' → Q v H') : wE X e σ H Q := h.imp q
/-! ### list(range(..)), l.clear(), x in a tuple or list -/
theorem zlrg1 (hc : X.calm = true) (hg1 : Gl X "list") (hm1 : X.mg "list" = none) (hg2 : Gl X "range") (hm2 : X.mg "range" = none)
    (h : wE X a σ H fun x H1 => ∃ n, x = .int n ∧ RgOk 0 n ∧ ∀ q H2, H1 q = none → Ex H1 H2 → H2 q = some (.lst (rgV 0 n)) → Q (.ref q) H2)
    (na : starEach [.Call (.Name "range" p1) [a] [] p2] X.env = (false, eval (.Call (.Name "range" p1) [a] [] p2) X.env) :: starEach [] X.env := by rfl) (nb : starEach [a] X.env = (false, eval a X.env) :: starEach [] X.env := by rfl) :
    wE X (.Call (.Name "list" p) [.Call (.Name "range" p1) [a] [] p2] [] pos) σ H Q := by
  refine ofE (pe_listRg hc hg1 hm1 (prg_1 hg2 hm2 sE nb) na) ?_
  exact h.imp fun x H1 ⟨n, e, ok, q⟩ => ⟨n, e, ok, fun l hl => q l _ hl (Ex.new hl) upd_same⟩
theorem zclr (h : wE X o σ H fun x H1 => ∃ l xs, x = .ref l ∧ H1 l = some (.lst xs) ∧ Q .non (upd H1 l (.lst [])))
    (he : ∀ t : TE, PE X o t → PE X (.Call (.Attribute o "clear" apos) [] [] pos) (tBM0 X.K "list" rClear t) := by intro t ht; exact pe_bm0 PySem.F.plainAttrs_list PySem.F.slot_list_clear PySem.F.type_list_clear mt_clear ht) : wE X (.Call (.Attribute o "clear" apos) [] [] pos) σ H Q := by
  refine ofE (he _ sE) ⟨fun pins s I => thn (h.run pins s I) fun u s1 ⟨x, H1, I1, r1, l, xs, ex, hl, q⟩ => ⟨x, H1, I1, r1, ?_⟩⟩
  subst ex
  exact ⟨.inl ⟨rfl, xs, SqL.of hl⟩, l, xs, rfl, rfl, hl, q⟩
theorem oinF {x : V} {l : Addr} {xs : List V} (hp : SqL X.K H l xs ∨ SqT X.K H l xs) (fx : flatV x = true) (fs : xs.all flatV = true) (h : Q (.bl (inV x xs)) H) : wO X (compareOp .In) x (.ref l) H Q := ofO op_in_seq ⟨l, xs, rfl, hp, fx, fs, h⟩
theorem oninF {x : V} {l : Addr} {xs : List V} (hp : SqL X.K H l xs ∨ SqT X.K H l xs) (fx : flatV x = true) (fs : xs.all flatV = true) (h : Q (.bl (!inV x xs)) H) : wO X (compareOp .NotIn) x (.ref l) H Q := ofO op_notIn_seq ⟨l, xs, rfl, hp, fx, fs, h⟩
/-- x in a tuple of data -/
theorem oninT {k : Nat} {x y : V} {d : PyData} {ds : List PyData} (hr : Room k X.A) (hx : Dp X.K H x d) (hy : Dp X.K H y (.tuple ds)) (s1 : SeqAt.shaped d = true) (s2 : SeqAt.shaped (.tuple ds) = true) (hd : PyData.depthAll ds ≤ 60) (h : Q (.bl (!ds.any fun z => PyData.eqv z d)) H) : wO X (compareOp .NotIn) x y H Q := by
  refine ⟨fun pins s σ v u I rx ry => ?_⟩
  obtain ⟨as, r1⟩ := Dp.reads I d x v hx rx
  obtain ⟨bs, r2⟩ := Dp.reads I (.tuple ds) y u hy ry
  exact SeqAt.notIn_tuple_reads r2 r1 (SeqAt.canLay_of_shaped s2) (SeqAt.canLay_of_shaped s1) (by have := hr.units; have := Nat.min_le_left (PyData.depthAll ds) d.depth; omega) ⟨.bl _, H, I, rfl, h⟩
end
end Z

set_option maxRecDepth 100000
set_option maxHeartbeats 4000000
namespace Z
open PySem PySem.Spec PyProof.Rows L2
open Evl (Ex)
/-! ### comprehensions whose items are made anew: G j ws: what is known of the items ws after j turns -/
theorem del_ex (H : Hp) (L : Addr) : Ex (del H L) H := fun b o e => by
  by_cases h : b = L
  · subst h; rw [del_same] at e; cases e
  · rw [del_ne h] at e; exact e
theorem del_mono {H H' : Hp} {L : Addr} (h : ∀ b o, b ≠ L → H b = some o → H' b = some o) : Ex (del H L) (del H' L) := fun b o e => by
  by_cases hb : b = L
  · subst hb; rw [del_same] at e; cases e
  · rw [del_ne hb] at e ⊢; exact h b o hb e
theorem del_at {H : Hp} {L b : Addr} {o : HO} (h : H b = some o) (n : b ≠ L) : del H L b = some o := by rw [del_ne n]; exact h
theorem ne_new {H : Hp} {L b : Addr} {o : HO} (h : H L = some o) (n : H b = none) : b ≠ L := fun e => by rw [e, h] at n; cases n
section
variable {X : Cx} {σ : Z.St} {H : Hp} {elt tg l a b : Expr} {ifs : List Expr} {scope : Scope} {Q : VK}
abbrev turnG (X : Cx) (scope : Scope) (tg : Expr) (ifs : List Expr) (elt : Expr) (vs : List Nat) (G : Nat → List V → Hp → Prop) (L : Addr) (ws : List V) (j : Nat) (x : V) (σ : Z.St) (H : Hp) : Prop :=
  bG X scope tg x (wipe σ vs) H fun σ2 H2 => wipe σ2 vs = wipe σ vs ∧ Ex H H2 ∧ bTs X scope ifs σ2 H2 fun b H3 => if b = true then bE X scope elt σ2 H3 fun y H4 => ws.length < sizeLine ∧ Ex H H4 ∧ G (j + 1) (ws ++ [y]) (del H4 L) else Ex H H3 ∧ G (j + 1) ws (del H3 L)
theorem turnG_of {G : Nat → List V → Hp → Prop} (hG : ∀ j ws H H', G j ws H → Ex H H' → G j ws H') {j : Nat} {x : V} {vs : List Nat} {L : Addr} {ws : List V} {H1 : Hp} (hL : H1 L = none) (hd : Ex H1 H) (hacc : H L = some (.lst ws)) (h : turnG X scope tg ifs elt vs G L ws j x σ H) :
    turnB X scope tg ifs elt vs L x σ H fun H' => Ex H1 H' ∧ ∃ ws, H' L = some (.lst ws) ∧ G (j + 1) ws (del H' L) := by
  refine bG.imp h fun σ2 H2 ⟨w, e2, q⟩ => ⟨w, q.imp fun b H3 q3 => ?_⟩
  cases b with
  | false =>
    rw [if_neg Bool.false_ne_true] at q3 ⊢
    exact ⟨hd.trans q3.1, ws, q3.1 _ _ hacc, q3.2⟩
  | true =>
    rw [if_pos rfl] at q3 ⊢
    refine q3.imp fun y H4 ⟨hs, e4, g⟩ => ⟨ws, e4 _ _ hacc, hs, fun b o e => ?_, _, upd_same, hG _ _ _ _ g (del_mono fun b o n e => by rw [upd_ne n]; exact e)⟩
    have n : b ≠ L := fun z => by rw [z, hL] at e; cases e
    rw [upd_ne n]
    exact e4 _ _ (hd _ _ e)
theorem tnL {xs : List V} {vs : List Nat} (G : Nat → List V → Hp → Prop) (hG : ∀ j ws H H', G j ws H → Ex H H' → G j ws H') (h0 : ∀ H, G 0 [] H)
    (h : wE X l σ H fun x H1 => ∃ r, x = .ref r ∧ SqL X.K H1 r xs ∧ (∀ j x H' L ws, xs[j]? = some x → Ex H1 H' → H1 L = none → H' L = some (.lst ws) → G j ws (del H' L) → turnG X scope tg ifs elt vs G L ws j x σ H') ∧ ∀ L H' ws, H1 L = none → Ex H1 H' → H' L = some (.lst ws) → G xs.length ws H' → Q (.ref L) H') :
    tLc (iList X.K (wE X l)) (bG X scope tg) (bTs X scope ifs) (bE X scope elt) vs σ H Q :=
  ⟨fun pins s I => thn (h.run pins s I) fun u s1 ⟨x, H1, I1, r, p, ex, hq, q2, q3⟩ => ⟨x, H1, I1, r, p, ex, ⟨xs, hq⟩, fun L hL =>
    lc_list (fun j H' => Ex H1 H' ∧ ∃ ws, H' L = some (.lst ws) ∧ G j ws (del H' L)) ⟨Ex.new hL, [], upd_same, h0 _⟩ (fun i H' _ z => Evl.ex_l z.1 hq) (fun i x H' hx ⟨e, ws, hw, g⟩ => turnG_of (G := G) hG hL e hw (q2 i x H' L ws hx e hL hw g)) fun H' ⟨e, ws, hw, g⟩ => q3 L H' ws hL e hw (hG _ _ _ _ g (del_ex _ _))⟩⟩
theorem tnT {xs : List V} {vs : List Nat} (G : Nat → List V → Hp → Prop) (hG : ∀ j ws H H', G j ws H → Ex H H' → G j ws H') (h0 : ∀ H, G 0 [] H)
    (h : wE X l σ H fun x H1 => ∃ r, x = .ref r ∧ SqT X.K H1 r xs ∧ (∀ j x H' L ws, xs[j]? = some x → Ex H1 H' → H1 L = none → H' L = some (.lst ws) → G j ws (del H' L) → turnG X scope tg ifs elt vs G L ws j x σ H') ∧ ∀ L H' ws, H1 L = none → Ex H1 H' → H' L = some (.lst ws) → G xs.length ws H' → Q (.ref L) H') :
    tLc (iTup X.K (wE X l)) (bG X scope tg) (bTs X scope ifs) (bE X scope elt) vs σ H Q :=
  ⟨fun pins s I => thn (h.run pins s I) fun u s1 ⟨x, H1, I1, r, p, ex, hq, q2, q3⟩ => ⟨x, H1, I1, r, p, ex, ⟨xs, hq⟩, fun L hL =>
    lc_tup (fun j H' => Ex H1 H' ∧ ∃ ws, H' L = some (.lst ws) ∧ G j ws (del H' L)) ⟨Ex.new hL, [], upd_same, h0 _⟩ (fun i H' _ z => Evl.ex_t z.1 hq) (fun i x H' hx ⟨e, ws, hw, g⟩ => turnG_of (G := G) hG hL e hw (q2 i x H' L ws hx e hL hw g)) fun H' ⟨e, ws, hw, g⟩ => q3 L H' ws hL e hw (hG _ _ _ _ g (del_ex _ _))⟩⟩
theorem tnR1 {n : Int} {vs : List Nat} (G : Nat → List V → Hp → Prop) (hG : ∀ j ws H H', G j ws H → Ex H H' → G j ws H') (h0 : ∀ H, G 0 [] H)
    (h : wA X [a] σ H fun x H1 => x = [.int n] ∧ n < 2 ^ 62 ∧ -(2 ^ 62) ≤ n ∧ (∀ (j : Nat) H' L ws, (j : Int) < n → Ex H1 H' → H1 L = none → H' L = some (.lst ws) → G j ws (del H' L) → turnG X scope tg ifs elt vs G L ws j (.int (j : Int)) σ H') ∧ ∀ L H' ws, H1 L = none → Ex H1 H' → H' L = some (.lst ws) → G n.toNat ws H' → Q (.ref L) H') :
    tLc (iRng1 (wA X [a])) (bG X scope tg) (bTs X scope ifs) (bE X scope elt) vs σ H Q :=
  ⟨fun ps pins s I => thn (h.run ps pins s I) fun us s' ⟨x, H1, J, r, e, h1, h2, q2, q3⟩ => ⟨x, H1, J, r, n, e, h2, h1, fun L hL =>
    lc_range (fun j H' => Ex H1 H' ∧ ∃ ws, H' L = some (.lst ws) ∧ G j ws (del H' L)) ⟨Ex.new hL, [], upd_same, h0 _⟩ (fun i H' hi ⟨e, ws, hw, g⟩ => by rw [Int.zero_add]; exact turnG_of (G := G) hG hL e hw (q2 i H' L ws (by omega) e hL hw g)) fun H' ⟨e, ws, hw, g⟩ => q3 L H' ws hL e hw (hG _ _ _ _ g (del_ex _ _))⟩⟩
end
/-! ### lists of rows -/
inductive RowsAt (H : Hp) : List V → List (List Int) → Prop
  | nil : RowsAt H [] []
  | cons {l : Addr} {xs : List Int} {vs : List V} {ls : List (List Int)} : H l = some (.lst (xs.map V.int)) → RowsAt H vs ls → RowsAt H (.ref l :: vs) (xs :: ls)
theorem RowsAt.ex {H H' : Hp} (e : Ex H H') : ∀ {vs : List V} {ls : List (List Int)}, RowsAt H vs ls → RowsAt H' vs ls
  | _, _, .nil => .nil
  | _, _, .cons h t => .cons (e _ _ h) (t.ex e)
theorem RowsAt.length {H : Hp} : ∀ {vs : List V} {ls : List (List Int)}, RowsAt H vs ls → vs.length = ls.length
  | _, _, .nil => rfl
  | _, _, .cons _ t => by rw [List.length_cons, List.length_cons, t.length]
theorem RowsAt.get {H : Hp} : ∀ {vs : List V} {ls : List (List Int)} {i : Nat} {v : V}, RowsAt H vs ls → vs[i]? = some v → ∃ l xs, v = .ref l ∧ ls[i]? = some xs ∧ H l = some (.lst (xs.map V.int))
  | _, _, 0, _, .cons h _, e => by simp at e; exact ⟨_, _, e.symm, rfl, h⟩
  | _, _, i + 1, _, .cons _ t, e => by obtain ⟨l, xs, e1, e2, e3⟩ := t.get (i := i) (by simpa using e); exact ⟨l, xs, e1, by simpa using e2, e3⟩
theorem RowsAt.app {H : Hp} : ∀ {vs us : List V} {ls ms : List (List Int)}, RowsAt H vs ls → RowsAt H us ms → RowsAt H (vs ++ us) (ls ++ ms)
  | _, _, _, _, .nil, g => g
  | _, _, _, _, .cons h t, g => .cons h (t.app g)
theorem RowsAt.one {H : Hp} {vs : List V} {ls : List (List Int)} {l : Addr} {xs : List Int} (h : RowsAt H vs ls) (g : H l = some (.lst (xs.map V.int))) : RowsAt H (vs ++ [.ref l]) (ls ++ [xs]) := h.app (.cons g .nil)
theorem take_map_succ {α β : Type} {f : α → β} {ks : List α} {j : Nat} {k : α} (h : ks[j]? = some k) : (ks.take (j + 1)).map f = (ks.take j).map f ++ [f k] := by
  rw [List.take_add_one, h, List.map_append]
  rfl
end Z

set_option maxRecDepth 100000
set_option maxHeartbeats 4000000
namespace Z
open PySem PySem.Spec PyProof.Rows L2
open Evl (Ex)
/-! ### texts: times a number, made of a number, read as one, methods -/
section
variable {X : Cx} {σ : Z.St} {H : Hp} {a b e e2 o : Expr} {st : Stmt} {D : Ends} {p p1 p2 p3 pos pos2 apos tpos : Pos} {Q : VK} {elts : List Expr} {kk : Nat} {body : List Stmt}
theorem osmul {x : Str} {n : Int} (hok : MulOk x n) (h : Q (.str (Txt.mul x n)) H) : wO X (binaryOp .Mult) (.str x) (.int n) H Q := by
  refine ⟨fun pins s σ v u I rx ry => ?_⟩
  obtain ⟨t, rfl⟩ := rx
  obtain ⟨t', rfl⟩ := ry
  exact SB.mul hok fun t' k => ⟨.str _, H, I.tok k, ⟨_, rfl⟩, h⟩
theorem kintI {i : Int} (h : Q (.int i) H) : wK X (.type "int") [.int i] H Q := ofK call_int1 (.inl ⟨i, rfl, h⟩)
theorem kintB {k : Bool} (h : Q (.int (if k then 1 else 0)) H) : wK X (.type "int") [.bl k] H Q := ofK call_int1 (.inr ⟨k, rfl, h⟩)
theorem kintS {x : Str} {n : Int} (hn : PySem.intText? x = some n) (hl : x.length ≤ 640) (h : Q (.int n) H) : wK X (.type "int") [.str x] H Q := ofK call_int_str ⟨x, n, rfl, hn, hl, h⟩
theorem kstrI {i : Int} (hl : i.natAbs.log2 < 1920) (h : Q (.str (toString i)) H) : wK X (.type "str") [.int i] H Q := ofK call_str_int ⟨i, rfl, hl, h⟩
theorem zstarts (h : wE X o σ H fun x H1 => (∃ a, x = .str a) ∧ wE X e σ H1 fun y H2 => ∃ a b, x = .str a ∧ y = .str b ∧ Q (.bl (Txt.startswith a b)) H2)
    (hs : starEach [e] X.env = [(false, eval e X.env)] := by rfl) (hbase : attributeBase o "startswith" X.env (eval o X.env) = eval o X.env := by rfl) (hline : (apos.endLine == pos.line) = true := by rfl) : wE X (.Call (.Attribute o "startswith" apos) [e] [] pos) σ H Q := by
  refine ofE (pe_m1 PySem.F.slot_str_startswith PySem.F.type_str_startswith mt_startswith sE sE hs hbase hline) ⟨fun pins s I => thn (h.run pins s I) fun u s1 ⟨x, H1, I1, r1, hx, q⟩ => ⟨x, H1, I1, r1, hx, ⟨fun pins2 s2 J => thn (q.run pins2 s2 J) fun u2 s3 ⟨y, H2, I2, r2, a, b, e1, e2, q2⟩ => ⟨y, H2, I2, r2, a, b, e1, by rw [e2], q2⟩⟩⟩⟩
theorem zsplit (h : wE X o σ H fun x H1 => (∃ a, x = .str a) ∧ wE X e σ H1 fun y H2 => ∃ a b, x = .str a ∧ y = .str b ∧ (b.length == 0) = false ∧ a.length + 2 ≤ sizeLine ∧ ∀ p H3, H2 p = none → Ex H2 H3 → H3 p = some (.lst ((Txt.split a b).map V.str)) → Q (.ref p) H3)
    (hs : starEach [e] X.env = [(false, eval e X.env)] := by rfl) (hbase : attributeBase o "split" X.env (eval o X.env) = eval o X.env := by rfl) (hline : (apos.endLine == pos.line) = true := by rfl) : wE X (.Call (.Attribute o "split" apos) [e] [] pos) σ H Q := by
  refine ofE (pe_m1 PySem.F.slot_str_split PySem.F.type_str_split mt_split sE sE hs hbase hline) ⟨fun pins s I => thn (h.run pins s I) fun u s1 ⟨x, H1, I1, r1, hx, q⟩ => ⟨x, H1, I1, r1, hx, ⟨fun pins2 s2 J => thn (q.run pins2 s2 J) fun u2 s3 ⟨y, H2, I2, r2, a, b, e1, e2, c1, c2, q2⟩ => ⟨y, H2, I2, r2, a, b, e1, by rw [e2], c1, c2, fun p hp => q2 p _ hp (Ex.new hp) upd_same⟩⟩⟩⟩
end
/-! ### x.join(reversed(l)) -/
section
variable {prog : Program} {w : World} {A : Around} {E : Value → Shared → Prop} {s : Shared}
theorem join_rev {it l : Addr} {items : Array Value} {x : Str} {t : Tok} {ys : List Str} {Q : Value → Shared → Prop} (hh : A.handled = none) (hit : s.heap.IsRevIter it l ((items.size : Int) - 1)) (hl : s.heap.IsList l items) (hne : l ≠ it) (hn : items.size ≤ sizeLine)
    (hP : ∀ acc : Array Value, ItemsOf (fun i v => items[items.size - 1 - i]? = some v) acc items.size → StrsAre acc.toList ys) (hok : (ys.map (·.length)).sum + ys.length * x.length ≤ 16777216)
    (hq : ∀ (h' : Heap), (∀ b o, b ≠ it → s.heap.get? b = some o → h'.get? b = some o) → ∀ t' k, Q (.str (Txt.join x ys) t') { s with heap := h', toks := k }) :
    wpAny (model prog w) A (call (.builtin "str.join") [.str x t, .ref it]) Q E s := by
  have hT : s.TypeIs (.ref it) "list_reverseiterator" := hit.typeIs
  refine wpAny_call (codeAny_call_builtin F.slot_str_join.plain F.entry_str_join (F.slot_str_join.check _ _ _ _ _ _ _ _ (typeIs_str _ _ _) (F.args_str_join_2 _ _) ?_))
  rw [join_tree_other]
  refine wpAny_bind (wpAny_typeOf hT ?_)
  show wpAny _ A.in1 ((pyIter (.ref it)).tryCatch _ >>= fun it => collect it >>= fun items => joinTail x items) _ _ s
  refine wpAny_bind (wpAny_tryCatch (wpAny_pyIter_revIter hit ?_))
  have hh1 : A.in1.handled = none := hh
  refine wpAny_bind (RT.collect_rev hh1 hit hl hne hn (fun h' tk acc hk hacc => ?_))
  obtain ⟨l, hl, ht⟩ := strsAre_values (hP acc hacc)
  subst ht
  rw [hl]
  have hok' := joinOk_of hok
  unfold JoinOk at hok'
  rw [Bool.not_eq_true'] at hok'
  have g : Gives (joinTail x (strValues l)) (joinMade x l) := by
    have g0 := gives_joinTail x l hok'
    cases l with
    | nil => exact g0
    | cons p r => cases r with
      | nil => exact g0
      | cons q r' => exact g0
  exact g prog w A (wants Q E) _ (post_join l ⟨joinFit_length hok', fun t' k => hq h' hk t' k⟩)
end
section
variable {X : Cx} {σ : Z.St} {H : Hp} {a b e e2 o : Expr} {st : Stmt} {D : Ends} {p p1 p2 p3 pos pos2 apos tpos : Pos} {Q : VK} {elts : List Expr} {kk : Nat} {body : List Stmt}
theorem vals_strs : ∀ {ys : List Str} {us : List Value}, Vals (ys.map V.str) us → StrsAre us ys
  | [], _, h => by cases h; exact .nil
  | y :: ys, _, h => by
    cases h with
    | cons r t =>
      obtain ⟨u, rfl⟩ := r
      exact .cons _ _ (vals_strs t)
theorem zjoinRev (hc : X.calm = true) (hg : Gl X "reversed") (hm : X.mg "reversed" = none) (h : wE X o σ H fun x H1 => (∃ a, x = .str a) ∧ wE X e σ H1 fun y H2 => ∃ a q, ∃ ys : List Str, x = .str a ∧ y = .ref q ∧ SqL X.K H2 q (ys.map V.str) ∧ (ys.reverse.map (·.length)).sum + ys.reverse.length * a.length ≤ 16777216 ∧ Q (.str (Txt.join a ys.reverse)) H2)
    (hs1 : starEach [.Call (.Name "reversed" p) [e] [] pos2] X.env = [(false, eval (.Call (.Name "reversed" p) [e] [] pos2) X.env)] := by rfl)
    (hs : starEach [e] X.env = (false, eval e X.env) :: starEach [] X.env := by rfl)
    (hbase : attributeBase o "join" X.env (eval o X.env) = eval o X.env := by rfl) (hline : (apos.endLine == pos.line) = true := by rfl) :
    wE X (.Call (.Attribute o "join" apos) [.Call (.Name "reversed" p) [e] [] pos2] [] pos) σ H Q := by
  refine ⟨fun pins s I => ?_⟩
  refine PySem.Call_method1 hbase hs1 hline (thn (h.run pins s I) fun v s1 ⟨x, H1, I1, r1, q1⟩ => ?_)
  obtain ⟨⟨a, rfl⟩, q1⟩ := q1
  obtain ⟨t, rfl⟩ := _root_.id r1
  refine ⟨"str", _, PySem.F.plainAttrs_str, PySem.F.slot_str_join, PySem.F.type_str_join, typeIs_str _ _ _, (fun _ e => nomatch e), Calls.callWith_builtin rfl (Calls.evalArgs_plain (Calls.spliced_cons ?_))⟩
  refine Call_ (ld_blt I1 hg hm PyProof.Rows.boot_reversed (PyProof.Rows.callWith_type1 (args_cons (thn (q1.run pins s1 I1) fun u s2 ⟨y, H2, I2, r2, q2⟩ => args_nil ?_) hs) hs rfl))
  obtain ⟨a', l, ys, ea, ey, hq, hz, q2⟩ := q2
  cases ea
  subst ey
  obtain rfl : u = Value.ref l := r2
  obtain ⟨its, rv, pl, hsz⟩ := I2.list hq
  obtain ⟨f0, f1, f2, f3, f4, f5⟩ := I2.fpOk (H' := H2) (b := s2.heap.objs.size) (Nat.le_refl _) (I2.hok.fresh (Nat.le_refl _))
  have hl := pl.isList
  obtain ⟨ol, hol, _⟩ := id hl
  have hne : l ≠ s2.heap.objs.size := Nat.ne_of_lt (Heap.lt_size hol)
  have hn : its.toArray.size ≤ sizeLine := by rw [List.size_toArray, ← rv.length]; exact hsz
  refine call_reversed_list hl ?_
  have k0 : ∀ b o, s2.heap.get? b = some o → (s2.heap.push (revObj l ((its.toArray.size : Int) - 1))).get? b = some o := fun b o e => Heap.get?_push_of_some _ e
  have I3 : Inv X pins σ H2 { s2 with heap := s2.heap.push (revObj l ((its.toArray.size : Int) - 1)) } := I2.kept (t' := s2.toks) k0
  refine Calls.spliced_nil (join_rev (s := { s2 with heap := s2.heap.push (revObj l ((its.toArray.size : Int) - 1)) }) (ys := ys.reverse) (I2.ok.hd hc) ⟨_, Heap.get?_push_size _ rfl, rfl, rfl⟩ (hl.push _) hne hn (fun acc hacc => ?_) hz fun h' hk t' tk => ?_)
  · have := RT.vals_rev rv hacc
    rw [← List.map_reverse] at this
    exact vals_strs this
  · exact ⟨.str _, H2, I3.turned (t' := tk) (fun b o hb e => hk b o hb e) f0 f1 f3 f4 f5, ⟨t', rfl⟩, q2⟩
/-! ### for over a text -/
theorem lforS {tg l : Expr} {x : Str} (hp : PassesOwn (model X.prog X.w) X.A X.env X.xe) (hc : X.calm = true) (Pv : Nat → Z.St → Hp → Prop)
    (h : wE X l σ H fun y H1 => y = .str x ∧ Pv 0 σ H1 ∧
      (∀ i c σ H, x.cps[i]? = some c → Pv i σ H → wG X tg (.str ⟨#[c]⟩) σ H fun σ2 H2 => wB X body { D with nx := Pv (i + 1), ct := Pv (i + 1), bk := D.nx } σ2 H2) ∧ ∀ σ H, Pv x.cps.size σ H → D.nx σ H)
    (hs : ∀ x, foldedSetIterable l X.env x = pure x := by intro _; rfl) : wS X (.For tg l body [] pos) D σ H := by
  refine lfor hp hc (pi_str sE) ⟨fun pins s I => thn (h.run pins s I) fun u s1 ⟨y, H1, I1, r, e, h0, ht, hd⟩ => ⟨y, H1, I1, r, x, e, ?_⟩⟩ hs
  refine ⟨fun i m σ H => m = x.cps.size - i ∧ i ≤ x.cps.size ∧ Pv i σ H, ⟨x.cps.size, by simp, Nat.zero_le _, h0⟩, ?_⟩
  rintro i m σ H ⟨rfl, hi, z⟩
  by_cases hlt : i < x.cps.size
  · refine .inr ⟨hlt, Pv (i + 1), fun σ' H' p' => ⟨x.cps.size - (i + 1), by omega, rfl, hlt, p'⟩, ?_⟩
    rintro v H' ⟨rfl, c, hx, rfl⟩
    exact ht i c σ _ hx z
  · have e : i = x.cps.size := by omega
    subst e
    exact .inl ⟨Nat.le_refl _, hd σ H z⟩
/-! ### for (x, y) in zip(a, b) -/
theorem lforZip (hm : X.mg "zip" = none) (hp : PassesOwn (model X.prog X.w) X.A X.env X.xe) (hc : X.calm = true) (hg : Gl X "zip")
    (h : wA X [e, e2] σ H fun vs H1 => ∃ (a b : Addr) (xs ys : List V), vs = [.ref a, .ref b] ∧ (SqL X.K H1 a xs ∧ SqL X.K H1 b ys ∧ xs.length = ys.length) ∧ ∃ Pv : Nat → Z.St → Hp → Prop, Pv 0 σ H1 ∧ (∀ i σ H, i ≤ xs.length → Pv i σ H → SqL X.K H a xs ∧ SqL X.K H b ys) ∧
      (∀ i x y σ H T H2, xs[i]? = some x → ys[i]? = some y → Pv i σ H → H T = none → Ex H H2 → H2 T = some (.tup [x, y]) → wG X (.Tuple elts kk tpos) (.ref T) σ H2 fun σ2 H2 => wB X body { D with nx := Pv (i + 1), ct := Pv (i + 1), bk := D.nx } σ2 H2) ∧ ∀ σ H, Pv xs.length σ H → D.nx σ H)
    (hs : ∀ x, foldedSetIterable (.Call (.Name "zip" p) [e, e2] [] pos2) X.env x = pure x := by intro _; rfl) (hsa : starEach [e, e2] X.env = (false, eval e X.env) :: starEach [e2] X.env := by rfl) (hpl : (backTo pos2 (starEach [e2] X.env)).any (·.1) = false := by rfl) : wS X (.For (.Tuple elts kk tpos) (.Call (.Name "zip" p) [e, e2] [] pos2) body [] pos) D σ H := by
  refine lfor hp hc (pi_zip hg hm sA hsa hpl) ⟨fun ps pins s I => thn (h.run ps pins s I) fun u s1 ⟨vs, H1, I1, r, a, b, xs, ys, ex, ⟨hx, hy, hl⟩, Pv, h0, hk, ht, hd⟩ => ⟨vs, H1, I1, r, a, b, xs, ys, ex, hx, hy, ?_⟩⟩ hs
  refine ⟨fun i m σ H => m = xs.length - i ∧ i ≤ xs.length ∧ Pv i σ H, ⟨xs.length, by simp, Nat.zero_le _, h0⟩, ?_⟩
  rintro i m σ H ⟨rfl, hi, z⟩
  obtain ⟨q1, q2⟩ := hk i σ H hi z
  by_cases hlt : i < xs.length
  · refine .inr ⟨⟨xs, ys, xs[i], ys[i]'(by omega), q1, q2, by simp [hlt], List.getElem?_eq_getElem _⟩, Pv (i + 1), fun σ' H' p' => ⟨xs.length - (i + 1), by omega, rfl, hlt, p'⟩, ?_⟩
    rintro v H' ⟨T, x, y, rfl, hT, rfl, hx', hy'⟩
    exact ht i x y σ H T _ (hx' xs q1) (hy' ys q2) z hT (Ex.new hT) upd_same
  · have e : i = xs.length := by omega
    subst e
    exact .inl ⟨⟨xs, ys, q1, q2, .inl (Nat.le_refl _)⟩, hd σ H z⟩
end
end Z

set_option maxRecDepth 100000
set_option maxHeartbeats 4000000
namespace Z
open PySem PySem.Spec PyProof.Rows L2
open Evl (Ex)
/-! ### == and != of nested lists and tuples, of texts of any signs -/
section
variable {X : Cx} {σ : Z.St} {H : Hp} {pins : List (Addr × Obj)} {s : Shared}
theorem list_tup (I : Inv X pins σ H s) {a : Addr} {xs ys : List V} (h : SqL X.K H a xs) (h' : SqT X.K H a ys) : False := by
  obtain ⟨_, _, p1, _⟩ := I.list h
  obtain ⟨_, _, p2, _⟩ := I.tuple h'
  exact SeqAt.ne_of_list_tuple p1.isList p2 rfl
theorem dpAll_len {K : PySem.W.Frag} {H : Hp} : ∀ {xs : List V} {ds : List PyData}, DpAll K H xs ds → xs.length = ds.length
  | _, _, .nil => rfl
  | _, _, .cons _ t => by rw [List.length_cons, List.length_cons, dpAll_len t]
mutual
theorem dp_same (I : Inv X pins σ H s) : ∀ {x : V} {d e : PyData}, Dp X.K H x d → Dp X.K H x e → PyData.eqv d e = true
  | _, _, _, .non, h => by cases h; rfl
  | _, _, _, .bl b, h => by cases h; simp [PyData.eqv]
  | _, _, _, .int i, h => by cases h; simp [PyData.eqv]
  | _, _, _, .str x, h => by cases h; simp [PyData.eqv]
  | _, _, _, .lst q a, h => by
    cases h with
    | lst q2 a2 =>
      have e := I.list_inj q2 q
      subst e
      rw [PyData.eqv]
      exact dp_sameAll I a a2
    | tup q2 a2 => exact (list_tup I q q2).elim
  | _, _, _, .tup q a, h => by
    cases h with
    | tup q2 a2 =>
      have e := I.tuple_inj q2 q
      subst e
      rw [PyData.eqv]
      exact dp_sameAll I a a2
    | lst q2 a2 => exact (list_tup I q2 q).elim
theorem dp_sameAll (I : Inv X pins σ H s) : ∀ {xs : List V} {ds es : List PyData}, DpAll X.K H xs ds → DpAll X.K H xs es → PyData.eqvAll ds es = true
  | _, _, _, .nil, h => by cases h; rfl
  | _, _, _, .cons a b, h => by
    cases h with
    | cons c d =>
      rw [PyData.eqvAll, dp_same I a c, dp_sameAll I b d]
      rfl
end

/-- the room that two things take -/
theorem roomL {A : Around} {d : PyData} {xs : List PyData} (h : A.units + min (PyData.depthAll xs + 1) (d.depth) < cLine) : A.units < cLine := by omega
mutual
theorem eqAt_dp (I : Inv X pins σ H s) : ∀ {x y : V} {d e : PyData} {v u : Value} (A : Around), Dp X.K H x d → Dp X.K H y e → RelV x v → RelV y u → A.units + min d.depth e.depth < cLine → SeqAt.EqAt A s v u (PyData.eqv d e)
  | _, _, _, _, v, u, A, .non, hy, rx, ry, hu => by
    cases rx
    cases hy with
    | non => cases ry; exact SeqAt.EqAt.same _
    | bl y => cases ry; exact SeqAt.EqAt.none_bool y
    | int y => obtain ⟨u, rfl⟩ := ry; exact SeqAt.EqAt.none_int y u
    | str y => obtain ⟨u, rfl⟩ := ry; exact SeqAt.EqAt.none_str y u
    | lst q _ => obtain ⟨_, _, p, _⟩ := I.list q; cases ry; exact SeqAt.EqAt.none_list  p.isList (SeqAt.room_here hu)
    | tup q _ => obtain ⟨_, _, p, _⟩ := I.tuple q; cases ry; exact SeqAt.EqAt.none_tuple  p (SeqAt.room_here hu)
  | _, _, _, _, v, u, A, .bl b, hy, rx, ry, hu => by
    cases rx
    cases hy with
    | non => cases ry; exact SeqAt.EqAt.bool_none b
    | bl y => cases ry; exact SeqAt.EqAt.bool_bool b y
    | int y => obtain ⟨u, rfl⟩ := ry; exact SeqAt.EqAt.bool_int b y u
    | str y => obtain ⟨u, rfl⟩ := ry; exact SeqAt.EqAt.bool_str b y u
    | lst q _ => obtain ⟨_, _, p, _⟩ := I.list q; cases ry; exact SeqAt.EqAt.bool_list b p.isList (SeqAt.room_here hu)
    | tup q _ => obtain ⟨_, _, p, _⟩ := I.tuple q; cases ry; exact SeqAt.EqAt.bool_tuple b p (SeqAt.room_here hu)
  | _, _, _, _, v, u, A, .int i, hy, rx, ry, hu => by
    obtain ⟨t, rfl⟩ := rx
    cases hy with
    | non => cases ry; exact SeqAt.EqAt.int_none i t
    | bl y => cases ry; exact SeqAt.EqAt.int_bool i t y
    | int y => obtain ⟨u, rfl⟩ := ry; exact SeqAt.EqAt.int_int i t y u
    | str y => obtain ⟨u, rfl⟩ := ry; exact SeqAt.EqAt.int_str i t y u
    | lst q _ => obtain ⟨_, _, p, _⟩ := I.list q; cases ry; exact SeqAt.EqAt.int_list i t p.isList (SeqAt.room_here hu)
    | tup q _ => obtain ⟨_, _, p, _⟩ := I.tuple q; cases ry; exact SeqAt.EqAt.int_tuple i t p (SeqAt.room_here hu)
  | _, _, _, _, v, u, A, .str x, hy, rx, ry, hu => by
    obtain ⟨t, rfl⟩ := rx
    cases hy with
    | non => cases ry; exact SeqAt.EqAt.str_none x t
    | bl y => cases ry; exact SeqAt.EqAt.str_bool x t y
    | int y => obtain ⟨u, rfl⟩ := ry; exact SeqAt.EqAt.str_int x t y u
    | str y => obtain ⟨u, rfl⟩ := ry; exact SeqAt.EqAt.str_str x t y u
    | lst q _ => obtain ⟨_, _, p, _⟩ := I.list q; cases ry; exact SeqAt.EqAt.str_list x t p.isList (SeqAt.room_here hu)
    | tup q _ => obtain ⟨_, _, p, _⟩ := I.tuple q; cases ry; exact SeqAt.EqAt.str_tuple x t p (SeqAt.room_here hu)
  | _, _, _, _, v, u, A, .lst (a := l1) (ds := ds) q a, hy, rx, ry, hu => by
    cases rx
    obtain ⟨us, r1, p1, _⟩ := I.list q
    cases hy with
    | non => cases ry; exact SeqAt.EqAt.list_none p1.isList (SeqAt.room_here hu)
    | bl y => cases ry; exact SeqAt.EqAt.list_bool y p1.isList (SeqAt.room_here hu)
    | int y => obtain ⟨u, rfl⟩ := ry; exact SeqAt.EqAt.list_int y u p1.isList (SeqAt.room_here hu)
    | str y => obtain ⟨u, rfl⟩ := ry; exact SeqAt.EqAt.list_str y u p1.isList (SeqAt.room_here hu)
    | tup q2 _ => obtain ⟨_, _, p2, _⟩ := I.tuple q2; cases ry; exact SeqAt.EqAt.list_tuple p1.isList p2 (SeqAt.room_here hu)
    | @lst l2 ys es q2 b =>
      obtain ⟨ws, r2, p2, _⟩ := I.list q2
      cases ry
      show SeqAt.EqAt A s _ _ (PyData.eqvAll ds es)
      have n1 : us.toArray.size = ds.length := by rw [List.size_toArray, ← r1.length, dpAll_len a]
      have n2 : ws.toArray.size = es.length := by rw [List.size_toArray, ← r2.length, dpAll_len b]
      by_cases hll : l1 = l2
      · subst hll
        have e := I.list_inj q2 q
        subst e
        rw [dp_sameAll I a b]
        exact SeqAt.EqAt.same _
      · by_cases hsz : us.toArray.size = ws.toArray.size
        · rw [← SeqAt.eqvAll_same_length (by omega : ds.length = es.length), ← n1]
          refine SeqAt.EqAt.of_refs hll (SeqAt.RcAt.lists p1.isList p2.isList hsz (SeqAt.room_here hu) fun j j1 j2 => ?_)
          have := eqAt_dpAll I A.in1 a b r1 r2 (SeqAt.room_in hu) j (by simpa using j1) (by simpa using j2)
          simpa using this
        · rw [SeqAt.eqvAll_other_length (by omega : ds.length ≠ es.length)]
          exact SeqAt.EqAt.of_refs hll (SeqAt.RcAt.lists_lengths p1.isList p2.isList (by simpa using hsz) (SeqAt.room_here hu))
  | _, _, _, _, v, u, A, .tup (a := l1) (ds := ds) q a, hy, rx, ry, hu => by
    cases rx
    obtain ⟨us, r1, p1, _⟩ := I.tuple q
    cases hy with
    | non => cases ry; exact SeqAt.EqAt.tuple_none p1 (SeqAt.room_here hu)
    | bl y => cases ry; exact SeqAt.EqAt.tuple_bool y p1 (SeqAt.room_here hu)
    | int y => obtain ⟨u, rfl⟩ := ry; exact SeqAt.EqAt.tuple_int y u p1 (SeqAt.room_here hu)
    | str y => obtain ⟨u, rfl⟩ := ry; exact SeqAt.EqAt.tuple_str y u p1 (SeqAt.room_here hu)
    | lst q2 _ => obtain ⟨_, _, p2, _⟩ := I.list q2; cases ry; exact SeqAt.EqAt.tuple_list p1 p2.isList (SeqAt.room_here hu)
    | @tup l2 ys es q2 b =>
      obtain ⟨ws, r2, p2, _⟩ := I.tuple q2
      cases ry
      show SeqAt.EqAt A s _ _ (PyData.eqvAll ds es)
      have n1 : us.toArray.size = ds.length := by rw [List.size_toArray, ← r1.length, dpAll_len a]
      have n2 : ws.toArray.size = es.length := by rw [List.size_toArray, ← r2.length, dpAll_len b]
      by_cases hll : l1 = l2
      · subst hll
        have e := I.tuple_inj q2 q
        subst e
        rw [dp_sameAll I a b]
        exact SeqAt.EqAt.same _
      · rw [← SeqAt.eqvAll_eq ds es, ← n1, ← n2]
        refine SeqAt.EqAt.of_refs hll (SeqAt.RcAt.tuples p1 p2 (SeqAt.room_here hu) fun j j1 j2 => ?_)
        have := eqAt_dpAll I A.in1 a b r1 r2 (SeqAt.room_in hu) j (by simpa using j1) (by simpa using j2)
        simpa using this
theorem eqAt_dpAll (I : Inv X pins σ H s) : ∀ {xs ys : List V} {ds es : List PyData} {us ws : List Value} (A : Around), DpAll X.K H xs ds → DpAll X.K H ys es → Vals xs us → Vals ys ws → A.units + min (PyData.depthAll ds) (PyData.depthAll es) < cLine →
    ∀ j (h1 : j < us.length) (h2 : j < ws.length), SeqAt.EqAt A s us[j] ws[j] (SeqAt.pairEq ds es j)
  | _, _, _, _, _, _, _, .nil, _, r1, _, _, j, h1, _ => by cases r1; exact absurd h1 (Nat.not_lt_zero _)
  | _, _, _, _, _, _, _, .cons _ _, .nil, _, r2, _, j, _, h2 => by cases r2; exact absurd h2 (Nat.not_lt_zero _)
  | _, _, _, _, _, _, A, .cons a as, .cons b bs, r1, r2, hu, j, h1, h2 => by
    cases r1 with
    | cons c1 t1 =>
      cases r2 with
      | cons c2 t2 =>
        cases j with
        | zero => exact eqAt_dp I A a b c1 c2 (SeqAt.room_head hu)
        | succ j => exact eqAt_dpAll I A as bs t1 t2 (SeqAt.room_tail hu) j (Nat.lt_of_succ_lt_succ h1) (Nat.lt_of_succ_lt_succ h2)
end
/-- two lists -/
theorem oeqDL {k : Nat} {a b : Addr} {ds es : List PyData} {Q : VK} (hr : Room k X.A) (hx : Dp X.K H (.ref a) (.list ds)) (hy : Dp X.K H (.ref b) (.list es)) (hd : min (PyData.depthAll ds) (PyData.depthAll es) ≤ 60) (h : Q (.bl (PyData.eqvAll ds es)) H) : wO X (compareOp .Eq) (.ref a) (.ref b) H Q := by
  refine ⟨fun pins s σ v u I rx ry => ?_⟩
  have hu := hr.units
  cases hx with
  | lst q1 a1 =>
    cases hy with
    | lst q2 a2 =>
      cases rx
      cases ry
      obtain ⟨us, r1, p1, _⟩ := I.list q1
      obtain ⟨ws, r2, p2, _⟩ := I.list q2
      have n1 : us.toArray.size = ds.length := by rw [List.size_toArray, ← r1.length, dpAll_len a1]
      have n2 : ws.toArray.size = es.length := by rw [List.size_toArray, ← r2.length, dpAll_len a2]
      by_cases hsz : us.toArray.size = ws.toArray.size
      · rw [← SeqAt.eqvAll_same_length (by omega : ds.length = es.length), ← n1] at h
        refine SeqAt.RcAt.lists p1.isList p2.isList hsz (by omega) (fun j j1 j2 => ?_) _ _ _ _ ⟨.bl _, H, I, rfl, h⟩
        have := eqAt_dpAll I X.A.in1 a1 a2 r1 r2 (by show X.A.units + 1 + _ < cLine; omega) j (by simpa using j1) (by simpa using j2)
        simpa using this
      · rw [SeqAt.eqvAll_other_length (by omega : ds.length ≠ es.length)] at h
        exact SeqAt.RcAt.lists_lengths p1.isList p2.isList (by simpa using hsz) (by omega) _ _ _ _ ⟨.bl _, H, I, rfl, h⟩
theorem oneDL {k : Nat} {a b : Addr} {ds es : List PyData} {Q : VK} (hr : Room k X.A) (hx : Dp X.K H (.ref a) (.list ds)) (hy : Dp X.K H (.ref b) (.list es)) (hd : min (PyData.depthAll ds) (PyData.depthAll es) ≤ 60) (h : Q (.bl (!PyData.eqvAll ds es)) H) : wO X (compareOp .NotEq) (.ref a) (.ref b) H Q := by
  refine ⟨fun pins s σ v u I rx ry => ?_⟩
  have hu := hr.units
  cases hx with
  | lst q1 a1 =>
    cases hy with
    | lst q2 a2 =>
      cases rx
      cases ry
      obtain ⟨us, r1, p1, _⟩ := I.list q1
      obtain ⟨ws, r2, p2, _⟩ := I.list q2
      have n1 : us.toArray.size = ds.length := by rw [List.size_toArray, ← r1.length, dpAll_len a1]
      have n2 : ws.toArray.size = es.length := by rw [List.size_toArray, ← r2.length, dpAll_len a2]
      by_cases hsz : us.toArray.size = ws.toArray.size
      · rw [← SeqAt.eqvAll_same_length (by omega : ds.length = es.length), ← n1] at h
        refine SeqAt.RcNeAt.lists p1.isList p2.isList hsz (by omega) (fun j j1 j2 => ?_) _ _ _ _ ⟨.bl _, H, I, rfl, h⟩
        have := eqAt_dpAll I X.A.in1 a1 a2 r1 r2 (by show X.A.units + 1 + _ < cLine; omega) j (by simpa using j1) (by simpa using j2)
        simpa using this
      · rw [SeqAt.eqvAll_other_length (by omega : ds.length ≠ es.length)] at h
        exact SeqAt.RcNeAt.lists_lengths p1.isList p2.isList (by simpa using hsz) (by omega) _ _ _ _ ⟨.bl _, H, I, rfl, h⟩
/-! ### lists of texts -/
theorem dpStrs {K : PySem.W.Frag} {H : Hp} : ∀ ys : List Str, DpAll K H (ys.map V.str) (ys.map PyData.str)
  | [] => .nil
  | _ :: ys => .cons (.str _) (dpStrs ys)
theorem depthStrs : ∀ ys : List Str, PyData.depthAll (ys.map PyData.str) ≤ 1
  | [] => by decide
  | y :: ys => by
    have := depthStrs ys
    simp only [List.map_cons, PyData.depthAll, PyData.depth]
    omega
theorem eqvStrs : ∀ ys zs : List Str, PyData.eqvAll (ys.map PyData.str) (zs.map PyData.str) = decide (ys = zs)
  | [], [] => rfl
  | [], _ :: _ => rfl
  | _ :: _, [] => rfl
  | y :: ys, z :: zs => by
    rw [List.map_cons, List.map_cons, PyData.eqvAll, eqvStrs ys zs]
    simp only [PyData.eqv]
    by_cases h1 : y = z
    · subst h1
      by_cases h2 : ys = zs
      · subst h2; simp
      · simp [h2]
    · simp [h1]
theorem oeqStrs {k : Nat} {a b : Addr} {ys zs : List Str} {Q : VK} (hr : Room k X.A) (hx : SqL X.K H a (ys.map V.str)) (hy : SqL X.K H b (zs.map V.str)) (h : Q (.bl (decide (ys = zs))) H) : wO X (compareOp .Eq) (.ref a) (.ref b) H Q :=
  oeqDL hr (.lst hx (dpStrs ys)) (.lst hy (dpStrs zs)) (by have := depthStrs ys; omega) (by rw [eqvStrs]; exact h)
theorem oneStrs {k : Nat} {a b : Addr} {ys zs : List Str} {Q : VK} (hr : Room k X.A) (hx : SqL X.K H a (ys.map V.str)) (hy : SqL X.K H b (zs.map V.str)) (h : Q (.bl (!decide (ys = zs))) H) : wO X (compareOp .NotEq) (.ref a) (.ref b) H Q :=
  oneDL hr (.lst hx (dpStrs ys)) (.lst hy (dpStrs zs)) (by have := depthStrs ys; omega) (by rw [eqvStrs]; exact h)
end
end Z

set_option maxRecDepth 100000
set_option maxHeartbeats 4000000
namespace K01
open PySem PySem.Spec PyProof.Rows L2 Z
/-! ### the text by places -/
def top (i : Nat) : Stmt := PySem.Challenge.pw_formkin_k01_words_and_numbers.main.body.getD i (.Pass ⟨0, 0, 0, 0⟩)
abbrev s_is_whole : Stmt := top 5
abbrev N_is_whole : List Str := ["thing"]
theorem sc_is_whole : FnScope N_is_whole ["thing"] (defScope s_is_whole) := ⟨rfl, rfl, rfl, by decide +kernel, rfl, by decide +kernel, by decide +kernel⟩
abbrev s_is_among : Stmt := top 6
abbrev N_is_among : List Str := ["thing", "least", "most"]
theorem sc_is_among : FnScope N_is_among ["thing", "least", "most"] (defScope s_is_among) := ⟨rfl, rfl, rfl, by decide +kernel, rfl, by decide +kernel, by decide +kernel⟩
abbrev s_are_signs : Stmt := top 7
abbrev N_are_signs : List Str := ["text", "signs", "sign"]
theorem sc_are_signs : FnScope N_are_signs ["text", "signs"] (defScope s_are_signs) := ⟨rfl, rfl, rfl, by decide +kernel, rfl, by decide +kernel, by decide +kernel⟩
abbrev s_is_name : Stmt := top 8
abbrev N_is_name : List Str := ["thing"]
theorem sc_is_name : FnScope N_is_name ["thing"] (defScope s_is_name) := ⟨rfl, rfl, rfl, by decide +kernel, rfl, by decide +kernel, by decide +kernel⟩
abbrev s_number_text : Stmt := top 9
abbrev N_number_text : List Str := ["number"]
theorem sc_number_text : FnScope N_number_text ["number"] (defScope s_number_text) := ⟨rfl, rfl, rfl, by decide +kernel, rfl, by decide +kernel, by decide +kernel⟩
abbrev s_number_of : Stmt := top 10
abbrev N_number_of : List Str := ["word", "figures"]
theorem sc_number_of : FnScope N_number_of ["word"] (defScope s_number_of) := ⟨rfl, rfl, rfl, by decide +kernel, rfl, by decide +kernel, by decide +kernel⟩
abbrev s_words_of : Stmt := top 11
abbrev N_words_of : List Str := ["line", "words"]
theorem sc_words_of : FnScope N_words_of ["line"] (defScope s_words_of) := ⟨rfl, rfl, rfl, by decide +kernel, rfl, by decide +kernel, by decide +kernel⟩
abbrev s__law_cell_at : Stmt := top 13
abbrev N__law_cell_at : List Str := ["_law_script", "_law_k"]
theorem sc__law_cell_at : FnScope N__law_cell_at ["_law_script", "_law_k"] (defScope s__law_cell_at) := ⟨rfl, rfl, rfl, by decide +kernel, rfl, by decide +kernel, by decide +kernel⟩
abbrev s__law_mixed : Stmt := top 14
abbrev N__law_mixed : List Str := ["_law_cell", "_law_k"]
theorem sc__law_mixed : FnScope N__law_mixed ["_law_cell", "_law_k"] (defScope s__law_mixed) := ⟨rfl, rfl, rfl, by decide +kernel, rfl, by decide +kernel, by decide +kernel⟩
abbrev s__law_great : Stmt := top 15
abbrev N__law_great : List Str := ["_law_cell", "_law_k", "_law_number", "_law_j"]
theorem sc__law_great : FnScope N__law_great ["_law_cell", "_law_k"] (defScope s__law_great) := ⟨rfl, rfl, rfl, by decide +kernel, rfl, by decide +kernel, by decide +kernel⟩
abbrev s__law_signs : Stmt := top 16
abbrev N__law_signs : List Str := ["_law_some"]
theorem sc__law_signs : FnScope N__law_signs [] (defScope s__law_signs) := ⟨rfl, rfl, rfl, by decide +kernel, rfl, by decide +kernel, by decide +kernel⟩
abbrev s__law_text : Stmt := top 17
abbrev N__law_text : List Str := ["_law_cell", "_law_letters", "_law_way", "_law_size", "_law_word", "_law_j"]
theorem sc__law_text : FnScope N__law_text ["_law_cell"] (defScope s__law_text) := ⟨rfl, rfl, rfl, by decide +kernel, rfl, by decide +kernel, by decide +kernel⟩
abbrev s__law_odd : Stmt := top 18
abbrev N__law_odd : List Str := ["_law_cell"]
theorem sc__law_odd : FnScope N__law_odd ["_law_cell"] (defScope s__law_odd) := ⟨rfl, rfl, rfl, by decide +kernel, rfl, by decide +kernel, by decide +kernel⟩
abbrev s__law_is_name : Stmt := top 19
abbrev N__law_is_name : List Str := ["_law_thing", "_law_sign"]
theorem sc__law_is_name : FnScope N__law_is_name ["_law_thing"] (defScope s__law_is_name) := ⟨rfl, rfl, rfl, by decide +kernel, rfl, by decide +kernel, by decide +kernel⟩
abbrev s__law_number_of : Stmt := top 20
abbrev N__law_number_of : List Str := ["_law_word", "_law_figures", "_law_number", "_law_sign"]
theorem sc__law_number_of : FnScope N__law_number_of ["_law_word"] (defScope s__law_number_of) := ⟨rfl, rfl, rfl, by decide +kernel, rfl, by decide +kernel, by decide +kernel⟩
abbrev s__law_alike : Stmt := top 21
abbrev N__law_alike : List Str := ["_law_found", "_law_due"]
theorem sc__law_alike : FnScope N__law_alike ["_law_found", "_law_due"] (defScope s__law_alike) := ⟨rfl, rfl, rfl, by decide +kernel, rfl, by decide +kernel, by decide +kernel⟩
abbrev s__law_asked : Stmt := top 22
abbrev N__law_asked : List Str := ["_law_way", "_law_thing", "_law_least", "_law_most", "_law_whole"]
theorem sc__law_asked : FnScope N__law_asked ["_law_way", "_law_thing", "_law_least", "_law_most"] (defScope s__law_asked) := ⟨rfl, rfl, rfl, by decide +kernel, rfl, by decide +kernel, by decide +kernel⟩
abbrev s__law_number_good : Stmt := top 23
abbrev N__law_number_good : List Str := ["_law_number", "_law_text_here", "_law_figures", "_law_left", "_law_due"]
theorem sc__law_number_good : FnScope N__law_number_good ["_law_number"] (defScope s__law_number_good) := ⟨rfl, rfl, rfl, by decide +kernel, rfl, by decide +kernel, by decide +kernel⟩
abbrev s__law_line : Stmt := top 24
abbrev N__law_line : List Str := ["_law_script", "_law_cell", "_law_words", "_law_between", "_law_line_here", "_law_word", "_law_blank", "_law_one"]
theorem sc__law_line : FnScope N__law_line ["_law_script"] (defScope s__law_line) := ⟨rfl, rfl, rfl, by decide +kernel, rfl, by decide +kernel, by decide +kernel⟩
abbrev s__law_line_good : Stmt := top 25
abbrev N__law_line_good : List Str := ["_law_line_here", "_law_due", "_law_turn", "_law_found"]
theorem sc__law_line_good : FnScope N__law_line_good ["_law_line_here"] (defScope s__law_line_good) := ⟨rfl, rfl, rfl, by decide +kernel, rfl, by decide +kernel, by decide +kernel⟩
abbrev s_law : Stmt := top 26
abbrev N_law : List Str := ["_law_script", "_law_k", "_law_cell", "_law_number", "_law_least", "_law_most", "_law_thing", "_law_turn"]
theorem sc_law : FnScope N_law ["_law_script"] (defScope s_law) := ⟨rfl, rfl, rfl, by decide +kernel, rfl, by decide +kernel, by decide +kernel⟩
/-! ### facts of the written part -/
def fa_0 : List He.Fa := [.free "abs",
  .free "all",
  .free "bool",
  .free "int",
  .free "isinstance",
  .free "len",
  .free "list",
  .free "max",
  .free "min",
  .free "range",
  .free "reversed",
  .free "str",
  .free "zip",
  .str "LETTERS" "abcdefghijklmnopqrstuvwxyz",
  .str "FIGURES" "0123456789",
  .int "MOST_LETTERS" 12,
  .int "MOST_FIGURES" 80,
  .glo "is_whole",
  .glo "is_among",
  .glo "are_signs",
  .glo "is_name",
  .glo "number_text",
  .glo "number_of",
  .glo "words_of",
  .glo "_law_cell_at",
  .glo "_law_mixed",
  .glo "_law_great",
  .glo "_law_signs",
  .glo "_law_text",
  .glo "_law_odd"]
def fa_1 : List He.Fa := [.glo "_law_is_name",
  .glo "_law_number_of",
  .glo "_law_alike",
  .glo "_law_asked",
  .glo "_law_number_good",
  .glo "_law_line",
  .glo "_law_line_good",
  .glo "law"]
abbrev fa : List He.Fa := fa_0 ++ fa_1
def fn_0 : List He.DefD := [⟨("is_whole", none), "is_whole", "is_whole", defArgs s_is_whole, defBody s_is_whole, defScope s_is_whole, [], []⟩,
  ⟨("is_among", none), "is_among", "is_among", defArgs s_is_among, defBody s_is_among, defScope s_is_among, [], []⟩,
  ⟨("are_signs", none), "are_signs", "are_signs", defArgs s_are_signs, defBody s_are_signs, defScope s_are_signs, [], []⟩,
  ⟨("is_name", none), "is_name", "is_name", defArgs s_is_name, defBody s_is_name, defScope s_is_name, [], []⟩,
  ⟨("number_text", none), "number_text", "number_text", defArgs s_number_text, defBody s_number_text, defScope s_number_text, [], []⟩,
  ⟨("number_of", none), "number_of", "number_of", defArgs s_number_of, defBody s_number_of, defScope s_number_of, [], []⟩,
  ⟨("words_of", none), "words_of", "words_of", defArgs s_words_of, defBody s_words_of, defScope s_words_of, [], []⟩,
  ⟨("_law_cell_at", none), "_law_cell_at", "_law_cell_at", defArgs s__law_cell_at, defBody s__law_cell_at, defScope s__law_cell_at, [], []⟩,
  ⟨("_law_mixed", none), "_law_mixed", "_law_mixed", defArgs s__law_mixed, defBody s__law_mixed, defScope s__law_mixed, [], []⟩,
  ⟨("_law_great", none), "_law_great", "_law_great", defArgs s__law_great, defBody s__law_great, defScope s__law_great, [], []⟩,
  ⟨("_law_signs", none), "_law_signs", "_law_signs", defArgs s__law_signs, defBody s__law_signs, defScope s__law_signs, [], []⟩,
  ⟨("_law_text", none), "_law_text", "_law_text", defArgs s__law_text, defBody s__law_text, defScope s__law_text, [], []⟩,
  ⟨("_law_odd", none), "_law_odd", "_law_odd", defArgs s__law_odd, defBody s__law_odd, defScope s__law_odd, [], []⟩,
  ⟨("_law_is_name", none), "_law_is_name", "_law_is_name", defArgs s__law_is_name, defBody s__law_is_name, defScope s__law_is_name, [], []⟩,
  ⟨("_law_number_of", none), "_law_number_of", "_law_number_of", defArgs s__law_number_of, defBody s__law_number_of, defScope s__law_number_of, [], []⟩,
  ⟨("_law_alike", none), "_law_alike", "_law_alike", defArgs s__law_alike, defBody s__law_alike, defScope s__law_alike, [], []⟩,
  ⟨("_law_asked", none), "_law_asked", "_law_asked", defArgs s__law_asked, defBody s__law_asked, defScope s__law_asked, [], []⟩,
  ⟨("_law_number_good", none), "_law_number_good", "_law_number_good", defArgs s__law_number_good, defBody s__law_number_good, defScope s__law_number_good, [], []⟩,
  ⟨("_law_line", none), "_law_line", "_law_line", defArgs s__law_line, defBody s__law_line, defScope s__law_line, [], []⟩,
  ⟨("_law_line_good", none), "_law_line_good", "_law_line_good", defArgs s__law_line_good, defBody s__law_line_good, defScope s__law_line_good, [], []⟩,
  ⟨("law", none), "law", "law", defArgs s_law, defBody s_law, defScope s_law, [], []⟩]
abbrev fn : List He.DefD := fn_0
def fz_0 : List Fz := []
abbrev fz : List Fz := fz_0
abbrev exB (K : PySem.W.Frag) : Bool := fz.all fun f => f.ok K
structure Txt (K : PySem.W.Frag) (mg : Str → Option Value) : Prop where
  n_abs : mg "abs" = none
  n_all : mg "all" = none
  n_bool : mg "bool" = none
  n_int : mg "int" = none
  n_isinstance : mg "isinstance" = none
  n_len : mg "len" = none
  n_list : mg "list" = none
  n_max : mg "max" = none
  n_min : mg "min" = none
  n_range : mg "range" = none
  n_reversed : mg "reversed" = none
  n_str : mg "str" = none
  n_zip : mg "zip" = none
  g_LETTERS : ∃ u, mg "LETTERS" = some u ∧ RelV (.str "abcdefghijklmnopqrstuvwxyz") u
  g_FIGURES : ∃ u, mg "FIGURES" = some u ∧ RelV (.str "0123456789") u
  g_MOST_LETTERS : ∃ u, mg "MOST_LETTERS" = some u ∧ RelV (.int 12) u
  g_MOST_FIGURES : ∃ u, mg "MOST_FIGURES" = some u ∧ RelV (.int 80) u
  f_is_whole : ∃ fd, FunD K "is_whole" "is_whole" (defArgs s_is_whole) (defBody s_is_whole) (defScope s_is_whole) [] [] (He.fAd K ("is_whole", none)) fd
  m_is_whole : mg "is_whole" = some (.ref (He.fAd K ("is_whole", none)))
  f_is_among : ∃ fd, FunD K "is_among" "is_among" (defArgs s_is_among) (defBody s_is_among) (defScope s_is_among) [] [] (He.fAd K ("is_among", none)) fd
  m_is_among : mg "is_among" = some (.ref (He.fAd K ("is_among", none)))
  f_are_signs : ∃ fd, FunD K "are_signs" "are_signs" (defArgs s_are_signs) (defBody s_are_signs) (defScope s_are_signs) [] [] (He.fAd K ("are_signs", none)) fd
  m_are_signs : mg "are_signs" = some (.ref (He.fAd K ("are_signs", none)))
  f_is_name : ∃ fd, FunD K "is_name" "is_name" (defArgs s_is_name) (defBody s_is_name) (defScope s_is_name) [] [] (He.fAd K ("is_name", none)) fd
  m_is_name : mg "is_name" = some (.ref (He.fAd K ("is_name", none)))
  f_number_text : ∃ fd, FunD K "number_text" "number_text" (defArgs s_number_text) (defBody s_number_text) (defScope s_number_text) [] [] (He.fAd K ("number_text", none)) fd
  m_number_text : mg "number_text" = some (.ref (He.fAd K ("number_text", none)))
  f_number_of : ∃ fd, FunD K "number_of" "number_of" (defArgs s_number_of) (defBody s_number_of) (defScope s_number_of) [] [] (He.fAd K ("number_of", none)) fd
  m_number_of : mg "number_of" = some (.ref (He.fAd K ("number_of", none)))
  f_words_of : ∃ fd, FunD K "words_of" "words_of" (defArgs s_words_of) (defBody s_words_of) (defScope s_words_of) [] [] (He.fAd K ("words_of", none)) fd
  m_words_of : mg "words_of" = some (.ref (He.fAd K ("words_of", none)))
  f__law_cell_at : ∃ fd, FunD K "_law_cell_at" "_law_cell_at" (defArgs s__law_cell_at) (defBody s__law_cell_at) (defScope s__law_cell_at) [] [] (He.fAd K ("_law_cell_at", none)) fd
  m__law_cell_at : mg "_law_cell_at" = some (.ref (He.fAd K ("_law_cell_at", none)))
  f__law_mixed : ∃ fd, FunD K "_law_mixed" "_law_mixed" (defArgs s__law_mixed) (defBody s__law_mixed) (defScope s__law_mixed) [] [] (He.fAd K ("_law_mixed", none)) fd
  m__law_mixed : mg "_law_mixed" = some (.ref (He.fAd K ("_law_mixed", none)))
  f__law_great : ∃ fd, FunD K "_law_great" "_law_great" (defArgs s__law_great) (defBody s__law_great) (defScope s__law_great) [] [] (He.fAd K ("_law_great", none)) fd
  m__law_great : mg "_law_great" = some (.ref (He.fAd K ("_law_great", none)))
  f__law_signs : ∃ fd, FunD K "_law_signs" "_law_signs" (defArgs s__law_signs) (defBody s__law_signs) (defScope s__law_signs) [] [] (He.fAd K ("_law_signs", none)) fd
  m__law_signs : mg "_law_signs" = some (.ref (He.fAd K ("_law_signs", none)))
  f__law_text : ∃ fd, FunD K "_law_text" "_law_text" (defArgs s__law_text) (defBody s__law_text) (defScope s__law_text) [] [] (He.fAd K ("_law_text", none)) fd
  m__law_text : mg "_law_text" = some (.ref (He.fAd K ("_law_text", none)))
  f__law_odd : ∃ fd, FunD K "_law_odd" "_law_odd" (defArgs s__law_odd) (defBody s__law_odd) (defScope s__law_odd) [] [] (He.fAd K ("_law_odd", none)) fd
  m__law_odd : mg "_law_odd" = some (.ref (He.fAd K ("_law_odd", none)))
  f__law_is_name : ∃ fd, FunD K "_law_is_name" "_law_is_name" (defArgs s__law_is_name) (defBody s__law_is_name) (defScope s__law_is_name) [] [] (He.fAd K ("_law_is_name", none)) fd
  m__law_is_name : mg "_law_is_name" = some (.ref (He.fAd K ("_law_is_name", none)))
  f__law_number_of : ∃ fd, FunD K "_law_number_of" "_law_number_of" (defArgs s__law_number_of) (defBody s__law_number_of) (defScope s__law_number_of) [] [] (He.fAd K ("_law_number_of", none)) fd
  m__law_number_of : mg "_law_number_of" = some (.ref (He.fAd K ("_law_number_of", none)))
  f__law_alike : ∃ fd, FunD K "_law_alike" "_law_alike" (defArgs s__law_alike) (defBody s__law_alike) (defScope s__law_alike) [] [] (He.fAd K ("_law_alike", none)) fd
  m__law_alike : mg "_law_alike" = some (.ref (He.fAd K ("_law_alike", none)))
  f__law_asked : ∃ fd, FunD K "_law_asked" "_law_asked" (defArgs s__law_asked) (defBody s__law_asked) (defScope s__law_asked) [] [] (He.fAd K ("_law_asked", none)) fd
  m__law_asked : mg "_law_asked" = some (.ref (He.fAd K ("_law_asked", none)))
  f__law_number_good : ∃ fd, FunD K "_law_number_good" "_law_number_good" (defArgs s__law_number_good) (defBody s__law_number_good) (defScope s__law_number_good) [] [] (He.fAd K ("_law_number_good", none)) fd
  m__law_number_good : mg "_law_number_good" = some (.ref (He.fAd K ("_law_number_good", none)))
  f__law_line : ∃ fd, FunD K "_law_line" "_law_line" (defArgs s__law_line) (defBody s__law_line) (defScope s__law_line) [] [] (He.fAd K ("_law_line", none)) fd
  m__law_line : mg "_law_line" = some (.ref (He.fAd K ("_law_line", none)))
  f__law_line_good : ∃ fd, FunD K "_law_line_good" "_law_line_good" (defArgs s__law_line_good) (defBody s__law_line_good) (defScope s__law_line_good) [] [] (He.fAd K ("_law_line_good", none)) fd
  m__law_line_good : mg "_law_line_good" = some (.ref (He.fAd K ("_law_line_good", none)))
  f_law : ∃ fd, FunD K "law" "law" (defArgs s_law) (defBody s_law) (defScope s_law) [] [] (He.fAd K ("law", none)) fd
  m_law : mg "law" = some (.ref (He.fAd K ("law", none)))
theorem txt_of {w : World} {h : Heap} {K : PySem.W.Frag} {mg : Str → Option Value} (X : K.In h) (G : h.Ns mainGlobals mg) (c : He.SaysX fa fn [] [] exB w h K) : Txt K mg where
  n_abs := He.free_ok X G (c.t.d.fact 0 (f := .free "abs") rfl)
  n_all := He.free_ok X G (c.t.d.fact 1 (f := .free "all") rfl)
  n_bool := He.free_ok X G (c.t.d.fact 2 (f := .free "bool") rfl)
  n_int := He.free_ok X G (c.t.d.fact 3 (f := .free "int") rfl)
  n_isinstance := He.free_ok X G (c.t.d.fact 4 (f := .free "isinstance") rfl)
  n_len := He.free_ok X G (c.t.d.fact 5 (f := .free "len") rfl)
  n_list := He.free_ok X G (c.t.d.fact 6 (f := .free "list") rfl)
  n_max := He.free_ok X G (c.t.d.fact 7 (f := .free "max") rfl)
  n_min := He.free_ok X G (c.t.d.fact 8 (f := .free "min") rfl)
  n_range := He.free_ok X G (c.t.d.fact 9 (f := .free "range") rfl)
  n_reversed := He.free_ok X G (c.t.d.fact 10 (f := .free "reversed") rfl)
  n_str := He.free_ok X G (c.t.d.fact 11 (f := .free "str") rfl)
  n_zip := He.free_ok X G (c.t.d.fact 12 (f := .free "zip") rfl)
  g_LETTERS := (by obtain ⟨t, e⟩ := He.str_ok X G (c.t.d.fact 13 (f := .str "LETTERS" "abcdefghijklmnopqrstuvwxyz") rfl); exact ⟨_, e, t, rfl⟩)
  g_FIGURES := (by obtain ⟨t, e⟩ := He.str_ok X G (c.t.d.fact 14 (f := .str "FIGURES" "0123456789") rfl); exact ⟨_, e, t, rfl⟩)
  g_MOST_LETTERS := (by obtain ⟨t, e⟩ := He.int_ok X G (c.t.d.fact 15 (f := .int "MOST_LETTERS" 12) rfl); exact ⟨_, e, t, rfl⟩)
  g_MOST_FIGURES := (by obtain ⟨t, e⟩ := He.int_ok X G (c.t.d.fact 16 (f := .int "MOST_FIGURES" 80) rfl); exact ⟨_, e, t, rfl⟩)
  f_is_whole := c.t.d.def_ 0 rfl
  m_is_whole := He.glo_ok X G (c.t.d.fact 17 (f := .glo "is_whole") rfl)
  f_is_among := c.t.d.def_ 1 rfl
  m_is_among := He.glo_ok X G (c.t.d.fact 18 (f := .glo "is_among") rfl)
  f_are_signs := c.t.d.def_ 2 rfl
  m_are_signs := He.glo_ok X G (c.t.d.fact 19 (f := .glo "are_signs") rfl)
  f_is_name := c.t.d.def_ 3 rfl
  m_is_name := He.glo_ok X G (c.t.d.fact 20 (f := .glo "is_name") rfl)
  f_number_text := c.t.d.def_ 4 rfl
  m_number_text := He.glo_ok X G (c.t.d.fact 21 (f := .glo "number_text") rfl)
  f_number_of := c.t.d.def_ 5 rfl
  m_number_of := He.glo_ok X G (c.t.d.fact 22 (f := .glo "number_of") rfl)
  f_words_of := c.t.d.def_ 6 rfl
  m_words_of := He.glo_ok X G (c.t.d.fact 23 (f := .glo "words_of") rfl)
  f__law_cell_at := c.t.d.def_ 7 rfl
  m__law_cell_at := He.glo_ok X G (c.t.d.fact 24 (f := .glo "_law_cell_at") rfl)
  f__law_mixed := c.t.d.def_ 8 rfl
  m__law_mixed := He.glo_ok X G (c.t.d.fact 25 (f := .glo "_law_mixed") rfl)
  f__law_great := c.t.d.def_ 9 rfl
  m__law_great := He.glo_ok X G (c.t.d.fact 26 (f := .glo "_law_great") rfl)
  f__law_signs := c.t.d.def_ 10 rfl
  m__law_signs := He.glo_ok X G (c.t.d.fact 27 (f := .glo "_law_signs") rfl)
  f__law_text := c.t.d.def_ 11 rfl
  m__law_text := He.glo_ok X G (c.t.d.fact 28 (f := .glo "_law_text") rfl)
  f__law_odd := c.t.d.def_ 12 rfl
  m__law_odd := He.glo_ok X G (c.t.d.fact 29 (f := .glo "_law_odd") rfl)
  f__law_is_name := c.t.d.def_ 13 rfl
  m__law_is_name := He.glo_ok X G (c.t.d.fact 30 (f := .glo "_law_is_name") rfl)
  f__law_number_of := c.t.d.def_ 14 rfl
  m__law_number_of := He.glo_ok X G (c.t.d.fact 31 (f := .glo "_law_number_of") rfl)
  f__law_alike := c.t.d.def_ 15 rfl
  m__law_alike := He.glo_ok X G (c.t.d.fact 32 (f := .glo "_law_alike") rfl)
  f__law_asked := c.t.d.def_ 16 rfl
  m__law_asked := He.glo_ok X G (c.t.d.fact 33 (f := .glo "_law_asked") rfl)
  f__law_number_good := c.t.d.def_ 17 rfl
  m__law_number_good := He.glo_ok X G (c.t.d.fact 34 (f := .glo "_law_number_good") rfl)
  f__law_line := c.t.d.def_ 18 rfl
  m__law_line := He.glo_ok X G (c.t.d.fact 35 (f := .glo "_law_line") rfl)
  f__law_line_good := c.t.d.def_ 19 rfl
  m__law_line_good := He.glo_ok X G (c.t.d.fact 36 (f := .glo "_law_line_good") rfl)
  f_law := c.t.d.def_ 20 rfl
  m_law := He.glo_ok X G (c.t.d.fact 37 (f := .glo "law") rfl)
end K01

set_option maxRecDepth 100000
set_option maxHeartbeats 4000000
namespace K01
open PySem PySem.Spec PyProof.Rows L2 Z
open Evl (Ex)
/-! ### steps of the walk: one_sign: a heap grew into another; one_item: what stands at an address; one_place: a list or tuple to be read; leaf_len: arithmetic; tb_rel: one step; top_name: steps as far as they go -/
local macro_rules | `(tactic| got_up) => `(tactic| (refine Evl.Ex.trans (by assumption) ?_; first | assumption | exact Evl.Ex.refl _ | got_up))
local macro_rules | `(tactic| units_room) => `(tactic| (refine Evl.Ex.trans ?_ (by assumption); first | assumption | exact Evl.Ex.refl _ | units_room))
local macro_rules | `(tactic| one_sign) => `(tactic| first | assumption | exact Evl.Ex.refl _ | got_up | units_room)
local macro_rules | `(tactic| one_item) => `(tactic| first | assumption | exact upd_same | exact exa (by assumption) (by one_sign))
local macro_rules | `(tactic| one_place) => `(tactic| first | assumption | exact SqL.of (by assumption) | exact SqT.of (by assumption) | exact exl (by assumption) (by one_sign) | exact ext (by assumption) (by one_sign) | exact SqL.of (by one_item) | exact SqT.of (by one_item))
local macro_rules | `(tactic| leaf_len) => `(tactic| first | assumption | decide | omega)
local macro_rules | `(tactic| tb_rel) => `(tactic| first
  | ((with_reducible refine (?_ : wE _ _ _ _ _)); first
    | ((with_reducible refine (?_ : wE _ (.Name _ _) _ _ _)); first | refine zn (by rfl) (by first | exact Or.inl rfl | exact Or.inr (Or.inl rfl) | exact Or.inr (Or.inr rfl)) (by rfl) ?_ | refine zglob (by assumption) (by rfl) ?_ | refine zcls (by assumption) (by rfl) ?_ | refine zty (by assumption) (by first | exact bt_int | exact bt_bool | exact bt_str | exact bt_list | exact bt_tuple | exact bt_dict | exact bt_ValueError) (by rfl) ?_)
    | ((with_reducible refine (?_ : wE _ (.Constant _ _ _) _ _ _)); first | refine zint ?_ | refine zstr ?_ | refine zbl ?_ | refine znon ?_)
    | ((with_reducible refine (?_ : wE _ (.BinOp _ _ _ _) _ _ _)); refine zbin ?_)
    | ((with_reducible refine (?_ : wE _ (.Compare _ _ _ _) _ _ _)); first | refine zcmp (by rfl) ?_ | refine zchain ?_)
    | ((with_reducible refine (?_ : wE _ (.Dict [] [] _) _ _ _)); refine zdnew (fun _ _ _ _ _ => ?_))
    | ((with_reducible refine (?_ : wE _ (.Subscript _ (.Slice _ _ _ _) _) _ _ _)); refine zsl ?_)
    | ((with_reducible refine (?_ : wE _ (.Subscript _ _ _) _ _ _)); refine zix ?_)
    | ((with_reducible refine (?_ : wE _ (.Call (.Name "list" _) [.Call (.Name "range" _) [_] [] _] [] _) _ _ _)); refine zlrg1 rfl (by rfl) (by assumption) (by rfl) (by assumption) ?_)
    | ((with_reducible refine (?_ : wE _ (.Call (.Name _ _) _ _ _) _ _ _)); first
      | ((with_reducible refine (?_ : wE _ (.Call (.Name "len" _) _ _ _) _ _ _)); refine zbfn (by assumption) bt_len (by rfl) ?_)
      | ((with_reducible refine (?_ : wE _ (.Call (.Name "isinstance" _) _ _ _) _ _ _)); refine zbfn (by assumption) bt_isi (by rfl) ?_)
      | ((with_reducible refine (?_ : wE _ (.Call (.Name "min" _) _ _ _) _ _ _)); refine zbfn (by assumption) bt_min (by rfl) ?_)
      | ((with_reducible refine (?_ : wE _ (.Call (.Name "max" _) _ _ _) _ _ _)); refine zbfn (by assumption) bt_max (by rfl) ?_)
      | ((with_reducible refine (?_ : wE _ (.Call (.Name "list" _) _ _ _) _ _ _)); refine zbty (by assumption) bt_list (by rfl) ?_)
      | ((with_reducible refine (?_ : wE _ (.Call (.Name "tuple" _) _ _ _) _ _ _)); refine zbty (by assumption) bt_tuple (by rfl) ?_)
      | ((with_reducible refine (?_ : wE _ (.Call (.Name "int" _) _ _ _) _ _ _)); refine zbty (by assumption) bt_int (by rfl) ?_)
      | ((with_reducible refine (?_ : wE _ (.Call (.Name "abs" _) _ _ _) _ _ _)); refine zbfn (by assumption) bt_abs (by rfl) ?_)
      | ((with_reducible refine (?_ : wE _ (.Call (.Name "all" _) _ _ _) _ _ _)); refine zbfn (by assumption) bt_all (by rfl) ?_)
      | ((with_reducible refine (?_ : wE _ (.Call (.Name "sum" _) _ _ _) _ _ _)); refine zbfn (by assumption) bt_sum (by rfl) ?_)
      | ((with_reducible refine (?_ : wE _ (.Call (.Name "divmod" _) _ _ _) _ _ _)); refine zbfn (by assumption) bt_divmod (by rfl) ?_)
      | ((with_reducible refine (?_ : wE _ (.Call (.Name "ord" _) _ _ _) _ _ _)); refine zbfn (by assumption) bt_ord (by rfl) ?_))
    | ((with_reducible refine (?_ : wE _ (.IfExp _ _ _ _) _ _ _)); refine zif ?_)
    | ((with_reducible refine (?_ : wE _ (.Tuple _ _ _) _ _ _)); refine ztup ?_)
    | ((with_reducible refine (?_ : wE _ (.List _ _) _ _ _)); refine zlst ?_)
    | ((with_reducible refine (?_ : wE _ (.UnaryOp _ _ _) _ _ _)); first | refine znotV ?_ | refine zneg ?_)
    | ((with_reducible refine (?_ : wE _ (.BoolOp _ _ _) _ _ _)); first | refine zandV ?_ | refine zorV ?_ | refine zoneV ?_))
  | ((with_reducible refine (?_ : bE _ _ _ _ _ _)); refine ⟨fun _ _ _ _ _ => ?_⟩) | ((with_reducible refine (?_ : bG _ _ _ _ _ _ _)); refine ⟨fun _ _ _ _ _ => ?_⟩) | ((with_reducible refine (?_ : bTs _ _ _ _ _ _)); refine ⟨fun _ _ _ _ _ => ?_⟩)
  | ((with_reducible refine (?_ : hE _ _ _ _ _ _)); refine ⟨fun _ _ _ _ _ => ?_⟩) | ((with_reducible refine (?_ : hG _ _ _ _ _ _ _)); refine ⟨fun _ _ _ _ _ => ?_⟩) | ((with_reducible refine (?_ : hTs _ _ _ _ _ _)); refine ⟨fun _ _ _ _ _ => ?_⟩)
  | ((with_reducible refine (?_ : wP _ _ _ _ _)); first | refine pnon ?_ | refine psom ?_) | ((with_reducible refine (?_ : wSl _ _ _ _ _ _)); first | refine slL (by one_place) (fun _ _ _ _ _ => ?_) | refine slS (by assumption) ?_)
  | ((with_reducible refine (?_ : wTs _ _ _ _ _)); first | refine tsnil ?_ | refine tsone ?_)
  | ((with_reducible refine (?_ : wA _ _ _ _ _)); first | refine acons ?_ | refine anil ?_)
  | ((with_reducible refine (?_ : wO _ _ _ _ _ _)); first
    | ((with_reducible refine (?_ : wO _ (binaryOp .Add) _ _ _ _)); first | refine oadd ?_ | refine ocatE (by one_item) (by one_item) (Nat.le_of_ble_eq_true rfl) (fun _ _ _ _ _ => ?_))
    | ((with_reducible refine (?_ : wO _ (binaryOp .Sub) _ _ _ _)); first | refine osub ?_)
    | ((with_reducible refine (?_ : wO _ (binaryOp .Mult) _ _ _ _)); first | refine omul (by first | exact IntMulOk.of_right (by decide) | exact IntMulOk.of_left (by decide) | exact IntMulOk.of_right (intBits_le_64 (by omega) (by omega)) | exact IntMulOk.of_left (intBits_le_64 (by omega) (by omega))) ?_)
    | ((with_reducible refine (?_ : wO _ (binaryOp .Mod) _ _ _ _)); first | refine omod (by first | decide | omega) ?_)
    | ((with_reducible refine (?_ : wO _ (binaryOp .FloorDiv) _ _ _ _)); first | refine ofdiv ⟨by first | decide | omega, by decide⟩ ?_)
    | ((with_reducible refine (?_ : wO _ (binaryOp .BitAnd) _ _ _ _)); first | refine oand ?_)
    | ((with_reducible refine (?_ : wO _ (binaryOp .BitOr) _ _ _ _)); first | refine oor ?_)
    | ((with_reducible refine (?_ : wO _ (compareOp .Lt) _ _ _ _)); first | refine olt ?_)
    | ((with_reducible refine (?_ : wO _ (compareOp .LtE) _ _ _ _)); first | refine ole ?_)
    | ((with_reducible refine (?_ : wO _ (compareOp .Gt) _ _ _ _)); first | refine ogt ?_)
    | ((with_reducible refine (?_ : wO _ (compareOp .GtE) _ _ _ _)); first | refine oge ?_)
    | ((with_reducible refine (?_ : wO _ (compareOp .Eq) _ _ _ _)); first | refine oeqi ?_ | refine oeq (by rfl) ?_)
    | ((with_reducible refine (?_ : wO _ (compareOp .NotEq) _ _ _ _)); first | refine onei ?_ | refine one (by rfl) ?_)
    | ((with_reducible refine (?_ : wO _ (compareOp .In) _ _ _ _)); first | refine oin ?_)
    | ((with_reducible refine (?_ : wO _ (compareOp .NotIn) _ _ _ _)); first | refine onin ?_)
    | ((with_reducible refine (?_ : wO _ (compareOp .Is) _ _ _ _)); first | refine ois ?_)
    | ((with_reducible refine (?_ : wO _ (compareOp .IsNot) _ _ _ _)); first | refine onot ?_)
    | ((with_reducible refine (?_ : wO _ (binaryOp .RShift) _ _ _ _)); refine oshr (by first | decide | omega) ?_)
    | ((with_reducible refine (?_ : wO _ (binaryOp .BitXor) _ _ _ _)); refine oxor ?_)
    | ((with_reducible refine (?_ : wO _ (inplaceOp .BitXor) _ _ _ _)); refine ixor ?_)
    | ((with_reducible refine (?_ : wO _ (inplaceOp .RShift) _ _ _ _)); refine ishr (by first | decide | omega) ?_)
    | ((with_reducible refine (?_ : wO _ (inplaceOp .BitOr) _ _ _ _)); first | refine ior ?_)
    | ((with_reducible refine (?_ : wO _ (inplaceOp .Add) _ _ _ _)); first | refine iadd ?_))
  | ((with_reducible refine (?_ : wT _ _ _ _ _)); first
    | ((with_reducible refine (?_ : wT _ (.Compare _ _ _ _) _ _ _)); first | refine zcmpT (by rfl) ?_ | refine zchainT ?_)
    | ((with_reducible refine (?_ : wT _ (.UnaryOp _ _ _) _ _ _)); refine znotT ?_)
    | ((with_reducible refine (?_ : wT _ (.BoolOp _ _ _) _ _ _)); refine zW ?_)
    | refine zval ?_)
  | ((with_reducible refine (?_ : wW _ _ _ _ _)); first | refine zand ?_ | refine zor ?_ | refine zand1 ?_ | refine zor1 ?_)
  | ((with_reducible refine (?_ : wK _ _ _ _ _)); first
    | ((with_reducible refine (?_ : wK _ (.builtin "len") _ _ _)); first | refine klenL (by one_place) ?_ | refine klenT (by one_place) ?_ | refine klenS (by assumption) ?_)
    | ((with_reducible refine (?_ : wK _ (.builtin "isinstance") _ _ _)); first | refine kisE (by assumption) (by assumption) (by first | assumption | exact Xd.exx (by assumption) (by one_sign)) (by first | exact .own _ | exact .ty _) (by assumption) ?_ | refine kisi (.ty _) (by assumption) (by assumption) ?_ | refine kisi (.ty _) (.base (by first | exact .int _ | exact .bl _ | exact .str _ | exact .non | exact .tup (by one_item) | exact .lst (by one_item))) (kit_ty (r := true) (by rfl)) ?_ | refine kisi (.ty _) (.base (by first | exact .int _ | exact .bl _ | exact .str _ | exact .non | exact .tup (by one_item) | exact .lst (by one_item))) (kit_ty (r := false) (by rfl)) ?_)
    | ((with_reducible refine (?_ : wK _ (.builtin "divmod") _ _ _)); refine kdivmod ⟨by first | decide | omega, by decide⟩ (fun _ _ _ _ _ => ?_))
    | ((with_reducible refine (?_ : wK _ (.builtin "min") _ _ _)); refine kmin (by rfl) ?_)
    | ((with_reducible refine (?_ : wK _ (.builtin "max") _ _ _)); refine kmax (by rfl) ?_)
    | ((with_reducible refine (?_ : wK _ (.type "list") _ _ _)); first | refine klistL (by one_place) (fun _ _ _ _ _ => ?_) | refine klistT (by one_place) (fun _ _ _ _ _ => ?_))
    | ((with_reducible refine (?_ : wK _ (.type "tuple") _ _ _)); first | refine ktupL (by one_place) (fun _ _ _ _ _ => ?_)))
  | ((with_reducible refine (?_ : wS _ _ _ _ _)); first
    | ((with_reducible refine (?_ : wS _ (.Assign [.Name _ _] _ _) _ _ _)); refine sset' (by assumption) (by rfl) (by first | exact Or.inl rfl | exact Or.inr rfl) (by rfl) (by first | exact .inl rfl | exact .inr rfl) ?_)
    | ((with_reducible refine (?_ : wS _ (.AugAssign (.Name _ _) _ _ _) _ _ _)); refine saug' (by assumption) (by rfl) (by first | exact Or.inl rfl | exact Or.inr rfl) (by first | exact .inl rfl | exact .inr rfl) (by rfl) ?_)
    | ((with_reducible refine (?_ : wS _ (.Expr _ _) _ _ _)); refine sexp ?_)
    | ((with_reducible refine (?_ : wS _ (.Assign [.Tuple _ _ _] _ _) _ _ _)); refine sasg ?_) | ((with_reducible refine (?_ : wS _ (.Assign [.Subscript _ _ _] _ _) _ _ _)); refine sasg ?_)
    | refine sret ?_ | refine sif ?_ | refine sretN ?_ | refine spass ?_ | refine sbrk ?_ | refine scont ?_)
  | ((with_reducible refine (?_ : wG _ (.Name _ _) _ _ _ _)); refine gname' (by assumption) (by rfl) (by first | exact Or.inl rfl | exact Or.inr rfl) (by first | exact .inl rfl | exact .inr rfl) ?_)
  | ((with_reducible refine (?_ : wG _ (.Tuple _ _ _) _ _ _ _)); refine gtup rfl (by one_place) rfl ?_) | ((with_reducible refine (?_ : wG _ (.Subscript _ _ _) _ _ _ _)); refine gsub ?_)
  | ((with_reducible refine (?_ : wGs _ _ _ _ _ _)); first | refine gscons ?_ | refine gsnil ?_)
  | ((with_reducible refine (?_ : wB _ _ _ _ _)); first | refine bcons ?_ | refine bnil ?_)
  | refine ifT ?_ | refine ifF ?_ | refine ifd (fun _ => ?_) (fun _ => ?_) | refine ifnd (fun _ => ?_) (fun _ => ?_) | refine ⟨_, rfl, ?_⟩ | refine ⟨rfl, Evl.Ex.refl _, ?_⟩ | refine ⟨Nat.le_of_ble_eq_true rfl, fun _ _ _ _ _ => ?_⟩ | fail)
local macro_rules | `(tactic| top_name) => `(tactic| repeat' tb_rel)
local macro_rules | `(tactic| nest_fact) => `(tactic| first | exact ⟨(decide_eq_true (by omega)).symm, rfl⟩ | exact ⟨(decide_eq_false (by omega)).symm, rfl⟩ | exact ⟨decide_eq_decide.mpr (by omega), rfl⟩ | fail)
variable {P : Program} {w : World} {K : PySem.W.Frag} {mg : Str → Option Value} {base : Heap}
/-! ### a cell of the script, a cell mixed -/
def cellAt (ns : List Int) (k : Int) : Int := if k < (ns.length : Int) then (ns[k.toNat]?).getD 0 else 0
def sp_cell_at (K : PySem.W.Frag) : Sp := fun vs H Q _ => ∃ (a : Addr) (ns : List Int) (k : Int), vs = [.ref a, .int k] ∧ SqL K H a (ns.map V.int) ∧ 0 ≤ k ∧ Q (.int (cellAt ns k)) H
theorem atI_map {ns : List Int} {k : Int} (h0 : 0 ≤ k) (h : k < (ns.length : Int)) : atI (ns.map V.int) k = some (.int (cellAt ns k)) := by
  have e : k = ((k.toNat : Nat) : Int) := by omega
  have hl : k.toNat < ns.length := by omega
  rw [e]
  refine atI_nat ?_
  unfold cellAt
  rw [if_pos (by omega), List.getElem?_map, Int.toNat_natCast, List.getElem?_eq_getElem hl]
  rfl
theorem ok_cell_at (T : Txt K mg) : Gf P w K mg base 1 "_law_cell_at" [] (sp_cell_at K) := by
  refine gf_mk T.f__law_cell_at T.m__law_cell_at (fun _ _ _ _ _ _ us hl => match us, hl with | [_, _], _ => rfl) fun fd F => fn_mk F sc__law_cell_at (fun vs H Q E h => ?_) fun cd A outer s H vs Q E hr tk po h => ?_
  · obtain ⟨a, ns, k, rfl, _⟩ := h; rfl
  · obtain ⟨a, ns, k, rfl, hs, h0, q⟩ := h
    have n1 := T.n_len
    top_name
    · rename_i hk
      rw [List.length_map] at hk
      exact ixL hs (atI_map h0 hk) q
    · rename_i hk
      rw [List.length_map] at hk
      unfold cellAt at q
      rw [if_neg hk] at q
      exact q

/-- a cell mixed -/
def mixed (c k : Int) : Int := (c + 7919 * k + 1) ^ 3 * 48271 % 2147483647
theorem mixed_lo (c k : Int) : 0 ≤ mixed c k := Int.emod_nonneg _ (by decide)
theorem mixed_hi (c k : Int) : mixed c k < 2147483647 := Int.emod_lt_of_pos _ (by decide)
/-- at most so many bits -/
def Fits (n : Nat) (c : Int) : Prop := c.natAbs < 2 ^ n
theorem bits_of_int {c : Int} {n : Nat} (h : Builtin.Int.intBits c ≤ n) : Fits n c := by
  unfold Builtin.Int.intBits at h
  unfold Fits
  by_cases e : c = 0
  · rw [e]; exact Nat.two_pow_pos n
  · have e2 : (c == 0) = false := by simpa using e
    rw [e2] at h
    simp only [Bool.false_eq_true, if_false] at h
    exact Nat.lt_of_lt_of_le (Nat.lt_log2_self (n := c.natAbs)) (Nat.pow_le_pow_right (by decide) h)
theorem Fits.mono {a b : Nat} {c : Int} (h : Fits a c) (hab : a ≤ b) : Fits b c := Nat.lt_of_lt_of_le h (Nat.pow_le_pow_right (by decide) hab)
theorem Fits.add {a : Nat} {c e : Int} (h : Fits a c) (g : Fits a e) : Fits (a + 1) (c + e) := by
  unfold Fits at *
  rw [Nat.pow_succ]
  omega
theorem Fits.small {c : Int} (h0 : -(2 ^ 62) < c) (h1 : c < 2 ^ 62) : Fits 62 c := by unfold Fits; omega
def sp_mixed : Sp := fun vs H Q _ => ∃ c k : Int, vs = [.int c, .int k] ∧ Fits 1048600 c ∧ -100000 ≤ k ∧ k < 100000 ∧ Q (.int (mixed c k)) H
theorem ok_mixed (T : Txt K mg) : Gf P w K mg base 1 "_law_mixed" [] sp_mixed := by
  refine gf_mk T.f__law_mixed T.m__law_mixed (fun _ _ _ _ _ _ us hl => match us, hl with | [_, _], _ => rfl) fun fd F => fn_mk F sc__law_mixed (fun vs H Q E h => ?_) fun cd A outer s H vs Q E hr tk po h => ?_
  · obtain ⟨c, k, rfl, _⟩ := h; rfl
  · obtain ⟨c, k, rfl, hc, h0, h1, q⟩ := h
    have hb : Fits 1048602 (c + 7919 * k + 1) := ((hc.add ((Fits.small (c := 7919 * k) (by omega) (by omega)).mono (by decide))).add ((Fits.small (c := 1) (by omega) (by omega)).mono (by decide)))
    top_name
    refine opow (by decide) ?_ ?_
    · have := intBits_le hb
      omega
    · top_name
      exact q
end K01

set_option maxRecDepth 100000
set_option maxHeartbeats 4000000
namespace K01
open PySem PySem.Spec PyProof.Rows L2 Z
open Evl (Ex)
inductive MixP : List V → Hp → VK → Prop
  | fits {c k : Int} {H : Hp} {Q : VK} (hf : Fits 1048600 c) (h2 : -100000 ≤ k) (h3 : k < 100000) (q : Q (.int (mixed c k)) H) : MixP [.int c, .int k] H Q
  | mk {c k : Int} {H : Hp} {Q : VK} (h0 : 0 ≤ c) (h1 : c < 2147483647) (h2 : -100000 ≤ k) (h3 : k < 100000) (q : Q (.int (mixed c k)) H) : MixP [.int c, .int k] H Q
theorem zmixed {X : Cx} {σ : Z.St} {H : Hp} {e1 : Expr} {es : List Expr} {p pos : Pos} {Q : VK} {j : Nat} (T : Txt X.K X.mg) (hr : Room (j + 1) X.A) (hg : Gl X "_law_mixed") (h : wA X (e1 :: es) σ H fun vs H1 => MixP vs H1 Q)
    (he : starEach (e1 :: es) X.env = (false, eval e1 X.env) :: starEach es X.env := by rfl) (hpl : (backTo pos (starEach es X.env)).any (·.1) = false := by rfl) : wE X (.Call (.Name "_law_mixed" p) (e1 :: es) [] pos) σ H Q :=
  zcall (ok_mixed T) hr (Nat.succ_le_succ (Nat.zero_le _)) takesF hg ⟨fun ps pins s I => thn (h.run ps pins s I) fun us s' ⟨vs, H1, J, r, q⟩ => ⟨vs, H1, J, r, by
    cases q with
    | fits hf h2 h3 q => exact ⟨_, _, rfl, hf, h2, h3, q⟩
    | mk h0 h1 h2 h3 q => exact ⟨_, _, rfl, (Fits.small (by omega) (by omega)).mono (by decide), h2, h3, q⟩⟩⟩ (by decide) he hpl
theorem cellAt_fits {ns : List Int} (h : ∀ z ∈ ns, Builtin.Int.intBits z ≤ 1048576) (k : Int) : Fits 1048600 (cellAt ns k) := by
  unfold cellAt
  split
  · cases e : ns[k.toNat]? with
    | none => exact (Fits.small (c := 0) (by decide) (by decide)).mono (by decide)
    | some z => exact (bits_of_int (h z (List.mem_of_getElem? e))).mono (by decide)
  · exact (Fits.small (c := 0) (by decide) (by decide)).mono (by decide)
end K01

set_option maxRecDepth 100000
set_option maxHeartbeats 4000000
set_option pp.maxSteps 1500
namespace K01
open PySem PySem.Spec PyProof.Rows L2 Z
open Evl (Ex)
variable {P : Program} {w : World} {K : PySem.W.Frag} {mg : Str → Option Value} {base : Heap}
/-! ### steps of the walk: one_sign: a heap grew into another; one_item: what stands at an address; one_place: a list or tuple to be read; leaf_len: arithmetic; tb_rel: one step; top_name: steps as far as they go -/
local macro_rules | `(tactic| got_up) => `(tactic| (refine Evl.Ex.trans (by assumption) ?_; first | assumption | exact Evl.Ex.refl _ | got_up))
local macro_rules | `(tactic| units_room) => `(tactic| (refine Evl.Ex.trans ?_ (by assumption); first | assumption | exact Evl.Ex.refl _ | units_room))
local macro_rules | `(tactic| one_sign) => `(tactic| first | assumption | exact Evl.Ex.refl _ | got_up | units_room)
local macro_rules | `(tactic| one_item) => `(tactic| first | assumption | exact upd_same | exact exa (by assumption) (by one_sign))
local macro_rules | `(tactic| one_place) => `(tactic| first | assumption | exact SqL.of (by assumption) | exact SqT.of (by assumption) | exact exl (by assumption) (by one_sign) | exact ext (by assumption) (by one_sign) | exact SqL.of (by one_item) | exact SqT.of (by one_item))
local macro_rules | `(tactic| leaf_len) => `(tactic| first | assumption | decide | omega)
local macro_rules | `(tactic| tb_rel) => `(tactic| first
  | ((with_reducible refine (?_ : wE _ _ _ _ _)); first
    | ((with_reducible refine (?_ : wE _ (.Name _ _) _ _ _)); first | refine zn (by rfl) (by first | exact Or.inl rfl | exact Or.inr (Or.inl rfl) | exact Or.inr (Or.inr rfl)) (by rfl) ?_ | refine zglob (by assumption) (by rfl) ?_ | refine zcls (by assumption) (by rfl) ?_ | refine zty (by assumption) (by first | exact bt_int | exact bt_bool | exact bt_str | exact bt_list | exact bt_tuple | exact bt_dict | exact bt_ValueError) (by rfl) ?_)
    | ((with_reducible refine (?_ : wE _ (.Constant _ _ _) _ _ _)); first | refine zint ?_ | refine zstr ?_ | refine zbl ?_ | refine znon ?_)
    | ((with_reducible refine (?_ : wE _ (.BinOp _ _ _ _) _ _ _)); refine zbin ?_)
    | ((with_reducible refine (?_ : wE _ (.Compare _ _ _ _) _ _ _)); first | refine zcmp (by rfl) ?_ | refine zchain ?_)
    | ((with_reducible refine (?_ : wE _ (.Dict [] [] _) _ _ _)); refine zdnew (fun _ _ _ _ _ => ?_))
    | ((with_reducible refine (?_ : wE _ (.Subscript _ (.Slice _ _ _ _) _) _ _ _)); refine zsl ?_)
    | ((with_reducible refine (?_ : wE _ (.Subscript _ _ _) _ _ _)); refine zix ?_)
    | ((with_reducible refine (?_ : wE _ (.Call (.Name "list" _) [.Call (.Name "range" _) [_] [] _] [] _) _ _ _)); refine zlrg1 rfl (by rfl) (by assumption) (by rfl) (by assumption) ?_)
    | ((with_reducible refine (?_ : wE _ (.Call (.Name _ _) _ _ _) _ _ _)); first
      | ((with_reducible refine (?_ : wE _ (.Call (.Name "len" _) _ _ _) _ _ _)); refine zbfn (by assumption) bt_len (by rfl) ?_)
      | ((with_reducible refine (?_ : wE _ (.Call (.Name "isinstance" _) _ _ _) _ _ _)); refine zbfn (by assumption) bt_isi (by rfl) ?_)
      | ((with_reducible refine (?_ : wE _ (.Call (.Name "min" _) _ _ _) _ _ _)); refine zbfn (by assumption) bt_min (by rfl) ?_)
      | ((with_reducible refine (?_ : wE _ (.Call (.Name "max" _) _ _ _) _ _ _)); refine zbfn (by assumption) bt_max (by rfl) ?_)
      | ((with_reducible refine (?_ : wE _ (.Call (.Name "list" _) _ _ _) _ _ _)); refine zbty (by assumption) bt_list (by rfl) ?_)
      | ((with_reducible refine (?_ : wE _ (.Call (.Name "tuple" _) _ _ _) _ _ _)); refine zbty (by assumption) bt_tuple (by rfl) ?_)
      | ((with_reducible refine (?_ : wE _ (.Call (.Name "int" _) _ _ _) _ _ _)); refine zbty (by assumption) bt_int (by rfl) ?_)
      | ((with_reducible refine (?_ : wE _ (.Call (.Name "abs" _) _ _ _) _ _ _)); refine zbfn (by assumption) bt_abs (by rfl) ?_)
      | ((with_reducible refine (?_ : wE _ (.Call (.Name "all" _) _ _ _) _ _ _)); refine zbfn (by assumption) bt_all (by rfl) ?_)
      | ((with_reducible refine (?_ : wE _ (.Call (.Name "sum" _) _ _ _) _ _ _)); refine zbfn (by assumption) bt_sum (by rfl) ?_)
      | ((with_reducible refine (?_ : wE _ (.Call (.Name "divmod" _) _ _ _) _ _ _)); refine zbfn (by assumption) bt_divmod (by rfl) ?_)
      | ((with_reducible refine (?_ : wE _ (.Call (.Name "ord" _) _ _ _) _ _ _)); refine zbfn (by assumption) bt_ord (by rfl) ?_))
    | ((with_reducible refine (?_ : wE _ (.IfExp _ _ _ _) _ _ _)); refine zif ?_)
    | ((with_reducible refine (?_ : wE _ (.Tuple _ _ _) _ _ _)); refine ztup ?_)
    | ((with_reducible refine (?_ : wE _ (.List _ _) _ _ _)); refine zlst ?_)
    | ((with_reducible refine (?_ : wE _ (.UnaryOp _ _ _) _ _ _)); first | refine znotV ?_ | refine zneg ?_)
    | ((with_reducible refine (?_ : wE _ (.BoolOp _ _ _) _ _ _)); first | refine zandV ?_ | refine zorV ?_ | refine zoneV ?_))
  | ((with_reducible refine (?_ : bE _ _ _ _ _ _)); refine ⟨fun _ _ _ _ _ => ?_⟩) | ((with_reducible refine (?_ : bG _ _ _ _ _ _ _)); refine ⟨fun _ _ _ _ _ => ?_⟩) | ((with_reducible refine (?_ : bTs _ _ _ _ _ _)); refine ⟨fun _ _ _ _ _ => ?_⟩)
  | ((with_reducible refine (?_ : hE _ _ _ _ _ _)); refine ⟨fun _ _ _ _ _ => ?_⟩) | ((with_reducible refine (?_ : hG _ _ _ _ _ _ _)); refine ⟨fun _ _ _ _ _ => ?_⟩) | ((with_reducible refine (?_ : hTs _ _ _ _ _ _)); refine ⟨fun _ _ _ _ _ => ?_⟩)
  | ((with_reducible refine (?_ : wP _ _ _ _ _)); first | refine pnon ?_ | refine psom ?_) | ((with_reducible refine (?_ : wSl _ _ _ _ _ _)); first | refine slL (by one_place) (fun _ _ _ _ _ => ?_) | refine slS (by assumption) ?_)
  | ((with_reducible refine (?_ : wTs _ _ _ _ _)); first | refine tsnil ?_ | refine tsone ?_)
  | ((with_reducible refine (?_ : wA _ _ _ _ _)); first | refine acons ?_ | refine anil ?_)
  | ((with_reducible refine (?_ : wO _ _ _ _ _ _)); first
    | ((with_reducible refine (?_ : wO _ (binaryOp .Add) _ _ _ _)); first | refine oadd ?_ | refine ocatE (by one_item) (by one_item) (Nat.le_of_ble_eq_true rfl) (fun _ _ _ _ _ => ?_))
    | ((with_reducible refine (?_ : wO _ (binaryOp .Sub) _ _ _ _)); first | refine osub ?_)
    | ((with_reducible refine (?_ : wO _ (binaryOp .Mult) _ _ _ _)); first | refine omul (by first | exact IntMulOk.of_right (by decide) | exact IntMulOk.of_left (by decide) | exact IntMulOk.of_right (intBits_le_64 (by omega) (by omega)) | exact IntMulOk.of_left (intBits_le_64 (by omega) (by omega))) ?_)
    | ((with_reducible refine (?_ : wO _ (binaryOp .Mod) _ _ _ _)); first | refine omod (by first | decide | omega) ?_)
    | ((with_reducible refine (?_ : wO _ (binaryOp .FloorDiv) _ _ _ _)); first | refine ofdiv ⟨by first | decide | omega, by decide⟩ ?_)
    | ((with_reducible refine (?_ : wO _ (binaryOp .BitAnd) _ _ _ _)); first | refine oand ?_)
    | ((with_reducible refine (?_ : wO _ (binaryOp .BitOr) _ _ _ _)); first | refine oor ?_)
    | ((with_reducible refine (?_ : wO _ (compareOp .Lt) _ _ _ _)); first | refine olt ?_)
    | ((with_reducible refine (?_ : wO _ (compareOp .LtE) _ _ _ _)); first | refine ole ?_)
    | ((with_reducible refine (?_ : wO _ (compareOp .Gt) _ _ _ _)); first | refine ogt ?_)
    | ((with_reducible refine (?_ : wO _ (compareOp .GtE) _ _ _ _)); first | refine oge ?_)
    | ((with_reducible refine (?_ : wO _ (compareOp .Eq) _ _ _ _)); first | refine oeqi ?_ | refine oeq (by rfl) ?_)
    | ((with_reducible refine (?_ : wO _ (compareOp .NotEq) _ _ _ _)); first | refine onei ?_ | refine one (by rfl) ?_)
    | ((with_reducible refine (?_ : wO _ (compareOp .In) _ _ _ _)); first | refine oin ?_)
    | ((with_reducible refine (?_ : wO _ (compareOp .NotIn) _ _ _ _)); first | refine onin ?_)
    | ((with_reducible refine (?_ : wO _ (compareOp .Is) _ _ _ _)); first | refine ois ?_)
    | ((with_reducible refine (?_ : wO _ (compareOp .IsNot) _ _ _ _)); first | refine onot ?_)
    | ((with_reducible refine (?_ : wO _ (binaryOp .RShift) _ _ _ _)); refine oshr (by first | decide | omega) ?_)
    | ((with_reducible refine (?_ : wO _ (binaryOp .BitXor) _ _ _ _)); refine oxor ?_)
    | ((with_reducible refine (?_ : wO _ (inplaceOp .BitXor) _ _ _ _)); refine ixor ?_)
    | ((with_reducible refine (?_ : wO _ (inplaceOp .RShift) _ _ _ _)); refine ishr (by first | decide | omega) ?_)
    | ((with_reducible refine (?_ : wO _ (inplaceOp .BitOr) _ _ _ _)); first | refine ior ?_)
    | ((with_reducible refine (?_ : wO _ (inplaceOp .Add) _ _ _ _)); first | refine iadd ?_))
  | ((with_reducible refine (?_ : wT _ _ _ _ _)); first
    | ((with_reducible refine (?_ : wT _ (.Compare _ _ _ _) _ _ _)); first | refine zcmpT (by rfl) ?_ | refine zchainT ?_)
    | ((with_reducible refine (?_ : wT _ (.UnaryOp _ _ _) _ _ _)); refine znotT ?_)
    | ((with_reducible refine (?_ : wT _ (.BoolOp _ _ _) _ _ _)); refine zW ?_)
    | refine zval ?_)
  | ((with_reducible refine (?_ : wW _ _ _ _ _)); first | refine zand ?_ | refine zor ?_ | refine zand1 ?_ | refine zor1 ?_)
  | ((with_reducible refine (?_ : wK _ _ _ _ _)); first
    | ((with_reducible refine (?_ : wK _ (.builtin "len") _ _ _)); first | refine klenL (by one_place) ?_ | refine klenT (by one_place) ?_ | refine klenS (by assumption) ?_)
    | ((with_reducible refine (?_ : wK _ (.builtin "isinstance") _ _ _)); first | refine kisE (by assumption) (by assumption) (by first | assumption | exact Xd.exx (by assumption) (by one_sign)) (by first | exact .own _ | exact .ty _) (by assumption) ?_ | refine kisi (.ty _) (by assumption) (by assumption) ?_ | refine kisi (.ty _) (.base (by first | exact .int _ | exact .bl _ | exact .str _ | exact .non | exact .tup (by one_item) | exact .lst (by one_item))) (kit_ty (r := true) (by rfl)) ?_ | refine kisi (.ty _) (.base (by first | exact .int _ | exact .bl _ | exact .str _ | exact .non | exact .tup (by one_item) | exact .lst (by one_item))) (kit_ty (r := false) (by rfl)) ?_)
    | ((with_reducible refine (?_ : wK _ (.builtin "divmod") _ _ _)); refine kdivmod ⟨by first | decide | omega, by decide⟩ (fun _ _ _ _ _ => ?_))
    | ((with_reducible refine (?_ : wK _ (.builtin "min") _ _ _)); refine kmin (by rfl) ?_)
    | ((with_reducible refine (?_ : wK _ (.builtin "max") _ _ _)); refine kmax (by rfl) ?_)
    | ((with_reducible refine (?_ : wK _ (.type "list") _ _ _)); first | refine klistL (by one_place) (fun _ _ _ _ _ => ?_) | refine klistT (by one_place) (fun _ _ _ _ _ => ?_))
    | ((with_reducible refine (?_ : wK _ (.type "tuple") _ _ _)); first | refine ktupL (by one_place) (fun _ _ _ _ _ => ?_)))
  | ((with_reducible refine (?_ : wS _ _ _ _ _)); first
    | ((with_reducible refine (?_ : wS _ (.Assign [.Name _ _] _ _) _ _ _)); refine sset' (by assumption) (by rfl) (by first | exact Or.inl rfl | exact Or.inr rfl) (by rfl) (by first | exact .inl rfl | exact .inr rfl) ?_)
    | ((with_reducible refine (?_ : wS _ (.AugAssign (.Name _ _) _ _ _) _ _ _)); refine saug' (by assumption) (by rfl) (by first | exact Or.inl rfl | exact Or.inr rfl) (by first | exact .inl rfl | exact .inr rfl) (by rfl) ?_)
    | ((with_reducible refine (?_ : wS _ (.Expr _ _) _ _ _)); refine sexp ?_)
    | ((with_reducible refine (?_ : wS _ (.Assign [.Tuple _ _ _] _ _) _ _ _)); refine sasg ?_) | ((with_reducible refine (?_ : wS _ (.Assign [.Subscript _ _ _] _ _) _ _ _)); refine sasg ?_)
    | refine sret ?_ | refine sif ?_ | refine sretN ?_ | refine spass ?_ | refine sbrk ?_ | refine scont ?_)
  | ((with_reducible refine (?_ : wG _ (.Name _ _) _ _ _ _)); refine gname' (by assumption) (by rfl) (by first | exact Or.inl rfl | exact Or.inr rfl) (by first | exact .inl rfl | exact .inr rfl) ?_)
  | ((with_reducible refine (?_ : wG _ (.Tuple _ _ _) _ _ _ _)); refine gtup rfl (by one_place) rfl ?_) | ((with_reducible refine (?_ : wG _ (.Subscript _ _ _) _ _ _ _)); refine gsub ?_)
  | ((with_reducible refine (?_ : wGs _ _ _ _ _ _)); first | refine gscons ?_ | refine gsnil ?_)
  | ((with_reducible refine (?_ : wB _ _ _ _ _)); first | refine bcons ?_ | refine bnil ?_)
  | refine ifT ?_ | refine ifF ?_ | refine ifd (fun _ => ?_) (fun _ => ?_) | refine ifnd (fun _ => ?_) (fun _ => ?_) | refine ⟨_, rfl, ?_⟩ | refine ⟨rfl, Evl.Ex.refl _, ?_⟩ | refine ⟨Nat.le_of_ble_eq_true rfl, fun _ _ _ _ _ => ?_⟩ | fail)
local macro_rules | `(tactic| top_name) => `(tactic| repeat' tb_rel)
local macro_rules | `(tactic| nest_fact) => `(tactic| first | exact ⟨(decide_eq_true (by omega)).symm, rfl⟩ | exact ⟨(decide_eq_false (by omega)).symm, rfl⟩ | exact ⟨decide_eq_decide.mpr (by omega), rfl⟩ | fail)
/-! ### texts, plainly -/
theorem len_is (x : Str) : x.length = x.cps.toList.length := by simp; rfl
theorem str_ext {x y : Str} (h : x.cps.toList = y.cps.toList) : x = y := TL.ext_tl h
theorem sw_minus (x : Str) : Txt.startswith x "-" = decide (x.cps.toList.head? = some 45) := by
  unfold Txt.startswith
  rw [PySem.StrLaws.subAt_eq, len_is]
  show (decide (0 + 1 ≤ x.cps.toList.length) && ((x.cps.toList.drop 0).take 1 == [45])) = _
  cases x.cps.toList with
  | nil => rfl
  | cons c r =>
    have e1 : decide (0 + 1 ≤ (c :: r).length) = true := decide_eq_true (by rw [List.length_cons]; omega)
    rw [e1, Bool.true_and, List.drop_zero, List.head?_cons]
    show ([c] == [45]) = _
    by_cases h : c = 45
    · subst h; rfl
    · rw [decide_eq_false (fun z => h (Option.some.inj z))]
      simpa using h
theorem sIx_at (n d : Nat) {p : Int} (h : 0 ≤ p) (h1 : p ≤ (n : Int)) : HT.sIx n d (some p) = p.toNat := by
  show (if p < 0 then (p + (n : Int)).toNat else min p.toNat n) = _
  rw [if_neg (by omega)]
  omega
theorem cut1 (x : Str) : (cutS x (some 1) none).cps.toList = x.cps.toList.drop 1 := by
  unfold cutS
  show (x.cps.toList.drop (min 1 x.length)).take (x.length - min 1 x.length) = _
  rw [len_is]
  by_cases h : 1 ≤ x.cps.toList.length
  · rw [Nat.min_eq_left h, List.take_of_length_le (by rw [List.length_drop]; exact Nat.le_refl _)]
  · have : x.cps.toList = [] := List.eq_nil_of_length_eq_zero (by omega)
    rw [this]
    rfl
theorem cutTo1 (x : Str) : (cutS x none (some 1)).cps.toList = x.cps.toList.take 1 := by
  unfold cutS
  show (x.cps.toList.drop 0).take (min 1 x.length - 0) = _
  rw [len_is, List.drop_zero, Nat.sub_zero]
  by_cases h : 1 ≤ x.cps.toList.length
  · rw [Nat.min_eq_left h]
  · have : x.cps.toList = [] := List.eq_nil_of_length_eq_zero (by omega)
    rw [this]
    rfl
def letters : Str := "abcdefghijklmnopqrstuvwxyz"
def figures : Str := "0123456789"
theorem figures_tl : figures.cps.toList = [48, 49, 50, 51, 52, 53, 54, 55, 56, 57] := by decide +kernel
theorem in_figures {c : Nat} : c ∈ figures.cps.toList ↔ 48 ≤ c ∧ c ≤ 57 := by
  rw [figures_tl]
  simp
  omega
/-- of which signs a text is -/
def areB (x z : Str) : Bool := x.cps.toList.all fun c => decide (c ∈ z.cps.toList)
def nameB (x : Str) : Bool := decide (1 ≤ x.length ∧ x.length ≤ 12) && areB x letters
/-- the figures of a text -/
def figS (x : Str) : Str := if x.cps.toList.head? = some 45 then cutS x (some 1) none else x
def numOk (x : Str) : Prop := (1 ≤ (figS x).length ∧ (figS x).length ≤ 80) ∧ areB (figS x) figures = true ∧ ¬ ((figS x).cps.toList.head? = some 48 ∧ x ≠ "0")
instance (x : Str) : Decidable (numOk x) := by unfold numOk; infer_instance
def numVal (x : Str) : Int := if x.cps.toList.head? = some 45 then 0 - (NumText.digitsVal (figS x).cps.toList : Int) else NumText.digitsVal (figS x).cps.toList
def numV (x : Str) : V := if numOk x then .int (numVal x) else .non
theorem figs_len (x : Str) : (figS x).length ≤ x.length := by
  unfold figS
  split
  · exact cutS_length _ _ _
  · exact Nat.le_refl _
theorem areB_fig {x : Str} (h : areB x figures = true) : NumText.AllDigits x.cps.toList := fun c hc => in_figures.mp (of_decide_eq_true (List.all_eq_true.mp h c hc))
theorem int_of {x : Str} (h : numOk x) : PySem.intText? x = some (numVal x) := by
  obtain ⟨⟨h1, h2⟩, h3, h4⟩ := h
  have hd := areB_fig h3
  unfold numVal
  by_cases hm : x.cps.toList.head? = some 45
  · rw [if_pos hm]
    have hf : figS x = cutS x (some 1) none := if_pos hm
    rw [hf] at h1 h2 hd ⊢
    rw [len_is, cut1] at h1 h2
    rw [cut1] at hd ⊢
    cases hx : x.cps.toList with
    | nil => rw [hx] at hm; cases hm
    | cons c r =>
      rw [hx] at hm hd h1 h2
      have : c = 45 := Option.some.inj hm
      subst this
      have := intText_neg (x := x) (cs := r) hx hd (by intro z; subst z; simp at h1) (by rw [len_is, hx, List.length_cons]; simp at h2; omega)
      rw [this]
      show some (-((NumText.digitsVal r : Nat) : Int)) = some (0 - ((NumText.digitsVal r : Nat) : Int))
      rw [Int.zero_sub]
  · rw [if_neg hm]
    have hf : figS x = x := if_neg hm
    rw [hf] at h1 h2 hd ⊢
    exact intText_digits hd (by intro z; rw [len_is, z] at h1; simp at h1) (by omega)
/-! ### signs, names, numbers -/
def sp_signs : Sp := fun vs H Q _ => ∃ x z : Str, vs = [.str x, .str z] ∧ x.length ≤ 100000 ∧ ∀ H', Ex H H' → Q (.bl (areB x z)) H'
theorem take_sign {x : Str} {f : Nat → V} {j c : Nat} (h : x.cps[j]? = some c) : (x.cps.toList.take (j + 1)).map f = (x.cps.toList.take j).map f ++ [f c] := take_map_succ (by rw [Array.getElem?_toList]; exact h)
theorem take_len {x : Str} {f : Nat → V} {j c : Nat} (hz : x.length ≤ 100000) (h : x.cps[j]? = some c) : ((x.cps.toList.take j).map f).length < sizeLine := by
  have := (Array.getElem?_eq_some_iff.mp h).1
  rw [List.length_map, List.length_take, sizeLine_eq]
  have e : x.length = x.cps.size := rfl
  omega
theorem take_all {x : Str} {f : Nat → V} : (x.cps.toList.take x.cps.size).map f = x.cps.toList.map f := by rw [show x.cps.size = x.cps.toList.length from by simp, List.take_length]
theorem ok_signs (T : Txt K mg) : Gf P w K mg base 1 "are_signs" [] sp_signs := by
  refine gf_mk T.f_are_signs T.m_are_signs (fun _ _ _ _ _ _ us hl => match us, hl with | [_, _], _ => rfl) fun fd F => fn_mk F sc_are_signs (fun vs H Q E h => ?_) fun cd A outer s H vs Q E hr tk po h => ?_
  · obtain ⟨x, z, rfl, _⟩ := h; rfl
  · obtain ⟨x, z, rfl, hz, q⟩ := h
    have nd := sc_are_signs.nd
    have n1 := T.n_all
    top_name
    refine zlc rfl nd [("sign", 2)] (blkOk_by (N := N_are_signs) (sc := defScope s_are_signs) (by decide +kernel)) piS (tmS (x := x) (fun j => (x.cps.toList.take j).map fun c => V.bl (decide (c ∈ z.cps.toList))) rfl ?_)
    top_name
    refine ⟨rfl, fun j c H1 hc e1 => ?_, fun L H1 hL e1 hx => ?_⟩
    · top_name
      exact ⟨take_sign hc, take_len hz hc, Evl.Ex.refl _⟩
    · rw [take_all] at hx
      top_name
      refine kall (bs := x.cps.toList.map fun c => decide (c ∈ z.cps.toList)) rfl (SqL.of (by rw [hx, List.map_map]; rfl)) ?_
      rw [List.all_map]
      exact q _ e1
/-- a text, or a thing of another kind -/
inductive TxtOr (K : PySem.W.Frag) (H : Hp) : V → Option Str → Prop
  | str (x : Str) (h : x.length ≤ 100000) : TxtOr K H (.str x) (some x)
  | odd {v : V} {t : Value} (ty : TyX K H v t) (k : PySem.W.kitOne K t (.type "str") = some false) : TxtOr K H v none
theorem TxtOr.ex {H H' : Hp} {v : V} {o : Option Str} (h : TxtOr K H v o) (e : Ex H H') : TxtOr K H' v o := by
  cases h with
  | str x h => exact .str x h
  | odd ty k => exact .odd (TyX.ex e ty) k
def nameO : Option Str → Bool
  | some x => nameB x
  | none => false
def numO : Option Str → V
  | some x => numV x
  | none => .non
def sp_name (K : PySem.W.Frag) : Sp := fun vs H Q _ => ∃ u o, vs = [u] ∧ TxtOr K H u o ∧ ∀ H', Ex H H' → Q (.bl (nameO o)) H'
theorem ok_name (T : Txt K mg) : Gf P w K mg base 2 "is_name" [] (sp_name K) := by
  refine gf_mk T.f_is_name T.m_is_name (fun _ _ _ _ _ _ us hl => match us, hl with | [_], _ => rfl) fun fd F => fn_mk F sc_is_name (fun vs H Q E h => ?_) fun cd A outer s H vs Q E hr tk po h => ?_
  · obtain ⟨u, o, rfl, _⟩ := h; rfl
  · obtain ⟨u, o, rfl, hu, q⟩ := h
    have nd := sc_is_name.nd
    have n1 := T.n_isinstance
    have n2 := T.n_str
    have n3 := T.n_len
    have g1 := T.g_MOST_LETTERS
    have g2 := T.g_LETTERS
    cases hu with
    | str x hz =>
      have hzs : x.length ≤ sizeLine := by rw [sizeLine_eq]; omega
      have q : ∀ H', Ex H H' → Q (.bl (nameB x)) H' := q
      unfold nameB at q
      top_name
      · rename_i h1 h2
        refine zcall (ok_signs T) hr (by decide) takesF rfl ?_
        top_name
        refine ⟨x, letters, rfl, hz, fun H1 e1 => ?_⟩
        have := q H1 e1
        rw [decide_eq_true ⟨by omega, by omega⟩] at this
        exact this
      · rename_i h1 h2
        have := q H (Evl.Ex.refl _)
        rw [decide_eq_false (by omega)] at this
        exact this
      · rename_i h1
        have := q H (Evl.Ex.refl _)
        rw [decide_eq_false (by omega)] at this
        exact this
    | odd ty k =>
      top_name
      exact q _ (Evl.Ex.refl _)
def sp_ntext : Sp := fun vs H Q _ => ∃ n : Int, vs = [.int n] ∧ n.natAbs.log2 < 1920 ∧ Q (.str (toString n)) H
theorem ok_ntext (T : Txt K mg) : Gf P w K mg base 1 "number_text" [] sp_ntext := by
  refine gf_mk T.f_number_text T.m_number_text (fun _ _ _ _ _ _ us hl => match us, hl with | [_], _ => rfl) fun fd F => fn_mk F sc_number_text (fun vs H Q E h => ?_) fun cd A outer s H vs Q E hr tk po h => ?_
  · obtain ⟨n, rfl, _⟩ := h; rfl
  · obtain ⟨n, rfl, hn, q⟩ := h
    have n1 := T.n_str
    top_name
    refine zbty n1 bt_str (by rfl) ?_
    top_name
    exact kstrI hn q
end K01

set_option maxRecDepth 100000
set_option maxHeartbeats 4000000
set_option pp.maxSteps 1500
namespace K01
open PySem PySem.Spec PyProof.Rows L2 Z
open Evl (Ex)
variable {P : Program} {w : World} {K : PySem.W.Frag} {mg : Str → Option Value} {base : Heap}
/-! ### steps of the walk: one_sign: a heap grew into another; one_item: what stands at an address; one_place: a list or tuple to be read; leaf_len: arithmetic; tb_rel: one step; top_name: steps as far as they go -/
local macro_rules | `(tactic| got_up) => `(tactic| (refine Evl.Ex.trans (by assumption) ?_; first | assumption | exact Evl.Ex.refl _ | got_up))
local macro_rules | `(tactic| units_room) => `(tactic| (refine Evl.Ex.trans ?_ (by assumption); first | assumption | exact Evl.Ex.refl _ | units_room))
local macro_rules | `(tactic| one_sign) => `(tactic| first | assumption | exact Evl.Ex.refl _ | got_up | units_room)
local macro_rules | `(tactic| one_item) => `(tactic| first | assumption | exact upd_same | exact exa (by assumption) (by one_sign))
local macro_rules | `(tactic| one_place) => `(tactic| first | assumption | exact SqL.of (by assumption) | exact SqT.of (by assumption) | exact exl (by assumption) (by one_sign) | exact ext (by assumption) (by one_sign) | exact SqL.of (by one_item) | exact SqT.of (by one_item))
local macro_rules | `(tactic| leaf_len) => `(tactic| first | assumption | decide | omega)
local macro_rules | `(tactic| tb_rel) => `(tactic| first
  | ((with_reducible refine (?_ : wE _ _ _ _ _)); first
    | ((with_reducible refine (?_ : wE _ (.Name _ _) _ _ _)); first | refine zn (by rfl) (by first | exact Or.inl rfl | exact Or.inr (Or.inl rfl) | exact Or.inr (Or.inr rfl)) (by rfl) ?_ | refine zglob (by assumption) (by rfl) ?_ | refine zcls (by assumption) (by rfl) ?_ | refine zty (by assumption) (by first | exact bt_int | exact bt_bool | exact bt_str | exact bt_list | exact bt_tuple | exact bt_dict | exact bt_ValueError) (by rfl) ?_)
    | ((with_reducible refine (?_ : wE _ (.Constant _ _ _) _ _ _)); first | refine zint ?_ | refine zstr ?_ | refine zbl ?_ | refine znon ?_)
    | ((with_reducible refine (?_ : wE _ (.BinOp _ _ _ _) _ _ _)); refine zbin ?_)
    | ((with_reducible refine (?_ : wE _ (.Compare _ _ _ _) _ _ _)); first | refine zcmp (by rfl) ?_ | refine zchain ?_)
    | ((with_reducible refine (?_ : wE _ (.Dict [] [] _) _ _ _)); refine zdnew (fun _ _ _ _ _ => ?_))
    | ((with_reducible refine (?_ : wE _ (.Subscript _ (.Slice _ _ _ _) _) _ _ _)); refine zsl ?_)
    | ((with_reducible refine (?_ : wE _ (.Subscript _ _ _) _ _ _)); refine zix ?_)
    | ((with_reducible refine (?_ : wE _ (.Call (.Name "list" _) [.Call (.Name "range" _) [_] [] _] [] _) _ _ _)); refine zlrg1 rfl (by rfl) (by assumption) (by rfl) (by assumption) ?_)
    | ((with_reducible refine (?_ : wE _ (.Call (.Name _ _) _ _ _) _ _ _)); first
      | ((with_reducible refine (?_ : wE _ (.Call (.Name "len" _) _ _ _) _ _ _)); refine zbfn (by assumption) bt_len (by rfl) ?_)
      | ((with_reducible refine (?_ : wE _ (.Call (.Name "isinstance" _) _ _ _) _ _ _)); refine zbfn (by assumption) bt_isi (by rfl) ?_)
      | ((with_reducible refine (?_ : wE _ (.Call (.Name "min" _) _ _ _) _ _ _)); refine zbfn (by assumption) bt_min (by rfl) ?_)
      | ((with_reducible refine (?_ : wE _ (.Call (.Name "max" _) _ _ _) _ _ _)); refine zbfn (by assumption) bt_max (by rfl) ?_)
      | ((with_reducible refine (?_ : wE _ (.Call (.Name "list" _) _ _ _) _ _ _)); refine zbty (by assumption) bt_list (by rfl) ?_)
      | ((with_reducible refine (?_ : wE _ (.Call (.Name "tuple" _) _ _ _) _ _ _)); refine zbty (by assumption) bt_tuple (by rfl) ?_)
      | ((with_reducible refine (?_ : wE _ (.Call (.Name "int" _) _ _ _) _ _ _)); refine zbty (by assumption) bt_int (by rfl) ?_)
      | ((with_reducible refine (?_ : wE _ (.Call (.Name "abs" _) _ _ _) _ _ _)); refine zbfn (by assumption) bt_abs (by rfl) ?_)
      | ((with_reducible refine (?_ : wE _ (.Call (.Name "all" _) _ _ _) _ _ _)); refine zbfn (by assumption) bt_all (by rfl) ?_)
      | ((with_reducible refine (?_ : wE _ (.Call (.Name "sum" _) _ _ _) _ _ _)); refine zbfn (by assumption) bt_sum (by rfl) ?_)
      | ((with_reducible refine (?_ : wE _ (.Call (.Name "divmod" _) _ _ _) _ _ _)); refine zbfn (by assumption) bt_divmod (by rfl) ?_)
      | ((with_reducible refine (?_ : wE _ (.Call (.Name "ord" _) _ _ _) _ _ _)); refine zbfn (by assumption) bt_ord (by rfl) ?_))
    | ((with_reducible refine (?_ : wE _ (.IfExp _ _ _ _) _ _ _)); refine zif ?_)
    | ((with_reducible refine (?_ : wE _ (.Tuple _ _ _) _ _ _)); refine ztup ?_)
    | ((with_reducible refine (?_ : wE _ (.List _ _) _ _ _)); refine zlst ?_)
    | ((with_reducible refine (?_ : wE _ (.UnaryOp _ _ _) _ _ _)); first | refine znotV ?_ | refine zneg ?_)
    | ((with_reducible refine (?_ : wE _ (.BoolOp _ _ _) _ _ _)); first | refine zandV ?_ | refine zorV ?_ | refine zoneV ?_))
  | ((with_reducible refine (?_ : bE _ _ _ _ _ _)); refine ⟨fun _ _ _ _ _ => ?_⟩) | ((with_reducible refine (?_ : bG _ _ _ _ _ _ _)); refine ⟨fun _ _ _ _ _ => ?_⟩) | ((with_reducible refine (?_ : bTs _ _ _ _ _ _)); refine ⟨fun _ _ _ _ _ => ?_⟩)
  | ((with_reducible refine (?_ : hE _ _ _ _ _ _)); refine ⟨fun _ _ _ _ _ => ?_⟩) | ((with_reducible refine (?_ : hG _ _ _ _ _ _ _)); refine ⟨fun _ _ _ _ _ => ?_⟩) | ((with_reducible refine (?_ : hTs _ _ _ _ _ _)); refine ⟨fun _ _ _ _ _ => ?_⟩)
  | ((with_reducible refine (?_ : wP _ _ _ _ _)); first | refine pnon ?_ | refine psom ?_) | ((with_reducible refine (?_ : wSl _ _ _ _ _ _)); first | refine slL (by one_place) (fun _ _ _ _ _ => ?_) | refine slS (by assumption) ?_)
  | ((with_reducible refine (?_ : wTs _ _ _ _ _)); first | refine tsnil ?_ | refine tsone ?_)
  | ((with_reducible refine (?_ : wA _ _ _ _ _)); first | refine acons ?_ | refine anil ?_)
  | ((with_reducible refine (?_ : wO _ _ _ _ _ _)); first
    | ((with_reducible refine (?_ : wO _ (binaryOp .Add) _ _ _ _)); first | refine oadd ?_ | refine ocatE (by one_item) (by one_item) (Nat.le_of_ble_eq_true rfl) (fun _ _ _ _ _ => ?_))
    | ((with_reducible refine (?_ : wO _ (binaryOp .Sub) _ _ _ _)); first | refine osub ?_)
    | ((with_reducible refine (?_ : wO _ (binaryOp .Mult) _ _ _ _)); first | refine omul (by first | exact IntMulOk.of_right (by decide) | exact IntMulOk.of_left (by decide) | exact IntMulOk.of_right (intBits_le_64 (by omega) (by omega)) | exact IntMulOk.of_left (intBits_le_64 (by omega) (by omega))) ?_)
    | ((with_reducible refine (?_ : wO _ (binaryOp .Mod) _ _ _ _)); first | refine omod (by first | decide | omega) ?_)
    | ((with_reducible refine (?_ : wO _ (binaryOp .FloorDiv) _ _ _ _)); first | refine ofdiv ⟨by first | decide | omega, by decide⟩ ?_)
    | ((with_reducible refine (?_ : wO _ (binaryOp .BitAnd) _ _ _ _)); first | refine oand ?_)
    | ((with_reducible refine (?_ : wO _ (binaryOp .BitOr) _ _ _ _)); first | refine oor ?_)
    | ((with_reducible refine (?_ : wO _ (compareOp .Lt) _ _ _ _)); first | refine olt ?_)
    | ((with_reducible refine (?_ : wO _ (compareOp .LtE) _ _ _ _)); first | refine ole ?_)
    | ((with_reducible refine (?_ : wO _ (compareOp .Gt) _ _ _ _)); first | refine ogt ?_)
    | ((with_reducible refine (?_ : wO _ (compareOp .GtE) _ _ _ _)); first | refine oge ?_)
    | ((with_reducible refine (?_ : wO _ (compareOp .Eq) _ _ _ _)); first | refine oeqi ?_ | refine oeq (by rfl) ?_)
    | ((with_reducible refine (?_ : wO _ (compareOp .NotEq) _ _ _ _)); first | refine onei ?_ | refine one (by rfl) ?_)
    | ((with_reducible refine (?_ : wO _ (compareOp .In) _ _ _ _)); first | refine oin ?_)
    | ((with_reducible refine (?_ : wO _ (compareOp .NotIn) _ _ _ _)); first | refine onin ?_)
    | ((with_reducible refine (?_ : wO _ (compareOp .Is) _ _ _ _)); first | refine ois ?_)
    | ((with_reducible refine (?_ : wO _ (compareOp .IsNot) _ _ _ _)); first | refine onot ?_)
    | ((with_reducible refine (?_ : wO _ (binaryOp .RShift) _ _ _ _)); refine oshr (by first | decide | omega) ?_)
    | ((with_reducible refine (?_ : wO _ (binaryOp .BitXor) _ _ _ _)); refine oxor ?_)
    | ((with_reducible refine (?_ : wO _ (inplaceOp .BitXor) _ _ _ _)); refine ixor ?_)
    | ((with_reducible refine (?_ : wO _ (inplaceOp .RShift) _ _ _ _)); refine ishr (by first | decide | omega) ?_)
    | ((with_reducible refine (?_ : wO _ (inplaceOp .BitOr) _ _ _ _)); first | refine ior ?_)
    | ((with_reducible refine (?_ : wO _ (inplaceOp .Add) _ _ _ _)); first | refine iadd ?_))
  | ((with_reducible refine (?_ : wT _ _ _ _ _)); first
    | ((with_reducible refine (?_ : wT _ (.Compare _ _ _ _) _ _ _)); first | refine zcmpT (by rfl) ?_ | refine zchainT ?_)
    | ((with_reducible refine (?_ : wT _ (.UnaryOp _ _ _) _ _ _)); refine znotT ?_)
    | ((with_reducible refine (?_ : wT _ (.BoolOp _ _ _) _ _ _)); refine zW ?_)
    | refine zval ?_)
  | ((with_reducible refine (?_ : wW _ _ _ _ _)); first | refine zand ?_ | refine zor ?_ | refine zand1 ?_ | refine zor1 ?_)
  | ((with_reducible refine (?_ : wK _ _ _ _ _)); first
    | ((with_reducible refine (?_ : wK _ (.builtin "len") _ _ _)); first | refine klenL (by one_place) ?_ | refine klenT (by one_place) ?_ | refine klenS (by assumption) ?_)
    | ((with_reducible refine (?_ : wK _ (.builtin "isinstance") _ _ _)); first | refine kisE (by assumption) (by assumption) (by first | assumption | exact Xd.exx (by assumption) (by one_sign)) (by first | exact .own _ | exact .ty _) (by assumption) ?_ | refine kisi (.ty _) (by assumption) (by assumption) ?_ | refine kisi (.ty _) (.base (by first | exact .int _ | exact .bl _ | exact .str _ | exact .non | exact .tup (by one_item) | exact .lst (by one_item))) (kit_ty (r := true) (by rfl)) ?_ | refine kisi (.ty _) (.base (by first | exact .int _ | exact .bl _ | exact .str _ | exact .non | exact .tup (by one_item) | exact .lst (by one_item))) (kit_ty (r := false) (by rfl)) ?_)
    | ((with_reducible refine (?_ : wK _ (.builtin "divmod") _ _ _)); refine kdivmod ⟨by first | decide | omega, by decide⟩ (fun _ _ _ _ _ => ?_))
    | ((with_reducible refine (?_ : wK _ (.builtin "min") _ _ _)); refine kmin (by rfl) ?_)
    | ((with_reducible refine (?_ : wK _ (.builtin "max") _ _ _)); refine kmax (by rfl) ?_)
    | ((with_reducible refine (?_ : wK _ (.type "list") _ _ _)); first | refine klistL (by one_place) (fun _ _ _ _ _ => ?_) | refine klistT (by one_place) (fun _ _ _ _ _ => ?_))
    | ((with_reducible refine (?_ : wK _ (.type "tuple") _ _ _)); first | refine ktupL (by one_place) (fun _ _ _ _ _ => ?_)))
  | ((with_reducible refine (?_ : wS _ _ _ _ _)); first
    | ((with_reducible refine (?_ : wS _ (.Assign [.Name _ _] _ _) _ _ _)); refine sset' (by assumption) (by rfl) (by first | exact Or.inl rfl | exact Or.inr rfl) (by rfl) (by first | exact .inl rfl | exact .inr rfl) ?_)
    | ((with_reducible refine (?_ : wS _ (.AugAssign (.Name _ _) _ _ _) _ _ _)); refine saug' (by assumption) (by rfl) (by first | exact Or.inl rfl | exact Or.inr rfl) (by first | exact .inl rfl | exact .inr rfl) (by rfl) ?_)
    | ((with_reducible refine (?_ : wS _ (.Expr _ _) _ _ _)); refine sexp ?_)
    | ((with_reducible refine (?_ : wS _ (.Assign [.Tuple _ _ _] _ _) _ _ _)); refine sasg ?_) | ((with_reducible refine (?_ : wS _ (.Assign [.Subscript _ _ _] _ _) _ _ _)); refine sasg ?_)
    | refine sret ?_ | refine sif ?_ | refine sretN ?_ | refine spass ?_ | refine sbrk ?_ | refine scont ?_)
  | ((with_reducible refine (?_ : wG _ (.Name _ _) _ _ _ _)); refine gname' (by assumption) (by rfl) (by first | exact Or.inl rfl | exact Or.inr rfl) (by first | exact .inl rfl | exact .inr rfl) ?_)
  | ((with_reducible refine (?_ : wG _ (.Tuple _ _ _) _ _ _ _)); refine gtup rfl (by one_place) rfl ?_) | ((with_reducible refine (?_ : wG _ (.Subscript _ _ _) _ _ _ _)); refine gsub ?_)
  | ((with_reducible refine (?_ : wGs _ _ _ _ _ _)); first | refine gscons ?_ | refine gsnil ?_)
  | ((with_reducible refine (?_ : wB _ _ _ _ _)); first | refine bcons ?_ | refine bnil ?_)
  | refine ifT ?_ | refine ifF ?_ | refine ifd (fun _ => ?_) (fun _ => ?_) | refine ifnd (fun _ => ?_) (fun _ => ?_) | refine ⟨_, rfl, ?_⟩ | refine ⟨rfl, Evl.Ex.refl _, ?_⟩ | refine ⟨Nat.le_of_ble_eq_true rfl, fun _ _ _ _ _ => ?_⟩ | fail)
local macro_rules | `(tactic| top_name) => `(tactic| repeat' tb_rel)
local macro_rules | `(tactic| nest_fact) => `(tactic| first | exact ⟨(decide_eq_true (by omega)).symm, rfl⟩ | exact ⟨(decide_eq_false (by omega)).symm, rfl⟩ | exact ⟨decide_eq_decide.mpr (by omega), rfl⟩ | fail)
/-! ### whole numbers -/
def sp_is_whole (K : PySem.W.Frag) : Sp := fun vs H Q _ => ∃ (v t : Value) (u : V) (k1 k2 : Bool), vs = [u] ∧ TyX K H u t ∧ PySem.W.kitOne K t (.type "int") = some k1 ∧ PySem.W.kitOne K t (.type "bool") = some k2 ∧ Q (.bl (k1 && !k2)) H
theorem ok_is_whole (T : Txt K mg) : Gf P w K mg base 1 "is_whole" [] (sp_is_whole K) := by
  refine gf_mk T.f_is_whole T.m_is_whole (fun _ _ _ _ _ _ us hl => match us, hl with | [_], _ => rfl) fun fd F => fn_mk F sc_is_whole (fun vs H Q E h => ?_) fun cd A outer s H vs Q E hr tk po h => ?_
  · obtain ⟨_, _, u, k1, k2, rfl, _⟩ := h; rfl
  · obtain ⟨_, t, u, k1, k2, rfl, ty, h1, h2, q⟩ := h
    have n1 := T.n_isinstance
    have n2 := T.n_int
    have n3 := T.n_bool
    top_name
    refine ifb (fun e => ?_) (fun e => ?_)
    · subst e
      top_name
      exact q
    · subst e
      exact q
def sp_is_among (K : PySem.W.Frag) : Sp := fun vs H Q _ => ∃ (u : V) (lo hi : Int) (b : Bool), vs = [u, .int lo, .int hi] ∧ Asked K H lo hi u b ∧ Q (.bl b) H
theorem ok_is_among (T : Txt K mg) : Gf P w K mg base 2 "is_among" [] (sp_is_among K) := by
  refine gf_mk T.f_is_among T.m_is_among (fun _ _ _ _ _ _ us hl => match us, hl with | [_, _, _], _ => rfl) fun fd F => fn_mk F sc_is_among (fun vs H Q E h => ?_) fun cd A outer s H vs Q E hr tk po h => ?_
  · obtain ⟨u, lo, hi, b, rfl, _⟩ := h; rfl
  · obtain ⟨u, lo, hi, b, rfl, ha, q⟩ := h
    top_name
    refine zcall (ok_is_whole T) hr (by decide) takesF rfl ?_
    top_name
    cases ha with
    | int n =>
      refine ⟨.none, _, _, true, false, rfl, .base (.int n), kit_ty rfl, kit_ty rfl, ?_⟩
      top_name
      · rename_i h1
        rw [show decide (n ≤ hi) = decide (lo ≤ n ∧ n ≤ hi) from decide_eq_decide.mpr ⟨fun z => ⟨h1, z⟩, fun z => z.2⟩]
        exact q
      · rename_i h1
        rw [show decide (lo ≤ n ∧ n ≤ hi) = false from decide_eq_false fun z => h1 z.1] at q
        exact q
    | odd hn =>
      obtain ⟨t, k1, k2, ty, h1, h2, e⟩ := hn
      refine ⟨.none, _, _, _, _, rfl, ty, h1, h2, ?_⟩
      rw [e]
      top_name
      exact q

/-! ### a text as a number -/
theorem one_sign_is {c : Nat} : ((⟨#[c]⟩ : Str) = "0") ↔ c = 48 := by
  constructor
  · intro h
    have := congrArg (fun x : Str => x.cps.toList) h
    exact (List.cons.inj this).1
  · intro h; subst h; rfl
theorem is_minus (x : Str) : (cutS x none (some 1) = "-") ↔ x.cps.toList.head? = some 45 := by
  constructor
  · intro h
    have := congrArg (fun x : Str => x.cps.toList) h
    have : (cutS x none (some 1)).cps.toList = [45] := this
    rw [cutTo1] at this
    cases hx : x.cps.toList with
    | nil => rw [hx] at this; cases this
    | cons c r => rw [hx] at this; rw [(List.cons.inj this).1]; rfl
  · intro h
    refine str_ext ?_
    rw [cutTo1]
    cases hx : x.cps.toList with
    | nil => rw [hx] at h; cases h
    | cons c r => rw [hx] at h; rw [Option.some.inj h]; rfl
theorem dec_str {x y : Str} : decide (V.str x = V.str y) = decide (x = y) := decide_eq_decide.mpr ⟨fun h => V.str.inj h, fun h => by rw [h]⟩
theorem fig_cons {x : Str} (h : 1 ≤ (figS x).length) : ∃ c r, (figS x).cps.toList = c :: r := by
  cases hx : (figS x).cps.toList with
  | nil => rw [len_is, hx] at h; simp at h
  | cons c r => exact ⟨c, r, rfl⟩
theorem fig_bound (x : Str) : x.length ≤ (figS x).length + 1 := by
  unfold figS
  split
  · rw [len_is, len_is, cut1, List.length_drop]; omega
  · omega
def sp_number_of (K : PySem.W.Frag) : Sp := fun vs H Q _ => ∃ u o, vs = [u] ∧ TxtOr K H u o ∧ ∀ H', Ex H H' → Q (numO o) H'
theorem ok_number_of (T : Txt K mg) : Gf P w K mg base 2 "number_of" [] (sp_number_of K) := by
  refine gf_mk T.f_number_of T.m_number_of (fun _ _ _ _ _ _ us hl => match us, hl with | [_], _ => rfl) fun fd F => fn_mk F sc_number_of (fun vs H Q E h => ?_) fun cd A outer s H vs Q E hr tk po h => ?_
  · obtain ⟨u, o, rfl, _⟩ := h; rfl
  · obtain ⟨u, o, rfl, hu, q⟩ := h
    have nd := sc_number_of.nd
    have n1 := T.n_isinstance
    have n2 := T.n_str
    have n3 := T.n_len
    have n4 := T.n_int
    have g1 := T.g_MOST_FIGURES
    have g2 := T.g_FIGURES
    cases hu with
    | odd ty k =>
      top_name
      exact q _ (Evl.Ex.refl _)
    | str x hz =>
      have hzs : x.length ≤ sizeLine := by rw [sizeLine_eq]; omega
      have qn : ¬ numOk x → ∀ H', Ex H H' → Q .non H' := fun h H' e => by
        have this : Q (numV x) H' := q H' e
        unfold numV at this
        rw [if_neg h] at this
        exact this
      have qi : numOk x → ∀ H', Ex H H' → Q (.int (numVal x)) H' := fun h H' e => by
        have this : Q (numV x) H' := q H' e
        unfold numV at this
        rw [if_pos h] at this
        exact this
      have hfl := figs_len x
      have hfz : (figS x).length ≤ sizeLine := by omega
      refine bcut (fun σ' H' => H = H' ∧ σ' = [some (.str x), none]) (by top_name; exact ⟨rfl, rfl⟩) ?_
      rintro _ _ ⟨rfl, rfl⟩
      refine bcut (fun σ' H' => H = H' ∧ σ' = [some (.str x), some (.str (figS x))]) ?_ ?_
      · top_name
        refine zstarts ?_
        top_name
        refine ⟨⟨_, rfl⟩, ?_⟩
        top_name
        refine ⟨x, "-", rfl, rfl, ?_⟩
        rw [sw_minus]
        top_name
        · rename_i h
          refine ⟨rfl, ?_⟩
          unfold figS
          rw [if_pos h]
          rfl
        · rename_i h
          refine ⟨rfl, ?_⟩
          unfold figS
          rw [if_neg h]
          rfl
      rintro _ _ ⟨rfl, rfl⟩
      top_name
      · exact qn (fun h => by have := h.1; omega) _ (Evl.Ex.refl _)
      · rename_i h1 h2
        refine zcall (ok_signs T) hr (by decide) takesF rfl ?_
        top_name
        refine ⟨figS x, figures, rfl, by omega, fun H1 e1 => ?_⟩
        top_name
        refine ifb (fun hk => ?_) (fun hk => ?_)
        · have ha : areB (figS x) figures = false := by simpa using hk
          top_name
          exact qn (fun h => by rw [h.2.1] at ha; cases ha) _ e1
        · have ha : areB (figS x) figures = true := by simpa using hk
          obtain ⟨c, r, hcr⟩ := fig_cons (x := x) (by omega)
          have hat : atI (figS x).cps.toList 0 = some c := by rw [hcr]; exact atI_nat (j := 0) rfl
          have fin : ¬ (c = 48 ∧ x ≠ "0") → numOk x := fun h => ⟨⟨by omega, by omega⟩, ha, fun z => by
            rw [hcr] at z
            exact h ⟨Option.some.inj z.1, z.2⟩⟩
          have bad : c = 48 → x ≠ "0" → ¬ numOk x := fun h h' z => z.2.2 ⟨by rw [hcr, h]; rfl, h'⟩
          top_name
          refine ixS hfz hat ?_
          top_name
          · rename_i h3 h4
            refine qn (bad (one_sign_is.mp (V.str.inj h3)) fun z => h4 (by rw [z])) _ e1
          · rename_i h3 h4
            have hok := fin fun z => z.2 (V.str.inj h4)
            refine kintS (int_of hok) (by have := fig_bound x; omega) ?_
            exact qi hok _ e1
          · rename_i h3
            have hok := fin fun z => h3 (by rw [one_sign_is.mpr z.1])
            refine kintS (int_of hok) (by have := fig_bound x; omega) ?_
            exact qi hok _ e1
      · exact qn (fun h => by have := h.1; omega) _ (Evl.Ex.refl _)
/-! ### words of a line -/
def sp_words (K : PySem.W.Frag) : Sp := fun vs H Q _ => ∃ u o, vs = [u] ∧ TxtOr K H u o ∧ match o with
  | none => ∀ H', Ex H H' → Q .non H'
  | some x => if ("" : Str) ∈ Txt.split x " " then ∀ H', Ex H H' → Q .non H' else ∀ t H', H t = none → Ex H H' → H' t = some (.lst ((Txt.split x " ").map V.str)) → Q (.ref t) H'
theorem flat_strs : ∀ ys : List Str, (ys.map V.str).all flatV = true
  | [] => rfl
  | y :: ys => flat_strs ys
theorem inV_strs (z : Str) : ∀ ys : List Str, inV (.str z) (ys.map V.str) = decide (z ∈ ys)
  | [] => rfl
  | y :: ys => by
    have := inV_strs z ys
    unfold inV at this ⊢
    rw [List.map_cons, List.any_cons, this]
    have e : eqV (.str y) (.str z) = decide (y = z) := by
      show (y == z) = decide (y = z)
      by_cases h : y = z
      · subst h; simp
      · rw [decide_eq_false h]; exact beq_eq_false_iff_ne.mpr h
    rw [e]
    by_cases h : y = z
    · subst h; simp
    · rw [decide_eq_false h]
      by_cases h2 : z ∈ ys
      · simp [h2]
      · have h3 : ¬ z = y := fun q => h q.symm
        simp [h2, h3]
theorem ok_words (T : Txt K mg) : Gf P w K mg base 1 "words_of" [] (sp_words K) := by
  refine gf_mk T.f_words_of T.m_words_of (fun _ _ _ _ _ _ us hl => match us, hl with | [_], _ => rfl) fun fd F => fn_mk F sc_words_of (fun vs H Q E h => ?_) fun cd A outer s H vs Q E hr tk po h => ?_
  · obtain ⟨u, o, rfl, _⟩ := h; rfl
  · obtain ⟨u, o, rfl, hu, q⟩ := h
    have nd := sc_words_of.nd
    have n1 := T.n_isinstance
    have n2 := T.n_str
    cases hu with
    | odd ty k =>
      top_name
      exact q _ (Evl.Ex.refl _)
    | str x hz =>
      have q : if ("" : Str) ∈ Txt.split x " " then ∀ H', Ex H H' → Q .non H' else ∀ t H', H t = none → Ex H H' → H' t = some (.lst ((Txt.split x " ").map V.str)) → Q (.ref t) H' := q
      top_name
      refine zsplit ?_
      top_name
      refine ⟨⟨_, rfl⟩, ?_⟩
      top_name
      refine ⟨x, " ", rfl, rfl, rfl, by rw [sizeLine_eq]; omega, fun p H1 hp e1 hx => ?_⟩
      top_name
      refine oinF (.inl (SqL.of hx)) rfl (flat_strs _) ?_
      rw [inV_strs]
      top_name
      · rename_i h
        rw [if_pos h] at q
        exact q _ e1
      · rename_i h
        rw [if_neg h] at q
        exact q p H1 hp e1 hx
/-! ### the law's own looks -/
theorem filt_len {x : Str} {f : Nat → V} {g : Nat → Bool} {j c : Nat} (hz : x.length ≤ 100000) (h : x.cps[j]? = some c) : (((x.cps.toList.take j).filter g).map f).length < sizeLine := by
  have := (Array.getElem?_eq_some_iff.mp h).1
  have h1 := List.length_filter_le g (x.cps.toList.take j)
  have h2 := List.length_take_le j x.cps.toList
  rw [List.length_map, sizeLine_eq]
  have e : x.length = x.cps.size := rfl
  omega
theorem filt_yes {x : Str} {f : Nat → V} {g : Nat → Bool} {j c : Nat} (h : x.cps[j]? = some c) (hg : g c = true) : ((x.cps.toList.take (j + 1)).filter g).map f = ((x.cps.toList.take j).filter g).map f ++ [f c] := by
  rw [List.take_add_one, show x.cps.toList[j]? = some c from by rw [Array.getElem?_toList]; exact h, List.filter_append, List.map_append]
  simp [hg]
theorem filt_no {x : Str} {f : Nat → V} {g : Nat → Bool} {j c : Nat} (h : x.cps[j]? = some c) (hg : g c = false) : ((x.cps.toList.take (j + 1)).filter g).map f = ((x.cps.toList.take j).filter g).map f := by
  rw [List.take_add_one, show x.cps.toList[j]? = some c from by rw [Array.getElem?_toList]; exact h, List.filter_append, List.map_append]
  simp [hg]
theorem filt_nil {x z : Str} : (((x.cps.toList.filter fun c => !decide (c ∈ z.cps.toList)).map fun c => (⟨#[c]⟩ : Str)) = []) ↔ areB x z = true := by
  unfold areB
  rw [List.map_eq_nil_iff, List.filter_eq_nil_iff, List.all_eq_true]
  constructor
  · intro h c hc
    simpa using h c hc
  · intro h c hc
    simpa using h c hc
end K01

set_option maxRecDepth 100000
set_option maxHeartbeats 4000000
set_option pp.maxSteps 1500
namespace K01
open PySem PySem.Spec PyProof.Rows L2 Z
open Evl (Ex)
variable {P : Program} {w : World} {K : PySem.W.Frag} {mg : Str → Option Value} {base : Heap}
/-! ### steps of the walk: one_sign: a heap grew into another; one_item: what stands at an address; one_place: a list or tuple to be read; leaf_len: arithmetic; tb_rel: one step; top_name: steps as far as they go -/
local macro_rules | `(tactic| got_up) => `(tactic| (refine Evl.Ex.trans (by assumption) ?_; first | assumption | exact Evl.Ex.refl _ | got_up))
local macro_rules | `(tactic| units_room) => `(tactic| (refine Evl.Ex.trans ?_ (by assumption); first | assumption | exact Evl.Ex.refl _ | units_room))
local macro_rules | `(tactic| one_sign) => `(tactic| first | assumption | exact Evl.Ex.refl _ | got_up | units_room)
local macro_rules | `(tactic| one_item) => `(tactic| first | assumption | exact upd_same | exact exa (by assumption) (by one_sign))
local macro_rules | `(tactic| one_place) => `(tactic| first | assumption | exact SqL.of (by assumption) | exact SqT.of (by assumption) | exact exl (by assumption) (by one_sign) | exact ext (by assumption) (by one_sign) | exact SqL.of (by one_item) | exact SqT.of (by one_item))
local macro_rules | `(tactic| leaf_len) => `(tactic| first | assumption | decide | omega)
local macro_rules | `(tactic| tb_rel) => `(tactic| first
  | ((with_reducible refine (?_ : wE _ _ _ _ _)); first
    | ((with_reducible refine (?_ : wE _ (.Name _ _) _ _ _)); first | refine zn (by rfl) (by first | exact Or.inl rfl | exact Or.inr (Or.inl rfl) | exact Or.inr (Or.inr rfl)) (by rfl) ?_ | refine zglob (by assumption) (by rfl) ?_ | refine zcls (by assumption) (by rfl) ?_ | refine zty (by assumption) (by first | exact bt_int | exact bt_bool | exact bt_str | exact bt_list | exact bt_tuple | exact bt_dict | exact bt_ValueError) (by rfl) ?_)
    | ((with_reducible refine (?_ : wE _ (.Constant _ _ _) _ _ _)); first | refine zint ?_ | refine zstr ?_ | refine zbl ?_ | refine znon ?_)
    | ((with_reducible refine (?_ : wE _ (.BinOp _ _ _ _) _ _ _)); refine zbin ?_)
    | ((with_reducible refine (?_ : wE _ (.Compare _ _ _ _) _ _ _)); first | refine zcmp (by rfl) ?_ | refine zchain ?_)
    | ((with_reducible refine (?_ : wE _ (.Dict [] [] _) _ _ _)); refine zdnew (fun _ _ _ _ _ => ?_))
    | ((with_reducible refine (?_ : wE _ (.Subscript _ (.Slice _ _ _ _) _) _ _ _)); refine zsl ?_)
    | ((with_reducible refine (?_ : wE _ (.Subscript _ _ _) _ _ _)); refine zix ?_)
    | ((with_reducible refine (?_ : wE _ (.Call (.Name "list" _) [.Call (.Name "range" _) [_] [] _] [] _) _ _ _)); refine zlrg1 rfl (by rfl) (by assumption) (by rfl) (by assumption) ?_)
    | ((with_reducible refine (?_ : wE _ (.Call (.Name _ _) _ _ _) _ _ _)); first
      | ((with_reducible refine (?_ : wE _ (.Call (.Name "len" _) _ _ _) _ _ _)); refine zbfn (by assumption) bt_len (by rfl) ?_)
      | ((with_reducible refine (?_ : wE _ (.Call (.Name "isinstance" _) _ _ _) _ _ _)); refine zbfn (by assumption) bt_isi (by rfl) ?_)
      | ((with_reducible refine (?_ : wE _ (.Call (.Name "min" _) _ _ _) _ _ _)); refine zbfn (by assumption) bt_min (by rfl) ?_)
      | ((with_reducible refine (?_ : wE _ (.Call (.Name "max" _) _ _ _) _ _ _)); refine zbfn (by assumption) bt_max (by rfl) ?_)
      | ((with_reducible refine (?_ : wE _ (.Call (.Name "list" _) _ _ _) _ _ _)); refine zbty (by assumption) bt_list (by rfl) ?_)
      | ((with_reducible refine (?_ : wE _ (.Call (.Name "tuple" _) _ _ _) _ _ _)); refine zbty (by assumption) bt_tuple (by rfl) ?_)
      | ((with_reducible refine (?_ : wE _ (.Call (.Name "int" _) _ _ _) _ _ _)); refine zbty (by assumption) bt_int (by rfl) ?_)
      | ((with_reducible refine (?_ : wE _ (.Call (.Name "abs" _) _ _ _) _ _ _)); refine zbfn (by assumption) bt_abs (by rfl) ?_)
      | ((with_reducible refine (?_ : wE _ (.Call (.Name "all" _) _ _ _) _ _ _)); refine zbfn (by assumption) bt_all (by rfl) ?_)
      | ((with_reducible refine (?_ : wE _ (.Call (.Name "sum" _) _ _ _) _ _ _)); refine zbfn (by assumption) bt_sum (by rfl) ?_)
      | ((with_reducible refine (?_ : wE _ (.Call (.Name "divmod" _) _ _ _) _ _ _)); refine zbfn (by assumption) bt_divmod (by rfl) ?_)
      | ((with_reducible refine (?_ : wE _ (.Call (.Name "ord" _) _ _ _) _ _ _)); refine zbfn (by assumption) bt_ord (by rfl) ?_))
    | ((with_reducible refine (?_ : wE _ (.IfExp _ _ _ _) _ _ _)); refine zif ?_)
    | ((with_reducible refine (?_ : wE _ (.Tuple _ _ _) _ _ _)); refine ztup ?_)
    | ((with_reducible refine (?_ : wE _ (.List _ _) _ _ _)); refine zlst ?_)
    | ((with_reducible refine (?_ : wE _ (.UnaryOp _ _ _) _ _ _)); first | refine znotV ?_ | refine zneg ?_)
    | ((with_reducible refine (?_ : wE _ (.BoolOp _ _ _) _ _ _)); first | refine zandV ?_ | refine zorV ?_ | refine zoneV ?_))
  | ((with_reducible refine (?_ : bE _ _ _ _ _ _)); refine ⟨fun _ _ _ _ _ => ?_⟩) | ((with_reducible refine (?_ : bG _ _ _ _ _ _ _)); refine ⟨fun _ _ _ _ _ => ?_⟩) | ((with_reducible refine (?_ : bTs _ _ _ _ _ _)); refine ⟨fun _ _ _ _ _ => ?_⟩)
  | ((with_reducible refine (?_ : hE _ _ _ _ _ _)); refine ⟨fun _ _ _ _ _ => ?_⟩) | ((with_reducible refine (?_ : hG _ _ _ _ _ _ _)); refine ⟨fun _ _ _ _ _ => ?_⟩) | ((with_reducible refine (?_ : hTs _ _ _ _ _ _)); refine ⟨fun _ _ _ _ _ => ?_⟩)
  | ((with_reducible refine (?_ : wP _ _ _ _ _)); first | refine pnon ?_ | refine psom ?_) | ((with_reducible refine (?_ : wSl _ _ _ _ _ _)); first | refine slL (by one_place) (fun _ _ _ _ _ => ?_) | refine slS (by assumption) ?_)
  | ((with_reducible refine (?_ : wTs _ _ _ _ _)); first | refine tsnil ?_ | refine tsone ?_)
  | ((with_reducible refine (?_ : wA _ _ _ _ _)); first | refine acons ?_ | refine anil ?_)
  | ((with_reducible refine (?_ : wO _ _ _ _ _ _)); first
    | ((with_reducible refine (?_ : wO _ (binaryOp .Add) _ _ _ _)); first | refine oadd ?_ | refine ocatE (by one_item) (by one_item) (Nat.le_of_ble_eq_true rfl) (fun _ _ _ _ _ => ?_))
    | ((with_reducible refine (?_ : wO _ (binaryOp .Sub) _ _ _ _)); first | refine osub ?_)
    | ((with_reducible refine (?_ : wO _ (binaryOp .Mult) _ _ _ _)); first | refine omul (by first | exact IntMulOk.of_right (by decide) | exact IntMulOk.of_left (by decide) | exact IntMulOk.of_right (intBits_le_64 (by omega) (by omega)) | exact IntMulOk.of_left (intBits_le_64 (by omega) (by omega))) ?_)
    | ((with_reducible refine (?_ : wO _ (binaryOp .Mod) _ _ _ _)); first | refine omod (by first | decide | omega) ?_)
    | ((with_reducible refine (?_ : wO _ (binaryOp .FloorDiv) _ _ _ _)); first | refine ofdiv ⟨by first | decide | omega, by decide⟩ ?_)
    | ((with_reducible refine (?_ : wO _ (binaryOp .BitAnd) _ _ _ _)); first | refine oand ?_)
    | ((with_reducible refine (?_ : wO _ (binaryOp .BitOr) _ _ _ _)); first | refine oor ?_)
    | ((with_reducible refine (?_ : wO _ (compareOp .Lt) _ _ _ _)); first | refine olt ?_)
    | ((with_reducible refine (?_ : wO _ (compareOp .LtE) _ _ _ _)); first | refine ole ?_)
    | ((with_reducible refine (?_ : wO _ (compareOp .Gt) _ _ _ _)); first | refine ogt ?_)
    | ((with_reducible refine (?_ : wO _ (compareOp .GtE) _ _ _ _)); first | refine oge ?_)
    | ((with_reducible refine (?_ : wO _ (compareOp .Eq) _ _ _ _)); first | refine oeqi ?_ | refine oeq (by rfl) ?_)
    | ((with_reducible refine (?_ : wO _ (compareOp .NotEq) _ _ _ _)); first | refine onei ?_ | refine one (by rfl) ?_)
    | ((with_reducible refine (?_ : wO _ (compareOp .In) _ _ _ _)); first | refine oin ?_)
    | ((with_reducible refine (?_ : wO _ (compareOp .NotIn) _ _ _ _)); first | refine onin ?_)
    | ((with_reducible refine (?_ : wO _ (compareOp .Is) _ _ _ _)); first | refine ois ?_)
    | ((with_reducible refine (?_ : wO _ (compareOp .IsNot) _ _ _ _)); first | refine onot ?_)
    | ((with_reducible refine (?_ : wO _ (binaryOp .RShift) _ _ _ _)); refine oshr (by first | decide | omega) ?_)
    | ((with_reducible refine (?_ : wO _ (binaryOp .BitXor) _ _ _ _)); refine oxor ?_)
    | ((with_reducible refine (?_ : wO _ (inplaceOp .BitXor) _ _ _ _)); refine ixor ?_)
    | ((with_reducible refine (?_ : wO _ (inplaceOp .RShift) _ _ _ _)); refine ishr (by first | decide | omega) ?_)
    | ((with_reducible refine (?_ : wO _ (inplaceOp .BitOr) _ _ _ _)); first | refine ior ?_)
    | ((with_reducible refine (?_ : wO _ (inplaceOp .Add) _ _ _ _)); first | refine iadd ?_))
  | ((with_reducible refine (?_ : wT _ _ _ _ _)); first
    | ((with_reducible refine (?_ : wT _ (.Compare _ _ _ _) _ _ _)); first | refine zcmpT (by rfl) ?_ | refine zchainT ?_)
    | ((with_reducible refine (?_ : wT _ (.UnaryOp _ _ _) _ _ _)); refine znotT ?_)
    | ((with_reducible refine (?_ : wT _ (.BoolOp _ _ _) _ _ _)); refine zW ?_)
    | refine zval ?_)
  | ((with_reducible refine (?_ : wW _ _ _ _ _)); first | refine zand ?_ | refine zor ?_ | refine zand1 ?_ | refine zor1 ?_)
  | ((with_reducible refine (?_ : wK _ _ _ _ _)); first
    | ((with_reducible refine (?_ : wK _ (.builtin "len") _ _ _)); first | refine klenL (by one_place) ?_ | refine klenT (by one_place) ?_ | refine klenS (by assumption) ?_)
    | ((with_reducible refine (?_ : wK _ (.builtin "isinstance") _ _ _)); first | refine kisE (by assumption) (by assumption) (by first | assumption | exact Xd.exx (by assumption) (by one_sign)) (by first | exact .own _ | exact .ty _) (by assumption) ?_ | refine kisi (.ty _) (by assumption) (by assumption) ?_ | refine kisi (.ty _) (.base (by first | exact .int _ | exact .bl _ | exact .str _ | exact .non | exact .tup (by one_item) | exact .lst (by one_item))) (kit_ty (r := true) (by rfl)) ?_ | refine kisi (.ty _) (.base (by first | exact .int _ | exact .bl _ | exact .str _ | exact .non | exact .tup (by one_item) | exact .lst (by one_item))) (kit_ty (r := false) (by rfl)) ?_)
    | ((with_reducible refine (?_ : wK _ (.builtin "divmod") _ _ _)); refine kdivmod ⟨by first | decide | omega, by decide⟩ (fun _ _ _ _ _ => ?_))
    | ((with_reducible refine (?_ : wK _ (.builtin "min") _ _ _)); refine kmin (by rfl) ?_)
    | ((with_reducible refine (?_ : wK _ (.builtin "max") _ _ _)); refine kmax (by rfl) ?_)
    | ((with_reducible refine (?_ : wK _ (.type "list") _ _ _)); first | refine klistL (by one_place) (fun _ _ _ _ _ => ?_) | refine klistT (by one_place) (fun _ _ _ _ _ => ?_))
    | ((with_reducible refine (?_ : wK _ (.type "tuple") _ _ _)); first | refine ktupL (by one_place) (fun _ _ _ _ _ => ?_)))
  | ((with_reducible refine (?_ : wS _ _ _ _ _)); first
    | ((with_reducible refine (?_ : wS _ (.Assign [.Name _ _] _ _) _ _ _)); refine sset' (by assumption) (by rfl) (by first | exact Or.inl rfl | exact Or.inr rfl) (by rfl) (by first | exact .inl rfl | exact .inr rfl) ?_)
    | ((with_reducible refine (?_ : wS _ (.AugAssign (.Name _ _) _ _ _) _ _ _)); refine saug' (by assumption) (by rfl) (by first | exact Or.inl rfl | exact Or.inr rfl) (by first | exact .inl rfl | exact .inr rfl) (by rfl) ?_)
    | ((with_reducible refine (?_ : wS _ (.Expr _ _) _ _ _)); refine sexp ?_)
    | ((with_reducible refine (?_ : wS _ (.Assign [.Tuple _ _ _] _ _) _ _ _)); refine sasg ?_) | ((with_reducible refine (?_ : wS _ (.Assign [.Subscript _ _ _] _ _) _ _ _)); refine sasg ?_)
    | refine sret ?_ | refine sif ?_ | refine sretN ?_ | refine spass ?_ | refine sbrk ?_ | refine scont ?_)
  | ((with_reducible refine (?_ : wG _ (.Name _ _) _ _ _ _)); refine gname' (by assumption) (by rfl) (by first | exact Or.inl rfl | exact Or.inr rfl) (by first | exact .inl rfl | exact .inr rfl) ?_)
  | ((with_reducible refine (?_ : wG _ (.Tuple _ _ _) _ _ _ _)); refine gtup rfl (by one_place) rfl ?_) | ((with_reducible refine (?_ : wG _ (.Subscript _ _ _) _ _ _ _)); refine gsub ?_)
  | ((with_reducible refine (?_ : wGs _ _ _ _ _ _)); first | refine gscons ?_ | refine gsnil ?_)
  | ((with_reducible refine (?_ : wB _ _ _ _ _)); first | refine bcons ?_ | refine bnil ?_)
  | refine ifT ?_ | refine ifF ?_ | refine ifd (fun _ => ?_) (fun _ => ?_) | refine ifnd (fun _ => ?_) (fun _ => ?_) | refine ⟨_, rfl, ?_⟩ | refine ⟨rfl, Evl.Ex.refl _, ?_⟩ | refine ⟨Nat.le_of_ble_eq_true rfl, fun _ _ _ _ _ => ?_⟩ | fail)
local macro_rules | `(tactic| top_name) => `(tactic| repeat' tb_rel)
local macro_rules | `(tactic| nest_fact) => `(tactic| first | exact ⟨(decide_eq_true (by omega)).symm, rfl⟩ | exact ⟨(decide_eq_false (by omega)).symm, rfl⟩ | exact ⟨decide_eq_decide.mpr (by omega), rfl⟩ | fail)
/-! ### the law's own looks at names and numbers -/
theorem dec_true (b : Bool) : decide (b = true) = b := by cases b <;> rfl
theorem ok_lname (T : Txt K mg) : Gf P w K mg base 1 "_law_is_name" [] (sp_name K) := by
  refine gf_mk T.f__law_is_name T.m__law_is_name (fun _ _ _ _ _ _ us hl => match us, hl with | [_], _ => rfl) fun fd F => fn_mk F sc__law_is_name (fun vs H Q E h => ?_) fun cd A outer s H vs Q E hr tk po h => ?_
  · obtain ⟨u, o, rfl, _⟩ := h; rfl
  · obtain ⟨u, o, rfl, hu, q⟩ := h
    have nd := sc__law_is_name.nd
    have n1 := T.n_isinstance
    have n2 := T.n_str
    have n3 := T.n_len
    cases hu with
    | str x hz =>
      have hzs : x.length ≤ sizeLine := by rw [sizeLine_eq]; omega
      have q : ∀ H', Ex H H' → Q (.bl (nameB x)) H' := q
      unfold nameB at q
      top_name
      · rename_i h1 h2
        have := q H (Evl.Ex.refl _)
        rw [decide_eq_false (by omega)] at this
        exact this
      · rename_i h1 h2
        refine zlc rfl nd [("_law_sign", 1)] (blkOk_by (N := N__law_is_name) (sc := defScope s__law_is_name) (by decide +kernel)) piS (tmS (x := x) (fun j => ((x.cps.toList.take j).filter fun c => !decide (c ∈ letters.cps.toList)).map fun c => V.str ⟨#[c]⟩) rfl ?_)
        top_name
        refine ⟨rfl, fun j c H1 hc e1 => ?_, fun L H1 hL e1 hx => ?_⟩
        · top_name
          · rename_i h3 _ _ _ _ _
            have h3 : ¬ c ∈ letters.cps.toList := h3
            exact ⟨filt_yes hc (by simp [h3]), filt_len hz hc, Evl.Ex.refl _⟩
          · rename_i h3
            have h3 : c ∈ letters.cps.toList := h3
            exact ⟨filt_no hc (by simp [h3]), Evl.Ex.refl _⟩
        · rw [show x.cps.size = x.cps.toList.length from by simp, List.take_length] at hx
          top_name
          rename_i U H2 hU e2 hxU
          refine oeqStrs (ys := (x.cps.toList.filter fun c => !decide (c ∈ letters.cps.toList)).map fun c => (⟨#[c]⟩ : Str)) (zs := []) hr (SqL.of (by rw [List.map_map]; exact e2 _ _ hx)) (SqL.of hxU) ?_
          have := q H2 (e1.trans e2)
          rw [decide_eq_true (show 1 ≤ x.length ∧ x.length ≤ 12 from ⟨by omega, by omega⟩), Bool.true_and] at this
          rw [(decide_eq_decide.mpr filt_nil).trans (dec_true (areB x letters))]
          exact this
      · rename_i h1
        have := q H (Evl.Ex.refl _)
        rw [decide_eq_false (by omega)] at this
        exact this
    | odd ty k =>
      top_name
      exact q _ (Evl.Ex.refl _)
theorem occ_figures : ∀ c ∈ figures.cps.toList, Builtin.Str.occurrences figures ⟨#[c]⟩ 0 figures.length 1 = [c - 48] := by decide +kernel
theorem val_snoc (l : List Nat) (c : Nat) : NumText.digitsVal (l ++ [c]) = NumText.digitsVal l * 10 + (c - 48) := by
  unfold NumText.digitsVal
  rw [List.foldl_append]
  rfl
theorem ok_lnumber (T : Txt K mg) : Gf P w K mg base 1 "_law_number_of" [] (sp_number_of K) := by
  refine gf_mk T.f__law_number_of T.m__law_number_of (fun _ _ _ _ _ _ us hl => match us, hl with | [_], _ => rfl) fun fd F => fn_mk F sc__law_number_of (fun vs H Q E h => ?_) fun cd A outer s H vs Q E hr tk po h => ?_
  · obtain ⟨u, o, rfl, _⟩ := h; rfl
  · obtain ⟨u, o, rfl, hu, q⟩ := h
    have nd := sc__law_number_of.nd
    have n1 := T.n_isinstance
    have n2 := T.n_str
    have n3 := T.n_len
    cases hu with
    | odd ty k =>
      top_name
      exact q _ (Evl.Ex.refl _)
    | str x hz =>
      have hzs : x.length ≤ sizeLine := by rw [sizeLine_eq]; omega
      have qn : ¬ numOk x → ∀ H', Ex H H' → Q .non H' := fun h H' e => by
        have this : Q (numV x) H' := q H' e
        unfold numV at this
        rw [if_neg h] at this
        exact this
      have qi : numOk x → ∀ H', Ex H H' → Q (.int (numVal x)) H' := fun h H' e => by
        have this : Q (numV x) H' := q H' e
        unfold numV at this
        rw [if_pos h] at this
        exact this
      have hfl := figs_len x
      have hfz : (figS x).length ≤ sizeLine := by omega
      have hf1 : (figS x).length ≤ 100000 := by omega
      refine bcut (fun σ' H' => H = H' ∧ σ' = [some (.str x), none, none, none]) (by top_name; exact ⟨rfl, rfl⟩) ?_
      rintro _ _ ⟨rfl, rfl⟩
      refine bcut (fun σ' H' => H = H' ∧ σ' = [some (.str x), some (.str (figS x)), none, none]) ?_ ?_
      · top_name
        · rename_i h
          refine ⟨rfl, ?_⟩
          unfold figS
          rw [if_pos ((is_minus x).mp (V.str.inj h))]
          rfl
        · rename_i h
          refine ⟨rfl, ?_⟩
          unfold figS
          rw [if_neg (fun z => h (by rw [(is_minus x).mpr z]))]
          rfl
      rintro _ _ ⟨rfl, rfl⟩
      refine bcut (fun σ' H' => Ex H H' ∧ (1 ≤ (figS x).length ∧ (figS x).length ≤ 80) ∧ areB (figS x) figures = true ∧ σ' = [some (.str x), some (.str (figS x)), none, none]) ?_ ?_
      · top_name
        · exact qn (fun h => by have := h.1; omega) _ (Evl.Ex.refl _)
        · rename_i h1 h2
          refine zlc rfl nd [("_law_sign", 3)] (blkOk_by (N := N__law_number_of) (sc := defScope s__law_number_of) (by decide +kernel)) piS (tmS (x := figS x) (fun j => (((figS x).cps.toList.take j).filter fun c => !decide (c ∈ figures.cps.toList)).map fun c => V.str ⟨#[c]⟩) rfl ?_)
          top_name
          refine ⟨rfl, fun j c H1 hc e1 => ?_, fun L H1 hL e1 hx => ?_⟩
          · top_name
            · rename_i h3 _ _ _ _ _
              have h3 : ¬ c ∈ figures.cps.toList := h3
              exact ⟨filt_yes hc (by simp [h3]), filt_len hf1 hc, Evl.Ex.refl _⟩
            · rename_i h3
              have h3 : c ∈ figures.cps.toList := h3
              exact ⟨filt_no hc (by simp [h3]), Evl.Ex.refl _⟩
          · rw [show (figS x).cps.size = (figS x).cps.toList.length from by simp, List.take_length] at hx
            top_name
            rename_i U H2 hU e2 hxU
            refine oneStrs (ys := ((figS x).cps.toList.filter fun c => !decide (c ∈ figures.cps.toList)).map fun c => (⟨#[c]⟩ : Str)) (zs := []) hr (SqL.of (by rw [List.map_map]; exact e2 _ _ hx)) (SqL.of hxU) ?_
            top_name
            · rename_i hne
              exact qn (fun h => hne (filt_nil.mpr h.2.1)) _ (e1.trans e2)
            · rename_i heq
              exact ⟨e1.trans e2, ⟨by omega, by omega⟩, filt_nil.mp heq, rfl⟩
        · exact qn (fun h => by have := h.1; omega) _ (Evl.Ex.refl _)
      rintro _ H2 ⟨e12, ⟨h1, h2⟩, ha, rfl⟩
      obtain ⟨c, r, hcr⟩ := fig_cons (x := x) (by omega)
      have hat : atI (figS x).cps.toList 0 = some c := by rw [hcr]; exact atI_nat (j := 0) rfl
      have fin : ¬ (c = 48 ∧ x ≠ "0") → numOk x := fun h => ⟨⟨by omega, by omega⟩, ha, fun z => by
        rw [hcr] at z
        exact h ⟨Option.some.inj z.1, z.2⟩⟩
      have bad : c = 48 → x ≠ "0" → ¬ numOk x := fun h h' z => z.2.2 ⟨by rw [hcr, h]; rfl, h'⟩
      refine bcut (fun σ' H' => H2 = H' ∧ numOk x ∧ σ' = [some (.str x), some (.str (figS x)), none, none]) ?_ ?_
      · top_name
        refine ixS hfz hat ?_
        top_name
        · rename_i h3 h4
          refine qn (bad (one_sign_is.mp (V.str.inj h3)) fun z => h4 (by rw [z])) _ e12
        · rename_i h3 h4
          exact ⟨rfl, fin fun z => z.2 (V.str.inj h4), rfl⟩
        · rename_i h3
          exact ⟨rfl, fin fun z => h3 (by rw [one_sign_is.mpr z.1]), rfl⟩
      rintro _ _ ⟨rfl, hok, rfl⟩
      refine bcut (fun σ' H' => H2 = H' ∧ σ' = [some (.str x), some (.str (figS x)), some (.int 0), none]) (by top_name; exact ⟨rfl, rfl⟩) ?_
      rintro _ _ ⟨rfl, rfl⟩
      refine bcut (fun σ' H' => H2 = H' ∧ ∃ v3 : Option V, σ' = [some (.str x), some (.str (figS x)), some (.int (NumText.digitsVal (figS x).cps.toList : Nat)), v3]) ?_ ?_
      · refine lforS (x := figS x) po rfl (fun i σ H' => H2 = H' ∧ ∃ v3 : Option V, σ = [some (.str x), some (.str (figS x)), some (.int (NumText.digitsVal ((figS x).cps.toList.take i) : Nat)), v3]) ?_
        top_name
        refine ⟨rfl, ⟨rfl, none, rfl⟩, ?_, ?_⟩
        · rintro i c σ H3 hc ⟨rfl, v3, rfl⟩
          have hc' : (figS x).cps.toList[i]? = some c := by rw [Array.getElem?_toList]; exact hc
          have hin : c ∈ figures.cps.toList := of_decide_eq_true (List.all_eq_true.mp ha c (List.mem_of_getElem? hc'))
          have hr2 := in_figures.mp hin
          top_name
          refine zsindex ?_
          top_name
          refine ⟨⟨_, rfl⟩, ?_⟩
          top_name
          refine ⟨figures, _, _, _, rfl, rfl, occ_figures c hin, ?_⟩
          top_name
          refine ⟨rfl, some (.str ⟨#[c]⟩), ?_⟩
          rw [List.take_add_one, hc', Option.toList_some, val_snoc]
          show [_, _, some (V.int (10 * ((NumText.digitsVal ((figS x).cps.toList.take i) : Nat) : Int) + ((c - 48 : Nat) : Int))), _] = _
          rw [show 10 * ((NumText.digitsVal ((figS x).cps.toList.take i) : Nat) : Int) + ((c - 48 : Nat) : Int) = ((NumText.digitsVal ((figS x).cps.toList.take i) * 10 + (c - 48) : Nat) : Int) from by omega]
        · rintro σ H3 ⟨rfl, v3, rfl⟩
          rw [show (figS x).cps.size = (figS x).cps.toList.length from by simp, List.take_length]
          exact ⟨rfl, v3, rfl⟩
      rintro _ _ ⟨rfl, v3, rfl⟩
      have hx0 : ∃ c0 r0, x.cps.toList = c0 :: r0 := by
        cases hx : x.cps.toList with
        | nil => have := figs_len x; rw [len_is x, hx, len_is, hcr] at this; simp at this
        | cons c0 r0 => exact ⟨c0, r0, rfl⟩
      obtain ⟨c0, r0, hx0⟩ := hx0
      have hat0 : atI x.cps.toList 0 = some c0 := by rw [hx0]; exact atI_nat (j := 0) rfl
      have hm : ((⟨#[c0]⟩ : Str) = "-") ↔ x.cps.toList.head? = some 45 := by
        rw [hx0, List.head?_cons]
        constructor
        · intro h
          have := congrArg (fun x : Str => x.cps.toList) h
          rw [(List.cons.inj this).1]
          rfl
        · intro h
          rw [Option.some.inj h]
          rfl
      have fin2 := qi hok _ e12
      unfold numVal at fin2
      top_name
      refine ixS hzs hat0 ?_
      top_name
      · rename_i h5
        rw [if_pos (hm.mp (V.str.inj h5))] at fin2
        exact fin2
      · rename_i h5
        rw [if_neg (fun z => h5 (by rw [hm.mpr z]))] at fin2
        exact fin2
/-! ### alike, odd, asked -/
inductive Plain : V → Prop
  | bl (b : Bool) : Plain (.bl b)
  | int (n : Int) : Plain (.int n)
  | non : Plain .non
def sp_alike : Sp := fun vs H Q _ => ∃ v, vs = [v, v] ∧ Plain v ∧ Q (.bl true) H
theorem ok_alike (T : Txt K mg) : Gf P w K mg base 1 "_law_alike" [] sp_alike := by
  refine gf_mk T.f__law_alike T.m__law_alike (fun _ _ _ _ _ _ us hl => match us, hl with | [_, _], _ => rfl) fun fd F => fn_mk F sc__law_alike (fun vs H Q E h => ?_) fun cd A outer s H vs Q E hr tk po h => ?_
  · obtain ⟨v, rfl, _⟩ := h; rfl
  · obtain ⟨v, rfl, hv, q⟩ := h
    have nd := sc__law_alike.nd
    have n1 := T.n_isinstance
    have n2 := T.n_bool
    have n3 := T.n_int
    cases hv with
    | bl b =>
      top_name
      rw [decide_eq_true rfl]
      exact q
    | int n =>
      top_name
      rw [decide_eq_true rfl]
      exact q
    | non =>
      top_name
      rw [decide_eq_true rfl]
      exact q
/-- a thing that is asked about -/
inductive Thing (K : PySem.W.Frag) (H : Hp) : V → Prop
  | str (x : Str) (h : x.length ≤ 100000) : Thing K H (.str x)
  | int (n : Int) : Thing K H (.int n)
  | odd {v : V} {t : Value} (ty : TyX K H v t) (k : PySem.W.kitOne K t (.type "str") = some false) (w : NotWhole K H v) : Thing K H v
theorem Thing.ex {H H' : Hp} {v : V} (h : Thing K H v) (e : Ex H H') : Thing K H' v := by
  cases h with
  | str x h => exact .str x h
  | int n => exact .int n
  | odd ty k w => exact .odd (TyX.ex e ty) k (NotWhole.ex e w)
theorem Thing.txt {H : Hp} {v : V} (h : Thing K H v) : ∃ o, TxtOr K H v o := by
  cases h with
  | str x h => exact ⟨_, .str x h⟩
  | int n => exact ⟨_, .odd (.base (.int n)) (kit_ty rfl)⟩
  | odd ty k w => exact ⟨_, .odd ty k⟩
theorem Thing.nw {H : Hp} {v : V} (h : Thing K H v) : (∃ n, v = .int n) ∨ NotWhole K H v := by
  cases h with
  | str x h => exact .inr (nw_str x)
  | int n => exact .inl ⟨n, rfl⟩
  | odd ty k w => exact .inr w
theorem plain_num : ∀ o : Option Str, Plain (numO o)
  | none => .non
  | some x => by
    unfold numO numV
    show Plain (if numOk x then _ else _)
    split
    · exact .int _
    · exact .non
def sp_odd (K : PySem.W.Frag) : Sp := fun vs H Q _ => ∃ c : Int, vs = [.int c] ∧ 0 ≤ c % 10 ∧ ∀ v H', Thing K H' v → (∃ t, TyX K H' v t ∧ PySem.W.kitOne K t (.type "str") = some false) → Ex H H' → Q v H'
theorem ok_odd (T : Txt K mg) : Gf P w K mg base 1 "_law_odd" [] (sp_odd K) := by
  refine gf_mk T.f__law_odd T.m__law_odd (fun _ _ _ _ _ _ us hl => match us, hl with | [_], _ => rfl) fun fd F => fn_mk F sc__law_odd (fun vs H Q E h => ?_) fun cd A outer s H vs Q E hr tk po h => ?_
  · obtain ⟨c, rfl, _⟩ := h; rfl
  · obtain ⟨c, rfl, _, q⟩ := h
    have nd := sc__law_odd.nd
    top_name
    rename_i o1 G1 ho1 g1 hx1 o2 G2 ho2 g2 hx2 o3 G3 ho3 g3 hx3 o4 G4 ho4 g4 hx4 o5 G5 ho5 g5 hx5 o6 G6 ho6 g6 hx6
    have hv : ∃ (xs : List V) (v : V), G6 o6 = some (.lst xs) ∧ atI xs (c % 10) = some v ∧ Thing K G6 v ∧ ∃ t, TyX K G6 v t ∧ PySem.W.kitOne K t (.type "str") = some false := by
      have hc : c % 10 = 0 ∨ c % 10 = 1 ∨ c % 10 = 2 ∨ c % 10 = 3 ∨ c % 10 = 4 ∨ c % 10 = 5 ∨ c % 10 = 6 ∨ c % 10 = 7 ∨ c % 10 = 8 ∨ c % 10 = 9 := by omega
      rcases hc with h | h | h | h | h | h | h | h | h | h <;> rw [h]
      · exact ⟨_, _, hx6, rfl, .odd (.base .non) (kit_ty rfl) nw_non, _, .base .non, kit_ty rfl⟩
      · exact ⟨_, _, hx6, rfl, .odd (.base (.bl _)) (kit_ty rfl) (nw_bl _), _, .base (.bl _), kit_ty rfl⟩
      · exact ⟨_, _, hx6, rfl, .odd (.base (.bl _)) (kit_ty rfl) (nw_bl _), _, .base (.bl _), kit_ty rfl⟩
      · exact ⟨_, _, hx6, rfl, .int _, _, .base (.int _), kit_ty rfl⟩
      · exact ⟨_, _, hx6, rfl, .odd (.base (.tup (by one_item))) (kit_ty rfl) (nw_tup (xs := []) (by one_item)), _, .base (.tup (xs := []) (by one_item)), kit_ty rfl⟩
      · exact ⟨_, _, hx6, rfl, .odd (.base (.lst (by one_item))) (kit_ty rfl) (nw_lst (xs := [.str "a"]) (by one_item)), _, .base (.lst (xs := [.str "a"]) (by one_item)), kit_ty rfl⟩
      · exact ⟨_, _, hx6, rfl, .odd (.base (.tup (by one_item))) (kit_ty rfl) (nw_tup (xs := [.str "a"]) (by one_item)), _, .base (.tup (xs := [.str "a"]) (by one_item)), kit_ty rfl⟩
      · exact ⟨_, _, hx6, rfl, .odd (.base (.dK (by one_item))) (kit_ty rfl) (nw_dK (kvs := []) (by one_item)), _, .base (.dK (kvs := []) (by one_item)), kit_ty rfl⟩
      · exact ⟨_, _, hx6, rfl, .odd (.base (.lst (by one_item))) (kit_ty rfl) (nw_lst (xs := []) (by one_item)), _, .base (.lst (xs := []) (by one_item)), kit_ty rfl⟩
      · exact ⟨_, _, hx6, rfl, .int _, _, .base (.int _), kit_ty rfl⟩
    obtain ⟨xs, v, hx, hi, hv, ht⟩ := hv
    exact ixL (SqL.of hx) hi (q v G6 hv ht (by one_sign))
def sp_asked (K : PySem.W.Frag) : Sp := fun vs H Q _ => ∃ (way lo hi : Int) (u : V), vs = [.int way, u, .int lo, .int hi] ∧ Thing K H u ∧ ∀ H', Ex H H' → Q (.bl true) H'
theorem ok_asked (T : Txt K mg) : Gf P w K mg base 4 "_law_asked" [] (sp_asked K) := by
  refine gf_mk T.f__law_asked T.m__law_asked (fun _ _ _ _ _ _ us hl => match us, hl with | [_, _, _, _], _ => rfl) fun fd F => fn_mk F sc__law_asked (fun vs H Q E h => ?_) fun cd A outer s H vs Q E hr tk po h => ?_
  · obtain ⟨way, lo, hi, u, rfl, _⟩ := h; rfl
  · obtain ⟨way, lo, hi, u, rfl, hu, q⟩ := h
    have nd := sc__law_asked.nd
    have n1 := T.n_isinstance
    have n2 := T.n_bool
    have n3 := T.n_int
    have hr1 : Room (2 + 1) _ := hr
    obtain ⟨o, ho⟩ := hu.txt
    top_name
    · refine zcall (ok_alike T) hr1 (by decide) takesF rfl ?_
      top_name
      refine zcall (ok_name T) hr1 (by decide) takesF rfl ?_
      top_name
      refine ⟨u, o, rfl, ho, fun H1 e1 => ?_⟩
      top_name
      refine zcall (ok_lname T) hr1 (by decide) takesF rfl ?_
      top_name
      refine ⟨u, o, rfl, ho.ex e1, fun H2 e2 => ?_⟩
      top_name
      exact ⟨.bl _, q _ (e1.trans e2)⟩
    · refine zcall (ok_alike T) hr1 (by decide) takesF rfl ?_
      top_name
      refine zcall (ok_number_of T) hr1 (by decide) takesF rfl ?_
      top_name
      refine ⟨u, o, rfl, ho, fun H1 e1 => ?_⟩
      top_name
      refine zcall (ok_lnumber T) hr1 (by decide) takesF rfl ?_
      top_name
      refine ⟨u, o, rfl, ho.ex e1, fun H2 e2 => ?_⟩
      top_name
      exact ⟨plain_num o, q _ (e1.trans e2)⟩
    · rcases hu.nw with ⟨n, rfl⟩ | ⟨t, k1, k2, ty, w1, w2, wk⟩
      · top_name
        · refine zcall (ok_alike T) hr1 (by decide) takesF rfl ?_
          top_name
          refine zcall (ok_is_whole T) hr1 (by decide) takesF rfl ?_
          top_name
          refine ⟨.none, _, _, true, false, rfl, .base (.int n), kit_ty rfl, kit_ty rfl, ?_⟩
          top_name
          exact ⟨.bl _, q _ (Evl.Ex.refl _)⟩
        · refine zcall (ok_alike T) hr1 (by decide) takesF rfl ?_
          top_name
          refine zcall (ok_is_among T) hr1 (by decide) takesF rfl ?_
          top_name
          refine ⟨_, lo, hi, _, rfl, .int n, ?_⟩
          top_name
          · rename_i h1
            have : decide (n ≤ hi) = decide (lo ≤ n ∧ n ≤ hi) := decide_eq_decide.mpr ⟨fun z => ⟨h1, z⟩, fun z => z.2⟩
            rw [this]
            exact ⟨_, rfl, .bl _, q _ (Evl.Ex.refl _)⟩
          · rename_i h1
            rw [show decide (lo ≤ n ∧ n ≤ hi) = false from decide_eq_false fun z => h1 z.1]
            exact ⟨_, rfl, .bl _, q _ (Evl.Ex.refl _)⟩
      · have nwu : NotWhole K H u := ⟨t, k1, k2, ty, w1, w2, wk⟩
        refine kisi (.ty _) ty w1 ?_
        cases k1 with
        | false =>
          top_name
          · refine zcall (ok_alike T) hr1 (by decide) takesF rfl ?_
            top_name
            refine zcall (ok_is_whole T) hr1 (by decide) takesF rfl ?_
            top_name
            refine ⟨.none, _, _, _, _, rfl, ty, w1, w2, ?_⟩
            top_name
            exact ⟨.bl _, q _ (Evl.Ex.refl _)⟩
          · refine zcall (ok_alike T) hr1 (by decide) takesF rfl ?_
            top_name
            refine zcall (ok_is_among T) hr1 (by decide) takesF rfl ?_
            top_name
            refine ⟨u, lo, hi, false, rfl, .odd nwu, ?_⟩
            top_name
            exact ⟨.bl _, q _ (Evl.Ex.refl _)⟩
        | true =>
          have hk2 : k2 = true := by cases k2 with | true => rfl | false => cases wk
          subst hk2
          top_name
          · refine zcall (ok_alike T) hr1 (by decide) takesF rfl ?_
            top_name
            refine zcall (ok_is_whole T) hr1 (by decide) takesF rfl ?_
            top_name
            refine ⟨.none, _, _, _, _, rfl, ty, w1, w2, ?_⟩
            top_name
            exact ⟨.bl _, q _ (Evl.Ex.refl _)⟩
          · refine zcall (ok_alike T) hr1 (by decide) takesF rfl ?_
            top_name
            refine zcall (ok_is_among T) hr1 (by decide) takesF rfl ?_
            top_name
            refine ⟨u, lo, hi, false, rfl, .odd nwu, ?_⟩
            top_name
            exact ⟨.bl _, q _ (Evl.Ex.refl _)⟩
end K01

set_option maxRecDepth 100000
set_option maxHeartbeats 4000000
set_option pp.maxSteps 1500
namespace K01
open PySem PySem.Spec PyProof.Rows L2 Z
open Evl (Ex)
variable {P : Program} {w : World} {K : PySem.W.Frag} {mg : Str → Option Value} {base : Heap}
/-! ### steps of the walk: one_sign: a heap grew into another; one_item: what stands at an address; one_place: a list or tuple to be read; leaf_len: arithmetic; tb_rel: one step; top_name: steps as far as they go -/
local macro_rules | `(tactic| got_up) => `(tactic| (refine Evl.Ex.trans (by assumption) ?_; first | assumption | exact Evl.Ex.refl _ | got_up))
local macro_rules | `(tactic| units_room) => `(tactic| (refine Evl.Ex.trans ?_ (by assumption); first | assumption | exact Evl.Ex.refl _ | units_room))
local macro_rules | `(tactic| one_sign) => `(tactic| first | assumption | exact Evl.Ex.refl _ | got_up | units_room)
local macro_rules | `(tactic| one_item) => `(tactic| first | assumption | exact upd_same | exact exa (by assumption) (by one_sign))
local macro_rules | `(tactic| one_place) => `(tactic| first | assumption | exact SqL.of (by assumption) | exact SqT.of (by assumption) | exact exl (by assumption) (by one_sign) | exact ext (by assumption) (by one_sign) | exact SqL.of (by one_item) | exact SqT.of (by one_item))
local macro_rules | `(tactic| leaf_len) => `(tactic| first | assumption | decide | omega)
local macro_rules | `(tactic| tb_rel) => `(tactic| first
  | ((with_reducible refine (?_ : wE _ _ _ _ _)); first
    | ((with_reducible refine (?_ : wE _ (.Name _ _) _ _ _)); first | refine zn (by rfl) (by first | exact Or.inl rfl | exact Or.inr (Or.inl rfl) | exact Or.inr (Or.inr rfl)) (by rfl) ?_ | refine zglob (by assumption) (by rfl) ?_ | refine zcls (by assumption) (by rfl) ?_ | refine zty (by assumption) (by first | exact bt_int | exact bt_bool | exact bt_str | exact bt_list | exact bt_tuple | exact bt_dict | exact bt_ValueError) (by rfl) ?_)
    | ((with_reducible refine (?_ : wE _ (.Constant _ _ _) _ _ _)); first | refine zint ?_ | refine zstr ?_ | refine zbl ?_ | refine znon ?_)
    | ((with_reducible refine (?_ : wE _ (.BinOp _ _ _ _) _ _ _)); refine zbin ?_)
    | ((with_reducible refine (?_ : wE _ (.Compare _ _ _ _) _ _ _)); first | refine zcmp (by rfl) ?_ | refine zchain ?_)
    | ((with_reducible refine (?_ : wE _ (.Dict [] [] _) _ _ _)); refine zdnew (fun _ _ _ _ _ => ?_))
    | ((with_reducible refine (?_ : wE _ (.Subscript _ (.Slice _ _ _ _) _) _ _ _)); refine zsl ?_)
    | ((with_reducible refine (?_ : wE _ (.Subscript _ _ _) _ _ _)); refine zix ?_)
    | ((with_reducible refine (?_ : wE _ (.Call (.Name "list" _) [.Call (.Name "range" _) [_] [] _] [] _) _ _ _)); refine zlrg1 rfl (by rfl) (by assumption) (by rfl) (by assumption) ?_)
    | ((with_reducible refine (?_ : wE _ (.Call (.Name _ _) _ _ _) _ _ _)); first
      | ((with_reducible refine (?_ : wE _ (.Call (.Name "len" _) _ _ _) _ _ _)); refine zbfn (by assumption) bt_len (by rfl) ?_)
      | ((with_reducible refine (?_ : wE _ (.Call (.Name "isinstance" _) _ _ _) _ _ _)); refine zbfn (by assumption) bt_isi (by rfl) ?_)
      | ((with_reducible refine (?_ : wE _ (.Call (.Name "min" _) _ _ _) _ _ _)); refine zbfn (by assumption) bt_min (by rfl) ?_)
      | ((with_reducible refine (?_ : wE _ (.Call (.Name "max" _) _ _ _) _ _ _)); refine zbfn (by assumption) bt_max (by rfl) ?_)
      | ((with_reducible refine (?_ : wE _ (.Call (.Name "list" _) _ _ _) _ _ _)); refine zbty (by assumption) bt_list (by rfl) ?_)
      | ((with_reducible refine (?_ : wE _ (.Call (.Name "tuple" _) _ _ _) _ _ _)); refine zbty (by assumption) bt_tuple (by rfl) ?_)
      | ((with_reducible refine (?_ : wE _ (.Call (.Name "int" _) _ _ _) _ _ _)); refine zbty (by assumption) bt_int (by rfl) ?_)
      | ((with_reducible refine (?_ : wE _ (.Call (.Name "abs" _) _ _ _) _ _ _)); refine zbfn (by assumption) bt_abs (by rfl) ?_)
      | ((with_reducible refine (?_ : wE _ (.Call (.Name "all" _) _ _ _) _ _ _)); refine zbfn (by assumption) bt_all (by rfl) ?_)
      | ((with_reducible refine (?_ : wE _ (.Call (.Name "sum" _) _ _ _) _ _ _)); refine zbfn (by assumption) bt_sum (by rfl) ?_)
      | ((with_reducible refine (?_ : wE _ (.Call (.Name "divmod" _) _ _ _) _ _ _)); refine zbfn (by assumption) bt_divmod (by rfl) ?_)
      | ((with_reducible refine (?_ : wE _ (.Call (.Name "ord" _) _ _ _) _ _ _)); refine zbfn (by assumption) bt_ord (by rfl) ?_))
    | ((with_reducible refine (?_ : wE _ (.IfExp _ _ _ _) _ _ _)); refine zif ?_)
    | ((with_reducible refine (?_ : wE _ (.Tuple _ _ _) _ _ _)); refine ztup ?_)
    | ((with_reducible refine (?_ : wE _ (.List _ _) _ _ _)); refine zlst ?_)
    | ((with_reducible refine (?_ : wE _ (.UnaryOp _ _ _) _ _ _)); first | refine znotV ?_ | refine zneg ?_)
    | ((with_reducible refine (?_ : wE _ (.BoolOp _ _ _) _ _ _)); first | refine zandV ?_ | refine zorV ?_ | refine zoneV ?_))
  | ((with_reducible refine (?_ : bE _ _ _ _ _ _)); refine ⟨fun _ _ _ _ _ => ?_⟩) | ((with_reducible refine (?_ : bG _ _ _ _ _ _ _)); refine ⟨fun _ _ _ _ _ => ?_⟩) | ((with_reducible refine (?_ : bTs _ _ _ _ _ _)); refine ⟨fun _ _ _ _ _ => ?_⟩)
  | ((with_reducible refine (?_ : hE _ _ _ _ _ _)); refine ⟨fun _ _ _ _ _ => ?_⟩) | ((with_reducible refine (?_ : hG _ _ _ _ _ _ _)); refine ⟨fun _ _ _ _ _ => ?_⟩) | ((with_reducible refine (?_ : hTs _ _ _ _ _ _)); refine ⟨fun _ _ _ _ _ => ?_⟩)
  | ((with_reducible refine (?_ : wP _ _ _ _ _)); first | refine pnon ?_ | refine psom ?_) | ((with_reducible refine (?_ : wSl _ _ _ _ _ _)); first | refine slL (by one_place) (fun _ _ _ _ _ => ?_) | refine slS (by assumption) ?_)
  | ((with_reducible refine (?_ : wTs _ _ _ _ _)); first | refine tsnil ?_ | refine tsone ?_)
  | ((with_reducible refine (?_ : wA _ _ _ _ _)); first | refine acons ?_ | refine anil ?_)
  | ((with_reducible refine (?_ : wO _ _ _ _ _ _)); first
    | ((with_reducible refine (?_ : wO _ (binaryOp .Add) _ _ _ _)); first | refine oadd ?_ | refine ocatE (by one_item) (by one_item) (Nat.le_of_ble_eq_true rfl) (fun _ _ _ _ _ => ?_))
    | ((with_reducible refine (?_ : wO _ (binaryOp .Sub) _ _ _ _)); first | refine osub ?_)
    | ((with_reducible refine (?_ : wO _ (binaryOp .Mult) _ _ _ _)); first | refine omul (by first | exact IntMulOk.of_right (by decide) | exact IntMulOk.of_left (by decide) | exact IntMulOk.of_right (intBits_le_64 (by omega) (by omega)) | exact IntMulOk.of_left (intBits_le_64 (by omega) (by omega))) ?_)
    | ((with_reducible refine (?_ : wO _ (binaryOp .Mod) _ _ _ _)); first | refine omod (by first | decide | omega) ?_)
    | ((with_reducible refine (?_ : wO _ (binaryOp .FloorDiv) _ _ _ _)); first | refine ofdiv ⟨by first | decide | omega, by decide⟩ ?_)
    | ((with_reducible refine (?_ : wO _ (binaryOp .BitAnd) _ _ _ _)); first | refine oand ?_)
    | ((with_reducible refine (?_ : wO _ (binaryOp .BitOr) _ _ _ _)); first | refine oor ?_)
    | ((with_reducible refine (?_ : wO _ (compareOp .Lt) _ _ _ _)); first | refine olt ?_)
    | ((with_reducible refine (?_ : wO _ (compareOp .LtE) _ _ _ _)); first | refine ole ?_)
    | ((with_reducible refine (?_ : wO _ (compareOp .Gt) _ _ _ _)); first | refine ogt ?_)
    | ((with_reducible refine (?_ : wO _ (compareOp .GtE) _ _ _ _)); first | refine oge ?_)
    | ((with_reducible refine (?_ : wO _ (compareOp .Eq) _ _ _ _)); first | refine oeqi ?_ | refine oeq (by rfl) ?_)
    | ((with_reducible refine (?_ : wO _ (compareOp .NotEq) _ _ _ _)); first | refine onei ?_ | refine one (by rfl) ?_)
    | ((with_reducible refine (?_ : wO _ (compareOp .In) _ _ _ _)); first | refine oin ?_)
    | ((with_reducible refine (?_ : wO _ (compareOp .NotIn) _ _ _ _)); first | refine onin ?_)
    | ((with_reducible refine (?_ : wO _ (compareOp .Is) _ _ _ _)); first | refine ois ?_)
    | ((with_reducible refine (?_ : wO _ (compareOp .IsNot) _ _ _ _)); first | refine onot ?_)
    | ((with_reducible refine (?_ : wO _ (binaryOp .RShift) _ _ _ _)); refine oshr (by first | decide | omega) ?_)
    | ((with_reducible refine (?_ : wO _ (binaryOp .BitXor) _ _ _ _)); refine oxor ?_)
    | ((with_reducible refine (?_ : wO _ (inplaceOp .BitXor) _ _ _ _)); refine ixor ?_)
    | ((with_reducible refine (?_ : wO _ (inplaceOp .RShift) _ _ _ _)); refine ishr (by first | decide | omega) ?_)
    | ((with_reducible refine (?_ : wO _ (inplaceOp .BitOr) _ _ _ _)); first | refine ior ?_)
    | ((with_reducible refine (?_ : wO _ (inplaceOp .Add) _ _ _ _)); first | refine iadd ?_))
  | ((with_reducible refine (?_ : wT _ _ _ _ _)); first
    | ((with_reducible refine (?_ : wT _ (.Compare _ _ _ _) _ _ _)); first | refine zcmpT (by rfl) ?_ | refine zchainT ?_)
    | ((with_reducible refine (?_ : wT _ (.UnaryOp _ _ _) _ _ _)); refine znotT ?_)
    | ((with_reducible refine (?_ : wT _ (.BoolOp _ _ _) _ _ _)); refine zW ?_)
    | refine zval ?_)
  | ((with_reducible refine (?_ : wW _ _ _ _ _)); first | refine zand ?_ | refine zor ?_ | refine zand1 ?_ | refine zor1 ?_)
  | ((with_reducible refine (?_ : wK _ _ _ _ _)); first
    | ((with_reducible refine (?_ : wK _ (.builtin "len") _ _ _)); first | refine klenL (by one_place) ?_ | refine klenT (by one_place) ?_ | refine klenS (by assumption) ?_)
    | ((with_reducible refine (?_ : wK _ (.builtin "isinstance") _ _ _)); first | refine kisE (by assumption) (by assumption) (by first | assumption | exact Xd.exx (by assumption) (by one_sign)) (by first | exact .own _ | exact .ty _) (by assumption) ?_ | refine kisi (.ty _) (by assumption) (by assumption) ?_ | refine kisi (.ty _) (.base (by first | exact .int _ | exact .bl _ | exact .str _ | exact .non | exact .tup (by one_item) | exact .lst (by one_item))) (kit_ty (r := true) (by rfl)) ?_ | refine kisi (.ty _) (.base (by first | exact .int _ | exact .bl _ | exact .str _ | exact .non | exact .tup (by one_item) | exact .lst (by one_item))) (kit_ty (r := false) (by rfl)) ?_)
    | ((with_reducible refine (?_ : wK _ (.builtin "divmod") _ _ _)); refine kdivmod ⟨by first | decide | omega, by decide⟩ (fun _ _ _ _ _ => ?_))
    | ((with_reducible refine (?_ : wK _ (.builtin "min") _ _ _)); refine kmin (by rfl) ?_)
    | ((with_reducible refine (?_ : wK _ (.builtin "max") _ _ _)); refine kmax (by rfl) ?_)
    | ((with_reducible refine (?_ : wK _ (.type "list") _ _ _)); first | refine klistL (by one_place) (fun _ _ _ _ _ => ?_) | refine klistT (by one_place) (fun _ _ _ _ _ => ?_))
    | ((with_reducible refine (?_ : wK _ (.type "tuple") _ _ _)); first | refine ktupL (by one_place) (fun _ _ _ _ _ => ?_)))
  | ((with_reducible refine (?_ : wS _ _ _ _ _)); first
    | ((with_reducible refine (?_ : wS _ (.Assign [.Name _ _] _ _) _ _ _)); refine sset' (by assumption) (by rfl) (by first | exact Or.inl rfl | exact Or.inr rfl) (by rfl) (by first | exact .inl rfl | exact .inr rfl) ?_)
    | ((with_reducible refine (?_ : wS _ (.AugAssign (.Name _ _) _ _ _) _ _ _)); refine saug' (by assumption) (by rfl) (by first | exact Or.inl rfl | exact Or.inr rfl) (by first | exact .inl rfl | exact .inr rfl) (by rfl) ?_)
    | ((with_reducible refine (?_ : wS _ (.Expr _ _) _ _ _)); refine sexp ?_)
    | ((with_reducible refine (?_ : wS _ (.Assign [.Tuple _ _ _] _ _) _ _ _)); refine sasg ?_) | ((with_reducible refine (?_ : wS _ (.Assign [.Subscript _ _ _] _ _) _ _ _)); refine sasg ?_)
    | refine sret ?_ | refine sif ?_ | refine sretN ?_ | refine spass ?_ | refine sbrk ?_ | refine scont ?_)
  | ((with_reducible refine (?_ : wG _ (.Name _ _) _ _ _ _)); refine gname' (by assumption) (by rfl) (by first | exact Or.inl rfl | exact Or.inr rfl) (by first | exact .inl rfl | exact .inr rfl) ?_)
  | ((with_reducible refine (?_ : wG _ (.Tuple _ _ _) _ _ _ _)); refine gtup rfl (by one_place) rfl ?_) | ((with_reducible refine (?_ : wG _ (.Subscript _ _ _) _ _ _ _)); refine gsub ?_)
  | ((with_reducible refine (?_ : wGs _ _ _ _ _ _)); first | refine gscons ?_ | refine gsnil ?_)
  | ((with_reducible refine (?_ : wB _ _ _ _ _)); first | refine bcons ?_ | refine bnil ?_)
  | refine ifT ?_ | refine ifF ?_ | refine ifd (fun _ => ?_) (fun _ => ?_) | refine ifnd (fun _ => ?_) (fun _ => ?_) | refine ⟨_, rfl, ?_⟩ | refine ⟨rfl, Evl.Ex.refl _, ?_⟩ | refine ⟨Nat.le_of_ble_eq_true rfl, fun _ _ _ _ _ => ?_⟩ | fail)
local macro_rules | `(tactic| top_name) => `(tactic| repeat' tb_rel)
local macro_rules | `(tactic| nest_fact) => `(tactic| first | exact ⟨(decide_eq_true (by omega)).symm, rfl⟩ | exact ⟨(decide_eq_false (by omega)).symm, rfl⟩ | exact ⟨decide_eq_decide.mpr (by omega), rfl⟩ | fail)
/-! ### numbers as texts, plainly -/
theorem tl_numI (n : Int) : (Str.ofString (toString n)).cps.toList = if n < 0 then 45 :: TL.numL n.natAbs else TL.numL n.natAbs := by
  cases n with
  | ofNat m =>
    rw [if_neg (show ¬ (Int.ofNat m < 0) from Int.not_lt.mpr (Int.natCast_nonneg m))]
    exact TL.tl_num m
  | negSucc m =>
    rw [if_pos (show Int.negSucc m < 0 from Int.negSucc_lt_zero m)]
    have h := TL.tl_num (m + 1)
    rw [show TL.tl (Str.ofString (toString (((m + 1 : Nat) : Int)))) = (Str.ofString (toString (((m + 1 : Nat) : Int)))).cps.toList from rfl, PyProof.Rows.signs_ofString] at h
    rw [PyProof.Rows.signs_ofString]
    show ("-" ++ Nat.repr (m + 1)).toList.map Char.toNat = _
    rw [String.toList_append, List.map_append]
    show 45 :: (Nat.repr (m + 1)).toList.map Char.toNat = _
    congr 1
theorem numL_head : ∀ m : Nat, 0 < m → (TL.numL m).head? ≠ some 48 := fun m => by
  induction m using Nat.strongRecOn with
  | ind m ih =>
    intro h
    by_cases h1 : m < 10
    · rw [TL.numL_lt h1]
      intro z
      have := Option.some.inj z
      omega
    · rw [TL.numL_step (by omega)]
      have := ih (m / 10) (by omega) (by omega)
      cases hx : TL.numL (m / 10) with
      | nil => exact absurd hx (TL.numL_ne _)
      | cons c r => rw [hx] at this; exact this
theorem head_digit {l : List Nat} (h : NumText.AllDigits l) : l.head? ≠ some 45 := by
  cases l with
  | nil => intro z; cases z
  | cons c r =>
    intro z
    have := h c List.mem_cons_self
    have := Option.some.inj z
    omega
theorem fig_num (n : Int) : (figS (toString n : Str)).cps.toList = TL.numL n.natAbs := by
  unfold figS
  have e := tl_numI n
  by_cases h : n < 0
  · rw [if_pos h] at e
    rw [if_pos (by show (Str.ofString (toString n)).cps.toList.head? = _; rw [e]; rfl), cut1]
    show (Str.ofString (toString n)).cps.toList.drop 1 = _
    rw [e]
    rfl
  · rw [if_neg h] at e
    rw [if_neg (by show ¬ (Str.ofString (toString n)).cps.toList.head? = _; rw [e]; exact head_digit (TL.numL_digits _))]
    exact e
theorem num_small {n : Int} (h : n.natAbs < 2 ^ 256) : (TL.numL n.natAbs).length ≤ 80 ∧ 1 ≤ (TL.numL n.natAbs).length := by
  refine ⟨TL.numL_len (by decide) (Nat.lt_trans h (by decide)), ?_⟩
  cases hx : TL.numL n.natAbs with
  | nil => exact absurd hx (TL.numL_ne _)
  | cons c r => rw [List.length_cons]; omega
theorem num_ok {n : Int} (h : n.natAbs < 2 ^ 256) : numOk (toString n : Str) := by
  have hs := num_small h
  refine ⟨⟨by rw [len_is, fig_num]; omega, by rw [len_is, fig_num]; omega⟩, ?_, ?_⟩
  · unfold areB
    rw [fig_num]
    exact List.all_eq_true.mpr fun c hc => decide_eq_true (in_figures.mpr (TL.numL_digits _ c hc))
  · rw [fig_num]
    rintro ⟨h1, h2⟩
    by_cases h0 : n = 0
    · subst h0; exact h2 rfl
    · exact numL_head _ (by omega) h1
theorem num_val (n : Int) : numVal (toString n : Str) = n := by
  unfold numVal
  rw [fig_num, TL.numL_val]
  have e := tl_numI n
  by_cases h : n < 0
  · rw [if_pos h] at e
    rw [if_pos (by show (Str.ofString (toString n)).cps.toList.head? = _; rw [e]; rfl)]
    omega
  · rw [if_neg h] at e
    rw [if_neg (by show ¬ (Str.ofString (toString n)).cps.toList.head? = _; rw [e]; exact head_digit (TL.numL_digits _))]
    omega
theorem num_len {n : Int} (h : n.natAbs < 2 ^ 256) : (toString n : Str).length ≤ 81 := by
  have := fig_bound (toString n : Str)
  have e : (figS (toString n : Str)).length ≤ 80 := by rw [len_is, fig_num]; exact (num_small h).1
  omega
def sgn (c : Nat) : Str := ⟨#[c]⟩
theorem joinL_nil : ∀ ls : List (List Nat), TL.joinL [] ls = ls.flatten
  | [] => rfl
  | [p] => by simp [TL.joinL]
  | p :: q :: r => by
    show p ++ ([] ++ TL.joinL [] (q :: r)) = _
    rw [joinL_nil (q :: r)]
    rfl
theorem join_tl (ys : List Str) : (Txt.join "" ys).cps.toList = (ys.map fun y => y.cps.toList).flatten := by
  have e := TL.tl_join "" ys
  rw [← TL.join_eq] at e
  exact e.trans (joinL_nil _)
theorem join_sgn (ds : List Nat) : (Txt.join "" (ds.map sgn)).cps.toList = ds := by
  rw [join_tl, List.map_map]
  induction ds with
  | nil => rfl
  | cons d ds ih => rw [List.map_cons, List.flatten_cons, ih]; rfl
theorem sum_sgn : ∀ ds : List Nat, ((ds.map sgn).map (·.length)).sum = ds.length
  | [] => rfl
  | d :: ds => by
    rw [List.map_cons, List.map_cons, List.sum_cons, sum_sgn ds, List.length_cons]
    show 1 + _ = _
    omega
theorem join_len (ys : List Str) : (Txt.join "" ys).length = (ys.map (·.length)).sum := by
  rw [len_is, join_tl, List.length_flatten, List.map_map]
  congr 1
theorem at_figs {d : Nat} (h : d < 10) : atI figures.cps.toList (d : Int) = some (48 + d) := by
  have : d = 0 ∨ d = 1 ∨ d = 2 ∨ d = 3 ∨ d = 4 ∨ d = 5 ∨ d = 6 ∨ d = 7 ∨ d = 8 ∨ d = 9 := by omega
  rcases this with rfl | rfl | rfl | rfl | rfl | rfl | rfl | rfl | rfl | rfl <;> decide +kernel
/-! ### drawn numbers -/
def sp_great : Sp := fun vs H Q _ => ∃ c k : Int, vs = [.int c, .int k] ∧ 0 ≤ c ∧ c < 2147483647 ∧ 0 ≤ k ∧ k < 1000 ∧ ∀ g : Int, 0 ≤ g → g < 2147483648 ^ 8 → Q (.int g) H
theorem ok_great (T : Txt K mg) : Gf P w K mg base 2 "_law_great" [] sp_great := by
  refine gf_mk T.f__law_great T.m__law_great (fun _ _ _ _ _ _ us hl => match us, hl with | [_, _], _ => rfl) fun fd F => fn_mk F sc__law_great (fun vs H Q E h => ?_) fun cd A outer s H vs Q E hr tk po h => ?_
  · obtain ⟨c, k, rfl, _⟩ := h; rfl
  · obtain ⟨c, k, rfl, c0, c1, k0, k1, q⟩ := h
    have nd := sc__law_great.nd
    have n1 := T.n_range
    top_name
    refine lfor1 (n := 8) n1 po rfl (fun i σ H' => H = H' ∧ ∃ (g : Int) (v3 : Option V), 0 ≤ g ∧ g < 2147483648 ^ i ∧ σ = [some (.int c), some (.int k), some (.int g), v3]) rfl ?_
    top_name
    refine ⟨rfl, by decide, by decide, ⟨rfl, 0, none, by decide, by decide, rfl⟩, ?_, ?_⟩
    · rintro i σ H1 hi ⟨rfl, g, v3, g0, g1, rfl⟩
      top_name
      refine zmixed T hr rfl ?_
      top_name
      refine .mk (by omega) (by omega) (by omega) (by omega) ?_
      top_name
      refine ⟨rfl, _, _, ?_, ?_, rfl⟩
      · have := mixed_lo c (8 * k + i)
        omega
      · have := mixed_hi c (8 * k + i)
        rw [Int.pow_succ]
        omega
    · rintro σ H1 ⟨rfl, g, v3, g0, g1, rfl⟩
      top_name
      exact q g g0 g1
/-! ### a number written and read -/
def sp_ngood : Sp := fun vs H Q _ => ∃ n : Int, vs = [.int n] ∧ n.natAbs < 2 ^ 256 ∧ ∀ H', Ex H H' → Q (.bl true) H'
theorem ok_ngood (T : Txt K mg) : Gf P w K mg base 3 "_law_number_good" [] sp_ngood := by
  refine gf_mk T.f__law_number_good T.m__law_number_good (fun _ _ _ _ _ _ us hl => match us, hl with | [_], _ => rfl) fun fd F => fn_mk F sc__law_number_good (fun vs H Q E h => ?_) fun cd A outer s H vs Q E hr tk po h => ?_
  · obtain ⟨n, rfl, _⟩ := h; rfl
  · obtain ⟨n, rfl, hn, q⟩ := h
    have nd := sc__law_number_good.nd
    have n1 := T.n_isinstance
    have n2 := T.n_str
    have n3 := T.n_abs
    have n4 := T.n_int
    have n5 := T.n_reversed
    have hr1 : Room (1 + 1) _ := hr
    have hlog : n.natAbs.log2 < 1920 := by
      by_cases h0 : n.natAbs = 0
      · rw [h0]; decide
      · exact (Nat.log2_lt h0).mpr (Nat.lt_trans hn (Nat.pow_lt_pow_right (by decide) (by decide)))
    have hdl := num_small hn
    refine bcut (fun σ' H' => H = H' ∧ σ' = [some (.int n), some (.str (toString n)), none, none, none]) ?_ ?_
    · top_name
      refine zcall (ok_ntext T) hr1 (by decide) takesF rfl ?_
      top_name
      exact ⟨hlog, rfl, rfl⟩
    rintro _ _ ⟨rfl, rfl⟩
    refine bcut (fun σ' H' => Ex H H' ∧ ∃ L, H L = none ∧ H' L = some (.lst []) ∧ σ' = [some (.int n), some (.str (toString n)), some (.ref L), none, none]) ?_ ?_
    · top_name
      rename_i L H1 hL e1 hx
      exact ⟨e1, L, hL, hx, rfl⟩
    rintro _ H1 ⟨e1, L, hL0, hL, rfl⟩
    refine bcut (fun σ' H' => H1 = H' ∧ σ' = [some (.int n), some (.str (toString n)), some (.ref L), some (.int (n.natAbs : Int)), none]) ?_ ?_
    · top_name
      refine kabs ?_
      top_name
      refine ⟨rfl, ?_⟩
      show [_, _, _, some (V.int (if n < 0 then -n else n)), _] = _
      rw [show (if n < 0 then -n else n) = (n.natAbs : Int) from by split <;> omega]
    rintro _ _ ⟨rfl, rfl⟩
    refine bcut (fun σ' H' => Ex H H' ∧ ∃ ds : List Nat, H' L = some (.lst ((ds.map sgn).map V.str)) ∧ TL.numL n.natAbs = ds.reverse ∧ σ' = [some (.int n), some (.str (toString n)), some (.ref L), some (.int 0), none]) ?_ ?_
    · refine lwhile po (fun σ H' => Ex H H' ∧ ∃ (m : Nat) (ds : List Nat), σ = [some (.int n), some (.str (toString n)), some (.ref L), some (.int (m : Int)), none] ∧ H' L = some (.lst ((ds.map sgn).map V.str)) ∧ ((ds = [] ∧ m = n.natAbs) ∨ (ds ≠ [] ∧ TL.numL n.natAbs = (if m = 0 then [] else TL.numL m) ++ ds.reverse)))
        (fun σ H' => match σ with | [_, _, _, some (.int m), _] => 2 * m.toNat + (match H' L with | some (.lst []) => 1 | _ => 0) | _ => 0) ⟨e1, n.natAbs, [], rfl, hL, .inl ⟨rfl, rfl⟩⟩ ?_
      rintro σ H2 ⟨e2, m, ds, rfl, hx, hds⟩
      refine tcutE (decide (0 < m ∨ ds = [])) ?_ fun H3 e3 => ?_
      · top_name
        · rename_i h
          exact ⟨(decide_eq_true (.inl (by omega))).symm, Evl.Ex.refl _⟩
        · rename_i h U H3 hU e3 hxU
          refine oeqStrs (ys := ds.map sgn) (zs := []) hr (SqL.of (e3 _ _ hx)) (SqL.of hxU) ?_
          refine ⟨_, rfl, decide_eq_decide.mpr ?_, e3⟩
          rw [List.map_eq_nil_iff]
          exact ⟨fun z => .inr z, fun z => z.elim (fun z => by omega) id⟩
      refine ifd (fun hc => ?_) (fun hc => ?_)
      · have hx3 := e3 _ _ hx
        have e23 : Ex H H3 := e2.trans e3
        have hlen : ds.length ≤ 80 := by
          rcases hds with ⟨rfl, _⟩ | ⟨_, h⟩
          · decide
          · have := congrArg List.length h
            rw [List.length_append, List.length_reverse] at this
            omega
        top_name
        refine zapp ?_
        top_name
        refine ⟨L, _, rfl, hx3, ?_⟩
        top_name
        refine ixS (by decide +kernel) (show atI _ ((m : Int) % 10) = some (48 + m % 10) from by rw [show (m : Int) % 10 = ((m % 10 : Nat) : Int) from by omega]; exact at_figs (by omega)) ?_
        refine ⟨_, hx3, by rw [List.length_map, List.length_map, sizeLine_eq]; omega, ?_⟩
        top_name
        refine ⟨⟨Ex.past e23 hL0, m / 10, ds ++ [48 + m % 10], rfl, by rw [upd_same, List.map_append, List.map_append]; rfl, .inr ⟨by simp, ?_⟩⟩, ?_⟩
        · rw [List.reverse_append]
          show _ = _ ++ ((48 + m % 10) :: ds.reverse)
          rcases hds with ⟨rfl, rfl⟩ | ⟨hne, h⟩
          · by_cases h10 : n.natAbs < 10
            · rw [if_pos (by omega), TL.numL_lt h10, Nat.mod_eq_of_lt h10]; rfl
            · rw [if_neg (by omega), TL.numL_step (by omega)]; rfl
          · have hm : 0 < m := hc.elim id fun z => absurd z hne
            rw [if_neg (by omega)] at h
            rw [h]
            by_cases h10 : m < 10
            · rw [if_pos (by omega), TL.numL_lt h10, Nat.mod_eq_of_lt h10]; rfl
            · rw [if_neg (by omega), TL.numL_step (by omega), List.append_assoc]; rfl
        · show 2 * ((m : Int) / 10).toNat + (match upd H3 L (.lst ((ds.map sgn).map V.str ++ [V.str ⟨#[48 + m % 10]⟩])) L with | some (.lst []) => 1 | _ => 0) < 2 * (m : Int).toNat + (match H2 L with | some (.lst []) => 1 | _ => 0)
          rw [upd_same, hx]
          cases ds with
          | nil =>
            show 2 * ((m : Int) / 10).toNat + 0 < 2 * (m : Int).toNat + 1
            omega
          | cons d r =>
            show 2 * ((m : Int) / 10).toNat + 0 < 2 * (m : Int).toNat + 0
            have : 0 < m := hc.elim id fun z => by cases z
            omega
      · have hm : m = 0 := by omega
        subst hm
        refine ⟨e2.trans e3, ds, e3 _ _ hx, ?_, rfl⟩
        rcases hds with ⟨rfl, _⟩ | ⟨_, h⟩
        · exact absurd (.inr rfl) hc
        · rw [h]; rfl
    rintro _ H2 ⟨e2, ds, hx, hds, rfl⟩
    have hdz : ds.length ≤ 80 := by
      have := congrArg List.length hds
      rw [List.length_reverse] at this
      omega
    have hdue : Txt.mul "-" (if (decide (n < 0)) = true then 1 else 0) ++ Txt.join "" (ds.map sgn).reverse = (toString n : Str) := by
      refine str_ext ?_
      have e := tl_numI n
      show ((Txt.mul "-" _).cps ++ (Txt.join "" (ds.map sgn).reverse).cps).toList = (Str.ofString (toString n)).cps.toList
      rw [Array.toList_append, e, ← List.map_reverse, join_sgn, ← hds]
      by_cases h : n < 0
      · rw [if_pos h, decide_eq_true h]
        rfl
      · rw [if_neg h, decide_eq_false h]
        rfl
    refine bcut (fun σ' H' => H2 = H' ∧ σ' = [some (.int n), some (.str (toString n)), some (.ref L), some (.int 0), some (.str (toString n))]) ?_ ?_
    · top_name
      refine kintB ?_
      refine osmul (mulOk_of 1 1 (by decide) (by split <;> decide) (by split <;> decide) (by decide) (by decide)) ?_
      refine zjoinRev rfl rfl n5 ?_
      top_name
      refine ⟨⟨_, rfl⟩, ?_⟩
      top_name
      refine ⟨"", L, ds.map sgn, rfl, rfl, SqL.of hx, ?_, ?_⟩
      · rw [← List.map_reverse, sum_sgn, List.length_reverse]
        show _ + _ * 0 ≤ _
        omega
      refine oadds (by
        have h1 : (Txt.mul "-" (if (decide (n < 0)) = true then 1 else 0)).length ≤ 1 := by split <;> decide
        rw [join_len, ← List.map_reverse, sum_sgn, List.length_reverse, sizeLine_eq]
        omega) ?_
      rw [hdue]
      exact ⟨rfl, rfl⟩
    rintro _ _ ⟨rfl, rfl⟩
    top_name
    · refine zcall (ok_alike T) hr1 (by decide) takesF rfl ?_
      top_name
      refine zcall (ok_number_of T) hr1 (by decide) takesF rfl ?_
      top_name
      refine ⟨.str (toString n), some (toString n : Str), rfl, .str _ (by have := num_len hn; omega), fun H3 e3 => ?_⟩
      top_name
      refine ⟨.int n, ?_, .int n, q _ (e2.trans e3)⟩
      show [numV (toString n : Str), V.int n] = _
      unfold numV
      rw [if_pos (num_ok hn), num_val]
    · rename_i h
      exact absurd rfl h
end K01

set_option maxRecDepth 100000
set_option maxHeartbeats 4000000
set_option pp.maxSteps 1500
namespace K01
open PySem PySem.Spec PyProof.Rows L2 Z
open Evl (Ex)
variable {P : Program} {w : World} {K : PySem.W.Frag} {mg : Str → Option Value} {base : Heap}
/-! ### steps of the walk: one_sign: a heap grew into another; one_item: what stands at an address; one_place: a list or tuple to be read; leaf_len: arithmetic; tb_rel: one step; top_name: steps as far as they go -/
local macro_rules | `(tactic| got_up) => `(tactic| (refine Evl.Ex.trans (by assumption) ?_; first | assumption | exact Evl.Ex.refl _ | got_up))
local macro_rules | `(tactic| units_room) => `(tactic| (refine Evl.Ex.trans ?_ (by assumption); first | assumption | exact Evl.Ex.refl _ | units_room))
local macro_rules | `(tactic| one_sign) => `(tactic| first | assumption | exact Evl.Ex.refl _ | got_up | units_room)
local macro_rules | `(tactic| one_item) => `(tactic| first | assumption | exact upd_same | exact exa (by assumption) (by one_sign))
local macro_rules | `(tactic| one_place) => `(tactic| first | assumption | exact SqL.of (by assumption) | exact SqT.of (by assumption) | exact exl (by assumption) (by one_sign) | exact ext (by assumption) (by one_sign) | exact SqL.of (by one_item) | exact SqT.of (by one_item))
local macro_rules | `(tactic| leaf_len) => `(tactic| first | assumption | decide | omega)
local macro_rules | `(tactic| tb_rel) => `(tactic| first
  | ((with_reducible refine (?_ : wE _ _ _ _ _)); first
    | ((with_reducible refine (?_ : wE _ (.Name _ _) _ _ _)); first | refine zn (by rfl) (by first | exact Or.inl rfl | exact Or.inr (Or.inl rfl) | exact Or.inr (Or.inr rfl)) (by rfl) ?_ | refine zglob (by assumption) (by rfl) ?_ | refine zcls (by assumption) (by rfl) ?_ | refine zty (by assumption) (by first | exact bt_int | exact bt_bool | exact bt_str | exact bt_list | exact bt_tuple | exact bt_dict | exact bt_ValueError) (by rfl) ?_)
    | ((with_reducible refine (?_ : wE _ (.Constant _ _ _) _ _ _)); first | refine zint ?_ | refine zstr ?_ | refine zbl ?_ | refine znon ?_)
    | ((with_reducible refine (?_ : wE _ (.BinOp _ _ _ _) _ _ _)); refine zbin ?_)
    | ((with_reducible refine (?_ : wE _ (.Compare _ _ _ _) _ _ _)); first | refine zcmp (by rfl) ?_ | refine zchain ?_)
    | ((with_reducible refine (?_ : wE _ (.Dict [] [] _) _ _ _)); refine zdnew (fun _ _ _ _ _ => ?_))
    | ((with_reducible refine (?_ : wE _ (.Subscript _ (.Slice _ _ _ _) _) _ _ _)); refine zsl ?_)
    | ((with_reducible refine (?_ : wE _ (.Subscript _ _ _) _ _ _)); refine zix ?_)
    | ((with_reducible refine (?_ : wE _ (.Call (.Name "list" _) [.Call (.Name "range" _) [_] [] _] [] _) _ _ _)); refine zlrg1 rfl (by rfl) (by assumption) (by rfl) (by assumption) ?_)
    | ((with_reducible refine (?_ : wE _ (.Call (.Name _ _) _ _ _) _ _ _)); first
      | ((with_reducible refine (?_ : wE _ (.Call (.Name "len" _) _ _ _) _ _ _)); refine zbfn (by assumption) bt_len (by rfl) ?_)
      | ((with_reducible refine (?_ : wE _ (.Call (.Name "isinstance" _) _ _ _) _ _ _)); refine zbfn (by assumption) bt_isi (by rfl) ?_)
      | ((with_reducible refine (?_ : wE _ (.Call (.Name "min" _) _ _ _) _ _ _)); refine zbfn (by assumption) bt_min (by rfl) ?_)
      | ((with_reducible refine (?_ : wE _ (.Call (.Name "max" _) _ _ _) _ _ _)); refine zbfn (by assumption) bt_max (by rfl) ?_)
      | ((with_reducible refine (?_ : wE _ (.Call (.Name "list" _) _ _ _) _ _ _)); refine zbty (by assumption) bt_list (by rfl) ?_)
      | ((with_reducible refine (?_ : wE _ (.Call (.Name "tuple" _) _ _ _) _ _ _)); refine zbty (by assumption) bt_tuple (by rfl) ?_)
      | ((with_reducible refine (?_ : wE _ (.Call (.Name "int" _) _ _ _) _ _ _)); refine zbty (by assumption) bt_int (by rfl) ?_)
      | ((with_reducible refine (?_ : wE _ (.Call (.Name "abs" _) _ _ _) _ _ _)); refine zbfn (by assumption) bt_abs (by rfl) ?_)
      | ((with_reducible refine (?_ : wE _ (.Call (.Name "all" _) _ _ _) _ _ _)); refine zbfn (by assumption) bt_all (by rfl) ?_)
      | ((with_reducible refine (?_ : wE _ (.Call (.Name "sum" _) _ _ _) _ _ _)); refine zbfn (by assumption) bt_sum (by rfl) ?_)
      | ((with_reducible refine (?_ : wE _ (.Call (.Name "divmod" _) _ _ _) _ _ _)); refine zbfn (by assumption) bt_divmod (by rfl) ?_)
      | ((with_reducible refine (?_ : wE _ (.Call (.Name "ord" _) _ _ _) _ _ _)); refine zbfn (by assumption) bt_ord (by rfl) ?_))
    | ((with_reducible refine (?_ : wE _ (.IfExp _ _ _ _) _ _ _)); refine zif ?_)
    | ((with_reducible refine (?_ : wE _ (.Tuple _ _ _) _ _ _)); refine ztup ?_)
    | ((with_reducible refine (?_ : wE _ (.List _ _) _ _ _)); refine zlst ?_)
    | ((with_reducible refine (?_ : wE _ (.UnaryOp _ _ _) _ _ _)); first | refine znotV ?_ | refine zneg ?_)
    | ((with_reducible refine (?_ : wE _ (.BoolOp _ _ _) _ _ _)); first | refine zandV ?_ | refine zorV ?_ | refine zoneV ?_))
  | ((with_reducible refine (?_ : bE _ _ _ _ _ _)); refine ⟨fun _ _ _ _ _ => ?_⟩) | ((with_reducible refine (?_ : bG _ _ _ _ _ _ _)); refine ⟨fun _ _ _ _ _ => ?_⟩) | ((with_reducible refine (?_ : bTs _ _ _ _ _ _)); refine ⟨fun _ _ _ _ _ => ?_⟩)
  | ((with_reducible refine (?_ : hE _ _ _ _ _ _)); refine ⟨fun _ _ _ _ _ => ?_⟩) | ((with_reducible refine (?_ : hG _ _ _ _ _ _ _)); refine ⟨fun _ _ _ _ _ => ?_⟩) | ((with_reducible refine (?_ : hTs _ _ _ _ _ _)); refine ⟨fun _ _ _ _ _ => ?_⟩)
  | ((with_reducible refine (?_ : wP _ _ _ _ _)); first | refine pnon ?_ | refine psom ?_) | ((with_reducible refine (?_ : wSl _ _ _ _ _ _)); first | refine slL (by one_place) (fun _ _ _ _ _ => ?_) | refine slS (by assumption) ?_)
  | ((with_reducible refine (?_ : wTs _ _ _ _ _)); first | refine tsnil ?_ | refine tsone ?_)
  | ((with_reducible refine (?_ : wA _ _ _ _ _)); first | refine acons ?_ | refine anil ?_)
  | ((with_reducible refine (?_ : wO _ _ _ _ _ _)); first
    | ((with_reducible refine (?_ : wO _ (binaryOp .Add) _ _ _ _)); first | refine oadd ?_ | refine ocatE (by one_item) (by one_item) (Nat.le_of_ble_eq_true rfl) (fun _ _ _ _ _ => ?_))
    | ((with_reducible refine (?_ : wO _ (binaryOp .Sub) _ _ _ _)); first | refine osub ?_)
    | ((with_reducible refine (?_ : wO _ (binaryOp .Mult) _ _ _ _)); first | refine omul (by first | exact IntMulOk.of_right (by decide) | exact IntMulOk.of_left (by decide) | exact IntMulOk.of_right (intBits_le_64 (by omega) (by omega)) | exact IntMulOk.of_left (intBits_le_64 (by omega) (by omega))) ?_)
    | ((with_reducible refine (?_ : wO _ (binaryOp .Mod) _ _ _ _)); first | refine omod (by first | decide | omega) ?_)
    | ((with_reducible refine (?_ : wO _ (binaryOp .FloorDiv) _ _ _ _)); first | refine ofdiv ⟨by first | decide | omega, by decide⟩ ?_)
    | ((with_reducible refine (?_ : wO _ (binaryOp .BitAnd) _ _ _ _)); first | refine oand ?_)
    | ((with_reducible refine (?_ : wO _ (binaryOp .BitOr) _ _ _ _)); first | refine oor ?_)
    | ((with_reducible refine (?_ : wO _ (compareOp .Lt) _ _ _ _)); first | refine olt ?_)
    | ((with_reducible refine (?_ : wO _ (compareOp .LtE) _ _ _ _)); first | refine ole ?_)
    | ((with_reducible refine (?_ : wO _ (compareOp .Gt) _ _ _ _)); first | refine ogt ?_)
    | ((with_reducible refine (?_ : wO _ (compareOp .GtE) _ _ _ _)); first | refine oge ?_)
    | ((with_reducible refine (?_ : wO _ (compareOp .Eq) _ _ _ _)); first | refine oeqi ?_ | refine oeq (by rfl) ?_)
    | ((with_reducible refine (?_ : wO _ (compareOp .NotEq) _ _ _ _)); first | refine onei ?_ | refine one (by rfl) ?_)
    | ((with_reducible refine (?_ : wO _ (compareOp .In) _ _ _ _)); first | refine oin ?_)
    | ((with_reducible refine (?_ : wO _ (compareOp .NotIn) _ _ _ _)); first | refine onin ?_)
    | ((with_reducible refine (?_ : wO _ (compareOp .Is) _ _ _ _)); first | refine ois ?_)
    | ((with_reducible refine (?_ : wO _ (compareOp .IsNot) _ _ _ _)); first | refine onot ?_)
    | ((with_reducible refine (?_ : wO _ (binaryOp .RShift) _ _ _ _)); refine oshr (by first | decide | omega) ?_)
    | ((with_reducible refine (?_ : wO _ (binaryOp .BitXor) _ _ _ _)); refine oxor ?_)
    | ((with_reducible refine (?_ : wO _ (inplaceOp .BitXor) _ _ _ _)); refine ixor ?_)
    | ((with_reducible refine (?_ : wO _ (inplaceOp .RShift) _ _ _ _)); refine ishr (by first | decide | omega) ?_)
    | ((with_reducible refine (?_ : wO _ (inplaceOp .BitOr) _ _ _ _)); first | refine ior ?_)
    | ((with_reducible refine (?_ : wO _ (inplaceOp .Add) _ _ _ _)); first | refine iadd ?_))
  | ((with_reducible refine (?_ : wT _ _ _ _ _)); first
    | ((with_reducible refine (?_ : wT _ (.Compare _ _ _ _) _ _ _)); first | refine zcmpT (by rfl) ?_ | refine zchainT ?_)
    | ((with_reducible refine (?_ : wT _ (.UnaryOp _ _ _) _ _ _)); refine znotT ?_)
    | ((with_reducible refine (?_ : wT _ (.BoolOp _ _ _) _ _ _)); refine zW ?_)
    | refine zval ?_)
  | ((with_reducible refine (?_ : wW _ _ _ _ _)); first | refine zand ?_ | refine zor ?_ | refine zand1 ?_ | refine zor1 ?_)
  | ((with_reducible refine (?_ : wK _ _ _ _ _)); first
    | ((with_reducible refine (?_ : wK _ (.builtin "len") _ _ _)); first | refine klenL (by one_place) ?_ | refine klenT (by one_place) ?_ | refine klenS (by assumption) ?_)
    | ((with_reducible refine (?_ : wK _ (.builtin "isinstance") _ _ _)); first | refine kisE (by assumption) (by assumption) (by first | assumption | exact Xd.exx (by assumption) (by one_sign)) (by first | exact .own _ | exact .ty _) (by assumption) ?_ | refine kisi (.ty _) (by assumption) (by assumption) ?_ | refine kisi (.ty _) (.base (by first | exact .int _ | exact .bl _ | exact .str _ | exact .non | exact .tup (by one_item) | exact .lst (by one_item))) (kit_ty (r := true) (by rfl)) ?_ | refine kisi (.ty _) (.base (by first | exact .int _ | exact .bl _ | exact .str _ | exact .non | exact .tup (by one_item) | exact .lst (by one_item))) (kit_ty (r := false) (by rfl)) ?_)
    | ((with_reducible refine (?_ : wK _ (.builtin "divmod") _ _ _)); refine kdivmod ⟨by first | decide | omega, by decide⟩ (fun _ _ _ _ _ => ?_))
    | ((with_reducible refine (?_ : wK _ (.builtin "min") _ _ _)); refine kmin (by rfl) ?_)
    | ((with_reducible refine (?_ : wK _ (.builtin "max") _ _ _)); refine kmax (by rfl) ?_)
    | ((with_reducible refine (?_ : wK _ (.type "list") _ _ _)); first | refine klistL (by one_place) (fun _ _ _ _ _ => ?_) | refine klistT (by one_place) (fun _ _ _ _ _ => ?_))
    | ((with_reducible refine (?_ : wK _ (.type "tuple") _ _ _)); first | refine ktupL (by one_place) (fun _ _ _ _ _ => ?_)))
  | ((with_reducible refine (?_ : wS _ _ _ _ _)); first
    | ((with_reducible refine (?_ : wS _ (.Assign [.Name _ _] _ _) _ _ _)); refine sset' (by assumption) (by rfl) (by first | exact Or.inl rfl | exact Or.inr rfl) (by rfl) (by first | exact .inl rfl | exact .inr rfl) ?_)
    | ((with_reducible refine (?_ : wS _ (.AugAssign (.Name _ _) _ _ _) _ _ _)); refine saug' (by assumption) (by rfl) (by first | exact Or.inl rfl | exact Or.inr rfl) (by first | exact .inl rfl | exact .inr rfl) (by rfl) ?_)
    | ((with_reducible refine (?_ : wS _ (.Expr _ _) _ _ _)); refine sexp ?_)
    | ((with_reducible refine (?_ : wS _ (.Assign [.Tuple _ _ _] _ _) _ _ _)); refine sasg ?_) | ((with_reducible refine (?_ : wS _ (.Assign [.Subscript _ _ _] _ _) _ _ _)); refine sasg ?_)
    | refine sret ?_ | refine sif ?_ | refine sretN ?_ | refine spass ?_ | refine sbrk ?_ | refine scont ?_)
  | ((with_reducible refine (?_ : wG _ (.Name _ _) _ _ _ _)); refine gname' (by assumption) (by rfl) (by first | exact Or.inl rfl | exact Or.inr rfl) (by first | exact .inl rfl | exact .inr rfl) ?_)
  | ((with_reducible refine (?_ : wG _ (.Tuple _ _ _) _ _ _ _)); refine gtup rfl (by one_place) rfl ?_) | ((with_reducible refine (?_ : wG _ (.Subscript _ _ _) _ _ _ _)); refine gsub ?_)
  | ((with_reducible refine (?_ : wGs _ _ _ _ _ _)); first | refine gscons ?_ | refine gsnil ?_)
  | ((with_reducible refine (?_ : wB _ _ _ _ _)); first | refine bcons ?_ | refine bnil ?_)
  | refine ifT ?_ | refine ifF ?_ | refine ifd (fun _ => ?_) (fun _ => ?_) | refine ifnd (fun _ => ?_) (fun _ => ?_) | refine ⟨_, rfl, ?_⟩ | refine ⟨rfl, Evl.Ex.refl _, ?_⟩ | refine ⟨Nat.le_of_ble_eq_true rfl, fun _ _ _ _ _ => ?_⟩ | fail)
local macro_rules | `(tactic| top_name) => `(tactic| repeat' tb_rel)
local macro_rules | `(tactic| nest_fact) => `(tactic| first | exact ⟨(decide_eq_true (by omega)).symm, rfl⟩ | exact ⟨(decide_eq_false (by omega)).symm, rfl⟩ | exact ⟨decide_eq_decide.mpr (by omega), rfl⟩ | fail)
/-! ### texts that are drawn -/
theorem ok_lsigns (T : Txt K mg) : Gf P w K mg base 1 "_law_signs" [] (fun vs H Q _ => vs = [] ∧ ∀ x : Str, x.length = 94 → Q (.str x) H) := by
  refine gf_mk T.f__law_signs T.m__law_signs (fun _ _ _ _ _ _ us hl => match us, hl with | [], _ => rfl) fun fd F => fn_mk F sc__law_signs (fun vs H Q E h => ?_) fun cd A outer s H vs Q E hr tk po h => ?_
  · obtain ⟨rfl, _⟩ := h; rfl
  · obtain ⟨rfl, q⟩ := h
    have nd := sc__law_signs.nd
    top_name
    refine oadds (by decide +kernel) ?_
    exact q _ (by decide +kernel)
def accS (f : Nat → Str) (j : Nat) : List V := ((List.range j).map f).map V.str
theorem accS_succ (f : Nat → Str) (j : Nat) : accS f (j + 1) = accS f j ++ [.str (f j)] := by unfold accS; rw [List.range_succ]; simp
theorem accS_len (f : Nat → Str) (j : Nat) : (accS f j).length = j := by unfold accS; simp
theorem atS {z : Str} {i n : Int} (h0 : 0 ≤ i) (h1 : i < n) (hn : (z.length : Int) = n) : atI z.cps.toList i = some (z.cps.toList.getD i.toNat 0) := by
  rw [show i = ((i.toNat : Nat) : Int) from by omega]
  refine atI_nat ?_
  rw [Int.toNat_natCast, List.getD_eq_getElem?_getD, List.getElem?_eq_getElem (by rw [← len_is]; omega)]
  rfl
theorem dig_len {i : Int} (h0 : 0 ≤ i) (h1 : i < 10) : (toString i : Str).length = 1 := by
  have e := tl_numI i
  rw [if_neg (by omega), TL.numL_lt (show i.natAbs < 10 by omega)] at e
  show (Str.ofString (toString i)).length = 1
  rw [len_is, e]
  rfl
theorem letters_len : (("abcdefghijklmnopqrstuvwxyz" : Str).length : Int) = 26 := by decide +kernel
theorem log_small {i : Int} (h0 : 0 ≤ i) (h1 : i < 10) : i.natAbs.log2 < 1920 := by
  by_cases e : i.natAbs = 0
  · rw [e]; decide
  · exact (Nat.log2_lt e).mpr (Nat.lt_trans (show i.natAbs < 2 ^ 4 by omega) (Nat.pow_lt_pow_right (by decide) (by decide)))
theorem sum_le : ∀ (ys : List Str) (n : Nat), (∀ y ∈ ys, y.length ≤ n) → (ys.map (·.length)).sum ≤ n * ys.length
  | [], _, _ => Nat.zero_le _
  | y :: ys, n, h => by
    rw [List.map_cons, List.sum_cons, List.length_cons, Nat.mul_succ]
    have := sum_le ys n fun z hz => h z (List.mem_cons_of_mem _ hz)
    have := h y List.mem_cons_self
    omega
def sp_text : Sp := fun vs H Q _ => ∃ c : Int, vs = [.int c] ∧ 0 ≤ c ∧ c < 2147483647 ∧ ∀ (x : Str) H', x.length ≤ 1000 → Ex H H' → Q (.str x) H'
theorem ok_text (T : Txt K mg) : Gf P w K mg base 2 "_law_text" [] sp_text := by
  refine gf_mk T.f__law_text T.m__law_text (fun _ _ _ _ _ _ us hl => match us, hl with | [_], _ => rfl) fun fd F => fn_mk F sc__law_text (fun vs H Q E h => ?_) fun cd A outer s H vs Q E hr tk po h => ?_
  · obtain ⟨c, rfl, _⟩ := h; rfl
  · obtain ⟨c, rfl, c0, c1, q⟩ := h
    have nd := sc__law_text.nd
    have n1 := T.n_range
    have n2 := T.n_str
    have n3 := T.n_len
    have hr0 : Room (0 + 1) _ := hr
    refine bcut (fun σ' H' => H = H' ∧ σ' = [some (.int c), some (.str letters), none, none, none, none]) (by top_name; exact ⟨rfl, rfl⟩) ?_
    rintro _ _ ⟨rfl, rfl⟩
    refine bcut (fun σ' H' => H = H' ∧ σ' = [some (.int c), some (.str letters), some (.int (c % 5)), none, none, none]) (by top_name; exact ⟨rfl, rfl⟩) ?_
    rintro _ _ ⟨rfl, rfl⟩
    refine bcut (fun σ' H' => Ex H H' ∧ ∃ z : Int, 0 ≤ z ∧ z ≤ 14 ∧ σ' = [some (.int c), some (.str letters), some (.int (c % 5)), some (.int z), none, none]) ?_ ?_
    · top_name
      rename_i t H1 ht e1 hx
      obtain ⟨b, hb, hi⟩ := atN (ns := [c / 5 % 15, 11 + c / 5 % 3, 1 + c / 5 % 3]) (k := c / 75 % 3) (by omega) (by show _ < ((3 : Nat) : Int); omega)
      have hb2 : b = c / 5 % 15 ∨ b = 11 + c / 5 % 3 ∨ b = 1 + c / 5 % 3 := by simpa using hb
      exact ixL (by one_place) hi ⟨e1, b, by omega, by omega, rfl⟩
    rintro _ H1 ⟨e1, z, z0, z1, rfl⟩
    refine bcut (fun σ' H' => Ex H H' ∧ ∃ (L : Addr) (ys : List Str), H L = none ∧ H' L = some (.lst (ys.map V.str)) ∧ (∀ y ∈ ys, y.length ≤ 2) ∧ ys.length ≤ 90 ∧ σ' = [some (.int c), some (.str letters), some (.int (c % 5)), some (.int z), some (.ref L), none]) ?_ ?_
    · top_name
      · refine slc (i := 4) (y := "_law_word") rfl nd rfl rfl [("_law_j", 5)] (blkOk_by (N := N__law_text) (sc := defScope s__law_text) (by decide +kernel)) (piR1 n1 rfl) (sw_true rfl rfl rfl (by decide +kernel)) (tmR1 (n := z) (accS fun j => ⟨#[letters.cps.toList.getD (mixed c j % 26).toNat 0]⟩) rfl ?_)
        top_name
        refine ⟨rfl, by omega, by omega, fun j H2 hj e2 => ?_, fun L H2 hL e2 hx => ?_⟩
        · top_name
          refine zmixed T hr rfl ?_
          top_name
          refine .mk (by omega) (by omega) (by omega) (by omega) ?_
          top_name
          refine ixS (by decide +kernel) (atS (n := 26) (by omega) (by omega) letters_len) ?_
          exact ⟨accS_succ _ _, by rw [accS_len, sizeLine_eq]; omega, Evl.Ex.refl _⟩
        · (repeat refine bnil ?_)
          refine ⟨e1.trans e2, L, _, Evl.fresh_back e1 hL, hx, fun y hy => ?_, by simp; omega, rfl⟩
          obtain ⟨j, _, rfl⟩ := List.mem_map.mp hy
          show 1 ≤ 2
          decide
      · obtain ⟨m, hm, hm2⟩ : ∃ m : Int, atI ([z, 78 + c / 5 % 5].map V.int) (c / 225 % 2) = some (.int m) ∧ 0 ≤ m ∧ m ≤ 82 := by
          have : c / 225 % 2 = 0 ∨ c / 225 % 2 = 1 := by omega
          rcases this with h | h <;> rw [h]
          · exact ⟨_, rfl, by omega, by omega⟩
          · exact ⟨_, rfl, by omega, by omega⟩
        refine slc (i := 4) (y := "_law_word") rfl nd rfl rfl [("_law_j", 5)] (blkOk_by (N := N__law_text) (sc := defScope s__law_text) (by decide +kernel)) (piR1 n1 rfl) (sw_true rfl rfl rfl (by decide +kernel)) (tmR1 (n := m) (accS fun j => (toString (mixed c j % 10) : Str)) rfl ?_)
        top_name
        rename_i t H2 ht e2 hx
        refine ixL (by one_place) hm ?_
        top_name
        refine ⟨rfl, by omega, by omega, fun j H3 hj e3 => ?_, fun L H3 hL e3 hx3 => ?_⟩
        · top_name
          refine zbty n2 bt_str (by rfl) ?_
          top_name
          refine zmixed T hr rfl ?_
          top_name
          refine .mk (by omega) (by omega) (by omega) (by omega) ?_
          top_name
          refine kstrI (log_small (by omega) (by omega)) ?_
          exact ⟨accS_succ _ _, by rw [accS_len, sizeLine_eq]; omega, Evl.Ex.refl _⟩
        · (repeat refine bnil ?_)
          refine ⟨e1.trans (e2.trans e3), L, _, Evl.fresh_back (e1.trans e2) hL, hx3, fun y hy => ?_, by simp; omega, rfl⟩
          obtain ⟨j, _, rfl⟩ := List.mem_map.mp hy
          rw [dig_len (by omega) (by omega)]
          decide
      · rename_i o1 H2 ho1 e2 hx2
        obtain ⟨m, hm, hm2⟩ : ∃ m : Int, atI ([z, 79 + c / 5 % 3].map V.int) (c / 225 % 2) = some (.int m) ∧ 0 ≤ m ∧ m ≤ 82 := by
          have : c / 225 % 2 = 0 ∨ c / 225 % 2 = 1 := by omega
          rcases this with h | h <;> rw [h]
          · exact ⟨_, rfl, by omega, by omega⟩
          · exact ⟨_, rfl, by omega, by omega⟩
        refine zlc rfl nd [("_law_j", 5)] (blkOk_by (N := N__law_text) (sc := defScope s__law_text) (by decide +kernel)) (piR1 n1 rfl) (tmR1 (n := m) (accS fun j => (toString (mixed c j % 10) : Str)) rfl ?_)
        top_name
        rename_i t H3 ht e3 hx3
        refine ixL (by one_place) hm ?_
        top_name
        refine ⟨rfl, by omega, by omega, fun j H4 hj e4 => ?_, fun L H4 hL e4 hx4 => ?_⟩
        · top_name
          refine zbty n2 bt_str (by rfl) ?_
          top_name
          refine zmixed T hr rfl ?_
          top_name
          refine .mk (by omega) (by omega) (by omega) (by omega) ?_
          top_name
          refine kstrI (log_small (by omega) (by omega)) ?_
          exact ⟨accS_succ _ _, by rw [accS_len, sizeLine_eq]; omega, Evl.Ex.refl _⟩
        · refine ocatE (e4 _ _ (e3 _ _ hx2)) hx4 (by rw [accS_len, sizeLine_eq]; show 1 + _ ≤ _; omega) fun p H5 hp e5 hx5 => ?_
          have ee : Ex H H4 := e1.trans (e2.trans (e3.trans e4))
          (repeat refine bnil ?_)
          refine ⟨ee.trans e5, p, "-" :: (List.range m.toNat).map (fun (j : Nat) => (toString (mixed c j % 10) : Str)), Evl.fresh_back ee hp, hx5, fun y hy => ?_, by simp; omega, rfl⟩
          rcases List.mem_cons.mp hy with rfl | hy
          · decide
          obtain ⟨j, _, rfl⟩ := List.mem_map.mp hy
          rw [dig_len (by omega) (by omega)]
          decide
      · refine slc (i := 4) (y := "_law_word") rfl nd rfl rfl [("_law_j", 5)] (blkOk_by (N := N__law_text) (sc := defScope s__law_text) (by decide +kernel)) (piR1 n1 rfl) (sw_true rfl rfl rfl (by decide +kernel)) (tnR1 (n := z) (fun j ws _ => ∃ ys : List Str, ws = ys.map V.str ∧ ys.length = j ∧ ∀ y ∈ ys, y.length = 1) (fun _ _ _ _ g _ => g) (fun _ => ⟨[], rfl, rfl, fun _ h => nomatch h⟩) ?_)
        top_name
        refine ⟨rfl, by omega, by omega, fun j H2 L ws hj e2 hL hw g => ?_, fun L H2 ws hL e2 hw g => ?_⟩
        · obtain ⟨ys, rfl, hyl, hy1⟩ := g
          top_name
          refine zcall0 (ok_lsigns T) hr0 (by decide) takesF rfl ?_
          refine ⟨rfl, fun x hx => ?_⟩
          top_name
          refine zmixed T hr rfl ?_
          top_name
          refine .mk (by omega) (by omega) (by omega) (by omega) ?_
          top_name
          refine ixS (by rw [hx]; decide) (atS (n := 94) (by omega) (by omega) (by rw [hx]; rfl)) ?_
          refine ⟨by rw [List.length_map, hyl, sizeLine_eq]; omega, Evl.Ex.refl _, ys ++ [_], by rw [List.map_append]; rfl, by rw [List.length_append, hyl]; rfl, fun y hy => ?_⟩
          rcases List.mem_append.mp hy with hy | hy
          · exact hy1 y hy
          · rw [List.mem_singleton.mp hy]; rfl
        · obtain ⟨ys, rfl, hyl, hy1⟩ := g
          (repeat refine bnil ?_)
          exact ⟨e1.trans e2, L, ys, Evl.fresh_back e1 hL, hw, fun y hy => by rw [hy1 y hy]; decide, by omega, rfl⟩
    clear e1
    rintro _ H2 ⟨e2, L, ys, hL0, hL, hy2, hyl, rfl⟩
    refine bcut (fun σ' H' => Ex H H' ∧ ∃ (L : Addr) (ys : List Str), H L = none ∧ H' L = some (.lst (ys.map V.str)) ∧ (∀ y ∈ ys, y.length ≤ 2) ∧ ys.length ≤ 90 ∧ σ' = [some (.int c), some (.str letters), some (.int (c % 5)), some (.int z), some (.ref L), none]) ?_ ?_
    · top_name
      · rename_i h1 U H3 hU e3 hxU
        refine oneStrs (ys := ys) (zs := []) hr (SqL.of (e3 _ _ hL)) (SqL.of hxU) ?_
        top_name
        · rename_i hne
          have hpos : 0 < ys.length := by
            cases ys with
            | nil => exact absurd rfl hne
            | cons _ _ => simp
          refine ixS (by decide +kernel) (atS (z := "0-A _\t\n9az+.") (n := 12) (by omega) (by omega) (by decide +kernel)) ?_
          top_name
          have hm0 := Int.emod_nonneg (c / 1800) (show ((ys.length : Nat) : Int) ≠ 0 by omega)
          have hm1 := Int.emod_lt_of_pos (c / 1800) (show (0 : Int) < ((ys.length : Nat) : Int) by omega)
          have hlm : (ys.map V.str).length = ys.length := List.length_map ..
          rw [hlm]
          refine omod (by omega) ?_
          refine seL (e3 _ _ hL) (show ixN _ (c / 1800 % (ys.length : Int)) = some (c / 1800 % (ys.length : Int)).toNat from ?_) ?_
          · unfold ixN
            rw [if_pos hm0, if_pos (by rw [List.length_map]; exact hm1)]
          (repeat refine bnil ?_)
          refine ⟨Ex.past (e2.trans e3) hL0, L, ys.set (c / 1800 % (ys.length : Int)).toNat _, hL0, by rw [upd_same, List.map_set], fun y hy => ?_, by rw [List.length_set]; exact hyl, rfl⟩
          rcases List.mem_or_eq_of_mem_set hy with hy | rfl
          · exact hy2 y hy
          · show 1 ≤ 2
            decide
        · exact ⟨e2.trans e3, L, ys, hL0, e3 _ _ hL, hy2, hyl, rfl⟩
      · exact ⟨e2, L, ys, hL0, hL, hy2, hyl, rfl⟩
    clear hyl hy2 hL hL0 ys L e2
    rintro _ H3 ⟨e3, L, ys, hL0, hL, hy2, hyl, rfl⟩
    refine bcut (fun σ' H' => Ex H H' ∧ ∃ (L : Addr) (ys : List Str), H' L = some (.lst (ys.map V.str)) ∧ (∀ y ∈ ys, y.length ≤ 2) ∧ ys.length ≤ 99 ∧ σ' = [some (.int c), some (.str letters), some (.int (c % 5)), some (.int z), some (.ref L), none]) ?_ ?_
    · top_name
      · rename_i h1 o1 G1 ho1 g1 hx1 o2 G2 ho2 g2 hx2 o3 G3 ho3 g3 hx3
        have hv : ∃ u : Str, cutV (cutV [V.str "0", V.str "-", V.str "00", V.str "-0"] (some (c / 1800 % 4)) none) none (some 1) = [.str u] ∧ u.length ≤ 2 := by
          have hc : c / 1800 % 4 = 0 ∨ c / 1800 % 4 = 1 ∨ c / 1800 % 4 = 2 ∨ c / 1800 % 4 = 3 := by omega
          rcases hc with h | h | h | h <;> rw [h]
          · exact ⟨_, rfl, by decide⟩
          · exact ⟨_, rfl, by decide⟩
          · exact ⟨_, rfl, by decide⟩
          · exact ⟨_, rfl, by decide⟩
        obtain ⟨u, hu, hul⟩ := hv
        rw [hu] at hx3
        refine ocatE hx3 (g3 _ _ (g2 _ _ (g1 _ _ hL))) (by rw [List.length_map, sizeLine_eq]; show 1 + _ ≤ _; omega) fun p H4 hp e4 hx4 => ?_
        (repeat refine bnil ?_)
        refine ⟨e3.trans (g1.trans (g2.trans (g3.trans e4))), p, u :: ys, hx4, fun y hy => ?_, by rw [List.length_cons]; omega, rfl⟩
        rcases List.mem_cons.mp hy with rfl | hy
        · exact hul
        · exact hy2 y hy
      · exact ⟨e3, L, ys, hL, hy2, by omega, rfl⟩
    clear hyl hy2 hL hL0 ys L e3
    rintro _ H4 ⟨e4, L, ys, hL, hy2, hyl, rfl⟩
    have hsum := sum_le ys 2 hy2
    top_name
    refine zjoin ?_
    top_name
    refine ⟨⟨_, rfl⟩, ?_⟩
    top_name
    refine ⟨"", L, ys, rfl, rfl, .inl (SqL.of hL), by show _ + _ * 0 ≤ _; omega, ?_⟩
    exact q _ _ (by rw [join_len]; omega) e4
/-! ### lines -/
theorem mem_cut {xs : List V} {lo hi : Option Int} {v : V} (h : v ∈ cutV xs lo hi) : v ∈ xs := List.mem_of_mem_drop (List.mem_of_mem_take h)
def sp_line (K : PySem.W.Frag) : Sp := fun vs H Q _ => ∃ (a : Addr) (ns : List Int), vs = [.ref a] ∧ SqL K H a (ns.map V.int) ∧ ns.length ≤ 63 ∧ (∀ z ∈ ns, Builtin.Int.intBits z ≤ 1048576) ∧ ∀ (x : Str) H', x.length ≤ 100000 → Ex H H' → Q (.str x) H'
theorem app_len (u z : Str) : (u ++ z).length = u.length + z.length := by show (u.cps ++ z.cps).size = _; rw [Array.size_append]; rfl
theorem ok_line (T : Txt K mg) : Gf P w K mg base 3 "_law_line" [] (sp_line K) := by
  refine gf_mk T.f__law_line T.m__law_line (fun _ _ _ _ _ _ us hl => match us, hl with | [_], _ => rfl) fun fd F => fn_mk F sc__law_line (fun vs H Q E h => ?_) fun cd A outer s H vs Q E hr tk po h => ?_
  · obtain ⟨a, ns, rfl, _⟩ := h; rfl
  · obtain ⟨a, ns, rfl, hs, hlen, hbits, q⟩ := h
    have nd := sc__law_line.nd
    have n1 := T.n_len
    have n2 := T.n_zip
    have n3 := T.n_int
    have hr1 : Room (1 + 1) _ := hr
    refine bcut (fun σ' H' => H = H' ∧ ∃ c : Int, 0 ≤ c ∧ c < 2147483647 ∧ σ' = [some (.ref a), some (.int c), none, none, none, none, none, none]) ?_ ?_
    · top_name
      refine zmixed T hr1 rfl ?_
      top_name
      refine zcall (ok_cell_at T) hr1 (by decide) takesF rfl ?_
      top_name
      refine ⟨a, ns, 1, rfl, hs, by decide, ?_⟩
      top_name
      exact .fits (cellAt_fits hbits _) (by omega) (by omega) ⟨rfl, _, mixed_lo _ _, mixed_hi _ _, rfl⟩
    rintro _ _ ⟨rfl, c, c0, c1, rfl⟩
    refine bcut (fun σ' H' => Ex H H' ∧ ∃ (W : Addr) (ys : List Str), H' W = some (.lst (ys.map V.str)) ∧ ys.length ≤ 63 ∧ (∀ y ∈ ys, y.length ≤ 1000) ∧ σ' = [some (.ref a), some (.int c), some (.ref W), none, none, none, none, none]) ?_ ?_
    · refine slc (i := 2) (y := "_law_words") rfl nd rfl rfl [("_law_one", 7)] (blkOk_by (N := N__law_line) (sc := defScope s__law_line) (by decide +kernel)) piL (sw_true rfl rfl rfl (by decide +kernel)) (tnL (xs := cutV (ns.map V.int) (some 2) (some (2 + c % 7))) (fun j ws _ => ∃ ys : List Str, ws = ys.map V.str ∧ ys.length = j ∧ ∀ y ∈ ys, y.length ≤ 1000) (fun _ _ _ _ g _ => g) (fun _ => ⟨[], rfl, rfl, fun _ h => nomatch h⟩) ?_)
      top_name
      rename_i t H1 ht e1 hx1
      have hcl : (cutV (ns.map V.int) (some 2) (some (2 + c % 7))).length ≤ 63 := by
        have := cutV_length (ns.map V.int) (some 2) (some (2 + c % 7))
        rw [List.length_map] at this
        omega
      refine ⟨SqL.of hx1, fun j x H2 L ws hx e2 hL hw g => ?_, fun L H2 ws hL e2 hw g => ?_⟩
      · obtain ⟨ys, rfl, hyl, hy1⟩ := g
        obtain ⟨b, hb, rfl⟩ := List.mem_map.mp (mem_cut (List.mem_of_getElem? hx))
        have hj := (List.getElem?_eq_some_iff.mp hx).1
        top_name
        refine zcall (ok_text T) hr1 (by decide) takesF rfl ?_
        top_name
        refine zmixed T hr1 rfl ?_
        top_name
        refine .fits ((bits_of_int (hbits b hb)).mono (by decide)) (by omega) (by omega) ?_
        top_name
        refine ⟨mixed_lo _ _, mixed_hi _ _, fun x H3 hxl e3 => ?_⟩
        refine ⟨by rw [List.length_map, hyl, sizeLine_eq]; omega, e3, ys ++ [x], by rw [List.map_append]; rfl, by rw [List.length_append, hyl]; rfl, fun y hy => ?_⟩
        rcases List.mem_append.mp hy with hy | hy
        · exact hy1 y hy
        · rw [List.mem_singleton.mp hy]; exact hxl
      · obtain ⟨ys, rfl, hyl, hy1⟩ := g
        exact ⟨e1.trans e2, L, ys, hw, by omega, hy1, rfl⟩
    rintro _ H1 ⟨e1, W, ys, hW, hyl, hy1, rfl⟩
    have hlm : (ys.map V.str).length = ys.length := List.length_map ..
    refine bcut (fun σ' H' => Ex H1 H' ∧ ∃ (B : Addr) (bs : List Str), H1 B = none ∧ H' B = some (.lst (bs.map V.str)) ∧ bs.length = ys.length ∧ (∀ y ∈ bs, y.length ≤ 2) ∧ σ' = [some (.ref a), some (.int c), some (.ref W), some (.ref B), none, none, none, none]) ?_ ?_
    · top_name
      rename_i t H2 ht e2 hx2
      rw [hlm]
      refine orep hx2 (by omega) (by omega) (by rw [Int.toNat_natCast, sizeLine_eq]; show 1 * _ ≤ _; omega) fun B H3 hB e3 hx3 => ?_
      rw [Int.toNat_natCast, List.flatten_replicate_singleton] at hx3
      exact ⟨e2.trans e3, B, List.replicate ys.length " ", Evl.fresh_back e2 hB, by rw [hx3, List.map_replicate], List.length_replicate .., fun y hy => by rw [List.eq_of_mem_replicate hy]; decide, rfl⟩
    rintro _ H2 ⟨e2, B, bs, hB0, hB, hbl, hb2, rfl⟩
    refine bcut (fun σ' H' => Ex H1 H' ∧ ∃ (bs : List Str), H' B = some (.lst (bs.map V.str)) ∧ bs.length = ys.length ∧ (∀ y ∈ bs, y.length ≤ 2) ∧ σ' = [some (.ref a), some (.int c), some (.ref W), some (.ref B), none, none, none, none]) ?_ ?_
    · top_name
      rename_i U H3 hU e3 hxU
      refine oneStrs (ys := ys) (zs := []) hr (SqL.of (e3 _ _ (e2 _ _ hW))) (SqL.of hxU) ?_
      top_name
      · rename_i hne t H4 ht e4 hx4
        have hpos : 0 < ys.length := by
          cases ys with
          | nil => exact absurd rfl hne
          | cons _ _ => simp
        have hv : ∃ u : Str, atI [V.str " ", V.str "  ", V.str "", V.str "\t", V.str "\n", V.str " "] (c / 42 % 6) = some (.str u) ∧ u.length ≤ 2 := by
          have hc : c / 42 % 6 = 0 ∨ c / 42 % 6 = 1 ∨ c / 42 % 6 = 2 ∨ c / 42 % 6 = 3 ∨ c / 42 % 6 = 4 ∨ c / 42 % 6 = 5 := by omega
          rcases hc with h | h | h | h | h | h <;> rw [h] <;> exact ⟨_, rfl, by decide⟩
        obtain ⟨u, hu, hul⟩ := hv
        refine ixL (by one_place) hu ?_
        top_name
        have hm0 := Int.emod_nonneg (c / 7) (show ((ys.length : Nat) : Int) ≠ 0 by omega)
        have hm1 := Int.emod_lt_of_pos (c / 7) (show (0 : Int) < ((ys.length : Nat) : Int) by omega)
        try rw [hlm]
        refine seL (e4 _ _ (e3 _ _ hB)) (show ixN _ (c / 7 % (ys.length : Int)) = some (c / 7 % (ys.length : Int)).toNat from ?_) ?_
        · unfold ixN
          rw [if_pos hm0, if_pos (by rw [List.length_map, hbl]; exact hm1)]
        (repeat refine bnil ?_)
        refine ⟨Ex.past (e2.trans (e3.trans e4)) hB0, bs.set (c / 7 % (ys.length : Int)).toNat u, by rw [upd_same, List.map_set], by rw [List.length_set]; exact hbl, fun y hy => ?_, rfl⟩
        rcases List.mem_or_eq_of_mem_set hy with hy | rfl
        · exact hb2 y hy
        · exact hul
      · exact ⟨e2.trans e3, bs, e3 _ _ hB, hbl, hb2, rfl⟩
    clear hb2 hbl hB bs e2
    rintro _ H3 ⟨e3, bs, hB, hbl, hb2, rfl⟩
    have hW3 := e3 _ _ hW
    refine bcut (fun σ' H' => H3 = H' ∧ σ' = [some (.ref a), some (.int c), some (.ref W), some (.ref B), some (.str ""), none, none, none]) (by top_name; exact ⟨rfl, rfl⟩) ?_
    rintro _ _ ⟨rfl, rfl⟩
    refine bcut (fun σ' H' => Ex H3 H' ∧ ∃ (l : Str) (v5 v6 : Option V), l.length ≤ 1002 * ys.length ∧ σ' = [some (.ref a), some (.int c), some (.ref W), some (.ref B), some (.str l), v5, v6, none]) ?_ ?_
    · refine lforZip n2 po rfl rfl ?_
      top_name
      refine ⟨W, B, _, _, rfl, ⟨SqL.of hW3, SqL.of hB, by rw [List.length_map, List.length_map, hbl]⟩, fun i σ H' => Ex H3 H' ∧ ∃ (l : Str) (v5 v6 : Option V), l.length ≤ 1002 * i ∧ σ = [some (.ref a), some (.int c), some (.ref W), some (.ref B), some (.str l), v5, v6, none], ⟨Evl.Ex.refl _, "", none, none, by decide, rfl⟩, fun i σ H' _ z => ⟨SqL.of (z.1 _ _ hW3), SqL.of (z.1 _ _ hB)⟩, ?_, ?_⟩
      · rintro i x y σ H4 tt H5 hx hy ⟨e4, l, v5, v6, hll, rfl⟩ hT e5 hxt
        have hi := (List.getElem?_eq_some_iff.mp hx).1
        rw [List.length_map] at hi
        obtain ⟨u, hu, rfl⟩ := List.mem_map.mp (List.mem_of_getElem? hx)
        obtain ⟨b, hb, rfl⟩ := List.mem_map.mp (List.mem_of_getElem? hy)
        have hul := hy1 u hu
        have hbl2 := hb2 b hb
        have hln : 1002 * i ≤ 1002 * 63 := Nat.mul_le_mul_left _ (by omega)
        have bz : sizeLine = 16777216 := sizeLine_eq
        top_name
        · refine oadds (by omega) ?_
          top_name
          refine oadds (by rw [app_len]; omega) ?_
          top_name
          exact ⟨e4.trans e5, _, _, _, by rw [app_len, app_len, Nat.mul_succ]; omega, rfl⟩
        · have e0 : ("" : Str).length = 0 := rfl
          refine oadds (by omega) ?_
          top_name
          refine oadds (by rw [app_len]; omega) ?_
          top_name
          exact ⟨e4.trans e5, _, _, _, by rw [app_len, app_len, Nat.mul_succ]; omega, rfl⟩
      · rintro σ H4 ⟨e4, l, v5, v6, hll, rfl⟩
        rw [List.length_map] at hll
        exact ⟨e4, l, v5, v6, hll, rfl⟩
    rintro _ H4 ⟨e4, l, v5, v6, hll, rfl⟩
    have hln : 1002 * ys.length ≤ 1002 * 63 := Nat.mul_le_mul_left _ (by omega)
    top_name
    rename_i t H5 ht e5 hx5
    refine kintB ?_
    have hv : ∃ u : Str, atI [V.str "", V.str " "] (if (decide (c / 252 % 9 = 1)) = true then 1 else 0) = some (.str u) ∧ u.length ≤ 2 := by
      split
      · exact ⟨_, rfl, by decide⟩
      · exact ⟨_, rfl, by decide⟩
    obtain ⟨u, hu, hul⟩ := hv
    refine ixL (by one_place) hu ?_
    refine oadds (by rw [sizeLine_eq]; omega) ?_
    exact q _ _ (by rw [app_len]; omega) (e1.trans (e3.trans (e4.trans e5)))
def sp_lgood : Sp := fun vs H Q _ => ∃ x : Str, vs = [.str x] ∧ x.length ≤ 100000 ∧ ∀ H', Ex H H' → Q (.bl true) H'
theorem ok_lgood (T : Txt K mg) : Gf P w K mg base 2 "_law_line_good" [] sp_lgood := by
  refine gf_mk T.f__law_line_good T.m__law_line_good (fun _ _ _ _ _ _ us hl => match us, hl with | [_], _ => rfl) fun fd F => fn_mk F sc__law_line_good (fun vs H Q E h => ?_) fun cd A outer s H vs Q E hr tk po h => ?_
  · obtain ⟨x, rfl, _⟩ := h; rfl
  · obtain ⟨x, rfl, hz, q⟩ := h
    have nd := sc__law_line_good.nd
    have n1 := T.n_isinstance
    have n2 := T.n_list
    have n3 := T.n_range
    have spl : (Txt.split x " ").length ≤ 100002 := by have := PyProof.Rows.split_le x " "; omega
    have hr1 : Room (0 + 1) _ := hr
    refine bcut (fun σ' H' => Ex H H' ∧ ∃ D, H' D = some (.lst ((Txt.split x " ").map V.str)) ∧ σ' = [some (.str x), some (.ref D), none, none]) ?_ ?_
    · top_name
      refine zsplit ?_
      top_name
      refine ⟨⟨_, rfl⟩, ?_⟩
      top_name
      exact ⟨x, " ", rfl, rfl, rfl, by rw [sizeLine_eq]; omega, fun p H1 hp e1 hx => ⟨e1, p, hx, rfl⟩⟩
    rintro _ H1 ⟨e1, D, hD, rfl⟩
    top_name
    refine oinF (.inl (SqL.of hD)) rfl (flat_strs _) ?_
    rw [inV_strs]
    top_name
    · rename_i h
      refine zcall (ok_words T) hr1 (by decide) takesF rfl ?_
      top_name
      refine ⟨.str x, some x, rfl, .str x hz, ?_⟩
      show if ("" : Str) ∈ Txt.split x " " then _ else _
      rw [if_pos h]
      intro H2 e2
      top_name
      exact q _ (e1.trans e2)
    · rename_i h
      refine lfor1 (n := 2) n3 po rfl (fun i σ H' => Ex H1 H' ∧ ∃ v2 v3 : Option V, σ = [some (.str x), some (.ref D), v2, v3]) rfl ?_
      top_name
      refine ⟨rfl, by decide, by decide, ⟨Evl.Ex.refl _, none, none, rfl⟩, ?_, ?_⟩
      · rintro i σ H2 hi ⟨e2, v2, v3, rfl⟩
        top_name
        refine zcall (ok_words T) hr1 (by decide) takesF rfl ?_
        top_name
        refine ⟨.str x, some x, rfl, .str x hz, ?_⟩
        show if ("" : Str) ∈ Txt.split x " " then _ else _
        rw [if_neg h]
        intro t H3 ht e3 hx3
        top_name
        refine oneStrs hr (SqL.of hx3) (SqL.of (e3 _ _ (e2 _ _ hD))) ?_
        rw [decide_eq_true rfl]
        top_name
        refine zapp ?_
        top_name
        refine ⟨t, _, rfl, hx3, ?_⟩
        top_name
        refine ⟨_, hx3, by rw [List.length_map, sizeLine_eq]; omega, ?_⟩
        top_name
        exact ⟨e2.trans (Ex.past e3 ht), _, _, rfl⟩
      · rintro σ H2 ⟨e2, v2, v3, rfl⟩
        top_name
        exact q _ (e1.trans e2)
end K01

set_option maxRecDepth 100000
set_option maxHeartbeats 4000000
set_option pp.maxSteps 1500
namespace K01
open PySem PySem.Spec PyProof.Rows L2 Z
open Evl (Ex)
variable {P : Program} {w : World} {K : PySem.W.Frag} {mg : Str → Option Value} {base : Heap}
/-! ### steps of the walk: one_sign: a heap grew into another; one_item: what stands at an address; one_place: a list or tuple to be read; leaf_len: arithmetic; tb_rel: one step; top_name: steps as far as they go -/
local macro_rules | `(tactic| got_up) => `(tactic| (refine Evl.Ex.trans (by assumption) ?_; first | assumption | exact Evl.Ex.refl _ | got_up))
local macro_rules | `(tactic| units_room) => `(tactic| (refine Evl.Ex.trans ?_ (by assumption); first | assumption | exact Evl.Ex.refl _ | units_room))
local macro_rules | `(tactic| one_sign) => `(tactic| first | assumption | exact Evl.Ex.refl _ | got_up | units_room)
local macro_rules | `(tactic| one_item) => `(tactic| first | assumption | exact upd_same | exact exa (by assumption) (by one_sign))
local macro_rules | `(tactic| one_place) => `(tactic| first | assumption | exact SqL.of (by assumption) | exact SqT.of (by assumption) | exact exl (by assumption) (by one_sign) | exact ext (by assumption) (by one_sign) | exact SqL.of (by one_item) | exact SqT.of (by one_item))
local macro_rules | `(tactic| leaf_len) => `(tactic| first | assumption | decide | omega)
local macro_rules | `(tactic| tb_rel) => `(tactic| first
  | ((with_reducible refine (?_ : wE _ _ _ _ _)); first
    | ((with_reducible refine (?_ : wE _ (.Name _ _) _ _ _)); first | refine zn (by rfl) (by first | exact Or.inl rfl | exact Or.inr (Or.inl rfl) | exact Or.inr (Or.inr rfl)) (by rfl) ?_ | refine zglob (by assumption) (by rfl) ?_ | refine zcls (by assumption) (by rfl) ?_ | refine zty (by assumption) (by first | exact bt_int | exact bt_bool | exact bt_str | exact bt_list | exact bt_tuple | exact bt_dict | exact bt_ValueError) (by rfl) ?_)
    | ((with_reducible refine (?_ : wE _ (.Constant _ _ _) _ _ _)); first | refine zint ?_ | refine zstr ?_ | refine zbl ?_ | refine znon ?_)
    | ((with_reducible refine (?_ : wE _ (.BinOp _ _ _ _) _ _ _)); refine zbin ?_)
    | ((with_reducible refine (?_ : wE _ (.Compare _ _ _ _) _ _ _)); first | refine zcmp (by rfl) ?_ | refine zchain ?_)
    | ((with_reducible refine (?_ : wE _ (.Dict [] [] _) _ _ _)); refine zdnew (fun _ _ _ _ _ => ?_))
    | ((with_reducible refine (?_ : wE _ (.Subscript _ (.Slice _ _ _ _) _) _ _ _)); refine zsl ?_)
    | ((with_reducible refine (?_ : wE _ (.Subscript _ _ _) _ _ _)); refine zix ?_)
    | ((with_reducible refine (?_ : wE _ (.Call (.Name "list" _) [.Call (.Name "range" _) [_] [] _] [] _) _ _ _)); refine zlrg1 rfl (by rfl) (by assumption) (by rfl) (by assumption) ?_)
    | ((with_reducible refine (?_ : wE _ (.Call (.Name _ _) _ _ _) _ _ _)); first
      | ((with_reducible refine (?_ : wE _ (.Call (.Name "len" _) _ _ _) _ _ _)); refine zbfn (by assumption) bt_len (by rfl) ?_)
      | ((with_reducible refine (?_ : wE _ (.Call (.Name "isinstance" _) _ _ _) _ _ _)); refine zbfn (by assumption) bt_isi (by rfl) ?_)
      | ((with_reducible refine (?_ : wE _ (.Call (.Name "min" _) _ _ _) _ _ _)); refine zbfn (by assumption) bt_min (by rfl) ?_)
      | ((with_reducible refine (?_ : wE _ (.Call (.Name "max" _) _ _ _) _ _ _)); refine zbfn (by assumption) bt_max (by rfl) ?_)
      | ((with_reducible refine (?_ : wE _ (.Call (.Name "list" _) _ _ _) _ _ _)); refine zbty (by assumption) bt_list (by rfl) ?_)
      | ((with_reducible refine (?_ : wE _ (.Call (.Name "tuple" _) _ _ _) _ _ _)); refine zbty (by assumption) bt_tuple (by rfl) ?_)
      | ((with_reducible refine (?_ : wE _ (.Call (.Name "int" _) _ _ _) _ _ _)); refine zbty (by assumption) bt_int (by rfl) ?_)
      | ((with_reducible refine (?_ : wE _ (.Call (.Name "abs" _) _ _ _) _ _ _)); refine zbfn (by assumption) bt_abs (by rfl) ?_)
      | ((with_reducible refine (?_ : wE _ (.Call (.Name "all" _) _ _ _) _ _ _)); refine zbfn (by assumption) bt_all (by rfl) ?_)
      | ((with_reducible refine (?_ : wE _ (.Call (.Name "sum" _) _ _ _) _ _ _)); refine zbfn (by assumption) bt_sum (by rfl) ?_)
      | ((with_reducible refine (?_ : wE _ (.Call (.Name "divmod" _) _ _ _) _ _ _)); refine zbfn (by assumption) bt_divmod (by rfl) ?_)
      | ((with_reducible refine (?_ : wE _ (.Call (.Name "ord" _) _ _ _) _ _ _)); refine zbfn (by assumption) bt_ord (by rfl) ?_))
    | ((with_reducible refine (?_ : wE _ (.IfExp _ _ _ _) _ _ _)); refine zif ?_)
    | ((with_reducible refine (?_ : wE _ (.Tuple _ _ _) _ _ _)); refine ztup ?_)
    | ((with_reducible refine (?_ : wE _ (.List _ _) _ _ _)); refine zlst ?_)
    | ((with_reducible refine (?_ : wE _ (.UnaryOp _ _ _) _ _ _)); first | refine znotV ?_ | refine zneg ?_)
    | ((with_reducible refine (?_ : wE _ (.BoolOp _ _ _) _ _ _)); first | refine zandV ?_ | refine zorV ?_ | refine zoneV ?_))
  | ((with_reducible refine (?_ : bE _ _ _ _ _ _)); refine ⟨fun _ _ _ _ _ => ?_⟩) | ((with_reducible refine (?_ : bG _ _ _ _ _ _ _)); refine ⟨fun _ _ _ _ _ => ?_⟩) | ((with_reducible refine (?_ : bTs _ _ _ _ _ _)); refine ⟨fun _ _ _ _ _ => ?_⟩)
  | ((with_reducible refine (?_ : hE _ _ _ _ _ _)); refine ⟨fun _ _ _ _ _ => ?_⟩) | ((with_reducible refine (?_ : hG _ _ _ _ _ _ _)); refine ⟨fun _ _ _ _ _ => ?_⟩) | ((with_reducible refine (?_ : hTs _ _ _ _ _ _)); refine ⟨fun _ _ _ _ _ => ?_⟩)
  | ((with_reducible refine (?_ : wP _ _ _ _ _)); first | refine pnon ?_ | refine psom ?_) | ((with_reducible refine (?_ : wSl _ _ _ _ _ _)); first | refine slL (by one_place) (fun _ _ _ _ _ => ?_) | refine slS (by assumption) ?_)
  | ((with_reducible refine (?_ : wTs _ _ _ _ _)); first | refine tsnil ?_ | refine tsone ?_)
  | ((with_reducible refine (?_ : wA _ _ _ _ _)); first | refine acons ?_ | refine anil ?_)
  | ((with_reducible refine (?_ : wO _ _ _ _ _ _)); first
    | ((with_reducible refine (?_ : wO _ (binaryOp .Add) _ _ _ _)); first | refine oadd ?_ | refine ocatE (by one_item) (by one_item) (Nat.le_of_ble_eq_true rfl) (fun _ _ _ _ _ => ?_))
    | ((with_reducible refine (?_ : wO _ (binaryOp .Sub) _ _ _ _)); first | refine osub ?_)
    | ((with_reducible refine (?_ : wO _ (binaryOp .Mult) _ _ _ _)); first | refine omul (by first | exact IntMulOk.of_right (by decide) | exact IntMulOk.of_left (by decide) | exact IntMulOk.of_right (intBits_le_64 (by omega) (by omega)) | exact IntMulOk.of_left (intBits_le_64 (by omega) (by omega))) ?_)
    | ((with_reducible refine (?_ : wO _ (binaryOp .Mod) _ _ _ _)); first | refine omod (by first | decide | omega) ?_)
    | ((with_reducible refine (?_ : wO _ (binaryOp .FloorDiv) _ _ _ _)); first | refine ofdiv ⟨by first | decide | omega, by decide⟩ ?_)
    | ((with_reducible refine (?_ : wO _ (binaryOp .BitAnd) _ _ _ _)); first | refine oand ?_)
    | ((with_reducible refine (?_ : wO _ (binaryOp .BitOr) _ _ _ _)); first | refine oor ?_)
    | ((with_reducible refine (?_ : wO _ (compareOp .Lt) _ _ _ _)); first | refine olt ?_)
    | ((with_reducible refine (?_ : wO _ (compareOp .LtE) _ _ _ _)); first | refine ole ?_)
    | ((with_reducible refine (?_ : wO _ (compareOp .Gt) _ _ _ _)); first | refine ogt ?_)
    | ((with_reducible refine (?_ : wO _ (compareOp .GtE) _ _ _ _)); first | refine oge ?_)
    | ((with_reducible refine (?_ : wO _ (compareOp .Eq) _ _ _ _)); first | refine oeqi ?_ | refine oeq (by rfl) ?_)
    | ((with_reducible refine (?_ : wO _ (compareOp .NotEq) _ _ _ _)); first | refine onei ?_ | refine one (by rfl) ?_)
    | ((with_reducible refine (?_ : wO _ (compareOp .In) _ _ _ _)); first | refine oin ?_)
    | ((with_reducible refine (?_ : wO _ (compareOp .NotIn) _ _ _ _)); first | refine onin ?_)
    | ((with_reducible refine (?_ : wO _ (compareOp .Is) _ _ _ _)); first | refine ois ?_)
    | ((with_reducible refine (?_ : wO _ (compareOp .IsNot) _ _ _ _)); first | refine onot ?_)
    | ((with_reducible refine (?_ : wO _ (binaryOp .RShift) _ _ _ _)); refine oshr (by first | decide | omega) ?_)
    | ((with_reducible refine (?_ : wO _ (binaryOp .BitXor) _ _ _ _)); refine oxor ?_)
    | ((with_reducible refine (?_ : wO _ (inplaceOp .BitXor) _ _ _ _)); refine ixor ?_)
    | ((with_reducible refine (?_ : wO _ (inplaceOp .RShift) _ _ _ _)); refine ishr (by first | decide | omega) ?_)
    | ((with_reducible refine (?_ : wO _ (inplaceOp .BitOr) _ _ _ _)); first | refine ior ?_)
    | ((with_reducible refine (?_ : wO _ (inplaceOp .Add) _ _ _ _)); first | refine iadd ?_))
  | ((with_reducible refine (?_ : wT _ _ _ _ _)); first
    | ((with_reducible refine (?_ : wT _ (.Compare _ _ _ _) _ _ _)); first | refine zcmpT (by rfl) ?_ | refine zchainT ?_)
    | ((with_reducible refine (?_ : wT _ (.UnaryOp _ _ _) _ _ _)); refine znotT ?_)
    | ((with_reducible refine (?_ : wT _ (.BoolOp _ _ _) _ _ _)); refine zW ?_)
    | refine zval ?_)
  | ((with_reducible refine (?_ : wW _ _ _ _ _)); first | refine zand ?_ | refine zor ?_ | refine zand1 ?_ | refine zor1 ?_)
  | ((with_reducible refine (?_ : wK _ _ _ _ _)); first
    | ((with_reducible refine (?_ : wK _ (.builtin "len") _ _ _)); first | refine klenL (by one_place) ?_ | refine klenT (by one_place) ?_ | refine klenS (by assumption) ?_)
    | ((with_reducible refine (?_ : wK _ (.builtin "isinstance") _ _ _)); first | refine kisE (by assumption) (by assumption) (by first | assumption | exact Xd.exx (by assumption) (by one_sign)) (by first | exact .own _ | exact .ty _) (by assumption) ?_ | refine kisi (.ty _) (by assumption) (by assumption) ?_ | refine kisi (.ty _) (.base (by first | exact .int _ | exact .bl _ | exact .str _ | exact .non | exact .tup (by one_item) | exact .lst (by one_item))) (kit_ty (r := true) (by rfl)) ?_ | refine kisi (.ty _) (.base (by first | exact .int _ | exact .bl _ | exact .str _ | exact .non | exact .tup (by one_item) | exact .lst (by one_item))) (kit_ty (r := false) (by rfl)) ?_)
    | ((with_reducible refine (?_ : wK _ (.builtin "divmod") _ _ _)); refine kdivmod ⟨by first | decide | omega, by decide⟩ (fun _ _ _ _ _ => ?_))
    | ((with_reducible refine (?_ : wK _ (.builtin "min") _ _ _)); refine kmin (by rfl) ?_)
    | ((with_reducible refine (?_ : wK _ (.builtin "max") _ _ _)); refine kmax (by rfl) ?_)
    | ((with_reducible refine (?_ : wK _ (.type "list") _ _ _)); first | refine klistL (by one_place) (fun _ _ _ _ _ => ?_) | refine klistT (by one_place) (fun _ _ _ _ _ => ?_))
    | ((with_reducible refine (?_ : wK _ (.type "tuple") _ _ _)); first | refine ktupL (by one_place) (fun _ _ _ _ _ => ?_)))
  | ((with_reducible refine (?_ : wS _ _ _ _ _)); first
    | ((with_reducible refine (?_ : wS _ (.Assign [.Name _ _] _ _) _ _ _)); refine sset' (by assumption) (by rfl) (by first | exact Or.inl rfl | exact Or.inr rfl) (by rfl) (by first | exact .inl rfl | exact .inr rfl) ?_)
    | ((with_reducible refine (?_ : wS _ (.AugAssign (.Name _ _) _ _ _) _ _ _)); refine saug' (by assumption) (by rfl) (by first | exact Or.inl rfl | exact Or.inr rfl) (by first | exact .inl rfl | exact .inr rfl) (by rfl) ?_)
    | ((with_reducible refine (?_ : wS _ (.Expr _ _) _ _ _)); refine sexp ?_)
    | ((with_reducible refine (?_ : wS _ (.Assign [.Tuple _ _ _] _ _) _ _ _)); refine sasg ?_) | ((with_reducible refine (?_ : wS _ (.Assign [.Subscript _ _ _] _ _) _ _ _)); refine sasg ?_)
    | refine sret ?_ | refine sif ?_ | refine sretN ?_ | refine spass ?_ | refine sbrk ?_ | refine scont ?_)
  | ((with_reducible refine (?_ : wG _ (.Name _ _) _ _ _ _)); refine gname' (by assumption) (by rfl) (by first | exact Or.inl rfl | exact Or.inr rfl) (by first | exact .inl rfl | exact .inr rfl) ?_)
  | ((with_reducible refine (?_ : wG _ (.Tuple _ _ _) _ _ _ _)); refine gtup rfl (by one_place) rfl ?_) | ((with_reducible refine (?_ : wG _ (.Subscript _ _ _) _ _ _ _)); refine gsub ?_)
  | ((with_reducible refine (?_ : wGs _ _ _ _ _ _)); first | refine gscons ?_ | refine gsnil ?_)
  | ((with_reducible refine (?_ : wB _ _ _ _ _)); first | refine bcons ?_ | refine bnil ?_)
  | refine ifT ?_ | refine ifF ?_ | refine ifd (fun _ => ?_) (fun _ => ?_) | refine ifnd (fun _ => ?_) (fun _ => ?_) | refine ⟨_, rfl, ?_⟩ | refine ⟨rfl, Evl.Ex.refl _, ?_⟩ | refine ⟨Nat.le_of_ble_eq_true rfl, fun _ _ _ _ _ => ?_⟩ | fail)
local macro_rules | `(tactic| top_name) => `(tactic| repeat' tb_rel)
local macro_rules | `(tactic| nest_fact) => `(tactic| first | exact ⟨(decide_eq_true (by omega)).symm, rfl⟩ | exact ⟨(decide_eq_false (by omega)).symm, rfl⟩ | exact ⟨decide_eq_decide.mpr (by omega), rfl⟩ | fail)
def sp_law (K : PySem.W.Frag) : Sp := fun vs H Q _ => ∃ (a : Addr) (ns : List Int), vs = [.ref a] ∧ SqL K H a (ns.map V.int) ∧ ns.length ≤ 63 ∧ (∀ z ∈ ns, Builtin.Int.intBits z ≤ 1048576) ∧ ∀ H', Q (.bl true) H'
theorem fn_law (T : Txt K mg) {fd : FuncData} (F : FunD K "law" "law" (defArgs s_law) (defBody s_law) (defScope s_law) [] [] (He.fAd K ("law", none)) fd) : FnOk P w K mg base (L2N.CX P w) 6 (He.fAd K ("law", none)) fd ["_law_script"] (sp_law K) := by
  refine fn_mk F sc_law (fun vs H Q E h => ?_) fun cd A outer s H vs Q E hr tk po h => ?_
  · obtain ⟨a, ns, rfl, _⟩ := h; rfl
  · obtain ⟨a, ns, rfl, hs, hlen, hbits, q⟩ := h
    have nd := sc_law.nd
    have n1 := T.n_range
    have n2 := T.n_len
    have n3 := T.n_max
    have n4 := T.n_min
    have hr1 : Room (4 + 1) _ := hr
    refine bcut (fun σ' H' => Ex H H' ∧ σ' = [some (.ref a), none, none, none, none, none, none, none]) ?_ ?_
    · top_name
      refine zcall (ok_lgood T) hr1 (by decide) takesF rfl ?_
      top_name
      refine zcall (ok_line T) hr1 (by decide) takesF rfl ?_
      top_name
      refine ⟨a, ns, rfl, hs, hlen, hbits, fun x H1 hx e1 => ?_⟩
      top_name
      refine ⟨hx, fun H2 e2 => ?_⟩
      top_name
      refine zcall (ok_words T) hr1 (by decide) takesF rfl ?_
      top_name
      refine zcall (ok_odd T) hr1 (by decide) takesF rfl ?_
      top_name
      refine zcall (ok_cell_at T) hr1 (by decide) takesF rfl ?_
      top_name
      refine ⟨a, ns, 0, rfl, exl hs (e1.trans e2), by decide, ?_⟩
      top_name
      refine ⟨Int.emod_nonneg _ (by decide), fun v H3 hv ⟨t, ht, hk⟩ e3 => ?_⟩
      top_name
      refine ⟨v, none, rfl, .odd ht hk, fun H4 e4 => ?_⟩
      top_name
      exact ⟨e1.trans (e2.trans (e3.trans e4)), rfl⟩
    rintro _ H0 ⟨e0, rfl⟩
    refine bcons (lfor2 (lo := 2) (n := max 3 (min (ns.length : Int) 14)) n1 po rfl (fun i σ H' => Ex H H' ∧ ∃ (v1 v2 v3 v4 v5 v6 v7 : Option V), σ = [some (.ref a), v1, v2, v3, v4, v5, v6, v7]) rfl ?_)
    top_name
    refine ⟨rfl, ?_⟩
    top_name
    refine ⟨by rw [List.length_map], ⟨by decide, by decide, by omega, by omega⟩, ⟨e0, none, none, none, none, none, none, none, rfl⟩, ?_, ?_⟩
    · rintro i σ H1 hi ⟨ex, v1, v2, v3, v4, v5, v6, v7, rfl⟩
      tb_rel
      refine bcut (fun σ' H' => Ex H1 H' ∧ ∃ c : Int, 0 ≤ c ∧ c < 2147483647 ∧ σ' = [some (.ref a), some (.int (2 + (i : Int))), some (.int c), v3, v4, v5, v6, v7]) ?_ ?_
      · top_name
        refine zmixed T hr1 rfl ?_
        top_name
        refine zcall (ok_cell_at T) hr1 (by decide) takesF rfl ?_
        top_name
        refine ⟨a, ns, _, rfl, exl hs ex, by omega, ?_⟩
        top_name
        exact .fits (cellAt_fits hbits _) (by omega) (by omega) ⟨Evl.Ex.refl _, _, mixed_lo _ _, mixed_hi _ _, rfl⟩
      rintro _ H2 ⟨e2, c, c0, c1, rfl⟩
      refine bcut (fun σ' H' => Ex H2 H' ∧ ∃ n : Int, n.natAbs < 2 ^ 250 ∧ σ' = [some (.ref a), some (.int (2 + (i : Int))), some (.int c), some (.int n), v4, v5, v6, v7]) ?_ ?_
      · top_name
        refine zcall (ok_great T) hr1 (by decide) takesF rfl ?_
        top_name
        refine ⟨c, 1, rfl, c0, c1, by decide, by decide, fun g g0 g1 => ?_⟩
        top_name
        refine zcall (ok_great T) hr1 (by decide) takesF rfl ?_
        top_name
        refine ⟨c, 2, rfl, c0, c1, by decide, by decide, fun g' g0' g1' => ?_⟩
        top_name
        rename_i t H3 ht e3 hx
        obtain ⟨b, hb, hi⟩ := atN (ns := [c % 41 - 20, g - g']) (k := c / 41 % 2) (by omega) (by show _ < ((2 : Nat) : Int); omega)
        have hb2 : b = c % 41 - 20 ∨ b = g - g' := by simpa using hb
        refine ixL (by one_place) hi ⟨e3, b, ?_, rfl⟩
        rcases hb2 with rfl | rfl <;> omega
      rintro _ H3 ⟨e3, n, hn, rfl⟩
      refine bcut (fun σ' H' => Ex H3 H' ∧ ∃ lo hi : Int, σ' = [some (.ref a), some (.int (2 + (i : Int))), some (.int c), some (.int n), some (.int lo), some (.int hi), v6, v7]) ?_ ?_
      · top_name
        rename_i o1 G1 ho1 g1 hx1 o2 G2 ho2 g2 hx2 o3 G3 ho3 g3 hx3 o4 G4 ho4 g4 hx4 o5 G5 ho5 g5 hx5
        have hv : ∃ (u : Addr) (lo hi : Int), atI [V.ref o1, V.ref o2, V.ref o3, V.ref o4] (c / 82 % 4) = some (.ref u) ∧ G5 u = some (.tup [.int lo, .int hi]) := by
          have hc : c / 82 % 4 = 0 ∨ c / 82 % 4 = 1 ∨ c / 82 % 4 = 2 ∨ c / 82 % 4 = 3 := by omega
          rcases hc with h | h | h | h <;> rw [h]
          · exact ⟨_, _, _, rfl, by one_item⟩
          · exact ⟨_, _, _, rfl, by one_item⟩
          · exact ⟨_, _, _, rfl, by one_item⟩
          · exact ⟨_, _, _, rfl, by one_item⟩
        obtain ⟨u, lo, hi, hu, hux⟩ := hv
        refine ixL (by one_place) hu ?_
        refine gtup rfl (SqT.of hux) rfl ?_
        top_name
        exact ⟨by one_sign, lo, hi, rfl⟩
      rintro _ H4 ⟨e4, lo, hi, rfl⟩
      refine bcut (fun σ' H' => Ex H4 H' ∧ ∃ v6 v7 : Option V, σ' = [some (.ref a), some (.int (2 + (i : Int))), some (.int c), some (.int n), some (.int lo), some (.int hi), v6, v7]) ?_ ?_
      · refine lforE po rfl ?_
        top_name
        refine zcall (ok_text T) hr1 (by decide) takesF rfl ?_
        top_name
        refine ⟨c0, c1, fun x H5 hx e5 => ?_⟩
        top_name
        refine zcall (ok_odd T) hr1 (by decide) takesF rfl ?_
        top_name
        refine ⟨Int.emod_nonneg _ (by decide), fun v H6 hv _ e6 => ?_⟩
        top_name
        rename_i D H7 hD e7 hxD
        refine ⟨D, _, rfl, ⟨SqL.of hxD, trivial⟩, fun j σ H' => Ex H7 H' ∧ ∃ v6 v7 : Option V, σ = [some (.ref a), some (.int (2 + (i : Int))), some (.int c), some (.int n), some (.int lo), some (.int hi), v6, v7], ⟨Evl.Ex.refl _, v6, v7, rfl⟩, fun j σ H' _ z => SqL.of (z.1 _ _ hxD), ?_, fun σ H' ⟨e8, z⟩ => ⟨e5.trans (e6.trans (e7.trans e8)), z⟩⟩
        rintro j y σ H8 hy ⟨e8, v6, v7, rfl⟩
        have hth : Thing K H8 y := by
          rcases List.mem_cons.mp (List.mem_of_getElem? hy) with rfl | hy
          · exact .str x (by omega)
          rcases List.mem_cons.mp hy with rfl | hy
          · exact .int n
          rcases List.mem_cons.mp hy with rfl | hy
          · exact hv.ex (e7.trans e8)
          · cases hy
        top_name
        refine lfor1 (n := 4) n1 po rfl (fun t σ H' => Ex H8 H' ∧ ∃ v7 : Option V, σ = [some (.ref a), some (.int (2 + (i : Int))), some (.int c), some (.int n), some (.int lo), some (.int hi), some y, v7]) rfl ?_
        top_name
        refine ⟨rfl, by decide, by decide, ⟨Evl.Ex.refl _, v7, rfl⟩, ?_, fun σ H' ⟨e9, v7, z⟩ => bnil ⟨e8.trans e9, some y, v7, z⟩⟩
        rintro t σ H9 ht ⟨e9, v7, rfl⟩
        top_name
        refine zcall (ok_asked T) hr1 (by decide) takesF rfl ?_
        top_name
        rename_i o H10 ho e10 hxo
        obtain ⟨b, hb, hi2⟩ := atN (ns := [1, 3]) (k := c / 9 % 2) (by omega) (by show _ < ((2 : Nat) : Int); omega)
        have hb2 : b = 1 ∨ b = 3 := by simpa using hb
        refine ixL (by one_place) hi2 ?_
        refine omul (by rcases hb2 with rfl | rfl <;> exact IntMulOk.of_right (by decide)) ?_
        top_name
        refine ⟨_, lo, hi, y, rfl, hth.ex (e9.trans e10), fun H11 e11 => ?_⟩
        top_name
        exact ⟨e9.trans (e10.trans e11), _, rfl⟩
      rintro _ H5 ⟨e5, v6, v7, rfl⟩
      top_name
      refine zcall (ok_ngood T) hr1 (by decide) takesF rfl ?_
      top_name
      refine ⟨by omega, fun H6 e6 => ?_⟩
      top_name
      exact ⟨ex.trans (e2.trans (e3.trans (e4.trans (e5.trans e6)))), _, _, _, _, _, _, _, rfl⟩
    · rintro σ H1 ⟨ex, v1, v2, v3, v4, v5, v6, v7, rfl⟩
      top_name
      exact q _
end K01

set_option maxRecDepth 100000
set_option maxHeartbeats 0
namespace K01
open PySem PySem.Spec PyProof.Rows L2 Z
abbrev R : PySem.W.OpenRow := PySem.W.OpenLaw.row PySem.Challenge.rw_formkin_k01_words_and_numbers
abbrev hk : PySem.W.Hook := He.hookX 5 fa fn [] [] exB
def ob (s : PySem.W.SharedT) : He.AlX := He.obsX 5 fa fn [] [] exB (HandSHeadRun.getT s)
theorem ob_eq (s : PySem.W.SharedT) : ob s = hk.obs s.abs := He.obsX_eq (HandSHeadRun.getT_eq s)
def loose_0 : List PySem.Str := ["LETTERS", "FIGURES", "MOST_LETTERS", "MOST_FIGURES", "is_whole", "is_among", "are_signs", "is_name", "number_text", "number_of", "words_of", "_law_cell_at", "_law_mixed", "_law_great", "_law_signs", "_law_text", "_law_odd", "_law_is_name", "_law_number_of", "_law_alike", "_law_asked", "_law_number_good", "_law_line", "_law_line_good"]
abbrev loose : List PySem.Str := loose_0
theorem run (w : World) : HandSHeadRun.RunEq R (PySem.W.view R.prog [26]) hk ob 6000 loose w := by
  intro os
  kernel_rfl
end K01

set_option maxRecDepth 100000
set_option maxHeartbeats 0
namespace K01
open PySem PySem.Spec PyProof.Rows L2 Z
/-! ### the end -/
theorem facts {P : Program} {w : World} {K : PySem.W.Frag} {h : Heap} {mg : Str → Option Value} {f : Addr} (X : K.In h) (G : h.Ns mainGlobals mg) (hfa : mg ("law" : Str) = some (.ref f)) (c : He.SaysX fa fn [] [] exB w h K) :
    ∃ fd : FuncData, (∀ (s : Shared) (v : Value), BindsTo s fd ⟨[v], []⟩ [("_law_script", v)]) ∧ ∀ base : Heap, K.In base → base.Ns mainGlobals mg → FnOk P w K mg base (L2N.CX P w) 6 f fd ["_law_script"] (sp_law K) := by
  have T := txt_of X G c
  obtain ⟨fd, F⟩ := T.f_law
  have e := hfa.symm.trans T.m_law
  cases e
  have b := FunD.bindsA (ps := ["_law_script"]) F fun _ _ _ _ _ _ us hl => match us, hl with | [_], _ => rfl
  exact ⟨fd, fun s v => b s [v] rfl, fun base _ _ => fn_law T F⟩
end K01
open PySem PySem.W PySem.Calls PyProof.Rows
set_option maxRecDepth 100000 in
set_option maxHeartbeats 8000000 in
theorem PySem.Challenge.cw_formkin_k01_words_and_numbers_holds : PySem.Challenge.rw_formkin_k01_words_and_numbers.Holds := by
  w_on; o_law
  refine HandSHeadRun.head_any (r := OpenLaw.row PySem.Challenge.rw_formkin_k01_words_and_numbers) (q := view (OpenLaw.row PySem.Challenge.rw_formkin_k01_words_and_numbers).prog [26]) (H := K01.hk) (ob := K01.ob) (M := 6000) (loose := K01.loose) (d := HandSHeadRun.topDef (OpenLaw.row PySem.Challenge.rw_formkin_k01_words_and_numbers).prog 26) (kwd := []) K01.ob_eq
    (by kernel_rfl) (fun s => by kernel_rfl) K01.run (by kernel_rfl) (by kernel_rfl) (by kernel_rfl) (by rfl) (by first | assumption | decide +kernel) (by decide +kernel) ⟨rfl, rfl, rfl, rfl, rfl, by decide +kernel⟩ ?hw ?hc
  case hw => w_witness2
  case hc =>
    refine Z.walk_bits (l := PySem.Challenge.rw_formkin_k01_words_and_numbers) (n := 63) (k := 6) (x := "_law_script") rfl (by decide) (by kernel_rfl) ⟨rfl, by decide, by decide⟩ ?F
    intro w mg fa h Y G hmg0
    obtain ⟨K, KX, c⟩ := Y
    have hmg : mg ("law" : PySem.Str) = some (.ref fa) := by
      have e : (HandSHeadRun.topDef (OpenLaw.row PySem.Challenge.rw_formkin_k01_words_and_numbers).prog 26).name = ("law" : PySem.Str) := by kernel_rfl
      rw [← e]
      exact hmg0
    obtain ⟨fd, hb, hF⟩ := K01.facts (P := (PySem.Challenge.rw_formkin_k01_words_and_numbers).prog) (w := w) KX G hmg c
    exact ⟨K, fd, K01.sp_law K, KX, hb, fun H a ns hl hz _ hS => ⟨a, ns, rfl, hS, hl, hz, fun _ => rfl⟩, hF⟩
