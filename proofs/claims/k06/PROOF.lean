import PyProof.Rows.All
import Wide.All
import OpenK.AllK
import Wide.FinOn
import KE.KStateDown
import KE.KExcIs
import Lean
import HandS.ForMost
import HandS.Exc
import HandS.ExcOwn
import HandS.ExcInit
import HandS.ExcCtx
import HandS.ExcIs
import HandS.ExcField
import HandS.TryMany
import HandS.HotCalls
import HandS.ExcInitHot
import HandS.IsInst
import HandS.Wide
import HandS.WideBits
import HandS.Defaults
import HandS.Codes
import HandS.WordsExc
import HandS.EndBits
import HandS.Head0
import HandS.Head1
import HandS.Head2
import HandS.HeadEnd
import HandS.HeadHook1
import HandS.HeadHook2
import HandS.HeadHook3
import HandS.HeadHook4
import HandS.Evl
import PySem.Challenge.RW_formkin_k06_whole_kept_rows_in_pieces
import HandS.Replace
import HandS.Conv
import HandS.RevTup
import HandS.Rev
import HandS.Iter
import HandS.MapObj
import HandS.RaiseMore
import KE.DataEq
set_option Elab.async false
set_option linter.all false
set_option maxRecDepth 100000
set_option maxHeartbeats 4000000
namespace Z
open PySem PySem.Spec PyProof.Rows L2
abbrev St := L2.St
/-! ### a piece of the text, walked from a state to a wish -/
structure wE (X : Cx) (e : Expr) (σ : St) (H : Hp) (Q : VK) : Prop where
  run : ∀ (pins : List (Addr × Obj)) (s : Shared), Inv X pins σ H s → wpAny (model X.prog X.w) X.A (eval e X.env) (EP X pins σ Q) X.xe s
structure wT (X : Cx) (e : Expr) (σ : St) (H : Hp) (Q : Bool → Hp → Prop) : Prop where
  run : ∀ (pins : List (Addr × Obj)) (s : Shared), Inv X pins σ H s → wpAny (model X.prog X.w) X.A (isTrue e X.env (eval e X.env)) (TP X pins σ Q) X.xe s
structure wW (X : Cx) (e : Expr) (σ : St) (H : Hp) (Q : Bool → Hp → Prop) : Prop where
  run : ∀ (whole : Sem Value) (pins : List (Addr × Obj)) (s : Shared), Inv X pins σ H s → wpAny (model X.prog X.w) X.A (isTrue e X.env whole) (TP X pins σ Q) X.xe s
structure wA (X : Cx) (es : List Expr) (σ : St) (H : Hp) (Q : List V → Hp → Prop) : Prop where
  run : ∀ (pos : Pos) (pins : List (Addr × Obj)) (s : Shared), Inv X pins σ H s → wpAny (model X.prog X.w) X.A (spliced (backTo pos (starEach es X.env))) (AP X pins σ Q) X.xe s
structure wS (X : Cx) (st : Stmt) (D : Ends) (σ : St) (H : Hp) : Prop where
  run : ∀ (pins : List (Addr × Obj)) (s : Shared), Inv X pins σ H s → wpAny (model X.prog X.w) X.A (exec st X.env) (SP X pins D) X.xe s
structure wB (X : Cx) (sts : List Stmt) (D : Ends) (σ : St) (H : Hp) : Prop where
  run : ∀ (pins : List (Addr × Obj)) (s : Shared), Inv X pins σ H s → wpAny (model X.prog X.w) X.A (execs sts X.env) (SP X pins D) X.xe s
structure wG (X : Cx) (tg : Expr) (v : V) (σ : St) (H : Hp) (Q : St → Hp → Prop) : Prop where
  run : ∀ (pins : List (Addr × Obj)) (s : Shared) (u : Value), Inv X pins σ H s → RelV v u → wpAny (model X.prog X.w) X.A (assign tg X.env u) (fun _ s' => ∃ σ' H', Inv X pins σ' H' s' ∧ Q σ' H') X.xe s
structure wGs (X : Cx) (ts : List Expr) (vs : List V) (σ : St) (H : Hp) (Q : St → Hp → Prop) : Prop where
  run : ∀ (pins : List (Addr × Obj)) (s : Shared) (us : List Value), Inv X pins σ H s → Vals vs us → wpAny (model X.prog X.w) X.A (assignInOrder ((assignEach ts X.env).map (·.2)) us) (fun _ s' => ∃ σ' H', Inv X pins σ' H' s' ∧ Q σ' H') X.xe s
/-- an operation on two values -/
structure wO (X : Cx) (f : Value → Value → Sem Value) (x y : V) (H : Hp) (Q : VK) : Prop where
  run : ∀ (pins : List (Addr × Obj)) (s : Shared) (σ : St) (v u : Value), Inv X pins σ H s → RelV x v → RelV y u → wpAny (model X.prog X.w) X.A (f v u) (EP X pins σ Q) X.xe s
/-- a call of a known value -/
structure wK (X : Cx) (f : Value) (xs : List V) (H : Hp) (Q : VK) : Prop where
  run : ∀ (pins : List (Addr × Obj)) (s : Shared) (σ : St) (us : List Value), Inv X pins σ H s → Vals xs us → wpAny (model X.prog X.w) X.A (call f us) (EP X pins σ Q) X.xe s
structure wIx (X : Cx) (x y : V) (H : Hp) (Q : VK) : Prop where
  run : ∀ (value slice : Expr) (pins : List (Addr × Obj)) (s : Shared) (σ : St) (v u : Value), Inv X pins σ H s → RelV x v → RelV y u → subscripted slice false v u = operate [v, u] (getItem v u) → wpAny (model X.prog X.w) X.A (subscriptTail value slice v u) (EP X pins σ Q) X.xe s
section
variable {X : Cx}
theorem sE {e : Expr} : PE X e (wE X e) := ⟨fun pins s σ H Q I h => h.run pins s I⟩
theorem sT {e : Expr} : PT X e (wT X e) := ⟨fun pins s σ H Q I h => h.run pins s I⟩
theorem sW {e : Expr} : PW X e (wW X e) := ⟨fun wh pins s σ H Q I h => h.run wh pins s I⟩
theorem sA {es : List Expr} : PA X es (wA X es) := ⟨fun pos pins s σ H Q I h => h.run pos pins s I⟩
theorem sS {st : Stmt} : PS X st (wS X st) := ⟨fun pins s σ H D I h => h.run pins s I⟩
theorem sB {sts : List Stmt} : PSs X sts (wB X sts) := ⟨fun pins s σ H D I h => h.run pins s I⟩
theorem sG {tg : Expr} : PG X tg (wG X tg) := ⟨fun pins s σ H v u Q I r h => h.run pins s u I r⟩
theorem sGs {ts : List Expr} : PGs X ts (wGs X ts) := ⟨fun pins s σ H vs us Q I r h => h.run pins s us I r⟩
theorem sO {f : Value → Value → Sem Value} : OpR X f (wO X f) := fun pins s σ H x y v u Q I rx ry h => h.run pins s σ v u I rx ry
theorem sK {f : Value} : CallR X f (wK X f) := fun pins s σ H xs us Q I r h => h.run pins s σ us I r
variable {σ : St} {H : Hp} {e a b c : Expr} {es : List Expr} {st : Stmt} {sts : List Stmt} {pos pos' p p1 p2 : Pos} {Q : VK} {D : Ends}
theorem ofE {t : TE} (h : PE X e t) (q : t σ H Q) : wE X e σ H Q := ⟨fun pins s I => h.run pins s σ H Q I q⟩
theorem ofT {t : TT} {Q : Bool → Hp → Prop} (h : PT X e t) (q : t σ H Q) : wT X e σ H Q := ⟨fun pins s I => h.run pins s σ H Q I q⟩
theorem ofW {t : TT} {Q : Bool → Hp → Prop} (h : PW X e t) (q : t σ H Q) : wW X e σ H Q := ⟨fun wh pins s I => h.run wh pins s σ H Q I q⟩
theorem ofA {t : TA} {Q : List V → Hp → Prop} (h : PA X es t) (q : t σ H Q) : wA X es σ H Q := ⟨fun pos pins s I => h.run pos pins s σ H Q I q⟩
theorem ofS {t : TS} (h : PS X st t) (q : t D σ H) : wS X st D σ H := ⟨fun pins s I => h.run pins s σ H D I q⟩
theorem ofB {t : TS} (h : PSs X sts t) (q : t D σ H) : wB X sts D σ H := ⟨fun pins s I => h.run pins s σ H D I q⟩
theorem ofG {tg : Expr} {t : TG} {v : V} {Q : St → Hp → Prop} (h : PG X tg t) (q : t v σ H Q) : wG X tg v σ H Q := ⟨fun pins s u I r => h.run pins s σ H v u Q I r q⟩
theorem ofO {f : Value → Value → Sem Value} {r : R2} {x y : V} (h : OpR X f r) (q : r x y H Q) : wO X f x y H Q := ⟨fun pins s σ v u I rx ry => h pins s σ H x y v u Q I rx ry q⟩
theorem ofK {f : Value} {r : List V → Hp → VK → Prop} {xs : List V} (h : CallR X f r) (q : r xs H Q) : wK X f xs H Q := ⟨fun pins s σ us I rr => h pins s σ H xs us Q I rr q⟩
theorem ofIx {r : R2} {x y : V} (h : IxR X r) (q : r x y H Q) : wIx X x y H Q := ⟨fun va sl pins s σ v u I rx ry z => h va sl pins s σ H x y v u Q I rx ry q z⟩
theorem sIx : IxR X (wIx X) := fun va sl pins s σ H x y v u Q I rx ry h z => h.run va sl pins s σ v u I rx ry z
/-! ### weaker wishes -/
theorem wE.imp {Q' : VK} (h : wE X e σ H Q) (q : ∀ v H', Q v H' → Q' v H') : wE X e σ H Q' := ⟨fun pins s I => thn (h.run pins s I) fun u s' ⟨v, H', J, r, x⟩ => ⟨v, H', J, r, q v H' x⟩⟩
theorem wT.imp {Q Q' : Bool → Hp → Prop} (h : wT X e σ H Q) (q : ∀ v H', Q v H' → Q' v H') : wT X e σ H Q' := ⟨fun pins s I => thn (h.run pins s I) fun u s' ⟨H', J, x⟩ => ⟨H', J, q u H' x⟩⟩
theorem wS.imp {D D' : Ends} (h : wS X st D σ H) (n : ∀ σ H, D.nx σ H → D'.nx σ H) (r : ∀ v H, D.rt v H → D'.rt v H) (k : ∀ σ H, D.bk σ H → D'.bk σ H) (c : ∀ σ H, D.ct σ H → D'.ct σ H) : wS X st D' σ H := by
  refine ⟨fun pins s I => thn (h.run pins s I) fun f s' q => ?_⟩
  cases f with
  | next => obtain ⟨σ', H', J, x⟩ := q; exact ⟨σ', H', J, n _ _ x⟩
  | brk => obtain ⟨σ', H', J, x⟩ := q; exact ⟨σ', H', J, k _ _ x⟩
  | cont => obtain ⟨σ', H', J, x⟩ := q; exact ⟨σ', H', J, c _ _ x⟩
  | ret u => obtain ⟨v, σ', H', J, rv, x⟩ := q; exact ⟨v, σ', H', J, rv, r _ _ x⟩
/-! ### names, constants -/
theorem zv (i : Nat) {x : Str} {v : V} (h : Q v H) (hs : σ[i]? = some (some v) := by rfl) (hN : X.N[i]? = some x := by rfl) (hv : Vis X.env.scope x := by first | exact Or.inl rfl | exact Or.inr (Or.inl rfl) | exact Or.inr (Or.inr rfl)) (hd : (x == ("__debug__" : Str)) = false := by decide)
    (hcd : (x == ("__classdict__" : Str)) = false := by decide) : wE X (.Name x pos) σ H Q := ofE (pe_var hN hv hd hcd) ⟨v, hs, h⟩
def slotOf (N : List Str) (x : Str) : Nat := N.findIdx (fun y => decide (y = x))
theorem zn {x : Str} {v : V} (hN : X.N[slotOf X.N x]? = some x) (hv : Vis X.env.scope x) (hs : σ[slotOf X.N x]? = some (some v)) (h : Q v H) (hd : (x == ("__debug__" : Str)) = false := by decide)
    (hcd : (x == ("__classdict__" : Str)) = false := by decide) : wE X (.Name x pos) σ H Q := ofE (pe_var hN hv hd hcd) ⟨v, hs, h⟩
theorem zint {i j} (h : Q (.int i) H) : wE X (.Constant (.int i) j pos) σ H Q := ofE pe_int h
theorem zbl {i j} (h : Q (.bl i) H) : wE X (.Constant (.bool i) j pos) σ H Q := ofE pe_bl h
theorem zstr {i j} (h : Q (.str i) H) : wE X (.Constant (.str i) j pos) σ H Q := ofE pe_str h
theorem znon {j} (h : Q .non H) : wE X (.Constant .none j pos) σ H Q := ofE pe_non h
/-- a constant of the module -/
theorem zglob {x : Str} {v : V} (hm : ∃ u, X.mg x = some u ∧ RelV v u) (hg : Gl X x) (h : Q v H) (hd : (x == ("__debug__" : Str)) = false := by decide) : wE X (.Name x pos) σ H Q := by
  obtain ⟨u, e, r⟩ := hm
  exact ofE (pe_glob hg e r hd) h
/-- a built-in's name as a value -/
theorem zblt {x : Str} {v : V} {u : Value} (hm : X.mg x = none) (hv : bootBuiltins x = some u) (r : RelV v u) (hg : Gl X x) (h : Q v H) (hn : x ≠ "__name__" := by decide) (hd : (x == ("__debug__" : Str)) = false := by decide) : wE X (.Name x pos) σ H Q := ofE (pe_bltn hg hm hv r hn hd) h
/-! ### operators -/
theorem zbin {op : Operator} (h : wE X a σ H fun x H1 => wE X b σ H1 fun y H2 => wO X (binaryOp op) x y H2 Q) : wE X (.BinOp a op b pos) σ H Q := ofE (pe_op sO sE sE) h
theorem zcmp {op : CmpOp} (hm : behindInMarks op b = false) (h : wE X a σ H fun x H1 => wE X b σ H1 fun y H2 => wO X (compareOp op) x y H2 Q) : wE X (.Compare a [op] [b] pos) σ H Q := ofE (pe_cmpR sO sE sE hm) h
theorem zcmpT {op : CmpOp} {Q : Bool → Hp → Prop} (hm : behindInMarks op b = false) (h : wE X a σ H fun x H1 => wE X b σ H1 fun y H2 => wO X (compareOp op) x y H2 fun z H3 => ∃ k, z = .bl k ∧ Q k H3) : wT X (.Compare a [op] [b] pos) σ H Q := ofT (pt_cmpR sO sE sE hm) h
theorem oadd {i j : Int} (h : Q (.int (i + j)) H) : wO X (binaryOp .Add) (.int i) (.int j) H Q := ofO op_add ⟨i, j, rfl, rfl, h⟩
theorem osub {i j : Int} (h : Q (.int (i - j)) H) : wO X (binaryOp .Sub) (.int i) (.int j) H Q := ofO op_sub ⟨i, j, rfl, rfl, h⟩
theorem omul {i j : Int} (c : IntMulOk i j) (h : Q (.int (i * j)) H) : wO X (binaryOp .Mult) (.int i) (.int j) H Q := by
  refine ⟨fun pins s σ v u I rx ry => ?_⟩
  obtain ⟨t, rfl⟩ := rx
  obtain ⟨t', rfl⟩ := ry
  exact mul_int ⟨.int _, H, I.tok _, ⟨_, rfl⟩, h⟩ c
theorem omod {i j : Int} (c : 0 < j) (h : Q (.int (i % j)) H) : wO X (binaryOp .Mod) (.int i) (.int j) H Q := ofO op_mod ⟨i, j, rfl, rfl, c, h⟩
theorem ofdiv {i j : Int} (c : CDivW i j) (h : Q (.int (i / j)) H) : wO X (binaryOp .FloorDiv) (.int i) (.int j) H Q := ofO op_fdivW ⟨i, j, rfl, rfl, c, h⟩
theorem oand {i j : Int} (h : Q (.int (Builtin.bitAnd i j)) H) : wO X (binaryOp .BitAnd) (.int i) (.int j) H Q := ofO op_and ⟨i, j, rfl, rfl, h⟩
theorem oor {i j : Int} (h : Q (.int (Builtin.bitOr i j)) H) : wO X (binaryOp .BitOr) (.int i) (.int j) H Q := ofO op_or ⟨i, j, rfl, rfl, h⟩
theorem oxor {i j : Int} (h : Q (.int (Builtin.bitXor i j)) H) : wO X (binaryOp .BitXor) (.int i) (.int j) H Q := ofO op_xor ⟨i, j, rfl, rfl, h⟩
theorem oshl {i j : Int} (c : CShl i j) (h : Q (.int (i * 2 ^ j.toNat)) H) : wO X (binaryOp .LShift) (.int i) (.int j) H Q := ofO op_shlW ⟨i, j, rfl, rfl, c, h⟩
theorem oshr {i j : Int} (c : 0 ≤ j) (h : Q (.int (i / 2 ^ j.toNat)) H) : wO X (binaryOp .RShift) (.int i) (.int j) H Q := ofO op_shr ⟨i, j, rfl, rfl, c, h⟩
theorem opow {i j : Int} (c0 : 0 ≤ j) (c : (Builtin.Int.intBits i : Int) * j ≤ 2 ^ 27) (h : Q (.int (i ^ j.toNat)) H) : wO X (binaryOp .Pow) (.int i) (.int j) H Q := by
  refine ⟨fun pins s σ v u I rx ry => ?_⟩
  obtain ⟨t, rfl⟩ := rx
  obtain ⟨t', rfl⟩ := ry
  exact pow_int c0 c ⟨.int _, H, I.tok _, ⟨_, rfl⟩, h⟩
theorem oadds {i j : Str} (c : i.length + j.length ≤ sizeLine) (h : Q (.str (i ++ j)) H) : wO X (binaryOp .Add) (.str i) (.str j) H Q := ofO op_add_str ⟨i, j, rfl, rfl, c, h⟩
theorem olt {i j : Int} (h : Q (.bl (decide (i < j))) H) : wO X (compareOp .Lt) (.int i) (.int j) H Q := ofO op_lt ⟨i, j, rfl, rfl, h⟩
theorem ole {i j : Int} (h : Q (.bl (decide (i ≤ j))) H) : wO X (compareOp .LtE) (.int i) (.int j) H Q := ofO op_le ⟨i, j, rfl, rfl, h⟩
theorem ogt {i j : Int} (h : Q (.bl (decide (j < i))) H) : wO X (compareOp .Gt) (.int i) (.int j) H Q := ofO op_gt ⟨i, j, rfl, rfl, h⟩
theorem oge {i j : Int} (h : Q (.bl (decide (j ≤ i))) H) : wO X (compareOp .GtE) (.int i) (.int j) H Q := ofO op_ge ⟨i, j, rfl, rfl, h⟩
theorem oeq {x y : V} (s : scal x y = true) (h : Q (.bl (decide (x = y))) H) : wO X (compareOp .Eq) x y H Q := ofO op_eq ⟨s, h⟩
theorem one {x y : V} (s : scal x y = true) (h : Q (.bl (!decide (x = y))) H) : wO X (compareOp .NotEq) x y H Q := ofO op_ne ⟨s, h⟩
theorem oeqi {i j : Int} (h : Q (.bl (decide (i = j))) H) : wO X (compareOp .Eq) (.int i) (.int j) H Q := oeq rfl (by simp only [V.int.injEq]; exact h)
theorem onei {i j : Int} (h : Q (.bl (!decide (i = j))) H) : wO X (compareOp .NotEq) (.int i) (.int j) H Q := one rfl (by simp only [V.int.injEq]; exact h)
theorem oeqD {k : Nat} {x y : V} {d e : PyData} (hr : Room k X.A) (hx : Dp X.K H x d) (hy : Dp X.K H y e) (s1 : SeqAt.shaped d = true) (s2 : SeqAt.shaped e = true) (h : Q (.bl (PyData.eqv d e)) H) : wO X (compareOp .Eq) x y H Q := ofO (op_eqD hr.units) ⟨d, e, hx, hy, s1, s2, h⟩
theorem oneD {k : Nat} {x y : V} {d e : PyData} (hr : Room k X.A) (hx : Dp X.K H x d) (hy : Dp X.K H y e) (s1 : SeqAt.shaped d = true) (s2 : SeqAt.shaped e = true) (h : Q (.bl (!PyData.eqv d e)) H) : wO X (compareOp .NotEq) x y H Q := ofO (op_neD hr.units) ⟨d, e, hx, hy, s1, s2, h⟩
theorem ois {x : V} (h : Q (.bl (decide (x = .non))) H) : wO X (compareOp .Is) x .non H Q := ofO op_isN ⟨rfl, h⟩
theorem onot {x : V} (h : Q (.bl (!decide (x = .non))) H) : wO X (compareOp .IsNot) x .non H Q := ofO op_notN ⟨rfl, h⟩
theorem ocat {l m : Addr} {xs zs : List V} (hl : H l = some (.lst xs)) (hm : H m = some (.lst zs)) (c : xs.length + zs.length ≤ sizeLine) (h : ∀ p, H p = none → Q (.ref p) (upd H p (.lst (xs ++ zs)))) : wO X (binaryOp .Add) (.ref l) (.ref m) H Q := ofO op_cat ⟨l, m, xs, zs, rfl, rfl, hl, hm, c, h⟩
end
end Z

set_option maxRecDepth 100000
set_option maxHeartbeats 4000000
namespace Z
open PySem PySem.Spec PyProof.Rows L2
open Evl (Ex)
section
variable {X : Cx} {σ : St} {H : Hp} {e a b c o : Expr} {es : List Expr} {st : Stmt} {sts : List Stmt} {pos pos' p p1 p2 apos : Pos} {Q : VK} {D : Ends} {W : WX}
/-! ### argument lists, displays -/
theorem anil {Q : List V → Hp → Prop} (h : Q [] H) : wA X [] σ H Q := ofA pa_nil h
theorem acons {Q : List V → Hp → Prop} (h : wE X e σ H fun x H1 => wA X es σ H1 fun xs H2 => Q (x :: xs) H2) (hs : starEach (e :: es) X.env = (false, eval e X.env) :: starEach es X.env := by rfl) : wA X (e :: es) σ H Q := ofA (pa_cons sE sA hs) h
theorem zlst (h : wA X es σ H fun vs H1 => vs.length ≤ sizeLine ∧ ∀ p H2, H1 p = none → Ex H1 H2 → H2 p = some (.lst vs) → Q (.ref p) H2) : wE X (.List es pos) σ H Q :=
  ofE (pe_lst sA) ⟨fun pos pins s I => thn (h.run pos pins s I) fun us s' ⟨vs, H1, J, r, l, q⟩ => ⟨vs, H1, J, r, l, fun p hp => q p _ hp (Ex.new hp) upd_same⟩⟩
theorem ztup {k} (h : wA X es σ H fun vs H1 => vs.length ≤ sizeLine ∧ ∀ p H2, H1 p = none → Ex H1 H2 → H2 p = some (.tup vs) → Q (.ref p) H2) : wE X (.Tuple es k pos) σ H Q :=
  ofE (pe_tup sA) ⟨fun pos pins s I => thn (h.run pos pins s I) fun us s' ⟨vs, H1, J, r, l, q⟩ => ⟨vs, H1, J, r, l, fun p hp => q p _ hp (Ex.new hp) upd_same⟩⟩
theorem ocatE {l m : Addr} {xs zs : List V} (hl : H l = some (.lst xs)) (hm : H m = some (.lst zs)) (c : xs.length + zs.length ≤ sizeLine) (h : ∀ p H2, H p = none → Ex H H2 → H2 p = some (.lst (xs ++ zs)) → Q (.ref p) H2) : wO X (binaryOp .Add) (.ref l) (.ref m) H Q :=
  ocat hl hm c fun p hp => h p _ hp (Ex.new hp) upd_same
/-! ### tests -/
theorem zand {Q : Bool → Hp → Prop} (h : wT X a σ H fun k H1 => if k = true then wW X (.BoolOp .And (b :: es) pos) σ H1 Q else Q false H1) : wW X (.BoolOp .And (a :: b :: es) pos) σ H Q := ofW (pw_and sT sW) h
theorem zand1 {Q : Bool → Hp → Prop} (h : wT X a σ H Q) : wW X (.BoolOp .And [a] pos) σ H Q := ofW (pw_and1 sT) h
theorem zor {Q : Bool → Hp → Prop} (h : wT X a σ H fun k H1 => if k = true then Q true H1 else wW X (.BoolOp .Or (b :: es) pos) σ H1 Q) : wW X (.BoolOp .Or (a :: b :: es) pos) σ H Q := ofW (pw_or sT sW) h
theorem zor1 {Q : Bool → Hp → Prop} (h : wT X a σ H Q) : wW X (.BoolOp .Or [a] pos) σ H Q := ofW (pw_or1 sT) h
theorem zW {Q : Bool → Hp → Prop} {op} (h : wW X (.BoolOp op es pos) σ H Q) : wT X (.BoolOp op es pos) σ H Q := ⟨fun pins s I => h.run _ pins s I⟩
theorem znotT {Q : Bool → Hp → Prop} (h : wT X a σ H fun k H1 => Q (!k) H1) : wT X (.UnaryOp .Not a pos) σ H Q := ofT (pt_not sT) h
theorem zval {Q : Bool → Hp → Prop} (h : wE X e σ H fun x H1 => ∃ k, x = .bl k ∧ Q k H1) (he : ∀ whole, isTrue e X.env whole = (do let v ← whole; standAt e.pos; holding [v] (truthy v)) := by intro _; rfl) : wT X e σ H Q := ofT (pt_val sE he) h
theorem ztru {Q : Bool → Hp → Prop} (h : wE X e σ H fun x H1 => ∃ k, TruV X.K x H1 k ∧ Q k H1) (he : ∀ whole, isTrue e X.env whole = (do let v ← whole; standAt e.pos; holding [v] (truthy v)) := by intro _; rfl) : wT X e σ H Q := ofT (pt_truth sE he) h
theorem zif (h : wT X c σ H fun k H1 => if k = true then wE X a σ H1 Q else wE X b σ H1 Q) : wE X (.IfExp c a b pos) σ H Q := ofE (pe_ifExp sT sE sE) h
/-- as values: and, or of truths, not -/
theorem zandV (h : wE X a σ H fun x H1 => ∃ k, x = .bl k ∧ if k = true then wE X (.BoolOp .And (b :: es) pos) σ H1 Q else Q (.bl false) H1) : wE X (.BoolOp .And (a :: b :: es) pos) σ H Q := ofE (pe_and sE sE) h
theorem zorV (h : wE X a σ H fun x H1 => ∃ k, x = .bl k ∧ if k = true then Q (.bl true) H1 else wE X (.BoolOp .Or (b :: es) pos) σ H1 Q) : wE X (.BoolOp .Or (a :: b :: es) pos) σ H Q := ofE (pe_or sE sE) h
theorem zoneV {op} (h : wE X a σ H Q) : wE X (.BoolOp op [a] pos) σ H Q := ofE (pe_one sE) h
theorem znotV (h : wE X a σ H fun x H1 => ∃ k, x = .bl k ∧ Q (.bl (!k)) H1) : wE X (.UnaryOp .Not a pos) σ H Q := ofE (pe_not sE) h
/-! ### statements -/
theorem bnil (h : D.nx σ H) : wB X [] D σ H := ofB pss_nil h
theorem bcons (h : wS X st { D with nx := fun σ' H' => wB X sts D σ' H' } σ H) : wB X (st :: sts) D σ H := ofB (pss_cons sS sB) h
theorem bone (h : wS X st D σ H) : wB X [st] D σ H := ofB (pss_one sS) h
theorem sset {x : Str} (i : Nat) (hN : X.N.Nodup) (h : wE X e σ H fun v H1 => D.nx (σ.set i (some v)) H1) (hi : X.N[i]? = some x := by rfl) (hx : Loc X.env.scope x := by first | exact Or.inl rfl | exact Or.inr rfl) (hs : swapsWith e (some (.Name x pos')) pos.line X.env = pure false := by rfl)
    (hf : X.fn x = true ∨ X.env.scope.names.lookup x = some .local := by first | exact .inl rfl | exact .inr rfl | assumption) : wS X (.Assign [.Name x pos'] e pos) D σ H := ofS (ps_set hN hi hx sE hs hf) h
theorem sret (h : wE X e σ H D.rt) : wS X (.Return (some e) pos) D σ H := ofS (ps_ret sE) h
theorem sretN (h : D.rt .non H) : wS X (.Return none pos) D σ H := ofS ps_retN h
theorem sif {x y : List Stmt} (h : wT X c σ H fun k H1 => if k = true then wB X x D σ H1 else wB X y D σ H1) : wS X (.If c x y pos) D σ H := ofS (ps_if sT sB sB) h
theorem sexp (h : wE X e σ H fun _ H1 => D.nx σ H1) (hs : swapsWith e none pos.line X.env = pure false := by rfl) : wS X (.Expr e pos) D σ H := ofS (ps_expr sE hs) h
theorem spass (h : D.nx σ H) : wS X (.Pass pos) D σ H := ofS ps_pass h
theorem sbrk (h : D.bk σ H) : wS X (.Break pos) D σ H := ofS ps_break h
theorem scont (h : D.ct σ H) : wS X (.Continue pos) D σ H := ofS ps_continue h
/-- name op= e -/
theorem saug {x : Str} {op : Operator} (i : Nat) (hN : X.N.Nodup) {v : V} (hv : σ[i]? = some (some v)) (h : wE X e σ H fun y H1 => wO X (inplaceOp op) v y H1 fun z H2 => D.nx (σ.set i (some z)) H2) (hi : X.N[i]? = some x := by rfl) (hx : Loc X.env.scope x := by first | exact Or.inl rfl | exact Or.inr rfl)
    (hf : X.fn x = true ∨ X.env.scope.names.lookup x = some .local := by first | exact .inl rfl | exact .inr rfl | assumption) : wS X (.AugAssign (.Name x pos') op e pos) D σ H := ofS (ps_aug (ti := wO X (inplaceOp op)) hN hi hx sE sO hf) ⟨v, hv, h⟩
theorem ior {i j : Int} (h : Q (.int (Builtin.bitOr i j)) H) : wO X (inplaceOp .BitOr) (.int i) (.int j) H Q := ofO iop_or ⟨i, j, rfl, rfl, h⟩
theorem ixor {i j : Int} (h : Q (.int (Builtin.bitXor i j)) H) : wO X (inplaceOp .BitXor) (.int i) (.int j) H Q := ofO iop_xor ⟨i, j, rfl, rfl, h⟩
theorem ishr {i j : Int} (c : 0 ≤ j) (h : Q (.int (i / 2 ^ j.toNat)) H) : wO X (inplaceOp .RShift) (.int i) (.int j) H Q := ofO iop_shr ⟨i, j, rfl, rfl, c, h⟩
theorem iadd {i j : Int} (h : Q (.int (i + j)) H) : wO X (inplaceOp .Add) (.int i) (.int j) H Q := ofO iop_add ⟨i, j, rfl, rfl, h⟩
/-! ### targets -/
theorem gname {x : Str} {v : V} {Q : St → Hp → Prop} (i : Nat) (hN : X.N.Nodup) (h : Q (σ.set i (some v)) H) (hi : X.N[i]? = some x := by rfl) (hx : Loc X.env.scope x := by first | exact Or.inl rfl | exact Or.inr rfl)
    (hf : X.fn x = true ∨ X.env.scope.names.lookup x = some .local := by first | exact .inl rfl | exact .inr rfl | assumption) : wG X (.Name x pos) v σ H Q := ofG (pg_name hN hi hx hf) h
theorem gsnil {Q : St → Hp → Prop} (h : Q σ H) : wGs X [] [] σ H Q := ⟨fun pins s us I r => pgs_nil.run pins s σ H [] us Q I r ⟨rfl, h⟩⟩
theorem gscons {tg : Expr} {ts : List Expr} {v : V} {vs : List V} {Q : St → Hp → Prop} (h : wG X tg v σ H fun σ' H' => wGs X ts vs σ' H' Q) (hs : (assignEach (tg :: ts) X.env).map (·.2) = assign tg X.env :: (assignEach ts X.env).map (·.2) := by rfl) : wGs X (tg :: ts) (v :: vs) σ H Q :=
  ⟨fun pins s us I r => (pgs_cons sG sGs hs).run pins s σ H (v :: vs) us Q I r ⟨v, vs, rfl, h⟩⟩
theorem gtup {ts : List Expr} {k : Nat} {p : Addr} {xs : List V} {Q : St → Hp → Prop} (hc : X.calm = true) (hp : SqT X.K H p xs) (hl : xs.length = ts.length) (h : wGs X ts xs σ H Q) (hn : (assignEach ts X.env).length = ts.length := by rfl) (hst : (assignEach ts X.env).findIdx? (·.1) = none := by rfl) : wG X (.Tuple ts k pos) (.ref p) σ H Q :=
  ofG (pg_tup hc sGs hn hst) ⟨p, xs, rfl, hp, hl, h⟩
theorem sasg {tg : Expr} (h : wE X e σ H fun v H1 => wG X tg v σ H1 D.nx) (hs : swapsWithSole [tg] e pos.line X.env = pure false := by rfl) (hw : swappedStores [tg] e X.env = pure none := by rfl)
    (h1 : (assignEach [tg] X.env).map (·.2) = [assign tg X.env] := by rfl) : wS X (.Assign [tg] e pos) D σ H := ofS (ps_asg sE sG hs hw h1) h
/-! ### calls of defs -/
/-- a def of the module: where it stands, how it binds, what it promises -/
def Gf (P : Program) (w : World) (K : PySem.W.Frag) (mg : Str → Option Value) (base : Heap) (k : Nat) (x : Str) (dvs : List V) (sp : Sp) : Prop :=
  ∃ (f : Addr) (fd : FuncData) (ps : List Str) (ds : List Value), mg x = some (.ref f) ∧ PySem.W.keepIn K (.ref f) = true ∧ Binds K fd ps ds ∧ Vals dvs ds ∧ FnOk P w K mg base (L2N.CX P w) k f fd ps sp
theorem Gf.mono {P : Program} {w : World} {K : PySem.W.Frag} {mg : Str → Option Value} {base : Heap} {k j : Nat} {x : Str} {dvs : List V} {sp : Sp} (h : Gf P w K mg base k x dvs sp) (hk : k ≤ j) : Gf P w K mg base j x dvs sp := by
  obtain ⟨f, fd, ps, ds, h1, h2, h3, h4, h5⟩ := h
  exact ⟨f, fd, ps, ds, h1, h2, h3, h4, h5.mono hk⟩
theorem run_gf {pins : List (Addr × Obj)} {s : Shared} {k : Nat} {f : Addr} {fd : FuncData} {ps : List Str} {sp : Sp} {dvs : List V} {ds us : List Value} {vs : List V} (F : FnOk X.prog X.w X.K X.mg X.base (L2N.CX X.prog X.w) k f fd ps sp) (hr : Room k X.A) (hb : Binds X.K fd ps ds) (hd : Vals dvs ds) (tk : L2N.Takes X W)
    (I : Inv X pins σ H s) (r : Vals vs us) (h : sp (vs ++ dvs) H Q fun cls d H' => W cls d σ H') : wpAny (model X.prog X.w) X.A (call (.ref f) us) (EP X pins σ Q) X.xe s := by
  have r2 : Vals (vs ++ dvs) (us ++ ds) := r.append hd
  have hl : (us ++ ds).length = ps.length := r2.length.symm.trans (F.len _ _ _ _ h)
  refine wpAny_call (codeAny_mono (F.run X.A X.stack s H ⟨us, []⟩ (us ++ ds) (vs ++ dvs) Q (fun cls d H' => W cls d σ H') hr I.env0 (hb s us I.kIn hl) r2 h) fun z s' hq => ?_)
  cases z with
  | error er => exact tk er s' (L2N.XE.of_call I (fun _ _ _ q => q) hq)
  | ok fl =>
    cases fl with
    | ret u => exact I.after hq
    | next => exact hq.elim
    | brk => exact hq.elim
    | cont => exact hq.elim
theorem zcall {x : Str} {k j : Nat} {dvs : List V} {sp : Sp} (F : Gf X.prog X.w X.K X.mg X.base k x dvs sp) (hr : Room j X.A) (hk : k ≤ j) (tk : L2N.Takes X W) (hg : Gl X x) (h : wA X (e :: es) σ H fun vs H1 => sp (vs ++ dvs) H1 Q fun cls d H' => W cls d σ H')
    (hdb : (x == ("__debug__" : Str)) = false := by decide) (he : starEach (e :: es) X.env = (false, eval e X.env) :: starEach es X.env := by rfl) (hpl : (backTo pos (starEach es X.env)).any (·.1) = false := by rfl) : wE X (.Call (.Name x p) (e :: es) [] pos) σ H Q := by
  refine ⟨fun pins s I => ?_⟩
  obtain ⟨f, fd, ps, ds, hm, kp, hb, hd, FF⟩ := F
  refine wpAny_Call_Name_kw (ld_glob I hg hm ?_ hdb)
  refine PySem.W.callWith_K (h₀ := X.base) I.ok.mod.kin kp (thn (h.run pos pins s I) fun us s1 ⟨vs, H1, I1, r, q⟩ => ⟨I1.kIn, ?_⟩) he hpl
  exact run_gf FF (hr.mono hk) hb hd tk I1 r q
theorem zcall0 {x : Str} {k j : Nat} {dvs : List V} {sp : Sp} (F : Gf X.prog X.w X.K X.mg X.base k x dvs sp) (hr : Room j X.A) (hk : k ≤ j) (tk : L2N.Takes X W) (hg : Gl X x) (h : sp dvs H Q fun cls d H' => W cls d σ H')
    (hdb : (x == ("__debug__" : Str)) = false := by decide) : wE X (.Call (.Name x p) [] [] pos) σ H Q := by
  refine ⟨fun pins s I => ?_⟩
  obtain ⟨f, fd, ps, ds, hm, kp, hb, hd, FF⟩ := F
  refine wpAny_Call_Name_kw (ld_glob I hg hm ?_ hdb)
  exact PySem.W.callWith_K0 I.kIn kp (run_gf (us := []) (vs := []) FF (hr.mono hk) hb hd tk I .nil h)
/-! ### built-ins -/
theorem zbfn {x : Str} {id : String} (hm : X.mg x = none) (hv : bootBuiltins x = some (.builtin id)) (hg : Gl X x) (h : wA X (e :: es) σ H fun vs H1 => wK X (.builtin id) vs H1 Q) (hn : x ≠ "__name__" := by decide) (hdb : (x == ("__debug__" : Str)) = false := by decide)
    (he : starEach (e :: es) X.env = (false, eval e X.env) :: starEach es X.env := by rfl) (hpl : (backTo pos (starEach es X.env)).any (·.1) = false := by rfl) : wE X (.Call (.Name x p) (e :: es) [] pos) σ H Q := ofE (pe_callB sK hg hm hv sA hn hdb he hpl) h
theorem zbty {x : Str} {T : String} (hm : X.mg x = none) (hv : bootBuiltins x = some (.type T)) (hg : Gl X x) (h : wA X (e :: es) σ H fun vs H1 => wK X (.type T) vs H1 Q) (hn : x ≠ "__name__" := by decide) (hdb : (x == ("__debug__" : Str)) = false := by decide)
    (he : starEach (e :: es) X.env = (false, eval e X.env) :: starEach es X.env := by rfl) (hpl : (backTo pos (starEach es X.env)).any (·.1) = false := by rfl) : wE X (.Call (.Name x p) (e :: es) [] pos) σ H Q := ofE (pe_callTy sK hg hm hv sA hn hdb he hpl) h
theorem klenL {p : Addr} {xs : List V} (hp : SqL X.K H p xs) (h : Q (.int xs.length) H) : wK X (.builtin "len") [.ref p] H Q := ofK call_len_seq ⟨p, xs, rfl, .inl hp, h⟩
theorem klenT {p : Addr} {xs : List V} (hp : SqT X.K H p xs) (h : Q (.int xs.length) H) : wK X (.builtin "len") [.ref p] H Q := ofK call_len_seq ⟨p, xs, rfl, .inr hp, h⟩
theorem klenS {z : Str} (c : z.length ≤ sizeLine) (h : Q (.int z.length) H) : wK X (.builtin "len") [.str z] H Q := ofK call_len_str ⟨z, rfl, c, h⟩
theorem kmax {i j : Int} (hc : X.calm = true) (h : Q (.int (max i j)) H) : wK X (.builtin "max") [.int i, .int j] H Q := ofK (call_max2 hc) ⟨i, j, rfl, by rw [show (if j > i then j else i) = max i j from by omega]; exact h⟩
theorem kmin {i j : Int} (hc : X.calm = true) (h : Q (.int (min i j)) H) : wK X (.builtin "min") [.int i, .int j] H Q := ofK (call_min2 hc) ⟨i, j, rfl, by rw [show (if j < i then j else i) = min i j from by omega]; exact h⟩
theorem klistL {p : Addr} {xs : List V} (hp : SqL X.K H p xs) (h : ∀ q H2, H q = none → Ex H H2 → H2 q = some (.lst xs) → Q (.ref q) H2) : wK X (.type "list") [.ref p] H Q := ofK call_list_of ⟨p, xs, rfl, .inl hp, fun q hq => h q _ hq (Ex.new hq) upd_same⟩
theorem klistT {p : Addr} {xs : List V} (hp : SqT X.K H p xs) (h : ∀ q H2, H q = none → Ex H H2 → H2 q = some (.lst xs) → Q (.ref q) H2) : wK X (.type "list") [.ref p] H Q := ofK call_list_of ⟨p, xs, rfl, .inr hp, fun q hq => h q _ hq (Ex.new hq) upd_same⟩
theorem ktupL {p : Addr} {xs : List V} (hp : SqL X.K H p xs) (h : ∀ q H2, H q = none → Ex H H2 → H2 q = some (.tup xs) → Q (.ref q) H2) : wK X (.type "tuple") [.ref p] H Q := ofK call_tuple_of ⟨p, xs, rfl, .inl ⟨hp, fun q hq => h q _ hq (Ex.new hq) upd_same⟩⟩
theorem kisi {x c : V} {t u : Value} {k : Bool} (hc : ClsV c u) (ty : TyX X.K H x t) (hk : PySem.W.kitOne X.K t u = some k) (h : Q (.bl k) H) : wK X (.builtin "isinstance") [x, c] H Q := ofK call_isi ⟨x, c, t, u, k, rfl, hc, ty, hk, h⟩
/-! ### items, slices, methods -/
theorem zix (h : wE X a σ H fun x H1 => wE X b σ H1 fun y H2 => wIx X x y H2 Q) (hs : PlainIx b := by intro _ _; rfl) : wE X (.Subscript a b pos) σ H Q := ofE (pe_ix sIx sE sE hs) h
theorem ixL {p : Addr} {xs : List V} {i : Int} {v : V} (hp : SqL X.K H p xs) (hi : atI xs i = some v) (h : Q v H) : wIx X (.ref p) (.int i) H Q := ofIx ix_list ⟨p, xs, i, v, rfl, rfl, hp, hi, h⟩
theorem ixT {p : Addr} {xs : List V} {i : Int} {v : V} (hp : SqT X.K H p xs) (hi : atI xs i = some v) (h : Q v H) : wIx X (.ref p) (.int i) H Q := ofIx ix_tup ⟨p, xs, i, v, rfl, rfl, hp, hi, h⟩
theorem ixS {z : Str} {i : Int} {c : Nat} (hz : z.length ≤ sizeLine) (hi : atI z.cps.toList i = some c) (h : Q (.str ⟨#[c]⟩) H) : wIx X (.str z) (.int i) H Q := ofIx ix_str ⟨z, i, c, rfl, rfl, hz, hi, h⟩
/-- l.append(e) -/
theorem zapp (h : wE X o σ H fun x H1 => ∃ l xs0, x = .ref l ∧ H1 l = some (.lst xs0) ∧ wE X e σ H1 fun y H2 => ∃ xs, H2 l = some (.lst xs) ∧ xs.length < sizeLine ∧ Q .non (upd H2 l (.lst (xs ++ [y])))) (hsa : starEach [e] X.env = (false, eval e X.env) :: starEach [] X.env := by rfl)
    (he : ∀ t : TA, PA X [e] t → PE X (.Call (.Attribute o "append" apos) [e] [] pos) (tBM X.K "list" rAppend (wE X o) t) := by intro t ht; exact pe_bm PySem.F.plainAttrs_list PySem.F.slot_list_append PySem.F.type_list_append mt_append sE ht) :
    wE X (.Call (.Attribute o "append" apos) [e] [] pos) σ H Q := by
  refine ofE (he _ (pa_cons sE pa_nil hsa)) ⟨fun pins s I => thn (h.run pins s I) fun u s1 ⟨x, H1, I1, r1, l, xs0, ex, hl, q⟩ => ⟨x, H1, I1, r1, ?_⟩⟩
  subst ex
  refine ⟨.inl ⟨rfl, xs0, SqL.of hl⟩, ⟨fun pins2 s2 J => thn (q.run pins2 s2 J) fun u2 s3 ⟨y, H2, I2, r2, xs, h2, hz, q2⟩ => ⟨y, H2, I2, r2, ?_⟩⟩⟩
  exact ⟨l, xs, y, rfl, rfl, h2, hz, q2⟩
/-! ### loops -/
variable {tg l : Expr} {body : List Stmt}
theorem lfor {wi : TI} (hp : PassesOwn (model X.prog X.w) X.A X.env X.xe) (hc : X.calm = true) (hi : PI X tg l wi) (h : tFor wi (wG X tg) (wB X body) D σ H) (hs : ∀ x, foldedSetIterable l X.env x = pure x := by intro _; rfl) : wS X (.For tg l body [] pos) D σ H := ofS (ps_for hp hc hi sG sB hs) h
/-- over a list that the body leaves as it is -/
theorem lforL {xs : List V} (hp : PassesOwn (model X.prog X.w) X.A X.env X.xe) (hc : X.calm = true) (Pv : Nat → St → Hp → Prop)
    (h : wE X l σ H fun x H1 => ∃ a, x = .ref a ∧ SqL X.K H1 a xs ∧ Pv 0 σ H1 ∧ (∀ i σ H, i ≤ xs.length → Pv i σ H → SqL X.K H a xs) ∧
      (∀ i x σ H, xs[i]? = some x → Pv i σ H → wG X tg x σ H fun σ2 H2 => wB X body { D with nx := Pv (i + 1), ct := Pv (i + 1), bk := D.nx } σ2 H2) ∧ ∀ σ H, Pv xs.length σ H → D.nx σ H)
    (hs : ∀ x, foldedSetIterable l X.env x = pure x := by intro _; rfl) : wS X (.For tg l body [] pos) D σ H :=
  lfor hp hc (pi_list sE) ⟨fun pins s I => thn (h.run pins s I) fun u s1 ⟨x, H1, I1, r, a, ex, hq, h0, hl, ht, hd⟩ => ⟨x, H1, I1, r, a, ex, ⟨xs, hq⟩, for_list Pv h0 hl ht hd⟩⟩ hs
theorem lforT {xs : List V} (hp : PassesOwn (model X.prog X.w) X.A X.env X.xe) (hc : X.calm = true) (Pv : Nat → St → Hp → Prop)
    (h : wE X l σ H fun x H1 => ∃ a, x = .ref a ∧ SqT X.K H1 a xs ∧ Pv 0 σ H1 ∧ (∀ i σ H, i ≤ xs.length → Pv i σ H → SqT X.K H a xs) ∧
      (∀ i x σ H, xs[i]? = some x → Pv i σ H → wG X tg x σ H fun σ2 H2 => wB X body { D with nx := Pv (i + 1), ct := Pv (i + 1), bk := D.nx } σ2 H2) ∧ ∀ σ H, Pv xs.length σ H → D.nx σ H)
    (hs : ∀ x, foldedSetIterable l X.env x = pure x := by intro _; rfl) : wS X (.For tg l body [] pos) D σ H :=
  lfor hp hc (pi_tup sE) ⟨fun pins s I => thn (h.run pins s I) fun u s1 ⟨x, H1, I1, r, a, ex, hq, h0, hl, ht, hd⟩ => ⟨x, H1, I1, r, a, ex, ⟨xs, hq⟩, for_tup Pv h0 hl ht hd⟩⟩ hs
theorem lfor1 {n : Int} (hm : X.mg "range" = none) (hp : PassesOwn (model X.prog X.w) X.A X.env X.xe) (hc : X.calm = true) (Pv : Nat → St → Hp → Prop) (hg : Gl X "range")
    (h : wE X a σ H fun x H1 => x = .int n ∧ n < 2 ^ 62 ∧ -(2 ^ 62) ≤ n ∧ Pv 0 σ H1 ∧ (∀ (i : Nat) σ H, (i : Int) < n → Pv i σ H → wG X tg (.int (i : Int)) σ H fun σ2 H2 => wB X body { D with nx := Pv (i + 1), ct := Pv (i + 1), bk := D.nx } σ2 H2) ∧ ∀ σ H, Pv n.toNat σ H → D.nx σ H)
    (hs : ∀ x, foldedSetIterable (.Call (.Name "range" p) [a] [] pos') X.env x = pure x := by intro _; rfl) (hsa : starEach [a] X.env = [(false, eval a X.env)] := by rfl) : wS X (.For tg (.Call (.Name "range" p) [a] [] pos') body [] pos) D σ H :=
  lfor hp hc (pi_range1 hg hm (pa_cons sE pa_nil hsa) hsa) ⟨fun pins s I => thn (h.run pins s I) fun u s1 ⟨x, H1, I1, r, ex, n1, n2, h0, ht, hd⟩ => ⟨x, H1, I1, r, n, by rw [ex], n2, n1, for_range Pv h0 (fun i σ H hi hP => by rw [Int.zero_add]; exact ht i σ H (by omega) hP) hd⟩⟩ hs
theorem lfor2 {lo n : Int} (hm : X.mg "range" = none) (hp : PassesOwn (model X.prog X.w) X.A X.env X.xe) (hc : X.calm = true) (Pv : Nat → St → Hp → Prop) (hg : Gl X "range")
    (h : wE X a σ H fun x H1 => x = .int lo ∧ wE X b σ H1 fun y H2 => y = .int n ∧ (-(2 ^ 62) ≤ lo ∧ lo < 2 ^ 62 ∧ -(2 ^ 62) ≤ n ∧ n < 2 ^ 62) ∧ Pv 0 σ H2 ∧ (∀ (i : Nat) σ H, lo + (i : Int) < n → Pv i σ H → wG X tg (.int (lo + (i : Int))) σ H fun σ2 H2 => wB X body { D with nx := Pv (i + 1), ct := Pv (i + 1), bk := D.nx } σ2 H2) ∧ ∀ σ H, Pv (n - lo).toNat σ H → D.nx σ H)
    (hs : ∀ x, foldedSetIterable (.Call (.Name "range" p) [a, b] [] pos') X.env x = pure x := by intro _; rfl) (hsa : starEach [a, b] X.env = [(false, eval a X.env), (false, eval b X.env)] := by rfl) (hsb : starEach [b] X.env = [(false, eval b X.env)] := by rfl) : wS X (.For tg (.Call (.Name "range" p) [a, b] [] pos') body [] pos) D σ H :=
  lfor hp hc (pi_range2 hg hm (pa_cons sE (pa_cons sE pa_nil hsb) (by rw [hsa, hsb])) hsa hsb) ⟨fun pins s I => thn (h.run pins s I) fun u s1 ⟨x, H1, I1, r, ex, h2⟩ => ⟨x, H1, I1, r, ⟨fun pins2 s2 J => thn (h2.run pins2 s2 J) fun u2 s3 ⟨y, H2, I2, r2, ey, hb, h0, ht, hd⟩ => ⟨y, H2, I2, r2, lo, n, by rw [ex, ey], hb, for_range Pv h0 (fun i σ H hi hP => ht i σ H (by omega) hP) hd⟩⟩⟩⟩ hs
theorem lwhile (hp : PassesOwn (model X.prog X.w) X.A X.env X.xe) (Pv : St → Hp → Prop) (μ : St → Hp → Nat) (h0 : Pv σ H)
    (h : ∀ σ H, Pv σ H → wT X c σ H fun k H1 => if k = true then wB X body { D with nx := fun σ' H' => Pv σ' H' ∧ μ σ' H' < μ σ H, ct := fun σ' H' => Pv σ' H' ∧ μ σ' H' < μ σ H, bk := D.nx } σ H1 else D.nx σ H1) : wS X (.While c body [] pos) D σ H :=
  ofS (ps_while hp sT sB) (while_by Pv μ h0 h fun σ H Q Q' q z => z.imp q)
/-! ### exceptions -/
structure wM (X : Cx) (e : Expr) (σ : St) (H : Hp) (Q : XK) : Prop where
  run : ∀ (pins : List (Addr × Obj)) (s : Shared), Inv X pins σ H s → wpAny (model X.prog X.w) X.A (eval e X.env) (L2N.MkP X pins σ Q) X.xe s
theorem sM : L2N.PMk X e (wM X e) := fun pins s σ H Q I h => h.run pins s I
theorem sraise (hc : X.calm = true) (tk : L2N.Takes X W) (h : wM X e σ H fun cls d H' => W cls d σ H') : wS X (.Raise (some e) none pos) D σ H := ofS (L2N.ps_raise hc tk sM) h
/-- a class without an own __init__, made with a text -/
theorem mown {x m : Str} {j : Nat} {C : Addr} {bmB : List Value} {B newId initId : String} (F : ExcBaseFacts B newId initId bmB) (q : PySem.W.excIn X.K C bmB newId = true) (gC : X.mg x = some (.ref C)) (kC : PySem.W.keepIn X.K (.ref C) = true) (r : Raises X (.ref C)) (hg : Gl X x) {Q : XK} (h : Q (.ref C) none H)
    (hdb : (x == ("__debug__" : Str)) = false := by decide) : wM X (.Call (.Name x p) [.Constant (.str m) j p2] [] pos) σ H Q := ⟨fun pins s I => L2N.pmk_own F q gC kC r hg hdb pins s σ H Q I h⟩
/-- try: body, except x as n: suite -/
theorem stry {x n : Str} {cl : Value} {np : Pos} {suite : List Stmt} {b₀ : Stmt} (i : Nat) (hN : X.N.Nodup) (tk : L2N.Takes X W) (hc : Names X x cl) (hs : X.stack = X.env :: X.outer) (hf : X.env.frame = some X.env.locals) (hi : X.N[i]? = some n) (hln : X.env.kindOf n = some .local)
    (h : ∀ (pn : List (Addr × Obj)) (xe : Value → Shared → Prop), PassesOwn (model X.prog X.w) X.A X.env xe → L2N.Takes (X.tr pn xe) (fun cls d σ1 H1 => ∃ k, PySem.W.exmOne X.K cls cl = some k ∧
        (k = true → ∀ a oe pn, H1 a = none → L2N.Zn cls d oe → (∃ vs, oe.data = .fields vs) → wB (X.suite a ((a, oe) :: pn)) (b₀ :: suite) { nx := fun σ' H' => D.nx (σ'.set i none) H', rt := D.rt, bk := fun σ' H' => D.bk (σ'.set i none) H', ct := fun σ' H' => D.ct (σ'.set i none) H' } (σ1.set i (some (.ref a))) H1) ∧
        (k = false → W cls d σ1 H1)) → wB (X.tr pn xe) body D σ H) : wS X (.Try body [.ExceptHandler (some (.Name x np)) (some n) (b₀ :: suite) pos'] [] [] pos) D σ H := by
  refine ofS (L2N.ps_try_as (tb := fun W' => fun D σ H => ∀ (pn : List (Addr × Obj)) (xe : Value → Shared → Prop), PassesOwn (model X.prog X.w) X.A X.env xe → L2N.Takes (X.tr pn xe) W' → wB (X.tr pn xe) body D σ H)
    (ts := fun a cls d => fun D σ H => ∀ oe pn, L2N.Zn cls d oe → (∃ vs, oe.data = .fields vs) → wB (X.suite a ((a, oe) :: pn)) (b₀ :: suite) D σ H) hs hf hN hi hln hc tk (fun W' pn xe tk' po => ⟨fun pins s σ H D I q => (q pn xe po tk').run pins s I⟩) (fun a oe cls d pn hz hd => ⟨fun pins s σ H D I q => (q oe pn hz hd).run pins s I⟩)) ?_
  intro pn xe po tk'
  refine h pn xe po (tk'.imp fun cls d σ1 H1 q => ?_)
  obtain ⟨k, h1, h2, h3⟩ := q
  exact ⟨k, h1, fun hk a ha oe pn hz hd => h2 hk a oe pn ha hz hd, h3⟩
end
end Z

set_option maxRecDepth 100000
set_option maxHeartbeats 4000000
namespace Z
open PySem PySem.Spec PyProof.Rows L2
open Evl (Ex)
/-! ### where an exception is handled: what is known of it -/
structure HX (X : Cx) (p : Addr × Obj) (cls : Value) (d : Option Addr) : Prop where
  hot : L2H.Hot1 X.A p
  mem : p ∈ X.pn
  zn : L2N.Zn cls d p.2
  fl : ∃ vs, p.2.data = .fields vs
theorem hx_suite {X : Cx} {a : Addr} {oe : Obj} {pn : List (Addr × Obj)} {cls : Value} {d : Option Addr} (hz : L2N.Zn cls d oe) (hf : ∃ vs, oe.data = .fields vs) : HX (X.suite a ((a, oe) :: pn)) (a, oe) cls d :=
  ⟨⟨rfl, by obtain ⟨vs, e⟩ := hf; exact ⟨vs, e, hz.2.2 vs e⟩⟩, List.mem_cons_self, hz, hf⟩
theorem HX.hotC {X : Cx} {p : Addr × Obj} {cls : Value} {d : Option Addr} (h : HX X p cls d) : L2H.HotC X := ⟨p, h.hot, h.mem⟩
section
variable {prog : Program} {w : World} {A : Around} {E : Value → Shared → Prop} {s : Shared}
/-- the last step of an iterator's end where an exception is handled: StopIteration is made, bears the handled one, is caught -/
theorem stop_hot {h0 h1 : Heap} {it x1 : Addr} {A' : Around} {g : Array GenState} {d : Drawn} {t : Nat} {os : OsState} (hot : HotX.HotAt A' x1 h1)
    (k : ∀ b o, b ≠ it → h0.get? b = some o → h1.get? b = some o)
    (hQ : ∀ (h' : Heap) (a : Addr), (∀ b o, b ≠ it → h0.get? b = some o → h'.get? b = some o) → (∃ o : Obj, h'.get? a = some o ∧ o.cls = .type "StopIteration") → E (.ref a) ⟨h', g, d, t, os⟩) {Q' : PySem.Fin → Shared → Prop} :
    wpAny (model prog w) A' Builtin.SmallTypes.stopIteration Q' E ⟨h1, g, d, t, os⟩ := by
  obtain ⟨hh, o1, vs1, g1, d1, c1⟩ := hot
  show wpAny _ _ (newExc (Value.type "StopIteration") [] >>= _) Q' E _; refine wpAny_bind ?_
  simp only [newExc, newTuple]
  refine wpAny_bind (wpAny_newObj_type ?_ (by size_fits)); refine wpAny_bind (m := firstArgMember _ _) (wpAny_of_eq (a := Value.none) (by first | rfl | (simp only [firstArgMember]; rfl)) ?_)
  refine wpAny_newObj_type (HotX.raiseNew_hot ⟨hh, o1, vs1, Heap.get?_push_of_some _ (Heap.get?_push_of_some _ g1), d1, c1⟩ (Nat.ne_of_lt (Heap.lt_size (Heap.get?_push_of_some _ g1))) (Heap.get?_push_size _ rfl) rfl (by first | (simp; done) | (simp; omega) | (simp only [Array.size_append]; simp; omega)) ?_) (by size_fits)
  refine hQ _ _ (fun b o hb e => ?_) ⟨_, Heap.get?_update_self _ (Heap.get?_push_size _ rfl) rfl, rfl⟩
  have q := Heap.get?_push_of_some { cls := Value.type "tuple", data := Data.seq ([] : List Value).toArray } (k b o hb e)
  rw [Heap.get?_update_other _ _ (Nat.ne_of_gt (Heap.lt_size q))]
  exact Heap.get?_push_of_some _ q
theorem list_end_hot {it l x1 : Addr} {i : Nat} {items} {Q : Option Value → Shared → Prop} (hot : HotX.HotAt A x1 s.heap) (ne : x1 ≠ it) (hit : s.heap.IsListIter it l i) (hl : s.heap.IsList l items) (hx : items[i]? = none)
    (hQ : ∀ h', (∀ b o, b ≠ it → s.heap.get? b = some o → h'.get? b = some o) → Q none { s with heap := h' }) : wpAny (model prog w) A (pyNext (.ref it)) Q E s := by
  obtain ⟨o, ho, hc, hd⟩ := id hit; obtain ⟨ol, hol, _, nl, hdl⟩ := hl; obtain ⟨hh, o1, vs1, g1, d1, c1⟩ := hot
  unfold pyNext
  refine wpAny_bind (wpAny_attempt (wpAny_callSpecial?_slot (name := Str.ofString "__next__") hit.typeIs slot_listiter_next (wpAny_call_entry slot_listiter_next hit.typeIs entry_listiter_next ?_ (args_listiter_next _))))
  show wpAny _ _ (field (.ref it) 0 >>= _) _ _ s; refine wpAny_bind (wpAny_field ho hd (x := .ref l) rfl ?_)
  show wpAny _ _ (if (Value.ref l == Value.none) = true then _ else _) _ _ s; rw [if_neg (show ¬ ((Value.ref l == Value.none) = true) from Bool.false_ne_true)]
  show wpAny _ _ (field (.ref it) 1 >>= _) _ _ s; refine wpAny_bind (wpAny_field ho hd (x := .int i 0) rfl ?_)
  show wpAny _ _ (seqItems? (.ref l) >>= _) _ _ s; refine wpAny_bind (wpAny_seqItems hol hdl ?_); simp only [Int.toNat_natCast, hx]
  refine wpAny_bind (wpAny_rule (wpAny_bind (wpAny_setField ho hd (by simp) ?_)))
  refine stop_hot (A' := A.in1) (h0 := s.heap) (it := it) ⟨hh, o1, vs1, (Heap.get?_update_other _ _ (Ne.symm ne)).trans g1, d1, c1⟩ (fun b o hb e => (Heap.get?_update_other _ _ (Ne.symm hb)).trans e) (fun h' a k ⟨oe, ge, ce⟩ => ?_)
  exact wpAny_bind (wpAny_isInstance (T := "StopIteration") (b := true) ⟨oe, ge, ce⟩ isSubtype_stop (wpAny_pure (hQ _ k)))
theorem tuple_end_hot {it t x1 : Addr} {i : Nat} {items} {Q : Option Value → Shared → Prop} (hot : HotX.HotAt A x1 s.heap) (ne : x1 ≠ it) (hit : IsTupIter s.heap it t i) (hl : IsTup s.heap t items) (hx : items[i]? = none)
    (hQ : ∀ h', (∀ b o, b ≠ it → s.heap.get? b = some o → h'.get? b = some o) → Q none { s with heap := h' }) : wpAny (model prog w) A (pyNext (.ref it)) Q E s := by
  obtain ⟨o, ho, hc, hd⟩ := id hit; obtain ⟨ol, hol, _, nl, hdl⟩ := hl; obtain ⟨hh, o1, vs1, g1, d1, c1⟩ := hot
  unfold pyNext
  refine wpAny_bind (wpAny_attempt (wpAny_callSpecial?_slot (name := Str.ofString "__next__") hit.typeIs slot_tupleiter_next (wpAny_call_entry slot_tupleiter_next hit.typeIs entry_tupleiter_next ?_ (args_tupleiter_next _))))
  show wpAny _ _ (field (.ref it) 0 >>= _) _ _ s; refine wpAny_bind (wpAny_field ho hd (x := .ref t) rfl ?_)
  show wpAny _ _ (if (Value.ref t == Value.none) = true then _ else _) _ _ s; rw [if_neg (show ¬ ((Value.ref t == Value.none) = true) from Bool.false_ne_true)]
  show wpAny _ _ (field (.ref it) 1 >>= _) _ _ s; refine wpAny_bind (wpAny_field ho hd (x := .int i 0) rfl ?_)
  show wpAny _ _ (seqItems? (.ref t) >>= _) _ _ s; refine wpAny_bind (wpAny_seqItems hol hdl ?_); simp only [Int.toNat_natCast, hx]
  refine wpAny_bind (wpAny_rule (wpAny_bind (wpAny_setField ho hd (by simp) ?_)))
  refine stop_hot (A' := A.in1) (h0 := s.heap) (it := it) ⟨hh, o1, vs1, (Heap.get?_update_other _ _ (Ne.symm ne)).trans g1, d1, c1⟩ (fun b o hb e => (Heap.get?_update_other _ _ (Ne.symm hb)).trans e) (fun h' a k ⟨oe, ge, ce⟩ => ?_)
  exact wpAny_bind (wpAny_isInstance (T := "StopIteration") (b := true) ⟨oe, ge, ce⟩ isSubtype_stop (wpAny_pure (hQ _ k)))
/-- a tuple unpacked where an exception is handled -/
theorem unpack_hot {t x1 : Addr} {items : Array Value} {Q : List Value → Shared → Prop} (hot : HotX.HotAt A x1 s.heap) (ht : IsTup s.heap t items)
    (hQ : ∀ h', (∀ b o, s.heap.get? b = some o → h'.get? b = some o) → Q items.toList { s with heap := h' }) : wpAny (model prog w) A (unpackItems (.ref t) items.size none) Q E s := by
  have hlt : t ≠ s.heap.objs.size := by obtain ⟨o, ho, _⟩ := ht; exact Nat.ne_of_lt (Heap.lt_size ho)
  obtain ⟨hh, o1, vs1, g1, d1, c1⟩ := hot
  unfold unpackItems
  refine wpAny_bind ?_
  unfold notIterableAtAll
  refine wpAny_bind (wpAny_specialOf ht.typeIs slot_tuple_iter.lookup (wpAny_pure ?_)); simp only [Bool.false_eq_true, if_false]
  refine wpAny_bind (wpAny_holding (iter_tuple ht ?_))
  refine wpAny_bind (wpAny_holding (draw_tuple hlt items.size 0 _ _ ⟨_, Heap.get?_push_size _ rfl, rfl, rfl⟩ (ht.push _) (by omega) fun ha hita hsa => ?_))
  rw [show List.take items.size (List.drop 0 items.toList) = items.toList from by rw [List.drop_zero]; exact List.take_of_length_le (by simp), if_neg (by simp)]
  have n1 : x1 ≠ s.heap.objs.size := Nat.ne_of_lt (Heap.lt_size g1)
  refine wpAny_bind (wpAny_holding (tuple_end_hot ⟨hh, o1, vs1, (hsa.2 x1 n1).trans (Heap.get?_push_of_some _ g1), d1, c1⟩ n1 hita ((ht.push _).extBut hsa.extBut hlt) (by simp) fun hb kb => ?_))
  simp only [Option.isSome_none, Bool.false_eq_true, if_false]
  refine wpAny_pure (hQ hb fun b o e => kb b o (Nat.ne_of_lt (Heap.lt_size e)) ((hsa.2 b (Nat.ne_of_lt (Heap.lt_size e))).trans (Heap.get?_push_of_some _ e)))
end
end Z
namespace Z
open PySem PySem.Spec PyProof.Rows L2
open Evl (Ex)
/-! ### a comprehension over a list where an exception is handled -/
/-- the block's context, with the pins of the def's -/
abbrev blkH (X : Cx) (s : Shared) (H : Hp) (scope : Scope) (ce : Env) (fp : List Addr) : Cx := { X.blk s H scope ce fp with pn := X.pn }
theorem Inv.toH {X : Cx} {s0 s : Shared} {H0 H : Hp} {scope : Scope} {ce : Env} {fp : List Addr} {σ : St} {pins : List (Addr × Obj)} (I : Inv (X.blk s0 H0 scope ce fp) [] σ H s)
    (h : ∀ p ∈ X.pn ++ pins, s.heap.get? p.1 = some p.2 ∧ H p.1 = none ∧ p.1 ≠ ce.locals ∧ p.1 ∉ frs X.stack ∧ ∀ v, p.2.data ≠ .cell v) : Inv (blkH X s0 H0 scope ce fp) pins σ H s :=
  ⟨⟨I.ok.mod, I.ok.kind, I.ok.glob, I.ok.blt, I.ok.above, I.ok.inj, I.ok.has, I.ok.cab, I.ok.hd, I.ok.frames, I.ok.stk, I.ok.exf, I.ok.bs, I.ok.bsz, I.ok.noex, I.ok.exfs, I.ok.funs, I.ok.frf⟩, I.os, I.bare, I.base, I.loc, I.cell, I.free, I.freeC, h, I.hok, I.len⟩
theorem Inv.fromH {X : Cx} {s0 s : Shared} {H0 H : Hp} {scope : Scope} {ce : Env} {fp : List Addr} {σ : St} {pins : List (Addr × Obj)} (I : Inv (blkH X s0 H0 scope ce fp) pins σ H s) : Inv (X.blk s0 H0 scope ce fp) pins σ H s :=
  ⟨⟨I.ok.mod, I.ok.kind, I.ok.glob, I.ok.blt, I.ok.above, I.ok.inj, I.ok.has, I.ok.cab, I.ok.hd, I.ok.frames, I.ok.stk, I.ok.exf, I.ok.bs, I.ok.bsz, I.ok.noex, I.ok.exfs, I.ok.funs, I.ok.frf⟩, I.os, I.bare, I.base, I.loc, I.cell, I.free, I.freeC, fun p hp => I.pin p (List.mem_append_right _ hp), I.hok, I.len⟩

/-- a list's iterator there -/
theorem turn_listH {P : Program} {w : World} {K : PySem.W.Frag} {tg : Expr} (a it : Addr) : L2H.TurnH P w K tg (Itl K a) [it] it (fun i h => h.IsListIter it a i) where
  mem := List.mem_singleton.mpr rfl
  obj := fun i h ⟨o, e, c, dd⟩ b hb => by obtain rfl := List.mem_singleton.mp hb; exact ⟨o, e, fun v z => by rw [dd] at z; cases z⟩
  keep := fun i h h' st k => st.at fun o e => k it (List.mem_singleton.mpr rfl) o e
  item := fun X hP hw hK hc i pins s σ H E I hf st hg => by
    subst hP hw hK
    obtain ⟨xs, x, hq, hx⟩ := hg; obtain ⟨its, rv, p, hz⟩ := I.list hq; obtain ⟨u, hu, ru⟩ := rv.get hx; obtain ⟨f0, f1, f2, f3, f4, f5⟩ := hf it (List.mem_singleton.mpr rfl)
    refine wpAny_pyNext_list_item st p.isList (x := u) (by simpa using hu) fun h' st' sb => ⟨u, rfl, ?_⟩
    obtain ⟨o, e, c, dd⟩ := id st'
    exact go_of (s := { s with heap := h' }) e c dd (by decide) ⟨x, H, I.turned (t' := s.toks) (fun b o hb z => (sb.2 b hb).trans z) f0 f1 f3 f4 f5, ru, ⟨rfl, fun ys hy => by rw [I.list_inj hy hq]; exact hx⟩, st', fun b hb => (hf b hb).1⟩
  done := fun X hP hw hK hc i pins s σ H E I hf st hg => by
    subst hP hw hK
    obtain ⟨xs, hq, hx⟩ := hg; obtain ⟨its, rv, p, hz⟩ := I.list hq; obtain ⟨f0, f1, f2, f3, f4, f5⟩ := hf it (List.mem_singleton.mpr rfl)
    obtain ⟨p1, hot, hm⟩ := hc
    have P1 := I.pin p1 (List.mem_append_left _ hm); obtain ⟨hh, vs, e1, c1⟩ := hot
    have hl := rv.length
    exact list_end_hot ⟨hh, _, vs, P1.1, e1, c1⟩ (f5 p1 (List.mem_append_left _ hm)) st p.isList (by simp; omega) fun h' k => ⟨rfl, I.turned (t' := s.toks) k f0 f1 f3 f4 f5⟩
  self := fun _ _ _ _ _ st h => wpAny_pyIter_listiter st h
theorem pi_listH {X : Cx} {tg l : Expr} : L2H.PIH X tg l (iList X.K (wE X l)) := by
  refine ⟨fun pins s σ H R I h => thn (h.run pins s I) fun v s1 ⟨x, H1, I1, r1, a, ex, ⟨xs, hq⟩, q⟩ => ?_⟩
  subst ex; obtain rfl : v = Value.ref a := r1
  obtain ⟨its, rv, p, hz⟩ := I1.list hq
  refine wpAny_pyIter_list p.isList ⟨s1.heap.objs.size, [s1.heap.objs.size], _, _, H1, rfl, I1.kept (t' := s1.toks) fun b o e => Heap.get?_push_of_some _ e, turn_listH a _, ⟨_, Heap.get?_push_size _ rfl, rfl, rfl⟩, fun b hb => ?_, q⟩
  obtain rfl := List.mem_singleton.mp hb
  exact I1.fpOk (Nat.le_refl _) (I1.hok.fresh (Nat.le_refl _))
section
variable {X : Cx} {σ : St} {H : Hp}
/-- the block of a comprehension, its last piece hRR as the library's -/
theorem lcH {pins : List (Addr × Obj)} {s : Shared} {Q : VK} {elt tg l : Expr} {ifs : List Expr} {scope : Scope} {own : List (Str × Nat)} {pos pos' : Pos} {wi : TI} {use : Option (Value → Sem Unit)} {Qf : Value → Shared → Prop} {p : Addr × Obj} {cls : Value} {d : Option Addr} {g : TG} {tt : TT} {te : TE} (hx : HX X p cls d)
    (hN : X.N.Nodup) (I : Inv X pins σ H s) (hi : L2H.PIH X tg l wi) (ok : BlkOk X.N X.env.scope scope own) (hs : ∀ x, foldedSetIterable l X.env x = pure x)
    (hg : ∀ (s : Shared) (H : Hp) (C : Addr) (cl : List (Str × Addr)) (fp : List Addr), PG (blkH X s H scope (compEnvC scope cl C X.env) fp) tg g ∧ PTs (blkH X s H scope (compEnvC scope cl C X.env) fp) ifs tt ∧ PE (blkH X s H scope (compEnvC scope cl C X.env) fp) elt te)
    (h : tLc wi g tt te (own.map (·.2)) σ H Q)
    (fin : ∀ L C s' m H', Inv X pins σ H' s' → Q (.ref L) H' → s'.heap.Ns C m → FpOk X pins H' C → compPost (model X.prog X.w) X.A X.xe use Qf (.ref L) C (.ok .next) s') :
    wpAny (model X.prog X.w) X.A (comprehension (.ListComp elt [⟨tg, l, ifs, 0⟩] scope pos) scope X.env pos' (newList []) false (eval l X.env) use) Qf X.xe s := by
  have hfr : ∀ y ∈ scope.names, y.2 = .free → ∃ c, X.env.cells.lookup y.1 = some c := fun z hz e => (ok.free z hz e).elim (fun k => I.ok.has _ (.inl k)) fun k => I.ok.has _ (.inr k)
  refine wpAny_comprehension_free (use := use) rfl hs (closure_ok hfr) ok.kind (fun z hz e => by rw [ok.uniq z hz, e]) (thn (hi.run pins s σ H _ I h) fun xv s1 hxv => thn hxv fun itv s2 hit => ?_)
  obtain ⟨it, fp, tn, J, H2, rfl, I2, T, st2, f2, q⟩ := hit
  refine wpAny_newObj_type (newEnv_comp ?_) (by show 0 ≤ sizeLine; decide)
  have hLn : H2 s2.heap.objs.size = none := I2.hok.fresh (Nat.le_refl _)
  obtain ⟨W, ⟨m0, w0⟩, turn⟩ := q _ hLn
  have I3 : Inv X pins σ (upd H2 s2.heap.objs.size (.lst [])) { s2 with heap := s2.heap.push { cls := .type "list", data := .seq ([] : List Value).toArray } } :=
    I2.laid (t' := s2.toks) (fun b o e => Heap.get?_push_of_some _ e) (Nat.le_refl _) ⟨Nat.zero_le _, [], 0, .nil, Heap.get?_push_size _ rfl⟩
  have szp : ∀ b ∈ fp, b < s2.heap.objs.size := fun b hb => by obtain ⟨o, e, _⟩ := T.obj _ _ st2 b hb; exact Heap.lt_size e
  have st3 : tn 0 (s2.heap.push { cls := .type "list", data := .seq ([] : List Value).toArray }) := T.keep _ _ _ st2 fun b _ o e => Heap.get?_push_of_some _ e
  generalize hL : s2.heap.objs.size = L at *
  generalize hs3 : ({ s2 with heap := s2.heap.push { cls := .type "list", data := .seq ([] : List Value).toArray } } : Shared) = s3 at I3
  have h3 : s2.heap.push { cls := .type "list", data := .seq ([] : List Value).toArray } = s3.heap := by rw [← hs3]
  have sz3 : s3.heap.objs.size = L + 1 := by rw [← hs3, ← hL]; exact Heap.size_push ..
  rw [h3] at st3
  have f3 : ∀ b ∈ fp, FpOk X pins (upd H2 L (.lst [])) b ∧ b < s3.heap.objs.size := fun b hb => ⟨⟨by rw [upd_ne (Nat.ne_of_lt (szp b hb))]; exact (f2 b hb).1, (f2 b hb).2⟩, by rw [sz3]; exact Nat.lt_succ_of_lt (szp b hb)⟩
  have I4 := block_start I3 ok hN f3
  obtain ⟨pg, pt, pe⟩ := hg s3 (upd H2 L (.lst [])) s3.heap.objs.size (cellsFrom (s3.heap.objs.size + 1) scope.names (cloFrom X.env.cells scope.names [])) fp
  show codeAny _ _ (.compStart _ 0 (.ref it) (.ref L) (compEnvC scope (cellsFrom (s3.heap.objs.size + 1) scope.names (cloFrom X.env.cells scope.names [])) s3.heap.objs.size X.env)) (compPost (model X.prog X.w) X.A X.xe use Qf (.ref L) s3.heap.objs.size) { s3 with heap := pushCells (s3.heap.push { cls := .type "dict", data := .dict #[] }) scope.names }
  generalize hce : compEnvC scope (cellsFrom (s3.heap.objs.size + 1) scope.names (cloFrom X.env.cells scope.names [])) s3.heap.objs.size X.env = ce at I4 pg pt pe ⊢
  have cL : ce.locals = s3.heap.objs.size := by subst hce; rfl
  generalize hH3 : upd H2 L (.lst []) = H3 at I3 I4 pg pt pe w0 f3
  have kp4 : ∀ b o, s3.heap.get? b = some o → (pushCells (s3.heap.push { cls := .type "dict", data := .dict #[] }) scope.names).get? b = some o := fun b o e => pushCells_keeps _ _ _ _ (Heap.get?_push_of_some _ e)
  generalize hs4 : ({ s3 with heap := pushCells (s3.heap.push { cls := .type "dict", data := .dict #[] }) scope.names } : Shared) = s4 at I4 ⊢
  have h4 : pushCells (s3.heap.push { cls := .type "dict", data := .dict #[] }) scope.names = s4.heap := by rw [← hs4]
  rw [h4] at kp4
  have st4 : tn 0 s4.heap := T.keep _ _ _ st3 fun b _ o e => kp4 b o e
  have pinB : ∀ p ∈ X.pn ++ [], s4.heap.get? p.1 = some p.2 ∧ H3 p.1 = none ∧ p.1 ≠ ce.locals ∧ p.1 ∉ frs X.stack ∧ ∀ v, p.2.data ≠ .cell v := fun p hp => by
    obtain ⟨e1, e2, e3, e4, e5⟩ := I3.pin p (List.mem_append_left _ (by rw [List.append_nil] at hp; exact hp))
    exact ⟨kp4 _ _ e1, e2, by rw [cL]; exact Nat.ne_of_lt (Heap.lt_size e1), fun hm => (List.mem_cons.mp (I3.stkSub _ hm)).elim e3 e4, e5⟩
  have I5 := Inv.toH I4 pinB
  have hxB : HX (blkH X s3 H3 scope ce fp) p cls d := ⟨hx.hot, hx.mem, hx.zn, hx.fl⟩
  have stat : ∀ {σ' : St} {H' : Hp} {s' : Shared}, Inv (blkH X s3 H3 scope ce fp) [] σ' H' s' → (∀ b ∈ fp, H' b = none) → ∀ b ∈ fp, FpOk (blkH X s3 H3 scope ce fp) [] H' b := fun {σ' H' s'} I' hn b hb =>
    ⟨hn b hb, (I'.ok.exf b hb).1, I'.ok.exfs b hb, .inl hb, fun x c e => (I'.ok.exf b hb).2 x c e, fun p hp => (f3 b hb).1.2.2.2.2.2 p (by rw [List.append_nil] at hp; exact List.mem_append_left _ hp)⟩
  have nfp : ∀ b ∈ fp, H3 b = none := fun b hb => (f3 b hb).1.1
  have loop : codeAny (model X.prog X.w) X.A (.compLoop (.ListComp elt [⟨tg, l, ifs, 0⟩] scope pos) 0 (.ref it) (.ref L) ce) (compPost (model X.prog X.w) X.A X.xe use Qf (.ref L) s3.heap.objs.size) s4 := by
    refine compLoop_any (fun n s' => ∃ i H', Inv (blkH X s3 H3 scope ce fp) [] (wipe σ (own.map (·.2))) H' s' ∧ (tn i s'.heap ∧ ∀ b ∈ fp, H' b = none) ∧ W i n H') (fun n s5 ⟨i, H5, J5, ⟨st5, n5⟩, w5⟩ => ?_) m0 ⟨0, H3, I5, ⟨st4, nfp⟩, w0⟩
    rcases turn i n H5 w5 with ⟨stop, qq⟩ | ⟨go, Nx, hNx, step⟩
    · refine thnF (T.done (blkH X s3 H3 scope ce fp) rfl rfl rfl hxB.hotC i [] s5 _ H5 (fun _ _ => False) J5 (stat J5 n5) st5 stop) fun r s6 ⟨hr, I6⟩ => ?_
      subst hr
      have I7 : Inv X pins σ H5 s6 := I3.call' (ch := fp) I6.os I6.base I6.hok I6.bare fun b hb => ⟨(f3 b hb).1.2.2.2.1, (f3 b hb).1.2.1, (f3 b hb).1.2.2.2.2.1, (f3 b hb).1.2.2.2.2.2⟩
      obtain ⟨m, hn, _⟩ := I6.loc; have nC : H5 ce.locals = none := I6.free
      rw [show (blkH X s3 H3 scope ce fp).env.locals = s3.heap.objs.size from cL] at hn; rw [cL] at nC
      exact fin L s3.heap.objs.size s6 m H5 I7 qq hn (I3.fpOk (Nat.le_refl _) nC)
    · refine thnF (T.item (blkH X s3 H3 scope ce fp) rfl rfl rfl hxB.hotC i [] s5 _ H5 (fun _ _ => False) J5 (stat J5 n5) st5 go) fun r s6 ⟨u, hr, h6⟩ => ?_
      subst hr
      refine thnF h6 fun _ s7 ⟨x, H7, I7, r7, y7, st7, n7⟩ => ?_
      refine thnF (pg.run _ s7 _ H7 x u _ (I7.pinned (stat I7 n7) (T.obj _ _ st7)) r7 (step x H7 y7)) fun _ s8 ⟨σ8, H8, I8, hw8, q8⟩ => thnF (pt.run _ s8 σ8 H8 _ I8 q8) fun b s9 ⟨H9, I9, q9⟩ => ?_
      have again : ∀ {s' : Shared} {H' : Hp}, Inv (blkH X s3 H3 scope ce fp) ([] ++ pinsAt fp s7.heap) σ8 H' s' → Nx H' → ∃ m, m < n ∧ ∃ i H', Inv (blkH X s3 H3 scope ce fp) [] (wipe σ (own.map (·.2))) H' s' ∧ (tn i s'.heap ∧ ∀ b ∈ fp, H' b = none) ∧ W i m H' := fun {s' H'} I' nx => by
        obtain ⟨m', hm, w'⟩ := hNx H' nx
        have pin' : ∀ b ∈ fp, ∀ o, s7.heap.get? b = some o → s'.heap.get? b = some o ∧ H' b = none := fun b hb o e => by have z := I'.pin (b, o) (List.mem_append_right _ (List.mem_append_right _ (mem_pinsAt hb e))); exact ⟨z.1, z.2.1⟩
        refine ⟨m', hm, i + 1, H', (I'.unpinned (pins := [])).weak (by rw [← hw8, wipe_length]) (fun j v e => by rw [← hw8] at e; exact (wipe_some e).1), ⟨T.keep _ _ _ st7 fun b hb o e => (pin' b hb o e).1, fun b hb => ?_⟩, w'⟩
        obtain ⟨o, e, _⟩ := T.obj _ _ st7 b hb; exact (pin' b hb o e).2
      cases b with
      | false => simp only [Bool.false_eq_true, if_false] at q9 ⊢; exact again I9 q9
      | true =>
        simp only [if_true] at q9 ⊢
        exact thnF (pe.run _ s9 σ8 H9 _ I9 q9) fun z s10 ⟨yv, H10, I10, r10, acc, hD10, hz10, nx⟩ => app_ok (X := blkH X s3 H3 scope ce fp) I10 hD10 hz10 r10 fun s11 I11 => again I11 nx
  exact codeAny_compStart_list loop (T.self X.A 0 _ _ _ st4 loop)
/-- name = [elt for tg in l if ..] there, on one row of the text -/
theorem slcH {i : Nat} {y : Str} {py : Pos} {elt tg l : Expr} {ifs : List Expr} {scope : Scope} {own : List (Str × Nat)} {pos spos : Pos} {D : Ends} {wi : TI} {p : Addr × Obj} {cls : Value} {d : Option Addr} {g : TG} {tt : TT} {te : TE} (hx : HX X p cls d) (hN : X.N.Nodup) (hy : X.N[i]? = some y) (hyl : X.env.scope.names.lookup y = some .local)
    (hsw : swapsWith (.ListComp elt [⟨tg, l, ifs, 0⟩] scope pos) (some (.Name y py)) spos.line X.env = pure true) (ok : BlkOk X.N X.env.scope scope own) (hi : L2H.PIH X tg l wi)
    (hg : ∀ (s : Shared) (H : Hp) (C : Addr) (cl : List (Str × Addr)) (fp : List Addr), PG (blkH X s H scope (compEnvC scope cl C X.env) fp) tg g ∧ PTs (blkH X s H scope (compEnvC scope cl C X.env) fp) ifs tt ∧ PE (blkH X s H scope (compEnvC scope cl C X.env) fp) elt te)
    (h2 : tLc wi g tt te (own.map (·.2)) σ H (fun x H1 => D.nx (σ.set i (some x)) H1))
    (hs : ∀ x, foldedSetIterable l X.env x = pure x := by intro _; rfl) : wS X (.Assign [.Name y py] (.ListComp elt [⟨tg, l, ifs, 0⟩] scope pos) spos) D σ H := by
  refine ⟨fun pins s I => ?_⟩
  rw [exec_Assign_Name_used _ _ _ _ hsw]; refine wpAny_bind (wpAny_standAt (wpAny_bind ?_))
  show wpAny _ X.A (do let _ ← comprehension (.ListComp elt [⟨tg, l, ifs, 0⟩] scope pos) scope X.env (firstIterPos [⟨tg, l, ifs, 0⟩] pos) (newList []) false (eval l X.env) (some (assign (.Name y py) X.env))) _ _ s
  refine wpAny_bind (thn (lcH (Qf := fun _ s' => SP X pins D .next s') hx hN I hi ok hs hg h2 fun L C s' m H' I' q hn f => ?_) fun _ s' hq => wpAny_pure (wpAny_pure hq))
  show wpAny _ _ (assign (.Name y py) X.env (.ref L)) _ _ _
  refine wpAny_assign_Name (store_ok2 (v := V.ref L) I' hN hy (.inl hyl) rfl (fun s2 I2 ⟨a, sb, ha⟩ => ?_) (.inr hyl))
  obtain ⟨f0, f1, f2, f3, f4, f5⟩ := f
  have haC : C ≠ a := ha.elim (fun z => by rw [z]; exact f1) fun z => fun e => f4 y a z e.symm
  exact ⟨m, hn.sameBut sb haC, fun h3 sb3 => ⟨_, H', I2.turned (t' := s2.toks) (fun b o hb e => (sb3.2 b hb).trans e) f0 f1 f3 f4 f5, q⟩⟩
end
end Z

set_option maxRecDepth 100000
set_option maxHeartbeats 4000000
namespace Z
open PySem PySem.Spec PyProof.Rows L2
open Evl (Ex)
section
variable {X : Cx} {σ : St} {H : Hp} {e a b c o : Expr} {es : List Expr} {st : Stmt} {sts : List Stmt} {pos pos' p p1 p2 apos : Pos} {Q : VK} {D : Ends} {W : WX} {q : Addr × Obj} {cls : Value} {dd : Option Addr}
/-! ### where an exception is handled: targets, isinstance, its fields, defs that take it -/
theorem gtupH {ts : List Expr} {k : Nat} {t : Addr} {xs : List V} {Q : St → Hp → Prop} (hx : HX X q cls dd) (hp : SqT X.K H t xs) (hl : xs.length = ts.length) (h : wGs X ts xs σ H Q) (hn : (assignEach ts X.env).length = ts.length := by rfl) (hst : (assignEach ts X.env).findIdx? (·.1) = none := by rfl) : wG X (.Tuple ts k pos) (.ref t) σ H Q := by
  refine ⟨fun pins s u I r => ?_⟩
  obtain rfl : u = Value.ref t := r
  obtain ⟨its, rv, ht, hz⟩ := I.tuple hp
  obtain ⟨x1, hot⟩ := hx.hotC.at I
  rw [assign_Tuple]; refine wpAny_bind (wpAny_standAt ?_)
  have hN : (assignEach ts X.env).length = its.toArray.size := by rw [hn, ← hl, rv.length]; simp
  unfold unpack; rw [hN, hst]
  exact wpAny_bind (wpAny_holding (unpack_hot hot ht fun h' k => h.run pins _ _ (I.kept (t' := s.toks) k) (by simpa using rv)))
/-- what a class must say so that isinstance asks its instances rightly, and their fields are read -/
structure XcC (K : PySem.W.Frag) (C : Addr) : Prop where
  is : ExcC K C
  fl : XfC K C
/-- its dict stands -/
def Xd (dd : Option Addr) (H : Hp) : Prop := ∀ d, dd = some d → ∃ fs, H d = some (.xd fs)
theorem kisE {c : V} {cv : Value} {C : Addr} {k : Bool} (hx : HX X q (.ref C) dd) (T : XcC X.K C) (hd : Xd dd H) (hc : ClsV c cv) (hk : PySem.W.kitOne X.K (.ref C) cv = some k) (h : Q (.bl k) H) : wK X (.builtin "isinstance") [.ref q.1, c] H Q := by
  refine ⟨fun pins s σ us I r => ?_⟩
  cases r with
  | cons rx rr =>
    cases rr with
    | cons rt rr =>
      cases rr; cases rx
      obtain rfl := hc.eq rt
      obtain ⟨hget, _⟩ := I.pin q (List.mem_append_left _ hx.mem)
      obtain ⟨vs, hv⟩ := hx.fl
      have hz := hx.zn
      cases dd with
      | none => exact PySem.W.kia_one (PySem.W.kitx_exc (od := none) (ox := q.2) (by obtain ⟨cd, hcd, _⟩ := PySem.W.any_some T.is.hd; rw [hcd]; rfl) T.is.hg T.is.hk T.is.hs T.is.ha T.is.hn T.is.ht T.is.hm) I.kIn ⟨hget, hz.1, by unfold PySem.W.notCls; rw [hv] <;> rfl, by rw [hz.2.1]; trivial⟩ hk (fun z => nomatch z) fun tk => ⟨.bl k, H, I.kept (t' := tk) fun _ _ z => z, rfl, h⟩
      | some d =>
        obtain ⟨fs, hfs⟩ := hd d rfl
        obtain ⟨mA, ⟨od, _, _, ho, _⟩, _⟩ : ObjOk X.prog X.w H s.heap d (.xd fs) := I.hok d _ hfs
        exact PySem.W.kia_one (PySem.W.kitx_exc (od := some od) (ox := q.2) (by obtain ⟨cd, hcd, _⟩ := PySem.W.any_some T.is.hd; rw [hcd]; rfl) T.is.hg T.is.hk T.is.hs T.is.ha T.is.hn T.is.ht T.is.hm) I.kIn ⟨hget, hz.1, by unfold PySem.W.notCls; rw [hv] <;> rfl, by rw [hz.2.1]; exact ho⟩ hk (fun z => nomatch z) fun tk => ⟨.bl k, H, I.kept (t' := tk) fun _ _ z => z, rfl, h⟩
/-- a field of the exception that is handled -/
theorem zfldE {C d : Addr} {f : Str} (hx : HX X q (.ref C) (some d)) (T : XcC X.K C) (hno : PySem.W.findIn X.K (.ref C) f = some none) (h : wE X e σ H fun x H1 => x = .ref q.1 ∧ ∃ fs v, H1 d = some (.xd fs) ∧ fs.lookup f = some v ∧ Q v H1)
    (hb : attributeBase e f X.env (eval e X.env) = eval e X.env := by rfl) : wE X (.Attribute e f pos) σ H Q := by
  refine ⟨fun pins s  I => ?_⟩
  refine attr_of hb (thn (h.run pins s I) fun u s1 ⟨x, H1, I1, rx, ex, fs, v, ea, l, qq⟩ => ?_)
  subst ex; obtain rfl : u = Value.ref q.1 := rx
  obtain ⟨vs, hv⟩ := hx.fl
  obtain ⟨mA, hns, hr⟩ : ObjOk X.prog X.w H1 s1.heap d (.xd fs) := I1.hok d _ ea
  obtain ⟨od, ho, hl⟩ := lookIn_ns hns
  obtain ⟨z, hz, rz⟩ := RelO.some_of (v := v) (o := mA f) (by rw [← l]; exact hr f)
  exact HandSPX.exc_get I1.kIn (od := some od) (ox := q.2) ⟨(I1.pin q (List.mem_append_left _ hx.mem)).1, hx.zn.1, by unfold PySem.W.notCls; rw [hv] <;> rfl, by rw [hx.zn.2.1]; exact ho⟩ T.fl.ga T.fl.gg T.fl.exC (PySem.W.findObj_own T.fl.hdC hno rfl (by rw [hl, hz])) (handed_of rz) ⟨v, H1, I1.tok _, rz, qq⟩
/-! ### a def that takes the handled exception -/
abbrev SpE := Value → Option Addr → Addr → List V → Hp → VK → Prop
structure FnE (P : Program) (w : World) (K : PySem.W.Frag) (mg : Str → Option Value) (base : Heap) (k : Nat) (f : Addr) (fd : FuncData) (ps : List Str) (sp : SpE) : Prop where
  len : ∀ cls d a vs H Q, sp cls d a vs H Q → vs.length = ps.length
  run : ∀ (A : Around) (outer : List Env) (s : Shared) (H : Hp) (args : Args) (us : List Value) (vs : List V) (Q : VK) (p : Addr × Obj) (cls : Value) (d : Option Addr), L2H.RoomH k A → L2H.Hot1 A p → L2N.Zn cls d p.2 → L2H.PinOk outer H s p → Env0 P w K mg base A outer s H → BindsTo s fd args (ps.zip us) → Vals vs us → sp cls d p.1 vs H Q →
    codeAny (model P w) A (.call (.ref f) args) (CR CX0 outer P w H s Q fun _ _ _ => False) s
theorem fnE_of {P : Program} {w : World} {K : PySem.W.Frag} {mg : Str → Option Value} {base : Heap} {k : Nat} {f : Addr} {fd : FuncData} {x qual : Str} {params : Arguments} {body : List Stmt} {scope : Scope} {dvs : List V} {kws : List (Str × V)} {N ps : List Str} {sp : SpE}
    (F : FunD K x qual params body scope dvs kws f fd) (S : FnScope N ps scope) (len : ∀ cls d a vs H Q, sp cls d a vs H Q → vs.length = ps.length)
    (hb : ∀ (cdv : Value) (A : Around) (outer : List Env) (s : Shared) (H : Hp) (vs : List V) (Q : VK) (p : Addr × Obj) (cls : Value) (d : Option Addr), HX (L2H.cxH CX0 P w K mg base N qual scope f cdv A outer s H (fun _ _ _ => False) p) p cls d → L2H.RoomH k (A.deeper (envOfC qual scope s.heap.objs.size f cdv)) → sp cls d p.1 vs H Q →
      wB (L2H.cxH CX0 P w K mg base N qual scope f cdv A outer s H (fun _ _ _ => False) p) body { nx := fun _ H' => Q .non H', rt := Q } (start N vs) H) : FnE P w K mg base (k + 1) f fd ps sp := by
  obtain ⟨oc, od, dV, kV, doc, pm, an, cdv, ct, osl, rfl, lk, hcd, _, _⟩ := F.ex
  refine ⟨len, fun A outer s H args us vs Q p cls d hr hot hz hpin e0 hbd r hsp => ?_⟩
  have KX : K.In s.heap := e0.mod.kin.keeps fun b o e => (e0.bs b o e).1
  have kinds : ∀ y ∈ ps.zip us, scope.names.lookup y.1 = some .local ∨ (scope.names.lookup y.1 = some .cell ∧ ((cellsFrom (s.heap.objs.size + 1) scope.names []).lookup y.1).isSome = true) := fun y hy =>
    (S.par y.1 (List.of_mem_zip (a := y.1) (b := y.2) hy).1).elim .inl fun z => .inr ⟨z, PySem.W.cellsFrom_some _ _ _ (.inl z)⟩
  refine codeAny_call_function hr.depth (KX _ _ lk) rfl S.co S.gen rfl (PySem.W.codeRec_of KX hcd) (hbd _ _ _ _ (wpAny_newFunctionEnv_cells S.kind kinds fun env he s1 xx => ?_))
  subst he
  refine ⟨(e0.mod.nolimit.keeps fun b o e => (e0.bs b o e).1).keeps xx.toInCall.keep, codeAny_func ?_⟩
  have hxx : HX (L2H.cxH CX0 P w K mg base N qual scope f cdv A outer s H (fun _ _ _ => False) p) p cls d := ⟨hot, List.mem_singleton.mpr rfl, hz, by obtain ⟨_, vs, e, _⟩ := hot; exact ⟨vs, e⟩⟩
  refine wpAny_mono ((hb cdv A outer s H vs Q p cls d hxx (hr.deeper _) hsp).run [] s1 (L2H.inv_startH S hpin e0 (len _ _ _ _ _ _ hsp) r xx)) (fun fl s' hs => ?_) fun er s' hs => hs
  cases fl with
  | ret u => obtain ⟨v, σ', H', J, rv, qq⟩ := hs; exact ⟨v, H', J.os, J.bare, J.base, J.hok, rv, qq⟩
  | next => obtain ⟨σ', H', J, qq⟩ := hs; exact ⟨V.non, H', J.os, J.bare, J.base, J.hok, rfl, qq⟩
  | brk => obtain ⟨_, _, _, z⟩ := hs; exact z.elim
  | cont => obtain ⟨_, _, _, z⟩ := hs; exact z.elim
def Ge (P : Program) (w : World) (K : PySem.W.Frag) (mg : Str → Option Value) (base : Heap) (k : Nat) (x : Str) (sp : SpE) : Prop :=
  ∃ (f : Addr) (fd : FuncData) (ps : List Str), mg x = some (.ref f) ∧ PySem.W.keepIn K (.ref f) = true ∧ Binds K fd ps [] ∧ FnE P w K mg base k f fd ps sp
theorem zcallE {x : Str} {k j : Nat} {sp : SpE} (F : Ge X.prog X.w X.K X.mg X.base k x sp) (hx : HX X q cls dd) (hr : L2H.RoomH j X.A) (hk : k ≤ j) (hg : Gl X x) (h : wA X (e :: es) σ H fun vs H1 => sp cls dd q.1 vs H1 Q)
    (hdb : (x == ("__debug__" : Str)) = false := by decide) (he : starEach (e :: es) X.env = (false, eval e X.env) :: starEach es X.env := by rfl) (hpl : (backTo pos (starEach es X.env)).any (·.1) = false := by rfl) : wE X (.Call (.Name x p) (e :: es) [] pos) σ H Q := by
  refine ⟨fun pins s  I => ?_⟩
  obtain ⟨f, fd, ps, hm, kp, hb, FF⟩ := F
  refine wpAny_Call_Name_kw (ld_glob I hg hm ?_ hdb)
  refine PySem.W.callWith_K (h₀ := X.base) I.ok.mod.kin kp (thn (h.run pos pins s I) fun us s1 ⟨vs, H1, I1, r, qq⟩ => ⟨I1.kIn, ?_⟩) he hpl
  have hl : (us ++ []).length = ps.length := by rw [List.append_nil]; exact r.length.symm.trans (FF.len _ _ _ _ _ _ qq)
  have b := hb s1 us I1.kIn hl
  rw [List.append_nil] at b
  have P1 := I1.pin q (List.mem_append_left _ hx.mem)
  refine wpAny_call (codeAny_mono (FF.run X.A X.stack s1 H1 ⟨us, []⟩ us vs Q q cls dd (hr.mono hk) hx.hot hx.zn ⟨P1.1, P1.2.1, fun hm => (List.mem_cons.mp (I1.stkSub q.1 hm)).elim P1.2.2.1 P1.2.2.2.1, P1.2.2.2.2⟩ I1.env0 b r qq) fun z s' hq => ?_)
  cases z with
  | error er => exact hq.elim
  | ok fl =>
    cases fl with
    | ret u => exact I1.after hq
    | next => exact hq.elim
    | brk => exact hq.elim
    | cont => exact hq.elim
/-! ### an own exception class with an __init__ -/
theorem sost {f : Str} (h : wE X e σ H fun y H1 => wE X o σ H1 fun x H2 => ∃ a C : Addr, x = .ref a ∧ OexC X.K C ∧ PySem.W.findIn X.K (.ref C) f = some none ∧
      ((H2 a = some (exo a C none) ∧ ∀ dx, H2 dx = none → dx ≠ a → D.nx σ (upd (upd H2 dx (exd dx [(f, y)])) a (exo a C (some dx)))) ∨
        ∃ (dx : Addr) (fs : List (Str × V)), H2 a = some (exo a C (some dx)) ∧ H2 dx = some (exd dx fs) ∧ fs.length ≤ 900 ∧ D.nx σ (upd H2 dx (exd dx ((f, y) :: fs)))))
    (hs : swapsWith e (some (.Attribute o f p')) pos.line X.env = pure false := by rfl) : wS X (.Assign [.Attribute o f p'] e pos) D σ H := ofS (ps_ost sE sE hs) h
/-- C(e, ..) -/
theorem moex {x : Str} {C fI : Addr} {k j : Nat} {fd : FuncData} {ps : List Str} {sp : Sp} {Q : XK} (T : OexC X.K C) (iC : PySem.W.findIn X.K (.ref C) "__init__" = some (some (.ref fI))) (tI : PySem.W.typeIn X.K (.ref fI) = some (.type "function"))
    (F1 : FnOk X.prog X.w X.K X.mg X.base CX0 k fI fd ps sp) (hb : Binds X.K fd ps []) (hr : Room j X.A) (hk : k + 1 ≤ j) (hg : Gl X x) (hm : X.mg x = some (.ref C)) (h : tMkO C sp [] (wA X (e :: es)) σ H Q)
    (hdb : (x == ("__debug__" : Str)) = false := by decide) (he : starEach (e :: es) X.env = (false, eval e X.env) :: starEach es X.env := by rfl) (hpl : (backTo pos (starEach es X.env)).any (·.1) = false := by rfl) : wM X (.Call (.Name x p) (e :: es) [] pos) σ H Q := by
  refine ⟨fun pins s  I => ?_⟩
  obtain ⟨nm, qn, N, bs, bm, sn, sub, ab, col, dd', k0, k1, k2, k3, k5, hC, hbm⟩ := T.cls
  refine wpAny_Call_Name_kw (ld_glob I hg hm ?_ hdb)
  refine PySem.W.callWith_K (h₀ := X.base) I.ok.mod.kin T.kC (thn (h.run pos pins s I) fun us s1 ⟨vs, H1, I1, r1, hz, q1⟩ => ⟨I1.kIn, ?_⟩) he hpl
  show wpAny _ _ (call (.ref C) us) _ _ _
  obtain ⟨hp, g, dr, tk, os⟩ := s1
  have hsz : hp.objs.size ≤ hp.objs.size + 1 := Nat.le_succ _
  have hq := q1 (hp.objs.size + 1) (I1.hok.fresh hsz)
  rw [List.append_nil] at hq
  generalize hup : (hp.push (PySem.W.kdv_tup us)).push (PySem.HandSPX.excO C hp.objs.size) = hp2
  have kk : ∀ b o, hp.get? b = some o → hp2.get? b = some o := fun b o e => by rw [← hup]; exact Heap.get?_push_of_some _ (Heap.get?_push_of_some _ e)
  have hget : hp2.get? (hp.objs.size + 1) = some (PySem.HandSPX.excO C hp.objs.size) := by rw [← hup]; heap_get
  have I2 : Inv X pins σ (upd H1 (hp.objs.size + 1) (exo (hp.objs.size + 1) C none)) ⟨hp2, g, dr, tk, os⟩ := I1.laid (t' := tk) (a := hp.objs.size + 1) (o := exo (hp.objs.size + 1) C none) (h' := hp2) kk hsz (exo_ok hget)
  have r2 : Vals (V.ref (hp.objs.size + 1) :: vs) (Value.ref (hp.objs.size + 1) :: us) := .cons rfl r1
  have hl : ((Value.ref (hp.objs.size + 1) :: us) ++ []).length = ps.length := by rw [List.append_nil, ← r2.length]; exact F1.len _ _ _ _ hq
  have b2 := hb _ (Value.ref (hp.objs.size + 1) :: us) I2.kIn hl
  rw [List.append_nil] at b2
  have hus : us.length ≤ sizeLine := by rw [← Paired.length r1, sizeLine_eq]; omega
  refine wpAny_call (PySem.HandSPX.call_own F.excBase_ValueError (fun Y => PySem.HandSPX.refsVE_contains Y bm hbm) (I1.kIn _ _ hC) (PySem.W.looks_findIn I1.kIn iC) (fun self => PySem.W.bind_fn I1.kIn self tI) hus ?_)
  rw [hup]
  refine codeAny_mono (F1.run _ X.stack _ _ ⟨Value.ref (hp.objs.size + 1) :: us, []⟩ (Value.ref (hp.objs.size + 1) :: us) _ _ (fun _ _ _ => False) ((hr.mono hk).make C us []) (I2.env0.make C us []) b2 r2 hq) fun z s' hq' => ?_
  cases z with
  | error er => exact hq'.elim
  | ok fl =>
    cases fl with
    | ret u =>
      obtain ⟨v, H2, os2, bare2, un2, hok2, rv, ev, d, fs, ea, ed, hd1, q2⟩ := hq'
      subst ev
      obtain ⟨h2, g2, d2, t2, os'⟩ := s'
      obtain ⟨t0, G, J, kG, ge, hoe, na⟩ := mk_end0 (d2 := d2) (t2 := t2) I1 hsz kk un2 hok2 os2 bare2 ea ed hd1
      exact ⟨rv, hp.objs.size + 1, _, _, ⟨G, g2, d2, t2, os'⟩, _, .ref C, some d, rfl, J, kG, ge, hoe, ⟨rfl, rfl, fun vs hv => by cases hv; rfl⟩, rfl, rfl, na, rfl, bare2, raises_own T.exC T.tyC, q2⟩
    | next => exact hq'.elim
    | brk => exact hq'.elim
    | cont => exact hq'.elim
end
end Z

set_option maxRecDepth 100000
set_option maxHeartbeats 4000000
namespace Z
open PySem PySem.Spec PyProof.Rows L2
open Evl (Ex)
/-! ### facts of the written part, by names -/
def oexB (K : PySem.W.Frag) (C : Addr) : Bool := match K.lookup C with
  | some ⟨.type "type", _, .cls cd, sl⟩ => (match cd.mro, sl.toList with
    | .ref C' :: bm, [_, _, _, _, some (.builtin n), _] => decide (C' = C) && (decide (n = "ValueError.__new__") && (!cd.hasDel && (cd.hasDict && PySem.HandSPX.refsVE bm)))
    | _, _ => false)
  | _ => false
theorem oexB_ok {K : PySem.W.Frag} {C : Addr} (h : oexB K C = true) : ∃ nm q N bs bm sn sub ab col dd k0 k1 k2 k3 k5, K.lookup C = some (excClassObj nm q C N bs bm true sn sub ab col dd k0 k1 k2 k3 k5 "ValueError.__new__") ∧ PySem.HandSPX.refsVE bm = true := by
  unfold oexB at h
  split at h
  · rename_i dd cd sl ho
    split at h
    · rename_i C' bm k0 k1 k2 k3 n k5 hm hs
      simp only [Bool.and_eq_true, decide_eq_true_eq, Bool.not_eq_true'] at h
      obtain ⟨rfl, rfl, hdel, hdict, hb⟩ := h
      obtain ⟨nm, bs, mro, ns, qn, hd, sn, sub, ab, col, del⟩ := cd
      dsimp only at hm hdel hdict; subst hm hdel hdict
      obtain ⟨l⟩ := sl; dsimp only at hs; subst hs
      exact ⟨nm, qn, ns, bs, bm, sn, sub, ab, col, dd, k0, k1, k2, k3, k5, ho, hb⟩
    · cases h
  · cases h
/-- what may be asked of classes: their kin (isinstance, except), an exception with fields, one without, what isinstance and reads of it ask -/
inductive Fz where
  | kit (x y : Str) (b : Bool)
  | kitT (x : Str) (t : String) (b : Bool)
  | kTO (t : String) (y : Str) (b : Bool)
  | oex (x : Str)
  | noa (x f : Str)
  | xc (x : Str)
  | cls (x : Str)
  | fnd (x m : Str) (p : Str × Option Str)
  | ins (x : Str)
  | mk (x : Str) (p : Str × Option Str)
  | mk0 (x : Str)
def Fz.ok (K : PySem.W.Frag) : Fz → Bool
  | .kit x y b => decide (PySem.W.kitOne K (.ref (He.ga K x)) (.ref (He.ga K y)) = some b)
  | .kitT x t b => decide (PySem.W.kitOne K (.ref (He.ga K x)) (.type t) = some b)
  | .kTO t y b => decide (PySem.W.kitOne K (.type t) (.ref (He.ga K y)) = some b)
  | .oex x => oexB K (He.ga K x) && (He.eqO (PySem.W.findIn K (.ref (He.ga K x)) "__setattr__") (some (some (.builtin "object.__setattr__"))) && (decide (PySem.W.subIn K (.ref (He.ga K x)) (.type "BaseException") = some true) && (decide (PySem.W.typeIn K (.ref (He.ga K x)) = some (.type "type")) &&
      (PySem.W.keepIn K (.ref (He.ga K x)) && (He.eqO (PySem.W.findIn K (.ref (He.ga K x)) "__init__") (some (some (.ref (He.ma K (He.ga K x) "__init__")))) && decide (PySem.W.typeIn K (.ref (He.ma K (He.ga K x) "__init__")) = some (.type "function")))))))
  | .noa x f => He.eqO (PySem.W.findIn K (.ref (He.ga K x)) f) (some none)
  | .xc x => xfB K (He.ga K x) && (He.eqO (PySem.W.findIn K (.ref (He.ga K x)) "__class__") (some (some (.builtin "object.__class__"))) && (decide (PySem.W.specialIn K (.builtin "object.__class__") "__get__" = some (some (.builtin "getset_descriptor.__get__"))) &&
      (decide (PySem.W.takesIn K (.builtin "object.__class__") = some true) && decide (PySem.W.mroIn K (He.ga K x) (.type "object") = some true))))
  | .cls x => (match PySem.W.typeIn K (.ref (He.ga K x)) with | some (.type "type") => true | _ => false)
  | .fnd x m p => He.eqO (PySem.W.findIn K (.ref (He.ga K x)) m) (some (some (.ref (He.fAd K p)))) && (PySem.W.isFn K (.ref (He.fAd K p)) && PySem.W.keepIn K (.ref (He.fAd K p)))
  | .ins x => PySem.W.plainGet K (He.ga K x) Str.empty && (PySem.W.hasDictIn K (He.ga K x) && (PySem.W.plainOver K (He.ga K x) && (He.eqO (PySem.W.findIn K (.ref (He.ga K x)) "__setattr__") (some (some (.builtin "object.__setattr__"))) &&
      (He.eqO (PySem.W.findIn K (.ref (He.ga K x)) "__class__") (some (some (.builtin "object.__class__"))) && (decide (PySem.W.specialIn K (.builtin "object.__class__") "__get__" = some (some (.builtin "getset_descriptor.__get__"))) &&
      (decide (PySem.W.takesIn K (.builtin "object.__class__") = some true) && decide (PySem.W.mroIn K (He.ga K x) (.type "object") = some true)))))))
  | .mk x p => PySem.W.makesIn K (He.ga K x) && (He.eqO (PySem.W.findIn K (.ref (He.ga K x)) "__init__") (some (some (.ref (He.fAd K p)))) && (PySem.W.isFn K (.ref (He.fAd K p)) && PySem.W.keepIn K (.ref (He.ga K x))))
  | .mk0 x => PySem.W.makesIn K (He.ga K x) && (He.eqO (PySem.W.findIn K (.ref (He.ga K x)) "__init__") (some (some (.builtin "object.__init__"))) && PySem.W.keepIn K (.ref (He.ga K x)))
/-- an own class of plain instances -/
structure InsK (K : PySem.W.Frag) (C : Addr) : Prop where
  cl : Cls K C
  ha : PySem.W.findIn K (.ref C) "__class__" = some (some (.builtin "object.__class__"))
  hn : PySem.W.specialIn K (.builtin "object.__class__") "__get__" = some (some (.builtin "getset_descriptor.__get__"))
  ht : PySem.W.takesIn K (.builtin "object.__class__") = some true
  hm : PySem.W.mroIn K C (.type "object") = some true
theorem InsK.ty {K : PySem.W.Frag} {C a dx : Addr} {fs : List (Str × V)} {H : Hp} (h : InsK K C) (e : H a = some (.ins C dx fs)) : TyX K H (.ref a) (.ref C) := .base (.ins e h.cl h.ha h.hn h.ht h.hm)
/-- a class without an own __init__ -/
structure Mk0 (K : PySem.W.Frag) (C : Addr) : Prop where
  makes : PySem.W.makesIn K C = true
  init : PySem.W.findIn K (.ref C) "__init__" = some (some (.builtin "object.__init__"))
  kp : PySem.W.keepIn K (.ref C) = true
section
variable {K : PySem.W.Frag} {x : Str}
theorem kit_ok {y : Str} {b : Bool} (h : (Fz.kit x y b).ok K = true) : PySem.W.kitOne K (.ref (He.ga K x)) (.ref (He.ga K y)) = some b := of_decide_eq_true h
theorem kitT_ok {t : String} {b : Bool} (h : (Fz.kitT x t b).ok K = true) : PySem.W.kitOne K (.ref (He.ga K x)) (.type t) = some b := of_decide_eq_true h
theorem kTO_ok {y : Str} {t : String} {b : Bool} (h : (Fz.kTO t y b).ok K = true) : PySem.W.kitOne K (.type t) (.ref (He.ga K y)) = some b := of_decide_eq_true h
theorem noa_ok {f : Str} (h : (Fz.noa x f).ok K = true) : PySem.W.findIn K (.ref (He.ga K x)) f = some none := He.eqO_ok h
theorem fnd_ok {m : Str} {p : Str × Option Str} (h : (Fz.fnd x m p).ok K = true) : Meth K (He.ga K x) m (He.fAd K p) := by
  obtain ⟨h1, h⟩ := He.ba h; obtain ⟨h2, h3⟩ := He.ba h
  exact ⟨He.eqO_ok h1, h2, h3⟩
theorem ins_ok (h : (Fz.ins x).ok K = true) : InsK K (He.ga K x) := by
  obtain ⟨h1, h⟩ := He.ba h; obtain ⟨h2, h⟩ := He.ba h; obtain ⟨h3, h⟩ := He.ba h; obtain ⟨h4, h⟩ := He.ba h; obtain ⟨h5, h⟩ := He.ba h; obtain ⟨h6, h⟩ := He.ba h; obtain ⟨h7, h8⟩ := He.ba h
  exact ⟨⟨h1, h2, h3, He.eqO_ok h4⟩, He.eqO_ok h5, of_decide_eq_true h6, of_decide_eq_true h7, of_decide_eq_true h8⟩
theorem mk_ok {p : Str × Option Str} (h : (Fz.mk x p).ok K = true) : Mk K (He.ga K x) (He.fAd K p) := by
  obtain ⟨h1, h⟩ := He.ba h; obtain ⟨h2, h⟩ := He.ba h; obtain ⟨h3, h4⟩ := He.ba h
  exact ⟨h1, He.eqO_ok h2, h3, h4⟩
theorem mk0_ok (h : (Fz.mk0 x).ok K = true) : Mk0 K (He.ga K x) := by
  obtain ⟨h1, h⟩ := He.ba h; obtain ⟨h2, h3⟩ := He.ba h
  exact ⟨h1, He.eqO_ok h2, h3⟩
/-- an own exception class with an __init__ -/
structure OxC (K : PySem.W.Frag) (C fI : Addr) : Prop where
  o : OexC K C
  i : PySem.W.findIn K (.ref C) "__init__" = some (some (.ref fI))
  t : PySem.W.typeIn K (.ref fI) = some (.type "function")
theorem oex_ok (h : (Fz.oex x).ok K = true) : OxC K (He.ga K x) (He.ma K (He.ga K x) "__init__") := by
  obtain ⟨h1, h⟩ := He.ba h; obtain ⟨h2, h⟩ := He.ba h; obtain ⟨h3, h⟩ := He.ba h; obtain ⟨h4, h⟩ := He.ba h; obtain ⟨h5, h⟩ := He.ba h; obtain ⟨h6, h7⟩ := He.ba h
  exact ⟨⟨oexB_ok h1, He.eqO_ok h2, of_decide_eq_true h3, of_decide_eq_true h4, h5⟩, He.eqO_ok h6, of_decide_eq_true h7⟩
theorem xc_ok (h : (Fz.xc x).ok K = true) : XcC K (He.ga K x) := by
  obtain ⟨h1, h⟩ := He.ba h; obtain ⟨h2, h⟩ := He.ba h; obtain ⟨h3, h⟩ := He.ba h; obtain ⟨h4, h5⟩ := He.ba h
  have T := xfB_ok h1
  exact ⟨⟨T.ga, T.gg, T.exC, T.hdC, He.eqO_ok h2, of_decide_eq_true h3, of_decide_eq_true h4, of_decide_eq_true h5⟩, T⟩
end
theorem more_of {K : PySem.W.Frag} {fz : List Fz} (h : (fz.all fun f => f.ok K) = true) (i : Nat) {f : Fz} (e : fz[i]? = some f := by rfl) : f.ok K = true := List.all_eq_true.mp h f (List.mem_of_getElem? e)
/-! ### a def of the text keeps its promise -/
section
variable {P : Program} {w : World} {K : PySem.W.Frag} {mg : Str → Option Value} {base : Heap}
/-- the context of a def's body -/
abbrev cx (P : Program) (w : World) (K : PySem.W.Frag) (mg : Str → Option Value) (base : Heap) (N : List Str) (qual : Str) (scope : Scope) (f : Addr) (cd : Value) (A : Around) (outer : List Env) (s : Shared) (H : Hp) (E : XK) : Cx := cxOf (L2N.CX P w) P w K mg base N qual scope f cd A outer s H E
theorem fn_mk {x qual : Str} {params : Arguments} {body : List Stmt} {scope : Scope} {dvs : List V} {kws : List (Str × V)} {f : Addr} {fd : FuncData} {N ps : List Str} {k : Nat} {sp : Sp} (F : FunD K x qual params body scope dvs kws f fd) (S : FnScope N ps scope) (len : ∀ vs H Q E, sp vs H Q E → vs.length = ps.length)
    (hb : ∀ (cd : Value) (A : Around) (outer : List Env) (s : Shared) (H : Hp) (vs : List V) (Q : VK) (E : XK), Room k (cx P w K mg base N qual scope f cd A outer s H E).A → L2N.Takes (cx P w K mg base N qual scope f cd A outer s H E) (fun cls d _ H' => E cls d H') →
      PassesOwn (model P w) (cx P w K mg base N qual scope f cd A outer s H E).A (cx P w K mg base N qual scope f cd A outer s H E).env (cx P w K mg base N qual scope f cd A outer s H E).xe → sp vs H Q E →
      wB (cx P w K mg base N qual scope f cd A outer s H E) body { nx := fun _ H' => Q .non H', rt := Q } (start N vs) H) : FnOk P w K mg base (L2N.CX P w) (k + 1) f fd ps sp :=
  F.ok S len fun cd A outer s H vs Q E hr h => ⟨_, sB, hb cd A outer s H vs Q E hr (L2N.takes_of rfl rfl rfl rfl) (passes_of rfl) h⟩
/-- .. a def from which nothing is let out (an __init__ of an exception) -/
theorem fn_mk0 {x qual : Str} {params : Arguments} {body : List Stmt} {scope : Scope} {dvs : List V} {kws : List (Str × V)} {f : Addr} {fd : FuncData} {N ps : List Str} {k : Nat} {sp : Sp} (F : FunD K x qual params body scope dvs kws f fd) (S : FnScope N ps scope) (len : ∀ vs H Q E, sp vs H Q E → vs.length = ps.length)
    (hb : ∀ (cd : Value) (A : Around) (outer : List Env) (s : Shared) (H : Hp) (vs : List V) (Q : VK) (E : XK), Room k (cxOf CX0 P w K mg base N qual scope f cd A outer s H E).A → sp vs H Q E →
      wB (cxOf CX0 P w K mg base N qual scope f cd A outer s H E) body { nx := fun _ H' => Q .non H', rt := Q } (start N vs) H) : FnOk P w K mg base CX0 (k + 1) f fd ps sp :=
  F.ok S len fun cd A outer s H vs Q E hr h => ⟨_, sB, hb cd A outer s H vs Q E hr h⟩
theorem gf_mk {x : Str} {params : Arguments} {body : List Stmt} {scope : Scope} {f : Addr} {ps : List Str} {k : Nat} {sp : Sp} (hF : ∃ fd, FunD K x x params body scope [] [] f fd) (hm : mg x = some (.ref f))
    (hbind : ∀ (kV doc pm : Value) (an : Option Addr) (cdv ct : Value) (us : List Value), us.length = ps.length → bindArgs (PySem.W.fnOf x x params body scope .none kV doc pm an cdv ct) ⟨us, []⟩ = pure (ps.zip us))
    (ok : ∀ fd, FunD K x x params body scope [] [] f fd → FnOk P w K mg base (L2N.CX P w) k f fd ps sp) : Gf P w K mg base k x [] sp := by
  obtain ⟨fd, F⟩ := hF
  exact ⟨f, fd, ps, [], hm, F.kp, F.bindsN hbind, .nil, ok fd F⟩
theorem ge_mk {x : Str} {params : Arguments} {body : List Stmt} {scope : Scope} {f : Addr} {ps : List Str} {k : Nat} {sp : SpE} (hF : ∃ fd, FunD K x x params body scope [] [] f fd) (hm : mg x = some (.ref f))
    (hbind : ∀ (kV doc pm : Value) (an : Option Addr) (cdv ct : Value) (us : List Value), us.length = ps.length → bindArgs (PySem.W.fnOf x x params body scope .none kV doc pm an cdv ct) ⟨us, []⟩ = pure (ps.zip us))
    (ok : ∀ fd, FunD K x x params body scope [] [] f fd → FnE P w K mg base k f fd ps sp) : Ge P w K mg base k x sp := by
  obtain ⟨fd, F⟩ := hF
  exact ⟨f, fd, ps, hm, F.kp, F.bindsN hbind, ok fd F⟩
end
/-! ### an exception of an own class with fields -/
/-- __init__(self, a): self.f = a -/
def spI1 (C : Addr) (f : Str) : Sp := fun vs H Q _ => ∃ (a : Addr) (y : V), vs = [.ref a, y] ∧ H a = some (exo a C none) ∧ ∀ dx, H dx = none → dx ≠ a → Q .non (upd (upd H dx (exd dx [(f, y)])) a (exo a C (some dx)))
/-- __init__(self, a, b): self.f = a; self.g = b -/
def spI2 (C : Addr) (f g : Str) : Sp := fun vs H Q _ => ∃ (a : Addr) (y z : V), vs = [.ref a, y, z] ∧ H a = some (exo a C none) ∧ ∀ dx, H dx = none → dx ≠ a → Q .non (upd (upd (upd H dx (exd dx [(f, y)])) a (exo a C (some dx))) dx (exd dx [(g, z), (f, y)]))
section
variable {X : Cx} {σ : St} {H : Hp} {e : Expr} {es : List Expr} {p pos : Pos}
theorem Xd.ex {H1 H2 : Hp} {a d : Addr} {fs : List (Str × V)} {o1 : HO} (ha : H1 a = none) (hd : H1 d = none) (k : ∀ b, b ≠ a → b ≠ d → H2 b = H1 b) : Ex H1 (upd (del H2 a) d (.xd fs)) := fun b o e => by
  have n1 : b ≠ a := fun z => by rw [z, ha] at e; cases e
  have n2 : b ≠ d := fun z => by rw [z, hd] at e; cases e
  rw [upd_ne n2, del_ne n1, k b n1 n2]; exact e
theorem moex1 {x f : Str} {C fI : Addr} {k j : Nat} {fd : FuncData} {ps : List Str} {Q : XK} (T : OxC X.K C fI) (F1 : FnOk X.prog X.w X.K X.mg X.base CX0 k fI fd ps (spI1 C f)) (hb : Binds X.K fd ps []) (hm : X.mg x = some (.ref C)) (hr : Room j X.A) (hk : k + 1 ≤ j) (hg : Gl X x)
    (h : wA X (e :: es) σ H fun vs H1 => ∃ y, vs = [y] ∧ ∀ d H', H1 d = none → Ex H1 H' → H' d = some (.xd [(f, y)]) → Q (.ref C) (some d) H')
    (hdb : (x == ("__debug__" : Str)) = false := by decide) (he : starEach (e :: es) X.env = (false, eval e X.env) :: starEach es X.env := by rfl) (hpl : (backTo pos (starEach es X.env)).any (·.1) = false := by rfl) : wM X (.Call (.Name x p) (e :: es) [] pos) σ H Q := by
  refine moex T.o T.i T.t F1 hb hr hk hg hm ?_ hdb he hpl
  refine ⟨fun ps' pins s I => thn (h.run ps' pins s I) fun us s' ⟨vs, H1, J, r, y, ev, q⟩ => ⟨vs, H1, J, r, by rw [ev]; simp, fun a ha => ?_⟩⟩
  subst ev
  refine ⟨a, y, rfl, upd_same, fun dx hd hda => ⟨rfl, dx, [(f, y)], upd_same, by rw [upd_ne hda, upd_same], ?_, ?_⟩⟩
  · rw [upd_ne hda] at hd; exact hd
  · rw [upd_ne hda] at hd
    refine q dx _ hd (Xd.ex (o1 := .lst []) ha hd fun b n1 n2 => ?_) upd_same
    rw [upd_ne n1, upd_ne n2, upd_ne n1]
theorem moex2 {x f g : Str} {C fI : Addr} {k j : Nat} {fd : FuncData} {ps : List Str} {Q : XK} (T : OxC X.K C fI) (F1 : FnOk X.prog X.w X.K X.mg X.base CX0 k fI fd ps (spI2 C f g)) (hb : Binds X.K fd ps []) (hm : X.mg x = some (.ref C)) (hr : Room j X.A) (hk : k + 1 ≤ j) (hg : Gl X x)
    (h : wA X (e :: es) σ H fun vs H1 => ∃ y z, vs = [y, z] ∧ ∀ d H', H1 d = none → Ex H1 H' → H' d = some (.xd [(g, z), (f, y)]) → Q (.ref C) (some d) H')
    (hdb : (x == ("__debug__" : Str)) = false := by decide) (he : starEach (e :: es) X.env = (false, eval e X.env) :: starEach es X.env := by rfl) (hpl : (backTo pos (starEach es X.env)).any (·.1) = false := by rfl) : wM X (.Call (.Name x p) (e :: es) [] pos) σ H Q := by
  refine moex T.o T.i T.t F1 hb hr hk hg hm ?_ hdb he hpl
  refine ⟨fun ps' pins s I => thn (h.run ps' pins s I) fun us s' ⟨vs, H1, J, r, y, z, ev, q⟩ => ⟨vs, H1, J, r, by rw [ev]; simp, fun a ha => ?_⟩⟩
  subst ev
  refine ⟨a, y, z, rfl, upd_same, fun dx hd hda => ⟨rfl, dx, [(g, z), (f, y)], by rw [upd_ne (Ne.symm hda), upd_same], upd_same, ?_, ?_⟩⟩
  · rw [upd_ne hda] at hd; exact hd
  · rw [upd_ne hda] at hd
    refine q dx _ hd (Xd.ex (o1 := .lst []) ha hd fun b n1 n2 => ?_) upd_same
    rw [upd_ne n2, upd_ne n1, upd_ne n2, upd_ne n1]
end
end Z

set_option maxRecDepth 100000
set_option maxHeartbeats 4000000
namespace K06
open PySem PySem.Spec PyProof.Rows L2 Z
/-! ### the text by places -/
def top (i : Nat) : Stmt := PySem.Challenge.pw_formkin_k06_whole_kept_rows_in_pieces.main.body.getD i (.Pass ⟨0, 0, 0, 0⟩)
abbrev s_BadBook_init : Stmt := inClass (top 4) 0
abbrev N_BadBook_init : List Str := ["self", "place", "why"]
theorem sc_BadBook_init : FnScope N_BadBook_init ["self", "place", "why"] (defScope s_BadBook_init) := ⟨rfl, rfl, rfl, by decide +kernel, rfl, by decide +kernel, by decide +kernel⟩
abbrev s_BadValue_init : Stmt := inClass (top 5) 0
abbrev N_BadValue_init : List Str := ["self", "path"]
theorem sc_BadValue_init : FnScope N_BadValue_init ["self", "path"] (defScope s_BadValue_init) := ⟨rfl, rfl, rfl, by decide +kernel, rfl, by decide +kernel, by decide +kernel⟩
abbrev s_BadText_init : Stmt := inClass (top 6) 0
abbrev N_BadText_init : List Str := ["self", "place"]
theorem sc_BadText_init : FnScope N_BadText_init ["self", "place"] (defScope s_BadText_init) := ⟨rfl, rfl, rfl, by decide +kernel, rfl, by decide +kernel, by decide +kernel⟩
abbrev s_BadWire_init : Stmt := inClass (top 7) 0
abbrev N_BadWire_init : List Str := ["self", "place", "why"]
theorem sc_BadWire_init : FnScope N_BadWire_init ["self", "place", "why"] (defScope s_BadWire_init) := ⟨rfl, rfl, rfl, by decide +kernel, rfl, by decide +kernel, by decide +kernel⟩
abbrev s_NotKin_init : Stmt := inClass (top 9) 0
abbrev N_NotKin_init : List Str := ["self", "form", "number"]
theorem sc_NotKin_init : FnScope N_NotKin_init ["self", "form", "number"] (defScope s_NotKin_init) := ⟨rfl, rfl, rfl, by decide +kernel, rfl, by decide +kernel, by decide +kernel⟩
abbrev s_is_whole : Stmt := top 13
abbrev N_is_whole : List Str := ["thing"]
theorem sc_is_whole : FnScope N_is_whole ["thing"] (defScope s_is_whole) := ⟨rfl, rfl, rfl, by decide +kernel, rfl, by decide +kernel, by decide +kernel⟩
abbrev s_is_among : Stmt := top 14
abbrev N_is_among : List Str := ["thing", "least", "most"]
theorem sc_is_among : FnScope N_is_among ["thing", "least", "most"] (defScope s_is_among) := ⟨rfl, rfl, rfl, by decide +kernel, rfl, by decide +kernel, by decide +kernel⟩
abbrev s_need_row : Stmt := top 23
abbrev N_need_row : List Str := ["row", "byte"]
theorem sc_need_row : FnScope N_need_row ["row"] (defScope s_need_row) := ⟨rfl, rfl, rfl, by decide +kernel, rfl, by decide +kernel, by decide +kernel⟩
abbrev s_number_at : Stmt := top 24
abbrev N_number_at : List Str := ["row", "at", "end", "number", "place", "byte"]
theorem sc_number_at : FnScope N_number_at ["row", "at", "end"] (defScope s_number_at) := ⟨rfl, rfl, rfl, by decide +kernel, rfl, by decide +kernel, by decide +kernel⟩
abbrev s_check : Stmt := top 25
abbrev N_check : List Str := ["row", "found", "byte", "turn", "out"]
theorem sc_check : FnScope N_check ["row"] (defScope s_check) := ⟨rfl, rfl, rfl, by decide +kernel, rfl, by decide +kernel, by decide +kernel⟩
abbrev s_unframed : Stmt := top 28
abbrev N_unframed : List Str := ["row", "length", "at"]
theorem sc_unframed : FnScope N_unframed ["row"] (defScope s_unframed) := ⟨rfl, rfl, rfl, by decide +kernel, rfl, by decide +kernel, by decide +kernel⟩
abbrev s_Frames_init : Stmt := inClass (top 29) 0
abbrev N_Frames_init : List Str := ["self"]
theorem sc_Frames_init : FnScope N_Frames_init ["self"] (defScope s_Frames_init) := ⟨rfl, rfl, rfl, by decide +kernel, rfl, by decide +kernel, by decide +kernel⟩
abbrev s_Frames_refuse : Stmt := inClass (top 29) 1
abbrev N_Frames_refuse : List Str := ["self"]
theorem sc_Frames_refuse : FnScope N_Frames_refuse ["self"] (defScope s_Frames_refuse) := ⟨rfl, rfl, rfl, by decide +kernel, rfl, by decide +kernel, by decide +kernel⟩
abbrev s_Frames_whole_size : Stmt := inClass (top 29) 2
abbrev N_Frames_whole_size : List Str := ["self", "length", "at", "e"]
theorem sc_Frames_whole_size : FnScope N_Frames_whole_size ["self"] (defScope s_Frames_whole_size) := ⟨rfl, rfl, rfl, by decide +kernel, rfl, by decide +kernel, by decide +kernel⟩
abbrev s_Frames_next_row : Stmt := inClass (top 29) 3
abbrev N_Frames_next_row : List Str := ["self", "size", "row"]
theorem sc_Frames_next_row : FnScope N_Frames_next_row ["self"] (defScope s_Frames_next_row) := ⟨rfl, rfl, rfl, by decide +kernel, rfl, by decide +kernel, by decide +kernel⟩
abbrev s_Frames_take : Stmt := inClass (top 29) 4
abbrev N_Frames_take : List Str := ["self", "row", "found", "more"]
theorem sc_Frames_take : FnScope N_Frames_take ["self", "row"] (defScope s_Frames_take) := ⟨rfl, rfl, rfl, by decide +kernel, rfl, by decide +kernel, by decide +kernel⟩
abbrev s_Frames_end : Stmt := inClass (top 29) 5
abbrev N_Frames_end : List Str := ["self"]
theorem sc_Frames_end : FnScope N_Frames_end ["self"] (defScope s_Frames_end) := ⟨rfl, rfl, rfl, by decide +kernel, rfl, by decide +kernel, by decide +kernel⟩
abbrev s__law_cell_at : Stmt := top 31
abbrev N__law_cell_at : List Str := ["_law_script", "_law_k"]
theorem sc__law_cell_at : FnScope N__law_cell_at ["_law_script", "_law_k"] (defScope s__law_cell_at) := ⟨rfl, rfl, rfl, by decide +kernel, rfl, by decide +kernel, by decide +kernel⟩
abbrev s__law_mixed : Stmt := top 32
abbrev N__law_mixed : List Str := ["_law_cell", "_law_k"]
theorem sc__law_mixed : FnScope N__law_mixed ["_law_cell", "_law_k"] (defScope s__law_mixed) := ⟨rfl, rfl, rfl, by decide +kernel, rfl, by decide +kernel, by decide +kernel⟩
abbrev s__law_word : Stmt := top 33
abbrev N__law_word : List Str := ["_law_e", "_law_some", "_law_found", "_law_word_here", "_law_good"]
theorem sc__law_word : FnScope N__law_word ["_law_e"] (defScope s__law_word) := ⟨rfl, rfl, rfl, by decide +kernel, rfl, by decide +kernel, by decide +kernel⟩
abbrev s__law_at : Stmt := top 34
abbrev N__law_at : List Str := ["_law_e"]
theorem sc__law_at : FnScope N__law_at ["_law_e"] (defScope s__law_at) := ⟨rfl, rfl, rfl, by decide +kernel, rfl, by decide +kernel, by decide +kernel⟩
abbrev s__law_number_row : Stmt := top 35
abbrev N__law_number_row : List Str := ["_law_number", "_law_row"]
theorem sc__law_number_row : FnScope N__law_number_row ["_law_number"] (defScope s__law_number_row) := ⟨rfl, rfl, rfl, by decide +kernel, rfl, by decide +kernel, by decide +kernel⟩
abbrev s__law_check : Stmt := top 36
abbrev N__law_check : List Str := ["_law_row", "_law_found", "_law_byte", "_law_k", "_law_out"]
theorem sc__law_check : FnScope N__law_check ["_law_row"] (defScope s__law_check) := ⟨rfl, rfl, rfl, by decide +kernel, rfl, by decide +kernel, by decide +kernel⟩
abbrev s__law_frame : Stmt := top 37
abbrev N__law_frame : List Str := ["_law_row", "_law_whole", "_law_found"]
theorem sc__law_frame : FnScope N__law_frame ["_law_row"] (defScope s__law_frame) := ⟨rfl, rfl, rfl, by decide +kernel, rfl, by decide +kernel, by decide +kernel⟩
abbrev s__law_wire : Stmt := top 38
abbrev N__law_wire : List Str := ["_law_script", "_law_cell", "_law_wire_here", "_law_k", "_law_more", "_law_size", "_law_at_here", "_law_way", "_law_byte", "_law_j"]
theorem sc__law_wire : FnScope N__law_wire ["_law_script"] (defScope s__law_wire) := ⟨rfl, rfl, rfl, by decide +kernel, rfl, by decide +kernel, by decide +kernel⟩
abbrev s__law_next : Stmt := top 39
abbrev N__law_next : List Str := ["_law_wire_here", "_law_at_here", "_law_length", "_law_power", "_law_place", "_law_byte", "_law_end", "_law_due_here"]
theorem sc__law_next : FnScope N__law_next ["_law_wire_here", "_law_at_here"] (defScope s__law_next) := ⟨rfl, rfl, rfl, by decide +kernel, rfl, by decide +kernel, by decide +kernel⟩
abbrev s__law_due : Stmt := top 40
abbrev N__law_due : List Str := ["_law_wire_here", "_law_found", "_law_at_here", "_law_more"]
theorem sc__law_due : FnScope N__law_due ["_law_wire_here"] (defScope s__law_due) := ⟨rfl, rfl, rfl, by decide +kernel, rfl, by decide +kernel, by decide +kernel⟩
abbrev s__law_told : Stmt := top 41
abbrev N__law_told : List Str := ["_law_box", "_law_piece_here", "_law_e"]
theorem sc__law_told : FnScope N__law_told ["_law_box", "_law_piece_here"] (defScope s__law_told) := ⟨rfl, rfl, rfl, by decide +kernel, rfl, by decide +kernel, by decide +kernel⟩
abbrev s__law_piece : Stmt := top 42
abbrev N__law_piece : List Str := ["_law_wire_here", "_law_state", "_law_cell", "_law_size", "_law_piece_here"]
theorem sc__law_piece : FnScope N__law_piece ["_law_wire_here", "_law_state", "_law_cell"] (defScope s__law_piece) := ⟨rfl, rfl, rfl, by decide +kernel, rfl, by decide +kernel, by decide +kernel⟩
abbrev s__law_asked : Stmt := top 43
abbrev N__law_asked : List Str := ["_law_box", "_law_wire_here", "_law_due_here", "_law_state", "_law_cell", "_law_held", "_law_found", "_law_wrong", "_law_ahead", "_law_known", "_law_piece_here", "_law_told_here", "_law_rows", "_law_is_wrong", "_law_row", "_law_one"]
theorem sc__law_asked : FnScope N__law_asked ["_law_box", "_law_wire_here", "_law_due_here", "_law_state", "_law_cell", "_law_held"] (defScope s__law_asked) := ⟨rfl, rfl, rfl, by decide +kernel, rfl, by decide +kernel, by decide +kernel⟩
abbrev s_law : Stmt := top 44
abbrev N_law : List Str := ["_law_script", "_law_wire_here", "_law_due_here", "_law_boxes", "_law_states", "_law_held", "_law_cell", "_law_k", "_law_at_here", "_law_end", "_law_whole", "_law_one", "_law_pair"]
theorem sc_law : FnScope N_law ["_law_script"] (defScope s_law) := ⟨rfl, rfl, rfl, by decide +kernel, rfl, by decide +kernel, by decide +kernel⟩
/-! ### facts of the written part -/
def fa_0 : List He.Fa := [.free "ValueError",
  .free "all",
  .free "bool",
  .free "int",
  .free "isinstance",
  .free "len",
  .free "list",
  .free "range",
  .free "tuple",
  .int "LOW" 127,
  .int "MORE" 128,
  .int "BYTE" 255,
  .int "LAST_BYTE" 36,
  .int "MOST_LAST" 15,
  .int "FIRST_CHECK" 65535,
  .int "STEP" 4129,
  .int "MOST_LENGTH" 30000,
  .glo "is_whole",
  .glo "is_among",
  .glo "need_row",
  .glo "number_at",
  .glo "check",
  .glo "unframed",
  .glo "_law_cell_at",
  .glo "_law_mixed",
  .glo "_law_word",
  .glo "_law_at",
  .glo "_law_number_row",
  .glo "_law_check",
  .glo "_law_frame"]
def fa_1 : List He.Fa := [.glo "_law_wire",
  .glo "_law_next",
  .glo "_law_due",
  .glo "_law_told",
  .glo "_law_piece",
  .glo "_law_asked",
  .glo "law",
  .glo "FormError",
  .glo "BadNumber",
  .glo "BadRow",
  .glo "BadBook",
  .glo "BadValue",
  .glo "BadText",
  .glo "BadWire",
  .glo "BadCheck",
  .glo "NotKin",
  .glo "NoKey",
  .glo "BadVersion",
  .exc "BadRow",
  .exm "BadRow" "FormError" true,
  .exm "BadRow" "BadWire" false,
  .exm "BadRow" "BadCheck" false,
  .exm "BadWire" "FormError" true,
  .exm "BadWire" "BadWire" true,
  .exm "BadWire" "BadCheck" false,
  .exc "BadCheck",
  .exm "BadCheck" "FormError" true,
  .exm "BadCheck" "BadWire" false,
  .exm "BadCheck" "BadCheck" true,
  .exc "BadNumber"]
def fa_2 : List He.Fa := [.exm "BadNumber" "FormError" true,
  .exm "BadNumber" "BadWire" false,
  .exm "BadNumber" "BadCheck" false,
  .glo "Frames"]
abbrev fa : List He.Fa := fa_0 ++ fa_1 ++ fa_2
def fn_0 : List He.DefD := [⟨("BadBook", some "__init__"), "__init__", "BadBook.__init__", defArgs s_BadBook_init, defBody s_BadBook_init, defScope s_BadBook_init, [], []⟩,
  ⟨("BadValue", some "__init__"), "__init__", "BadValue.__init__", defArgs s_BadValue_init, defBody s_BadValue_init, defScope s_BadValue_init, [], []⟩,
  ⟨("BadText", some "__init__"), "__init__", "BadText.__init__", defArgs s_BadText_init, defBody s_BadText_init, defScope s_BadText_init, [], []⟩,
  ⟨("BadWire", some "__init__"), "__init__", "BadWire.__init__", defArgs s_BadWire_init, defBody s_BadWire_init, defScope s_BadWire_init, [], []⟩,
  ⟨("NotKin", some "__init__"), "__init__", "NotKin.__init__", defArgs s_NotKin_init, defBody s_NotKin_init, defScope s_NotKin_init, [], []⟩,
  ⟨("is_whole", none), "is_whole", "is_whole", defArgs s_is_whole, defBody s_is_whole, defScope s_is_whole, [], []⟩,
  ⟨("is_among", none), "is_among", "is_among", defArgs s_is_among, defBody s_is_among, defScope s_is_among, [], []⟩,
  ⟨("need_row", none), "need_row", "need_row", defArgs s_need_row, defBody s_need_row, defScope s_need_row, [], []⟩,
  ⟨("number_at", none), "number_at", "number_at", defArgs s_number_at, defBody s_number_at, defScope s_number_at, [], []⟩,
  ⟨("check", none), "check", "check", defArgs s_check, defBody s_check, defScope s_check, [], []⟩,
  ⟨("unframed", none), "unframed", "unframed", defArgs s_unframed, defBody s_unframed, defScope s_unframed, [], []⟩,
  ⟨("Frames", some "__init__"), "__init__", "Frames.__init__", defArgs s_Frames_init, defBody s_Frames_init, defScope s_Frames_init, [], []⟩,
  ⟨("Frames", some "refuse"), "refuse", "Frames.refuse", defArgs s_Frames_refuse, defBody s_Frames_refuse, defScope s_Frames_refuse, [], []⟩,
  ⟨("Frames", some "whole_size"), "whole_size", "Frames.whole_size", defArgs s_Frames_whole_size, defBody s_Frames_whole_size, defScope s_Frames_whole_size, [], []⟩,
  ⟨("Frames", some "next_row"), "next_row", "Frames.next_row", defArgs s_Frames_next_row, defBody s_Frames_next_row, defScope s_Frames_next_row, [], []⟩,
  ⟨("Frames", some "take"), "take", "Frames.take", defArgs s_Frames_take, defBody s_Frames_take, defScope s_Frames_take, [], []⟩,
  ⟨("Frames", some "end"), "end", "Frames.end", defArgs s_Frames_end, defBody s_Frames_end, defScope s_Frames_end, [], []⟩,
  ⟨("_law_cell_at", none), "_law_cell_at", "_law_cell_at", defArgs s__law_cell_at, defBody s__law_cell_at, defScope s__law_cell_at, [], []⟩,
  ⟨("_law_mixed", none), "_law_mixed", "_law_mixed", defArgs s__law_mixed, defBody s__law_mixed, defScope s__law_mixed, [], []⟩,
  ⟨("_law_word", none), "_law_word", "_law_word", defArgs s__law_word, defBody s__law_word, defScope s__law_word, [], []⟩,
  ⟨("_law_at", none), "_law_at", "_law_at", defArgs s__law_at, defBody s__law_at, defScope s__law_at, [], []⟩,
  ⟨("_law_number_row", none), "_law_number_row", "_law_number_row", defArgs s__law_number_row, defBody s__law_number_row, defScope s__law_number_row, [], []⟩,
  ⟨("_law_check", none), "_law_check", "_law_check", defArgs s__law_check, defBody s__law_check, defScope s__law_check, [], []⟩,
  ⟨("_law_frame", none), "_law_frame", "_law_frame", defArgs s__law_frame, defBody s__law_frame, defScope s__law_frame, [], []⟩,
  ⟨("_law_wire", none), "_law_wire", "_law_wire", defArgs s__law_wire, defBody s__law_wire, defScope s__law_wire, [], []⟩,
  ⟨("_law_next", none), "_law_next", "_law_next", defArgs s__law_next, defBody s__law_next, defScope s__law_next, [], []⟩,
  ⟨("_law_due", none), "_law_due", "_law_due", defArgs s__law_due, defBody s__law_due, defScope s__law_due, [], []⟩,
  ⟨("_law_told", none), "_law_told", "_law_told", defArgs s__law_told, defBody s__law_told, defScope s__law_told, [], []⟩,
  ⟨("_law_piece", none), "_law_piece", "_law_piece", defArgs s__law_piece, defBody s__law_piece, defScope s__law_piece, [], []⟩,
  ⟨("_law_asked", none), "_law_asked", "_law_asked", defArgs s__law_asked, defBody s__law_asked, defScope s__law_asked, [], []⟩]
def fn_1 : List He.DefD := [⟨("law", none), "law", "law", defArgs s_law, defBody s_law, defScope s_law, [], []⟩]
abbrev fn : List He.DefD := fn_0 ++ fn_1
def fz_0 : List Fz := [.xc "BadRow",
  .kit "BadRow" "FormError" true,
  .kit "BadRow" "BadNumber" false,
  .kit "BadRow" "BadRow" true,
  .kit "BadRow" "BadBook" false,
  .kit "BadRow" "BadValue" false,
  .kit "BadRow" "BadText" false,
  .kit "BadRow" "BadWire" false,
  .kit "BadRow" "BadCheck" false,
  .kit "BadRow" "NotKin" false,
  .kit "BadRow" "NoKey" false,
  .kit "BadRow" "BadVersion" false,
  .kitT "BadRow" "ValueError" true,
  .xc "BadWire",
  .oex "BadWire",
  .noa "BadWire" "place",
  .noa "BadWire" "why",
  .kit "BadWire" "FormError" true,
  .kit "BadWire" "BadNumber" false,
  .kit "BadWire" "BadRow" false,
  .kit "BadWire" "BadBook" false,
  .kit "BadWire" "BadValue" false,
  .kit "BadWire" "BadText" false,
  .kit "BadWire" "BadWire" true,
  .kit "BadWire" "BadCheck" false,
  .kit "BadWire" "NotKin" false,
  .kit "BadWire" "NoKey" false,
  .kit "BadWire" "BadVersion" false,
  .kitT "BadWire" "ValueError" true,
  .xc "BadCheck"]
def fz_1 : List Fz := [.kit "BadCheck" "FormError" true,
  .kit "BadCheck" "BadNumber" false,
  .kit "BadCheck" "BadRow" false,
  .kit "BadCheck" "BadBook" false,
  .kit "BadCheck" "BadValue" false,
  .kit "BadCheck" "BadText" false,
  .kit "BadCheck" "BadWire" false,
  .kit "BadCheck" "BadCheck" true,
  .kit "BadCheck" "NotKin" false,
  .kit "BadCheck" "NoKey" false,
  .kit "BadCheck" "BadVersion" false,
  .kitT "BadCheck" "ValueError" true,
  .xc "BadNumber",
  .kit "BadNumber" "FormError" true,
  .kit "BadNumber" "BadNumber" true,
  .kit "BadNumber" "BadRow" false,
  .kit "BadNumber" "BadBook" false,
  .kit "BadNumber" "BadValue" false,
  .kit "BadNumber" "BadText" false,
  .kit "BadNumber" "BadWire" false,
  .kit "BadNumber" "BadCheck" false,
  .kit "BadNumber" "NotKin" false,
  .kit "BadNumber" "NoKey" false,
  .kit "BadNumber" "BadVersion" false,
  .kitT "BadNumber" "ValueError" true,
  .ins "Frames",
  .mk "Frames" ("Frames", some "__init__"),
  .fnd "Frames" "refuse" ("Frames", some "refuse"),
  .fnd "Frames" "whole_size" ("Frames", some "whole_size"),
  .fnd "Frames" "next_row" ("Frames", some "next_row")]
def fz_2 : List Fz := [.fnd "Frames" "take" ("Frames", some "take"),
  .fnd "Frames" "end" ("Frames", some "end"),
  .noa "Frames" "rest",
  .noa "Frames" "ahead",
  .noa "Frames" "wrong",
  .kitT "Frames" "bool" false,
  .kitT "Frames" "int" false,
  .kitT "Frames" "list" false,
  .kitT "Frames" "tuple" false]
abbrev fz : List Fz := fz_0 ++ fz_1 ++ fz_2
abbrev exB (K : PySem.W.Frag) : Bool := fz.all fun f => f.ok K
structure Txt (K : PySem.W.Frag) (mg : Str → Option Value) : Prop where
  n_ValueError : mg "ValueError" = none
  n_all : mg "all" = none
  n_bool : mg "bool" = none
  n_int : mg "int" = none
  n_isinstance : mg "isinstance" = none
  n_len : mg "len" = none
  n_list : mg "list" = none
  n_range : mg "range" = none
  n_tuple : mg "tuple" = none
  g_LOW : ∃ u, mg "LOW" = some u ∧ RelV (.int 127) u
  g_MORE : ∃ u, mg "MORE" = some u ∧ RelV (.int 128) u
  g_BYTE : ∃ u, mg "BYTE" = some u ∧ RelV (.int 255) u
  g_LAST_BYTE : ∃ u, mg "LAST_BYTE" = some u ∧ RelV (.int 36) u
  g_MOST_LAST : ∃ u, mg "MOST_LAST" = some u ∧ RelV (.int 15) u
  g_FIRST_CHECK : ∃ u, mg "FIRST_CHECK" = some u ∧ RelV (.int 65535) u
  g_STEP : ∃ u, mg "STEP" = some u ∧ RelV (.int 4129) u
  g_MOST_LENGTH : ∃ u, mg "MOST_LENGTH" = some u ∧ RelV (.int 30000) u
  f_BadBook_init : ∃ fd, FunD K "__init__" "BadBook.__init__" (defArgs s_BadBook_init) (defBody s_BadBook_init) (defScope s_BadBook_init) [] [] (He.fAd K ("BadBook", some "__init__")) fd
  f_BadValue_init : ∃ fd, FunD K "__init__" "BadValue.__init__" (defArgs s_BadValue_init) (defBody s_BadValue_init) (defScope s_BadValue_init) [] [] (He.fAd K ("BadValue", some "__init__")) fd
  f_BadText_init : ∃ fd, FunD K "__init__" "BadText.__init__" (defArgs s_BadText_init) (defBody s_BadText_init) (defScope s_BadText_init) [] [] (He.fAd K ("BadText", some "__init__")) fd
  f_BadWire_init : ∃ fd, FunD K "__init__" "BadWire.__init__" (defArgs s_BadWire_init) (defBody s_BadWire_init) (defScope s_BadWire_init) [] [] (He.fAd K ("BadWire", some "__init__")) fd
  f_NotKin_init : ∃ fd, FunD K "__init__" "NotKin.__init__" (defArgs s_NotKin_init) (defBody s_NotKin_init) (defScope s_NotKin_init) [] [] (He.fAd K ("NotKin", some "__init__")) fd
  f_is_whole : ∃ fd, FunD K "is_whole" "is_whole" (defArgs s_is_whole) (defBody s_is_whole) (defScope s_is_whole) [] [] (He.fAd K ("is_whole", none)) fd
  m_is_whole : mg "is_whole" = some (.ref (He.fAd K ("is_whole", none)))
  f_is_among : ∃ fd, FunD K "is_among" "is_among" (defArgs s_is_among) (defBody s_is_among) (defScope s_is_among) [] [] (He.fAd K ("is_among", none)) fd
  m_is_among : mg "is_among" = some (.ref (He.fAd K ("is_among", none)))
  f_need_row : ∃ fd, FunD K "need_row" "need_row" (defArgs s_need_row) (defBody s_need_row) (defScope s_need_row) [] [] (He.fAd K ("need_row", none)) fd
  m_need_row : mg "need_row" = some (.ref (He.fAd K ("need_row", none)))
  f_number_at : ∃ fd, FunD K "number_at" "number_at" (defArgs s_number_at) (defBody s_number_at) (defScope s_number_at) [] [] (He.fAd K ("number_at", none)) fd
  m_number_at : mg "number_at" = some (.ref (He.fAd K ("number_at", none)))
  f_check : ∃ fd, FunD K "check" "check" (defArgs s_check) (defBody s_check) (defScope s_check) [] [] (He.fAd K ("check", none)) fd
  m_check : mg "check" = some (.ref (He.fAd K ("check", none)))
  f_unframed : ∃ fd, FunD K "unframed" "unframed" (defArgs s_unframed) (defBody s_unframed) (defScope s_unframed) [] [] (He.fAd K ("unframed", none)) fd
  m_unframed : mg "unframed" = some (.ref (He.fAd K ("unframed", none)))
  f_Frames_init : ∃ fd, FunD K "__init__" "Frames.__init__" (defArgs s_Frames_init) (defBody s_Frames_init) (defScope s_Frames_init) [] [] (He.fAd K ("Frames", some "__init__")) fd
  f_Frames_refuse : ∃ fd, FunD K "refuse" "Frames.refuse" (defArgs s_Frames_refuse) (defBody s_Frames_refuse) (defScope s_Frames_refuse) [] [] (He.fAd K ("Frames", some "refuse")) fd
  f_Frames_whole_size : ∃ fd, FunD K "whole_size" "Frames.whole_size" (defArgs s_Frames_whole_size) (defBody s_Frames_whole_size) (defScope s_Frames_whole_size) [] [] (He.fAd K ("Frames", some "whole_size")) fd
  f_Frames_next_row : ∃ fd, FunD K "next_row" "Frames.next_row" (defArgs s_Frames_next_row) (defBody s_Frames_next_row) (defScope s_Frames_next_row) [] [] (He.fAd K ("Frames", some "next_row")) fd
  f_Frames_take : ∃ fd, FunD K "take" "Frames.take" (defArgs s_Frames_take) (defBody s_Frames_take) (defScope s_Frames_take) [] [] (He.fAd K ("Frames", some "take")) fd
  f_Frames_end : ∃ fd, FunD K "end" "Frames.end" (defArgs s_Frames_end) (defBody s_Frames_end) (defScope s_Frames_end) [] [] (He.fAd K ("Frames", some "end")) fd
  f__law_cell_at : ∃ fd, FunD K "_law_cell_at" "_law_cell_at" (defArgs s__law_cell_at) (defBody s__law_cell_at) (defScope s__law_cell_at) [] [] (He.fAd K ("_law_cell_at", none)) fd
  m__law_cell_at : mg "_law_cell_at" = some (.ref (He.fAd K ("_law_cell_at", none)))
  f__law_mixed : ∃ fd, FunD K "_law_mixed" "_law_mixed" (defArgs s__law_mixed) (defBody s__law_mixed) (defScope s__law_mixed) [] [] (He.fAd K ("_law_mixed", none)) fd
  m__law_mixed : mg "_law_mixed" = some (.ref (He.fAd K ("_law_mixed", none)))
  f__law_word : ∃ fd, FunD K "_law_word" "_law_word" (defArgs s__law_word) (defBody s__law_word) (defScope s__law_word) [] [] (He.fAd K ("_law_word", none)) fd
  m__law_word : mg "_law_word" = some (.ref (He.fAd K ("_law_word", none)))
  f__law_at : ∃ fd, FunD K "_law_at" "_law_at" (defArgs s__law_at) (defBody s__law_at) (defScope s__law_at) [] [] (He.fAd K ("_law_at", none)) fd
  m__law_at : mg "_law_at" = some (.ref (He.fAd K ("_law_at", none)))
  f__law_number_row : ∃ fd, FunD K "_law_number_row" "_law_number_row" (defArgs s__law_number_row) (defBody s__law_number_row) (defScope s__law_number_row) [] [] (He.fAd K ("_law_number_row", none)) fd
  m__law_number_row : mg "_law_number_row" = some (.ref (He.fAd K ("_law_number_row", none)))
  f__law_check : ∃ fd, FunD K "_law_check" "_law_check" (defArgs s__law_check) (defBody s__law_check) (defScope s__law_check) [] [] (He.fAd K ("_law_check", none)) fd
  m__law_check : mg "_law_check" = some (.ref (He.fAd K ("_law_check", none)))
  f__law_frame : ∃ fd, FunD K "_law_frame" "_law_frame" (defArgs s__law_frame) (defBody s__law_frame) (defScope s__law_frame) [] [] (He.fAd K ("_law_frame", none)) fd
  m__law_frame : mg "_law_frame" = some (.ref (He.fAd K ("_law_frame", none)))
  f__law_wire : ∃ fd, FunD K "_law_wire" "_law_wire" (defArgs s__law_wire) (defBody s__law_wire) (defScope s__law_wire) [] [] (He.fAd K ("_law_wire", none)) fd
  m__law_wire : mg "_law_wire" = some (.ref (He.fAd K ("_law_wire", none)))
  f__law_next : ∃ fd, FunD K "_law_next" "_law_next" (defArgs s__law_next) (defBody s__law_next) (defScope s__law_next) [] [] (He.fAd K ("_law_next", none)) fd
  m__law_next : mg "_law_next" = some (.ref (He.fAd K ("_law_next", none)))
  f__law_due : ∃ fd, FunD K "_law_due" "_law_due" (defArgs s__law_due) (defBody s__law_due) (defScope s__law_due) [] [] (He.fAd K ("_law_due", none)) fd
  m__law_due : mg "_law_due" = some (.ref (He.fAd K ("_law_due", none)))
  f__law_told : ∃ fd, FunD K "_law_told" "_law_told" (defArgs s__law_told) (defBody s__law_told) (defScope s__law_told) [] [] (He.fAd K ("_law_told", none)) fd
  m__law_told : mg "_law_told" = some (.ref (He.fAd K ("_law_told", none)))
  f__law_piece : ∃ fd, FunD K "_law_piece" "_law_piece" (defArgs s__law_piece) (defBody s__law_piece) (defScope s__law_piece) [] [] (He.fAd K ("_law_piece", none)) fd
  m__law_piece : mg "_law_piece" = some (.ref (He.fAd K ("_law_piece", none)))
  f__law_asked : ∃ fd, FunD K "_law_asked" "_law_asked" (defArgs s__law_asked) (defBody s__law_asked) (defScope s__law_asked) [] [] (He.fAd K ("_law_asked", none)) fd
  m__law_asked : mg "_law_asked" = some (.ref (He.fAd K ("_law_asked", none)))
  f_law : ∃ fd, FunD K "law" "law" (defArgs s_law) (defBody s_law) (defScope s_law) [] [] (He.fAd K ("law", none)) fd
  m_law : mg "law" = some (.ref (He.fAd K ("law", none)))
  m_FormError : mg "FormError" = some (.ref (He.ga K "FormError"))
  m_BadNumber : mg "BadNumber" = some (.ref (He.ga K "BadNumber"))
  m_BadRow : mg "BadRow" = some (.ref (He.ga K "BadRow"))
  m_BadBook : mg "BadBook" = some (.ref (He.ga K "BadBook"))
  m_BadValue : mg "BadValue" = some (.ref (He.ga K "BadValue"))
  m_BadText : mg "BadText" = some (.ref (He.ga K "BadText"))
  m_BadWire : mg "BadWire" = some (.ref (He.ga K "BadWire"))
  m_BadCheck : mg "BadCheck" = some (.ref (He.ga K "BadCheck"))
  m_NotKin : mg "NotKin" = some (.ref (He.ga K "NotKin"))
  m_NoKey : mg "NoKey" = some (.ref (He.ga K "NoKey"))
  m_BadVersion : mg "BadVersion" = some (.ref (He.ga K "BadVersion"))
  x_BadRow : XcC K (He.ga K "BadRow")
  e_BadRow : PySem.W.excIn K (He.ga K "BadRow") He.veBase "ValueError.__new__" = true ∧ PySem.W.keepIn K (.ref (He.ga K "BadRow")) = true ∧ PySem.W.subIn K (.ref (He.ga K "BadRow")) (.type "BaseException") = some true ∧ PySem.W.typeIn K (.ref (He.ga K "BadRow")) = some (.type "type")
  k_BadRow_FormError : PySem.W.kitOne K (.ref (He.ga K "BadRow")) (.ref (He.ga K "FormError")) = some true
  k_BadRow_BadNumber : PySem.W.kitOne K (.ref (He.ga K "BadRow")) (.ref (He.ga K "BadNumber")) = some false
  k_BadRow_BadRow : PySem.W.kitOne K (.ref (He.ga K "BadRow")) (.ref (He.ga K "BadRow")) = some true
  k_BadRow_BadBook : PySem.W.kitOne K (.ref (He.ga K "BadRow")) (.ref (He.ga K "BadBook")) = some false
  k_BadRow_BadValue : PySem.W.kitOne K (.ref (He.ga K "BadRow")) (.ref (He.ga K "BadValue")) = some false
  k_BadRow_BadText : PySem.W.kitOne K (.ref (He.ga K "BadRow")) (.ref (He.ga K "BadText")) = some false
  k_BadRow_BadWire : PySem.W.kitOne K (.ref (He.ga K "BadRow")) (.ref (He.ga K "BadWire")) = some false
  k_BadRow_BadCheck : PySem.W.kitOne K (.ref (He.ga K "BadRow")) (.ref (He.ga K "BadCheck")) = some false
  k_BadRow_NotKin : PySem.W.kitOne K (.ref (He.ga K "BadRow")) (.ref (He.ga K "NotKin")) = some false
  k_BadRow_NoKey : PySem.W.kitOne K (.ref (He.ga K "BadRow")) (.ref (He.ga K "NoKey")) = some false
  k_BadRow_BadVersion : PySem.W.kitOne K (.ref (He.ga K "BadRow")) (.ref (He.ga K "BadVersion")) = some false
  k_BadRow_ValueError : PySem.W.kitOne K (.ref (He.ga K "BadRow")) (.type "ValueError") = some true
  t_BadRow_FormError : PySem.W.exmOne K (.ref (He.ga K "BadRow")) (.ref (He.ga K "FormError")) = some true
  t_BadRow_BadWire : PySem.W.exmOne K (.ref (He.ga K "BadRow")) (.ref (He.ga K "BadWire")) = some false
  t_BadRow_BadCheck : PySem.W.exmOne K (.ref (He.ga K "BadRow")) (.ref (He.ga K "BadCheck")) = some false
  x_BadWire : XcC K (He.ga K "BadWire")
  o_BadWire : OxC K (He.ga K "BadWire") (He.fAd K ("BadWire", some "__init__"))
  a_BadWire_place : PySem.W.findIn K (.ref (He.ga K "BadWire")) "place" = some none
  a_BadWire_why : PySem.W.findIn K (.ref (He.ga K "BadWire")) "why" = some none
  k_BadWire_FormError : PySem.W.kitOne K (.ref (He.ga K "BadWire")) (.ref (He.ga K "FormError")) = some true
  k_BadWire_BadNumber : PySem.W.kitOne K (.ref (He.ga K "BadWire")) (.ref (He.ga K "BadNumber")) = some false
  k_BadWire_BadRow : PySem.W.kitOne K (.ref (He.ga K "BadWire")) (.ref (He.ga K "BadRow")) = some false
  k_BadWire_BadBook : PySem.W.kitOne K (.ref (He.ga K "BadWire")) (.ref (He.ga K "BadBook")) = some false
  k_BadWire_BadValue : PySem.W.kitOne K (.ref (He.ga K "BadWire")) (.ref (He.ga K "BadValue")) = some false
  k_BadWire_BadText : PySem.W.kitOne K (.ref (He.ga K "BadWire")) (.ref (He.ga K "BadText")) = some false
  k_BadWire_BadWire : PySem.W.kitOne K (.ref (He.ga K "BadWire")) (.ref (He.ga K "BadWire")) = some true
  k_BadWire_BadCheck : PySem.W.kitOne K (.ref (He.ga K "BadWire")) (.ref (He.ga K "BadCheck")) = some false
  k_BadWire_NotKin : PySem.W.kitOne K (.ref (He.ga K "BadWire")) (.ref (He.ga K "NotKin")) = some false
  k_BadWire_NoKey : PySem.W.kitOne K (.ref (He.ga K "BadWire")) (.ref (He.ga K "NoKey")) = some false
  k_BadWire_BadVersion : PySem.W.kitOne K (.ref (He.ga K "BadWire")) (.ref (He.ga K "BadVersion")) = some false
  k_BadWire_ValueError : PySem.W.kitOne K (.ref (He.ga K "BadWire")) (.type "ValueError") = some true
  t_BadWire_FormError : PySem.W.exmOne K (.ref (He.ga K "BadWire")) (.ref (He.ga K "FormError")) = some true
  t_BadWire_BadWire : PySem.W.exmOne K (.ref (He.ga K "BadWire")) (.ref (He.ga K "BadWire")) = some true
  t_BadWire_BadCheck : PySem.W.exmOne K (.ref (He.ga K "BadWire")) (.ref (He.ga K "BadCheck")) = some false
  x_BadCheck : XcC K (He.ga K "BadCheck")
  e_BadCheck : PySem.W.excIn K (He.ga K "BadCheck") He.veBase "ValueError.__new__" = true ∧ PySem.W.keepIn K (.ref (He.ga K "BadCheck")) = true ∧ PySem.W.subIn K (.ref (He.ga K "BadCheck")) (.type "BaseException") = some true ∧ PySem.W.typeIn K (.ref (He.ga K "BadCheck")) = some (.type "type")
  k_BadCheck_FormError : PySem.W.kitOne K (.ref (He.ga K "BadCheck")) (.ref (He.ga K "FormError")) = some true
  k_BadCheck_BadNumber : PySem.W.kitOne K (.ref (He.ga K "BadCheck")) (.ref (He.ga K "BadNumber")) = some false
  k_BadCheck_BadRow : PySem.W.kitOne K (.ref (He.ga K "BadCheck")) (.ref (He.ga K "BadRow")) = some false
  k_BadCheck_BadBook : PySem.W.kitOne K (.ref (He.ga K "BadCheck")) (.ref (He.ga K "BadBook")) = some false
  k_BadCheck_BadValue : PySem.W.kitOne K (.ref (He.ga K "BadCheck")) (.ref (He.ga K "BadValue")) = some false
  k_BadCheck_BadText : PySem.W.kitOne K (.ref (He.ga K "BadCheck")) (.ref (He.ga K "BadText")) = some false
  k_BadCheck_BadWire : PySem.W.kitOne K (.ref (He.ga K "BadCheck")) (.ref (He.ga K "BadWire")) = some false
  k_BadCheck_BadCheck : PySem.W.kitOne K (.ref (He.ga K "BadCheck")) (.ref (He.ga K "BadCheck")) = some true
  k_BadCheck_NotKin : PySem.W.kitOne K (.ref (He.ga K "BadCheck")) (.ref (He.ga K "NotKin")) = some false
  k_BadCheck_NoKey : PySem.W.kitOne K (.ref (He.ga K "BadCheck")) (.ref (He.ga K "NoKey")) = some false
  k_BadCheck_BadVersion : PySem.W.kitOne K (.ref (He.ga K "BadCheck")) (.ref (He.ga K "BadVersion")) = some false
  k_BadCheck_ValueError : PySem.W.kitOne K (.ref (He.ga K "BadCheck")) (.type "ValueError") = some true
  t_BadCheck_FormError : PySem.W.exmOne K (.ref (He.ga K "BadCheck")) (.ref (He.ga K "FormError")) = some true
  t_BadCheck_BadWire : PySem.W.exmOne K (.ref (He.ga K "BadCheck")) (.ref (He.ga K "BadWire")) = some false
  t_BadCheck_BadCheck : PySem.W.exmOne K (.ref (He.ga K "BadCheck")) (.ref (He.ga K "BadCheck")) = some true
  x_BadNumber : XcC K (He.ga K "BadNumber")
  e_BadNumber : PySem.W.excIn K (He.ga K "BadNumber") He.veBase "ValueError.__new__" = true ∧ PySem.W.keepIn K (.ref (He.ga K "BadNumber")) = true ∧ PySem.W.subIn K (.ref (He.ga K "BadNumber")) (.type "BaseException") = some true ∧ PySem.W.typeIn K (.ref (He.ga K "BadNumber")) = some (.type "type")
  k_BadNumber_FormError : PySem.W.kitOne K (.ref (He.ga K "BadNumber")) (.ref (He.ga K "FormError")) = some true
  k_BadNumber_BadNumber : PySem.W.kitOne K (.ref (He.ga K "BadNumber")) (.ref (He.ga K "BadNumber")) = some true
  k_BadNumber_BadRow : PySem.W.kitOne K (.ref (He.ga K "BadNumber")) (.ref (He.ga K "BadRow")) = some false
  k_BadNumber_BadBook : PySem.W.kitOne K (.ref (He.ga K "BadNumber")) (.ref (He.ga K "BadBook")) = some false
  k_BadNumber_BadValue : PySem.W.kitOne K (.ref (He.ga K "BadNumber")) (.ref (He.ga K "BadValue")) = some false
  k_BadNumber_BadText : PySem.W.kitOne K (.ref (He.ga K "BadNumber")) (.ref (He.ga K "BadText")) = some false
  k_BadNumber_BadWire : PySem.W.kitOne K (.ref (He.ga K "BadNumber")) (.ref (He.ga K "BadWire")) = some false
  k_BadNumber_BadCheck : PySem.W.kitOne K (.ref (He.ga K "BadNumber")) (.ref (He.ga K "BadCheck")) = some false
  k_BadNumber_NotKin : PySem.W.kitOne K (.ref (He.ga K "BadNumber")) (.ref (He.ga K "NotKin")) = some false
  k_BadNumber_NoKey : PySem.W.kitOne K (.ref (He.ga K "BadNumber")) (.ref (He.ga K "NoKey")) = some false
  k_BadNumber_BadVersion : PySem.W.kitOne K (.ref (He.ga K "BadNumber")) (.ref (He.ga K "BadVersion")) = some false
  k_BadNumber_ValueError : PySem.W.kitOne K (.ref (He.ga K "BadNumber")) (.type "ValueError") = some true
  t_BadNumber_FormError : PySem.W.exmOne K (.ref (He.ga K "BadNumber")) (.ref (He.ga K "FormError")) = some true
  t_BadNumber_BadWire : PySem.W.exmOne K (.ref (He.ga K "BadNumber")) (.ref (He.ga K "BadWire")) = some false
  t_BadNumber_BadCheck : PySem.W.exmOne K (.ref (He.ga K "BadNumber")) (.ref (He.ga K "BadCheck")) = some false
  m_Frames : mg "Frames" = some (.ref (He.ga K "Frames"))
  c_Frames : InsK K (He.ga K "Frames")
  mk_Frames : Mk K (He.ga K "Frames") (He.fAd K ("Frames", some "__init__"))
  h_Frames_refuse : Meth K (He.ga K "Frames") "refuse" (He.fAd K ("Frames", some "refuse"))
  h_Frames_whole_size : Meth K (He.ga K "Frames") "whole_size" (He.fAd K ("Frames", some "whole_size"))
  h_Frames_next_row : Meth K (He.ga K "Frames") "next_row" (He.fAd K ("Frames", some "next_row"))
  h_Frames_take : Meth K (He.ga K "Frames") "take" (He.fAd K ("Frames", some "take"))
  h_Frames_end : Meth K (He.ga K "Frames") "end" (He.fAd K ("Frames", some "end"))
  a_Frames_rest : NoAttr K (He.ga K "Frames") "rest"
  a_Frames_ahead : NoAttr K (He.ga K "Frames") "ahead"
  a_Frames_wrong : NoAttr K (He.ga K "Frames") "wrong"
  k_Frames_bool : PySem.W.kitOne K (.ref (He.ga K "Frames")) (.type "bool") = some false
  k_Frames_int : PySem.W.kitOne K (.ref (He.ga K "Frames")) (.type "int") = some false
  k_Frames_list : PySem.W.kitOne K (.ref (He.ga K "Frames")) (.type "list") = some false
  k_Frames_tuple : PySem.W.kitOne K (.ref (He.ga K "Frames")) (.type "tuple") = some false
theorem txt_of {w : World} {h : Heap} {K : PySem.W.Frag} {mg : Str → Option Value} (X : K.In h) (G : h.Ns mainGlobals mg) (c : He.SaysX fa fn [] [] exB w h K) : Txt K mg where
  n_ValueError := He.free_ok X G (c.t.d.fact 0 (f := .free "ValueError") rfl)
  n_all := He.free_ok X G (c.t.d.fact 1 (f := .free "all") rfl)
  n_bool := He.free_ok X G (c.t.d.fact 2 (f := .free "bool") rfl)
  n_int := He.free_ok X G (c.t.d.fact 3 (f := .free "int") rfl)
  n_isinstance := He.free_ok X G (c.t.d.fact 4 (f := .free "isinstance") rfl)
  n_len := He.free_ok X G (c.t.d.fact 5 (f := .free "len") rfl)
  n_list := He.free_ok X G (c.t.d.fact 6 (f := .free "list") rfl)
  n_range := He.free_ok X G (c.t.d.fact 7 (f := .free "range") rfl)
  n_tuple := He.free_ok X G (c.t.d.fact 8 (f := .free "tuple") rfl)
  g_LOW := (by obtain ⟨t, e⟩ := He.int_ok X G (c.t.d.fact 9 (f := .int "LOW" 127) rfl); exact ⟨_, e, t, rfl⟩)
  g_MORE := (by obtain ⟨t, e⟩ := He.int_ok X G (c.t.d.fact 10 (f := .int "MORE" 128) rfl); exact ⟨_, e, t, rfl⟩)
  g_BYTE := (by obtain ⟨t, e⟩ := He.int_ok X G (c.t.d.fact 11 (f := .int "BYTE" 255) rfl); exact ⟨_, e, t, rfl⟩)
  g_LAST_BYTE := (by obtain ⟨t, e⟩ := He.int_ok X G (c.t.d.fact 12 (f := .int "LAST_BYTE" 36) rfl); exact ⟨_, e, t, rfl⟩)
  g_MOST_LAST := (by obtain ⟨t, e⟩ := He.int_ok X G (c.t.d.fact 13 (f := .int "MOST_LAST" 15) rfl); exact ⟨_, e, t, rfl⟩)
  g_FIRST_CHECK := (by obtain ⟨t, e⟩ := He.int_ok X G (c.t.d.fact 14 (f := .int "FIRST_CHECK" 65535) rfl); exact ⟨_, e, t, rfl⟩)
  g_STEP := (by obtain ⟨t, e⟩ := He.int_ok X G (c.t.d.fact 15 (f := .int "STEP" 4129) rfl); exact ⟨_, e, t, rfl⟩)
  g_MOST_LENGTH := (by obtain ⟨t, e⟩ := He.int_ok X G (c.t.d.fact 16 (f := .int "MOST_LENGTH" 30000) rfl); exact ⟨_, e, t, rfl⟩)
  f_BadBook_init := c.t.d.def_ 0 rfl
  f_BadValue_init := c.t.d.def_ 1 rfl
  f_BadText_init := c.t.d.def_ 2 rfl
  f_BadWire_init := c.t.d.def_ 3 rfl
  f_NotKin_init := c.t.d.def_ 4 rfl
  f_is_whole := c.t.d.def_ 5 rfl
  m_is_whole := He.glo_ok X G (c.t.d.fact 17 (f := .glo "is_whole") rfl)
  f_is_among := c.t.d.def_ 6 rfl
  m_is_among := He.glo_ok X G (c.t.d.fact 18 (f := .glo "is_among") rfl)
  f_need_row := c.t.d.def_ 7 rfl
  m_need_row := He.glo_ok X G (c.t.d.fact 19 (f := .glo "need_row") rfl)
  f_number_at := c.t.d.def_ 8 rfl
  m_number_at := He.glo_ok X G (c.t.d.fact 20 (f := .glo "number_at") rfl)
  f_check := c.t.d.def_ 9 rfl
  m_check := He.glo_ok X G (c.t.d.fact 21 (f := .glo "check") rfl)
  f_unframed := c.t.d.def_ 10 rfl
  m_unframed := He.glo_ok X G (c.t.d.fact 22 (f := .glo "unframed") rfl)
  f_Frames_init := c.t.d.def_ 11 rfl
  f_Frames_refuse := c.t.d.def_ 12 rfl
  f_Frames_whole_size := c.t.d.def_ 13 rfl
  f_Frames_next_row := c.t.d.def_ 14 rfl
  f_Frames_take := c.t.d.def_ 15 rfl
  f_Frames_end := c.t.d.def_ 16 rfl
  f__law_cell_at := c.t.d.def_ 17 rfl
  m__law_cell_at := He.glo_ok X G (c.t.d.fact 23 (f := .glo "_law_cell_at") rfl)
  f__law_mixed := c.t.d.def_ 18 rfl
  m__law_mixed := He.glo_ok X G (c.t.d.fact 24 (f := .glo "_law_mixed") rfl)
  f__law_word := c.t.d.def_ 19 rfl
  m__law_word := He.glo_ok X G (c.t.d.fact 25 (f := .glo "_law_word") rfl)
  f__law_at := c.t.d.def_ 20 rfl
  m__law_at := He.glo_ok X G (c.t.d.fact 26 (f := .glo "_law_at") rfl)
  f__law_number_row := c.t.d.def_ 21 rfl
  m__law_number_row := He.glo_ok X G (c.t.d.fact 27 (f := .glo "_law_number_row") rfl)
  f__law_check := c.t.d.def_ 22 rfl
  m__law_check := He.glo_ok X G (c.t.d.fact 28 (f := .glo "_law_check") rfl)
  f__law_frame := c.t.d.def_ 23 rfl
  m__law_frame := He.glo_ok X G (c.t.d.fact 29 (f := .glo "_law_frame") rfl)
  f__law_wire := c.t.d.def_ 24 rfl
  m__law_wire := He.glo_ok X G (c.t.d.fact 30 (f := .glo "_law_wire") rfl)
  f__law_next := c.t.d.def_ 25 rfl
  m__law_next := He.glo_ok X G (c.t.d.fact 31 (f := .glo "_law_next") rfl)
  f__law_due := c.t.d.def_ 26 rfl
  m__law_due := He.glo_ok X G (c.t.d.fact 32 (f := .glo "_law_due") rfl)
  f__law_told := c.t.d.def_ 27 rfl
  m__law_told := He.glo_ok X G (c.t.d.fact 33 (f := .glo "_law_told") rfl)
  f__law_piece := c.t.d.def_ 28 rfl
  m__law_piece := He.glo_ok X G (c.t.d.fact 34 (f := .glo "_law_piece") rfl)
  f__law_asked := c.t.d.def_ 29 rfl
  m__law_asked := He.glo_ok X G (c.t.d.fact 35 (f := .glo "_law_asked") rfl)
  f_law := c.t.d.def_ 30 rfl
  m_law := He.glo_ok X G (c.t.d.fact 36 (f := .glo "law") rfl)
  m_FormError := He.glo_ok X G (c.t.d.fact 37 (f := .glo "FormError") rfl)
  m_BadNumber := He.glo_ok X G (c.t.d.fact 38 (f := .glo "BadNumber") rfl)
  m_BadRow := He.glo_ok X G (c.t.d.fact 39 (f := .glo "BadRow") rfl)
  m_BadBook := He.glo_ok X G (c.t.d.fact 40 (f := .glo "BadBook") rfl)
  m_BadValue := He.glo_ok X G (c.t.d.fact 41 (f := .glo "BadValue") rfl)
  m_BadText := He.glo_ok X G (c.t.d.fact 42 (f := .glo "BadText") rfl)
  m_BadWire := He.glo_ok X G (c.t.d.fact 43 (f := .glo "BadWire") rfl)
  m_BadCheck := He.glo_ok X G (c.t.d.fact 44 (f := .glo "BadCheck") rfl)
  m_NotKin := He.glo_ok X G (c.t.d.fact 45 (f := .glo "NotKin") rfl)
  m_NoKey := He.glo_ok X G (c.t.d.fact 46 (f := .glo "NoKey") rfl)
  m_BadVersion := He.glo_ok X G (c.t.d.fact 47 (f := .glo "BadVersion") rfl)
  x_BadRow := xc_ok (more_of c.more 0 (f := .xc "BadRow") rfl)
  e_BadRow := He.exc_ok (c.t.d.fact 48 (f := .exc "BadRow") rfl)
  k_BadRow_FormError := kit_ok (more_of c.more 1 (f := .kit "BadRow" "FormError" true) rfl)
  k_BadRow_BadNumber := kit_ok (more_of c.more 2 (f := .kit "BadRow" "BadNumber" false) rfl)
  k_BadRow_BadRow := kit_ok (more_of c.more 3 (f := .kit "BadRow" "BadRow" true) rfl)
  k_BadRow_BadBook := kit_ok (more_of c.more 4 (f := .kit "BadRow" "BadBook" false) rfl)
  k_BadRow_BadValue := kit_ok (more_of c.more 5 (f := .kit "BadRow" "BadValue" false) rfl)
  k_BadRow_BadText := kit_ok (more_of c.more 6 (f := .kit "BadRow" "BadText" false) rfl)
  k_BadRow_BadWire := kit_ok (more_of c.more 7 (f := .kit "BadRow" "BadWire" false) rfl)
  k_BadRow_BadCheck := kit_ok (more_of c.more 8 (f := .kit "BadRow" "BadCheck" false) rfl)
  k_BadRow_NotKin := kit_ok (more_of c.more 9 (f := .kit "BadRow" "NotKin" false) rfl)
  k_BadRow_NoKey := kit_ok (more_of c.more 10 (f := .kit "BadRow" "NoKey" false) rfl)
  k_BadRow_BadVersion := kit_ok (more_of c.more 11 (f := .kit "BadRow" "BadVersion" false) rfl)
  k_BadRow_ValueError := kitT_ok (more_of c.more 12 (f := .kitT "BadRow" "ValueError" true) rfl)
  t_BadRow_FormError := He.exm_ok (c.t.d.fact 49 (f := .exm "BadRow" "FormError" true) rfl)
  t_BadRow_BadWire := He.exm_ok (c.t.d.fact 50 (f := .exm "BadRow" "BadWire" false) rfl)
  t_BadRow_BadCheck := He.exm_ok (c.t.d.fact 51 (f := .exm "BadRow" "BadCheck" false) rfl)
  x_BadWire := xc_ok (more_of c.more 13 (f := .xc "BadWire") rfl)
  o_BadWire := oex_ok (more_of c.more 14 (f := .oex "BadWire") rfl)
  a_BadWire_place := Z.noa_ok (more_of c.more 15 (f := .noa "BadWire" "place") rfl)
  a_BadWire_why := Z.noa_ok (more_of c.more 16 (f := .noa "BadWire" "why") rfl)
  k_BadWire_FormError := kit_ok (more_of c.more 17 (f := .kit "BadWire" "FormError" true) rfl)
  k_BadWire_BadNumber := kit_ok (more_of c.more 18 (f := .kit "BadWire" "BadNumber" false) rfl)
  k_BadWire_BadRow := kit_ok (more_of c.more 19 (f := .kit "BadWire" "BadRow" false) rfl)
  k_BadWire_BadBook := kit_ok (more_of c.more 20 (f := .kit "BadWire" "BadBook" false) rfl)
  k_BadWire_BadValue := kit_ok (more_of c.more 21 (f := .kit "BadWire" "BadValue" false) rfl)
  k_BadWire_BadText := kit_ok (more_of c.more 22 (f := .kit "BadWire" "BadText" false) rfl)
  k_BadWire_BadWire := kit_ok (more_of c.more 23 (f := .kit "BadWire" "BadWire" true) rfl)
  k_BadWire_BadCheck := kit_ok (more_of c.more 24 (f := .kit "BadWire" "BadCheck" false) rfl)
  k_BadWire_NotKin := kit_ok (more_of c.more 25 (f := .kit "BadWire" "NotKin" false) rfl)
  k_BadWire_NoKey := kit_ok (more_of c.more 26 (f := .kit "BadWire" "NoKey" false) rfl)
  k_BadWire_BadVersion := kit_ok (more_of c.more 27 (f := .kit "BadWire" "BadVersion" false) rfl)
  k_BadWire_ValueError := kitT_ok (more_of c.more 28 (f := .kitT "BadWire" "ValueError" true) rfl)
  t_BadWire_FormError := He.exm_ok (c.t.d.fact 52 (f := .exm "BadWire" "FormError" true) rfl)
  t_BadWire_BadWire := He.exm_ok (c.t.d.fact 53 (f := .exm "BadWire" "BadWire" true) rfl)
  t_BadWire_BadCheck := He.exm_ok (c.t.d.fact 54 (f := .exm "BadWire" "BadCheck" false) rfl)
  x_BadCheck := xc_ok (more_of c.more 29 (f := .xc "BadCheck") rfl)
  e_BadCheck := He.exc_ok (c.t.d.fact 55 (f := .exc "BadCheck") rfl)
  k_BadCheck_FormError := kit_ok (more_of c.more 30 (f := .kit "BadCheck" "FormError" true) rfl)
  k_BadCheck_BadNumber := kit_ok (more_of c.more 31 (f := .kit "BadCheck" "BadNumber" false) rfl)
  k_BadCheck_BadRow := kit_ok (more_of c.more 32 (f := .kit "BadCheck" "BadRow" false) rfl)
  k_BadCheck_BadBook := kit_ok (more_of c.more 33 (f := .kit "BadCheck" "BadBook" false) rfl)
  k_BadCheck_BadValue := kit_ok (more_of c.more 34 (f := .kit "BadCheck" "BadValue" false) rfl)
  k_BadCheck_BadText := kit_ok (more_of c.more 35 (f := .kit "BadCheck" "BadText" false) rfl)
  k_BadCheck_BadWire := kit_ok (more_of c.more 36 (f := .kit "BadCheck" "BadWire" false) rfl)
  k_BadCheck_BadCheck := kit_ok (more_of c.more 37 (f := .kit "BadCheck" "BadCheck" true) rfl)
  k_BadCheck_NotKin := kit_ok (more_of c.more 38 (f := .kit "BadCheck" "NotKin" false) rfl)
  k_BadCheck_NoKey := kit_ok (more_of c.more 39 (f := .kit "BadCheck" "NoKey" false) rfl)
  k_BadCheck_BadVersion := kit_ok (more_of c.more 40 (f := .kit "BadCheck" "BadVersion" false) rfl)
  k_BadCheck_ValueError := kitT_ok (more_of c.more 41 (f := .kitT "BadCheck" "ValueError" true) rfl)
  t_BadCheck_FormError := He.exm_ok (c.t.d.fact 56 (f := .exm "BadCheck" "FormError" true) rfl)
  t_BadCheck_BadWire := He.exm_ok (c.t.d.fact 57 (f := .exm "BadCheck" "BadWire" false) rfl)
  t_BadCheck_BadCheck := He.exm_ok (c.t.d.fact 58 (f := .exm "BadCheck" "BadCheck" true) rfl)
  x_BadNumber := xc_ok (more_of c.more 42 (f := .xc "BadNumber") rfl)
  e_BadNumber := He.exc_ok (c.t.d.fact 59 (f := .exc "BadNumber") rfl)
  k_BadNumber_FormError := kit_ok (more_of c.more 43 (f := .kit "BadNumber" "FormError" true) rfl)
  k_BadNumber_BadNumber := kit_ok (more_of c.more 44 (f := .kit "BadNumber" "BadNumber" true) rfl)
  k_BadNumber_BadRow := kit_ok (more_of c.more 45 (f := .kit "BadNumber" "BadRow" false) rfl)
  k_BadNumber_BadBook := kit_ok (more_of c.more 46 (f := .kit "BadNumber" "BadBook" false) rfl)
  k_BadNumber_BadValue := kit_ok (more_of c.more 47 (f := .kit "BadNumber" "BadValue" false) rfl)
  k_BadNumber_BadText := kit_ok (more_of c.more 48 (f := .kit "BadNumber" "BadText" false) rfl)
  k_BadNumber_BadWire := kit_ok (more_of c.more 49 (f := .kit "BadNumber" "BadWire" false) rfl)
  k_BadNumber_BadCheck := kit_ok (more_of c.more 50 (f := .kit "BadNumber" "BadCheck" false) rfl)
  k_BadNumber_NotKin := kit_ok (more_of c.more 51 (f := .kit "BadNumber" "NotKin" false) rfl)
  k_BadNumber_NoKey := kit_ok (more_of c.more 52 (f := .kit "BadNumber" "NoKey" false) rfl)
  k_BadNumber_BadVersion := kit_ok (more_of c.more 53 (f := .kit "BadNumber" "BadVersion" false) rfl)
  k_BadNumber_ValueError := kitT_ok (more_of c.more 54 (f := .kitT "BadNumber" "ValueError" true) rfl)
  t_BadNumber_FormError := He.exm_ok (c.t.d.fact 60 (f := .exm "BadNumber" "FormError" true) rfl)
  t_BadNumber_BadWire := He.exm_ok (c.t.d.fact 61 (f := .exm "BadNumber" "BadWire" false) rfl)
  t_BadNumber_BadCheck := He.exm_ok (c.t.d.fact 62 (f := .exm "BadNumber" "BadCheck" false) rfl)
  m_Frames := He.glo_ok X G (c.t.d.fact 63 (f := .glo "Frames") rfl)
  c_Frames := Z.ins_ok (more_of c.more 55 (f := .ins "Frames") rfl)
  mk_Frames := Z.mk_ok (more_of c.more 56 (f := .mk "Frames" ("Frames", some "__init__")) rfl)
  h_Frames_refuse := Z.fnd_ok (more_of c.more 57 (f := .fnd "Frames" "refuse" ("Frames", some "refuse")) rfl)
  h_Frames_whole_size := Z.fnd_ok (more_of c.more 58 (f := .fnd "Frames" "whole_size" ("Frames", some "whole_size")) rfl)
  h_Frames_next_row := Z.fnd_ok (more_of c.more 59 (f := .fnd "Frames" "next_row" ("Frames", some "next_row")) rfl)
  h_Frames_take := Z.fnd_ok (more_of c.more 60 (f := .fnd "Frames" "take" ("Frames", some "take")) rfl)
  h_Frames_end := Z.fnd_ok (more_of c.more 61 (f := .fnd "Frames" "end" ("Frames", some "end")) rfl)
  a_Frames_rest := Z.noa_ok (more_of c.more 62 (f := .noa "Frames" "rest") rfl)
  a_Frames_ahead := Z.noa_ok (more_of c.more 63 (f := .noa "Frames" "ahead") rfl)
  a_Frames_wrong := Z.noa_ok (more_of c.more 64 (f := .noa "Frames" "wrong") rfl)
  k_Frames_bool := kitT_ok (more_of c.more 65 (f := .kitT "Frames" "bool" false) rfl)
  k_Frames_int := kitT_ok (more_of c.more 66 (f := .kitT "Frames" "int" false) rfl)
  k_Frames_list := kitT_ok (more_of c.more 67 (f := .kitT "Frames" "list" false) rfl)
  k_Frames_tuple := kitT_ok (more_of c.more 68 (f := .kitT "Frames" "tuple" false) rfl)
end K06

set_option maxRecDepth 100000
set_option maxHeartbeats 0
namespace K06
open PySem PySem.Spec PyProof.Rows L2 Z
abbrev R : PySem.W.OpenRow := PySem.W.OpenLaw.row PySem.Challenge.rw_formkin_k06_whole_kept_rows_in_pieces
abbrev hk : PySem.W.Hook := He.hookX 5 fa fn [] [] exB
def ob (s : PySem.W.SharedT) : He.AlX := He.obsX 5 fa fn [] [] exB (HandSHeadRun.getT s)
theorem ob_eq (s : PySem.W.SharedT) : ob s = hk.obs s.abs := He.obsX_eq (HandSHeadRun.getT_eq s)
def loose_0 : List PySem.Str := ["FormError", "BadNumber", "BadRow", "BadBook", "BadValue", "BadText", "BadWire", "BadCheck", "NotKin", "NoKey", "BadVersion", "is_whole", "is_among", "LOW", "MORE", "BYTE", "LAST_BYTE", "MOST_LAST", "FIRST_CHECK", "STEP", "need_row", "number_at", "check", "MOST_LENGTH", "unframed", "Frames", "_law_cell_at", "_law_mixed", "_law_word", "_law_at"]
def loose_1 : List PySem.Str := ["_law_number_row", "_law_check", "_law_frame", "_law_wire", "_law_next", "_law_due", "_law_told", "_law_piece", "_law_asked"]
abbrev loose : List PySem.Str := loose_0 ++ loose_1
theorem run (w : World) : HandSHeadRun.RunEq R (PySem.W.view R.prog [44]) hk ob 6000 loose w := by
  intro os
  kernel_rfl
end K06

set_option maxRecDepth 100000
set_option maxHeartbeats 4000000
namespace Z
open PySem PySem.Spec PyProof.Rows L2
open Evl (Ex)
theorem ifd {p : Prop} [Decidable p] {A B : Prop} (h1 : p → A) (h2 : ¬ p → B) : if decide p = true then A else B := by
  by_cases h : p
  · rw [if_pos (decide_eq_true h)]; exact h1 h
  · rw [if_neg (by rw [decide_eq_false h]; exact Bool.false_ne_true)]; exact h2 h
theorem ifnd {p : Prop} [Decidable p] {A B : Prop} (h1 : ¬ p → A) (h2 : p → B) : if (!decide p) = true then A else B := by
  by_cases h : p
  · rw [if_neg (by rw [decide_eq_true h]; exact Bool.false_ne_true)]; exact h2 h
  · rw [if_pos (by rw [decide_eq_false h]; rfl)]; exact h1 h
theorem ifb {k : Bool} {A B : Prop} (h1 : k = true → A) (h2 : k = false → B) : if k = true then A else B := by
  cases k with
  | true => rw [if_pos rfl]; exact h1 rfl
  | false => rw [if_neg Bool.false_ne_true]; exact h2 rfl
theorem ifT {A B : Prop} (h : A) : if true = true then A else B := by rw [if_pos rfl]; exact h
theorem ifF {A B : Prop} (h : B) : if false = true then A else B := by rw [if_neg Bool.false_ne_true]; exact h
section
variable {X : Cx} {σ : St} {H : Hp} {e : Expr} {Q : VK}
/-- a test whose answer is told ahead -/
theorem tcut {Q : Bool → Hp → Prop} (k : Bool) (h : wT X e σ H fun k' H' => k' = k ∧ H' = H) (q : Q k H) : wT X e σ H Q := h.imp fun v H' ⟨a, b⟩ => by rw [a, b]; exact q
theorem ecut (v : V) (h : wE X e σ H fun v' H' => v' = v ∧ H' = H) (q : Q v H) : wE X e σ H Q := h.imp fun v' H' ⟨a, b⟩ => by rw [a, b]; exact q
end
/-! ### built-ins by name -/
theorem bt_len : bootBuiltins "len" = some (.builtin "len") := by decide +kernel
theorem bt_isi : bootBuiltins "isinstance" = some (.builtin "isinstance") := by decide +kernel
theorem bt_min : bootBuiltins "min" = some (.builtin "min") := by decide +kernel
theorem bt_max : bootBuiltins "max" = some (.builtin "max") := by decide +kernel
theorem bt_abs : bootBuiltins "abs" = some (.builtin "abs") := by decide +kernel
theorem bt_all : bootBuiltins "all" = some (.builtin "all") := by decide +kernel
theorem bt_sum : bootBuiltins "sum" = some (.builtin "sum") := by decide +kernel
theorem bt_ord : bootBuiltins "ord" = some (.builtin "ord") := by decide +kernel
theorem bt_divmod : bootBuiltins "divmod" = some (.builtin "divmod") := by decide +kernel
theorem bt_sorted : bootBuiltins "sorted" = some (.builtin "sorted") := by decide +kernel
theorem bt_list : bootBuiltins "list" = some (.type "list") := by decide +kernel
theorem bt_tuple : bootBuiltins "tuple" = some (.type "tuple") := by decide +kernel
theorem bt_int : bootBuiltins "int" = some (.type "int") := by decide +kernel
theorem bt_bool : bootBuiltins "bool" = some (.type "bool") := by decide +kernel
theorem bt_str : bootBuiltins "str" = some (.type "str") := by decide +kernel
theorem bt_dict : bootBuiltins "dict" = some (.type "dict") := by decide +kernel
theorem bt_ValueError : bootBuiltins "ValueError" = some (.type "ValueError") := by decide +kernel
/-! ### heaps -/
theorem exl {K : PySem.W.Frag} {H H' : Hp} {a : Addr} {xs : List V} (h : SqL K H a xs) (e : Ex H H') : SqL K H' a xs := Evl.ex_l e h
theorem ext {K : PySem.W.Frag} {H H' : Hp} {a : Addr} {xs : List V} (h : SqT K H a xs) (e : Ex H H') : SqT K H' a xs := Evl.ex_t e h
theorem exa {H H' : Hp} {a : Addr} {o : HO} (h : H a = some o) (e : Ex H H') : H' a = some o := e a o h
theorem Ex.lst {H H' : Hp} (e : Ex H H') {a : Addr} {o : HO} (h : H a = some o) : H' a = some o := e a o h
theorem Ex.sq {K : PySem.W.Frag} {H H' : Hp} (e : Ex H H') {a : Addr} {xs : List V} (h : SqL K H a xs ∨ SqT K H a xs) : SqL K H' a xs ∨ SqT K H' a xs := h.elim (fun h => .inl (Evl.ex_l e h)) fun h => .inr (Evl.ex_t e h)
mutual
theorem Dp.ex {K : PySem.W.Frag} {H H' : Hp} (e : Ex H H') : ∀ {v : V} {d : PyData}, Dp K H v d → Dp K H' v d
  | _, _, .non => .non
  | _, _, .bl b => .bl b
  | _, _, .int i => .int i
  | _, _, .str x => .str x
  | _, _, .lst h a => .lst (Evl.ex_l e h) (DpAll.ex e a)
  | _, _, .tup h a => .tup (Evl.ex_t e h) (DpAll.ex e a)
theorem DpAll.ex {K : PySem.W.Frag} {H H' : Hp} (e : Ex H H') : ∀ {vs : List V} {ds : List PyData}, DpAll K H vs ds → DpAll K H' vs ds
  | _, _, .nil => .nil
  | _, _, .cons a b => .cons (Dp.ex e a) (DpAll.ex e b)
end
theorem DpAll.ints {K : PySem.W.Frag} {H : Hp} : ∀ ns : List Int, DpAll K H (ns.map V.int) (ns.map PyData.int)
  | [] => .nil
  | _ :: ns => .cons (.int _) (DpAll.ints ns)
theorem Dp.ints {K : PySem.W.Frag} {H : Hp} {a : Addr} {ns : List Int} (h : SqL K H a (ns.map V.int)) : Dp K H (.ref a) (.list (ns.map PyData.int)) := .lst h (DpAll.ints ns)
section
variable {X : Cx} {σ : St} {H : Hp} {e : Expr} {Q : VK} {D : Ends} {pos pos' : Pos}
/-- a class of the module as a value -/
theorem zcls {x : Str} {C : Addr} (hm : X.mg x = some (.ref C)) (hg : Gl X x) (h : Q (.ref C) H) (hd : (x == ("__debug__" : Str)) = false := by decide) : wE X (.Name x pos) σ H Q := ofE (pe_glob (v := .ref C) hg hm rfl hd) h
theorem zty {x : Str} {T : String} (hm : X.mg x = none) (hv : bootBuiltins x = some (.type T)) (hg : Gl X x) (h : Q (.ty T) H) (hn : x ≠ "__name__" := by decide) (hd : (x == ("__debug__" : Str)) = false := by decide) : wE X (.Name x pos) σ H Q := ofE (pe_bltn (v := .ty T) hg hm hv rfl hn hd) h
/-- name = e, the slot reckoned -/
theorem sset' {x : Str} (hN : X.N.Nodup) (hi : X.N[slotOf X.N x]? = some x) (hx : Loc X.env.scope x) (hs : swapsWith e (some (.Name x pos')) pos.line X.env = pure false) (hf : X.fn x = true ∨ X.env.scope.names.lookup x = some .local) (h : wE X e σ H fun v H1 => D.nx (σ.set (slotOf X.N x) (some v)) H1) : wS X (.Assign [.Name x pos'] e pos) D σ H :=
  sset (slotOf X.N x) hN h hi hx hs hf
theorem saug' {x : Str} {op : Operator} {v : V} (hN : X.N.Nodup) (hi : X.N[slotOf X.N x]? = some x) (hx : Loc X.env.scope x) (hf : X.fn x = true ∨ X.env.scope.names.lookup x = some .local) (hv : σ[slotOf X.N x]? = some (some v)) (h : wE X e σ H fun y H1 => wO X (inplaceOp op) v y H1 fun z H2 => D.nx (σ.set (slotOf X.N x) (some z)) H2) : wS X (.AugAssign (.Name x pos') op e pos) D σ H :=
  saug (slotOf X.N x) hN hv h hi hx hf
theorem gname' {x : Str} {v : V} {Q : St → Hp → Prop} (hN : X.N.Nodup) (hi : X.N[slotOf X.N x]? = some x) (hx : Loc X.env.scope x) (hf : X.fn x = true ∨ X.env.scope.names.lookup x = some .local) (h : Q (σ.set (slotOf X.N x) (some v)) H) : wG X (.Name x pos) v σ H Q := gname (slotOf X.N x) hN h hi hx hf
end
theorem Xd.exx {H H' : Hp} {dd : Option Addr} (h : Xd dd H) (e : Ex H H') : Xd dd H' := fun d q => by obtain ⟨fs, hf⟩ := h d q; exact ⟨fs, e d _ hf⟩
/-- tuples of a word and a truth each -/
inductive TupsAt (H : Hp) : List V → List (Str × Bool) → Prop
  | nil : TupsAt H [] []
  | cons {t : Addr} {w : Str} {b : Bool} {xs : List V} {ps : List (Str × Bool)} : H t = some (.tup [.str w, .bl b]) → TupsAt H xs ps → TupsAt H (.ref t :: xs) ((w, b) :: ps)
theorem TupsAt.length {H : Hp} : ∀ {xs : List V} {ps : List (Str × Bool)}, TupsAt H xs ps → xs.length = ps.length
  | _, _, .nil => rfl
  | _, _, .cons _ t => by rw [List.length_cons, List.length_cons, t.length]
theorem TupsAt.get {H : Hp} : ∀ {xs : List V} {ps : List (Str × Bool)} {i : Nat} {x : V}, TupsAt H xs ps → xs[i]? = some x → ∃ t p, x = .ref t ∧ ps[i]? = some p ∧ H t = some (.tup [.str p.1, .bl p.2])
  | _, _, _, _, .nil, h => by simp at h
  | _, _, 0, _, .cons r _, h => by simp at h; exact ⟨_, _, h.symm, rfl, r⟩
  | _, _, i + 1, _, .cons _ t, h => by obtain ⟨a, p, e1, e2, e3⟩ := t.get (i := i) (by simpa using h); exact ⟨a, p, e1, by simpa using e2, e3⟩
/-- the words whose truth is so -/
def kept (ps : List (Str × Bool)) : List V := (ps.filter (·.2)).map fun p => V.str p.1
theorem kept_succ {ps : List (Str × Bool)} {i : Nat} {p : Str × Bool} (h : ps[i]? = some p) : kept (ps.take (i + 1)) = kept (ps.take i) ++ (if p.2 = true then [V.str p.1] else []) := by
  obtain ⟨hl, rfl⟩ := List.getElem?_eq_some_iff.mp h
  rw [List.take_add_one, List.getElem?_eq_getElem hl]
  unfold kept
  rw [List.filter_append, List.map_append]
  cases e : (ps[i]).2 with
  | true => simp [e]
  | false => simp [e]
/-! ### the end of a law row: its promise, the bits of its script told -/
theorem walk_bits {l : PySem.W.OpenLaw} {n k : Nat} {q : Program} {loose : List Str} {XP : (Str → Option Value) → Heap → Prop} {YP : World → Heap → Prop} {d : DefRec} {x : Str} (hn : l.most = some n) (hn2 : n ≤ sizeLine) (hdf : d.params.defaults = []) (hr : Room k callerA)
    (F : ∀ (w : World) (mg : Str → Option Value) (fa : Addr) (h : Heap), YP w h → h.Ns mainGlobals mg → mg d.name = some (.ref fa) →
      ∃ (K : PySem.W.Frag) (fd : FuncData) (sp : Sp), K.In h ∧ (∀ (s : Shared) (u : Value), BindsTo s fd ⟨[u], []⟩ [(x, u)]) ∧
        (∀ (H : Hp) (a : Addr) (ns : List Int), ns.length ≤ n → (∀ z ∈ ns, Builtin.Int.intBits z ≤ 1048576) → Only H → SqL K H a (ns.map V.int) → sp [.ref a] H (fun v _ => v = .bl true) fun _ _ _ => False) ∧
        ∀ base : Heap, K.In base → base.Ns mainGlobals mg → FnOk l.prog w K mg base (L2N.CX l.prog w) k fa fd [x] sp) : PySem.W.WalkO q loose XP YP l.row.toRowW d [] (fun f vs => PySem.call f vs) := by
  refine Att.attach_callB hn hdf fun w s₀ s₁ mg mb fa o pm cd doc a vs ns G Y ho hd hcd hmg hobj hints hlen hbits hg => ?_
  obtain ⟨K, fd, sp, KX, hb, hsp, hF⟩ := F w mg fa _ Y G.T.g hmg
  refine law_call KX G.T.g G.T.b G.T.builtins G.T.nolimit hg hobj hints (Nat.le_trans hlen hn2) hr hF hb (fun H hO hS => hsp H a ns hlen hbits hO hS) fun H e s' hc => ?_
  obtain ⟨_, _, _, _, _, _, _, _, _, _, _, _, z⟩ := hc
  exact z
end Z

set_option maxRecDepth 100000
set_option maxHeartbeats 4000000
namespace Z
open PySem PySem.Spec PyProof.Rows L2
open Evl (Ex)
/-- a statement, then the rest, from what the statement leaves -/
theorem bcut {X : Cx} {st : Stmt} {sts : List Stmt} {D : Ends} {σ : St} {H : Hp} (R : St → Hp → Prop) (h : wS X st { D with nx := R } σ H) (q : ∀ σ' H', R σ' H' → wB X sts D σ' H') : wB X (st :: sts) D σ H :=
  bcons (h.imp q (fun _ _ z => z) (fun _ _ z => z) fun _ _ z => z)
theorem takesF {X : Cx} : L2N.Takes X (fun _ _ _ _ => False) := fun _ _ ⟨_, _, _, _, _, _, _, _, _, _, _, _, _, _, _, _, z⟩ => z.elim
/-! ### comprehensions -/
theorem wipe_get {σ : St} {k : Nat} : ∀ {vs : List Nat}, (wipe σ vs)[k]? = if k ∈ vs then (σ[k]?).map (fun _ => none) else σ[k]?
  | [] => by simp [wipe]
  | v :: vs => by
    unfold wipe
    rw [List.getElem?_set]
    by_cases e : v = k
    · subst e
      simp only [if_true, List.mem_cons, true_or, wipe_length]
      by_cases hl : v < σ.length
      · rw [if_pos hl, List.getElem?_eq_getElem hl]; rfl
      · rw [if_neg hl, List.getElem?_eq_none (by omega)]; rfl
    · rw [if_neg e, wipe_get]
      simp only [List.mem_cons, show ¬ k = v from fun z => e z.symm, false_or]
theorem wipe_set {σ : St} {i : Nat} {x : Option V} {vs : List Nat} (hi : i ∈ vs) : wipe ((wipe σ vs).set i x) vs = wipe σ vs := by
  refine List.ext_getElem? fun k => ?_
  rw [wipe_get]
  by_cases hk : k ∈ vs
  · rw [if_pos hk, List.getElem?_set]
    by_cases e : i = k
    · subst e
      rw [if_pos rfl, wipe_length, wipe_get, if_pos hk]
      by_cases hl : i < σ.length
      · rw [if_pos hl, List.getElem?_eq_getElem hl]; rfl
      · rw [if_neg hl, List.getElem?_eq_none (by omega)]
    · rw [if_neg e, wipe_get, if_pos hk]
      cases σ[k]? <;> rfl
  · rw [if_neg hk, List.getElem?_set, if_neg (fun e => hk (by rw [← e]; exact hi)), wipe_get, if_neg hk]
/-- tests of a clause -/
structure wTs (X : Cx) (ifs : List Expr) (σ : St) (H : Hp) (Q : Bool → Hp → Prop) : Prop where
  run : ∃ t : TT, PTs X ifs t ∧ t σ H Q
theorem sTs {X : Cx} {ifs : List Expr} : PTs X ifs (wTs X ifs) := ⟨fun pins s σ H Q I ⟨t, h, q⟩ => h.run pins s σ H Q I q⟩
section
variable {X : Cx} {σ : St} {H : Hp} {c : Expr} {Q : Bool → Hp → Prop}
theorem tsnil (h : Q true H) : wTs X [] σ H Q := ⟨_, pts_nil, h⟩
theorem tsone (h : wT X c σ H Q) : wTs X [c] σ H Q := ⟨_, pts_one sT, h⟩
end
/-- pieces of a block, in whatever block it is -/
structure bG (X : Cx) (scope : Scope) (tg : Expr) (v : V) (σ : St) (H : Hp) (Q : St → Hp → Prop) : Prop where
  run : ∀ (s : Shared) (H0 : Hp) (C : Addr) (cl : List (Str × Addr)) (fp : List Addr), wG (X.blk s H0 scope (compEnvC scope cl C X.env) fp) tg v σ H Q
structure bTs (X : Cx) (scope : Scope) (ifs : List Expr) (σ : St) (H : Hp) (Q : Bool → Hp → Prop) : Prop where
  run : ∀ (s : Shared) (H0 : Hp) (C : Addr) (cl : List (Str × Addr)) (fp : List Addr), wTs (X.blk s H0 scope (compEnvC scope cl C X.env) fp) ifs σ H Q
structure bE (X : Cx) (scope : Scope) (e : Expr) (σ : St) (H : Hp) (Q : VK) : Prop where
  run : ∀ (s : Shared) (H0 : Hp) (C : Addr) (cl : List (Str × Addr)) (fp : List Addr), wE (X.blk s H0 scope (compEnvC scope cl C X.env) fp) e σ H Q
structure hG (X : Cx) (scope : Scope) (tg : Expr) (v : V) (σ : St) (H : Hp) (Q : St → Hp → Prop) : Prop where
  run : ∀ (s : Shared) (H0 : Hp) (C : Addr) (cl : List (Str × Addr)) (fp : List Addr), wG (blkH X s H0 scope (compEnvC scope cl C X.env) fp) tg v σ H Q
structure hTs (X : Cx) (scope : Scope) (ifs : List Expr) (σ : St) (H : Hp) (Q : Bool → Hp → Prop) : Prop where
  run : ∀ (s : Shared) (H0 : Hp) (C : Addr) (cl : List (Str × Addr)) (fp : List Addr), wTs (blkH X s H0 scope (compEnvC scope cl C X.env) fp) ifs σ H Q
structure hE (X : Cx) (scope : Scope) (e : Expr) (σ : St) (H : Hp) (Q : VK) : Prop where
  run : ∀ (s : Shared) (H0 : Hp) (C : Addr) (cl : List (Str × Addr)) (fp : List Addr), wE (blkH X s H0 scope (compEnvC scope cl C X.env) fp) e σ H Q
section
variable {X : Cx} {σ : St} {H : Hp} {elt tg l a b : Expr} {ifs : List Expr} {scope : Scope} {own : List (Str × Nat)} {pos pos' spos p : Pos} {Q : VK} {wi : TI} {D : Ends}
theorem zlc (hc : X.calm = true) (hN : X.N.Nodup) (own : List (Str × Nat)) (ok : BlkOk X.N X.env.scope scope own) (hi : PI X tg l wi)
    (h : tLc wi (bG X scope tg) (bTs X scope ifs) (bE X scope elt) (own.map (·.2)) σ H Q) (hs : ∀ x, foldedSetIterable l X.env x = pure x := by intro _; rfl) : wE X (.ListComp elt [⟨tg, l, ifs, 0⟩] scope pos) σ H Q :=
  ofE (pe_lc hc hN hi ok (fun s H C cl fp => ⟨fun pins s' σ H' v u Q I r h => (h.run s H C cl fp).run pins s' u I r⟩) (fun s H C cl fp => ⟨fun pins s' σ H' Q I h => sTs.run pins s' σ H' Q I (h.run s H C cl fp)⟩) (fun s H C cl fp => ⟨fun pins s' σ H' Q I h => (h.run s H C cl fp).run pins s' I⟩) hs) h
theorem slc {i : Nat} {y : Str} {py : Pos} (hc : X.calm = true) (hN : X.N.Nodup) (hy : X.N[i]? = some y) (hyl : X.env.scope.names.lookup y = some .local) (own : List (Str × Nat)) (ok : BlkOk X.N X.env.scope scope own) (hi : PI X tg l wi)
    (hsw : swapsWith (.ListComp elt [⟨tg, l, ifs, 0⟩] scope pos) (some (.Name y py)) spos.line X.env = pure true)
    (h : tLc wi (bG X scope tg) (bTs X scope ifs) (bE X scope elt) (own.map (·.2)) σ H (fun x H1 => D.nx (σ.set i (some x)) H1)) (hs : ∀ x, foldedSetIterable l X.env x = pure x := by intro _; rfl) : wS X (.Assign [.Name y py] (.ListComp elt [⟨tg, l, ifs, 0⟩] scope pos) spos) D σ H :=
  ofS (ps_setLc hc hN hy hyl hsw hi ok (fun s H C cl fp => ⟨fun pins s' σ H' v u Q I r h => (h.run s H C cl fp).run pins s' u I r⟩) (fun s H C cl fp => ⟨fun pins s' σ H' Q I h => sTs.run pins s' σ H' Q I (h.run s H C cl fp)⟩) (fun s H C cl fp => ⟨fun pins s' σ H' Q I h => (h.run s H C cl fp).run pins s' I⟩) hs) h
/-- the last clause of a comprehension's turn: L the new list, Nx what the turn is to reach -/
abbrev turnB (X : Cx) (scope : Scope) (tg : Expr) (ifs : List Expr) (elt : Expr) (vs : List Nat) (L : Addr) (x : V) (σ : St) (H : Hp) (Nx : Hp → Prop) : Prop :=
  bG X scope tg x (wipe σ vs) H fun σ2 H2 => wipe σ2 vs = wipe σ vs ∧ bTs X scope ifs σ2 H2 fun b H3 => if b = true then bE X scope elt σ2 H3 fun y H4 => ∃ acc, H4 L = some (.lst acc) ∧ acc.length < sizeLine ∧ Nx (upd H4 L (.lst (acc ++ [y]))) else Nx H3
theorem piR1 (hm : X.mg "range" = none) (hg : Gl X "range") (hsa : starEach [a] X.env = [(false, eval a X.env)] := by rfl) : PI X tg (.Call (.Name "range" p) [a] [] pos) (iRng1 (wA X [a])) := pi_range1 hg hm sA hsa
theorem piR2 (hm : X.mg "range" = none) (hg : Gl X "range") (hsa : starEach [a, b] X.env = [(false, eval a X.env), (false, eval b X.env)] := by rfl) (hsb : starEach [b] X.env = [(false, eval b X.env)] := by rfl) : PI X tg (.Call (.Name "range" p) [a, b] [] pos) (iRng2 (wA X [a, b])) := pi_range2 hg hm sA hsa hsb
theorem piL : PI X tg l (iList X.K (wE X l)) := pi_list sE
theorem piT : PI X tg l (iTup X.K (wE X l)) := pi_tup sE
theorem tlR1 {n : Int} {vs : List Nat} (Pv : Addr → Nat → Hp → Prop)
    (h : wA X [a] σ H fun x H1 => x = [.int n] ∧ n < 2 ^ 62 ∧ -(2 ^ 62) ≤ n ∧ ∀ L, H1 L = none → Pv L 0 (upd H1 L (.lst [])) ∧ (∀ (j : Nat) H', (j : Int) < n → Pv L j H' → turnB X scope tg ifs elt vs L (.int (j : Int)) σ H' (Pv L (j + 1))) ∧ ∀ H', Pv L n.toNat H' → Q (.ref L) H') :
    tLc (iRng1 (wA X [a])) (bG X scope tg) (bTs X scope ifs) (bE X scope elt) vs σ H Q :=
  ⟨fun ps pins s I => thn (h.run ps pins s I) fun us s' ⟨x, H1, J, r, e, h1, h2, q⟩ => ⟨x, H1, J, r, n, e, h2, h1, fun L hL => by
    obtain ⟨q1, q2, q3⟩ := q L hL
    exact lc_range (Pv L) q1 (fun i H' hi hP => by rw [Int.zero_add]; exact q2 i H' (by omega) hP) q3⟩⟩
theorem tlR2 {m n : Int} {vs : List Nat} (Pv : Addr → Nat → Hp → Prop)
    (h : wA X [a, b] σ H fun x H1 => x = [.int m, .int n] ∧ (-(2 ^ 62) ≤ m ∧ m < 2 ^ 62 ∧ -(2 ^ 62) ≤ n ∧ n < 2 ^ 62) ∧ ∀ L, H1 L = none → Pv L 0 (upd H1 L (.lst [])) ∧ (∀ (j : Nat) H', m + (j : Int) < n → Pv L j H' → turnB X scope tg ifs elt vs L (.int (m + (j : Int))) σ H' (Pv L (j + 1))) ∧ ∀ H', Pv L (n - m).toNat H' → Q (.ref L) H') :
    tLc (iRng2 (wA X [a, b])) (bG X scope tg) (bTs X scope ifs) (bE X scope elt) vs σ H Q :=
  ⟨fun ps pins s I => thn (h.run ps pins s I) fun us s' ⟨x, H1, J, r, e, h1, q⟩ => ⟨x, H1, J, r, m, n, e, h1, fun L hL => by
    obtain ⟨q1, q2, q3⟩ := q L hL
    exact lc_range (Pv L) q1 (fun i H' hi hP => q2 i H' (by omega) hP) q3⟩⟩
theorem tlL {xs : List V} {vs : List Nat} (Pv : Addr → Nat → Hp → Prop)
    (h : wE X l σ H fun x H1 => ∃ r, x = .ref r ∧ SqL X.K H1 r xs ∧ ∀ L, H1 L = none → Pv L 0 (upd H1 L (.lst [])) ∧ (∀ j H', j ≤ xs.length → Pv L j H' → SqL X.K H' r xs) ∧ (∀ j x H', xs[j]? = some x → Pv L j H' → turnB X scope tg ifs elt vs L x σ H' (Pv L (j + 1))) ∧ ∀ H', Pv L xs.length H' → Q (.ref L) H') :
    tLc (iList X.K (wE X l)) (bG X scope tg) (bTs X scope ifs) (bE X scope elt) vs σ H Q :=
  ⟨fun pins s I => thn (h.run pins s I) fun u s1 ⟨x, H1, I1, r, a, ex, hq, k⟩ => ⟨x, H1, I1, r, a, ex, ⟨xs, hq⟩, fun L hL => by
    obtain ⟨k0, k1, k2, k3⟩ := k L hL
    exact lc_list (Pv L) k0 k1 k2 k3⟩⟩
theorem tlT {xs : List V} {vs : List Nat} (Pv : Addr → Nat → Hp → Prop)
    (h : wE X l σ H fun x H1 => ∃ r, x = .ref r ∧ SqT X.K H1 r xs ∧ ∀ L, H1 L = none → Pv L 0 (upd H1 L (.lst [])) ∧ (∀ j H', j ≤ xs.length → Pv L j H' → SqT X.K H' r xs) ∧ (∀ j x H', xs[j]? = some x → Pv L j H' → turnB X scope tg ifs elt vs L x σ H' (Pv L (j + 1))) ∧ ∀ H', Pv L xs.length H' → Q (.ref L) H') :
    tLc (iTup X.K (wE X l)) (bG X scope tg) (bTs X scope ifs) (bE X scope elt) vs σ H Q :=
  ⟨fun pins s I => thn (h.run pins s I) fun u s1 ⟨x, H1, I1, r, a, ex, hq, k⟩ => ⟨x, H1, I1, r, a, ex, ⟨xs, hq⟩, fun L hL => by
    obtain ⟨k0, k1, k2, k3⟩ := k L hL
    exact lc_tup (Pv L) k0 k1 k2 k3⟩⟩
/-- what a turn must show where the list is told ahead: acc j after j turns -/
abbrev turnA (X : Cx) (scope : Scope) (tg : Expr) (ifs : List Expr) (elt : Expr) (vs : List Nat) (acc : Nat → List V) (j : Nat) (x : V) (σ : St) (H : Hp) : Prop :=
  bG X scope tg x (wipe σ vs) H fun σ2 H2 => wipe σ2 vs = wipe σ vs ∧ Ex H H2 ∧ bTs X scope ifs σ2 H2 fun b H3 => if b = true then bE X scope elt σ2 H3 fun y H4 => acc (j + 1) = acc j ++ [y] ∧ (acc j).length < sizeLine ∧ Ex H H4 else acc (j + 1) = acc j ∧ Ex H H3
theorem bG.imp {v : V} {Q Q' : St → Hp → Prop} (h : bG X scope tg v σ H Q) (q : ∀ σ' H', Q σ' H' → Q' σ' H') : bG X scope tg v σ H Q' :=
  ⟨fun s H0 C cl fp => ⟨fun pins s' u I r => thn ((h.run s H0 C cl fp).run pins s' u I r) fun _ s'' ⟨σ', H', J, z⟩ => ⟨σ', H', J, q _ _ z⟩⟩⟩
theorem bE.imp {Q Q' : VK} (h : bE X scope elt σ H Q) (q : ∀ σ' H', Q σ' H' → Q' σ' H') : bE X scope elt σ H Q' := ⟨fun s H0 C cl fp => (h.run s H0 C cl fp).imp q⟩
theorem bTs.imp {Q Q' : Bool → Hp → Prop} (h : bTs X scope ifs σ H Q) (q : ∀ σ' H', Q σ' H' → Q' σ' H') : bTs X scope ifs σ H Q' :=
  ⟨fun s H0 C cl fp => ⟨_, ⟨fun pins s' σ0 H1 R I (h2 : ∃ (_ : σ0 = σ) (_ : H1 = H), ∀ a b, Q' a b → R a b) => by
    obtain ⟨rfl, rfl, h2⟩ := h2
    exact thn (sTs.run pins s' _ _ Q I (h.run s H0 C cl fp)) fun u s'' ⟨H', J, z⟩ => ⟨H', J, h2 _ _ (q _ _ z)⟩⟩, rfl, rfl, fun _ _ z => z⟩⟩
theorem turn_of {acc : Nat → List V} {j : Nat} {x : V} {vs : List Nat} {L : Addr} {H1 : Hp} (hL : H1 L = none) (hd : Ex H1 H) (hacc : H L = some (.lst (acc j))) (h : turnA X scope tg ifs elt vs acc j x σ H) :
    turnB X scope tg ifs elt vs L x σ H fun H' => Ex H1 H' ∧ H' L = some (.lst (acc (j + 1))) := by
  refine bG.imp h fun σ2 H2 ⟨w, e2, q⟩ => ⟨w, q.imp fun b H3 q3 => ?_⟩
  cases b with
  | false =>
    rw [if_neg Bool.false_ne_true] at q3 ⊢
    exact ⟨hd.trans q3.2, by rw [q3.1]; exact q3.2 _ _ hacc⟩
  | true =>
    rw [if_pos rfl] at q3 ⊢
    refine q3.imp fun y H4 ⟨ea, hs, e4⟩ => ⟨acc j, e4 _ _ hacc, hs, fun b o e => ?_, by rw [ea]; exact upd_same⟩
    have n : b ≠ L := fun z => by rw [z, hL] at e; cases e
    rw [upd_ne n]
    exact e4 _ _ (hd _ _ e)
theorem tmR1 {n : Int} {vs : List Nat} (acc : Nat → List V) (h0 : acc 0 = [])
    (h : wA X [a] σ H fun x H1 => x = [.int n] ∧ n < 2 ^ 62 ∧ -(2 ^ 62) ≤ n ∧ (∀ (j : Nat) H', (j : Int) < n → Ex H1 H' → turnA X scope tg ifs elt vs acc j (.int (j : Int)) σ H') ∧ ∀ L H', H1 L = none → Ex H1 H' → H' L = some (.lst (acc n.toNat)) → Q (.ref L) H') :
    tLc (iRng1 (wA X [a])) (bG X scope tg) (bTs X scope ifs) (bE X scope elt) vs σ H Q :=
  ⟨fun ps pins s I => thn (h.run ps pins s I) fun us s' ⟨x, H1, J, r, e, h1, h2, q2, q3⟩ => ⟨x, H1, J, r, n, e, h2, h1, fun L hL =>
    lc_range (fun j H' => Ex H1 H' ∧ H' L = some (.lst (acc j))) ⟨Ex.new hL, by rw [h0]; exact upd_same⟩ (fun i H' hi hP => by rw [Int.zero_add]; exact turn_of hL hP.1 hP.2 (q2 i H' (by omega) hP.1)) fun H' z => q3 L H' hL z.1 z.2⟩⟩
theorem tmR2 {m n : Int} {vs : List Nat} (acc : Nat → List V) (h0 : acc 0 = [])
    (h : wA X [a, b] σ H fun x H1 => x = [.int m, .int n] ∧ (-(2 ^ 62) ≤ m ∧ m < 2 ^ 62 ∧ -(2 ^ 62) ≤ n ∧ n < 2 ^ 62) ∧ (∀ (j : Nat) H', m + (j : Int) < n → Ex H1 H' → turnA X scope tg ifs elt vs acc j (.int (m + (j : Int))) σ H') ∧ ∀ L H', H1 L = none → Ex H1 H' → H' L = some (.lst (acc (n - m).toNat)) → Q (.ref L) H') :
    tLc (iRng2 (wA X [a, b])) (bG X scope tg) (bTs X scope ifs) (bE X scope elt) vs σ H Q :=
  ⟨fun ps pins s I => thn (h.run ps pins s I) fun us s' ⟨x, H1, J, r, e, h1, q2, q3⟩ => ⟨x, H1, J, r, m, n, e, h1, fun L hL =>
    lc_range (fun j H' => Ex H1 H' ∧ H' L = some (.lst (acc j))) ⟨Ex.new hL, by rw [h0]; exact upd_same⟩ (fun i H' hi hP => turn_of hL hP.1 hP.2 (q2 i H' (by omega) hP.1)) fun H' z => q3 L H' hL z.1 z.2⟩⟩
theorem tmL {xs : List V} {vs : List Nat} (acc : Nat → List V) (h0 : acc 0 = [])
    (h : wE X l σ H fun x H1 => ∃ r, x = .ref r ∧ SqL X.K H1 r xs ∧ (∀ j x H', xs[j]? = some x → Ex H1 H' → turnA X scope tg ifs elt vs acc j x σ H') ∧ ∀ L H', H1 L = none → Ex H1 H' → H' L = some (.lst (acc xs.length)) → Q (.ref L) H') :
    tLc (iList X.K (wE X l)) (bG X scope tg) (bTs X scope ifs) (bE X scope elt) vs σ H Q :=
  ⟨fun pins s I => thn (h.run pins s I) fun u s1 ⟨x, H1, I1, r, p, ex, hq, q2, q3⟩ => ⟨x, H1, I1, r, p, ex, ⟨xs, hq⟩, fun L hL =>
    lc_list (fun j H' => Ex H1 H' ∧ H' L = some (.lst (acc j))) ⟨Ex.new hL, by rw [h0]; exact upd_same⟩ (fun i H' _ z => Evl.ex_l z.1 hq) (fun i x H' hx hP => turn_of hL hP.1 hP.2 (q2 i x H' hx hP.1)) fun H' z => q3 L H' hL z.1 z.2⟩⟩
theorem tmT {xs : List V} {vs : List Nat} (acc : Nat → List V) (h0 : acc 0 = [])
    (h : wE X l σ H fun x H1 => ∃ r, x = .ref r ∧ SqT X.K H1 r xs ∧ (∀ j x H', xs[j]? = some x → Ex H1 H' → turnA X scope tg ifs elt vs acc j x σ H') ∧ ∀ L H', H1 L = none → Ex H1 H' → H' L = some (.lst (acc xs.length)) → Q (.ref L) H') :
    tLc (iTup X.K (wE X l)) (bG X scope tg) (bTs X scope ifs) (bE X scope elt) vs σ H Q :=
  ⟨fun pins s I => thn (h.run pins s I) fun u s1 ⟨x, H1, I1, r, p, ex, hq, q2, q3⟩ => ⟨x, H1, I1, r, p, ex, ⟨xs, hq⟩, fun L hL =>
    lc_tup (fun j H' => Ex H1 H' ∧ H' L = some (.lst (acc j))) ⟨Ex.new hL, by rw [h0]; exact upd_same⟩ (fun i H' _ z => Evl.ex_t z.1 hq) (fun i x H' hx hP => turn_of hL hP.1 hP.2 (q2 i x H' hx hP.1)) fun H' z => q3 L H' hL z.1 z.2⟩⟩
/-! ### where an exception is handled -/
abbrev turnH (X : Cx) (scope : Scope) (tg : Expr) (ifs : List Expr) (elt : Expr) (vs : List Nat) (acc : Nat → List V) (j : Nat) (x : V) (σ : St) (H : Hp) : Prop :=
  hG X scope tg x (wipe σ vs) H fun σ2 H2 => wipe σ2 vs = wipe σ vs ∧ Ex H H2 ∧ hTs X scope ifs σ2 H2 fun b H3 => if b = true then hE X scope elt σ2 H3 fun y H4 => acc (j + 1) = acc j ++ [y] ∧ (acc j).length < sizeLine ∧ Ex H H4 else acc (j + 1) = acc j ∧ Ex H H3
theorem hG.imp {v : V} {Q Q' : St → Hp → Prop} (h : hG X scope tg v σ H Q) (q : ∀ σ' H', Q σ' H' → Q' σ' H') : hG X scope tg v σ H Q' :=
  ⟨fun s H0 C cl fp => ⟨fun pins s' u I r => thn ((h.run s H0 C cl fp).run pins s' u I r) fun _ s'' ⟨σ', H', J, z⟩ => ⟨σ', H', J, q _ _ z⟩⟩⟩
theorem hE.imp {Q Q' : VK} (h : hE X scope elt σ H Q) (q : ∀ σ' H', Q σ' H' → Q' σ' H') : hE X scope elt σ H Q' := ⟨fun s H0 C cl fp => (h.run s H0 C cl fp).imp q⟩
theorem hTs.imp {Q Q' : Bool → Hp → Prop} (h : hTs X scope ifs σ H Q) (q : ∀ σ' H', Q σ' H' → Q' σ' H') : hTs X scope ifs σ H Q' :=
  ⟨fun s H0 C cl fp => ⟨_, ⟨fun pins s' σ0 H1 R I (h2 : ∃ (_ : σ0 = σ) (_ : H1 = H), ∀ a b, Q' a b → R a b) => by
    obtain ⟨rfl, rfl, h2⟩ := h2
    exact thn (sTs.run pins s' _ _ Q I (h.run s H0 C cl fp)) fun u s'' ⟨H', J, z⟩ => ⟨H', J, h2 _ _ (q _ _ z)⟩⟩, rfl, rfl, fun _ _ z => z⟩⟩
theorem turn_ofH {acc : Nat → List V} {j : Nat} {x : V} {vs : List Nat} {L : Addr} {H1 : Hp} (hL : H1 L = none) (hd : Ex H1 H) (hacc : H L = some (.lst (acc j))) (h : turnH X scope tg ifs elt vs acc j x σ H) :
    hG X scope tg x (wipe σ vs) H fun σ2 H2 => wipe σ2 vs = wipe σ vs ∧ hTs X scope ifs σ2 H2 fun b H3 => if b = true then hE X scope elt σ2 H3 fun y H4 => ∃ acc', H4 L = some (.lst acc') ∧ acc'.length < sizeLine ∧ (Ex H1 (upd H4 L (.lst (acc' ++ [y]))) ∧ upd H4 L (.lst (acc' ++ [y])) L = some (.lst (acc (j + 1)))) else Ex H1 H3 ∧ H3 L = some (.lst (acc (j + 1))) := by
  refine hG.imp h fun σ2 H2 ⟨w, e2, q⟩ => ⟨w, q.imp fun b H3 q3 => ?_⟩
  cases b with
  | false =>
    rw [if_neg Bool.false_ne_true] at q3 ⊢
    exact ⟨hd.trans q3.2, by rw [q3.1]; exact q3.2 _ _ hacc⟩
  | true =>
    rw [if_pos rfl] at q3 ⊢
    refine q3.imp fun y H4 ⟨ea, hs, e4⟩ => ⟨acc j, e4 _ _ hacc, hs, fun b o e => ?_, by rw [ea]; exact upd_same⟩
    have n : b ≠ L := fun z => by rw [z, hL] at e; cases e
    rw [upd_ne n]
    exact e4 _ _ (hd _ _ e)
theorem slcA {i : Nat} {y : Str} {py : Pos} {xs : List V} {q : Addr × Obj} {cls : Value} {d : Option Addr} (hx : HX X q cls d) (hN : X.N.Nodup) (hy : X.N[i]? = some y) (hyl : X.env.scope.names.lookup y = some .local) (own : List (Str × Nat))
    (ok : BlkOk X.N X.env.scope scope own) (hsw : swapsWith (.ListComp elt [⟨tg, l, ifs, 0⟩] scope pos) (some (.Name y py)) spos.line X.env = pure true) (acc : Nat → List V) (h0 : acc 0 = [])
    (h : wE X l σ H fun x H1 => ∃ r, x = .ref r ∧ SqL X.K H1 r xs ∧ (∀ j x H', xs[j]? = some x → Ex H1 H' → turnH X scope tg ifs elt (own.map (·.2)) acc j x σ H') ∧ ∀ L H', H1 L = none → Ex H1 H' → H' L = some (.lst (acc xs.length)) → D.nx (σ.set i (some (.ref L))) H')
    (hs : ∀ x, foldedSetIterable l X.env x = pure x := by intro _; rfl) : wS X (.Assign [.Name y py] (.ListComp elt [⟨tg, l, ifs, 0⟩] scope pos) spos) D σ H := by
  refine slcH (g := hG X scope tg) (tt := hTs X scope ifs) (te := hE X scope elt) hx hN hy hyl hsw ok pi_listH (fun s H C cl fp => ⟨⟨fun pins s' σ H' v u Q I r h => (h.run s H C cl fp).run pins s' u I r⟩, ⟨fun pins s' σ H' Q I h => sTs.run pins s' σ H' Q I (h.run s H C cl fp)⟩, ⟨fun pins s' σ H' Q I h => (h.run s H C cl fp).run pins s' I⟩⟩) ?_ hs
  refine ⟨fun pins s I => thn (h.run pins s I) fun u s1 ⟨x, H1, I1, r, p, ex, hq, q2, q3⟩ => ⟨x, H1, I1, r, p, ex, ⟨xs, hq⟩, fun L hL =>
    lc_list (fun j H' => Ex H1 H' ∧ H' L = some (.lst (acc j))) ⟨Ex.new hL, by rw [h0]; exact upd_same⟩ (fun i H' _ z => Evl.ex_l z.1 hq) (fun i x H' hx hP => turn_ofH hL hP.1 hP.2 (q2 i x H' hx hP.1)) fun H' z => q3 L H' hL z.1 z.2⟩⟩
end
end Z

set_option maxRecDepth 100000
set_option maxHeartbeats 4000000
namespace Z
open PySem PySem.Spec PyProof.Rows L2
open Evl (Ex)
section
variable {X : Cx} {σ : St} {H : Hp} {a b c : Expr} {pos : Pos} {Q : VK}
/-! ### more steps -/
theorem zchain {op op' : CmpOp} (h : wE X a σ H fun x H1 => wE X b σ H1 fun y H2 => wO X (compareOp op) x y H2 fun z H3 => ∃ k, z = .bl k ∧ (if k = true then wE X c σ H3 fun v H4 => wO X (compareOp op') y v H4 Q else Q (.bl false) H3))
    (hm : lastMarks [op, op'] [b, c] = false := by with_unfolding_all rfl) : wE X (.Compare a [op, op'] [b, c] pos) σ H Q := ofE (pe_chain sO sO sE sE sE hm) h
theorem zchainT {op op' : CmpOp} {Q : Bool → Hp → Prop} (h : wE X a σ H fun x H1 => wE X b σ H1 fun y H2 => wO X (compareOp op) x y H2 fun z H3 => ∃ k, z = .bl k ∧ (if k = true then wE X c σ H3 fun v H4 => wO X (compareOp op') y v H4 fun u H5 => ∃ k, u = .bl k ∧ Q k H5 else ∃ k', V.bl false = .bl k' ∧ Q k' H3))
    (hm : lastMarks [op, op'] [b, c] = false := by with_unfolding_all rfl) : wT X (.Compare a [op, op'] [b, c] pos) σ H Q := ofT (pt_chain sO sO sE sE sE hm) h
theorem zneg (h : wE X a σ H fun x H1 => ∃ i, x = .int i ∧ Q (.int (-i)) H1) : wE X (.UnaryOp .USub a pos) σ H Q := ofE (pe_un un_neg sE) h
/-- {} -/
theorem zdnew (h : ∀ p H2, H p = none → Ex H H2 → H2 p = some (.dK []) → Q (.ref p) H2) : wE X (.Dict [] [] pos) σ H Q := ofE pe_dnewK fun p hp => h p _ hp (Ex.new hp) upd_same
end
/-- an exception of a class without an own __init__, made with a text -/
theorem mplain {X : Cx} {σ : St} {H : Hp} {x m : Str} {j : Nat} {C : Addr} {p p2 pos : Pos} {Q : XK} (e : PySem.W.excIn X.K C He.veBase "ValueError.__new__" = true ∧ PySem.W.keepIn X.K (.ref C) = true ∧ PySem.W.subIn X.K (.ref C) (.type "BaseException") = some true ∧ PySem.W.typeIn X.K (.ref C) = some (.type "type"))
    (gC : X.mg x = some (.ref C)) (hg : Gl X x) (h : Q (.ref C) none H) (hdb : (x == ("__debug__" : Str)) = false := by decide) : wM X (.Call (.Name x p) [.Constant (.str m) j p2] [] pos) σ H Q :=
  mown F.excBase_ValueError e.1 gC e.2.1 (raises_own e.2.2.1 e.2.2.2) hg h hdb
theorem Ex.past {H H' : Hp} {L : Addr} {o : HO} (h : Ex H H') (hL : H L = none) : Ex H (upd H' L o) := fun b z e => by
  rw [upd_ne (fun q => by rw [q, hL] at e; cases e)]
  exact h b z e
/-- an item of a display of numbers -/
theorem atN {ns : List Int} {k : Int} (h0 : 0 ≤ k) (h : k < (ns.length : Int)) : ∃ v ∈ ns, atI (ns.map V.int) k = some (.int v) := by
  obtain ⟨j, rfl⟩ : ∃ j : Nat, k = (j : Int) := ⟨k.toNat, by omega⟩
  have hl : j < ns.length := by omega
  exact ⟨ns[j], List.getElem_mem _, atI_nat (by rw [List.getElem?_map, List.getElem?_eq_getElem hl]; rfl)⟩
/-- a list of numbers put together by turns -/
def accM (f : Nat → Int) (j : Nat) : List V := ((List.range j).map f).map V.int
theorem accM_succ (f : Nat → Int) (j : Nat) : accM f (j + 1) = accM f j ++ [.int (f j)] := by unfold accM; rw [List.range_succ]; simp
theorem accM_len (f : Nat → Int) (j : Nat) : (accM f j).length = j := by unfold accM; simp
/-- two lists of the same numbers are not unlike -/
theorem same_ne {X : Cx} {H : Hp} {Q : VK} {j : Nat} {t u : Addr} {xs : List Int} (hr : Room j X.A) (ht : SqL X.K H t (xs.map V.int)) (hu : SqL X.K H u (xs.map V.int)) (q : Q (.bl false) H) : wO X (compareOp .NotEq) (.ref t) (.ref u) H Q :=
  oneD hr (Dp.ints ht) (Dp.ints hu) (PySem.W.ke_shaped_ints xs) (PySem.W.ke_shaped_ints xs) (by rw [SeqAt.eqv_refl _ (SeqAt.canLay_of_shaped (PySem.W.ke_shaped_ints xs))]; exact q)
/-- .. data of any shape -/
theorem data_ne {X : Cx} {H : Hp} {Q : VK} {j : Nat} {t u : V} {d : PyData} (hr : Room j X.A) (ht : Dp X.K H t d) (hu : Dp X.K H u d) (hs : SeqAt.shaped d = true) (q : Q (.bl false) H) : wO X (compareOp .NotEq) t u H Q :=
  oneD hr ht hu hs hs (by rw [SeqAt.eqv_refl _ (SeqAt.canLay_of_shaped hs)]; exact q)
theorem data_eq {X : Cx} {H : Hp} {Q : VK} {j : Nat} {t u : V} {d : PyData} (hr : Room j X.A) (ht : Dp X.K H t d) (hu : Dp X.K H u d) (hs : SeqAt.shaped d = true) (q : Q (.bl true) H) : wO X (compareOp .Eq) t u H Q :=
  oeqD hr ht hu hs hs (by rw [SeqAt.eqv_refl _ (SeqAt.canLay_of_shaped hs)]; exact q)
/-- for over a list that the body leaves as it is, the invariant told behind the list -/
theorem lforE {X : Cx} {σ : St} {H : Hp} {tg l : Expr} {body : List Stmt} {pos : Pos} {D : Ends} (hp : PassesOwn (model X.prog X.w) X.A X.env X.xe) (hc : X.calm = true)
    (h : wE X l σ H fun x H1 => ∃ (a : Addr) (xs : List V), x = .ref a ∧ (SqL X.K H1 a xs ∧ True) ∧ ∃ Pv : Nat → St → Hp → Prop, Pv 0 σ H1 ∧ (∀ i σ H, i ≤ xs.length → Pv i σ H → SqL X.K H a xs) ∧
      (∀ i x σ H, xs[i]? = some x → Pv i σ H → wG X tg x σ H fun σ2 H2 => wB X body { D with nx := Pv (i + 1), ct := Pv (i + 1), bk := D.nx } σ2 H2) ∧ ∀ σ H, Pv xs.length σ H → D.nx σ H)
    (hs : ∀ x, foldedSetIterable l X.env x = pure x := by intro _; rfl) : wS X (.For tg l body [] pos) D σ H :=
  lfor hp hc (pi_list sE) ⟨fun pins s I => thn (h.run pins s I) fun u s1 ⟨x, H1, I1, r, a, xs, ex, ⟨hq, _⟩, Pv, h0, hl, ht, hd⟩ => ⟨x, H1, I1, r, a, ex, ⟨xs, hq⟩, for_list Pv h0 hl ht hd⟩⟩ hs
/-! ### kinds -/
/-- a thing of no whole number's kind (bool among them) -/
def NotWhole (K : PySem.W.Frag) (H : Hp) (v : V) : Prop := ∃ (t : Value) (k1 k2 : Bool), TyX K H v t ∧ PySem.W.kitOne K t (.type "int") = some k1 ∧ PySem.W.kitOne K t (.type "bool") = some k2 ∧ (k1 && !k2) = false
theorem nw_bl {K : PySem.W.Frag} {H : Hp} (b : Bool) : NotWhole K H (.bl b) := ⟨_, true, true, .base (.bl b), kit_ty rfl, kit_ty rfl, rfl⟩
theorem nw_non {K : PySem.W.Frag} {H : Hp} : NotWhole K H .non := ⟨_, false, false, .base .non, kit_ty rfl, kit_ty rfl, rfl⟩
theorem nw_str {K : PySem.W.Frag} {H : Hp} (x : Str) : NotWhole K H (.str x) := ⟨_, false, false, .base (.str x), kit_ty rfl, kit_ty rfl, rfl⟩
theorem nw_lst {K : PySem.W.Frag} {H : Hp} {a : Addr} {xs : List V} (h : H a = some (.lst xs)) : NotWhole K H (.ref a) := ⟨_, false, false, .base (.lst h), kit_ty rfl, kit_ty rfl, rfl⟩
theorem nw_tup {K : PySem.W.Frag} {H : Hp} {a : Addr} {xs : List V} (h : H a = some (.tup xs)) : NotWhole K H (.ref a) := ⟨_, false, false, .base (.tup h), kit_ty rfl, kit_ty rfl, rfl⟩
theorem nw_dK {K : PySem.W.Frag} {H : Hp} {a : Addr} {kvs : List (Key × V)} (h : H a = some (.dK kvs)) : NotWhole K H (.ref a) := ⟨_, false, false, .base (.dK h), kit_ty rfl, kit_ty rfl, rfl⟩
/-- whether a thing is a whole number from lo to hi -/
inductive Asked (K : PySem.W.Frag) (H : Hp) (lo hi : Int) : V → Bool → Prop
  | int (n : Int) : Asked K H lo hi (.int n) (decide (lo ≤ n ∧ n ≤ hi))
  | odd {v : V} (h : NotWhole K H v) : Asked K H lo hi v false
end Z

set_option maxRecDepth 100000
set_option maxHeartbeats 4000000
namespace Z
open PySem PySem.Spec PyProof.Rows L2
open Evl (Ex)
/-! ### enumerate of a text -/
def Ites (x : Str) : It :=
  ⟨fun i _ => i < x.cps.size, fun i H v H' => ∃ T c, x.cps[i]? = some c ∧ v = .ref T ∧ H T = none ∧ H' = upd H T (.tup [.int (i : Nat), .str ⟨#[c]⟩]), fun i _ => i = x.cps.size⟩
theorem turn_enumS {P : Program} {w : World} {K : PySem.W.Frag} {elts : List Expr} {kk : Nat} {tpos : Pos} (x : Str) (t : Tok) (ty : String) (hty : ty = "str_ascii_iterator" ∨ ty = "str_iterator") (e it : Addr) :
    Turn P w K (.Tuple elts kk tpos) (Ites x) [e, it] e (fun i h => (∃ old, IsEnum h e it ((i : Nat) : Int) old) ∧ h.IsStrIter it ty x t i ∧ e ≠ it) where
  mem := List.mem_cons_self
  obj := fun i h ⟨⟨old, he⟩, ⟨o, ho, hc, hd⟩, _⟩ b hb => by
    rcases List.mem_cons.mp hb with rfl | z
    · exact ⟨_, he, fun v q => nomatch q⟩
    · rw [List.mem_singleton.mp z]; exact ⟨o, ho, fun v q => by rw [hd] at q; cases q⟩
  keep := fun i h h' ⟨⟨old, he⟩, ⟨o, ho, r⟩, hne⟩ k => ⟨⟨old, k e List.mem_cons_self _ he⟩, ⟨o, k it (List.mem_cons_of_mem _ List.mem_cons_self) o ho, r⟩, hne⟩
  item := fun X hP hw hK hc i pins s σ H E I hf st hg => by
    subst hP hw hK
    obtain ⟨⟨old, he⟩, hit, hne⟩ := st
    have D : Draws X.prog X.w X.A.in1 it [it] x.cps.size (SignAt x) (fun i h => h.IsStrIter it ty x t i) := by
      rcases hty with q | q
      · rw [q]; exact Draws.strAscii (A := X.A.in1) (I.ok.hd hc) it x t
      · rw [q]; exact Draws.strWide (A := X.A.in1) (I.ok.hd hc) it x t
    have hel : e < s.heap.objs.size := Heap.lt_size he
    have hil : it < s.heap.objs.size := by obtain ⟨_, q, _⟩ := hit; exact Heap.lt_size q
    refine wpAny_pyNext_enum_itemD D he hit hg hne (by simpa using hne) fun y h' tk hy ho hit' hT hsz hk => ?_
    obtain ⟨c, u, hcx, rfl⟩ := hy
    refine ⟨_, rfl, wpAny_letOwnedTupleGo_enum (s := { s with heap := h', toks := tk + 1 }) ho fun h'' he' sb => ?_⟩
    have hT2 : h''.get? s.heap.objs.size = some { cls := .type "tuple", data := .seq #[.int i tk, .str ⟨#[c]⟩ u] } := (sb.2 _ (Nat.ne_of_gt hel)).trans hT
    have new : ObjOk X.prog X.w (upd H s.heap.objs.size (.tup [.int (i : Nat), .str ⟨#[c]⟩])) h'' s.heap.objs.size (.tup [.int (i : Nat), .str ⟨#[c]⟩]) :=
      ⟨by show 2 ≤ sizeLine; decide, [.int i tk, .str ⟨#[c]⟩ u], .cons ⟨_, rfl⟩ (.cons ⟨_, rfl⟩ .nil), ⟨_, hT2, rfl, _, rfl⟩⟩
    have I1 : Inv X pins σ (upd H s.heap.objs.size (.tup [.int (i : Nat), .str ⟨#[c]⟩])) { s with heap := h'', toks := tk + 1 } :=
      I.turnedNew (ch := [e, it]) (fun b ob hb q => (sb.2 b (fun z => hb (by simp [z]))).trans (hk b ob (fun z => hb (by simp [z])) (fun z => hb (by simp [z])) q)) hf (Nat.le_refl _) new
    refine ⟨.ref s.heap.objs.size, _, I1, rfl, ⟨_, c, hcx, rfl, I.hok.fresh (Nat.le_refl _), rfl⟩, ⟨⟨.str ⟨#[c]⟩ u, ?_⟩, ?_, hne⟩, fun b hb => ?_⟩
    · rw [show ((i + 1 : Nat) : Int) = (i : Int) + 1 from by omega]; exact he'
    · obtain ⟨o, q, r⟩ := hit'
      exact ⟨o, (sb.2 it (Ne.symm hne)).trans q, r⟩
    · have hb' : b < s.heap.objs.size := by
        rcases List.mem_cons.mp hb with rfl | z
        · exact hel
        · rw [List.mem_singleton.mp z]; exact hil
      rw [upd_ne (Nat.ne_of_lt hb')]
      exact (hf b hb).1
  done := fun X hP hw hK hc i pins s σ H E I hf st hg => by
    subst hP hw hK
    obtain ⟨⟨old, he⟩, hit, hne⟩ := st
    obtain ⟨f0, f1, f2, f3, f4, f5⟩ := hf it (List.mem_cons_of_mem _ List.mem_cons_self)
    have D : Draws X.prog X.w X.A.in1 it [it] x.cps.size (SignAt x) (fun i h => h.IsStrIter it ty x t i) := by
      rcases hty with q | q
      · rw [q]; exact Draws.strAscii (A := X.A.in1) (I.ok.hd hc) it x t
      · rw [q]; exact Draws.strWide (A := X.A.in1) (I.ok.hd hc) it x t
    have hi : i = x.cps.size := hg
    subst hi
    exact wpAny_pyNext_enum_endD D he hit fun h' eb => ⟨rfl, I.turned (t' := s.toks) (fun b o hb q => eb b o hb q) f0 f1 f3 f4 f5⟩
  self := fun A i s Q E ⟨⟨_, he⟩, _⟩ h => wpAny_pyIter_enum he h
def iEnumS (ta : TA) : TI := fun σ H R => ta σ H fun vs H1 => ∃ x, vs = [.str x] ∧ R (Ites x) H1
section
variable {X : Cx} {σ : St} {H : Hp} {e o : Expr} {es : List Expr} {pos p apos p2 tpos : Pos} {Q : VK} {D : Ends} {kk : Nat} {elts : List Expr}
theorem pi_enumS (hm : X.mg "enumerate" = none) (hg : Gl X "enumerate") (hs : starEach [e] X.env = [(false, eval e X.env)] := by rfl) : PI X (.Tuple elts kk tpos) (.Call (.Name "enumerate" p) [e] [] pos) (iEnumS (wA X [e])) := by
  refine ⟨fun pins s σ H R I h => ?_⟩
  refine Call_ (ld_blt I hg hm boot_enumerate (PyProof.Rows.callWith_type1 (thn (h.run pos pins s I) fun us s1 ⟨vs, H1, I1, r1, x, ex, q⟩ => ?_) hs rfl))
  subst ex
  cases r1 with
  | cons r rr =>
    cases rr
    obtain ⟨t, rfl⟩ := r
    refine call_enumerate_str fun h' he hit hsz hk => wpAny_pyIter_enum he ?_
    have I2 : Inv X pins σ H1 { s1 with heap := h' } := I1.kept (t' := s1.toks) hk
    refine ⟨s1.heap.objs.size + 1, [s1.heap.objs.size + 1, s1.heap.objs.size], _, _, H1, rfl, I2, turn_enumS x t (strIterType x) (by unfold strIterType; split <;> simp) (s1.heap.objs.size + 1) s1.heap.objs.size, ⟨⟨.none, he⟩, hit, Nat.succ_ne_self _⟩, fun b hb => ?_, q⟩
    have hle : s1.heap.objs.size ≤ b := by
      rcases List.mem_cons.mp hb with z | z
      · rw [z]; exact Nat.le_add_right _ _
      · rw [List.mem_singleton.mp z]; exact Nat.le_refl _
    exact I1.fpOk hle (I1.hok.fresh hle)
end
end Z

set_option maxRecDepth 100000
set_option maxHeartbeats 4000000
namespace Z
open PySem PySem.Spec PyProof.Rows L2
open Evl (Ex)
section
variable {X : Cx} {σ : St} {H : Hp} {a b c e o i tg l : Expr} {es : List Expr} {st : Stmt} {body : List Stmt} {pos pos' p p1 p2 apos tpos : Pos} {Q : VK} {D : Ends} {kk : Nat} {elts : List Expr}
/-! ### built-ins -/
theorem kisiT {x : V} {tp : Addr} {cs : List V} {t : Value} {us : List Value} {b : Bool} (hT : H tp = some (.tup cs)) (hp : Paired ClsV cs us) (ty : TyX X.K H x t) (hk : PySem.W.kitAny X.K t us = some b) (h : Q (.bl b) H) : wK X (.builtin "isinstance") [x, .ref tp] H Q :=
  ofK call_isiT ⟨x, tp, cs, t, us, b, rfl, hT, hp, ty, hk, h⟩
theorem kall {p : Addr} {bs : List Bool} (hc : X.calm = true) (hp : SqL X.K H p (bs.map V.bl)) (h : Q (.bl (bs.all id)) H) : wK X (.builtin "all") [.ref p] H Q := ofK (cr_all hc) ⟨p, bs, rfl, hp, h⟩
theorem ksum {p : Addr} {ns : List Int} (hc : X.calm = true) (hp : SqL X.K H p (ns.map V.int)) (h : Q (.int ns.sum) H) : wK X (.builtin "sum") [.ref p] H Q := ofK (cr_sum hc) ⟨p, ns, rfl, hp, h⟩
theorem kdivmod {m n : Int} (hc : CDiv m n) (h : ∀ p H2, H p = none → Ex H H2 → H2 p = some (.tup [.int (m / n), .int (m % n)]) → Q (.ref p) H2) : wK X (.builtin "divmod") [.int m, .int n] H Q :=
  ofK call_divmod ⟨m, n, rfl, hc, fun p hp => h p _ hp (Ex.new hp) upd_same⟩
theorem kabs {m : Int} (h : Q (.int (if m < 0 then -m else m)) H) : wK X (.builtin "abs") [.int m] H Q := ofK call_abs ⟨m, rfl, h⟩
theorem kord {x : Str} (hx : x.length = 1) (h : Q (.int (x.cps.getD 0 0 : Nat)) H) : wK X (.builtin "ord") [.str x] H Q := ofK call_ord ⟨x, rfl, hx, h⟩
theorem orep {p : Addr} {xs : List V} {k : Int} (hp : H p = some (.lst xs)) (h0 : -(2 ^ 63) ≤ k) (h1 : k < 2 ^ 63) (hz : xs.length * k.toNat ≤ sizeLine) (h : ∀ q H2, H q = none → Ex H H2 → H2 q = some (.lst (List.replicate k.toNat xs).flatten) → Q (.ref q) H2) : wO X (binaryOp .Mult) (.ref p) (.int k) H Q :=
  ofO op_rep ⟨p, k, xs, rfl, rfl, hp, h0, h1, hz, fun q hq => h q _ hq (Ex.new hq) upd_same⟩
theorem oin {n : Nat} {z : Str} (h : Q (.bl (decide (n ∈ z.cps.toList))) H) : wO X (compareOp .In) (.str ⟨#[n]⟩) (.str z) H Q := ofO op_in_sign ⟨n, z, rfl, rfl, h⟩
theorem onin {n : Nat} {z : Str} (h : Q (.bl (!decide (n ∈ z.cps.toList))) H) : wO X (compareOp .NotIn) (.str ⟨#[n]⟩) (.str z) H Q := ofO op_notIn_sign ⟨n, z, rfl, rfl, h⟩
/-! ### methods of a text -/
theorem zjoin (h : wE X o σ H fun x H1 => (∃ a, x = .str a) ∧ wE X e σ H1 fun y H2 => ∃ a p, ∃ ys : List Str, x = .str a ∧ y = .ref p ∧ (SqL X.K H2 p (ys.map V.str) ∨ SqT X.K H2 p (ys.map V.str)) ∧ (ys.map (·.length)).sum + ys.length * a.length ≤ 16777216 ∧ Q (.str (Txt.join a ys)) H2)
    (hs : starEach [e] X.env = [(false, eval e X.env)] := by rfl) (hbase : attributeBase o "join" X.env (eval o X.env) = eval o X.env := by rfl) (hline : (apos.endLine == pos.line) = true := by rfl) : wE X (.Call (.Attribute o "join" apos) [e] [] pos) σ H Q := by
  refine ofE (pe_join sE sE hs hbase hline) ⟨fun pins s I => thn (h.run pins s I) fun u s1 ⟨x, H1, I1, r1, hx, q⟩ => ⟨x, H1, I1, r1, hx, ⟨fun pins2 s2 J => thn (q.run pins2 s2 J) fun u2 s3 ⟨y, H2, I2, r2, a, p, ys, e1, e2, q2⟩ => ⟨y, H2, I2, r2, a, p, ys, e1, by rw [e2], q2⟩⟩⟩⟩
theorem zsindex (h : wE X o σ H fun x H1 => (∃ a, x = .str a) ∧ wE X e σ H1 fun y H2 => ∃ a b i rest, x = .str a ∧ y = .str b ∧ Builtin.Str.occurrences a b 0 a.length 1 = i :: rest ∧ Q (.int (i : Nat)) H2)
    (hs : starEach [e] X.env = [(false, eval e X.env)] := by rfl) (hbase : attributeBase o "index" X.env (eval o X.env) = eval o X.env := by rfl) (hline : (apos.endLine == pos.line) = true := by rfl) : wE X (.Call (.Attribute o "index" apos) [e] [] pos) σ H Q := by
  refine ofE (pe_m1 PySem.F.slot_str_index PySem.F.type_str_index mt_sindex sE sE hs hbase hline) ⟨fun pins s I => thn (h.run pins s I) fun u s1 ⟨x, H1, I1, r1, hx, q⟩ => ⟨x, H1, I1, r1, hx, ⟨fun pins2 s2 J => thn (q.run pins2 s2 J) fun u2 s3 ⟨y, H2, I2, r2, a, b, i, rest, e1, e2, q2⟩ => ⟨y, H2, I2, r2, a, b, i, rest, e1, by rw [e2], q2⟩⟩⟩⟩
/-! ### slices -/
structure wP (X : Cx) (e : Option Expr) (σ : St) (H : Hp) (Q : Option Int → Hp → Prop) : Prop where
  run : ∃ t : TO, PO X e t ∧ t σ H Q
structure wSl (X : Cx) (x : V) (lo hi : Option Int) (H : Hp) (Q : VK) : Prop where
  run : ∃ r : V → Option Int → Option Int → Hp → VK → Prop, SlR X r ∧ r x lo hi H Q
theorem sP {e : Option Expr} : PO X e (wP X e) := ⟨fun pins s σ H Q I ⟨t, h, q⟩ => h.run pins s σ H Q I q⟩
theorem pnon {Q : Option Int → Hp → Prop} (h : Q none H) : wP X none σ H Q := ⟨_, po_none, h⟩
theorem psom {Q : Option Int → Hp → Prop} (h : wE X e σ H fun x H1 => ∃ i, x = .int i ∧ Q (some i) H1) : wP X (some e) σ H Q := ⟨_, po_some sE, h⟩
theorem sSl : SlR X (wSl X) := fun pins s σ H x v vl vu lo hi sl Q I rx hs pl pu ⟨r, h, q⟩ => h pins s σ H x v vl vu lo hi sl Q I rx hs pl pu q
theorem zsl {lo hi : Option Expr} (h : wE X e σ H fun x H1 => wP X lo σ H1 fun l H2 => wP X hi σ H2 fun u H3 => wSl X x l u H3 Q) : wE X (.Subscript e (.Slice lo hi none p2) pos) σ H Q := ofE (pe_slice sSl sE sP sP) h
theorem slL {q : Addr} {xs : List V} {lo hi : Option Int} (hq : SqL X.K H q xs) (h : ∀ p H2, H p = none → Ex H H2 → H2 p = some (.lst (cutV xs lo hi)) → Q (.ref p) H2) : wSl X (.ref q) lo hi H Q := ⟨_, sl_list, q, xs, rfl, hq, fun p hp => h p _ hp (Ex.new hp) upd_same⟩
theorem slT {q : Addr} {xs : List V} {lo hi : Option Int} (hq : SqT X.K H q xs) (hw : ¬ (HT.sIx xs.length 0 lo = 0 ∧ HT.sIx xs.length xs.length hi = xs.length)) (h : ∀ p H2, H p = none → Ex H H2 → H2 p = some (.tup (cutV xs lo hi)) → Q (.ref p) H2) : wSl X (.ref q) lo hi H Q := ⟨_, sl_tup, q, xs, rfl, hq, hw, fun p hp => h p _ hp (Ex.new hp) upd_same⟩
theorem slS {z : Str} {lo hi : Option Int} (hz : z.length ≤ sizeLine) (h : Q (.str (cutS z lo hi)) H) : wSl X (.str z) lo hi H Q := ⟨_, sl_str, z, rfl, hz, h⟩
/-! ### o[i] = .. -/
structure wSe (X : Cx) (o i v : V) (H : Hp) (Q : Hp → Prop) : Prop where
  run : ∃ t : TSet, PSet X t ∧ t o i v H Q
theorem sSe : PSet X (wSe X) := fun pins s σ H o i v ov iv u Q I ro ri rv ⟨t, h, q⟩ => h pins s σ H o i v ov iv u Q I ro ri rv q
theorem gsub {v : V} {Q : St → Hp → Prop} (h : wE X o σ H fun x H1 => wE X i σ H1 fun y H2 => wSe X x y v H2 fun H3 => Q σ H3)
    (ha : ∀ v, assign (.Subscript o i pos) X.env v = (do
      let ov ← holding [v] (eval o X.env)
      let iv ← holding [v, ov] (eval i X.env)
      standAt pos
      holding [v, ov, iv] (setItem ov iv v)
      release [v, ov, iv] []) := by intro _; rfl) : wG X (.Subscript o i pos) v σ H Q := ofG (pg_sub sE sE sSe ha) h
theorem seL {q : Addr} {xs : List V} {k : Int} {j : Nat} {v : V} {Q : Hp → Prop} (hq : H q = some (.lst xs)) (hj : ixN xs.length k = some j) (h : Q (upd H q (.lst (xs.set j v)))) : wSe X (.ref q) (.int k) v H Q := ⟨_, set_list, q, xs, k, j, rfl, rfl, hq, hj, h⟩
/-! ### for over enumerate -/
theorem lforEn (hm : X.mg "enumerate" = none) (hp : PassesOwn (model X.prog X.w) X.A X.env X.xe) (hc : X.calm = true) (hg : Gl X "enumerate")
    (h : wA X [e] σ H fun vs H1 => ∃ (a : Addr) (xs : List V), vs = [.ref a] ∧ (SqL X.K H1 a xs ∧ True) ∧ ∃ Pv : Nat → St → Hp → Prop, Pv 0 σ H1 ∧ (∀ i σ H, i ≤ xs.length → Pv i σ H → SqL X.K H a xs) ∧
      (∀ i x σ H T H2, xs[i]? = some x → Pv i σ H → H T = none → Ex H H2 → H2 T = some (.tup [.int ((i : Nat) : Int), x]) → wG X (.Tuple elts kk tpos) (.ref T) σ H2 fun σ2 H2 => wB X body { D with nx := Pv (i + 1), ct := Pv (i + 1), bk := D.nx } σ2 H2) ∧ ∀ σ H, Pv xs.length σ H → D.nx σ H)
    (hs : ∀ x, foldedSetIterable (.Call (.Name "enumerate" p) [e] [] pos') X.env x = pure x := by intro _; rfl) (hsa : starEach [e] X.env = [(false, eval e X.env)] := by rfl) : wS X (.For (.Tuple elts kk tpos) (.Call (.Name "enumerate" p) [e] [] pos') body [] pos) D σ H := by
  refine lfor hp hc (pi_enum hg hm sA hsa) ⟨fun ps pins s I => thn (h.run ps pins s I) fun u s1 ⟨vs, H1, I1, r, a, xs, ex, ⟨hq, _⟩, Pv, h0, hl, ht, hd⟩ => ⟨vs, H1, I1, r, a, xs, ex, hq, ?_⟩⟩ hs
  refine ⟨fun i m σ H => m = xs.length - i ∧ i ≤ xs.length ∧ Pv i σ H, ⟨xs.length, by simp, Nat.zero_le _, h0⟩, ?_⟩
  rintro i m σ H ⟨rfl, hi, z⟩
  have q := hl i σ H hi z
  by_cases hlt : i < xs.length
  · refine .inr ⟨⟨xs, xs[i], q, by simp [hlt]⟩, Pv (i + 1), fun σ' H' p' => ⟨xs.length - (i + 1), by omega, rfl, hlt, p'⟩, ?_⟩
    rintro v H' ⟨T, x, rfl, hT, rfl, hx⟩
    exact ht i x σ H T _ (hx xs q) z hT (Ex.new hT) upd_same
  · have e : i = xs.length := by omega
    subst e
    exact .inl ⟨⟨xs, q, Nat.le_refl _⟩, hd σ H z⟩
theorem lforEnS (hm : X.mg "enumerate" = none) (hp : PassesOwn (model X.prog X.w) X.A X.env X.xe) (hc : X.calm = true) (hg : Gl X "enumerate") (Pv : Nat → St → Hp → Prop)
    (h : wA X [e] σ H fun vs H1 => ∃ x : Str, vs = [.str x] ∧ (True ∧ Pv 0 σ H1) ∧
      (∀ i c σ H T H2, x.cps[i]? = some c → Pv i σ H → H T = none → Ex H H2 → H2 T = some (.tup [.int ((i : Nat) : Int), .str ⟨#[c]⟩]) → wG X (.Tuple elts kk tpos) (.ref T) σ H2 fun σ2 H2 => wB X body { D with nx := Pv (i + 1), ct := Pv (i + 1), bk := D.nx } σ2 H2) ∧ ∀ σ H, Pv x.cps.size σ H → D.nx σ H)
    (hs : ∀ x, foldedSetIterable (.Call (.Name "enumerate" p) [e] [] pos') X.env x = pure x := by intro _; rfl) (hsa : starEach [e] X.env = [(false, eval e X.env)] := by rfl) : wS X (.For (.Tuple elts kk tpos) (.Call (.Name "enumerate" p) [e] [] pos') body [] pos) D σ H := by
  refine lfor hp hc (pi_enumS hm hg hsa) ⟨fun ps pins s I => thn (h.run ps pins s I) fun u s1 ⟨vs, H1, I1, r, x, ex, ⟨_, h0⟩, ht, hd⟩ => ⟨vs, H1, I1, r, x, ex, ?_⟩⟩ hs
  refine ⟨fun i m σ H => m = x.cps.size - i ∧ i ≤ x.cps.size ∧ Pv i σ H, ⟨x.cps.size, by simp, Nat.zero_le _, h0⟩, ?_⟩
  rintro i m σ H ⟨rfl, hi, z⟩
  by_cases hlt : i < x.cps.size
  · refine .inr ⟨hlt, Pv (i + 1), fun σ' H' p' => ⟨x.cps.size - (i + 1), by omega, rfl, hlt, p'⟩, ?_⟩
    rintro v H' ⟨T, c, hx, rfl, hT, rfl⟩
    exact ht i c σ H T _ hx z hT (Ex.new hT) upd_same
  · have e : i = x.cps.size := by omega
    subst e
    exact .inl ⟨rfl, hd σ H z⟩
/-! ### comprehensions over a range by steps, over a text -/
theorem piR3 (hm : X.mg "range" = none) (hg : Gl X "range") (hs : starEach [a, b, c] X.env = (false, eval a X.env) :: starEach [b, c] X.env := by rfl) (hpl : (backTo pos (starEach [b, c] X.env)).any (·.1) = false := by rfl) : PI X tg (.Call (.Name "range" p) [a, b, c] [] pos) (iRng3 (wA X [a, b, c])) := pi_range3 hg hm sA hs hpl
theorem piS : PI X tg l (iStr (wE X l)) := pi_str sE
variable {elt : Expr} {ifs : List Expr} {scope : Scope} {vs : List Nat}
theorem tmR3 {m n k : Int} {z : Nat} (acc : Nat → List V) (h0 : acc 0 = [])
    (h : wA X [a, b, c] σ H fun x H1 => x = [.int m, .int n, .int k] ∧ RgC m n k z ∧ (∀ (j : Nat) H', j < z → Ex H1 H' → turnA X scope tg ifs elt vs acc j (.int (m + (j : Int) * k)) σ H') ∧ ∀ L H', H1 L = none → Ex H1 H' → H' L = some (.lst (acc z)) → Q (.ref L) H') :
    tLc (iRng3 (wA X [a, b, c])) (bG X scope tg) (bTs X scope ifs) (bE X scope elt) vs σ H Q := by
  refine ⟨fun ps pins s I => thn (h.run ps pins s I) fun us s' ⟨x, H1, J, r, e, h1, q2, q3⟩ => ⟨x, H1, J, r, m, n, k, z, e, h1, fun L hL => ?_⟩⟩
  refine ⟨fun j d H' => d = z - j ∧ j ≤ z ∧ (Ex H1 H' ∧ H' L = some (.lst (acc j))), ⟨z, by simp, Nat.zero_le _, Ex.new hL, by rw [h0]; exact upd_same⟩, ?_⟩
  rintro j d H' ⟨rfl, hj, e1, e2⟩
  by_cases hlt : j < z
  · refine .inr ⟨hlt, fun H' => Ex H1 H' ∧ H' L = some (.lst (acc (j + 1))), fun H' p' => ⟨z - (j + 1), by omega, rfl, hlt, p'⟩, ?_⟩
    rintro x H2 ⟨rfl, rfl⟩
    exact turn_of hL e1 e2 (q2 j _ hlt e1)
  · have e : j = z := by omega
    subst e
    exact .inl ⟨Nat.le_refl _, q3 L H' hL e1 e2⟩
theorem tmS {x : Str} (acc : Nat → List V) (h0 : acc 0 = [])
    (h : wE X l σ H fun y H1 => y = .str x ∧ (∀ (j : Nat) c H', x.cps[j]? = some c → Ex H1 H' → turnA X scope tg ifs elt vs acc j (.str ⟨#[c]⟩) σ H') ∧ ∀ L H', H1 L = none → Ex H1 H' → H' L = some (.lst (acc x.cps.size)) → Q (.ref L) H') :
    tLc (iStr (wE X l)) (bG X scope tg) (bTs X scope ifs) (bE X scope elt) vs σ H Q := by
  refine ⟨fun pins s I => thn (h.run pins s I) fun us s' ⟨y, H1, J, r, e, q2, q3⟩ => ⟨y, H1, J, r, x, e, fun L hL => ?_⟩⟩
  refine ⟨fun j d H' => d = x.cps.size - j ∧ j ≤ x.cps.size ∧ (Ex H1 H' ∧ H' L = some (.lst (acc j))), ⟨x.cps.size, by simp, Nat.zero_le _, Ex.new hL, by rw [h0]; exact upd_same⟩, ?_⟩
  rintro j d H' ⟨rfl, hj, e1, e2⟩
  by_cases hlt : j < x.cps.size
  · refine .inr ⟨hlt, fun H' => Ex H1 H' ∧ H' L = some (.lst (acc (j + 1))), fun H' p' => ⟨x.cps.size - (j + 1), by omega, rfl, hlt, p'⟩, ?_⟩
    rintro y H2 ⟨rfl, c, hc, rfl⟩
    exact turn_of hL e1 e2 (q2 j c _ hc e1)
  · have e : j = x.cps.size := by omega
    subst e
    exact .inl ⟨Nat.le_refl _, q3 L H' hL e1 e2⟩
end
end Z

set_option maxRecDepth 100000
set_option maxHeartbeats 4000000
namespace Z
open PySem PySem.Spec PyProof.Rows L2
/-! ### the check of sixteen bits, byte by byte and bit by bit -/
/-- a turn of the program's -/
def pStep (f : Nat) : Nat := if f / 32768 = 1 then (f * 2 % 65536) ^^^ 4129 else f * 2 % 65536
/-- a turn of the law's: the k-th bit of b from above -/
def lStep (b f k : Nat) : Nat := if (f / 32768 + b / 2 ^ (7 - k)) % 2 = 1 then (f * 2 % 65536) ^^^ 4129 else f * 2 % 65536
def pTurns (f : Nat) : Nat → Nat
  | 0 => f
  | i + 1 => pStep (pTurns f i)
def lTurns (b f : Nat) : Nat → Nat
  | 0 => f
  | i + 1 => lStep b (lTurns b f i) i
theorem pStep_lt (f : Nat) : pStep f < 65536 := by
  unfold pStep
  have h : f * 2 % 65536 < 2 ^ 16 := Nat.mod_lt _ (by decide)
  split
  · exact Nat.xor_lt_two_pow h (by decide)
  · exact h
theorem lStep_lt (b f k : Nat) : lStep b f k < 65536 := by
  unfold lStep
  have h : f * 2 % 65536 < 2 ^ 16 := Nat.mod_lt _ (by decide)
  split
  · exact Nat.xor_lt_two_pow h (by decide)
  · exact h
theorem pTurns_lt {f : Nat} (h : f < 65536) : ∀ i, pTurns f i < 65536
  | 0 => h
  | i + 1 => pStep_lt _
theorem lTurns_lt {b f : Nat} (h : f < 65536) : ∀ i, lTurns b f i < 65536
  | 0 => h
  | i + 1 => lStep_lt _ _ _
theorem turns_eq {b f : Nat} (hb : b < 256) (hf : f < 65536) : ∀ i, i ≤ 8 → pTurns (f ^^^ (b * 256)) i = lTurns b f i ^^^ (b * 2 ^ (8 + i) % 65536)
  | 0, _ => by
    show f ^^^ (b * 256) = f ^^^ (b * 256 % 65536)
    rw [Nat.mod_eq_of_lt (by omega)]
  | i + 1, hi => by
    have ih := turns_eq hb hf i (by omega)
    have hL := lTurns_lt (b := b) hf i
    show pStep (pTurns (f ^^^ (b * 256)) i) = lStep b (lTurns b f i) i ^^^ _
    rw [ih]
    generalize hl : lTurns b f i = L at hL ⊢
    have hB : b * 2 ^ (8 + i) % 65536 < 65536 := Nat.mod_lt _ (by decide)
    have e1 : (b * 2 ^ (8 + i) % 65536) / 32768 = b / 2 ^ (7 - i) % 2 := by
      have : i = 0 ∨ i = 1 ∨ i = 2 ∨ i = 3 ∨ i = 4 ∨ i = 5 ∨ i = 6 ∨ i = 7 := by omega
      rcases this with rfl | rfl | rfl | rfl | rfl | rfl | rfl | rfl <;> simp only [Nat.reduceAdd, Nat.reduceSub, Nat.reducePow] <;> omega
    have e2 : (b * 2 ^ (8 + i) % 65536) * 2 % 65536 = b * 2 ^ (8 + (i + 1)) % 65536 := by
      rw [show 8 + (i + 1) = (8 + i) + 1 from by omega, Nat.pow_succ, ← Nat.mul_assoc]
      omega
    generalize b * 2 ^ (8 + i) % 65536 = B at hB e1 e2 ⊢
    have d : (L ^^^ B) / 32768 = (L / 32768) ^^^ (B / 32768) := by
      have := Nat.shiftRight_xor_distrib (a := L) (b := B) (i := 15)
      simpa [Nat.shiftRight_eq_div_pow] using this
    have m : (L ^^^ B) * 2 % 65536 = (L * 2 % 65536) ^^^ (B * 2 % 65536) := by
      have h1 := Nat.shiftLeft_xor_distrib (a := L) (b := B) (i := 1)
      have h2 := Nat.xor_mod_two_pow (a := L * 2) (b := B * 2) (n := 16)
      simp only [Nat.shiftLeft_eq, Nat.pow_one] at h1
      rw [h1]
      exact h2
    have c1 : L / 32768 = 0 ∨ L / 32768 = 1 := by omega
    have c2 : B / 32768 = 0 ∨ B / 32768 = 1 := by omega
    unfold pStep lStep
    rw [d, m, e2, Nat.add_mod, ← e1]
    rcases c1 with c1 | c1 <;> rcases c2 with c2 | c2 <;> rw [c1, c2]
    · rfl
    · show (_ ^^^ _) ^^^ 4129 = (_ ^^^ 4129) ^^^ _
      rw [Nat.xor_assoc, Nat.xor_comm _ 4129, ← Nat.xor_assoc]
    · show (_ ^^^ _) ^^^ 4129 = (_ ^^^ 4129) ^^^ _
      rw [Nat.xor_assoc, Nat.xor_comm _ 4129, ← Nat.xor_assoc]
    · rfl
/-- a byte taken in -/
def crcB (f b : Nat) : Nat := pTurns (f ^^^ (b * 256)) 8
theorem crcB_law {b f : Nat} (hb : b < 256) (hf : f < 65536) : lTurns b f 8 = crcB f b := by
  unfold crcB
  rw [turns_eq hb hf 8 (Nat.le_refl _)]
  rw [show b * 2 ^ (8 + 8) % 65536 = 0 from by omega, Nat.xor_zero]
theorem crcB_lt (f b : Nat) : crcB f b < 65536 := pStep_lt _
/-- the check of a row from f on -/
def crc (f : Nat) : List Int → Nat
  | [] => f
  | b :: r => crc (crcB f b.toNat) r
theorem crc_lt {f : Nat} (h : f < 65536) : ∀ xs : List Int, crc f xs < 65536
  | [] => h
  | b :: r => crc_lt (crcB_lt _ _) r
theorem crc_take {f : Nat} : ∀ {xs : List Int} {i : Nat} {b : Int}, xs[i]? = some b → crc f (xs.take (i + 1)) = crcB (crc f (xs.take i)) b.toNat
  | x :: xs, 0, b, h => by simp at h; subst h; rfl
  | x :: xs, i + 1, b, h => by
    have := crc_take (f := crcB f x.toNat) (xs := xs) (i := i) (b := b) (by simpa using h)
    exact this
theorem crc_app (f : Nat) : ∀ xs ys : List Int, crc f (xs ++ ys) = crc (crc f xs) ys
  | [], _ => rfl
  | x :: xs, ys => crc_app (crcB f x.toNat) xs ys
end Z
namespace Z
open PySem PySem.Spec PyProof.Rows L2
open Evl (Ex)
/-- a test whose answer is told ahead, the heap grown -/
theorem tcutE {X : Cx} {c : Expr} {σ : Z.St} {H : Hp} {Q : Bool → Hp → Prop} (k : Bool) (h : wT X c σ H fun k' H' => k' = k ∧ Ex H H') (q : ∀ H', Ex H H' → Q k H') : wT X c σ H Q := h.imp fun v H' ⟨a, b⟩ => by rw [a]; exact q H' b
theorem ecutE {X : Cx} {c : Expr} {σ : Z.St} {H : Hp} {Q : VK} (v : V) (h : wE X c σ H fun v' H' => v' = v ∧ Ex H H') (q : ∀ H', Ex H H' → Q v H') : wE X c σ H Q := h.imp fun v' H' ⟨a, b⟩ => by rw [a]; exact q H' b
/-! ### kinds stay -/
theorem TyOf.ex {K : PySem.W.Frag} {H H' : Hp} (e : Ex H H') {v : V} {t : Value} (h : TyOf K H v t) : TyOf K H' v t := by
  cases h with
  | non => exact .non
  | bl x => exact .bl x
  | int i => exact .int i
  | str x => exact .str x
  | flt x => exact .flt x
  | lst q => exact .lst (e _ _ q)
  | frz q => exact .frz (e _ _ q)
  | tup q => exact .tup (e _ _ q)
  | dK q => exact .dK (e _ _ q)
  | dT q => exact .dT (e _ _ q)
  | ins q c a b d f => exact .ins (e _ _ q) c a b d f
theorem TyX.ex {K : PySem.W.Frag} {H H' : Hp} (e : Ex H H') {v : V} {t : Value} (h : TyX K H v t) : TyX K H' v t := by
  cases h with
  | base q => exact .base (TyOf.ex e q)
  | byt b => exact .byt b
  | set q => exact .set (e _ _ q)
  | kList q c => exact .kList q c
  | kTuple q c => exact .kTuple q c
  | kDict q c => exact .kDict q c
  | fTuple q => exact .fTuple (e _ _ q)
  | fDict q => exact .fDict (e _ _ q)
theorem NotWhole.ex {K : PySem.W.Frag} {H H' : Hp} (e : Ex H H') {v : V} (h : NotWhole K H v) : NotWhole K H' v := by
  obtain ⟨t, k1, k2, a, b, c, d⟩ := h
  exact ⟨t, k1, k2, TyX.ex e a, b, c, d⟩
theorem Asked.ex {K : PySem.W.Frag} {H H' : Hp} (e : Ex H H') {lo hi : Int} {v : V} {b : Bool} (h : Asked K H lo hi v b) : Asked K H' lo hi v b := by
  cases h with
  | int n => exact .int n
  | odd q => exact .odd (NotWhole.ex e q)
/-- things asked one by one -/
inductive AskedAll (K : PySem.W.Frag) (H : Hp) (lo hi : Int) : List V → List Bool → Prop
  | nil : AskedAll K H lo hi [] []
  | cons {v : V} {b : Bool} {vs : List V} {bs : List Bool} : Asked K H lo hi v b → AskedAll K H lo hi vs bs → AskedAll K H lo hi (v :: vs) (b :: bs)
theorem AskedAll.length {K : PySem.W.Frag} {H : Hp} {lo hi : Int} : ∀ {vs : List V} {bs : List Bool}, AskedAll K H lo hi vs bs → vs.length = bs.length
  | _, _, .nil => rfl
  | _, _, .cons _ t => by rw [List.length_cons, List.length_cons, t.length]
theorem AskedAll.get {K : PySem.W.Frag} {H : Hp} {lo hi : Int} : ∀ {vs : List V} {bs : List Bool} {i : Nat} {v : V}, AskedAll K H lo hi vs bs → vs[i]? = some v → ∃ b, bs[i]? = some b ∧ Asked K H lo hi v b
  | _, _, 0, _, .cons a _, h => by simp at h; subst h; exact ⟨_, rfl, a⟩
  | _, _, i + 1, _, .cons _ t, h => by obtain ⟨b, h1, h2⟩ := t.get (i := i) (by simpa using h); exact ⟨b, by simpa using h1, h2⟩
theorem AskedAll.ints {K : PySem.W.Frag} {H : Hp} {lo hi : Int} : ∀ {ns : List Int}, (∀ n ∈ ns, lo ≤ n ∧ n ≤ hi) → AskedAll K H lo hi (ns.map V.int) (ns.map fun _ => true)
  | [], _ => .nil
  | n :: ns, h => .cons (by have := Asked.int (K := K) (H := H) (lo := lo) (hi := hi) n; rwa [decide_eq_true (h n List.mem_cons_self)] at this) (AskedAll.ints fun m hm => h m (List.mem_cons_of_mem _ hm))
/-- whether a thing is a row of bytes: a list or tuple, each of its items a whole number from 0 to 255 -/
inductive RowAsk (K : PySem.W.Frag) (H : Hp) : V → Bool → Prop
  | lst {l : Addr} {xs : List V} {bs : List Bool} (h : H l = some (.lst xs)) (a : AskedAll K H 0 255 xs bs) (hz : xs.length ≤ sizeLine) : RowAsk K H (.ref l) (bs.all id)
  | tup {l : Addr} {xs : List V} {bs : List Bool} (h : H l = some (.tup xs)) (a : AskedAll K H 0 255 xs bs) (hz : xs.length ≤ sizeLine) : RowAsk K H (.ref l) (bs.all id)
  | not {v : V} {t : Value} (ty : TyX K H v t) (k : PySem.W.kitAny K t [.type "list", .type "tuple"] = some false) : RowAsk K H v false
end Z

set_option maxRecDepth 100000
set_option maxHeartbeats 4000000
namespace Z
open PySem PySem.Spec PyProof.Rows L2
open Evl (Ex)
section
variable {X : Cx} {σ : Z.St} {H : Hp} {a b e o : Expr} {st : Stmt} {D : Ends} {p p1 p2 p3 pos apos : Pos} {Q : VK}
/-- a statement cut behind top_name -/
theorem scut (R : Z.St → Hp → Prop) (h : wS X st { D with nx := R } σ H) (q : ∀ σ' H', R σ' H' → D.nx σ' H') : wS X st D σ H :=
  h.imp q (fun _ _ z => z) (fun _ _ z => z) fun _ _ z => z
theorem vcut (R : VK) (h : wE X e σ H R) (q : ∀ v H', R v H' → Q v H') : wE X e σ H Q := h.imp q
/-! ### list(range(..)), l.clear(), x in a tuple or list -/
theorem zlrg1 (hc : X.calm = true) (hg1 : Gl X "list") (hm1 : X.mg "list" = none) (hg2 : Gl X "range") (hm2 : X.mg "range" = none)
    (h : wE X a σ H fun x H1 => ∃ n, x = .int n ∧ RgOk 0 n ∧ ∀ q H2, H1 q = none → Ex H1 H2 → H2 q = some (.lst (rgV 0 n)) → Q (.ref q) H2)
    (na : starEach [.Call (.Name "range" p1) [a] [] p2] X.env = (false, eval (.Call (.Name "range" p1) [a] [] p2) X.env) :: starEach [] X.env := by rfl) (nb : starEach [a] X.env = (false, eval a X.env) :: starEach [] X.env := by rfl) :
    wE X (.Call (.Name "list" p) [.Call (.Name "range" p1) [a] [] p2] [] pos) σ H Q := by
  refine ofE (pe_listRg hc hg1 hm1 (prg_1 hg2 hm2 sE nb) na) ?_
  exact h.imp fun x H1 ⟨n, e, ok, q⟩ => ⟨n, e, ok, fun l hl => q l _ hl (Ex.new hl) upd_same⟩
theorem zclr (h : wE X o σ H fun x H1 => ∃ l xs, x = .ref l ∧ H1 l = some (.lst xs) ∧ Q .non (upd H1 l (.lst [])))
    (he : ∀ t : TE, PE X o t → PE X (.Call (.Attribute o "clear" apos) [] [] pos) (tBM0 X.K "list" rClear t) := by intro t ht; exact pe_bm0 PySem.F.plainAttrs_list PySem.F.slot_list_clear PySem.F.type_list_clear mt_clear ht) : wE X (.Call (.Attribute o "clear" apos) [] [] pos) σ H Q := by
  refine ofE (he _ sE) ⟨fun pins s I => thn (h.run pins s I) fun u s1 ⟨x, H1, I1, r1, l, xs, ex, hl, q⟩ => ⟨x, H1, I1, r1, ?_⟩⟩
  subst ex
  exact ⟨.inl ⟨rfl, xs, SqL.of hl⟩, l, xs, rfl, rfl, hl, q⟩
theorem oinF {x : V} {l : Addr} {xs : List V} (hp : SqL X.K H l xs ∨ SqT X.K H l xs) (fx : flatV x = true) (fs : xs.all flatV = true) (h : Q (.bl (inV x xs)) H) : wO X (compareOp .In) x (.ref l) H Q := ofO op_in_seq ⟨l, xs, rfl, hp, fx, fs, h⟩
theorem oninF {x : V} {l : Addr} {xs : List V} (hp : SqL X.K H l xs ∨ SqT X.K H l xs) (fx : flatV x = true) (fs : xs.all flatV = true) (h : Q (.bl (!inV x xs)) H) : wO X (compareOp .NotIn) x (.ref l) H Q := ofO op_notIn_seq ⟨l, xs, rfl, hp, fx, fs, h⟩
/-- x in a tuple of data -/
theorem oninT {k : Nat} {x y : V} {d : PyData} {ds : List PyData} (hr : Room k X.A) (hx : Dp X.K H x d) (hy : Dp X.K H y (.tuple ds)) (s1 : SeqAt.shaped d = true) (s2 : SeqAt.shaped (.tuple ds) = true) (hd : PyData.depthAll ds ≤ 60) (h : Q (.bl (!ds.any fun z => PyData.eqv z d)) H) : wO X (compareOp .NotIn) x y H Q := by
  refine ⟨fun pins s σ v u I rx ry => ?_⟩
  obtain ⟨as, r1⟩ := Dp.reads I d x v hx rx
  obtain ⟨bs, r2⟩ := Dp.reads I (.tuple ds) y u hy ry
  exact SeqAt.notIn_tuple_reads r2 r1 (SeqAt.canLay_of_shaped s2) (SeqAt.canLay_of_shaped s1) (by have := hr.units; have := Nat.min_le_left (PyData.depthAll ds) d.depth; omega) ⟨.bl _, H, I, rfl, h⟩
end
end Z

set_option maxRecDepth 100000
set_option maxHeartbeats 4000000
namespace Z
open PySem PySem.Spec PyProof.Rows L2
open Evl (Ex)
/-! ### comprehensions whose items are made anew: G j ws: what is known of the items ws after j turns -/
theorem del_ex (H : Hp) (L : Addr) : Ex (del H L) H := fun b o e => by
  by_cases h : b = L
  · subst h; rw [del_same] at e; cases e
  · rw [del_ne h] at e; exact e
theorem del_mono {H H' : Hp} {L : Addr} (h : ∀ b o, b ≠ L → H b = some o → H' b = some o) : Ex (del H L) (del H' L) := fun b o e => by
  by_cases hb : b = L
  · subst hb; rw [del_same] at e; cases e
  · rw [del_ne hb] at e ⊢; exact h b o hb e
theorem del_at {H : Hp} {L b : Addr} {o : HO} (h : H b = some o) (n : b ≠ L) : del H L b = some o := by rw [del_ne n]; exact h
theorem ne_new {H : Hp} {L b : Addr} {o : HO} (h : H L = some o) (n : H b = none) : b ≠ L := fun e => by rw [e, h] at n; cases n
section
variable {X : Cx} {σ : Z.St} {H : Hp} {elt tg l a b : Expr} {ifs : List Expr} {scope : Scope} {Q : VK}
abbrev turnG (X : Cx) (scope : Scope) (tg : Expr) (ifs : List Expr) (elt : Expr) (vs : List Nat) (G : Nat → List V → Hp → Prop) (L : Addr) (ws : List V) (j : Nat) (x : V) (σ : Z.St) (H : Hp) : Prop :=
  bG X scope tg x (wipe σ vs) H fun σ2 H2 => wipe σ2 vs = wipe σ vs ∧ Ex H H2 ∧ bTs X scope ifs σ2 H2 fun b H3 => if b = true then bE X scope elt σ2 H3 fun y H4 => ws.length < sizeLine ∧ Ex H H4 ∧ G (j + 1) (ws ++ [y]) (del H4 L) else Ex H H3 ∧ G (j + 1) ws (del H3 L)
theorem turnG_of {G : Nat → List V → Hp → Prop} (hG : ∀ j ws H H', G j ws H → Ex H H' → G j ws H') {j : Nat} {x : V} {vs : List Nat} {L : Addr} {ws : List V} {H1 : Hp} (hL : H1 L = none) (hd : Ex H1 H) (hacc : H L = some (.lst ws)) (h : turnG X scope tg ifs elt vs G L ws j x σ H) :
    turnB X scope tg ifs elt vs L x σ H fun H' => Ex H1 H' ∧ ∃ ws, H' L = some (.lst ws) ∧ G (j + 1) ws (del H' L) := by
  refine bG.imp h fun σ2 H2 ⟨w, e2, q⟩ => ⟨w, q.imp fun b H3 q3 => ?_⟩
  cases b with
  | false =>
    rw [if_neg Bool.false_ne_true] at q3 ⊢
    exact ⟨hd.trans q3.1, ws, q3.1 _ _ hacc, q3.2⟩
  | true =>
    rw [if_pos rfl] at q3 ⊢
    refine q3.imp fun y H4 ⟨hs, e4, g⟩ => ⟨ws, e4 _ _ hacc, hs, fun b o e => ?_, _, upd_same, hG _ _ _ _ g (del_mono fun b o n e => by rw [upd_ne n]; exact e)⟩
    have n : b ≠ L := fun z => by rw [z, hL] at e; cases e
    rw [upd_ne n]
    exact e4 _ _ (hd _ _ e)
theorem tnL {xs : List V} {vs : List Nat} (G : Nat → List V → Hp → Prop) (hG : ∀ j ws H H', G j ws H → Ex H H' → G j ws H') (h0 : ∀ H, G 0 [] H)
    (h : wE X l σ H fun x H1 => ∃ r, x = .ref r ∧ SqL X.K H1 r xs ∧ (∀ j x H' L ws, xs[j]? = some x → Ex H1 H' → H1 L = none → H' L = some (.lst ws) → G j ws (del H' L) → turnG X scope tg ifs elt vs G L ws j x σ H') ∧ ∀ L H' ws, H1 L = none → Ex H1 H' → H' L = some (.lst ws) → G xs.length ws H' → Q (.ref L) H') :
    tLc (iList X.K (wE X l)) (bG X scope tg) (bTs X scope ifs) (bE X scope elt) vs σ H Q :=
  ⟨fun pins s I => thn (h.run pins s I) fun u s1 ⟨x, H1, I1, r, p, ex, hq, q2, q3⟩ => ⟨x, H1, I1, r, p, ex, ⟨xs, hq⟩, fun L hL =>
    lc_list (fun j H' => Ex H1 H' ∧ ∃ ws, H' L = some (.lst ws) ∧ G j ws (del H' L)) ⟨Ex.new hL, [], upd_same, h0 _⟩ (fun i H' _ z => Evl.ex_l z.1 hq) (fun i x H' hx ⟨e, ws, hw, g⟩ => turnG_of (G := G) hG hL e hw (q2 i x H' L ws hx e hL hw g)) fun H' ⟨e, ws, hw, g⟩ => q3 L H' ws hL e hw (hG _ _ _ _ g (del_ex _ _))⟩⟩
theorem tnT {xs : List V} {vs : List Nat} (G : Nat → List V → Hp → Prop) (hG : ∀ j ws H H', G j ws H → Ex H H' → G j ws H') (h0 : ∀ H, G 0 [] H)
    (h : wE X l σ H fun x H1 => ∃ r, x = .ref r ∧ SqT X.K H1 r xs ∧ (∀ j x H' L ws, xs[j]? = some x → Ex H1 H' → H1 L = none → H' L = some (.lst ws) → G j ws (del H' L) → turnG X scope tg ifs elt vs G L ws j x σ H') ∧ ∀ L H' ws, H1 L = none → Ex H1 H' → H' L = some (.lst ws) → G xs.length ws H' → Q (.ref L) H') :
    tLc (iTup X.K (wE X l)) (bG X scope tg) (bTs X scope ifs) (bE X scope elt) vs σ H Q :=
  ⟨fun pins s I => thn (h.run pins s I) fun u s1 ⟨x, H1, I1, r, p, ex, hq, q2, q3⟩ => ⟨x, H1, I1, r, p, ex, ⟨xs, hq⟩, fun L hL =>
    lc_tup (fun j H' => Ex H1 H' ∧ ∃ ws, H' L = some (.lst ws) ∧ G j ws (del H' L)) ⟨Ex.new hL, [], upd_same, h0 _⟩ (fun i H' _ z => Evl.ex_t z.1 hq) (fun i x H' hx ⟨e, ws, hw, g⟩ => turnG_of (G := G) hG hL e hw (q2 i x H' L ws hx e hL hw g)) fun H' ⟨e, ws, hw, g⟩ => q3 L H' ws hL e hw (hG _ _ _ _ g (del_ex _ _))⟩⟩
theorem tnR1 {n : Int} {vs : List Nat} (G : Nat → List V → Hp → Prop) (hG : ∀ j ws H H', G j ws H → Ex H H' → G j ws H') (h0 : ∀ H, G 0 [] H)
    (h : wA X [a] σ H fun x H1 => x = [.int n] ∧ n < 2 ^ 62 ∧ -(2 ^ 62) ≤ n ∧ (∀ (j : Nat) H' L ws, (j : Int) < n → Ex H1 H' → H1 L = none → H' L = some (.lst ws) → G j ws (del H' L) → turnG X scope tg ifs elt vs G L ws j (.int (j : Int)) σ H') ∧ ∀ L H' ws, H1 L = none → Ex H1 H' → H' L = some (.lst ws) → G n.toNat ws H' → Q (.ref L) H') :
    tLc (iRng1 (wA X [a])) (bG X scope tg) (bTs X scope ifs) (bE X scope elt) vs σ H Q :=
  ⟨fun ps pins s I => thn (h.run ps pins s I) fun us s' ⟨x, H1, J, r, e, h1, h2, q2, q3⟩ => ⟨x, H1, J, r, n, e, h2, h1, fun L hL =>
    lc_range (fun j H' => Ex H1 H' ∧ ∃ ws, H' L = some (.lst ws) ∧ G j ws (del H' L)) ⟨Ex.new hL, [], upd_same, h0 _⟩ (fun i H' hi ⟨e, ws, hw, g⟩ => by rw [Int.zero_add]; exact turnG_of (G := G) hG hL e hw (q2 i H' L ws (by omega) e hL hw g)) fun H' ⟨e, ws, hw, g⟩ => q3 L H' ws hL e hw (hG _ _ _ _ g (del_ex _ _))⟩⟩
end
/-! ### lists of rows -/
inductive RowsAt (H : Hp) : List V → List (List Int) → Prop
  | nil : RowsAt H [] []
  | cons {l : Addr} {xs : List Int} {vs : List V} {ls : List (List Int)} : H l = some (.lst (xs.map V.int)) → RowsAt H vs ls → RowsAt H (.ref l :: vs) (xs :: ls)
theorem RowsAt.ex {H H' : Hp} (e : Ex H H') : ∀ {vs : List V} {ls : List (List Int)}, RowsAt H vs ls → RowsAt H' vs ls
  | _, _, .nil => .nil
  | _, _, .cons h t => .cons (e _ _ h) (t.ex e)
theorem RowsAt.length {H : Hp} : ∀ {vs : List V} {ls : List (List Int)}, RowsAt H vs ls → vs.length = ls.length
  | _, _, .nil => rfl
  | _, _, .cons _ t => by rw [List.length_cons, List.length_cons, t.length]
theorem RowsAt.get {H : Hp} : ∀ {vs : List V} {ls : List (List Int)} {i : Nat} {v : V}, RowsAt H vs ls → vs[i]? = some v → ∃ l xs, v = .ref l ∧ ls[i]? = some xs ∧ H l = some (.lst (xs.map V.int))
  | _, _, 0, _, .cons h _, e => by simp at e; exact ⟨_, _, e.symm, rfl, h⟩
  | _, _, i + 1, _, .cons _ t, e => by obtain ⟨l, xs, e1, e2, e3⟩ := t.get (i := i) (by simpa using e); exact ⟨l, xs, e1, by simpa using e2, e3⟩
theorem RowsAt.app {H : Hp} : ∀ {vs us : List V} {ls ms : List (List Int)}, RowsAt H vs ls → RowsAt H us ms → RowsAt H (vs ++ us) (ls ++ ms)
  | _, _, _, _, .nil, g => g
  | _, _, _, _, .cons h t, g => .cons h (t.app g)
theorem RowsAt.one {H : Hp} {vs : List V} {ls : List (List Int)} {l : Addr} {xs : List Int} (h : RowsAt H vs ls) (g : H l = some (.lst (xs.map V.int))) : RowsAt H (vs ++ [.ref l]) (ls ++ [xs]) := h.app (.cons g .nil)
theorem take_map_succ {α β : Type} {f : α → β} {ks : List α} {j : Nat} {k : α} (h : ks[j]? = some k) : (ks.take (j + 1)).map f = (ks.take j).map f ++ [f k] := by
  rw [List.take_add_one, h, List.map_append]
  rfl
end Z

set_option maxRecDepth 100000
set_option maxHeartbeats 4000000
namespace Z
open PySem PySem.Spec PyProof.Rows L2
open Evl (Ex)
/-! ### texts: times a number, made of a number, read as one, methods -/
section
variable {X : Cx} {σ : Z.St} {H : Hp} {a b e e2 o : Expr} {st : Stmt} {D : Ends} {p p1 p2 p3 pos pos2 apos tpos : Pos} {Q : VK} {elts : List Expr} {kk : Nat} {body : List Stmt}
theorem osmul {x : Str} {n : Int} (hok : MulOk x n) (h : Q (.str (Txt.mul x n)) H) : wO X (binaryOp .Mult) (.str x) (.int n) H Q := by
  refine ⟨fun pins s σ v u I rx ry => ?_⟩
  obtain ⟨t, rfl⟩ := rx
  obtain ⟨t', rfl⟩ := ry
  exact SB.mul hok fun t' k => ⟨.str _, H, I.tok k, ⟨_, rfl⟩, h⟩
theorem kintI {i : Int} (h : Q (.int i) H) : wK X (.type "int") [.int i] H Q := ofK call_int1 (.inl ⟨i, rfl, h⟩)
theorem kintB {k : Bool} (h : Q (.int (if k then 1 else 0)) H) : wK X (.type "int") [.bl k] H Q := ofK call_int1 (.inr ⟨k, rfl, h⟩)
theorem kintS {x : Str} {n : Int} (hn : PySem.intText? x = some n) (hl : x.length ≤ 640) (h : Q (.int n) H) : wK X (.type "int") [.str x] H Q := ofK call_int_str ⟨x, n, rfl, hn, hl, h⟩
theorem kstrI {i : Int} (hl : i.natAbs.log2 < 1920) (h : Q (.str (toString i)) H) : wK X (.type "str") [.int i] H Q := ofK call_str_int ⟨i, rfl, hl, h⟩
theorem zstarts (h : wE X o σ H fun x H1 => (∃ a, x = .str a) ∧ wE X e σ H1 fun y H2 => ∃ a b, x = .str a ∧ y = .str b ∧ Q (.bl (Txt.startswith a b)) H2)
    (hs : starEach [e] X.env = [(false, eval e X.env)] := by rfl) (hbase : attributeBase o "startswith" X.env (eval o X.env) = eval o X.env := by rfl) (hline : (apos.endLine == pos.line) = true := by rfl) : wE X (.Call (.Attribute o "startswith" apos) [e] [] pos) σ H Q := by
  refine ofE (pe_m1 PySem.F.slot_str_startswith PySem.F.type_str_startswith mt_startswith sE sE hs hbase hline) ⟨fun pins s I => thn (h.run pins s I) fun u s1 ⟨x, H1, I1, r1, hx, q⟩ => ⟨x, H1, I1, r1, hx, ⟨fun pins2 s2 J => thn (q.run pins2 s2 J) fun u2 s3 ⟨y, H2, I2, r2, a, b, e1, e2, q2⟩ => ⟨y, H2, I2, r2, a, b, e1, by rw [e2], q2⟩⟩⟩⟩
theorem zsplit (h : wE X o σ H fun x H1 => (∃ a, x = .str a) ∧ wE X e σ H1 fun y H2 => ∃ a b, x = .str a ∧ y = .str b ∧ (b.length == 0) = false ∧ a.length + 2 ≤ sizeLine ∧ ∀ p H3, H2 p = none → Ex H2 H3 → H3 p = some (.lst ((Txt.split a b).map V.str)) → Q (.ref p) H3)
    (hs : starEach [e] X.env = [(false, eval e X.env)] := by rfl) (hbase : attributeBase o "split" X.env (eval o X.env) = eval o X.env := by rfl) (hline : (apos.endLine == pos.line) = true := by rfl) : wE X (.Call (.Attribute o "split" apos) [e] [] pos) σ H Q := by
  refine ofE (pe_m1 PySem.F.slot_str_split PySem.F.type_str_split mt_split sE sE hs hbase hline) ⟨fun pins s I => thn (h.run pins s I) fun u s1 ⟨x, H1, I1, r1, hx, q⟩ => ⟨x, H1, I1, r1, hx, ⟨fun pins2 s2 J => thn (q.run pins2 s2 J) fun u2 s3 ⟨y, H2, I2, r2, a, b, e1, e2, c1, c2, q2⟩ => ⟨y, H2, I2, r2, a, b, e1, by rw [e2], c1, c2, fun p hp => q2 p _ hp (Ex.new hp) upd_same⟩⟩⟩⟩
end
/-! ### x.join(reversed(l)) -/
section
variable {prog : Program} {w : World} {A : Around} {E : Value → Shared → Prop} {s : Shared}
theorem join_rev {it l : Addr} {items : Array Value} {x : Str} {t : Tok} {ys : List Str} {Q : Value → Shared → Prop} (hh : A.handled = none) (hit : s.heap.IsRevIter it l ((items.size : Int) - 1)) (hl : s.heap.IsList l items) (hne : l ≠ it) (hn : items.size ≤ sizeLine)
    (hP : ∀ acc : Array Value, ItemsOf (fun i v => items[items.size - 1 - i]? = some v) acc items.size → StrsAre acc.toList ys) (hok : (ys.map (·.length)).sum + ys.length * x.length ≤ 16777216)
    (hq : ∀ (h' : Heap), (∀ b o, b ≠ it → s.heap.get? b = some o → h'.get? b = some o) → ∀ t' k, Q (.str (Txt.join x ys) t') { s with heap := h', toks := k }) :
    wpAny (model prog w) A (call (.builtin "str.join") [.str x t, .ref it]) Q E s := by
  have hT : s.TypeIs (.ref it) "list_reverseiterator" := hit.typeIs
  refine wpAny_call (codeAny_call_builtin F.slot_str_join.plain F.entry_str_join (F.slot_str_join.check _ _ _ _ _ _ _ _ (typeIs_str _ _ _) (F.args_str_join_2 _ _) ?_))
  rw [join_tree_other]
  refine wpAny_bind (wpAny_typeOf hT ?_)
  show wpAny _ A.in1 ((pyIter (.ref it)).tryCatch _ >>= fun it => collect it >>= fun items => joinTail x items) _ _ s
  refine wpAny_bind (wpAny_tryCatch (wpAny_pyIter_revIter hit ?_))
  have hh1 : A.in1.handled = none := hh
  refine wpAny_bind (RT.collect_rev hh1 hit hl hne hn (fun h' tk acc hk hacc => ?_))
  obtain ⟨l, hl, ht⟩ := strsAre_values (hP acc hacc)
  subst ht
  rw [hl]
  have hok' := joinOk_of hok
  unfold JoinOk at hok'
  rw [Bool.not_eq_true'] at hok'
  have g : Gives (joinTail x (strValues l)) (joinMade x l) := by
    have g0 := gives_joinTail x l hok'
    cases l with
    | nil => exact g0
    | cons p r => cases r with
      | nil => exact g0
      | cons q r' => exact g0
  exact g prog w A (wants Q E) _ (post_join l ⟨joinFit_length hok', fun t' k => hq h' hk t' k⟩)
end
section
variable {X : Cx} {σ : Z.St} {H : Hp} {a b e e2 o : Expr} {st : Stmt} {D : Ends} {p p1 p2 p3 pos pos2 apos tpos : Pos} {Q : VK} {elts : List Expr} {kk : Nat} {body : List Stmt}
theorem vals_strs : ∀ {ys : List Str} {us : List Value}, Vals (ys.map V.str) us → StrsAre us ys
  | [], _, h => by cases h; exact .nil
  | y :: ys, _, h => by
    cases h with
    | cons r t =>
      obtain ⟨u, rfl⟩ := r
      exact .cons _ _ (vals_strs t)
theorem zjoinRev (hc : X.calm = true) (hg : Gl X "reversed") (hm : X.mg "reversed" = none) (h : wE X o σ H fun x H1 => (∃ a, x = .str a) ∧ wE X e σ H1 fun y H2 => ∃ a q, ∃ ys : List Str, x = .str a ∧ y = .ref q ∧ SqL X.K H2 q (ys.map V.str) ∧ (ys.reverse.map (·.length)).sum + ys.reverse.length * a.length ≤ 16777216 ∧ Q (.str (Txt.join a ys.reverse)) H2)
    (hs1 : starEach [.Call (.Name "reversed" p) [e] [] pos2] X.env = [(false, eval (.Call (.Name "reversed" p) [e] [] pos2) X.env)] := by rfl)
    (hs : starEach [e] X.env = (false, eval e X.env) :: starEach [] X.env := by rfl)
    (hbase : attributeBase o "join" X.env (eval o X.env) = eval o X.env := by rfl) (hline : (apos.endLine == pos.line) = true := by rfl) :
    wE X (.Call (.Attribute o "join" apos) [.Call (.Name "reversed" p) [e] [] pos2] [] pos) σ H Q := by
  refine ⟨fun pins s I => ?_⟩
  refine PySem.Call_method1 hbase hs1 hline (thn (h.run pins s I) fun v s1 ⟨x, H1, I1, r1, q1⟩ => ?_)
  obtain ⟨⟨a, rfl⟩, q1⟩ := q1
  obtain ⟨t, rfl⟩ := _root_.id r1
  refine ⟨"str", _, PySem.F.plainAttrs_str, PySem.F.slot_str_join, PySem.F.type_str_join, typeIs_str _ _ _, (fun _ e => nomatch e), Calls.callWith_builtin rfl (Calls.evalArgs_plain (Calls.spliced_cons ?_))⟩
  refine Call_ (ld_blt I1 hg hm PyProof.Rows.boot_reversed (PyProof.Rows.callWith_type1 (args_cons (thn (q1.run pins s1 I1) fun u s2 ⟨y, H2, I2, r2, q2⟩ => args_nil ?_) hs) hs rfl))
  obtain ⟨a', l, ys, ea, ey, hq, hz, q2⟩ := q2
  cases ea
  subst ey
  obtain rfl : u = Value.ref l := r2
  obtain ⟨its, rv, pl, hsz⟩ := I2.list hq
  obtain ⟨f0, f1, f2, f3, f4, f5⟩ := I2.fpOk (H' := H2) (b := s2.heap.objs.size) (Nat.le_refl _) (I2.hok.fresh (Nat.le_refl _))
  have hl := pl.isList
  obtain ⟨ol, hol, _⟩ := id hl
  have hne : l ≠ s2.heap.objs.size := Nat.ne_of_lt (Heap.lt_size hol)
  have hn : its.toArray.size ≤ sizeLine := by rw [List.size_toArray, ← rv.length]; exact hsz
  refine call_reversed_list hl ?_
  have k0 : ∀ b o, s2.heap.get? b = some o → (s2.heap.push (revObj l ((its.toArray.size : Int) - 1))).get? b = some o := fun b o e => Heap.get?_push_of_some _ e
  have I3 : Inv X pins σ H2 { s2 with heap := s2.heap.push (revObj l ((its.toArray.size : Int) - 1)) } := I2.kept (t' := s2.toks) k0
  refine Calls.spliced_nil (join_rev (s := { s2 with heap := s2.heap.push (revObj l ((its.toArray.size : Int) - 1)) }) (ys := ys.reverse) (I2.ok.hd hc) ⟨_, Heap.get?_push_size _ rfl, rfl, rfl⟩ (hl.push _) hne hn (fun acc hacc => ?_) hz fun h' hk t' tk => ?_)
  · have := RT.vals_rev rv hacc
    rw [← List.map_reverse] at this
    exact vals_strs this
  · exact ⟨.str _, H2, I3.turned (t' := tk) (fun b o hb e => hk b o hb e) f0 f1 f3 f4 f5, ⟨t', rfl⟩, q2⟩
/-! ### for over a text -/
theorem lforS {tg l : Expr} {x : Str} (hp : PassesOwn (model X.prog X.w) X.A X.env X.xe) (hc : X.calm = true) (Pv : Nat → Z.St → Hp → Prop)
    (h : wE X l σ H fun y H1 => y = .str x ∧ Pv 0 σ H1 ∧
      (∀ i c σ H, x.cps[i]? = some c → Pv i σ H → wG X tg (.str ⟨#[c]⟩) σ H fun σ2 H2 => wB X body { D with nx := Pv (i + 1), ct := Pv (i + 1), bk := D.nx } σ2 H2) ∧ ∀ σ H, Pv x.cps.size σ H → D.nx σ H)
    (hs : ∀ x, foldedSetIterable l X.env x = pure x := by intro _; rfl) : wS X (.For tg l body [] pos) D σ H := by
  refine lfor hp hc (pi_str sE) ⟨fun pins s I => thn (h.run pins s I) fun u s1 ⟨y, H1, I1, r, e, h0, ht, hd⟩ => ⟨y, H1, I1, r, x, e, ?_⟩⟩ hs
  refine ⟨fun i m σ H => m = x.cps.size - i ∧ i ≤ x.cps.size ∧ Pv i σ H, ⟨x.cps.size, by simp, Nat.zero_le _, h0⟩, ?_⟩
  rintro i m σ H ⟨rfl, hi, z⟩
  by_cases hlt : i < x.cps.size
  · refine .inr ⟨hlt, Pv (i + 1), fun σ' H' p' => ⟨x.cps.size - (i + 1), by omega, rfl, hlt, p'⟩, ?_⟩
    rintro v H' ⟨rfl, c, hx, rfl⟩
    exact ht i c σ _ hx z
  · have e : i = x.cps.size := by omega
    subst e
    exact .inl ⟨Nat.le_refl _, hd σ H z⟩
/-! ### for (x, y) in zip(a, b) -/
theorem lforZip (hm : X.mg "zip" = none) (hp : PassesOwn (model X.prog X.w) X.A X.env X.xe) (hc : X.calm = true) (hg : Gl X "zip")
    (h : wA X [e, e2] σ H fun vs H1 => ∃ (a b : Addr) (xs ys : List V), vs = [.ref a, .ref b] ∧ (SqL X.K H1 a xs ∧ SqL X.K H1 b ys ∧ xs.length = ys.length) ∧ ∃ Pv : Nat → Z.St → Hp → Prop, Pv 0 σ H1 ∧ (∀ i σ H, i ≤ xs.length → Pv i σ H → SqL X.K H a xs ∧ SqL X.K H b ys) ∧
      (∀ i x y σ H T H2, xs[i]? = some x → ys[i]? = some y → Pv i σ H → H T = none → Ex H H2 → H2 T = some (.tup [x, y]) → wG X (.Tuple elts kk tpos) (.ref T) σ H2 fun σ2 H2 => wB X body { D with nx := Pv (i + 1), ct := Pv (i + 1), bk := D.nx } σ2 H2) ∧ ∀ σ H, Pv xs.length σ H → D.nx σ H)
    (hs : ∀ x, foldedSetIterable (.Call (.Name "zip" p) [e, e2] [] pos2) X.env x = pure x := by intro _; rfl) (hsa : starEach [e, e2] X.env = (false, eval e X.env) :: starEach [e2] X.env := by rfl) (hpl : (backTo pos2 (starEach [e2] X.env)).any (·.1) = false := by rfl) : wS X (.For (.Tuple elts kk tpos) (.Call (.Name "zip" p) [e, e2] [] pos2) body [] pos) D σ H := by
  refine lfor hp hc (pi_zip hg hm sA hsa hpl) ⟨fun ps pins s I => thn (h.run ps pins s I) fun u s1 ⟨vs, H1, I1, r, a, b, xs, ys, ex, ⟨hx, hy, hl⟩, Pv, h0, hk, ht, hd⟩ => ⟨vs, H1, I1, r, a, b, xs, ys, ex, hx, hy, ?_⟩⟩ hs
  refine ⟨fun i m σ H => m = xs.length - i ∧ i ≤ xs.length ∧ Pv i σ H, ⟨xs.length, by simp, Nat.zero_le _, h0⟩, ?_⟩
  rintro i m σ H ⟨rfl, hi, z⟩
  obtain ⟨q1, q2⟩ := hk i σ H hi z
  by_cases hlt : i < xs.length
  · refine .inr ⟨⟨xs, ys, xs[i], ys[i]'(by omega), q1, q2, by simp [hlt], List.getElem?_eq_getElem _⟩, Pv (i + 1), fun σ' H' p' => ⟨xs.length - (i + 1), by omega, rfl, hlt, p'⟩, ?_⟩
    rintro v H' ⟨T, x, y, rfl, hT, rfl, hx', hy'⟩
    exact ht i x y σ H T _ (hx' xs q1) (hy' ys q2) z hT (Ex.new hT) upd_same
  · have e : i = xs.length := by omega
    subst e
    exact .inl ⟨⟨xs, ys, q1, q2, .inl (Nat.le_refl _)⟩, hd σ H z⟩
end
end Z

set_option maxRecDepth 100000
set_option maxHeartbeats 4000000
namespace K06
open PySem PySem.Spec PyProof.Rows L2 Z
open Evl (Ex)
/-! ### steps of the walk: one_sign: a heap grew into another; one_item: what stands at an address; one_place: a list or tuple to be read; leaf_len: arithmetic; tb_rel: one step; top_name: steps as far as they go -/
local macro_rules | `(tactic| got_up) => `(tactic| (refine Evl.Ex.trans (by assumption) ?_; first | assumption | exact Evl.Ex.refl _ | got_up))
local macro_rules | `(tactic| units_room) => `(tactic| (refine Evl.Ex.trans ?_ (by assumption); first | assumption | exact Evl.Ex.refl _ | units_room))
local macro_rules | `(tactic| one_sign) => `(tactic| first | assumption | exact Evl.Ex.refl _ | got_up | units_room)
local macro_rules | `(tactic| one_item) => `(tactic| first | assumption | exact upd_same | exact exa (by assumption) (by one_sign))
local macro_rules | `(tactic| one_place) => `(tactic| first | assumption | exact SqL.of (by assumption) | exact SqT.of (by assumption) | exact exl (by assumption) (by one_sign) | exact ext (by assumption) (by one_sign) | exact SqL.of (by one_item) | exact SqT.of (by one_item))
local macro_rules | `(tactic| leaf_len) => `(tactic| first | assumption | decide | omega)
local macro_rules | `(tactic| tb_rel) => `(tactic| first
  | ((with_reducible refine (?_ : wE _ _ _ _ _)); first
    | ((with_reducible refine (?_ : wE _ (.Name _ _) _ _ _)); first | refine zn (by rfl) (by first | exact Or.inl rfl | exact Or.inr (Or.inl rfl) | exact Or.inr (Or.inr rfl)) (by rfl) ?_ | refine zglob (by assumption) (by rfl) ?_ | refine zcls (by assumption) (by rfl) ?_ | refine zty (by assumption) (by first | exact bt_int | exact bt_bool | exact bt_str | exact bt_list | exact bt_tuple | exact bt_dict | exact bt_ValueError) (by rfl) ?_)
    | ((with_reducible refine (?_ : wE _ (.Attribute _ _ _) _ _ _)); refine zfld ?_)
    | ((with_reducible refine (?_ : wE _ (.Constant _ _ _) _ _ _)); first | refine zint ?_ | refine zstr ?_ | refine zbl ?_ | refine znon ?_)
    | ((with_reducible refine (?_ : wE _ (.BinOp _ _ _ _) _ _ _)); refine zbin ?_)
    | ((with_reducible refine (?_ : wE _ (.Compare _ _ _ _) _ _ _)); first | refine zcmp (by rfl) ?_ | refine zchain ?_)
    | ((with_reducible refine (?_ : wE _ (.Dict [] [] _) _ _ _)); refine zdnew (fun _ _ _ _ _ => ?_))
    | ((with_reducible refine (?_ : wE _ (.Subscript _ (.Slice _ _ _ _) _) _ _ _)); refine zsl ?_)
    | ((with_reducible refine (?_ : wE _ (.Subscript _ _ _) _ _ _)); refine zix ?_)
    | ((with_reducible refine (?_ : wE _ (.Call (.Name "list" _) [.Call (.Name "range" _) [_] [] _] [] _) _ _ _)); refine zlrg1 rfl (by rfl) (by assumption) (by rfl) (by assumption) ?_)
    | ((with_reducible refine (?_ : wE _ (.Call (.Name _ _) _ _ _) _ _ _)); first
      | ((with_reducible refine (?_ : wE _ (.Call (.Name "len" _) _ _ _) _ _ _)); refine zbfn (by assumption) bt_len (by rfl) ?_)
      | ((with_reducible refine (?_ : wE _ (.Call (.Name "isinstance" _) _ _ _) _ _ _)); refine zbfn (by assumption) bt_isi (by rfl) ?_)
      | ((with_reducible refine (?_ : wE _ (.Call (.Name "min" _) _ _ _) _ _ _)); refine zbfn (by assumption) bt_min (by rfl) ?_)
      | ((with_reducible refine (?_ : wE _ (.Call (.Name "max" _) _ _ _) _ _ _)); refine zbfn (by assumption) bt_max (by rfl) ?_)
      | ((with_reducible refine (?_ : wE _ (.Call (.Name "list" _) _ _ _) _ _ _)); refine zbty (by assumption) bt_list (by rfl) ?_)
      | ((with_reducible refine (?_ : wE _ (.Call (.Name "tuple" _) _ _ _) _ _ _)); refine zbty (by assumption) bt_tuple (by rfl) ?_)
      | ((with_reducible refine (?_ : wE _ (.Call (.Name "int" _) _ _ _) _ _ _)); refine zbty (by assumption) bt_int (by rfl) ?_)
      | ((with_reducible refine (?_ : wE _ (.Call (.Name "abs" _) _ _ _) _ _ _)); refine zbfn (by assumption) bt_abs (by rfl) ?_)
      | ((with_reducible refine (?_ : wE _ (.Call (.Name "all" _) _ _ _) _ _ _)); refine zbfn (by assumption) bt_all (by rfl) ?_)
      | ((with_reducible refine (?_ : wE _ (.Call (.Name "sum" _) _ _ _) _ _ _)); refine zbfn (by assumption) bt_sum (by rfl) ?_)
      | ((with_reducible refine (?_ : wE _ (.Call (.Name "divmod" _) _ _ _) _ _ _)); refine zbfn (by assumption) bt_divmod (by rfl) ?_)
      | ((with_reducible refine (?_ : wE _ (.Call (.Name "ord" _) _ _ _) _ _ _)); refine zbfn (by assumption) bt_ord (by rfl) ?_))
    | ((with_reducible refine (?_ : wE _ (.IfExp _ _ _ _) _ _ _)); refine zif ?_)
    | ((with_reducible refine (?_ : wE _ (.Tuple _ _ _) _ _ _)); refine ztup ?_)
    | ((with_reducible refine (?_ : wE _ (.List _ _) _ _ _)); refine zlst ?_)
    | ((with_reducible refine (?_ : wE _ (.UnaryOp _ _ _) _ _ _)); first | refine znotV ?_ | refine zneg ?_)
    | ((with_reducible refine (?_ : wE _ (.BoolOp _ _ _) _ _ _)); first | refine zandV ?_ | refine zorV ?_ | refine zoneV ?_))
  | ((with_reducible refine (?_ : bE _ _ _ _ _ _)); refine ⟨fun _ _ _ _ _ => ?_⟩) | ((with_reducible refine (?_ : bG _ _ _ _ _ _ _)); refine ⟨fun _ _ _ _ _ => ?_⟩) | ((with_reducible refine (?_ : bTs _ _ _ _ _ _)); refine ⟨fun _ _ _ _ _ => ?_⟩)
  | ((with_reducible refine (?_ : hE _ _ _ _ _ _)); refine ⟨fun _ _ _ _ _ => ?_⟩) | ((with_reducible refine (?_ : hG _ _ _ _ _ _ _)); refine ⟨fun _ _ _ _ _ => ?_⟩) | ((with_reducible refine (?_ : hTs _ _ _ _ _ _)); refine ⟨fun _ _ _ _ _ => ?_⟩)
  | ((with_reducible refine (?_ : wP _ _ _ _ _)); first | refine pnon ?_ | refine psom ?_) | ((with_reducible refine (?_ : wSl _ _ _ _ _ _)); first | refine slL (by one_place) (fun _ _ _ _ _ => ?_) | refine slS (by assumption) ?_)
  | ((with_reducible refine (?_ : wTs _ _ _ _ _)); first | refine tsnil ?_ | refine tsone ?_)
  | ((with_reducible refine (?_ : wA _ _ _ _ _)); first | refine acons ?_ | refine anil ?_)
  | ((with_reducible refine (?_ : wO _ _ _ _ _ _)); first
    | ((with_reducible refine (?_ : wO _ (binaryOp .Add) _ _ _ _)); first | refine oadd ?_ | refine ocatE (by one_item) (by one_item) (Nat.le_of_ble_eq_true rfl) (fun _ _ _ _ _ => ?_))
    | ((with_reducible refine (?_ : wO _ (binaryOp .Sub) _ _ _ _)); first | refine osub ?_)
    | ((with_reducible refine (?_ : wO _ (binaryOp .Mult) _ _ _ _)); first | refine omul (by first | exact IntMulOk.of_right (by decide) | exact IntMulOk.of_left (by decide) | exact IntMulOk.of_right (intBits_le_64 (by omega) (by omega)) | exact IntMulOk.of_left (intBits_le_64 (by omega) (by omega))) ?_)
    | ((with_reducible refine (?_ : wO _ (binaryOp .Mod) _ _ _ _)); first | refine omod (by first | decide | omega) ?_)
    | ((with_reducible refine (?_ : wO _ (binaryOp .FloorDiv) _ _ _ _)); first | refine ofdiv ⟨by first | decide | omega, by decide⟩ ?_)
    | ((with_reducible refine (?_ : wO _ (binaryOp .BitAnd) _ _ _ _)); first | refine oand ?_)
    | ((with_reducible refine (?_ : wO _ (binaryOp .BitOr) _ _ _ _)); first | refine oor ?_)
    | ((with_reducible refine (?_ : wO _ (compareOp .Lt) _ _ _ _)); first | refine olt ?_)
    | ((with_reducible refine (?_ : wO _ (compareOp .LtE) _ _ _ _)); first | refine ole ?_)
    | ((with_reducible refine (?_ : wO _ (compareOp .Gt) _ _ _ _)); first | refine ogt ?_)
    | ((with_reducible refine (?_ : wO _ (compareOp .GtE) _ _ _ _)); first | refine oge ?_)
    | ((with_reducible refine (?_ : wO _ (compareOp .Eq) _ _ _ _)); first | refine oeqi ?_ | refine oeqsT (by decide +kernel) ?_ | refine oeqsF (by decide +kernel) ?_ | refine oeq (by rfl) ?_)
    | ((with_reducible refine (?_ : wO _ (compareOp .NotEq) _ _ _ _)); first | refine onei ?_ | refine onesT (by decide +kernel) ?_ | refine onesF (by decide +kernel) ?_ | refine one (by rfl) ?_)
    | ((with_reducible refine (?_ : wO _ (compareOp .In) _ _ _ _)); first | refine oin ?_)
    | ((with_reducible refine (?_ : wO _ (compareOp .NotIn) _ _ _ _)); first | refine onin ?_)
    | ((with_reducible refine (?_ : wO _ (compareOp .Is) _ _ _ _)); first | refine ois ?_)
    | ((with_reducible refine (?_ : wO _ (compareOp .IsNot) _ _ _ _)); first | refine onot ?_)
    | ((with_reducible refine (?_ : wO _ (binaryOp .RShift) _ _ _ _)); refine oshr (by first | decide | omega) ?_)
    | ((with_reducible refine (?_ : wO _ (binaryOp .BitXor) _ _ _ _)); refine oxor ?_)
    | ((with_reducible refine (?_ : wO _ (inplaceOp .BitXor) _ _ _ _)); refine ixor ?_)
    | ((with_reducible refine (?_ : wO _ (inplaceOp .RShift) _ _ _ _)); refine ishr (by first | decide | omega) ?_)
    | ((with_reducible refine (?_ : wO _ (inplaceOp .BitOr) _ _ _ _)); first | refine ior ?_)
    | ((with_reducible refine (?_ : wO _ (inplaceOp .Add) _ _ _ _)); first | refine iadd ?_))
  | ((with_reducible refine (?_ : wT _ _ _ _ _)); first
    | ((with_reducible refine (?_ : wT _ (.Compare _ _ _ _) _ _ _)); first | refine zcmpT (by rfl) ?_ | refine zchainT ?_)
    | ((with_reducible refine (?_ : wT _ (.UnaryOp _ _ _) _ _ _)); refine znotT ?_)
    | ((with_reducible refine (?_ : wT _ (.BoolOp _ _ _) _ _ _)); refine zW ?_)
    | refine zval ?_)
  | ((with_reducible refine (?_ : wW _ _ _ _ _)); first | refine zand ?_ | refine zor ?_ | refine zand1 ?_ | refine zor1 ?_)
  | ((with_reducible refine (?_ : wK _ _ _ _ _)); first
    | ((with_reducible refine (?_ : wK _ (.builtin "len") _ _ _)); first | refine klenL (by one_place) ?_ | refine klenT (by one_place) ?_ | refine klenS (by assumption) ?_)
    | ((with_reducible refine (?_ : wK _ (.builtin "isinstance") _ _ _)); first | refine kisE (by assumption) (by assumption) (by first | assumption | exact Xd.exx (by assumption) (by one_sign)) (by first | exact .own _ | exact .ty _) (by assumption) ?_ | refine kisi (.ty _) (by assumption) (by assumption) ?_ | refine kisi (.ty _) (.base (by first | exact .int _ | exact .bl _ | exact .str _ | exact .non | exact .tup (by one_item) | exact .lst (by one_item))) (kit_ty (r := true) (by rfl)) ?_ | refine kisi (.ty _) (.base (by first | exact .int _ | exact .bl _ | exact .str _ | exact .non | exact .tup (by one_item) | exact .lst (by one_item))) (kit_ty (r := false) (by rfl)) ?_)
    | ((with_reducible refine (?_ : wK _ (.builtin "divmod") _ _ _)); refine kdivmod ⟨by first | decide | omega, by decide⟩ (fun _ _ _ _ _ => ?_))
    | ((with_reducible refine (?_ : wK _ (.builtin "min") _ _ _)); refine kmin (by rfl) ?_)
    | ((with_reducible refine (?_ : wK _ (.builtin "max") _ _ _)); refine kmax (by rfl) ?_)
    | ((with_reducible refine (?_ : wK _ (.type "list") _ _ _)); first | refine klistL (by one_place) (fun _ _ _ _ _ => ?_) | refine klistT (by one_place) (fun _ _ _ _ _ => ?_))
    | ((with_reducible refine (?_ : wK _ (.type "tuple") _ _ _)); first | refine ktupL (by one_place) (fun _ _ _ _ _ => ?_)))
  | ((with_reducible refine (?_ : wS _ _ _ _ _)); first
    | ((with_reducible refine (?_ : wS _ (.Assign [.Name _ _] _ _) _ _ _)); refine sset' (by assumption) (by rfl) (by first | exact Or.inl rfl | exact Or.inr rfl) (by rfl) (by first | exact .inl rfl | exact .inr rfl) ?_)
    | ((with_reducible refine (?_ : wS _ (.AugAssign (.Name _ _) _ _ _) _ _ _)); refine saug' (by assumption) (by rfl) (by first | exact Or.inl rfl | exact Or.inr rfl) (by first | exact .inl rfl | exact .inr rfl) (by rfl) ?_)
    | ((with_reducible refine (?_ : wS _ (.Assign [.Attribute _ _ _] _ _) _ _ _)); refine sfld ?_)
    | ((with_reducible refine (?_ : wS _ (.Expr _ _) _ _ _)); refine sexp ?_)
    | ((with_reducible refine (?_ : wS _ (.Assign [.Tuple _ _ _] _ _) _ _ _)); refine sasg ?_) | ((with_reducible refine (?_ : wS _ (.Assign [.Subscript _ _ _] _ _) _ _ _)); refine sasg ?_)
    | refine sret ?_ | refine sif ?_ | refine sretN ?_ | refine spass ?_ | refine sbrk ?_ | refine scont ?_)
  | ((with_reducible refine (?_ : wG _ (.Name _ _) _ _ _ _)); refine gname' (by assumption) (by rfl) (by first | exact Or.inl rfl | exact Or.inr rfl) (by first | exact .inl rfl | exact .inr rfl) ?_)
  | ((with_reducible refine (?_ : wG _ (.Tuple _ _ _) _ _ _ _)); refine gtup rfl (by one_place) rfl ?_) | ((with_reducible refine (?_ : wG _ (.Subscript _ _ _) _ _ _ _)); refine gsub ?_)
  | ((with_reducible refine (?_ : wGs _ _ _ _ _ _)); first | refine gscons ?_ | refine gsnil ?_)
  | ((with_reducible refine (?_ : wB _ _ _ _ _)); first | refine bcons ?_ | refine bnil ?_)
  | refine ifT ?_ | refine ifF ?_ | refine ifd (fun _ => ?_) (fun _ => ?_) | refine ifnd (fun _ => ?_) (fun _ => ?_) | refine ⟨_, rfl, ?_⟩ | refine ⟨rfl, Evl.Ex.refl _, ?_⟩ | refine ⟨_, _, _, _, _, rfl, by one_item, by assumption, by assumption, by rfl, ?_⟩ | refine ⟨Nat.le_of_ble_eq_true rfl, fun _ _ _ _ _ => ?_⟩ | fail)
local macro_rules | `(tactic| top_name) => `(tactic| repeat' tb_rel)
local macro_rules | `(tactic| nest_fact) => `(tactic| first | exact ⟨(decide_eq_true (by omega)).symm, rfl⟩ | exact ⟨(decide_eq_false (by omega)).symm, rfl⟩ | exact ⟨decide_eq_decide.mpr (by omega), rfl⟩ | fail)
variable {P : Program} {w : World} {K : PySem.W.Frag} {mg : Str → Option Value} {base : Heap}
/-! ### a cell of the script, a cell mixed -/
def cellAt (ns : List Int) (k : Int) : Int := if k < (ns.length : Int) then (ns[k.toNat]?).getD 0 else 0
def sp_cell_at (K : PySem.W.Frag) : Sp := fun vs H Q _ => ∃ (a : Addr) (ns : List Int) (k : Int), vs = [.ref a, .int k] ∧ SqL K H a (ns.map V.int) ∧ 0 ≤ k ∧ Q (.int (cellAt ns k)) H
theorem atI_map {ns : List Int} {k : Int} (h0 : 0 ≤ k) (h : k < (ns.length : Int)) : atI (ns.map V.int) k = some (.int (cellAt ns k)) := by
  have e : k = ((k.toNat : Nat) : Int) := by omega
  have hl : k.toNat < ns.length := by omega
  rw [e]
  refine atI_nat ?_
  unfold cellAt
  rw [if_pos (by omega), List.getElem?_map, Int.toNat_natCast, List.getElem?_eq_getElem hl]
  rfl
theorem ok_cell_at (T : Txt K mg) : Gf P w K mg base 1 "_law_cell_at" [] (sp_cell_at K) := by
  refine gf_mk T.f__law_cell_at T.m__law_cell_at (fun _ _ _ _ _ _ us hl => match us, hl with | [_, _], _ => rfl) fun fd F => fn_mk F sc__law_cell_at (fun vs H Q E h => ?_) fun cd A outer s H vs Q E hr tk po h => ?_
  · obtain ⟨a, ns, k, rfl, _⟩ := h; rfl
  · obtain ⟨a, ns, k, rfl, hs, h0, q⟩ := h
    have n1 := T.n_len
    top_name
    · rename_i hk
      rw [List.length_map] at hk
      exact ixL hs (atI_map h0 hk) q
    · rename_i hk
      rw [List.length_map] at hk
      unfold cellAt at q
      rw [if_neg hk] at q
      exact q

/-- a cell mixed -/
def mixed (c k : Int) : Int := (c + 7919 * k + 1) ^ 3 * 48271 % 2147483647
theorem mixed_lo (c k : Int) : 0 ≤ mixed c k := Int.emod_nonneg _ (by decide)
theorem mixed_hi (c k : Int) : mixed c k < 2147483647 := Int.emod_lt_of_pos _ (by decide)
/-- at most so many bits -/
def Fits (n : Nat) (c : Int) : Prop := c.natAbs < 2 ^ n
theorem bits_of_int {c : Int} {n : Nat} (h : Builtin.Int.intBits c ≤ n) : Fits n c := by
  unfold Builtin.Int.intBits at h
  unfold Fits
  by_cases e : c = 0
  · rw [e]; exact Nat.two_pow_pos n
  · have e2 : (c == 0) = false := by simpa using e
    rw [e2] at h
    simp only [Bool.false_eq_true, if_false] at h
    exact Nat.lt_of_lt_of_le (Nat.lt_log2_self (n := c.natAbs)) (Nat.pow_le_pow_right (by decide) h)
theorem Fits.mono {a b : Nat} {c : Int} (h : Fits a c) (hab : a ≤ b) : Fits b c := Nat.lt_of_lt_of_le h (Nat.pow_le_pow_right (by decide) hab)
theorem Fits.add {a : Nat} {c e : Int} (h : Fits a c) (g : Fits a e) : Fits (a + 1) (c + e) := by
  unfold Fits at *
  rw [Nat.pow_succ]
  omega
theorem Fits.small {c : Int} (h0 : -(2 ^ 62) < c) (h1 : c < 2 ^ 62) : Fits 62 c := by unfold Fits; omega
def sp_mixed : Sp := fun vs H Q _ => ∃ c k : Int, vs = [.int c, .int k] ∧ Fits 1048600 c ∧ -100000 ≤ k ∧ k < 100000 ∧ Q (.int (mixed c k)) H
theorem ok_mixed (T : Txt K mg) : Gf P w K mg base 1 "_law_mixed" [] sp_mixed := by
  refine gf_mk T.f__law_mixed T.m__law_mixed (fun _ _ _ _ _ _ us hl => match us, hl with | [_, _], _ => rfl) fun fd F => fn_mk F sc__law_mixed (fun vs H Q E h => ?_) fun cd A outer s H vs Q E hr tk po h => ?_
  · obtain ⟨c, k, rfl, _⟩ := h; rfl
  · obtain ⟨c, k, rfl, hc, h0, h1, q⟩ := h
    have hb : Fits 1048602 (c + 7919 * k + 1) := ((hc.add ((Fits.small (c := 7919 * k) (by omega) (by omega)).mono (by decide))).add ((Fits.small (c := 1) (by omega) (by omega)).mono (by decide)))
    top_name
    refine opow (by decide) ?_ ?_
    · have := intBits_le hb
      omega
    · top_name
      exact q
end K06

set_option maxRecDepth 100000
set_option maxHeartbeats 4000000
namespace K06
open PySem PySem.Spec PyProof.Rows L2 Z
open Evl (Ex)
inductive MixP : List V → Hp → VK → Prop
  | fits {c k : Int} {H : Hp} {Q : VK} (hf : Fits 1048600 c) (h2 : -100000 ≤ k) (h3 : k < 100000) (q : Q (.int (mixed c k)) H) : MixP [.int c, .int k] H Q
  | mk {c k : Int} {H : Hp} {Q : VK} (h0 : 0 ≤ c) (h1 : c < 2147483647) (h2 : -100000 ≤ k) (h3 : k < 100000) (q : Q (.int (mixed c k)) H) : MixP [.int c, .int k] H Q
theorem zmixed {X : Cx} {σ : Z.St} {H : Hp} {e1 : Expr} {es : List Expr} {p pos : Pos} {Q : VK} {j : Nat} (T : Txt X.K X.mg) (hr : Room (j + 1) X.A) (hg : Gl X "_law_mixed") (h : wA X (e1 :: es) σ H fun vs H1 => MixP vs H1 Q)
    (he : starEach (e1 :: es) X.env = (false, eval e1 X.env) :: starEach es X.env := by rfl) (hpl : (backTo pos (starEach es X.env)).any (·.1) = false := by rfl) : wE X (.Call (.Name "_law_mixed" p) (e1 :: es) [] pos) σ H Q :=
  zcall (ok_mixed T) hr (Nat.succ_le_succ (Nat.zero_le _)) takesF hg ⟨fun ps pins s I => thn (h.run ps pins s I) fun us s' ⟨vs, H1, J, r, q⟩ => ⟨vs, H1, J, r, by
    cases q with
    | fits hf h2 h3 q => exact ⟨_, _, rfl, hf, h2, h3, q⟩
    | mk h0 h1 h2 h3 q => exact ⟨_, _, rfl, (Fits.small (by omega) (by omega)).mono (by decide), h2, h3, q⟩⟩⟩ (by decide) he hpl
theorem cellAt_fits {ns : List Int} (h : ∀ z ∈ ns, Builtin.Int.intBits z ≤ 1048576) (k : Int) : Fits 1048600 (cellAt ns k) := by
  unfold cellAt
  split
  · cases e : ns[k.toNat]? with
    | none => exact (Fits.small (c := 0) (by decide) (by decide)).mono (by decide)
    | some z => exact (bits_of_int (h z (List.mem_of_getElem? e))).mono (by decide)
  · exact (Fits.small (c := 0) (by decide) (by decide)).mono (by decide)
end K06

set_option maxRecDepth 100000
set_option maxHeartbeats 4000000
namespace K06
open PySem PySem.Spec PyProof.Rows L2 Z
open Evl (Ex)
/-! ### steps of the walk: one_sign: a heap grew into another; one_item: what stands at an address; one_place: a list or tuple to be read; leaf_len: arithmetic; tb_rel: one step; top_name: steps as far as they go -/
local macro_rules | `(tactic| got_up) => `(tactic| (refine Evl.Ex.trans (by assumption) ?_; first | assumption | exact Evl.Ex.refl _ | got_up))
local macro_rules | `(tactic| units_room) => `(tactic| (refine Evl.Ex.trans ?_ (by assumption); first | assumption | exact Evl.Ex.refl _ | units_room))
local macro_rules | `(tactic| one_sign) => `(tactic| first | assumption | exact Evl.Ex.refl _ | got_up | units_room)
local macro_rules | `(tactic| one_item) => `(tactic| first | assumption | exact upd_same | exact exa (by assumption) (by one_sign))
local macro_rules | `(tactic| one_place) => `(tactic| first | assumption | exact SqL.of (by assumption) | exact SqT.of (by assumption) | exact exl (by assumption) (by one_sign) | exact ext (by assumption) (by one_sign) | exact SqL.of (by one_item) | exact SqT.of (by one_item))
local macro_rules | `(tactic| leaf_len) => `(tactic| first | assumption | decide | omega)
local macro_rules | `(tactic| tb_rel) => `(tactic| first
  | ((with_reducible refine (?_ : wE _ _ _ _ _)); first
    | ((with_reducible refine (?_ : wE _ (.Name _ _) _ _ _)); first | refine zn (by rfl) (by first | exact Or.inl rfl | exact Or.inr (Or.inl rfl) | exact Or.inr (Or.inr rfl)) (by rfl) ?_ | refine zglob (by assumption) (by rfl) ?_ | refine zcls (by assumption) (by rfl) ?_ | refine zty (by assumption) (by first | exact bt_int | exact bt_bool | exact bt_str | exact bt_list | exact bt_tuple | exact bt_dict | exact bt_ValueError) (by rfl) ?_)
    | ((with_reducible refine (?_ : wE _ (.Attribute _ _ _) _ _ _)); refine zfld ?_)
    | ((with_reducible refine (?_ : wE _ (.Constant _ _ _) _ _ _)); first | refine zint ?_ | refine zstr ?_ | refine zbl ?_ | refine znon ?_)
    | ((with_reducible refine (?_ : wE _ (.BinOp _ _ _ _) _ _ _)); refine zbin ?_)
    | ((with_reducible refine (?_ : wE _ (.Compare _ _ _ _) _ _ _)); first | refine zcmp (by rfl) ?_ | refine zchain ?_)
    | ((with_reducible refine (?_ : wE _ (.Dict [] [] _) _ _ _)); refine zdnew (fun _ _ _ _ _ => ?_))
    | ((with_reducible refine (?_ : wE _ (.Subscript _ (.Slice _ _ _ _) _) _ _ _)); refine zsl ?_)
    | ((with_reducible refine (?_ : wE _ (.Subscript _ _ _) _ _ _)); refine zix ?_)
    | ((with_reducible refine (?_ : wE _ (.Call (.Name "list" _) [.Call (.Name "range" _) [_] [] _] [] _) _ _ _)); refine zlrg1 rfl (by rfl) (by assumption) (by rfl) (by assumption) ?_)
    | ((with_reducible refine (?_ : wE _ (.Call (.Name _ _) _ _ _) _ _ _)); first
      | ((with_reducible refine (?_ : wE _ (.Call (.Name "len" _) _ _ _) _ _ _)); refine zbfn (by assumption) bt_len (by rfl) ?_)
      | ((with_reducible refine (?_ : wE _ (.Call (.Name "isinstance" _) _ _ _) _ _ _)); refine zbfn (by assumption) bt_isi (by rfl) ?_)
      | ((with_reducible refine (?_ : wE _ (.Call (.Name "min" _) _ _ _) _ _ _)); refine zbfn (by assumption) bt_min (by rfl) ?_)
      | ((with_reducible refine (?_ : wE _ (.Call (.Name "max" _) _ _ _) _ _ _)); refine zbfn (by assumption) bt_max (by rfl) ?_)
      | ((with_reducible refine (?_ : wE _ (.Call (.Name "list" _) _ _ _) _ _ _)); refine zbty (by assumption) bt_list (by rfl) ?_)
      | ((with_reducible refine (?_ : wE _ (.Call (.Name "tuple" _) _ _ _) _ _ _)); refine zbty (by assumption) bt_tuple (by rfl) ?_)
      | ((with_reducible refine (?_ : wE _ (.Call (.Name "int" _) _ _ _) _ _ _)); refine zbty (by assumption) bt_int (by rfl) ?_)
      | ((with_reducible refine (?_ : wE _ (.Call (.Name "abs" _) _ _ _) _ _ _)); refine zbfn (by assumption) bt_abs (by rfl) ?_)
      | ((with_reducible refine (?_ : wE _ (.Call (.Name "all" _) _ _ _) _ _ _)); refine zbfn (by assumption) bt_all (by rfl) ?_)
      | ((with_reducible refine (?_ : wE _ (.Call (.Name "sum" _) _ _ _) _ _ _)); refine zbfn (by assumption) bt_sum (by rfl) ?_)
      | ((with_reducible refine (?_ : wE _ (.Call (.Name "divmod" _) _ _ _) _ _ _)); refine zbfn (by assumption) bt_divmod (by rfl) ?_)
      | ((with_reducible refine (?_ : wE _ (.Call (.Name "ord" _) _ _ _) _ _ _)); refine zbfn (by assumption) bt_ord (by rfl) ?_))
    | ((with_reducible refine (?_ : wE _ (.IfExp _ _ _ _) _ _ _)); refine zif ?_)
    | ((with_reducible refine (?_ : wE _ (.Tuple _ _ _) _ _ _)); refine ztup ?_)
    | ((with_reducible refine (?_ : wE _ (.List _ _) _ _ _)); refine zlst ?_)
    | ((with_reducible refine (?_ : wE _ (.UnaryOp _ _ _) _ _ _)); first | refine znotV ?_ | refine zneg ?_)
    | ((with_reducible refine (?_ : wE _ (.BoolOp _ _ _) _ _ _)); first | refine zandV ?_ | refine zorV ?_ | refine zoneV ?_))
  | ((with_reducible refine (?_ : bE _ _ _ _ _ _)); refine ⟨fun _ _ _ _ _ => ?_⟩) | ((with_reducible refine (?_ : bG _ _ _ _ _ _ _)); refine ⟨fun _ _ _ _ _ => ?_⟩) | ((with_reducible refine (?_ : bTs _ _ _ _ _ _)); refine ⟨fun _ _ _ _ _ => ?_⟩)
  | ((with_reducible refine (?_ : hE _ _ _ _ _ _)); refine ⟨fun _ _ _ _ _ => ?_⟩) | ((with_reducible refine (?_ : hG _ _ _ _ _ _ _)); refine ⟨fun _ _ _ _ _ => ?_⟩) | ((with_reducible refine (?_ : hTs _ _ _ _ _ _)); refine ⟨fun _ _ _ _ _ => ?_⟩)
  | ((with_reducible refine (?_ : wP _ _ _ _ _)); first | refine pnon ?_ | refine psom ?_) | ((with_reducible refine (?_ : wSl _ _ _ _ _ _)); first | refine slL (by one_place) (fun _ _ _ _ _ => ?_) | refine slS (by assumption) ?_)
  | ((with_reducible refine (?_ : wTs _ _ _ _ _)); first | refine tsnil ?_ | refine tsone ?_)
  | ((with_reducible refine (?_ : wA _ _ _ _ _)); first | refine acons ?_ | refine anil ?_)
  | ((with_reducible refine (?_ : wO _ _ _ _ _ _)); first
    | ((with_reducible refine (?_ : wO _ (binaryOp .Add) _ _ _ _)); first | refine oadd ?_ | refine ocatE (by one_item) (by one_item) (Nat.le_of_ble_eq_true rfl) (fun _ _ _ _ _ => ?_))
    | ((with_reducible refine (?_ : wO _ (binaryOp .Sub) _ _ _ _)); first | refine osub ?_)
    | ((with_reducible refine (?_ : wO _ (binaryOp .Mult) _ _ _ _)); first | refine omul (by first | exact IntMulOk.of_right (by decide) | exact IntMulOk.of_left (by decide) | exact IntMulOk.of_right (intBits_le_64 (by omega) (by omega)) | exact IntMulOk.of_left (intBits_le_64 (by omega) (by omega))) ?_)
    | ((with_reducible refine (?_ : wO _ (binaryOp .Mod) _ _ _ _)); first | refine omod (by first | decide | omega) ?_)
    | ((with_reducible refine (?_ : wO _ (binaryOp .FloorDiv) _ _ _ _)); first | refine ofdiv ⟨by first | decide | omega, by decide⟩ ?_)
    | ((with_reducible refine (?_ : wO _ (binaryOp .BitAnd) _ _ _ _)); first | refine oand ?_)
    | ((with_reducible refine (?_ : wO _ (binaryOp .BitOr) _ _ _ _)); first | refine oor ?_)
    | ((with_reducible refine (?_ : wO _ (compareOp .Lt) _ _ _ _)); first | refine olt ?_)
    | ((with_reducible refine (?_ : wO _ (compareOp .LtE) _ _ _ _)); first | refine ole ?_)
    | ((with_reducible refine (?_ : wO _ (compareOp .Gt) _ _ _ _)); first | refine ogt ?_)
    | ((with_reducible refine (?_ : wO _ (compareOp .GtE) _ _ _ _)); first | refine oge ?_)
    | ((with_reducible refine (?_ : wO _ (compareOp .Eq) _ _ _ _)); first | refine oeqi ?_ | refine oeqsT (by decide +kernel) ?_ | refine oeqsF (by decide +kernel) ?_ | refine oeq (by rfl) ?_)
    | ((with_reducible refine (?_ : wO _ (compareOp .NotEq) _ _ _ _)); first | refine onei ?_ | refine onesT (by decide +kernel) ?_ | refine onesF (by decide +kernel) ?_ | refine one (by rfl) ?_)
    | ((with_reducible refine (?_ : wO _ (compareOp .In) _ _ _ _)); first | refine oin ?_)
    | ((with_reducible refine (?_ : wO _ (compareOp .NotIn) _ _ _ _)); first | refine onin ?_)
    | ((with_reducible refine (?_ : wO _ (compareOp .Is) _ _ _ _)); first | refine ois ?_)
    | ((with_reducible refine (?_ : wO _ (compareOp .IsNot) _ _ _ _)); first | refine onot ?_)
    | ((with_reducible refine (?_ : wO _ (binaryOp .RShift) _ _ _ _)); refine oshr (by first | decide | omega) ?_)
    | ((with_reducible refine (?_ : wO _ (binaryOp .BitXor) _ _ _ _)); refine oxor ?_)
    | ((with_reducible refine (?_ : wO _ (inplaceOp .BitXor) _ _ _ _)); refine ixor ?_)
    | ((with_reducible refine (?_ : wO _ (inplaceOp .RShift) _ _ _ _)); refine ishr (by first | decide | omega) ?_)
    | ((with_reducible refine (?_ : wO _ (inplaceOp .BitOr) _ _ _ _)); first | refine ior ?_)
    | ((with_reducible refine (?_ : wO _ (inplaceOp .Add) _ _ _ _)); first | refine iadd ?_))
  | ((with_reducible refine (?_ : wT _ _ _ _ _)); first
    | ((with_reducible refine (?_ : wT _ (.Compare _ _ _ _) _ _ _)); first | refine zcmpT (by rfl) ?_ | refine zchainT ?_)
    | ((with_reducible refine (?_ : wT _ (.UnaryOp _ _ _) _ _ _)); refine znotT ?_)
    | ((with_reducible refine (?_ : wT _ (.BoolOp _ _ _) _ _ _)); refine zW ?_)
    | refine zval ?_)
  | ((with_reducible refine (?_ : wW _ _ _ _ _)); first | refine zand ?_ | refine zor ?_ | refine zand1 ?_ | refine zor1 ?_)
  | ((with_reducible refine (?_ : wK _ _ _ _ _)); first
    | ((with_reducible refine (?_ : wK _ (.builtin "len") _ _ _)); first | refine klenL (by one_place) ?_ | refine klenT (by one_place) ?_ | refine klenS (by assumption) ?_)
    | ((with_reducible refine (?_ : wK _ (.builtin "isinstance") _ _ _)); first | refine kisE (by assumption) (by assumption) (by first | assumption | exact Xd.exx (by assumption) (by one_sign)) (by first | exact .own _ | exact .ty _) (by assumption) ?_ | refine kisi (.ty _) (by assumption) (by assumption) ?_ | refine kisi (.ty _) (.base (by first | exact .int _ | exact .bl _ | exact .str _ | exact .non | exact .tup (by one_item) | exact .lst (by one_item))) (kit_ty (r := true) (by rfl)) ?_ | refine kisi (.ty _) (.base (by first | exact .int _ | exact .bl _ | exact .str _ | exact .non | exact .tup (by one_item) | exact .lst (by one_item))) (kit_ty (r := false) (by rfl)) ?_)
    | ((with_reducible refine (?_ : wK _ (.builtin "divmod") _ _ _)); refine kdivmod ⟨by first | decide | omega, by decide⟩ (fun _ _ _ _ _ => ?_))
    | ((with_reducible refine (?_ : wK _ (.builtin "min") _ _ _)); refine kmin (by rfl) ?_)
    | ((with_reducible refine (?_ : wK _ (.builtin "max") _ _ _)); refine kmax (by rfl) ?_)
    | ((with_reducible refine (?_ : wK _ (.type "list") _ _ _)); first | refine klistL (by one_place) (fun _ _ _ _ _ => ?_) | refine klistT (by one_place) (fun _ _ _ _ _ => ?_))
    | ((with_reducible refine (?_ : wK _ (.type "tuple") _ _ _)); first | refine ktupL (by one_place) (fun _ _ _ _ _ => ?_)))
  | ((with_reducible refine (?_ : wS _ _ _ _ _)); first
    | ((with_reducible refine (?_ : wS _ (.Assign [.Name _ _] _ _) _ _ _)); refine sset' (by assumption) (by rfl) (by first | exact Or.inl rfl | exact Or.inr rfl) (by rfl) (by first | exact .inl rfl | exact .inr rfl) ?_)
    | ((with_reducible refine (?_ : wS _ (.AugAssign (.Name _ _) _ _ _) _ _ _)); refine saug' (by assumption) (by rfl) (by first | exact Or.inl rfl | exact Or.inr rfl) (by first | exact .inl rfl | exact .inr rfl) (by rfl) ?_)
    | ((with_reducible refine (?_ : wS _ (.Assign [.Attribute _ _ _] _ _) _ _ _)); refine sfld ?_)
    | ((with_reducible refine (?_ : wS _ (.Expr _ _) _ _ _)); refine sexp ?_)
    | ((with_reducible refine (?_ : wS _ (.Assign [.Tuple _ _ _] _ _) _ _ _)); refine sasg ?_) | ((with_reducible refine (?_ : wS _ (.Assign [.Subscript _ _ _] _ _) _ _ _)); refine sasg ?_)
    | refine sret ?_ | refine sif ?_ | refine sretN ?_ | refine spass ?_ | refine sbrk ?_ | refine scont ?_)
  | ((with_reducible refine (?_ : wG _ (.Name _ _) _ _ _ _)); refine gname' (by assumption) (by rfl) (by first | exact Or.inl rfl | exact Or.inr rfl) (by first | exact .inl rfl | exact .inr rfl) ?_)
  | ((with_reducible refine (?_ : wG _ (.Tuple _ _ _) _ _ _ _)); refine gtup rfl (by one_place) rfl ?_) | ((with_reducible refine (?_ : wG _ (.Subscript _ _ _) _ _ _ _)); refine gsub ?_)
  | ((with_reducible refine (?_ : wGs _ _ _ _ _ _)); first | refine gscons ?_ | refine gsnil ?_)
  | ((with_reducible refine (?_ : wB _ _ _ _ _)); first | refine bcons ?_ | refine bnil ?_)
  | refine ifT ?_ | refine ifF ?_ | refine ifd (fun _ => ?_) (fun _ => ?_) | refine ifnd (fun _ => ?_) (fun _ => ?_) | refine ⟨_, rfl, ?_⟩ | refine ⟨rfl, Evl.Ex.refl _, ?_⟩ | refine ⟨_, _, _, _, _, rfl, by one_item, by assumption, by assumption, by rfl, ?_⟩ | refine ⟨Nat.le_of_ble_eq_true rfl, fun _ _ _ _ _ => ?_⟩ | fail)
local macro_rules | `(tactic| top_name) => `(tactic| repeat' tb_rel)
local macro_rules | `(tactic| nest_fact) => `(tactic| first | exact ⟨(decide_eq_true (by omega)).symm, rfl⟩ | exact ⟨(decide_eq_false (by omega)).symm, rfl⟩ | exact ⟨decide_eq_decide.mpr (by omega), rfl⟩ | fail)
variable {P : Program} {w : World} {K : PySem.W.Frag} {mg : Str → Option Value} {base : Heap}
/-! ### the word of a refusal -/
/-- which of the ten classes an exception of the class at C is of; it is a ValueError -/
structure KinW (K : PySem.W.Frag) (C : Addr) (b : Nat → Bool) : Prop where
  x : XcC K C
  b0 : PySem.W.kitOne K (.ref C) (.ref (He.ga K "BadNumber")) = some (b 0)
  b1 : PySem.W.kitOne K (.ref C) (.ref (He.ga K "BadRow")) = some (b 1)
  b2 : PySem.W.kitOne K (.ref C) (.ref (He.ga K "BadBook")) = some (b 2)
  b3 : PySem.W.kitOne K (.ref C) (.ref (He.ga K "BadValue")) = some (b 3)
  b4 : PySem.W.kitOne K (.ref C) (.ref (He.ga K "BadText")) = some (b 4)
  b5 : PySem.W.kitOne K (.ref C) (.ref (He.ga K "BadWire")) = some (b 5)
  b6 : PySem.W.kitOne K (.ref C) (.ref (He.ga K "BadCheck")) = some (b 6)
  b7 : PySem.W.kitOne K (.ref C) (.ref (He.ga K "NotKin")) = some (b 7)
  b8 : PySem.W.kitOne K (.ref C) (.ref (He.ga K "NoKey")) = some (b 8)
  b9 : PySem.W.kitOne K (.ref C) (.ref (He.ga K "BadVersion")) = some (b 9)
  ve : PySem.W.kitOne K (.ref C) (.type "ValueError") = some true
def theWords : List Str := ["number", "row", "book", "value", "text", "wire", "check", "kin", "key", "version"]
/-- the class at place j alone -/
def only (j : Nat) : Nat → Bool := fun i => decide (i = j)
theorem kept_only {j : Nat} {x : Str} (h : theWords[j]? = some x) : kept (theWords.zip ((List.range 10).map (only j))) = [.str x] := by
  have hl : j < 10 := (List.getElem?_eq_some_iff.mp h).1
  have : j = 0 ∨ j = 1 ∨ j = 2 ∨ j = 3 ∨ j = 4 ∨ j = 5 ∨ j = 6 ∨ j = 7 ∨ j = 8 ∨ j = 9 := by omega
  rcases this with rfl | rfl | rfl | rfl | rfl | rfl | rfl | rfl | rfl | rfl <;> (cases h; rfl)
def sp_word (K : PySem.W.Frag) : SpE := fun cls d a vs H Q => ∃ (C : Addr) (j : Nat) (x : Str), vs = [.ref a] ∧ cls = .ref C ∧ Xd d H ∧ KinW K C (only j) ∧ theWords[j]? = some x ∧ ∀ H', Ex H H' → Q (.str x) H'
theorem ok_word (T : Txt K mg) : Ge P w K mg base 1 "_law_word" (sp_word K) := by
  refine ge_mk T.f__law_word T.m__law_word (fun _ _ _ _ _ _ us hl => match us, hl with | [_], _ => rfl) fun fd F => fnE_of F sc__law_word (fun cls d a vs H Q h => ?_) fun cd A outer s H vs Q p cls d hx hr h => ?_
  · obtain ⟨C, j, x, rfl, _⟩ := h; rfl
  · obtain ⟨C, j, x, rfl, rfl, hd, ⟨kx, k0, k1, k2, k3, k4, k5, k6, k7, k8, k9, kv⟩, hj, q⟩ := h
    have n1 := T.n_isinstance
    have n2 := T.n_len
    have n3 := T.n_ValueError
    have m0 := T.m_BadNumber
    have m1 := T.m_BadRow
    have m2 := T.m_BadBook
    have m3 := T.m_BadValue
    have m4 := T.m_BadText
    have m5 := T.m_BadWire
    have m6 := T.m_BadCheck
    have m7 := T.m_NotKin
    have m8 := T.m_NoKey
    have m9 := T.m_BadVersion
    have nd := sc__law_word.nd
    top_name
    rename_i _ Hc _ _ hL
    have kE : Ex H Hc := by one_sign
    obtain ⟨xs, hL, TT⟩ : ∃ xs, Hc _ = some (.lst xs) ∧ TupsAt Hc xs (theWords.zip ((List.range 10).map (only j))) := ⟨_, hL, .cons (by one_item) (.cons (by one_item) (.cons (by one_item) (.cons (by one_item) (.cons (by one_item) (.cons (by one_item) (.cons (by one_item) (.cons (by one_item) (.cons (by one_item) (.cons (by one_item) .nil)))))))))⟩
    refine (slcA (i := 2) (y := "_law_found") (xs := xs) hx nd rfl rfl [("_law_word_here", 3), ("_law_good", 4)] (blkOk_by (N := N__law_word) (sc := defScope s__law_word) (by decide +kernel)) (sw_true rfl rfl rfl (by decide +kernel)) (fun i => kept ((theWords.zip ((List.range 10).map (only j))).take i)) rfl ?_)
    top_name
    refine ⟨SqL.of hL, fun i v H1 hv e1 => ?_, fun L H1 hL0 e1 hk => ?_⟩
    · obtain ⟨t, pr, rfl, hp, ht⟩ := TupsAt.get TT hv
      top_name
      refine gtupH (q := p) (cls := .ref C) (dd := d) ⟨hx.hot, hx.mem, hx.zn, hx.fl⟩ (SqT.of (e1 _ _ ht)) rfl ?_
      top_name
      have ks := kept_succ hp
      refine ifb (fun hb => ?_) (fun hb => ?_)
      · rw [if_pos hb] at ks
        top_name
        refine ⟨ks, Nat.lt_of_le_of_lt (m := 10) ?_ (by decide), Evl.Ex.refl _⟩
        unfold kept
        rw [List.length_map]
        refine Nat.le_trans (List.length_filter_le ..) (Nat.le_trans (List.length_take_le ..) ?_)
        exact Nat.le_of_lt (List.getElem?_eq_some_iff.mp hp).1
      · rw [if_neg (by rw [hb]; exact Bool.false_ne_true), List.append_nil] at ks
        exact ⟨ks, Evl.Ex.refl _⟩
    · have hl : xs.length = 10 := TT.length
      rw [hl, List.take_of_length_le (Nat.le_of_eq (by simp [theWords])), kept_only hj] at hk
      have e2 : Ex H H1 := by one_sign
      top_name
      refine ixL (SqL.of hk) rfl ?_
      exact q _ e2
end K06

set_option maxRecDepth 100000
set_option maxHeartbeats 4000000
namespace K06
open PySem PySem.Spec PyProof.Rows L2 Z
open Evl (Ex)
variable {P : Program} {w : World} {K : PySem.W.Frag} {mg : Str → Option Value} {base : Heap}
/-! ### steps of the walk: one_sign: a heap grew into another; one_item: what stands at an address; one_place: a list or tuple to be read; leaf_len: arithmetic; tb_rel: one step; top_name: steps as far as they go -/
local macro_rules | `(tactic| got_up) => `(tactic| (refine Evl.Ex.trans (by assumption) ?_; first | assumption | exact Evl.Ex.refl _ | got_up))
local macro_rules | `(tactic| units_room) => `(tactic| (refine Evl.Ex.trans ?_ (by assumption); first | assumption | exact Evl.Ex.refl _ | units_room))
local macro_rules | `(tactic| one_sign) => `(tactic| first | assumption | exact Evl.Ex.refl _ | got_up | units_room)
local macro_rules | `(tactic| one_item) => `(tactic| first | assumption | exact upd_same | exact exa (by assumption) (by one_sign))
local macro_rules | `(tactic| one_place) => `(tactic| first | assumption | exact SqL.of (by assumption) | exact SqT.of (by assumption) | exact exl (by assumption) (by one_sign) | exact ext (by assumption) (by one_sign) | exact SqL.of (by one_item) | exact SqT.of (by one_item))
local macro_rules | `(tactic| leaf_len) => `(tactic| first | assumption | decide | omega)
local macro_rules | `(tactic| tb_rel) => `(tactic| first
  | ((with_reducible refine (?_ : wE _ _ _ _ _)); first
    | ((with_reducible refine (?_ : wE _ (.Name _ _) _ _ _)); first | refine zn (by rfl) (by first | exact Or.inl rfl | exact Or.inr (Or.inl rfl) | exact Or.inr (Or.inr rfl)) (by rfl) ?_ | refine zglob (by assumption) (by rfl) ?_ | refine zcls (by assumption) (by rfl) ?_ | refine zty (by assumption) (by first | exact bt_int | exact bt_bool | exact bt_str | exact bt_list | exact bt_tuple | exact bt_dict | exact bt_ValueError) (by rfl) ?_)
    | ((with_reducible refine (?_ : wE _ (.Attribute _ _ _) _ _ _)); refine zfld ?_)
    | ((with_reducible refine (?_ : wE _ (.Constant _ _ _) _ _ _)); first | refine zint ?_ | refine zstr ?_ | refine zbl ?_ | refine znon ?_)
    | ((with_reducible refine (?_ : wE _ (.BinOp _ _ _ _) _ _ _)); refine zbin ?_)
    | ((with_reducible refine (?_ : wE _ (.Compare _ _ _ _) _ _ _)); first | refine zcmp (by rfl) ?_ | refine zchain ?_)
    | ((with_reducible refine (?_ : wE _ (.Dict [] [] _) _ _ _)); refine zdnew (fun _ _ _ _ _ => ?_))
    | ((with_reducible refine (?_ : wE _ (.Subscript _ (.Slice _ _ _ _) _) _ _ _)); refine zsl ?_)
    | ((with_reducible refine (?_ : wE _ (.Subscript _ _ _) _ _ _)); refine zix ?_)
    | ((with_reducible refine (?_ : wE _ (.Call (.Name "list" _) [.Call (.Name "range" _) [_] [] _] [] _) _ _ _)); refine zlrg1 rfl (by rfl) (by assumption) (by rfl) (by assumption) ?_)
    | ((with_reducible refine (?_ : wE _ (.Call (.Name _ _) _ _ _) _ _ _)); first
      | ((with_reducible refine (?_ : wE _ (.Call (.Name "len" _) _ _ _) _ _ _)); refine zbfn (by assumption) bt_len (by rfl) ?_)
      | ((with_reducible refine (?_ : wE _ (.Call (.Name "isinstance" _) _ _ _) _ _ _)); refine zbfn (by assumption) bt_isi (by rfl) ?_)
      | ((with_reducible refine (?_ : wE _ (.Call (.Name "min" _) _ _ _) _ _ _)); refine zbfn (by assumption) bt_min (by rfl) ?_)
      | ((with_reducible refine (?_ : wE _ (.Call (.Name "max" _) _ _ _) _ _ _)); refine zbfn (by assumption) bt_max (by rfl) ?_)
      | ((with_reducible refine (?_ : wE _ (.Call (.Name "list" _) _ _ _) _ _ _)); refine zbty (by assumption) bt_list (by rfl) ?_)
      | ((with_reducible refine (?_ : wE _ (.Call (.Name "tuple" _) _ _ _) _ _ _)); refine zbty (by assumption) bt_tuple (by rfl) ?_)
      | ((with_reducible refine (?_ : wE _ (.Call (.Name "int" _) _ _ _) _ _ _)); refine zbty (by assumption) bt_int (by rfl) ?_)
      | ((with_reducible refine (?_ : wE _ (.Call (.Name "abs" _) _ _ _) _ _ _)); refine zbfn (by assumption) bt_abs (by rfl) ?_)
      | ((with_reducible refine (?_ : wE _ (.Call (.Name "all" _) _ _ _) _ _ _)); refine zbfn (by assumption) bt_all (by rfl) ?_)
      | ((with_reducible refine (?_ : wE _ (.Call (.Name "sum" _) _ _ _) _ _ _)); refine zbfn (by assumption) bt_sum (by rfl) ?_)
      | ((with_reducible refine (?_ : wE _ (.Call (.Name "divmod" _) _ _ _) _ _ _)); refine zbfn (by assumption) bt_divmod (by rfl) ?_)
      | ((with_reducible refine (?_ : wE _ (.Call (.Name "ord" _) _ _ _) _ _ _)); refine zbfn (by assumption) bt_ord (by rfl) ?_))
    | ((with_reducible refine (?_ : wE _ (.IfExp _ _ _ _) _ _ _)); refine zif ?_)
    | ((with_reducible refine (?_ : wE _ (.Tuple _ _ _) _ _ _)); refine ztup ?_)
    | ((with_reducible refine (?_ : wE _ (.List _ _) _ _ _)); refine zlst ?_)
    | ((with_reducible refine (?_ : wE _ (.UnaryOp _ _ _) _ _ _)); first | refine znotV ?_ | refine zneg ?_)
    | ((with_reducible refine (?_ : wE _ (.BoolOp _ _ _) _ _ _)); first | refine zandV ?_ | refine zorV ?_ | refine zoneV ?_))
  | ((with_reducible refine (?_ : bE _ _ _ _ _ _)); refine ⟨fun _ _ _ _ _ => ?_⟩) | ((with_reducible refine (?_ : bG _ _ _ _ _ _ _)); refine ⟨fun _ _ _ _ _ => ?_⟩) | ((with_reducible refine (?_ : bTs _ _ _ _ _ _)); refine ⟨fun _ _ _ _ _ => ?_⟩)
  | ((with_reducible refine (?_ : hE _ _ _ _ _ _)); refine ⟨fun _ _ _ _ _ => ?_⟩) | ((with_reducible refine (?_ : hG _ _ _ _ _ _ _)); refine ⟨fun _ _ _ _ _ => ?_⟩) | ((with_reducible refine (?_ : hTs _ _ _ _ _ _)); refine ⟨fun _ _ _ _ _ => ?_⟩)
  | ((with_reducible refine (?_ : wP _ _ _ _ _)); first | refine pnon ?_ | refine psom ?_) | ((with_reducible refine (?_ : wSl _ _ _ _ _ _)); first | refine slL (by one_place) (fun _ _ _ _ _ => ?_) | refine slS (by assumption) ?_)
  | ((with_reducible refine (?_ : wTs _ _ _ _ _)); first | refine tsnil ?_ | refine tsone ?_)
  | ((with_reducible refine (?_ : wA _ _ _ _ _)); first | refine acons ?_ | refine anil ?_)
  | ((with_reducible refine (?_ : wO _ _ _ _ _ _)); first
    | ((with_reducible refine (?_ : wO _ (binaryOp .Add) _ _ _ _)); first | refine oadd ?_ | refine ocatE (by one_item) (by one_item) (Nat.le_of_ble_eq_true rfl) (fun _ _ _ _ _ => ?_))
    | ((with_reducible refine (?_ : wO _ (binaryOp .Sub) _ _ _ _)); first | refine osub ?_)
    | ((with_reducible refine (?_ : wO _ (binaryOp .Mult) _ _ _ _)); first | refine omul (by first | exact IntMulOk.of_right (by decide) | exact IntMulOk.of_left (by decide) | exact IntMulOk.of_right (intBits_le_64 (by omega) (by omega)) | exact IntMulOk.of_left (intBits_le_64 (by omega) (by omega))) ?_)
    | ((with_reducible refine (?_ : wO _ (binaryOp .Mod) _ _ _ _)); first | refine omod (by first | decide | omega) ?_)
    | ((with_reducible refine (?_ : wO _ (binaryOp .FloorDiv) _ _ _ _)); first | refine ofdiv ⟨by first | decide | omega, by decide⟩ ?_)
    | ((with_reducible refine (?_ : wO _ (binaryOp .BitAnd) _ _ _ _)); first | refine oand ?_)
    | ((with_reducible refine (?_ : wO _ (binaryOp .BitOr) _ _ _ _)); first | refine oor ?_)
    | ((with_reducible refine (?_ : wO _ (compareOp .Lt) _ _ _ _)); first | refine olt ?_)
    | ((with_reducible refine (?_ : wO _ (compareOp .LtE) _ _ _ _)); first | refine ole ?_)
    | ((with_reducible refine (?_ : wO _ (compareOp .Gt) _ _ _ _)); first | refine ogt ?_)
    | ((with_reducible refine (?_ : wO _ (compareOp .GtE) _ _ _ _)); first | refine oge ?_)
    | ((with_reducible refine (?_ : wO _ (compareOp .Eq) _ _ _ _)); first | refine oeqi ?_ | refine oeqsT (by decide +kernel) ?_ | refine oeqsF (by decide +kernel) ?_ | refine oeq (by rfl) ?_)
    | ((with_reducible refine (?_ : wO _ (compareOp .NotEq) _ _ _ _)); first | refine onei ?_ | refine onesT (by decide +kernel) ?_ | refine onesF (by decide +kernel) ?_ | refine one (by rfl) ?_)
    | ((with_reducible refine (?_ : wO _ (compareOp .In) _ _ _ _)); first | refine oin ?_)
    | ((with_reducible refine (?_ : wO _ (compareOp .NotIn) _ _ _ _)); first | refine onin ?_)
    | ((with_reducible refine (?_ : wO _ (compareOp .Is) _ _ _ _)); first | refine ois ?_)
    | ((with_reducible refine (?_ : wO _ (compareOp .IsNot) _ _ _ _)); first | refine onot ?_)
    | ((with_reducible refine (?_ : wO _ (binaryOp .RShift) _ _ _ _)); refine oshr (by first | decide | omega) ?_)
    | ((with_reducible refine (?_ : wO _ (binaryOp .BitXor) _ _ _ _)); refine oxor ?_)
    | ((with_reducible refine (?_ : wO _ (inplaceOp .BitXor) _ _ _ _)); refine ixor ?_)
    | ((with_reducible refine (?_ : wO _ (inplaceOp .RShift) _ _ _ _)); refine ishr (by first | decide | omega) ?_)
    | ((with_reducible refine (?_ : wO _ (inplaceOp .BitOr) _ _ _ _)); first | refine ior ?_)
    | ((with_reducible refine (?_ : wO _ (inplaceOp .Add) _ _ _ _)); first | refine iadd ?_))
  | ((with_reducible refine (?_ : wT _ _ _ _ _)); first
    | ((with_reducible refine (?_ : wT _ (.Compare _ _ _ _) _ _ _)); first | refine zcmpT (by rfl) ?_ | refine zchainT ?_)
    | ((with_reducible refine (?_ : wT _ (.UnaryOp _ _ _) _ _ _)); refine znotT ?_)
    | ((with_reducible refine (?_ : wT _ (.BoolOp _ _ _) _ _ _)); refine zW ?_)
    | refine zval ?_)
  | ((with_reducible refine (?_ : wW _ _ _ _ _)); first | refine zand ?_ | refine zor ?_ | refine zand1 ?_ | refine zor1 ?_)
  | ((with_reducible refine (?_ : wK _ _ _ _ _)); first
    | ((with_reducible refine (?_ : wK _ (.builtin "len") _ _ _)); first | refine klenL (by one_place) ?_ | refine klenT (by one_place) ?_ | refine klenS (by assumption) ?_)
    | ((with_reducible refine (?_ : wK _ (.builtin "isinstance") _ _ _)); first | refine kisE (by assumption) (by assumption) (by first | assumption | exact Xd.exx (by assumption) (by one_sign)) (by first | exact .own _ | exact .ty _) (by assumption) ?_ | refine kisi (.ty _) (by assumption) (by assumption) ?_ | refine kisi (.ty _) (.base (by first | exact .int _ | exact .bl _ | exact .str _ | exact .non | exact .tup (by one_item) | exact .lst (by one_item))) (kit_ty (r := true) (by rfl)) ?_ | refine kisi (.ty _) (.base (by first | exact .int _ | exact .bl _ | exact .str _ | exact .non | exact .tup (by one_item) | exact .lst (by one_item))) (kit_ty (r := false) (by rfl)) ?_)
    | ((with_reducible refine (?_ : wK _ (.builtin "divmod") _ _ _)); refine kdivmod ⟨by first | decide | omega, by decide⟩ (fun _ _ _ _ _ => ?_))
    | ((with_reducible refine (?_ : wK _ (.builtin "min") _ _ _)); refine kmin (by rfl) ?_)
    | ((with_reducible refine (?_ : wK _ (.builtin "max") _ _ _)); refine kmax (by rfl) ?_)
    | ((with_reducible refine (?_ : wK _ (.type "list") _ _ _)); first | refine klistL (by one_place) (fun _ _ _ _ _ => ?_) | refine klistT (by one_place) (fun _ _ _ _ _ => ?_))
    | ((with_reducible refine (?_ : wK _ (.type "tuple") _ _ _)); first | refine ktupL (by one_place) (fun _ _ _ _ _ => ?_)))
  | ((with_reducible refine (?_ : wS _ _ _ _ _)); first
    | ((with_reducible refine (?_ : wS _ (.Assign [.Name _ _] _ _) _ _ _)); refine sset' (by assumption) (by rfl) (by first | exact Or.inl rfl | exact Or.inr rfl) (by rfl) (by first | exact .inl rfl | exact .inr rfl) ?_)
    | ((with_reducible refine (?_ : wS _ (.AugAssign (.Name _ _) _ _ _) _ _ _)); refine saug' (by assumption) (by rfl) (by first | exact Or.inl rfl | exact Or.inr rfl) (by first | exact .inl rfl | exact .inr rfl) (by rfl) ?_)
    | ((with_reducible refine (?_ : wS _ (.Assign [.Attribute _ _ _] _ _) _ _ _)); refine sfld ?_)
    | ((with_reducible refine (?_ : wS _ (.Expr _ _) _ _ _)); refine sexp ?_)
    | ((with_reducible refine (?_ : wS _ (.Assign [.Tuple _ _ _] _ _) _ _ _)); refine sasg ?_) | ((with_reducible refine (?_ : wS _ (.Assign [.Subscript _ _ _] _ _) _ _ _)); refine sasg ?_)
    | refine sret ?_ | refine sif ?_ | refine sretN ?_ | refine spass ?_ | refine sbrk ?_ | refine scont ?_)
  | ((with_reducible refine (?_ : wG _ (.Name _ _) _ _ _ _)); refine gname' (by assumption) (by rfl) (by first | exact Or.inl rfl | exact Or.inr rfl) (by first | exact .inl rfl | exact .inr rfl) ?_)
  | ((with_reducible refine (?_ : wG _ (.Tuple _ _ _) _ _ _ _)); refine gtup rfl (by one_place) rfl ?_) | ((with_reducible refine (?_ : wG _ (.Subscript _ _ _) _ _ _ _)); refine gsub ?_)
  | ((with_reducible refine (?_ : wGs _ _ _ _ _ _)); first | refine gscons ?_ | refine gsnil ?_)
  | ((with_reducible refine (?_ : wB _ _ _ _ _)); first | refine bcons ?_ | refine bnil ?_)
  | refine ifT ?_ | refine ifF ?_ | refine ifd (fun _ => ?_) (fun _ => ?_) | refine ifnd (fun _ => ?_) (fun _ => ?_) | refine ⟨_, rfl, ?_⟩ | refine ⟨rfl, Evl.Ex.refl _, ?_⟩ | refine ⟨_, _, _, _, _, rfl, by one_item, by assumption, by assumption, by rfl, ?_⟩ | refine ⟨Nat.le_of_ble_eq_true rfl, fun _ _ _ _ _ => ?_⟩ | fail)
local macro_rules | `(tactic| top_name) => `(tactic| repeat' tb_rel)
local macro_rules | `(tactic| nest_fact) => `(tactic| first | exact ⟨(decide_eq_true (by omega)).symm, rfl⟩ | exact ⟨(decide_eq_false (by omega)).symm, rfl⟩ | exact ⟨decide_eq_decide.mpr (by omega), rfl⟩ | fail)
/-! ### whole numbers -/
def sp_is_whole (K : PySem.W.Frag) : Sp := fun vs H Q _ => ∃ (v t : Value) (u : V) (k1 k2 : Bool), vs = [u] ∧ TyX K H u t ∧ PySem.W.kitOne K t (.type "int") = some k1 ∧ PySem.W.kitOne K t (.type "bool") = some k2 ∧ Q (.bl (k1 && !k2)) H
theorem ok_is_whole (T : Txt K mg) : Gf P w K mg base 1 "is_whole" [] (sp_is_whole K) := by
  refine gf_mk T.f_is_whole T.m_is_whole (fun _ _ _ _ _ _ us hl => match us, hl with | [_], _ => rfl) fun fd F => fn_mk F sc_is_whole (fun vs H Q E h => ?_) fun cd A outer s H vs Q E hr tk po h => ?_
  · obtain ⟨_, _, u, k1, k2, rfl, _⟩ := h; rfl
  · obtain ⟨_, t, u, k1, k2, rfl, ty, h1, h2, q⟩ := h
    have n1 := T.n_isinstance
    have n2 := T.n_int
    have n3 := T.n_bool
    top_name
    refine ifb (fun e => ?_) (fun e => ?_)
    · subst e
      top_name
      exact q
    · subst e
      exact q
def sp_is_among (K : PySem.W.Frag) : Sp := fun vs H Q _ => ∃ (u : V) (lo hi : Int) (b : Bool), vs = [u, .int lo, .int hi] ∧ Asked K H lo hi u b ∧ Q (.bl b) H
theorem ok_is_among (T : Txt K mg) : Gf P w K mg base 2 "is_among" [] (sp_is_among K) := by
  refine gf_mk T.f_is_among T.m_is_among (fun _ _ _ _ _ _ us hl => match us, hl with | [_, _, _], _ => rfl) fun fd F => fn_mk F sc_is_among (fun vs H Q E h => ?_) fun cd A outer s H vs Q E hr tk po h => ?_
  · obtain ⟨u, lo, hi, b, rfl, _⟩ := h; rfl
  · obtain ⟨u, lo, hi, b, rfl, ha, q⟩ := h
    top_name
    refine zcall (ok_is_whole T) hr (by decide) takesF rfl ?_
    top_name
    cases ha with
    | int n =>
      refine ⟨.none, _, _, true, false, rfl, .base (.int n), kit_ty rfl, kit_ty rfl, ?_⟩
      top_name
      · rename_i h1
        rw [show decide (n ≤ hi) = decide (lo ≤ n ∧ n ≤ hi) from decide_eq_decide.mpr ⟨fun z => ⟨h1, z⟩, fun z => z.2⟩]
        exact q
      · rename_i h1
        rw [show decide (lo ≤ n ∧ n ≤ hi) = false from decide_eq_false fun z => h1 z.1] at q
        exact q
    | odd hn =>
      obtain ⟨t, k1, k2, ty, h1, h2, e⟩ := hn
      refine ⟨.none, _, _, _, _, rfl, ty, h1, h2, ?_⟩
      rw [e]
      top_name
      exact q
def MOST : Int := 115792089237316195423570985008687907853269984665640564039457584007913129639935
end K06

set_option maxRecDepth 100000
set_option maxHeartbeats 4000000
namespace K06
open PySem PySem.Spec PyProof.Rows L2 Z
open Evl (Ex)
variable {P : Program} {w : World} {K : PySem.W.Frag} {mg : Str → Option Value} {base : Heap}
/-! ### steps of the walk: one_sign: a heap grew into another; one_item: what stands at an address; one_place: a list or tuple to be read; leaf_len: arithmetic; tb_rel: one step; top_name: steps as far as they go -/
local macro_rules | `(tactic| got_up) => `(tactic| (refine Evl.Ex.trans (by assumption) ?_; first | assumption | exact Evl.Ex.refl _ | got_up))
local macro_rules | `(tactic| units_room) => `(tactic| (refine Evl.Ex.trans ?_ (by assumption); first | assumption | exact Evl.Ex.refl _ | units_room))
local macro_rules | `(tactic| one_sign) => `(tactic| first | assumption | exact Evl.Ex.refl _ | got_up | units_room)
local macro_rules | `(tactic| one_item) => `(tactic| first | assumption | exact upd_same | exact exa (by assumption) (by one_sign))
local macro_rules | `(tactic| one_place) => `(tactic| first | assumption | exact SqL.of (by assumption) | exact SqT.of (by assumption) | exact exl (by assumption) (by one_sign) | exact ext (by assumption) (by one_sign) | exact SqL.of (by one_item) | exact SqT.of (by one_item))
local macro_rules | `(tactic| leaf_len) => `(tactic| first | assumption | decide | omega)
local macro_rules | `(tactic| tb_rel) => `(tactic| first
  | ((with_reducible refine (?_ : wE _ _ _ _ _)); first
    | ((with_reducible refine (?_ : wE _ (.Name _ _) _ _ _)); first | refine zn (by rfl) (by first | exact Or.inl rfl | exact Or.inr (Or.inl rfl) | exact Or.inr (Or.inr rfl)) (by rfl) ?_ | refine zglob (by assumption) (by rfl) ?_ | refine zcls (by assumption) (by rfl) ?_ | refine zty (by assumption) (by first | exact bt_int | exact bt_bool | exact bt_str | exact bt_list | exact bt_tuple | exact bt_dict | exact bt_ValueError) (by rfl) ?_)
    | ((with_reducible refine (?_ : wE _ (.Attribute _ _ _) _ _ _)); refine zfld ?_)
    | ((with_reducible refine (?_ : wE _ (.Constant _ _ _) _ _ _)); first | refine zint ?_ | refine zstr ?_ | refine zbl ?_ | refine znon ?_)
    | ((with_reducible refine (?_ : wE _ (.BinOp _ _ _ _) _ _ _)); refine zbin ?_)
    | ((with_reducible refine (?_ : wE _ (.Compare _ _ _ _) _ _ _)); first | refine zcmp (by rfl) ?_ | refine zchain ?_)
    | ((with_reducible refine (?_ : wE _ (.Dict [] [] _) _ _ _)); refine zdnew (fun _ _ _ _ _ => ?_))
    | ((with_reducible refine (?_ : wE _ (.Subscript _ (.Slice _ _ _ _) _) _ _ _)); refine zsl ?_)
    | ((with_reducible refine (?_ : wE _ (.Subscript _ _ _) _ _ _)); refine zix ?_)
    | ((with_reducible refine (?_ : wE _ (.Call (.Name "list" _) [.Call (.Name "range" _) [_] [] _] [] _) _ _ _)); refine zlrg1 rfl (by rfl) (by assumption) (by rfl) (by assumption) ?_)
    | ((with_reducible refine (?_ : wE _ (.Call (.Name _ _) _ _ _) _ _ _)); first
      | ((with_reducible refine (?_ : wE _ (.Call (.Name "len" _) _ _ _) _ _ _)); refine zbfn (by assumption) bt_len (by rfl) ?_)
      | ((with_reducible refine (?_ : wE _ (.Call (.Name "isinstance" _) _ _ _) _ _ _)); refine zbfn (by assumption) bt_isi (by rfl) ?_)
      | ((with_reducible refine (?_ : wE _ (.Call (.Name "min" _) _ _ _) _ _ _)); refine zbfn (by assumption) bt_min (by rfl) ?_)
      | ((with_reducible refine (?_ : wE _ (.Call (.Name "max" _) _ _ _) _ _ _)); refine zbfn (by assumption) bt_max (by rfl) ?_)
      | ((with_reducible refine (?_ : wE _ (.Call (.Name "list" _) _ _ _) _ _ _)); refine zbty (by assumption) bt_list (by rfl) ?_)
      | ((with_reducible refine (?_ : wE _ (.Call (.Name "tuple" _) _ _ _) _ _ _)); refine zbty (by assumption) bt_tuple (by rfl) ?_)
      | ((with_reducible refine (?_ : wE _ (.Call (.Name "int" _) _ _ _) _ _ _)); refine zbty (by assumption) bt_int (by rfl) ?_)
      | ((with_reducible refine (?_ : wE _ (.Call (.Name "abs" _) _ _ _) _ _ _)); refine zbfn (by assumption) bt_abs (by rfl) ?_)
      | ((with_reducible refine (?_ : wE _ (.Call (.Name "all" _) _ _ _) _ _ _)); refine zbfn (by assumption) bt_all (by rfl) ?_)
      | ((with_reducible refine (?_ : wE _ (.Call (.Name "sum" _) _ _ _) _ _ _)); refine zbfn (by assumption) bt_sum (by rfl) ?_)
      | ((with_reducible refine (?_ : wE _ (.Call (.Name "divmod" _) _ _ _) _ _ _)); refine zbfn (by assumption) bt_divmod (by rfl) ?_)
      | ((with_reducible refine (?_ : wE _ (.Call (.Name "ord" _) _ _ _) _ _ _)); refine zbfn (by assumption) bt_ord (by rfl) ?_))
    | ((with_reducible refine (?_ : wE _ (.IfExp _ _ _ _) _ _ _)); refine zif ?_)
    | ((with_reducible refine (?_ : wE _ (.Tuple _ _ _) _ _ _)); refine ztup ?_)
    | ((with_reducible refine (?_ : wE _ (.List _ _) _ _ _)); refine zlst ?_)
    | ((with_reducible refine (?_ : wE _ (.UnaryOp _ _ _) _ _ _)); first | refine znotV ?_ | refine zneg ?_)
    | ((with_reducible refine (?_ : wE _ (.BoolOp _ _ _) _ _ _)); first | refine zandV ?_ | refine zorV ?_ | refine zoneV ?_))
  | ((with_reducible refine (?_ : bE _ _ _ _ _ _)); refine ⟨fun _ _ _ _ _ => ?_⟩) | ((with_reducible refine (?_ : bG _ _ _ _ _ _ _)); refine ⟨fun _ _ _ _ _ => ?_⟩) | ((with_reducible refine (?_ : bTs _ _ _ _ _ _)); refine ⟨fun _ _ _ _ _ => ?_⟩)
  | ((with_reducible refine (?_ : hE _ _ _ _ _ _)); refine ⟨fun _ _ _ _ _ => ?_⟩) | ((with_reducible refine (?_ : hG _ _ _ _ _ _ _)); refine ⟨fun _ _ _ _ _ => ?_⟩) | ((with_reducible refine (?_ : hTs _ _ _ _ _ _)); refine ⟨fun _ _ _ _ _ => ?_⟩)
  | ((with_reducible refine (?_ : wP _ _ _ _ _)); first | refine pnon ?_ | refine psom ?_) | ((with_reducible refine (?_ : wSl _ _ _ _ _ _)); first | refine slL (by one_place) (fun _ _ _ _ _ => ?_) | refine slS (by assumption) ?_)
  | ((with_reducible refine (?_ : wTs _ _ _ _ _)); first | refine tsnil ?_ | refine tsone ?_)
  | ((with_reducible refine (?_ : wA _ _ _ _ _)); first | refine acons ?_ | refine anil ?_)
  | ((with_reducible refine (?_ : wO _ _ _ _ _ _)); first
    | ((with_reducible refine (?_ : wO _ (binaryOp .Add) _ _ _ _)); first | refine oadd ?_ | refine ocatE (by one_item) (by one_item) (Nat.le_of_ble_eq_true rfl) (fun _ _ _ _ _ => ?_))
    | ((with_reducible refine (?_ : wO _ (binaryOp .Sub) _ _ _ _)); first | refine osub ?_)
    | ((with_reducible refine (?_ : wO _ (binaryOp .Mult) _ _ _ _)); first | refine omul (by first | exact IntMulOk.of_right (by decide) | exact IntMulOk.of_left (by decide) | exact IntMulOk.of_right (intBits_le_64 (by omega) (by omega)) | exact IntMulOk.of_left (intBits_le_64 (by omega) (by omega))) ?_)
    | ((with_reducible refine (?_ : wO _ (binaryOp .Mod) _ _ _ _)); first | refine omod (by first | decide | omega) ?_)
    | ((with_reducible refine (?_ : wO _ (binaryOp .FloorDiv) _ _ _ _)); first | refine ofdiv ⟨by first | decide | omega, by decide⟩ ?_)
    | ((with_reducible refine (?_ : wO _ (binaryOp .BitAnd) _ _ _ _)); first | refine oand ?_)
    | ((with_reducible refine (?_ : wO _ (binaryOp .BitOr) _ _ _ _)); first | refine oor ?_)
    | ((with_reducible refine (?_ : wO _ (compareOp .Lt) _ _ _ _)); first | refine olt ?_)
    | ((with_reducible refine (?_ : wO _ (compareOp .LtE) _ _ _ _)); first | refine ole ?_)
    | ((with_reducible refine (?_ : wO _ (compareOp .Gt) _ _ _ _)); first | refine ogt ?_)
    | ((with_reducible refine (?_ : wO _ (compareOp .GtE) _ _ _ _)); first | refine oge ?_)
    | ((with_reducible refine (?_ : wO _ (compareOp .Eq) _ _ _ _)); first | refine oeqi ?_ | refine oeqsT (by decide +kernel) ?_ | refine oeqsF (by decide +kernel) ?_ | refine oeq (by rfl) ?_)
    | ((with_reducible refine (?_ : wO _ (compareOp .NotEq) _ _ _ _)); first | refine onei ?_ | refine onesT (by decide +kernel) ?_ | refine onesF (by decide +kernel) ?_ | refine one (by rfl) ?_)
    | ((with_reducible refine (?_ : wO _ (compareOp .In) _ _ _ _)); first | refine oin ?_)
    | ((with_reducible refine (?_ : wO _ (compareOp .NotIn) _ _ _ _)); first | refine onin ?_)
    | ((with_reducible refine (?_ : wO _ (compareOp .Is) _ _ _ _)); first | refine ois ?_)
    | ((with_reducible refine (?_ : wO _ (compareOp .IsNot) _ _ _ _)); first | refine onot ?_)
    | ((with_reducible refine (?_ : wO _ (binaryOp .RShift) _ _ _ _)); refine oshr (by first | decide | omega) ?_)
    | ((with_reducible refine (?_ : wO _ (binaryOp .BitXor) _ _ _ _)); refine oxor ?_)
    | ((with_reducible refine (?_ : wO _ (inplaceOp .BitXor) _ _ _ _)); refine ixor ?_)
    | ((with_reducible refine (?_ : wO _ (inplaceOp .RShift) _ _ _ _)); refine ishr (by first | decide | omega) ?_)
    | ((with_reducible refine (?_ : wO _ (inplaceOp .BitOr) _ _ _ _)); first | refine ior ?_)
    | ((with_reducible refine (?_ : wO _ (inplaceOp .Add) _ _ _ _)); first | refine iadd ?_))
  | ((with_reducible refine (?_ : wT _ _ _ _ _)); first
    | ((with_reducible refine (?_ : wT _ (.Compare _ _ _ _) _ _ _)); first | refine zcmpT (by rfl) ?_ | refine zchainT ?_)
    | ((with_reducible refine (?_ : wT _ (.UnaryOp _ _ _) _ _ _)); refine znotT ?_)
    | ((with_reducible refine (?_ : wT _ (.BoolOp _ _ _) _ _ _)); refine zW ?_)
    | refine zval ?_)
  | ((with_reducible refine (?_ : wW _ _ _ _ _)); first | refine zand ?_ | refine zor ?_ | refine zand1 ?_ | refine zor1 ?_)
  | ((with_reducible refine (?_ : wK _ _ _ _ _)); first
    | ((with_reducible refine (?_ : wK _ (.builtin "len") _ _ _)); first | refine klenL (by one_place) ?_ | refine klenT (by one_place) ?_ | refine klenS (by assumption) ?_)
    | ((with_reducible refine (?_ : wK _ (.builtin "isinstance") _ _ _)); first | refine kisE (by assumption) (by assumption) (by first | assumption | exact Xd.exx (by assumption) (by one_sign)) (by first | exact .own _ | exact .ty _) (by assumption) ?_ | refine kisi (.ty _) (by assumption) (by assumption) ?_ | refine kisi (.ty _) (.base (by first | exact .int _ | exact .bl _ | exact .str _ | exact .non | exact .tup (by one_item) | exact .lst (by one_item))) (kit_ty (r := true) (by rfl)) ?_ | refine kisi (.ty _) (.base (by first | exact .int _ | exact .bl _ | exact .str _ | exact .non | exact .tup (by one_item) | exact .lst (by one_item))) (kit_ty (r := false) (by rfl)) ?_)
    | ((with_reducible refine (?_ : wK _ (.builtin "divmod") _ _ _)); refine kdivmod ⟨by first | decide | omega, by decide⟩ (fun _ _ _ _ _ => ?_))
    | ((with_reducible refine (?_ : wK _ (.builtin "min") _ _ _)); refine kmin (by rfl) ?_)
    | ((with_reducible refine (?_ : wK _ (.builtin "max") _ _ _)); refine kmax (by rfl) ?_)
    | ((with_reducible refine (?_ : wK _ (.type "list") _ _ _)); first | refine klistL (by one_place) (fun _ _ _ _ _ => ?_) | refine klistT (by one_place) (fun _ _ _ _ _ => ?_))
    | ((with_reducible refine (?_ : wK _ (.type "tuple") _ _ _)); first | refine ktupL (by one_place) (fun _ _ _ _ _ => ?_)))
  | ((with_reducible refine (?_ : wS _ _ _ _ _)); first
    | ((with_reducible refine (?_ : wS _ (.Assign [.Name _ _] _ _) _ _ _)); refine sset' (by assumption) (by rfl) (by first | exact Or.inl rfl | exact Or.inr rfl) (by rfl) (by first | exact .inl rfl | exact .inr rfl) ?_)
    | ((with_reducible refine (?_ : wS _ (.AugAssign (.Name _ _) _ _ _) _ _ _)); refine saug' (by assumption) (by rfl) (by first | exact Or.inl rfl | exact Or.inr rfl) (by first | exact .inl rfl | exact .inr rfl) (by rfl) ?_)
    | ((with_reducible refine (?_ : wS _ (.Assign [.Attribute _ _ _] _ _) _ _ _)); refine sfld ?_)
    | ((with_reducible refine (?_ : wS _ (.Expr _ _) _ _ _)); refine sexp ?_)
    | ((with_reducible refine (?_ : wS _ (.Assign [.Tuple _ _ _] _ _) _ _ _)); refine sasg ?_) | ((with_reducible refine (?_ : wS _ (.Assign [.Subscript _ _ _] _ _) _ _ _)); refine sasg ?_)
    | refine sret ?_ | refine sif ?_ | refine sretN ?_ | refine spass ?_ | refine sbrk ?_ | refine scont ?_)
  | ((with_reducible refine (?_ : wG _ (.Name _ _) _ _ _ _)); refine gname' (by assumption) (by rfl) (by first | exact Or.inl rfl | exact Or.inr rfl) (by first | exact .inl rfl | exact .inr rfl) ?_)
  | ((with_reducible refine (?_ : wG _ (.Tuple _ _ _) _ _ _ _)); refine gtup rfl (by one_place) rfl ?_) | ((with_reducible refine (?_ : wG _ (.Subscript _ _ _) _ _ _ _)); refine gsub ?_)
  | ((with_reducible refine (?_ : wGs _ _ _ _ _ _)); first | refine gscons ?_ | refine gsnil ?_)
  | ((with_reducible refine (?_ : wB _ _ _ _ _)); first | refine bcons ?_ | refine bnil ?_)
  | refine ifT ?_ | refine ifF ?_ | refine ifd (fun _ => ?_) (fun _ => ?_) | refine ifnd (fun _ => ?_) (fun _ => ?_) | refine ⟨_, rfl, ?_⟩ | refine ⟨rfl, Evl.Ex.refl _, ?_⟩ | refine ⟨_, _, _, _, _, rfl, by one_item, by assumption, by assumption, by rfl, ?_⟩ | refine ⟨Nat.le_of_ble_eq_true rfl, fun _ _ _ _ _ => ?_⟩ | fail)
local macro_rules | `(tactic| top_name) => `(tactic| repeat' tb_rel)
local macro_rules | `(tactic| nest_fact) => `(tactic| first | exact ⟨(decide_eq_true (by omega)).symm, rfl⟩ | exact ⟨(decide_eq_false (by omega)).symm, rfl⟩ | exact ⟨decide_eq_decide.mpr (by omega), rfl⟩ | fail)
/-! ### rows -/
def sp_need_row (K : PySem.W.Frag) : Sp := fun vs H Q E => ∃ (u : V) (b : Bool), vs = [u] ∧ RowAsk K H u b ∧ if b = true then ∀ H', Ex H H' → Q .non H' else ∀ H', Ex H H' → E (.ref (He.ga K "BadRow")) none H'
theorem ok_need_row (T : Txt K mg) : Gf P w K mg base 3 "need_row" [] (sp_need_row K) := by
  refine gf_mk T.f_need_row T.m_need_row (fun _ _ _ _ _ _ us hl => match us, hl with | [_], _ => rfl) fun fd F => fn_mk F sc_need_row (fun vs H Q E h => ?_) fun cd A outer s H vs Q E hr tk po h => ?_
  · obtain ⟨u, b, rfl, _⟩ := h; rfl
  · obtain ⟨u, b, rfl, ha, q⟩ := h
    have nd := sc_need_row.nd
    have n1 := T.n_isinstance
    have n2 := T.n_list
    have n3 := T.n_tuple
    have n4 := T.n_all
    have g1 := T.g_BYTE
    refine bcons (sif (tcutE (!b) ?_ fun H' e => ?_))
    · top_name
      rename_i tp H1 htp e1 hxt
      cases ha with
      | @lst l xs bs h a hz =>
        refine kisiT (t := .type "list") (b := true) hxt (.cons (.ty _) (.cons (.ty _) .nil)) (.base (.lst (e1 _ _ h))) (by rfl) ?_
        top_name
        refine zlc rfl nd [("byte", 1)] (blkOk_by (N := N_need_row) (sc := defScope s_need_row) (by decide +kernel)) piL (tmL (xs := xs) (fun j => (bs.take j).map V.bl) rfl ?_)
        top_name
        refine ⟨SqL.of (e1 _ _ h), fun j x H2 hx e2 => ?_, fun L H2 hL e2 hx => ?_⟩
        · obtain ⟨b', hb', ask⟩ := a.get hx
          top_name
          refine zcall (ok_is_among T) hr (by decide) takesF rfl ?_
          top_name
          refine ⟨x, 0, 255, b', rfl, Asked.ex (e1.trans e2) ask, ?_⟩
          refine ⟨?_, ?_, Evl.Ex.refl _⟩
          · obtain ⟨hl, rfl⟩ := List.getElem?_eq_some_iff.mp hb'
            show (bs.take (j + 1)).map V.bl = (bs.take j).map V.bl ++ [V.bl bs[j]]
            rw [List.take_add_one, List.getElem?_eq_getElem hl, List.map_append]
            rfl
          · have := (List.getElem?_eq_some_iff.mp hx).1
            rw [List.length_map, List.length_take]
            omega
        · have hl := a.length
          rw [hl, List.take_length] at hx
          top_name
          refine kall rfl (SqL.of hx) ?_
          exact ⟨_, rfl, rfl, e1.trans e2⟩
      | @tup l xs bs h a hz =>
        refine kisiT (t := .type "tuple") (b := true) hxt (.cons (.ty _) (.cons (.ty _) .nil)) (.base (.tup (e1 _ _ h))) (by rfl) ?_
        top_name
        refine zlc rfl nd [("byte", 1)] (blkOk_by (N := N_need_row) (sc := defScope s_need_row) (by decide +kernel)) piT (tmT (xs := xs) (fun j => (bs.take j).map V.bl) rfl ?_)
        top_name
        refine ⟨SqT.of (e1 _ _ h), fun j x H2 hx e2 => ?_, fun L H2 hL e2 hx => ?_⟩
        · obtain ⟨b', hb', ask⟩ := a.get hx
          top_name
          refine zcall (ok_is_among T) hr (by decide) takesF rfl ?_
          top_name
          refine ⟨x, 0, 255, b', rfl, Asked.ex (e1.trans e2) ask, ?_⟩
          refine ⟨?_, ?_, Evl.Ex.refl _⟩
          · obtain ⟨hl, rfl⟩ := List.getElem?_eq_some_iff.mp hb'
            show (bs.take (j + 1)).map V.bl = (bs.take j).map V.bl ++ [V.bl bs[j]]
            rw [List.take_add_one, List.getElem?_eq_getElem hl, List.map_append]
            rfl
          · have := (List.getElem?_eq_some_iff.mp hx).1
            rw [List.length_map, List.length_take]
            omega
        · have hl := a.length
          rw [hl, List.take_length] at hx
          top_name
          refine kall rfl (SqL.of hx) ?_
          exact ⟨_, rfl, rfl, e1.trans e2⟩
      | not ty k =>
        refine kisiT (b := false) hxt (.cons (.ty _) (.cons (.ty _) .nil)) (TyX.ex e1 ty) k ?_
        top_name
        exact ⟨rfl, e1⟩
    · cases b with
      | true =>
        rw [if_pos rfl] at q
        top_name
        exact q _ e
      | false =>
        rw [if_neg Bool.false_ne_true] at q
        top_name
        exact sraise rfl tk (mplain T.e_BadRow T.m_BadRow rfl (q _ e))
end K06

set_option maxRecDepth 100000
set_option maxHeartbeats 4000000
set_option pp.maxSteps 1500
namespace K06
open PySem PySem.Spec PyProof.Rows L2 Z
open Evl (Ex)
variable {P : Program} {w : World} {K : PySem.W.Frag} {mg : Str → Option Value} {base : Heap}
/-! ### steps of the walk: one_sign: a heap grew into another; one_item: what stands at an address; one_place: a list or tuple to be read; leaf_len: arithmetic; tb_rel: one step; top_name: steps as far as they go -/
local macro_rules | `(tactic| got_up) => `(tactic| (refine Evl.Ex.trans (by assumption) ?_; first | assumption | exact Evl.Ex.refl _ | got_up))
local macro_rules | `(tactic| units_room) => `(tactic| (refine Evl.Ex.trans ?_ (by assumption); first | assumption | exact Evl.Ex.refl _ | units_room))
local macro_rules | `(tactic| one_sign) => `(tactic| first | assumption | exact Evl.Ex.refl _ | got_up | units_room)
local macro_rules | `(tactic| one_item) => `(tactic| first | assumption | exact upd_same | exact exa (by assumption) (by one_sign))
local macro_rules | `(tactic| one_place) => `(tactic| first | assumption | exact SqL.of (by assumption) | exact SqT.of (by assumption) | exact exl (by assumption) (by one_sign) | exact ext (by assumption) (by one_sign) | exact SqL.of (by one_item) | exact SqT.of (by one_item))
local macro_rules | `(tactic| leaf_len) => `(tactic| first | assumption | decide | omega)
local macro_rules | `(tactic| tb_rel) => `(tactic| first
  | ((with_reducible refine (?_ : wE _ _ _ _ _)); first
    | ((with_reducible refine (?_ : wE _ (.Name _ _) _ _ _)); first | refine zn (by rfl) (by first | exact Or.inl rfl | exact Or.inr (Or.inl rfl) | exact Or.inr (Or.inr rfl)) (by rfl) ?_ | refine zglob (by assumption) (by rfl) ?_ | refine zcls (by assumption) (by rfl) ?_ | refine zty (by assumption) (by first | exact bt_int | exact bt_bool | exact bt_str | exact bt_list | exact bt_tuple | exact bt_dict | exact bt_ValueError) (by rfl) ?_)
    | ((with_reducible refine (?_ : wE _ (.Attribute _ _ _) _ _ _)); refine zfld ?_)
    | ((with_reducible refine (?_ : wE _ (.Constant _ _ _) _ _ _)); first | refine zint ?_ | refine zstr ?_ | refine zbl ?_ | refine znon ?_)
    | ((with_reducible refine (?_ : wE _ (.BinOp _ _ _ _) _ _ _)); refine zbin ?_)
    | ((with_reducible refine (?_ : wE _ (.Compare _ _ _ _) _ _ _)); first | refine zcmp (by rfl) ?_ | refine zchain ?_)
    | ((with_reducible refine (?_ : wE _ (.Dict [] [] _) _ _ _)); refine zdnew (fun _ _ _ _ _ => ?_))
    | ((with_reducible refine (?_ : wE _ (.Subscript _ (.Slice _ _ _ _) _) _ _ _)); refine zsl ?_)
    | ((with_reducible refine (?_ : wE _ (.Subscript _ _ _) _ _ _)); refine zix ?_)
    | ((with_reducible refine (?_ : wE _ (.Call (.Name "list" _) [.Call (.Name "range" _) [_] [] _] [] _) _ _ _)); refine zlrg1 rfl (by rfl) (by assumption) (by rfl) (by assumption) ?_)
    | ((with_reducible refine (?_ : wE _ (.Call (.Name _ _) _ _ _) _ _ _)); first
      | ((with_reducible refine (?_ : wE _ (.Call (.Name "len" _) _ _ _) _ _ _)); refine zbfn (by assumption) bt_len (by rfl) ?_)
      | ((with_reducible refine (?_ : wE _ (.Call (.Name "isinstance" _) _ _ _) _ _ _)); refine zbfn (by assumption) bt_isi (by rfl) ?_)
      | ((with_reducible refine (?_ : wE _ (.Call (.Name "min" _) _ _ _) _ _ _)); refine zbfn (by assumption) bt_min (by rfl) ?_)
      | ((with_reducible refine (?_ : wE _ (.Call (.Name "max" _) _ _ _) _ _ _)); refine zbfn (by assumption) bt_max (by rfl) ?_)
      | ((with_reducible refine (?_ : wE _ (.Call (.Name "list" _) _ _ _) _ _ _)); refine zbty (by assumption) bt_list (by rfl) ?_)
      | ((with_reducible refine (?_ : wE _ (.Call (.Name "tuple" _) _ _ _) _ _ _)); refine zbty (by assumption) bt_tuple (by rfl) ?_)
      | ((with_reducible refine (?_ : wE _ (.Call (.Name "int" _) _ _ _) _ _ _)); refine zbty (by assumption) bt_int (by rfl) ?_)
      | ((with_reducible refine (?_ : wE _ (.Call (.Name "abs" _) _ _ _) _ _ _)); refine zbfn (by assumption) bt_abs (by rfl) ?_)
      | ((with_reducible refine (?_ : wE _ (.Call (.Name "all" _) _ _ _) _ _ _)); refine zbfn (by assumption) bt_all (by rfl) ?_)
      | ((with_reducible refine (?_ : wE _ (.Call (.Name "sum" _) _ _ _) _ _ _)); refine zbfn (by assumption) bt_sum (by rfl) ?_)
      | ((with_reducible refine (?_ : wE _ (.Call (.Name "divmod" _) _ _ _) _ _ _)); refine zbfn (by assumption) bt_divmod (by rfl) ?_)
      | ((with_reducible refine (?_ : wE _ (.Call (.Name "ord" _) _ _ _) _ _ _)); refine zbfn (by assumption) bt_ord (by rfl) ?_))
    | ((with_reducible refine (?_ : wE _ (.IfExp _ _ _ _) _ _ _)); refine zif ?_)
    | ((with_reducible refine (?_ : wE _ (.Tuple _ _ _) _ _ _)); refine ztup ?_)
    | ((with_reducible refine (?_ : wE _ (.List _ _) _ _ _)); refine zlst ?_)
    | ((with_reducible refine (?_ : wE _ (.UnaryOp _ _ _) _ _ _)); first | refine znotV ?_ | refine zneg ?_)
    | ((with_reducible refine (?_ : wE _ (.BoolOp _ _ _) _ _ _)); first | refine zandV ?_ | refine zorV ?_ | refine zoneV ?_))
  | ((with_reducible refine (?_ : bE _ _ _ _ _ _)); refine ⟨fun _ _ _ _ _ => ?_⟩) | ((with_reducible refine (?_ : bG _ _ _ _ _ _ _)); refine ⟨fun _ _ _ _ _ => ?_⟩) | ((with_reducible refine (?_ : bTs _ _ _ _ _ _)); refine ⟨fun _ _ _ _ _ => ?_⟩)
  | ((with_reducible refine (?_ : hE _ _ _ _ _ _)); refine ⟨fun _ _ _ _ _ => ?_⟩) | ((with_reducible refine (?_ : hG _ _ _ _ _ _ _)); refine ⟨fun _ _ _ _ _ => ?_⟩) | ((with_reducible refine (?_ : hTs _ _ _ _ _ _)); refine ⟨fun _ _ _ _ _ => ?_⟩)
  | ((with_reducible refine (?_ : wP _ _ _ _ _)); first | refine pnon ?_ | refine psom ?_) | ((with_reducible refine (?_ : wSl _ _ _ _ _ _)); first | refine slL (by one_place) (fun _ _ _ _ _ => ?_) | refine slS (by assumption) ?_)
  | ((with_reducible refine (?_ : wTs _ _ _ _ _)); first | refine tsnil ?_ | refine tsone ?_)
  | ((with_reducible refine (?_ : wA _ _ _ _ _)); first | refine acons ?_ | refine anil ?_)
  | ((with_reducible refine (?_ : wO _ _ _ _ _ _)); first
    | ((with_reducible refine (?_ : wO _ (binaryOp .Add) _ _ _ _)); first | refine oadd ?_ | refine ocatE (by one_item) (by one_item) (Nat.le_of_ble_eq_true rfl) (fun _ _ _ _ _ => ?_))
    | ((with_reducible refine (?_ : wO _ (binaryOp .Sub) _ _ _ _)); first | refine osub ?_)
    | ((with_reducible refine (?_ : wO _ (binaryOp .Mult) _ _ _ _)); first | refine omul (by first | exact IntMulOk.of_right (by decide) | exact IntMulOk.of_left (by decide) | exact IntMulOk.of_right (intBits_le_64 (by omega) (by omega)) | exact IntMulOk.of_left (intBits_le_64 (by omega) (by omega))) ?_)
    | ((with_reducible refine (?_ : wO _ (binaryOp .Mod) _ _ _ _)); first | refine omod (by first | decide | omega) ?_)
    | ((with_reducible refine (?_ : wO _ (binaryOp .FloorDiv) _ _ _ _)); first | refine ofdiv ⟨by first | decide | omega, by decide⟩ ?_)
    | ((with_reducible refine (?_ : wO _ (binaryOp .BitAnd) _ _ _ _)); first | refine oand ?_)
    | ((with_reducible refine (?_ : wO _ (binaryOp .BitOr) _ _ _ _)); first | refine oor ?_)
    | ((with_reducible refine (?_ : wO _ (compareOp .Lt) _ _ _ _)); first | refine olt ?_)
    | ((with_reducible refine (?_ : wO _ (compareOp .LtE) _ _ _ _)); first | refine ole ?_)
    | ((with_reducible refine (?_ : wO _ (compareOp .Gt) _ _ _ _)); first | refine ogt ?_)
    | ((with_reducible refine (?_ : wO _ (compareOp .GtE) _ _ _ _)); first | refine oge ?_)
    | ((with_reducible refine (?_ : wO _ (compareOp .Eq) _ _ _ _)); first | refine oeqi ?_ | refine oeqsT (by decide +kernel) ?_ | refine oeqsF (by decide +kernel) ?_ | refine oeq (by rfl) ?_)
    | ((with_reducible refine (?_ : wO _ (compareOp .NotEq) _ _ _ _)); first | refine onei ?_ | refine onesT (by decide +kernel) ?_ | refine onesF (by decide +kernel) ?_ | refine one (by rfl) ?_)
    | ((with_reducible refine (?_ : wO _ (compareOp .In) _ _ _ _)); first | refine oin ?_)
    | ((with_reducible refine (?_ : wO _ (compareOp .NotIn) _ _ _ _)); first | refine onin ?_)
    | ((with_reducible refine (?_ : wO _ (compareOp .Is) _ _ _ _)); first | refine ois ?_)
    | ((with_reducible refine (?_ : wO _ (compareOp .IsNot) _ _ _ _)); first | refine onot ?_)
    | ((with_reducible refine (?_ : wO _ (binaryOp .RShift) _ _ _ _)); refine oshr (by first | decide | omega) ?_)
    | ((with_reducible refine (?_ : wO _ (binaryOp .BitXor) _ _ _ _)); refine oxor ?_)
    | ((with_reducible refine (?_ : wO _ (inplaceOp .BitXor) _ _ _ _)); refine ixor ?_)
    | ((with_reducible refine (?_ : wO _ (inplaceOp .RShift) _ _ _ _)); refine ishr (by first | decide | omega) ?_)
    | ((with_reducible refine (?_ : wO _ (inplaceOp .BitOr) _ _ _ _)); first | refine ior ?_)
    | ((with_reducible refine (?_ : wO _ (inplaceOp .Add) _ _ _ _)); first | refine iadd ?_))
  | ((with_reducible refine (?_ : wT _ _ _ _ _)); first
    | ((with_reducible refine (?_ : wT _ (.Compare _ _ _ _) _ _ _)); first | refine zcmpT (by rfl) ?_ | refine zchainT ?_)
    | ((with_reducible refine (?_ : wT _ (.UnaryOp _ _ _) _ _ _)); refine znotT ?_)
    | ((with_reducible refine (?_ : wT _ (.BoolOp _ _ _) _ _ _)); refine zW ?_)
    | refine zval ?_)
  | ((with_reducible refine (?_ : wW _ _ _ _ _)); first | refine zand ?_ | refine zor ?_ | refine zand1 ?_ | refine zor1 ?_)
  | ((with_reducible refine (?_ : wK _ _ _ _ _)); first
    | ((with_reducible refine (?_ : wK _ (.builtin "len") _ _ _)); first | refine klenL (by one_place) ?_ | refine klenT (by one_place) ?_ | refine klenS (by assumption) ?_)
    | ((with_reducible refine (?_ : wK _ (.builtin "isinstance") _ _ _)); first | refine kisE (by assumption) (by assumption) (by first | assumption | exact Xd.exx (by assumption) (by one_sign)) (by first | exact .own _ | exact .ty _) (by assumption) ?_ | refine kisi (.ty _) (by assumption) (by assumption) ?_ | refine kisi (.ty _) (.base (by first | exact .int _ | exact .bl _ | exact .str _ | exact .non | exact .tup (by one_item) | exact .lst (by one_item))) (kit_ty (r := true) (by rfl)) ?_ | refine kisi (.ty _) (.base (by first | exact .int _ | exact .bl _ | exact .str _ | exact .non | exact .tup (by one_item) | exact .lst (by one_item))) (kit_ty (r := false) (by rfl)) ?_)
    | ((with_reducible refine (?_ : wK _ (.builtin "divmod") _ _ _)); refine kdivmod ⟨by first | decide | omega, by decide⟩ (fun _ _ _ _ _ => ?_))
    | ((with_reducible refine (?_ : wK _ (.builtin "min") _ _ _)); refine kmin (by rfl) ?_)
    | ((with_reducible refine (?_ : wK _ (.builtin "max") _ _ _)); refine kmax (by rfl) ?_)
    | ((with_reducible refine (?_ : wK _ (.type "list") _ _ _)); first | refine klistL (by one_place) (fun _ _ _ _ _ => ?_) | refine klistT (by one_place) (fun _ _ _ _ _ => ?_))
    | ((with_reducible refine (?_ : wK _ (.type "tuple") _ _ _)); first | refine ktupL (by one_place) (fun _ _ _ _ _ => ?_)))
  | ((with_reducible refine (?_ : wS _ _ _ _ _)); first
    | ((with_reducible refine (?_ : wS _ (.Assign [.Name _ _] _ _) _ _ _)); refine sset' (by assumption) (by rfl) (by first | exact Or.inl rfl | exact Or.inr rfl) (by rfl) (by first | exact .inl rfl | exact .inr rfl) ?_)
    | ((with_reducible refine (?_ : wS _ (.AugAssign (.Name _ _) _ _ _) _ _ _)); refine saug' (by assumption) (by rfl) (by first | exact Or.inl rfl | exact Or.inr rfl) (by first | exact .inl rfl | exact .inr rfl) (by rfl) ?_)
    | ((with_reducible refine (?_ : wS _ (.Assign [.Attribute _ _ _] _ _) _ _ _)); refine sfld ?_)
    | ((with_reducible refine (?_ : wS _ (.Expr _ _) _ _ _)); refine sexp ?_)
    | ((with_reducible refine (?_ : wS _ (.Assign [.Tuple _ _ _] _ _) _ _ _)); refine sasg ?_) | ((with_reducible refine (?_ : wS _ (.Assign [.Subscript _ _ _] _ _) _ _ _)); refine sasg ?_)
    | refine sret ?_ | refine sif ?_ | refine sretN ?_ | refine spass ?_ | refine sbrk ?_ | refine scont ?_)
  | ((with_reducible refine (?_ : wG _ (.Name _ _) _ _ _ _)); refine gname' (by assumption) (by rfl) (by first | exact Or.inl rfl | exact Or.inr rfl) (by first | exact .inl rfl | exact .inr rfl) ?_)
  | ((with_reducible refine (?_ : wG _ (.Tuple _ _ _) _ _ _ _)); refine gtup rfl (by one_place) rfl ?_) | ((with_reducible refine (?_ : wG _ (.Subscript _ _ _) _ _ _ _)); refine gsub ?_)
  | ((with_reducible refine (?_ : wGs _ _ _ _ _ _)); first | refine gscons ?_ | refine gsnil ?_)
  | ((with_reducible refine (?_ : wB _ _ _ _ _)); first | refine bcons ?_ | refine bnil ?_)
  | refine ifT ?_ | refine ifF ?_ | refine ifd (fun _ => ?_) (fun _ => ?_) | refine ifnd (fun _ => ?_) (fun _ => ?_) | refine ⟨_, rfl, ?_⟩ | refine ⟨rfl, Evl.Ex.refl _, ?_⟩ | refine ⟨_, _, _, _, _, rfl, by one_item, by assumption, by assumption, by rfl, ?_⟩ | refine ⟨Nat.le_of_ble_eq_true rfl, fun _ _ _ _ _ => ?_⟩ | fail)
local macro_rules | `(tactic| top_name) => `(tactic| repeat' tb_rel)
local macro_rules | `(tactic| nest_fact) => `(tactic| first | exact ⟨(decide_eq_true (by omega)).symm, rfl⟩ | exact ⟨(decide_eq_false (by omega)).symm, rfl⟩ | exact ⟨decide_eq_decide.mpr (by omega), rfl⟩ | fail)
/-! ### the check -/
def RowAt (K : PySem.W.Frag) (H : Hp) (l : Addr) (xs : List Int) : Prop := H l = some (.lst (xs.map V.int)) ∨ H l = some (.tup (xs.map V.int))
def Bytes (xs : List Int) : Prop := ∀ x ∈ xs, 0 ≤ x ∧ x < 256
theorem RowAt.ex {H H' : Hp} {l : Addr} {xs : List Int} (h : RowAt K H l xs) (e : Ex H H') : RowAt K H' l xs := h.elim (fun h => .inl (e _ _ h)) fun h => .inr (e _ _ h)
theorem all_true : ∀ ns : List Int, (ns.map fun _ => true).all id = true
  | [] => rfl
  | _ :: ns => all_true ns
theorem RowAt.ask {H : Hp} {l : Addr} {xs : List Int} (h : RowAt K H l xs) (hb : Bytes xs) (hz : xs.length ≤ sizeLine) : RowAsk K H (.ref l) true := by
  have a := AskedAll.ints (K := K) (H := H) (lo := 0) (hi := 255) (ns := xs) fun n hn => by have := hb n hn; omega
  have e := all_true xs
  rcases h with h | h
  · rw [← e]; exact .lst h a (by rw [List.length_map]; exact hz)
  · rw [← e]; exact .tup h a (by rw [List.length_map]; exact hz)
theorem lforR {X : Cx} {σ : Z.St} {H : Hp} {tg e : Expr} {body : List Stmt} {pos : Pos} {D : Ends} {l : Addr} {xs : List Int} (hp : PassesOwn (model X.prog X.w) X.A X.env X.xe) (hc : X.calm = true) (hrow : RowAt X.K H l xs) (he : ∀ Q : VK, Q (.ref l) H → wE X e σ H Q) (Pv : Nat → Z.St → Hp → Prop) (h0 : Pv 0 σ H)
    (hx : ∀ i σ' H', i ≤ xs.length → Pv i σ' H' → Ex H H') (ht : ∀ i b σ' H', xs[i]? = some b → Pv i σ' H' → wG X tg (.int b) σ' H' fun σ2 H2 => wB X body { D with nx := Pv (i + 1), ct := Pv (i + 1), bk := D.nx } σ2 H2) (hd : ∀ σ' H', Pv xs.length σ' H' → D.nx σ' H')
    (hs : ∀ x, foldedSetIterable e X.env x = pure x := by intro _; rfl) : wS X (.For tg e body [] pos) D σ H := by
  have turn : ∀ i x σ' H', (xs.map V.int)[i]? = some x → Pv i σ' H' → wG X tg x σ' H' fun σ2 H2 => wB X body { D with nx := Pv (i + 1), ct := Pv (i + 1), bk := D.nx } σ2 H2 := fun i x σ' H' h z => by
    rw [List.getElem?_map] at h
    cases hb : xs[i]? with
    | none => rw [hb] at h; cases h
    | some b => rw [hb] at h; cases h; exact ht i b σ' H' hb z
  rcases hrow with h | h
  · exact lforL (xs := xs.map V.int) hp hc Pv (he _ ⟨l, rfl, SqL.of h, h0, fun i σ' H' hi z => SqL.of (hx i σ' H' (by rwa [List.length_map] at hi) z _ _ h), turn, fun σ' H' z => hd σ' H' (by rwa [List.length_map] at z)⟩) hs
  · exact lforT (xs := xs.map V.int) hp hc Pv (he _ ⟨l, rfl, SqT.of h, h0, fun i σ' H' hi z => SqT.of (hx i σ' H' (by rwa [List.length_map] at hi) z _ _ h), turn, fun σ' H' z => hd σ' H' (by rwa [List.length_map] at z)⟩) hs
theorem zlcR {X : Cx} {σ : Z.St} {H : Hp} {elt tg e : Expr} {ifs : List Expr} {scope : Scope} {pos : Pos} {Q : VK} {l : Addr} {xs : List Int} (hc : X.calm = true) (hN : X.N.Nodup) (own : List (Str × Nat)) (ok : BlkOk X.N X.env.scope scope own) (hrow : RowAt X.K H l xs) (he : ∀ Q : VK, Q (.ref l) H → wE X e σ H Q) (acc : Nat → List V) (h0 : acc 0 = [])
    (ht : ∀ j b H', xs[j]? = some b → Ex H H' → turnA X scope tg ifs elt (own.map (·.2)) acc j (.int b) σ H') (fin : ∀ L H', H L = none → Ex H H' → H' L = some (.lst (acc xs.length)) → Q (.ref L) H') (hs : ∀ x, foldedSetIterable e X.env x = pure x := by intro _; rfl) : wE X (.ListComp elt [⟨tg, e, ifs, 0⟩] scope pos) σ H Q := by
  have turn : ∀ j x H', (xs.map V.int)[j]? = some x → Ex H H' → turnA X scope tg ifs elt (own.map (·.2)) acc j x σ H' := fun j x H' h z => by
    rw [List.getElem?_map] at h
    cases hb : xs[j]? with
    | none => rw [hb] at h; cases h
    | some b => rw [hb] at h; cases h; exact ht j b H' hb z
  rcases hrow with h | h
  · exact zlc hc hN own ok piL (tmL (xs := xs.map V.int) acc h0 (he _ ⟨l, rfl, SqL.of h, turn, fun L H' a b c => fin L H' a b (by rwa [List.length_map] at c)⟩)) hs
  · exact zlc hc hN own ok piT (tmT (xs := xs.map V.int) acc h0 (he _ ⟨l, rfl, SqT.of h, turn, fun L H' a b c => fin L H' a b (by rwa [List.length_map] at c)⟩)) hs
def sp_check (K : PySem.W.Frag) : Sp := fun vs H Q E => (∃ (l : Addr) (xs : List Int), vs = [.ref l] ∧ RowAt K H l xs ∧ Bytes xs ∧ xs.length ≤ sizeLine ∧ ∀ H', Ex H H' → Q (.int ((crc 65535 xs : Nat) : Int)) H') ∨ ∃ u, vs = [u] ∧ RowAsk K H u false ∧ ∀ H', Ex H H' → E (.ref (He.ga K "BadRow")) none H'
theorem ok_check (T : Txt K mg) : Gf P w K mg base 4 "check" [] (sp_check K) := by
  refine gf_mk T.f_check T.m_check (fun _ _ _ _ _ _ us hl => match us, hl with | [_], _ => rfl) fun fd F => fn_mk F sc_check (fun vs H Q E h => ?_) fun cd A outer s H vs Q E hr tk po h => ?_
  · rcases h with ⟨l, xs, rfl, _⟩ | ⟨u, rfl, _⟩ <;> rfl
  · have nd := sc_check.nd
    have n1 := T.n_range
    have g1 := T.g_FIRST_CHECK
    have g2 := T.g_STEP
    rcases h with ⟨l, xs, rfl, hrow, hb, hz, q⟩ | ⟨u, rfl, ha, q⟩
    · top_name
      refine zcall (ok_need_row T) hr (by decide) tk rfl ?_
      top_name
      refine ⟨.ref l, true, rfl, hrow.ask hb hz, ?_⟩
      rw [if_pos rfl]
      intro H1 e1
      top_name
      refine lforR po rfl (hrow.ex e1) (fun Q h => by top_name; exact h) (fun i σ H' => H1 = H' ∧ ∃ (v2 v3 v4 : Option V), σ = [some (.ref l), some (.int ((crc 65535 (xs.take i) : Nat) : Int)), v2, v3, v4]) ⟨rfl, _, _, _, rfl⟩ (fun i σ' H' _ z => by obtain ⟨rfl, _⟩ := z; exact Evl.Ex.refl _) ?_ ?_
      · rintro i b σ H2 hx ⟨rfl, v2, v3, v4, rfl⟩
        have hb2 := hb b (List.mem_of_getElem? hx)
        have hc := crc_lt (f := 65535) (by decide) (xs.take i)
        generalize hf : crc 65535 (xs.take i) = f at hc ⊢
        top_name
        refine oshl (shl_ok (n := 8) (j := 8) (by omega) (by decide)) ?_
        have e8 : Builtin.bitXor (f : Int) (b * 2 ^ (8 : Int).toNat) = ((f ^^^ (b.toNat * 256) : Nat) : Int) := by
          show Builtin.bitXor (f : Int) (b * 256) = _
          rw [_root_.Bits.bitXor_pp (by omega) (by omega), Int.toNat_natCast, show (b * 256).toNat = b.toNat * 256 from by omega]
        refine ixor ?_
        rw [e8]
        have hg : f ^^^ (b.toNat * 256) < 65536 := Nat.xor_lt_two_pow (n := 16) hc (by omega)
        refine bcons (lfor1 (n := 8) n1 po rfl (fun i' σ H' => H1 = H' ∧ ∃ (v3 v4 : Option V), σ = [some (.ref l), some (.int ((pTurns (f ^^^ (b.toNat * 256)) i' : Nat) : Int)), some (.int b), v3, v4]) rfl ?_)
        top_name
        refine ⟨rfl, by decide, by decide, ⟨rfl, _, _, rfl⟩, ?_, ?_⟩
        · rintro i' σ H3 hi' ⟨rfl, v3, v4, rfl⟩
          have hp := pTurns_lt hg i'
          have hst : pTurns (f ^^^ (b.toNat * 256)) (i' + 1) = pStep (pTurns (f ^^^ (b.toNat * 256)) i') := rfl
          generalize pTurns (f ^^^ (b.toNat * 256)) i' = p at hp hst ⊢
          rw [hst]
          unfold pStep
          top_name
          refine oshl (shl_ok (n := 16) (j := 1) (by omega) (by decide)) ?_
          have d1 : (p : Int) / 2 ^ (15 : Int).toNat = ((p / 32768 : Nat) : Int) := by show (p : Int) / 32768 = _; omega
          have d2 : Builtin.bitAnd ((p : Int) * 2 ^ (1 : Int).toNat) 65535 = ((p * 2 % 65536 : Nat) : Int) := by
            rw [show (65535 : Int) = 2 ^ 16 - 1 from rfl, _root_.Bits.bitAnd_mask 16 (by show (0 : Int) ≤ (p : Int) * 2; omega)]
            show ((p : Int) * 2) % 65536 = _
            omega
          have d3 : Builtin.bitXor ((p * 2 % 65536 : Nat) : Int) 4129 = (((p * 2 % 65536) ^^^ 4129 : Nat) : Int) := by
            rw [_root_.Bits.bitXor_pp (by omega) (by omega)]
            rfl
          rw [d1]
          top_name
          · rename_i h
            refine ⟨rfl, some (.int (i' : Int)), some (.int ((p / 32768 : Nat) : Int)), ?_⟩
            rw [if_pos (by omega)]
            show [_, some (V.int (Builtin.bitXor (Builtin.bitAnd ((p : Int) * 2 ^ (1 : Int).toNat) 65535) 4129)), _, _, _] = _
            rw [d2, d3]
          · rename_i h
            refine ⟨rfl, some (.int (i' : Int)), some (.int ((p / 32768 : Nat) : Int)), ?_⟩
            rw [if_neg (by omega)]
            show [_, some (V.int (Builtin.bitAnd ((p : Int) * 2 ^ (1 : Int).toNat) 65535)), _, _, _] = _
            rw [d2]
        · rintro σ H3 ⟨rfl, v3, v4, rfl⟩
          top_name
          refine ⟨rfl, some (.int b), v3, v4, ?_⟩
          rw [crc_take hx, hf]
          rfl
      · rintro σ H2 ⟨rfl, v2, v3, v4, rfl⟩
        rw [List.take_length]
        top_name
        exact q _ e1
    · top_name
      refine zcall (ok_need_row T) hr (by decide) tk rfl ?_
      top_name
      exact ⟨u, false, rfl, ha, by rw [if_neg Bool.false_ne_true]; exact q⟩
end K06

set_option maxRecDepth 100000
set_option maxHeartbeats 4000000
set_option pp.maxSteps 1500
namespace K06
open PySem PySem.Spec PyProof.Rows L2 Z
open Evl (Ex)
variable {P : Program} {w : World} {K : PySem.W.Frag} {mg : Str → Option Value} {base : Heap}
/-! ### steps of the walk: one_sign: a heap grew into another; one_item: what stands at an address; one_place: a list or tuple to be read; leaf_len: arithmetic; tb_rel: one step; top_name: steps as far as they go -/
local macro_rules | `(tactic| got_up) => `(tactic| (refine Evl.Ex.trans (by assumption) ?_; first | assumption | exact Evl.Ex.refl _ | got_up))
local macro_rules | `(tactic| units_room) => `(tactic| (refine Evl.Ex.trans ?_ (by assumption); first | assumption | exact Evl.Ex.refl _ | units_room))
local macro_rules | `(tactic| one_sign) => `(tactic| first | assumption | exact Evl.Ex.refl _ | got_up | units_room)
local macro_rules | `(tactic| one_item) => `(tactic| first | assumption | exact upd_same | exact exa (by assumption) (by one_sign))
local macro_rules | `(tactic| one_place) => `(tactic| first | assumption | exact SqL.of (by assumption) | exact SqT.of (by assumption) | exact exl (by assumption) (by one_sign) | exact ext (by assumption) (by one_sign) | exact SqL.of (by one_item) | exact SqT.of (by one_item))
local macro_rules | `(tactic| leaf_len) => `(tactic| first | assumption | decide | omega)
local macro_rules | `(tactic| tb_rel) => `(tactic| first
  | ((with_reducible refine (?_ : wE _ _ _ _ _)); first
    | ((with_reducible refine (?_ : wE _ (.Name _ _) _ _ _)); first | refine zn (by rfl) (by first | exact Or.inl rfl | exact Or.inr (Or.inl rfl) | exact Or.inr (Or.inr rfl)) (by rfl) ?_ | refine zglob (by assumption) (by rfl) ?_ | refine zcls (by assumption) (by rfl) ?_ | refine zty (by assumption) (by first | exact bt_int | exact bt_bool | exact bt_str | exact bt_list | exact bt_tuple | exact bt_dict | exact bt_ValueError) (by rfl) ?_)
    | ((with_reducible refine (?_ : wE _ (.Attribute _ _ _) _ _ _)); refine zfld ?_)
    | ((with_reducible refine (?_ : wE _ (.Constant _ _ _) _ _ _)); first | refine zint ?_ | refine zstr ?_ | refine zbl ?_ | refine znon ?_)
    | ((with_reducible refine (?_ : wE _ (.BinOp _ _ _ _) _ _ _)); refine zbin ?_)
    | ((with_reducible refine (?_ : wE _ (.Compare _ _ _ _) _ _ _)); first | refine zcmp (by rfl) ?_ | refine zchain ?_)
    | ((with_reducible refine (?_ : wE _ (.Dict [] [] _) _ _ _)); refine zdnew (fun _ _ _ _ _ => ?_))
    | ((with_reducible refine (?_ : wE _ (.Subscript _ (.Slice _ _ _ _) _) _ _ _)); refine zsl ?_)
    | ((with_reducible refine (?_ : wE _ (.Subscript _ _ _) _ _ _)); refine zix ?_)
    | ((with_reducible refine (?_ : wE _ (.Call (.Name "list" _) [.Call (.Name "range" _) [_] [] _] [] _) _ _ _)); refine zlrg1 rfl (by rfl) (by assumption) (by rfl) (by assumption) ?_)
    | ((with_reducible refine (?_ : wE _ (.Call (.Name _ _) _ _ _) _ _ _)); first
      | ((with_reducible refine (?_ : wE _ (.Call (.Name "len" _) _ _ _) _ _ _)); refine zbfn (by assumption) bt_len (by rfl) ?_)
      | ((with_reducible refine (?_ : wE _ (.Call (.Name "isinstance" _) _ _ _) _ _ _)); refine zbfn (by assumption) bt_isi (by rfl) ?_)
      | ((with_reducible refine (?_ : wE _ (.Call (.Name "min" _) _ _ _) _ _ _)); refine zbfn (by assumption) bt_min (by rfl) ?_)
      | ((with_reducible refine (?_ : wE _ (.Call (.Name "max" _) _ _ _) _ _ _)); refine zbfn (by assumption) bt_max (by rfl) ?_)
      | ((with_reducible refine (?_ : wE _ (.Call (.Name "list" _) _ _ _) _ _ _)); refine zbty (by assumption) bt_list (by rfl) ?_)
      | ((with_reducible refine (?_ : wE _ (.Call (.Name "tuple" _) _ _ _) _ _ _)); refine zbty (by assumption) bt_tuple (by rfl) ?_)
      | ((with_reducible refine (?_ : wE _ (.Call (.Name "int" _) _ _ _) _ _ _)); refine zbty (by assumption) bt_int (by rfl) ?_)
      | ((with_reducible refine (?_ : wE _ (.Call (.Name "abs" _) _ _ _) _ _ _)); refine zbfn (by assumption) bt_abs (by rfl) ?_)
      | ((with_reducible refine (?_ : wE _ (.Call (.Name "all" _) _ _ _) _ _ _)); refine zbfn (by assumption) bt_all (by rfl) ?_)
      | ((with_reducible refine (?_ : wE _ (.Call (.Name "sum" _) _ _ _) _ _ _)); refine zbfn (by assumption) bt_sum (by rfl) ?_)
      | ((with_reducible refine (?_ : wE _ (.Call (.Name "divmod" _) _ _ _) _ _ _)); refine zbfn (by assumption) bt_divmod (by rfl) ?_)
      | ((with_reducible refine (?_ : wE _ (.Call (.Name "ord" _) _ _ _) _ _ _)); refine zbfn (by assumption) bt_ord (by rfl) ?_))
    | ((with_reducible refine (?_ : wE _ (.IfExp _ _ _ _) _ _ _)); refine zif ?_)
    | ((with_reducible refine (?_ : wE _ (.Tuple _ _ _) _ _ _)); refine ztup ?_)
    | ((with_reducible refine (?_ : wE _ (.List _ _) _ _ _)); refine zlst ?_)
    | ((with_reducible refine (?_ : wE _ (.UnaryOp _ _ _) _ _ _)); first | refine znotV ?_ | refine zneg ?_)
    | ((with_reducible refine (?_ : wE _ (.BoolOp _ _ _) _ _ _)); first | refine zandV ?_ | refine zorV ?_ | refine zoneV ?_))
  | ((with_reducible refine (?_ : bE _ _ _ _ _ _)); refine ⟨fun _ _ _ _ _ => ?_⟩) | ((with_reducible refine (?_ : bG _ _ _ _ _ _ _)); refine ⟨fun _ _ _ _ _ => ?_⟩) | ((with_reducible refine (?_ : bTs _ _ _ _ _ _)); refine ⟨fun _ _ _ _ _ => ?_⟩)
  | ((with_reducible refine (?_ : hE _ _ _ _ _ _)); refine ⟨fun _ _ _ _ _ => ?_⟩) | ((with_reducible refine (?_ : hG _ _ _ _ _ _ _)); refine ⟨fun _ _ _ _ _ => ?_⟩) | ((with_reducible refine (?_ : hTs _ _ _ _ _ _)); refine ⟨fun _ _ _ _ _ => ?_⟩)
  | ((with_reducible refine (?_ : wP _ _ _ _ _)); first | refine pnon ?_ | refine psom ?_) | ((with_reducible refine (?_ : wSl _ _ _ _ _ _)); first | refine slL (by one_place) (fun _ _ _ _ _ => ?_) | refine slS (by assumption) ?_)
  | ((with_reducible refine (?_ : wTs _ _ _ _ _)); first | refine tsnil ?_ | refine tsone ?_)
  | ((with_reducible refine (?_ : wA _ _ _ _ _)); first | refine acons ?_ | refine anil ?_)
  | ((with_reducible refine (?_ : wO _ _ _ _ _ _)); first
    | ((with_reducible refine (?_ : wO _ (binaryOp .Add) _ _ _ _)); first | refine oadd ?_ | refine ocatE (by one_item) (by one_item) (Nat.le_of_ble_eq_true rfl) (fun _ _ _ _ _ => ?_))
    | ((with_reducible refine (?_ : wO _ (binaryOp .Sub) _ _ _ _)); first | refine osub ?_)
    | ((with_reducible refine (?_ : wO _ (binaryOp .Mult) _ _ _ _)); first | refine omul (by first | exact IntMulOk.of_right (by decide) | exact IntMulOk.of_left (by decide) | exact IntMulOk.of_right (intBits_le_64 (by omega) (by omega)) | exact IntMulOk.of_left (intBits_le_64 (by omega) (by omega))) ?_)
    | ((with_reducible refine (?_ : wO _ (binaryOp .Mod) _ _ _ _)); first | refine omod (by first | decide | omega) ?_)
    | ((with_reducible refine (?_ : wO _ (binaryOp .FloorDiv) _ _ _ _)); first | refine ofdiv ⟨by first | decide | omega, by decide⟩ ?_)
    | ((with_reducible refine (?_ : wO _ (binaryOp .BitAnd) _ _ _ _)); first | refine oand ?_)
    | ((with_reducible refine (?_ : wO _ (binaryOp .BitOr) _ _ _ _)); first | refine oor ?_)
    | ((with_reducible refine (?_ : wO _ (compareOp .Lt) _ _ _ _)); first | refine olt ?_)
    | ((with_reducible refine (?_ : wO _ (compareOp .LtE) _ _ _ _)); first | refine ole ?_)
    | ((with_reducible refine (?_ : wO _ (compareOp .Gt) _ _ _ _)); first | refine ogt ?_)
    | ((with_reducible refine (?_ : wO _ (compareOp .GtE) _ _ _ _)); first | refine oge ?_)
    | ((with_reducible refine (?_ : wO _ (compareOp .Eq) _ _ _ _)); first | refine oeqi ?_ | refine oeqsT (by decide +kernel) ?_ | refine oeqsF (by decide +kernel) ?_ | refine oeq (by rfl) ?_)
    | ((with_reducible refine (?_ : wO _ (compareOp .NotEq) _ _ _ _)); first | refine onei ?_ | refine onesT (by decide +kernel) ?_ | refine onesF (by decide +kernel) ?_ | refine one (by rfl) ?_)
    | ((with_reducible refine (?_ : wO _ (compareOp .In) _ _ _ _)); first | refine oin ?_)
    | ((with_reducible refine (?_ : wO _ (compareOp .NotIn) _ _ _ _)); first | refine onin ?_)
    | ((with_reducible refine (?_ : wO _ (compareOp .Is) _ _ _ _)); first | refine ois ?_)
    | ((with_reducible refine (?_ : wO _ (compareOp .IsNot) _ _ _ _)); first | refine onot ?_)
    | ((with_reducible refine (?_ : wO _ (binaryOp .RShift) _ _ _ _)); refine oshr (by first | decide | omega) ?_)
    | ((with_reducible refine (?_ : wO _ (binaryOp .BitXor) _ _ _ _)); refine oxor ?_)
    | ((with_reducible refine (?_ : wO _ (inplaceOp .BitXor) _ _ _ _)); refine ixor ?_)
    | ((with_reducible refine (?_ : wO _ (inplaceOp .RShift) _ _ _ _)); refine ishr (by first | decide | omega) ?_)
    | ((with_reducible refine (?_ : wO _ (inplaceOp .BitOr) _ _ _ _)); first | refine ior ?_)
    | ((with_reducible refine (?_ : wO _ (inplaceOp .Add) _ _ _ _)); first | refine iadd ?_))
  | ((with_reducible refine (?_ : wT _ _ _ _ _)); first
    | ((with_reducible refine (?_ : wT _ (.Compare _ _ _ _) _ _ _)); first | refine zcmpT (by rfl) ?_ | refine zchainT ?_)
    | ((with_reducible refine (?_ : wT _ (.UnaryOp _ _ _) _ _ _)); refine znotT ?_)
    | ((with_reducible refine (?_ : wT _ (.BoolOp _ _ _) _ _ _)); refine zW ?_)
    | refine zval ?_)
  | ((with_reducible refine (?_ : wW _ _ _ _ _)); first | refine zand ?_ | refine zor ?_ | refine zand1 ?_ | refine zor1 ?_)
  | ((with_reducible refine (?_ : wK _ _ _ _ _)); first
    | ((with_reducible refine (?_ : wK _ (.builtin "len") _ _ _)); first | refine klenL (by one_place) ?_ | refine klenT (by one_place) ?_ | refine klenS (by assumption) ?_)
    | ((with_reducible refine (?_ : wK _ (.builtin "isinstance") _ _ _)); first | refine kisE (by assumption) (by assumption) (by first | assumption | exact Xd.exx (by assumption) (by one_sign)) (by first | exact .own _ | exact .ty _) (by assumption) ?_ | refine kisi (.ty _) (by assumption) (by assumption) ?_ | refine kisi (.ty _) (.base (by first | exact .int _ | exact .bl _ | exact .str _ | exact .non | exact .tup (by one_item) | exact .lst (by one_item))) (kit_ty (r := true) (by rfl)) ?_ | refine kisi (.ty _) (.base (by first | exact .int _ | exact .bl _ | exact .str _ | exact .non | exact .tup (by one_item) | exact .lst (by one_item))) (kit_ty (r := false) (by rfl)) ?_)
    | ((with_reducible refine (?_ : wK _ (.builtin "divmod") _ _ _)); refine kdivmod ⟨by first | decide | omega, by decide⟩ (fun _ _ _ _ _ => ?_))
    | ((with_reducible refine (?_ : wK _ (.builtin "min") _ _ _)); refine kmin (by rfl) ?_)
    | ((with_reducible refine (?_ : wK _ (.builtin "max") _ _ _)); refine kmax (by rfl) ?_)
    | ((with_reducible refine (?_ : wK _ (.type "list") _ _ _)); first | refine klistL (by one_place) (fun _ _ _ _ _ => ?_) | refine klistT (by one_place) (fun _ _ _ _ _ => ?_))
    | ((with_reducible refine (?_ : wK _ (.type "tuple") _ _ _)); first | refine ktupL (by one_place) (fun _ _ _ _ _ => ?_)))
  | ((with_reducible refine (?_ : wS _ _ _ _ _)); first
    | ((with_reducible refine (?_ : wS _ (.Assign [.Name _ _] _ _) _ _ _)); refine sset' (by assumption) (by rfl) (by first | exact Or.inl rfl | exact Or.inr rfl) (by rfl) (by first | exact .inl rfl | exact .inr rfl) ?_)
    | ((with_reducible refine (?_ : wS _ (.AugAssign (.Name _ _) _ _ _) _ _ _)); refine saug' (by assumption) (by rfl) (by first | exact Or.inl rfl | exact Or.inr rfl) (by first | exact .inl rfl | exact .inr rfl) (by rfl) ?_)
    | ((with_reducible refine (?_ : wS _ (.Assign [.Attribute _ _ _] _ _) _ _ _)); refine sfld ?_)
    | ((with_reducible refine (?_ : wS _ (.Expr _ _) _ _ _)); refine sexp ?_)
    | ((with_reducible refine (?_ : wS _ (.Assign [.Tuple _ _ _] _ _) _ _ _)); refine sasg ?_) | ((with_reducible refine (?_ : wS _ (.Assign [.Subscript _ _ _] _ _) _ _ _)); refine sasg ?_)
    | refine sret ?_ | refine sif ?_ | refine sretN ?_ | refine spass ?_ | refine sbrk ?_ | refine scont ?_)
  | ((with_reducible refine (?_ : wG _ (.Name _ _) _ _ _ _)); refine gname' (by assumption) (by rfl) (by first | exact Or.inl rfl | exact Or.inr rfl) (by first | exact .inl rfl | exact .inr rfl) ?_)
  | ((with_reducible refine (?_ : wG _ (.Tuple _ _ _) _ _ _ _)); refine gtup rfl (by one_place) rfl ?_) | ((with_reducible refine (?_ : wG _ (.Subscript _ _ _) _ _ _ _)); refine gsub ?_)
  | ((with_reducible refine (?_ : wGs _ _ _ _ _ _)); first | refine gscons ?_ | refine gsnil ?_)
  | ((with_reducible refine (?_ : wB _ _ _ _ _)); first | refine bcons ?_ | refine bnil ?_)
  | refine ifT ?_ | refine ifF ?_ | refine ifd (fun _ => ?_) (fun _ => ?_) | refine ifnd (fun _ => ?_) (fun _ => ?_) | refine ⟨_, rfl, ?_⟩ | refine ⟨rfl, Evl.Ex.refl _, ?_⟩ | refine ⟨_, _, _, _, _, rfl, by one_item, by assumption, by assumption, by rfl, ?_⟩ | refine ⟨Nat.le_of_ble_eq_true rfl, fun _ _ _ _ _ => ?_⟩ | fail)
local macro_rules | `(tactic| top_name) => `(tactic| repeat' tb_rel)
local macro_rules | `(tactic| nest_fact) => `(tactic| first | exact ⟨(decide_eq_true (by omega)).symm, rfl⟩ | exact ⟨(decide_eq_false (by omega)).symm, rfl⟩ | exact ⟨decide_eq_decide.mpr (by omega), rfl⟩ | fail)
/-! ### number_at -/
/-- what is read: a number and the place behind it, or a refusal: its place, its word -/
inductive NR where
  | num (n p : Int)
  | bad (p : Int) (why : Str)
/-- bs: the bytes ahead of the end; i of them are read, the next one's place, what they are worth -/
def numGo : List Int → Nat → Int → Int → NR
  | [], _, p, _ => .bad p "cut"
  | b :: r, i, p, acc => if (i = 36 ∧ 15 < b) ∨ (b = 0 ∧ 0 < i) then .bad p "number" else if b < 128 then .num (acc + b % 128 * 128 ^ i) (p + 1) else numGo r (i + 1) (p + 1) (acc + b % 128 * 128 ^ i)
def numAt (xs : List Int) (a e : Int) : NR := numGo ((xs.take e.toNat).drop a.toNat) 0 a 0
/-- a refusal BadWire(p, why) as it is let out -/
def outWire (K : PySem.W.Frag) (H : Hp) (E : XK) (p : Int) (why : Str) : Prop := ∀ d H', H d = none → Ex H H' → H' d = some (.xd [("why", .str why), ("place", .int p)]) → E (.ref (He.ga K "BadWire")) (some d) H'
def spNR (K : PySem.W.Frag) (H : Hp) (Q : VK) (E : XK) : NR → Prop
  | .num n p => ∀ t H', H t = none → Ex H H' → H' t = some (.tup [.int n, .int p]) → Q (.ref t) H'
  | .bad p why => outWire K H E p why
def sp_number_at (K : PySem.W.Frag) : Sp := fun vs H Q E => ∃ (l : Addr) (xs : List Int) (a e : Int), vs = [.ref l, .int a, .int e] ∧ RowAt K H l xs ∧ Bytes xs ∧ 0 ≤ a ∧ a ≤ e ∧ e ≤ (xs.length : Int) ∧ e < 2 ^ 62 ∧ spNR K H Q E (numAt xs a e)
/-- BadWire's __init__ -/
theorem ok_BadWire_init {fd : FuncData} (F : FunD K "__init__" "BadWire.__init__" (defArgs s_BadWire_init) (defBody s_BadWire_init) (defScope s_BadWire_init) [] [] (He.fAd K ("BadWire", some "__init__")) fd) (T : Txt K mg) : FnOk P w K mg base CX0 1 (He.fAd K ("BadWire", some "__init__")) fd ["self", "place", "why"] (spI2 (He.ga K "BadWire") "place" "why") := by
  refine fn_mk0 F sc_BadWire_init (fun vs H Q E h => ?_) fun cd A outer s H vs Q E hr h => ?_
  · obtain ⟨a, y, z, rfl, _⟩ := h; rfl
  · obtain ⟨a, y, z, rfl, ha, q⟩ := h
    top_name
    refine sost ?_
    top_name
    refine ⟨a, He.ga K "BadWire", rfl, T.o_BadWire.o, T.a_BadWire_place, .inl ⟨ha, fun dx hd hda => ?_⟩⟩
    top_name
    refine sost ?_
    top_name
    refine ⟨a, He.ga K "BadWire", rfl, T.o_BadWire.o, T.a_BadWire_why, .inr ⟨dx, [("place", y)], upd_same, by rw [upd_ne hda, upd_same], by show 1 ≤ 900; decide, ?_⟩⟩
    top_name
    exact q dx hd hda
theorem bind_BadWire {fd : FuncData} (F : FunD K "__init__" "BadWire.__init__" (defArgs s_BadWire_init) (defBody s_BadWire_init) (defScope s_BadWire_init) [] [] (He.fAd K ("BadWire", some "__init__")) fd) : Binds K fd ["self", "place", "why"] [] := F.bindsN fun _ _ _ _ _ _ us hl => match us, hl with | [_, _, _], _ => rfl
section
variable {X : Cx} {σ : Z.St} {H : Hp} {e1 e2 : Expr} {p pos : Pos} {j : Nat}
/-- BadWire(e1, e2) -/
theorem mWire (T : Txt X.K X.mg) (hr : Room j X.A) (hk : 2 ≤ j) {Q : XK} (hg : Gl X "BadWire") (h : wA X [e1, e2] σ H fun vs H1 => ∃ (pl : Int) (why : Str), vs = [.int pl, .str why] ∧ outWire X.K H1 Q pl why)
    (he : starEach (e1 :: [e2]) X.env = (false, eval e1 X.env) :: starEach [e2] X.env := by rfl) (hpl : (backTo pos (starEach [e2] X.env)).any (·.1) = false := by rfl) : wM X (.Call (.Name "BadWire" p) [e1, e2] [] pos) σ H Q := by
  obtain ⟨fd, F⟩ := T.f_BadWire_init
  refine moex2 T.o_BadWire (ok_BadWire_init F T) (bind_BadWire F) T.m_BadWire hr hk hg ?_ (by decide) he hpl
  exact ⟨fun ps pins s I => thn (h.run ps pins s I) fun us s' ⟨vs, H1, J, r, pl, why, ev, q⟩ => ⟨vs, H1, J, r, .int pl, .str why, ev, q⟩⟩
end
theorem ixRow {X : Cx} {H : Hp} {Q : VK} {l : Addr} {xs : List Int} {i : Nat} {b z : Int} (h : RowAt X.K H l xs) (hi : xs[i]? = some b) (hz : z = (i : Int)) (q : Q (.int b) H) : wIx X (.ref l) (.int z) H Q := by
  subst hz
  rcases h with h | h
  · exact ixL (SqL.of h) (atI_nat (by rw [List.getElem?_map, hi]; rfl)) q
  · exact ixT (SqT.of h) (atI_nat (by rw [List.getElem?_map, hi]; rfl)) q
theorem ok_number_at (T : Txt K mg) : Gf P w K mg base 3 "number_at" [] (sp_number_at K) := by
  refine gf_mk T.f_number_at T.m_number_at (fun _ _ _ _ _ _ us hl => match us, hl with | [_, _, _], _ => rfl) fun fd F => fn_mk F sc_number_at (fun vs H Q E h => ?_) fun cd A outer s H vs Q E hr tk po h => ?_
  · obtain ⟨a, ns, k, e, rfl, _⟩ := h; rfl
  · obtain ⟨l, xs, a, e, rfl, hrow, hby, h0, h1, h2, h3, q⟩ := h
    have g1 := T.g_LOW
    have g2 := T.g_MORE
    have g3 := T.g_LAST_BYTE
    have g4 := T.g_MOST_LAST
    have n1 := T.n_range
    top_name
    refine sset 3 sc_number_at.nd ?_
    top_name
    have hlen : ((xs.take e.toNat).drop a.toNat).length = (e - a).toNat := by rw [List.length_drop, List.length_take]; omega
    refine lfor2 (lo := a) (n := e) n1 po rfl (fun i σ H' => Ex H H' ∧ ∃ (acc : Int) (v4 v5 : Option V), σ = [some (.ref l), some (.int a), some (.int e), some (.int acc), v4, v5] ∧ 0 ≤ acc ∧ acc < 128 ^ i ∧ i ≤ 36 ∧ numGo (((xs.take e.toNat).drop a.toNat).drop i) i (a + i) acc = numAt xs a e) rfl ?_
    top_name
    refine ⟨rfl, ?_⟩
    top_name
    refine ⟨rfl, ⟨by omega, by omega, by omega, h3⟩, ⟨Evl.Ex.refl _, 0, none, none, rfl, Int.le_refl _, by decide, by decide, by simp [numAt]⟩, ?_, ?_⟩
    · rintro i σ H1 hi ⟨ex, acc, v4, v5, rfl, p0, p1, p2, go⟩
      refine gname 4 sc_number_at.nd ?_
      have hb : ∃ b, ((xs.take e.toNat).drop a.toNat)[i]? = some b ∧ xs[a.toNat + i]? = some b := by
        refine ⟨((xs.take e.toNat).drop a.toNat)[i]'(by omega), List.getElem?_eq_getElem _, ?_⟩
        rw [List.getElem_drop, List.getElem_take, List.getElem?_eq_getElem]
      obtain ⟨b, hb1, hb2⟩ := hb
      have hb3 := hby b (List.mem_of_getElem? hb2)
      have hd : ((xs.take e.toNat).drop a.toNat).drop i = b :: ((xs.take e.toNat).drop a.toNat).drop (i + 1) := by
        obtain ⟨hlt, hv⟩ := List.getElem?_eq_some_iff.mp hb1
        rw [List.drop_eq_getElem_cons hlt, hv]
      rw [hd] at go
      unfold numGo at go
      top_name
      refine sset 5 sc_number_at.nd ?_
      top_name
      refine ixRow (hrow.ex ex) hb2 (by omega) ?_
      refine bcons (sif (tcut (decide ((i = 36 ∧ 15 < b) ∨ (b = 0 ∧ 0 < i))) ?_ ?_))
      · top_name
        all_goals nest_fact
      refine ifd (fun hc => ?_) (fun hc => ?_)
      · -- refused
        rw [if_pos hc] at go
        refine bcons (sraise rfl tk (mWire T hr (by decide) rfl ?_))
        top_name
        refine ⟨a + i, "number", rfl, ?_⟩
        rw [← go] at q
        exact fun d H' hd ee hx => q d H' (Evl.fresh_back ex hd) (ex.trans ee) hx
      · rw [if_neg hc] at go
        have hm : Builtin.bitAnd b 127 = b % 128 := _root_.Bits.bitAnd_mask 7 hb3.1
        have hi7 : 7 * (a + (i : Int) - a) = ((7 * i : Nat) : Int) := by omega
        have h128 : (128 : Int) ^ i = 2 ^ (7 * i) := by rw [Int.pow_mul]; rfl
        have m0 := Int.emod_nonneg b (by decide : (128 : Int) ≠ 0)
        have m1 := Int.emod_lt_of_pos b (by decide : (0 : Int) < 128)
        have pp : (0 : Int) < 128 ^ i := Int.pow_pos (by decide)
        refine bnil (bcons (saug 3 sc_number_at.nd rfl (ecut (.int (b % 128 * 128 ^ i)) ?_ (ior ?_))))
        · top_name
          rw [hm, hi7]
          refine oshl (shl_ok (n := 7) (by omega) (by omega)) ⟨?_, rfl⟩
          rw [Int.toNat_natCast, h128]
        rw [h128, _root_.Bits.bitOr_join p0 (by rw [← h128]; exact p1) m0, ← h128]
        have p3 : acc + b % 128 * 128 ^ i < 128 ^ (i + 1) := by
          have : (b % 128) * 128 ^ i ≤ 127 * 128 ^ i := Int.mul_le_mul_of_nonneg_right (by omega) (Int.le_of_lt pp)
          rw [Int.pow_succ]
          omega
        have p4 : 0 ≤ b % 128 * 128 ^ i := Int.mul_nonneg m0 (Int.le_of_lt pp)
        top_name
        · rename_i hlt t H2 ht e2 hx
          rw [if_pos hlt] at go
          rw [← go] at q
          exact q t H2 (Evl.fresh_back ex ht) (ex.trans e2) hx
        · rename_i hlt
          rw [if_neg hlt] at go
          refine ⟨ex, acc + b % 128 * 128 ^ i, _, _, rfl, by omega, p3, by omega, ?_⟩
          rw [← go]
          congr 1
          omega
    · rintro σ H1 ⟨ex, acc, v4, v5, rfl, p0, p1, p2, go⟩
      have hd : ((xs.take e.toNat).drop a.toNat).drop (e - a).toNat = [] := List.drop_eq_nil_of_le (by omega)
      rw [hd] at go
      unfold numGo at go
      rw [← go] at q
      refine bcons (sraise rfl tk (mWire T hr (by decide) rfl ?_))
      top_name
      refine ⟨e, "cut", rfl, ?_⟩
      have e1 : a + ((e - a).toNat : Int) = e := by omega
      rw [e1] at q
      exact fun d H' hd ee hx => q d H' (Evl.fresh_back ex hd) (ex.trans ee) hx
end K06

set_option maxRecDepth 100000
set_option maxHeartbeats 4000000
set_option pp.maxSteps 1500
namespace K06
open PySem PySem.Spec PyProof.Rows L2 Z
open Evl (Ex)
variable {P : Program} {w : World} {K : PySem.W.Frag} {mg : Str → Option Value} {base : Heap}
/-! ### steps of the walk: one_sign: a heap grew into another; one_item: what stands at an address; one_place: a list or tuple to be read; leaf_len: arithmetic; tb_rel: one step; top_name: steps as far as they go -/
local macro_rules | `(tactic| got_up) => `(tactic| (refine Evl.Ex.trans (by assumption) ?_; first | assumption | exact Evl.Ex.refl _ | got_up))
local macro_rules | `(tactic| units_room) => `(tactic| (refine Evl.Ex.trans ?_ (by assumption); first | assumption | exact Evl.Ex.refl _ | units_room))
local macro_rules | `(tactic| one_sign) => `(tactic| first | assumption | exact Evl.Ex.refl _ | got_up | units_room)
local macro_rules | `(tactic| one_item) => `(tactic| first | assumption | exact upd_same | exact exa (by assumption) (by one_sign))
local macro_rules | `(tactic| one_place) => `(tactic| first | assumption | exact SqL.of (by assumption) | exact SqT.of (by assumption) | exact exl (by assumption) (by one_sign) | exact ext (by assumption) (by one_sign) | exact SqL.of (by one_item) | exact SqT.of (by one_item))
local macro_rules | `(tactic| leaf_len) => `(tactic| first | assumption | decide | omega)
local macro_rules | `(tactic| tb_rel) => `(tactic| first
  | ((with_reducible refine (?_ : wE _ _ _ _ _)); first
    | ((with_reducible refine (?_ : wE _ (.Name _ _) _ _ _)); first | refine zn (by rfl) (by first | exact Or.inl rfl | exact Or.inr (Or.inl rfl) | exact Or.inr (Or.inr rfl)) (by rfl) ?_ | refine zglob (by assumption) (by rfl) ?_ | refine zcls (by assumption) (by rfl) ?_ | refine zty (by assumption) (by first | exact bt_int | exact bt_bool | exact bt_str | exact bt_list | exact bt_tuple | exact bt_dict | exact bt_ValueError) (by rfl) ?_)
    | ((with_reducible refine (?_ : wE _ (.Attribute _ _ _) _ _ _)); refine zfld ?_)
    | ((with_reducible refine (?_ : wE _ (.Constant _ _ _) _ _ _)); first | refine zint ?_ | refine zstr ?_ | refine zbl ?_ | refine znon ?_)
    | ((with_reducible refine (?_ : wE _ (.BinOp _ _ _ _) _ _ _)); refine zbin ?_)
    | ((with_reducible refine (?_ : wE _ (.Compare _ _ _ _) _ _ _)); first | refine zcmp (by rfl) ?_ | refine zchain ?_)
    | ((with_reducible refine (?_ : wE _ (.Dict [] [] _) _ _ _)); refine zdnew (fun _ _ _ _ _ => ?_))
    | ((with_reducible refine (?_ : wE _ (.Subscript _ (.Slice _ _ _ _) _) _ _ _)); refine zsl ?_)
    | ((with_reducible refine (?_ : wE _ (.Subscript _ _ _) _ _ _)); refine zix ?_)
    | ((with_reducible refine (?_ : wE _ (.Call (.Name "list" _) [.Call (.Name "range" _) [_] [] _] [] _) _ _ _)); refine zlrg1 rfl (by rfl) (by assumption) (by rfl) (by assumption) ?_)
    | ((with_reducible refine (?_ : wE _ (.Call (.Name _ _) _ _ _) _ _ _)); first
      | ((with_reducible refine (?_ : wE _ (.Call (.Name "len" _) _ _ _) _ _ _)); refine zbfn (by assumption) bt_len (by rfl) ?_)
      | ((with_reducible refine (?_ : wE _ (.Call (.Name "isinstance" _) _ _ _) _ _ _)); refine zbfn (by assumption) bt_isi (by rfl) ?_)
      | ((with_reducible refine (?_ : wE _ (.Call (.Name "min" _) _ _ _) _ _ _)); refine zbfn (by assumption) bt_min (by rfl) ?_)
      | ((with_reducible refine (?_ : wE _ (.Call (.Name "max" _) _ _ _) _ _ _)); refine zbfn (by assumption) bt_max (by rfl) ?_)
      | ((with_reducible refine (?_ : wE _ (.Call (.Name "list" _) _ _ _) _ _ _)); refine zbty (by assumption) bt_list (by rfl) ?_)
      | ((with_reducible refine (?_ : wE _ (.Call (.Name "tuple" _) _ _ _) _ _ _)); refine zbty (by assumption) bt_tuple (by rfl) ?_)
      | ((with_reducible refine (?_ : wE _ (.Call (.Name "int" _) _ _ _) _ _ _)); refine zbty (by assumption) bt_int (by rfl) ?_)
      | ((with_reducible refine (?_ : wE _ (.Call (.Name "abs" _) _ _ _) _ _ _)); refine zbfn (by assumption) bt_abs (by rfl) ?_)
      | ((with_reducible refine (?_ : wE _ (.Call (.Name "all" _) _ _ _) _ _ _)); refine zbfn (by assumption) bt_all (by rfl) ?_)
      | ((with_reducible refine (?_ : wE _ (.Call (.Name "sum" _) _ _ _) _ _ _)); refine zbfn (by assumption) bt_sum (by rfl) ?_)
      | ((with_reducible refine (?_ : wE _ (.Call (.Name "divmod" _) _ _ _) _ _ _)); refine zbfn (by assumption) bt_divmod (by rfl) ?_)
      | ((with_reducible refine (?_ : wE _ (.Call (.Name "ord" _) _ _ _) _ _ _)); refine zbfn (by assumption) bt_ord (by rfl) ?_))
    | ((with_reducible refine (?_ : wE _ (.IfExp _ _ _ _) _ _ _)); refine zif ?_)
    | ((with_reducible refine (?_ : wE _ (.Tuple _ _ _) _ _ _)); refine ztup ?_)
    | ((with_reducible refine (?_ : wE _ (.List _ _) _ _ _)); refine zlst ?_)
    | ((with_reducible refine (?_ : wE _ (.UnaryOp _ _ _) _ _ _)); first | refine znotV ?_ | refine zneg ?_)
    | ((with_reducible refine (?_ : wE _ (.BoolOp _ _ _) _ _ _)); first | refine zandV ?_ | refine zorV ?_ | refine zoneV ?_))
  | ((with_reducible refine (?_ : bE _ _ _ _ _ _)); refine ⟨fun _ _ _ _ _ => ?_⟩) | ((with_reducible refine (?_ : bG _ _ _ _ _ _ _)); refine ⟨fun _ _ _ _ _ => ?_⟩) | ((with_reducible refine (?_ : bTs _ _ _ _ _ _)); refine ⟨fun _ _ _ _ _ => ?_⟩)
  | ((with_reducible refine (?_ : hE _ _ _ _ _ _)); refine ⟨fun _ _ _ _ _ => ?_⟩) | ((with_reducible refine (?_ : hG _ _ _ _ _ _ _)); refine ⟨fun _ _ _ _ _ => ?_⟩) | ((with_reducible refine (?_ : hTs _ _ _ _ _ _)); refine ⟨fun _ _ _ _ _ => ?_⟩)
  | ((with_reducible refine (?_ : wP _ _ _ _ _)); first | refine pnon ?_ | refine psom ?_) | ((with_reducible refine (?_ : wSl _ _ _ _ _ _)); first | refine slL (by one_place) (fun _ _ _ _ _ => ?_) | refine slS (by assumption) ?_)
  | ((with_reducible refine (?_ : wTs _ _ _ _ _)); first | refine tsnil ?_ | refine tsone ?_)
  | ((with_reducible refine (?_ : wA _ _ _ _ _)); first | refine acons ?_ | refine anil ?_)
  | ((with_reducible refine (?_ : wO _ _ _ _ _ _)); first
    | ((with_reducible refine (?_ : wO _ (binaryOp .Add) _ _ _ _)); first | refine oadd ?_ | refine ocatE (by one_item) (by one_item) (Nat.le_of_ble_eq_true rfl) (fun _ _ _ _ _ => ?_))
    | ((with_reducible refine (?_ : wO _ (binaryOp .Sub) _ _ _ _)); first | refine osub ?_)
    | ((with_reducible refine (?_ : wO _ (binaryOp .Mult) _ _ _ _)); first | refine omul (by first | exact IntMulOk.of_right (by decide) | exact IntMulOk.of_left (by decide) | exact IntMulOk.of_right (intBits_le_64 (by omega) (by omega)) | exact IntMulOk.of_left (intBits_le_64 (by omega) (by omega))) ?_)
    | ((with_reducible refine (?_ : wO _ (binaryOp .Mod) _ _ _ _)); first | refine omod (by first | decide | omega) ?_)
    | ((with_reducible refine (?_ : wO _ (binaryOp .FloorDiv) _ _ _ _)); first | refine ofdiv ⟨by first | decide | omega, by decide⟩ ?_)
    | ((with_reducible refine (?_ : wO _ (binaryOp .BitAnd) _ _ _ _)); first | refine oand ?_)
    | ((with_reducible refine (?_ : wO _ (binaryOp .BitOr) _ _ _ _)); first | refine oor ?_)
    | ((with_reducible refine (?_ : wO _ (compareOp .Lt) _ _ _ _)); first | refine olt ?_)
    | ((with_reducible refine (?_ : wO _ (compareOp .LtE) _ _ _ _)); first | refine ole ?_)
    | ((with_reducible refine (?_ : wO _ (compareOp .Gt) _ _ _ _)); first | refine ogt ?_)
    | ((with_reducible refine (?_ : wO _ (compareOp .GtE) _ _ _ _)); first | refine oge ?_)
    | ((with_reducible refine (?_ : wO _ (compareOp .Eq) _ _ _ _)); first | refine oeqi ?_ | refine oeqsT (by decide +kernel) ?_ | refine oeqsF (by decide +kernel) ?_ | refine oeq (by rfl) ?_)
    | ((with_reducible refine (?_ : wO _ (compareOp .NotEq) _ _ _ _)); first | refine onei ?_ | refine onesT (by decide +kernel) ?_ | refine onesF (by decide +kernel) ?_ | refine one (by rfl) ?_)
    | ((with_reducible refine (?_ : wO _ (compareOp .In) _ _ _ _)); first | refine oin ?_)
    | ((with_reducible refine (?_ : wO _ (compareOp .NotIn) _ _ _ _)); first | refine onin ?_)
    | ((with_reducible refine (?_ : wO _ (compareOp .Is) _ _ _ _)); first | refine ois ?_)
    | ((with_reducible refine (?_ : wO _ (compareOp .IsNot) _ _ _ _)); first | refine onot ?_)
    | ((with_reducible refine (?_ : wO _ (binaryOp .RShift) _ _ _ _)); refine oshr (by first | decide | omega) ?_)
    | ((with_reducible refine (?_ : wO _ (binaryOp .BitXor) _ _ _ _)); refine oxor ?_)
    | ((with_reducible refine (?_ : wO _ (inplaceOp .BitXor) _ _ _ _)); refine ixor ?_)
    | ((with_reducible refine (?_ : wO _ (inplaceOp .RShift) _ _ _ _)); refine ishr (by first | decide | omega) ?_)
    | ((with_reducible refine (?_ : wO _ (inplaceOp .BitOr) _ _ _ _)); first | refine ior ?_)
    | ((with_reducible refine (?_ : wO _ (inplaceOp .Add) _ _ _ _)); first | refine iadd ?_))
  | ((with_reducible refine (?_ : wT _ _ _ _ _)); first
    | ((with_reducible refine (?_ : wT _ (.Compare _ _ _ _) _ _ _)); first | refine zcmpT (by rfl) ?_ | refine zchainT ?_)
    | ((with_reducible refine (?_ : wT _ (.UnaryOp _ _ _) _ _ _)); refine znotT ?_)
    | ((with_reducible refine (?_ : wT _ (.BoolOp _ _ _) _ _ _)); refine zW ?_)
    | refine zval ?_)
  | ((with_reducible refine (?_ : wW _ _ _ _ _)); first | refine zand ?_ | refine zor ?_ | refine zand1 ?_ | refine zor1 ?_)
  | ((with_reducible refine (?_ : wK _ _ _ _ _)); first
    | ((with_reducible refine (?_ : wK _ (.builtin "len") _ _ _)); first | refine klenL (by one_place) ?_ | refine klenT (by one_place) ?_ | refine klenS (by assumption) ?_)
    | ((with_reducible refine (?_ : wK _ (.builtin "isinstance") _ _ _)); first | refine kisE (by assumption) (by assumption) (by first | assumption | exact Xd.exx (by assumption) (by one_sign)) (by first | exact .own _ | exact .ty _) (by assumption) ?_ | refine kisi (.ty _) (by assumption) (by assumption) ?_ | refine kisi (.ty _) (.base (by first | exact .int _ | exact .bl _ | exact .str _ | exact .non | exact .tup (by one_item) | exact .lst (by one_item))) (kit_ty (r := true) (by rfl)) ?_ | refine kisi (.ty _) (.base (by first | exact .int _ | exact .bl _ | exact .str _ | exact .non | exact .tup (by one_item) | exact .lst (by one_item))) (kit_ty (r := false) (by rfl)) ?_)
    | ((with_reducible refine (?_ : wK _ (.builtin "divmod") _ _ _)); refine kdivmod ⟨by first | decide | omega, by decide⟩ (fun _ _ _ _ _ => ?_))
    | ((with_reducible refine (?_ : wK _ (.builtin "min") _ _ _)); refine kmin (by rfl) ?_)
    | ((with_reducible refine (?_ : wK _ (.builtin "max") _ _ _)); refine kmax (by rfl) ?_)
    | ((with_reducible refine (?_ : wK _ (.type "list") _ _ _)); first | refine klistL (by one_place) (fun _ _ _ _ _ => ?_) | refine klistT (by one_place) (fun _ _ _ _ _ => ?_))
    | ((with_reducible refine (?_ : wK _ (.type "tuple") _ _ _)); first | refine ktupL (by one_place) (fun _ _ _ _ _ => ?_)))
  | ((with_reducible refine (?_ : wS _ _ _ _ _)); first
    | ((with_reducible refine (?_ : wS _ (.Assign [.Name _ _] _ _) _ _ _)); refine sset' (by assumption) (by rfl) (by first | exact Or.inl rfl | exact Or.inr rfl) (by rfl) (by first | exact .inl rfl | exact .inr rfl) ?_)
    | ((with_reducible refine (?_ : wS _ (.AugAssign (.Name _ _) _ _ _) _ _ _)); refine saug' (by assumption) (by rfl) (by first | exact Or.inl rfl | exact Or.inr rfl) (by first | exact .inl rfl | exact .inr rfl) (by rfl) ?_)
    | ((with_reducible refine (?_ : wS _ (.Assign [.Attribute _ _ _] _ _) _ _ _)); refine sfld ?_)
    | ((with_reducible refine (?_ : wS _ (.Expr _ _) _ _ _)); refine sexp ?_)
    | ((with_reducible refine (?_ : wS _ (.Assign [.Tuple _ _ _] _ _) _ _ _)); refine sasg ?_) | ((with_reducible refine (?_ : wS _ (.Assign [.Subscript _ _ _] _ _) _ _ _)); refine sasg ?_)
    | refine sret ?_ | refine sif ?_ | refine sretN ?_ | refine spass ?_ | refine sbrk ?_ | refine scont ?_)
  | ((with_reducible refine (?_ : wG _ (.Name _ _) _ _ _ _)); refine gname' (by assumption) (by rfl) (by first | exact Or.inl rfl | exact Or.inr rfl) (by first | exact .inl rfl | exact .inr rfl) ?_)
  | ((with_reducible refine (?_ : wG _ (.Tuple _ _ _) _ _ _ _)); refine gtup rfl (by one_place) rfl ?_) | ((with_reducible refine (?_ : wG _ (.Subscript _ _ _) _ _ _ _)); refine gsub ?_)
  | ((with_reducible refine (?_ : wGs _ _ _ _ _ _)); first | refine gscons ?_ | refine gsnil ?_)
  | ((with_reducible refine (?_ : wB _ _ _ _ _)); first | refine bcons ?_ | refine bnil ?_)
  | refine ifT ?_ | refine ifF ?_ | refine ifd (fun _ => ?_) (fun _ => ?_) | refine ifnd (fun _ => ?_) (fun _ => ?_) | refine ⟨_, rfl, ?_⟩ | refine ⟨rfl, Evl.Ex.refl _, ?_⟩ | refine ⟨_, _, _, _, _, rfl, by one_item, by assumption, by assumption, by rfl, ?_⟩ | refine ⟨Nat.le_of_ble_eq_true rfl, fun _ _ _ _ _ => ?_⟩ | fail)
local macro_rules | `(tactic| top_name) => `(tactic| repeat' tb_rel)
local macro_rules | `(tactic| nest_fact) => `(tactic| first | exact ⟨(decide_eq_true (by omega)).symm, rfl⟩ | exact ⟨(decide_eq_false (by omega)).symm, rfl⟩ | exact ⟨decide_eq_decide.mpr (by omega), rfl⟩ | fail)
def rowN (n : Nat) : List Int := if n < 128 then [(n : Int)] else ((n % 128 + 128 : Nat) : Int) :: rowN (n / 128)
theorem rowN_lt {n : Nat} (h : n < 128) : rowN n = [(n : Int)] := by rw [rowN, if_pos h]
theorem rowN_ge {n : Nat} (h : ¬ n < 128) : rowN n = ((n % 128 + 128 : Nat) : Int) :: rowN (n / 128) := by rw [rowN, if_neg h]
theorem rowN_bytes : ∀ n : Nat, Bytes (rowN n) := fun n => by
  induction n using Nat.strongRecOn with
  | ind n ih =>
    by_cases h : n < 128
    · rw [rowN_lt h]; intro x hx; rw [List.mem_singleton.mp hx]; omega
    · rw [rowN_ge h]; intro x hx
      rcases List.mem_cons.mp hx with rfl | hx
      · omega
      · exact ih (n / 128) (by omega) x hx
theorem rowN_len : ∀ (d n : Nat), n < 128 ^ (d + 1) → (rowN n).length ≤ d + 1
  | 0, n, h => by rw [rowN_lt (by simpa using h)]; simp
  | d + 1, n, h => by
    by_cases hn : n < 128
    · rw [rowN_lt hn]; simp
    · rw [rowN_ge hn, List.length_cons]
      have := rowN_len d (n / 128) (Nat.div_lt_of_lt_mul (by rw [Nat.pow_succ] at h; rw [Nat.mul_comm]; exact h))
      omega
/-- the law's own row -/
def sp_lrow : Sp := fun vs H Q _ => ∃ n : Nat, vs = [.int (n : Int)] ∧ (n : Int) ≤ MOST ∧ ∀ t H', H t = none → Ex H H' → H' t = some (.lst ((rowN n).map V.int)) → Q (.ref t) H'
theorem ok_lrow (T : Txt K mg) : Gf P w K mg base 1 "_law_number_row" [] sp_lrow := by
  refine gf_mk T.f__law_number_row T.m__law_number_row (fun _ _ _ _ _ _ us hl => match us, hl with | [_], _ => rfl) fun fd F => fn_mk F sc__law_number_row (fun vs H Q E h => ?_) fun cd A outer s H vs Q E hr tk po h => ?_
  · obtain ⟨n, rfl, _⟩ := h; rfl
  · obtain ⟨n, rfl, hn, q⟩ := h
    have nd := sc__law_number_row.nd
    top_name
    rename_i L H1 hL e1 hx
    refine lwhile po (fun σ H' => Ex H H' ∧ ∃ (m : Nat) (pre : List Int), σ = [some (.int (m : Int)), some (.ref L)] ∧ rowN n = pre ++ rowN m ∧ H' L = some (.lst (pre.map V.int))) (fun σ _ => match σ with | [some (.int m), _] => m.toNat | _ => 0) ⟨e1, n, [], rfl, rfl, hx⟩ ?_
    rintro σ H2 ⟨e2, m, pre, rfl, hp, hy⟩
    have hlen : (rowN n).length ≤ 37 := rowN_len 36 n (by unfold MOST at hn; omega)
    top_name
    · rename_i hm
      have hm2 : ¬ m < 128 := by omega
      rw [rowN_ge hm2] at hp
      have hlp := congrArg List.length hp
      simp only [List.length_append, List.length_cons] at hlp
      refine zapp ?_
      top_name
      refine ⟨L, _, rfl, hy, ?_⟩
      top_name
      refine ⟨_, hy, by rw [List.length_map, sizeLine_eq]; omega, ?_⟩
      top_name
      refine ⟨⟨Ex.past e2 hL, m / 128, pre ++ [((m % 128 + 128 : Nat) : Int)], rfl, by rw [hp, List.append_assoc]; rfl, by rw [upd_same]; simp⟩, ?_⟩
      show (((m : Int) / 128).toNat) < ((m : Int)).toNat
      omega
    · rename_i h1 t H3 ht e3 hx3
      have hm2 : m < 128 := by omega
      rw [rowN_lt hm2] at hp
      have hlp := congrArg List.length hp
      simp only [List.length_append, List.length_cons, List.length_nil] at hlp
      refine ocatE (e3 _ _ hy) hx3 (by rw [List.length_map, sizeLine_eq]; show _ + 1 ≤ _; omega) fun p H4 hp4 e4 hx4 => ?_
      exact q p H4 (Evl.fresh_back (e2.trans e3) hp4) (e2.trans (e3.trans e4)) (by rw [hx4, hp]; simp)
theorem pow36 : (128 : Nat) ^ 36 * 16 = 2 ^ 256 := by decide +kernel
theorem numGo_row : ∀ (m i : Nat) (p acc : Int) (rest : List Int), (0 < m ∨ i = 0) → m * 128 ^ i < 2 ^ 256 → numGo (rowN m ++ rest) i p acc = .num (acc + (m : Int) * 128 ^ i) (p + ((rowN m).length : Int)) := fun m => by
  induction m using Nat.strongRecOn with
  | ind m ih =>
    intro i p acc rest h0 hm
    by_cases h : m < 128
    · rw [rowN_lt h]
      show numGo ((m : Int) :: rest) i p acc = _
      have hc : ¬ ((i = 36 ∧ 15 < (m : Int)) ∨ ((m : Int) = 0 ∧ 0 < i)) := by
        rintro (⟨rfl, h2⟩ | ⟨h2, h3⟩)
        · rw [← pow36] at hm
          have := Nat.lt_of_mul_lt_mul_right (show m * 128 ^ 36 < 16 * 128 ^ 36 by rw [Nat.mul_comm 16]; exact hm)
          omega
        · omega
      unfold numGo
      rw [if_neg hc, if_pos (by omega), Int.emod_eq_of_lt (by omega) (by omega)]
      rfl
    · rw [rowN_ge h]
      show numGo (((m % 128 + 128 : Nat) : Int) :: (rowN (m / 128) ++ rest)) i p acc = _
      have hc : ¬ ((i = 36 ∧ 15 < ((m % 128 + 128 : Nat) : Int)) ∨ (((m % 128 + 128 : Nat) : Int) = 0 ∧ 0 < i)) := by
        rintro (⟨rfl, h2⟩ | ⟨h2, h3⟩)
        · rw [← pow36] at hm
          have := Nat.lt_of_mul_lt_mul_right (show m * 128 ^ 36 < 16 * 128 ^ 36 by rw [Nat.mul_comm 16]; exact hm)
          omega
        · omega
      unfold numGo
      have hle : (m / 128) * 128 ^ (i + 1) ≤ m * 128 ^ i := by
        rw [Nat.pow_succ, Nat.mul_comm (128 ^ i), ← Nat.mul_assoc]
        exact Nat.mul_le_mul_right _ (Nat.div_mul_le_self m 128)
      rw [if_neg hc, if_neg (by omega), ih (m / 128) (by omega) (i + 1) _ _ rest (.inl (by omega)) (Nat.lt_of_le_of_lt hle hm)]
      have e1 : ((m % 128 + 128 : Nat) : Int) % 128 = ((m % 128 : Nat) : Int) := by omega
      have e2 : (m : Int) = ((m % 128 : Nat) : Int) + ((m / 128 : Nat) : Int) * 128 := by omega
      rw [e1]
      congr 1
      · rw [Int.pow_succ, e2, Int.add_mul]
        have e3 : ((((m % 128 : Nat) : Int) + ((m / 128 : Nat) : Int) * 128).toNat) = m := by omega
        have e4 : (((m % 128 : Nat) : Int) + ((m / 128 : Nat) : Int) * 128) % 128 = ((m % 128 : Nat) : Int) := by omega
        rw [Int.mul_assoc, Int.mul_comm (128 : Int) (128 ^ i), Int.add_assoc]
      · rw [List.length_cons]; omega
theorem numAt_row {n : Nat} {A B : List Int} {e : Int} (hn : (n : Int) ≤ MOST) (h0 : ((A.length + (rowN n).length : Nat) : Int) ≤ e) (h1 : e ≤ ((A ++ rowN n ++ B).length : Int)) : numAt (A ++ rowN n ++ B) (A.length : Int) e = .num (n : Int) ((A.length + (rowN n).length : Nat) : Int) := by
  unfold numAt
  obtain ⟨d, rfl⟩ : ∃ d : Nat, e = ((A.length + ((rowN n).length + d) : Nat) : Int) := ⟨(e - ((A.length + (rowN n).length : Nat) : Int)).toNat, by omega⟩
  rw [Int.toNat_natCast, Int.toNat_natCast, List.append_assoc, List.take_append, List.drop_append]
  rw [show (A.take (A.length + ((rowN n).length + d))).drop A.length = [] from List.drop_eq_nil_of_le (by rw [List.length_take]; omega), List.nil_append]
  rw [show A.length - (A.take (A.length + ((rowN n).length + d))).length = 0 from by rw [List.length_take]; omega, List.drop_zero, show A.length + ((rowN n).length + d) - A.length = (rowN n).length + d from by omega, List.take_append]
  rw [show (rowN n).take ((rowN n).length + d) = rowN n from List.take_of_length_le (by omega), numGo_row n 0 _ 0 _ (.inr rfl) (by unfold MOST at hn; omega)]
  congr 1
  omega
end K06

set_option maxRecDepth 100000
set_option maxHeartbeats 4000000
set_option pp.maxSteps 1500
namespace K06
open PySem PySem.Spec PyProof.Rows L2 Z
open Evl (Ex)
variable {P : Program} {w : World} {K : PySem.W.Frag} {mg : Str → Option Value} {base : Heap}
/-! ### steps of the walk: one_sign: a heap grew into another; one_item: what stands at an address; one_place: a list or tuple to be read; leaf_len: arithmetic; tb_rel: one step; top_name: steps as far as they go -/
local macro_rules | `(tactic| got_up) => `(tactic| (refine Evl.Ex.trans (by assumption) ?_; first | assumption | exact Evl.Ex.refl _ | got_up))
local macro_rules | `(tactic| units_room) => `(tactic| (refine Evl.Ex.trans ?_ (by assumption); first | assumption | exact Evl.Ex.refl _ | units_room))
local macro_rules | `(tactic| one_sign) => `(tactic| first | assumption | exact Evl.Ex.refl _ | got_up | units_room)
local macro_rules | `(tactic| one_item) => `(tactic| first | assumption | exact upd_same | exact exa (by assumption) (by one_sign))
local macro_rules | `(tactic| one_place) => `(tactic| first | assumption | exact SqL.of (by assumption) | exact SqT.of (by assumption) | exact exl (by assumption) (by one_sign) | exact ext (by assumption) (by one_sign) | exact SqL.of (by one_item) | exact SqT.of (by one_item))
local macro_rules | `(tactic| leaf_len) => `(tactic| first | assumption | decide | omega)
local macro_rules | `(tactic| tb_rel) => `(tactic| first
  | ((with_reducible refine (?_ : wE _ _ _ _ _)); first
    | ((with_reducible refine (?_ : wE _ (.Name _ _) _ _ _)); first | refine zn (by rfl) (by first | exact Or.inl rfl | exact Or.inr (Or.inl rfl) | exact Or.inr (Or.inr rfl)) (by rfl) ?_ | refine zglob (by assumption) (by rfl) ?_ | refine zcls (by assumption) (by rfl) ?_ | refine zty (by assumption) (by first | exact bt_int | exact bt_bool | exact bt_str | exact bt_list | exact bt_tuple | exact bt_dict | exact bt_ValueError) (by rfl) ?_)
    | ((with_reducible refine (?_ : wE _ (.Attribute _ _ _) _ _ _)); refine zfld ?_)
    | ((with_reducible refine (?_ : wE _ (.Constant _ _ _) _ _ _)); first | refine zint ?_ | refine zstr ?_ | refine zbl ?_ | refine znon ?_)
    | ((with_reducible refine (?_ : wE _ (.BinOp _ _ _ _) _ _ _)); refine zbin ?_)
    | ((with_reducible refine (?_ : wE _ (.Compare _ _ _ _) _ _ _)); first | refine zcmp (by rfl) ?_ | refine zchain ?_)
    | ((with_reducible refine (?_ : wE _ (.Dict [] [] _) _ _ _)); refine zdnew (fun _ _ _ _ _ => ?_))
    | ((with_reducible refine (?_ : wE _ (.Subscript _ (.Slice _ _ _ _) _) _ _ _)); refine zsl ?_)
    | ((with_reducible refine (?_ : wE _ (.Subscript _ _ _) _ _ _)); refine zix ?_)
    | ((with_reducible refine (?_ : wE _ (.Call (.Name "list" _) [.Call (.Name "range" _) [_] [] _] [] _) _ _ _)); refine zlrg1 rfl (by rfl) (by assumption) (by rfl) (by assumption) ?_)
    | ((with_reducible refine (?_ : wE _ (.Call (.Name _ _) _ _ _) _ _ _)); first
      | ((with_reducible refine (?_ : wE _ (.Call (.Name "len" _) _ _ _) _ _ _)); refine zbfn (by assumption) bt_len (by rfl) ?_)
      | ((with_reducible refine (?_ : wE _ (.Call (.Name "isinstance" _) _ _ _) _ _ _)); refine zbfn (by assumption) bt_isi (by rfl) ?_)
      | ((with_reducible refine (?_ : wE _ (.Call (.Name "min" _) _ _ _) _ _ _)); refine zbfn (by assumption) bt_min (by rfl) ?_)
      | ((with_reducible refine (?_ : wE _ (.Call (.Name "max" _) _ _ _) _ _ _)); refine zbfn (by assumption) bt_max (by rfl) ?_)
      | ((with_reducible refine (?_ : wE _ (.Call (.Name "list" _) _ _ _) _ _ _)); refine zbty (by assumption) bt_list (by rfl) ?_)
      | ((with_reducible refine (?_ : wE _ (.Call (.Name "tuple" _) _ _ _) _ _ _)); refine zbty (by assumption) bt_tuple (by rfl) ?_)
      | ((with_reducible refine (?_ : wE _ (.Call (.Name "int" _) _ _ _) _ _ _)); refine zbty (by assumption) bt_int (by rfl) ?_)
      | ((with_reducible refine (?_ : wE _ (.Call (.Name "abs" _) _ _ _) _ _ _)); refine zbfn (by assumption) bt_abs (by rfl) ?_)
      | ((with_reducible refine (?_ : wE _ (.Call (.Name "all" _) _ _ _) _ _ _)); refine zbfn (by assumption) bt_all (by rfl) ?_)
      | ((with_reducible refine (?_ : wE _ (.Call (.Name "sum" _) _ _ _) _ _ _)); refine zbfn (by assumption) bt_sum (by rfl) ?_)
      | ((with_reducible refine (?_ : wE _ (.Call (.Name "divmod" _) _ _ _) _ _ _)); refine zbfn (by assumption) bt_divmod (by rfl) ?_)
      | ((with_reducible refine (?_ : wE _ (.Call (.Name "ord" _) _ _ _) _ _ _)); refine zbfn (by assumption) bt_ord (by rfl) ?_))
    | ((with_reducible refine (?_ : wE _ (.IfExp _ _ _ _) _ _ _)); refine zif ?_)
    | ((with_reducible refine (?_ : wE _ (.Tuple _ _ _) _ _ _)); refine ztup ?_)
    | ((with_reducible refine (?_ : wE _ (.List _ _) _ _ _)); refine zlst ?_)
    | ((with_reducible refine (?_ : wE _ (.UnaryOp _ _ _) _ _ _)); first | refine znotV ?_ | refine zneg ?_)
    | ((with_reducible refine (?_ : wE _ (.BoolOp _ _ _) _ _ _)); first | refine zandV ?_ | refine zorV ?_ | refine zoneV ?_))
  | ((with_reducible refine (?_ : bE _ _ _ _ _ _)); refine ⟨fun _ _ _ _ _ => ?_⟩) | ((with_reducible refine (?_ : bG _ _ _ _ _ _ _)); refine ⟨fun _ _ _ _ _ => ?_⟩) | ((with_reducible refine (?_ : bTs _ _ _ _ _ _)); refine ⟨fun _ _ _ _ _ => ?_⟩)
  | ((with_reducible refine (?_ : hE _ _ _ _ _ _)); refine ⟨fun _ _ _ _ _ => ?_⟩) | ((with_reducible refine (?_ : hG _ _ _ _ _ _ _)); refine ⟨fun _ _ _ _ _ => ?_⟩) | ((with_reducible refine (?_ : hTs _ _ _ _ _ _)); refine ⟨fun _ _ _ _ _ => ?_⟩)
  | ((with_reducible refine (?_ : wP _ _ _ _ _)); first | refine pnon ?_ | refine psom ?_) | ((with_reducible refine (?_ : wSl _ _ _ _ _ _)); first | refine slL (by one_place) (fun _ _ _ _ _ => ?_) | refine slS (by assumption) ?_)
  | ((with_reducible refine (?_ : wTs _ _ _ _ _)); first | refine tsnil ?_ | refine tsone ?_)
  | ((with_reducible refine (?_ : wA _ _ _ _ _)); first | refine acons ?_ | refine anil ?_)
  | ((with_reducible refine (?_ : wO _ _ _ _ _ _)); first
    | ((with_reducible refine (?_ : wO _ (binaryOp .Add) _ _ _ _)); first | refine oadd ?_ | refine ocatE (by one_item) (by one_item) (Nat.le_of_ble_eq_true rfl) (fun _ _ _ _ _ => ?_))
    | ((with_reducible refine (?_ : wO _ (binaryOp .Sub) _ _ _ _)); first | refine osub ?_)
    | ((with_reducible refine (?_ : wO _ (binaryOp .Mult) _ _ _ _)); first | refine omul (by first | exact IntMulOk.of_right (by decide) | exact IntMulOk.of_left (by decide) | exact IntMulOk.of_right (intBits_le_64 (by omega) (by omega)) | exact IntMulOk.of_left (intBits_le_64 (by omega) (by omega))) ?_)
    | ((with_reducible refine (?_ : wO _ (binaryOp .Mod) _ _ _ _)); first | refine omod (by first | decide | omega) ?_)
    | ((with_reducible refine (?_ : wO _ (binaryOp .FloorDiv) _ _ _ _)); first | refine ofdiv ⟨by first | decide | omega, by decide⟩ ?_)
    | ((with_reducible refine (?_ : wO _ (binaryOp .BitAnd) _ _ _ _)); first | refine oand ?_)
    | ((with_reducible refine (?_ : wO _ (binaryOp .BitOr) _ _ _ _)); first | refine oor ?_)
    | ((with_reducible refine (?_ : wO _ (compareOp .Lt) _ _ _ _)); first | refine olt ?_)
    | ((with_reducible refine (?_ : wO _ (compareOp .LtE) _ _ _ _)); first | refine ole ?_)
    | ((with_reducible refine (?_ : wO _ (compareOp .Gt) _ _ _ _)); first | refine ogt ?_)
    | ((with_reducible refine (?_ : wO _ (compareOp .GtE) _ _ _ _)); first | refine oge ?_)
    | ((with_reducible refine (?_ : wO _ (compareOp .Eq) _ _ _ _)); first | refine oeqi ?_ | refine oeqsT (by decide +kernel) ?_ | refine oeqsF (by decide +kernel) ?_ | refine oeq (by rfl) ?_)
    | ((with_reducible refine (?_ : wO _ (compareOp .NotEq) _ _ _ _)); first | refine onei ?_ | refine onesT (by decide +kernel) ?_ | refine onesF (by decide +kernel) ?_ | refine one (by rfl) ?_)
    | ((with_reducible refine (?_ : wO _ (compareOp .In) _ _ _ _)); first | refine oin ?_)
    | ((with_reducible refine (?_ : wO _ (compareOp .NotIn) _ _ _ _)); first | refine onin ?_)
    | ((with_reducible refine (?_ : wO _ (compareOp .Is) _ _ _ _)); first | refine ois ?_)
    | ((with_reducible refine (?_ : wO _ (compareOp .IsNot) _ _ _ _)); first | refine onot ?_)
    | ((with_reducible refine (?_ : wO _ (binaryOp .RShift) _ _ _ _)); refine oshr (by first | decide | omega) ?_)
    | ((with_reducible refine (?_ : wO _ (binaryOp .BitXor) _ _ _ _)); refine oxor ?_)
    | ((with_reducible refine (?_ : wO _ (inplaceOp .BitXor) _ _ _ _)); refine ixor ?_)
    | ((with_reducible refine (?_ : wO _ (inplaceOp .RShift) _ _ _ _)); refine ishr (by first | decide | omega) ?_)
    | ((with_reducible refine (?_ : wO _ (inplaceOp .BitOr) _ _ _ _)); first | refine ior ?_)
    | ((with_reducible refine (?_ : wO _ (inplaceOp .Add) _ _ _ _)); first | refine iadd ?_))
  | ((with_reducible refine (?_ : wT _ _ _ _ _)); first
    | ((with_reducible refine (?_ : wT _ (.Compare _ _ _ _) _ _ _)); first | refine zcmpT (by rfl) ?_ | refine zchainT ?_)
    | ((with_reducible refine (?_ : wT _ (.UnaryOp _ _ _) _ _ _)); refine znotT ?_)
    | ((with_reducible refine (?_ : wT _ (.BoolOp _ _ _) _ _ _)); refine zW ?_)
    | refine zval ?_)
  | ((with_reducible refine (?_ : wW _ _ _ _ _)); first | refine zand ?_ | refine zor ?_ | refine zand1 ?_ | refine zor1 ?_)
  | ((with_reducible refine (?_ : wK _ _ _ _ _)); first
    | ((with_reducible refine (?_ : wK _ (.builtin "len") _ _ _)); first | refine klenL (by one_place) ?_ | refine klenT (by one_place) ?_ | refine klenS (by assumption) ?_)
    | ((with_reducible refine (?_ : wK _ (.builtin "isinstance") _ _ _)); first | refine kisE (by assumption) (by assumption) (by first | assumption | exact Xd.exx (by assumption) (by one_sign)) (by first | exact .own _ | exact .ty _) (by assumption) ?_ | refine kisi (.ty _) (by assumption) (by assumption) ?_ | refine kisi (.ty _) (.base (by first | exact .int _ | exact .bl _ | exact .str _ | exact .non | exact .tup (by one_item) | exact .lst (by one_item))) (kit_ty (r := true) (by rfl)) ?_ | refine kisi (.ty _) (.base (by first | exact .int _ | exact .bl _ | exact .str _ | exact .non | exact .tup (by one_item) | exact .lst (by one_item))) (kit_ty (r := false) (by rfl)) ?_)
    | ((with_reducible refine (?_ : wK _ (.builtin "divmod") _ _ _)); refine kdivmod ⟨by first | decide | omega, by decide⟩ (fun _ _ _ _ _ => ?_))
    | ((with_reducible refine (?_ : wK _ (.builtin "min") _ _ _)); refine kmin (by rfl) ?_)
    | ((with_reducible refine (?_ : wK _ (.builtin "max") _ _ _)); refine kmax (by rfl) ?_)
    | ((with_reducible refine (?_ : wK _ (.type "list") _ _ _)); first | refine klistL (by one_place) (fun _ _ _ _ _ => ?_) | refine klistT (by one_place) (fun _ _ _ _ _ => ?_))
    | ((with_reducible refine (?_ : wK _ (.type "tuple") _ _ _)); first | refine ktupL (by one_place) (fun _ _ _ _ _ => ?_)))
  | ((with_reducible refine (?_ : wS _ _ _ _ _)); first
    | ((with_reducible refine (?_ : wS _ (.Assign [.Name _ _] _ _) _ _ _)); refine sset' (by assumption) (by rfl) (by first | exact Or.inl rfl | exact Or.inr rfl) (by rfl) (by first | exact .inl rfl | exact .inr rfl) ?_)
    | ((with_reducible refine (?_ : wS _ (.AugAssign (.Name _ _) _ _ _) _ _ _)); refine saug' (by assumption) (by rfl) (by first | exact Or.inl rfl | exact Or.inr rfl) (by first | exact .inl rfl | exact .inr rfl) (by rfl) ?_)
    | ((with_reducible refine (?_ : wS _ (.Assign [.Attribute _ _ _] _ _) _ _ _)); refine sfld ?_)
    | ((with_reducible refine (?_ : wS _ (.Expr _ _) _ _ _)); refine sexp ?_)
    | ((with_reducible refine (?_ : wS _ (.Assign [.Tuple _ _ _] _ _) _ _ _)); refine sasg ?_) | ((with_reducible refine (?_ : wS _ (.Assign [.Subscript _ _ _] _ _) _ _ _)); refine sasg ?_)
    | refine sret ?_ | refine sif ?_ | refine sretN ?_ | refine spass ?_ | refine sbrk ?_ | refine scont ?_)
  | ((with_reducible refine (?_ : wG _ (.Name _ _) _ _ _ _)); refine gname' (by assumption) (by rfl) (by first | exact Or.inl rfl | exact Or.inr rfl) (by first | exact .inl rfl | exact .inr rfl) ?_)
  | ((with_reducible refine (?_ : wG _ (.Tuple _ _ _) _ _ _ _)); refine gtup rfl (by one_place) rfl ?_) | ((with_reducible refine (?_ : wG _ (.Subscript _ _ _) _ _ _ _)); refine gsub ?_)
  | ((with_reducible refine (?_ : wGs _ _ _ _ _ _)); first | refine gscons ?_ | refine gsnil ?_)
  | ((with_reducible refine (?_ : wB _ _ _ _ _)); first | refine bcons ?_ | refine bnil ?_)
  | refine ifT ?_ | refine ifF ?_ | refine ifd (fun _ => ?_) (fun _ => ?_) | refine ifnd (fun _ => ?_) (fun _ => ?_) | refine ⟨_, rfl, ?_⟩ | refine ⟨rfl, Evl.Ex.refl _, ?_⟩ | refine ⟨_, _, _, _, _, rfl, by one_item, by assumption, by assumption, by rfl, ?_⟩ | refine ⟨Nat.le_of_ble_eq_true rfl, fun _ _ _ _ _ => ?_⟩ | fail)
local macro_rules | `(tactic| top_name) => `(tactic| repeat' tb_rel)
local macro_rules | `(tactic| nest_fact) => `(tactic| first | exact ⟨(decide_eq_true (by omega)).symm, rfl⟩ | exact ⟨(decide_eq_false (by omega)).symm, rfl⟩ | exact ⟨decide_eq_decide.mpr (by omega), rfl⟩ | fail)
def sp_lcheck : Sp := fun vs H Q _ => ∃ (l : Addr) (xs : List Int), vs = [.ref l] ∧ H l = some (.lst (xs.map V.int)) ∧ Bytes xs ∧ xs.length ≤ 100000 ∧ ∀ H', Ex H H' → Q (.int ((crc 65535 xs : Nat) : Int)) H'
theorem ok_lcheck (T : Txt K mg) : Gf P w K mg base 1 "_law_check" [] sp_lcheck := by
  refine gf_mk T.f__law_check T.m__law_check (fun _ _ _ _ _ _ us hl => match us, hl with | [_], _ => rfl) fun fd F => fn_mk F sc__law_check (fun vs H Q E h => ?_) fun cd A outer s H vs Q E hr tk po h => ?_
  · obtain ⟨l, xs, rfl, _⟩ := h; rfl
  · obtain ⟨l, xs, rfl, hl, hb, hz, q⟩ := h
    have nd := sc__law_check.nd
    have n1 := T.n_range
    have hrow : RowAt K H l xs := .inl hl
    top_name
    refine lforR po rfl hrow (fun Q h => by top_name; exact h) (fun i σ H' => H = H' ∧ ∃ (v2 v3 v4 : Option V), σ = [some (.ref l), some (.int ((crc 65535 (xs.take i) : Nat) : Int)), v2, v3, v4]) ⟨rfl, _, _, _, rfl⟩ (fun i σ' H' _ z => by obtain ⟨rfl, _⟩ := z; exact Evl.Ex.refl _) ?_ ?_
    · rintro i b σ H2 hx ⟨rfl, v2, v3, v4, rfl⟩
      have hb2 := hb b (List.mem_of_getElem? hx)
      have hc := crc_lt (f := 65535) (by decide) (xs.take i)
      generalize hf : crc 65535 (xs.take i) = f at hc ⊢
      have hbn : b.toNat < 256 := by omega
      tb_rel
      refine bcons (lfor1 (n := 8) n1 po rfl (fun i' σ H' => H = H' ∧ ∃ (v3 v4 : Option V), σ = [some (.ref l), some (.int ((lTurns b.toNat f i' : Nat) : Int)), some (.int b), v3, v4]) rfl ?_)
      top_name
      refine ⟨rfl, by decide, by decide, ⟨rfl, _, _, rfl⟩, ?_, ?_⟩
      · rintro i' σ H3 hi' ⟨rfl, v3, v4, rfl⟩
        have hp := lTurns_lt (b := b.toNat) hc i'
        have hst : lTurns b.toNat f (i' + 1) = lStep b.toNat (lTurns b.toNat f i') i' := rfl
        generalize lTurns b.toNat f i' = p at hp hst ⊢
        rw [hst]
        unfold lStep
        have e1 : (p : Int) / 32768 + b / 2 ^ (7 - (i' : Int)).toNat = ((p / 32768 + b.toNat / 2 ^ (7 - i') : Nat) : Int) := by
          rw [show (7 - (i' : Int)).toNat = 7 - i' from by omega, Int.natCast_add, Int.natCast_ediv, Int.natCast_ediv, Int.toNat_of_nonneg hb2.1]
          have e : ∀ k : Nat, ((2 ^ k : Nat) : Int) = (2 : Int) ^ k := fun k => by simp
          rw [e]
          rfl
        have d2 : (p : Int) * 2 % 65536 = ((p * 2 % 65536 : Nat) : Int) := by omega
        have d3 : Builtin.bitXor ((p * 2 % 65536 : Nat) : Int) 4129 = (((p * 2 % 65536) ^^^ 4129 : Nat) : Int) := by
          rw [_root_.Bits.bitXor_pp (by omega) (by omega)]
          rfl
        top_name
        · rename_i h
          refine ⟨rfl, some (.int (i' : Int)), some (.int (((p : Int) / 32768 + b / 2 ^ (7 - (i' : Int)).toNat) % 2)), ?_⟩
          rw [if_pos (by rw [e1] at h; omega)]
          show [_, some (V.int (Builtin.bitXor ((p : Int) * 2 % 65536) 4129)), _, _, _] = _
          rw [d2, d3]
        · rename_i h
          refine ⟨rfl, some (.int (i' : Int)), some (.int (((p : Int) / 32768 + b / 2 ^ (7 - (i' : Int)).toNat) % 2)), ?_⟩
          rw [if_neg (by rw [e1] at h; omega)]
          show [_, some (V.int ((p : Int) * 2 % 65536)), _, _, _] = _
          rw [d2]
      · rintro σ H3 ⟨rfl, v3, v4, rfl⟩
        top_name
        refine ⟨rfl, some (.int b), v3, v4, ?_⟩
        rw [crc_take hx, hf, ← crcB_law hbn hc]
        rfl
    · rintro σ H2 ⟨rfl, v2, v3, v4, rfl⟩
      rw [List.take_length]
      top_name
      exact q _ (Evl.Ex.refl _)
/-! ### what is told of a refusal -/
def sp_at (K : PySem.W.Frag) : SpE := fun cls d a vs H Q => (∃ (dd : Addr) (p : Int) (why : Str), vs = [.ref a] ∧ cls = .ref (He.ga K "BadWire") ∧ d = some dd ∧ H dd = some (.xd [("why", .str why), ("place", .int p)]) ∧ ∀ t H', H t = none → Ex H H' → H' t = some (.lst [.str "wire", .int p, .str why, .bl false]) → Q (.ref t) H') ∨
  ∃ (C : Addr) (j : Nat) (x : Str), vs = [.ref a] ∧ cls = .ref C ∧ Xd d H ∧ KinW K C (only j) ∧ theWords[j]? = some x ∧ j ≠ 4 ∧ j ≠ 5 ∧ ∀ t H', H t = none → Ex H H' → H' t = some (.lst [.str x]) → Q (.ref t) H'
theorem ok_at (T : Txt K mg) : Ge P w K mg base 2 "_law_at" (sp_at K) := by
  refine ge_mk T.f__law_at T.m__law_at (fun _ _ _ _ _ _ us hl => match us, hl with | [_], _ => rfl) fun fd F => fnE_of F sc__law_at (fun cls d a vs H Q h => ?_) fun cd A outer s H vs Q p cls d hx hr h => ?_
  · rcases h with ⟨dd, p, why, rfl, _⟩ | ⟨C, j, x, rfl, _⟩ <;> rfl
  · have n1 := T.n_isinstance
    have n2 := T.n_bool
    have m0 := T.m_BadWire
    have m2 := T.m_BadText
    have nd := sc__law_at.nd
    rcases h with ⟨dd, p, why, rfl, rfl, rfl, hd, q⟩ | ⟨C, j, x, rfl, rfl, hd, hk, hj, h4, h5, q⟩
    · have m1 := T.x_BadWire
      have k1 := T.k_BadWire_BadWire
      have xd : Xd (some dd) H := fun d e => by cases e; exact ⟨_, hd⟩
      top_name
      refine zfldE hx m1 T.a_BadWire_place ?_
      top_name
      refine ⟨rfl, _, _, hd, rfl, ?_⟩
      top_name
      refine zfldE hx m1 T.a_BadWire_why ?_
      top_name
      refine ⟨rfl, _, _, hd, rfl, ?_⟩
      top_name
      refine zfldE hx m1 T.a_BadWire_place ?_
      top_name
      refine ⟨rfl, _, _, hd, rfl, ?_⟩
      top_name
      rename_i t H2 ht e2 hx
      exact q t H2 ht e2 hx
    · have m1 := hk.x
      have k1 : PySem.W.kitOne K (.ref C) (.ref (He.ga K "BadWire")) = some false := by rw [hk.b5]; unfold only; rw [decide_eq_false (by omega)]
      have k2 : PySem.W.kitOne K (.ref C) (.ref (He.ga K "BadText")) = some false := by rw [hk.b4]; unfold only; rw [decide_eq_false (by omega)]
      top_name
      refine zcallE (ok_word T) hx hr (by decide) rfl ?_
      top_name
      refine ⟨C, j, x, rfl, rfl, hd, hk, hj, fun H1 e1 => ?_⟩
      top_name
      rename_i t H2 ht e2 hx
      exact q t H2 (Evl.fresh_back e1 ht) (e1.trans e2) hx
theorem kin_BadRow (T : Txt K mg) : KinW K (He.ga K "BadRow") (only 1) := ⟨T.x_BadRow, T.k_BadRow_BadNumber, T.k_BadRow_BadRow, T.k_BadRow_BadBook, T.k_BadRow_BadValue, T.k_BadRow_BadText, T.k_BadRow_BadWire, T.k_BadRow_BadCheck, T.k_BadRow_NotKin, T.k_BadRow_NoKey, T.k_BadRow_BadVersion, T.k_BadRow_ValueError⟩
theorem kin_BadWire (T : Txt K mg) : KinW K (He.ga K "BadWire") (only 5) := ⟨T.x_BadWire, T.k_BadWire_BadNumber, T.k_BadWire_BadRow, T.k_BadWire_BadBook, T.k_BadWire_BadValue, T.k_BadWire_BadText, T.k_BadWire_BadWire, T.k_BadWire_BadCheck, T.k_BadWire_NotKin, T.k_BadWire_NoKey, T.k_BadWire_BadVersion, T.k_BadWire_ValueError⟩
theorem kin_BadCheck (T : Txt K mg) : KinW K (He.ga K "BadCheck") (only 6) := ⟨T.x_BadCheck, T.k_BadCheck_BadNumber, T.k_BadCheck_BadRow, T.k_BadCheck_BadBook, T.k_BadCheck_BadValue, T.k_BadCheck_BadText, T.k_BadCheck_BadWire, T.k_BadCheck_BadCheck, T.k_BadCheck_NotKin, T.k_BadCheck_NoKey, T.k_BadCheck_BadVersion, T.k_BadCheck_ValueError⟩
end K06

set_option maxRecDepth 100000
set_option maxHeartbeats 4000000
set_option pp.maxSteps 1500
namespace K06
open PySem PySem.Spec PyProof.Rows L2 Z
open Evl (Ex)
variable {P : Program} {w : World} {K : PySem.W.Frag} {mg : Str → Option Value} {base : Heap}
/-! ### steps of the walk: one_sign: a heap grew into another; one_item: what stands at an address; one_place: a list or tuple to be read; leaf_len: arithmetic; tb_rel: one step; top_name: steps as far as they go -/
local macro_rules | `(tactic| got_up) => `(tactic| (refine Evl.Ex.trans (by assumption) ?_; first | assumption | exact Evl.Ex.refl _ | got_up))
local macro_rules | `(tactic| units_room) => `(tactic| (refine Evl.Ex.trans ?_ (by assumption); first | assumption | exact Evl.Ex.refl _ | units_room))
local macro_rules | `(tactic| one_sign) => `(tactic| first | assumption | exact Evl.Ex.refl _ | got_up | units_room)
local macro_rules | `(tactic| one_item) => `(tactic| first | assumption | exact upd_same | exact exa (by assumption) (by one_sign))
local macro_rules | `(tactic| one_place) => `(tactic| first | assumption | exact SqL.of (by assumption) | exact SqT.of (by assumption) | exact exl (by assumption) (by one_sign) | exact ext (by assumption) (by one_sign) | exact SqL.of (by one_item) | exact SqT.of (by one_item))
local macro_rules | `(tactic| leaf_len) => `(tactic| first | assumption | decide | omega)
local macro_rules | `(tactic| tb_rel) => `(tactic| first
  | ((with_reducible refine (?_ : wE _ _ _ _ _)); first
    | ((with_reducible refine (?_ : wE _ (.Name _ _) _ _ _)); first | refine zn (by rfl) (by first | exact Or.inl rfl | exact Or.inr (Or.inl rfl) | exact Or.inr (Or.inr rfl)) (by rfl) ?_ | refine zglob (by assumption) (by rfl) ?_ | refine zcls (by assumption) (by rfl) ?_ | refine zty (by assumption) (by first | exact bt_int | exact bt_bool | exact bt_str | exact bt_list | exact bt_tuple | exact bt_dict | exact bt_ValueError) (by rfl) ?_)
    | ((with_reducible refine (?_ : wE _ (.Attribute _ _ _) _ _ _)); refine zfld ?_)
    | ((with_reducible refine (?_ : wE _ (.Constant _ _ _) _ _ _)); first | refine zint ?_ | refine zstr ?_ | refine zbl ?_ | refine znon ?_)
    | ((with_reducible refine (?_ : wE _ (.BinOp _ _ _ _) _ _ _)); refine zbin ?_)
    | ((with_reducible refine (?_ : wE _ (.Compare _ _ _ _) _ _ _)); first | refine zcmp (by rfl) ?_ | refine zchain ?_)
    | ((with_reducible refine (?_ : wE _ (.Dict [] [] _) _ _ _)); refine zdnew (fun _ _ _ _ _ => ?_))
    | ((with_reducible refine (?_ : wE _ (.Subscript _ (.Slice _ _ _ _) _) _ _ _)); refine zsl ?_)
    | ((with_reducible refine (?_ : wE _ (.Subscript _ _ _) _ _ _)); refine zix ?_)
    | ((with_reducible refine (?_ : wE _ (.Call (.Name "list" _) [.Call (.Name "range" _) [_] [] _] [] _) _ _ _)); refine zlrg1 rfl (by rfl) (by assumption) (by rfl) (by assumption) ?_)
    | ((with_reducible refine (?_ : wE _ (.Call (.Name _ _) _ _ _) _ _ _)); first
      | ((with_reducible refine (?_ : wE _ (.Call (.Name "len" _) _ _ _) _ _ _)); refine zbfn (by assumption) bt_len (by rfl) ?_)
      | ((with_reducible refine (?_ : wE _ (.Call (.Name "isinstance" _) _ _ _) _ _ _)); refine zbfn (by assumption) bt_isi (by rfl) ?_)
      | ((with_reducible refine (?_ : wE _ (.Call (.Name "min" _) _ _ _) _ _ _)); refine zbfn (by assumption) bt_min (by rfl) ?_)
      | ((with_reducible refine (?_ : wE _ (.Call (.Name "max" _) _ _ _) _ _ _)); refine zbfn (by assumption) bt_max (by rfl) ?_)
      | ((with_reducible refine (?_ : wE _ (.Call (.Name "list" _) _ _ _) _ _ _)); refine zbty (by assumption) bt_list (by rfl) ?_)
      | ((with_reducible refine (?_ : wE _ (.Call (.Name "tuple" _) _ _ _) _ _ _)); refine zbty (by assumption) bt_tuple (by rfl) ?_)
      | ((with_reducible refine (?_ : wE _ (.Call (.Name "int" _) _ _ _) _ _ _)); refine zbty (by assumption) bt_int (by rfl) ?_)
      | ((with_reducible refine (?_ : wE _ (.Call (.Name "abs" _) _ _ _) _ _ _)); refine zbfn (by assumption) bt_abs (by rfl) ?_)
      | ((with_reducible refine (?_ : wE _ (.Call (.Name "all" _) _ _ _) _ _ _)); refine zbfn (by assumption) bt_all (by rfl) ?_)
      | ((with_reducible refine (?_ : wE _ (.Call (.Name "sum" _) _ _ _) _ _ _)); refine zbfn (by assumption) bt_sum (by rfl) ?_)
      | ((with_reducible refine (?_ : wE _ (.Call (.Name "divmod" _) _ _ _) _ _ _)); refine zbfn (by assumption) bt_divmod (by rfl) ?_)
      | ((with_reducible refine (?_ : wE _ (.Call (.Name "ord" _) _ _ _) _ _ _)); refine zbfn (by assumption) bt_ord (by rfl) ?_))
    | ((with_reducible refine (?_ : wE _ (.IfExp _ _ _ _) _ _ _)); refine zif ?_)
    | ((with_reducible refine (?_ : wE _ (.Tuple _ _ _) _ _ _)); refine ztup ?_)
    | ((with_reducible refine (?_ : wE _ (.List _ _) _ _ _)); refine zlst ?_)
    | ((with_reducible refine (?_ : wE _ (.UnaryOp _ _ _) _ _ _)); first | refine znotV ?_ | refine zneg ?_)
    | ((with_reducible refine (?_ : wE _ (.BoolOp _ _ _) _ _ _)); first | refine zandV ?_ | refine zorV ?_ | refine zoneV ?_))
  | ((with_reducible refine (?_ : bE _ _ _ _ _ _)); refine ⟨fun _ _ _ _ _ => ?_⟩) | ((with_reducible refine (?_ : bG _ _ _ _ _ _ _)); refine ⟨fun _ _ _ _ _ => ?_⟩) | ((with_reducible refine (?_ : bTs _ _ _ _ _ _)); refine ⟨fun _ _ _ _ _ => ?_⟩)
  | ((with_reducible refine (?_ : hE _ _ _ _ _ _)); refine ⟨fun _ _ _ _ _ => ?_⟩) | ((with_reducible refine (?_ : hG _ _ _ _ _ _ _)); refine ⟨fun _ _ _ _ _ => ?_⟩) | ((with_reducible refine (?_ : hTs _ _ _ _ _ _)); refine ⟨fun _ _ _ _ _ => ?_⟩)
  | ((with_reducible refine (?_ : wP _ _ _ _ _)); first | refine pnon ?_ | refine psom ?_) | ((with_reducible refine (?_ : wSl _ _ _ _ _ _)); first | refine slL (by one_place) (fun _ _ _ _ _ => ?_) | refine slS (by assumption) ?_)
  | ((with_reducible refine (?_ : wTs _ _ _ _ _)); first | refine tsnil ?_ | refine tsone ?_)
  | ((with_reducible refine (?_ : wA _ _ _ _ _)); first | refine acons ?_ | refine anil ?_)
  | ((with_reducible refine (?_ : wO _ _ _ _ _ _)); first
    | ((with_reducible refine (?_ : wO _ (binaryOp .Add) _ _ _ _)); first | refine oadd ?_ | refine ocatE (by one_item) (by one_item) (Nat.le_of_ble_eq_true rfl) (fun _ _ _ _ _ => ?_))
    | ((with_reducible refine (?_ : wO _ (binaryOp .Sub) _ _ _ _)); first | refine osub ?_)
    | ((with_reducible refine (?_ : wO _ (binaryOp .Mult) _ _ _ _)); first | refine omul (by first | exact IntMulOk.of_right (by decide) | exact IntMulOk.of_left (by decide) | exact IntMulOk.of_right (intBits_le_64 (by omega) (by omega)) | exact IntMulOk.of_left (intBits_le_64 (by omega) (by omega))) ?_)
    | ((with_reducible refine (?_ : wO _ (binaryOp .Mod) _ _ _ _)); first | refine omod (by first | decide | omega) ?_)
    | ((with_reducible refine (?_ : wO _ (binaryOp .FloorDiv) _ _ _ _)); first | refine ofdiv ⟨by first | decide | omega, by decide⟩ ?_)
    | ((with_reducible refine (?_ : wO _ (binaryOp .BitAnd) _ _ _ _)); first | refine oand ?_)
    | ((with_reducible refine (?_ : wO _ (binaryOp .BitOr) _ _ _ _)); first | refine oor ?_)
    | ((with_reducible refine (?_ : wO _ (compareOp .Lt) _ _ _ _)); first | refine olt ?_)
    | ((with_reducible refine (?_ : wO _ (compareOp .LtE) _ _ _ _)); first | refine ole ?_)
    | ((with_reducible refine (?_ : wO _ (compareOp .Gt) _ _ _ _)); first | refine ogt ?_)
    | ((with_reducible refine (?_ : wO _ (compareOp .GtE) _ _ _ _)); first | refine oge ?_)
    | ((with_reducible refine (?_ : wO _ (compareOp .Eq) _ _ _ _)); first | refine oeqi ?_ | refine oeqsT (by decide +kernel) ?_ | refine oeqsF (by decide +kernel) ?_ | refine oeq (by rfl) ?_)
    | ((with_reducible refine (?_ : wO _ (compareOp .NotEq) _ _ _ _)); first | refine onei ?_ | refine onesT (by decide +kernel) ?_ | refine onesF (by decide +kernel) ?_ | refine one (by rfl) ?_)
    | ((with_reducible refine (?_ : wO _ (compareOp .In) _ _ _ _)); first | refine oin ?_)
    | ((with_reducible refine (?_ : wO _ (compareOp .NotIn) _ _ _ _)); first | refine onin ?_)
    | ((with_reducible refine (?_ : wO _ (compareOp .Is) _ _ _ _)); first | refine ois ?_)
    | ((with_reducible refine (?_ : wO _ (compareOp .IsNot) _ _ _ _)); first | refine onot ?_)
    | ((with_reducible refine (?_ : wO _ (binaryOp .RShift) _ _ _ _)); refine oshr (by first | decide | omega) ?_)
    | ((with_reducible refine (?_ : wO _ (binaryOp .BitXor) _ _ _ _)); refine oxor ?_)
    | ((with_reducible refine (?_ : wO _ (inplaceOp .BitXor) _ _ _ _)); refine ixor ?_)
    | ((with_reducible refine (?_ : wO _ (inplaceOp .RShift) _ _ _ _)); refine ishr (by first | decide | omega) ?_)
    | ((with_reducible refine (?_ : wO _ (inplaceOp .BitOr) _ _ _ _)); first | refine ior ?_)
    | ((with_reducible refine (?_ : wO _ (inplaceOp .Add) _ _ _ _)); first | refine iadd ?_))
  | ((with_reducible refine (?_ : wT _ _ _ _ _)); first
    | ((with_reducible refine (?_ : wT _ (.Compare _ _ _ _) _ _ _)); first | refine zcmpT (by rfl) ?_ | refine zchainT ?_)
    | ((with_reducible refine (?_ : wT _ (.UnaryOp _ _ _) _ _ _)); refine znotT ?_)
    | ((with_reducible refine (?_ : wT _ (.BoolOp _ _ _) _ _ _)); refine zW ?_)
    | refine zval ?_)
  | ((with_reducible refine (?_ : wW _ _ _ _ _)); first | refine zand ?_ | refine zor ?_ | refine zand1 ?_ | refine zor1 ?_)
  | ((with_reducible refine (?_ : wK _ _ _ _ _)); first
    | ((with_reducible refine (?_ : wK _ (.builtin "len") _ _ _)); first | refine klenL (by one_place) ?_ | refine klenT (by one_place) ?_ | refine klenS (by assumption) ?_)
    | ((with_reducible refine (?_ : wK _ (.builtin "isinstance") _ _ _)); first | refine kisE (by assumption) (by assumption) (by first | assumption | exact Xd.exx (by assumption) (by one_sign)) (by first | exact .own _ | exact .ty _) (by assumption) ?_ | refine kisi (.ty _) (by assumption) (by assumption) ?_ | refine kisi (.ty _) (.base (by first | exact .int _ | exact .bl _ | exact .str _ | exact .non | exact .tup (by one_item) | exact .lst (by one_item))) (kit_ty (r := true) (by rfl)) ?_ | refine kisi (.ty _) (.base (by first | exact .int _ | exact .bl _ | exact .str _ | exact .non | exact .tup (by one_item) | exact .lst (by one_item))) (kit_ty (r := false) (by rfl)) ?_)
    | ((with_reducible refine (?_ : wK _ (.builtin "divmod") _ _ _)); refine kdivmod ⟨by first | decide | omega, by decide⟩ (fun _ _ _ _ _ => ?_))
    | ((with_reducible refine (?_ : wK _ (.builtin "min") _ _ _)); refine kmin (by rfl) ?_)
    | ((with_reducible refine (?_ : wK _ (.builtin "max") _ _ _)); refine kmax (by rfl) ?_)
    | ((with_reducible refine (?_ : wK _ (.type "list") _ _ _)); first | refine klistL (by one_place) (fun _ _ _ _ _ => ?_) | refine klistT (by one_place) (fun _ _ _ _ _ => ?_))
    | ((with_reducible refine (?_ : wK _ (.type "tuple") _ _ _)); first | refine ktupL (by one_place) (fun _ _ _ _ _ => ?_)))
  | ((with_reducible refine (?_ : wS _ _ _ _ _)); first
    | ((with_reducible refine (?_ : wS _ (.Assign [.Name _ _] _ _) _ _ _)); refine sset' (by assumption) (by rfl) (by first | exact Or.inl rfl | exact Or.inr rfl) (by rfl) (by first | exact .inl rfl | exact .inr rfl) ?_)
    | ((with_reducible refine (?_ : wS _ (.AugAssign (.Name _ _) _ _ _) _ _ _)); refine saug' (by assumption) (by rfl) (by first | exact Or.inl rfl | exact Or.inr rfl) (by first | exact .inl rfl | exact .inr rfl) (by rfl) ?_)
    | ((with_reducible refine (?_ : wS _ (.Assign [.Attribute _ _ _] _ _) _ _ _)); refine sfld ?_)
    | ((with_reducible refine (?_ : wS _ (.Expr _ _) _ _ _)); refine sexp ?_)
    | ((with_reducible refine (?_ : wS _ (.Assign [.Tuple _ _ _] _ _) _ _ _)); refine sasg ?_) | ((with_reducible refine (?_ : wS _ (.Assign [.Subscript _ _ _] _ _) _ _ _)); refine sasg ?_)
    | refine sret ?_ | refine sif ?_ | refine sretN ?_ | refine spass ?_ | refine sbrk ?_ | refine scont ?_)
  | ((with_reducible refine (?_ : wG _ (.Name _ _) _ _ _ _)); refine gname' (by assumption) (by rfl) (by first | exact Or.inl rfl | exact Or.inr rfl) (by first | exact .inl rfl | exact .inr rfl) ?_)
  | ((with_reducible refine (?_ : wG _ (.Tuple _ _ _) _ _ _ _)); refine gtup rfl (by one_place) rfl ?_) | ((with_reducible refine (?_ : wG _ (.Subscript _ _ _) _ _ _ _)); refine gsub ?_)
  | ((with_reducible refine (?_ : wGs _ _ _ _ _ _)); first | refine gscons ?_ | refine gsnil ?_)
  | ((with_reducible refine (?_ : wB _ _ _ _ _)); first | refine bcons ?_ | refine bnil ?_)
  | refine ifT ?_ | refine ifF ?_ | refine ifd (fun _ => ?_) (fun _ => ?_) | refine ifnd (fun _ => ?_) (fun _ => ?_) | refine ⟨_, rfl, ?_⟩ | refine ⟨rfl, Evl.Ex.refl _, ?_⟩ | refine ⟨_, _, _, _, _, rfl, by one_item, by assumption, by assumption, by rfl, ?_⟩ | refine ⟨Nat.le_of_ble_eq_true rfl, fun _ _ _ _ _ => ?_⟩ | fail)
local macro_rules | `(tactic| top_name) => `(tactic| repeat' tb_rel)
local macro_rules | `(tactic| nest_fact) => `(tactic| first | exact ⟨(decide_eq_true (by omega)).symm, rfl⟩ | exact ⟨(decide_eq_false (by omega)).symm, rfl⟩ | exact ⟨decide_eq_decide.mpr (by omega), rfl⟩ | fail)

/-! ### rows kept, plainly -/
inductive UR where
  | ok (ys : List Int)
  | wire (p : Int) (why : Str)
  | chk
/-- the last but one, the last -/
def checkOf (xs : List Int) : Int := xs.getD (xs.length - 2) 0 * 256 + xs.getD (xs.length - 1) 0
def tailR (xs : List Int) (n p : Int) : UR := if p + n + 2 ≠ (xs.length : Int) then .wire 0 "length" else if ((crc 65535 (xs.take (xs.length - 2)) : Nat) : Int) ≠ checkOf xs then .chk else .ok ((xs.take (xs.length - 2)).drop p.toNat)
def unfR (xs : List Int) : UR := match numAt xs 0 (xs.length : Int) with
  | .bad p why => .wire p why
  | .num n p => tailR xs n p
def withCheck (w : List Int) : List Int := w ++ [((crc 65535 w / 256 : Nat) : Int), ((crc 65535 w % 256 : Nat) : Int)]
def frameR (xs : List Int) : List Int := withCheck (rowN xs.length ++ xs)
theorem numGo_ge : ∀ {bs : List Int} {i : Nat} {p acc n q : Int}, Bytes bs → numGo bs i p acc = .num n q → acc ≤ n ∧ p < q ∧ q ≤ p + (bs.length : Int)
  | [], _, _, _, _, _, _, h => by cases h
  | b :: r, i, p, acc, n, q, hb, h => by
    have hb0 := hb b List.mem_cons_self
    have pp : (0 : Int) ≤ b % 128 * 128 ^ i := Int.mul_nonneg (by omega) (Int.le_of_lt (Int.pow_pos (by decide)))
    unfold numGo at h
    split at h
    · cases h
    · split at h
      · cases h
        rw [List.length_cons]
        omega
      · have := numGo_ge (fun x hx => hb x (List.mem_cons_of_mem _ hx)) h
        rw [List.length_cons]
        omega
theorem numAt_ge {xs : List Int} {n q : Int} (hb : Bytes xs) (h : numAt xs 0 (xs.length : Int) = .num n q) : 0 ≤ n ∧ 0 < q ∧ q ≤ (xs.length : Int) := by
  unfold numAt at h
  rw [Int.toNat_natCast, List.take_length, show (0 : Int).toNat = 0 from rfl, List.drop_zero] at h
  have := numGo_ge hb h
  omega
theorem atI_back {α : Type} {xs : List α} {k : Nat} {v : α} (h0 : 0 < k) (h1 : k ≤ xs.length) (h : xs[xs.length - k]? = some v) : atI xs (-(k : Int)) = some v := by
  unfold atI ixN
  rw [if_neg (by omega), if_pos (by omega)]
  show xs[(-(k : Int) + (xs.length : Int)).toNat]? = some v
  rw [show (-(k : Int) + (xs.length : Int)).toNat = xs.length - k from by omega]
  exact h
theorem getD_is {l : List Int} {i : Nat} (h : i < l.length) : l[i]? = some (l.getD i 0) := by rw [List.getD_eq_getElem?_getD, List.getElem?_eq_getElem h]; rfl
theorem back_two {xs : List Int} (h : 2 ≤ xs.length) : atI (xs.map V.int) (-2) = some (.int (xs.getD (xs.length - 2) 0)) :=
  atI_back (k := 2) (by decide) (by rw [List.length_map]; exact h) (by rw [List.getElem?_map, List.length_map, getD_is (by omega)]; rfl)
theorem back_one {xs : List Int} (h : 1 ≤ xs.length) : atI (xs.map V.int) (-1) = some (.int (xs.getD (xs.length - 1) 0)) :=
  atI_back (k := 1) (by decide) (by rw [List.length_map]; exact h) (by rw [List.getElem?_map, List.length_map, getD_is (by omega)]; rfl)
theorem sIx_m2 (n d : Nat) : HT.sIx n d (some (-2)) = n - 2 := by
  show (if (-2 : Int) < 0 then (-2 + (n : Int)).toNat else min (-2 : Int).toNat n) = _
  rw [if_pos (by decide)]
  omega
theorem sIx_at (n d : Nat) {p : Int} (h : 0 ≤ p) (h1 : p ≤ (n : Int)) : HT.sIx n d (some p) = p.toNat := by
  show (if p < 0 then (p + (n : Int)).toNat else min p.toNat n) = _
  rw [if_neg (by omega)]
  omega
theorem cut_two {xs : List Int} (h : 2 ≤ xs.length) : cutV (xs.map V.int) none (some (-2)) = (xs.take (xs.length - 2)).map V.int := by
  unfold cutV
  rw [List.length_map, sIx_m2, HT.sIx_none, List.drop_zero, ← List.map_take, Nat.sub_zero]
theorem cut_mid {xs : List Int} {p : Int} (h : 2 ≤ xs.length) (p0 : 0 ≤ p) (p1 : p ≤ (xs.length : Int) - 2) : cutV (xs.map V.int) (some p) (some (-2)) = ((xs.take (xs.length - 2)).drop p.toNat).map V.int := by
  unfold cutV
  rw [List.length_map, sIx_m2, sIx_at _ _ p0 (by omega), List.map_drop, List.map_take, List.drop_take]
theorem bytes_take {xs : List Int} (h : Bytes xs) (k : Nat) : Bytes (xs.take k) := fun x hx => h x (List.mem_of_mem_take hx)
theorem bytes_getD {xs : List Int} (h : Bytes xs) (k : Nat) : 0 ≤ xs.getD k 0 ∧ xs.getD k 0 < 256 := by
  rw [List.getD_eq_getElem?_getD]
  cases e : xs[k]? with
  | none => exact ⟨by decide, by decide⟩
  | some x => exact h x (List.mem_of_getElem? e)
theorem klistR {X : Cx} {H : Hp} {Q : VK} {l : Addr} {xs : List Int} (h : RowAt X.K H l xs) (q : ∀ p H2, H p = none → Ex H H2 → H2 p = some (.lst (xs.map V.int)) → Q (.ref p) H2) : wK X (.type "list") [.ref l] H Q := by
  rcases h with h | h
  · exact klistL (SqL.of h) q
  · exact klistT (SqT.of h) q
theorem klenR {X : Cx} {H : Hp} {Q : VK} {l : Addr} {xs : List Int} (h : RowAt X.K H l xs) (q : Q (.int xs.length) H) : wK X (.builtin "len") [.ref l] H Q := by
  rw [← List.length_map (f := V.int)] at q
  rcases h with h | h
  · exact klenL (SqL.of h) q
  · exact klenT (SqT.of h) q
theorem slR {X : Cx} {H : Hp} {Q : VK} {l : Addr} {xs ys : List Int} {lo hi : Option Int} (h : RowAt X.K H l xs) (hc : cutV (xs.map V.int) lo hi = ys.map V.int) (hw : ¬ (HT.sIx xs.length 0 lo = 0 ∧ HT.sIx xs.length xs.length hi = xs.length)) (q : ∀ p H2, H p = none → Ex H H2 → RowAt X.K H2 p ys → Q (.ref p) H2) : wSl X (.ref l) lo hi H Q := by
  rcases h with h | h
  · exact slL (SqL.of h) fun p H2 a b c => q p H2 a b (.inl (by rw [c, hc]))
  · exact slT (SqT.of h) (by rw [List.length_map]; exact hw) fun p H2 a b c => q p H2 a b (.inr (by rw [c, hc]))
theorem ixRI {X : Cx} {H : Hp} {Q : VK} {l : Addr} {xs : List Int} {i : Int} {v : V} (h : RowAt X.K H l xs) (hi : atI (xs.map V.int) i = some v) (q : Q v H) : wIx X (.ref l) (.int i) H Q := by
  rcases h with h | h
  · exact ixL (SqL.of h) hi q
  · exact ixT (SqT.of h) hi q
theorem bit16 {a b : Int} (h0 : 0 ≤ a) (h1 : 0 ≤ b) (h2 : b < 256) : Builtin.bitOr (a * 2 ^ (8 : Int).toNat) b = a * 256 + b := by
  have := _root_.Bits.bitOr_join' (a := b) (b := a) (k := 8) h1 h2 h0
  rw [show (8 : Int).toNat = 8 from rfl, this, Int.add_comm]
  rfl
/-! ### unframed -/
def spUR (K : PySem.W.Frag) (H : Hp) (Q : VK) (E : XK) : UR → Prop
  | .ok ys => ∀ t H', H t = none → Ex H H' → H' t = some (.lst (ys.map V.int)) → Q (.ref t) H'
  | .wire p why => outWire K H E p why
  | .chk => ∀ H', Ex H H' → E (.ref (He.ga K "BadCheck")) none H'
def sp_unframed (K : PySem.W.Frag) : Sp := fun vs H Q E => (∃ (l : Addr) (xs : List Int), vs = [.ref l] ∧ RowAt K H l xs ∧ Bytes xs ∧ xs.length ≤ 100000 ∧ spUR K H Q E (unfR xs)) ∨ ∃ u, vs = [u] ∧ RowAsk K H u false ∧ ∀ H', Ex H H' → E (.ref (He.ga K "BadRow")) none H'
theorem outWire_ex {H H' : Hp} {E : XK} {p : Int} {why : Str} (h : outWire K H E p why) (e : Ex H H') : outWire K H' E p why := fun d H2 hd e2 hx => h d H2 (Evl.fresh_back e hd) (e.trans e2) hx
theorem ok_unframed (T : Txt K mg) : Gf P w K mg base 5 "unframed" [] (sp_unframed K) := by
  refine gf_mk T.f_unframed T.m_unframed (fun _ _ _ _ _ _ us hl => match us, hl with | [_], _ => rfl) fun fd F => fn_mk F sc_unframed (fun vs H Q E h => ?_) fun cd A outer s H vs Q E hr tk po h => ?_
  · rcases h with ⟨l, xs, rfl, _⟩ | ⟨u, rfl, _⟩ <;> rfl
  · have nd := sc_unframed.nd
    have n1 := T.n_len
    have n2 := T.n_list
    rcases h with ⟨l, xs, rfl, hrow, hb, hz, q⟩ | ⟨u, rfl, ha, q⟩
    · top_name
      refine zcall (ok_need_row T) hr (by decide) tk rfl ?_
      top_name
      refine ⟨.ref l, true, rfl, hrow.ask hb (by rw [sizeLine_eq]; omega), ?_⟩
      rw [if_pos rfl]
      intro H1 e1
      top_name
      refine zcall (ok_number_at T) hr (by decide) tk rfl ?_
      top_name
      refine klenR (hrow.ex e1) ?_
      top_name
      refine ⟨l, xs, 0, (xs.length : Int), rfl, hrow.ex e1, hb, by decide, by omega, by omega, by omega, ?_⟩
      unfold unfR at q
      cases hn : numAt xs 0 (xs.length : Int) with
      | bad p why =>
        rw [hn] at q
        exact outWire_ex q e1
      | num n p =>
        rw [hn] at q
        have q : spUR K H Q E (tailR xs n p) := q
        have hg := numAt_ge hb hn
        intro t H2 ht e2 hxt
        have hrow2 := (hrow.ex e1).ex e2
        top_name
        refine klenR hrow2 ?_
        unfold tailR at q
        top_name
        · rename_i hne
          rw [if_pos hne] at q
          refine sraise rfl tk (mWire T hr (by decide) rfl ?_)
          top_name
          exact ⟨0, "length", rfl, outWire_ex q (e1.trans e2)⟩
        rename_i heq
        rw [if_neg (by omega)] at q
        refine zcall (ok_check T) hr (by decide) tk rfl ?_
        top_name
        refine slR hrow2 (cut_two (by omega)) (by rw [sIx_m2]; omega) fun r H3 hr3 e3 hrow3 => ?_
        top_name
        refine .inl ⟨r, _, rfl, hrow3, bytes_take hb _, by rw [List.length_take, sizeLine_eq]; omega, fun H4 e4 => ?_⟩
        have hrow4 := (hrow2.ex e3).ex e4
        have b1 := bytes_getD hb (xs.length - 2)
        have b0 := bytes_getD hb (xs.length - 1)
        top_name
        refine ixRI hrow4 (back_two (by omega)) ?_
        top_name
        refine oshl (shl_ok (n := 8) (j := 8) (by omega) (by decide)) ?_
        top_name
        refine ixRI hrow4 (back_one (by omega)) ?_
        top_name
        all_goals (unfold checkOf at q; rw [← bit16 b1.1 b0.1 b0.2] at q)
        · rename_i hne
          rw [if_pos hne] at q
          exact sraise rfl tk (mplain T.e_BadCheck T.m_BadCheck rfl (q _ (by one_sign)))
        · rename_i heq2
          rw [if_neg (fun z => z heq2)] at q
          refine slR hrow4 (cut_mid (by omega) (by omega) (by omega)) (by rw [sIx_m2]; omega) fun z H5 hz5 e5 hrow5 => ?_
          top_name
          refine klistR hrow5 fun y H6 hy e6 hxy => ?_
          have eH5 : Ex H H5 := by one_sign
          exact q y H6 (Evl.fresh_back eH5 hy) (eH5.trans e6) hxy
    · top_name
      refine zcall (ok_need_row T) hr (by decide) tk rfl ?_
      top_name
      exact ⟨u, false, rfl, ha, by rw [if_neg Bool.false_ne_true]; exact q⟩
/-! ### framed -/
theorem crc_parts (w : List Int) : ((crc 65535 w : Nat) : Int) / 2 ^ (8 : Int).toNat = ((crc 65535 w / 256 : Nat) : Int) ∧ Builtin.bitAnd ((crc 65535 w : Nat) : Int) 255 = ((crc 65535 w % 256 : Nat) : Int) := by
  refine ⟨by show _ / 256 = _; omega, ?_⟩
  rw [show (255 : Int) = 2 ^ 8 - 1 from rfl, _root_.Bits.bitAnd_mask 8 (by omega)]
  show _ % 256 = _
  omega
theorem bytes_app {xs ys : List Int} (h : Bytes xs) (g : Bytes ys) : Bytes (xs ++ ys) := fun x hx => (List.mem_append.mp hx).elim (h x) (g x)
theorem rowN_short {n : Nat} (h : n ≤ 100000) : (rowN n).length ≤ 3 := rowN_len 2 n (by omega)
def sp_lframe : Sp := fun vs H Q _ => ∃ (l : Addr) (xs : List Int), vs = [.ref l] ∧ H l = some (.lst (xs.map V.int)) ∧ Bytes xs ∧ xs.length ≤ 1000 ∧ ∀ t H', H t = none → Ex H H' → H' t = some (.lst ((frameR xs).map V.int)) → Q (.ref t) H'
theorem ok_lframe (T : Txt K mg) : Gf P w K mg base 2 "_law_frame" [] sp_lframe := by
  refine gf_mk T.f__law_frame T.m__law_frame (fun _ _ _ _ _ _ us hl => match us, hl with | [_], _ => rfl) fun fd F => fn_mk F sc__law_frame (fun vs H Q E h => ?_) fun cd A outer s H vs Q E hr tk po h => ?_
  · obtain ⟨l, xs, rfl, _⟩ := h; rfl
  · obtain ⟨l, xs, rfl, hl, hb, hz, q⟩ := h
    have nd := sc__law_frame.nd
    have n1 := T.n_len
    top_name
    refine zcall (ok_lrow T) hr (by decide) takesF rfl ?_
    top_name
    rw [List.length_map]
    refine ⟨by unfold MOST; omega, fun t H2 ht e2 hxt => ?_⟩
    have hl3 := rowN_short (show xs.length ≤ 100000 by omega)
    top_name
    refine ocatE hxt (e2 _ _ hl) (by rw [List.length_map, List.length_map, sizeLine_eq]; omega) fun v H4 hv e4 hxv => ?_
    rw [← List.map_append] at hxv
    top_name
    refine zcall (ok_lcheck T) hr (by decide) takesF rfl ?_
    top_name
    refine ⟨v, _, rfl, hxv, bytes_app (rowN_bytes _) hb, by rw [List.length_append]; omega, fun H5 e5 => ?_⟩
    top_name
    rename_i z H6 hz6 e6 hxz
    refine ocatE (e6 _ _ (e5 _ _ hxv)) hxz (by rw [List.length_map, List.length_append, sizeLine_eq]; show _ + 2 ≤ _; omega) fun o H7 ho e7 hxo => ?_
    have eH6 : Ex H H6 := by one_sign
    refine q o H7 (Evl.fresh_back eH6 ho) (eH6.trans e7) ?_
    rw [hxo]
    unfold frameR withCheck
    rw [List.map_append (l₁ := rowN xs.length ++ xs), Int.natCast_ediv, Int.natCast_emod]
    rfl
end K06

set_option maxRecDepth 100000
set_option maxHeartbeats 4000000
set_option pp.maxSteps 500
namespace K06
open PySem PySem.Spec PyProof.Rows L2 Z
/-! ### what comes next in a wire, plainly -/
inductive NX where
  | none
  | bad (p : Int) (why : Str) (b : Nat)
  | row (ys : List Int) (n : Nat)
def nxF (f : List Int) (n p : Int) (k : Nat) : NX := match tailR f n p with
  | .ok ys => .row ys k
  | _ => .bad 0 "check" k
def nxT (xs : List Int) (n p : Int) : NX := if 30000 < n then .bad 0 "length" p.toNat else if (xs.length : Int) < p + n + 2 then .none else nxF (xs.take (p + n + 2).toNat) n p (p + n + 2).toNat
def nx (xs : List Int) : NX := match numGo xs 0 0 0 with
  | .bad p why => if why = "number" then .bad p "number" (p + 1).toNat else .none
  | .num n p => nxT xs n p
def NX.upto (m : Nat) : NX → NX
  | .none => .none
  | .bad p why b => if b ≤ m then .bad p why b else .none
  | .row ys n => if n ≤ m then .row ys n else .none
def cutAt (m : Int) : NR → NR → Prop
  | .num n q, r => if q ≤ m then r = .num n q else ∃ c, r = .bad c "cut"
  | .bad q why, r => if why = "number" ∧ q + 1 ≤ m then r = .bad q why else ∃ c, r = .bad c "cut"
def NR.lo (p : Int) : NR → Prop
  | .num _ q => p < q
  | .bad q _ => p ≤ q
theorem numGo_lo : ∀ {bs : List Int} {i : Nat} {p acc : Int}, (numGo bs i p acc).lo p
  | [], i, p, acc => Int.le_refl p
  | b :: r, i, p, acc => by
    unfold numGo
    split
    · exact Int.le_refl p
    split
    · show p < p + 1
      omega
    · have := numGo_lo (bs := r) (i := i + 1) (p := p + 1) (acc := acc + b % 128 * 128 ^ i)
      cases h : numGo r (i + 1) (p + 1) (acc + b % 128 * 128 ^ i) with
      | num n q => rw [h] at this; have : p + 1 < q := this; show p < q; omega
      | bad q y => rw [h] at this; have : p + 1 ≤ q := this; show p ≤ q; omega
theorem numGo_take : ∀ (bs : List Int) (i : Nat) (p acc : Int) (m : Nat), cutAt (p + (m : Int)) (numGo bs i p acc) (numGo (bs.take m) i p acc)
  | bs, i, p, acc, 0 => by
    rw [List.take_zero]
    have := numGo_lo (bs := bs) (i := i) (p := p) (acc := acc)
    cases h : numGo bs i p acc with
    | num n q =>
      rw [h] at this
      have : p < q := this
      show if q ≤ p + ((0 : Nat) : Int) then _ else _
      rw [if_neg (by omega)]
      exact ⟨p, rfl⟩
    | bad q y =>
      rw [h] at this
      have : p ≤ q := this
      show if y = "number" ∧ q + 1 ≤ p + ((0 : Nat) : Int) then _ else _
      rw [if_neg (fun z => by have := z.2; omega)]
      exact ⟨p, rfl⟩
  | [], i, p, acc, m + 1 => by
    have hc : ¬ (("cut" : Str) = "number" ∧ p + 1 ≤ p + ((m + 1 : Nat) : Int)) := fun z => absurd z.1 (by decide +kernel)
    show if ("cut" : Str) = "number" ∧ p + 1 ≤ p + ((m + 1 : Nat) : Int) then NR.bad p "cut" = .bad p "cut" else ∃ c, NR.bad p "cut" = .bad c "cut"
    rw [if_neg hc]
    exact ⟨p, rfl⟩
  | b :: r, i, p, acc, m + 1 => by
    rw [List.take_succ_cons]
    unfold numGo
    split
    · show if ("number" : Str) = "number" ∧ p + 1 ≤ p + ((m + 1 : Nat) : Int) then _ else _
      rw [if_pos ⟨rfl, by omega⟩]
    split
    · show if p + 1 ≤ p + ((m + 1 : Nat) : Int) then _ else _
      rw [if_pos (by omega)]
    · have := numGo_take r (i + 1) (p + 1) (acc + b % 128 * 128 ^ i) m
      rw [show p + ((m + 1 : Nat) : Int) = p + 1 + (m : Int) from by omega]
      exact this
theorem nx_take {xs : List Int} (hb : Bytes xs) (m : Nat) : nx (xs.take m) = (nx xs).upto m := by
  have ht := numGo_take xs 0 0 0 m
  rw [Int.zero_add] at ht
  unfold nx
  cases h : numGo xs 0 0 0 with
  | bad q why =>
    rw [h] at ht
    have hq : (0 : Int) ≤ q := by have := numGo_lo (bs := xs) (i := 0) (p := 0) (acc := 0); rw [h] at this; exact this
    have ht : if why = "number" ∧ q + 1 ≤ (m : Int) then numGo (xs.take m) 0 0 0 = .bad q why else ∃ c, numGo (xs.take m) 0 0 0 = .bad c "cut" := ht
    by_cases hw : why = "number"
    · subst hw
      show _ = NX.upto m (if ("number" : Str) = "number" then _ else _)
      rw [if_pos rfl]
      show _ = if (q + 1).toNat ≤ m then _ else _
      by_cases hm : q + 1 ≤ (m : Int)
      · rw [if_pos ⟨rfl, hm⟩] at ht
        rw [ht, if_pos (by omega)]
        show (if ("number" : Str) = "number" then _ else _) = _
        rw [if_pos rfl]
      · rw [if_neg (fun z => hm z.2)] at ht
        obtain ⟨c, ht⟩ := ht
        rw [ht, if_neg (by omega)]
        show (if ("cut" : Str) = "number" then _ else _) = _
        rw [if_neg (by decide +kernel)]
    · rw [if_neg (fun z => hw z.1)] at ht
      obtain ⟨c, ht⟩ := ht
      rw [ht]
      show (if ("cut" : Str) = "number" then _ else _) = NX.upto m (if why = "number" then _ else _)
      rw [if_neg (by decide +kernel), if_neg hw]
      rfl
  | num n p =>
    rw [h] at ht
    have hge := numGo_ge hb h
    have ht : if p ≤ (m : Int) then numGo (xs.take m) 0 0 0 = .num n p else ∃ c, numGo (xs.take m) 0 0 0 = .bad c "cut" := ht
    have up : ∀ k : Nat, (nxF (xs.take k) n p k).upto m = if k ≤ m then nxF (xs.take k) n p k else .none := by
      intro k
      unfold nxF
      cases tailR (xs.take k) n p <;> rfl
    show _ = NX.upto m (nxT xs n p)
    unfold nxT
    by_cases hm : p ≤ (m : Int)
    · rw [if_pos hm] at ht
      rw [ht]
      show nxT (xs.take m) n p = _
      unfold nxT
      by_cases hn : 30000 < n
      · rw [if_pos hn, if_pos hn]
        show _ = if p.toNat ≤ m then _ else _
        rw [if_pos (by omega)]
      · rw [if_neg hn, if_neg hn, List.length_take]
        by_cases hl : (xs.length : Int) < p + n + 2
        · rw [if_pos hl, if_pos (by omega)]
          rfl
        · rw [if_neg hl, up]
          by_cases hk : (p + n + 2).toNat ≤ m
          · rw [if_pos hk, if_neg (by omega), List.take_take, Nat.min_eq_left hk]
          · rw [if_neg hk, if_pos (by omega)]
    · rw [if_neg hm] at ht
      obtain ⟨c, ht⟩ := ht
      rw [ht]
      show (if ("cut" : Str) = "number" then _ else _) = _
      rw [if_neg (by decide +kernel)]
      split
      · show _ = if p.toNat ≤ m then _ else _
        rw [if_neg (by omega)]
      split
      · rfl
      · rw [up, if_neg (by omega)]
/-- what unframed tells of a whole frame -/
theorem unf_take {xs : List Int} (hb : Bytes xs) {n p : Int} (h : numGo xs 0 0 0 = .num n p) (hl : p + n + 2 ≤ (xs.length : Int)) : unfR (xs.take (p + n + 2).toNat) = tailR (xs.take (p + n + 2).toNat) n p := by
  have hge := numGo_ge hb h
  have ht := numGo_take xs 0 0 0 (p + n + 2).toNat
  rw [h] at ht
  have ht : if p ≤ 0 + ((p + n + 2).toNat : Int) then numGo (xs.take (p + n + 2).toNat) 0 0 0 = .num n p else ∃ c, numGo (xs.take (p + n + 2).toNat) 0 0 0 = .bad c "cut" := ht
  rw [if_pos (by omega)] at ht
  unfold unfR numAt
  rw [Int.toNat_natCast, List.take_length, show (0 : Int).toNat = 0 from rfl, List.drop_zero, ht]
theorem tail_not_wire {xs : List Int} {n p : Int} (hl : p + n + 2 = (xs.length : Int)) {q : Int} {why : Str} (h : tailR xs n p = .wire q why) : False := by
  unfold tailR at h
  rw [if_neg (by omega)] at h
  split at h <;> cases h
theorem nx_row {xs ys : List Int} {n : Nat} (hb : Bytes xs) (h : nx xs = .row ys n) : 3 ≤ n ∧ n ≤ xs.length ∧ Bytes ys ∧ ys.length ≤ 30000 := by
  unfold nx at h
  cases hg : numGo xs 0 0 0 with
  | bad q why =>
    rw [hg] at h
    have h : (if why = "number" then NX.bad q "number" (q + 1).toNat else .none) = .row ys n := h
    split at h <;> cases h
  | num k p =>
    rw [hg] at h
    have hge := numGo_ge hb hg
    have h : nxT xs k p = .row ys n := h
    unfold nxT at h
    split at h
    · cases h
    split at h
    · cases h
    · unfold nxF at h
      have hfl : (xs.take (p + k + 2).toNat).length = (p + k + 2).toNat := by rw [List.length_take]; omega
      cases ht : tailR (xs.take (p + k + 2).toNat) k p with
      | wire q why => rw [ht] at h; cases h
      | chk => rw [ht] at h; cases h
      | ok zs =>
        rw [ht] at h
        cases h
        unfold tailR at ht
        split at ht
        · cases ht
        split at ht
        · cases ht
        · cases ht
          refine ⟨by omega, by omega, fun x hx => hb x ?_, ?_⟩
          · exact List.mem_of_mem_take (List.mem_of_mem_take (List.mem_of_mem_drop hx))
          · rw [List.length_drop, List.length_take, hfl]
            omega
end K06

set_option maxRecDepth 100000
set_option maxHeartbeats 4000000
namespace Z
open PySem PySem.Spec PyProof.Rows L2
open Evl (Ex)
/-! ### == and != of nested lists and tuples, of texts of any signs -/
section
variable {X : Cx} {σ : Z.St} {H : Hp} {pins : List (Addr × Obj)} {s : Shared}
theorem list_tup (I : Inv X pins σ H s) {a : Addr} {xs ys : List V} (h : SqL X.K H a xs) (h' : SqT X.K H a ys) : False := by
  obtain ⟨_, _, p1, _⟩ := I.list h
  obtain ⟨_, _, p2, _⟩ := I.tuple h'
  exact SeqAt.ne_of_list_tuple p1.isList p2 rfl
theorem dpAll_len {K : PySem.W.Frag} {H : Hp} : ∀ {xs : List V} {ds : List PyData}, DpAll K H xs ds → xs.length = ds.length
  | _, _, .nil => rfl
  | _, _, .cons _ t => by rw [List.length_cons, List.length_cons, dpAll_len t]
mutual
theorem dp_same (I : Inv X pins σ H s) : ∀ {x : V} {d e : PyData}, Dp X.K H x d → Dp X.K H x e → PyData.eqv d e = true
  | _, _, _, .non, h => by cases h; rfl
  | _, _, _, .bl b, h => by cases h; simp [PyData.eqv]
  | _, _, _, .int i, h => by cases h; simp [PyData.eqv]
  | _, _, _, .str x, h => by cases h; simp [PyData.eqv]
  | _, _, _, .lst q a, h => by
    cases h with
    | lst q2 a2 =>
      have e := I.list_inj q2 q
      subst e
      rw [PyData.eqv]
      exact dp_sameAll I a a2
    | tup q2 a2 => exact (list_tup I q q2).elim
  | _, _, _, .tup q a, h => by
    cases h with
    | tup q2 a2 =>
      have e := I.tuple_inj q2 q
      subst e
      rw [PyData.eqv]
      exact dp_sameAll I a a2
    | lst q2 a2 => exact (list_tup I q2 q).elim
theorem dp_sameAll (I : Inv X pins σ H s) : ∀ {xs : List V} {ds es : List PyData}, DpAll X.K H xs ds → DpAll X.K H xs es → PyData.eqvAll ds es = true
  | _, _, _, .nil, h => by cases h; rfl
  | _, _, _, .cons a b, h => by
    cases h with
    | cons c d =>
      rw [PyData.eqvAll, dp_same I a c, dp_sameAll I b d]
      rfl
end

/-- the room that two things take -/
theorem roomL {A : Around} {d : PyData} {xs : List PyData} (h : A.units + min (PyData.depthAll xs + 1) (d.depth) < cLine) : A.units < cLine := by omega
mutual
theorem eqAt_dp (I : Inv X pins σ H s) : ∀ {x y : V} {d e : PyData} {v u : Value} (A : Around), Dp X.K H x d → Dp X.K H y e → RelV x v → RelV y u → A.units + min d.depth e.depth < cLine → SeqAt.EqAt A s v u (PyData.eqv d e)
  | _, _, _, _, v, u, A, .non, hy, rx, ry, hu => by
    cases rx
    cases hy with
    | non => cases ry; exact SeqAt.EqAt.same _
    | bl y => cases ry; exact SeqAt.EqAt.none_bool y
    | int y => obtain ⟨u, rfl⟩ := ry; exact SeqAt.EqAt.none_int y u
    | str y => obtain ⟨u, rfl⟩ := ry; exact SeqAt.EqAt.none_str y u
    | lst q _ => obtain ⟨_, _, p, _⟩ := I.list q; cases ry; exact SeqAt.EqAt.none_list  p.isList (SeqAt.room_here hu)
    | tup q _ => obtain ⟨_, _, p, _⟩ := I.tuple q; cases ry; exact SeqAt.EqAt.none_tuple  p (SeqAt.room_here hu)
  | _, _, _, _, v, u, A, .bl b, hy, rx, ry, hu => by
    cases rx
    cases hy with
    | non => cases ry; exact SeqAt.EqAt.bool_none b
    | bl y => cases ry; exact SeqAt.EqAt.bool_bool b y
    | int y => obtain ⟨u, rfl⟩ := ry; exact SeqAt.EqAt.bool_int b y u
    | str y => obtain ⟨u, rfl⟩ := ry; exact SeqAt.EqAt.bool_str b y u
    | lst q _ => obtain ⟨_, _, p, _⟩ := I.list q; cases ry; exact SeqAt.EqAt.bool_list b p.isList (SeqAt.room_here hu)
    | tup q _ => obtain ⟨_, _, p, _⟩ := I.tuple q; cases ry; exact SeqAt.EqAt.bool_tuple b p (SeqAt.room_here hu)
  | _, _, _, _, v, u, A, .int i, hy, rx, ry, hu => by
    obtain ⟨t, rfl⟩ := rx
    cases hy with
    | non => cases ry; exact SeqAt.EqAt.int_none i t
    | bl y => cases ry; exact SeqAt.EqAt.int_bool i t y
    | int y => obtain ⟨u, rfl⟩ := ry; exact SeqAt.EqAt.int_int i t y u
    | str y => obtain ⟨u, rfl⟩ := ry; exact SeqAt.EqAt.int_str i t y u
    | lst q _ => obtain ⟨_, _, p, _⟩ := I.list q; cases ry; exact SeqAt.EqAt.int_list i t p.isList (SeqAt.room_here hu)
    | tup q _ => obtain ⟨_, _, p, _⟩ := I.tuple q; cases ry; exact SeqAt.EqAt.int_tuple i t p (SeqAt.room_here hu)
  | _, _, _, _, v, u, A, .str x, hy, rx, ry, hu => by
    obtain ⟨t, rfl⟩ := rx
    cases hy with
    | non => cases ry; exact SeqAt.EqAt.str_none x t
    | bl y => cases ry; exact SeqAt.EqAt.str_bool x t y
    | int y => obtain ⟨u, rfl⟩ := ry; exact SeqAt.EqAt.str_int x t y u
    | str y => obtain ⟨u, rfl⟩ := ry; exact SeqAt.EqAt.str_str x t y u
    | lst q _ => obtain ⟨_, _, p, _⟩ := I.list q; cases ry; exact SeqAt.EqAt.str_list x t p.isList (SeqAt.room_here hu)
    | tup q _ => obtain ⟨_, _, p, _⟩ := I.tuple q; cases ry; exact SeqAt.EqAt.str_tuple x t p (SeqAt.room_here hu)
  | _, _, _, _, v, u, A, .lst (a := l1) (ds := ds) q a, hy, rx, ry, hu => by
    cases rx
    obtain ⟨us, r1, p1, _⟩ := I.list q
    cases hy with
    | non => cases ry; exact SeqAt.EqAt.list_none p1.isList (SeqAt.room_here hu)
    | bl y => cases ry; exact SeqAt.EqAt.list_bool y p1.isList (SeqAt.room_here hu)
    | int y => obtain ⟨u, rfl⟩ := ry; exact SeqAt.EqAt.list_int y u p1.isList (SeqAt.room_here hu)
    | str y => obtain ⟨u, rfl⟩ := ry; exact SeqAt.EqAt.list_str y u p1.isList (SeqAt.room_here hu)
    | tup q2 _ => obtain ⟨_, _, p2, _⟩ := I.tuple q2; cases ry; exact SeqAt.EqAt.list_tuple p1.isList p2 (SeqAt.room_here hu)
    | @lst l2 ys es q2 b =>
      obtain ⟨ws, r2, p2, _⟩ := I.list q2
      cases ry
      show SeqAt.EqAt A s _ _ (PyData.eqvAll ds es)
      have n1 : us.toArray.size = ds.length := by rw [List.size_toArray, ← r1.length, dpAll_len a]
      have n2 : ws.toArray.size = es.length := by rw [List.size_toArray, ← r2.length, dpAll_len b]
      by_cases hll : l1 = l2
      · subst hll
        have e := I.list_inj q2 q
        subst e
        rw [dp_sameAll I a b]
        exact SeqAt.EqAt.same _
      · by_cases hsz : us.toArray.size = ws.toArray.size
        · rw [← SeqAt.eqvAll_same_length (by omega : ds.length = es.length), ← n1]
          refine SeqAt.EqAt.of_refs hll (SeqAt.RcAt.lists p1.isList p2.isList hsz (SeqAt.room_here hu) fun j j1 j2 => ?_)
          have := eqAt_dpAll I A.in1 a b r1 r2 (SeqAt.room_in hu) j (by simpa using j1) (by simpa using j2)
          simpa using this
        · rw [SeqAt.eqvAll_other_length (by omega : ds.length ≠ es.length)]
          exact SeqAt.EqAt.of_refs hll (SeqAt.RcAt.lists_lengths p1.isList p2.isList (by simpa using hsz) (SeqAt.room_here hu))
  | _, _, _, _, v, u, A, .tup (a := l1) (ds := ds) q a, hy, rx, ry, hu => by
    cases rx
    obtain ⟨us, r1, p1, _⟩ := I.tuple q
    cases hy with
    | non => cases ry; exact SeqAt.EqAt.tuple_none p1 (SeqAt.room_here hu)
    | bl y => cases ry; exact SeqAt.EqAt.tuple_bool y p1 (SeqAt.room_here hu)
    | int y => obtain ⟨u, rfl⟩ := ry; exact SeqAt.EqAt.tuple_int y u p1 (SeqAt.room_here hu)
    | str y => obtain ⟨u, rfl⟩ := ry; exact SeqAt.EqAt.tuple_str y u p1 (SeqAt.room_here hu)
    | lst q2 _ => obtain ⟨_, _, p2, _⟩ := I.list q2; cases ry; exact SeqAt.EqAt.tuple_list p1 p2.isList (SeqAt.room_here hu)
    | @tup l2 ys es q2 b =>
      obtain ⟨ws, r2, p2, _⟩ := I.tuple q2
      cases ry
      show SeqAt.EqAt A s _ _ (PyData.eqvAll ds es)
      have n1 : us.toArray.size = ds.length := by rw [List.size_toArray, ← r1.length, dpAll_len a]
      have n2 : ws.toArray.size = es.length := by rw [List.size_toArray, ← r2.length, dpAll_len b]
      by_cases hll : l1 = l2
      · subst hll
        have e := I.tuple_inj q2 q
        subst e
        rw [dp_sameAll I a b]
        exact SeqAt.EqAt.same _
      · rw [← SeqAt.eqvAll_eq ds es, ← n1, ← n2]
        refine SeqAt.EqAt.of_refs hll (SeqAt.RcAt.tuples p1 p2 (SeqAt.room_here hu) fun j j1 j2 => ?_)
        have := eqAt_dpAll I A.in1 a b r1 r2 (SeqAt.room_in hu) j (by simpa using j1) (by simpa using j2)
        simpa using this
theorem eqAt_dpAll (I : Inv X pins σ H s) : ∀ {xs ys : List V} {ds es : List PyData} {us ws : List Value} (A : Around), DpAll X.K H xs ds → DpAll X.K H ys es → Vals xs us → Vals ys ws → A.units + min (PyData.depthAll ds) (PyData.depthAll es) < cLine →
    ∀ j (h1 : j < us.length) (h2 : j < ws.length), SeqAt.EqAt A s us[j] ws[j] (SeqAt.pairEq ds es j)
  | _, _, _, _, _, _, _, .nil, _, r1, _, _, j, h1, _ => by cases r1; exact absurd h1 (Nat.not_lt_zero _)
  | _, _, _, _, _, _, _, .cons _ _, .nil, _, r2, _, j, _, h2 => by cases r2; exact absurd h2 (Nat.not_lt_zero _)
  | _, _, _, _, _, _, A, .cons a as, .cons b bs, r1, r2, hu, j, h1, h2 => by
    cases r1 with
    | cons c1 t1 =>
      cases r2 with
      | cons c2 t2 =>
        cases j with
        | zero => exact eqAt_dp I A a b c1 c2 (SeqAt.room_head hu)
        | succ j => exact eqAt_dpAll I A as bs t1 t2 (SeqAt.room_tail hu) j (Nat.lt_of_succ_lt_succ h1) (Nat.lt_of_succ_lt_succ h2)
end
/-- two lists -/
theorem oeqDL {k : Nat} {a b : Addr} {ds es : List PyData} {Q : VK} (hr : Room k X.A) (hx : Dp X.K H (.ref a) (.list ds)) (hy : Dp X.K H (.ref b) (.list es)) (hd : min (PyData.depthAll ds) (PyData.depthAll es) ≤ 60) (h : Q (.bl (PyData.eqvAll ds es)) H) : wO X (compareOp .Eq) (.ref a) (.ref b) H Q := by
  refine ⟨fun pins s σ v u I rx ry => ?_⟩
  have hu := hr.units
  cases hx with
  | lst q1 a1 =>
    cases hy with
    | lst q2 a2 =>
      cases rx
      cases ry
      obtain ⟨us, r1, p1, _⟩ := I.list q1
      obtain ⟨ws, r2, p2, _⟩ := I.list q2
      have n1 : us.toArray.size = ds.length := by rw [List.size_toArray, ← r1.length, dpAll_len a1]
      have n2 : ws.toArray.size = es.length := by rw [List.size_toArray, ← r2.length, dpAll_len a2]
      by_cases hsz : us.toArray.size = ws.toArray.size
      · rw [← SeqAt.eqvAll_same_length (by omega : ds.length = es.length), ← n1] at h
        refine SeqAt.RcAt.lists p1.isList p2.isList hsz (by omega) (fun j j1 j2 => ?_) _ _ _ _ ⟨.bl _, H, I, rfl, h⟩
        have := eqAt_dpAll I X.A.in1 a1 a2 r1 r2 (by show X.A.units + 1 + _ < cLine; omega) j (by simpa using j1) (by simpa using j2)
        simpa using this
      · rw [SeqAt.eqvAll_other_length (by omega : ds.length ≠ es.length)] at h
        exact SeqAt.RcAt.lists_lengths p1.isList p2.isList (by simpa using hsz) (by omega) _ _ _ _ ⟨.bl _, H, I, rfl, h⟩
theorem oneDL {k : Nat} {a b : Addr} {ds es : List PyData} {Q : VK} (hr : Room k X.A) (hx : Dp X.K H (.ref a) (.list ds)) (hy : Dp X.K H (.ref b) (.list es)) (hd : min (PyData.depthAll ds) (PyData.depthAll es) ≤ 60) (h : Q (.bl (!PyData.eqvAll ds es)) H) : wO X (compareOp .NotEq) (.ref a) (.ref b) H Q := by
  refine ⟨fun pins s σ v u I rx ry => ?_⟩
  have hu := hr.units
  cases hx with
  | lst q1 a1 =>
    cases hy with
    | lst q2 a2 =>
      cases rx
      cases ry
      obtain ⟨us, r1, p1, _⟩ := I.list q1
      obtain ⟨ws, r2, p2, _⟩ := I.list q2
      have n1 : us.toArray.size = ds.length := by rw [List.size_toArray, ← r1.length, dpAll_len a1]
      have n2 : ws.toArray.size = es.length := by rw [List.size_toArray, ← r2.length, dpAll_len a2]
      by_cases hsz : us.toArray.size = ws.toArray.size
      · rw [← SeqAt.eqvAll_same_length (by omega : ds.length = es.length), ← n1] at h
        refine SeqAt.RcNeAt.lists p1.isList p2.isList hsz (by omega) (fun j j1 j2 => ?_) _ _ _ _ ⟨.bl _, H, I, rfl, h⟩
        have := eqAt_dpAll I X.A.in1 a1 a2 r1 r2 (by show X.A.units + 1 + _ < cLine; omega) j (by simpa using j1) (by simpa using j2)
        simpa using this
      · rw [SeqAt.eqvAll_other_length (by omega : ds.length ≠ es.length)] at h
        exact SeqAt.RcNeAt.lists_lengths p1.isList p2.isList (by simpa using hsz) (by omega) _ _ _ _ ⟨.bl _, H, I, rfl, h⟩
/-! ### lists of texts -/
theorem dpStrs {K : PySem.W.Frag} {H : Hp} : ∀ ys : List Str, DpAll K H (ys.map V.str) (ys.map PyData.str)
  | [] => .nil
  | _ :: ys => .cons (.str _) (dpStrs ys)
theorem depthStrs : ∀ ys : List Str, PyData.depthAll (ys.map PyData.str) ≤ 1
  | [] => by decide
  | y :: ys => by
    have := depthStrs ys
    simp only [List.map_cons, PyData.depthAll, PyData.depth]
    omega
theorem eqvStrs : ∀ ys zs : List Str, PyData.eqvAll (ys.map PyData.str) (zs.map PyData.str) = decide (ys = zs)
  | [], [] => rfl
  | [], _ :: _ => rfl
  | _ :: _, [] => rfl
  | y :: ys, z :: zs => by
    rw [List.map_cons, List.map_cons, PyData.eqvAll, eqvStrs ys zs]
    simp only [PyData.eqv]
    by_cases h1 : y = z
    · subst h1
      by_cases h2 : ys = zs
      · subst h2; simp
      · simp [h2]
    · simp [h1]
theorem oeqStrs {k : Nat} {a b : Addr} {ys zs : List Str} {Q : VK} (hr : Room k X.A) (hx : SqL X.K H a (ys.map V.str)) (hy : SqL X.K H b (zs.map V.str)) (h : Q (.bl (decide (ys = zs))) H) : wO X (compareOp .Eq) (.ref a) (.ref b) H Q :=
  oeqDL hr (.lst hx (dpStrs ys)) (.lst hy (dpStrs zs)) (by have := depthStrs ys; omega) (by rw [eqvStrs]; exact h)
theorem oneStrs {k : Nat} {a b : Addr} {ys zs : List Str} {Q : VK} (hr : Room k X.A) (hx : SqL X.K H a (ys.map V.str)) (hy : SqL X.K H b (zs.map V.str)) (h : Q (.bl (!decide (ys = zs))) H) : wO X (compareOp .NotEq) (.ref a) (.ref b) H Q :=
  oneDL hr (.lst hx (dpStrs ys)) (.lst hy (dpStrs zs)) (by have := depthStrs ys; omega) (by rw [eqvStrs]; exact h)
end
end Z

set_option maxRecDepth 100000
set_option maxHeartbeats 4000000
namespace Z
open PySem PySem.Spec PyProof.Rows L2
open Evl (Ex)
/-! ### instances: fields, methods, making -/
/-- a method of the class at C: how it binds, what it promises -/
def Mf (P : Program) (w : World) (K : PySem.W.Frag) (mg : Str → Option Value) (base : Heap) (k : Nat) (C : Addr) (m : Str) (dvs : List V) (sp : Sp) : Prop :=
  ∃ (f : Addr) (fd : FuncData) (ps : List Str) (ds : List Value), Cls K C ∧ Meth K C m f ∧ Binds K fd ps ds ∧ Vals dvs ds ∧ FnOk P w K mg base (L2N.CX P w) k f fd ps sp
theorem Mf.mono {P : Program} {w : World} {K : PySem.W.Frag} {mg : Str → Option Value} {base : Heap} {k j : Nat} {C : Addr} {m : Str} {dvs : List V} {sp : Sp} (h : Mf P w K mg base k C m dvs sp) (hk : k ≤ j) : Mf P w K mg base j C m dvs sp := by
  obtain ⟨f, fd, ps, ds, h0, h1, h3, h4, h5⟩ := h
  exact ⟨f, fd, ps, ds, h0, h1, h3, h4, h5.mono hk⟩
section
variable {X : Cx} {σ : Z.St} {H : Hp} {e o : Expr} {es : List Expr} {D : Ends} {W : WX} {p pos pos' apos : Pos} {Q : VK} {f : Str}
theorem zfld (h : wE X o σ H fun x H1 => ∃ a C dx fs v, x = .ref a ∧ H1 a = some (.ins C dx fs) ∧ Cls X.K C ∧ NoAttr X.K C f ∧ fs.lookup f = some v ∧ Q v H1)
    (hb : attributeBase o f X.env (eval o X.env) = eval o X.env := by rfl) : wE X (.Attribute o f pos) σ H Q := ofE (pe_fld sE hb) h
theorem sfld (h : wE X e σ H fun y H1 => wE X o σ H1 fun x H2 => ∃ a C dx fs, x = .ref a ∧ H2 a = some (.ins C dx fs) ∧ Cls X.K C ∧ NoAttr X.K C f ∧ fs.length < 1000 ∧ D.nx σ (upd H2 a (.ins C dx (putF f y fs))))
    (hs : swapsWith e (some (.Attribute o f pos')) pos.line X.env = pure false := by rfl) : wS X (.Assign [.Attribute o f pos'] e pos) D σ H := ofS (ps_fld sE sE hs) h
theorem zmeth {m : Str} {j : Nat} {pl : Sem Bool} (hr : Room j X.A) (tk : L2N.Takes X W)
    (h : wE X o σ H fun x H1 => ∃ a C dx fs k dvs sp, x = .ref a ∧ H1 a = some (.ins C dx fs) ∧ fs.lookup m = none ∧ Mf X.prog X.w X.K X.mg X.base k C m dvs sp ∧ k ≤ j ∧ wA X (e :: es) σ H1 fun vs H2 => sp (x :: (vs ++ dvs)) H2 Q fun cls d H' => W cls d σ H')
    (hst : starEach (e :: es) X.env = (false, eval e X.env) :: starEach es X.env := by rfl) (hpl : (backTo pos (starEach es X.env)).any (·.1) = false := by rfl)
    (ht : eval (.Call (.Attribute o m apos) (e :: es) [] pos) X.env = (do
      let ov ← eval o X.env
      standAt apos.atName
      let (f, first) ← holding [ov] (getMethod ov m pl)
      callWith pos f first (backTo pos (starEach (e :: es) X.env)) (backToKw pos (keywordEach [] X.env))) := by rfl) : wE X (.Call (.Attribute o m apos) (e :: es) [] pos) σ H Q := by
  refine ⟨fun pins s I => ?_⟩
  refine PySem.W.methodCall_KW (pl := pl) (thn (h.run pins s I) fun u s1 ⟨x, H1, I1, rx, a, C, dx, fs, k, dvs, sp, ex, ea, l, F, hk, q⟩ => ?_) ht
  subst ex
  obtain rfl : u = Value.ref a := rx
  obtain ⟨fa, fd, ps, ds, hc, hm, hb, hd, FF⟩ := F
  refine getmeth_ok I1 ea hc hm l ?_
  refine PySem.W.callWith_K (first := [.ref a]) (h₀ := X.base) I.ok.mod.kin hm.kp (thn (q.run pos pins s1 I1) fun us s2 ⟨vs, H2, I2, r, q2⟩ => ⟨I2.kIn, ?_⟩) hst hpl
  exact run_gf (us := .ref a :: us) (vs := .ref a :: vs) FF (hr.mono hk) hb hd tk I2 (.cons rfl r) q2
theorem zmeth0 {m : Str} {j : Nat} {pl : Sem Bool} (hr : Room j X.A) (tk : L2N.Takes X W)
    (h : wE X o σ H fun x H1 => ∃ a C dx fs k dvs sp, x = .ref a ∧ H1 a = some (.ins C dx fs) ∧ fs.lookup m = none ∧ Mf X.prog X.w X.K X.mg X.base k C m dvs sp ∧ k ≤ j ∧ sp (x :: dvs) H1 Q fun cls d H' => W cls d σ H')
    (ht : eval (.Call (.Attribute o m apos) [] [] pos) X.env = (do
      let ov ← eval o X.env
      standAt apos.atName
      let (f, first) ← holding [ov] (getMethod ov m pl)
      callWith pos f first (backTo pos (starEach [] X.env)) (backToKw pos (keywordEach [] X.env))) := by rfl) : wE X (.Call (.Attribute o m apos) [] [] pos) σ H Q := by
  refine ⟨fun pins s I => ?_⟩
  refine PySem.W.methodCall_KW (pl := pl) (thn (h.run pins s I) fun u s1 ⟨x, H1, I1, rx, a, C, dx, fs, k, dvs, sp, ex, ea, l, F, hk, q⟩ => ?_) ht
  subst ex
  obtain rfl : u = Value.ref a := rx
  obtain ⟨fa, fd, ps, ds, hc, hm, hb, hd, FF⟩ := F
  refine getmeth_ok I1 ea hc hm l ?_
  exact PySem.W.callWith_K0 (first := [.ref a]) I1.kIn hm.kp (run_gf (us := [.ref a]) (vs := [.ref a]) FF (hr.mono hk) hb hd tk I1 (.cons rfl .nil) q)
/-! ### making -/
theorem own_ex {H : Hp} {x dx : Addr} {o1 o2 : HO} (hx : H x = none) (hd : H dx = none) : Ex H (upd (upd H dx o1) x o2) := fun b o e => by
  have n1 : b ≠ x := fun z => by rw [z, hx] at e; cases e
  have n2 : b ≠ dx := fun z => by rw [z, hd] at e; cases e
  rw [upd_ne n1, upd_ne n2]; exact e
theorem run_mk {pins : List (Addr × Obj)} {s : Shared} {k : Nat} {C fa : Addr} {fd : FuncData} {ps : List Str} {sp : Sp} {dvs : List V} {ds us : List Value} {vs : List V} (M : Mk X.K C fa) (F : FnOk X.prog X.w X.K X.mg X.base (L2N.CX X.prog X.w) k fa fd ps sp) (hr : Room (k + 1) X.A) (hb : Binds X.K fd ps ds) (hd : Vals dvs ds) (tk : L2N.Takes X W)
    (I : L2.Inv X pins σ H s) (r : Vals vs us)
    (h : ∀ x dx, H x = none → H dx = none → dx ≠ x → sp (.ref x :: (vs ++ dvs)) (upd (upd H dx (.own x)) x (.ins C dx [])) (fun v H2 => v = .non ∧ Q (.ref x) H2) fun cls d H' => W cls d σ H') :
    wpAny (model X.prog X.w) X.A (call (.ref C) us) (EP X pins σ Q) X.xe s := by
  have hq := h (s.heap.objs.size + 1) s.heap.objs.size (I.hok.fresh (Nat.le_succ _)) (I.hok.fresh (Nat.le_refl _)) (Nat.ne_of_lt (Nat.lt_succ_self _))
  have I2 := Inv.made (C := C) I
  have r2 : Vals (V.ref (s.heap.objs.size + 1) :: (vs ++ dvs)) (Value.ref (s.heap.objs.size + 1) :: (us ++ ds)) := .cons rfl (r.append hd)
  have hl : (Value.ref (s.heap.objs.size + 1) :: us ++ ds).length = ps.length := by
    have e := r2.length
    rw [F.len _ _ _ _ hq] at e
    exact e.symm
  refine wpAny_call (make_map (f := fa) I.kIn M.makes M.init (beq_iff_eq.mp M.fn) (codeAny_mono (F.run _ X.stack _ _ ⟨Value.ref (s.heap.objs.size + 1) :: us, []⟩ (Value.ref (s.heap.objs.size + 1) :: (us ++ ds)) _ _ (fun cls d H' => W cls d σ H') (hr.make C us [])
    (I2.env0.make C us []) (hb _ (Value.ref (s.heap.objs.size + 1) :: us) I2.kIn hl) r2 hq) fun r s' hq' => ?_))
  cases r with
  | error er => exact tk er s' (L2N.XE.of_call I2 (fun _ _ _ q => q) hq')
  | ok fl =>
    cases fl with
    | ret u =>
      obtain ⟨v, H', I3, rv, ev, q3⟩ := I2.after hq'
      subst ev
      exact ⟨rv, ⟨V.ref (s.heap.objs.size + 1), H', I3, rfl, q3⟩⟩
    | next => exact False.elim hq'
    | brk => exact False.elim hq'
    | cont => exact False.elim hq'
/-- a class and its __init__ -/
def Nf (P : Program) (w : World) (K : PySem.W.Frag) (mg : Str → Option Value) (base : Heap) (k : Nat) (x : Str) (C : Addr) (dvs : List V) (sp : Sp) : Prop :=
  ∃ (f : Addr) (fd : FuncData) (ps : List Str) (ds : List Value), mg x = some (.ref C) ∧ Mk K C f ∧ Binds K fd ps ds ∧ Vals dvs ds ∧ FnOk P w K mg base (L2N.CX P w) k f fd ps sp
theorem zmk {x : Str} {k j : Nat} {C : Addr} {dvs : List V} {sp : Sp} (F : Nf X.prog X.w X.K X.mg X.base k x C dvs sp) (hr : Room j X.A) (hk : k + 1 ≤ j) (tk : L2N.Takes X W) (hg : Gl X x)
    (h : wA X (e :: es) σ H fun vs H1 => ∀ a dx, H1 a = none → H1 dx = none → dx ≠ a → sp (.ref a :: (vs ++ dvs)) (upd (upd H1 dx (.own a)) a (.ins C dx [])) (fun v H2 => v = .non ∧ Q (.ref a) H2) fun cls d H' => W cls d σ H')
    (hdb : (x == ("__debug__" : Str)) = false := by decide) (he : starEach (e :: es) X.env = (false, eval e X.env) :: starEach es X.env := by rfl) (hpl : (backTo pos (starEach es X.env)).any (·.1) = false := by rfl) : wE X (.Call (.Name x p) (e :: es) [] pos) σ H Q := by
  refine ⟨fun pins s I => ?_⟩
  obtain ⟨fa, fd, ps, ds, hm, M, hb, hd, FF⟩ := F
  refine wpAny_Call_Name_kw (ld_glob I hg hm ?_ hdb)
  refine PySem.W.callWith_K (h₀ := X.base) I.ok.mod.kin M.kp (thn (h.run pos pins s I) fun us s1 ⟨vs, H1, I1, r, q⟩ => ⟨I1.kIn, ?_⟩) he hpl
  exact run_mk M FF (hr.mono hk) hb hd tk I1 r q
theorem zmk0 {x : Str} {k j : Nat} {C : Addr} {dvs : List V} {sp : Sp} (F : Nf X.prog X.w X.K X.mg X.base k x C dvs sp) (hr : Room j X.A) (hk : k + 1 ≤ j) (tk : L2N.Takes X W) (hg : Gl X x)
    (h : ∀ a dx, H a = none → H dx = none → dx ≠ a → sp (.ref a :: dvs) (upd (upd H dx (.own a)) a (.ins C dx [])) (fun v H2 => v = .non ∧ Q (.ref a) H2) fun cls d H' => W cls d σ H')
    (hdb : (x == ("__debug__" : Str)) = false := by decide) : wE X (.Call (.Name x p) [] [] pos) σ H Q := by
  refine ⟨fun pins s I => ?_⟩
  obtain ⟨fa, fd, ps, ds, hm, M, hb, hd, FF⟩ := F
  refine wpAny_Call_Name_kw (ld_glob I hg hm ?_ hdb)
  exact PySem.W.callWith_K0 I.kIn M.kp (run_mk (us := []) (vs := []) M FF (hr.mono hk) hb hd tk I .nil h)
/-- C() of a class without an own __init__ -/
theorem zmkP {x : Str} {C : Addr} (M : Mk0 X.K C) (top : PySem.W.mroIn X.K C (.type "object") = some true) (hm : X.mg x = some (.ref C)) (hg : Gl X x)
    (h : ∀ a dx H2, H a = none → Ex H H2 → H2 a = some (.ins C dx []) → Q (.ref a) H2)
    (hdb : (x == ("__debug__" : Str)) = false := by decide) : wE X (.Call (.Name x p) [] [] pos) σ H Q := by
  refine ⟨fun pins s I => ?_⟩
  refine wpAny_Call_Name_kw (ld_glob I hg hm ?_ hdb)
  refine PySem.W.callWith_K0 I.kIn M.kp ?_
  have I2 := Inv.made (C := C) I
  have hx := I.hok.fresh (Nat.le_succ s.heap.objs.size)
  have hd := I.hok.fresh (Nat.le_refl s.heap.objs.size)
  refine wpAny_call (make_map0 I.kIn M.makes M.init (fun self => PySem.W.Looks.of_pure (PySem.W.oi_bind self)) ?_)
  have Y := PySem.W.makes_of (M := model X.prog X.w) I.kIn M.makes
  have hget : ((s.heap.push PySem.W.emptyDict).push (PySem.W.instObj C s.heap.objs.size)).get? (s.heap.objs.size + 1) = some (PySem.W.instObj C s.heap.objs.size) := by heap_get
  have t1 : PySem.W.Looks (model X.prog X.w) ((s.heap.push PySem.W.emptyDict).push (PySem.W.instObj C s.heap.objs.size)) (typeOf (.ref (s.heap.objs.size + 1))) (.ref C) := (PySem.W.Looks.ld hget).andThen .now
  have t2 : PySem.W.Looks (model X.prog X.w) ((s.heap.push PySem.W.emptyDict).push (PySem.W.instObj C s.heap.objs.size)) (isInstance (.ref (s.heap.objs.size + 1)) (.type "object")) true := t1.andThen (Y.top.keeps fun b o e => Heap.get?_push_of_some _ (Heap.get?_push_of_some _ e))
  refine codeAny_call_builtin PySem.W.oi_plain PySem.W.entry_oi (@PySem.W.check_slot (model X.prog X.w) _ _ _ "object.__init__" "object" "__init__" (.ref (s.heap.objs.size + 1)) [] [] _ PySem.W.oi_kind PySem.W.oi_split t2 (PySem.W.oi_args (.ref (s.heap.objs.size + 1))) ?_)
  rw [PySem.W.oi_run]
  refine wpAny_pure (And.intro rfl ?_)
  exact ⟨V.ref (s.heap.objs.size + 1), _, I2, rfl, h _ _ _ hx (own_ex hx hd) upd_same⟩
/-! ### more: x.bit_length(), d.get(k, e) -/
theorem zbits (h : wE X o σ H fun x H1 => ∃ i, x = .int i ∧ Q (.int (Builtin.Int.intBits i : Nat)) H1) (hbase : attributeBase o "bit_length" X.env (eval o X.env) = eval o X.env := by rfl) (hline : (apos.endLine == pos.line) = true := by rfl) : wE X (.Call (.Attribute o "bit_length" apos) [] [] pos) σ H Q := ofE (pe_bits sE hbase hline) h
end
/-! ### a method of the text keeps its promise; an __init__ -/
section
variable {P : Program} {w : World} {K : PySem.W.Frag} {mg : Str → Option Value} {base : Heap}
theorem mf_mk {x q m : Str} {params : Arguments} {body : List Stmt} {scope : Scope} {C f : Addr} {ps : List Str} {k : Nat} {sp : Sp} (hF : ∃ fd, FunD K x q params body scope [] [] f fd) (hc : Cls K C) (hm : Meth K C m f)
    (hbind : ∀ (kV doc pm : Value) (an : Option Addr) (cdv ct : Value) (us : List Value), us.length = ps.length → bindArgs (PySem.W.fnOf x q params body scope .none kV doc pm an cdv ct) ⟨us, []⟩ = pure (ps.zip us))
    (ok : ∀ fd, FunD K x q params body scope [] [] f fd → FnOk P w K mg base (L2N.CX P w) k f fd ps sp) : Mf P w K mg base k C m [] sp := by
  obtain ⟨fd, F⟩ := hF
  exact ⟨f, fd, ps, [], hc, hm, F.bindsN hbind, .nil, ok fd F⟩
theorem nf_mk {x q n : Str} {params : Arguments} {body : List Stmt} {scope : Scope} {C f : Addr} {ps : List Str} {k : Nat} {sp : Sp} (hF : ∃ fd, FunD K x q params body scope [] [] f fd) (hg : mg n = some (.ref C)) (hm : Mk K C f)
    (hbind : ∀ (kV doc pm : Value) (an : Option Addr) (cdv ct : Value) (us : List Value), us.length = ps.length → bindArgs (PySem.W.fnOf x q params body scope .none kV doc pm an cdv ct) ⟨us, []⟩ = pure (ps.zip us))
    (ok : ∀ fd, FunD K x q params body scope [] [] f fd → FnOk P w K mg base (L2N.CX P w) k f fd ps sp) : Nf P w K mg base k n C [] sp := by
  obtain ⟨fd, F⟩ := hF
  exact ⟨f, fd, ps, [], hg, hm, F.bindsN hbind, .nil, ok fd F⟩
end
end Z

set_option maxRecDepth 100000
set_option maxHeartbeats 4000000
namespace Z
open PySem PySem.Spec PyProof.Rows L2
open Evl (Ex)
section
variable {X : Cx} {σ : Z.St} {H : Hp} {e e1 e2 f o a b elt : Expr} {es ifs : List Expr} {D : Ends} {W : WX} {p pos pos' apos tpos zpos : Pos} {Q : VK} {scope : Scope} {vs : List Nat} {elts : List Expr} {kk : Nat}
/-! ### dicts: display, d.get(k), d.get(k, x) -/
theorem zdget (hu : X.A.units + 1 < cLine) (h : wE X o σ H fun x H1 => ∃ a, x = .ref a ∧ IsD H1 a ∧ wE X e σ H1 fun y H2 => ∃ o, DGet H2 a y o ∧ Q (o.getD .non) H2)
    (m : M1 X o "get" apos e pos := by exact ⟨rfl, rfl, rfl, rfl⟩) : wE X (.Call (.Attribute o "get" apos) [e] [] pos) σ H Q := ofE (pe_dget1 hu sE sE m) h
theorem zdget2 (hu : X.A.units + 1 < cLine) (h : wE X o σ H fun x H1 => ∃ a, x = .ref a ∧ IsD H1 a ∧ wE X e σ H1 fun y H2 => wE X f σ H2 fun z H3 => ∃ o, DGet H3 a y o ∧ Q (o.getD z) H3)
    (m : M2 X o "get" apos e f pos := by exact ⟨rfl, rfl, rfl, rfl⟩) : wE X (.Call (.Attribute o "get" apos) [e, f] [] pos) σ H Q := ofE (pe_dget2 hu sE sE sE m) h
/-- trees of pairs, walked by wE -/
def PT2 (X : Cx) : List (Option Expr) → List Expr → List (TE × TE)
  | some k :: ks, v :: vs => (wE X k, wE X v) :: PT2 X ks vs
  | _, _ => []
theorem tPairs_imp {X : Cx} : ∀ {keys : List (Option Expr)} {values : List Expr} {σ : Z.St} {H : Hp} {Q Q' : List (V × V) → Hp → Prop}, tPairs (PT2 X keys values) σ H Q → (∀ ps H', Q ps H' → Q' ps H') → tPairs (PT2 X keys values) σ H Q'
  | some k :: ks, v :: vs, σ, H, Q, Q', h, q => wE.imp (show wE X k σ H _ from h) fun x H1 h1 => wE.imp h1 fun y H2 h2 => tPairs_imp (keys := ks) (values := vs) h2 fun ps H' z => q _ _ z
  | [], _, _, _, _, _, h, q => q _ _ h
  | none :: _, _, _, _, _, _, h, q => q _ _ h
  | some _ :: _, [], _, _, _, _, h, q => q _ _ h
theorem pps2 {X : Cx} {pos : Pos} : ∀ {keys : List (Option Expr)} {values : List Expr}, keys.all (·.isSome) = true → keys.length = values.length → PPs X pos keys values (PT2 X keys values)
  | [], [], _, _ => pps_nil
  | some k :: ks, v :: vs, h, hl => pps_cons sE sE (pps2 (by simpa using h) (by simpa using hl))
theorem zdisp {keys : List (Option Expr)} {values : List Expr} (hall : keys.all (·.isSome) = true) (hl : keys.length = values.length) (h0 : keys ≠ []) (h15 : keys.length ≤ 15)
    (h : ∀ p H1, H p = none → Ex H H1 → H1 p = some (.dK []) → tPairs (PT2 X keys values) σ H1 fun ps H2 => Ex H1 H2 ∧ ∃ kvs : List (Key × V), ps = kvs.map (fun kv => (kV kv.1, kv.2)) ∧ kvs.length ≤ 15 ∧ ∀ H3, Ex H H3 → (∀ b o, b ≠ p → H2 b = some o → H3 b = some o) → H3 p = some (.dK (mergeK [] kvs)) → Q (.ref p) H3) : wE X (.Dict keys values pos) σ H Q := by
  refine ofE (pe_disp (pps2 hall hl) hall hl h0 h15) fun p hpn => ?_
  have hx := h p _ hpn (Ex.new hpn) upd_same
  exact tPairs_imp hx fun ps H2 ⟨e2, kvs, e, hlen, q⟩ => ⟨e2 _ _ upd_same, kvs, e, hlen, q _ (Ex.past (Ex.trans (Ex.new hpn) e2) hpn) (fun b o n z => by rw [upd_ne n]; exact z) upd_same⟩
/-! ### more steps -/
theorem oles {x y : Str} (h : Q (.bl (!decide (y.cps.toList < x.cps.toList))) H) : wO X (compareOp .LtE) (.str x) (.str y) H Q := ofO op_le_str ⟨x, y, rfl, rfl, h⟩
theorem oeqsT {x y : Str} (e : x = y) (h : Q (.bl true) H) : wO X (compareOp .Eq) (.str x) (.str y) H Q := oeq rfl (by rw [decide_eq_true (congrArg V.str e)]; exact h)
theorem oeqsF {x y : Str} (e : x ≠ y) (h : Q (.bl false) H) : wO X (compareOp .Eq) (.str x) (.str y) H Q := oeq rfl (by rw [decide_eq_false fun z => e (V.str.inj z)]; exact h)
theorem onesT {x y : Str} (e : x = y) (h : Q (.bl false) H) : wO X (compareOp .NotEq) (.str x) (.str y) H Q := one rfl (by rw [decide_eq_true (congrArg V.str e)]; exact h)
theorem onesF {x y : Str} (e : x ≠ y) (h : Q (.bl true) H) : wO X (compareOp .NotEq) (.str x) (.str y) H Q := one rfl (by rw [decide_eq_false fun z => e (V.str.inj z)]; exact h)
theorem kstrS {x : Str} (h : Q (.str x) H) : wK X (.type "str") [.str x] H Q := ofK SkE.call_str_str ⟨x, rfl, h⟩
/-! ### comprehensions over zip -/
theorem piZip (hm : X.mg "zip" = none) (hg : Gl X "zip") (hsa : starEach [e1, e2] X.env = (false, eval e1 X.env) :: starEach [e2] X.env := by rfl) (hpl : (backTo zpos (starEach [e2] X.env)).any (·.1) = false := by rfl) : PI X (.Tuple elts kk tpos) (.Call (.Name "zip" p) [e1, e2] [] zpos) (iZip X.K (wA X [e1, e2])) := pi_zip hg hm sA hsa hpl
theorem tnZip {xs ys : List V} (G : Nat → List V → Hp → Prop) (hG : ∀ j ws H H', G j ws H → Ex H H' → G j ws H') (h0 : ∀ H, G 0 [] H) (hlen : xs.length = ys.length)
    (h : wA X [e1, e2] σ H fun vs0 H1 => ∃ a b, vs0 = [.ref a, .ref b] ∧ SqL X.K H1 a xs ∧ SqL X.K H1 b ys ∧
      (∀ j x y H' L ws T H2, xs[j]? = some x → ys[j]? = some y → Ex H1 H' → H1 L = none → H' L = some (.lst ws) → G j ws (del H' L) → H' T = none → Ex H' H2 → H2 T = some (.tup [x, y]) → turnG X scope (.Tuple elts kk tpos) ifs elt vs G L ws j (.ref T) σ H2) ∧ ∀ L H' ws, H1 L = none → Ex H1 H' → H' L = some (.lst ws) → G xs.length ws H' → Q (.ref L) H') :
    tLc (iZip X.K (wA X [e1, e2])) (bG X scope (.Tuple elts kk tpos)) (bTs X scope ifs) (bE X scope elt) vs σ H Q := by
  refine ⟨fun ps pins s I => thn (h.run ps pins s I) fun us s' ⟨vs0, H1, J, r, a, b, e, hx, hy, q2, q3⟩ => ⟨vs0, H1, J, r, a, b, xs, ys, e, hx, hy, fun L hL => ?_⟩⟩
  refine ⟨fun j d H' => d = xs.length - j ∧ j ≤ xs.length ∧ (Ex H1 H' ∧ ∃ ws, H' L = some (.lst ws) ∧ G j ws (del H' L)), ⟨xs.length, by simp, Nat.zero_le _, Ex.new hL, [], upd_same, h0 _⟩, ?_⟩
  rintro j d H' ⟨rfl, hj, e1, ws, hw, g⟩
  by_cases hlt : j < xs.length
  · refine .inr ⟨⟨xs, ys, xs[j], ys[j]'(by omega), Evl.ex_l e1 hx, Evl.ex_l e1 hy, List.getElem?_eq_getElem _, List.getElem?_eq_getElem _⟩, fun H' => Ex H1 H' ∧ ∃ ws, H' L = some (.lst ws) ∧ G (j + 1) ws (del H' L), fun H' p' => ⟨xs.length - (j + 1), by omega, rfl, hlt, p'⟩, ?_⟩
    rintro v H2 ⟨T, x, y, rfl, hT, rfl, hx', hy'⟩
    have eT : Ex H' (upd H' T (.tup [x, y])) := Ex.new hT
    have nT : T ≠ L := fun z => by rw [z, hw] at hT; cases hT
    refine turnG_of (G := G) hG hL (e1.trans eT) (eT _ _ hw) (q2 j x y H' L ws T _ (hx' xs (Evl.ex_l e1 hx)) (hy' ys (Evl.ex_l e1 hy)) e1 hL hw g hT eT upd_same)
  · have e : j = xs.length := by omega
    subst e
    exact .inl ⟨⟨xs, ys, Evl.ex_l e1 hx, Evl.ex_l e1 hy, .inl (Nat.le_refl _)⟩, q3 L H' ws hL e1 hw (hG _ _ _ _ g (del_ex _ _))⟩
end
/-! ### what is new in a heap -/
def nw (H H' : Hp) : Hp := fun b => match H b with
  | none => H' b
  | some _ => none
theorem nw_at {H H' : Hp} {a : Addr} {o : HO} (h : H a = none) (h' : H' a = some o) : nw H H' a = some o := by unfold nw; rw [h]; exact h'
theorem nw_sub {H H' : Hp} : Ex (nw H H') H' := fun b o e => by
  unfold nw at e
  split at e
  · exact e
  · cases e
theorem nw_mono {H H' H'' : Hp} (e : Ex H' H'') : Ex (nw H H') (nw H H'') := fun b o q => by
  unfold nw at q ⊢
  split at q
  · exact e _ _ q
  · cases q
theorem nw_more {H0 H H' : Hp} (e : Ex H0 H) : Ex (nw H H') (nw H0 H') := fun b o q => by
  unfold nw at q ⊢
  split at q
  · rename_i hb
    rw [show H0 b = none from by
      cases h : H0 b with
      | none => rfl
      | some z => have := e _ _ h; rw [hb] at this; cases this]
    exact q
  · cases q
theorem nw_del {H H' : Hp} {L : Addr} {o : HO} (h : H L = some o) : Ex (nw H H') (del H' L) := fun b z q => by
  have n : b ≠ L := fun e => by subst e; unfold nw at q; rw [h] at q; cases q
  rw [del_ne n]
  exact nw_sub _ _ q
theorem nw_up {H H' : Hp} {L : Addr} {o1 o2 : HO} (h : H L = some o1) : Ex (nw H H') (upd H' L o2) := fun b z q => by
  have n : b ≠ L := fun e => by subst e; unfold nw at q; rw [h] at q; cases q
  rw [upd_ne n]
  exact nw_sub _ _ q
/-! ### a list of anything beside the empty list -/
theorem oeqNil {X : Cx} {H : Hp} {Q : VK} {k : Nat} {a b : Addr} {xs : List V} (hr : Room k X.A) (hx : SqL X.K H a xs) (hy : SqL X.K H b []) (h : Q (.bl xs.isEmpty) H) : wO X (compareOp .Eq) (.ref a) (.ref b) H Q := by
  refine ⟨fun pins s σ v u I rx ry => ?_⟩
  have hu := hr.units
  cases rx
  cases ry
  obtain ⟨us, r1, p1, _⟩ := I.list hx
  obtain ⟨ws, r2, p2, _⟩ := I.list hy
  cases r2
  cases xs with
  | nil =>
    cases r1
    exact SeqAt.RcAt.lists (e := fun _ => true) p1.isList p2.isList rfl (by omega) (fun j j1 j2 => absurd j1 (by simp)) _ _ _ _ ⟨.bl _, H, I, rfl, h⟩
  | cons x xs =>
    cases r1
    exact SeqAt.RcAt.lists_lengths p1.isList p2.isList (by simp) (by omega) _ _ _ _ ⟨.bl _, H, I, rfl, h⟩
theorem oneNil {X : Cx} {H : Hp} {Q : VK} {k : Nat} {a b : Addr} {xs : List V} (hr : Room k X.A) (hx : SqL X.K H a xs) (hy : SqL X.K H b []) (h : Q (.bl (!xs.isEmpty)) H) : wO X (compareOp .NotEq) (.ref a) (.ref b) H Q := by
  refine ⟨fun pins s σ v u I rx ry => ?_⟩
  have hu := hr.units
  cases rx
  cases ry
  obtain ⟨us, r1, p1, _⟩ := I.list hx
  obtain ⟨ws, r2, p2, _⟩ := I.list hy
  cases r2
  cases xs with
  | nil =>
    cases r1
    exact SeqAt.RcNeAt.lists (e := fun _ => true) p1.isList p2.isList rfl (by omega) (fun j j1 j2 => absurd j1 (by simp)) _ _ _ _ ⟨.bl _, H, I, rfl, h⟩
  | cons x xs =>
    cases r1
    exact SeqAt.RcNeAt.lists_lengths p1.isList p2.isList (by simp) (by omega) _ _ _ _ ⟨.bl _, H, I, rfl, h⟩
end Z

set_option maxRecDepth 100000
set_option maxHeartbeats 4000000
namespace Z
open PySem PySem.Spec PyProof.Rows L2
open Evl (Ex)
section
variable {X : Cx} {σ : Z.St} {H : Hp} {D : Ends} {W : WX} {body : List Stmt} {pos pos' : Pos}
/-- try: body, except x: suite -/
theorem stry0 {x : Str} {cl : Value} {np : Pos} {suite : List Stmt} {b₀ : Stmt} (tk : L2N.Takes X W) (hc : Names X x cl) (hs : X.stack = X.env :: X.outer) (hf : X.env.frame = some X.env.locals)
    (h : ∀ (pn : List (Addr × Obj)) (xe : Value → Shared → Prop), PassesOwn (model X.prog X.w) X.A X.env xe → L2N.Takes (X.tr pn xe) (fun cls d σ1 H1 => ∃ k, PySem.W.exmOne X.K cls cl = some k ∧
        (k = true → ∀ a oe pn, H1 a = none → L2N.Zn cls d oe → (∃ vs, oe.data = .fields vs) → wB (X.suite a ((a, oe) :: pn)) (b₀ :: suite) D σ1 H1) ∧
        (k = false → W cls d σ1 H1)) → wB (X.tr pn xe) body D σ H) : wS X (.Try body [.ExceptHandler (some (.Name x np)) none (b₀ :: suite) pos'] [] [] pos) D σ H := by
  refine ofS (L2N.ps_try_many (tb := fun W' => fun D σ H => ∀ (pn : List (Addr × Obj)) (xe : Value → Shared → Prop), PassesOwn (model X.prog X.w) X.A X.env xe → L2N.Takes (X.tr pn xe) W' → wB (X.tr pn xe) body D σ H)
    hs hf tk (fun W' pn xe tk' po => ⟨fun pins s σ H D I q => (q pn xe po tk').run pins s I⟩)
    (.cons (ts := fun a cls d => fun D σ H => ∀ oe pn, L2N.Zn cls d oe → (∃ vs, oe.data = .fields vs) → wB (X.suite a ((a, oe) :: pn)) (b₀ :: suite) D σ H) hc (fun a oe cls d pn hz hd => ⟨fun pins s σ H D I q => (q oe pn hz hd).run pins s I⟩) .nil)) ?_
  intro pn xe po tk'
  refine h pn xe po (tk'.imp fun cls d σ1 H1 q => ?_)
  obtain ⟨k, h1, h2, h3⟩ := q
  exact ⟨k, h1, fun hk a ha oe pn hz hd => h2 hk a oe pn ha hz hd, h3⟩
/-- o.f += value, of whole numbers -/
theorem sfldAdd {o value : Expr} {f : Str} {tpos : Pos} (h : wE X o σ H fun x H1 => ∃ a C dx fs i, x = .ref a ∧ H1 a = some (.ins C dx fs) ∧ Cls X.K C ∧ NoAttr X.K C f ∧ fs.lookup f = some (.int i) ∧ wE X value σ H1 fun y H2 => ∃ j, y = .int j ∧
    ∃ dx' fs', H2 a = some (.ins C dx' fs') ∧ fs'.length < 1000 ∧ D.nx σ (upd H2 a (.ins C dx' (putF f (.int (i + j)) fs')))) : wS X (.AugAssign (.Attribute o f tpos) .Add value pos) D σ H := by
  refine ofS (ps_fldaug sE sE in_add) (wE.imp h fun x H1 ⟨a, C, dx, fs, i, ex, hx, c, n, l, q⟩ => ⟨a, C, dx, fs, .int i, ex, hx, c, n, l, wE.imp q fun y H2 ⟨j, ey, q2⟩ => ?_⟩)
  exact ⟨i, j, rfl, ey, q2⟩
/-- d[i], d[i] = value of a dict -/
theorem zdat {o i : Expr} {Q : VK} (hu : X.A.units + 1 < cLine) (h : wE X o σ H fun x H1 => wE X i σ H1 fun y H2 => ∃ a v, x = .ref a ∧ DGet H2 a y (some v) ∧ Q v H2) (hs : NoSl i := by intro _ _; rfl) : wE X (.Subscript o i pos) σ H Q := ofE (pe_dget hu sE sE hs) h
theorem sdput {o i value : Expr} (hu : X.A.units + 1 < cLine) (h : wE X value σ H fun v H1 => wE X o σ H1 fun x H2 => wE X i σ H2 fun y H3 => ∃ a H4, x = .ref a ∧ DPut H3 a y v H4 ∧ D.nx σ H4) (hs : swapsWith value (some (.Subscript o i pos')) pos.line X.env = pure false := by rfl) : wS X (.Assign [.Subscript o i pos'] value pos) D σ H := ofS (ps_dput hu sE sE sE hs) h
end
end Z

set_option maxRecDepth 100000
set_option maxHeartbeats 4000000
set_option pp.maxSteps 400
namespace K06
open PySem PySem.Spec PyProof.Rows L2 Z
open Evl (Ex)
variable {P : Program} {w : World} {K : PySem.W.Frag} {mg : Str → Option Value} {base : Heap}
/-! ### steps of the walk: one_sign: a heap grew into another; one_item: what stands at an address; one_place: a list or tuple to be read; leaf_len: arithmetic; tb_rel: one step; top_name: steps as far as they go -/
local macro_rules | `(tactic| got_up) => `(tactic| (refine Evl.Ex.trans (by assumption) ?_; first | assumption | exact Evl.Ex.refl _ | got_up))
local macro_rules | `(tactic| units_room) => `(tactic| (refine Evl.Ex.trans ?_ (by assumption); first | assumption | exact Evl.Ex.refl _ | units_room))
local macro_rules | `(tactic| one_sign) => `(tactic| first | assumption | exact Evl.Ex.refl _ | got_up | units_room)
local macro_rules | `(tactic| one_item) => `(tactic| first | assumption | exact upd_same | exact exa (by assumption) (by one_sign))
local macro_rules | `(tactic| one_place) => `(tactic| first | assumption | exact SqL.of (by assumption) | exact SqT.of (by assumption) | exact exl (by assumption) (by one_sign) | exact ext (by assumption) (by one_sign) | exact SqL.of (by one_item) | exact SqT.of (by one_item))
local macro_rules | `(tactic| leaf_len) => `(tactic| first | assumption | decide | omega)
local macro_rules | `(tactic| tb_rel) => `(tactic| first
  | ((with_reducible refine (?_ : wE _ _ _ _ _)); first
    | ((with_reducible refine (?_ : wE _ (.Name _ _) _ _ _)); first | refine zn (by rfl) (by first | exact Or.inl rfl | exact Or.inr (Or.inl rfl) | exact Or.inr (Or.inr rfl)) (by rfl) ?_ | refine zglob (by assumption) (by rfl) ?_ | refine zcls (by assumption) (by rfl) ?_ | refine zty (by assumption) (by first | exact bt_int | exact bt_bool | exact bt_str | exact bt_list | exact bt_tuple | exact bt_dict | exact bt_ValueError) (by rfl) ?_)
    | ((with_reducible refine (?_ : wE _ (.Attribute _ _ _) _ _ _)); refine zfld ?_)
    | ((with_reducible refine (?_ : wE _ (.Constant _ _ _) _ _ _)); first | refine zint ?_ | refine zstr ?_ | refine zbl ?_ | refine znon ?_)
    | ((with_reducible refine (?_ : wE _ (.BinOp _ _ _ _) _ _ _)); refine zbin ?_)
    | ((with_reducible refine (?_ : wE _ (.Compare _ _ _ _) _ _ _)); first | refine zcmp (by rfl) ?_ | refine zchain ?_)
    | ((with_reducible refine (?_ : wE _ (.Dict [] [] _) _ _ _)); refine zdnew (fun _ _ _ _ _ => ?_))
    | ((with_reducible refine (?_ : wE _ (.Subscript _ (.Slice _ _ _ _) _) _ _ _)); refine zsl ?_)
    | ((with_reducible refine (?_ : wE _ (.Subscript _ _ _) _ _ _)); refine zix ?_)
    | ((with_reducible refine (?_ : wE _ (.Call (.Name "list" _) [.Call (.Name "range" _) [_] [] _] [] _) _ _ _)); refine zlrg1 rfl (by rfl) (by assumption) (by rfl) (by assumption) ?_)
    | ((with_reducible refine (?_ : wE _ (.Call (.Name _ _) _ _ _) _ _ _)); first
      | ((with_reducible refine (?_ : wE _ (.Call (.Name "len" _) _ _ _) _ _ _)); refine zbfn (by assumption) bt_len (by rfl) ?_)
      | ((with_reducible refine (?_ : wE _ (.Call (.Name "isinstance" _) _ _ _) _ _ _)); refine zbfn (by assumption) bt_isi (by rfl) ?_)
      | ((with_reducible refine (?_ : wE _ (.Call (.Name "min" _) _ _ _) _ _ _)); refine zbfn (by assumption) bt_min (by rfl) ?_)
      | ((with_reducible refine (?_ : wE _ (.Call (.Name "max" _) _ _ _) _ _ _)); refine zbfn (by assumption) bt_max (by rfl) ?_)
      | ((with_reducible refine (?_ : wE _ (.Call (.Name "list" _) _ _ _) _ _ _)); refine zbty (by assumption) bt_list (by rfl) ?_)
      | ((with_reducible refine (?_ : wE _ (.Call (.Name "tuple" _) _ _ _) _ _ _)); refine zbty (by assumption) bt_tuple (by rfl) ?_)
      | ((with_reducible refine (?_ : wE _ (.Call (.Name "int" _) _ _ _) _ _ _)); refine zbty (by assumption) bt_int (by rfl) ?_)
      | ((with_reducible refine (?_ : wE _ (.Call (.Name "abs" _) _ _ _) _ _ _)); refine zbfn (by assumption) bt_abs (by rfl) ?_)
      | ((with_reducible refine (?_ : wE _ (.Call (.Name "all" _) _ _ _) _ _ _)); refine zbfn (by assumption) bt_all (by rfl) ?_)
      | ((with_reducible refine (?_ : wE _ (.Call (.Name "sum" _) _ _ _) _ _ _)); refine zbfn (by assumption) bt_sum (by rfl) ?_)
      | ((with_reducible refine (?_ : wE _ (.Call (.Name "divmod" _) _ _ _) _ _ _)); refine zbfn (by assumption) bt_divmod (by rfl) ?_)
      | ((with_reducible refine (?_ : wE _ (.Call (.Name "ord" _) _ _ _) _ _ _)); refine zbfn (by assumption) bt_ord (by rfl) ?_))
    | ((with_reducible refine (?_ : wE _ (.IfExp _ _ _ _) _ _ _)); refine zif ?_)
    | ((with_reducible refine (?_ : wE _ (.Tuple _ _ _) _ _ _)); refine ztup ?_)
    | ((with_reducible refine (?_ : wE _ (.List _ _) _ _ _)); refine zlst ?_)
    | ((with_reducible refine (?_ : wE _ (.UnaryOp _ _ _) _ _ _)); first | refine znotV ?_ | refine zneg ?_)
    | ((with_reducible refine (?_ : wE _ (.BoolOp _ _ _) _ _ _)); first | refine zandV ?_ | refine zorV ?_ | refine zoneV ?_))
  | ((with_reducible refine (?_ : bE _ _ _ _ _ _)); refine ⟨fun _ _ _ _ _ => ?_⟩) | ((with_reducible refine (?_ : bG _ _ _ _ _ _ _)); refine ⟨fun _ _ _ _ _ => ?_⟩) | ((with_reducible refine (?_ : bTs _ _ _ _ _ _)); refine ⟨fun _ _ _ _ _ => ?_⟩)
  | ((with_reducible refine (?_ : hE _ _ _ _ _ _)); refine ⟨fun _ _ _ _ _ => ?_⟩) | ((with_reducible refine (?_ : hG _ _ _ _ _ _ _)); refine ⟨fun _ _ _ _ _ => ?_⟩) | ((with_reducible refine (?_ : hTs _ _ _ _ _ _)); refine ⟨fun _ _ _ _ _ => ?_⟩)
  | ((with_reducible refine (?_ : wP _ _ _ _ _)); first | refine pnon ?_ | refine psom ?_) | ((with_reducible refine (?_ : wSl _ _ _ _ _ _)); first | refine slL (by one_place) (fun _ _ _ _ _ => ?_) | refine slS (by assumption) ?_)
  | ((with_reducible refine (?_ : wTs _ _ _ _ _)); first | refine tsnil ?_ | refine tsone ?_)
  | ((with_reducible refine (?_ : wA _ _ _ _ _)); first | refine acons ?_ | refine anil ?_)
  | ((with_reducible refine (?_ : wO _ _ _ _ _ _)); first
    | ((with_reducible refine (?_ : wO _ (binaryOp .Add) _ _ _ _)); first | refine oadd ?_ | refine ocatE (by one_item) (by one_item) (Nat.le_of_ble_eq_true rfl) (fun _ _ _ _ _ => ?_))
    | ((with_reducible refine (?_ : wO _ (binaryOp .Sub) _ _ _ _)); first | refine osub ?_)
    | ((with_reducible refine (?_ : wO _ (binaryOp .Mult) _ _ _ _)); first | refine omul (by first | exact IntMulOk.of_right (by decide) | exact IntMulOk.of_left (by decide) | exact IntMulOk.of_right (intBits_le_64 (by omega) (by omega)) | exact IntMulOk.of_left (intBits_le_64 (by omega) (by omega))) ?_)
    | ((with_reducible refine (?_ : wO _ (binaryOp .Mod) _ _ _ _)); first | refine omod (by first | decide | omega) ?_)
    | ((with_reducible refine (?_ : wO _ (binaryOp .FloorDiv) _ _ _ _)); first | refine ofdiv ⟨by first | decide | omega, by decide⟩ ?_)
    | ((with_reducible refine (?_ : wO _ (binaryOp .BitAnd) _ _ _ _)); first | refine oand ?_)
    | ((with_reducible refine (?_ : wO _ (binaryOp .BitOr) _ _ _ _)); first | refine oor ?_)
    | ((with_reducible refine (?_ : wO _ (compareOp .Lt) _ _ _ _)); first | refine olt ?_)
    | ((with_reducible refine (?_ : wO _ (compareOp .LtE) _ _ _ _)); first | refine ole ?_)
    | ((with_reducible refine (?_ : wO _ (compareOp .Gt) _ _ _ _)); first | refine ogt ?_)
    | ((with_reducible refine (?_ : wO _ (compareOp .GtE) _ _ _ _)); first | refine oge ?_)
    | ((with_reducible refine (?_ : wO _ (compareOp .Eq) _ _ _ _)); first | refine oeqi ?_ | refine oeqsT (by decide +kernel) ?_ | refine oeqsF (by decide +kernel) ?_ | refine oeq (by rfl) ?_)
    | ((with_reducible refine (?_ : wO _ (compareOp .NotEq) _ _ _ _)); first | refine onei ?_ | refine onesT (by decide +kernel) ?_ | refine onesF (by decide +kernel) ?_ | refine one (by rfl) ?_)
    | ((with_reducible refine (?_ : wO _ (compareOp .In) _ _ _ _)); first | refine oin ?_)
    | ((with_reducible refine (?_ : wO _ (compareOp .NotIn) _ _ _ _)); first | refine onin ?_)
    | ((with_reducible refine (?_ : wO _ (compareOp .Is) _ _ _ _)); first | refine ois ?_)
    | ((with_reducible refine (?_ : wO _ (compareOp .IsNot) _ _ _ _)); first | refine onot ?_)
    | ((with_reducible refine (?_ : wO _ (binaryOp .RShift) _ _ _ _)); refine oshr (by first | decide | omega) ?_)
    | ((with_reducible refine (?_ : wO _ (binaryOp .BitXor) _ _ _ _)); refine oxor ?_)
    | ((with_reducible refine (?_ : wO _ (inplaceOp .BitXor) _ _ _ _)); refine ixor ?_)
    | ((with_reducible refine (?_ : wO _ (inplaceOp .RShift) _ _ _ _)); refine ishr (by first | decide | omega) ?_)
    | ((with_reducible refine (?_ : wO _ (inplaceOp .BitOr) _ _ _ _)); first | refine ior ?_)
    | ((with_reducible refine (?_ : wO _ (inplaceOp .Add) _ _ _ _)); first | refine iadd ?_))
  | ((with_reducible refine (?_ : wT _ _ _ _ _)); first
    | ((with_reducible refine (?_ : wT _ (.Compare _ _ _ _) _ _ _)); first | refine zcmpT (by rfl) ?_ | refine zchainT ?_)
    | ((with_reducible refine (?_ : wT _ (.UnaryOp _ _ _) _ _ _)); refine znotT ?_)
    | ((with_reducible refine (?_ : wT _ (.BoolOp _ _ _) _ _ _)); refine zW ?_)
    | refine zval ?_)
  | ((with_reducible refine (?_ : wW _ _ _ _ _)); first | refine zand ?_ | refine zor ?_ | refine zand1 ?_ | refine zor1 ?_)
  | ((with_reducible refine (?_ : wK _ _ _ _ _)); first
    | ((with_reducible refine (?_ : wK _ (.builtin "len") _ _ _)); first | refine klenL (by one_place) ?_ | refine klenT (by one_place) ?_ | refine klenS (by assumption) ?_)
    | ((with_reducible refine (?_ : wK _ (.builtin "isinstance") _ _ _)); first | refine kisE (by assumption) (by assumption) (by first | assumption | exact Xd.exx (by assumption) (by one_sign)) (by first | exact .own _ | exact .ty _) (by assumption) ?_ | refine kisi (.ty _) (by assumption) (by assumption) ?_ | refine kisi (.ty _) (.base (by first | exact .int _ | exact .bl _ | exact .str _ | exact .non | exact .tup (by one_item) | exact .lst (by one_item))) (kit_ty (r := true) (by rfl)) ?_ | refine kisi (.ty _) (.base (by first | exact .int _ | exact .bl _ | exact .str _ | exact .non | exact .tup (by one_item) | exact .lst (by one_item))) (kit_ty (r := false) (by rfl)) ?_)
    | ((with_reducible refine (?_ : wK _ (.builtin "divmod") _ _ _)); refine kdivmod ⟨by first | decide | omega, by decide⟩ (fun _ _ _ _ _ => ?_))
    | ((with_reducible refine (?_ : wK _ (.builtin "min") _ _ _)); refine kmin (by rfl) ?_)
    | ((with_reducible refine (?_ : wK _ (.builtin "max") _ _ _)); refine kmax (by rfl) ?_)
    | ((with_reducible refine (?_ : wK _ (.type "list") _ _ _)); first | refine klistL (by one_place) (fun _ _ _ _ _ => ?_) | refine klistT (by one_place) (fun _ _ _ _ _ => ?_))
    | ((with_reducible refine (?_ : wK _ (.type "tuple") _ _ _)); first | refine ktupL (by one_place) (fun _ _ _ _ _ => ?_)))
  | ((with_reducible refine (?_ : wS _ _ _ _ _)); first
    | ((with_reducible refine (?_ : wS _ (.Assign [.Name _ _] _ _) _ _ _)); refine sset' (by assumption) (by rfl) (by first | exact Or.inl rfl | exact Or.inr rfl) (by rfl) (by first | exact .inl rfl | exact .inr rfl) ?_)
    | ((with_reducible refine (?_ : wS _ (.AugAssign (.Name _ _) _ _ _) _ _ _)); refine saug' (by assumption) (by rfl) (by first | exact Or.inl rfl | exact Or.inr rfl) (by first | exact .inl rfl | exact .inr rfl) (by rfl) ?_)
    | ((with_reducible refine (?_ : wS _ (.Assign [.Attribute _ _ _] _ _) _ _ _)); refine sfld ?_)
    | ((with_reducible refine (?_ : wS _ (.Expr _ _) _ _ _)); refine sexp ?_)
    | ((with_reducible refine (?_ : wS _ (.Assign [.Tuple _ _ _] _ _) _ _ _)); refine sasg ?_) | ((with_reducible refine (?_ : wS _ (.Assign [.Subscript _ _ _] _ _) _ _ _)); refine sasg ?_)
    | refine sret ?_ | refine sif ?_ | refine sretN ?_ | refine spass ?_ | refine sbrk ?_ | refine scont ?_)
  | ((with_reducible refine (?_ : wG _ (.Name _ _) _ _ _ _)); refine gname' (by assumption) (by rfl) (by first | exact Or.inl rfl | exact Or.inr rfl) (by first | exact .inl rfl | exact .inr rfl) ?_)
  | ((with_reducible refine (?_ : wG _ (.Tuple _ _ _) _ _ _ _)); refine gtup rfl (by one_place) rfl ?_) | ((with_reducible refine (?_ : wG _ (.Subscript _ _ _) _ _ _ _)); refine gsub ?_)
  | ((with_reducible refine (?_ : wGs _ _ _ _ _ _)); first | refine gscons ?_ | refine gsnil ?_)
  | ((with_reducible refine (?_ : wB _ _ _ _ _)); first | refine bcons ?_ | refine bnil ?_)
  | refine ifT ?_ | refine ifF ?_ | refine ifd (fun _ => ?_) (fun _ => ?_) | refine ifnd (fun _ => ?_) (fun _ => ?_) | refine ⟨_, rfl, ?_⟩ | refine ⟨rfl, Evl.Ex.refl _, ?_⟩ | refine ⟨_, _, _, _, _, rfl, by one_item, by assumption, by assumption, by rfl, ?_⟩ | refine ⟨Nat.le_of_ble_eq_true rfl, fun _ _ _ _ _ => ?_⟩ | fail)
local macro_rules | `(tactic| top_name) => `(tactic| repeat' tb_rel)
local macro_rules | `(tactic| nest_fact) => `(tactic| first | exact ⟨(decide_eq_true (by omega)).symm, rfl⟩ | exact ⟨(decide_eq_false (by omega)).symm, rfl⟩ | exact ⟨decide_eq_decide.mpr (by omega), rfl⟩ | fail)
/-! ### heaps that change at some places only -/
def cutS (S : List Addr) (H : Hp) : Hp := fun x => if x ∈ S then none else H x
def Eb (b : Addr) (H H' : Hp) : Prop := ∀ x o, x ≠ b → H x = some o → H' x = some o
def On (S : List Addr) (H : Hp) : Prop := ∀ c ∈ S, H c ≠ none
theorem cut_sub {S : List Addr} {H : Hp} : Ex (cutS S H) H := fun b o e => by
  unfold cutS at e
  split at e
  · cases e
  · exact e
theorem cut_ex {S : List Addr} {H H' : Hp} (e : Ex H H') : Ex (cutS S H) (cutS S H') := fun b o q => by
  unfold cutS at q ⊢
  split at q
  · cases q
  · rename_i n
    rw [if_neg n]
    exact e _ _ q
theorem cut_eb {S : List Addr} {H H' : Hp} {b : Addr} (hb : b ∈ S) (e : Eb b H H') : Ex (cutS S H) (cutS S H') := fun x o q => by
  unfold cutS at q ⊢
  split at q
  · cases q
  · rename_i n
    rw [if_neg n]
    exact e _ _ (fun z => n (by rw [z]; exact hb)) q
theorem cut_new {S : List Addr} {H H' : Hp} {r : Addr} {o : HO} (hS : On S H) (hr : H r = none) (h : H' r = some o) : cutS S H' r = some o := by
  unfold cutS
  rw [if_neg (fun z => hS r z hr)]
  exact h
theorem Eb.of {b : Addr} {H H' : Hp} (e : Ex H H') : Eb b H H' := fun x o _ q => e x o q
theorem Eb.trans {b : Addr} {H H' H'' : Hp} (e : Eb b H H') (f : Eb b H' H'') : Eb b H H'' := fun x o n q => f x o n (e x o n q)
theorem Eb.upd {b : Addr} {H : Hp} {o : HO} : Eb b H (upd H b o) := fun x z n q => by rw [upd_ne n]; exact q
theorem On.ex {S : List Addr} {H H' : Hp} (h : On S H) (e : Ex H H') : On S H' := fun c hc z => by
  cases q : H c with
  | none => exact h c hc q
  | some o => rw [e _ _ q] at z; cases z
theorem On.eb {S : List Addr} {H H' : Hp} {b : Addr} (h : On S H) (e : Eb b H H') (hb : H' b ≠ none) : On S H' := fun c hc z => by
  by_cases n : c = b
  · rw [n] at z; exact hb z
  cases q : H c with
  | none => exact h c hc q
  | some o => rw [e _ _ n q] at z; cases z
/-! ### boxes -/
inductive WR (H : Hp) : V → Option (Int × Str) → Prop
  | no : WR H .non none
  | so {t : Addr} {p : Int} {why : Str} (h : H t = some (.tup [.int p, .str why])) : WR H (.ref t) (some (p, why))
theorem WR.ex {H H' : Hp} (e : Ex H H') {v : V} {r : Option (Int × Str)} (h : WR H v r) : WR H' v r := by
  cases h with
  | no => exact .no
  | so h => exact .so (e _ _ h)
def insB (K : PySem.W.Frag) (dx : Addr) (x y z : V) : HO := .ins (He.ga K "Frames") dx [("rest", x), ("ahead", y), ("wrong", z)]
structure BoxS (K : PySem.W.Frag) (S : List Addr) (H : Hp) (b : Addr) (rest : List Int) (A : Nat) (wr : Option (Int × Str)) : Prop where
  on : On S H
  mem : b ∈ S
  by_ : Bytes rest
  len : rest.length ≤ 20000
  lo : A ≤ 20000
  box : ∃ dx r wv, H b = some (insB K dx (.ref r) (.int (A : Int)) wv) ∧ cutS S H r = some (.lst (rest.map V.int)) ∧ WR (cutS S H) wv wr
theorem put_rest {x y z u : V} : putF "rest" u [(("rest" : Str), x), ("ahead", y), ("wrong", z)] = [(("rest" : Str), u), ("ahead", y), ("wrong", z)] := rfl
theorem put_ahead {x y z u : V} : putF "ahead" u [(("rest" : Str), x), ("ahead", y), ("wrong", z)] = [(("rest" : Str), x), ("ahead", u), ("wrong", z)] := rfl
theorem put_wrong {x y z u : V} : putF "wrong" u [(("rest" : Str), x), ("ahead", y), ("wrong", z)] = [(("rest" : Str), x), ("ahead", y), ("wrong", u)] := rfl
/-- a box stays as it is where the heap grows -/
theorem BoxS.ex {S : List Addr} {H H' : Hp} {b : Addr} {rest : List Int} {A : Nat} {wr : Option (Int × Str)} (h : BoxS K S H b rest A wr) (e : Ex H H') : BoxS K S H' b rest A wr := by
  obtain ⟨h1, h2, h3, h4, h5, dx, r, wv, h6, h7, h8⟩ := h
  exact ⟨h1.ex e, h2, h3, h4, h5, dx, r, wv, e _ _ h6, cut_ex e _ _ h7, h8.ex (cut_ex e)⟩
def spRef (K : PySem.W.Frag) : Sp := fun vs H Q E => ∃ (S : List Addr) (b : Addr) (rest : List Int) (A : Nat) (wr : Option (Int × Str)), vs = [.ref b] ∧ BoxS K S H b rest A wr ∧ match wr with
  | none => ∀ H', Ex H H' → Q .non H'
  | some (p, why) => if why = "check" then ∀ H', Ex H H' → E (.ref (He.ga K "BadCheck")) none H' else outWire K H E p why
theorem mf_refuse (T : Txt K mg) : Mf P w K mg base 3 (He.ga K "Frames") "refuse" [] (spRef K) := by
  refine mf_mk T.f_Frames_refuse T.c_Frames.cl T.h_Frames_refuse (fun _ _ _ _ _ _ us hl => match us, hl with | [_], _ => rfl) fun fd F => fn_mk F sc_Frames_refuse (fun vs H Q E h => ?_) fun cd A outer s H vs Q E hr tk po h => ?_
  · obtain ⟨S, b, rest, A, wr, rfl, _⟩ := h; rfl
  · obtain ⟨S, b, rest, A, wr, rfl, hB, q⟩ := h
    obtain ⟨h1, h2, h3, h4, h5, dx, r, wv, h6, h7, h8⟩ := hB
    unfold insB at h6
    have c1 := T.c_Frames.cl
    have a1 := T.a_Frames_wrong
    cases h8 with
    | no =>
      top_name
      exact q _ (Evl.Ex.refl _)
    | @so t p why ht =>
      have ht2 := cut_sub _ _ ht
      top_name
      refine ixT (SqT.of ht2) rfl ?_
      by_cases hw : why = "check"
      · subst hw
        top_name
        refine sraise rfl tk (mplain T.e_BadCheck T.m_BadCheck rfl ?_)
        exact (show (if ("check" : Str) = "check" then ∀ H', Ex H H' → E (.ref (He.ga K "BadCheck")) none H' else outWire K H E p "check") from q) |> fun z => by rw [if_pos rfl] at z; exact z _ (Evl.Ex.refl _)
      · have q : if why = "check" then ∀ H', Ex H H' → E (.ref (He.ga K "BadCheck")) none H' else outWire K H E p why := q
        rw [if_neg hw] at q
        tb_rel
        refine oeqsF hw ?_
        top_name
        refine sraise rfl tk (mWire T hr (by decide) rfl ?_)
        top_name
        refine ixT (SqT.of ht2) rfl ?_
        top_name
        refine ixT (SqT.of ht2) rfl ?_
        top_name
        exact ⟨p, why, rfl, q⟩
/-! ### a new box -/
def spIniF (K : PySem.W.Frag) : Sp := fun vs H Q _ => ∃ (a dx : Addr), vs = [.ref a] ∧ H a = some (.ins (He.ga K "Frames") dx []) ∧ ∀ r H', H r = none → Eb a H H' → H' r = some (.lst []) → H' a = some (insB K dx (.ref r) (.int 0) .non) → Q .non H'
theorem fi_Frames (T : Txt K mg) {fd : FuncData} (F : FunD K "__init__" "Frames.__init__" (defArgs s_Frames_init) (defBody s_Frames_init) (defScope s_Frames_init) [] [] (He.fAd K ("Frames", some "__init__")) fd) : FnOk P w K mg base (L2N.CX P w) 1 (He.fAd K ("Frames", some "__init__")) fd ["self"] (spIniF K) := by
  refine fn_mk F sc_Frames_init (fun vs H Q E h => ?_) fun cd A outer s H vs Q E hr tk po h => ?_
  · obtain ⟨a, dx, rfl, _⟩ := h; rfl
  · obtain ⟨a, dx, rfl, hx, q⟩ := h
    have c1 := T.c_Frames.cl
    top_name
    rename_i r H1 hr1 e1 hx1
    have n1 : r ≠ a := fun z => by rw [z, hx] at hr1; cases hr1
    refine ⟨a, _, dx, [], rfl, e1 _ _ hx, c1, T.a_Frames_rest, by decide, ?_⟩
    top_name
    refine ⟨a, _, dx, _, rfl, upd_same, c1, T.a_Frames_ahead, by show 1 < 1000; decide, ?_⟩
    top_name
    refine ⟨a, _, dx, _, rfl, upd_same, c1, T.a_Frames_wrong, by show 2 < 1000; decide, ?_⟩
    (repeat refine bnil ?_)
    exact q r _ hr1 ((Eb.of e1).trans (Eb.upd.trans (Eb.upd.trans Eb.upd))) (by rw [upd_ne n1, upd_ne n1, upd_ne n1]; exact hx1) upd_same
theorem nf_Frames (T : Txt K mg) : Nf P w K mg base 1 "Frames" (He.ga K "Frames") [] (spIniF K) := nf_mk T.f_Frames_init T.m_Frames T.mk_Frames (fun _ _ _ _ _ _ us hl => match us, hl with | [_], _ => rfl) fun fd F => fi_Frames T F
/-! ### how many bytes the next frame has -/
def spWS (K : PySem.W.Frag) : Sp := fun vs H Q _ => ∃ (S : List Addr) (b : Addr) (rest : List Int) (A : Nat), vs = [.ref b] ∧ BoxS K S H b rest A none ∧ match numGo rest 0 0 0 with
  | .bad p why => if why = "number" then ∀ H', Eb b H H' → BoxS K S H' b rest A (some ((A : Int) + p, "number")) → Q .non H' else ∀ H', Ex H H' → Q .non H'
  | .num n p => if 30000 < n then ∀ H', Eb b H H' → BoxS K S H' b rest A (some ((A : Int), "length")) → Q .non H' else ∀ H', Ex H H' → Q (.int (p + n + 2)) H'
/-- a box's word is written -/
theorem BoxS.wrong {S : List Addr} {H H1 H2 : Hp} {b dx r t : Addr} {rest : List Int} {A : Nat} {wr : Option (Int × Str)} {p : Int} {why : Str} (h : BoxS K S H b rest A wr) (e1 : Ex H H1) (h6 : H b = some (insB K dx (.ref r) (.int (A : Int)) .non)) (h7 : cutS S H r = some (.lst (rest.map V.int))) (ht : H1 t = none) (e2 : Ex H1 H2) (hx : H2 t = some (.tup [.int p, .str why])) :
    Eb b H (upd H2 b (insB K dx (.ref r) (.int (A : Int)) (.ref t))) ∧ BoxS K S (upd H2 b (insB K dx (.ref r) (.int (A : Int)) (.ref t))) b rest A (some (p, why)) := by
  have ee : Eb b H (upd H2 b (insB K dx (.ref r) (.int (A : Int)) (.ref t))) := (Eb.of (e1.trans e2)).trans Eb.upd
  refine ⟨ee, h.on.eb ee (by rw [upd_same]; exact fun z => nomatch z), h.mem, h.by_, h.len, h.lo, dx, r, .ref t, upd_same, cut_eb h.mem ee _ _ h7, .so ?_⟩
  have ht0 := Evl.fresh_back e1 ht
  have nt : t ≠ b := fun z => by rw [z, h6] at ht0; cases ht0
  exact cut_new h.on ht0 (by rw [upd_ne nt]; exact hx)
local macro_rules | `(tactic| tb_rel) => `(tactic| ((with_reducible refine (?_ : wE _ (.Attribute (.Name "e" _) _ _) _ _ _)); refine zfldE (by assumption) (by assumption) (by assumption) ?_))
theorem mf_size (T : Txt K mg) : Mf P w K mg base 4 (He.ga K "Frames") "whole_size" [] (spWS K) := by
  refine mf_mk T.f_Frames_whole_size T.c_Frames.cl T.h_Frames_whole_size (fun _ _ _ _ _ _ us hl => match us, hl with | [_], _ => rfl) fun fd F => fn_mk F sc_Frames_whole_size (fun vs H Q E h => ?_) fun cd A outer s H vs Q E hr tk po h => ?_
  · obtain ⟨S, b, rest, A, rfl, _⟩ := h; rfl
  · obtain ⟨S, b, rest, ah, rfl, hB, q⟩ := h
    obtain ⟨h1, h2, h3, h4, h5, dx, r, wv, h6, h7, h8⟩ := id hB
    cases h8
    have h6' := h6
    unfold insB at h6
    have nd := sc_Frames_whole_size.nd
    have c1 := T.c_Frames.cl
    have a1 := T.a_Frames_rest
    have a2 := T.a_Frames_ahead
    have a3 := T.a_Frames_wrong
    have n1 := T.n_len
    have g1 := T.g_MOST_LENGTH
    have hrl := cut_sub _ _ h7
    have hlm : (rest.map V.int).length = rest.length := List.length_map ..
    top_name
    refine stry (cl := .ref (He.ga K "BadWire")) 3 nd tk ⟨rfl, by decide, .inl T.m_BadWire⟩ rfl rfl rfl rfl fun pn xe po2 tk2 => ?_
    top_name
    refine zcall (ok_number_at T) (j := 3) hr (by decide) tk2 rfl ?_
    top_name
    rw [hlm]
    refine ⟨r, rest, 0, _, rfl, .inl hrl, h3, by decide, by omega, by omega, by omega, ?_⟩
    have hn : numAt rest 0 (rest.length : Int) = numGo rest 0 0 0 := by
      unfold numAt
      rw [Int.toNat_natCast, List.take_length, show (0 : Int).toNat = 0 from rfl, List.drop_zero]
    rw [hn]
    cases hg : numGo rest 0 0 0 with
    | num n p =>
      rw [hg] at q
      intro t H1 ht e1 hx1
      have h6a := e1 _ _ h6
      top_name
      · rename_i hlt t2 H2 ht2 e2 hx2
        have q : if 30000 < n then ∀ H', Eb b H H' → BoxS K S H' b rest ah (some ((ah : Int), "length")) → Q .non H' else ∀ H', Ex H H' → Q (.int (p + n + 2)) H' := q
        rw [if_pos hlt] at q
        obtain ⟨w1, w2⟩ := hB.wrong e1 h6' h7 ht2 e2 hx2
        refine ⟨b, _, dx, _, rfl, e2 _ _ h6a, c1, a3, by show 3 < 1000; decide, ?_⟩
        top_name
        exact q _ w1 w2
      · rename_i hlt
        have q : if 30000 < n then ∀ H', Eb b H H' → BoxS K S H' b rest ah (some ((ah : Int), "length")) → Q .non H' else ∀ H', Ex H H' → Q (.int (p + n + 2)) H' := q
        rw [if_neg hlt] at q
        exact q _ e1
    | bad p why =>
      rw [hg] at q
      have q : if why = "number" then ∀ H', Eb b H H' → BoxS K S H' b rest ah (some ((ah : Int) + p, "number")) → Q .non H' else ∀ H', Ex H H' → Q .non H' := q
      intro d H1 hd e1 hx1
      refine ⟨true, T.t_BadWire_BadWire, fun _ a1' oe pn1 ha hz hf => ?_, fun z => by cases z⟩
      have hX := hx_suite (X := cx P w K mg base N_Frames_whole_size "Frames.whole_size" (defScope s_Frames_whole_size) (He.fAd K ("Frames", some "whole_size")) cd A outer s H E) (a := a1') (pn := pn1) hz hf
      have h6a := e1 _ _ h6
      have x1 := T.x_BadWire
      have x2 := T.a_BadWire_why
      have x3 := T.a_BadWire_place
      top_name
      refine ⟨rfl, _, _, hx1, rfl, ?_⟩
      tb_rel
      by_cases hw : why = "number"
      · subst hw
        rw [if_pos rfl] at q
        refine oeqsT rfl ?_
        top_name
        refine ⟨rfl, _, _, hx1, rfl, ?_⟩
        top_name
        rename_i t2 H2 ht2 e2 hx2
        obtain ⟨w1, w2⟩ := hB.wrong e1 h6' h7 ht2 e2 hx2
        refine ⟨b, _, dx, _, rfl, e2 _ _ h6a, c1, a3, by show 3 < 1000; decide, ?_⟩
        top_name
        exact q _ w1 w2
      · rw [if_neg hw] at q
        refine oeqsF hw ?_
        top_name
        exact q _ e1
end K06

set_option maxRecDepth 100000
set_option maxHeartbeats 4000000
set_option pp.maxSteps 400
namespace K06
open PySem PySem.Spec PyProof.Rows L2 Z
open Evl (Ex)
variable {P : Program} {w : World} {K : PySem.W.Frag} {mg : Str → Option Value} {base : Heap}
/-! ### steps of the walk: one_sign: a heap grew into another; one_item: what stands at an address; one_place: a list or tuple to be read; leaf_len: arithmetic; tb_rel: one step; top_name: steps as far as they go -/
local macro_rules | `(tactic| got_up) => `(tactic| (refine Evl.Ex.trans (by assumption) ?_; first | assumption | exact Evl.Ex.refl _ | got_up))
local macro_rules | `(tactic| units_room) => `(tactic| (refine Evl.Ex.trans ?_ (by assumption); first | assumption | exact Evl.Ex.refl _ | units_room))
local macro_rules | `(tactic| one_sign) => `(tactic| first | assumption | exact Evl.Ex.refl _ | got_up | units_room)
local macro_rules | `(tactic| one_item) => `(tactic| first | assumption | exact upd_same | exact exa (by assumption) (by one_sign))
local macro_rules | `(tactic| one_place) => `(tactic| first | assumption | exact SqL.of (by assumption) | exact SqT.of (by assumption) | exact exl (by assumption) (by one_sign) | exact ext (by assumption) (by one_sign) | exact SqL.of (by one_item) | exact SqT.of (by one_item))
local macro_rules | `(tactic| leaf_len) => `(tactic| first | assumption | decide | omega)
local macro_rules | `(tactic| tb_rel) => `(tactic| first
  | ((with_reducible refine (?_ : wE _ _ _ _ _)); first
    | ((with_reducible refine (?_ : wE _ (.Name _ _) _ _ _)); first | refine zn (by rfl) (by first | exact Or.inl rfl | exact Or.inr (Or.inl rfl) | exact Or.inr (Or.inr rfl)) (by rfl) ?_ | refine zglob (by assumption) (by rfl) ?_ | refine zcls (by assumption) (by rfl) ?_ | refine zty (by assumption) (by first | exact bt_int | exact bt_bool | exact bt_str | exact bt_list | exact bt_tuple | exact bt_dict | exact bt_ValueError) (by rfl) ?_)
    | ((with_reducible refine (?_ : wE _ (.Attribute _ _ _) _ _ _)); refine zfld ?_)
    | ((with_reducible refine (?_ : wE _ (.Constant _ _ _) _ _ _)); first | refine zint ?_ | refine zstr ?_ | refine zbl ?_ | refine znon ?_)
    | ((with_reducible refine (?_ : wE _ (.BinOp _ _ _ _) _ _ _)); refine zbin ?_)
    | ((with_reducible refine (?_ : wE _ (.Compare _ _ _ _) _ _ _)); first | refine zcmp (by rfl) ?_ | refine zchain ?_)
    | ((with_reducible refine (?_ : wE _ (.Dict [] [] _) _ _ _)); refine zdnew (fun _ _ _ _ _ => ?_))
    | ((with_reducible refine (?_ : wE _ (.Subscript _ (.Slice _ _ _ _) _) _ _ _)); refine zsl ?_)
    | ((with_reducible refine (?_ : wE _ (.Subscript _ _ _) _ _ _)); refine zix ?_)
    | ((with_reducible refine (?_ : wE _ (.Call (.Name "list" _) [.Call (.Name "range" _) [_] [] _] [] _) _ _ _)); refine zlrg1 rfl (by rfl) (by assumption) (by rfl) (by assumption) ?_)
    | ((with_reducible refine (?_ : wE _ (.Call (.Name _ _) _ _ _) _ _ _)); first
      | ((with_reducible refine (?_ : wE _ (.Call (.Name "len" _) _ _ _) _ _ _)); refine zbfn (by assumption) bt_len (by rfl) ?_)
      | ((with_reducible refine (?_ : wE _ (.Call (.Name "isinstance" _) _ _ _) _ _ _)); refine zbfn (by assumption) bt_isi (by rfl) ?_)
      | ((with_reducible refine (?_ : wE _ (.Call (.Name "min" _) _ _ _) _ _ _)); refine zbfn (by assumption) bt_min (by rfl) ?_)
      | ((with_reducible refine (?_ : wE _ (.Call (.Name "max" _) _ _ _) _ _ _)); refine zbfn (by assumption) bt_max (by rfl) ?_)
      | ((with_reducible refine (?_ : wE _ (.Call (.Name "list" _) _ _ _) _ _ _)); refine zbty (by assumption) bt_list (by rfl) ?_)
      | ((with_reducible refine (?_ : wE _ (.Call (.Name "tuple" _) _ _ _) _ _ _)); refine zbty (by assumption) bt_tuple (by rfl) ?_)
      | ((with_reducible refine (?_ : wE _ (.Call (.Name "int" _) _ _ _) _ _ _)); refine zbty (by assumption) bt_int (by rfl) ?_)
      | ((with_reducible refine (?_ : wE _ (.Call (.Name "abs" _) _ _ _) _ _ _)); refine zbfn (by assumption) bt_abs (by rfl) ?_)
      | ((with_reducible refine (?_ : wE _ (.Call (.Name "all" _) _ _ _) _ _ _)); refine zbfn (by assumption) bt_all (by rfl) ?_)
      | ((with_reducible refine (?_ : wE _ (.Call (.Name "sum" _) _ _ _) _ _ _)); refine zbfn (by assumption) bt_sum (by rfl) ?_)
      | ((with_reducible refine (?_ : wE _ (.Call (.Name "divmod" _) _ _ _) _ _ _)); refine zbfn (by assumption) bt_divmod (by rfl) ?_)
      | ((with_reducible refine (?_ : wE _ (.Call (.Name "ord" _) _ _ _) _ _ _)); refine zbfn (by assumption) bt_ord (by rfl) ?_))
    | ((with_reducible refine (?_ : wE _ (.IfExp _ _ _ _) _ _ _)); refine zif ?_)
    | ((with_reducible refine (?_ : wE _ (.Tuple _ _ _) _ _ _)); refine ztup ?_)
    | ((with_reducible refine (?_ : wE _ (.List _ _) _ _ _)); refine zlst ?_)
    | ((with_reducible refine (?_ : wE _ (.UnaryOp _ _ _) _ _ _)); first | refine znotV ?_ | refine zneg ?_)
    | ((with_reducible refine (?_ : wE _ (.BoolOp _ _ _) _ _ _)); first | refine zandV ?_ | refine zorV ?_ | refine zoneV ?_))
  | ((with_reducible refine (?_ : bE _ _ _ _ _ _)); refine ⟨fun _ _ _ _ _ => ?_⟩) | ((with_reducible refine (?_ : bG _ _ _ _ _ _ _)); refine ⟨fun _ _ _ _ _ => ?_⟩) | ((with_reducible refine (?_ : bTs _ _ _ _ _ _)); refine ⟨fun _ _ _ _ _ => ?_⟩)
  | ((with_reducible refine (?_ : hE _ _ _ _ _ _)); refine ⟨fun _ _ _ _ _ => ?_⟩) | ((with_reducible refine (?_ : hG _ _ _ _ _ _ _)); refine ⟨fun _ _ _ _ _ => ?_⟩) | ((with_reducible refine (?_ : hTs _ _ _ _ _ _)); refine ⟨fun _ _ _ _ _ => ?_⟩)
  | ((with_reducible refine (?_ : wP _ _ _ _ _)); first | refine pnon ?_ | refine psom ?_) | ((with_reducible refine (?_ : wSl _ _ _ _ _ _)); first | refine slL (by one_place) (fun _ _ _ _ _ => ?_) | refine slS (by assumption) ?_)
  | ((with_reducible refine (?_ : wTs _ _ _ _ _)); first | refine tsnil ?_ | refine tsone ?_)
  | ((with_reducible refine (?_ : wA _ _ _ _ _)); first | refine acons ?_ | refine anil ?_)
  | ((with_reducible refine (?_ : wO _ _ _ _ _ _)); first
    | ((with_reducible refine (?_ : wO _ (binaryOp .Add) _ _ _ _)); first | refine oadd ?_ | refine ocatE (by one_item) (by one_item) (Nat.le_of_ble_eq_true rfl) (fun _ _ _ _ _ => ?_))
    | ((with_reducible refine (?_ : wO _ (binaryOp .Sub) _ _ _ _)); first | refine osub ?_)
    | ((with_reducible refine (?_ : wO _ (binaryOp .Mult) _ _ _ _)); first | refine omul (by first | exact IntMulOk.of_right (by decide) | exact IntMulOk.of_left (by decide) | exact IntMulOk.of_right (intBits_le_64 (by omega) (by omega)) | exact IntMulOk.of_left (intBits_le_64 (by omega) (by omega))) ?_)
    | ((with_reducible refine (?_ : wO _ (binaryOp .Mod) _ _ _ _)); first | refine omod (by first | decide | omega) ?_)
    | ((with_reducible refine (?_ : wO _ (binaryOp .FloorDiv) _ _ _ _)); first | refine ofdiv ⟨by first | decide | omega, by decide⟩ ?_)
    | ((with_reducible refine (?_ : wO _ (binaryOp .BitAnd) _ _ _ _)); first | refine oand ?_)
    | ((with_reducible refine (?_ : wO _ (binaryOp .BitOr) _ _ _ _)); first | refine oor ?_)
    | ((with_reducible refine (?_ : wO _ (compareOp .Lt) _ _ _ _)); first | refine olt ?_)
    | ((with_reducible refine (?_ : wO _ (compareOp .LtE) _ _ _ _)); first | refine ole ?_)
    | ((with_reducible refine (?_ : wO _ (compareOp .Gt) _ _ _ _)); first | refine ogt ?_)
    | ((with_reducible refine (?_ : wO _ (compareOp .GtE) _ _ _ _)); first | refine oge ?_)
    | ((with_reducible refine (?_ : wO _ (compareOp .Eq) _ _ _ _)); first | refine oeqi ?_ | refine oeqsT (by decide +kernel) ?_ | refine oeqsF (by decide +kernel) ?_ | refine oeq (by rfl) ?_)
    | ((with_reducible refine (?_ : wO _ (compareOp .NotEq) _ _ _ _)); first | refine onei ?_ | refine onesT (by decide +kernel) ?_ | refine onesF (by decide +kernel) ?_ | refine one (by rfl) ?_)
    | ((with_reducible refine (?_ : wO _ (compareOp .In) _ _ _ _)); first | refine oin ?_)
    | ((with_reducible refine (?_ : wO _ (compareOp .NotIn) _ _ _ _)); first | refine onin ?_)
    | ((with_reducible refine (?_ : wO _ (compareOp .Is) _ _ _ _)); first | refine ois ?_)
    | ((with_reducible refine (?_ : wO _ (compareOp .IsNot) _ _ _ _)); first | refine onot ?_)
    | ((with_reducible refine (?_ : wO _ (binaryOp .RShift) _ _ _ _)); refine oshr (by first | decide | omega) ?_)
    | ((with_reducible refine (?_ : wO _ (binaryOp .BitXor) _ _ _ _)); refine oxor ?_)
    | ((with_reducible refine (?_ : wO _ (inplaceOp .BitXor) _ _ _ _)); refine ixor ?_)
    | ((with_reducible refine (?_ : wO _ (inplaceOp .RShift) _ _ _ _)); refine ishr (by first | decide | omega) ?_)
    | ((with_reducible refine (?_ : wO _ (inplaceOp .BitOr) _ _ _ _)); first | refine ior ?_)
    | ((with_reducible refine (?_ : wO _ (inplaceOp .Add) _ _ _ _)); first | refine iadd ?_))
  | ((with_reducible refine (?_ : wT _ _ _ _ _)); first
    | ((with_reducible refine (?_ : wT _ (.Compare _ _ _ _) _ _ _)); first | refine zcmpT (by rfl) ?_ | refine zchainT ?_)
    | ((with_reducible refine (?_ : wT _ (.UnaryOp _ _ _) _ _ _)); refine znotT ?_)
    | ((with_reducible refine (?_ : wT _ (.BoolOp _ _ _) _ _ _)); refine zW ?_)
    | refine zval ?_)
  | ((with_reducible refine (?_ : wW _ _ _ _ _)); first | refine zand ?_ | refine zor ?_ | refine zand1 ?_ | refine zor1 ?_)
  | ((with_reducible refine (?_ : wK _ _ _ _ _)); first
    | ((with_reducible refine (?_ : wK _ (.builtin "len") _ _ _)); first | refine klenL (by one_place) ?_ | refine klenT (by one_place) ?_ | refine klenS (by assumption) ?_)
    | ((with_reducible refine (?_ : wK _ (.builtin "isinstance") _ _ _)); first | refine kisE (by assumption) (by assumption) (by first | assumption | exact Xd.exx (by assumption) (by one_sign)) (by first | exact .own _ | exact .ty _) (by assumption) ?_ | refine kisi (.ty _) (by assumption) (by assumption) ?_ | refine kisi (.ty _) (.base (by first | exact .int _ | exact .bl _ | exact .str _ | exact .non | exact .tup (by one_item) | exact .lst (by one_item))) (kit_ty (r := true) (by rfl)) ?_ | refine kisi (.ty _) (.base (by first | exact .int _ | exact .bl _ | exact .str _ | exact .non | exact .tup (by one_item) | exact .lst (by one_item))) (kit_ty (r := false) (by rfl)) ?_)
    | ((with_reducible refine (?_ : wK _ (.builtin "divmod") _ _ _)); refine kdivmod ⟨by first | decide | omega, by decide⟩ (fun _ _ _ _ _ => ?_))
    | ((with_reducible refine (?_ : wK _ (.builtin "min") _ _ _)); refine kmin (by rfl) ?_)
    | ((with_reducible refine (?_ : wK _ (.builtin "max") _ _ _)); refine kmax (by rfl) ?_)
    | ((with_reducible refine (?_ : wK _ (.type "list") _ _ _)); first | refine klistL (by one_place) (fun _ _ _ _ _ => ?_) | refine klistT (by one_place) (fun _ _ _ _ _ => ?_))
    | ((with_reducible refine (?_ : wK _ (.type "tuple") _ _ _)); first | refine ktupL (by one_place) (fun _ _ _ _ _ => ?_)))
  | ((with_reducible refine (?_ : wS _ _ _ _ _)); first
    | ((with_reducible refine (?_ : wS _ (.Assign [.Name _ _] _ _) _ _ _)); refine sset' (by assumption) (by rfl) (by first | exact Or.inl rfl | exact Or.inr rfl) (by rfl) (by first | exact .inl rfl | exact .inr rfl) ?_)
    | ((with_reducible refine (?_ : wS _ (.AugAssign (.Name _ _) _ _ _) _ _ _)); refine saug' (by assumption) (by rfl) (by first | exact Or.inl rfl | exact Or.inr rfl) (by first | exact .inl rfl | exact .inr rfl) (by rfl) ?_)
    | ((with_reducible refine (?_ : wS _ (.Assign [.Attribute _ _ _] _ _) _ _ _)); refine sfld ?_)
    | ((with_reducible refine (?_ : wS _ (.Expr _ _) _ _ _)); refine sexp ?_)
    | ((with_reducible refine (?_ : wS _ (.Assign [.Tuple _ _ _] _ _) _ _ _)); refine sasg ?_) | ((with_reducible refine (?_ : wS _ (.Assign [.Subscript _ _ _] _ _) _ _ _)); refine sasg ?_)
    | refine sret ?_ | refine sif ?_ | refine sretN ?_ | refine spass ?_ | refine sbrk ?_ | refine scont ?_)
  | ((with_reducible refine (?_ : wG _ (.Name _ _) _ _ _ _)); refine gname' (by assumption) (by rfl) (by first | exact Or.inl rfl | exact Or.inr rfl) (by first | exact .inl rfl | exact .inr rfl) ?_)
  | ((with_reducible refine (?_ : wG _ (.Tuple _ _ _) _ _ _ _)); refine gtup rfl (by one_place) rfl ?_) | ((with_reducible refine (?_ : wG _ (.Subscript _ _ _) _ _ _ _)); refine gsub ?_)
  | ((with_reducible refine (?_ : wGs _ _ _ _ _ _)); first | refine gscons ?_ | refine gsnil ?_)
  | ((with_reducible refine (?_ : wB _ _ _ _ _)); first | refine bcons ?_ | refine bnil ?_)
  | refine ifT ?_ | refine ifF ?_ | refine ifd (fun _ => ?_) (fun _ => ?_) | refine ifnd (fun _ => ?_) (fun _ => ?_) | refine ⟨_, rfl, ?_⟩ | refine ⟨rfl, Evl.Ex.refl _, ?_⟩ | refine ⟨_, _, _, _, _, rfl, by one_item, by assumption, by assumption, by rfl, ?_⟩ | refine ⟨Nat.le_of_ble_eq_true rfl, fun _ _ _ _ _ => ?_⟩ | fail)
local macro_rules | `(tactic| top_name) => `(tactic| repeat' tb_rel)
local macro_rules | `(tactic| nest_fact) => `(tactic| first | exact ⟨(decide_eq_true (by omega)).symm, rfl⟩ | exact ⟨(decide_eq_false (by omega)).symm, rfl⟩ | exact ⟨decide_eq_decide.mpr (by omega), rfl⟩ | fail)
/-! ### the row of the next frame -/
theorem cut_less {S : List Addr} {t : Addr} {H : Hp} : Ex (cutS (t :: S) H) (cutS S H) := fun b o q => by
  unfold cutS at q ⊢
  split at q
  · cases q
  · rename_i n
    rw [if_neg (fun z => n (List.mem_cons_of_mem _ z))]
    exact q
theorem cut_one {S : List Addr} {H : Hp} {r t : Addr} {o : HO} (h : cutS S H r = some o) (n : r ≠ t) : cutS (t :: S) H r = some o := by
  unfold cutS at h ⊢
  split at h
  · cases h
  · rename_i m
    rw [if_neg (fun z => (List.mem_cons.mp z).elim n m)]
    exact h
theorem WR.one {S : List Addr} {H : Hp} {t : Addr} {v : V} {wr : Option (Int × Str)} (h : WR (cutS S H) v wr) (n : ∀ o, H t = some o → ∀ us, o ≠ .tup us) : WR (cutS (t :: S) H) v wr := by
  cases h with
  | no => exact .no
  | @so u p why hu => exact .so (cut_one hu (fun z => by subst z; exact n _ (cut_sub _ _ hu) _ rfl))
def spNext (K : PySem.W.Frag) : Sp := fun vs H Q _ => ∃ (S : List Addr) (b : Addr) (rest : List Int) (A : Nat), vs = [.ref b] ∧ BoxS K S H b rest A none ∧ A + rest.length ≤ 20000 ∧ match nx rest with
  | .none => ∀ H', Ex H H' → Q .non H'
  | .bad p why _ => ∀ H', Eb b H H' → BoxS K S H' b rest A (some ((A : Int) + p, why)) → Q .non H'
  | .row ys n => ∀ t H', H t = none → Eb b H H' → H' t = some (.lst (ys.map V.int)) → BoxS K (t :: S) H' b (rest.drop n) (A + n) none → Q (.ref t) H'
theorem cut_to {xs : List Int} {p : Int} (p0 : 0 ≤ p) (p1 : p ≤ (xs.length : Int)) : cutV (xs.map V.int) none (some p) = (xs.take p.toNat).map V.int := by
  unfold cutV
  rw [List.length_map, sIx_at _ _ p0 p1, HT.sIx_none, List.drop_zero, ← List.map_take, Nat.sub_zero]
theorem cut_off {xs : List Int} {n : Nat} : cutV (xs.map V.int) (some (n : Int)) none = (xs.drop n).map V.int := by
  unfold cutV
  rw [List.length_map, HT.sIx_nat, HT.sIx_none, ← List.map_drop]
  by_cases h : n ≤ xs.length
  · rw [Nat.min_eq_left h, List.take_of_length_le (by rw [List.length_map, List.length_drop]; exact Nat.le_refl _)]
  · rw [Nat.min_eq_right (by omega), List.drop_eq_nil_of_le (Nat.le_refl _)]
    rw [Nat.sub_self, List.drop_eq_nil_of_le (as := xs) (by omega)]
    rfl
theorem mf_next (T : Txt K mg) : Mf P w K mg base 6 (He.ga K "Frames") "next_row" [] (spNext K) := by
  refine mf_mk T.f_Frames_next_row T.c_Frames.cl T.h_Frames_next_row (fun _ _ _ _ _ _ us hl => match us, hl with | [_], _ => rfl) fun fd F => fn_mk F sc_Frames_next_row (fun vs H Q E h => ?_) fun cd A outer s H vs Q E hr tk po h => ?_
  · obtain ⟨S, b, rest, A, rfl, _⟩ := h; rfl
  · obtain ⟨S, b, rest, ah, rfl, hB, hz, q⟩ := h
    obtain ⟨h1, h2, h3, h4, h5, dx, r, wv, h6, h7, h8⟩ := id hB
    cases h8
    have h6' := h6
    unfold insB at h6
    have nd := sc_Frames_next_row.nd
    have c1 := T.c_Frames.cl
    have a1 := T.a_Frames_rest
    have a2 := T.a_Frames_ahead
    have a3 := T.a_Frames_wrong
    have n1 := T.n_len
    have hrl := cut_sub _ _ h7
    have hlm : (rest.map V.int).length = rest.length := List.length_map ..
    have hN : ∀ {X : NX}, nx rest = X → (match X with
      | .none => ∀ H', Ex H H' → Q .non H'
      | .bad p why _ => ∀ H', Eb b H H' → BoxS K S H' b rest ah (some ((ah : Int) + p, why)) → Q .non H'
      | .row ys n => ∀ t H', H t = none → Eb b H H' → H' t = some (.lst (ys.map V.int)) → BoxS K (t :: S) H' b (rest.drop n) (ah + n) none → Q (.ref t) H') := fun e => by rw [← e]; exact q
    top_name
    refine zmeth0 hr tk ?_
    top_name
    refine ⟨b, _, dx, _, 4, [], _, rfl, h6, rfl, mf_size T, by decide, S, b, rest, ah, rfl, hB, ?_⟩
    cases hg : numGo rest 0 0 0 with
    | bad p why =>
      show if why = "number" then _ else _
      by_cases hw : why = "number"
      · rw [if_pos hw]
        intro H1 e1 b1
        have hq := hN (X := .bad p "number" (p + 1).toNat) (by unfold nx; rw [hg]; show (if why = "number" then _ else _) = _; rw [if_pos hw])
        top_name
        exact hq H1 e1 b1
      · rw [if_neg hw]
        intro H1 e1
        have hq := hN (X := .none) (by unfold nx; rw [hg]; show (if why = "number" then _ else _) = _; rw [if_neg hw])
        top_name
        exact hq H1 e1
    | num n p =>
      have hge := numGo_ge h3 hg
      have hnx : nx rest = nxT rest n p := by unfold nx; rw [hg]
      unfold nxT at hnx
      show if 30000 < n then _ else _
      by_cases hw : 30000 < n
      · rw [if_pos hw]
        rw [if_pos hw] at hnx
        intro H1 e1 b1
        have hq := hN hnx
        top_name
        exact hq H1 e1 (by rw [Int.add_zero]; exact b1)
      · rw [if_neg hw]
        rw [if_neg hw] at hnx
        intro H1 e1
        have h6a := e1 _ _ h6
        have hrl1 := e1 _ _ hrl
        top_name
        · rename_i hlt
          rw [hlm] at hlt
          rw [if_pos (by omega)] at hnx
          exact hN hnx _ e1
        · rename_i hlt
          rw [hlm] at hlt
          rw [if_neg (by omega)] at hnx
          have hk : (((p + n + 2).toNat : Nat) : Int) = p + n + 2 := by omega
          have hkl : (p + n + 2).toNat ≤ rest.length := by omega
          refine stry0 (cl := .ref (He.ga K "BadCheck")) tk ⟨rfl, by decide, .inl T.m_BadCheck⟩ rfl rfl fun pn xe po2 tk2 => ?_
          top_name
          refine zcall (ok_unframed T) (j := 5) hr (by decide) tk2 rfl ?_
          top_name
          rename_i r2 H2 hr2 e2 hx2
          rw [cut_to (by omega) (by omega)] at hx2
          have h6b := e2 _ _ h6a
          have hrl2 := e2 _ _ hrl1
          have e12 := e1.trans e2
          refine .inl ⟨r2, _, rfl, .inl hx2, bytes_take h3 _, by rw [List.length_take]; omega, ?_⟩
          rw [unf_take h3 hg (by omega)]
          have hfl : (rest.take (p + n + 2).toNat).length = (p + n + 2).toNat := by rw [List.length_take]; omega
          unfold nxF at hnx
          cases ht : tailR (rest.take (p + n + 2).toNat) n p with
          | wire z why => exact (tail_not_wire (by rw [hfl]; omega) ht).elim
          | chk =>
            rw [ht] at hnx
            have hq := hN hnx
            intro H3 e3
            refine ⟨true, T.t_BadCheck_BadCheck, fun _ a1' oe pn1 ha hz hf => ?_, fun z => by cases z⟩
            have h6c := e3 _ _ h6b
            top_name
            rename_i t4 H4 ht4 e4 hx4
            obtain ⟨w1, w2⟩ := hB.wrong (e12.trans e3) h6' h7 ht4 e4 hx4
            refine ⟨b, _, dx, _, rfl, e4 _ _ h6c, c1, a3, by show 3 < 1000; decide, ?_⟩
            top_name
            exact hq _ w1 (by rw [Int.add_zero]; exact w2)
          | ok ys =>
            rw [ht] at hnx
            have hq := hN hnx
            intro t H3 ht3 e3 hx3
            have e13 := e12.trans e3
            have h6c := e3 _ _ h6b
            have hrl3 := e3 _ _ hrl2
            have htn : H t = none := Evl.fresh_back e12 ht3
            have ntb : t ≠ b := fun z => by rw [z, h6] at htn; cases htn
            top_name
            rename_i r4 H4 hr4 e4 hx4
            rw [← hk, cut_off] at hx4
            have hx3d := e4 _ _ hx3
            have hrn : H r4 = none := Evl.fresh_back e13 hr4
            have nrb : r4 ≠ b := fun z => by rw [z, h6] at hrn; cases hrn
            have ntr : r4 ≠ t := fun z => by rw [z, hx3] at hr4; cases hr4
            refine ⟨b, _, dx, _, rfl, e4 _ _ h6c, c1, a1, by show 3 < 1000; decide, ?_⟩
            top_name
            refine sfldAdd ?_
            top_name
            refine ⟨dx, _, upd_same, by show 3 < 1000; decide, ?_⟩
            top_name
            have ee : Eb b H (upd (upd H4 b (insB K dx (.ref r4) (.int (ah : Int)) .non)) b (insB K dx (.ref r4) (.int ((ah : Int) + (p + n + 2))) .non)) := (Eb.of (e13.trans e4)).trans (Eb.upd.trans Eb.upd)
            have on2 := h1.eb ee (by rw [upd_same]; exact fun z => nomatch z)
            refine hq t _ htn ee (by rw [upd_ne ntb, upd_ne ntb]; exact hx3d) ⟨?_, List.mem_cons_of_mem _ h2, fun x hx => h3 x (List.mem_of_mem_drop hx), by rw [List.length_drop]; omega, by omega, dx, r4, .non, ?_, ?_, .no⟩
            · intro c hc z
              rcases List.mem_cons.mp hc with rfl | hc
              · rw [upd_ne ntb, upd_ne ntb, hx3d] at z; cases z
              · exact on2 c hc z
            · rw [upd_same, Int.natCast_add, hk]
              rfl
            · refine cut_one (cut_new h1 hrn ?_) ntr
              rw [upd_ne nrb, upd_ne nrb]
              exact hx4
end K06

set_option maxRecDepth 100000
set_option maxHeartbeats 4000000
set_option pp.maxSteps 400
namespace K06
open PySem PySem.Spec PyProof.Rows L2 Z
open Evl (Ex)
variable {P : Program} {w : World} {K : PySem.W.Frag} {mg : Str → Option Value} {base : Heap}
/-! ### steps of the walk: one_sign: a heap grew into another; one_item: what stands at an address; one_place: a list or tuple to be read; leaf_len: arithmetic; tb_rel: one step; top_name: steps as far as they go -/
local macro_rules | `(tactic| got_up) => `(tactic| (refine Evl.Ex.trans (by assumption) ?_; first | assumption | exact Evl.Ex.refl _ | got_up))
local macro_rules | `(tactic| units_room) => `(tactic| (refine Evl.Ex.trans ?_ (by assumption); first | assumption | exact Evl.Ex.refl _ | units_room))
local macro_rules | `(tactic| one_sign) => `(tactic| first | assumption | exact Evl.Ex.refl _ | got_up | units_room)
local macro_rules | `(tactic| one_item) => `(tactic| first | assumption | exact upd_same | exact exa (by assumption) (by one_sign))
local macro_rules | `(tactic| one_place) => `(tactic| first | assumption | exact SqL.of (by assumption) | exact SqT.of (by assumption) | exact exl (by assumption) (by one_sign) | exact ext (by assumption) (by one_sign) | exact SqL.of (by one_item) | exact SqT.of (by one_item))
local macro_rules | `(tactic| leaf_len) => `(tactic| first | assumption | decide | omega)
local macro_rules | `(tactic| tb_rel) => `(tactic| first
  | ((with_reducible refine (?_ : wE _ _ _ _ _)); first
    | ((with_reducible refine (?_ : wE _ (.Name _ _) _ _ _)); first | refine zn (by rfl) (by first | exact Or.inl rfl | exact Or.inr (Or.inl rfl) | exact Or.inr (Or.inr rfl)) (by rfl) ?_ | refine zglob (by assumption) (by rfl) ?_ | refine zcls (by assumption) (by rfl) ?_ | refine zty (by assumption) (by first | exact bt_int | exact bt_bool | exact bt_str | exact bt_list | exact bt_tuple | exact bt_dict | exact bt_ValueError) (by rfl) ?_)
    | ((with_reducible refine (?_ : wE _ (.Attribute _ _ _) _ _ _)); refine zfld ?_)
    | ((with_reducible refine (?_ : wE _ (.Constant _ _ _) _ _ _)); first | refine zint ?_ | refine zstr ?_ | refine zbl ?_ | refine znon ?_)
    | ((with_reducible refine (?_ : wE _ (.BinOp _ _ _ _) _ _ _)); refine zbin ?_)
    | ((with_reducible refine (?_ : wE _ (.Compare _ _ _ _) _ _ _)); first | refine zcmp (by rfl) ?_ | refine zchain ?_)
    | ((with_reducible refine (?_ : wE _ (.Dict [] [] _) _ _ _)); refine zdnew (fun _ _ _ _ _ => ?_))
    | ((with_reducible refine (?_ : wE _ (.Subscript _ (.Slice _ _ _ _) _) _ _ _)); refine zsl ?_)
    | ((with_reducible refine (?_ : wE _ (.Subscript _ _ _) _ _ _)); refine zix ?_)
    | ((with_reducible refine (?_ : wE _ (.Call (.Name "list" _) [.Call (.Name "range" _) [_] [] _] [] _) _ _ _)); refine zlrg1 rfl (by rfl) (by assumption) (by rfl) (by assumption) ?_)
    | ((with_reducible refine (?_ : wE _ (.Call (.Name _ _) _ _ _) _ _ _)); first
      | ((with_reducible refine (?_ : wE _ (.Call (.Name "len" _) _ _ _) _ _ _)); refine zbfn (by assumption) bt_len (by rfl) ?_)
      | ((with_reducible refine (?_ : wE _ (.Call (.Name "isinstance" _) _ _ _) _ _ _)); refine zbfn (by assumption) bt_isi (by rfl) ?_)
      | ((with_reducible refine (?_ : wE _ (.Call (.Name "min" _) _ _ _) _ _ _)); refine zbfn (by assumption) bt_min (by rfl) ?_)
      | ((with_reducible refine (?_ : wE _ (.Call (.Name "max" _) _ _ _) _ _ _)); refine zbfn (by assumption) bt_max (by rfl) ?_)
      | ((with_reducible refine (?_ : wE _ (.Call (.Name "list" _) _ _ _) _ _ _)); refine zbty (by assumption) bt_list (by rfl) ?_)
      | ((with_reducible refine (?_ : wE _ (.Call (.Name "tuple" _) _ _ _) _ _ _)); refine zbty (by assumption) bt_tuple (by rfl) ?_)
      | ((with_reducible refine (?_ : wE _ (.Call (.Name "int" _) _ _ _) _ _ _)); refine zbty (by assumption) bt_int (by rfl) ?_)
      | ((with_reducible refine (?_ : wE _ (.Call (.Name "abs" _) _ _ _) _ _ _)); refine zbfn (by assumption) bt_abs (by rfl) ?_)
      | ((with_reducible refine (?_ : wE _ (.Call (.Name "all" _) _ _ _) _ _ _)); refine zbfn (by assumption) bt_all (by rfl) ?_)
      | ((with_reducible refine (?_ : wE _ (.Call (.Name "sum" _) _ _ _) _ _ _)); refine zbfn (by assumption) bt_sum (by rfl) ?_)
      | ((with_reducible refine (?_ : wE _ (.Call (.Name "divmod" _) _ _ _) _ _ _)); refine zbfn (by assumption) bt_divmod (by rfl) ?_)
      | ((with_reducible refine (?_ : wE _ (.Call (.Name "ord" _) _ _ _) _ _ _)); refine zbfn (by assumption) bt_ord (by rfl) ?_))
    | ((with_reducible refine (?_ : wE _ (.IfExp _ _ _ _) _ _ _)); refine zif ?_)
    | ((with_reducible refine (?_ : wE _ (.Tuple _ _ _) _ _ _)); refine ztup ?_)
    | ((with_reducible refine (?_ : wE _ (.List _ _) _ _ _)); refine zlst ?_)
    | ((with_reducible refine (?_ : wE _ (.UnaryOp _ _ _) _ _ _)); first | refine znotV ?_ | refine zneg ?_)
    | ((with_reducible refine (?_ : wE _ (.BoolOp _ _ _) _ _ _)); first | refine zandV ?_ | refine zorV ?_ | refine zoneV ?_))
  | ((with_reducible refine (?_ : bE _ _ _ _ _ _)); refine ⟨fun _ _ _ _ _ => ?_⟩) | ((with_reducible refine (?_ : bG _ _ _ _ _ _ _)); refine ⟨fun _ _ _ _ _ => ?_⟩) | ((with_reducible refine (?_ : bTs _ _ _ _ _ _)); refine ⟨fun _ _ _ _ _ => ?_⟩)
  | ((with_reducible refine (?_ : hE _ _ _ _ _ _)); refine ⟨fun _ _ _ _ _ => ?_⟩) | ((with_reducible refine (?_ : hG _ _ _ _ _ _ _)); refine ⟨fun _ _ _ _ _ => ?_⟩) | ((with_reducible refine (?_ : hTs _ _ _ _ _ _)); refine ⟨fun _ _ _ _ _ => ?_⟩)
  | ((with_reducible refine (?_ : wP _ _ _ _ _)); first | refine pnon ?_ | refine psom ?_) | ((with_reducible refine (?_ : wSl _ _ _ _ _ _)); first | refine slL (by one_place) (fun _ _ _ _ _ => ?_) | refine slS (by assumption) ?_)
  | ((with_reducible refine (?_ : wTs _ _ _ _ _)); first | refine tsnil ?_ | refine tsone ?_)
  | ((with_reducible refine (?_ : wA _ _ _ _ _)); first | refine acons ?_ | refine anil ?_)
  | ((with_reducible refine (?_ : wO _ _ _ _ _ _)); first
    | ((with_reducible refine (?_ : wO _ (binaryOp .Add) _ _ _ _)); first | refine oadd ?_ | refine ocatE (by one_item) (by one_item) (Nat.le_of_ble_eq_true rfl) (fun _ _ _ _ _ => ?_))
    | ((with_reducible refine (?_ : wO _ (binaryOp .Sub) _ _ _ _)); first | refine osub ?_)
    | ((with_reducible refine (?_ : wO _ (binaryOp .Mult) _ _ _ _)); first | refine omul (by first | exact IntMulOk.of_right (by decide) | exact IntMulOk.of_left (by decide) | exact IntMulOk.of_right (intBits_le_64 (by omega) (by omega)) | exact IntMulOk.of_left (intBits_le_64 (by omega) (by omega))) ?_)
    | ((with_reducible refine (?_ : wO _ (binaryOp .Mod) _ _ _ _)); first | refine omod (by first | decide | omega) ?_)
    | ((with_reducible refine (?_ : wO _ (binaryOp .FloorDiv) _ _ _ _)); first | refine ofdiv ⟨by first | decide | omega, by decide⟩ ?_)
    | ((with_reducible refine (?_ : wO _ (binaryOp .BitAnd) _ _ _ _)); first | refine oand ?_)
    | ((with_reducible refine (?_ : wO _ (binaryOp .BitOr) _ _ _ _)); first | refine oor ?_)
    | ((with_reducible refine (?_ : wO _ (compareOp .Lt) _ _ _ _)); first | refine olt ?_)
    | ((with_reducible refine (?_ : wO _ (compareOp .LtE) _ _ _ _)); first | refine ole ?_)
    | ((with_reducible refine (?_ : wO _ (compareOp .Gt) _ _ _ _)); first | refine ogt ?_)
    | ((with_reducible refine (?_ : wO _ (compareOp .GtE) _ _ _ _)); first | refine oge ?_)
    | ((with_reducible refine (?_ : wO _ (compareOp .Eq) _ _ _ _)); first | refine oeqi ?_ | refine oeqsT (by decide +kernel) ?_ | refine oeqsF (by decide +kernel) ?_ | refine oeq (by rfl) ?_)
    | ((with_reducible refine (?_ : wO _ (compareOp .NotEq) _ _ _ _)); first | refine onei ?_ | refine onesT (by decide +kernel) ?_ | refine onesF (by decide +kernel) ?_ | refine one (by rfl) ?_)
    | ((with_reducible refine (?_ : wO _ (compareOp .In) _ _ _ _)); first | refine oin ?_)
    | ((with_reducible refine (?_ : wO _ (compareOp .NotIn) _ _ _ _)); first | refine onin ?_)
    | ((with_reducible refine (?_ : wO _ (compareOp .Is) _ _ _ _)); first | refine ois ?_)
    | ((with_reducible refine (?_ : wO _ (compareOp .IsNot) _ _ _ _)); first | refine onot ?_)
    | ((with_reducible refine (?_ : wO _ (binaryOp .RShift) _ _ _ _)); refine oshr (by first | decide | omega) ?_)
    | ((with_reducible refine (?_ : wO _ (binaryOp .BitXor) _ _ _ _)); refine oxor ?_)
    | ((with_reducible refine (?_ : wO _ (inplaceOp .BitXor) _ _ _ _)); refine ixor ?_)
    | ((with_reducible refine (?_ : wO _ (inplaceOp .RShift) _ _ _ _)); refine ishr (by first | decide | omega) ?_)
    | ((with_reducible refine (?_ : wO _ (inplaceOp .BitOr) _ _ _ _)); first | refine ior ?_)
    | ((with_reducible refine (?_ : wO _ (inplaceOp .Add) _ _ _ _)); first | refine iadd ?_))
  | ((with_reducible refine (?_ : wT _ _ _ _ _)); first
    | ((with_reducible refine (?_ : wT _ (.Compare _ _ _ _) _ _ _)); first | refine zcmpT (by rfl) ?_ | refine zchainT ?_)
    | ((with_reducible refine (?_ : wT _ (.UnaryOp _ _ _) _ _ _)); refine znotT ?_)
    | ((with_reducible refine (?_ : wT _ (.BoolOp _ _ _) _ _ _)); refine zW ?_)
    | refine zval ?_)
  | ((with_reducible refine (?_ : wW _ _ _ _ _)); first | refine zand ?_ | refine zor ?_ | refine zand1 ?_ | refine zor1 ?_)
  | ((with_reducible refine (?_ : wK _ _ _ _ _)); first
    | ((with_reducible refine (?_ : wK _ (.builtin "len") _ _ _)); first | refine klenL (by one_place) ?_ | refine klenT (by one_place) ?_ | refine klenS (by assumption) ?_)
    | ((with_reducible refine (?_ : wK _ (.builtin "isinstance") _ _ _)); first | refine kisE (by assumption) (by assumption) (by first | assumption | exact Xd.exx (by assumption) (by one_sign)) (by first | exact .own _ | exact .ty _) (by assumption) ?_ | refine kisi (.ty _) (by assumption) (by assumption) ?_ | refine kisi (.ty _) (.base (by first | exact .int _ | exact .bl _ | exact .str _ | exact .non | exact .tup (by one_item) | exact .lst (by one_item))) (kit_ty (r := true) (by rfl)) ?_ | refine kisi (.ty _) (.base (by first | exact .int _ | exact .bl _ | exact .str _ | exact .non | exact .tup (by one_item) | exact .lst (by one_item))) (kit_ty (r := false) (by rfl)) ?_)
    | ((with_reducible refine (?_ : wK _ (.builtin "divmod") _ _ _)); refine kdivmod ⟨by first | decide | omega, by decide⟩ (fun _ _ _ _ _ => ?_))
    | ((with_reducible refine (?_ : wK _ (.builtin "min") _ _ _)); refine kmin (by rfl) ?_)
    | ((with_reducible refine (?_ : wK _ (.builtin "max") _ _ _)); refine kmax (by rfl) ?_)
    | ((with_reducible refine (?_ : wK _ (.type "list") _ _ _)); first | refine klistL (by one_place) (fun _ _ _ _ _ => ?_) | refine klistT (by one_place) (fun _ _ _ _ _ => ?_))
    | ((with_reducible refine (?_ : wK _ (.type "tuple") _ _ _)); first | refine ktupL (by one_place) (fun _ _ _ _ _ => ?_)))
  | ((with_reducible refine (?_ : wS _ _ _ _ _)); first
    | ((with_reducible refine (?_ : wS _ (.Assign [.Name _ _] _ _) _ _ _)); refine sset' (by assumption) (by rfl) (by first | exact Or.inl rfl | exact Or.inr rfl) (by rfl) (by first | exact .inl rfl | exact .inr rfl) ?_)
    | ((with_reducible refine (?_ : wS _ (.AugAssign (.Name _ _) _ _ _) _ _ _)); refine saug' (by assumption) (by rfl) (by first | exact Or.inl rfl | exact Or.inr rfl) (by first | exact .inl rfl | exact .inr rfl) (by rfl) ?_)
    | ((with_reducible refine (?_ : wS _ (.Assign [.Attribute _ _ _] _ _) _ _ _)); refine sfld ?_)
    | ((with_reducible refine (?_ : wS _ (.Expr _ _) _ _ _)); refine sexp ?_)
    | ((with_reducible refine (?_ : wS _ (.Assign [.Tuple _ _ _] _ _) _ _ _)); refine sasg ?_) | ((with_reducible refine (?_ : wS _ (.Assign [.Subscript _ _ _] _ _) _ _ _)); refine sasg ?_)
    | refine sret ?_ | refine sif ?_ | refine sretN ?_ | refine spass ?_ | refine sbrk ?_ | refine scont ?_)
  | ((with_reducible refine (?_ : wG _ (.Name _ _) _ _ _ _)); refine gname' (by assumption) (by rfl) (by first | exact Or.inl rfl | exact Or.inr rfl) (by first | exact .inl rfl | exact .inr rfl) ?_)
  | ((with_reducible refine (?_ : wG _ (.Tuple _ _ _) _ _ _ _)); refine gtup rfl (by one_place) rfl ?_) | ((with_reducible refine (?_ : wG _ (.Subscript _ _ _) _ _ _ _)); refine gsub ?_)
  | ((with_reducible refine (?_ : wGs _ _ _ _ _ _)); first | refine gscons ?_ | refine gsnil ?_)
  | ((with_reducible refine (?_ : wB _ _ _ _ _)); first | refine bcons ?_ | refine bnil ?_)
  | refine ifT ?_ | refine ifF ?_ | refine ifd (fun _ => ?_) (fun _ => ?_) | refine ifnd (fun _ => ?_) (fun _ => ?_) | refine ⟨_, rfl, ?_⟩ | refine ⟨rfl, Evl.Ex.refl _, ?_⟩ | refine ⟨_, _, _, _, _, rfl, by one_item, by assumption, by assumption, by rfl, ?_⟩ | refine ⟨Nat.le_of_ble_eq_true rfl, fun _ _ _ _ _ => ?_⟩ | fail)
local macro_rules | `(tactic| top_name) => `(tactic| repeat' tb_rel)
local macro_rules | `(tactic| nest_fact) => `(tactic| first | exact ⟨(decide_eq_true (by omega)).symm, rfl⟩ | exact ⟨(decide_eq_false (by omega)).symm, rfl⟩ | exact ⟨decide_eq_decide.mpr (by omega), rfl⟩ | fail)
/-! ### a piece more -/
inductive Dr : List Int → Nat → List (List Int) → List Int → Nat → Prop
  | stop {xs : List Int} {A : Nat} (h : ∀ ys n, nx xs ≠ .row ys n) : Dr xs A [] xs A
  | step {xs ys xs' : List Int} {A A' n : Nat} {rs : List (List Int)} (h : nx xs = .row ys n) (r : Dr (xs.drop n) (A + n) rs xs' A') : Dr xs A (ys :: rs) xs' A'
theorem Dr.ex : ∀ (k : Nat) {xs : List Int} {A : Nat}, Bytes xs → xs.length ≤ k → ∃ rs xs' A', Dr xs A rs xs' A'
  | k, xs, A, hb, hk => by
    cases h : nx xs with
    | none => exact ⟨[], xs, A, .stop fun _ _ z => by rw [h] at z; cases z⟩
    | bad p why b => exact ⟨[], xs, A, .stop fun _ _ z => by rw [h] at z; cases z⟩
    | row ys n =>
      have hr := nx_row hb h
      match k with
      | 0 => omega
      | k + 1 =>
        obtain ⟨rs, xs', A', d⟩ := Dr.ex k (xs := xs.drop n) (A := A + n) (fun x hx => hb x (List.mem_of_mem_drop hx)) (by rw [List.length_drop]; omega)
        exact ⟨ys :: rs, xs', A', .step h d⟩
theorem Dr.len {xs xs' : List Int} {A A' : Nat} {rs : List (List Int)} (d : Dr xs A rs xs' A') : Bytes xs → rs.length ≤ xs.length := by
  induction d with
  | stop h => exact fun _ => Nat.zero_le _
  | step h r ih =>
    intro hb
    have hr := nx_row hb h
    have := ih (fun x hx => hb x (List.mem_of_mem_drop hx))
    rw [List.length_drop] at this
    rw [List.length_cons]
    omega
def wrOf (A : Nat) : NX → Option (Int × Str)
  | .bad p why _ => some ((A : Int) + p, why)
  | _ => none
inductive RowsR (H : Hp) : List Addr → List (List Int) → Prop
  | nil : RowsR H [] []
  | cons {t : Addr} {ys : List Int} {ts : List Addr} {rs : List (List Int)} (h : H t = some (.lst (ys.map V.int))) (r : RowsR H ts rs) : RowsR H (t :: ts) (ys :: rs)
theorem RowsR.to {H H' : Hp} : ∀ {ts : List Addr} {rs : List (List Int)}, (∀ t ∈ ts, ∀ o, H t = some o → H' t = some o) → RowsR H ts rs → RowsR H' ts rs
  | _, _, _, .nil => .nil
  | _, _, e, .cons h r => .cons (e _ List.mem_cons_self _ h) (r.to fun t ht => e t (List.mem_cons_of_mem _ ht))
theorem RowsR.one {H : Hp} {t : Addr} {ys : List Int} (h : H t = some (.lst (ys.map V.int))) : ∀ {ts : List Addr} {rs : List (List Int)}, RowsR H ts rs → RowsR H (ts ++ [t]) (rs ++ [ys])
  | _, _, .nil => .cons h .nil
  | _, _, .cons g r => .cons g (r.one h)
theorem RowsR.length {H : Hp} : ∀ {ts : List Addr} {rs : List (List Int)}, RowsR H ts rs → ts.length = rs.length
  | _, _, .nil => rfl
  | _, _, .cons _ r => congrArg (· + 1) r.length
theorem cut_upd {S : List Addr} {H : Hp} {f : Addr} {o : HO} (hf : f ∈ S) : cutS S (upd H f o) = cutS S H := by
  funext x
  unfold cutS
  split
  · rfl
  · rename_i n
    rw [upd_ne (fun z => n (by rw [z]; exact hf))]
/-- a box stays where another place is written -/
theorem BoxS.upd {S : List Addr} {H : Hp} {b f : Addr} {o : HO} {rest : List Int} {A : Nat} {wr : Option (Int × Str)} (h : BoxS K S H b rest A wr) (hf : f ∈ S) (n : b ≠ f) : BoxS K S (upd H f o) b rest A wr := by
  obtain ⟨h1, h2, h3, h4, h5, dx, r, wv, h6, h7, h8⟩ := h
  refine ⟨fun c hc z => ?_, h2, h3, h4, h5, dx, r, wv, by rw [upd_ne n]; exact h6, by rw [cut_upd hf]; exact h7, by rw [cut_upd hf]; exact h8⟩
  by_cases m : c = f
  · rw [m, upd_same] at z; cases z
  · rw [upd_ne m] at z; exact h1 c hc z
theorem BoxS.less {S : List Addr} {H : Hp} {b t : Addr} {rest : List Int} {A : Nat} {wr : Option (Int × Str)} (h : BoxS K (t :: S) H b rest A wr) (n : b ≠ t) : BoxS K S H b rest A wr := by
  obtain ⟨h1, h2, h3, h4, h5, dx, r, wv, h6, h7, h8⟩ := h
  exact ⟨fun c hc => h1 c (List.mem_cons_of_mem _ hc), (List.mem_cons.mp h2).elim (fun z => (n z).elim) id, h3, h4, h5, dx, r, wv, h6, cut_less _ _ h7, h8.ex cut_less⟩
theorem BoxS.more {S : List Addr} {H H' : Hp} {b f : Addr} {rest : List Int} {A : Nat} {wr : Option (Int × Str)} (h : BoxS K S H b rest A wr) (hf : H f = none) (e : Ex H H') (hx : H' f ≠ none) : BoxS K (f :: S) H' b rest A wr := by
  obtain ⟨h1, h2, h3, h4, h5, dx, r, wv, h6, h7, h8⟩ := h
  have go : Ex (cutS S H) (cutS (f :: S) H') := fun x o q => by
    unfold cutS at q ⊢
    split at q
    · cases q
    · rename_i m
      rw [if_neg (fun z => (List.mem_cons.mp z).elim (fun z => by rw [z, hf] at q; cases q) m)]
      exact e _ _ q
  exact ⟨fun c hc => (List.mem_cons.mp hc).elim (fun z => by rw [z]; exact hx) fun hc => h1.ex e c hc, List.mem_cons_of_mem _ h2, h3, h4, h5, dx, r, wv, e _ _ h6, go _ _ h7, h8.ex go⟩
def Rf (K : PySem.W.Frag) (E : XK) (H : Hp) (p : Int) (why : Str) : Prop := if why = "check" then ∀ H', Ex H H' → E (.ref (He.ga K "BadCheck")) none H' else outWire K H E p why
structure Told (K : PySem.W.Frag) (S : List Addr) (b : Addr) (H H' : Hp) (f : Addr) (ts : List Addr) (rs : List (List Int)) (xs' : List Int) (A' : Nat) (wr : Option (Int × Str)) : Prop where
  eb : Eb b H H'
  nf : H f = none
  nt : ∀ t ∈ ts, H t = none
  nd : (f :: ts).Nodup
  hf : H' f = some (.lst (ts.map V.ref))
  rows : RowsR H' ts rs
  box : BoxS K (ts.reverse ++ f :: S) H' b xs' A' wr
def spTake (K : PySem.W.Frag) : Sp := fun vs H Q E => ∃ (b : Addr) (u : V), vs = [.ref b, u] ∧ ((RowAsk K H u false ∧ ∀ H', Ex H H' → E (.ref (He.ga K "BadRow")) none H') ∨
  ∃ (S : List Addr) (l : Addr) (xs rest : List Int) (A : Nat) (wr : Option (Int × Str)), u = .ref l ∧ RowAt K H l xs ∧ Bytes xs ∧ BoxS K S H b rest A wr ∧ A + rest.length + xs.length ≤ 20000 ∧ match wr with
    | some (p, why) => Rf K E H p why
    | none => ∃ rs xs' A', Dr (rest ++ xs) A rs xs' A' ∧ (∀ f ts H', Told K S b H H' f ts rs xs' A' (wrOf A' (nx xs')) → rs ≠ [] ∨ wrOf A' (nx xs') = none → Q (.ref f) H') ∧
      (rs = [] → ∀ p why, wrOf A' (nx xs') = some (p, why) → ∀ H1, Eb b H H1 → BoxS K S H1 b xs' A' (some (p, why)) → Rf K E H1 p why))
/-- what stands between the turns of take's loop -/
inductive Mid (K : PySem.W.Frag) (S : List Addr) (b : Addr) (rs : List (List Int)) (xs' : List Int) (A' : Nat) (H : Hp) (f : Addr) (ts : List Addr) : V → Prop
  | last (h : RowsR H ts rs) (B : BoxS K (ts.reverse ++ f :: S) H b xs' A' (wrOf A' (nx xs'))) : Mid K S b rs xs' A' H f ts .non
  | more {t : Addr} {done rs2 : List (List Int)} {ys xs2 : List Int} {A2 : Nat} (h : RowsR H ts done) (ht : H t = some (.lst (ys.map V.int))) (n : t ∉ f :: ts) (B : BoxS K ((ts ++ [t]).reverse ++ f :: S) H b xs2 A2 none) (d : Dr xs2 A2 rs2 xs' A') (e : rs = done ++ ys :: rs2) (hz : A2 + xs2.length ≤ 20000) : Mid K S b rs xs' A' H f ts (.ref t)
structure Lp (K : PySem.W.Frag) (S : List Addr) (b : Addr) (H : Hp) (rs : List (List Int)) (xs' : List Int) (A' : Nat) (H1 : Hp) (f : Addr) (ts : List Addr) (m : V) : Prop where
  eb : Eb b H H1
  nf : H f = none
  nt : ∀ t ∈ ts, H t = none
  ntm : ∀ t, m = .ref t → H t = none
  nd : (f :: ts).Nodup
  hf : H1 f = some (.lst (ts.map V.ref))
  mid : Mid K S b rs xs' A' H1 f ts m
theorem rev_mem {ts : List Addr} {f : Addr} {S : List Addr} : f ∈ ts.reverse ++ f :: S := List.mem_append.mpr (.inr List.mem_cons_self)
/-- one more row is asked for -/
theorem ask_next {b : Addr} {S : List Addr} {H H1 : Hp} {rs done rs2 : List (List Int)} {xs' xs2 : List Int} {A' A2 : Nat} {f : Addr} {ts : List Addr} {Q : VK}
    (eb : Eb b H H1) (hb : H b ≠ none) (nf : H f = none) (nt : ∀ t ∈ ts, H t = none) (nd : (f :: ts).Nodup) (hf : H1 f = some (.lst (ts.map V.ref))) (hr : RowsR H1 ts done) (B : BoxS K (ts.reverse ++ f :: S) H1 b xs2 A2 none) (d : Dr xs2 A2 rs2 xs' A') (e : rs = done ++ rs2) (hz : A2 + xs2.length ≤ 20000)
    (q : ∀ m H', Lp K S b H rs xs' A' H' f ts m → Q m H') : ∀ E, spNext K [.ref b] H1 Q E := by
  intro E
  have nfb : f ≠ b := fun z => hb (by rw [← z]; exact nf)
  have ntb : ∀ t ∈ ts, t ≠ b := fun t ht z => hb (by rw [← z]; exact nt t ht)
  refine ⟨_, b, xs2, A2, rfl, B, hz, ?_⟩
  cases d with
  | stop h =>
    have e' : rs = done := by rw [e, List.append_nil]
    subst e'
    cases hn : nx xs' with
    | none =>
      intro H2 e2
      refine q _ _ ⟨eb.trans (Eb.of e2), nf, nt, (fun t z => by cases z), nd, e2 _ _ hf, .last (hr.to fun t _ o g => e2 _ _ g) ?_⟩
      rw [hn]
      exact B.ex e2
    | bad p why bb =>
      intro H2 e2 b2
      refine q _ _ ⟨eb.trans e2, nf, nt, (fun t z => by cases z), nd, e2 _ _ nfb hf, .last (hr.to fun t ht o g => e2 _ _ (ntb t ht) g) ?_⟩
      rw [hn]
      exact b2
    | row ys n => exact (h _ _ hn).elim
  | @step _ ys _ _ _ n rs3 hn d =>
    have hrow := nx_row B.by_ hn
    rw [hn]
    intro t H2 ht e2 hx2 b2
    have htH : H t = none := by
      cases z : H t with
      | none => rfl
      | some o => rw [eb _ _ (fun y => by rw [y] at ht; obtain ⟨dx, r, wv, h6, _⟩ := B.box; rw [h6] at ht; cases ht) z] at ht; cases ht
    have hnt : t ∉ f :: ts := fun z => by
      rcases List.mem_cons.mp z with z | z
      · rw [z, hf] at ht; cases ht
      · have : ∀ {ts : List Addr} {rs : List (List Int)}, RowsR H1 ts rs → t ∈ ts → H1 t ≠ none := by
          intro ts rs h hm
          induction h with
          | nil => cases hm
          | cons g r ih =>
            rcases List.mem_cons.mp hm with rfl | hm
            · rw [g]; exact fun z => nomatch z
            · exact ih hm
        exact this hr z ht
    refine q _ _ ⟨eb.trans e2, nf, nt, (fun t' z => by cases z; exact htH), nd, e2 _ _ nfb hf, .more (hr.to fun t ht o g => e2 _ _ (ntb t ht) g) hx2 hnt ?_ d e (by rw [List.length_drop]; omega)⟩
    rw [List.reverse_append]
    exact b2
theorem mf_take (T : Txt K mg) : Mf P w K mg base 7 (He.ga K "Frames") "take" [] (spTake K) := by
  refine mf_mk T.f_Frames_take T.c_Frames.cl T.h_Frames_take (fun _ _ _ _ _ _ us hl => match us, hl with | [_, _], _ => rfl) fun fd F => fn_mk F sc_Frames_take (fun vs H Q E h => ?_) fun cd A outer s H vs Q E hr tk po h => ?_
  · obtain ⟨b, u, rfl, _⟩ := h; rfl
  · obtain ⟨b, u, rfl, h⟩ := h
    have nd := sc_Frames_take.nd
    have c1 := T.c_Frames.cl
    have a1 := T.a_Frames_rest
    have n1 := T.n_list
    rcases h with ⟨hbad, q⟩ | ⟨S, l, xs, rest, ah, wr, rfl, hrow, hbx, hB, hz, q⟩
    · top_name
      refine zcall (ok_need_row T) hr (by decide) tk rfl ?_
      top_name
      exact ⟨u, false, rfl, hbad, q⟩
    have hbl : xs.length ≤ sizeLine := by rw [sizeLine_eq]; omega
    top_name
    refine zcall (ok_need_row T) hr (by decide) tk rfl ?_
    top_name
    refine ⟨_, true, rfl, hrow.ask hbx hbl, fun H1 e1 => ?_⟩
    obtain ⟨g1, g2, g3, g4, g5, dx, r, wv, g6, g7, g8⟩ := id hB
    have g6' := g6
    unfold insB at g6
    have g61 := e1 _ _ g6
    top_name
    refine zmeth0 hr tk ?_
    top_name
    refine ⟨b, _, dx, _, 3, [], _, rfl, g61, rfl, mf_refuse T, by decide, S, b, rest, ah, wr, rfl, hB.ex e1, ?_⟩
    cases wr with
    | some pw =>
      obtain ⟨p, why⟩ := pw
      have q : Rf K E H p why := q
      unfold Rf at q
      show if why = "check" then _ else _
      by_cases hw : why = "check"
      · rw [if_pos hw] at q ⊢
        exact fun H2 e2 => q _ (e1.trans e2)
      · rw [if_neg hw] at q ⊢
        exact outWire_ex q e1
    | none =>
      obtain ⟨rs, xs', A', hD, q1, q2⟩ := q
      cases g8
      intro H2 e2
      have e12 := e1.trans e2
      have g62 := e12 _ _ g6
      have hr2 := e12 _ _ (cut_sub _ _ g7)
      top_name
      refine klistR (hrow.ex e12) fun y H3 hy e3 hxy => ?_
      refine ocatE (e3 _ _ hr2) hxy (by rw [List.length_map, List.length_map, sizeLine_eq]; omega) fun r4 H4 hr4 e4 hx4 => ?_
      have e14 := e12.trans (e3.trans e4)
      have g64 := e14 _ _ g6
      rw [← List.map_append] at hx4
      top_name
      refine ⟨b, _, dx, _, rfl, g64, c1, a1, by show 3 < 1000; decide, ?_⟩
      have nrb : r4 ≠ b := fun z => by rw [z, e3 _ _ g62] at hr4; cases hr4
      have hr0 : H r4 = none := Evl.fresh_back (e12.trans e3) hr4
      have eb5 : Eb b H (upd H4 b (insB K dx (.ref r4) (.int (ah : Int)) .non)) := (Eb.of e14).trans Eb.upd
      have B5 : BoxS K S (upd H4 b (insB K dx (.ref r4) (.int (ah : Int)) .non)) b (rest ++ xs) ah none := ⟨g1.eb eb5 (by rw [upd_same]; exact fun z => nomatch z), g2, bytes_app g3 hbx, by rw [List.length_append]; omega, g5, dx, r4, .non, upd_same, cut_new g1 hr0 (by rw [upd_ne nrb]; exact hx4), .no⟩
      show wB _ _ _ _ (upd H4 b (insB K dx (.ref r4) (.int (ah : Int)) .non))
      generalize upd H4 b (insB K dx (.ref r4) (.int (ah : Int)) .non) = H5 at eb5 B5 ⊢
      have hb5 : H5 b ≠ none := by obtain ⟨dx, r, wv, h6, _⟩ := B5.box; rw [h6]; exact fun z => nomatch z
      have hbH : H b ≠ none := by rw [g6]; exact fun z => nomatch z
      top_name
      rename_i f H6 hf6 e6 hx6
      have hfH : H f = none := by
        cases z : H f with
        | none => rfl
        | some o => rw [eb5 _ _ (fun y => hb5 (by rw [← y]; exact hf6)) z] at hf6; cases hf6
      have nbf : b ≠ f := fun z => hbH (by rw [z]; exact hfH)
      have B6 : BoxS K (f :: S) H6 b (rest ++ xs) ah none := B5.more hf6 e6 (by rw [hx6]; exact fun z => nomatch z)
      obtain ⟨dx6, r6, wv6, h66, _⟩ := B6.box
      refine zmeth0 hr tk ?_
      top_name
      refine ⟨b, _, dx6, _, 6, [], _, rfl, h66, rfl, mf_next T, by decide, ?_⟩
      refine ask_next (ts := []) (done := []) (eb5.trans (Eb.of e6)) hbH hfH (fun _ h => nomatch h) (List.nodup_cons.mpr ⟨(fun h => nomatch h), List.nodup_nil⟩) hx6 .nil B6 hD rfl (by rw [List.length_append]; omega) (fun m H7 L => ?_) _
      have hlen := hD.len (bytes_app g3 hbx)
      rw [List.length_append] at hlen
      top_name
      refine lwhile po (fun σ H' => ∃ ts m, Lp K S b H rs xs' A' H' f ts m ∧ σ = [some (.ref b), some (.ref l), some (.ref f), some m]) (fun σ H' => match H' f with | some (.lst zs) => rs.length + 1 - zs.length | _ => 0) ⟨[], m, L, rfl⟩ ?_
      rintro σ H8 ⟨ts, m, ⟨eb, nf, nt, ntm, ndf, hf, mid⟩, rfl⟩
      cases mid with
      | last hR B =>
        top_name
        rename_i em H9 hem e9 hx9
        refine oeqNil hr (SqL.of (e9 _ _ hf)) (SqL.of hx9) ?_
        have B9 := B.ex e9
        have eb9 : Eb b H H9 := eb.trans (Eb.of e9)
        have hR9 : RowsR H9 ts rs := hR.to fun t _ o g => e9 _ _ g
        cases ts with
        | nil =>
          cases hR
          have Bs : BoxS K S H9 b xs' A' (wrOf A' (nx xs')) := B9.less nbf
          obtain ⟨dx9, r9, wv9, h69, _⟩ := Bs.box
          top_name
          refine zmeth0 hr tk ?_
          top_name
          refine ⟨b, _, dx9, _, 3, [], _, rfl, h69, rfl, mf_refuse T, by decide, S, b, xs', A', _, rfl, Bs, ?_⟩
          cases hw : wrOf A' (nx xs') with
          | none =>
            intro H10 e10
            top_name
            rw [hw] at q1 B9
            exact q1 f [] H10 ⟨eb9.trans (Eb.of e10), nf, nt, ndf, e10 _ _ (e9 _ _ hf), .nil, B9.ex e10⟩ (.inr rfl)
          | some pw =>
            obtain ⟨p, why⟩ := pw
            rw [hw] at Bs
            exact q2 rfl p why hw H9 eb9 Bs
        | cons t ts =>
          top_name
          exact q1 f (t :: ts) H9 ⟨eb9, nf, nt, ndf, e9 _ _ hf, hR9, B9⟩ (.inl (by cases hR; exact fun z => nomatch z))
      | @more t done rs2 ys xs2 A2 hR ht hn B d e hz2 =>
        have hdl := hR.length
        have hrl : rs.length = done.length + (rs2.length + 1) := by rw [e, List.length_append, List.length_cons]
        have htf : t ≠ f := fun z => hn (by rw [z]; exact List.mem_cons_self)
        have htsf : ∀ t' ∈ ts, t' ≠ f := fun t' h z => (List.nodup_cons.mp ndf).1 (by rw [← z]; exact h)
        top_name
        refine zapp ?_
        top_name
        refine ⟨f, _, rfl, hf, ?_⟩
        top_name
        refine ⟨_, hf, by rw [List.length_map, sizeLine_eq]; omega, ?_⟩
        have eb9 : Eb b H (upd H8 f (.lst (ts.map V.ref ++ [V.ref t]))) := fun x o n g => by
          rw [upd_ne (fun z => by rw [z, nf] at g; cases g)]
          exact eb x o n g
        have B9 : BoxS K ((ts ++ [t]).reverse ++ f :: S) (upd H8 f (.lst (ts.map V.ref ++ [V.ref t]))) b xs2 A2 none := B.upd rev_mem nbf
        obtain ⟨dx9, r9, wv9, h69, _⟩ := B9.box
        top_name
        refine zmeth0 hr tk ?_
        top_name
        refine ⟨b, _, dx9, _, 6, [], _, rfl, h69, rfl, mf_next T, by decide, ?_⟩
        refine ask_next (rs := rs) (ts := ts ++ [t]) (done := done ++ [ys]) eb9 hbH nf ?_ ?_ (by rw [upd_same, List.map_append]; rfl) ?_ B9 d (e.trans (by rw [List.append_assoc]; rfl)) hz2 (fun m' H10 L' => ?_) _
        · intro t' h
          rcases List.mem_append.mp h with h | h
          · exact nt t' h
          · rw [List.mem_singleton.mp h]; exact ntm t rfl
        · rw [← List.cons_append]
          refine List.nodup_append.mpr ⟨ndf, List.nodup_cons.mpr ⟨(fun h => nomatch h), List.nodup_nil⟩, fun x hx y hy z => ?_⟩
          rw [List.mem_singleton.mp hy] at z
          exact hn (by rw [← z]; exact hx)
        · exact RowsR.one (by rw [upd_ne htf]; exact ht) (hR.to fun t' h o g => by rw [upd_ne (htsf t' h)]; exact g)
        · top_name
          refine ⟨⟨ts ++ [t], m', L', rfl⟩, ?_⟩
          have := L'.hf
          show (match H10 f with | some (.lst zs) => rs.length + 1 - zs.length | _ => 0) < (match H8 f with | some (.lst zs) => rs.length + 1 - zs.length | _ => 0)
          rw [this, hf]
          show rs.length + 1 - ((ts ++ [t]).map V.ref).length < rs.length + 1 - (ts.map V.ref).length
          rw [List.length_map, List.length_map, List.length_append]
          show rs.length + 1 - (ts.length + 1) < _
          omega
end K06

set_option maxRecDepth 100000
set_option maxHeartbeats 4000000
set_option pp.maxSteps 400
namespace K06
open PySem PySem.Spec PyProof.Rows L2 Z
open Evl (Ex)
variable {P : Program} {w : World} {K : PySem.W.Frag} {mg : Str → Option Value} {base : Heap}
/-! ### steps of the walk: one_sign: a heap grew into another; one_item: what stands at an address; one_place: a list or tuple to be read; leaf_len: arithmetic; tb_rel: one step; top_name: steps as far as they go -/
local macro_rules | `(tactic| got_up) => `(tactic| (refine Evl.Ex.trans (by assumption) ?_; first | assumption | exact Evl.Ex.refl _ | got_up))
local macro_rules | `(tactic| units_room) => `(tactic| (refine Evl.Ex.trans ?_ (by assumption); first | assumption | exact Evl.Ex.refl _ | units_room))
local macro_rules | `(tactic| one_sign) => `(tactic| first | assumption | exact Evl.Ex.refl _ | got_up | units_room)
local macro_rules | `(tactic| one_item) => `(tactic| first | assumption | exact upd_same | exact exa (by assumption) (by one_sign))
local macro_rules | `(tactic| one_place) => `(tactic| first | assumption | exact SqL.of (by assumption) | exact SqT.of (by assumption) | exact exl (by assumption) (by one_sign) | exact ext (by assumption) (by one_sign) | exact SqL.of (by one_item) | exact SqT.of (by one_item))
local macro_rules | `(tactic| leaf_len) => `(tactic| first | assumption | decide | omega)
local macro_rules | `(tactic| tb_rel) => `(tactic| first
  | ((with_reducible refine (?_ : wE _ _ _ _ _)); first
    | ((with_reducible refine (?_ : wE _ (.Name _ _) _ _ _)); first | refine zn (by rfl) (by first | exact Or.inl rfl | exact Or.inr (Or.inl rfl) | exact Or.inr (Or.inr rfl)) (by rfl) ?_ | refine zglob (by assumption) (by rfl) ?_ | refine zcls (by assumption) (by rfl) ?_ | refine zty (by assumption) (by first | exact bt_int | exact bt_bool | exact bt_str | exact bt_list | exact bt_tuple | exact bt_dict | exact bt_ValueError) (by rfl) ?_)
    | ((with_reducible refine (?_ : wE _ (.Attribute _ _ _) _ _ _)); refine zfld ?_)
    | ((with_reducible refine (?_ : wE _ (.Constant _ _ _) _ _ _)); first | refine zint ?_ | refine zstr ?_ | refine zbl ?_ | refine znon ?_)
    | ((with_reducible refine (?_ : wE _ (.BinOp _ _ _ _) _ _ _)); refine zbin ?_)
    | ((with_reducible refine (?_ : wE _ (.Compare _ _ _ _) _ _ _)); first | refine zcmp (by rfl) ?_ | refine zchain ?_)
    | ((with_reducible refine (?_ : wE _ (.Dict [] [] _) _ _ _)); refine zdnew (fun _ _ _ _ _ => ?_))
    | ((with_reducible refine (?_ : wE _ (.Subscript _ (.Slice _ _ _ _) _) _ _ _)); refine zsl ?_)
    | ((with_reducible refine (?_ : wE _ (.Subscript _ _ _) _ _ _)); refine zix ?_)
    | ((with_reducible refine (?_ : wE _ (.Call (.Name "list" _) [.Call (.Name "range" _) [_] [] _] [] _) _ _ _)); refine zlrg1 rfl (by rfl) (by assumption) (by rfl) (by assumption) ?_)
    | ((with_reducible refine (?_ : wE _ (.Call (.Name _ _) _ _ _) _ _ _)); first
      | ((with_reducible refine (?_ : wE _ (.Call (.Name "len" _) _ _ _) _ _ _)); refine zbfn (by assumption) bt_len (by rfl) ?_)
      | ((with_reducible refine (?_ : wE _ (.Call (.Name "isinstance" _) _ _ _) _ _ _)); refine zbfn (by assumption) bt_isi (by rfl) ?_)
      | ((with_reducible refine (?_ : wE _ (.Call (.Name "min" _) _ _ _) _ _ _)); refine zbfn (by assumption) bt_min (by rfl) ?_)
      | ((with_reducible refine (?_ : wE _ (.Call (.Name "max" _) _ _ _) _ _ _)); refine zbfn (by assumption) bt_max (by rfl) ?_)
      | ((with_reducible refine (?_ : wE _ (.Call (.Name "list" _) _ _ _) _ _ _)); refine zbty (by assumption) bt_list (by rfl) ?_)
      | ((with_reducible refine (?_ : wE _ (.Call (.Name "tuple" _) _ _ _) _ _ _)); refine zbty (by assumption) bt_tuple (by rfl) ?_)
      | ((with_reducible refine (?_ : wE _ (.Call (.Name "int" _) _ _ _) _ _ _)); refine zbty (by assumption) bt_int (by rfl) ?_)
      | ((with_reducible refine (?_ : wE _ (.Call (.Name "abs" _) _ _ _) _ _ _)); refine zbfn (by assumption) bt_abs (by rfl) ?_)
      | ((with_reducible refine (?_ : wE _ (.Call (.Name "all" _) _ _ _) _ _ _)); refine zbfn (by assumption) bt_all (by rfl) ?_)
      | ((with_reducible refine (?_ : wE _ (.Call (.Name "sum" _) _ _ _) _ _ _)); refine zbfn (by assumption) bt_sum (by rfl) ?_)
      | ((with_reducible refine (?_ : wE _ (.Call (.Name "divmod" _) _ _ _) _ _ _)); refine zbfn (by assumption) bt_divmod (by rfl) ?_)
      | ((with_reducible refine (?_ : wE _ (.Call (.Name "ord" _) _ _ _) _ _ _)); refine zbfn (by assumption) bt_ord (by rfl) ?_))
    | ((with_reducible refine (?_ : wE _ (.IfExp _ _ _ _) _ _ _)); refine zif ?_)
    | ((with_reducible refine (?_ : wE _ (.Tuple _ _ _) _ _ _)); refine ztup ?_)
    | ((with_reducible refine (?_ : wE _ (.List _ _) _ _ _)); refine zlst ?_)
    | ((with_reducible refine (?_ : wE _ (.UnaryOp _ _ _) _ _ _)); first | refine znotV ?_ | refine zneg ?_)
    | ((with_reducible refine (?_ : wE _ (.BoolOp _ _ _) _ _ _)); first | refine zandV ?_ | refine zorV ?_ | refine zoneV ?_))
  | ((with_reducible refine (?_ : bE _ _ _ _ _ _)); refine ⟨fun _ _ _ _ _ => ?_⟩) | ((with_reducible refine (?_ : bG _ _ _ _ _ _ _)); refine ⟨fun _ _ _ _ _ => ?_⟩) | ((with_reducible refine (?_ : bTs _ _ _ _ _ _)); refine ⟨fun _ _ _ _ _ => ?_⟩)
  | ((with_reducible refine (?_ : hE _ _ _ _ _ _)); refine ⟨fun _ _ _ _ _ => ?_⟩) | ((with_reducible refine (?_ : hG _ _ _ _ _ _ _)); refine ⟨fun _ _ _ _ _ => ?_⟩) | ((with_reducible refine (?_ : hTs _ _ _ _ _ _)); refine ⟨fun _ _ _ _ _ => ?_⟩)
  | ((with_reducible refine (?_ : wP _ _ _ _ _)); first | refine pnon ?_ | refine psom ?_) | ((with_reducible refine (?_ : wSl _ _ _ _ _ _)); first | refine slL (by one_place) (fun _ _ _ _ _ => ?_) | refine slS (by assumption) ?_)
  | ((with_reducible refine (?_ : wTs _ _ _ _ _)); first | refine tsnil ?_ | refine tsone ?_)
  | ((with_reducible refine (?_ : wA _ _ _ _ _)); first | refine acons ?_ | refine anil ?_)
  | ((with_reducible refine (?_ : wO _ _ _ _ _ _)); first
    | ((with_reducible refine (?_ : wO _ (binaryOp .Add) _ _ _ _)); first | refine oadd ?_ | refine ocatE (by one_item) (by one_item) (Nat.le_of_ble_eq_true rfl) (fun _ _ _ _ _ => ?_))
    | ((with_reducible refine (?_ : wO _ (binaryOp .Sub) _ _ _ _)); first | refine osub ?_)
    | ((with_reducible refine (?_ : wO _ (binaryOp .Mult) _ _ _ _)); first | refine omul (by first | exact IntMulOk.of_right (by decide) | exact IntMulOk.of_left (by decide) | exact IntMulOk.of_right (intBits_le_64 (by omega) (by omega)) | exact IntMulOk.of_left (intBits_le_64 (by omega) (by omega))) ?_)
    | ((with_reducible refine (?_ : wO _ (binaryOp .Mod) _ _ _ _)); first | refine omod (by first | decide | omega) ?_)
    | ((with_reducible refine (?_ : wO _ (binaryOp .FloorDiv) _ _ _ _)); first | refine ofdiv ⟨by first | decide | omega, by decide⟩ ?_)
    | ((with_reducible refine (?_ : wO _ (binaryOp .BitAnd) _ _ _ _)); first | refine oand ?_)
    | ((with_reducible refine (?_ : wO _ (binaryOp .BitOr) _ _ _ _)); first | refine oor ?_)
    | ((with_reducible refine (?_ : wO _ (compareOp .Lt) _ _ _ _)); first | refine olt ?_)
    | ((with_reducible refine (?_ : wO _ (compareOp .LtE) _ _ _ _)); first | refine ole ?_)
    | ((with_reducible refine (?_ : wO _ (compareOp .Gt) _ _ _ _)); first | refine ogt ?_)
    | ((with_reducible refine (?_ : wO _ (compareOp .GtE) _ _ _ _)); first | refine oge ?_)
    | ((with_reducible refine (?_ : wO _ (compareOp .Eq) _ _ _ _)); first | refine oeqi ?_ | refine oeqsT (by decide +kernel) ?_ | refine oeqsF (by decide +kernel) ?_ | refine oeq (by rfl) ?_)
    | ((with_reducible refine (?_ : wO _ (compareOp .NotEq) _ _ _ _)); first | refine onei ?_ | refine onesT (by decide +kernel) ?_ | refine onesF (by decide +kernel) ?_ | refine one (by rfl) ?_)
    | ((with_reducible refine (?_ : wO _ (compareOp .In) _ _ _ _)); first | refine oin ?_)
    | ((with_reducible refine (?_ : wO _ (compareOp .NotIn) _ _ _ _)); first | refine onin ?_)
    | ((with_reducible refine (?_ : wO _ (compareOp .Is) _ _ _ _)); first | refine ois ?_)
    | ((with_reducible refine (?_ : wO _ (compareOp .IsNot) _ _ _ _)); first | refine onot ?_)
    | ((with_reducible refine (?_ : wO _ (binaryOp .RShift) _ _ _ _)); refine oshr (by first | decide | omega) ?_)
    | ((with_reducible refine (?_ : wO _ (binaryOp .BitXor) _ _ _ _)); refine oxor ?_)
    | ((with_reducible refine (?_ : wO _ (inplaceOp .BitXor) _ _ _ _)); refine ixor ?_)
    | ((with_reducible refine (?_ : wO _ (inplaceOp .RShift) _ _ _ _)); refine ishr (by first | decide | omega) ?_)
    | ((with_reducible refine (?_ : wO _ (inplaceOp .BitOr) _ _ _ _)); first | refine ior ?_)
    | ((with_reducible refine (?_ : wO _ (inplaceOp .Add) _ _ _ _)); first | refine iadd ?_))
  | ((with_reducible refine (?_ : wT _ _ _ _ _)); first
    | ((with_reducible refine (?_ : wT _ (.Compare _ _ _ _) _ _ _)); first | refine zcmpT (by rfl) ?_ | refine zchainT ?_)
    | ((with_reducible refine (?_ : wT _ (.UnaryOp _ _ _) _ _ _)); refine znotT ?_)
    | ((with_reducible refine (?_ : wT _ (.BoolOp _ _ _) _ _ _)); refine zW ?_)
    | refine zval ?_)
  | ((with_reducible refine (?_ : wW _ _ _ _ _)); first | refine zand ?_ | refine zor ?_ | refine zand1 ?_ | refine zor1 ?_)
  | ((with_reducible refine (?_ : wK _ _ _ _ _)); first
    | ((with_reducible refine (?_ : wK _ (.builtin "len") _ _ _)); first | refine klenL (by one_place) ?_ | refine klenT (by one_place) ?_ | refine klenS (by assumption) ?_)
    | ((with_reducible refine (?_ : wK _ (.builtin "isinstance") _ _ _)); first | refine kisE (by assumption) (by assumption) (by first | assumption | exact Xd.exx (by assumption) (by one_sign)) (by first | exact .own _ | exact .ty _) (by assumption) ?_ | refine kisi (.ty _) (by assumption) (by assumption) ?_ | refine kisi (.ty _) (.base (by first | exact .int _ | exact .bl _ | exact .str _ | exact .non | exact .tup (by one_item) | exact .lst (by one_item))) (kit_ty (r := true) (by rfl)) ?_ | refine kisi (.ty _) (.base (by first | exact .int _ | exact .bl _ | exact .str _ | exact .non | exact .tup (by one_item) | exact .lst (by one_item))) (kit_ty (r := false) (by rfl)) ?_)
    | ((with_reducible refine (?_ : wK _ (.builtin "divmod") _ _ _)); refine kdivmod ⟨by first | decide | omega, by decide⟩ (fun _ _ _ _ _ => ?_))
    | ((with_reducible refine (?_ : wK _ (.builtin "min") _ _ _)); refine kmin (by rfl) ?_)
    | ((with_reducible refine (?_ : wK _ (.builtin "max") _ _ _)); refine kmax (by rfl) ?_)
    | ((with_reducible refine (?_ : wK _ (.type "list") _ _ _)); first | refine klistL (by one_place) (fun _ _ _ _ _ => ?_) | refine klistT (by one_place) (fun _ _ _ _ _ => ?_))
    | ((with_reducible refine (?_ : wK _ (.type "tuple") _ _ _)); first | refine ktupL (by one_place) (fun _ _ _ _ _ => ?_)))
  | ((with_reducible refine (?_ : wS _ _ _ _ _)); first
    | ((with_reducible refine (?_ : wS _ (.Assign [.Name _ _] _ _) _ _ _)); refine sset' (by assumption) (by rfl) (by first | exact Or.inl rfl | exact Or.inr rfl) (by rfl) (by first | exact .inl rfl | exact .inr rfl) ?_)
    | ((with_reducible refine (?_ : wS _ (.AugAssign (.Name _ _) _ _ _) _ _ _)); refine saug' (by assumption) (by rfl) (by first | exact Or.inl rfl | exact Or.inr rfl) (by first | exact .inl rfl | exact .inr rfl) (by rfl) ?_)
    | ((with_reducible refine (?_ : wS _ (.Assign [.Attribute _ _ _] _ _) _ _ _)); refine sfld ?_)
    | ((with_reducible refine (?_ : wS _ (.Expr _ _) _ _ _)); refine sexp ?_)
    | ((with_reducible refine (?_ : wS _ (.Assign [.Tuple _ _ _] _ _) _ _ _)); refine sasg ?_) | ((with_reducible refine (?_ : wS _ (.Assign [.Subscript _ _ _] _ _) _ _ _)); refine sasg ?_)
    | refine sret ?_ | refine sif ?_ | refine sretN ?_ | refine spass ?_ | refine sbrk ?_ | refine scont ?_)
  | ((with_reducible refine (?_ : wG _ (.Name _ _) _ _ _ _)); refine gname' (by assumption) (by rfl) (by first | exact Or.inl rfl | exact Or.inr rfl) (by first | exact .inl rfl | exact .inr rfl) ?_)
  | ((with_reducible refine (?_ : wG _ (.Tuple _ _ _) _ _ _ _)); refine gtup rfl (by one_place) rfl ?_) | ((with_reducible refine (?_ : wG _ (.Subscript _ _ _) _ _ _ _)); refine gsub ?_)
  | ((with_reducible refine (?_ : wGs _ _ _ _ _ _)); first | refine gscons ?_ | refine gsnil ?_)
  | ((with_reducible refine (?_ : wB _ _ _ _ _)); first | refine bcons ?_ | refine bnil ?_)
  | refine ifT ?_ | refine ifF ?_ | refine ifd (fun _ => ?_) (fun _ => ?_) | refine ifnd (fun _ => ?_) (fun _ => ?_) | refine ⟨_, rfl, ?_⟩ | refine ⟨rfl, Evl.Ex.refl _, ?_⟩ | refine ⟨_, _, _, _, _, rfl, by one_item, by assumption, by assumption, by rfl, ?_⟩ | refine ⟨Nat.le_of_ble_eq_true rfl, fun _ _ _ _ _ => ?_⟩ | fail)
local macro_rules | `(tactic| top_name) => `(tactic| repeat' tb_rel)
local macro_rules | `(tactic| nest_fact) => `(tactic| first | exact ⟨(decide_eq_true (by omega)).symm, rfl⟩ | exact ⟨(decide_eq_false (by omega)).symm, rfl⟩ | exact ⟨decide_eq_decide.mpr (by omega), rfl⟩ | fail)
/-! ### the end -/
def spEnd (K : PySem.W.Frag) : Sp := fun vs H Q E => ∃ (S : List Addr) (b : Addr) (rest : List Int) (A : Nat) (wr : Option (Int × Str)), vs = [.ref b] ∧ BoxS K S H b rest A wr ∧ match wr with
  | some (p, why) => Rf K E H p why
  | none => if rest = [] then ∀ H', Ex H H' → Q .non H' else outWire K H E ((A : Int) + (rest.length : Int)) "cut"
theorem mf_end (T : Txt K mg) : Mf P w K mg base 4 (He.ga K "Frames") "end" [] (spEnd K) := by
  refine mf_mk T.f_Frames_end T.c_Frames.cl T.h_Frames_end (fun _ _ _ _ _ _ us hl => match us, hl with | [_], _ => rfl) fun fd F => fn_mk F sc_Frames_end (fun vs H Q E h => ?_) fun cd A outer s H vs Q E hr tk po h => ?_
  · obtain ⟨S, b, rest, A, wr, rfl, _⟩ := h; rfl
  · obtain ⟨S, b, rest, ah, wr, rfl, hB, q⟩ := h
    have nd := sc_Frames_end.nd
    have c1 := T.c_Frames.cl
    have a1 := T.a_Frames_rest
    have a2 := T.a_Frames_ahead
    have n1 := T.n_len
    obtain ⟨g1, g2, g3, g4, g5, dx, r, wv, g6, g7, g8⟩ := id hB
    have hrl := cut_sub _ _ g7
    have hlm : (rest.map V.int).length = rest.length := List.length_map ..
    unfold insB at g6
    top_name
    refine zmeth0 hr tk ?_
    top_name
    refine ⟨b, _, dx, _, 3, [], _, rfl, g6, rfl, mf_refuse T, by decide, S, b, rest, ah, wr, rfl, hB, ?_⟩
    cases wr with
    | some pw =>
      obtain ⟨p, why⟩ := pw
      exact q
    | none =>
      have q : if rest = [] then ∀ H', Ex H H' → Q .non H' else outWire K H E ((ah : Int) + (rest.length : Int)) "cut" := q
      intro H1 e1
      have g61 := e1 _ _ g6
      top_name
      rename_i em H2 hem e2 hx2
      refine oneNil hr (SqL.of (e2 _ _ (e1 _ _ hrl))) (SqL.of hx2) ?_
      have e12 := e1.trans e2
      have g62 := e2 _ _ g61
      have hr2 := e2 _ _ (e1 _ _ hrl)
      cases rest with
      | nil =>
        rw [if_pos rfl] at q
        top_name
        exact q _ e12
      | cons x xs =>
        rw [if_neg (fun z => nomatch z)] at q
        top_name
        refine sraise rfl tk (mWire T hr (by decide) rfl ?_)
        top_name
        refine ⟨_, _, rfl, ?_⟩
        rw [List.length_map]
        exact outWire_ex q e12
/-! ### what is told -/
def said (p : Int) (why : Str) : HO := if why = "check" then .lst [.str "check"] else .lst [.str "wire", .int p, .str why, .bl false]
def Wf (H : Hp) (Q : VK) (p : Int) (why : Str) : Prop := ∀ t H', H t = none → Ex H H' → H' t = some (said p why) → Q (.ref t) H'
theorem in_told {x : Str} (h : x = "wire" ∨ x = "check" ∨ x = "row") : inV (.str x) [.str "wire", .str "check", .str "row"] = true := by
  rcases h with rfl | rfl | rfl <;> decide +kernel
def spTold (K : PySem.W.Frag) : Sp := fun vs H Q _ => ∃ (b : Addr) (u : V), vs = [.ref b, u] ∧ ∃ (S : List Addr) (rest : List Int) (A : Nat) (wr : Option (Int × Str)), BoxS K S H b rest A wr ∧ (
  (u ≠ .non ∧ RowAsk K H u false ∧ ∀ t H', H t = none → Ex H H' → H' t = some (.lst [.str "row"]) → Q (.ref t) H') ∨
  (∃ (l : Addr) (xs : List Int), u = .ref l ∧ RowAt K H l xs ∧ Bytes xs ∧ A + rest.length + xs.length ≤ 20000 ∧ match wr with
    | some (p, why) => Wf H Q p why
    | none => ∃ rs xs' A', Dr (rest ++ xs) A rs xs' A' ∧ (∀ f ts H1 g H', Told K S b H H1 f ts rs xs' A' (wrOf A' (nx xs')) → rs ≠ [] ∨ wrOf A' (nx xs') = none → H1 g = none → Ex H1 H' → H' g = some (.lst [.ref f]) → Q (.ref g) H') ∧
      (rs = [] → ∀ p why, wrOf A' (nx xs') = some (p, why) → ∀ H1, Eb b H H1 → BoxS K S H1 b xs' A' (some (p, why)) → Wf H1 Q p why)) ∨
  (u = .non ∧ match wr with
    | some (p, why) => Wf H Q p why
    | none => if rest = [] then ∀ t H', H t = none → Ex H H' → H' t = some (.lst [.non]) → Q (.ref t) H' else Wf H Q ((A : Int) + (rest.length : Int)) "cut"))
theorem said_c {p : Int} {why : Str} (h : why = "check") : said p why = .lst [.str "check"] := by unfold said; rw [if_pos h]
theorem said_w {p : Int} {why : Str} (h : ¬ why = "check") : said p why = .lst [.str "wire", .int p, .str why, .bl false] := by unfold said; rw [if_neg h]
theorem ok_told (T : Txt K mg) : Gf P w K mg base 8 "_law_told" [] (spTold K) := by
  refine gf_mk T.f__law_told T.m__law_told (fun _ _ _ _ _ _ us hl => match us, hl with | [_, _], _ => rfl) fun fd F => fn_mk (k := 7) F sc__law_told (fun vs H Q E h => ?_) fun cd A outer s H vs Q E hr tk po h => ?_
  · obtain ⟨b, u, rfl, _⟩ := h; rfl
  · obtain ⟨b, u, rfl, S, rest, ah, wr, hB, h⟩ := h
    have nd := sc__law_told.nd
    obtain ⟨g1, g2, g3, g4, g5, dx, r, wv, g6, g7, g8⟩ := id hB
    have g6' := g6
    unfold insB at g6
    top_name
    refine stry (cl := .ref (He.ga K "FormError")) 2 nd tk ⟨rfl, by decide, .inl T.m_FormError⟩ rfl rfl rfl rfl fun pn xe po2 tk2 => ?_
    rcases h with ⟨hu, hbad, q⟩ | ⟨l, xs, rfl, hrow, hbx, hz, q⟩ | ⟨rfl, q⟩
    · top_name
      rotate_left
      · rename_i hn
        exact absurd hn hu
      refine zmeth hr tk2 ?_
      top_name
      refine ⟨b, _, dx, _, 7, [], _, rfl, g6, rfl, mf_take T, by decide, ?_⟩
      top_name
      refine ⟨b, u, rfl, .inl ⟨hbad, ?_⟩⟩
      intro H' ex
      refine ⟨true, T.t_BadRow_FormError, fun _ a1 oe pn1 ha hz hf => ?_, fun z => by cases z⟩
      have hX := hx_suite (X := cx P w K mg base N__law_told "_law_told" (defScope s__law_told) (He.fAd K ("_law_told", none)) cd A outer s H E) (a := a1) (pn := pn1) hz hf
      top_name
      refine zcallE (ok_word T) hX (L2H.roomH_mark (Room.mono hr (Nat.le_refl 7)) _) (by decide) rfl ?_
      top_name
      refine ⟨He.ga K "BadRow", 1, "row", rfl, rfl, fun d' e => (by cases e), kin_BadRow T, rfl, fun G2 e2 => ?_⟩
      top_name
      rename_i tp G3 htp e3 hxt
      refine oinF (.inr (SqT.of hxt)) rfl rfl ?_
      rw [in_told (.inr (.inr rfl))]
      top_name
      refine zcallE (ok_at T) hX (L2H.roomH_mark (Room.mono hr (Nat.le_refl 7)) _) (by decide) rfl ?_
      top_name
      exact .inr ⟨He.ga K "BadRow", 1, "row", rfl, rfl, fun d' e => (by cases e), kin_BadRow T, rfl, by decide, by decide, fun t G4 ht e4 hx4 => q t G4 (Evl.fresh_back (ex.trans (e2.trans e3)) ht) ((ex.trans (e2.trans e3)).trans e4) hx4⟩
    · top_name
      refine zmeth hr tk2 ?_
      top_name
      refine ⟨b, _, dx, _, 7, [], _, rfl, g6, rfl, mf_take T, by decide, ?_⟩
      top_name
      refine ⟨b, _, rfl, .inr ⟨S, l, xs, rest, ah, wr, rfl, hrow, hbx, hB, hz, ?_⟩⟩
      cases wr with
      | some pw =>
        obtain ⟨p, why⟩ := pw
        have q : Wf H Q p why := q
        show Rf K _ H p why
        unfold Rf
        by_cases hw : why = "check"
        · rw [if_pos hw]
          intro H' ex
          refine ⟨true, T.t_BadCheck_FormError, fun _ a1 oe pn1 ha hz hf => ?_, fun z => by cases z⟩
          have hX := hx_suite (X := cx P w K mg base N__law_told "_law_told" (defScope s__law_told) (He.fAd K ("_law_told", none)) cd A outer s H E) (a := a1) (pn := pn1) hz hf
          top_name
          refine zcallE (ok_word T) hX (L2H.roomH_mark (Room.mono hr (Nat.le_refl 7)) _) (by decide) rfl ?_
          top_name
          refine ⟨He.ga K "BadCheck", 6, "check", rfl, rfl, fun d' e => (by cases e), kin_BadCheck T, rfl, fun G2 e2 => ?_⟩
          top_name
          rename_i tp G3 htp e3 hxt
          refine oinF (.inr (SqT.of hxt)) rfl rfl ?_
          rw [in_told (.inr (.inl rfl))]
          top_name
          refine zcallE (ok_at T) hX (L2H.roomH_mark (Room.mono hr (Nat.le_refl 7)) _) (by decide) rfl ?_
          top_name
          exact .inr ⟨He.ga K "BadCheck", 6, "check", rfl, rfl, fun d' e => (by cases e), kin_BadCheck T, rfl, by decide, by decide, fun t G4 ht e4 hx4 => q t G4 (Evl.fresh_back (ex.trans (e2.trans e3)) ht) ((ex.trans (e2.trans e3)).trans e4) (by rw [said_c hw]; exact hx4)⟩
        · rw [if_neg hw]
          intro d H' hd ex hx
          refine ⟨true, T.t_BadWire_FormError, fun _ a1 oe pn1 ha hz hf => ?_, fun z => by cases z⟩
          have hX := hx_suite (X := cx P w K mg base N__law_told "_law_told" (defScope s__law_told) (He.fAd K ("_law_told", none)) cd A outer s H E) (a := a1) (pn := pn1) hz hf
          top_name
          refine zcallE (ok_word T) hX (L2H.roomH_mark (Room.mono hr (Nat.le_refl 7)) _) (by decide) rfl ?_
          top_name
          refine ⟨He.ga K "BadWire", 5, "wire", rfl, rfl, fun d' e => ?_, kin_BadWire T, rfl, fun G2 e2 => ?_⟩
          · cases e; exact ⟨_, hx⟩
          top_name
          rename_i tp G3 htp e3 hxt
          refine oinF (.inr (SqT.of hxt)) rfl rfl ?_
          rw [in_told (.inl rfl)]
          top_name
          refine zcallE (ok_at T) hX (L2H.roomH_mark (Room.mono hr (Nat.le_refl 7)) _) (by decide) rfl ?_
          top_name
          exact .inl ⟨d, _, _, rfl, rfl, rfl, e3 _ _ (e2 _ _ hx), fun t G4 ht e4 hx4 => q t G4 (Evl.fresh_back (ex.trans (e2.trans e3)) ht) ((ex.trans (e2.trans e3)).trans e4) (by rw [said_w hw]; exact hx4)⟩
      | none =>
        obtain ⟨rs, xs', A', hD, q1, q2⟩ := q
        refine ⟨rs, xs', A', hD, fun f ts H1 hT hor => ?_, fun hrs p why hwr H1 eb1 B1 => ?_⟩
        · top_name
          rename_i g H2 hg e2 hx2
          exact q1 f ts H1 g H2 hT hor hg e2 hx2
        · have q := q2 hrs p why hwr H1 eb1 B1
          unfold Rf
          by_cases hw : why = "check"
          · rw [if_pos hw]
            intro H' ex
            refine ⟨true, T.t_BadCheck_FormError, fun _ a1 oe pn1 ha hz hf => ?_, fun z => by cases z⟩
            have hX := hx_suite (X := cx P w K mg base N__law_told "_law_told" (defScope s__law_told) (He.fAd K ("_law_told", none)) cd A outer s H E) (a := a1) (pn := pn1) hz hf
            top_name
            refine zcallE (ok_word T) hX (L2H.roomH_mark (Room.mono hr (Nat.le_refl 7)) _) (by decide) rfl ?_
            top_name
            refine ⟨He.ga K "BadCheck", 6, "check", rfl, rfl, fun d' e => (by cases e), kin_BadCheck T, rfl, fun G2 e2 => ?_⟩
            top_name
            rename_i tp G3 htp e3 hxt
            refine oinF (.inr (SqT.of hxt)) rfl rfl ?_
            rw [in_told (.inr (.inl rfl))]
            top_name
            refine zcallE (ok_at T) hX (L2H.roomH_mark (Room.mono hr (Nat.le_refl 7)) _) (by decide) rfl ?_
            top_name
            exact .inr ⟨He.ga K "BadCheck", 6, "check", rfl, rfl, fun d' e => (by cases e), kin_BadCheck T, rfl, by decide, by decide, fun t G4 ht e4 hx4 => q t G4 (Evl.fresh_back (ex.trans (e2.trans e3)) ht) ((ex.trans (e2.trans e3)).trans e4) (by rw [said_c hw]; exact hx4)⟩
          · rw [if_neg hw]
            intro d H' hd ex hx
            refine ⟨true, T.t_BadWire_FormError, fun _ a1 oe pn1 ha hz hf => ?_, fun z => by cases z⟩
            have hX := hx_suite (X := cx P w K mg base N__law_told "_law_told" (defScope s__law_told) (He.fAd K ("_law_told", none)) cd A outer s H E) (a := a1) (pn := pn1) hz hf
            top_name
            refine zcallE (ok_word T) hX (L2H.roomH_mark (Room.mono hr (Nat.le_refl 7)) _) (by decide) rfl ?_
            top_name
            refine ⟨He.ga K "BadWire", 5, "wire", rfl, rfl, fun d' e => ?_, kin_BadWire T, rfl, fun G2 e2 => ?_⟩
            · cases e; exact ⟨_, hx⟩
            top_name
            rename_i tp G3 htp e3 hxt
            refine oinF (.inr (SqT.of hxt)) rfl rfl ?_
            rw [in_told (.inl rfl)]
            top_name
            refine zcallE (ok_at T) hX (L2H.roomH_mark (Room.mono hr (Nat.le_refl 7)) _) (by decide) rfl ?_
            top_name
            exact .inl ⟨d, _, _, rfl, rfl, rfl, e3 _ _ (e2 _ _ hx), fun t G4 ht e4 hx4 => q t G4 (Evl.fresh_back (ex.trans (e2.trans e3)) ht) ((ex.trans (e2.trans e3)).trans e4) (by rw [said_w hw]; exact hx4)⟩
    · top_name
      refine zmeth0 hr tk2 ?_
      top_name
      refine ⟨b, _, dx, _, 4, [], _, rfl, g6, rfl, mf_end T, by decide, S, b, rest, ah, wr, rfl, hB, ?_⟩
      cases wr with
      | some pw =>
        obtain ⟨p, why⟩ := pw
        have q : Wf H Q p why := q
        show Rf K _ H p why
        unfold Rf
        by_cases hw : why = "check"
        · rw [if_pos hw]
          intro H' ex
          refine ⟨true, T.t_BadCheck_FormError, fun _ a1 oe pn1 ha hz hf => ?_, fun z => by cases z⟩
          have hX := hx_suite (X := cx P w K mg base N__law_told "_law_told" (defScope s__law_told) (He.fAd K ("_law_told", none)) cd A outer s H E) (a := a1) (pn := pn1) hz hf
          top_name
          refine zcallE (ok_word T) hX (L2H.roomH_mark (Room.mono hr (Nat.le_refl 7)) _) (by decide) rfl ?_
          top_name
          refine ⟨He.ga K "BadCheck", 6, "check", rfl, rfl, fun d' e => (by cases e), kin_BadCheck T, rfl, fun G2 e2 => ?_⟩
          top_name
          rename_i tp G3 htp e3 hxt
          refine oinF (.inr (SqT.of hxt)) rfl rfl ?_
          rw [in_told (.inr (.inl rfl))]
          top_name
          refine zcallE (ok_at T) hX (L2H.roomH_mark (Room.mono hr (Nat.le_refl 7)) _) (by decide) rfl ?_
          top_name
          exact .inr ⟨He.ga K "BadCheck", 6, "check", rfl, rfl, fun d' e => (by cases e), kin_BadCheck T, rfl, by decide, by decide, fun t G4 ht e4 hx4 => q t G4 (Evl.fresh_back (ex.trans (e2.trans e3)) ht) ((ex.trans (e2.trans e3)).trans e4) (by rw [said_c hw]; exact hx4)⟩
        · rw [if_neg hw]
          intro d H' hd ex hx
          refine ⟨true, T.t_BadWire_FormError, fun _ a1 oe pn1 ha hz hf => ?_, fun z => by cases z⟩
          have hX := hx_suite (X := cx P w K mg base N__law_told "_law_told" (defScope s__law_told) (He.fAd K ("_law_told", none)) cd A outer s H E) (a := a1) (pn := pn1) hz hf
          top_name
          refine zcallE (ok_word T) hX (L2H.roomH_mark (Room.mono hr (Nat.le_refl 7)) _) (by decide) rfl ?_
          top_name
          refine ⟨He.ga K "BadWire", 5, "wire", rfl, rfl, fun d' e => ?_, kin_BadWire T, rfl, fun G2 e2 => ?_⟩
          · cases e; exact ⟨_, hx⟩
          top_name
          rename_i tp G3 htp e3 hxt
          refine oinF (.inr (SqT.of hxt)) rfl rfl ?_
          rw [in_told (.inl rfl)]
          top_name
          refine zcallE (ok_at T) hX (L2H.roomH_mark (Room.mono hr (Nat.le_refl 7)) _) (by decide) rfl ?_
          top_name
          exact .inl ⟨d, _, _, rfl, rfl, rfl, e3 _ _ (e2 _ _ hx), fun t G4 ht e4 hx4 => q t G4 (Evl.fresh_back (ex.trans (e2.trans e3)) ht) ((ex.trans (e2.trans e3)).trans e4) (by rw [said_w hw]; exact hx4)⟩
      | none =>
        have q : if rest = [] then ∀ t H', H t = none → Ex H H' → H' t = some (.lst [.non]) → Q (.ref t) H' else Wf H Q ((ah : Int) + (rest.length : Int)) "cut" := q
        show if rest = [] then _ else _
        by_cases hre : rest = []
        · rw [if_pos hre] at q ⊢
          intro H1 e1
          top_name
          rename_i g H2 hg e2 hx2
          exact q g H2 (Evl.fresh_back e1 hg) (e1.trans e2) hx2
        · rw [if_neg hre] at q ⊢
          have hw : ¬ ("cut" : Str) = "check" := by decide +kernel
          intro d H' hd ex hx
          refine ⟨true, T.t_BadWire_FormError, fun _ a1 oe pn1 ha hz hf => ?_, fun z => by cases z⟩
          have hX := hx_suite (X := cx P w K mg base N__law_told "_law_told" (defScope s__law_told) (He.fAd K ("_law_told", none)) cd A outer s H E) (a := a1) (pn := pn1) hz hf
          top_name
          refine zcallE (ok_word T) hX (L2H.roomH_mark (Room.mono hr (Nat.le_refl 7)) _) (by decide) rfl ?_
          top_name
          refine ⟨He.ga K "BadWire", 5, "wire", rfl, rfl, fun d' e => ?_, kin_BadWire T, rfl, fun G2 e2 => ?_⟩
          · cases e; exact ⟨_, hx⟩
          top_name
          rename_i tp G3 htp e3 hxt
          refine oinF (.inr (SqT.of hxt)) rfl rfl ?_
          rw [in_told (.inl rfl)]
          top_name
          refine zcallE (ok_at T) hX (L2H.roomH_mark (Room.mono hr (Nat.le_refl 7)) _) (by decide) rfl ?_
          top_name
          exact .inl ⟨d, _, _, rfl, rfl, rfl, e3 _ _ (e2 _ _ hx), fun t G4 ht e4 hx4 => q t G4 (Evl.fresh_back (ex.trans (e2.trans e3)) ht) ((ex.trans (e2.trans e3)).trans e4) (by rw [said_w hw]; exact hx4)⟩
end K06

set_option maxRecDepth 100000
set_option maxHeartbeats 4000000
set_option pp.maxSteps 400
namespace K06
open PySem PySem.Spec PyProof.Rows L2 Z
/-! ### all that a wire tells, plainly -/
inductive Du : List Int → Nat → List (List Int × Nat) → Option (Int × Str × Nat) → Prop
  | none {xs : List Int} {A : Nat} (h : nx xs = .none) : Du xs A [] none
  | bad {xs : List Int} {A b : Nat} {p : Int} {why : Str} (h : nx xs = .bad p why b) : Du xs A [] (some ((A : Int) + p, why, A + b))
  | row {xs ys : List Int} {A n : Nat} {rs : List (List Int × Nat)} {w : Option (Int × Str × Nat)} (h : nx xs = .row ys n) (d : Du (xs.drop n) (A + n) rs w) : Du xs A ((ys, A + n) :: rs) w
theorem Du.ex : ∀ (k : Nat) {xs : List Int} {A : Nat}, Bytes xs → xs.length ≤ k → ∃ rs w, Du xs A rs w
  | k, xs, A, hb, hk => by
    cases h : nx xs with
    | none => exact ⟨_, _, .none h⟩
    | bad p why b => exact ⟨_, _, .bad h⟩
    | row ys n =>
      have hr := nx_row hb h
      match k with
      | 0 => omega
      | k + 1 =>
        obtain ⟨rs, w, d⟩ := Du.ex k (xs := xs.drop n) (A := A + n) (fun x hx => hb x (List.mem_of_mem_drop hx)) (by rw [List.length_drop]; omega)
        exact ⟨_, _, .row h d⟩
theorem Du.lo {xs : List Int} {A : Nat} {rs : List (List Int × Nat)} {w : Option (Int × Str × Nat)} (d : Du xs A rs w) : Bytes xs → (∀ r ∈ rs, A < r.2) ∧ ∀ p why b, w = some (p, why, b) → A ≤ b := by
  induction d with
  | none h => exact fun _ => ⟨fun _ z => (nomatch z), fun _ _ _ z => by cases z⟩
  | bad h => exact fun _ => ⟨fun _ z => (nomatch z), fun _ _ _ z => by cases z; omega⟩
  | row h d ih =>
    intro hb
    have hr := nx_row hb h
    obtain ⟨i1, i2⟩ := ih fun x hx => hb x (List.mem_of_mem_drop hx)
    refine ⟨fun r hr2 => ?_, fun p why b z => ?_⟩
    · rcases List.mem_cons.mp hr2 with rfl | hr2
      · show _ < _ + _
        omega
      · have := i1 r hr2
        omega
    · have := i2 p why b z
      omega
def wq (k : Nat) : Option (Int × Str × Nat) → Option (Int × Str)
  | some (p, why, b) => if b ≤ k then some (p, why) else none
  | none => none
/-- where the last row ends -/
def lastE (A : Nat) : List (List Int × Nat) → Nat
  | [] => A
  | r :: t => lastE r.2 t
theorem lastE_app (A : Nat) : ∀ f g : List (List Int × Nat), lastE A (f ++ g) = lastE (lastE A f) g
  | [], _ => rfl
  | r :: t, g => lastE_app r.2 t g
theorem du_part {W : List Int} {k : Nat} (hW : Bytes W) (hk : k ≤ W.length) {xs : List Int} {A : Nat} {rs : List (List Int × Nat)} {w : Option (Int × Str × Nat)} (d : Du xs A rs w) : xs = W.drop A → A ≤ k →
    ∃ f rs' A', rs = f ++ rs' ∧ Dr ((W.drop A).take (k - A)) A (f.map (·.1)) ((W.drop A').take (k - A')) A' ∧ Du (W.drop A') A' rs' w ∧ A' ≤ k ∧ (∀ r ∈ f, r.2 ≤ k) ∧ (∀ r ∈ rs', k < r.2) ∧ wrOf A' (nx ((W.drop A').take (k - A'))) = wq k w ∧ A' = lastE A f := by
  have hbd : ∀ A, Bytes (W.drop A) := fun A x hx => hW x (List.mem_of_mem_drop hx)
  induction d with
  | @none xs A h =>
    intro hx hA
    rw [hx] at h
    have hp : nx ((W.drop A).take (k - A)) = .none := by rw [nx_take (hbd A), h]; rfl
    exact ⟨[], [], A, rfl, .stop (fun _ _ z => by rw [hp] at z; cases z), .none h, hA, fun _ z => (nomatch z), fun _ z => (nomatch z), by rw [hp]; rfl, rfl⟩
  | @bad xs A b p why h =>
    intro hx hA
    rw [hx] at h
    have hp : nx ((W.drop A).take (k - A)) = if b ≤ k - A then .bad p why b else .none := by rw [nx_take (hbd A), h]; rfl
    refine ⟨[], [], A, rfl, .stop (fun _ _ z => by rw [hp] at z; split at z <;> cases z), .bad h, hA, fun _ z => (nomatch z), fun _ z => (nomatch z), ?_, rfl⟩
    rw [hp]
    show _ = if A + b ≤ k then _ else _
    by_cases hb : b ≤ k - A
    · rw [if_pos hb, if_pos (by omega)]
      rfl
    · rw [if_neg hb, if_neg (by omega)]
      rfl
  | @row xs ys A n rs w h d ih =>
    intro hx hA
    subst hx
    have hr := nx_row (hbd A) h
    have hp : nx ((W.drop A).take (k - A)) = if n ≤ k - A then .row ys n else .none := by rw [nx_take (hbd A), h]; rfl
    have hd : (W.drop A).drop n = W.drop (A + n) := List.drop_drop ..
    by_cases hn : n ≤ k - A
    · rw [if_pos hn] at hp
      obtain ⟨f, rs', A', e1, d1, d2, l1, l2, l3, l4, l5⟩ := ih hd (by omega)
      refine ⟨(ys, A + n) :: f, rs', A', by rw [e1]; rfl, ?_, d2, l1, fun r hr2 => ?_, l3, l4, l5⟩
      · refine .step hp ?_
        rw [List.drop_take, hd, show k - A - n = k - (A + n) from by omega]
        exact d1
      · rcases List.mem_cons.mp hr2 with rfl | hr2
        · show A + n ≤ k
          omega
        · exact l2 r hr2
    · rw [if_neg hn] at hp
      obtain ⟨i1, i2⟩ := d.lo fun x hx => hbd A x (List.mem_of_mem_drop hx)
      refine ⟨[], (ys, A + n) :: rs, A, rfl, .stop (fun _ _ z => by rw [hp] at z; cases z), .row h d, hA, fun _ z => (nomatch z), fun r hr2 => ?_, ?_, rfl⟩
      · rcases List.mem_cons.mp hr2 with rfl | hr2
        · show k < A + n
          omega
        · have := i1 r hr2
          omega
      · rw [hp]
        cases w with
        | none => rfl
        | some z =>
          obtain ⟨p, why, b⟩ := z
          have := i2 p why b rfl
          show none = if b ≤ k then _ else _
          rw [if_neg (by omega)]
end K06

set_option maxRecDepth 100000
set_option maxHeartbeats 4000000
set_option pp.maxSteps 400
namespace K06
open PySem PySem.Spec PyProof.Rows L2 Z
open Evl (Ex)
variable {P : Program} {w : World} {K : PySem.W.Frag} {mg : Str → Option Value} {base : Heap}
/-! ### steps of the walk: one_sign: a heap grew into another; one_item: what stands at an address; one_place: a list or tuple to be read; leaf_len: arithmetic; tb_rel: one step; top_name: steps as far as they go -/
local macro_rules | `(tactic| got_up) => `(tactic| (refine Evl.Ex.trans (by assumption) ?_; first | assumption | exact Evl.Ex.refl _ | got_up))
local macro_rules | `(tactic| units_room) => `(tactic| (refine Evl.Ex.trans ?_ (by assumption); first | assumption | exact Evl.Ex.refl _ | units_room))
local macro_rules | `(tactic| one_sign) => `(tactic| first | assumption | exact Evl.Ex.refl _ | got_up | units_room)
local macro_rules | `(tactic| one_item) => `(tactic| first | assumption | exact upd_same | exact exa (by assumption) (by one_sign))
local macro_rules | `(tactic| one_place) => `(tactic| first | assumption | exact SqL.of (by assumption) | exact SqT.of (by assumption) | exact exl (by assumption) (by one_sign) | exact ext (by assumption) (by one_sign) | exact SqL.of (by one_item) | exact SqT.of (by one_item))
local macro_rules | `(tactic| leaf_len) => `(tactic| first | assumption | decide | omega)
local macro_rules | `(tactic| tb_rel) => `(tactic| first
  | ((with_reducible refine (?_ : wE _ _ _ _ _)); first
    | ((with_reducible refine (?_ : wE _ (.Name _ _) _ _ _)); first | refine zn (by rfl) (by first | exact Or.inl rfl | exact Or.inr (Or.inl rfl) | exact Or.inr (Or.inr rfl)) (by rfl) ?_ | refine zglob (by assumption) (by rfl) ?_ | refine zcls (by assumption) (by rfl) ?_ | refine zty (by assumption) (by first | exact bt_int | exact bt_bool | exact bt_str | exact bt_list | exact bt_tuple | exact bt_dict | exact bt_ValueError) (by rfl) ?_)
    | ((with_reducible refine (?_ : wE _ (.Attribute _ _ _) _ _ _)); refine zfld ?_)
    | ((with_reducible refine (?_ : wE _ (.Constant _ _ _) _ _ _)); first | refine zint ?_ | refine zstr ?_ | refine zbl ?_ | refine znon ?_)
    | ((with_reducible refine (?_ : wE _ (.BinOp _ _ _ _) _ _ _)); refine zbin ?_)
    | ((with_reducible refine (?_ : wE _ (.Compare _ _ _ _) _ _ _)); first | refine zcmp (by rfl) ?_ | refine zchain ?_)
    | ((with_reducible refine (?_ : wE _ (.Dict [] [] _) _ _ _)); refine zdnew (fun _ _ _ _ _ => ?_))
    | ((with_reducible refine (?_ : wE _ (.Subscript _ (.Slice _ _ _ _) _) _ _ _)); refine zsl ?_)
    | ((with_reducible refine (?_ : wE _ (.Subscript _ _ _) _ _ _)); refine zix ?_)
    | ((with_reducible refine (?_ : wE _ (.Call (.Name "list" _) [.Call (.Name "range" _) [_] [] _] [] _) _ _ _)); refine zlrg1 rfl (by rfl) (by assumption) (by rfl) (by assumption) ?_)
    | ((with_reducible refine (?_ : wE _ (.Call (.Name _ _) _ _ _) _ _ _)); first
      | ((with_reducible refine (?_ : wE _ (.Call (.Name "len" _) _ _ _) _ _ _)); refine zbfn (by assumption) bt_len (by rfl) ?_)
      | ((with_reducible refine (?_ : wE _ (.Call (.Name "isinstance" _) _ _ _) _ _ _)); refine zbfn (by assumption) bt_isi (by rfl) ?_)
      | ((with_reducible refine (?_ : wE _ (.Call (.Name "min" _) _ _ _) _ _ _)); refine zbfn (by assumption) bt_min (by rfl) ?_)
      | ((with_reducible refine (?_ : wE _ (.Call (.Name "max" _) _ _ _) _ _ _)); refine zbfn (by assumption) bt_max (by rfl) ?_)
      | ((with_reducible refine (?_ : wE _ (.Call (.Name "list" _) _ _ _) _ _ _)); refine zbty (by assumption) bt_list (by rfl) ?_)
      | ((with_reducible refine (?_ : wE _ (.Call (.Name "tuple" _) _ _ _) _ _ _)); refine zbty (by assumption) bt_tuple (by rfl) ?_)
      | ((with_reducible refine (?_ : wE _ (.Call (.Name "int" _) _ _ _) _ _ _)); refine zbty (by assumption) bt_int (by rfl) ?_)
      | ((with_reducible refine (?_ : wE _ (.Call (.Name "abs" _) _ _ _) _ _ _)); refine zbfn (by assumption) bt_abs (by rfl) ?_)
      | ((with_reducible refine (?_ : wE _ (.Call (.Name "all" _) _ _ _) _ _ _)); refine zbfn (by assumption) bt_all (by rfl) ?_)
      | ((with_reducible refine (?_ : wE _ (.Call (.Name "sum" _) _ _ _) _ _ _)); refine zbfn (by assumption) bt_sum (by rfl) ?_)
      | ((with_reducible refine (?_ : wE _ (.Call (.Name "divmod" _) _ _ _) _ _ _)); refine zbfn (by assumption) bt_divmod (by rfl) ?_)
      | ((with_reducible refine (?_ : wE _ (.Call (.Name "ord" _) _ _ _) _ _ _)); refine zbfn (by assumption) bt_ord (by rfl) ?_))
    | ((with_reducible refine (?_ : wE _ (.IfExp _ _ _ _) _ _ _)); refine zif ?_)
    | ((with_reducible refine (?_ : wE _ (.Tuple _ _ _) _ _ _)); refine ztup ?_)
    | ((with_reducible refine (?_ : wE _ (.List _ _) _ _ _)); refine zlst ?_)
    | ((with_reducible refine (?_ : wE _ (.UnaryOp _ _ _) _ _ _)); first | refine znotV ?_ | refine zneg ?_)
    | ((with_reducible refine (?_ : wE _ (.BoolOp _ _ _) _ _ _)); first | refine zandV ?_ | refine zorV ?_ | refine zoneV ?_))
  | ((with_reducible refine (?_ : bE _ _ _ _ _ _)); refine ⟨fun _ _ _ _ _ => ?_⟩) | ((with_reducible refine (?_ : bG _ _ _ _ _ _ _)); refine ⟨fun _ _ _ _ _ => ?_⟩) | ((with_reducible refine (?_ : bTs _ _ _ _ _ _)); refine ⟨fun _ _ _ _ _ => ?_⟩)
  | ((with_reducible refine (?_ : hE _ _ _ _ _ _)); refine ⟨fun _ _ _ _ _ => ?_⟩) | ((with_reducible refine (?_ : hG _ _ _ _ _ _ _)); refine ⟨fun _ _ _ _ _ => ?_⟩) | ((with_reducible refine (?_ : hTs _ _ _ _ _ _)); refine ⟨fun _ _ _ _ _ => ?_⟩)
  | ((with_reducible refine (?_ : wP _ _ _ _ _)); first | refine pnon ?_ | refine psom ?_) | ((with_reducible refine (?_ : wSl _ _ _ _ _ _)); first | refine slL (by one_place) (fun _ _ _ _ _ => ?_) | refine slS (by assumption) ?_)
  | ((with_reducible refine (?_ : wTs _ _ _ _ _)); first | refine tsnil ?_ | refine tsone ?_)
  | ((with_reducible refine (?_ : wA _ _ _ _ _)); first | refine acons ?_ | refine anil ?_)
  | ((with_reducible refine (?_ : wO _ _ _ _ _ _)); first
    | ((with_reducible refine (?_ : wO _ (binaryOp .Add) _ _ _ _)); first | refine oadd ?_ | refine ocatE (by one_item) (by one_item) (Nat.le_of_ble_eq_true rfl) (fun _ _ _ _ _ => ?_))
    | ((with_reducible refine (?_ : wO _ (binaryOp .Sub) _ _ _ _)); first | refine osub ?_)
    | ((with_reducible refine (?_ : wO _ (binaryOp .Mult) _ _ _ _)); first | refine omul (by first | exact IntMulOk.of_right (by decide) | exact IntMulOk.of_left (by decide) | exact IntMulOk.of_right (intBits_le_64 (by omega) (by omega)) | exact IntMulOk.of_left (intBits_le_64 (by omega) (by omega))) ?_)
    | ((with_reducible refine (?_ : wO _ (binaryOp .Mod) _ _ _ _)); first | refine omod (by first | decide | omega) ?_)
    | ((with_reducible refine (?_ : wO _ (binaryOp .FloorDiv) _ _ _ _)); first | refine ofdiv ⟨by first | decide | omega, by decide⟩ ?_)
    | ((with_reducible refine (?_ : wO _ (binaryOp .BitAnd) _ _ _ _)); first | refine oand ?_)
    | ((with_reducible refine (?_ : wO _ (binaryOp .BitOr) _ _ _ _)); first | refine oor ?_)
    | ((with_reducible refine (?_ : wO _ (compareOp .Lt) _ _ _ _)); first | refine olt ?_)
    | ((with_reducible refine (?_ : wO _ (compareOp .LtE) _ _ _ _)); first | refine ole ?_)
    | ((with_reducible refine (?_ : wO _ (compareOp .Gt) _ _ _ _)); first | refine ogt ?_)
    | ((with_reducible refine (?_ : wO _ (compareOp .GtE) _ _ _ _)); first | refine oge ?_)
    | ((with_reducible refine (?_ : wO _ (compareOp .Eq) _ _ _ _)); first | refine oeqi ?_ | refine oeqsT (by decide +kernel) ?_ | refine oeqsF (by decide +kernel) ?_ | refine oeq (by rfl) ?_)
    | ((with_reducible refine (?_ : wO _ (compareOp .NotEq) _ _ _ _)); first | refine onei ?_ | refine onesT (by decide +kernel) ?_ | refine onesF (by decide +kernel) ?_ | refine one (by rfl) ?_)
    | ((with_reducible refine (?_ : wO _ (compareOp .In) _ _ _ _)); first | refine oin ?_)
    | ((with_reducible refine (?_ : wO _ (compareOp .NotIn) _ _ _ _)); first | refine onin ?_)
    | ((with_reducible refine (?_ : wO _ (compareOp .Is) _ _ _ _)); first | refine ois ?_)
    | ((with_reducible refine (?_ : wO _ (compareOp .IsNot) _ _ _ _)); first | refine onot ?_)
    | ((with_reducible refine (?_ : wO _ (binaryOp .RShift) _ _ _ _)); refine oshr (by first | decide | omega) ?_)
    | ((with_reducible refine (?_ : wO _ (binaryOp .BitXor) _ _ _ _)); refine oxor ?_)
    | ((with_reducible refine (?_ : wO _ (inplaceOp .BitXor) _ _ _ _)); refine ixor ?_)
    | ((with_reducible refine (?_ : wO _ (inplaceOp .RShift) _ _ _ _)); refine ishr (by first | decide | omega) ?_)
    | ((with_reducible refine (?_ : wO _ (inplaceOp .BitOr) _ _ _ _)); first | refine ior ?_)
    | ((with_reducible refine (?_ : wO _ (inplaceOp .Add) _ _ _ _)); first | refine iadd ?_))
  | ((with_reducible refine (?_ : wT _ _ _ _ _)); first
    | ((with_reducible refine (?_ : wT _ (.Compare _ _ _ _) _ _ _)); first | refine zcmpT (by rfl) ?_ | refine zchainT ?_)
    | ((with_reducible refine (?_ : wT _ (.UnaryOp _ _ _) _ _ _)); refine znotT ?_)
    | ((with_reducible refine (?_ : wT _ (.BoolOp _ _ _) _ _ _)); refine zW ?_)
    | refine zval ?_)
  | ((with_reducible refine (?_ : wW _ _ _ _ _)); first | refine zand ?_ | refine zor ?_ | refine zand1 ?_ | refine zor1 ?_)
  | ((with_reducible refine (?_ : wK _ _ _ _ _)); first
    | ((with_reducible refine (?_ : wK _ (.builtin "len") _ _ _)); first | refine klenL (by one_place) ?_ | refine klenT (by one_place) ?_ | refine klenS (by assumption) ?_)
    | ((with_reducible refine (?_ : wK _ (.builtin "isinstance") _ _ _)); first | refine kisE (by assumption) (by assumption) (by first | assumption | exact Xd.exx (by assumption) (by one_sign)) (by first | exact .own _ | exact .ty _) (by assumption) ?_ | refine kisi (.ty _) (by assumption) (by assumption) ?_ | refine kisi (.ty _) (.base (by first | exact .int _ | exact .bl _ | exact .str _ | exact .non | exact .tup (by one_item) | exact .lst (by one_item))) (kit_ty (r := true) (by rfl)) ?_ | refine kisi (.ty _) (.base (by first | exact .int _ | exact .bl _ | exact .str _ | exact .non | exact .tup (by one_item) | exact .lst (by one_item))) (kit_ty (r := false) (by rfl)) ?_)
    | ((with_reducible refine (?_ : wK _ (.builtin "divmod") _ _ _)); refine kdivmod ⟨by first | decide | omega, by decide⟩ (fun _ _ _ _ _ => ?_))
    | ((with_reducible refine (?_ : wK _ (.builtin "min") _ _ _)); refine kmin (by rfl) ?_)
    | ((with_reducible refine (?_ : wK _ (.builtin "max") _ _ _)); refine kmax (by rfl) ?_)
    | ((with_reducible refine (?_ : wK _ (.type "list") _ _ _)); first | refine klistL (by one_place) (fun _ _ _ _ _ => ?_) | refine klistT (by one_place) (fun _ _ _ _ _ => ?_))
    | ((with_reducible refine (?_ : wK _ (.type "tuple") _ _ _)); first | refine ktupL (by one_place) (fun _ _ _ _ _ => ?_)))
  | ((with_reducible refine (?_ : wS _ _ _ _ _)); first
    | ((with_reducible refine (?_ : wS _ (.Assign [.Name _ _] _ _) _ _ _)); refine sset' (by assumption) (by rfl) (by first | exact Or.inl rfl | exact Or.inr rfl) (by rfl) (by first | exact .inl rfl | exact .inr rfl) ?_)
    | ((with_reducible refine (?_ : wS _ (.AugAssign (.Name _ _) _ _ _) _ _ _)); refine saug' (by assumption) (by rfl) (by first | exact Or.inl rfl | exact Or.inr rfl) (by first | exact .inl rfl | exact .inr rfl) (by rfl) ?_)
    | ((with_reducible refine (?_ : wS _ (.Assign [.Attribute _ _ _] _ _) _ _ _)); refine sfld ?_)
    | ((with_reducible refine (?_ : wS _ (.Expr _ _) _ _ _)); refine sexp ?_)
    | ((with_reducible refine (?_ : wS _ (.Assign [.Tuple _ _ _] _ _) _ _ _)); refine sasg ?_) | ((with_reducible refine (?_ : wS _ (.Assign [.Subscript _ _ _] _ _) _ _ _)); refine sasg ?_)
    | refine sret ?_ | refine sif ?_ | refine sretN ?_ | refine spass ?_ | refine sbrk ?_ | refine scont ?_)
  | ((with_reducible refine (?_ : wG _ (.Name _ _) _ _ _ _)); refine gname' (by assumption) (by rfl) (by first | exact Or.inl rfl | exact Or.inr rfl) (by first | exact .inl rfl | exact .inr rfl) ?_)
  | ((with_reducible refine (?_ : wG _ (.Tuple _ _ _) _ _ _ _)); refine gtup rfl (by one_place) rfl ?_) | ((with_reducible refine (?_ : wG _ (.Subscript _ _ _) _ _ _ _)); refine gsub ?_)
  | ((with_reducible refine (?_ : wGs _ _ _ _ _ _)); first | refine gscons ?_ | refine gsnil ?_)
  | ((with_reducible refine (?_ : wB _ _ _ _ _)); first | refine bcons ?_ | refine bnil ?_)
  | refine ifT ?_ | refine ifF ?_ | refine ifd (fun _ => ?_) (fun _ => ?_) | refine ifnd (fun _ => ?_) (fun _ => ?_) | refine ⟨_, rfl, ?_⟩ | refine ⟨rfl, Evl.Ex.refl _, ?_⟩ | refine ⟨_, _, _, _, _, rfl, by one_item, by assumption, by assumption, by rfl, ?_⟩ | refine ⟨Nat.le_of_ble_eq_true rfl, fun _ _ _ _ _ => ?_⟩ | fail)
local macro_rules | `(tactic| top_name) => `(tactic| repeat' tb_rel)
local macro_rules | `(tactic| nest_fact) => `(tactic| first | exact ⟨(decide_eq_true (by omega)).symm, rfl⟩ | exact ⟨(decide_eq_false (by omega)).symm, rfl⟩ | exact ⟨decide_eq_decide.mpr (by omega), rfl⟩ | fail)
theorem cut_range {xs : List Int} {a e : Nat} (h0 : a ≤ e) (h1 : e ≤ xs.length) : cutV (xs.map V.int) (some (a : Int)) (some (e : Int)) = ((xs.drop a).take (e - a)).map V.int := by
  unfold cutV
  rw [List.length_map, HT.sIx_nat, HT.sIx_nat, Nat.min_eq_left h1, Nat.min_eq_left (by omega), ← List.map_drop, ← List.map_take]
/-! ### the law's own next -/
def NXout (H : Hp) (Q : VK) (a : Nat) : NX → Prop
  | .none => ∀ H', Ex H H' → Q .non H'
  | .bad p why b => ∀ t d H', Ex H H' → nw H H' t = some (.tup [.ref d, .int ((a + b : Nat) : Int)]) → nw H H' d = some (said ((a : Int) + p) why) → Q (.ref t) H'
  | .row ys n => ∀ t r H', Ex H H' → nw H H' t = some (.tup [.ref r, .int ((a + n : Nat) : Int), .bl true]) → nw H H' r = some (.lst (ys.map V.int)) → Q (.ref t) H'
def spLN : Sp := fun vs H Q _ => ∃ (l : Addr) (W : List Int) (a : Nat), vs = [.ref l, .int (a : Int)] ∧ H l = some (.lst (W.map V.int)) ∧ Bytes W ∧ a ≤ W.length ∧ W.length ≤ 20000 ∧ NXout H Q a (nx (W.drop a))
theorem ok_lnext (T : Txt K mg) : Gf P w K mg base 2 "_law_next" [] spLN := by
  refine gf_mk T.f__law_next T.m__law_next (fun _ _ _ _ _ _ us hl => match us, hl with | [_, _], _ => rfl) fun fd F => fn_mk F sc__law_next (fun vs H Q E h => ?_) fun cd A outer s H vs Q E hr tk po h => ?_
  · obtain ⟨l, W, a, rfl, _⟩ := h; rfl
  · obtain ⟨l, W, a, rfl, hl, hb, ha, hz, q⟩ := h
    have nd := sc__law_next.nd
    have n1 := T.n_range
    have n2 := T.n_len
    have hlm : (W.map V.int).length = W.length := List.length_map ..
    have hbX : Bytes (W.drop a) := fun x hx => hb x (List.mem_of_mem_drop hx)
    have hXl : (W.drop a).length = W.length - a := List.length_drop
    unfold nx at q
    generalize hR : numGo (W.drop a) 0 0 0 = R at q
    top_name
    refine lfor2 (lo := (a : Int)) (n := (W.length : Int)) n1 po rfl (fun i σ H' => Ex H H' ∧ i ≤ W.length - a ∧ ∃ (acc : Int) (v4 v5 : Option V), σ = [some (.ref l), some (.int (a : Int)), some (.int acc), some (.int (128 ^ i)), v4, v5, none, none] ∧ 0 ≤ acc ∧ numGo ((W.drop a).drop i) i (i : Int) acc = R) rfl ?_
    top_name
    refine ⟨rfl, ?_⟩
    top_name
    rw [hlm]
    refine ⟨rfl, ⟨by omega, by omega, by omega, by omega⟩, ⟨Evl.Ex.refl _, by omega, 0, none, none, rfl, by decide, hR⟩, ?_, ?_⟩
    · rintro i σ H1 hi ⟨e1, hi2, acc, v4, v5, rfl, a0, go⟩
      have hb' : ∃ b, (W.drop a)[i]? = some b ∧ W[a + i]? = some b := by
        refine ⟨(W.drop a)[i]'(by omega), List.getElem?_eq_getElem _, ?_⟩
        rw [List.getElem_drop, List.getElem?_eq_getElem]
      obtain ⟨b, hb1, hb2⟩ := hb'
      have hb3 := hb b (List.mem_of_getElem? hb2)
      have hd : (W.drop a).drop i = b :: (W.drop a).drop (i + 1) := by
        obtain ⟨hlt, hv⟩ := List.getElem?_eq_some_iff.mp hb1
        rw [List.drop_eq_getElem_cons hlt, hv]
      rw [hd] at go
      unfold numGo at go
      have pp : (0 : Int) ≤ b % 128 * 128 ^ i := Int.mul_nonneg (by omega) (Int.le_of_lt (Int.pow_pos (by decide)))
      have m0 := Int.emod_nonneg b (by decide : (128 : Int) ≠ 0)
      have m1 := Int.emod_lt_of_pos b (by decide : (0 : Int) < 128)
      have hl1 := e1 _ _ hl
      tb_rel
      refine bcut (fun σ' H' => H1 = H' ∧ σ' = [some (.ref l), some (.int (a : Int)), some (.int acc), some (.int (128 ^ i)), some (.int ((a : Int) + (i : Int))), some (.int b), none, none]) ?_ ?_
      · top_name
        refine ixL (SqL.of hl1) (show atI (W.map V.int) ((a : Int) + (i : Int)) = some (.int b) from by rw [← Int.natCast_add]; exact atI_nat (by rw [List.getElem?_map, hb2]; rfl)) ?_
        (repeat refine bnil ?_)
        exact ⟨rfl, rfl⟩
      rintro _ _ ⟨rfl, rfl⟩
      refine bcons (sif (tcut (decide ((i = 36 ∧ 15 < b) ∨ (b = 0 ∧ 0 < i))) ?_ ?_))
      · top_name
        all_goals nest_fact
      refine ifd (fun hc => ?_) (fun hc => ?_)
      · rw [if_pos hc] at go
        rw [← go] at q
        top_name
        rename_i t H2 ht e2 hx2 t3 H3 ht3 e3 hx3
        have q : NXout H Q a (if ("number" : Str) = "number" then NX.bad (i : Int) "number" ((i : Int) + 1).toNat else NX.none) := q
        rw [if_pos rfl] at q
        refine q t3 t H3 (e1.trans (e2.trans e3)) (nw_at (Evl.fresh_back (e1.trans e2) ht3) ?_) (nw_at (Evl.fresh_back e1 ht) ?_)
        · rw [hx3, show ((a + ((i : Int) + 1).toNat : Nat) : Int) = (a : Int) + (i : Int) + 1 from by omega]
        · rw [said_w (by decide +kernel)]
          exact e3 _ _ hx2
      rw [if_neg hc] at go
      refine bnil ?_
      top_name
      · rename_i hlt h3 t H2 ht e2 hx2 t3 H3 ht3 e3 hx3
        rw [if_pos hlt] at go
        rw [← go] at q
        have q : NXout H Q a (nxT (W.drop a) (acc + b % 128 * 128 ^ i) ((i : Int) + 1)) := q
        unfold nxT at q
        rw [if_pos h3] at q
        refine q t3 t H3 (e1.trans (e2.trans e3)) (nw_at (Evl.fresh_back (e1.trans e2) ht3) ?_) (nw_at (Evl.fresh_back e1 ht) ?_)
        · rw [hx3, show ((a + ((i : Int) + 1).toNat : Nat) : Int) = (a : Int) + (i : Int) + 1 from by omega]
        · rw [said_w (by decide +kernel), Int.add_zero]
          exact e3 _ _ hx2
      · rename_i hlt h3 h4
        rw [if_pos hlt] at go
        rw [← go] at q
        have q : NXout H Q a (nxT (W.drop a) (acc + b % 128 * 128 ^ i) ((i : Int) + 1)) := q
        unfold nxT at q
        rw [hlm] at h4
        rw [if_neg h3, if_pos (by rw [hXl]; omega)] at q
        exact q _ e1
      · rename_i hlt h3 h4
        rw [hlm] at h4
        rw [if_pos hlt] at go
        rw [← go] at q
        have q : NXout H Q a (nxT (W.drop a) (acc + b % 128 * 128 ^ i) ((i : Int) + 1)) := q
        unfold nxT at q
        rw [if_neg h3, if_neg (by rw [hXl]; omega)] at q
        generalize hn : acc + b % 128 * 128 ^ i = n at *
        have n0 : 0 ≤ n := by omega
        obtain ⟨k, hk⟩ : ∃ k : Nat, (i : Int) + 1 + n + 2 = (k : Int) := ⟨((i : Int) + 1 + n + 2).toNat, by omega⟩
        rw [show ((i : Int) + 1 + n + 2).toNat = k from by omega] at q
        have hkl : a + k ≤ W.length := by omega
        have hk3 : 3 ≤ k := by omega
        have hfl : ((W.drop a).take k).length = k := by rw [List.length_take]; omega
        have hat : ∀ j, j < k → W[a + j]? = some (((W.drop a).take k).getD j 0) := fun j hj => by
          rw [← getD_is (by omega), List.getElem?_take, if_pos hj, List.getElem?_drop]
        have hbf : Bytes ((W.drop a).take k) := bytes_take hbX k
        unfold nxF tailR checkOf at q
        rw [hfl, if_neg (by omega)] at q
        have i2 : atI (W.map V.int) ((a : Int) + (i : Int) + 1 + n + 2 - 2) = some (.int (((W.drop a).take k).getD (k - 2) 0)) := by
          rw [show (a : Int) + (i : Int) + 1 + n + 2 - 2 = ((a + (k - 2) : Nat) : Int) from by omega]
          exact atI_nat (by rw [List.getElem?_map, hat _ (by omega)]; rfl)
        have i1 : atI (W.map V.int) ((a : Int) + (i : Int) + 1 + n + 2 - 1) = some (.int (((W.drop a).take k).getD (k - 1) 0)) := by
          rw [show (a : Int) + (i : Int) + 1 + n + 2 - 1 = ((a + (k - 1) : Nat) : Int) from by omega]
          exact atI_nat (by rw [List.getElem?_map, hat _ (by omega)]; rfl)
        generalize hy2 : ((W.drop a).take k).getD (k - 2) 0 = y2 at *
        generalize hy1 : ((W.drop a).take k).getD (k - 1) 0 = y1 at *
        refine ixL (SqL.of hl1) i2 ?_
        top_name
        refine ixL (SqL.of hl1) i1 ?_
        top_name
        refine zcall (ok_lcheck T) hr (by decide) takesF rfl ?_
        top_name
        rename_i r H2 hr2 e2 hx2
        rw [show (a : Int) + (i : Int) + 1 + n + 2 - 2 = ((a + (k - 2) : Nat) : Int) from by omega, cut_range (by omega) (by omega), show a + (k - 2) - a = k - 2 from by omega] at hx2
        have htk : ((W.drop a).take k).take (k - 2) = (W.drop a).take (k - 2) := by rw [List.take_take, Nat.min_eq_left (by omega)]
        rw [htk] at q
        refine ⟨r, _, rfl, hx2, bytes_take hbX _, by rw [List.length_take]; omega, fun H3 e3 => ?_⟩
        have e13 := e1.trans (e2.trans e3)
        have hl3 := e3 _ _ (e2 _ _ hl1)
        top_name
        · rename_i hne t H4 ht e4 hx4 t5 H5 ht5 e5 hx5
          rw [if_pos (by rw [Int.mul_comm]; exact hne)] at q
          have q : NXout H Q a (.bad 0 "check" k) := q
          refine q t5 t H5 (e13.trans (e4.trans e5)) (nw_at (Evl.fresh_back (e13.trans e4) ht5) ?_) (nw_at (Evl.fresh_back e13 ht) ?_)
          · rw [hx5, show ((a + k : Nat) : Int) = (a : Int) + (i : Int) + 1 + n + 2 from by omega]
          · rw [said_c rfl]
            exact e5 _ _ hx4
        · rename_i hcc t H4 ht e4 hx4 t5 H5 ht5 e5 hx5
          rw [if_neg (by rw [Int.mul_comm]; exact fun z => z hcc)] at q
          have q : NXout H Q a (.row (((W.drop a).take (k - 2)).drop ((i : Int) + 1).toNat) k) := q
          rw [show (a : Int) + (i : Int) + 1 + n + 2 - 2 = ((a + (k - 2) : Nat) : Int) from by omega, show (a : Int) + (i : Int) + 1 = ((a + (i + 1) : Nat) : Int) from by omega, cut_range (by omega) (by omega)] at hx4
          refine q t5 t H5 (e13.trans (e4.trans e5)) (nw_at (Evl.fresh_back (e13.trans e4) ht5) ?_) (nw_at (Evl.fresh_back e13 ht) ?_)
          · rw [hx5, show ((a + k : Nat) : Int) = (a : Int) + (i : Int) + 1 + n + 2 from by omega]
          · rw [e5 _ _ hx4, List.drop_take, List.drop_drop, show ((i : Int) + 1).toNat = i + 1 from by omega, show a + (k - 2) - (a + (i + 1)) = k - 2 - (i + 1) from by omega]
      · rename_i hlt
        rw [if_neg hlt] at go
        refine ⟨e1, by omega, _, _, _, by rw [Int.pow_succ]; rfl, by omega, ?_⟩
        rw [← go]
        rfl
    · rintro σ H1 ⟨e1, hi2, acc, v4, v5, rfl, a0, go⟩
      rw [show ((W.length : Int) - (a : Int)).toNat = (W.drop a).length from by omega, List.drop_length, show numGo [] (W.drop a).length ((W.drop a).length : Int) acc = .bad ((W.drop a).length : Int) "cut" from rfl] at go
      rw [← go] at q
      have q : NXout H Q a (if ("cut" : Str) = "number" then NX.bad ((W.drop a).length : Int) "number" (((W.drop a).length : Int) + 1).toNat else NX.none) := q
      rw [if_neg (by decide +kernel)] at q
      top_name
      exact q _ e1
end K06

set_option maxRecDepth 100000
set_option maxHeartbeats 4000000
set_option pp.maxSteps 400
namespace K06
open PySem PySem.Spec PyProof.Rows L2 Z
open Evl (Ex)
variable {P : Program} {w : World} {K : PySem.W.Frag} {mg : Str → Option Value} {base : Heap}
/-! ### steps of the walk: one_sign: a heap grew into another; one_item: what stands at an address; one_place: a list or tuple to be read; leaf_len: arithmetic; tb_rel: one step; top_name: steps as far as they go -/
local macro_rules | `(tactic| got_up) => `(tactic| (refine Evl.Ex.trans (by assumption) ?_; first | assumption | exact Evl.Ex.refl _ | got_up))
local macro_rules | `(tactic| units_room) => `(tactic| (refine Evl.Ex.trans ?_ (by assumption); first | assumption | exact Evl.Ex.refl _ | units_room))
local macro_rules | `(tactic| one_sign) => `(tactic| first | assumption | exact Evl.Ex.refl _ | got_up | units_room)
local macro_rules | `(tactic| one_item) => `(tactic| first | assumption | exact upd_same | exact exa (by assumption) (by one_sign))
local macro_rules | `(tactic| one_place) => `(tactic| first | assumption | exact SqL.of (by assumption) | exact SqT.of (by assumption) | exact exl (by assumption) (by one_sign) | exact ext (by assumption) (by one_sign) | exact SqL.of (by one_item) | exact SqT.of (by one_item))
local macro_rules | `(tactic| leaf_len) => `(tactic| first | assumption | decide | omega)
local macro_rules | `(tactic| tb_rel) => `(tactic| first
  | ((with_reducible refine (?_ : wE _ _ _ _ _)); first
    | ((with_reducible refine (?_ : wE _ (.Name _ _) _ _ _)); first | refine zn (by rfl) (by first | exact Or.inl rfl | exact Or.inr (Or.inl rfl) | exact Or.inr (Or.inr rfl)) (by rfl) ?_ | refine zglob (by assumption) (by rfl) ?_ | refine zcls (by assumption) (by rfl) ?_ | refine zty (by assumption) (by first | exact bt_int | exact bt_bool | exact bt_str | exact bt_list | exact bt_tuple | exact bt_dict | exact bt_ValueError) (by rfl) ?_)
    | ((with_reducible refine (?_ : wE _ (.Attribute _ _ _) _ _ _)); refine zfld ?_)
    | ((with_reducible refine (?_ : wE _ (.Constant _ _ _) _ _ _)); first | refine zint ?_ | refine zstr ?_ | refine zbl ?_ | refine znon ?_)
    | ((with_reducible refine (?_ : wE _ (.BinOp _ _ _ _) _ _ _)); refine zbin ?_)
    | ((with_reducible refine (?_ : wE _ (.Compare _ _ _ _) _ _ _)); first | refine zcmp (by rfl) ?_ | refine zchain ?_)
    | ((with_reducible refine (?_ : wE _ (.Dict [] [] _) _ _ _)); refine zdnew (fun _ _ _ _ _ => ?_))
    | ((with_reducible refine (?_ : wE _ (.Subscript _ (.Slice _ _ _ _) _) _ _ _)); refine zsl ?_)
    | ((with_reducible refine (?_ : wE _ (.Subscript _ _ _) _ _ _)); refine zix ?_)
    | ((with_reducible refine (?_ : wE _ (.Call (.Name "list" _) [.Call (.Name "range" _) [_] [] _] [] _) _ _ _)); refine zlrg1 rfl (by rfl) (by assumption) (by rfl) (by assumption) ?_)
    | ((with_reducible refine (?_ : wE _ (.Call (.Name _ _) _ _ _) _ _ _)); first
      | ((with_reducible refine (?_ : wE _ (.Call (.Name "len" _) _ _ _) _ _ _)); refine zbfn (by assumption) bt_len (by rfl) ?_)
      | ((with_reducible refine (?_ : wE _ (.Call (.Name "isinstance" _) _ _ _) _ _ _)); refine zbfn (by assumption) bt_isi (by rfl) ?_)
      | ((with_reducible refine (?_ : wE _ (.Call (.Name "min" _) _ _ _) _ _ _)); refine zbfn (by assumption) bt_min (by rfl) ?_)
      | ((with_reducible refine (?_ : wE _ (.Call (.Name "max" _) _ _ _) _ _ _)); refine zbfn (by assumption) bt_max (by rfl) ?_)
      | ((with_reducible refine (?_ : wE _ (.Call (.Name "list" _) _ _ _) _ _ _)); refine zbty (by assumption) bt_list (by rfl) ?_)
      | ((with_reducible refine (?_ : wE _ (.Call (.Name "tuple" _) _ _ _) _ _ _)); refine zbty (by assumption) bt_tuple (by rfl) ?_)
      | ((with_reducible refine (?_ : wE _ (.Call (.Name "int" _) _ _ _) _ _ _)); refine zbty (by assumption) bt_int (by rfl) ?_)
      | ((with_reducible refine (?_ : wE _ (.Call (.Name "abs" _) _ _ _) _ _ _)); refine zbfn (by assumption) bt_abs (by rfl) ?_)
      | ((with_reducible refine (?_ : wE _ (.Call (.Name "all" _) _ _ _) _ _ _)); refine zbfn (by assumption) bt_all (by rfl) ?_)
      | ((with_reducible refine (?_ : wE _ (.Call (.Name "sum" _) _ _ _) _ _ _)); refine zbfn (by assumption) bt_sum (by rfl) ?_)
      | ((with_reducible refine (?_ : wE _ (.Call (.Name "divmod" _) _ _ _) _ _ _)); refine zbfn (by assumption) bt_divmod (by rfl) ?_)
      | ((with_reducible refine (?_ : wE _ (.Call (.Name "ord" _) _ _ _) _ _ _)); refine zbfn (by assumption) bt_ord (by rfl) ?_))
    | ((with_reducible refine (?_ : wE _ (.IfExp _ _ _ _) _ _ _)); refine zif ?_)
    | ((with_reducible refine (?_ : wE _ (.Tuple _ _ _) _ _ _)); refine ztup ?_)
    | ((with_reducible refine (?_ : wE _ (.List _ _) _ _ _)); refine zlst ?_)
    | ((with_reducible refine (?_ : wE _ (.UnaryOp _ _ _) _ _ _)); first | refine znotV ?_ | refine zneg ?_)
    | ((with_reducible refine (?_ : wE _ (.BoolOp _ _ _) _ _ _)); first | refine zandV ?_ | refine zorV ?_ | refine zoneV ?_))
  | ((with_reducible refine (?_ : bE _ _ _ _ _ _)); refine ⟨fun _ _ _ _ _ => ?_⟩) | ((with_reducible refine (?_ : bG _ _ _ _ _ _ _)); refine ⟨fun _ _ _ _ _ => ?_⟩) | ((with_reducible refine (?_ : bTs _ _ _ _ _ _)); refine ⟨fun _ _ _ _ _ => ?_⟩)
  | ((with_reducible refine (?_ : hE _ _ _ _ _ _)); refine ⟨fun _ _ _ _ _ => ?_⟩) | ((with_reducible refine (?_ : hG _ _ _ _ _ _ _)); refine ⟨fun _ _ _ _ _ => ?_⟩) | ((with_reducible refine (?_ : hTs _ _ _ _ _ _)); refine ⟨fun _ _ _ _ _ => ?_⟩)
  | ((with_reducible refine (?_ : wP _ _ _ _ _)); first | refine pnon ?_ | refine psom ?_) | ((with_reducible refine (?_ : wSl _ _ _ _ _ _)); first | refine slL (by one_place) (fun _ _ _ _ _ => ?_) | refine slS (by assumption) ?_)
  | ((with_reducible refine (?_ : wTs _ _ _ _ _)); first | refine tsnil ?_ | refine tsone ?_)
  | ((with_reducible refine (?_ : wA _ _ _ _ _)); first | refine acons ?_ | refine anil ?_)
  | ((with_reducible refine (?_ : wO _ _ _ _ _ _)); first
    | ((with_reducible refine (?_ : wO _ (binaryOp .Add) _ _ _ _)); first | refine oadd ?_ | refine ocatE (by one_item) (by one_item) (Nat.le_of_ble_eq_true rfl) (fun _ _ _ _ _ => ?_))
    | ((with_reducible refine (?_ : wO _ (binaryOp .Sub) _ _ _ _)); first | refine osub ?_)
    | ((with_reducible refine (?_ : wO _ (binaryOp .Mult) _ _ _ _)); first | refine omul (by first | exact IntMulOk.of_right (by decide) | exact IntMulOk.of_left (by decide) | exact IntMulOk.of_right (intBits_le_64 (by omega) (by omega)) | exact IntMulOk.of_left (intBits_le_64 (by omega) (by omega))) ?_)
    | ((with_reducible refine (?_ : wO _ (binaryOp .Mod) _ _ _ _)); first | refine omod (by first | decide | omega) ?_)
    | ((with_reducible refine (?_ : wO _ (binaryOp .FloorDiv) _ _ _ _)); first | refine ofdiv ⟨by first | decide | omega, by decide⟩ ?_)
    | ((with_reducible refine (?_ : wO _ (binaryOp .BitAnd) _ _ _ _)); first | refine oand ?_)
    | ((with_reducible refine (?_ : wO _ (binaryOp .BitOr) _ _ _ _)); first | refine oor ?_)
    | ((with_reducible refine (?_ : wO _ (compareOp .Lt) _ _ _ _)); first | refine olt ?_)
    | ((with_reducible refine (?_ : wO _ (compareOp .LtE) _ _ _ _)); first | refine ole ?_)
    | ((with_reducible refine (?_ : wO _ (compareOp .Gt) _ _ _ _)); first | refine ogt ?_)
    | ((with_reducible refine (?_ : wO _ (compareOp .GtE) _ _ _ _)); first | refine oge ?_)
    | ((with_reducible refine (?_ : wO _ (compareOp .Eq) _ _ _ _)); first | refine oeqi ?_ | refine oeqsT (by decide +kernel) ?_ | refine oeqsF (by decide +kernel) ?_ | refine oeq (by rfl) ?_)
    | ((with_reducible refine (?_ : wO _ (compareOp .NotEq) _ _ _ _)); first | refine onei ?_ | refine onesT (by decide +kernel) ?_ | refine onesF (by decide +kernel) ?_ | refine one (by rfl) ?_)
    | ((with_reducible refine (?_ : wO _ (compareOp .In) _ _ _ _)); first | refine oin ?_)
    | ((with_reducible refine (?_ : wO _ (compareOp .NotIn) _ _ _ _)); first | refine onin ?_)
    | ((with_reducible refine (?_ : wO _ (compareOp .Is) _ _ _ _)); first | refine ois ?_)
    | ((with_reducible refine (?_ : wO _ (compareOp .IsNot) _ _ _ _)); first | refine onot ?_)
    | ((with_reducible refine (?_ : wO _ (binaryOp .RShift) _ _ _ _)); refine oshr (by first | decide | omega) ?_)
    | ((with_reducible refine (?_ : wO _ (binaryOp .BitXor) _ _ _ _)); refine oxor ?_)
    | ((with_reducible refine (?_ : wO _ (inplaceOp .BitXor) _ _ _ _)); refine ixor ?_)
    | ((with_reducible refine (?_ : wO _ (inplaceOp .RShift) _ _ _ _)); refine ishr (by first | decide | omega) ?_)
    | ((with_reducible refine (?_ : wO _ (inplaceOp .BitOr) _ _ _ _)); first | refine ior ?_)
    | ((with_reducible refine (?_ : wO _ (inplaceOp .Add) _ _ _ _)); first | refine iadd ?_))
  | ((with_reducible refine (?_ : wT _ _ _ _ _)); first
    | ((with_reducible refine (?_ : wT _ (.Compare _ _ _ _) _ _ _)); first | refine zcmpT (by rfl) ?_ | refine zchainT ?_)
    | ((with_reducible refine (?_ : wT _ (.UnaryOp _ _ _) _ _ _)); refine znotT ?_)
    | ((with_reducible refine (?_ : wT _ (.BoolOp _ _ _) _ _ _)); refine zW ?_)
    | refine zval ?_)
  | ((with_reducible refine (?_ : wW _ _ _ _ _)); first | refine zand ?_ | refine zor ?_ | refine zand1 ?_ | refine zor1 ?_)
  | ((with_reducible refine (?_ : wK _ _ _ _ _)); first
    | ((with_reducible refine (?_ : wK _ (.builtin "len") _ _ _)); first | refine klenL (by one_place) ?_ | refine klenT (by one_place) ?_ | refine klenS (by assumption) ?_)
    | ((with_reducible refine (?_ : wK _ (.builtin "isinstance") _ _ _)); first | refine kisE (by assumption) (by assumption) (by first | assumption | exact Xd.exx (by assumption) (by one_sign)) (by first | exact .own _ | exact .ty _) (by assumption) ?_ | refine kisi (.ty _) (by assumption) (by assumption) ?_ | refine kisi (.ty _) (.base (by first | exact .int _ | exact .bl _ | exact .str _ | exact .non | exact .tup (by one_item) | exact .lst (by one_item))) (kit_ty (r := true) (by rfl)) ?_ | refine kisi (.ty _) (.base (by first | exact .int _ | exact .bl _ | exact .str _ | exact .non | exact .tup (by one_item) | exact .lst (by one_item))) (kit_ty (r := false) (by rfl)) ?_)
    | ((with_reducible refine (?_ : wK _ (.builtin "divmod") _ _ _)); refine kdivmod ⟨by first | decide | omega, by decide⟩ (fun _ _ _ _ _ => ?_))
    | ((with_reducible refine (?_ : wK _ (.builtin "min") _ _ _)); refine kmin (by rfl) ?_)
    | ((with_reducible refine (?_ : wK _ (.builtin "max") _ _ _)); refine kmax (by rfl) ?_)
    | ((with_reducible refine (?_ : wK _ (.type "list") _ _ _)); first | refine klistL (by one_place) (fun _ _ _ _ _ => ?_) | refine klistT (by one_place) (fun _ _ _ _ _ => ?_))
    | ((with_reducible refine (?_ : wK _ (.type "tuple") _ _ _)); first | refine ktupL (by one_place) (fun _ _ _ _ _ => ?_)))
  | ((with_reducible refine (?_ : wS _ _ _ _ _)); first
    | ((with_reducible refine (?_ : wS _ (.Assign [.Name _ _] _ _) _ _ _)); refine sset' (by assumption) (by rfl) (by first | exact Or.inl rfl | exact Or.inr rfl) (by rfl) (by first | exact .inl rfl | exact .inr rfl) ?_)
    | ((with_reducible refine (?_ : wS _ (.AugAssign (.Name _ _) _ _ _) _ _ _)); refine saug' (by assumption) (by rfl) (by first | exact Or.inl rfl | exact Or.inr rfl) (by first | exact .inl rfl | exact .inr rfl) (by rfl) ?_)
    | ((with_reducible refine (?_ : wS _ (.Assign [.Attribute _ _ _] _ _) _ _ _)); refine sfld ?_)
    | ((with_reducible refine (?_ : wS _ (.Expr _ _) _ _ _)); refine sexp ?_)
    | ((with_reducible refine (?_ : wS _ (.Assign [.Tuple _ _ _] _ _) _ _ _)); refine sasg ?_) | ((with_reducible refine (?_ : wS _ (.Assign [.Subscript _ _ _] _ _) _ _ _)); refine sasg ?_)
    | refine sret ?_ | refine sif ?_ | refine sretN ?_ | refine spass ?_ | refine sbrk ?_ | refine scont ?_)
  | ((with_reducible refine (?_ : wG _ (.Name _ _) _ _ _ _)); refine gname' (by assumption) (by rfl) (by first | exact Or.inl rfl | exact Or.inr rfl) (by first | exact .inl rfl | exact .inr rfl) ?_)
  | ((with_reducible refine (?_ : wG _ (.Tuple _ _ _) _ _ _ _)); refine gtup rfl (by one_place) rfl ?_) | ((with_reducible refine (?_ : wG _ (.Subscript _ _ _) _ _ _ _)); refine gsub ?_)
  | ((with_reducible refine (?_ : wGs _ _ _ _ _ _)); first | refine gscons ?_ | refine gsnil ?_)
  | ((with_reducible refine (?_ : wB _ _ _ _ _)); first | refine bcons ?_ | refine bnil ?_)
  | refine ifT ?_ | refine ifF ?_ | refine ifd (fun _ => ?_) (fun _ => ?_) | refine ifnd (fun _ => ?_) (fun _ => ?_) | refine ⟨_, rfl, ?_⟩ | refine ⟨rfl, Evl.Ex.refl _, ?_⟩ | refine ⟨_, _, _, _, _, rfl, by one_item, by assumption, by assumption, by rfl, ?_⟩ | refine ⟨Nat.le_of_ble_eq_true rfl, fun _ _ _ _ _ => ?_⟩ | fail)
local macro_rules | `(tactic| top_name) => `(tactic| repeat' tb_rel)
local macro_rules | `(tactic| nest_fact) => `(tactic| first | exact ⟨(decide_eq_true (by omega)).symm, rfl⟩ | exact ⟨(decide_eq_false (by omega)).symm, rfl⟩ | exact ⟨decide_eq_decide.mpr (by omega), rfl⟩ | fail)
/-! ### the law's own due -/
inductive PairsAt (H : Hp) : List V → List (List Int × Nat) → Prop
  | nil : PairsAt H [] []
  | cons {p r : Addr} {ys : List Int} {e : Nat} {ps : List V} {rs : List (List Int × Nat)} (h : H p = some (.tup [.ref r, .int (e : Int)])) (g : H r = some (.lst (ys.map V.int))) (t : PairsAt H ps rs) : PairsAt H (.ref p :: ps) ((ys, e) :: rs)
theorem PairsAt.ex {H H' : Hp} (e : Ex H H') : ∀ {ps : List V} {rs : List (List Int × Nat)}, PairsAt H ps rs → PairsAt H' ps rs
  | _, _, .nil => .nil
  | _, _, .cons h g t => .cons (e _ _ h) (e _ _ g) (t.ex e)
theorem PairsAt.app {H : Hp} : ∀ {ps us : List V} {rs qs : List (List Int × Nat)}, PairsAt H ps rs → PairsAt H us qs → PairsAt H (ps ++ us) (rs ++ qs)
  | _, _, _, _, .nil, g => g
  | _, _, _, _, .cons a b t, g => .cons a b (t.app g)
theorem PairsAt.length {H : Hp} : ∀ {ps : List V} {rs : List (List Int × Nat)}, PairsAt H ps rs → ps.length = rs.length
  | _, _, .nil => rfl
  | _, _, .cons _ _ t => congrArg (· + 1) t.length
/-- the refusal that is due -/
inductive WAt (H : Hp) : V → Option (Int × Str × Nat) → Prop
  | no : WAt H .non none
  | so {t d : Addr} {p : Int} {why : Str} {b : Nat} (h : H t = some (.tup [.ref d, .int (b : Int)])) (g : H d = some (said p why)) : WAt H (.ref t) (some (p, why, b))
/-- what the law's next tells, as it stands -/
inductive NAt (H : Hp) (a : Nat) : V → NX → Prop
  | no : NAt H a .non .none
  | bad {t d : Addr} {p : Int} {why : Str} {b : Nat} (h : H t = some (.tup [.ref d, .int ((a + b : Nat) : Int)])) (g : H d = some (said ((a : Int) + p) why)) : NAt H a (.ref t) (.bad p why b)
  | row {t r : Addr} {ys : List Int} {n : Nat} (h : H t = some (.tup [.ref r, .int ((a + n : Nat) : Int), .bl true])) (g : H r = some (.lst (ys.map V.int))) : NAt H a (.ref t) (.row ys n)
theorem NAt.ex {H H' : Hp} (e : Ex H H') {a : Nat} {v : V} {x : NX} (h : NAt H a v x) : NAt H' a v x := by
  cases h with
  | no => exact .no
  | bad h g => exact .bad (e _ _ h) (e _ _ g)
  | row h g => exact .row (e _ _ h) (e _ _ g)
/-- a call of the law's next -/
theorem to_next {H : Hp} {Q : VK} {l : Addr} {W : List Int} {a : Nat} {E : XK} (hl : H l = some (.lst (W.map V.int))) (hb : Bytes W) (ha : a ≤ W.length) (hz : W.length ≤ 20000) (q : ∀ v H', Ex H H' → NAt (nw H H') a v (nx (W.drop a)) → Q v H') : spLN [.ref l, .int (a : Int)] H Q E := by
  refine ⟨l, W, a, rfl, hl, hb, ha, hz, ?_⟩
  cases h : nx (W.drop a) with
  | none => rw [h] at q; exact fun H' e => q _ H' e .no
  | bad p why b => rw [h] at q; exact fun t d H' e h1 h2 => q _ H' e (.bad h1 h2)
  | row ys n => rw [h] at q; exact fun t r H' e h1 h2 => q _ H' e (.row h1 h2)
theorem nw_step {H Hj H' : Hp} {L : Addr} {o : HO} (e : Ex H Hj) (h : Hj L = some o) : Ex (nw Hj H') (nw H (del H' L)) := fun b z q => by
  have n : b ≠ L := fun e => by subst e; unfold nw at q; rw [h] at q; cases q
  have := nw_more e _ _ q
  unfold nw at this ⊢
  rw [del_ne n]
  exact this
theorem Du.len {xs : List Int} {A : Nat} {rs : List (List Int × Nat)} {w : Option (Int × Str × Nat)} (d : Du xs A rs w) : Bytes xs → rs.length ≤ xs.length := by
  induction d with
  | none h => exact fun _ => Nat.zero_le _
  | bad h => exact fun _ => Nat.zero_le _
  | row h d ih =>
    intro hb
    have hr := nx_row hb h
    have := ih fun x hx => hb x (List.mem_of_mem_drop hx)
    rw [List.length_drop] at this
    rw [List.length_cons]
    omega
def spLD : Sp := fun vs H Q _ => ∃ (l : Addr) (W : List Int) (rs : List (List Int × Nat)) (w : Option (Int × Str × Nat)), vs = [.ref l] ∧ H l = some (.lst (W.map V.int)) ∧ Bytes W ∧ W.length ≤ 20000 ∧ Du W 0 rs w ∧
  ∀ t f m ps H', Ex H H' → nw H H' t = some (.tup [.ref f, m]) → nw H H' f = some (.lst ps) → PairsAt (nw H H') ps rs → WAt (nw H H') m w → Q (.ref t) H'
theorem ok_ldue (T : Txt K mg) : Gf P w K mg base 3 "_law_due" [] spLD := by
  refine gf_mk T.f__law_due T.m__law_due (fun _ _ _ _ _ _ us hl => match us, hl with | [_], _ => rfl) fun fd F => fn_mk F sc__law_due (fun vs H Q E h => ?_) fun cd A outer s H vs Q E hr tk po h => ?_
  · obtain ⟨l, W, rs, w, rfl, _⟩ := h; rfl
  · obtain ⟨l, W, rs, wr, rfl, hl, hb, hz, hD, q⟩ := h
    have nd := sc__law_due.nd
    have n2 := T.n_len
    have hrs := hD.len hb
    top_name
    rename_i f H1 hf e1 hx1
    refine zcall (ok_lnext T) hr (by decide) takesF rfl ?_
    top_name
    refine to_next (a := 0) (e1 _ _ hl) hb (by omega) hz fun m H2 e2 hm => ?_
    top_name
    refine lwhile po (fun σ H' => Ex H H' ∧ ∃ (a : Nat) (ps : List V) (done rs2 : List (List Int × Nat)) (m : V), σ = [some (.ref l), some (.ref f), some (.int (a : Int)), some m] ∧ a ≤ W.length ∧ H' f = some (.lst ps) ∧ PairsAt (nw H (del H' f)) ps done ∧ NAt (nw H (del H' f)) a m (nx (W.drop a)) ∧ Du (W.drop a) a rs2 wr ∧ rs = done ++ rs2) (fun σ H' => match H' f with | some (.lst zs) => rs.length + 1 - zs.length | _ => 0) ⟨e1.trans e2, 0, [], [], rs, m, rfl, Nat.zero_le _, e2 _ _ hx1, .nil, hm.ex (nw_step e1 hx1), hD, rfl⟩ ?_
    rintro σ H3 ⟨e3, a, ps, done, rs2, m, rfl, ha, hf3, hp, hn, hd, he⟩
    have hpl := hp.length
    have hbX : Bytes (W.drop a) := fun x hx => hb x (List.mem_of_mem_drop hx)
    have dn : Ex (nw H (del H3 f)) (nw H H3) := nw_mono (del_ex _ _)
    generalize hX : nx (W.drop a) = X at hn
    have hfH : H f = none := hf
    cases hn with
    | no =>
      obtain ⟨rfl, rfl⟩ : rs2 = [] ∧ wr = none := by cases hd with
        | none h => exact ⟨rfl, rfl⟩
        | bad h => rw [h] at hX; cases hX
        | row h d => rw [h] at hX; cases hX
      top_name
      rename_i t H4 ht e4 hx4
      have e34 := e3.trans e4
      rw [he, List.append_nil] at q
      exact q t f .non ps H4 e34 (nw_at (Evl.fresh_back e3 ht) hx4) (nw_at hfH (e4 _ _ hf3)) (hp.ex (dn.trans (nw_mono e4))) .no
    | @bad t d p why b h g =>
      have h3 := nw_sub _ _ (dn _ _ h)
      obtain ⟨rfl, rfl⟩ : rs2 = [] ∧ wr = some ((a : Int) + p, why, a + b) := by cases hd with
        | none h => rw [h] at hX; cases hX
        | bad h => rw [h] at hX; cases hX; exact ⟨rfl, rfl⟩
        | row h d => rw [h] at hX; cases hX
      top_name
      rename_i t4 H4 ht e4 hx4
      have e34 := e3.trans e4
      rw [he, List.append_nil] at q
      exact q t4 f _ ps H4 e34 (nw_at (Evl.fresh_back e3 ht) hx4) (nw_at hfH (e4 _ _ hf3)) (hp.ex (dn.trans (nw_mono e4))) (.so ((dn.trans (nw_mono e4)) _ _ h) ((dn.trans (nw_mono e4)) _ _ g))
    | @row t r ys n h g =>
      have h3 := nw_sub _ _ (dn _ _ h)
      have hrow := nx_row hbX hX
      have hXl : (W.drop a).length = W.length - a := List.length_drop
      obtain ⟨rs3, rfl, hd3⟩ : ∃ rs3, rs2 = (ys, a + n) :: rs3 ∧ Du ((W.drop a).drop n) (a + n) rs3 wr := by cases hd with
        | none h => rw [h] at hX; cases hX
        | bad h => rw [h] at hX; cases hX
        | row h d => rw [h] at hX; cases hX; exact ⟨_, rfl, d⟩
      have hrl : rs.length = done.length + (rs3.length + 1) := by rw [he, List.length_append, List.length_cons]
      top_name
      refine zapp ?_
      top_name
      refine ⟨f, _, rfl, hf3, ?_⟩
      top_name
      refine ixT (SqT.of h3) (atI_nat (j := 0) rfl) ?_
      top_name
      refine ixT (SqT.of h3) (atI_nat (j := 1) rfl) ?_
      top_name
      rename_i t4 H4 ht4 e4 hx4
      refine ⟨ps, e4 _ _ hf3, by rw [sizeLine_eq]; omega, ?_⟩
      have e34 := e3.trans e4
      have n4 : t4 ≠ f := fun z => by rw [z, hf3] at ht4; cases ht4
      have e5 : Ex H (upd H4 f (.lst (ps ++ [.ref t4]))) := Ex.past e34 hfH
      have h5 : upd H4 f (.lst (ps ++ [V.ref t4])) t = some (.tup [.ref r, .int ((a + n : Nat) : Int), .bl true]) := by
        rw [upd_ne (fun z => by rw [z, hf3] at h3; cases h3)]
        exact e4 _ _ h3
      have d45 : Ex (del H3 f) (del (upd H4 f (.lst (ps ++ [V.ref t4]))) f) := del_mono fun b o n e => by rw [upd_ne n]; exact e4 _ _ e
      top_name
      refine ixT (SqT.of h5) (atI_nat (j := 1) rfl) ?_
      top_name
      refine zcall (ok_lnext T) hr (by decide) takesF rfl ?_
      top_name
      refine to_next (a := a + n) (e5 _ _ hl) hb (by omega) hz fun m' H6 e6 hm => ?_
      top_name
      have d46 : Ex (nw H (del H3 f)) (nw H (del H6 f)) := nw_mono (d45.trans (del_mono fun b o _ e => e6 b o e))
      refine ⟨⟨e5.trans e6, a + n, ps ++ [.ref t4], done ++ [(ys, a + n)], rs3, m', rfl, by omega, e6 _ _ upd_same, (hp.ex d46).app (.cons ?_ (d46 _ _ g) .nil), hm.ex (nw_step e5 upd_same), ?_, by rw [he, List.append_assoc]; rfl⟩, ?_⟩
      · refine nw_at (Evl.fresh_back e3 ht4) (del_at (e6 _ _ ?_) n4)
        rw [upd_ne n4]
        exact hx4
      · rw [← List.drop_drop]
        exact hd3
      · show (match H6 f with | some (.lst zs) => rs.length + 1 - zs.length | _ => 0) < (match H3 f with | some (.lst zs) => rs.length + 1 - zs.length | _ => 0)
        rw [e6 _ _ upd_same, hf3]
        show rs.length + 1 - (ps ++ [V.ref t4]).length < rs.length + 1 - ps.length
        rw [List.length_append]
        show rs.length + 1 - (ps.length + 1) < _
        omega
end K06

set_option maxRecDepth 100000
set_option maxHeartbeats 4000000
set_option pp.maxSteps 400
namespace K06
open PySem PySem.Spec PyProof.Rows L2 Z
open Evl (Ex)
variable {P : Program} {w : World} {K : PySem.W.Frag} {mg : Str → Option Value} {base : Heap}
/-! ### steps of the walk: one_sign: a heap grew into another; one_item: what stands at an address; one_place: a list or tuple to be read; leaf_len: arithmetic; tb_rel: one step; top_name: steps as far as they go -/
local macro_rules | `(tactic| got_up) => `(tactic| (refine Evl.Ex.trans (by assumption) ?_; first | assumption | exact Evl.Ex.refl _ | got_up))
local macro_rules | `(tactic| units_room) => `(tactic| (refine Evl.Ex.trans ?_ (by assumption); first | assumption | exact Evl.Ex.refl _ | units_room))
local macro_rules | `(tactic| one_sign) => `(tactic| first | assumption | exact Evl.Ex.refl _ | got_up | units_room)
local macro_rules | `(tactic| one_item) => `(tactic| first | assumption | exact upd_same | exact exa (by assumption) (by one_sign))
local macro_rules | `(tactic| one_place) => `(tactic| first | assumption | exact SqL.of (by assumption) | exact SqT.of (by assumption) | exact exl (by assumption) (by one_sign) | exact ext (by assumption) (by one_sign) | exact SqL.of (by one_item) | exact SqT.of (by one_item))
local macro_rules | `(tactic| leaf_len) => `(tactic| first | assumption | decide | omega)
local macro_rules | `(tactic| tb_rel) => `(tactic| first
  | ((with_reducible refine (?_ : wE _ _ _ _ _)); first
    | ((with_reducible refine (?_ : wE _ (.Name _ _) _ _ _)); first | refine zn (by rfl) (by first | exact Or.inl rfl | exact Or.inr (Or.inl rfl) | exact Or.inr (Or.inr rfl)) (by rfl) ?_ | refine zglob (by assumption) (by rfl) ?_ | refine zcls (by assumption) (by rfl) ?_ | refine zty (by assumption) (by first | exact bt_int | exact bt_bool | exact bt_str | exact bt_list | exact bt_tuple | exact bt_dict | exact bt_ValueError) (by rfl) ?_)
    | ((with_reducible refine (?_ : wE _ (.Attribute _ _ _) _ _ _)); refine zfld ?_)
    | ((with_reducible refine (?_ : wE _ (.Constant _ _ _) _ _ _)); first | refine zint ?_ | refine zstr ?_ | refine zbl ?_ | refine znon ?_)
    | ((with_reducible refine (?_ : wE _ (.BinOp _ _ _ _) _ _ _)); refine zbin ?_)
    | ((with_reducible refine (?_ : wE _ (.Compare _ _ _ _) _ _ _)); first | refine zcmp (by rfl) ?_ | refine zchain ?_)
    | ((with_reducible refine (?_ : wE _ (.Dict [] [] _) _ _ _)); refine zdnew (fun _ _ _ _ _ => ?_))
    | ((with_reducible refine (?_ : wE _ (.Subscript _ (.Slice _ _ _ _) _) _ _ _)); refine zsl ?_)
    | ((with_reducible refine (?_ : wE _ (.Subscript _ _ _) _ _ _)); refine zix ?_)
    | ((with_reducible refine (?_ : wE _ (.Call (.Name "list" _) [.Call (.Name "range" _) [_] [] _] [] _) _ _ _)); refine zlrg1 rfl (by rfl) (by assumption) (by rfl) (by assumption) ?_)
    | ((with_reducible refine (?_ : wE _ (.Call (.Name _ _) _ _ _) _ _ _)); first
      | ((with_reducible refine (?_ : wE _ (.Call (.Name "len" _) _ _ _) _ _ _)); refine zbfn (by assumption) bt_len (by rfl) ?_)
      | ((with_reducible refine (?_ : wE _ (.Call (.Name "isinstance" _) _ _ _) _ _ _)); refine zbfn (by assumption) bt_isi (by rfl) ?_)
      | ((with_reducible refine (?_ : wE _ (.Call (.Name "min" _) _ _ _) _ _ _)); refine zbfn (by assumption) bt_min (by rfl) ?_)
      | ((with_reducible refine (?_ : wE _ (.Call (.Name "max" _) _ _ _) _ _ _)); refine zbfn (by assumption) bt_max (by rfl) ?_)
      | ((with_reducible refine (?_ : wE _ (.Call (.Name "list" _) _ _ _) _ _ _)); refine zbty (by assumption) bt_list (by rfl) ?_)
      | ((with_reducible refine (?_ : wE _ (.Call (.Name "tuple" _) _ _ _) _ _ _)); refine zbty (by assumption) bt_tuple (by rfl) ?_)
      | ((with_reducible refine (?_ : wE _ (.Call (.Name "int" _) _ _ _) _ _ _)); refine zbty (by assumption) bt_int (by rfl) ?_)
      | ((with_reducible refine (?_ : wE _ (.Call (.Name "abs" _) _ _ _) _ _ _)); refine zbfn (by assumption) bt_abs (by rfl) ?_)
      | ((with_reducible refine (?_ : wE _ (.Call (.Name "all" _) _ _ _) _ _ _)); refine zbfn (by assumption) bt_all (by rfl) ?_)
      | ((with_reducible refine (?_ : wE _ (.Call (.Name "sum" _) _ _ _) _ _ _)); refine zbfn (by assumption) bt_sum (by rfl) ?_)
      | ((with_reducible refine (?_ : wE _ (.Call (.Name "divmod" _) _ _ _) _ _ _)); refine zbfn (by assumption) bt_divmod (by rfl) ?_)
      | ((with_reducible refine (?_ : wE _ (.Call (.Name "ord" _) _ _ _) _ _ _)); refine zbfn (by assumption) bt_ord (by rfl) ?_))
    | ((with_reducible refine (?_ : wE _ (.IfExp _ _ _ _) _ _ _)); refine zif ?_)
    | ((with_reducible refine (?_ : wE _ (.Tuple _ _ _) _ _ _)); refine ztup ?_)
    | ((with_reducible refine (?_ : wE _ (.List _ _) _ _ _)); refine zlst ?_)
    | ((with_reducible refine (?_ : wE _ (.UnaryOp _ _ _) _ _ _)); first | refine znotV ?_ | refine zneg ?_)
    | ((with_reducible refine (?_ : wE _ (.BoolOp _ _ _) _ _ _)); first | refine zandV ?_ | refine zorV ?_ | refine zoneV ?_))
  | ((with_reducible refine (?_ : bE _ _ _ _ _ _)); refine ⟨fun _ _ _ _ _ => ?_⟩) | ((with_reducible refine (?_ : bG _ _ _ _ _ _ _)); refine ⟨fun _ _ _ _ _ => ?_⟩) | ((with_reducible refine (?_ : bTs _ _ _ _ _ _)); refine ⟨fun _ _ _ _ _ => ?_⟩)
  | ((with_reducible refine (?_ : hE _ _ _ _ _ _)); refine ⟨fun _ _ _ _ _ => ?_⟩) | ((with_reducible refine (?_ : hG _ _ _ _ _ _ _)); refine ⟨fun _ _ _ _ _ => ?_⟩) | ((with_reducible refine (?_ : hTs _ _ _ _ _ _)); refine ⟨fun _ _ _ _ _ => ?_⟩)
  | ((with_reducible refine (?_ : wP _ _ _ _ _)); first | refine pnon ?_ | refine psom ?_) | ((with_reducible refine (?_ : wSl _ _ _ _ _ _)); first | refine slL (by one_place) (fun _ _ _ _ _ => ?_) | refine slS (by assumption) ?_)
  | ((with_reducible refine (?_ : wTs _ _ _ _ _)); first | refine tsnil ?_ | refine tsone ?_)
  | ((with_reducible refine (?_ : wA _ _ _ _ _)); first | refine acons ?_ | refine anil ?_)
  | ((with_reducible refine (?_ : wO _ _ _ _ _ _)); first
    | ((with_reducible refine (?_ : wO _ (binaryOp .Add) _ _ _ _)); first | refine oadd ?_ | refine ocatE (by one_item) (by one_item) (Nat.le_of_ble_eq_true rfl) (fun _ _ _ _ _ => ?_))
    | ((with_reducible refine (?_ : wO _ (binaryOp .Sub) _ _ _ _)); first | refine osub ?_)
    | ((with_reducible refine (?_ : wO _ (binaryOp .Mult) _ _ _ _)); first | refine omul (by first | exact IntMulOk.of_right (by decide) | exact IntMulOk.of_left (by decide) | exact IntMulOk.of_right (intBits_le_64 (by omega) (by omega)) | exact IntMulOk.of_left (intBits_le_64 (by omega) (by omega))) ?_)
    | ((with_reducible refine (?_ : wO _ (binaryOp .Mod) _ _ _ _)); first | refine omod (by first | decide | omega) ?_)
    | ((with_reducible refine (?_ : wO _ (binaryOp .FloorDiv) _ _ _ _)); first | refine ofdiv ⟨by first | decide | omega, by decide⟩ ?_)
    | ((with_reducible refine (?_ : wO _ (binaryOp .BitAnd) _ _ _ _)); first | refine oand ?_)
    | ((with_reducible refine (?_ : wO _ (binaryOp .BitOr) _ _ _ _)); first | refine oor ?_)
    | ((with_reducible refine (?_ : wO _ (compareOp .Lt) _ _ _ _)); first | refine olt ?_)
    | ((with_reducible refine (?_ : wO _ (compareOp .LtE) _ _ _ _)); first | refine ole ?_)
    | ((with_reducible refine (?_ : wO _ (compareOp .Gt) _ _ _ _)); first | refine ogt ?_)
    | ((with_reducible refine (?_ : wO _ (compareOp .GtE) _ _ _ _)); first | refine oge ?_)
    | ((with_reducible refine (?_ : wO _ (compareOp .Eq) _ _ _ _)); first | refine oeqi ?_ | refine oeqsT (by decide +kernel) ?_ | refine oeqsF (by decide +kernel) ?_ | refine oeq (by rfl) ?_)
    | ((with_reducible refine (?_ : wO _ (compareOp .NotEq) _ _ _ _)); first | refine onei ?_ | refine onesT (by decide +kernel) ?_ | refine onesF (by decide +kernel) ?_ | refine one (by rfl) ?_)
    | ((with_reducible refine (?_ : wO _ (compareOp .In) _ _ _ _)); first | refine oin ?_)
    | ((with_reducible refine (?_ : wO _ (compareOp .NotIn) _ _ _ _)); first | refine onin ?_)
    | ((with_reducible refine (?_ : wO _ (compareOp .Is) _ _ _ _)); first | refine ois ?_)
    | ((with_reducible refine (?_ : wO _ (compareOp .IsNot) _ _ _ _)); first | refine onot ?_)
    | ((with_reducible refine (?_ : wO _ (binaryOp .RShift) _ _ _ _)); refine oshr (by first | decide | omega) ?_)
    | ((with_reducible refine (?_ : wO _ (binaryOp .BitXor) _ _ _ _)); refine oxor ?_)
    | ((with_reducible refine (?_ : wO _ (inplaceOp .BitXor) _ _ _ _)); refine ixor ?_)
    | ((with_reducible refine (?_ : wO _ (inplaceOp .RShift) _ _ _ _)); refine ishr (by first | decide | omega) ?_)
    | ((with_reducible refine (?_ : wO _ (inplaceOp .BitOr) _ _ _ _)); first | refine ior ?_)
    | ((with_reducible refine (?_ : wO _ (inplaceOp .Add) _ _ _ _)); first | refine iadd ?_))
  | ((with_reducible refine (?_ : wT _ _ _ _ _)); first
    | ((with_reducible refine (?_ : wT _ (.Compare _ _ _ _) _ _ _)); first | refine zcmpT (by rfl) ?_ | refine zchainT ?_)
    | ((with_reducible refine (?_ : wT _ (.UnaryOp _ _ _) _ _ _)); refine znotT ?_)
    | ((with_reducible refine (?_ : wT _ (.BoolOp _ _ _) _ _ _)); refine zW ?_)
    | refine zval ?_)
  | ((with_reducible refine (?_ : wW _ _ _ _ _)); first | refine zand ?_ | refine zor ?_ | refine zand1 ?_ | refine zor1 ?_)
  | ((with_reducible refine (?_ : wK _ _ _ _ _)); first
    | ((with_reducible refine (?_ : wK _ (.builtin "len") _ _ _)); first | refine klenL (by one_place) ?_ | refine klenT (by one_place) ?_ | refine klenS (by assumption) ?_)
    | ((with_reducible refine (?_ : wK _ (.builtin "isinstance") _ _ _)); first | refine kisE (by assumption) (by assumption) (by first | assumption | exact Xd.exx (by assumption) (by one_sign)) (by first | exact .own _ | exact .ty _) (by assumption) ?_ | refine kisi (.ty _) (by assumption) (by assumption) ?_ | refine kisi (.ty _) (.base (by first | exact .int _ | exact .bl _ | exact .str _ | exact .non | exact .tup (by one_item) | exact .lst (by one_item))) (kit_ty (r := true) (by rfl)) ?_ | refine kisi (.ty _) (.base (by first | exact .int _ | exact .bl _ | exact .str _ | exact .non | exact .tup (by one_item) | exact .lst (by one_item))) (kit_ty (r := false) (by rfl)) ?_)
    | ((with_reducible refine (?_ : wK _ (.builtin "divmod") _ _ _)); refine kdivmod ⟨by first | decide | omega, by decide⟩ (fun _ _ _ _ _ => ?_))
    | ((with_reducible refine (?_ : wK _ (.builtin "min") _ _ _)); refine kmin (by rfl) ?_)
    | ((with_reducible refine (?_ : wK _ (.builtin "max") _ _ _)); refine kmax (by rfl) ?_)
    | ((with_reducible refine (?_ : wK _ (.type "list") _ _ _)); first | refine klistL (by one_place) (fun _ _ _ _ _ => ?_) | refine klistT (by one_place) (fun _ _ _ _ _ => ?_))
    | ((with_reducible refine (?_ : wK _ (.type "tuple") _ _ _)); first | refine ktupL (by one_place) (fun _ _ _ _ _ => ?_)))
  | ((with_reducible refine (?_ : wS _ _ _ _ _)); first
    | ((with_reducible refine (?_ : wS _ (.Assign [.Name _ _] _ _) _ _ _)); refine sset' (by assumption) (by rfl) (by first | exact Or.inl rfl | exact Or.inr rfl) (by rfl) (by first | exact .inl rfl | exact .inr rfl) ?_)
    | ((with_reducible refine (?_ : wS _ (.AugAssign (.Name _ _) _ _ _) _ _ _)); refine saug' (by assumption) (by rfl) (by first | exact Or.inl rfl | exact Or.inr rfl) (by first | exact .inl rfl | exact .inr rfl) (by rfl) ?_)
    | ((with_reducible refine (?_ : wS _ (.Assign [.Attribute _ _ _] _ _) _ _ _)); refine sfld ?_)
    | ((with_reducible refine (?_ : wS _ (.Expr _ _) _ _ _)); refine sexp ?_)
    | ((with_reducible refine (?_ : wS _ (.Assign [.Tuple _ _ _] _ _) _ _ _)); refine sasg ?_) | ((with_reducible refine (?_ : wS _ (.Assign [.Subscript _ _ _] _ _) _ _ _)); refine sasg ?_)
    | refine sret ?_ | refine sif ?_ | refine sretN ?_ | refine spass ?_ | refine sbrk ?_ | refine scont ?_)
  | ((with_reducible refine (?_ : wG _ (.Name _ _) _ _ _ _)); refine gname' (by assumption) (by rfl) (by first | exact Or.inl rfl | exact Or.inr rfl) (by first | exact .inl rfl | exact .inr rfl) ?_)
  | ((with_reducible refine (?_ : wG _ (.Tuple _ _ _) _ _ _ _)); refine gtup rfl (by one_place) rfl ?_) | ((with_reducible refine (?_ : wG _ (.Subscript _ _ _) _ _ _ _)); refine gsub ?_)
  | ((with_reducible refine (?_ : wGs _ _ _ _ _ _)); first | refine gscons ?_ | refine gsnil ?_)
  | ((with_reducible refine (?_ : wB _ _ _ _ _)); first | refine bcons ?_ | refine bnil ?_)
  | refine ifT ?_ | refine ifF ?_ | refine ifd (fun _ => ?_) (fun _ => ?_) | refine ifnd (fun _ => ?_) (fun _ => ?_) | refine ⟨_, rfl, ?_⟩ | refine ⟨rfl, Evl.Ex.refl _, ?_⟩ | refine ⟨_, _, _, _, _, rfl, by one_item, by assumption, by assumption, by rfl, ?_⟩ | refine ⟨Nat.le_of_ble_eq_true rfl, fun _ _ _ _ _ => ?_⟩ | fail)
local macro_rules | `(tactic| top_name) => `(tactic| repeat' tb_rel)
local macro_rules | `(tactic| nest_fact) => `(tactic| first | exact ⟨(decide_eq_true (by omega)).symm, rfl⟩ | exact ⟨(decide_eq_false (by omega)).symm, rfl⟩ | exact ⟨decide_eq_decide.mpr (by omega), rfl⟩ | fail)
local macro_rules | `(tactic| tb_rel) => `(tactic| first
  | ((with_reducible refine (?_ : wE _ (.Subscript _ (.Constant (.str _) _ _) _) _ _ _)); refine zdat (by first | assumption | omega) ?_)
  | ((with_reducible refine (?_ : wS _ (.Assign [.Subscript _ (.Constant (.str _) _ _) _] _ _) _ _ _)); refine sdput (by first | assumption | omega) ?_)
  | fail)
/-! ### a piece -/
def stD (k : Nat) (b : Bool) : HO := .dK [(.inr "at", .int (k : Int)), (.inr "known", .bl b)]
theorem get_at {H : Hp} {s : Addr} {k : Nat} {b : Bool} (h : H s = some (stD k b)) : DGet H s (.str "at") (some (.int (k : Int))) := by
  have := DGet.k (k := .inr "at") h
  rwa [show valV [((.inr "at" : Key), V.int (k : Int)), (.inr "known", .bl b)] (.inr "at") = some (.int (k : Int)) from by kernel_rfl] at this
theorem get_known {H : Hp} {s : Addr} {k : Nat} {b : Bool} (h : H s = some (stD k b)) : DGet H s (.str "known") (some (.bl b)) := by
  have := DGet.k (k := .inr "known") h
  rwa [show valV [((.inr "at" : Key), V.int (k : Int)), (.inr "known", .bl b)] (.inr "known") = some (.bl b) from by kernel_rfl] at this
theorem put_at {H : Hp} {s : Addr} {k j : Nat} {b : Bool} (h : H s = some (stD k b)) : DPut H s (.str "at") (.int (j : Int)) (upd H s (stD j b)) := by
  have := DPut.k (k := .inr "at") (v := .int (j : Int)) h (by show 2 < sizeLine; rw [sizeLine_eq]; decide)
  rwa [show putK [((.inr "at" : Key), V.int (k : Int)), (.inr "known", .bl b)] (.inr "at") (.int (j : Int)) = [((.inr "at" : Key), V.int (j : Int)), (.inr "known", .bl b)] from by kernel_rfl] at this
theorem put_known {H : Hp} {s : Addr} {k : Nat} {b c : Bool} (h : H s = some (stD k b)) : DPut H s (.str "known") (.bl c) (upd H s (stD k c)) := by
  have := DPut.k (k := .inr "known") (v := .bl c) h (by show 2 < sizeLine; rw [sizeLine_eq]; decide)
  rwa [show putK [((.inr "at" : Key), V.int (k : Int)), (.inr "known", .bl b)] (.inr "known") (.bl c) = [((.inr "at" : Key), V.int (k : Int)), (.inr "known", .bl c)] from by kernel_rfl] at this
def spPc : Sp := fun vs H Q _ => ∃ (l s : Addr) (W : List Int) (c : Int) (k : Nat) (kn : Bool), vs = [.ref l, .ref s, .int c] ∧ H l = some (.lst (W.map V.int)) ∧ W.length ≤ 20000 ∧ k ≤ W.length ∧ H s = some (stD k kn) ∧ 0 ≤ c ∧
  ∀ t k2 H', H t = none → k ≤ k2 → k2 ≤ W.length → (c % 3 = 2 → (W.length : Int) ≤ c / 3 % ((W.length : Int) + 1) → k2 = W.length) → Eb s H H' → H' s = some (stD k2 kn) → H' t = some (.lst (((W.drop k).take (k2 - k)).map V.int)) → Q (.ref t) H'
theorem cut_up {xs : List Int} {a b : Nat} (h0 : a ≤ b) (h1 : a ≤ xs.length) : cutV (xs.map V.int) (some (a : Int)) (some (b : Int)) = ((xs.drop a).take (min b xs.length - a)).map V.int := by
  unfold cutV
  rw [List.length_map, HT.sIx_nat, HT.sIx_nat, Nat.min_eq_left h1, ← List.map_drop, ← List.map_take]
theorem ok_piece (T : Txt K mg) : Gf P w K mg base 1 "_law_piece" [] spPc := by
  refine gf_mk T.f__law_piece T.m__law_piece (fun _ _ _ _ _ _ us hl => match us, hl with | [_, _, _], _ => rfl) fun fd F => fn_mk F sc__law_piece (fun vs H Q E h => ?_) fun cd A outer s H vs Q E hr tk po h => ?_
  · obtain ⟨l, s, W, c, k, kn, rfl, _⟩ := h; rfl
  · obtain ⟨l, s, W, c, k, kn, rfl, hl, hz, hk, hs, c0, q⟩ := h
    have nd := sc__law_piece.nd
    have n2 := T.n_len
    have hu := hr.units
    have hlm : (W.map V.int).length = W.length := List.length_map ..
    refine bcut (fun σ' H' => Ex H H' ∧ ∃ z : Nat, (c % 3 = 2 → (W.length : Int) ≤ c / 3 % ((W.length : Int) + 1) → W.length ≤ z) ∧ σ' = [some (.ref l), some (.ref s), some (.int c), some (.int (z : Int)), none]) ?_ ?_
    · have hm : c % 3 = 0 ∨ c % 3 = 1 ∨ c % 3 = 2 := by omega
      top_name
      rename_i t H1 ht e1 hx1
      rw [hlm] at hx1
      have w0 := Int.emod_nonneg (c / 3) (show ((W.length : Int) + 1) ≠ 0 by omega)
      rcases hm with hm | hm | hm
      · refine ixL (SqL.of hx1) (v := .int (c / 3 % 10)) (by rw [hm]; rfl) ⟨e1, (c / 3 % 10).toNat, fun z => by omega, ?_⟩
        rw [Int.toNat_of_nonneg (by omega)]
        rfl
      · refine ixL (SqL.of hx1) (v := .int (c / 3 % 3)) (by rw [hm]; rfl) ⟨e1, (c / 3 % 3).toNat, fun z => by omega, ?_⟩
        rw [Int.toNat_of_nonneg (by omega)]
        rfl
      · refine ixL (SqL.of hx1) (v := .int (c / 3 % ((W.length : Int) + 1))) (by rw [hm]; rfl) ⟨e1, (c / 3 % ((W.length : Int) + 1)).toNat, fun _ z => by omega, ?_⟩
        rw [Int.toNat_of_nonneg w0]
        rfl
    rintro _ H1 ⟨e1, z, hzz, rfl⟩
    top_name
    refine ⟨s, _, rfl, get_at (e1 _ _ hs), ?_⟩
    top_name
    refine ⟨s, _, rfl, get_at (e1 _ _ hs), ?_⟩
    top_name
    rename_i t H2 ht e2 hx2
    rw [show ((k : Int) + (z : Int)) = ((k + z : Nat) : Int) from by omega, cut_up (by omega) hk] at hx2
    generalize hk2 : min (k + z) W.length = k2 at hx2
    have hln : (((W.drop k).take (k2 - k)).map V.int).length = k2 - k := by rw [List.length_map, List.length_take, List.length_drop]; omega
    refine ⟨s, _, rfl, get_at (e2 _ _ (e1 _ _ hs)), ?_⟩
    top_name
    refine ⟨s, _, rfl, by rw [hln, show ((k : Int) + ((k2 - k : Nat) : Int)) = (k2 : Int) from by omega]; exact put_at (e2 _ _ (e1 _ _ hs)), ?_⟩
    top_name
    have nt : t ≠ s := fun y => by rw [y, e1 _ _ hs] at ht; cases ht
    exact q t k2 _ (Evl.fresh_back e1 ht) (by omega) (by omega) (fun a b => by have := hzz a b; omega) ((Eb.of (e1.trans e2)).trans Eb.upd) upd_same (by rw [upd_ne nt]; exact hx2)
end K06

set_option maxRecDepth 100000
set_option maxHeartbeats 4000000
set_option pp.maxSteps 400
namespace K06
open PySem PySem.Spec PyProof.Rows L2 Z
open Evl (Ex)
variable {P : Program} {w : World} {K : PySem.W.Frag} {mg : Str → Option Value} {base : Heap}
/-! ### data of rows -/
def intsD (xs : List Int) : PyData := .list (xs.map PyData.int)
def saidD (p : Int) (why : Str) : PyData := if why = "check" then .list [.str "check"] else .list [.str "wire", .int p, .str why, .bool false]
theorem ints_plain : ∀ xs : List Int, PyData.plainAll (xs.map PyData.int) = true
  | [] => rfl
  | x :: xs => by rw [List.map_cons, PyData.plainAll, ints_plain xs]; rfl
theorem ints_depth : ∀ xs : List Int, PyData.depthAll (xs.map PyData.int) ≤ 1
  | [] => by decide
  | x :: xs => by
    have := ints_depth xs
    simp only [List.map_cons, PyData.depthAll, PyData.depth]
    omega
theorem rows_plain : ∀ rs : List (List Int), PyData.plainAll (rs.map intsD) = true
  | [] => rfl
  | r :: rs => by
    rw [List.map_cons, PyData.plainAll, rows_plain rs, show (intsD r).plain = PyData.plainAll (r.map PyData.int) from rfl, ints_plain]
    rfl
theorem rows_depth : ∀ rs : List (List Int), PyData.depthAll (rs.map intsD) ≤ 2
  | [] => by decide
  | r :: rs => by
    have := rows_depth rs
    have := ints_depth r
    simp only [List.map_cons, PyData.depthAll, intsD, PyData.depth]
    omega
theorem plainAll_app : ∀ xs ys : List PyData, PyData.plainAll xs = true → PyData.plainAll ys = true → PyData.plainAll (xs ++ ys) = true
  | [], _, _, h => h
  | x :: xs, ys, h, g => by
    rw [PyData.plainAll, Bool.and_eq_true] at h
    rw [List.cons_append, PyData.plainAll, h.1, plainAll_app xs ys h.2 g]
    rfl
theorem depthAll_app (n : Nat) : ∀ xs ys : List PyData, PyData.depthAll xs ≤ n → PyData.depthAll ys ≤ n → PyData.depthAll (xs ++ ys) ≤ n
  | [], _, _, h => h
  | x :: xs, ys, h, g => by
    simp only [PyData.depthAll] at h
    have := depthAll_app n xs ys (by omega) g
    simp only [List.cons_append, PyData.depthAll]
    omega
theorem eqvAll_self {xs : List PyData} (h : PyData.plainAll xs = true) : PyData.eqvAll xs xs = true := (SeqAt.eqv_refl_plain (.list xs) h)
theorem dp_rows {H : Hp} : ∀ {vs : List V} {rs : List (List Int)}, RowsAt H vs rs → DpAll K H vs (rs.map intsD)
  | _, _, .nil => .nil
  | _, _, .cons h r => .cons (Dp.ints (SqL.of h)) (dp_rows r)
theorem dpAll_app {H : Hp} : ∀ {vs us : List V} {ds es : List PyData}, DpAll K H vs ds → DpAll K H us es → DpAll K H (vs ++ us) (ds ++ es)
  | _, _, _, _, .nil, g => g
  | _, _, _, _, .cons a r, g => .cons a (dpAll_app r g)
theorem rowsR_at {H : Hp} : ∀ {ts : List Addr} {rs : List (List Int)}, RowsR H ts rs → RowsAt H (ts.map V.ref) rs
  | _, _, .nil => .nil
  | _, _, .cons h r => .cons h (rowsR_at r)
theorem dp_said {H : Hp} {t : Addr} {p : Int} {why : Str} (h : H t = some (said p why)) : Dp K H (.ref t) (saidD p why) := by
  unfold said at h
  unfold saidD
  split at h
  · rename_i e; rw [if_pos e]; exact .lst (SqL.of h) (.cons (.str _) .nil)
  · rename_i e; rw [if_neg e]; exact .lst (SqL.of h) (.cons (.str _) (.cons (.int _) (.cons (.str _) (.cons (.bl _) .nil))))
theorem said_list (p : Int) (why : Str) : ∃ ds, saidD p why = .list ds ∧ PyData.plainAll ds = true ∧ PyData.depthAll ds ≤ 1 := by
  unfold saidD
  split
  · exact ⟨_, rfl, rfl, by decide⟩
  · exact ⟨_, rfl, rfl, by simp [PyData.depthAll, PyData.depth]⟩
/-- two lists of the same data are alike -/
theorem same_eqL {X : Cx} {H : Hp} {Q : VK} {j : Nat} {a b : Addr} {ds : List PyData} (hr : Room j X.A) (ha : Dp X.K H (.ref a) (.list ds)) (hb : Dp X.K H (.ref b) (.list ds)) (pl : PyData.plainAll ds = true) (dp : PyData.depthAll ds ≤ 60) (q : Q (.bl true) H) : wO X (compareOp .Eq) (.ref a) (.ref b) H Q :=
  oeqDL hr ha hb (by omega) (by rw [eqvAll_self pl]; exact q)
theorem same_neL {X : Cx} {H : Hp} {Q : VK} {j : Nat} {a b : Addr} {ds : List PyData} (hr : Room j X.A) (ha : Dp X.K H (.ref a) (.list ds)) (hb : Dp X.K H (.ref b) (.list ds)) (pl : PyData.plainAll ds = true) (dp : PyData.depthAll ds ≤ 60) (q : Q (.bl false) H) : wO X (compareOp .NotEq) (.ref a) (.ref b) H Q :=
  oneDL hr ha hb (by omega) (by rw [eqvAll_self pl]; exact q)
/-! ### heaps that change at some places -/
def Gw (T : List Addr) (H H' : Hp) : Prop := ∀ x o, x ∉ T → H x = some o → H' x = some o
theorem Gw.of {T : List Addr} {H H' : Hp} (e : Ex H H') : Gw T H H' := fun x o _ q => e x o q
theorem Gw.eb {T : List Addr} {H H' : Hp} {b : Addr} (e : Eb b H H') (h : b ∈ T) : Gw T H H' := fun x o n q => e x o (fun z => n (by rw [z]; exact h)) q
theorem Gw.trans {T : List Addr} {H H' H'' : Hp} (e : Gw T H H') (f : Gw T H' H'') : Gw T H H'' := fun x o n q => f x o n (e x o n q)
theorem Gw.put {T : List Addr} {H : Hp} {b : Addr} {o : HO} (h : b ∈ T) : Gw T H (upd H b o) := fun x z n q => by rw [upd_ne (fun y => n (by rw [y]; exact h))]; exact q
theorem Gw.putN {T : List Addr} {H H' : Hp} {b : Addr} {o : HO} (e : Gw T H H') (h : H b = none) : Gw T H (upd H' b o) := fun x z n q => by rw [upd_ne (fun y => by rw [y, h] at q; cases q)]; exact e _ _ n q
theorem Gw.cut {S T : List Addr} {H H' : Hp} (e : Gw T H H') (h : ∀ x ∈ T, x ∈ S) : Ex (cutS S H) (cutS S H') := fun x o q => by
  unfold cutS at q ⊢
  split at q
  · cases q
  · rename_i n
    rw [if_neg n]
    exact e _ _ (fun z => n (h x z)) q
theorem On.gw {S T : List Addr} {H H' : Hp} (h : On S H) (e : Gw T H H') (hT : ∀ x ∈ T, H' x ≠ none) : On S H' := fun c hc z => by
  rcases Classical.em (c ∈ T) with m | m
  · exact hT c m z
  · cases q : H c with
    | none => exact h c hc q
    | some o => rw [e _ _ m q] at z; cases z
theorem BoxS.gw {S T : List Addr} {H H' : Hp} {b : Addr} {rest : List Int} {A : Nat} {wr : Option (Int × Str)} (h : BoxS K S H b rest A wr) (e : Gw T H H') (hS : ∀ x ∈ T, x ∈ S) (hT : ∀ x ∈ T, H' x ≠ none) (n : b ∉ T) : BoxS K S H' b rest A wr := by
  obtain ⟨h1, h2, h3, h4, h5, dx, r, wv, h6, h7, h8⟩ := h
  exact ⟨h1.gw e hT, h2, h3, h4, h5, dx, r, wv, e _ _ n h6, e.cut hS _ _ h7, h8.ex (e.cut hS)⟩
theorem BoxS.moreG {S T : List Addr} {H H' : Hp} {b f : Addr} {rest : List Int} {A : Nat} {wr : Option (Int × Str)} (h : BoxS K S H b rest A wr) (e : Gw T H H') (hS : ∀ x ∈ T, x ∈ S) (hT : ∀ x ∈ T, H' x ≠ none) (n : b ∉ T) (hf : H f = none) (hx : H' f ≠ none) : BoxS K (f :: S) H' b rest A wr := by
  have h' := h.gw e hS hT n
  obtain ⟨h1, h2, h3, h4, h5, dx, r, wv, h6, h7, h8⟩ := h
  have go : Ex (cutS S H) (cutS (f :: S) H') := fun x o q => by
    unfold cutS at q ⊢
    split at q
    · cases q
    · rename_i m
      rw [if_neg (fun z => (List.mem_cons.mp z).elim (fun z => by rw [z, hf] at q; cases q) m)]
      exact e _ _ (fun z => m (hS x z)) q
  exact ⟨fun c hc => (List.mem_cons.mp hc).elim (fun z => by rw [z]; exact hx) fun hc => h'.on c hc, List.mem_cons_of_mem _ h2, h3, h4, h5, dx, r, wv, e _ _ n h6, go _ _ h7, h8.ex go⟩
theorem BoxS.lessL {S : List Addr} {H : Hp} {b : Addr} {rest : List Int} {A : Nat} {wr : Option (Int × Str)} : ∀ {ts : List Addr}, BoxS K (ts ++ S) H b rest A wr → (∀ t ∈ ts, b ≠ t) → BoxS K S H b rest A wr
  | [], h, _ => h
  | t :: ts, h, n => BoxS.lessL (ts := ts) (h.less (n t List.mem_cons_self)) fun x hx => n x (List.mem_cons_of_mem _ hx)
end K06

set_option maxRecDepth 100000
set_option maxHeartbeats 4000000
set_option pp.maxSteps 400
namespace K06
open PySem PySem.Spec PyProof.Rows L2 Z
open Evl (Ex)
variable {P : Program} {w : World} {K : PySem.W.Frag} {mg : Str → Option Value} {base : Heap}
/-! ### steps of the walk: one_sign: a heap grew into another; one_item: what stands at an address; one_place: a list or tuple to be read; leaf_len: arithmetic; tb_rel: one step; top_name: steps as far as they go -/
local macro_rules | `(tactic| got_up) => `(tactic| (refine Evl.Ex.trans (by assumption) ?_; first | assumption | exact Evl.Ex.refl _ | got_up))
local macro_rules | `(tactic| units_room) => `(tactic| (refine Evl.Ex.trans ?_ (by assumption); first | assumption | exact Evl.Ex.refl _ | units_room))
local macro_rules | `(tactic| one_sign) => `(tactic| first | assumption | exact Evl.Ex.refl _ | got_up | units_room)
local macro_rules | `(tactic| one_item) => `(tactic| first | assumption | exact upd_same | exact exa (by assumption) (by one_sign))
local macro_rules | `(tactic| one_place) => `(tactic| first | assumption | exact SqL.of (by assumption) | exact SqT.of (by assumption) | exact exl (by assumption) (by one_sign) | exact ext (by assumption) (by one_sign) | exact SqL.of (by one_item) | exact SqT.of (by one_item))
local macro_rules | `(tactic| leaf_len) => `(tactic| first | assumption | decide | omega)
local macro_rules | `(tactic| tb_rel) => `(tactic| first
  | ((with_reducible refine (?_ : wE _ _ _ _ _)); first
    | ((with_reducible refine (?_ : wE _ (.Name _ _) _ _ _)); first | refine zn (by rfl) (by first | exact Or.inl rfl | exact Or.inr (Or.inl rfl) | exact Or.inr (Or.inr rfl)) (by rfl) ?_ | refine zglob (by assumption) (by rfl) ?_ | refine zcls (by assumption) (by rfl) ?_ | refine zty (by assumption) (by first | exact bt_int | exact bt_bool | exact bt_str | exact bt_list | exact bt_tuple | exact bt_dict | exact bt_ValueError) (by rfl) ?_)
    | ((with_reducible refine (?_ : wE _ (.Attribute _ _ _) _ _ _)); refine zfld ?_)
    | ((with_reducible refine (?_ : wE _ (.Constant _ _ _) _ _ _)); first | refine zint ?_ | refine zstr ?_ | refine zbl ?_ | refine znon ?_)
    | ((with_reducible refine (?_ : wE _ (.BinOp _ _ _ _) _ _ _)); refine zbin ?_)
    | ((with_reducible refine (?_ : wE _ (.Compare _ _ _ _) _ _ _)); first | refine zcmp (by rfl) ?_ | refine zchain ?_)
    | ((with_reducible refine (?_ : wE _ (.Dict [] [] _) _ _ _)); refine zdnew (fun _ _ _ _ _ => ?_))
    | ((with_reducible refine (?_ : wE _ (.Subscript _ (.Slice _ _ _ _) _) _ _ _)); refine zsl ?_)
    | ((with_reducible refine (?_ : wE _ (.Subscript _ _ _) _ _ _)); refine zix ?_)
    | ((with_reducible refine (?_ : wE _ (.Call (.Name "list" _) [.Call (.Name "range" _) [_] [] _] [] _) _ _ _)); refine zlrg1 rfl (by rfl) (by assumption) (by rfl) (by assumption) ?_)
    | ((with_reducible refine (?_ : wE _ (.Call (.Name _ _) _ _ _) _ _ _)); first
      | ((with_reducible refine (?_ : wE _ (.Call (.Name "len" _) _ _ _) _ _ _)); refine zbfn (by assumption) bt_len (by rfl) ?_)
      | ((with_reducible refine (?_ : wE _ (.Call (.Name "isinstance" _) _ _ _) _ _ _)); refine zbfn (by assumption) bt_isi (by rfl) ?_)
      | ((with_reducible refine (?_ : wE _ (.Call (.Name "min" _) _ _ _) _ _ _)); refine zbfn (by assumption) bt_min (by rfl) ?_)
      | ((with_reducible refine (?_ : wE _ (.Call (.Name "max" _) _ _ _) _ _ _)); refine zbfn (by assumption) bt_max (by rfl) ?_)
      | ((with_reducible refine (?_ : wE _ (.Call (.Name "list" _) _ _ _) _ _ _)); refine zbty (by assumption) bt_list (by rfl) ?_)
      | ((with_reducible refine (?_ : wE _ (.Call (.Name "tuple" _) _ _ _) _ _ _)); refine zbty (by assumption) bt_tuple (by rfl) ?_)
      | ((with_reducible refine (?_ : wE _ (.Call (.Name "int" _) _ _ _) _ _ _)); refine zbty (by assumption) bt_int (by rfl) ?_)
      | ((with_reducible refine (?_ : wE _ (.Call (.Name "abs" _) _ _ _) _ _ _)); refine zbfn (by assumption) bt_abs (by rfl) ?_)
      | ((with_reducible refine (?_ : wE _ (.Call (.Name "all" _) _ _ _) _ _ _)); refine zbfn (by assumption) bt_all (by rfl) ?_)
      | ((with_reducible refine (?_ : wE _ (.Call (.Name "sum" _) _ _ _) _ _ _)); refine zbfn (by assumption) bt_sum (by rfl) ?_)
      | ((with_reducible refine (?_ : wE _ (.Call (.Name "divmod" _) _ _ _) _ _ _)); refine zbfn (by assumption) bt_divmod (by rfl) ?_)
      | ((with_reducible refine (?_ : wE _ (.Call (.Name "ord" _) _ _ _) _ _ _)); refine zbfn (by assumption) bt_ord (by rfl) ?_))
    | ((with_reducible refine (?_ : wE _ (.IfExp _ _ _ _) _ _ _)); refine zif ?_)
    | ((with_reducible refine (?_ : wE _ (.Tuple _ _ _) _ _ _)); refine ztup ?_)
    | ((with_reducible refine (?_ : wE _ (.List _ _) _ _ _)); refine zlst ?_)
    | ((with_reducible refine (?_ : wE _ (.UnaryOp _ _ _) _ _ _)); first | refine znotV ?_ | refine zneg ?_)
    | ((with_reducible refine (?_ : wE _ (.BoolOp _ _ _) _ _ _)); first | refine zandV ?_ | refine zorV ?_ | refine zoneV ?_))
  | ((with_reducible refine (?_ : bE _ _ _ _ _ _)); refine ⟨fun _ _ _ _ _ => ?_⟩) | ((with_reducible refine (?_ : bG _ _ _ _ _ _ _)); refine ⟨fun _ _ _ _ _ => ?_⟩) | ((with_reducible refine (?_ : bTs _ _ _ _ _ _)); refine ⟨fun _ _ _ _ _ => ?_⟩)
  | ((with_reducible refine (?_ : hE _ _ _ _ _ _)); refine ⟨fun _ _ _ _ _ => ?_⟩) | ((with_reducible refine (?_ : hG _ _ _ _ _ _ _)); refine ⟨fun _ _ _ _ _ => ?_⟩) | ((with_reducible refine (?_ : hTs _ _ _ _ _ _)); refine ⟨fun _ _ _ _ _ => ?_⟩)
  | ((with_reducible refine (?_ : wP _ _ _ _ _)); first | refine pnon ?_ | refine psom ?_) | ((with_reducible refine (?_ : wSl _ _ _ _ _ _)); first | refine slL (by one_place) (fun _ _ _ _ _ => ?_) | refine slS (by assumption) ?_)
  | ((with_reducible refine (?_ : wTs _ _ _ _ _)); first | refine tsnil ?_ | refine tsone ?_)
  | ((with_reducible refine (?_ : wA _ _ _ _ _)); first | refine acons ?_ | refine anil ?_)
  | ((with_reducible refine (?_ : wO _ _ _ _ _ _)); first
    | ((with_reducible refine (?_ : wO _ (binaryOp .Add) _ _ _ _)); first | refine oadd ?_ | refine ocatE (by one_item) (by one_item) (Nat.le_of_ble_eq_true rfl) (fun _ _ _ _ _ => ?_))
    | ((with_reducible refine (?_ : wO _ (binaryOp .Sub) _ _ _ _)); first | refine osub ?_)
    | ((with_reducible refine (?_ : wO _ (binaryOp .Mult) _ _ _ _)); first | refine omul (by first | exact IntMulOk.of_right (by decide) | exact IntMulOk.of_left (by decide) | exact IntMulOk.of_right (intBits_le_64 (by omega) (by omega)) | exact IntMulOk.of_left (intBits_le_64 (by omega) (by omega))) ?_)
    | ((with_reducible refine (?_ : wO _ (binaryOp .Mod) _ _ _ _)); first | refine omod (by first | decide | omega) ?_)
    | ((with_reducible refine (?_ : wO _ (binaryOp .FloorDiv) _ _ _ _)); first | refine ofdiv ⟨by first | decide | omega, by decide⟩ ?_)
    | ((with_reducible refine (?_ : wO _ (binaryOp .BitAnd) _ _ _ _)); first | refine oand ?_)
    | ((with_reducible refine (?_ : wO _ (binaryOp .BitOr) _ _ _ _)); first | refine oor ?_)
    | ((with_reducible refine (?_ : wO _ (compareOp .Lt) _ _ _ _)); first | refine olt ?_)
    | ((with_reducible refine (?_ : wO _ (compareOp .LtE) _ _ _ _)); first | refine ole ?_)
    | ((with_reducible refine (?_ : wO _ (compareOp .Gt) _ _ _ _)); first | refine ogt ?_)
    | ((with_reducible refine (?_ : wO _ (compareOp .GtE) _ _ _ _)); first | refine oge ?_)
    | ((with_reducible refine (?_ : wO _ (compareOp .Eq) _ _ _ _)); first | refine oeqi ?_ | refine oeqsT (by decide +kernel) ?_ | refine oeqsF (by decide +kernel) ?_ | refine oeq (by rfl) ?_)
    | ((with_reducible refine (?_ : wO _ (compareOp .NotEq) _ _ _ _)); first | refine onei ?_ | refine onesT (by decide +kernel) ?_ | refine onesF (by decide +kernel) ?_ | refine one (by rfl) ?_)
    | ((with_reducible refine (?_ : wO _ (compareOp .In) _ _ _ _)); first | refine oin ?_)
    | ((with_reducible refine (?_ : wO _ (compareOp .NotIn) _ _ _ _)); first | refine onin ?_)
    | ((with_reducible refine (?_ : wO _ (compareOp .Is) _ _ _ _)); first | refine ois ?_)
    | ((with_reducible refine (?_ : wO _ (compareOp .IsNot) _ _ _ _)); first | refine onot ?_)
    | ((with_reducible refine (?_ : wO _ (binaryOp .RShift) _ _ _ _)); refine oshr (by first | decide | omega) ?_)
    | ((with_reducible refine (?_ : wO _ (binaryOp .BitXor) _ _ _ _)); refine oxor ?_)
    | ((with_reducible refine (?_ : wO _ (inplaceOp .BitXor) _ _ _ _)); refine ixor ?_)
    | ((with_reducible refine (?_ : wO _ (inplaceOp .RShift) _ _ _ _)); refine ishr (by first | decide | omega) ?_)
    | ((with_reducible refine (?_ : wO _ (inplaceOp .BitOr) _ _ _ _)); first | refine ior ?_)
    | ((with_reducible refine (?_ : wO _ (inplaceOp .Add) _ _ _ _)); first | refine iadd ?_))
  | ((with_reducible refine (?_ : wT _ _ _ _ _)); first
    | ((with_reducible refine (?_ : wT _ (.Compare _ _ _ _) _ _ _)); first | refine zcmpT (by rfl) ?_ | refine zchainT ?_)
    | ((with_reducible refine (?_ : wT _ (.UnaryOp _ _ _) _ _ _)); refine znotT ?_)
    | ((with_reducible refine (?_ : wT _ (.BoolOp _ _ _) _ _ _)); refine zW ?_)
    | refine zval ?_)
  | ((with_reducible refine (?_ : wW _ _ _ _ _)); first | refine zand ?_ | refine zor ?_ | refine zand1 ?_ | refine zor1 ?_)
  | ((with_reducible refine (?_ : wK _ _ _ _ _)); first
    | ((with_reducible refine (?_ : wK _ (.builtin "len") _ _ _)); first | refine klenL (by one_place) ?_ | refine klenT (by one_place) ?_ | refine klenS (by assumption) ?_)
    | ((with_reducible refine (?_ : wK _ (.builtin "isinstance") _ _ _)); first | refine kisE (by assumption) (by assumption) (by first | assumption | exact Xd.exx (by assumption) (by one_sign)) (by first | exact .own _ | exact .ty _) (by assumption) ?_ | refine kisi (.ty _) (by assumption) (by assumption) ?_ | refine kisi (.ty _) (.base (by first | exact .int _ | exact .bl _ | exact .str _ | exact .non | exact .tup (by one_item) | exact .lst (by one_item))) (kit_ty (r := true) (by rfl)) ?_ | refine kisi (.ty _) (.base (by first | exact .int _ | exact .bl _ | exact .str _ | exact .non | exact .tup (by one_item) | exact .lst (by one_item))) (kit_ty (r := false) (by rfl)) ?_)
    | ((with_reducible refine (?_ : wK _ (.builtin "divmod") _ _ _)); refine kdivmod ⟨by first | decide | omega, by decide⟩ (fun _ _ _ _ _ => ?_))
    | ((with_reducible refine (?_ : wK _ (.builtin "min") _ _ _)); refine kmin (by rfl) ?_)
    | ((with_reducible refine (?_ : wK _ (.builtin "max") _ _ _)); refine kmax (by rfl) ?_)
    | ((with_reducible refine (?_ : wK _ (.type "list") _ _ _)); first | refine klistL (by one_place) (fun _ _ _ _ _ => ?_) | refine klistT (by one_place) (fun _ _ _ _ _ => ?_))
    | ((with_reducible refine (?_ : wK _ (.type "tuple") _ _ _)); first | refine ktupL (by one_place) (fun _ _ _ _ _ => ?_)))
  | ((with_reducible refine (?_ : wS _ _ _ _ _)); first
    | ((with_reducible refine (?_ : wS _ (.Assign [.Name _ _] _ _) _ _ _)); refine sset' (by assumption) (by rfl) (by first | exact Or.inl rfl | exact Or.inr rfl) (by rfl) (by first | exact .inl rfl | exact .inr rfl) ?_)
    | ((with_reducible refine (?_ : wS _ (.AugAssign (.Name _ _) _ _ _) _ _ _)); refine saug' (by assumption) (by rfl) (by first | exact Or.inl rfl | exact Or.inr rfl) (by first | exact .inl rfl | exact .inr rfl) (by rfl) ?_)
    | ((with_reducible refine (?_ : wS _ (.Assign [.Attribute _ _ _] _ _) _ _ _)); refine sfld ?_)
    | ((with_reducible refine (?_ : wS _ (.Expr _ _) _ _ _)); refine sexp ?_)
    | ((with_reducible refine (?_ : wS _ (.Assign [.Tuple _ _ _] _ _) _ _ _)); refine sasg ?_) | ((with_reducible refine (?_ : wS _ (.Assign [.Subscript _ _ _] _ _) _ _ _)); refine sasg ?_)
    | refine sret ?_ | refine sif ?_ | refine sretN ?_ | refine spass ?_ | refine sbrk ?_ | refine scont ?_)
  | ((with_reducible refine (?_ : wG _ (.Name _ _) _ _ _ _)); refine gname' (by assumption) (by rfl) (by first | exact Or.inl rfl | exact Or.inr rfl) (by first | exact .inl rfl | exact .inr rfl) ?_)
  | ((with_reducible refine (?_ : wG _ (.Tuple _ _ _) _ _ _ _)); refine gtup rfl (by one_place) rfl ?_) | ((with_reducible refine (?_ : wG _ (.Subscript _ _ _) _ _ _ _)); refine gsub ?_)
  | ((with_reducible refine (?_ : wGs _ _ _ _ _ _)); first | refine gscons ?_ | refine gsnil ?_)
  | ((with_reducible refine (?_ : wB _ _ _ _ _)); first | refine bcons ?_ | refine bnil ?_)
  | refine ifT ?_ | refine ifF ?_ | refine ifd (fun _ => ?_) (fun _ => ?_) | refine ifnd (fun _ => ?_) (fun _ => ?_) | refine ⟨_, rfl, ?_⟩ | refine ⟨rfl, Evl.Ex.refl _, ?_⟩ | refine ⟨_, _, _, _, _, rfl, by one_item, by assumption, by assumption, by rfl, ?_⟩ | refine ⟨Nat.le_of_ble_eq_true rfl, fun _ _ _ _ _ => ?_⟩ | fail)
local macro_rules | `(tactic| top_name) => `(tactic| repeat' tb_rel)
local macro_rules | `(tactic| nest_fact) => `(tactic| first | exact ⟨(decide_eq_true (by omega)).symm, rfl⟩ | exact ⟨(decide_eq_false (by omega)).symm, rfl⟩ | exact ⟨decide_eq_decide.mpr (by omega), rfl⟩ | fail)
local macro_rules | `(tactic| tb_rel) => `(tactic| first
  | ((with_reducible refine (?_ : wE _ (.Subscript _ (.Constant (.str _) _ _) _) _ _ _)); refine zdat (by first | assumption | omega) ?_)
  | ((with_reducible refine (?_ : wS _ (.Assign [.Subscript _ (.Constant (.str _) _ _) _] _ _) _ _ _)); refine sdput (by first | assumption | omega) ?_)
  | fail)
/-! ### what is asked of a box -/
theorem WAt.ex {H H' : Hp} (e : Ex H H') {v : V} {w : Option (Int × Str × Nat)} (h : WAt H v w) : WAt H' v w := by
  cases h with
  | no => exact .no
  | so h g => exact .so (e _ _ h) (e _ _ g)
structure Side (H : Hp) (l d : Addr) (W : List Int) (rs : List (List Int × Nat)) (w : Option (Int × Str × Nat)) : Prop where
  wire : H l = some (.lst (W.map V.int))
  due : ∃ f m ps, H d = some (.tup [.ref f, m]) ∧ H f = some (.lst ps) ∧ PairsAt H ps rs ∧ WAt H m w
theorem Side.ex {H H' : Hp} (e : Ex H H') {l d : Addr} {W : List Int} {rs : List (List Int × Nat)} {w : Option (Int × Str × Nat)} (h : Side H l d W rs w) : Side H' l d W rs w := by
  obtain ⟨h1, f, m, ps, h2, h3, h4, h5⟩ := h
  exact ⟨e _ _ h1, f, m, ps, e _ _ h2, e _ _ h3, h4.ex e, h5.ex e⟩
structure Bx (K : PySem.W.Frag) (S : List Addr) (H : Hp) (b s : Addr) (W : List Int) (rs : List (List Int × Nat)) (w : Option (Int × Str × Nat)) (k : Nat) : Prop where
  st : H s = some (stD k (wq k w).isSome)
  hk : k ≤ W.length
  box : ∃ rest A, BoxS K S H b rest A (wq k w) ∧ A + rest.length ≤ W.length ∧ (wq k w = none → ∃ f rs', rs = f ++ rs' ∧ rest = (W.drop A).take (k - A) ∧ A ≤ k ∧ Du (W.drop A) A rs' w ∧ (∀ r ∈ f, r.2 ≤ k) ∧ (∀ r ∈ rs', k < r.2) ∧ A = lastE 0 f)
theorem Bx.gw {S T : List Addr} {H H' : Hp} {b s : Addr} {W : List Int} {rs : List (List Int × Nat)} {w : Option (Int × Str × Nat)} {k : Nat} (h : Bx K S H b s W rs w k) (e : Gw T H H') (hS : ∀ x ∈ T, x ∈ S) (hT : ∀ x ∈ T, H' x ≠ none) (n : b ∉ T) (n2 : s ∉ T) : Bx K S H' b s W rs w k := by
  obtain ⟨h1, h2, rest, A, h3, h4⟩ := h
  exact ⟨e _ _ n2 h1, h2, rest, A, h3.gw e hS hT n, h4⟩
inductive HeldAt (K : PySem.W.Frag) (H : Hp) : List V → Prop
  | nil : HeldAt K H []
  | cons {t g d : Addr} {D : PyData} {vs : List V} (h : H t = some (.tup [.ref g, .ref d])) (hg : Dp K H (.ref g) (.list [D])) (hd : Dp K H (.ref d) D) (pl : D.plain = true) (dp : D.depth ≤ 10) (r : HeldAt K H vs) : HeldAt K H (.ref t :: vs)
theorem HeldAt.ex {H H' : Hp} (e : Ex H H') : ∀ {vs : List V}, HeldAt K H vs → HeldAt K H' vs
  | _, .nil => .nil
  | _, .cons h hg hd pl dp r => .cons (e _ _ h) (Z.Dp.ex e hg) (Z.Dp.ex e hd) pl dp (r.ex e)
theorem HeldAt.one {H : Hp} {t g d : Addr} {D : PyData} (h : H t = some (.tup [.ref g, .ref d])) (hg : Dp K H (.ref g) (.list [D])) (hd : Dp K H (.ref d) D) (pl : D.plain = true) (dp : D.depth ≤ 10) : ∀ {vs : List V}, HeldAt K H vs → HeldAt K H (vs ++ [.ref t])
  | _, .nil => .cons h hg hd pl dp .nil
  | _, .cons a b c d e r => .cons a b c d e (r.one h hg hd pl dp)
theorem ask_in {H : Hp} {l : Addr} {xs : List V} {bs : List Bool} (h : H l = some (.lst xs)) (a : AskedAll K H 0 255 xs bs) (hz : xs.length ≤ 10) (hb : bs.all id = false) : RowAsk K H (.ref l) false := by
  rw [← hb]; exact .lst h a (by rw [sizeLine_eq]; omega)
theorem asked_out {H : Hp} {lo hi n : Int} (h : n < lo ∨ hi < n) : Asked K H lo hi (.int n) false := by
  have := Asked.int (K := K) (H := H) (lo := lo) (hi := hi) n
  rwa [decide_eq_false (by omega)] at this
theorem PairsAt.get {H : Hp} : ∀ {ps : List V} {rs : List (List Int × Nat)} {i : Nat} {v : V}, PairsAt H ps rs → ps[i]? = some v → ∃ p r ys e, v = .ref p ∧ H p = some (.tup [.ref r, .int ((e : Nat) : Int)]) ∧ H r = some (.lst (ys.map V.int)) ∧ rs[i]? = some (ys, e)
  | _, _, 0, _, .cons a b _, h => by simp at h; subst h; exact ⟨_, _, _, _, rfl, a, b, rfl⟩
  | _, _, i + 1, _, .cons _ _ t, h => by obtain ⟨p, r, ys, e, h1, h2, h3, h4⟩ := t.get (i := i) (by simpa using h); exact ⟨p, r, ys, e, h1, h2, h3, by simpa using h4⟩
theorem filter_take_succ {α : Type} {p : α → Bool} {xs : List α} {j : Nat} {x : α} (h : xs[j]? = some x) : (xs.take (j + 1)).filter p = (xs.take j).filter p ++ (if p x = true then [x] else []) := by
  obtain ⟨hl, rfl⟩ := List.getElem?_eq_some_iff.mp h
  rw [List.take_add_one, List.getElem?_eq_getElem hl, List.filter_append]
  cases e : p xs[j] <;> simp [e]
theorem wq_mono {k k2 : Nat} {w : Option (Int × Str × Nat)} {x : Int × Str} (h : wq k w = some x) (hk : k ≤ k2) : wq k2 w = some x := by
  cases w with
  | none => cases h
  | some z =>
    obtain ⟨p, why, b⟩ := z
    have h : (if b ≤ k then some (p, why) else none) = some x := h
    show (if b ≤ k2 then some (p, why) else none) = some x
    split at h
    · rw [if_pos (by omega)]; exact h
    · cases h
theorem filter_all {rs : List (List Int × Nat)} {k : Nat} (h : ∀ r ∈ rs, r.2 ≤ k) : (rs.filter fun r => decide (r.2 ≤ k)) = rs := List.filter_eq_self.mpr fun r hr => decide_eq_true (h r hr)
theorem filter_no {rs : List (List Int × Nat)} {k : Nat} (h : ∀ r ∈ rs, k < r.2) : (rs.filter fun r => decide (r.2 ≤ k)) = [] := List.filter_eq_nil_iff.mpr fun r hr => by have := h r hr; rw [decide_eq_true_eq]; omega
theorem RowsAt.drop {H : Hp} : ∀ (n : Nat) {vs : List V} {ls : List (List Int)}, RowsAt H vs ls → RowsAt H (vs.drop n) (ls.drop n)
  | 0, _, _, h => h
  | _ + 1, _, _, .nil => .nil
  | n + 1, _, _, .cons _ r => RowsAt.drop n r
def newR (rs : List (List Int × Nat)) (k k2 : Nat) : List (List Int × Nat) := (rs.filter fun r => decide (r.2 ≤ k2)).drop (rs.filter fun r => decide (r.2 ≤ k)).length
theorem newR_eq {f0 f2 rs2 : List (List Int × Nat)} {k k2 : Nat} (h : k ≤ k2) (h0 : ∀ r ∈ f0, r.2 ≤ k) (h1 : ∀ r ∈ f2 ++ rs2, k < r.2) (h2 : ∀ r ∈ f2, r.2 ≤ k2) (h3 : ∀ r ∈ rs2, k2 < r.2) : newR (f0 ++ (f2 ++ rs2)) k k2 = f2 := by
  have a : ((f0 ++ (f2 ++ rs2)).filter fun r => decide (r.2 ≤ k2)) = f0 ++ f2 := by
    rw [List.filter_append, List.filter_append, filter_all (rs := f0) (fun r hr => by have := h0 r hr; omega), filter_all h2, filter_no h3, List.append_nil]
  have b : ((f0 ++ (f2 ++ rs2)).filter fun r => decide (r.2 ≤ k)) = f0 := by rw [List.filter_append, filter_all h0, filter_no h1, List.append_nil]
  unfold newR
  rw [a, b, List.drop_left]
theorem cut_not {S : List Addr} {H : Hp} {x : Addr} {o : HO} (h : cutS S H x = some o) : x ∉ S := by
  unfold cutS at h
  split at h
  · cases h
  · assumption
theorem cut_from {xs : List V} {a : Nat} : cutV xs (some (a : Int)) none = xs.drop a := by
  unfold cutV
  rw [HT.sIx_nat, HT.sIx_none, List.take_of_length_le (by rw [List.length_drop]; omega)]
  rcases Nat.le_total a xs.length with h | h
  · rw [Nat.min_eq_left h]
  · rw [Nat.min_eq_right h, List.drop_of_length_le (Nat.le_refl _), List.drop_of_length_le h]
theorem wq_dec {k b : Nat} {p : Int} {why : Str} : decide ((b : Int) ≤ (k : Int)) = (wq k (some (p, why, b))).isSome := by
  show _ = (if b ≤ k then some (p, why) else none).isSome
  by_cases h : b ≤ k
  · rw [if_pos h, decide_eq_true (by omega)]; rfl
  · rw [if_neg h, decide_eq_false (by omega)]; rfl
def NB (W : List Int) (rs : List (List Int × Nat)) (w : Option (Int × Str × Nat)) (k : Nat) (rest : List Int) (A : Nat) : Prop :=
  A + rest.length ≤ W.length ∧ (wq k w = none → ∃ f rs', rs = f ++ rs' ∧ rest = (W.drop A).take (k - A) ∧ A ≤ k ∧ Du (W.drop A) A rs' w ∧ (∀ r ∈ f, r.2 ≤ k) ∧ (∀ r ∈ rs', k < r.2) ∧ A = lastE 0 f)
/-- what a box told: a refusal, or rows -/
def Out (K : PySem.W.Frag) (S : List Addr) (W : List Int) (rs : List (List Int × Nat)) (w : Option (Int × Str × Nat)) (k k2 : Nat) (b : Addr) (H H' : Hp) (g : Addr) : Prop :=
  ∃ rest A, Gw [b] H H' ∧ H g = none ∧ NB W rs w k2 rest A ∧ (
    (∃ p why, H' g = some (said p why) ∧ wq k2 w = some (p, why) ∧ ((wq k w).isSome = true ∨ newR rs k k2 = []) ∧ BoxS K S H' b rest A (some (p, why))) ∨
    (∃ ff ts, wq k w = none ∧ (newR rs k k2 ≠ [] ∨ wq k2 w = none) ∧ H' g = some (.lst [.ref ff]) ∧ H ff = none ∧ (∀ t ∈ ts, H t = none) ∧ (g :: ff :: ts).Nodup ∧ H' ff = some (.lst (ts.map V.ref)) ∧ RowsR H' ts ((newR rs k k2).map (·.1)) ∧ BoxS K (ts.reverse ++ ff :: S) H' b rest A (wq k2 w)))
theorem take_glue (W : List Int) {a k k2 : Nat} (h : a ≤ k) (h2 : k ≤ k2) : (W.drop a).take (k - a) ++ (W.drop k).take (k2 - k) = (W.drop a).take (k2 - a) := by
  rw [show k2 - a = (k - a) + (k2 - k) from by omega, List.take_add, List.drop_drop, show a + (k - a) = k from by omega]
theorem nw_none {H H' : Hp} {b : Addr} {o : HO} (e : nw H H' b = some o) : H b = none := by
  unfold nw at e
  split at e
  · assumption
  · cases e
theorem RowsR.at {H : Hp} {ts : List Addr} {rs : List (List Int)} {i : Nat} {x : Addr} (h : RowsR H (ts.drop i) (rs.drop i)) (hx : ts[i]? = some x) : ∃ ys, rs[i]? = some ys ∧ H x = some (.lst (ys.map V.int)) ∧ RowsR H (ts.drop (i + 1)) (rs.drop (i + 1)) := by
  obtain ⟨hl, rfl⟩ := List.getElem?_eq_some_iff.mp hx
  rw [List.drop_eq_getElem_cons hl] at h
  generalize hq : rs.drop i = q at h
  cases h with
  | @cons _ ys _ q a r =>
    refine ⟨ys, ?_, a, ?_⟩
    · have : (rs.drop i)[0]? = some ys := by rw [hq]; rfl
      rwa [List.getElem?_drop, Nat.add_zero] at this
    · rw [show rs.drop (i + 1) = (rs.drop i).drop 1 from (List.drop_drop ..).symm, hq]
      exact r
theorem nodup_cut {ts : List Addr} {i : Nat} {x : Addr} (h : ts.Nodup) (hx : ts[i]? = some x) : x ∉ ts.take i ∧ x ∉ ts.drop (i + 1) := by
  obtain ⟨hl, rfl⟩ := List.getElem?_eq_some_iff.mp hx
  have e : ts.take i ++ ts[i] :: ts.drop (i + 1) = ts := by rw [← List.drop_eq_getElem_cons hl, List.take_append_drop]
  have h2 : (ts.take i ++ ts[i] :: ts.drop (i + 1)).Nodup := by rw [e]; exact h
  have h3 := (List.pairwise_append (R := (· ≠ ·))).mp h2
  refine ⟨fun z => h3.2.2 _ z _ List.mem_cons_self rfl, (List.nodup_cons.mp h3.2.1).1⟩
theorem RowsR.some_ {H : Hp} {x : Addr} : ∀ {ts : List Addr} {rs : List (List Int)}, RowsR H ts rs → x ∈ ts → H x ≠ none
  | _, _, .cons h r, m => by
    rcases List.mem_cons.mp m with rfl | m
    · rw [h]; exact fun z => nomatch z
    · exact r.some_ m
theorem Gw.back {T : List Addr} {H H' : Hp} (e : Gw T H H') (hT : ∀ x ∈ T, H' x ≠ none) {x : Addr} (h : H' x = none) : H x = none := by
  cases z : H x with
  | none => rfl
  | some o =>
    rcases Classical.em (x ∈ T) with m | m
    · exact (hT x m h).elim
    · rw [e _ _ m z] at h; cases h
def heldD (ls : List (List Int)) : PyData := .list (((ls.map fun l => l ++ [1]).map intsD) ++ [.int 2])
theorem held_plain (ls : List (List Int)) : (heldD ls).plain = true := plainAll_app _ _ (rows_plain _) rfl
theorem held_depth (ls : List (List Int)) : (heldD ls).depth ≤ 10 := by
  have := depthAll_app 2 _ [.int 2] (rows_depth (ls.map fun l => l ++ [1])) (by decide)
  unfold heldD
  rw [PyData.depth]
  omega
def spAsk (K : PySem.W.Frag) : Sp := fun vs H Q _ => ∃ (b l d s h : Addr) (S : List Addr) (W : List Int) (rs : List (List Int × Nat)) (w : Option (Int × Str × Nat)) (k : Nat) (c : Int) (hs : List V),
  vs = [.ref b, .ref l, .ref d, .ref s, .int c, .ref h] ∧ Bytes W ∧ W.length ≤ 8000 ∧ Side (cutS S H) l d W rs w ∧ Bx K S H b s W rs w k ∧ s ∈ S ∧ h ∈ S ∧ b ≠ s ∧ b ≠ h ∧ s ≠ h ∧ H h = some (.lst hs) ∧ HeldAt K (cutS S H) hs ∧ hs.length ≤ 100000 ∧ 0 ≤ c ∧ rs.length ≤ W.length ∧ (∀ r ∈ rs, r.1.length ≤ 30000) ∧
  ∀ H' k2 hs', Gw [b, s, h] H H' → k ≤ k2 → Bx K S H' b s W rs w k2 → (c % 3 = 2 → (W.length : Int) ≤ c / 3 % ((W.length : Int) + 1) → k2 = W.length) → H' h = some (.lst hs') → HeldAt K (cutS S H') hs' → hs'.length ≤ hs.length + 1 → Q (.bl true) H'
theorem ok_asked (T : Txt K mg) : Gf P w K mg base 9 "_law_asked" [] (spAsk K) := by
  refine gf_mk T.f__law_asked T.m__law_asked (fun _ _ _ _ _ _ us hl => match us, hl with | [_, _, _, _, _, _], _ => rfl) fun fd F => fn_mk F sc__law_asked (fun vs H Q E h => ?_) fun cd A outer s0 H vs Q E hr tk po hh => ?_
  · obtain ⟨b, l, d, s, h, S, W, rs, w, k, c, hs, rfl, _⟩ := h; rfl
  · obtain ⟨b, l, d, s, h, S, W, rs, wr, k, c, hs, rfl, hb, hz, hsd, hB, ms, mh, n1, n2, n3, hh0, hH, hhl, c0, hrl, hrz, q⟩ := hh
    have nd := sc__law_asked.nd
    have m1 := T.n_len
    have hu := hr.units
    have hu1 := Nat.lt_of_le_of_lt (Nat.add_le_add_left (show 1 ≤ 64 by decide) _) hr.units
    obtain ⟨hst, hk, rest, ah, hBox, hAr, hno⟩ := id hB
    obtain ⟨hw, f, m, ps, hd, hf, hP, hW⟩ := id hsd
    have hd' := cut_sub _ _ hd
    refine bcut (fun σ' H' => H = H' ∧ σ' = [some (.ref b), some (.ref l), some (.ref d), some (.ref s), some (.int c), some (.ref h), some (.ref f), some m, none, none, none, none, none, none, none, none]) ?_ ?_
    · top_name
      exact ⟨rfl, rfl⟩
    rintro _ _ ⟨rfl, rfl⟩
    refine bcut (fun σ' H' => Ex H H' ∧ σ' = [some (.ref b), some (.ref l), some (.ref d), some (.ref s), some (.int c), some (.ref h), some (.ref f), some m, none, none, none, none, none, none, none, none]) ?_ ?_
    · refine sif (tcutE false ?_ ?_)
      · top_name
        rotate_left
        · exact ⟨rfl, Evl.Ex.refl _⟩
        rename_i hc
        refine zcall (ok_told T) hr (by decide) takesF rfl ?_
        top_name
        rename_i g1 G1 hg1 v1 hx1 g2 G2 hg2 v2 hx2 g3 G3 hg3 v3 hx3 g4 G4 hg4 v4 hx4
        have e4 : Ex H G4 := ((v1.trans v2).trans v3).trans v4
        have hm : c / 990 % 5 = 0 ∨ c / 990 % 5 = 1 ∨ c / 990 % 5 = 2 ∨ c / 990 % 5 = 3 ∨ c / 990 % 5 = 4 := by omega
        have odd : ∃ u, atI [V.int 5, V.ref g1, V.str "a", V.ref g2, V.ref g3] (c / 990 % 5) = some u ∧ u ≠ .non ∧ RowAsk K G4 u false := by
          rcases hm with hm | hm | hm | hm | hm <;> rw [hm]
          · exact ⟨_, rfl, (fun z => nomatch z), .not (.base (.int _)) rfl⟩
          · exact ⟨_, rfl, (fun z => nomatch z), ask_in (v4 _ _ (v3 _ _ (v2 _ _ hx1))) (.cons (asked_out (.inr (by decide))) .nil) (by decide) rfl⟩
          · exact ⟨_, rfl, (fun z => nomatch z), .not (.base (.str _)) rfl⟩
          · exact ⟨_, rfl, (fun z => nomatch z), ask_in (v4 _ _ (v3 _ _ hx2)) (.cons (.odd (nw_bl true)) .nil) (by decide) rfl⟩
          · exact ⟨_, rfl, (fun z => nomatch z), ask_in (v4 _ _ hx3) (.cons (.odd (nw_str _)) .nil) (by decide) rfl⟩
        obtain ⟨u, hau, hun, huu⟩ := odd
        refine ixL (SqL.of hx4) hau ?_
        top_name
        refine ⟨b, u, rfl, S, rest, ah, _, hBox.ex e4, .inl ⟨hun, huu, fun t H5 ht e5 hx5 => ?_⟩⟩
        top_name
        rename_i t6 H6 ht6 e6 hx6
        refine oneStrs (ys := ["row"]) (zs := ["row"]) hr (SqL.of (e6 _ _ hx5)) (SqL.of hx6) ?_
        top_name
        exact ⟨rfl, e4.trans (e5.trans e6)⟩
      · intro H' e
        top_name
        exact ⟨e, rfl⟩
    rintro _ H1 ⟨e1, rfl⟩
    have hst1 := e1 _ _ hst
    have hf1 : H1 f = some (.lst ps) := e1 _ _ (cut_sub _ _ hf)
    have hP1 := (hP.ex cut_sub).ex e1
    have hpl := hP.length
    refine bcut (fun σ' H' => Ex H1 H' ∧ σ' = [some (.ref b), some (.ref l), some (.ref d), some (.ref s), some (.int c), some (.ref h), some (.ref f), some m, some (.int ((rs.filter fun r => decide (r.2 ≤ k)).length : Int)), none, none, none, none, none, none, none]) ?_ ?_
    · tb_rel
      refine zbfn (by assumption) bt_len (by rfl) (acons ?_)
      refine zlc rfl nd [("_law_one", 15)] (blkOk_by (N := N__law_asked) (sc := defScope s__law_asked) (by decide +kernel)) piL (tnL (xs := ps) (fun j ws _ => ws.length = ((rs.take j).filter fun r => decide (r.2 ≤ k)).length ∧ j ≤ rs.length) (fun _ _ _ _ g _ => g) (fun _ => ⟨rfl, Nat.zero_le _⟩) ?_)
      top_name
      refine ⟨SqL.of hf1, fun j x H2 L ws hx e2 hL hws g => ?_, fun L H2 ws hL e2 hw2 g => ?_⟩
      · obtain ⟨p, r, ys, e, rfl, hp, hrr, hj⟩ := hP1.get hx
        have hp2 := e2 _ _ hp
        have hjl := (List.getElem?_eq_some_iff.mp hj).1
        have hfs := filter_take_succ (p := fun r : List Int × Nat => decide (r.2 ≤ k)) hj
        have hfl : ((rs.take j).filter fun r => decide (r.2 ≤ k)).length ≤ j := by have := List.length_filter_le (fun r : List Int × Nat => decide (r.2 ≤ k)) (rs.take j); rw [List.length_take] at this; omega
        top_name
        refine ixT (SqT.of hp2) (atI_nat (j := 1) rfl) ?_
        top_name
        refine ⟨s, _, rfl, get_at (e2 _ _ hst1), ?_⟩
        top_name
        · rename_i hle
          refine ⟨by rw [g.1, sizeLine_eq]; omega, Evl.Ex.refl _, ?_, by omega⟩
          rw [hfs, if_pos (decide_eq_true (by omega)), List.length_append, List.length_append, g.1]
          rfl
        · rename_i hle
          refine ⟨Evl.Ex.refl _, ?_, by omega⟩
          rw [hfs, if_neg (by rw [decide_eq_true_eq]; omega), List.append_nil, g.1]
      · top_name
        refine ⟨e2, ?_⟩
        rw [g.1, hpl, List.take_length]
        rfl
    rintro _ H2 ⟨e2, rfl⟩
    refine bcut (fun σ' H' => H2 = H' ∧ σ' = [some (.ref b), some (.ref l), some (.ref d), some (.ref s), some (.int c), some (.ref h), some (.ref f), some m, some (.int ((rs.filter fun r => decide (r.2 ≤ k)).length : Int)), some (.bl (wq k wr).isSome), none, none, none, none, none, none]) ?_ ?_
    · top_name
      refine ⟨s, _, rfl, get_known (e2 _ _ hst1), ?_⟩
      top_name
      exact ⟨rfl, rfl⟩
    rintro _ _ ⟨rfl, rfl⟩
    have e02 := e1.trans e2
    have hB2 : BoxS K S H2 b rest ah (wq k wr) := hBox.ex e02
    refine bcut (fun σ' H' => ∃ (t : Addr) (k2 : Nat), H2 t = none ∧ k ≤ k2 ∧ k2 ≤ W.length ∧ (c % 3 = 2 → (W.length : Int) ≤ c / 3 % ((W.length : Int) + 1) → k2 = W.length) ∧ Eb s H2 H' ∧ H' s = some (stD k2 (wq k wr).isSome) ∧ H' t = some (.lst (((W.drop k).take (k2 - k)).map V.int)) ∧ σ' = [some (.ref b), some (.ref l), some (.ref d), some (.ref s), some (.int c), some (.ref h), some (.ref f), some m, some (.int ((rs.filter fun r => decide (r.2 ≤ k)).length : Int)), some (.bl (wq k wr).isSome), some (.ref t), none, none, none, none, none]) ?_ ?_
    · top_name
      refine zcall (ok_piece T) hr (by decide) takesF rfl ?_
      top_name
      refine ⟨l, s, W, c, k, _, rfl, e02 _ _ (cut_sub _ _ hw), by omega, hk, e02 _ _ hst, c0, fun t k2 H3 ht hk1 hk2 hcc eb hs3 ht3 => ?_⟩
      exact ⟨t, k2, ht, hk1, hk2, hcc, eb, hs3, ht3, rfl⟩
    rintro _ H3 ⟨t, k2, ht2, hk1, hk2, hcc, eb3, hs3, ht3, rfl⟩
    have htH : H t = none := Evl.fresh_back e02 ht2
    have g3 : Gw [s] H2 H3 := Gw.eb eb3 List.mem_cons_self
    have hB3 : BoxS K (t :: S) H3 b rest ah (wq k wr) := hB2.moreG g3 (fun x hx => by rw [List.mem_singleton.mp hx]; exact ms) (fun x hx => by rw [List.mem_singleton.mp hx, hs3]; exact fun z => nomatch z) (fun z => n1 (List.mem_singleton.mp z)) ht2 (by rw [ht3]; exact fun z => nomatch z)
    have hpB : Bytes ((W.drop k).take (k2 - k)) := fun x hx => hb x (List.mem_of_mem_drop (List.mem_of_mem_take hx))
    have hpL : ((W.drop k).take (k2 - k)).length = k2 - k := by rw [List.length_take, List.length_drop]; omega
    refine bcut (fun σ' H' => ∃ g, Out K (t :: S) W rs wr k k2 b H3 H' g ∧ σ' = [some (.ref b), some (.ref l), some (.ref d), some (.ref s), some (.int c), some (.ref h), some (.ref f), some m, some (.int ((rs.filter fun r => decide (r.2 ≤ k)).length : Int)), some (.bl (wq k wr).isSome), some (.ref t), some (.ref g), none, none, none, none]) ?_ ?_
    · top_name
      refine zcall (ok_told T) hr (by decide) takesF rfl ?_
      top_name
      refine ⟨b, .ref t, rfl, t :: S, rest, ah, _, hB3, .inr (.inl ⟨t, _, rfl, .inl ht3, hpB, by omega, ?_⟩)⟩
      cases hwk : wq k wr with
      | some pw =>
        obtain ⟨p, why⟩ := pw
        intro g H4 hg e4 hx4
        rw [hwk] at hB3
        exact ⟨g, ⟨rest, ah, Gw.of e4, hg, ⟨hAr, fun z => by rw [wq_mono hwk hk1] at z; cases z⟩, .inl ⟨p, why, hx4, wq_mono hwk hk1, .inl (by rw [hwk]; rfl), hB3.ex e4⟩⟩, rfl⟩
      | none =>
        obtain ⟨f0, rs', hrs, hre, hak, hdu, hf0, hrs', hla⟩ := hno hwk
        obtain ⟨f2, rs2, A2, hr2, hdr, hdu2, hA2, hf2, hrs2, hwr2, hl2⟩ := du_part hb hk2 hdu rfl (by omega)
        have hN : newR rs k k2 = f2 := by rw [hrs, hr2]; exact newR_eq hk1 hf0 (by rw [← hr2]; exact hrs') hf2 hrs2
        have hNB : NB W rs wr k2 ((W.drop A2).take (k2 - A2)) A2 := by
          refine ⟨by rw [List.length_take, List.length_drop]; omega, fun _ => ⟨f0 ++ f2, rs2, by rw [hrs, hr2, List.append_assoc], rfl, hA2, hdu2, fun r hr => ?_, hrs2, by rw [lastE_app, ← hla]; exact hl2⟩⟩
          rcases List.mem_append.mp hr with hr | hr
          · have := hf0 r hr; omega
          · exact hf2 r hr
        refine ⟨f2.map (·.1), _, A2, by rw [hre, take_glue W hak hk1]; exact hdr, fun ff ts H4 g H5 TT hh hg e5 hx5 => ?_, fun hnil p why hw4 H4 eb4 hb4 g H5 hg e5 hx5 => ?_⟩
        · have hgb : g ≠ b := fun z => by
            obtain ⟨dx, r, wv, h6, _⟩ := TT.box.box
            rw [z, h6] at hg; cases hg
          rw [hwr2] at hh
          refine ⟨g, ⟨_, A2, (Gw.eb TT.eb List.mem_cons_self).trans (Gw.of e5), ?_, hNB, .inr ⟨ff, ts, hwk, ?_, hx5, TT.nf, TT.nt, ?_, e5 _ _ TT.hf, ?_, ?_⟩⟩, rfl⟩
          · cases z : H3 g with
            | none => rfl
            | some o => rw [TT.eb _ _ hgb z] at hg; cases hg
          · rw [hN]
            exact hh.imp (fun z y => z (by rw [y]; rfl)) id
          · refine List.nodup_cons.mpr ⟨fun z => ?_, TT.nd⟩
            have on := TT.box.on
            refine on g ?_ hg
            rcases List.mem_cons.mp z with z | z
            · rw [z]; exact rev_mem
            · exact List.mem_append.mpr (.inl (List.mem_reverse.mpr z))
          · rw [hN]
            exact TT.rows.to fun _ _ _ y => e5 _ _ y
          · have := TT.box.ex e5
            rwa [hwr2] at this
        · have hf2n : f2 = [] := by cases f2 with
            | nil => rfl
            | cons _ _ => cases hnil
          have hgb : g ≠ b := fun z => by
            obtain ⟨dx, r, wv, h6, _⟩ := hb4.box
            rw [z, h6] at hg; cases hg
          refine ⟨g, ⟨_, A2, (Gw.eb eb4 List.mem_cons_self).trans (Gw.of e5), ?_, hNB, .inl ⟨p, why, hx5, by rw [← hwr2, hw4], .inr (by rw [hN, hf2n]), hb4.ex e5⟩⟩, rfl⟩
          cases z : H3 g with
          | none => rfl
          | some o => rw [eb4 _ _ hgb z] at hg; cases hg
    rintro _ H4 ⟨g, hOut, rfl⟩
    obtain ⟨rest2, A2, g4, hgH, hNB, hO⟩ := hOut
    have old4 : Ex (cutS S H) H4 := fun x o z => g4 _ _ (fun y => cut_not z (by rw [List.mem_singleton.mp y]; exact hBox.mem)) (g3 _ _ (fun y => cut_not z (by rw [List.mem_singleton.mp y]; exact ms)) (e02 _ _ (cut_sub _ _ z)))
    have hs4 := g4 _ _ (fun z => n1 (List.mem_singleton.mp z).symm) hs3
    refine bcut (fun σ' H' => ∃ Rw ws, Ex H4 H' ∧ H4 Rw = none ∧ H' Rw = some (.lst ws) ∧ RowsAt (cutS S H) ws ((newR rs k k2).map (·.1)) ∧ σ' = [some (.ref b), some (.ref l), some (.ref d), some (.ref s), some (.int c), some (.ref h), some (.ref f), some m, some (.int ((rs.filter fun r => decide (r.2 ≤ k)).length : Int)), some (.bl (wq k wr).isSome), some (.ref t), some (.ref g), some (.ref Rw), none, none, none]) ?_ ?_
    · tb_rel
      tb_rel
      refine zlc rfl nd [("_law_one", 15)] (blkOk_by (N := N__law_asked) (sc := defScope s__law_asked) (by decide +kernel)) piL (tnL (xs := ps) (fun j ws _ => RowsAt (cutS S H) ws (((rs.take j).filter fun r : List Int × Nat => decide (r.2 ≤ k2)).map fun r : List Int × Nat => r.1) ∧ j ≤ rs.length) (fun _ _ _ _ g _ => g) (fun _ => ⟨.nil, Nat.zero_le _⟩) ?_)
      top_name
      refine ⟨SqL.of (old4 _ _ hf), fun j x H2 L ws hx e2 hL hws gg => ?_, fun L H2 ws hL e2 hw2 gg => ?_⟩
      · obtain ⟨p, r, ys, e, rfl, hp, hrr, hj⟩ := hP.get hx
        have hp2 := e2 _ _ (old4 _ _ hp)
        have hjl := (List.getElem?_eq_some_iff.mp hj).1
        have hfs := filter_take_succ (p := fun r : List Int × Nat => decide (r.2 ≤ k2)) hj
        have hfl : ((rs.take j).filter fun r => decide (r.2 ≤ k2)).length ≤ j := by have := List.length_filter_le (fun r : List Int × Nat => decide (r.2 ≤ k2)) (rs.take j); rw [List.length_take] at this; omega
        have hwl := gg.1.length
        rw [List.length_map] at hwl
        top_name
        refine ixT (SqT.of hp2) (atI_nat (j := 1) rfl) ?_
        top_name
        refine ⟨s, _, rfl, get_at (e2 _ _ hs4), ?_⟩
        top_name
        · rename_i hle
          refine ixT (SqT.of hp2) (atI_nat (j := 0) rfl) ⟨by rw [hwl, sizeLine_eq]; omega, Evl.Ex.refl _, ?_, by omega⟩
          rw [hfs, if_pos (decide_eq_true (by omega)), List.map_append]
          exact gg.1.one hrr
        · rename_i hle
          refine ⟨Evl.Ex.refl _, ?_, by omega⟩
          rw [hfs, if_neg (by rw [decide_eq_true_eq]; omega), List.append_nil]
          exact gg.1
      · top_name
        rename_i Rw H5 hRw e5 hx5
        refine ⟨Rw, _, e2.trans e5, Evl.fresh_back e2 hRw, hx5, ?_, rfl⟩
        rw [hpl, List.take_length] at gg
        rw [cut_from]
        unfold newR
        rw [List.map_drop]
        exact RowsAt.drop _ gg.1
    rintro _ H5 ⟨Rw, ws, e5, hRw, hx5, hws, rfl⟩
    have old5 := old4.trans e5
    have hs5 := e5 _ _ hs4
    refine bcut (fun σ' H' => H5 = H' ∧ σ' = [some (.ref b), some (.ref l), some (.ref d), some (.ref s), some (.int c), some (.ref h), some (.ref f), some m, some (.int ((rs.filter fun r => decide (r.2 ≤ k)).length : Int)), some (.bl (wq k wr).isSome), some (.ref t), some (.ref g), some (.ref Rw), some (.bl (wq k2 wr).isSome), none, none]) ?_ ?_
    · cases hW with
      | no =>
        top_name
        exact ⟨rfl, rfl⟩
      | @so tw dw p0 why0 b0 htw hdw =>
        have htw5 := old5 _ _ htw
        top_name
        refine ixT (SqT.of htw5) (atI_nat (j := 1) rfl) ?_
        top_name
        refine ⟨s, _, rfl, get_at hs5, ?_⟩
        top_name
        rw [wq_dec (p := p0) (why := why0)]
        exact ⟨rfl, rfl⟩
    rintro _ _ ⟨rfl, rfl⟩
    refine bcut (fun σ' H' => H' = upd H5 s (stD k2 (wq k2 wr).isSome) ∧ σ' = [some (.ref b), some (.ref l), some (.ref d), some (.ref s), some (.int c), some (.ref h), some (.ref f), some m, some (.int ((rs.filter fun r => decide (r.2 ≤ k)).length : Int)), some (.bl (wq k wr).isSome), some (.ref t), some (.ref g), some (.ref Rw), some (.bl (wq k2 wr).isSome), none, none]) ?_ ?_
    · top_name
      refine ⟨s, _, rfl, put_known hs5, ?_⟩
      exact ⟨rfl, rfl⟩
    rintro _ _ ⟨rfl, rfl⟩
    have hs6 : upd H5 s (stD k2 (wq k2 wr).isSome) s = _ := upd_same
    have g6 : Gw [s] H5 (upd H5 s (stD k2 (wq k2 wr).isSome)) := Gw.put List.mem_cons_self
    have old6 : Ex (cutS S H) (upd H5 s (stD k2 (wq k2 wr).isSome)) := fun x o z => g6 _ _ (fun y => cut_not z (by rw [List.mem_singleton.mp y]; exact ms)) (old5 _ _ z)
    generalize upd H5 s (stD k2 (wq k2 wr).isSome) = H6 at hs6 g6 old6 ⊢
    have nts : t ≠ s := fun z => by rw [z] at htH; rw [hst] at htH; cases htH
    have ntb : t ≠ b := fun z => by
      obtain ⟨dx, r, wv, h6, _⟩ := hBox.box
      rw [z, h6] at htH; cases htH
    have ht6 : H6 t = some (.lst (((W.drop k).take (k2 - k)).map V.int)) := g6 _ _ (fun z => nts (List.mem_singleton.mp z)) (e5 _ _ (g4 _ _ (fun z => ntb (List.mem_singleton.mp z)) ht3))
    refine bcut (fun σ' H' => H' = upd H6 t (.lst []) ∧ σ' = [some (.ref b), some (.ref l), some (.ref d), some (.ref s), some (.int c), some (.ref h), some (.ref f), some m, some (.int ((rs.filter fun r => decide (r.2 ≤ k)).length : Int)), some (.bl (wq k wr).isSome), some (.ref t), some (.ref g), some (.ref Rw), some (.bl (wq k2 wr).isSome), none, none]) ?_ ?_
    · top_name
      refine zclr ?_
      top_name
      exact ⟨t, _, rfl, ht6, rfl, rfl⟩
    rintro _ _ ⟨rfl, rfl⟩
    have g7 : Gw [t] H6 (upd H6 t (.lst [])) := Gw.put List.mem_cons_self
    have ht7 : upd H6 t (.lst []) t = _ := upd_same
    have hs7 : upd H6 t (.lst []) s = _ := (upd_ne nts.symm).trans hs6
    have old7 : Ex (cutS S H) (upd H6 t (.lst [])) := fun x o z => g7 _ _ (fun y => by rw [List.mem_singleton.mp y] at z; rw [cut_sub _ _ z] at htH; cases htH) (old6 _ _ z)
    generalize upd H6 t (.lst []) = H7 at g7 ht7 hs7 old7 ⊢
    have nRt : Rw ≠ t := fun z => by rw [z, g4 _ _ (fun z => ntb (List.mem_singleton.mp z)) ht3] at hRw; cases hRw
    have nRs : Rw ≠ s := fun z => by rw [z, hs4] at hRw; cases hRw
    have hR7 : H7 Rw = some (.lst ws) := g7 _ _ (fun z => nRt (List.mem_singleton.mp z)) (g6 _ _ (fun z => nRs (List.mem_singleton.mp z)) hx5)
    have g47 : Gw [s, t] H4 H7 := fun x o n z => g7 _ _ (fun y => n (by rw [List.mem_singleton.mp y]; exact List.mem_cons_of_mem _ List.mem_cons_self)) (g6 _ _ (fun y => n (by rw [List.mem_singleton.mp y]; exact List.mem_cons_self)) (e5 _ _ z))
    have ngt : g ≠ t := fun z => by rw [z, ht3] at hgH; cases hgH
    have ngs : g ≠ s := fun z => by rw [z, hs3] at hgH; cases hgH
    have gwT : ∀ x, x ∈ [s, t] → H7 x ≠ none := fun x hx => by
      rcases List.mem_cons.mp hx with y | y
      · rw [y, hs7]; exact fun z => nomatch z
      · rw [List.mem_singleton.mp y, ht7]; exact fun z => nomatch z
    have wsn : (ws = [] ↔ newR rs k k2 = []) := by
      have := hws.length
      rw [List.length_map] at this
      constructor
      · rintro rfl; exact List.eq_nil_of_length_eq_zero this.symm
      · intro z; rw [z] at this; exact List.eq_nil_of_length_eq_zero this
    have nst : ∀ x, x ≠ s → x ≠ t → x ∉ [s, t] := fun x a c y => (List.mem_cons.mp y).elim a fun y => c (List.mem_singleton.mp y)
    have nht : h ≠ t := fun z => by rw [z, htH] at hh0; cases hh0
    have hh7 : H7 h = some (.lst hs) := g47 _ _ (nst _ n3.symm nht) (g4 _ _ (fun y => n2 (List.mem_singleton.mp y).symm) (g3 _ _ (fun y => n3 (List.mem_singleton.mp y).symm) (e02 _ _ hh0)))
    have gAll : Gw [b, s, h] H H7 := fun x o n z => g47 _ _ (fun y => by
        rcases List.mem_cons.mp y with y | y
        · exact n (by rw [y]; exact List.mem_cons_of_mem _ List.mem_cons_self)
        · rw [List.mem_singleton.mp y, htH] at z; cases z) (g4 _ _ (fun y => n (by rw [List.mem_singleton.mp y]; exact List.mem_cons_self)) (g3 _ _ (fun y => n (by rw [List.mem_singleton.mp y]; exact List.mem_cons_of_mem _ List.mem_cons_self)) (e02 _ _ z)))
    have inS : ∀ x ∈ [b, s, h], x ∈ S := fun x hx => by
      rcases List.mem_cons.mp hx with y | hx
      · rw [y]; exact hBox.mem
      · rcases List.mem_cons.mp hx with y | hx
        · rw [y]; exact ms
        · rw [List.mem_singleton.mp hx]; exact mh
    have bT : b ∉ [s, t] := nst _ n1 ntb.symm
    rcases hO with ⟨p, why, hg4x, hw4, hkn, hb4⟩ | ⟨ff, ts, hwk, hnn, hg4x, hff, hts, hnd, hff4, hrr4, hb4⟩
    · have hw5 : (wq k2 wr).isSome = true := by rw [hw4]; rfl
      refine bcons (sif (tcutE true ?_ ?_))
      · rw [hw5]
        cases hq : (wq k wr).isSome with
        | true =>
          top_name
          exact ⟨rfl, Evl.Ex.refl _⟩
        | false =>
          have hn : newR rs k k2 = [] := by
            rcases hkn with z | z
            · rw [hq] at z; cases z
            · exact z
          have hw0 := wsn.mpr hn
          subst hw0
          top_name
          rename_i em H8 hem e8 hx8
          refine oeqNil hr (SqL.of (e8 _ _ hR7)) (SqL.of hx8) ?_
          top_name
          exact ⟨rfl, e8⟩
      · intro H8 e8
        have hg8 : H8 g = some (said p why) := e8 _ _ (g47 _ _ (nst _ ngs ngt) hg4x)
        cases hW with
        | no => cases hw4
        | @so tw dw p0 why0 b0 htw hdw =>
          have z : p0 = p ∧ why0 = why := by
            have h : (if b0 ≤ k2 then some (p0, why0) else none) = some (p, why) := hw4
            split at h
            · cases h; exact ⟨rfl, rfl⟩
            · cases h
          obtain ⟨rfl, rfl⟩ := z
          have htw8 := e8 _ _ (old7 _ _ htw)
          have hdw8 := e8 _ _ (old7 _ _ hdw)
          obtain ⟨ds, hds, pl, dp⟩ := said_list p0 why0
          top_name
          refine ixT (SqT.of htw8) (atI_nat (j := 0) rfl) ?_
          refine same_eqL (ds := ds) hr (by rw [← hds]; exact dp_said hg8) (by rw [← hds]; exact dp_said hdw8) pl (by omega) ?_
          have gA : Gw [b, s, h] H H8 := gAll.trans (Gw.of e8)
          have hb7 : BoxS K (t :: S) H7 b rest2 A2 (some (p0, why0)) := hb4.gw g47 (fun x hx => by
            rcases List.mem_cons.mp hx with y | y
            · rw [y]; exact List.mem_cons_of_mem _ ms
            · rw [List.mem_singleton.mp y]; exact List.mem_cons_self) gwT bT
          exact q H8 k2 hs gA hk1 ⟨e8 _ _ hs7, hk2, rest2, A2, by rw [hw4]; exact (hb7.less ntb.symm).ex e8, hNB⟩ hcc (e8 _ _ hh7) (hH.ex (gA.cut inS)) (Nat.le_succ _)
    · have hkf : (wq k wr).isSome = false := by rw [hwk]; rfl
      refine bcut (fun σ' H' => Ex H7 H' ∧ σ' = [some (.ref b), some (.ref l), some (.ref d), some (.ref s), some (.int c), some (.ref h), some (.ref f), some m, some (.int ((rs.filter fun r => decide (r.2 ≤ k)).length : Int)), some (.bl (wq k wr).isSome), some (.ref t), some (.ref g), some (.ref Rw), some (.bl (wq k2 wr).isSome), none, none]) ?_ ?_
      · refine sif (tcutE false ?_ ?_)
        · rw [hkf]
          cases hq : (wq k2 wr).isSome with
          | false =>
            top_name
            exact ⟨rfl, Evl.Ex.refl _⟩
          | true =>
            top_name
            rename_i em H8 hem e8 hx8
            refine oeqNil hr (SqL.of (e8 _ _ hR7)) (SqL.of hx8) ?_
            have hw0 : ws ≠ [] := fun z => by
              rcases hnn with y | y
              · exact y (wsn.mp z)
              · rw [y] at hq; cases hq
            rw [show ws.isEmpty = false from by cases ws with
              | nil => exact (hw0 rfl).elim
              | cons _ _ => rfl]
            top_name
            exact ⟨rfl, e8⟩
        · intro H8 e8
          top_name
          exact ⟨e8, rfl⟩
      rintro _ H8 ⟨e8, rfl⟩
      obtain ⟨ls, hls⟩ : ∃ ls, ls = (newR rs k k2).map (·.1) := ⟨_, rfl⟩
      rw [← hls] at hws hrr4
      have hnr : ∀ r ∈ newR rs k k2, r ∈ rs := fun r hr => (List.mem_filter.mp (List.mem_of_mem_drop hr)).1
      have hlr : ∀ y ∈ ls, y.length ≤ 30000 := fun y hy => by
        rw [hls] at hy
        obtain ⟨r, hr, rfl⟩ := List.mem_map.mp hy
        exact hrz r (hnr r hr)
      have hll : ls.length ≤ 8000 := by
        have : (newR rs k k2).length ≤ rs.length := by
          unfold newR
          rw [List.length_drop]
          exact Nat.le_trans (Nat.sub_le _ _) (List.length_filter_le _ _)
        rw [hls, List.length_map]
        omega
      have fr : ∀ x, H3 x = none → x ∉ [s, t] ∧ x ≠ b ∧ H x = none := fun x hx => by
        refine ⟨fun y => ?_, fun y => ?_, ?_⟩
        · rcases List.mem_cons.mp y with y | y
          · rw [y, hs3] at hx; cases hx
          · rw [List.mem_singleton.mp y, ht3] at hx; cases hx
        · obtain ⟨dx, r, wv, h6, _⟩ := hB3.box
          rw [y, h6] at hx; cases hx
        · exact Evl.fresh_back e02 (g3.back (fun x hx => by rw [List.mem_singleton.mp hx, hs3]; exact fun z => nomatch z) hx)
      have at8 : ∀ x o, H3 x = none → H4 x = some o → H8 x = some o := fun x o hx z => e8 _ _ (g47 _ _ (fr x hx).1 z)
      have hg8 : H8 g = some (.lst [.ref ff]) := at8 _ _ hgH hg4x
      have hff8 : H8 ff = some (.lst (ts.map V.ref)) := at8 _ _ hff hff4
      have hrr8 : RowsR H8 ts ls := hrr4.to fun t ht o z => at8 _ _ (hts t ht) z
      have hws8 : RowsAt H8 ws ls := hws.ex (old7.trans e8)
      have hR8 := e8 _ _ hR7
      have hpl2 : PyData.plainAll [PyData.list (ls.map intsD)] = true := by
        rw [PyData.plainAll, show (PyData.list (ls.map intsD)).plain = PyData.plainAll (ls.map intsD) from rfl, rows_plain]
        rfl
      have hdp2 : PyData.depthAll [PyData.list (ls.map intsD)] ≤ 60 := by
        have := rows_depth ls
        simp only [PyData.depthAll, PyData.depth]
        omega
      refine bcut (fun σ' H' => Ex H8 H' ∧ σ' = [some (.ref b), some (.ref l), some (.ref d), some (.ref s), some (.int c), some (.ref h), some (.ref f), some m, some (.int ((rs.filter fun r => decide (r.2 ≤ k)).length : Int)), some (.bl (wq k wr).isSome), some (.ref t), some (.ref g), some (.ref Rw), some (.bl (wq k2 wr).isSome), none, none]) ?_ ?_
      · refine sif (tcutE false ?_ ?_)
        · top_name
          rename_i g9 H9 hg9 e9 hx9
          refine same_neL (ds := [.list (ls.map intsD)]) hr (.lst (SqL.of (e9 _ _ hg8)) (.cons (.lst (SqL.of (e9 _ _ hff8)) (dp_rows ((rowsR_at hrr8).ex e9))) .nil)) (.lst (SqL.of hx9) (.cons (.lst (SqL.of (e9 _ _ hR8)) (dp_rows (hws8.ex e9))) .nil)) hpl2 hdp2 ?_
          top_name
          exact ⟨rfl, e9⟩
        · intro H9 e9
          top_name
          exact ⟨e9, rfl⟩
      rintro _ H9 ⟨e9, rfl⟩
      have hg9 := e9 _ _ hg8
      have hff9 := e9 _ _ hff8
      have hrr9 : RowsR H9 ts ls := hrr8.to fun t _ o z => e9 _ _ z
      have hR9 := e9 _ _ hR8
      have hh9 := e9 _ _ (e8 _ _ hh7)
      have hws9 := hws8.ex e9
      have e79 := e8.trans e9
      obtain ⟨hng, hnd2⟩ := List.nodup_cons.mp hnd
      obtain ⟨hnf, hnd3⟩ := List.nodup_cons.mp hnd2
      have hgt : g ∉ ts := fun z => hng (List.mem_cons_of_mem _ z)
      have hgf : g ≠ ff := fun z => hng (by rw [z]; exact List.mem_cons_self)
      have htl := hrr9.length
      refine bcut (fun σ' H' => Gw ts H9 H' ∧ RowsR H' ts (ls.map fun l => l ++ [1]) ∧ ∃ r, σ' = [some (.ref b), some (.ref l), some (.ref d), some (.ref s), some (.int c), some (.ref h), some (.ref f), some m, some (.int ((rs.filter fun r => decide (r.2 ≤ k)).length : Int)), some (.bl (wq k wr).isSome), some (.ref t), some (.ref g), some (.ref Rw), some (.bl (wq k2 wr).isSome), r, none]) ?_ ?_
      · refine lforL (xs := ts.map V.ref) po rfl (fun i σ' H' => Gw ts H9 H' ∧ RowsR H' (ts.take i) ((ls.take i).map fun l => l ++ [1]) ∧ RowsR H' (ts.drop i) (ls.drop i) ∧ ∃ r, σ' = [some (.ref b), some (.ref l), some (.ref d), some (.ref s), some (.int c), some (.ref h), some (.ref f), some m, some (.int ((rs.filter fun r => decide (r.2 ≤ k)).length : Int)), some (.bl (wq k wr).isSome), some (.ref t), some (.ref g), some (.ref Rw), some (.bl (wq k2 wr).isSome), r, none]) ?_
        top_name
        refine ixL (SqL.of hg9) (atI_nat (j := 0) rfl) ?_
        refine ⟨ff, rfl, SqL.of hff9, ⟨fun _ _ _ z => z, .nil, hrr9, _, rfl⟩, fun i σ' H' _ ⟨e, _⟩ => SqL.of (e _ _ hnf hff9), fun i x σ' H' hx hv => ?_, fun σ' H' hv => ?_⟩
        · obtain ⟨eg, h1, h2, r, rfl⟩ := hv
          obtain ⟨ti, hti, rfl⟩ : ∃ ti, ts[i]? = some ti ∧ x = .ref ti := by
            rw [List.getElem?_map] at hx
            cases z : ts[i]? with
            | none => rw [z] at hx; cases hx
            | some y => rw [z] at hx; exact ⟨y, rfl, (Option.some.inj hx).symm⟩
          obtain ⟨ys, hys, hx2, h3⟩ := RowsR.at h2 hti
          have hyl := hlr ys (List.mem_of_getElem? hys)
          obtain ⟨c1, c2⟩ := nodup_cut hnd3 hti
          top_name
          refine zapp ?_
          top_name
          refine ⟨ti, _, rfl, hx2, ?_⟩
          top_name
          refine ⟨_, hx2, by rw [List.length_map, sizeLine_eq]; omega, ?_⟩
          (repeat refine bnil ?_)
          refine ⟨eg.trans (Gw.put (List.mem_of_getElem? hti)), ?_, h3.to (fun t ht o z => by rw [upd_ne (fun y => c2 (by rw [← y]; exact ht))]; exact z), _, rfl⟩
          rw [List.take_add_one, hti, take_map_succ hys]
          exact RowsR.one (by rw [List.map_append]; exact upd_same) (h1.to fun t ht o z => by rw [upd_ne (fun y => c1 (by rw [← y]; exact ht))]; exact z)
        · obtain ⟨eg, h1, _, r, rfl⟩ := hv
          refine ⟨eg, ?_, r, rfl⟩
          rw [List.length_map, List.take_length, htl, List.take_length] at h1
          exact h1
      rintro _ H10 ⟨g10, hrr10, r, rfl⟩
      have hg10 := g10 _ _ hgt hg9
      have hff10 := g10 _ _ hnf hff9
      have back : ∀ x, H10 x = none → H x = none := fun x hx => gAll.back (fun x hx => by
          rcases List.mem_cons.mp hx with y | hx
          · obtain ⟨dx, r, wv, h6, _⟩ := hb4.box
            rw [y, g47 _ _ bT h6]; exact fun z => nomatch z
          · rcases List.mem_cons.mp hx with y | hx
            · rw [y, hs7]; exact fun z => nomatch z
            · rw [List.mem_singleton.mp hx, hh7]; exact fun z => nomatch z) (Evl.fresh_back e79 (g10.back (fun x hx => hrr10.some_ hx) hx))
      refine bcut (fun σ' H' => H' = upd H10 ff (.lst (ts.map V.ref ++ [.int 2])) ∧ σ' = [some (.ref b), some (.ref l), some (.ref d), some (.ref s), some (.int c), some (.ref h), some (.ref f), some m, some (.int ((rs.filter fun r => decide (r.2 ≤ k)).length : Int)), some (.bl (wq k wr).isSome), some (.ref t), some (.ref g), some (.ref Rw), some (.bl (wq k2 wr).isSome), r, none]) ?_ ?_
      · top_name
        refine zapp ?_
        top_name
        refine ixL (SqL.of hg10) (atI_nat (j := 0) rfl) ?_
        refine ⟨ff, _, rfl, hff10, ?_⟩
        top_name
        refine ⟨_, hff10, by rw [List.length_map, sizeLine_eq]; omega, ?_⟩
        exact ⟨rfl, rfl⟩
      rintro _ _ ⟨rfl, rfl⟩
      have hffH := (fr ff hff).2.2
      have ntsH : ∀ x ∈ ts, H x = none := fun x hx => (fr x (hts x hx)).2.2
      have hff11 : upd H10 ff (.lst (ts.map V.ref ++ [.int 2])) ff = _ := upd_same
      have g11 : Gw (ff :: ts) H9 (upd H10 ff (.lst (ts.map V.ref ++ [.int 2]))) := fun x o n z => by
        rw [upd_ne (fun y => n (by rw [y]; exact List.mem_cons_self))]
        exact g10 _ _ (fun y => n (List.mem_cons_of_mem _ y)) z
      have hrr11 : RowsR (upd H10 ff (.lst (ts.map V.ref ++ [.int 2]))) ts (ls.map fun l => l ++ [1]) := hrr10.to fun t ht o z => by rw [upd_ne (fun y => hnf (by rw [← y]; exact ht))]; exact z
      have back11 : ∀ x, upd H10 ff (.lst (ts.map V.ref ++ [.int 2])) x = none → H x = none := fun x hx => by
        by_cases n : x = ff
        · rw [n, upd_same] at hx; cases hx
        · rw [upd_ne n] at hx; exact back x hx
      generalize upd H10 ff (.lst (ts.map V.ref ++ [.int 2])) = H11 at hff11 g11 hrr11 back11 ⊢
      have notN : ∀ x o, H9 x = some o → H x ≠ none → x ∉ ff :: ts := fun x o z hn y => by
        rcases List.mem_cons.mp y with y | y
        · exact hn (by rw [y]; exact hffH)
        · exact hn (ntsH x y)
      have hg11 : H11 g = some (.lst [.ref ff]) := g11 _ _ (fun y => (List.mem_cons.mp y).elim hgf hgt) hg9
      have hh11 : H11 h = some (.lst hs) := g11 _ _ (notN _ _ hh9 (by rw [hh0]; exact fun z => nomatch z)) hh9
      have old11 : Ex (cutS S H) H11 := fun x o z => g11 _ _ (notN _ _ (e79 _ _ (old7 _ _ z)) (by rw [cut_sub _ _ z]; exact fun z => nomatch z)) (e79 _ _ (old7 _ _ z))
      have hws11 := hws.ex old11
      have hRn : Rw ∉ ff :: ts := fun y => by
        have hRw4 : H4 Rw = none := hRw
        rcases List.mem_cons.mp y with y | y
        · rw [y, hff4] at hRw4; cases hRw4
        · exact hrr4.some_ y hRw4
      have hR11 : H11 Rw = some (.lst ws) := g11 _ _ hRn hR9
      top_name
      refine zapp ?_
      top_name
      refine ⟨h, _, rfl, hh11, ?_⟩
      top_name
      refine zlc rfl nd [("_law_row", 14)] (blkOk_by (N := N__law_asked) (sc := defScope s__law_asked) (by decide +kernel)) piL (tnL (xs := ws) (fun j us H' => RowsAt (nw H11 H') us ((ls.take j).map fun l => l ++ [1])) (fun _ _ _ _ g e => g.ex (nw_mono e)) (fun _ => .nil) ?_)
      top_name
      refine ⟨SqL.of hR11, fun j x H12 L us hx e12 hL hus gg => ?_, fun L H12 us hL e12 hus gg => ?_⟩
      · obtain ⟨lx, xs, rfl, hj, hlx⟩ := hws11.get hx
        have hxl := hlr xs (List.mem_of_getElem? hj)
        have hjl := (List.getElem?_eq_some_iff.mp hj).1
        have hul := gg.length
        rw [List.length_map, List.length_take] at hul
        top_name
        rename_i o1 H13 ho1 e13 hx13
        refine ocatE (e13 _ _ (e12 _ _ hlx)) hx13 (by rw [List.length_map, sizeLine_eq]; show xs.length + 1 ≤ _; omega) fun r2 H14 hr2 e14 hx14 => ?_
        have e24 := e13.trans e14
        have hr12 := Evl.fresh_back e13 hr2
        refine ⟨by rw [sizeLine_eq]; omega, e24, ?_⟩
        show RowsAt (nw H11 (del H14 L)) (us ++ [.ref r2]) ((ls.take (j + 1)).map fun l => l ++ [1])
        rw [take_map_succ hj]
        refine (gg.ex (nw_mono (del_mono fun _ _ _ z => e24 _ _ z))).one (nw_at (Evl.fresh_back e12 hr12) (del_at ?_ (ne_new hus hr12)))
        rw [List.map_append]
        exact hx14
      · have hul := gg.length
        have hwl := hws11.length
        rw [hwl, List.take_length] at gg hul
        rw [List.length_map] at hul
        top_name
        rename_i o1 H13 ho1 e13 hx13
        refine ocatE (e13 _ _ hus) hx13 (by rw [sizeLine_eq]; show us.length + 1 ≤ _; omega) fun pp H14 hpp e14 hx14 => ?_
        top_name
        rename_i tp H15 htp e15 hx15
        have e1215 := (e13.trans e14).trans e15
        have e115 := e12.trans e1215
        have tpH : H tp = none := back11 _ (Evl.fresh_back (e12.trans (e13.trans e14)) htp)
        have ppH : H pp = none := back11 _ (Evl.fresh_back (e12.trans e13) hpp)
        refine ⟨hs, e115 _ _ hh11, by rw [sizeLine_eq]; omega, ?_⟩
        have neh : ∀ x, H x = none → x ≠ h := fun x z y => by rw [y, hh0] at z; cases z
        have at16 : ∀ x o, H x = none → H15 x = some o → upd H15 h (.lst (hs ++ [.ref tp])) x = some o := fun x o z y => by rw [upd_ne (neh x z)]; exact y
        have g16 : Gw (h :: ff :: ts) H7 (upd H15 h (.lst (hs ++ [.ref tp]))) := fun x o n z => by
          rw [upd_ne (fun y => n (by rw [y]; exact List.mem_cons_self))]
          exact e115 _ _ (g11 _ _ (fun y => n (List.mem_cons_of_mem _ y)) (e79 _ _ z))
        have hh16 : upd H15 h (.lst (hs ++ [.ref tp])) h = _ := upd_same
        generalize upd H15 h (.lst (hs ++ [.ref tp])) = H16 at at16 g16 hh16 ⊢
        have gA : Gw [b, s, h] H H16 := fun x o n z => g16 _ _ (fun y => by
          rcases List.mem_cons.mp y with y | y
          · exact n (by rw [y]; exact List.mem_cons_of_mem _ (List.mem_cons_of_mem _ List.mem_cons_self))
          · rcases List.mem_cons.mp y with y | y
            · rw [y, hffH] at z; cases z
            · rw [ntsH x y] at z; cases z) (gAll _ _ n z)
        have hgH0 := (fr g hgH).2.2
        have on := hBox.on
        have cN : ∀ x o, H x = none → H15 x = some o → cutS S H16 x = some o := fun x o z y => cut_new on z (at16 x o z y)
        have hs16 : H16 s = some (stD k2 (wq k2 wr).isSome) := g16 _ _ (fun y => by
          rcases List.mem_cons.mp y with y | y
          · exact n3 y
          · rcases List.mem_cons.mp y with y | y
            · rw [← y, hst] at hffH; cases hffH
            · have := ntsH s y; rw [hst] at this; cases this) hs7
        have gg15 : Gw (s :: t :: h :: ff :: ts) H4 H16 := fun x o n z => g16 _ _ (fun y => n (List.mem_cons_of_mem _ (List.mem_cons_of_mem _ y))) (g47 _ _ (nst _ (fun y => n (by rw [y]; exact List.mem_cons_self)) (fun y => n (by rw [y]; exact List.mem_cons_of_mem _ List.mem_cons_self))) z)
        have hb16 : BoxS K (ts.reverse ++ ff :: t :: S) H16 b rest2 A2 (wq k2 wr) := by
          refine hb4.gw gg15 (fun x hx => ?_) (fun x hx => ?_) (fun hx => ?_)
          · rcases List.mem_cons.mp hx with y | hx
            · rw [y]; exact List.mem_append.mpr (.inr (List.mem_cons_of_mem _ (List.mem_cons_of_mem _ ms)))
            · rcases List.mem_cons.mp hx with y | hx
              · rw [y]; exact List.mem_append.mpr (.inr (List.mem_cons_of_mem _ List.mem_cons_self))
              · rcases List.mem_cons.mp hx with y | hx
                · rw [y]; exact List.mem_append.mpr (.inr (List.mem_cons_of_mem _ (List.mem_cons_of_mem _ mh)))
                · rcases List.mem_cons.mp hx with y | hx
                  · rw [y]; exact rev_mem
                  · exact List.mem_append.mpr (.inl (List.mem_reverse.mpr hx))
          · have tN : t ∉ h :: ff :: ts := fun y => by
              rcases List.mem_cons.mp y with y | y
              · exact nht y.symm
              · rcases List.mem_cons.mp y with y | y
                · rw [← y, ht3] at hff; cases hff
                · have := hts t y; rw [ht3] at this; cases this
            rcases List.mem_cons.mp hx with y | hx
            · rw [y, hs16]; exact fun z => nomatch z
            · rcases List.mem_cons.mp hx with y | hx
              · rw [y, g16 _ _ tN ht7]; exact fun z => nomatch z
              · rcases List.mem_cons.mp hx with y | hx
                · rw [y, hh16]; exact fun z => nomatch z
                · rcases List.mem_cons.mp hx with y | hx
                  · rw [y, at16 _ _ hffH (e115 _ _ hff11)]; exact fun z => nomatch z
                  · cases y : H11 x with
                    | none => exact (hrr11.some_ hx y).elim
                    | some o => rw [at16 _ _ (ntsH x hx) (e115 _ _ y)]; exact fun z => nomatch z
          · rcases List.mem_cons.mp hx with y | hx
            · exact n1 y
            · rcases List.mem_cons.mp hx with y | hx
              · exact ntb y.symm
              · rcases List.mem_cons.mp hx with y | hx
                · exact n2 y
                · rcases List.mem_cons.mp hx with y | hx
                  · exact (fr ff hff).2.1 y.symm
                  · exact (fr b (hts b hx)).2.1 rfl
        have lessN : ∀ x ∈ ts.reverse ++ [ff, t], b ≠ x := fun x hx => by
          rcases List.mem_append.mp hx with y | hx
          · exact fun z => (fr x (hts x (List.mem_reverse.mp y))).2.1 z.symm
          · rcases List.mem_cons.mp hx with y | hx
            · rw [y]; exact (fr ff hff).2.1.symm
            · rw [List.mem_singleton.mp hx]; exact ntb.symm
        top_name
        exact q H16 k2 _ gA hk1 ⟨hs16, hk2, rest2, A2, BoxS.lessL (ts := ts.reverse ++ [ff, t]) (by rw [List.append_assoc]; exact hb16) lessN, hNB⟩ hcc hh16 (HeldAt.one (cN _ _ tpH hx15) (.lst (SqL.of (cN _ _ hgH0 (e115 _ _ hg11))) (.cons (.lst (SqL.of (cN _ _ hffH (e115 _ _ hff11))) (dpAll_app (dp_rows (rowsR_at (hrr11.to fun x hx o z => cN _ _ (ntsH x hx) (e115 _ _ z)))) (.cons (.int _) .nil))) .nil)) (.lst (SqL.of (cN _ _ ppH (e15 _ _ hx14))) (dpAll_app (dp_rows (gg.ex fun x o z => cN _ _ (back11 _ (nw_none z)) (e1215 _ _ (nw_sub _ _ z)))) (.cons (.int _) .nil))) (held_plain ls) (held_depth ls) (hH.ex (gA.cut inS))) (by rw [List.length_append]; exact Nat.le_refl _)
end K06

set_option maxRecDepth 100000
set_option maxHeartbeats 4000000
set_option pp.maxSteps 400
namespace K06
open PySem PySem.Spec PyProof.Rows L2 Z
open Evl (Ex)
variable {P : Program} {w : World} {K : PySem.W.Frag} {mg : Str → Option Value} {base : Heap}
/-! ### steps of the walk: one_sign: a heap grew into another; one_item: what stands at an address; one_place: a list or tuple to be read; leaf_len: arithmetic; tb_rel: one step; top_name: steps as far as they go -/
local macro_rules | `(tactic| got_up) => `(tactic| (refine Evl.Ex.trans (by assumption) ?_; first | assumption | exact Evl.Ex.refl _ | got_up))
local macro_rules | `(tactic| units_room) => `(tactic| (refine Evl.Ex.trans ?_ (by assumption); first | assumption | exact Evl.Ex.refl _ | units_room))
local macro_rules | `(tactic| one_sign) => `(tactic| first | assumption | exact Evl.Ex.refl _ | got_up | units_room)
local macro_rules | `(tactic| one_item) => `(tactic| first | assumption | exact upd_same | exact exa (by assumption) (by one_sign))
local macro_rules | `(tactic| one_place) => `(tactic| first | assumption | exact SqL.of (by assumption) | exact SqT.of (by assumption) | exact exl (by assumption) (by one_sign) | exact ext (by assumption) (by one_sign) | exact SqL.of (by one_item) | exact SqT.of (by one_item))
local macro_rules | `(tactic| leaf_len) => `(tactic| first | assumption | decide | omega)
local macro_rules | `(tactic| tb_rel) => `(tactic| first
  | ((with_reducible refine (?_ : wE _ _ _ _ _)); first
    | ((with_reducible refine (?_ : wE _ (.Name _ _) _ _ _)); first | refine zn (by rfl) (by first | exact Or.inl rfl | exact Or.inr (Or.inl rfl) | exact Or.inr (Or.inr rfl)) (by rfl) ?_ | refine zglob (by assumption) (by rfl) ?_ | refine zcls (by assumption) (by rfl) ?_ | refine zty (by assumption) (by first | exact bt_int | exact bt_bool | exact bt_str | exact bt_list | exact bt_tuple | exact bt_dict | exact bt_ValueError) (by rfl) ?_)
    | ((with_reducible refine (?_ : wE _ (.Attribute _ _ _) _ _ _)); refine zfld ?_)
    | ((with_reducible refine (?_ : wE _ (.Constant _ _ _) _ _ _)); first | refine zint ?_ | refine zstr ?_ | refine zbl ?_ | refine znon ?_)
    | ((with_reducible refine (?_ : wE _ (.BinOp _ _ _ _) _ _ _)); refine zbin ?_)
    | ((with_reducible refine (?_ : wE _ (.Compare _ _ _ _) _ _ _)); first | refine zcmp (by rfl) ?_ | refine zchain ?_)
    | ((with_reducible refine (?_ : wE _ (.Dict [] [] _) _ _ _)); refine zdnew (fun _ _ _ _ _ => ?_))
    | ((with_reducible refine (?_ : wE _ (.Subscript _ (.Slice _ _ _ _) _) _ _ _)); refine zsl ?_)
    | ((with_reducible refine (?_ : wE _ (.Subscript _ _ _) _ _ _)); refine zix ?_)
    | ((with_reducible refine (?_ : wE _ (.Call (.Name "list" _) [.Call (.Name "range" _) [_] [] _] [] _) _ _ _)); refine zlrg1 rfl (by rfl) (by assumption) (by rfl) (by assumption) ?_)
    | ((with_reducible refine (?_ : wE _ (.Call (.Name _ _) _ _ _) _ _ _)); first
      | ((with_reducible refine (?_ : wE _ (.Call (.Name "len" _) _ _ _) _ _ _)); refine zbfn (by assumption) bt_len (by rfl) ?_)
      | ((with_reducible refine (?_ : wE _ (.Call (.Name "isinstance" _) _ _ _) _ _ _)); refine zbfn (by assumption) bt_isi (by rfl) ?_)
      | ((with_reducible refine (?_ : wE _ (.Call (.Name "min" _) _ _ _) _ _ _)); refine zbfn (by assumption) bt_min (by rfl) ?_)
      | ((with_reducible refine (?_ : wE _ (.Call (.Name "max" _) _ _ _) _ _ _)); refine zbfn (by assumption) bt_max (by rfl) ?_)
      | ((with_reducible refine (?_ : wE _ (.Call (.Name "list" _) _ _ _) _ _ _)); refine zbty (by assumption) bt_list (by rfl) ?_)
      | ((with_reducible refine (?_ : wE _ (.Call (.Name "tuple" _) _ _ _) _ _ _)); refine zbty (by assumption) bt_tuple (by rfl) ?_)
      | ((with_reducible refine (?_ : wE _ (.Call (.Name "int" _) _ _ _) _ _ _)); refine zbty (by assumption) bt_int (by rfl) ?_)
      | ((with_reducible refine (?_ : wE _ (.Call (.Name "abs" _) _ _ _) _ _ _)); refine zbfn (by assumption) bt_abs (by rfl) ?_)
      | ((with_reducible refine (?_ : wE _ (.Call (.Name "all" _) _ _ _) _ _ _)); refine zbfn (by assumption) bt_all (by rfl) ?_)
      | ((with_reducible refine (?_ : wE _ (.Call (.Name "sum" _) _ _ _) _ _ _)); refine zbfn (by assumption) bt_sum (by rfl) ?_)
      | ((with_reducible refine (?_ : wE _ (.Call (.Name "divmod" _) _ _ _) _ _ _)); refine zbfn (by assumption) bt_divmod (by rfl) ?_)
      | ((with_reducible refine (?_ : wE _ (.Call (.Name "ord" _) _ _ _) _ _ _)); refine zbfn (by assumption) bt_ord (by rfl) ?_))
    | ((with_reducible refine (?_ : wE _ (.IfExp _ _ _ _) _ _ _)); refine zif ?_)
    | ((with_reducible refine (?_ : wE _ (.Tuple _ _ _) _ _ _)); refine ztup ?_)
    | ((with_reducible refine (?_ : wE _ (.List _ _) _ _ _)); refine zlst ?_)
    | ((with_reducible refine (?_ : wE _ (.UnaryOp _ _ _) _ _ _)); first | refine znotV ?_ | refine zneg ?_)
    | ((with_reducible refine (?_ : wE _ (.BoolOp _ _ _) _ _ _)); first | refine zandV ?_ | refine zorV ?_ | refine zoneV ?_))
  | ((with_reducible refine (?_ : bE _ _ _ _ _ _)); refine ⟨fun _ _ _ _ _ => ?_⟩) | ((with_reducible refine (?_ : bG _ _ _ _ _ _ _)); refine ⟨fun _ _ _ _ _ => ?_⟩) | ((with_reducible refine (?_ : bTs _ _ _ _ _ _)); refine ⟨fun _ _ _ _ _ => ?_⟩)
  | ((with_reducible refine (?_ : hE _ _ _ _ _ _)); refine ⟨fun _ _ _ _ _ => ?_⟩) | ((with_reducible refine (?_ : hG _ _ _ _ _ _ _)); refine ⟨fun _ _ _ _ _ => ?_⟩) | ((with_reducible refine (?_ : hTs _ _ _ _ _ _)); refine ⟨fun _ _ _ _ _ => ?_⟩)
  | ((with_reducible refine (?_ : wP _ _ _ _ _)); first | refine pnon ?_ | refine psom ?_) | ((with_reducible refine (?_ : wSl _ _ _ _ _ _)); first | refine slL (by one_place) (fun _ _ _ _ _ => ?_) | refine slS (by assumption) ?_)
  | ((with_reducible refine (?_ : wTs _ _ _ _ _)); first | refine tsnil ?_ | refine tsone ?_)
  | ((with_reducible refine (?_ : wA _ _ _ _ _)); first | refine acons ?_ | refine anil ?_)
  | ((with_reducible refine (?_ : wO _ _ _ _ _ _)); first
    | ((with_reducible refine (?_ : wO _ (binaryOp .Add) _ _ _ _)); first | refine oadd ?_ | refine ocatE (by one_item) (by one_item) (Nat.le_of_ble_eq_true rfl) (fun _ _ _ _ _ => ?_))
    | ((with_reducible refine (?_ : wO _ (binaryOp .Sub) _ _ _ _)); first | refine osub ?_)
    | ((with_reducible refine (?_ : wO _ (binaryOp .Mult) _ _ _ _)); first | refine omul (by first | exact IntMulOk.of_right (by decide) | exact IntMulOk.of_left (by decide) | exact IntMulOk.of_right (intBits_le_64 (by omega) (by omega)) | exact IntMulOk.of_left (intBits_le_64 (by omega) (by omega))) ?_)
    | ((with_reducible refine (?_ : wO _ (binaryOp .Mod) _ _ _ _)); first | refine omod (by first | decide | omega) ?_)
    | ((with_reducible refine (?_ : wO _ (binaryOp .FloorDiv) _ _ _ _)); first | refine ofdiv ⟨by first | decide | omega, by decide⟩ ?_)
    | ((with_reducible refine (?_ : wO _ (binaryOp .BitAnd) _ _ _ _)); first | refine oand ?_)
    | ((with_reducible refine (?_ : wO _ (binaryOp .BitOr) _ _ _ _)); first | refine oor ?_)
    | ((with_reducible refine (?_ : wO _ (compareOp .Lt) _ _ _ _)); first | refine olt ?_)
    | ((with_reducible refine (?_ : wO _ (compareOp .LtE) _ _ _ _)); first | refine ole ?_)
    | ((with_reducible refine (?_ : wO _ (compareOp .Gt) _ _ _ _)); first | refine ogt ?_)
    | ((with_reducible refine (?_ : wO _ (compareOp .GtE) _ _ _ _)); first | refine oge ?_)
    | ((with_reducible refine (?_ : wO _ (compareOp .Eq) _ _ _ _)); first | refine oeqi ?_ | refine oeqsT (by decide +kernel) ?_ | refine oeqsF (by decide +kernel) ?_ | refine oeq (by rfl) ?_)
    | ((with_reducible refine (?_ : wO _ (compareOp .NotEq) _ _ _ _)); first | refine onei ?_ | refine onesT (by decide +kernel) ?_ | refine onesF (by decide +kernel) ?_ | refine one (by rfl) ?_)
    | ((with_reducible refine (?_ : wO _ (compareOp .In) _ _ _ _)); first | refine oin ?_)
    | ((with_reducible refine (?_ : wO _ (compareOp .NotIn) _ _ _ _)); first | refine onin ?_)
    | ((with_reducible refine (?_ : wO _ (compareOp .Is) _ _ _ _)); first | refine ois ?_)
    | ((with_reducible refine (?_ : wO _ (compareOp .IsNot) _ _ _ _)); first | refine onot ?_)
    | ((with_reducible refine (?_ : wO _ (binaryOp .RShift) _ _ _ _)); refine oshr (by first | decide | omega) ?_)
    | ((with_reducible refine (?_ : wO _ (binaryOp .BitXor) _ _ _ _)); refine oxor ?_)
    | ((with_reducible refine (?_ : wO _ (inplaceOp .BitXor) _ _ _ _)); refine ixor ?_)
    | ((with_reducible refine (?_ : wO _ (inplaceOp .RShift) _ _ _ _)); refine ishr (by first | decide | omega) ?_)
    | ((with_reducible refine (?_ : wO _ (inplaceOp .BitOr) _ _ _ _)); first | refine ior ?_)
    | ((with_reducible refine (?_ : wO _ (inplaceOp .Add) _ _ _ _)); first | refine iadd ?_))
  | ((with_reducible refine (?_ : wT _ _ _ _ _)); first
    | ((with_reducible refine (?_ : wT _ (.Compare _ _ _ _) _ _ _)); first | refine zcmpT (by rfl) ?_ | refine zchainT ?_)
    | ((with_reducible refine (?_ : wT _ (.UnaryOp _ _ _) _ _ _)); refine znotT ?_)
    | ((with_reducible refine (?_ : wT _ (.BoolOp _ _ _) _ _ _)); refine zW ?_)
    | refine zval ?_)
  | ((with_reducible refine (?_ : wW _ _ _ _ _)); first | refine zand ?_ | refine zor ?_ | refine zand1 ?_ | refine zor1 ?_)
  | ((with_reducible refine (?_ : wK _ _ _ _ _)); first
    | ((with_reducible refine (?_ : wK _ (.builtin "len") _ _ _)); first | refine klenL (by one_place) ?_ | refine klenT (by one_place) ?_ | refine klenS (by assumption) ?_)
    | ((with_reducible refine (?_ : wK _ (.builtin "isinstance") _ _ _)); first | refine kisE (by assumption) (by assumption) (by first | assumption | exact Xd.exx (by assumption) (by one_sign)) (by first | exact .own _ | exact .ty _) (by assumption) ?_ | refine kisi (.ty _) (by assumption) (by assumption) ?_ | refine kisi (.ty _) (.base (by first | exact .int _ | exact .bl _ | exact .str _ | exact .non | exact .tup (by one_item) | exact .lst (by one_item))) (kit_ty (r := true) (by rfl)) ?_ | refine kisi (.ty _) (.base (by first | exact .int _ | exact .bl _ | exact .str _ | exact .non | exact .tup (by one_item) | exact .lst (by one_item))) (kit_ty (r := false) (by rfl)) ?_)
    | ((with_reducible refine (?_ : wK _ (.builtin "divmod") _ _ _)); refine kdivmod ⟨by first | decide | omega, by decide⟩ (fun _ _ _ _ _ => ?_))
    | ((with_reducible refine (?_ : wK _ (.builtin "min") _ _ _)); refine kmin (by rfl) ?_)
    | ((with_reducible refine (?_ : wK _ (.builtin "max") _ _ _)); refine kmax (by rfl) ?_)
    | ((with_reducible refine (?_ : wK _ (.type "list") _ _ _)); first | refine klistL (by one_place) (fun _ _ _ _ _ => ?_) | refine klistT (by one_place) (fun _ _ _ _ _ => ?_))
    | ((with_reducible refine (?_ : wK _ (.type "tuple") _ _ _)); first | refine ktupL (by one_place) (fun _ _ _ _ _ => ?_)))
  | ((with_reducible refine (?_ : wS _ _ _ _ _)); first
    | ((with_reducible refine (?_ : wS _ (.Assign [.Name _ _] _ _) _ _ _)); refine sset' (by assumption) (by rfl) (by first | exact Or.inl rfl | exact Or.inr rfl) (by rfl) (by first | exact .inl rfl | exact .inr rfl) ?_)
    | ((with_reducible refine (?_ : wS _ (.AugAssign (.Name _ _) _ _ _) _ _ _)); refine saug' (by assumption) (by rfl) (by first | exact Or.inl rfl | exact Or.inr rfl) (by first | exact .inl rfl | exact .inr rfl) (by rfl) ?_)
    | ((with_reducible refine (?_ : wS _ (.Assign [.Attribute _ _ _] _ _) _ _ _)); refine sfld ?_)
    | ((with_reducible refine (?_ : wS _ (.Expr _ _) _ _ _)); refine sexp ?_)
    | ((with_reducible refine (?_ : wS _ (.Assign [.Tuple _ _ _] _ _) _ _ _)); refine sasg ?_) | ((with_reducible refine (?_ : wS _ (.Assign [.Subscript _ _ _] _ _) _ _ _)); refine sasg ?_)
    | refine sret ?_ | refine sif ?_ | refine sretN ?_ | refine spass ?_ | refine sbrk ?_ | refine scont ?_)
  | ((with_reducible refine (?_ : wG _ (.Name _ _) _ _ _ _)); refine gname' (by assumption) (by rfl) (by first | exact Or.inl rfl | exact Or.inr rfl) (by first | exact .inl rfl | exact .inr rfl) ?_)
  | ((with_reducible refine (?_ : wG _ (.Tuple _ _ _) _ _ _ _)); refine gtup rfl (by one_place) rfl ?_) | ((with_reducible refine (?_ : wG _ (.Subscript _ _ _) _ _ _ _)); refine gsub ?_)
  | ((with_reducible refine (?_ : wGs _ _ _ _ _ _)); first | refine gscons ?_ | refine gsnil ?_)
  | ((with_reducible refine (?_ : wB _ _ _ _ _)); first | refine bcons ?_ | refine bnil ?_)
  | refine ifT ?_ | refine ifF ?_ | refine ifd (fun _ => ?_) (fun _ => ?_) | refine ifnd (fun _ => ?_) (fun _ => ?_) | refine ⟨_, rfl, ?_⟩ | refine ⟨rfl, Evl.Ex.refl _, ?_⟩ | refine ⟨_, _, _, _, _, rfl, by one_item, by assumption, by assumption, by rfl, ?_⟩ | refine ⟨Nat.le_of_ble_eq_true rfl, fun _ _ _ _ _ => ?_⟩ | fail)
local macro_rules | `(tactic| top_name) => `(tactic| repeat' tb_rel)
local macro_rules | `(tactic| nest_fact) => `(tactic| first | exact ⟨(decide_eq_true (by omega)).symm, rfl⟩ | exact ⟨(decide_eq_false (by omega)).symm, rfl⟩ | exact ⟨decide_eq_decide.mpr (by omega), rfl⟩ | fail)
local macro_rules | `(tactic| tb_rel) => `(tactic| first
  | ((with_reducible refine (?_ : wE _ (.Call (.Name "_law_mixed" _) _ _ _) _ _ _)); refine zmixed (by assumption) (by assumption) rfl ?_)
  | ((with_reducible refine (?_ : MixP _ _ _)); refine MixP.mk (by assumption) (by assumption) (by omega) (by omega) ?_) | fail)
/-! ### the law's own wire -/
theorem frameR_len (xs : List Int) : (frameR xs).length = (rowN xs.length).length + xs.length + 2 := by
  unfold frameR withCheck
  rw [List.length_append, List.length_append]
  rfl
theorem frameR_bytes {xs : List Int} (h : Bytes xs) : Bytes (frameR xs) := by
  unfold frameR withCheck
  have := crc_lt (f := 65535) (by decide) (rowN xs.length ++ xs)
  refine bytes_app (bytes_app (rowN_bytes _) h) fun x hx => ?_
  rcases List.mem_cons.mp hx with rfl | hx
  · omega
  · rw [List.mem_singleton.mp hx]; omega
theorem cut_by {xs : List Int} {a b : Option Int} (h : Bytes xs) : ∃ ys, cutV (xs.map V.int) a b = ys.map V.int ∧ Bytes ys ∧ ys.length ≤ xs.length := by
  unfold cutV
  refine ⟨_, by rw [← List.map_drop, ← List.map_take], fun x hx => h x (List.mem_of_mem_drop (List.mem_of_mem_take hx)), ?_⟩
  rw [List.length_take, List.length_drop]
  omega
theorem byte_xor : ∀ x < 256, ∀ b < 8, x ^^^ 2 ^ b < 256 := by decide +kernel
/-- a list of bytes that stands, of at most n -/
def ByAt (H : Hp) (n : Nat) (v : V) : Prop := ∃ (t : Addr) (xs : List Int), v = .ref t ∧ H t = some (.lst (xs.map V.int)) ∧ Bytes xs ∧ xs.length ≤ n
theorem ByAt.ex {H H' : Hp} (e : Ex H H') {n : Nat} {v : V} (h : ByAt H n v) : ByAt H' n v := by
  obtain ⟨t, xs, e1, h1, h2, h3⟩ := h
  exact ⟨t, xs, e1, e _ _ h1, h2, h3⟩
theorem ByAt.of {H : Hp} {t : Addr} {n : Nat} (xs : List Int) (h : H t = some (.lst (xs.map V.int))) (hb : Bytes xs) (hl : xs.length ≤ n) : ByAt H n (.ref t) := ⟨t, xs, rfl, h, hb, hl⟩
theorem ByAt.up {H : Hp} {n m : Nat} {v : V} (h : ByAt H n v) (hn : n ≤ m) : ByAt H m v := by
  obtain ⟨t, xs, e1, h1, h2, h3⟩ := h
  exact ⟨t, xs, e1, h1, h2, Nat.le_trans h3 hn⟩
theorem obcat {X : Cx} {H : Hp} {Q : VK} {u v : V} {n m : Nat} (h1 : ByAt H n u) (h2 : ByAt H m v) (hn : n + m ≤ 16000000) (q : ∀ w H', Ex H H' → ByAt H' (n + m) w → Q w H') : wO X (binaryOp .Add) u v H Q := by
  obtain ⟨t, xs, rfl, a1, a2, a3⟩ := h1
  obtain ⟨r, ys, rfl, b1, b2, b3⟩ := h2
  exact ocatE a1 b1 (by rw [List.length_map, List.length_map, sizeLine_eq]; omega) fun p H' hp e hx => q _ _ e ⟨p, xs ++ ys, rfl, by rw [List.map_append]; exact hx, bytes_app a2 b2, by rw [List.length_append]; omega⟩
theorem slB {X : Cx} {H : Hp} {Q : VK} {v : V} {n : Nat} {lo hi : Option Int} (h : ByAt H n v) (q : ∀ w H', Ex H H' → ByAt H' n w → Q w H') : wSl X v lo hi H Q := by
  obtain ⟨t, xs, rfl, a1, a2, a3⟩ := h
  obtain ⟨ys, e1, e2, e3⟩ := cut_by (a := lo) (b := hi) a2
  exact slL (SqL.of a1) fun p H' hp e hx => q _ _ e ⟨p, ys, rfl, by rw [← e1]; exact hx, e2, Nat.le_trans e3 a3⟩
theorem rep_one (k : Nat) (x : V) : (List.replicate k [x]).flatten = List.replicate k x := by
  induction k with
  | zero => rfl
  | succ k ih => rw [List.replicate_succ, List.flatten_cons, ih, List.replicate_succ]; rfl
theorem rep_by (k : Nat) (x : Int) (h : 0 ≤ x ∧ x ≤ 255) : Bytes (List.replicate k x) := fun y hy => by rw [(List.mem_replicate.mp hy).2]; omega
local macro_rules | `(tactic| tb_rel) => `(tactic| first
  | ((with_reducible refine (?_ : wSl _ _ _ _ _ _)); refine slB (by first | assumption | exact ByAt.ex (by one_sign) (by assumption)) fun _ _ _ _ => ?_)
  | ((with_reducible refine (?_ : wO _ (binaryOp .Add) _ _ _ _)); refine obcat (by first | assumption | exact ByAt.ex (by one_sign) (by assumption)) (by first | assumption | exact ByAt.ex (by one_sign) (by assumption)) (by decide) fun _ _ _ _ => ?_) | fail)
def spWire (K : PySem.W.Frag) : Sp := fun vs H Q _ => ∃ (a : Addr) (ns : List Int), vs = [.ref a] ∧ SqL K H a (ns.map V.int) ∧ ns.length ≤ 63 ∧ (∀ z ∈ ns, Builtin.Int.intBits z ≤ 1048576) ∧ ∀ v H', Ex H H' → ByAt H' 8000 v → Q v H'
theorem ok_wire (T : Txt K mg) : Gf P w K mg base 3 "_law_wire" [] (spWire K) := by
  refine gf_mk T.f__law_wire T.m__law_wire (fun _ _ _ _ _ _ us hl => match us, hl with | [_], _ => rfl) fun fd F => fn_mk F sc__law_wire (fun vs H Q E h => ?_) fun cd A outer s H vs Q E hr tk po h => ?_
  · obtain ⟨a, ns, rfl, _⟩ := h; rfl
  · obtain ⟨a, ns, rfl, hs, hlen, hbits, q⟩ := h
    have nd := sc__law_wire.nd
    have n3 := T.n_range
    have n6 := T.n_len
    have hr1 : Room (1 + 1) _ := hr
    refine bcut (fun σ' H' => H = H' ∧ ∃ c : Int, 0 ≤ c ∧ c < 2147483647 ∧ σ' = [some (.ref a), some (.int c), none, none, none, none, none, none, none, none]) ?_ ?_
    · top_name
      refine zcall (ok_cell_at T) hr1 (by decide) takesF rfl ?_
      top_name
      refine ⟨a, ns, 0, rfl, hs, by decide, ?_⟩
      top_name
      exact .fits (cellAt_fits hbits _) (by omega) (by omega) ⟨rfl, _, mixed_lo _ _, mixed_hi _ _, rfl⟩
    rintro _ _ ⟨rfl, c, c0, c1, rfl⟩
    refine bcut (fun σ' H' => Ex H H' ∧ ∃ W : Addr, H' W = some (.lst []) ∧ σ' = [some (.ref a), some (.int c), some (.ref W), none, none, none, none, none, none, none]) ?_ ?_
    · top_name
      rename_i W H1 hW e1 hx1
      exact ⟨e1, W, hx1, rfl⟩
    rintro _ H1 ⟨e1, W, hx1, rfl⟩
    refine bcut (fun σ' H' => Ex H1 H' ∧ ∃ (v : V) (k m z : Option V), ByAt H' 1260 v ∧ σ' = [some (.ref a), some (.int c), some v, k, m, z, none, none, none, none]) ?_ ?_
    · refine lfor1 (n := c % 7) n3 po rfl (fun i σ' H' => Ex H1 H' ∧ ∃ (v : V) (k m z : Option V), ByAt H' (210 * i) v ∧ σ' = [some (.ref a), some (.int c), some v, k, m, z, none, none, none, none]) rfl ?_
      top_name
      refine ⟨rfl, by omega, by omega, ⟨Evl.Ex.refl _, .ref W, none, none, none, .of [] hx1 (fun _ h => nomatch h) (Nat.le_refl _), rfl⟩, fun i σ' H2 hi hv => ?_, fun σ' H2 hv => ?_⟩
      · obtain ⟨e2, v, k0, m0, z0, hv, rfl⟩ := hv
        have hs2 := exl hs (e1.trans e2)
        tb_rel
        refine bcut (fun σ' H' => H2 = H' ∧ ∃ m : Int, 0 ≤ m ∧ m < 2147483647 ∧ σ' = [some (.ref a), some (.int c), some v, some (.int (i : Int)), some (.int m), z0, none, none, none, none]) ?_ ?_
        · top_name
          refine zcall (ok_cell_at T) hr1 (by decide) takesF rfl ?_
          top_name
          refine ⟨a, ns, _, rfl, hs2, by omega, ?_⟩
          top_name
          exact .fits (cellAt_fits hbits _) (by omega) (by omega) ⟨rfl, _, mixed_lo _ _, mixed_hi _ _, rfl⟩
        rintro _ _ ⟨rfl, m, m0, m1, rfl⟩
        refine bcut (fun σ' H' => H2 = H' ∧ ∃ n : Nat, n ≤ 200 ∧ σ' = [some (.ref a), some (.int c), some v, some (.int (i : Int)), some (.int m), some (.int (n : Int)), none, none, none, none]) ?_ ?_
        · top_name
          refine ⟨rfl, (m % 11).toNat, by omega, ?_⟩
          rw [Int.toNat_of_nonneg (by omega)]
          rfl
        rintro _ _ ⟨rfl, n0, hn0, rfl⟩
        refine bcut (fun σ' H' => H2 = H' ∧ ∃ n : Nat, n ≤ 200 ∧ σ' = [some (.ref a), some (.int c), some v, some (.int (i : Int)), some (.int m), some (.int (n : Int)), none, none, none, none]) ?_ ?_
        · top_name
          all_goals (repeat refine bnil ?_)
          all_goals first
            | exact ⟨rfl, n0, hn0, rfl⟩
            | exact ⟨rfl, (m % 201).toNat, by omega, by rw [Int.toNat_of_nonneg (by omega)]; rfl⟩
        clear hn0 n0
        rintro _ _ ⟨rfl, n, hn, rfl⟩
        top_name
        refine zcall (ok_lframe T) hr1 (by decide) takesF rfl ?_
        top_name
        refine zlc rfl nd [("_law_j", 9)] (blkOk_by (N := N__law_wire) (sc := defScope s__law_wire) (by decide +kernel)) (piR1 n3 rfl) (tmR1 (n := (n : Int)) (accM fun j => mixed m (j : Int) % 256) rfl ?_)
        top_name
        refine ⟨rfl, by omega, by omega, fun j H3 hj e3 => ?_, fun L H3 hL e3 hxL => ?_⟩
        · top_name
          exact ⟨accM_succ _ _, by rw [accM_len, sizeLine_eq]; omega, Evl.Ex.refl _⟩
        · top_name
          have hbx : Bytes ((List.range n).map fun (j : Nat) => mixed m (j : Int) % 256) := fun x hx => by
            obtain ⟨j, _, rfl⟩ := List.mem_map.mp hx
            omega
          have hln : ((List.range n).map fun (j : Nat) => mixed m (j : Int) % 256).length = n := by simp
          refine ⟨L, (List.range n).map fun (j : Nat) => mixed m (j : Int) % 256, rfl, hxL, hbx, by rw [hln]; omega, fun t H4 ht e4 hx4 => ?_⟩
          have hfl := frameR_len ((List.range n).map fun (j : Nat) => mixed m (j : Int) % 256)
          have hf3 := rowN_short (show ((List.range n).map fun (j : Nat) => mixed m (j : Int) % 256).length ≤ 100000 by omega)
          refine obcat ((hv.ex e3).ex e4) (.of (n := 210) _ hx4 (frameR_bytes hbx) (by omega)) (by omega) fun w H5 e5 hw => ?_
          top_name
          exact ⟨e2.trans (e3.trans (e4.trans e5)), w, _, _, _, hw.up (by omega), rfl⟩
      · obtain ⟨e2, v, k0, m0, z0, hv, rfl⟩ := hv
        exact ⟨e2, v, k0, m0, z0, hv.up (by omega), rfl⟩
    rintro _ H2 ⟨e2, v, k0, m0, z0, hv, rfl⟩
    have hs2 := exl hs (e1.trans e2)
    refine bcut (fun σ' H' => H2 = H' ∧ ∃ m : Int, 0 ≤ m ∧ m < 2147483647 ∧ σ' = [some (.ref a), some (.int c), some v, k0, some (.int m), z0, none, none, none, none]) ?_ ?_
    · top_name
      refine zcall (ok_cell_at T) hr1 (by decide) takesF rfl ?_
      top_name
      refine ⟨a, ns, _, rfl, hs2, by omega, ?_⟩
      top_name
      exact .fits (cellAt_fits hbits _) (by omega) (by omega) ⟨rfl, _, mixed_lo _ _, mixed_hi _ _, rfl⟩
    rintro _ _ ⟨rfl, m, m0, m1, rfl⟩
    refine bcut (fun σ' H' => H2 = H' ∧ ∃ p : Int, 0 ≤ p ∧ σ' = [some (.ref a), some (.int c), some v, k0, some (.int m), z0, some (.int p), none, none, none]) ?_ ?_
    · obtain ⟨W, xs, rfl, hW, hB, hl⟩ := id hv
      top_name
      exact ⟨rfl, _, Int.emod_nonneg _ (by omega), rfl⟩
    rintro _ _ ⟨rfl, p, p0, rfl⟩
    refine bcut (fun σ' H' => H2 = H' ∧ σ' = [some (.ref a), some (.int c), some v, k0, some (.int m), z0, some (.int p), some (.int (m % 14)), none, none]) ?_ ?_
    · top_name
      exact ⟨rfl, rfl⟩
    rintro _ _ ⟨rfl, rfl⟩
    refine bcut (fun σ' H' => H2 = H' ∧ ∃ y : Int, 0 ≤ y ∧ y ≤ 255 ∧ σ' = [some (.ref a), some (.int c), some v, k0, some (.int m), z0, some (.int p), some (.int (m % 14)), some (.int y), none]) ?_ ?_
    · top_name
      exact ⟨rfl, m / 5000 % 256, by omega, by omega, rfl⟩
    rintro _ _ ⟨rfl, y, y0, y1, rfl⟩
    have q2 : ∀ v H', Ex H2 H' → ByAt H' 8000 v → Q v H' := fun v H' e h => q v H' (e1.trans (e2.trans e)) h
    clear q hs2
    refine bcut (fun σ' H' => Ex H2 H' ∧ σ' = [some (.ref a), some (.int c), some v, k0, some (.int m), z0, some (.int p), some (.int (m % 14)), some (.int y), none]) ?_ ?_
    · top_name
      · exact q2 _ _ (by one_sign) (ByAt.up (by assumption) (by decide))
      · exact ⟨Evl.Ex.refl _, rfl⟩
    rintro _ H3 ⟨e3, rfl⟩
    refine bcut (fun σ' H' => Ex H2 H' ∧ σ' = [some (.ref a), some (.int c), some v, k0, some (.int m), z0, some (.int p), some (.int (m % 14)), some (.int y), none]) ?_ ?_
    · have hv3 := hv.ex e3
      top_name
      · rename_i w1 H4 e4 hw1 t H5 ht e5 hx5
        refine obcat (hw1.ex e5) (.of (n := 1) [y] hx5 (fun x hx => by rw [List.mem_singleton.mp hx]; omega) (Nat.le_refl _)) (by decide) fun w2 H6 e6 hw2 => ?_
        have hv6 := hv3.ex (e4.trans (e5.trans e6))
        top_name
        exact q2 _ _ (e3.trans (e4.trans (e5.trans (e6.trans (by one_sign))))) (ByAt.up (by assumption) (by decide))
      · exact ⟨e3, rfl⟩
    rintro _ H4 ⟨e4, rfl⟩
    refine bcut (fun σ' H' => Ex H2 H' ∧ σ' = [some (.ref a), some (.int c), some v, k0, some (.int m), z0, some (.int p), some (.int (m % 14)), some (.int y), none]) ?_ ?_
    · obtain ⟨W, xs, rfl, hW, hB, hl⟩ := hv.ex e4
      have hbp := bytes_getD hB p.toNat
      have hlm : (xs.map V.int).length = xs.length := List.length_map ..
      top_name
      · rename_i hlt
        refine ixL (SqL.of hW) (v := .int (xs.getD p.toNat 0)) ?_ ?_
        · rw [show p = ((p.toNat : Nat) : Int) from by omega]
          exact atI_nat (by rw [List.getElem?_map, Int.toNat_natCast, getD_is (by omega)]; rfl)
        top_name
        refine oshl (by rw [show y % 8 = (((y % 8).toNat : Nat) : Int) from by omega]; exact shl_ok (n := 1) (by decide) (by omega)) ?_
        refine oxor ?_
        have hbx := byte_xor (xs.getD p.toNat 0).toNat (by omega) (y % 8).toNat (by omega)
        have e9 : Builtin.bitXor (xs.getD p.toNat 0) (1 * 2 ^ (y % 8).toNat) = (((xs.getD p.toNat 0).toNat ^^^ 2 ^ (y % 8).toNat : Nat) : Int) := by
          rw [show (1 * 2 ^ (y % 8).toNat : Int) = ((2 ^ (y % 8).toNat : Nat) : Int) from by rw [Int.one_mul]; simp, _root_.Bits.bitXor_pp hbp.1 (Int.natCast_nonneg _), Int.toNat_natCast]
        rw [e9]
        generalize (xs.getD p.toNat 0).toNat ^^^ 2 ^ (y % 8).toNat = u at hbx ⊢
        have hv4 : ByAt H4 1260 (.ref W) := ⟨W, xs, rfl, hW, hB, hl⟩
        clear hW
        top_name
        rename_i w1 H5 e5 hw1 t H6 ht e6 hx6
        refine obcat (hw1.ex e6) (.of (n := 1) [((u : Nat) : Int)] hx6 (fun x hx => by rw [List.mem_singleton.mp hx]; omega) (Nat.le_refl _)) (by decide) fun w2 H7 e7 hw2 => ?_
        have hv7 := hv4.ex (e5.trans (e6.trans e7))
        top_name
        exact q2 _ _ (e4.trans (e5.trans (e6.trans (e7.trans (by one_sign))))) (ByAt.up (by assumption) (by decide))
      all_goals exact ⟨e4, rfl⟩
    rintro _ H5 ⟨e5, rfl⟩
    have ym : y % 3 = 0 ∨ y % 3 = 1 ∨ y % 3 = 2 := by omega
    refine bcut (fun σ' H' => Ex H2 H' ∧ σ' = [some (.ref a), some (.int c), some v, k0, some (.int m), z0, some (.int p), some (.int (m % 14)), some (.int y), none]) ?_ ?_
    · have hv5 := hv.ex e5
      top_name
      · rename_i g1 G1 hg1 f1 hx1 g2 G2 hg2 f2 hx2 g3 G3 hg3 f3 hx3 g4 G4 hg4 f4 hx4
        have odd : ∃ u, atI [V.ref g1, V.ref g2, V.ref g3] (y % 3) = some u ∧ ByAt G4 4 u := by
          rcases ym with hm | hm | hm <;> rw [hm]
          · exact ⟨_, rfl, .of [177, 234, 1] (f4 _ _ (f3 _ _ (f2 _ _ hx1))) (by intro x hx; simp at hx; omega) (by decide)⟩
          · exact ⟨_, rfl, .of [255, 255, 255, 9] (f4 _ _ (f3 _ _ hx2)) (by intro x hx; simp at hx; omega) (by decide)⟩
          · exact ⟨_, rfl, .of [176, 234, 1] (f4 _ _ hx3) (by intro x hx; simp at hx; omega) (by decide)⟩
        obtain ⟨u, hu, hbu⟩ := odd
        refine ixL (SqL.of hx4) hu ?_
        have ef := f1.trans (f2.trans (f3.trans f4))
        refine obcat (hv5.ex ef) hbu (by decide) fun w2 H7 e7 hw2 => ?_
        top_name
        exact q2 _ _ (e5.trans (ef.trans e7)) (hw2.up (by decide))
      · exact ⟨e5, rfl⟩
    rintro _ H6 ⟨e6, rfl⟩
    refine bcut (fun σ' H' => Ex H2 H' ∧ σ' = [some (.ref a), some (.int c), some v, k0, some (.int m), z0, some (.int p), some (.int (m % 14)), some (.int y), none]) ?_ ?_
    · have hv6 := hv.ex e6
      top_name
      · rename_i g1 G1 hg1 f1 hx1 g2 G2 hg2 f2 hx2
        refine orep hx2 (by decide) (by decide) (by decide) fun g3 G3 hg3 f3 hx3 => ?_
        rw [rep_one] at hx3
        top_name
        rename_i g4 G4 hg4 f4 hx4 g5 G5 hg5 f5 hx5 g6 G6 hg6 f6 hx6
        have hw3 : ByAt G5 37 (.ref g5) := .of (List.replicate (Int.toNat 36) 255 ++ [16]) (by rw [List.map_append, List.map_replicate]; exact hx5) (bytes_app (rep_by _ _ (by decide)) (by intro x hx; simp at hx; omega)) (by rw [List.length_append, List.length_replicate]; decide)
        refine orep hx6 (by omega) (by omega) (by rw [sizeLine_eq]; show 1 * (30 + y % 10).toNat ≤ _; omega) fun g7 G7 hg7 f7 hx7 => ?_
        rw [rep_one] at hx7
        top_name
        rename_i g8 G8 hg8 f8 hx8
        have f28 := f2.trans (f3.trans (f4.trans (f5.trans (f6.trans (f7.trans f8)))))
        have odd : ∃ u, atI [V.ref g1, V.ref g5, V.ref g7] (y % 3) = some u ∧ ByAt G8 40 u := by
          rcases ym with hm | hm | hm <;> rw [hm]
          · exact ⟨_, rfl, .of [128, 0] (f28 _ _ hx1) (by intro x hx; simp at hx; omega) (by decide)⟩
          · exact ⟨_, rfl, (((hw3.ex f6).ex f7).ex f8).up (by decide)⟩
          · exact ⟨_, rfl, .of (List.replicate (30 + y % 10).toNat 200) (by rw [List.map_replicate]; exact f8 _ _ hx7) (rep_by _ _ (by decide)) (by rw [List.length_replicate]; omega)⟩
        obtain ⟨u, hu, hbu⟩ := odd
        refine ixL (SqL.of hx8) hu ?_
        have ef := f1.trans f28
        refine obcat (hv6.ex ef) hbu (by decide) fun w2 H7 e7 hw2 => ?_
        top_name
        exact q2 _ _ (e6.trans (ef.trans e7)) (hw2.up (by decide))
      · exact ⟨e6, rfl⟩
    rintro _ H7 ⟨e7, rfl⟩
    have hv7 := hv.ex e7
    refine bcut (fun σ' H' => Ex H2 H' ∧ σ' = [some (.ref a), some (.int c), some v, k0, some (.int m), z0, some (.int p), some (.int (m % 14)), some (.int y), none]) ?_ ?_
    · top_name
      · exact q2 _ _ (e7.trans (by one_sign)) (ByAt.up (by assumption) (by decide))
      · exact ⟨e7, rfl⟩
    rintro _ H8 ⟨e8, rfl⟩
    top_name
    exact q2 _ _ e8 ((hv.ex e8).up (by decide))
end K06

set_option maxRecDepth 100000
set_option maxHeartbeats 4000000
set_option pp.maxSteps 400
namespace K06
open PySem PySem.Spec PyProof.Rows L2 Z
open Evl (Ex)
variable {P : Program} {w : World} {K : PySem.W.Frag} {mg : Str → Option Value} {base : Heap}
/-! ### steps of the walk: one_sign: a heap grew into another; one_item: what stands at an address; one_place: a list or tuple to be read; leaf_len: arithmetic; tb_rel: one step; top_name: steps as far as they go -/
local macro_rules | `(tactic| got_up) => `(tactic| (refine Evl.Ex.trans (by assumption) ?_; first | assumption | exact Evl.Ex.refl _ | got_up))
local macro_rules | `(tactic| units_room) => `(tactic| (refine Evl.Ex.trans ?_ (by assumption); first | assumption | exact Evl.Ex.refl _ | units_room))
local macro_rules | `(tactic| one_sign) => `(tactic| first | assumption | exact Evl.Ex.refl _ | got_up | units_room)
local macro_rules | `(tactic| one_item) => `(tactic| first | assumption | exact upd_same | exact exa (by assumption) (by one_sign))
local macro_rules | `(tactic| one_place) => `(tactic| first | assumption | exact SqL.of (by assumption) | exact SqT.of (by assumption) | exact exl (by assumption) (by one_sign) | exact ext (by assumption) (by one_sign) | exact SqL.of (by one_item) | exact SqT.of (by one_item))
local macro_rules | `(tactic| leaf_len) => `(tactic| first | assumption | decide | omega)
local macro_rules | `(tactic| tb_rel) => `(tactic| first
  | ((with_reducible refine (?_ : wE _ _ _ _ _)); first
    | ((with_reducible refine (?_ : wE _ (.Name _ _) _ _ _)); first | refine zn (by rfl) (by first | exact Or.inl rfl | exact Or.inr (Or.inl rfl) | exact Or.inr (Or.inr rfl)) (by rfl) ?_ | refine zglob (by assumption) (by rfl) ?_ | refine zcls (by assumption) (by rfl) ?_ | refine zty (by assumption) (by first | exact bt_int | exact bt_bool | exact bt_str | exact bt_list | exact bt_tuple | exact bt_dict | exact bt_ValueError) (by rfl) ?_)
    | ((with_reducible refine (?_ : wE _ (.Attribute _ _ _) _ _ _)); refine zfld ?_)
    | ((with_reducible refine (?_ : wE _ (.Constant _ _ _) _ _ _)); first | refine zint ?_ | refine zstr ?_ | refine zbl ?_ | refine znon ?_)
    | ((with_reducible refine (?_ : wE _ (.BinOp _ _ _ _) _ _ _)); refine zbin ?_)
    | ((with_reducible refine (?_ : wE _ (.Compare _ _ _ _) _ _ _)); first | refine zcmp (by rfl) ?_ | refine zchain ?_)
    | ((with_reducible refine (?_ : wE _ (.Dict [] [] _) _ _ _)); refine zdnew (fun _ _ _ _ _ => ?_))
    | ((with_reducible refine (?_ : wE _ (.Subscript _ (.Slice _ _ _ _) _) _ _ _)); refine zsl ?_)
    | ((with_reducible refine (?_ : wE _ (.Subscript _ _ _) _ _ _)); refine zix ?_)
    | ((with_reducible refine (?_ : wE _ (.Call (.Name "list" _) [.Call (.Name "range" _) [_] [] _] [] _) _ _ _)); refine zlrg1 rfl (by rfl) (by assumption) (by rfl) (by assumption) ?_)
    | ((with_reducible refine (?_ : wE _ (.Call (.Name _ _) _ _ _) _ _ _)); first
      | ((with_reducible refine (?_ : wE _ (.Call (.Name "len" _) _ _ _) _ _ _)); refine zbfn (by assumption) bt_len (by rfl) ?_)
      | ((with_reducible refine (?_ : wE _ (.Call (.Name "isinstance" _) _ _ _) _ _ _)); refine zbfn (by assumption) bt_isi (by rfl) ?_)
      | ((with_reducible refine (?_ : wE _ (.Call (.Name "min" _) _ _ _) _ _ _)); refine zbfn (by assumption) bt_min (by rfl) ?_)
      | ((with_reducible refine (?_ : wE _ (.Call (.Name "max" _) _ _ _) _ _ _)); refine zbfn (by assumption) bt_max (by rfl) ?_)
      | ((with_reducible refine (?_ : wE _ (.Call (.Name "list" _) _ _ _) _ _ _)); refine zbty (by assumption) bt_list (by rfl) ?_)
      | ((with_reducible refine (?_ : wE _ (.Call (.Name "tuple" _) _ _ _) _ _ _)); refine zbty (by assumption) bt_tuple (by rfl) ?_)
      | ((with_reducible refine (?_ : wE _ (.Call (.Name "int" _) _ _ _) _ _ _)); refine zbty (by assumption) bt_int (by rfl) ?_)
      | ((with_reducible refine (?_ : wE _ (.Call (.Name "abs" _) _ _ _) _ _ _)); refine zbfn (by assumption) bt_abs (by rfl) ?_)
      | ((with_reducible refine (?_ : wE _ (.Call (.Name "all" _) _ _ _) _ _ _)); refine zbfn (by assumption) bt_all (by rfl) ?_)
      | ((with_reducible refine (?_ : wE _ (.Call (.Name "sum" _) _ _ _) _ _ _)); refine zbfn (by assumption) bt_sum (by rfl) ?_)
      | ((with_reducible refine (?_ : wE _ (.Call (.Name "divmod" _) _ _ _) _ _ _)); refine zbfn (by assumption) bt_divmod (by rfl) ?_)
      | ((with_reducible refine (?_ : wE _ (.Call (.Name "ord" _) _ _ _) _ _ _)); refine zbfn (by assumption) bt_ord (by rfl) ?_))
    | ((with_reducible refine (?_ : wE _ (.IfExp _ _ _ _) _ _ _)); refine zif ?_)
    | ((with_reducible refine (?_ : wE _ (.Tuple _ _ _) _ _ _)); refine ztup ?_)
    | ((with_reducible refine (?_ : wE _ (.List _ _) _ _ _)); refine zlst ?_)
    | ((with_reducible refine (?_ : wE _ (.UnaryOp _ _ _) _ _ _)); first | refine znotV ?_ | refine zneg ?_)
    | ((with_reducible refine (?_ : wE _ (.BoolOp _ _ _) _ _ _)); first | refine zandV ?_ | refine zorV ?_ | refine zoneV ?_))
  | ((with_reducible refine (?_ : bE _ _ _ _ _ _)); refine ⟨fun _ _ _ _ _ => ?_⟩) | ((with_reducible refine (?_ : bG _ _ _ _ _ _ _)); refine ⟨fun _ _ _ _ _ => ?_⟩) | ((with_reducible refine (?_ : bTs _ _ _ _ _ _)); refine ⟨fun _ _ _ _ _ => ?_⟩)
  | ((with_reducible refine (?_ : hE _ _ _ _ _ _)); refine ⟨fun _ _ _ _ _ => ?_⟩) | ((with_reducible refine (?_ : hG _ _ _ _ _ _ _)); refine ⟨fun _ _ _ _ _ => ?_⟩) | ((with_reducible refine (?_ : hTs _ _ _ _ _ _)); refine ⟨fun _ _ _ _ _ => ?_⟩)
  | ((with_reducible refine (?_ : wP _ _ _ _ _)); first | refine pnon ?_ | refine psom ?_) | ((with_reducible refine (?_ : wSl _ _ _ _ _ _)); first | refine slL (by one_place) (fun _ _ _ _ _ => ?_) | refine slS (by assumption) ?_)
  | ((with_reducible refine (?_ : wTs _ _ _ _ _)); first | refine tsnil ?_ | refine tsone ?_)
  | ((with_reducible refine (?_ : wA _ _ _ _ _)); first | refine acons ?_ | refine anil ?_)
  | ((with_reducible refine (?_ : wO _ _ _ _ _ _)); first
    | ((with_reducible refine (?_ : wO _ (binaryOp .Add) _ _ _ _)); first | refine oadd ?_ | refine ocatE (by one_item) (by one_item) (Nat.le_of_ble_eq_true rfl) (fun _ _ _ _ _ => ?_))
    | ((with_reducible refine (?_ : wO _ (binaryOp .Sub) _ _ _ _)); first | refine osub ?_)
    | ((with_reducible refine (?_ : wO _ (binaryOp .Mult) _ _ _ _)); first | refine omul (by first | exact IntMulOk.of_right (by decide) | exact IntMulOk.of_left (by decide) | exact IntMulOk.of_right (intBits_le_64 (by omega) (by omega)) | exact IntMulOk.of_left (intBits_le_64 (by omega) (by omega))) ?_)
    | ((with_reducible refine (?_ : wO _ (binaryOp .Mod) _ _ _ _)); first | refine omod (by first | decide | omega) ?_)
    | ((with_reducible refine (?_ : wO _ (binaryOp .FloorDiv) _ _ _ _)); first | refine ofdiv ⟨by first | decide | omega, by decide⟩ ?_)
    | ((with_reducible refine (?_ : wO _ (binaryOp .BitAnd) _ _ _ _)); first | refine oand ?_)
    | ((with_reducible refine (?_ : wO _ (binaryOp .BitOr) _ _ _ _)); first | refine oor ?_)
    | ((with_reducible refine (?_ : wO _ (compareOp .Lt) _ _ _ _)); first | refine olt ?_)
    | ((with_reducible refine (?_ : wO _ (compareOp .LtE) _ _ _ _)); first | refine ole ?_)
    | ((with_reducible refine (?_ : wO _ (compareOp .Gt) _ _ _ _)); first | refine ogt ?_)
    | ((with_reducible refine (?_ : wO _ (compareOp .GtE) _ _ _ _)); first | refine oge ?_)
    | ((with_reducible refine (?_ : wO _ (compareOp .Eq) _ _ _ _)); first | refine oeqi ?_ | refine oeqsT (by decide +kernel) ?_ | refine oeqsF (by decide +kernel) ?_ | refine oeq (by rfl) ?_)
    | ((with_reducible refine (?_ : wO _ (compareOp .NotEq) _ _ _ _)); first | refine onei ?_ | refine onesT (by decide +kernel) ?_ | refine onesF (by decide +kernel) ?_ | refine one (by rfl) ?_)
    | ((with_reducible refine (?_ : wO _ (compareOp .In) _ _ _ _)); first | refine oin ?_)
    | ((with_reducible refine (?_ : wO _ (compareOp .NotIn) _ _ _ _)); first | refine onin ?_)
    | ((with_reducible refine (?_ : wO _ (compareOp .Is) _ _ _ _)); first | refine ois ?_)
    | ((with_reducible refine (?_ : wO _ (compareOp .IsNot) _ _ _ _)); first | refine onot ?_)
    | ((with_reducible refine (?_ : wO _ (binaryOp .RShift) _ _ _ _)); refine oshr (by first | decide | omega) ?_)
    | ((with_reducible refine (?_ : wO _ (binaryOp .BitXor) _ _ _ _)); refine oxor ?_)
    | ((with_reducible refine (?_ : wO _ (inplaceOp .BitXor) _ _ _ _)); refine ixor ?_)
    | ((with_reducible refine (?_ : wO _ (inplaceOp .RShift) _ _ _ _)); refine ishr (by first | decide | omega) ?_)
    | ((with_reducible refine (?_ : wO _ (inplaceOp .BitOr) _ _ _ _)); first | refine ior ?_)
    | ((with_reducible refine (?_ : wO _ (inplaceOp .Add) _ _ _ _)); first | refine iadd ?_))
  | ((with_reducible refine (?_ : wT _ _ _ _ _)); first
    | ((with_reducible refine (?_ : wT _ (.Compare _ _ _ _) _ _ _)); first | refine zcmpT (by rfl) ?_ | refine zchainT ?_)
    | ((with_reducible refine (?_ : wT _ (.UnaryOp _ _ _) _ _ _)); refine znotT ?_)
    | ((with_reducible refine (?_ : wT _ (.BoolOp _ _ _) _ _ _)); refine zW ?_)
    | refine zval ?_)
  | ((with_reducible refine (?_ : wW _ _ _ _ _)); first | refine zand ?_ | refine zor ?_ | refine zand1 ?_ | refine zor1 ?_)
  | ((with_reducible refine (?_ : wK _ _ _ _ _)); first
    | ((with_reducible refine (?_ : wK _ (.builtin "len") _ _ _)); first | refine klenL (by one_place) ?_ | refine klenT (by one_place) ?_ | refine klenS (by assumption) ?_)
    | ((with_reducible refine (?_ : wK _ (.builtin "isinstance") _ _ _)); first | refine kisE (by assumption) (by assumption) (by first | assumption | exact Xd.exx (by assumption) (by one_sign)) (by first | exact .own _ | exact .ty _) (by assumption) ?_ | refine kisi (.ty _) (by assumption) (by assumption) ?_ | refine kisi (.ty _) (.base (by first | exact .int _ | exact .bl _ | exact .str _ | exact .non | exact .tup (by one_item) | exact .lst (by one_item))) (kit_ty (r := true) (by rfl)) ?_ | refine kisi (.ty _) (.base (by first | exact .int _ | exact .bl _ | exact .str _ | exact .non | exact .tup (by one_item) | exact .lst (by one_item))) (kit_ty (r := false) (by rfl)) ?_)
    | ((with_reducible refine (?_ : wK _ (.builtin "divmod") _ _ _)); refine kdivmod ⟨by first | decide | omega, by decide⟩ (fun _ _ _ _ _ => ?_))
    | ((with_reducible refine (?_ : wK _ (.builtin "min") _ _ _)); refine kmin (by rfl) ?_)
    | ((with_reducible refine (?_ : wK _ (.builtin "max") _ _ _)); refine kmax (by rfl) ?_)
    | ((with_reducible refine (?_ : wK _ (.type "list") _ _ _)); first | refine klistL (by one_place) (fun _ _ _ _ _ => ?_) | refine klistT (by one_place) (fun _ _ _ _ _ => ?_))
    | ((with_reducible refine (?_ : wK _ (.type "tuple") _ _ _)); first | refine ktupL (by one_place) (fun _ _ _ _ _ => ?_)))
  | ((with_reducible refine (?_ : wS _ _ _ _ _)); first
    | ((with_reducible refine (?_ : wS _ (.Assign [.Name _ _] _ _) _ _ _)); refine sset' (by assumption) (by rfl) (by first | exact Or.inl rfl | exact Or.inr rfl) (by rfl) (by first | exact .inl rfl | exact .inr rfl) ?_)
    | ((with_reducible refine (?_ : wS _ (.AugAssign (.Name _ _) _ _ _) _ _ _)); refine saug' (by assumption) (by rfl) (by first | exact Or.inl rfl | exact Or.inr rfl) (by first | exact .inl rfl | exact .inr rfl) (by rfl) ?_)
    | ((with_reducible refine (?_ : wS _ (.Assign [.Attribute _ _ _] _ _) _ _ _)); refine sfld ?_)
    | ((with_reducible refine (?_ : wS _ (.Expr _ _) _ _ _)); refine sexp ?_)
    | ((with_reducible refine (?_ : wS _ (.Assign [.Tuple _ _ _] _ _) _ _ _)); refine sasg ?_) | ((with_reducible refine (?_ : wS _ (.Assign [.Subscript _ _ _] _ _) _ _ _)); refine sasg ?_)
    | refine sret ?_ | refine sif ?_ | refine sretN ?_ | refine spass ?_ | refine sbrk ?_ | refine scont ?_)
  | ((with_reducible refine (?_ : wG _ (.Name _ _) _ _ _ _)); refine gname' (by assumption) (by rfl) (by first | exact Or.inl rfl | exact Or.inr rfl) (by first | exact .inl rfl | exact .inr rfl) ?_)
  | ((with_reducible refine (?_ : wG _ (.Tuple _ _ _) _ _ _ _)); refine gtup rfl (by one_place) rfl ?_) | ((with_reducible refine (?_ : wG _ (.Subscript _ _ _) _ _ _ _)); refine gsub ?_)
  | ((with_reducible refine (?_ : wGs _ _ _ _ _ _)); first | refine gscons ?_ | refine gsnil ?_)
  | ((with_reducible refine (?_ : wB _ _ _ _ _)); first | refine bcons ?_ | refine bnil ?_)
  | refine ifT ?_ | refine ifF ?_ | refine ifd (fun _ => ?_) (fun _ => ?_) | refine ifnd (fun _ => ?_) (fun _ => ?_) | refine ⟨_, rfl, ?_⟩ | refine ⟨rfl, Evl.Ex.refl _, ?_⟩ | refine ⟨_, _, _, _, _, rfl, by one_item, by assumption, by assumption, by rfl, ?_⟩ | refine ⟨Nat.le_of_ble_eq_true rfl, fun _ _ _ _ _ => ?_⟩ | fail)
local macro_rules | `(tactic| top_name) => `(tactic| repeat' tb_rel)
local macro_rules | `(tactic| nest_fact) => `(tactic| first | exact ⟨(decide_eq_true (by omega)).symm, rfl⟩ | exact ⟨(decide_eq_false (by omega)).symm, rfl⟩ | exact ⟨decide_eq_decide.mpr (by omega), rfl⟩ | fail)
local macro_rules | `(tactic| tb_rel) => `(tactic| first
  | ((with_reducible refine (?_ : wE _ (.Call (.Name "_law_mixed" _) _ _ _) _ _ _)); refine zmixed (by assumption) (by assumption) rfl ?_)
  | ((with_reducible refine (?_ : MixP _ _ _)); refine MixP.mk (by assumption) (by assumption) (by omega) (by omega) ?_) | fail)
local macro_rules | `(tactic| tb_rel) => `(tactic| first
  | ((with_reducible refine (?_ : wE _ (.Subscript _ (.Constant (.str _) _ _) _) _ _ _)); refine zdat (by first | assumption | omega) ?_)
  | ((with_reducible refine (?_ : wS _ (.Assign [.Subscript _ (.Constant (.str _) _ _) _] _ _) _ _ _)); refine sdput (by first | assumption | omega) ?_)
  | fail)
/-! ### bounds of what a wire tells -/
theorem nx_self {xs : List Int} (hb : Bytes xs) : nx xs = (nx xs).upto xs.length := by
  have := nx_take hb xs.length
  rwa [List.take_length] at this
theorem nx_bad {xs : List Int} {p : Int} {why : Str} {b : Nat} (hb : Bytes xs) (h : nx xs = .bad p why b) : 0 < b ∧ b ≤ xs.length := by
  constructor
  · have h0 := nx_take hb 0
    rw [h, List.take_zero] at h0
    have h1 : nx ([] : List Int) = .none := by
      show (if ("cut" : Str) = "number" then NX.bad 0 "number" ((0 : Int) + 1).toNat else NX.none) = NX.none
      exact if_neg (by decide +kernel)
    rw [h1] at h0
    have h0 : NX.none = if b ≤ 0 then .bad p why b else .none := h0
    split at h0
    · cases h0
    · omega
  · have h0 := nx_self hb
    rw [h] at h0
    have h0 : NX.bad p why b = if b ≤ xs.length then .bad p why b else .none := h0
    split at h0
    · assumption
    · cases h0
theorem Du.hi {xs : List Int} {A : Nat} {rs : List (List Int × Nat)} {w : Option (Int × Str × Nat)} (d : Du xs A rs w) : Bytes xs → (∀ r ∈ rs, r.2 ≤ A + xs.length ∧ r.1.length ≤ 30000) ∧ ∀ p why b, w = some (p, why, b) → A < b ∧ b ≤ A + xs.length := by
  induction d with
  | none h => exact fun _ => ⟨fun _ z => (nomatch z), fun _ _ _ z => by cases z⟩
  | bad h =>
    intro hb
    refine ⟨fun _ z => (nomatch z), fun _ _ _ z => ?_⟩
    cases z
    have := nx_bad hb h
    omega
  | row h d ih =>
    intro hb
    have hr := nx_row hb h
    obtain ⟨i1, i2⟩ := ih fun x hx => hb x (List.mem_of_mem_drop hx)
    rw [List.length_drop] at i1 i2
    refine ⟨fun r hr2 => ?_, fun p why b z => ?_⟩
    · rcases List.mem_cons.mp hr2 with rfl | hr2
      · exact ⟨by show _ + _ ≤ _; omega, hr.2.2.2⟩
      · have := i1 r hr2
        exact ⟨by omega, this.2⟩
    · have := i2 p why b z
      omega
/-! ### the end of a box -/
def endHO (W : List Int) (rs : List (List Int × Nat)) : Option (Int × Str × Nat) → HO
  | some (p, why, _) => said p why
  | none => if lastE 0 rs = W.length then .lst [.non] else said (W.length : Int) "cut"
def endD (W : List Int) (rs : List (List Int × Nat)) : Option (Int × Str × Nat) → PyData
  | some (p, why, _) => saidD p why
  | none => if lastE 0 rs = W.length then .list [.none] else saidD (W.length : Int) "cut"
theorem dp_end {H : Hp} {t : Addr} {W : List Int} {rs : List (List Int × Nat)} {w : Option (Int × Str × Nat)} (h : H t = some (endHO W rs w)) : Dp K H (.ref t) (endD W rs w) := by
  unfold endHO at h
  unfold endD
  cases w with
  | some x => obtain ⟨p, why, b⟩ := x; exact dp_said h
  | none =>
    have h : H t = some (if lastE 0 rs = W.length then .lst [.non] else said (W.length : Int) "cut") := h
    show Dp K H (.ref t) (if lastE 0 rs = W.length then .list [.none] else saidD (W.length : Int) "cut")
    split at h
    · rename_i e; rw [if_pos e]; exact .lst (SqL.of h) (.cons .non .nil)
    · rename_i e; rw [if_neg e]; exact dp_said h
theorem end_list (W : List Int) (rs : List (List Int × Nat)) (w : Option (Int × Str × Nat)) : ∃ ds, endD W rs w = .list ds ∧ PyData.plainAll ds = true ∧ PyData.depthAll ds ≤ 1 := by
  unfold endD
  cases w with
  | some x => obtain ⟨p, why, b⟩ := x; exact said_list p why
  | none =>
    show ∃ ds, (if lastE 0 rs = W.length then PyData.list [.none] else saidD (W.length : Int) "cut") = .list ds ∧ _
    split
    · exact ⟨_, rfl, rfl, by decide⟩
    · exact said_list _ _
theorem told_end {S : List Addr} {H : Hp} {b s : Addr} {W : List Int} {rs : List (List Int × Nat)} {w : Option (Int × Str × Nat)} {Q : VK} {E : XK} (hb : Bytes W) (hD : Du W 0 rs w) (B : Bx K S H b s W rs w W.length)
    (q : ∀ t H', H t = none → Ex H H' → H' t = some (endHO W rs w) → Q (.ref t) H') : spTold K [.ref b, .non] H Q E := by
  obtain ⟨hst, hk, rest, A, hBox, hAr, hno⟩ := B
  obtain ⟨hi1, hi2⟩ := hD.hi hb
  cases w with
  | some x =>
    obtain ⟨p, why, b0⟩ := x
    have hw : wq W.length (some (p, why, b0)) = some (p, why) := if_pos (by have := (hi2 p why b0 rfl).2; omega)
    rw [hw] at hBox
    refine ⟨b, .non, rfl, S, rest, A, some (p, why), hBox, .inr (.inr ⟨rfl, ?_⟩)⟩
    exact fun t H' h1 h2 h3 => q t H' h1 h2 h3
  | none =>
    obtain ⟨f, rs', e1, e2, e3, e4, e5, e6, e7⟩ := hno rfl
    have hrs : rs' = [] := by
      cases rs' with
      | nil => rfl
      | cons r t =>
        have := (hi1 r (by rw [e1]; exact List.mem_append.mpr (.inr List.mem_cons_self))).1
        have := e6 r List.mem_cons_self
        omega
    rw [hrs, List.append_nil] at e1
    subst e1
    have hrl : rest.length = W.length - A := by rw [e2, List.length_take, List.length_drop]; omega
    refine ⟨b, .non, rfl, S, rest, A, none, hBox, .inr (.inr ⟨rfl, ?_⟩)⟩
    show if rest = [] then ∀ t H', H t = none → Ex H H' → H' t = some (.lst [.non]) → Q (.ref t) H' else Wf H Q ((A : Int) + (rest.length : Int)) "cut"
    by_cases hre : rest = []
    · rw [if_pos hre]
      have : lastE 0 rs = W.length := by rw [← e7]; rw [hre] at hrl; simp at hrl; omega
      exact fun t H' h1 h2 h3 => q t H' h1 h2 (by rw [h3]; show _ = some (if lastE 0 rs = W.length then HO.lst [.non] else said (W.length : Int) "cut"); rw [if_pos this])
    · rw [if_neg hre]
      have hl0 : rest.length ≠ 0 := fun z => hre (List.eq_nil_of_length_eq_zero z)
      have : ¬ lastE 0 rs = W.length := by rw [← e7]; omega
      intro t H' h1 h2 h3
      refine q t H' h1 h2 ?_
      rw [h3, show (A : Int) + (rest.length : Int) = (W.length : Int) from by omega]
      show _ = some (if lastE 0 rs = W.length then HO.lst [.non] else said (W.length : Int) "cut")
      rw [if_neg this]
/-! ### two boxes by turns -/
structure Iv (K : PySem.W.Frag) (S : List Addr) (H : Hp) (l d h b s b' s' : Addr) (W : List Int) (rs : List (List Int × Nat)) (w : Option (Int × Str × Nat)) (k k' n : Nat) : Prop where
  side : Side (cutS S H) l d W rs w
  b1 : Bx K S H b s W rs w k
  b2 : Bx K S H b' s' W rs w k'
  held : ∃ hs, H h = some (.lst hs) ∧ HeldAt K (cutS S H) hs ∧ hs.length ≤ n
theorem Iv.swap {S : List Addr} {H : Hp} {l d h b s b' s' : Addr} {W : List Int} {rs : List (List Int × Nat)} {w : Option (Int × Str × Nat)} {k k' n : Nat} (v : Iv K S H l d h b s b' s' W rs w k k' n) : Iv K S H l d h b' s' b s W rs w k' k n := ⟨v.side, v.b2, v.b1, v.held⟩
theorem Bx.ex {S : List Addr} {H H' : Hp} {b s : Addr} {W : List Int} {rs : List (List Int × Nat)} {w : Option (Int × Str × Nat)} {k : Nat} (v : Bx K S H b s W rs w k) (e : Ex H H') : Bx K S H' b s W rs w k := by
  obtain ⟨h1, h2, rest, A, h3, h4⟩ := v
  exact ⟨e _ _ h1, h2, rest, A, h3.ex e, h4⟩
theorem Iv.ex {S : List Addr} {H H' : Hp} {l d h b s b' s' : Addr} {W : List Int} {rs : List (List Int × Nat)} {w : Option (Int × Str × Nat)} {k k' n : Nat} (v : Iv K S H l d h b s b' s' W rs w k k' n) (e : Ex H H') : Iv K S H' l d h b s b' s' W rs w k k' n := by
  obtain ⟨h1, h2, h3, hs, h4, h5, h6⟩ := v
  exact ⟨h1.ex (cut_ex e), h2.ex e, h3.ex e, hs, e _ _ h4, h5.ex (cut_ex e), h6⟩
theorem Iv.up {S : List Addr} {H : Hp} {l d h b s b' s' : Addr} {W : List Int} {rs : List (List Int × Nat)} {w : Option (Int × Str × Nat)} {k k' n m : Nat} (v : Iv K S H l d h b s b' s' W rs w k k' n) (hn : n ≤ m) : Iv K S H l d h b s b' s' W rs w k k' m := by
  obtain ⟨h1, h2, h3, hs, h4, h5, h6⟩ := v
  exact ⟨h1, h2, h3, hs, h4, h5, Nat.le_trans h6 hn⟩
structure Dist (S : List Addr) (b s b' s' h : Addr) : Prop where
  nd : b ≠ s ∧ b ≠ b' ∧ b ≠ s' ∧ b ≠ h ∧ s ≠ b' ∧ s ≠ s' ∧ s ≠ h ∧ b' ≠ s' ∧ b' ≠ h ∧ s' ≠ h
  ms : s ∈ S
  ms' : s' ∈ S
  mh : h ∈ S
theorem Dist.swap {S : List Addr} {b s b' s' h : Addr} (z : Dist S b s b' s' h) : Dist S b' s' b s h := by
  obtain ⟨⟨a1, a2, a3, a4, a5, a6, a7, a8, a9, a10⟩, m1, m2, m3⟩ := z
  exact ⟨⟨a8, a2.symm, a5.symm, a9, a3.symm, a6.symm, a10, a1, a4, a7⟩, m2, m1, m3⟩
theorem Iv.ask {S : List Addr} {H : Hp} {l d h b s b' s' : Addr} {W : List Int} {rs : List (List Int × Nat)} {w : Option (Int × Str × Nat)} {k k' n : Nat} {c : Int} {Q : VK} {E : XK} (v : Iv K S H l d h b s b' s' W rs w k k' n) (hb : Bytes W) (hz : W.length ≤ 8000) (hD : Du W 0 rs w) (z : Dist S b s b' s' h) (c0 : 0 ≤ c) (hn : n ≤ 100000)
    (q : ∀ H' k2, Ex (cutS S H) (cutS S H') → Iv K S H' l d h b s b' s' W rs w k2 k' (n + 1) → (c % 3 = 2 → (W.length : Int) ≤ c / 3 % ((W.length : Int) + 1) → k2 = W.length) → Q (.bl true) H') : spAsk K [.ref b, .ref l, .ref d, .ref s, .int c, .ref h] H Q E := by
  obtain ⟨h1, h2, h3, hs, h4, h5, h6⟩ := v
  obtain ⟨⟨a1, a2, a3, a4, a5, a6, a7, a8, a9, a10⟩, ms, ms', mh⟩ := z
  obtain ⟨hi1, hi2⟩ := hD.hi hb
  refine ⟨b, l, d, s, h, S, W, rs, w, k, c, hs, rfl, hb, hz, h1, h2, ms, mh, a1, a4, a7, h4, h5, by omega, c0, hD.len hb, fun r hr => (hi1 r hr).2, fun H' k2 hs' g hk B' hcc hh' hH' hl' => ?_⟩
  have mb : b ∈ S := by obtain ⟨_, _, rest, A, hBox, _⟩ := h2; exact hBox.mem
  have inS : ∀ x ∈ [b, s, h], x ∈ S := fun x hx => by
    rcases List.mem_cons.mp hx with y | hx
    · rw [y]; exact mb
    · rcases List.mem_cons.mp hx with y | hx
      · rw [y]; exact ms
      · rw [List.mem_singleton.mp hx]; exact mh
  have non : ∀ x ∈ [b, s, h], H' x ≠ none := fun x hx => by
    rcases List.mem_cons.mp hx with y | hx
    · obtain ⟨_, _, rest, A, hBox, _⟩ := B'
      obtain ⟨dx, r, wv, h6, _⟩ := hBox.box
      rw [y, h6]; exact fun z => nomatch z
    · rcases List.mem_cons.mp hx with y | hx
      · rw [y, B'.st]; exact fun z => nomatch z
      · rw [List.mem_singleton.mp hx, hh']; exact fun z => nomatch z
  have out : ∀ x, x ≠ b → x ≠ s → x ≠ h → x ∉ [b, s, h] := fun x i j k hx => by
    rcases List.mem_cons.mp hx with y | hx
    · exact i y
    · rcases List.mem_cons.mp hx with y | hx
      · exact j y
      · exact k (List.mem_singleton.mp hx)
  exact q H' k2 (g.cut inS) ⟨h1.ex (g.cut inS), B', h3.gw g inS non (out _ a2.symm a5.symm a9) (out _ a3.symm a6.symm a10), hs', hh', hH', by omega⟩ hcc
/-! ### a new box -/
theorem zbox {X : Cx} {σ : Z.St} {H : Hp} {Q : VK} {p pos : Pos} {j : Nat} (T : Txt X.K X.mg) (hr : Room j X.A) (hk : 2 ≤ j) (hg : Gl X "Frames")
    (q : ∀ b dx r H', H b = none → H r = none → r ≠ b → Ex H H' → H' b = some (insB X.K dx (.ref r) (.int 0) .non) → H' r = some (.lst []) → Q (.ref b) H') : wE X (.Call (.Name "Frames" p) [] [] pos) σ H Q := by
  refine zmk0 (nf_Frames T) hr hk takesF hg fun a dx ha hd hne => ?_
  refine ⟨a, dx, rfl, upd_same, fun r H' hr' eb hx hy => ⟨rfl, ?_⟩⟩
  have nra : r ≠ a := fun z => by rw [z, upd_same] at hr'; cases hr'
  rw [upd_ne nra] at hr'
  have nrd : r ≠ dx := fun z => by rw [z, upd_same] at hr'; cases hr'
  rw [upd_ne nrd] at hr'
  refine q a dx r H' ha hr' nra (fun x o e => eb x o (fun z => by rw [z, ha] at e; cases e) ?_) hy hx
  rw [upd_ne (fun z => by rw [z, ha] at e; cases e), upd_ne (fun z => by rw [z, hd] at e; cases e)]
  exact e
theorem Bx.new {S : List Addr} {H : Hp} {b s dx r : Addr} {W : List Int} {rs : List (List Int × Nat)} {w : Option (Int × Str × Nat)} (hb : Bytes W) (hD : Du W 0 rs w) (on : On S H) (mb : b ∈ S) (hx : H b = some (insB K dx (.ref r) (.int 0) .non)) (hr : H r = some (.lst [])) (nr : r ∉ S) (hs : H s = some (stD 0 false)) : Bx K S H b s W rs w 0 := by
  obtain ⟨hi1, hi2⟩ := hD.hi hb
  obtain ⟨lo1, lo2⟩ := hD.lo hb
  have hw : wq 0 w = none := by
    cases w with
    | none => rfl
    | some x =>
      obtain ⟨p, why, b⟩ := x
      exact if_neg (by have := (hi2 p why b rfl).1; omega)
  refine ⟨by rw [hw]; exact hs, Nat.zero_le _, [], 0, ?_, Nat.zero_le _, fun _ => ⟨[], rs, rfl, rfl, Nat.le_refl _, hD, fun _ z => (nomatch z), lo1, rfl⟩⟩
  rw [hw]
  exact ⟨on, mb, fun _ z => (nomatch z), Nat.zero_le _, Nat.zero_le _, dx, r, .non, hx, by unfold cutS; rw [if_neg nr]; exact hr, .no⟩
theorem HeldAt.get {H : Hp} : ∀ {vs : List V} {i : Nat} {x : V}, HeldAt K H vs → vs[i]? = some x → ∃ t g d D, x = .ref t ∧ H t = some (.tup [.ref g, .ref d]) ∧ Dp K H (.ref g) (.list [D]) ∧ Dp K H (.ref d) D ∧ D.plain = true ∧ D.depth ≤ 10
  | _, 0, _, .cons h hg hd pl dp _, e => by simp at e; exact ⟨_, _, _, _, e.symm, h, hg, hd, pl, dp⟩
  | _, i + 1, _, .cons _ _ _ _ _ r, e => r.get (i := i) (by simpa using e)
theorem lforTa {X : Cx} {σ : Z.St} {H : Hp} {tg l : Expr} {body : List Stmt} {pos : Pos} {D : Ends} {xs : List V} (hp : PassesOwn (model X.prog X.w) X.A X.env X.xe) (hc : X.calm = true)
    (h : wE X l σ H fun x H1 => ∃ a, x = .ref a ∧ SqT X.K H1 a xs ∧ ∃ Pv : Nat → Z.St → Hp → Prop, Pv 0 σ H1 ∧ (∀ i σ H, i ≤ xs.length → Pv i σ H → SqT X.K H a xs) ∧
      (∀ i x σ H, xs[i]? = some x → Pv i σ H → wG X tg x σ H fun σ2 H2 => wB X body { D with nx := Pv (i + 1), ct := Pv (i + 1), bk := D.nx } σ2 H2) ∧ ∀ σ H, Pv xs.length σ H → D.nx σ H)
    (hs : ∀ x, foldedSetIterable l X.env x = pure x := by intro _; rfl) : wS X (.For tg l body [] pos) D σ H :=
  lfor hp hc (pi_tup sE) ⟨fun pins s I => thn (h.run pins s I) fun u s1 ⟨x, H1, I1, r, a, ex, hq, Pv, h0, hl, ht, hd⟩ => ⟨x, H1, I1, r, a, ex, ⟨xs, hq⟩, for_tup Pv h0 hl ht hd⟩⟩ hs
theorem last_is (A : Nat) : ∀ rs : List (List Int × Nat), (V.int (A : Int) :: rs.map fun r => V.int ((r.2 : Nat) : Int))[rs.length]? = some (.int ((lastE A rs : Nat) : Int))
  | [] => rfl
  | r :: t => by
    rw [List.map_cons, List.length_cons, List.getElem?_cons_succ]
    exact last_is r.2 t
/-! ### the law -/
def sp_law (K : PySem.W.Frag) : Sp := fun vs H Q _ => ∃ (a : Addr) (ns : List Int), vs = [.ref a] ∧ SqL K H a (ns.map V.int) ∧ ns.length ≤ 63 ∧ (∀ z ∈ ns, Builtin.Int.intBits z ≤ 1048576) ∧ ∀ H', Q (.bl true) H'
theorem fn_law (T : Txt K mg) {fd : FuncData} (F : FunD K "law" "law" (defArgs s_law) (defBody s_law) (defScope s_law) [] [] (He.fAd K ("law", none)) fd) : FnOk P w K mg base (L2N.CX P w) 10 (He.fAd K ("law", none)) fd ["_law_script"] (sp_law K) := by
  refine fn_mk F sc_law (fun vs H Q E h => ?_) fun cd A outer s0 H vs Q E hr tk po h => ?_
  · obtain ⟨a, ns, rfl, _⟩ := h; rfl
  · obtain ⟨a, ns, rfl, hs, hlen, hbits, q⟩ := h
    have nd := sc_law.nd
    have n1 := T.n_len
    have n3 := T.n_range
    have hu := hr.units
    have hu1 := Nat.lt_of_le_of_lt (Nat.add_le_add_left (show 1 ≤ 64 by decide) _) hr.units
    have hr1 : Room (8 + 1) _ := hr
    refine bcut (fun σ' H' => Ex H H' ∧ ∃ v, ByAt H' 8000 v ∧ σ' = [some (.ref a), some v, none, none, none, none, none, none, none, none, none, none, none]) ?_ ?_
    · top_name
      refine zcall (ok_wire T) hr1 (by decide) takesF rfl ?_
      top_name
      exact ⟨a, ns, rfl, hs, hlen, hbits, fun v H' e hv => ⟨e, v, hv, rfl⟩⟩
    rintro _ H1 ⟨e1, _, ⟨l, W, rfl, hW, hb, hz⟩, rfl⟩
    obtain ⟨rs, w, hD⟩ := Du.ex W.length (A := 0) hb (Nat.le_refl _)
    have hlm : (W.map V.int).length = W.length := List.length_map ..
    have hrsl := hD.len hb
    refine bcut (fun σ' H' => Ex H1 H' ∧ ∃ d, Side H' l d W rs w ∧ σ' = [some (.ref a), some (.ref l), some (.ref d), none, none, none, none, none, none, none, none, none, none]) ?_ ?_
    · top_name
      refine zcall (ok_ldue T) hr1 (by decide) takesF rfl ?_
      top_name
      exact ⟨l, W, rs, w, rfl, hW, hb, by omega, hD, fun t f m ps H' e h1 h2 h3 h4 => ⟨e, t, ⟨e _ _ hW, f, m, ps, nw_sub _ _ h1, nw_sub _ _ h2, h3.ex nw_sub, h4.ex nw_sub⟩, rfl⟩⟩
    rintro _ H2 ⟨e2, d, hSd, rfl⟩
    refine bcut (fun σ' H' => ∃ B b1 b2 dx1 dx2 r1 r2, Ex H2 H' ∧ H' B = some (.lst [.ref b1, .ref b2]) ∧ H' b1 = some (insB K dx1 (.ref r1) (.int 0) .non) ∧ H' b2 = some (insB K dx2 (.ref r2) (.int 0) .non) ∧ H' r1 = some (.lst []) ∧ H' r2 = some (.lst []) ∧ H2 b1 = none ∧ H2 b2 = none ∧ b1 ≠ b2 ∧ r1 ≠ b1 ∧ r1 ≠ b2 ∧ r2 ≠ b1 ∧ r2 ≠ b2 ∧ B ≠ b1 ∧ B ≠ b2 ∧ σ' = [some (.ref a), some (.ref l), some (.ref d), some (.ref B), none, none, none, none, none, none, none, none, none]) ?_ ?_
    · top_name
      refine zbox T hr1 (by decide) rfl fun b1 dx1 r1 G1 f1 f2 f3 g1 x1 y1 => ?_
      top_name
      refine zbox T hr1 (by decide) rfl fun b2 dx2 r2 G2 p1 p2 p3 g2 x2 y2 => ?_
      top_name
      rename_i B G3 hB g3 x3
      refine ⟨B, b1, b2, dx1, dx2, r1, r2, g1.trans (g2.trans g3), x3, g3 _ _ (g2 _ _ x1), g3 _ _ x2, g3 _ _ (g2 _ _ y1), g3 _ _ y2, f1, Evl.fresh_back g1 p1, ?_, f3, ?_, ?_, p3, ?_, ?_, rfl⟩
      · exact fun z => by rw [← z, x1] at p1; cases p1
      · exact fun z => by rw [← z, y1] at p1; cases p1
      · exact fun z => by rw [z, x1] at p2; cases p2
      · exact fun z => by rw [z, g2 _ _ x1] at hB; cases hB
      · exact fun z => by rw [z, x2] at hB; cases hB
    rintro _ H3 ⟨B, b1, b2, dx1, dx2, r1, r2, e3, hB3, hx1, hx2, hy1, hy2, nb1, nb2, nbb, c1, c2, c3, c4, c5, c6, rfl⟩
    refine bcut (fun σ' H' => ∃ Z s1 s2, Ex H3 H' ∧ H' Z = some (.lst [.ref s1, .ref s2]) ∧ H' s1 = some (stD 0 false) ∧ H' s2 = some (stD 0 false) ∧ H3 s1 = none ∧ H3 s2 = none ∧ s1 ≠ s2 ∧ Z ≠ s1 ∧ Z ≠ s2 ∧ H3 Z = none ∧ σ' = [some (.ref a), some (.ref l), some (.ref d), some (.ref B), some (.ref Z), none, none, none, none, none, none, none, none]) ?_ ?_
    · top_name
      refine zdisp rfl rfl (by decide) (by decide) fun s1 G1 hp1 g1 x1 => ?_
      show wE _ _ _ _ _
      top_name
      show wE _ _ _ _ _
      top_name
      refine ⟨Evl.Ex.refl _, [(.inr "at", .int 0), (.inr "known", .bl false)], rfl, by show 2 ≤ 15; decide, fun G2 g2 k2 y2 => ?_⟩
      top_name
      refine zdisp rfl rfl (by decide) (by decide) fun s2 G3 hp3 g3 x3 => ?_
      show wE _ _ _ _ _
      top_name
      show wE _ _ _ _ _
      top_name
      refine ⟨Evl.Ex.refl _, [(.inr "at", .int 0), (.inr "known", .bl false)], rfl, by show 2 ≤ 15; decide, fun G4 g4 k4 y4 => ?_⟩
      top_name
      rename_i Z G5 hZ g5 x5
      have y2' : G2 s1 = some (stD 0 false) := y2
      have y4' : G4 s2 = some (stD 0 false) := y4
      exact ⟨Z, s1, s2, g2.trans (g4.trans g5), x5, g5 _ _ (g4 _ _ y2'), g5 _ _ y4', hp1, Evl.fresh_back g2 hp3, (fun z => by rw [← z, y2'] at hp3; cases hp3), (fun z => by rw [z, g4 _ _ y2'] at hZ; cases hZ), (fun z => by rw [z, y4'] at hZ; cases hZ), Evl.fresh_back (g2.trans g4) hZ, rfl⟩
    rintro _ H4 ⟨Z, s1, s2, e4, hZ4, hs1, hs2, ns1, ns2, nss, d1, d2, nZ, rfl⟩
    refine bcut (fun σ' H' => ∃ h, Ex H4 H' ∧ H4 h = none ∧ H' h = some (.lst []) ∧ σ' = [some (.ref a), some (.ref l), some (.ref d), some (.ref B), some (.ref Z), some (.ref h), none, none, none, none, none, none, none]) ?_ ?_
    · top_name
      rename_i h H5 hh e5 hx5
      exact ⟨h, e5, hh, hx5, rfl⟩
    rintro _ H5 ⟨h, e5, nh, hh5, rfl⟩
    have e45 := e4.trans e5
    obtain ⟨S, hSS⟩ : ∃ S, S = [b1, s1, b2, s2, h] := ⟨_, rfl⟩
    have inS : ∀ x, x ∈ S → x = b1 ∨ x = s1 ∨ x = b2 ∨ x = s2 ∨ x = h := fun x hx => by
      rw [hSS] at hx
      simpa using hx
    have nS : ∀ x, x ≠ b1 → x ≠ s1 → x ≠ b2 → x ≠ s2 → x ≠ h → x ∉ S := fun x i1 i2 i3 i4 i5 hx => by
      rcases inS x hx with z | z | z | z | z
      · exact i1 z
      · exact i2 z
      · exact i3 z
      · exact i4 z
      · exact i5 z
    have l3 : ∀ x o, H3 x = some o → x ≠ s1 ∧ x ≠ s2 ∧ x ≠ h := fun x o z => ⟨(fun y => by rw [y, ns1] at z; cases z), (fun y => by rw [y, ns2] at z; cases z), (fun y => by rw [← y, e4 _ _ z] at nh; cases nh)⟩
    have l2 : ∀ x o, H2 x = some o → x ≠ b1 ∧ x ≠ b2 := fun x o z => ⟨(fun y => by rw [y, nb1] at z; cases z), (fun y => by rw [y, nb2] at z; cases z)⟩
    have old : Ex H2 (cutS S H5) := fun x o z => by
      have z3 := e3 _ _ z
      unfold cutS
      rw [if_neg (nS x (l2 x o z).1 (l3 x o z3).1 (l2 x o z).2 (l3 x o z3).2.1 (l3 x o z3).2.2)]
      exact e45 _ _ z3
    have at3 : ∀ x o, x ≠ b1 → x ≠ b2 → H3 x = some o → cutS S H5 x = some o := fun x o i j z => by
      unfold cutS
      rw [if_neg (nS x i (l3 x o z).1 j (l3 x o z).2.1 (l3 x o z).2.2)]
      exact e45 _ _ z
    have hB5 : cutS S H5 B = some (.lst [.ref b1, .ref b2]) := at3 _ _ c5 c6 hB3
    have hZ5 : cutS S H5 Z = some (.lst [.ref s1, .ref s2]) := by
      unfold cutS
      rw [if_neg (nS Z (fun z => by rw [z, hx1] at nZ; cases nZ) d1 (fun z => by rw [z, hx2] at nZ; cases nZ) d2 (fun z => by rw [z, nh] at hZ4; cases hZ4))]
      exact e5 _ _ hZ4
    have on : On S H5 := fun x hx => by
      rcases inS x hx with z | z | z | z | z
      · rw [z, e45 _ _ hx1]; exact fun z => nomatch z
      · rw [z, e5 _ _ hs1]; exact fun z => nomatch z
      · rw [z, e45 _ _ hx2]; exact fun z => nomatch z
      · rw [z, e5 _ _ hs2]; exact fun z => nomatch z
      · rw [z, hh5]; exact fun z => nomatch z
    have dist : Dist S b1 s1 b2 s2 h := ⟨⟨(l3 _ _ hx1).1, nbb, (l3 _ _ hx1).2.1, (l3 _ _ hx1).2.2, (l3 _ _ hx2).1.symm, nss, (fun z => by rw [← z, hs1] at nh; cases nh), (l3 _ _ hx2).2.1, (l3 _ _ hx2).2.2, (fun z => by rw [← z, hs2] at nh; cases nh)⟩, by rw [hSS]; simp, by rw [hSS]; simp, by rw [hSS]; simp⟩
    have iv0 : Iv K S H5 l d h b1 s1 b2 s2 W rs w 0 0 0 := ⟨hSd.ex old, Bx.new hb hD on (by rw [hSS]; simp) (e45 _ _ hx1) (e45 _ _ hy1) (nS r1 c1 (l3 _ _ hy1).1 c2 (l3 _ _ hy1).2.1 (l3 _ _ hy1).2.2) (e5 _ _ hs1), Bx.new hb hD on (by rw [hSS]; simp) (e45 _ _ hx2) (e45 _ _ hy2) (nS r2 c3 (l3 _ _ hy2).1 c4 (l3 _ _ hy2).2.1 (l3 _ _ hy2).2.2) (e5 _ _ hs2), [], hh5, .nil, Nat.le_refl _⟩
    have hs5 : SqL K H5 a (ns.map V.int) := exl hs (e1.trans (e2.trans (e3.trans e45)))
    have hl5 : cutS S H5 l = some (.lst (W.map V.int)) := (hSd.ex old).wire
    clear hs hSd hSS inS nS l3 l2 at3 old on
    refine bcut (fun σ' H' => H5 = H' ∧ ∃ c : Int, 0 ≤ c ∧ c < 2147483647 ∧ σ' = [some (.ref a), some (.ref l), some (.ref d), some (.ref B), some (.ref Z), some (.ref h), some (.int c), none, none, none, none, none, none]) ?_ ?_
    · top_name
      refine zcall (ok_cell_at T) hr1 (by decide) takesF rfl ?_
      top_name
      refine ⟨a, ns, 2, rfl, hs5, by decide, ?_⟩
      top_name
      exact .fits (cellAt_fits hbits _) (by omega) (by omega) ⟨rfl, _, mixed_lo _ _, mixed_hi _ _, rfl⟩
    rintro _ _ ⟨rfl, c, c0, c1', rfl⟩
    -- the turns of the two boxes
    refine bcut (fun σ' H' => Ex (cutS S H5) (cutS S H') ∧ ∃ (k1 k2 : Nat) (c kk at_ : Option V), Iv K S H' l d h b1 s1 b2 s2 W rs w k1 k2 16010 ∧ σ' = [some (.ref a), some (.ref l), some (.ref d), some (.ref B), some (.ref Z), some (.ref h), c, kk, at_, none, none, none, none]) ?_ ?_
    · refine lfor1 (n := 2 * (W.length : Int) + 8) n3 po rfl (fun i σ' H' => Ex (cutS S H5) (cutS S H') ∧ ∃ (k1 k2 : Nat) (c : Int) (kk at_ : Option V), 0 ≤ c ∧ c < 2147483647 ∧ Iv K S H' l d h b1 s1 b2 s2 W rs w k1 k2 i ∧ σ' = [some (.ref a), some (.ref l), some (.ref d), some (.ref B), some (.ref Z), some (.ref h), some (.int c), kk, at_, none, none, none, none]) rfl ?_
      have hl5' := cut_sub _ _ hl5
      top_name
      refine ⟨by rw [hlm], by omega, by omega, ⟨Evl.Ex.refl _, 0, 0, c, none, none, c0, c1', iv0, rfl⟩, fun i σ' H6 hi hv => ?_, fun σ' H6 hv => ?_⟩
      · clear c0 c1'
        obtain ⟨e6, k1, k2, c, kk, at_, c0, c1', iv, rfl⟩ := hv
        tb_rel
        refine bcut (fun σ' H' => H6 = H' ∧ ∃ c : Int, 0 ≤ c ∧ c < 2147483647 ∧ σ' = [some (.ref a), some (.ref l), some (.ref d), some (.ref B), some (.ref Z), some (.ref h), some (.int c), some (.int (i : Int)), at_, none, none, none, none]) ?_ ?_
        · top_name
          exact ⟨rfl, _, mixed_lo _ _, mixed_hi _ _, rfl⟩
        clear c0 c1'
        rintro _ _ ⟨rfl, c, c0, c1', rfl⟩
        refine bcut (fun σ' H' => H6 = H' ∧ σ' = [some (.ref a), some (.ref l), some (.ref d), some (.ref B), some (.ref Z), some (.ref h), some (.int c), some (.int (i : Int)), some (.int (c / 7 % 2)), none, none, none, none]) ?_ ?_
        · top_name
          exact ⟨rfl, rfl⟩
        rintro _ _ ⟨rfl, rfl⟩
        refine bcut (fun σ' H' => Ex (cutS S H5) (cutS S H') ∧ ∃ (k1 k2 : Nat), Iv K S H' l d h b1 s1 b2 s2 W rs w k1 k2 (i + 1) ∧ σ' = [some (.ref a), some (.ref l), some (.ref d), some (.ref B), some (.ref Z), some (.ref h), some (.int c), some (.int (i : Int)), some (.int (c / 7 % 2)), none, none, none, none]) ?_ ?_
        · have hB6 := cut_sub _ _ (e6 _ _ hB5)
          have hZ6 := cut_sub _ _ (e6 _ _ hZ5)
          have hc2 : c / 7 % 2 = 0 ∨ c / 7 % 2 = 1 := by omega
          obtain ⟨b, s, b', s', k, k', ha1, ha2, iv', ds, back⟩ : ∃ b s b' s' k k', atI [V.ref b1, V.ref b2] (c / 7 % 2) = some (.ref b) ∧ atI [V.ref s1, V.ref s2] (c / 7 % 2) = some (.ref s) ∧ Iv K S H6 l d h b s b' s' W rs w k k' i ∧ Dist S b s b' s' h ∧ ∀ H' k k' n, Iv K S H' l d h b s b' s' W rs w k k' n → ∃ k1 k2, Iv K S H' l d h b1 s1 b2 s2 W rs w k1 k2 n := by
            rcases hc2 with hm | hm <;> rw [hm]
            · exact ⟨b1, s1, b2, s2, _, _, rfl, rfl, iv, dist, fun H' k k' n v => ⟨_, _, v⟩⟩
            · exact ⟨b2, s2, b1, s1, _, _, rfl, rfl, iv.swap, dist.swap, fun H' k k' n v => ⟨_, _, v.swap⟩⟩
          top_name
          refine zcall (ok_asked T) hr1 (by decide) takesF rfl ?_
          top_name
          refine ixL (SqL.of hB6) ha1 ?_
          top_name
          refine ixL (SqL.of hZ6) ha2 ?_
          top_name
          refine iv'.ask hb hz hD ds (by omega) (by omega) fun H7 k7 e7 v7 _ => ?_
          top_name
          obtain ⟨j1, j2, v⟩ := back _ _ _ _ v7
          exact ⟨e6.trans e7, j1, j2, v, rfl⟩
        clear iv e6
        rintro _ H7 ⟨e7, k1, k2, iv, rfl⟩
        have hZ7 := cut_sub _ _ (e7 _ _ hZ5)
        have hl7 := cut_sub _ _ (e7 _ _ hl5)
        have q1 : Ex (cutS S H5) (cutS S H7) ∧ ∃ (k1 k2 : Nat) (c' : Int) (kk at_ : Option V), 0 ≤ c' ∧ c' < 2147483647 ∧ Iv K S H7 l d h b1 s1 b2 s2 W rs w k1 k2 (i + 1) ∧ [some (.ref a), some (.ref l), some (.ref d), some (.ref B), some (.ref Z), some (.ref h), some (.int c), some (.int (i : Int)), some (.int (c / 7 % 2)), none, none, none, none] = [some (.ref a), some (.ref l), some (.ref d), some (.ref B), some (.ref Z), some (.ref h), some (.int c'), kk, at_, none, none, none, none] := ⟨e7, k1, k2, c, _, _, c0, c1', iv, rfl⟩
        have q2 : Ex (cutS S H5) (cutS S H7) ∧ ∃ (k1 k2 : Nat) (c' kk at_ : Option V), Iv K S H7 l d h b1 s1 b2 s2 W rs w k1 k2 16010 ∧ [some (.ref a), some (.ref l), some (.ref d), some (.ref B), some (.ref Z), some (.ref h), some (.int c), some (.int (i : Int)), some (.int (c / 7 % 2)), none, none, none, none] = [some (.ref a), some (.ref l), some (.ref d), some (.ref B), some (.ref Z), some (.ref h), c', kk, at_, none, none, none, none] := ⟨e7, k1, k2, _, _, _, iv.up (by omega), rfl⟩
        have hst1 := iv.b1.st
        have hst2 := iv.b2.st
        refine bcons (sif ?_)
        top_name
        refine ixL (SqL.of hZ7) (v := .ref s1) rfl ?_
        top_name
        refine ⟨s1, _, rfl, get_at hst1, ?_⟩
        top_name
        · refine ixL (SqL.of hZ7) (v := .ref s2) rfl ?_
          top_name
          refine ⟨s2, _, rfl, get_at hst2, ?_⟩
          top_name
          all_goals first
            | exact q1
            | exact q2
        all_goals first
          | exact q1
          | exact q2
      · obtain ⟨e6, k1, k2, c, kk, at_, c0, c1', iv, rfl⟩ := hv
        exact ⟨e6, k1, k2, _, _, _, iv.up (by omega), rfl⟩
    clear c0 c1' c iv0
    rintro _ H6 ⟨e6, k1, k2, c, kk, at_, iv, rfl⟩
    -- the end of each box
    refine bcut (fun σ' H' => Ex (cutS S H5) (cutS S H') ∧ ∃ (k1 k2 : Nat) (at_ en wh : Option V), Iv K S H' l d h b1 s1 b2 s2 W rs w k1 k2 16012 ∧ σ' = [some (.ref a), some (.ref l), some (.ref d), some (.ref B), some (.ref Z), some (.ref h), c, kk, at_, en, wh, none, none]) ?_ ?_
    · refine lforTa (xs := [V.int 0, V.int 1]) po rfl ?_
      top_name
      rename_i tt G htt eg hxt
      have on6 : On S H6 := by obtain ⟨_, _, rest, A, hBox, _⟩ := iv.b1; exact hBox.on
      refine ⟨SqT.of hxt, fun i σ' H' => Ex (cutS S H5) (cutS S H') ∧ cutS S H' tt = some (.tup [.int 0, .int 1]) ∧ ∃ (k1 k2 : Nat) (at_ en wh : Option V), Iv K S H' l d h b1 s1 b2 s2 W rs w k1 k2 (16010 + i) ∧ σ' = [some (.ref a), some (.ref l), some (.ref d), some (.ref B), some (.ref Z), some (.ref h), c, kk, at_, en, wh, none, none], ⟨e6.trans (cut_ex eg), cut_new on6 htt hxt, k1, k2, at_, none, none, (iv.ex eg).up (by omega), rfl⟩, fun i σ' H' _ v => SqT.of (cut_sub _ _ v.2.1), fun i x σ' H7 hx hv => ?_, fun σ' H7 hv => ?_⟩
      · clear iv e6 hxt eg
        obtain ⟨e7, ht7, k1, k2, at_, en, wh, iv, rfl⟩ := hv
        obtain ⟨n, hi, hn, rfl⟩ : ∃ n : Int, i ≤ 1 ∧ (n = 0 ∨ n = 1) ∧ x = .int n := by
          match i, hx with
          | 0, hx => exact ⟨0, by decide, .inl rfl, (Option.some.inj hx).symm⟩
          | 1, hx => exact ⟨1, by decide, .inr rfl, (Option.some.inj hx).symm⟩
          | n + 2, hx => simp at hx
        obtain ⟨b, s, b', s', k, k', ha1, ha2, iv', ds, back⟩ : ∃ b s b' s' k k', atI [V.ref b1, V.ref b2] n = some (.ref b) ∧ atI [V.ref s1, V.ref s2] n = some (.ref s) ∧ Iv K S H7 l d h b s b' s' W rs w k k' (16010 + i) ∧ Dist S b s b' s' h ∧ ∀ H' k k' n, Iv K S H' l d h b s b' s' W rs w k k' n → ∃ k1 k2, Iv K S H' l d h b1 s1 b2 s2 W rs w k1 k2 n := by
          rcases hn with hm | hm <;> rw [hm]
          · exact ⟨b1, s1, b2, s2, _, _, rfl, rfl, iv, dist, fun H' k k' n v => ⟨_, _, v⟩⟩
          · exact ⟨b2, s2, b1, s1, _, _, rfl, rfl, iv.swap, dist.swap, fun H' k k' n v => ⟨_, _, v.swap⟩⟩
        clear iv
        tb_rel
        refine bcut (fun σ' H' => Ex (cutS S H5) (cutS S H') ∧ cutS S H' tt = some (.tup [.int 0, .int 1]) ∧ ∃ k', Iv K S H' l d h b s b' s' W rs w W.length k' (16010 + i + 1) ∧ σ' = [some (.ref a), some (.ref l), some (.ref d), some (.ref B), some (.ref Z), some (.ref h), c, kk, some (.int n), en, wh, none, none]) ?_ ?_
        · have hl7 := cut_sub _ _ (e7 _ _ hl5)
          have hB7 := cut_sub _ _ (e7 _ _ hB5)
          have hZ7 := cut_sub _ _ (e7 _ _ hZ5)
          top_name
          refine zcall (ok_asked T) hr1 (by decide) takesF rfl ?_
          top_name
          refine ixL (SqL.of hB7) ha1 ?_
          top_name
          refine ixL (SqL.of hZ7) ha2 ?_
          top_name
          rw [hlm]
          refine iv'.ask hb hz hD ds (by omega) (by omega) fun H8 k8 e8 v8 hcc => ?_
          have hk8 : k8 = W.length := hcc (by omega) (by
            rw [show (3 * (W.length : Int) + 2) / 3 = (W.length : Int) from by omega, Int.emod_eq_of_lt (by omega) (by omega)]
            exact Int.le_refl _)
          rw [hk8] at v8
          top_name
          exact ⟨e7.trans e8, e8 _ _ ht7, _, v8, rfl⟩
        clear iv' e7 ht7
        rintro _ H8 ⟨e8, ht8, k8, iv, rfl⟩
        have hl8 := cut_sub _ _ (e8 _ _ hl5)
        have hB8 := cut_sub _ _ (e8 _ _ hB5)
        obtain ⟨_, f, m, ps, hd8, hf8, hP8, hW8⟩ := iv.side
        have hd8' := cut_sub _ _ hd8
        have hf8' := cut_sub _ _ hf8
        refine bcut (fun σ' H' => Ex H8 H' ∧ ∃ E0, H' E0 = some (said (W.length : Int) "cut") ∧ σ' = [some (.ref a), some (.ref l), some (.ref d), some (.ref B), some (.ref Z), some (.ref h), c, kk, some (.int n), some (.ref E0), wh, none, none]) ?_ ?_
        · top_name
          rename_i E0 H9 hE0 e9 hx9
          rw [hlm] at hx9
          exact ⟨e9, E0, by rw [said_w (by decide +kernel)]; exact hx9, rfl⟩
        rintro _ H9 ⟨e9, E0, hE0, rfl⟩
        refine bcut (fun σ' H' => Ex H9 H' ∧ ∃ Wh, H' Wh = some (.lst (V.int ((0 : Nat) : Int) :: rs.map fun r => V.int ((r.2 : Nat) : Int))) ∧ σ' = [some (.ref a), some (.ref l), some (.ref d), some (.ref B), some (.ref Z), some (.ref h), c, kk, some (.int n), some (.ref E0), some (.ref Wh), none, none]) ?_ ?_
        · top_name
          rename_i z0 G0 hz0 g0 hxz
          have g80 := e9.trans g0
          refine zlc rfl nd [("_law_one", 11)] (blkOk_by (N := N_law) (sc := defScope s_law) (by decide +kernel)) piL (tmL (xs := ps) (fun j => (rs.take j).map fun r => V.int ((r.2 : Nat) : Int)) rfl ?_)
          top_name
          refine ixT (SqT.of (g80 _ _ hd8')) (atI_nat (j := 0) rfl) ?_
          refine ⟨f, rfl, SqL.of (g80 _ _ hf8'), fun j x H10 hx e10 => ?_, fun L H10 hL e10 hxL => ?_⟩
          · obtain ⟨p, r, ys, e, rfl, hp, hrr, hj⟩ := hP8.get hx
            have hjl := (List.getElem?_eq_some_iff.mp hj).1
            top_name
            refine ixT (SqT.of (e10 _ _ (g80 _ _ (cut_sub _ _ hp)))) (atI_nat (j := 1) rfl) ?_
            exact ⟨take_map_succ hj, by rw [List.length_map, List.length_take, sizeLine_eq]; omega, Evl.Ex.refl _⟩
          · rw [hP8.length, List.take_length] at hxL
            refine ocatE (e10 _ _ hxz) hxL (by rw [List.length_map, sizeLine_eq]; show 1 + _ ≤ _; omega) fun p H11 hp e11 hx11 => ?_
            top_name
            exact ⟨g0.trans (e10.trans e11), p, hx11, rfl⟩
        rintro _ H10 ⟨e10, Wh, hWh, rfl⟩
        have e810 := e9.trans e10
        have hd10 := e810 _ _ hd8'
        have hl10 := e810 _ _ hl8
        refine bcut (fun σ' H' => Ex H10 H' ∧ ∃ E1, H' E1 = some (endHO W rs w) ∧ σ' = [some (.ref a), some (.ref l), some (.ref d), some (.ref B), some (.ref Z), some (.ref h), c, kk, some (.int n), some (.ref E1), some (.ref Wh), none, none]) ?_ ?_
        · cases hW8 with
          | no =>
            top_name
            refine ixT (SqT.of hd10) (atI_nat (j := 1) rfl) ?_
            top_name
            refine ixL (SqL.of hWh) (v := .int ((lastE 0 rs : Nat) : Int)) (atI_back (k := 1) (by decide) (by rw [List.length_cons]; omega) (by rw [List.length_cons, List.length_map]; exact last_is 0 rs)) ?_
            top_name
            · rename_i hq E1 H11 hE1 e11 hx11
              refine ⟨e11, E1, ?_, rfl⟩
              rw [hx11]
              show _ = some (if lastE 0 rs = W.length then HO.lst [.non] else said (W.length : Int) "cut")
              rw [if_pos (by omega)]
            · rename_i hq
              refine ⟨Evl.Ex.refl _, E0, ?_, rfl⟩
              rw [e10 _ _ hE0]
              show _ = some (if lastE 0 rs = W.length then HO.lst [.non] else said (W.length : Int) "cut")
              rw [if_neg (by omega)]
          | @so tw dw p0 why0 b0 htw hdw =>
            have htw10 := e810 _ _ (cut_sub _ _ htw)
            top_name
            refine ixT (SqT.of hd10) (atI_nat (j := 1) rfl) ?_
            top_name
            refine ixT (SqT.of hd10) (atI_nat (j := 1) rfl) ?_
            top_name
            refine ixT (SqT.of htw10) (atI_nat (j := 0) rfl) ?_
            top_name
            exact ⟨Evl.Ex.refl _, dw, e810 _ _ (cut_sub _ _ hdw), rfl⟩
        rintro _ H11 ⟨e11, E1, hE1, rfl⟩
        have e811 := e810.trans e11
        obtain ⟨ee, hee, pl, dp⟩ := end_list W rs w
        have hB11 := e811 _ _ hB8
        have iv11 := iv.ex e811
        refine bcons (sif (tcutE false ?_ ?_))
        · top_name
          refine zcall (ok_told T) hr1 (by decide) takesF rfl ?_
          top_name
          refine ixL (SqL.of hB11) ha1 ?_
          top_name
          refine told_end hb hD iv11.b1 fun t H12 ht e12 hx12 => ?_
          top_name
          refine same_neL (ds := ee) hr (by rw [← hee]; exact dp_end hx12) (by rw [← hee]; exact dp_end (e12 _ _ hE1)) pl (by omega) ?_
          top_name
          refine zcall (ok_told T) hr1 (by decide) takesF rfl ?_
          top_name
          refine ixL (SqL.of (e12 _ _ hB11)) ha1 ?_
          top_name
          refine told_end hb hD (iv11.b1.ex e12) fun t H13 ht e13 hx13 => ?_
          top_name
          refine same_neL (ds := ee) hr (by rw [← hee]; exact dp_end hx13) (by rw [← hee]; exact dp_end (e13 _ _ (e12 _ _ hE1))) pl (by omega) ?_
          top_name
          exact ⟨rfl, e12.trans e13⟩
        · intro H12 e12
          top_name
          have e812 := e811.trans e12
          obtain ⟨j1, j2, v⟩ := back _ _ _ _ (iv.ex e812)
          exact ⟨e8.trans (cut_ex e812), cut_ex e812 _ _ ht8, j1, j2, _, _, _, v, rfl⟩
      · obtain ⟨e7, ht7, k1, k2, at_, en, wh, iv, rfl⟩ := hv
        exact ⟨e7, k1, k2, at_, en, wh, iv, rfl⟩
    clear iv e6
    rintro _ H7 ⟨e7, k1, k2, at_, en, wh, iv, rfl⟩
    obtain ⟨_, _, _, hs, hh7, hH7, hl7⟩ := iv
    top_name
    refine zlc rfl nd [("_law_pair", 12)] (blkOk_by (N := N_law) (sc := defScope s_law) (by decide +kernel)) piL (tnL (xs := hs) (fun j ws _ => ws = []) (fun _ _ _ _ g _ => g) (fun _ => rfl) ?_)
    top_name
    refine ⟨SqL.of hh7, fun j x H8 L ws hx e8 hL hw g => ?_, fun L H8 ws hL e8 hw g => ?_⟩
    · obtain ⟨t, g0, d0, D, rfl, ht, hg, hd, pl, dp⟩ := hH7.get hx
      have ht8 := e8 _ _ (cut_sub _ _ ht)
      top_name
      refine ixT (SqT.of ht8) (atI_nat (j := 0) rfl) ?_
      top_name
      refine ixT (SqT.of ht8) (atI_nat (j := 1) rfl) ?_
      top_name
      rename_i o H9 ho e9 hxo
      refine same_neL (ds := [D]) hr (_root_.Z.Dp.ex (cut_sub.trans (e8.trans e9)) hg) (.lst (SqL.of hxo) (.cons (_root_.Z.Dp.ex (cut_sub.trans (e8.trans e9)) hd) .nil)) (by rw [PyData.plainAll, pl]; rfl) (by simp only [PyData.depthAll]; omega) ?_
      top_name
      exact ⟨e9, g⟩
    · subst g
      top_name
      rename_i o H9 ho e9 hxo
      refine oeqNil hr (SqL.of (e9 _ _ hw)) (SqL.of hxo) ?_
      exact q _
end K06

set_option maxRecDepth 100000
set_option maxHeartbeats 0
namespace K06
open PySem PySem.Spec PyProof.Rows L2 Z
/-! ### the end -/
theorem facts {P : Program} {w : World} {K : PySem.W.Frag} {h : Heap} {mg : Str → Option Value} {f : Addr} (X : K.In h) (G : h.Ns mainGlobals mg) (hfa : mg ("law" : Str) = some (.ref f)) (c : He.SaysX fa fn [] [] exB w h K) :
    ∃ fd : FuncData, (∀ (s : Shared) (v : Value), BindsTo s fd ⟨[v], []⟩ [("_law_script", v)]) ∧ ∀ base : Heap, K.In base → base.Ns mainGlobals mg → FnOk P w K mg base (L2N.CX P w) 10 f fd ["_law_script"] (sp_law K) := by
  have T := txt_of X G c
  obtain ⟨fd, F⟩ := T.f_law
  have e := hfa.symm.trans T.m_law
  cases e
  have b := FunD.bindsA (ps := ["_law_script"]) F fun _ _ _ _ _ _ us hl => match us, hl with | [_], _ => rfl
  exact ⟨fd, fun s v => b s [v] rfl, fun base _ _ => fn_law T F⟩
end K06
open PySem PySem.W PySem.Calls PyProof.Rows
set_option maxRecDepth 100000 in
set_option maxHeartbeats 8000000 in
theorem PySem.Challenge.cw_formkin_k06_whole_kept_rows_in_pieces_holds : PySem.Challenge.rw_formkin_k06_whole_kept_rows_in_pieces.Holds := by
  w_on; o_law
  refine HandSHeadRun.head_any (r := OpenLaw.row PySem.Challenge.rw_formkin_k06_whole_kept_rows_in_pieces) (q := view (OpenLaw.row PySem.Challenge.rw_formkin_k06_whole_kept_rows_in_pieces).prog [44]) (H := K06.hk) (ob := K06.ob) (M := 6000) (loose := K06.loose) (d := HandSHeadRun.topDef (OpenLaw.row PySem.Challenge.rw_formkin_k06_whole_kept_rows_in_pieces).prog 44) (kwd := []) K06.ob_eq
    (by kernel_rfl) (fun s => by kernel_rfl) K06.run (by kernel_rfl) (by kernel_rfl) (by kernel_rfl) (by rfl) (by first | assumption | decide +kernel) (by decide +kernel) ⟨rfl, rfl, rfl, rfl, rfl, by decide +kernel⟩ ?hw ?hc
  case hw => w_witness2
  case hc =>
    refine Z.walk_bits (l := PySem.Challenge.rw_formkin_k06_whole_kept_rows_in_pieces) (n := 63) (k := 10) (x := "_law_script") rfl (by decide) (by kernel_rfl) ⟨rfl, by decide, by decide⟩ ?F
    intro w mg fa h Y G hmg0
    obtain ⟨K, KX, c⟩ := Y
    have hmg : mg ("law" : PySem.Str) = some (.ref fa) := by
      have e : (HandSHeadRun.topDef (OpenLaw.row PySem.Challenge.rw_formkin_k06_whole_kept_rows_in_pieces).prog 44).name = ("law" : PySem.Str) := by kernel_rfl
      rw [← e]
      exact hmg0
    obtain ⟨fd, hb, hF⟩ := K06.facts (P := (PySem.Challenge.rw_formkin_k06_whole_kept_rows_in_pieces).prog) (w := w) KX G hmg c
    exact ⟨K, fd, K06.sp_law K, KX, hb, fun H a ns hl hz _ hS => ⟨a, ns, rfl, hS, hl, hz, fun _ => rfl⟩, hF⟩
